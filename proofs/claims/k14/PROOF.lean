import PyProof.Rows.All
import Wide.All
import OpenK.AllK
import Wide.FinOn
import HandS.ForMost
import HandS.Walk
import HandS.Flow
import HandS.Defaults
import HandS.Star
import HandS.MakeKwOnly
import HandS.Property
import HandS.ClsMeth
import HandS.IsInst
import HandS.TupAny
import HandS.SortInts
import HandS.Conv
import HandS.Exc
import HandS.Lambda
import KE.GoesEnum
import HandS.OwnEq
import PyProof.InstNe
import HandS.NoneIn
import HandS.TupMul
import HandS.Flt
import KE.DatumOrd
import HandS.NestedK
import HandS.GenCall
import PySem.Challenge.RW_nestcount_k14_paths_judged
import HandS.Wide
import HandS.WideBits
import HandS.Style
import KE.KSuper
import HandS.ExcInit
import HandS.ExcField
import HandS.ExcOwn
import HandS.ExcValue
import KE.KExcInit
import KE.KTryMore
import HandS.TryMany
import KE.KExcIs
import HandS.ExcIs
import HandS.Zip
import HandS.GenBody
import HandS.GenYield
import HandS.GenList
import HandS.Iter
import KE.KStar
import HandS.MethStar
import KE.KParD
import HandS.DictComp
import HandS.ListItems
import KE.KIsAll
import HandS.Deep
import HandS.FStr
import KE.KCallOwn
import KE.KFmtOwn
import PyProof.InstSpecial
import HandS.List
import PyProof.EqAt
import HandS.Steps
import HandS.EndOwn
import KE.OsRunLaw
import KE.KNestM
import KE.RegKSuper
import KE.KExcLine
set_option Elab.async false
set_option linter.all false
set_option maxRecDepth 100000
set_option maxHeartbeats 2000000
namespace Ab
open PySem PySem.W PySem.Calls PyProof.Rows HeadRun
theorem left_oneKm {p q : Program} {loose : List Str} {Xt : Shared → Bool} {K : Params → Frag} {as : List Addr} {ek : ∀ P, as = (K P).map (·.1)} {ts : List Addr} {N M : Nat}
    (e : opening p = plainProg p.main.scope.names) (hN : Nat.ble 600 N = true) (f : ∀ s, fenceModules? p s = some s) (le : Nat.ble M N = true)
    (run : ∀ (w : World) (os : OsState), (endF (stepQ (denQ tabQ) p w) M p w os).map (fun s => (looksF p (boot_heap w.params) s.abs, seenQ q loose (importedModules p.main.body) Xt s.abs, (as.map (getT s), ts.map (getT s)))) = some (true, openGood q loose, ((K w.params).map fun x => some x.2, ts.map fun _ => some (tabObj #[])))) :
    LeftO p q loose Xt (Hook.obs (kmHook K as ek ts)) (Hook.val (kmHook K as ek ts)) N true :=
  left_one (M := M) e hN f le fun w os => by
    have z := run w os
    have eo : (fun s : SharedT => (looksF p (boot_heap w.params) s.abs, seenQ q loose (importedModules p.main.body) Xt s.abs, (as.map (getT s), ts.map (getT s)))) = fun s => (looksF p (boot_heap w.params) s.abs, seenQ q loose (importedModules p.main.body) Xt s.abs, Hook.obs (kmHook K as ek ts) s.abs) := by
      funext s
      have q1 : (as.map (getT s), ts.map (getT s)) = Hook.obs (kmHook K as ek ts) s.abs := by
        show _ = (as.map s.abs.heap.get?, ts.map s.abs.heap.get?)
        rw [List.map_congr_left fun a _ => getT_eq s a, List.map_congr_left fun a _ => getT_eq s a]
      rw [q1]
      rfl
    rw [eo] at z
    simp only [endQ_eq, seenQ_eq]
    exact z
end Ab
local macro_rules
  | `(tactic| o_head $H) => `(tactic| o_headL $H)
local macro_rules
  | `(tactic| refine $e) => match e with
    | `($f:ident (M := $m) $a $b $c $d $r) => if f.getId.eraseMacroScopes == `HeadRun.left_oneK then `(tactic| refine Ab.left_oneKm (M := $m) $a $b $c $d $r) else Lean.Macro.throwUnsupported
    | _ => Lean.Macro.throwUnsupported
open PySem PySem.W PyProof.Rows in
set_option maxHeartbeats 0 in
open_top HDTOP for PySem.Challenge.rw_nestcount_k14_paths_judged
/-! Ab: an abstract state over HandS: values without addresses, a list of cells that may change; no heap is seen by a def's proof. -/
namespace Ab
open PySem PySem.Spec PyProof.Rows L2
/-- the object at b, as it stands -/
def rawH (b : Addr) (o : Obj) : HO := .ext fun h => h.get? b = some o
/-- all but raw things -/
def Kp (H H' : Hp) : Prop := ∀ b x, H b = some x → (∀ o, x ≠ rawH b o) → H' b = some x
theorem Kp.refl (H : Hp) : Kp H H := fun _ _ e _ => e
theorem Kp.same {H H' : Hp} (e : Same H H') : Kp H H' := fun b x h _ => e b x h
theorem Kp.trans {H H1 H2 : Hp} (a : Kp H H1) (b : Kp H1 H2) : Kp H H2 := fun c x h n => b c x (a c x h n) n
inductive Val where
  | non | bl (b : Bool) | int (i : Int) | str (x : Str) | ty (n : String) | ptr (a : Addr)
  | lst (xs : List Val) | tup (xs : List Val)
  | obj (C : Addr) (fs : List (Str × Val))
  | exc (C : Addr) (fs : List (Str × Val))
  /-- a lambda; what stood when it was made -/
  | lam (a : Addr) (H1 : Hp)
/-- a caught exception of the class at C, its dict -/
def exH (a C : Addr) (d : Option Addr) : HO := .ext fun h => ∃ (oe : Obj) (vs : Array Value), h.get? a = some oe ∧ Zc (.ref C) d oe ∧ oe.data = .fields vs
mutual
inductive Rep (K : PySem.W.Frag) (H : Hp) : Val → V → Prop
  | non : Rep K H .non .non
  | bl (b : Bool) : Rep K H (.bl b) (.bl b)
  | int (i : Int) : Rep K H (.int i) (.int i)
  | str (x : Str) : Rep K H (.str x) (.str x)
  | ty (n : String) : Rep K H (.ty n) (.ty n)
  | ptr (a : Addr) : Rep K H (.ptr a) (.ref a)
  | lst {a : Addr} {xs : List V} {ds : List Val} : SqL K H a xs → RepA K H ds xs → Rep K H (.lst ds) (.ref a)
  | tup {a : Addr} {xs : List V} {ds : List Val} : SqT K H a xs → RepA K H ds xs → Rep K H (.tup ds) (.ref a)
  | obj {a C dx : Addr} {gs : List (Str × V)} {fs : List (Str × Val)} : H a = some (.ins C dx gs) → RepF K H fs gs → Rep K H (.obj C fs) (.ref a)
  | exc {a C dd : Addr} {gs : List (Str × V)} {fs : List (Str × Val)} : H a = some (exH a C (some dd)) → H dd = some (.xd gs) → RepF K H fs gs → Rep K H (.exc C fs) (.ref a)
  | exc0 {a C : Addr} : H a = some (exH a C none) → Rep K H (.exc C []) (.ref a)
  | lam {a : Addr} {H1 : Hp} : Kp H1 H → Rep K H (.lam a H1) (.ref a)
inductive RepA (K : PySem.W.Frag) (H : Hp) : List Val → List V → Prop
  | nil : RepA K H [] []
  | cons {d : Val} {v : V} {ds : List Val} {vs : List V} : Rep K H d v → RepA K H ds vs → RepA K H (d :: ds) (v :: vs)
inductive RepF (K : PySem.W.Frag) (H : Hp) : List (Str × Val) → List (Str × V) → Prop
  | nil : RepF K H [] []
  | cons {f : Str} {d : Val} {v : V} {fs : List (Str × Val)} {gs : List (Str × V)} : Rep K H d v → RepF K H fs gs → RepF K H ((f, d) :: fs) ((f, v) :: gs)
end
theorem sameT {K : PySem.W.Frag} {H H' : Hp} {a : Addr} {xs : List V} (e : Same H H') (h : SqT K H a xs) : SqT K H' a xs := by
  rcases h with (h | ⟨o, h⟩) | h
  · exact .inl (.inl (e _ _ h))
  · exact .inl (.inr ⟨o, e _ _ h⟩)
  · exact .inr h
mutual
theorem Rep.mono {K : PySem.W.Frag} {H H' : Hp} (e : Same H H') : ∀ {d : Val} {v : V}, Rep K H d v → Rep K H' d v
  | _, _, .non => .non
  | _, _, .bl b => .bl b
  | _, _, .int i => .int i
  | _, _, .str x => .str x
  | _, _, .ty n => .ty n
  | _, _, .ptr a => .ptr a
  | _, _, .lst h r => .lst (e.seq h) (RepA.mono e r)
  | _, _, .tup h r => .tup (sameT e h) (RepA.mono e r)
  | _, _, .obj h r => .obj (e _ _ h) (RepF.mono e r)
  | _, _, .exc h d r => .exc (e _ _ h) (e _ _ d) (RepF.mono e r)
  | _, _, .exc0 h => .exc0 (e _ _ h)
  | _, _, .lam h => .lam (h.trans (.same e))
theorem RepA.mono {K : PySem.W.Frag} {H H' : Hp} (e : Same H H') : ∀ {ds : List Val} {vs : List V}, RepA K H ds vs → RepA K H' ds vs
  | _, _, .nil => .nil
  | _, _, .cons a r => .cons (Rep.mono e a) (RepA.mono e r)
theorem RepF.mono {K : PySem.W.Frag} {H H' : Hp} (e : Same H H') : ∀ {ds : List (Str × Val)} {vs : List (Str × V)}, RepF K H ds vs → RepF K H' ds vs
  | _, _, .nil => .nil
  | _, _, .cons a r => .cons (Rep.mono e a) (RepF.mono e r)
end
/-- fields, stored -/
def putV (f : Str) (v : Val) : List (Str × Val) → List (Str × Val)
  | [] => [(f, v)]
  | (g, x) :: r => if g = f then (g, v) :: r else (g, x) :: putV f v r
theorem RepF.lookup {K : PySem.W.Frag} {H : Hp} {f : Str} {d : Val} : ∀ {fs : List (Str × Val)} {gs : List (Str × V)}, RepF K H fs gs → fs.lookup f = some d → ∃ v, gs.lookup f = some v ∧ Rep K H d v
  | _, _, .nil, e => by cases e
  | (g, x) :: fs, _, .cons (v := v) (gs := gs) a r, e => by
    rw [List.lookup_cons] at e ⊢
    cases q : f == g with
    | true =>
      rw [q] at e
      cases e
      exact ⟨v, rfl, a⟩
    | false =>
      rw [q] at e
      exact RepF.lookup r e
theorem RepF.none {K : PySem.W.Frag} {H : Hp} {f : Str} : ∀ {fs : List (Str × Val)} {gs : List (Str × V)}, RepF K H fs gs → fs.lookup f = none → gs.lookup f = none
  | _, _, .nil, _ => rfl
  | (g, x) :: fs, _, .cons (v := v) (gs := gs) a r, e => by
    rw [List.lookup_cons] at e ⊢
    cases q : f == g with
    | true =>
      rw [q] at e
      cases e
    | false =>
      rw [q] at e
      exact RepF.none r e
theorem RepF.put {K : PySem.W.Frag} {H : Hp} {f : Str} {d : Val} {v : V} (hd : Rep K H d v) : ∀ {fs : List (Str × Val)} {gs : List (Str × V)}, RepF K H fs gs → RepF K H (putV f d fs) (putF f v gs)
  | _, _, .nil => .cons hd .nil
  | (g, x) :: fs, _, .cons (v := w) (gs := gs) a r => by
    unfold putV putF
    by_cases q : g = f
    · rw [if_pos q, if_pos q]
      exact .cons hd r
    · rw [if_neg q, if_neg q]
      exact .cons a (RepF.put hd r)
theorem RepF.length {K : PySem.W.Frag} {H : Hp} : ∀ {fs : List (Str × Val)} {gs : List (Str × V)}, RepF K H fs gs → fs.length = gs.length
  | _, _, .nil => rfl
  | _, _, .cons _ r => congrArg Nat.succ (RepF.length r)
/-- a dict's pairs -/
inductive RepK (K : PySem.W.Frag) (H : Hp) : List (Key × Val) → List (Key × V) → Prop
  | nil : RepK K H [] []
  | cons {f : Key} {d : Val} {v : V} {fs : List (Key × Val)} {gs : List (Key × V)} : Rep K H d v → RepK K H fs gs → RepK K H ((f, d) :: fs) ((f, v) :: gs)
theorem RepK.mono {K : PySem.W.Frag} {H H' : Hp} (e : Same H H') : ∀ {ds : List (Key × Val)} {vs : List (Key × V)}, RepK K H ds vs → RepK K H' ds vs
  | _, _, .nil => .nil
  | _, _, .cons a r => .cons (Rep.mono e a) (RepK.mono e r)
theorem RepK.length {K : PySem.W.Frag} {H : Hp} : ∀ {fs : List (Key × Val)} {gs : List (Key × V)}, RepK K H fs gs → fs.length = gs.length
  | _, _, .nil => rfl
  | _, _, .cons _ r => congrArg Nat.succ (RepK.length r)
def dGet : List (Key × Val) → Key → Option Val
  | [], _ => none
  | (g, x) :: r, k => if g = k then some x else dGet r k
def dPut (kvs : List (Key × Val)) (k : Key) (v : Val) : List (Key × Val) :=
  if (kvs.any fun kv => decide (kv.1 = k)) = true then kvs.map (fun kv => if kv.1 = k then (kv.1, v) else kv) else kvs ++ [(k, v)]
theorem RepK.any {K : PySem.W.Frag} {H : Hp} {k : Key} : ∀ {fs : List (Key × Val)} {gs : List (Key × V)}, RepK K H fs gs → (fs.any fun kv => decide (kv.1 = k)) = (gs.any fun kv => decide (kv.1 = k))
  | _, _, .nil => rfl
  | _, _, .cons a r => by
    rw [List.any_cons, List.any_cons, RepK.any r]
theorem RepK.maps {K : PySem.W.Frag} {H : Hp} {k : Key} {d : Val} {v : V} (hd : Rep K H d v) : ∀ {fs : List (Key × Val)} {gs : List (Key × V)}, RepK K H fs gs → RepK K H (fs.map (fun kv => if kv.1 = k then (kv.1, d) else kv)) (gs.map (fun kv => if kv.1 = k then (kv.1, v) else kv))
  | _, _, .nil => .nil
  | (g, x) :: _, _, .cons (v := w) a r => by
    rw [List.map_cons, List.map_cons]
    by_cases q : g = k
    · rw [if_pos q, if_pos q]
      exact .cons hd (RepK.maps hd r)
    · rw [if_neg q, if_neg q]
      exact .cons a (RepK.maps hd r)
theorem RepK.append {K : PySem.W.Frag} {H : Hp} : ∀ {fs fs' : List (Key × Val)} {gs gs' : List (Key × V)}, RepK K H fs gs → RepK K H fs' gs' → RepK K H (fs ++ fs') (gs ++ gs')
  | _, _, _, _, .nil, r => r
  | _, _, _, _, .cons a r, q => .cons a (RepK.append r q)
theorem RepK.put {K : PySem.W.Frag} {H : Hp} {k : Key} {d : Val} {v : V} (hd : Rep K H d v) {fs : List (Key × Val)} {gs : List (Key × V)} (r : RepK K H fs gs) : RepK K H (dPut fs k d) (putK gs k v) := by
  unfold dPut putK
  rw [r.any]
  by_cases q : (gs.any fun kv => decide (kv.1 = k)) = true
  · rw [if_pos q, if_pos q]
    exact r.maps hd
  · rw [if_neg q, if_neg q]
    exact r.append (.cons hd .nil)
theorem RepK.get {K : PySem.W.Frag} {H : Hp} {k : Key} {d : Val} : ∀ {fs : List (Key × Val)} {gs : List (Key × V)}, RepK K H fs gs → dGet fs k = some d → ∃ v, valV gs k = some v ∧ Rep K H d v
  | _, _, .nil, e => by cases e
  | (g, x) :: fs, _, .cons (v := v) (gs := gs) a r, e => by
    unfold dGet at e
    by_cases q : g = k
    · rw [if_pos q] at e
      cases e
      exact ⟨v, valV_pos q, a⟩
    · rw [if_neg q] at e
      rw [valV_neg (p := (g, v)) q]
      exact RepK.get r e
section
variable {K : PySem.W.Frag} {H H' : Hp}
theorem RepA.length : ∀ {ds : List Val} {vs : List V}, RepA K H ds vs → ds.length = vs.length
  | _, _, .nil => rfl
  | _, _, .cons _ r => congrArg Nat.succ (RepA.length r)
theorem RepA.get : ∀ {ds : List Val} {vs : List V} {i : Nat} {d : Val}, RepA K H ds vs → ds[i]? = some d → ∃ v, vs[i]? = some v ∧ Rep K H d v
  | _, _, _, _, .nil, e => by simp at e
  | _, _, 0, _, .cons r _, e => by simp at e; subst e; exact ⟨_, rfl, r⟩
  | _, _, i + 1, d, .cons _ t, e => by
    obtain ⟨u, h1, h2⟩ := RepA.get (i := i) (d := d) t (by simpa using e)
    exact ⟨u, by simpa using h1, h2⟩
theorem RepA.getV : ∀ {ds : List Val} {vs : List V} {i : Nat} {v : V}, RepA K H ds vs → vs[i]? = some v → ∃ d, ds[i]? = some d ∧ Rep K H d v
  | _, _, _, _, .nil, e => by simp at e
  | _, _, 0, _, .cons r _, e => by simp at e; subst e; exact ⟨_, rfl, r⟩
  | _, _, i + 1, d, .cons _ t, e => by
    obtain ⟨u, h1, h2⟩ := RepA.getV (i := i) (v := d) t (by simpa using e)
    exact ⟨u, by simpa using h1, h2⟩
theorem RepA.append : ∀ {ds es : List Val} {vs ws : List V}, RepA K H ds vs → RepA K H es ws → RepA K H (ds ++ es) (vs ++ ws)
  | _, _, _, _, .nil, s => s
  | _, _, _, _, .cons r t, s => .cons r (RepA.append t s)
theorem RepA.set {d : Val} {v : V} (r : Rep K H d v) : ∀ {ds : List Val} {vs : List V} (i : Nat), RepA K H ds vs → RepA K H (ds.set i d) (vs.set i v)
  | _, _, _, .nil => .nil
  | _, _, 0, .cons _ t => .cons r t
  | _, _, i + 1, .cons q t => .cons q (RepA.set r i t)
theorem RepA.take : ∀ {ds : List Val} {vs : List V} (n : Nat), RepA K H ds vs → RepA K H (ds.take n) (vs.take n)
  | _, _, 0, _ => .nil
  | _, _, _ + 1, .nil => .nil
  | _, _, n + 1, .cons r t => .cons r (RepA.take n t)
theorem RepA.drop : ∀ {ds : List Val} {vs : List V} (n : Nat), RepA K H ds vs → RepA K H (ds.drop n) (vs.drop n)
  | _, _, 0, r => r
  | _, _, _ + 1, .nil => .nil
  | _, _, n + 1, .cons _ t => RepA.drop n t
theorem RepA.ints : ∀ {ns : List Int} {vs : List V}, RepA K H (ns.map Val.int) vs → vs = ns.map V.int
  | [], _, .nil => rfl
  | _ :: ns, _, .cons (.int _) t => by rw [RepA.ints (ns := ns) t, List.map_cons]
theorem RepA.ofInts : ∀ (ns : List Int), RepA K H (ns.map Val.int) (ns.map V.int)
  | [] => .nil
  | n :: ns => .cons (.int n) (RepA.ofInts ns)
theorem RepA.bls : ∀ {ns : List Bool} {vs : List V}, RepA K H (ns.map Val.bl) vs → vs = ns.map V.bl
  | [], _, .nil => rfl
  | _ :: ns, _, .cons (.bl _) t => by rw [RepA.bls (ns := ns) t, List.map_cons]
end
/-! ### what may change -/
inductive Cell0 where
  | lst (xs : List Val)
  | dk (kvs : List (Key × Val))
  | ins (C : Addr) (fs : List (Str × Val))
  /-- a dict while it is known to the object (a loop walks it) -/
  | fz (od : Obj) (kvs : List (Key × V)) (ds : List (Key × Val))
  /-- a table of code objects, all of the name q -/
  | tb (q : Str)
abbrev Mem0 := List (Addr × Cell0)
/-- a cell, or a box: some cells of which only phi is told -/
inductive Cell where
  | b (c : Cell0)
  | box (φ : Mem0 → Prop)
abbrev Cell.lst (xs : List Val) : Cell := .b (.lst xs)
abbrev Cell.dk (kvs : List (Key × Val)) : Cell := .b (.dk kvs)
abbrev Cell.ins (C : Addr) (fs : List (Str × Val)) : Cell := .b (.ins C fs)
def RepC (K : PySem.W.Frag) (H : Hp) : Cell0 → HO → Prop
  | .lst ds, o => ∃ xs, o = .lst xs ∧ RepA K H ds xs
  | .dk ds, o => ∃ kvs : List (Key × V), o = .dK kvs ∧ RepK K H ds kvs
  | .ins C ds, o => ∃ dx fs, o = .ins C dx fs ∧ RepF K H ds fs
  | .fz od kvs ds, o => o = .frz od (.dK kvs) ∧ RepK K H ds kvs
  | .tb q, o => ∃ ps : Array Value, o = .tbl ps ∧ TriplesOk ps.toList ∧ ∀ (pos : Pos) (cv : Value), codeAmong pos ps.toList = some cv → ∃ c, cv = .ref c ∧ H c = some (LamX.CodeO c q)
theorem RepC.mono {K : PySem.W.Frag} {H H' : Hp} (e : Same H H') : ∀ {c : Cell0} {o : HO}, RepC K H c o → RepC K H' c o
  | .lst _, _, ⟨xs, h, r⟩ => ⟨xs, h, r.mono e⟩
  | .dk _, _, ⟨kvs, h, r⟩ => ⟨kvs, h, r.mono e⟩
  | .ins _ _, _, ⟨dx, fs, h, r⟩ => ⟨dx, fs, h, r.mono e⟩
  | .fz _ _ _, _, ⟨h, r⟩ => ⟨h, r.mono e⟩
  | .tb _, _, ⟨ps, h, t, r⟩ => ⟨ps, h, t, fun pos cv hc => let ⟨c, h1, h2⟩ := r pos cv hc; ⟨c, h1, e _ _ h2⟩⟩
abbrev Mem := List (Addr × Cell)
/-- Hi: what never changes; F: the cells -/
structure Ok0 (K : PySem.W.Frag) (Hi : Hp) (F : Mem0) (H : Hp) : Prop where
  im : Same Hi H
  ce : ∀ a c, (a, c) ∈ F → Hi a = none ∧ ∃ o, H a = some o ∧ RepC K Hi c o
  nd : (F.map (·.1)).Nodup
/-- the cells of an entry -/
def Opn (p : Addr) : Cell → Mem0 → Prop
  | .b c, B => B = [(p, c)]
  | .box φ, B => φ B ∧ p ∈ B.map (·.1)
inductive Flat : Mem → Mem0 → Prop
  | nil : Flat [] []
  | cons {p : Addr} {c : Cell} {M : Mem} {B F : Mem0} : Opn p c B → Flat M F → Flat ((p, c) :: M) (B ++ F)
def Ok (K : PySem.W.Frag) (Hi : Hp) (M : Mem) (H : Hp) : Prop := ∃ F, Flat M F ∧ Ok0 K Hi F H
theorem same_upd {H : Hp} {p : Addr} {o : HO} (h : H p = none) : Same H (upd H p o) := fun b x e => by
  rw [upd_ne (ne_of_none e h)]
  exact e
section
variable {K : PySem.W.Frag} {Hi Hi' H H' : Hp} {F F' : Mem0} {a p : Addr} {c c' : Cell0} {o : HO}
theorem Ok0.none (k : Ok0 K Hi F H) (h : H p = Option.none) : Hi p = Option.none := k.im.free h
theorem Ok0.notin (k : Ok0 K Hi F H) (h : H p = Option.none) : ∀ c, (p, c) ∉ F := fun c hm => by
  obtain ⟨_, o, e, _⟩ := k.ce p c hm
  rw [h] at e
  cases e
theorem Ok0.fresh (k : Ok0 K Hi F H) (h : H p = Option.none) : p ∉ F.map (·.1) := fun hm => by
  obtain ⟨⟨q, c⟩, h1, h2⟩ := List.mem_map.mp hm
  have e : q = p := h2
  subst e
  exact k.notin h c h1
theorem Ok0.imm (k : Ok0 K Hi F H) (h : H p = Option.none) : Ok0 K (upd Hi p o) F (upd H p o) where
  im := fun b x e => by
    by_cases hb : b = p
    · subst hb
      rw [upd_same] at e ⊢
      exact e
    · rw [upd_ne hb] at e ⊢
      exact k.im b x e
  ce := fun a c hm => by
    obtain ⟨e0, o', e, r⟩ := k.ce a c hm
    have hb : a ≠ p := fun z => k.notin h c (z ▸ hm)
    refine ⟨by rw [upd_ne hb]; exact e0, o', by rw [upd_ne hb]; exact e, r.mono (same_upd (k.none h))⟩
  nd := k.nd
theorem Ok0.new (k : Ok0 K Hi F H) (h : H p = Option.none) (r : RepC K Hi c o) : Ok0 K Hi ((p, c) :: F) (upd H p o) where
  im := fun b x e => by
    have hb : b ≠ p := fun z => by
      subst z
      rw [k.none h] at e
      cases e
    rw [upd_ne hb]
    exact k.im b x e
  ce := fun a c' hm => by
    rcases List.mem_cons.mp hm with e | hm
    · cases e
      exact ⟨k.none h, o, upd_same, r⟩
    · obtain ⟨e0, o', e, r'⟩ := k.ce a c' hm
      have hb : a ≠ p := fun z => k.notin h c' (z ▸ hm)
      exact ⟨e0, o', by rw [upd_ne hb]; exact e, r'⟩
  nd := by
    rw [List.map_cons]
    exact List.nodup_cons.mpr ⟨k.fresh h, k.nd⟩
theorem Ok0.perm (k : Ok0 K Hi F H) (s : F'.Perm F) : Ok0 K Hi F' H := ⟨k.im, fun a c h => k.ce a c (s.subset h), (s.map _).nodup_iff.mpr k.nd⟩
theorem Ok0.sub (k : Ok0 K Hi F H) (s : F'.Sublist F) : Ok0 K Hi F' H := ⟨k.im, fun a c h => k.ce a c (s.subset h), k.nd.sublist (s.map _)⟩
/-- the first cell is written -/
theorem Ok0.set (k : Ok0 K Hi ((a, c) :: F) H) (r : RepC K Hi c' o) : Ok0 K Hi ((a, c') :: F) (upd H a o) where
  im := fun b x e => by
    have hb : b ≠ a := fun z => by
      subst z
      rw [(k.ce b c List.mem_cons_self).1] at e
      cases e
    rw [upd_ne hb]
    exact k.im b x e
  ce := fun b d hm => by
    have nd := k.nd
    rw [List.map_cons] at nd
    rcases List.mem_cons.mp hm with e | hm2
    · cases e
      exact ⟨(k.ce a c List.mem_cons_self).1, o, upd_same, r⟩
    · have hb : b ≠ a := fun z => by
        subst z
        exact (List.nodup_cons.mp nd).1 (List.mem_map.mpr ⟨(b, d), hm2, rfl⟩)
      obtain ⟨e0, o', e, r'⟩ := k.ce b d (List.mem_cons_of_mem _ hm2)
      exact ⟨e0, o', by rw [upd_ne hb]; exact e, r'⟩
  nd := k.nd
/-- the first cell will change no more -/
theorem Ok0.freeze (k : Ok0 K Hi ((p, c) :: F) H) (h : H p = some o) : Ok0 K (upd Hi p o) F H where
  im := fun b x e => by
    by_cases hb : b = p
    · subst hb
      rw [upd_same] at e
      rw [h]
      exact e
    · rw [upd_ne hb] at e
      exact k.im b x e
  ce := fun a d hm => by
    obtain ⟨e0, o', e, r⟩ := k.ce a d (List.mem_cons_of_mem _ hm)
    have nd := k.nd
    rw [List.map_cons] at nd
    have hb : a ≠ p := fun z => by
      subst z
      exact (List.nodup_cons.mp nd).1 (List.mem_map.mpr ⟨(a, d), hm, rfl⟩)
    exact ⟨by rw [upd_ne hb]; exact e0, o', e, r.mono (same_upd (k.ce p c List.mem_cons_self).1)⟩
  nd := by
    have nd := k.nd
    rw [List.map_cons] at nd
    exact (List.nodup_cons.mp nd).2
end
theorem Flat.append : ∀ {M M' : Mem} {F F' : Mem0}, Flat M F → Flat M' F' → Flat (M ++ M') (F ++ F')
  | _, _, _, _, .nil, q => q
  | _, _, _, _, .cons (B := B) (F := F) o r, q => by
    rw [List.append_assoc]
    exact .cons o (r.append q)
theorem Flat.split : ∀ {M M' : Mem} {F : Mem0}, Flat (M ++ M') F → ∃ F1 F2, F = F1 ++ F2 ∧ Flat M F1 ∧ Flat M' F2
  | [], _, F, h => ⟨[], F, rfl, .nil, h⟩
  | (p, c) :: M, M', _, .cons (B := B) (F := F) o r => by
    obtain ⟨F1, F2, rfl, h1, h2⟩ := Flat.split r
    exact ⟨B ++ F1, F2, by rw [List.append_assoc], .cons o h1, h2⟩
theorem Flat.one {p : Addr} {c : Cell0} {M : Mem} {F : Mem0} (h : Flat M F) : Flat ((p, .b c) :: M) ((p, c) :: F) := .cons (B := [(p, c)]) rfl h
theorem Flat.mem {p : Addr} {c : Cell} : ∀ {M : Mem} {F : Mem0}, Flat M F → (p, c) ∈ M → ∃ B, Opn p c B ∧ B.Sublist F
  | _, _, .nil, h => nomatch h
  | _, _, .cons (B := B) (F := F) o r, h => by
    rcases List.mem_cons.mp h with e | h
    · cases e
      exact ⟨B, o, List.sublist_append_left _ _⟩
    · obtain ⟨B', h1, h2⟩ := r.mem h
      exact ⟨B', h1, h2.trans (List.sublist_append_right _ _)⟩
theorem Flat.perm {M M' : Mem} (s : M.Perm M') : ∀ {F : Mem0}, Flat M F → ∃ F', Flat M' F' ∧ F'.Perm F := by
  induction s with
  | nil => exact fun h => ⟨_, h, .refl _⟩
  | cons x _ ih =>
    intro F h
    cases h with
    | cons o r =>
      obtain ⟨F', h1, h2⟩ := ih r
      exact ⟨_, .cons o h1, h2.append_left _⟩
  | swap x y l =>
    intro F h
    cases h with
    | cons o r =>
      cases r with
      | cons o2 r2 =>
        refine ⟨_, .cons o2 (.cons o r2), ?_⟩
        rw [← List.append_assoc, ← List.append_assoc]
        exact List.perm_append_comm.append_right _
  | trans _ _ ih1 ih2 =>
    intro F h
    obtain ⟨F', h1, h2⟩ := ih1 h
    obtain ⟨F'', h3, h4⟩ := ih2 h1
    exact ⟨F'', h3, h4.trans h2⟩
theorem Flat.sub {M M' : Mem} (s : M'.Sublist M) : ∀ {F : Mem0}, Flat M F → ∃ F', Flat M' F' ∧ F'.Sublist F := by
  induction s with
  | slnil => exact fun h => ⟨_, h, .refl _⟩
  | cons x _ ih =>
    intro F h
    cases h with
    | cons o r =>
      obtain ⟨F', h1, h2⟩ := ih r
      exact ⟨F', h1, h2.trans (List.sublist_append_right _ _)⟩
  | cons_cons x _ ih =>
    intro F h
    cases h with
    | cons o r =>
      obtain ⟨F', h1, h2⟩ := ih r
      exact ⟨_, .cons o h1, (List.append_sublist_append_left _).mpr h2⟩
section
variable {K : PySem.W.Frag} {Hi Hi' H H' : Hp} {M M' : Mem} {a p : Addr} {c c' : Cell0} {x : Cell} {o : HO} {B : Mem0} {φ : Mem0 → Prop}
theorem Ok.im (k : Ok K Hi M H) : Same Hi H := by
  obtain ⟨F, _, k⟩ := k
  exact k.im
theorem Ok.ce (k : Ok K Hi M H) : ∀ a c, (a, Cell.b c) ∈ M → Hi a = none ∧ ∃ o, H a = some o ∧ RepC K Hi c o := fun a c h => by
  obtain ⟨F, f, k⟩ := k
  obtain ⟨B, h1, h2⟩ := f.mem h
  have h1 : B = [(a, c)] := h1
  subst h1
  exact k.ce a c (h2.subset List.mem_cons_self)
theorem Ok.none (k : Ok K Hi M H) (h : H p = Option.none) : Hi p = Option.none := k.im.free h
theorem Ok.notin (k : Ok K Hi M H) (h : H p = Option.none) : ∀ c, (p, c) ∉ M := fun c hm => by
  obtain ⟨F, f, k⟩ := k
  obtain ⟨B, h1, h2⟩ := f.mem hm
  have hp : p ∈ B.map (·.1) := by
    cases c with
    | b c =>
      have h1 : B = [(p, c)] := h1
      subst h1
      exact List.mem_cons_self
    | box φ => exact h1.2
  exact k.fresh h ((h2.map _).subset hp)
theorem Ok.fresh (k : Ok K Hi M H) (h : H p = Option.none) : p ∉ M.map (·.1) := fun hm => by
  obtain ⟨⟨q, c⟩, h1, h2⟩ := List.mem_map.mp hm
  have e : q = p := h2
  subst e
  exact k.notin h c h1
/-- a new object that never changes -/
theorem Ok.imm (k : Ok K Hi M H) (h : H p = Option.none) : Ok K (upd Hi p o) M (upd H p o) := by
  obtain ⟨F, f, k⟩ := k
  exact ⟨F, f, k.imm h⟩
/-- a new cell -/
theorem Ok.new (k : Ok K Hi M H) (h : H p = Option.none) (r : RepC K Hi c o) : Ok K Hi ((p, .b c) :: M) (upd H p o) := by
  obtain ⟨F, f, k⟩ := k
  exact ⟨_, f.one, k.new h r⟩
theorem Ok.get {i : Nat} (k : Ok K Hi M H) (h : M[i]? = some (a, .b c)) : Hi a = Option.none ∧ ∃ o, H a = some o ∧ RepC K Hi c o := k.ce a c (List.mem_of_getElem? h)
theorem Ok.perm (k : Ok K Hi M H) (s : M'.Perm M) : Ok K Hi M' H := by
  obtain ⟨F, f, k⟩ := k
  obtain ⟨F', f', q⟩ := f.perm s.symm
  exact ⟨F', f', k.perm q⟩
theorem Ok.sub (k : Ok K Hi M H) (s : M'.Sublist M) : Ok K Hi M' H := by
  obtain ⟨F, f, k⟩ := k
  obtain ⟨F', f', q⟩ := f.sub s
  exact ⟨F', f', k.sub q⟩
theorem perm_at {α : Type} {M : List α} {i : Nat} {x : α} (h : M[i]? = some x) : M.Perm (x :: M.eraseIdx i) := by
  induction M generalizing i with
  | nil => cases h
  | cons y M ih =>
    cases i with
    | zero =>
      cases h
      exact .refl _
    | succ i =>
      rw [List.eraseIdx_cons_succ]
      exact ((ih h).cons y).trans (.swap x y _)
theorem perm_set {α : Type} {M : List α} {i : Nat} {x y : α} (h : M[i]? = some x) : (M.set i y).Perm (y :: M.eraseIdx i) := by
  induction M generalizing i with
  | nil => cases h
  | cons z M ih =>
    cases i with
    | zero => exact .refl _
    | succ i =>
      rw [List.eraseIdx_cons_succ, List.set_cons_succ]
      exact ((ih h).cons z).trans (.swap y z _)
/-- a cell is written -/
theorem Ok.set {i : Nat} (k : Ok K Hi M H) (h : M[i]? = some (a, .b c)) (r : RepC K Hi c' o) : Ok K Hi (M.set i (a, .b c')) (upd H a o) := by
  obtain ⟨F, f, k⟩ := k.perm (perm_at h).symm
  refine Ok.perm ?_ (perm_set (y := (a, Cell.b c')) h)
  cases f with
  | cons o f =>
    have o : _ = [(a, c)] := o
    subst o
    exact ⟨_, f.one, Ok0.set k r⟩
/-- the first cell will change no more -/
theorem Ok.freeze (k : Ok K Hi ((p, .b c) :: M) H) (h : H p = some o) : Ok K (upd Hi p o) M H := by
  obtain ⟨F, f, k⟩ := k
  cases f with
  | cons q f =>
    have q : _ = [(p, c)] := q
    subst q
    exact ⟨_, f, Ok0.freeze k h⟩
theorem Ok.tail {c : Cell} (k : Ok K Hi ((p, c) :: M) H) : Ok K Hi M H := k.sub (List.sublist_cons_self _ _)
theorem Ok.all (H : Hp) : Ok K H [] H := ⟨[], .nil, Same.refl H, (fun _ _ h => nomatch h), List.nodup_nil⟩
/-- the cells of a list of cells -/
abbrev bs (B : Mem0) : Mem := B.map fun x => (x.1, Cell.b x.2)
theorem Flat.bs : ∀ B : Mem0, Flat (bs B) B
  | [] => .nil
  | (_, _) :: B => (Flat.bs B).one
theorem Flat.ofBs : ∀ {B F : Mem0}, Flat (Ab.bs B) F → F = B
  | [], _, .nil => rfl
  | (p, c) :: B, _, .cons o r => by
    have o : _ = [(p, c)] := o
    subst o
    rw [Flat.ofBs r]
    rfl
/-- a box is opened, closed -/
theorem Ok.opn {i : Nat} (k : Ok K Hi M H) (h : M[i]? = some (p, .box φ)) : ∃ B, φ B ∧ p ∈ B.map (·.1) ∧ Ok K Hi (bs B ++ M.eraseIdx i) H := by
  obtain ⟨F, f, k⟩ := k.perm (perm_at h).symm
  cases f with
  | cons o f => exact ⟨_, o.1, o.2, _, (Flat.bs _).append f, k⟩
theorem Ok.cls (k : Ok K Hi (bs B ++ M) H) (h : φ B) (hp : p ∈ B.map (·.1)) : Ok K Hi ((p, .box φ) :: M) H := by
  obtain ⟨F, f, k⟩ := k
  obtain ⟨F1, F2, rfl, h1, h2⟩ := f.split
  rw [Flat.ofBs h1] at k
  exact ⟨_, .cons (show Opn p (.box φ) B from ⟨h, hp⟩) h2, k⟩
theorem Ok.clsAt {i : Nat} (k : Ok K Hi (bs B ++ M.eraseIdx i) H) (hi : M[i]? = some (p, x)) (h : φ B) (hp : p ∈ B.map (·.1)) : Ok K Hi (M.set i (p, .box φ)) H :=
  (k.cls h hp).perm (perm_set hi)
end
/-! ### slots -/
abbrev Gam := List (Option Val)
def EnvR (K : PySem.W.Frag) (H : Hp) (Γ : Gam) (σ : L2.St) : Prop := Γ.length = σ.length ∧ ∀ (i : Nat) (d : Val), Γ[i]? = some (some d) → ∃ v, σ[i]? = some (some v) ∧ Rep K H d v
theorem EnvR.mono {K : PySem.W.Frag} {H H' : Hp} {Γ : Gam} {σ : L2.St} (h : EnvR K H Γ σ) (e : Same H H') : EnvR K H' Γ σ := ⟨h.1, fun i d q => by
  obtain ⟨v, h1, h2⟩ := h.2 i d q
  exact ⟨v, h1, h2.mono e⟩⟩
theorem EnvR.set {K : PySem.W.Frag} {H : Hp} {Γ : Gam} {σ : L2.St} {i : Nat} {d : Val} {v : V} (h : EnvR K H Γ σ) (r : Rep K H d v) : EnvR K H (Γ.set i (some d)) (σ.set i (some v)) := by
  refine ⟨by rw [List.length_set, List.length_set]; exact h.1, fun j e q => ?_⟩
  by_cases hij : i = j
  · subst hij
    by_cases hl : i < Γ.length
    · rw [List.getElem?_set_self hl] at q
      cases q
      exact ⟨v, List.getElem?_set_self (h.1 ▸ hl), r⟩
    · rw [List.getElem?_eq_none_iff.mpr (by rw [List.length_set]; omega)] at q
      cases q
  · rw [List.getElem?_set_ne hij] at q
    obtain ⟨w, h1, h2⟩ := h.2 j e q
    exact ⟨w, by rw [List.getElem?_set_ne hij]; exact h1, h2⟩
theorem EnvR.drop {K : PySem.W.Frag} {H : Hp} {Γ Γ' : Gam} {σ : L2.St} (h : EnvR K H Γ σ) (hl : Γ'.length = Γ.length) (w : ∀ (i : Nat) (d : Val), Γ'[i]? = some (some d) → Γ[i]? = some (some d)) : EnvR K H Γ' σ := ⟨hl.trans h.1, fun i d q => h.2 i d (w i d q)⟩
/-! ### the readings that always fit -/
def WE (X : Cx) (e : Expr) : TE := fun σ H Q => ∃ t, PE X e t ∧ t σ H Q
def WT (X : Cx) (e : Expr) : TT := fun σ H Q => ∃ t, PT X e t ∧ t σ H Q
def WA (X : Cx) (es : List Expr) : TA := fun σ H Q => ∃ t, PA X es t ∧ t σ H Q
def WS (X : Cx) (s : Stmt) : TS := fun D σ H => ∃ t, PS X s t ∧ t D σ H
def WB (X : Cx) (s : List Stmt) : TS := fun D σ H => ∃ t, PSs X s t ∧ t D σ H
section
variable {X : Cx}
theorem pe_we {e : Expr} : PE X e (WE X e) := ⟨fun pins s σ H Q I ⟨t, p, h⟩ => p.run pins s σ H Q I h⟩
theorem pt_wt {e : Expr} : PT X e (WT X e) := ⟨fun pins s σ H Q I ⟨t, p, h⟩ => p.run pins s σ H Q I h⟩
theorem pa_wa {es : List Expr} : PA X es (WA X es) := ⟨fun pos pins s σ H Q I ⟨t, p, h⟩ => p.run pos pins s σ H Q I h⟩
theorem ps_ws {s : Stmt} : PS X s (WS X s) := ⟨fun pins s σ H D I ⟨t, p, h⟩ => p.run pins s σ H D I h⟩
theorem pss_wb {s : List Stmt} : PSs X s (WB X s) := ⟨fun pins s σ H D I ⟨t, p, h⟩ => p.run pins s σ H D I h⟩
end
/-! ### the judgements: what a piece does to values and cells -/
def Post (K : PySem.W.Frag) (Hi : Hp) (P : Val → Mem → Prop) (Q : VK) : Prop := ∀ d M' v Hi' H', P d M' → Same Hi Hi' → Ok K Hi' M' H' → Rep K Hi' d v → Q v H'
def PostA (K : PySem.W.Frag) (Hi : Hp) (P : List Val → Mem → Prop) (Q : List V → Hp → Prop) : Prop := ∀ d M' v Hi' H', P d M' → Same Hi Hi' → Ok K Hi' M' H' → RepA K Hi' d v → Q v H'
def PostT (K : PySem.W.Frag) (Hi : Hp) (P : Bool → Mem → Prop) (Q : Bool → Hp → Prop) : Prop := ∀ b M' Hi' H', P b M' → Same Hi Hi' → Ok K Hi' M' H' → Q b H'
theorem Post.up {K : PySem.W.Frag} {Hi Hi1 : Hp} {P : Val → Mem → Prop} {Q : VK} (h : Post K Hi P Q) (e : Same Hi Hi1) : Post K Hi1 P Q := fun d M' v Hi' H' p s => h d M' v Hi' H' p (e.trans s)
theorem PostT.up {K : PySem.W.Frag} {Hi Hi1 : Hp} {P : Bool → Mem → Prop} {Q : Bool → Hp → Prop} (h : PostT K Hi P Q) (e : Same Hi Hi1) : PostT K Hi1 P Q := fun b M' Hi' H' p s => h b M' Hi' H' p (e.trans s)
theorem PostA.up {K : PySem.W.Frag} {Hi Hi1 : Hp} {P : List Val → Mem → Prop} {Q : List V → Hp → Prop} (h : PostA K Hi P Q) (e : Same Hi Hi1) : PostA K Hi1 P Q := fun d M' v Hi' H' p s => h d M' v Hi' H' p (e.trans s)
def aE (X : Cx) (e : Expr) (Γ : Gam) (M : Mem) (P : Val → Mem → Prop) : Prop := ∀ Hi H σ, Ok X.K Hi M H → EnvR X.K Hi Γ σ → ∀ Q : VK, Post X.K Hi P Q → WE X e σ H Q
def aT (X : Cx) (e : Expr) (Γ : Gam) (M : Mem) (P : Bool → Mem → Prop) : Prop := ∀ Hi H σ, Ok X.K Hi M H → EnvR X.K Hi Γ σ → ∀ Q, PostT X.K Hi P Q → WT X e σ H Q
def aA (X : Cx) (es : List Expr) (Γ : Gam) (M : Mem) (P : List Val → Mem → Prop) : Prop := ∀ Hi H σ, Ok X.K Hi M H → EnvR X.K Hi Γ σ → ∀ Q, PostA X.K Hi P Q → WA X es σ H Q
abbrev aV (X : Cx) (e : Expr) (Γ : Gam) (M : Mem) (d : Val) : Prop := aE X e Γ M fun x M' => x = d ∧ M' = M
abbrev aB (X : Cx) (e : Expr) (Γ : Gam) (M : Mem) (b : Bool) : Prop := aT X e Γ M fun x M' => x = b ∧ M' = M
abbrev aVs (X : Cx) (es : List Expr) (Γ : Gam) (M : Mem) (ds : List Val) : Prop := aA X es Γ M fun x M' => x = ds ∧ M' = M
/-- what is wanted behind a statement -/
structure AK where
  nx : Gam → Mem → Prop
  rt : Val → Mem → Prop
  bk : Gam → Mem → Prop := fun _ _ => False
  ct : Gam → Mem → Prop := fun _ _ => False
structure Real (K : PySem.W.Frag) (Hi : Hp) (k : AK) (D : Ends) : Prop where
  nx : ∀ Γ M σ Hi' H', k.nx Γ M → Same Hi Hi' → Ok K Hi' M H' → EnvR K Hi' Γ σ → D.nx σ H'
  rt : ∀ d M v Hi' H', k.rt d M → Same Hi Hi' → Ok K Hi' M H' → Rep K Hi' d v → D.rt v H'
  bk : ∀ Γ M σ Hi' H', k.bk Γ M → Same Hi Hi' → Ok K Hi' M H' → EnvR K Hi' Γ σ → D.bk σ H'
  ct : ∀ Γ M σ Hi' H', k.ct Γ M → Same Hi Hi' → Ok K Hi' M H' → EnvR K Hi' Γ σ → D.ct σ H'
theorem Real.up {K : PySem.W.Frag} {Hi Hi1 : Hp} {k : AK} {D : Ends} (h : Real K Hi k D) (e : Same Hi Hi1) : Real K Hi1 k D :=
  ⟨fun Γ M σ Hi' H' p s => h.nx Γ M σ Hi' H' p (e.trans s), fun d M v Hi' H' p s => h.rt d M v Hi' H' p (e.trans s), fun Γ M σ Hi' H' p s => h.bk Γ M σ Hi' H' p (e.trans s), fun Γ M σ Hi' H' p s => h.ct Γ M σ Hi' H' p (e.trans s)⟩
def aS (X : Cx) (s : Stmt) (Γ : Gam) (M : Mem) (k : AK) : Prop := ∀ Hi H σ, Ok X.K Hi M H → EnvR X.K Hi Γ σ → ∀ D, Real X.K Hi k D → WS X s D σ H
def aSs (X : Cx) (s : List Stmt) (Γ : Gam) (M : Mem) (k : AK) : Prop := ∀ Hi H σ, Ok X.K Hi M H → EnvR X.K Hi Γ σ → ∀ D, Real X.K Hi k D → WB X s D σ H
section
variable {X : Cx} {Γ : Gam} {M : Mem} {P : Val → Mem → Prop} {e a b c : Expr} {es : List Expr} {pos : Pos} {k : AK} {d d1 d2 : Val}
theorem aE.mono {P' : Val → Mem → Prop} (h : aE X e Γ M P) (f : ∀ d M', P d M' → P' d M') : aE X e Γ M P' := fun Hi H σ ok en Q q => h Hi H σ ok en Q fun d M' v Hi' H' p => q d M' v Hi' H' (f d M' p)
theorem aT.mono {P P' : Bool → Mem → Prop} (h : aT X e Γ M P) (f : ∀ d M', P d M' → P' d M') : aT X e Γ M P' := fun Hi H σ ok en Q q => h Hi H σ ok en Q fun d M' Hi' H' p => q d M' Hi' H' (f d M' p)
theorem aE.val (h : aV X e Γ M d) (p : P d M) : aE X e Γ M P := h.mono fun x M' q => by
  obtain ⟨h1, h2⟩ := q
  subst h1 h2
  exact p
theorem aT.val {P : Bool → Mem → Prop} {b : Bool} (h : aB X e Γ M b) (p : P b M) : aT X e Γ M P := h.mono fun x M' q => by
  obtain ⟨h1, h2⟩ := q
  subst h1 h2
  exact p
theorem aA.val {P : List Val → Mem → Prop} {ds : List Val} (h : aVs X es Γ M ds) (p : P ds M) : aA X es Γ M P := fun Hi H σ ok en Q q => h Hi H σ ok en Q fun d M' v Hi' H' r => by
  obtain ⟨h1, h2⟩ := r
  subst h1 h2
  exact q _ _ v Hi' H' p
/-- a constant -/
theorem ae_c {v : V} {d : Val} (hp : PE X e (tC v)) (r : ∀ K H, Rep K H d v) (h : P d M) : aE X e Γ M P := fun Hi H σ ok _ Q q => ⟨_, hp, q d M v Hi H h (Same.refl _) ok (r _ _)⟩
theorem ae_int {i : Int} {j} (h : P (.int i) M) : aE X (.Constant (.int i) j pos) Γ M P := ae_c pe_int (fun _ _ => .int i) h
theorem ae_bl {i : Bool} {j} (h : P (.bl i) M) : aE X (.Constant (.bool i) j pos) Γ M P := ae_c pe_bl (fun _ _ => .bl i) h
theorem ae_str {i : Str} {j} (h : P (.str i) M) : aE X (.Constant (.str i) j pos) Γ M P := ae_c pe_str (fun _ _ => .str i) h
theorem ae_non {j} (h : P .non M) : aE X (.Constant .none j pos) Γ M P := ae_c pe_non (fun _ _ => .non) h
/-- a name of the def -/
theorem ae_var {x : Str} (i : Nat) {d : Val} (hd : Γ[i]? = some (some d)) (h : P d M) (hN : X.N[i]? = some x := by rfl) (hv : Vis X.env.scope x := by first | exact Or.inl rfl | exact Or.inr (Or.inl rfl) | exact Or.inr (Or.inr rfl))
    (hdb : (x == ("__debug__" : Str)) = false := by decide) (hcd : (x == ("__classdict__" : Str)) = false := by decide) : aE X (.Name x pos) Γ M P := fun Hi H σ ok en Q q => by
  obtain ⟨v, h1, r⟩ := en.2 i d hd
  exact ⟨_, pe_var hN hv hdb hcd, v, h1, q d M v Hi H h (Same.refl _) ok r⟩
/-- a global of the module that is an address -/
theorem ae_glob {x : Str} {f : Addr} (hm : X.mg x = some (.ref f)) (h : P (.ptr f) M) (hg : Gl X x := by rfl) (hd : (x == ("__debug__" : Str)) = false := by decide) : aE X (.Name x pos) Γ M P :=
  ae_c (pe_glob (v := .ref f) hg hm rfl hd) (fun _ _ => .ptr f) h
/-- what an operation on values asks -/
def RV (X : Cx) (r : R2) (x y : Val) (M : Mem) (P : Val → Mem → Prop) : Prop := ∀ Hi H v w, Ok X.K Hi M H → Rep X.K Hi x v → Rep X.K Hi y w → ∀ Q, Post X.K Hi P Q → r v w H Q
theorem ae_op {op : Operator} {r : R2} (ho : OpR X (binaryOp op) r) (h : aE X a Γ M fun x M1 => aE X b Γ M1 fun y M2 => RV X r x y M2 P) : aE X (.BinOp a op b pos) Γ M P := fun Hi H σ ok en Q q => by
  refine ⟨_, pe_op ho pe_we pe_we, ?_⟩
  refine h Hi H σ ok en _ fun x M1 v Hi1 H1 h1 s1 ok1 r1 => ?_
  refine h1 Hi1 H1 σ ok1 (en.mono s1) _ fun y M2 w Hi2 H2 h2 s2 ok2 r2 => ?_
  exact h2 Hi2 H2 v w ok2 (r1.mono s2) r2 Q (q.up (s1.trans s2))
theorem rv_I0 {g : Int → Int → V} {f : Int → Int → Val} {i j : Int} (hr : ∀ K H, Rep K H (f i j) (g i j)) (h : P (f i j) M) : RV X (rI0 g) (.int i) (.int j) M P := fun Hi H v w ok rv rw_ Q q => by
  cases rv
  cases rw_
  exact ⟨i, j, rfl, rfl, q _ _ _ Hi H h (Same.refl _) ok (hr _ _)⟩
theorem rv_I {C : Int → Int → Prop} {g : Int → Int → V} {f : Int → Int → Val} {i j : Int} (hc : C i j) (hr : ∀ K H, Rep K H (f i j) (g i j)) (h : P (f i j) M) : RV X (rI C g) (.int i) (.int j) M P := fun Hi H v w ok rv rw_ Q q => by
  cases rv
  cases rw_
  exact ⟨i, j, rfl, rfl, hc, q _ _ _ Hi H h (Same.refl _) ok (hr _ _)⟩
theorem av_op {op : Operator} {r : R2} (ho : OpR X (binaryOp op) r) (ha : aV X a Γ M d1) (hb : aV X b Γ M d2) (hr : RV X r d1 d2 M P) : aE X (.BinOp a op b pos) Γ M P := ae_op ho (ha.val (hb.val hr))
variable {i j : Int}
theorem av_add (ha : aV X a Γ M (.int i)) (hb : aV X b Γ M (.int j)) : aV X (.BinOp a .Add b pos) Γ M (.int (i + j)) := av_op op_add ha hb (rv_I0 (f := fun i j => .int (i + j)) (fun _ _ => .int _) ⟨rfl, rfl⟩)
theorem av_sub (ha : aV X a Γ M (.int i)) (hb : aV X b Γ M (.int j)) : aV X (.BinOp a .Sub b pos) Γ M (.int (i - j)) := av_op op_sub ha hb (rv_I0 (f := fun i j => .int (i - j)) (fun _ _ => .int _) ⟨rfl, rfl⟩)
theorem av_mod (ha : aV X a Γ M (.int i)) (hb : aV X b Γ M (.int j)) (hc : 0 < j) : aV X (.BinOp a .Mod b pos) Γ M (.int (i % j)) := av_op op_mod ha hb (rv_I (f := fun i j => .int (i % j)) hc (fun _ _ => .int _) ⟨rfl, rfl⟩)
theorem av_fdiv (ha : aV X a Γ M (.int i)) (hb : aV X b Γ M (.int j)) (hc : CDiv i j) : aV X (.BinOp a .FloorDiv b pos) Γ M (.int (i / j)) := av_op op_fdiv ha hb (rv_I (f := fun i j => .int (i / j)) hc (fun _ _ => .int _) ⟨rfl, rfl⟩)
theorem av_pow (ha : aV X a Γ M (.int i)) (hb : aV X b Γ M (.int j)) (hc : CPow i j) : aV X (.BinOp a .Pow b pos) Γ M (.int (i ^ j.toNat)) := av_op op_pow ha hb (rv_I (f := fun i j => .int (i ^ j.toNat)) hc (fun _ _ => .int _) ⟨rfl, rfl⟩)
end
end Ab
namespace Ab
open PySem PySem.Spec PyProof.Rows L2
/-- a value as it may be read: itself, or the list that stands in its cell -/
inductive Vw (M : Mem) : Val → Val → Prop
  | self (d : Val) : Vw M d d
  | lst (i : Nat) {p : Addr} {xs : List Val} : M[i]? = some (p, .lst xs) → Vw M (.ptr p) (.lst xs)
theorem Vw.rep {K : PySem.W.Frag} {Hi H : Hp} {M : Mem} {d e : Val} {v : V} (h : Vw M d e) (ok : Ok K Hi M H) (r : Rep K Hi d v) : Rep K H e v := by
  cases h with
  | self => exact r.mono ok.im
  | lst i hm =>
    obtain ⟨_, o, ho, xs', rfl, ra⟩ := ok.get hm
    cases r
    exact .lst (SqL.of ho) (ra.mono ok.im)
mutual
def toD : Val → Option PyData
  | .non => some .none
  | .bl b => some (.bool b)
  | .int i => some (.int i)
  | .str x => some (.str x)
  | .lst xs => (toDs xs).map PyData.list
  | .tup xs => (toDs xs).map PyData.tuple
  | .ty _ => none
  | .ptr _ => none
  | .obj _ _ => none
  | .exc _ _ => none
  | .lam _ _ => none
def toDs : List Val → Option (List PyData)
  | [] => some []
  | x :: xs => (toD x).bind fun d => (toDs xs).map fun ds => d :: ds
end
mutual
theorem rep_dp {K : PySem.W.Frag} {H : Hp} : ∀ (x : Val) {v : V} {d : PyData}, Rep K H x v → toD x = some d → Dp K H v d
  | .non, _, _, .non, e => by cases e; exact .non
  | .bl b, _, _, .bl _, e => by cases e; exact .bl b
  | .int i, _, _, .int _, e => by cases e; exact .int i
  | .str x, _, _, .str _, e => by cases e; exact .str x
  | .lst xs, _, _, .lst h r, e => by
    unfold toD at e
    obtain ⟨ds, h1, rfl⟩ := Option.map_eq_some_iff.mp e
    exact .lst h (rep_dps xs r h1)
  | .tup xs, _, _, .tup h r, e => by
    unfold toD at e
    obtain ⟨ds, h1, rfl⟩ := Option.map_eq_some_iff.mp e
    exact .tup h (rep_dps xs r h1)
  | .ty _, _, _, _, e => by cases e
  | .ptr _, _, _, _, e => by cases e
  | .obj _ _, _, _, _, e => by cases e
  | .exc _ _, _, _, _, e => by cases e
  | .lam _ _, _, _, _, e => by cases e
theorem rep_dps {K : PySem.W.Frag} {H : Hp} : ∀ (xs : List Val) {vs : List V} {ds : List PyData}, RepA K H xs vs → toDs xs = some ds → DpAll K H vs ds
  | [], _, _, .nil, e => by cases e; exact .nil
  | x :: xs, _, _, .cons a r, e => by
    unfold toDs at e
    obtain ⟨d, h1, h2⟩ := Option.bind_eq_some_iff.mp e
    obtain ⟨ds, h3, rfl⟩ := Option.map_eq_some_iff.mp h2
    exact .cons (rep_dp x a h1) (rep_dps xs r h3)
end
section
variable {X : Cx} {Γ : Gam} {M : Mem} {P : Val → Mem → Prop} {e a b c : Expr} {es : List Expr} {pos : Pos} {k : AK} {d d1 d2 d3 : Val} {i j : Int}
/-! ### comparisons -/
def Cmp (X : Cx) (op : CmpOp) (M : Mem) (x y : Val) (b : Bool) : Prop := ∃ r, OpR X (compareOp op) r ∧ RV X r x y M fun z M' => z = .bl b ∧ M' = M
theorem cmp_lt : Cmp X .Lt M (.int i) (.int j) (decide (i < j)) := ⟨_, op_lt, rv_I0 (f := fun i j => .bl (decide (i < j))) (fun _ _ => .bl _) ⟨rfl, rfl⟩⟩
theorem cmp_le : Cmp X .LtE M (.int i) (.int j) (decide (i ≤ j)) := ⟨_, op_le, rv_I0 (f := fun i j => .bl (decide (i ≤ j))) (fun _ _ => .bl _) ⟨rfl, rfl⟩⟩
theorem cmp_gt : Cmp X .Gt M (.int i) (.int j) (decide (j < i)) := ⟨_, op_gt, rv_I0 (f := fun i j => .bl (decide (j < i))) (fun _ _ => .bl _) ⟨rfl, rfl⟩⟩
theorem cmp_ge : Cmp X .GtE M (.int i) (.int j) (decide (j ≤ i)) := ⟨_, op_ge, rv_I0 (f := fun i j => .bl (decide (j ≤ i))) (fun _ _ => .bl _) ⟨rfl, rfl⟩⟩
theorem cmp_eqI : Cmp X .Eq M (.int i) (.int j) (decide (i = j)) := ⟨_, op_eq, fun Hi H v w ok rv rw_ Q q => by
  cases rv
  cases rw_
  refine ⟨rfl, ?_⟩
  have e : decide (V.int i = V.int j) = decide (i = j) := by simp
  rw [e]
  exact q _ M _ Hi H ⟨rfl, rfl⟩ (Same.refl _) ok (.bl _)⟩
theorem cmp_neI : Cmp X .NotEq M (.int i) (.int j) (!decide (i = j)) := ⟨_, op_ne, fun Hi H v w ok rv rw_ Q q => by
  cases rv
  cases rw_
  refine ⟨rfl, ?_⟩
  have e : decide (V.int i = V.int j) = decide (i = j) := by simp
  rw [e]
  exact q _ M _ Hi H ⟨rfl, rfl⟩ (Same.refl _) ok (.bl _)⟩
theorem cmp_eqS {x y : Str} : Cmp X .Eq M (.str x) (.str y) (decide (x = y)) := ⟨_, op_eq, fun Hi H v w ok rv rw_ Q q => by
  cases rv
  cases rw_
  refine ⟨rfl, ?_⟩
  have e : decide (V.str x = V.str y) = decide (x = y) := by simp
  rw [e]
  exact q _ M _ Hi H ⟨rfl, rfl⟩ (Same.refl _) ok (.bl _)⟩
theorem cmp_neS {x y : Str} : Cmp X .NotEq M (.str x) (.str y) (!decide (x = y)) := ⟨_, op_ne, fun Hi H v w ok rv rw_ Q q => by
  cases rv
  cases rw_
  refine ⟨rfl, ?_⟩
  have e : decide (V.str x = V.str y) = decide (x = y) := by simp
  rw [e]
  exact q _ M _ Hi H ⟨rfl, rfl⟩ (Same.refl _) ok (.bl _)⟩
/-- data of any depth -/
theorem cmp_eqD {d1' d2' : Val} {p q : PyData} (v1 : Vw M d1 d1') (v2 : Vw M d2 d2') (h1 : toD d1' = some p) (h2 : toD d2' = some q) (s1 : SeqAt.shaped p = true) (s2 : SeqAt.shaped q = true) (hu : X.A.units + 64 < cLine) : Cmp X .Eq M d1 d2 (PyData.eqv p q) :=
  ⟨_, op_eqD hu, fun Hi H v w ok rv rw_ Q post => ⟨p, q, rep_dp _ (v1.rep ok rv) h1, rep_dp _ (v2.rep ok rw_) h2, s1, s2, post _ M _ Hi H ⟨rfl, rfl⟩ (Same.refl _) ok (.bl _)⟩⟩
theorem cmp_neD {d1' d2' : Val} {p q : PyData} (v1 : Vw M d1 d1') (v2 : Vw M d2 d2') (h1 : toD d1' = some p) (h2 : toD d2' = some q) (s1 : SeqAt.shaped p = true) (s2 : SeqAt.shaped q = true) (hu : X.A.units + 64 < cLine) : Cmp X .NotEq M d1 d2 (!PyData.eqv p q) :=
  ⟨_, op_neD hu, fun Hi H v w ok rv rw_ Q post => ⟨p, q, rep_dp _ (v1.rep ok rv) h1, rep_dp _ (v2.rep ok rw_) h2, s1, s2, post _ M _ Hi H ⟨rfl, rfl⟩ (Same.refl _) ok (.bl _)⟩⟩
def Val.isN : Val → Bool
  | .non => true
  | _ => false
theorem rep_isN {K : PySem.W.Frag} {H : Hp} {x : Val} {v : V} (r : Rep K H x v) : decide (v = .non) = x.isN := by
  cases r <;> rfl
theorem cmp_isN : Cmp X .Is M d .non d.isN := ⟨_, op_isN, fun Hi H v w ok rv rw_ Q q => by
  cases rw_
  refine ⟨rfl, ?_⟩
  rw [rep_isN rv]
  exact q _ M _ Hi H ⟨rfl, rfl⟩ (Same.refl _) ok (.bl _)⟩
theorem Cmp.eq {op : CmpOp} {x y : Val} {b b' : Bool} (h : Cmp X op M x y b) (e : b = b') : Cmp X op M x y b' := e ▸ h
/-- a comparison as a value, as a test -/
theorem ae_cmp {op : CmpOp} {k : Bool} (ha : aV X a Γ M d1) (hb : aV X b Γ M d2) (hc : Cmp X op M d1 d2 k) (h : P (.bl k) M) (hm : behindInMarks op b = false := by first | exact nomark _ | rfl) : aE X (.Compare a [op] [b] pos) Γ M P := fun Hi H σ ok en Q q => by
  obtain ⟨r, ho, hr⟩ := hc
  refine ⟨_, pe_cmpR ho pe_we pe_we hm, ?_⟩
  refine ha Hi H σ ok en _ fun x M1 v Hi1 H1 h1 s1 ok1 r1 => ?_
  obtain ⟨rfl, rfl⟩ := h1
  refine hb Hi1 H1 σ ok1 (en.mono s1) _ fun y M2 w Hi2 H2 h2 s2 ok2 r2 => ?_
  obtain ⟨rfl, rfl⟩ := h2
  exact hr Hi2 H2 v w ok2 (r1.mono s2) r2 Q fun z M' v' Hi3 H3 h3 s3 ok3 r3 => by
    obtain ⟨rfl, rfl⟩ := h3
    exact q _ _ v' Hi3 H3 h ((s1.trans s2).trans s3) ok3 r3
theorem at_cmp {op : CmpOp} {k : Bool} {P : Bool → Mem → Prop} (ha : aV X a Γ M d1) (hb : aV X b Γ M d2) (hc : Cmp X op M d1 d2 k) (h : P k M) (hm : behindInMarks op b = false := by first | exact nomark _ | rfl) : aT X (.Compare a [op] [b] pos) Γ M P := fun Hi H σ ok en Q q => by
  obtain ⟨r, ho, hr⟩ := hc
  refine ⟨_, pt_cmpR ho pe_we pe_we hm, ?_⟩
  refine ha Hi H σ ok en _ fun x M1 v Hi1 H1 h1 s1 ok1 r1 => ?_
  obtain ⟨rfl, rfl⟩ := h1
  refine hb Hi1 H1 σ ok1 (en.mono s1) _ fun y M2 w Hi2 H2 h2 s2 ok2 r2 => ?_
  obtain ⟨rfl, rfl⟩ := h2
  exact hr Hi2 H2 v w ok2 (r1.mono s2) r2 _ fun z M' v' Hi3 H3 h3 s3 ok3 r3 => by
    obtain ⟨rfl, rfl⟩ := h3
    cases r3
    exact ⟨k, rfl, q _ _ Hi3 H3 h ((s1.trans s2).trans s3) ok3⟩
theorem at_chain {op op' : CmpOp} {k1 k2 : Bool} {P : Bool → Mem → Prop} (ha : aV X a Γ M d1) (hb : aV X b Γ M d2) (hc : aV X c Γ M d3) (h1 : Cmp X op M d1 d2 k1) (h2 : Cmp X op' M d2 d3 k2) (h : P (k1 && k2) M) (hm : lastMarks [op, op'] [b, c] = false := by with_unfolding_all rfl) :
    aT X (.Compare a [op, op'] [b, c] pos) Γ M P := fun Hi H σ ok en Q q => by
  obtain ⟨r, ho, hr⟩ := h1
  obtain ⟨r', ho', hr'⟩ := h2
  refine ⟨_, pt_chain ho ho' pe_we pe_we pe_we hm, ?_⟩
  refine ha Hi H σ ok en _ fun x M1 v Hi1 H1 h1 s1 ok1 r1 => ?_
  obtain ⟨rfl, rfl⟩ := h1
  refine hb Hi1 H1 σ ok1 (en.mono s1) _ fun y M2 w Hi2 H2 h2 s2 ok2 r2 => ?_
  obtain ⟨rfl, rfl⟩ := h2
  refine hr Hi2 H2 v w ok2 (r1.mono s2) r2 _ fun z M' v' Hi3 H3 h3 s3 ok3 r3 => ?_
  obtain ⟨rfl, rfl⟩ := h3
  cases r3
  refine ⟨k1, rfl, ?_⟩
  have s13 := (s1.trans s2).trans s3
  cases k1 with
  | false => exact iteF ⟨false, rfl, q _ _ Hi3 H3 h s13 ok3⟩
  | true =>
    refine iteT (hc Hi3 H3 σ ok3 (en.mono s13) _ fun y4 M4 w4 Hi4 H4 h4 s4 ok4 r4 => ?_)
    obtain ⟨rfl, rfl⟩ := h4
    exact hr' Hi4 H4 w w4 ok4 (r2.mono (s3.trans s4)) r4 _ fun z M' v' Hi5 H5 h5 s5 ok5 r5 => by
      obtain ⟨rfl, rfl⟩ := h5
      cases r5
      exact ⟨_, rfl, q _ _ Hi5 H5 h ((s13.trans s4).trans s5) ok5⟩
/-! ### tests -/
theorem at_val {P : Bool → Mem → Prop} (h : aE X e Γ M fun x M' => ∃ k, x = .bl k ∧ P k M') (he : ∀ whole, isTrue e X.env whole = (do let v ← whole; standAt e.pos; holding [v] (truthy v)) := by intro _; rfl) : aT X e Γ M P := fun Hi H σ ok en Q q => by
  refine ⟨_, pt_val pe_we he, ?_⟩
  refine h Hi H σ ok en _ fun x M1 v Hi1 H1 h1 s1 ok1 r1 => ?_
  obtain ⟨k, rfl, p⟩ := h1
  cases r1
  exact ⟨k, rfl, q _ _ Hi1 H1 p s1 ok1⟩
theorem at_not {P : Bool → Mem → Prop} (h : aT X a Γ M fun x M' => P (!x) M') : aT X (.UnaryOp .Not a pos) Γ M P := fun Hi H σ ok en Q q => by
  refine ⟨_, pt_not pt_wt, ?_⟩
  exact h Hi H σ ok en _ fun x M1 Hi1 H1 h1 s1 ok1 => q _ _ Hi1 H1 h1 s1 ok1
def WW (X : Cx) (e : Expr) : TT := fun σ H Q => ∃ t, PW X e t ∧ t σ H Q
theorem pw_ww : PW X e (WW X e) := ⟨fun whole pins s σ H Q I ⟨t, p, h⟩ => p.run whole pins s σ H Q I h⟩
def aW (X : Cx) (e : Expr) (Γ : Gam) (M : Mem) (P : Bool → Mem → Prop) : Prop := ∀ Hi H σ, Ok X.K Hi M H → EnvR X.K Hi Γ σ → ∀ Q, PostT X.K Hi P Q → WW X e σ H Q
theorem at_w {P : Bool → Mem → Prop} (h : aW X e Γ M P) : aT X e Γ M P := fun Hi H σ ok en Q q => by
  obtain ⟨t, p, z⟩ := h Hi H σ ok en Q q
  exact ⟨t, p.pt, z⟩
theorem aw_and1 {P : Bool → Mem → Prop} (h : aT X a Γ M P) : aW X (.BoolOp .And [a] pos) Γ M P := fun Hi H σ ok en Q q => ⟨_, pw_and1 pt_wt, h Hi H σ ok en Q q⟩
theorem aw_or1 {P : Bool → Mem → Prop} (h : aT X a Γ M P) : aW X (.BoolOp .Or [a] pos) Γ M P := fun Hi H σ ok en Q q => ⟨_, pw_or1 pt_wt, h Hi H σ ok en Q q⟩
theorem aw_and {P : Bool → Mem → Prop} {rest : List Expr} (h : aT X a Γ M fun x M' => (x = true → aW X (.BoolOp .And (b :: rest) pos) Γ M' P) ∧ (x = false → P false M')) : aW X (.BoolOp .And (a :: b :: rest) pos) Γ M P := fun Hi H σ ok en Q q => by
  refine ⟨_, pw_and pt_wt pw_ww, ?_⟩
  refine h Hi H σ ok en _ fun x M1 Hi1 H1 h1 s1 ok1 => ?_
  cases x with
  | true => exact iteT (h1.1 rfl Hi1 H1 σ ok1 (en.mono s1) _ (q.up s1))
  | false => exact iteF (q _ _ Hi1 H1 (h1.2 rfl) s1 ok1)
theorem aw_or {P : Bool → Mem → Prop} {rest : List Expr} (h : aT X a Γ M fun x M' => (x = true → P true M') ∧ (x = false → aW X (.BoolOp .Or (b :: rest) pos) Γ M' P)) : aW X (.BoolOp .Or (a :: b :: rest) pos) Γ M P := fun Hi H σ ok en Q q => by
  refine ⟨_, pw_or pt_wt pw_ww, ?_⟩
  refine h Hi H σ ok en _ fun x M1 Hi1 H1 h1 s1 ok1 => ?_
  cases x with
  | false => exact iteF (h1.2 rfl Hi1 H1 σ ok1 (en.mono s1) _ (q.up s1))
  | true => exact iteT (q _ _ Hi1 H1 (h1.1 rfl) s1 ok1)
/-- as values -/
theorem ae_and {rest : List Expr} (h : aE X a Γ M fun x M' => ∃ k, x = .bl k ∧ (k = true → aE X (.BoolOp .And (b :: rest) pos) Γ M' P) ∧ (k = false → P (.bl false) M')) : aE X (.BoolOp .And (a :: b :: rest) pos) Γ M P := fun Hi H σ ok en Q q => by
  refine ⟨_, pe_and pe_we pe_we, ?_⟩
  refine h Hi H σ ok en _ fun x M1 v Hi1 H1 h1 s1 ok1 r1 => ?_
  obtain ⟨k, rfl, h2, h3⟩ := h1
  cases r1
  refine ⟨k, rfl, ?_⟩
  cases k with
  | true => exact iteT (h2 rfl Hi1 H1 σ ok1 (en.mono s1) _ (q.up s1))
  | false => exact iteF (q _ _ _ Hi1 H1 (h3 rfl) s1 ok1 (.bl _))
theorem ae_or {rest : List Expr} (h : aE X a Γ M fun x M' => ∃ k, x = .bl k ∧ (k = true → P (.bl true) M') ∧ (k = false → aE X (.BoolOp .Or (b :: rest) pos) Γ M' P)) : aE X (.BoolOp .Or (a :: b :: rest) pos) Γ M P := fun Hi H σ ok en Q q => by
  refine ⟨_, pe_or pe_we pe_we, ?_⟩
  refine h Hi H σ ok en _ fun x M1 v Hi1 H1 h1 s1 ok1 r1 => ?_
  obtain ⟨k, rfl, h2, h3⟩ := h1
  cases r1
  refine ⟨k, rfl, ?_⟩
  cases k with
  | false => exact iteF (h3 rfl Hi1 H1 σ ok1 (en.mono s1) _ (q.up s1))
  | true => exact iteT (q _ _ _ Hi1 H1 (h2 rfl) s1 ok1 (.bl _))
theorem ae_one {op} (h : aE X a Γ M P) : aE X (.BoolOp op [a] pos) Γ M P := fun Hi H σ ok en Q q => ⟨_, pe_one pe_we, h Hi H σ ok en Q q⟩
theorem ae_not (h : aE X a Γ M fun x M' => ∃ k, x = .bl k ∧ P (.bl (!k)) M') : aE X (.UnaryOp .Not a pos) Γ M P := fun Hi H σ ok en Q q => by
  refine ⟨_, pe_not pe_we, ?_⟩
  refine h Hi H σ ok en _ fun x M1 v Hi1 H1 h1 s1 ok1 r1 => ?_
  obtain ⟨k, rfl, h2⟩ := h1
  cases r1
  exact ⟨k, rfl, q _ _ _ Hi1 H1 h2 s1 ok1 (.bl _)⟩
theorem ae_if (h : aT X c Γ M fun x M' => (x = true → aE X a Γ M' P) ∧ (x = false → aE X b Γ M' P)) : aE X (.IfExp c a b pos) Γ M P := fun Hi H σ ok en Q q => by
  refine ⟨_, pe_ifExp pt_wt pe_we pe_we, ?_⟩
  refine h Hi H σ ok en _ fun x M1 Hi1 H1 h1 s1 ok1 => ?_
  cases x with
  | true => exact iteT (h1.1 rfl Hi1 H1 σ ok1 (en.mono s1) _ (q.up s1))
  | false => exact iteF (h1.2 rfl Hi1 H1 σ ok1 (en.mono s1) _ (q.up s1))
/-- truth of a pure test in two ways -/
theorem ae_ifd {p : Prop} [Decidable p] (hc : aB X c Γ M (decide p)) (h1 : p → aE X a Γ M P) (h2 : ¬ p → aE X b Γ M P) : aE X (.IfExp c a b pos) Γ M P :=
  ae_if (hc.val ⟨fun z => h1 (of_decide_eq_true z), fun z => h2 (of_decide_eq_false z)⟩)
/-! ### arguments, displays -/
theorem aa_nil {P : List Val → Mem → Prop} (h : P [] M) : aA X [] Γ M P := fun Hi H σ ok en Q q => ⟨_, pa_nil, q _ _ _ Hi H h (Same.refl _) ok .nil⟩
theorem aa_cons {P : List Val → Mem → Prop} (h : aE X e Γ M fun x M1 => aA X es Γ M1 fun xs M2 => P (x :: xs) M2) (hs : starEach (e :: es) X.env = (false, eval e X.env) :: starEach es X.env := by rfl) : aA X (e :: es) Γ M P := fun Hi H σ ok en Q q => by
  refine ⟨_, pa_cons pe_we pa_wa hs, ?_⟩
  refine h Hi H σ ok en _ fun x M1 v Hi1 H1 h1 s1 ok1 r1 => ?_
  exact h1 Hi1 H1 σ ok1 (en.mono s1) _ fun xs M2 vs Hi2 H2 h2 s2 ok2 r2 => q _ _ _ Hi2 H2 h2 (s1.trans s2) ok2 (.cons (r1.mono s2) r2)
theorem avs_nil : aVs X [] Γ M [] := aa_nil ⟨rfl, rfl⟩
theorem avs_cons {ds : List Val} (h : aV X e Γ M d) (hr : aVs X es Γ M ds) (hs : starEach (e :: es) X.env = (false, eval e X.env) :: starEach es X.env := by rfl) : aVs X (e :: es) Γ M (d :: ds) :=
  aa_cons (h.val (hr.val ⟨rfl, rfl⟩)) hs
theorem ae_tup {x1} (h : aA X es Γ M fun xs M' => xs.length ≤ sizeLine ∧ P (.tup xs) M') : aE X (.Tuple es x1 pos) Γ M P := fun Hi H σ ok en Q q => by
  refine ⟨_, pe_tup pa_wa, ?_⟩
  refine h Hi H σ ok en _ fun xs M1 vs Hi1 H1 h1 s1 ok1 r1 => ?_
  refine ⟨r1.length ▸ h1.1, fun p hp => ?_⟩
  have s2 := same_upd (o := .tup vs) (ok1.none hp)
  exact q _ _ _ _ _ h1.2 (s1.trans s2) (ok1.imm hp) (.tup (SqT.of upd_same) (r1.mono s2))
theorem av_tup {x1} {ds : List Val} (h : aVs X es Γ M ds) (hl : ds.length ≤ sizeLine) : aV X (.Tuple es x1 pos) Γ M (.tup ds) := ae_tup (h.val ⟨hl, rfl, rfl⟩)
/-- a list that will not change -/
theorem ae_lst (h : aA X es Γ M fun xs M' => xs.length ≤ sizeLine ∧ P (.lst xs) M') : aE X (.List es pos) Γ M P := fun Hi H σ ok en Q q => by
  refine ⟨_, pe_lst pa_wa, ?_⟩
  refine h Hi H σ ok en _ fun xs M1 vs Hi1 H1 h1 s1 ok1 r1 => ?_
  refine ⟨r1.length ▸ h1.1, fun p hp => ?_⟩
  have s2 := same_upd (o := .lst vs) (ok1.none hp)
  exact q _ _ _ _ _ h1.2 (s1.trans s2) (ok1.imm hp) (.lst (SqL.of upd_same) (r1.mono s2))
/-- a list that will change: a new cell -/
theorem ae_lstC (h : aA X es Γ M fun xs M' => xs.length ≤ sizeLine ∧ ∀ p, P (.ptr p) ((p, .lst xs) :: M')) : aE X (.List es pos) Γ M P := fun Hi H σ ok en Q q => by
  refine ⟨_, pe_lst pa_wa, ?_⟩
  refine h Hi H σ ok en _ fun xs M1 vs Hi1 H1 h1 s1 ok1 r1 => ?_
  refine ⟨r1.length ▸ h1.1, fun p hp => ?_⟩
  exact q _ _ _ _ _ (h1.2 p) s1 (ok1.new hp ⟨vs, rfl, r1⟩) (.ptr p)
/-! ### places -/
theorem rep_at {K : PySem.W.Frag} {H : Hp} {ds : List Val} {vs : List V} (r : RepA K H ds vs) {i : Int} {d : Val} (h : atI ds i = some d) : ∃ v, atI vs i = some v ∧ Rep K H d v := by
  unfold atI at h ⊢
  rw [← r.length]
  cases e : ixN ds.length i with
  | none => rw [e] at h; cases h
  | some j =>
    rw [e] at h
    exact r.get h
/-- xs[i], t[i] -/
theorem ae_ixL {xs : List Val} (ha : aV X a Γ M d1) (hb : aV X b Γ M (.int i)) (hv : Vw M d1 (.lst xs)) (h : ∃ d, atI xs i = some d ∧ P d M) (hs : PlainIx b := by exact fun _ _ => rfl) : aE X (.Subscript a b pos) Γ M P := fun Hi H σ ok en Q q => by
  obtain ⟨d, hd, p⟩ := h
  refine ⟨_, pe_ix ix_list pe_we pe_we hs, ?_⟩
  refine ha Hi H σ ok en _ fun x M1 v Hi1 H1 h1 s1 ok1 r1 => ?_
  obtain ⟨rfl, rfl⟩ := h1
  refine hb Hi1 H1 σ ok1 (en.mono s1) _ fun y M2 w Hi2 H2 h2 s2 ok2 r2 => ?_
  obtain ⟨rfl, rfl⟩ := h2
  cases r2
  cases hv with
  | self =>
    cases r1.mono s2 with
    | lst hq ra =>
      obtain ⟨z, hz, rz⟩ := rep_at ra hd
      exact ⟨_, _, i, z, rfl, rfl, ok2.im.seq hq, hz, q _ _ z Hi2 H2 p (s1.trans s2) ok2 rz⟩
  | lst j hm =>
    obtain ⟨_, o, ho, xs', rfl, ra⟩ := ok2.get hm
    cases r1
    obtain ⟨z, hz, rz⟩ := rep_at ra hd
    exact ⟨_, _, i, z, rfl, rfl, SqL.of ho, hz, q _ _ z Hi2 H2 p (s1.trans s2) ok2 rz⟩
theorem ae_ixT {xs : List Val} (ha : aV X a Γ M (.tup xs)) (hb : aV X b Γ M (.int i)) (h : ∃ d, atI xs i = some d ∧ P d M) (hs : PlainIx b := by exact fun _ _ => rfl) : aE X (.Subscript a b pos) Γ M P := fun Hi H σ ok en Q q => by
  obtain ⟨d, hd, p⟩ := h
  refine ⟨_, pe_ix ix_tup pe_we pe_we hs, ?_⟩
  refine ha Hi H σ ok en _ fun x M1 v Hi1 H1 h1 s1 ok1 r1 => ?_
  obtain ⟨rfl, rfl⟩ := h1
  refine hb Hi1 H1 σ ok1 (en.mono s1) _ fun y M2 w Hi2 H2 h2 s2 ok2 r2 => ?_
  obtain ⟨rfl, rfl⟩ := h2
  cases r2
  cases r1.mono s2 with
  | tup hq ra =>
    obtain ⟨z, hz, rz⟩ := rep_at ra hd
    exact ⟨_, _, i, z, rfl, rfl, sameT ok2.im hq, hz, q _ _ z Hi2 H2 p (s1.trans s2) ok2 rz⟩
theorem av_ixL {xs : List Val} (ha : aV X a Γ M d1) (hb : aV X b Γ M (.int i)) (hv : Vw M d1 (.lst xs)) (hd : atI xs i = some d) (hs : PlainIx b := by exact fun _ _ => rfl) : aV X (.Subscript a b pos) Γ M d := ae_ixL ha hb hv ⟨d, hd, rfl, rfl⟩ hs
theorem av_ixT {xs : List Val} (ha : aV X a Γ M (.tup xs)) (hb : aV X b Γ M (.int i)) (hd : atI xs i = some d) (hs : PlainIx b := by exact fun _ _ => rfl) : aV X (.Subscript a b pos) Γ M d := ae_ixT ha hb ⟨d, hd, rfl, rfl⟩ hs
end
end Ab
namespace Ab
open PySem PySem.Spec PyProof.Rows L2
section
variable {X : Cx} {Γ : Gam} {M : Mem} {P : Val → Mem → Prop} {e a b c o : Expr} {es : List Expr} {pos p1 p2 apos : Pos} {k : AK} {d d1 d2 d3 : Val} {i j : Int} {x f m : Str}
/-- a new list's cell that will not change -/
theorem ae_frz (h : aE X e Γ M fun d M' => ∃ p xs M'', d = .ptr p ∧ M' = (p, .lst xs) :: M'' ∧ P (.lst xs) M'') : aE X e Γ M P := fun Hi H σ ok en Q q => by
  refine h Hi H σ ok en _ fun d M1 v Hi1 H1 h1 s1 ok1 r1 => ?_
  obtain ⟨p, xs, M2, rfl, rfl, hp⟩ := h1
  obtain ⟨e0, o, ho, vs, rfl, ra⟩ := ok1.ce p _ List.mem_cons_self
  cases r1
  have s2 := same_upd (o := .lst vs) e0
  exact q _ _ _ _ _ hp (s1.trans s2) (ok1.freeze ho) (.lst (SqL.of upd_same) (ra.mono s2))
/-! ### calls of built-ins -/
def RA (X : Cx) (r : List V → Hp → VK → Prop) (xs : List Val) (M : Mem) (P : Val → Mem → Prop) : Prop := ∀ Hi H vs, Ok X.K Hi M H → RepA X.K Hi xs vs → ∀ Q, Post X.K Hi P Q → r vs H Q
theorem ae_callB {id : String} {r : List V → Hp → VK → Prop} (hc : CallR X (.builtin id) r) (hm : X.mg x = none) (hv : bootBuiltins x = some (.builtin id)) (h : aA X (e :: es) Γ M fun xs M' => RA X r xs M' P)
    (hg : Gl X x := by rfl) (hn : x ≠ "__name__" := by decide) (hdb : (x == ("__debug__" : Str)) = false := by decide)
    (he : starEach (e :: es) X.env = (false, eval e X.env) :: starEach es X.env := by rfl) (hpl : (backTo pos (starEach es X.env)).any (·.1) = false := by rfl) : aE X (.Call (.Name x p1) (e :: es) [] pos) Γ M P := fun Hi H σ ok en Q q => by
  refine ⟨_, pe_callB hc hg hm hv pa_wa hn hdb he hpl, ?_⟩
  exact h Hi H σ ok en _ fun xs M1 vs Hi1 H1 h1 s1 ok1 r1 => h1 Hi1 H1 vs ok1 r1 Q (q.up s1)
theorem ae_callTy {T : String} {r : List V → Hp → VK → Prop} (hc : CallR X (.type T) r) (hm : X.mg x = none) (hv : bootBuiltins x = some (.type T)) (h : aA X (e :: es) Γ M fun xs M' => RA X r xs M' P)
    (hg : Gl X x := by rfl) (hn : x ≠ "__name__" := by decide) (hdb : (x == ("__debug__" : Str)) = false := by decide)
    (he : starEach (e :: es) X.env = (false, eval e X.env) :: starEach es X.env := by rfl) (hpl : (backTo pos (starEach es X.env)).any (·.1) = false := by rfl) : aE X (.Call (.Name x p1) (e :: es) [] pos) Γ M P := fun Hi H σ ok en Q q => by
  refine ⟨_, pe_callTy hc hg hm hv pa_wa hn hdb he hpl, ?_⟩
  exact h Hi H σ ok en _ fun xs M1 vs Hi1 H1 h1 s1 ok1 r1 => h1 Hi1 H1 vs ok1 r1 Q (q.up s1)
/-- what a list or tuple value is -/
inductive Sq (M : Mem) : Val → List Val → Prop
  | l {d : Val} {xs : List Val} : Vw M d (.lst xs) → Sq M d xs
  | t {xs : List Val} : Sq M (.tup xs) xs
theorem Sq.rep {K : PySem.W.Frag} {Hi H : Hp} {d : Val} {xs : List Val} {v : V} (h : Sq M d xs) (ok : Ok K Hi M H) (r : Rep K Hi d v) : ∃ p ys, v = .ref p ∧ (SqL K H p ys ∨ SqT K H p ys) ∧ RepA K Hi xs ys := by
  cases h with
  | l h =>
    cases h with
    | self => cases r with
      | lst hq ra => exact ⟨_, _, rfl, .inl (ok.im.seq hq), ra⟩
    | lst i hm =>
      obtain ⟨_, o, ho, ys, rfl, ra⟩ := ok.get hm
      cases r
      exact ⟨_, _, rfl, .inl (SqL.of ho), ra⟩
  | t => cases r with
    | tup hq ra => exact ⟨_, _, rfl, .inr (sameT ok.im hq), ra⟩
theorem Vw.repL {K : PySem.W.Frag} {Hi H : Hp} {d : Val} {xs : List Val} {v : V} (h : Vw M d (.lst xs)) (ok : Ok K Hi M H) (r : Rep K Hi d v) : ∃ p ys, v = .ref p ∧ SqL K H p ys ∧ RepA K Hi xs ys := by
  cases h with
  | self => cases r with
    | lst hq ra => exact ⟨_, _, rfl, ok.im.seq hq, ra⟩
  | lst i hm =>
    obtain ⟨_, o, ho, ys, rfl, ra⟩ := ok.get hm
    cases r
    exact ⟨_, _, rfl, SqL.of ho, ra⟩
theorem ae_len {xs : List Val} (hm : X.mg "len" = none) (ha : aV X a Γ M d) (hs : Sq M d xs) (h : P (.int xs.length) M) (hg : Gl X "len" := by rfl) (hst : starEach [a] X.env = [(false, eval a X.env)] := by rfl) : aE X (.Call (.Name "len" p1) [a] [] pos) Γ M P :=
  ae_callB call_len_seq hm PySem.boot_len (aa_cons (ha.val (aa_nil fun Hi H vs ok r Q q => by
    cases r with
    | cons r1 r2 =>
      cases r2
      obtain ⟨p, ys, rfl, hq, ra⟩ := hs.rep ok r1
      refine ⟨p, ys, rfl, hq, ?_⟩
      rw [← ra.length]
      exact q _ _ _ Hi H h (Same.refl _) ok (.int _))) hst) hg (he := hst) (hpl := rfl)
theorem av_len {xs : List Val} (hm : X.mg "len" = none) (ha : aV X a Γ M d) (hs : Sq M d xs) (hg : Gl X "len" := by rfl) (hst : starEach [a] X.env = [(false, eval a X.env)] := by rfl) : aV X (.Call (.Name "len" p1) [a] [] pos) Γ M (.int xs.length) := ae_len hm ha hs ⟨rfl, rfl⟩ hg hst
/-- list(x): a new cell -/
theorem ae_list (hm : X.mg "list" = none) (ha : aE X a Γ M fun d M' => ∃ xs, Sq M' d xs ∧ ∀ p, P (.ptr p) ((p, .lst xs) :: M')) (hg : Gl X "list" := by rfl) (hst : starEach [a] X.env = [(false, eval a X.env)] := by rfl) : aE X (.Call (.Name "list" p1) [a] [] pos) Γ M P :=
  ae_callTy call_list_of hm (by decide +kernel) (aa_cons (ha.mono fun d M' ⟨xs, hs, h⟩ => aa_nil fun Hi H vs ok r Q q => by
    cases r with
    | cons r1 r2 =>
      cases r2
      obtain ⟨p, ys, rfl, hq, ra⟩ := hs.rep ok r1
      exact ⟨p, ys, rfl, hq, fun l hl => q _ _ _ _ _ (h l) (Same.refl _) (ok.new hl ⟨ys, rfl, ra⟩) (.ptr l)⟩) hst) hg (he := hst) (hpl := rfl)
/-- tuple(x) -/
theorem ae_tuple (hm : X.mg "tuple" = none) (ha : aE X a Γ M fun d M' => ∃ xs, Sq M' d xs ∧ P (.tup xs) M') (hg : Gl X "tuple" := by rfl) (hst : starEach [a] X.env = [(false, eval a X.env)] := by rfl) : aE X (.Call (.Name "tuple" p1) [a] [] pos) Γ M P :=
  ae_callTy call_tuple_of hm (by decide +kernel) (aa_cons (ha.mono fun d M' ⟨xs, hs, h⟩ => aa_nil fun Hi H vs ok r Q q => by
    cases r with
    | cons r1 r2 =>
      cases r2
      cases hs with
      | l hs =>
        obtain ⟨p, ys, rfl, hq, ra⟩ := hs.repL ok r1
        refine ⟨p, ys, rfl, .inl ⟨hq, fun l hl => ?_⟩⟩
        have s2 := same_upd (o := .tup ys) (ok.none hl)
        exact q _ _ _ _ _ h s2 (ok.imm hl) (.tup (SqT.of upd_same) (ra.mono s2))
      | t =>
        cases r1 with
        | tup hq ra => exact ⟨_, _, rfl, .inr ⟨sameT ok.im hq, q _ _ _ Hi H h (Same.refl _) ok (.tup hq ra)⟩⟩) hst) hg (he := hst) (hpl := rfl)
/-! ### slices -/
def aO (X : Cx) (e : Option Expr) (Γ : Gam) (M : Mem) (o : Option Int) : Prop := ∀ Hi H σ, Ok X.K Hi M H → EnvR X.K Hi Γ σ → ∀ Q : Option Int → Hp → Prop, (∀ Hi' H', Same Hi Hi' → Ok X.K Hi' M H' → Q o H') → ∃ t, PO X e t ∧ t σ H Q
theorem ao_none : aO X none Γ M none := fun Hi H σ ok en Q q => ⟨_, po_none, q Hi H (Same.refl _) ok⟩
theorem ao_some (h : aV X e Γ M (.int i)) : aO X (some e) Γ M (some i) := fun Hi H σ ok en Q q => by
  refine ⟨_, po_some pe_we, ?_⟩
  refine h Hi H σ ok en _ fun x M1 v Hi1 H1 h1 s1 ok1 r1 => ?_
  obtain ⟨rfl, rfl⟩ := h1
  cases r1
  exact ⟨i, rfl, q Hi1 H1 s1 ok1⟩
def WO (X : Cx) (e : Option Expr) : TO := fun σ H Q => ∃ t, PO X e t ∧ t σ H Q
theorem po_wo {e : Option Expr} : PO X e (WO X e) := ⟨fun pins s σ H Q I ⟨t, p, h⟩ => p.run pins s σ H Q I h⟩
def cutA (xs : List Val) (lo hi : Option Int) : List Val := (xs.drop (HT.sIx xs.length 0 lo)).take (HT.sIx xs.length xs.length hi - HT.sIx xs.length 0 lo)
theorem rep_cut {K : PySem.W.Frag} {H : Hp} {xs : List Val} {vs : List V} (r : RepA K H xs vs) (lo hi : Option Int) : RepA K H (cutA xs lo hi) (cutV vs lo hi) := by
  unfold cutA cutV
  rw [← r.length]
  exact (r.drop _).take _
theorem ae_sliceL {xs : List Val} {elo ehi : Option Expr} {lo hi : Option Int} (ha : aV X a Γ M d) (hl : aO X elo Γ M lo) (hh : aO X ehi Γ M hi) (hv : Vw M d (.lst xs)) (h : ∀ p, P (.ptr p) ((p, .lst (cutA xs lo hi)) :: M)) : aE X (.Subscript a (.Slice elo ehi none p2) pos) Γ M P := fun Hi H σ ok en Q q => by
  refine ⟨_, pe_slice sl_list pe_we po_wo po_wo, ?_⟩
  refine ha Hi H σ ok en _ fun x M1 v Hi1 H1 h1 s1 ok1 r1 => ?_
  obtain ⟨rfl, rfl⟩ := h1
  refine hl Hi1 H1 σ ok1 (en.mono s1) _ fun Hi2 H2 s2 ok2 => ?_
  refine hh Hi2 H2 σ ok2 (en.mono (s1.trans s2)) _ fun Hi3 H3 s3 ok3 => ?_
  have s13 := (s1.trans s2).trans s3
  obtain ⟨p, ys, rfl, hq, ra⟩ := hv.repL ok3 (r1.mono (s2.trans s3))
  exact ⟨p, ys, rfl, hq, fun l hl => q _ _ _ _ _ (h l) s13 (ok3.new hl ⟨_, rfl, rep_cut ra lo hi⟩) (.ptr l)⟩
theorem ae_sliceT {xs : List Val} {elo ehi : Option Expr} {lo hi : Option Int} (ha : aV X a Γ M (.tup xs)) (hl : aO X elo Γ M lo) (hh : aO X ehi Γ M hi) (h : P (.tup (cutA xs lo hi)) M) : aE X (.Subscript a (.Slice elo ehi none p2) pos) Γ M P := fun Hi H σ ok en Q q => by
  refine ⟨_, pe_slice sl_tupA pe_we po_wo po_wo, ?_⟩
  refine ha Hi H σ ok en _ fun x M1 v Hi1 H1 h1 s1 ok1 r1 => ?_
  obtain ⟨rfl, rfl⟩ := h1
  refine hl Hi1 H1 σ ok1 (en.mono s1) _ fun Hi2 H2 s2 ok2 => ?_
  refine hh Hi2 H2 σ ok2 (en.mono (s1.trans s2)) _ fun Hi3 H3 s3 ok3 => ?_
  have s13 := (s1.trans s2).trans s3
  cases r1.mono (s2.trans s3) with
  | @tup p ys _ hq ra =>
    refine ⟨p, ys, rfl, sameT ok3.im hq, fun hw => ?_, fun hw l hl => ?_⟩
    · have e : cutA xs lo hi = xs := by
        unfold cutA
        rw [ra.length, hw.1, hw.2]
        rw [← ra.length]
        simp
      rw [e] at h
      exact q _ _ _ Hi3 H3 h s13 ok3 (.tup hq ra)
    · have s4 := same_upd (o := .tup (cutV ys lo hi)) (ok3.none hl)
      exact q _ _ _ _ _ h (s13.trans s4) (ok3.imm hl) (.tup (SqT.of upd_same) ((rep_cut ra lo hi).mono s4))
/-! ### fields -/
/-- an instance: one that will not change, or a cell -/
inductive Ob (M : Mem) (C : Addr) : Val → List (Str × Val) → Prop
  | im (fs : List (Str × Val)) : Ob M C (.obj C fs) fs
  | ce (i : Nat) {p : Addr} {fs : List (Str × Val)} : M[i]? = some (p, .ins C fs) → Ob M C (.ptr p) fs
theorem Ob.rep {K : PySem.W.Frag} {Hi H : Hp} {C : Addr} {d : Val} {fs : List (Str × Val)} {v : V} (h : Ob M C d fs) (ok : Ok K Hi M H) (r : Rep K Hi d v) : ∃ p dx gs, v = .ref p ∧ H p = some (.ins C dx gs) ∧ RepF K Hi fs gs := by
  cases h with
  | im => cases r with
    | obj hq ra => exact ⟨_, _, _, rfl, ok.im _ _ hq, ra⟩
  | ce i hm =>
    obtain ⟨_, o, ho, dx, gs, rfl, ra⟩ := ok.get hm
    cases r
    exact ⟨_, _, _, rfl, ho, ra⟩
theorem ae_fld {C : Addr} (c : Cls X.K C) (n : NoAttr X.K C f) (ha : aE X a Γ M fun d M' => ∃ fs v, Ob M' C d fs ∧ fs.lookup f = some v ∧ P v M') (hb : attributeBase a f X.env (eval a X.env) = eval a X.env := by rfl) : aE X (.Attribute a f pos) Γ M P := fun Hi H σ ok en Q q => by
  refine ⟨_, pe_fld pe_we hb, ?_⟩
  refine ha Hi H σ ok en _ fun x M1 v Hi1 H1 h1 s1 ok1 r1 => ?_
  obtain ⟨fs, z, ho, hf, hp⟩ := h1
  obtain ⟨p, dx, gs, rfl, hq, ra⟩ := ho.rep ok1 r1
  obtain ⟨w, hw, rw_⟩ := ra.lookup hf
  exact ⟨p, C, dx, gs, w, rfl, hq, c, n, hw, q _ _ w Hi1 H1 hp s1 ok1 rw_⟩
theorem av_fld {C : Addr} {fs : List (Str × Val)} (c : Cls X.K C) (n : NoAttr X.K C f) (ha : aV X a Γ M d) (ho : Ob M C d fs) (hf : fs.lookup f = some d1) (hb : attributeBase a f X.env (eval a X.env) = eval a X.env := by rfl) : aV X (.Attribute a f pos) Γ M d1 :=
  ae_fld c n (ha.val ⟨fs, d1, ho, hf, rfl, rfl⟩) hb
/-! ### dicts -/
theorem ae_dget {n : Nat} {p : Addr} {kvs : List (Key × Val)} (hu : X.A.units + 1 < cLine) (ha : aV X a Γ M (.ptr p)) (hb : aV X b Γ M (.str x)) (hm : M[n]? = some (p, .dk kvs)) (h : ∃ d, dGet kvs (.inr x) = some d ∧ P d M) (hs : NoSl b := by exact fun _ _ => rfl) : aE X (.Subscript a b pos) Γ M P := fun Hi H σ ok en Q q => by
  obtain ⟨d, hd, hp⟩ := h
  refine ⟨_, pe_dget hu pe_we pe_we hs, ?_⟩
  refine ha Hi H σ ok en _ fun x M1 v Hi1 H1 h1 s1 ok1 r1 => ?_
  obtain ⟨rfl, rfl⟩ := h1
  refine hb Hi1 H1 σ ok1 (en.mono s1) _ fun y M2 w Hi2 H2 h2 s2 ok2 r2 => ?_
  obtain ⟨rfl, rfl⟩ := h2
  cases r1
  cases r2
  obtain ⟨_, o, ho, ks, rfl, rk⟩ := ok2.get hm
  obtain ⟨z, hz, rz⟩ := rk.get hd
  exact ⟨p, z, rfl, .inl ⟨ks, .inr _, .inl ho, rfl, hz.symm⟩, q _ _ z Hi2 H2 hp (s1.trans s2) ok2 rz⟩
theorem av_dget {n : Nat} {p : Addr} {kvs : List (Key × Val)} (hu : X.A.units + 1 < cLine) (ha : aV X a Γ M (.ptr p)) (hb : aV X b Γ M (.str x)) (hm : M[n]? = some (p, .dk kvs)) (hd : dGet kvs (.inr x) = some d) (hs : NoSl b := by exact fun _ _ => rfl) : aV X (.Subscript a b pos) Γ M d := ae_dget hu ha hb hm ⟨d, hd, rfl, rfl⟩ hs
theorem as_dput {n : Nat} {p : Addr} {kvs : List (Key × Val)} {ppos : Pos} (hu : X.A.units + 1 < cLine) (ha : aV X a Γ M (.ptr p)) (hb : aV X b Γ M (.str x)) (he : aV X e Γ M d) (hm : M[n]? = some (p, .dk kvs)) (hl : kvs.length < sizeLine) (h : k.nx Γ (M.set n (p, .dk (dPut kvs (.inr x) d))))
    (hs : swapsWith e (some (.Subscript a b ppos)) pos.line X.env = pure false := by rfl) : aS X (.Assign [.Subscript a b ppos] e pos) Γ M k := fun Hi H σ ok en D q => by
  refine ⟨_, ps_dput hu pe_we pe_we pe_we hs, ?_⟩
  refine he Hi H σ ok en _ fun x0 M0 v0 Hi0 H0 h0 s0 ok0 r0 => ?_
  obtain ⟨rfl, rfl⟩ := h0
  refine ha Hi0 H0 σ ok0 (en.mono s0) _ fun x M1 v Hi1 H1 h1 s1 ok1 r1 => ?_
  obtain ⟨rfl, rfl⟩ := h1
  refine hb Hi1 H1 σ ok1 (en.mono (s0.trans s1)) _ fun y M2 w Hi2 H2 h2 s2 ok2 r2 => ?_
  obtain ⟨rfl, rfl⟩ := h2
  cases r1
  cases r2
  obtain ⟨_, o, ho, ks, rfl, rk⟩ := ok2.get hm
  have s02 := (s0.trans s1).trans s2
  exact ⟨p, _, rfl, .inl ⟨ks, .inr _, ho, rfl, by rw [← rk.length]; exact hl, rfl⟩, q.nx _ _ σ Hi2 _ h s02 (ok2.set hm ⟨_, rfl, rk.put (r0.mono (s1.trans s2))⟩) (en.mono s02)⟩
end
end Ab
namespace Ab
open PySem PySem.Spec PyProof.Rows L2
section
variable {X : Cx} {Γ : Gam} {M : Mem} {P : Val → Mem → Prop} {e a b c o : Expr} {es : List Expr} {pos p1 p2 apos : Pos} {k : AK} {d d1 d2 d3 : Val} {i j : Int} {x y f m : Str} {st : Stmt} {sts : List Stmt}
/-! ### blocks -/
theorem as_nil (h : k.nx Γ M) : aSs X [] Γ M k := fun Hi H σ ok en D q => ⟨_, pss_nil, q.nx Γ M σ Hi H h (Same.refl _) ok en⟩
theorem as_cons (h : aS X st Γ M { k with nx := fun Γ' M' => aSs X sts Γ' M' k }) : aSs X (st :: sts) Γ M k := fun Hi H σ ok en D q => by
  refine ⟨_, pss_cons ps_ws pss_wb, ?_⟩
  exact h Hi H σ ok en { D with nx := WB X sts D } ⟨fun Γ' M' σ' Hi' H' hn s ok' en' => hn Hi' H' σ' ok' en' D (q.up s), q.rt, q.bk, q.ct⟩
theorem as_one (h : aS X st Γ M k) : aSs X [st] Γ M k := fun Hi H σ ok en D q => ⟨_, pss_one ps_ws, h Hi H σ ok en D q⟩
theorem aSs.mono {k' : AK} (h : aSs X sts Γ M k) (f1 : ∀ Γ M, k.nx Γ M → k'.nx Γ M) (f2 : ∀ d M, k.rt d M → k'.rt d M) (f3 : ∀ Γ M, k.bk Γ M → k'.bk Γ M) (f4 : ∀ Γ M, k.ct Γ M → k'.ct Γ M) : aSs X sts Γ M k' := fun Hi H σ ok en D q =>
  h Hi H σ ok en D ⟨fun Γ M σ Hi' H' p => q.nx Γ M σ Hi' H' (f1 Γ M p), fun d M v Hi' H' p => q.rt d M v Hi' H' (f2 d M p), fun Γ M σ Hi' H' p => q.bk Γ M σ Hi' H' (f3 Γ M p), fun Γ M σ Hi' H' p => q.ct Γ M σ Hi' H' (f4 Γ M p)⟩
/-- the list in a slot's cell will change no more -/
theorem as_frz (i : Nat) {p : Addr} {xs : List Val} (hΓ : Γ[i]? = some (some (.ptr p))) (h : aSs X sts (Γ.set i (some (.lst xs))) M k) : aSs X sts Γ ((p, .lst xs) :: M) k := fun Hi H σ ok en D q => by
  obtain ⟨e0, o, ho, vs, rfl, ra⟩ := ok.ce p _ List.mem_cons_self
  have s2 := same_upd (o := .lst vs) e0
  obtain ⟨v, hv, rv⟩ := en.2 i _ hΓ
  cases rv
  have en2 := (en.mono s2).set (i := i) (d := .lst xs) (v := .ref p) (.lst (SqL.of upd_same) (ra.mono s2))
  have e : σ.set i (some (V.ref p)) = σ := by
    apply List.ext_getElem?
    intro j
    by_cases hij : i = j
    · subst hij
      rw [List.getElem?_set_self (List.getElem?_eq_some_iff.mp hv).1, hv]
    · rw [List.getElem?_set_ne hij]
  rw [e] at en2
  exact h _ H σ (ok.freeze ho) en2 D (q.up s2)
/-! ### statements -/
theorem as_expr (h : aE X e Γ M fun _ M' => k.nx Γ M') (hs : swapsWith e none pos.line X.env = pure false := by rfl) : aS X (.Expr e pos) Γ M k := fun Hi H σ ok en D q => by
  refine ⟨_, ps_expr pe_we hs, ?_⟩
  exact h Hi H σ ok en _ fun x M1 v Hi1 H1 h1 s1 ok1 r1 => q.nx _ _ σ Hi1 H1 h1 s1 ok1 (en.mono s1)
theorem as_ret (h : aE X e Γ M k.rt) : aS X (.Return (some e) pos) Γ M k := fun Hi H σ ok en D q => by
  refine ⟨_, ps_ret pe_we, ?_⟩
  exact h Hi H σ ok en _ fun x M1 v Hi1 H1 h1 s1 ok1 r1 => q.rt _ _ v Hi1 H1 h1 s1 ok1 r1
theorem as_if {s1 s2 : List Stmt} (h : aT X c Γ M fun b M' => (b = true → aSs X s1 Γ M' k) ∧ (b = false → aSs X s2 Γ M' k)) : aS X (.If c s1 s2 pos) Γ M k := fun Hi H σ ok en D q => by
  refine ⟨_, ps_if pt_wt pss_wb pss_wb, ?_⟩
  refine h Hi H σ ok en _ fun x M1 Hi1 H1 h1 s1 ok1 => ?_
  cases x with
  | true => exact iteT (h1.1 rfl Hi1 H1 σ ok1 (en.mono s1) D (q.up s1))
  | false => exact iteF (h1.2 rfl Hi1 H1 σ ok1 (en.mono s1) D (q.up s1))
/-! ### targets -/
def WG (X : Cx) (tg : Expr) : TG := fun v σ H Q => ∃ t, PG X tg t ∧ t v σ H Q
theorem pg_wg : PG X e (WG X e) := ⟨fun pins s σ H v u Q I r ⟨t, p, h⟩ => p.run pins s σ H v u Q I r h⟩
def aG (X : Cx) (tg : Expr) (d : Val) (Γ : Gam) (M : Mem) (R : Gam → Mem → Prop) : Prop := ∀ Hi H σ v, Ok X.K Hi M H → EnvR X.K Hi Γ σ → Rep X.K Hi d v → ∀ Q : L2.St → Hp → Prop, (∀ Γ' M' σ' Hi' H', R Γ' M' → Same Hi Hi' → Ok X.K Hi' M' H' → EnvR X.K Hi' Γ' σ' → Q σ' H') → WG X tg v σ H Q
theorem ag_name {R : Gam → Mem → Prop} (n : Nat) (hN : X.N.Nodup) (h : R (Γ.set n (some d)) M) (hi : X.N[n]? = some x := by rfl) (hx : Loc X.env.scope x := by first | exact Or.inl rfl | exact Or.inr rfl) (hf : X.fn x = true ∨ X.env.scope.names.lookup x = some .local := by first | exact .inl rfl | exact .inr rfl | assumption) :
    aG X (.Name x pos) d Γ M R := fun Hi H σ v ok en r Q q => ⟨_, pg_name hN hi hx hf, q _ _ _ Hi H h (Same.refl _) ok (en.set r)⟩
def aGs (X : Cx) (tgs : List Expr) (ds : List Val) (Γ : Gam) (M : Mem) (R : Gam → Mem → Prop) : Prop := ∀ Hi H σ vs, Ok X.K Hi M H → EnvR X.K Hi Γ σ → RepA X.K Hi ds vs → ∀ Q : L2.St → Hp → Prop, (∀ Γ' M' σ' Hi' H', R Γ' M' → Same Hi Hi' → Ok X.K Hi' M' H' → EnvR X.K Hi' Γ' σ' → Q σ' H') → ∃ t, PGs X tgs t ∧ t vs σ H Q
def WGs (X : Cx) (tgs : List Expr) : TGs := fun v σ H Q => ∃ t, PGs X tgs t ∧ t v σ H Q
theorem pgs_wgs : PGs X es (WGs X es) := ⟨fun pins s σ H v u Q I r ⟨t, p, h⟩ => p.run pins s σ H v u Q I r h⟩
theorem ags_nil {R : Gam → Mem → Prop} (h : R Γ M) : aGs X [] [] Γ M R := fun Hi H σ vs ok en r Q q => by
  cases r
  exact ⟨_, pgs_nil, rfl, q _ _ _ Hi H h (Same.refl _) ok en⟩
theorem ags_cons {R : Gam → Mem → Prop} {ds : List Val} (h : aG X e d Γ M fun Γ' M' => aGs X es ds Γ' M' R) (hs : (assignEach (e :: es) X.env).map (·.2) = assign e X.env :: (assignEach es X.env).map (·.2) := by rfl) : aGs X (e :: es) (d :: ds) Γ M R := fun Hi H σ vs ok en r Q q => by
  cases r with
  | cons r1 r2 =>
    refine ⟨_, pgs_cons pg_wg pgs_wgs hs, _, _, rfl, ?_⟩
    refine h Hi H σ _ ok en r1 _ fun Γ' M' σ' Hi' H' h1 s1 ok1 en1 => ?_
    exact h1 Hi' H' σ' _ ok1 en1 (r2.mono s1) Q fun Γ2 M2 σ2 Hi2 H2 h2 s2 ok2 en2 => q _ _ _ Hi2 H2 h2 (s1.trans s2) ok2 en2
theorem ag_tup {kk : Nat} {R : Gam → Mem → Prop} {ds : List Val} (hc : X.calm = true) (h : aGs X es ds Γ M R) (hl : (assignEach es X.env).length = ds.length := by rfl) (hst : (assignEach es X.env).findIdx? (·.1) = none := by rfl) : aG X (.Tuple es kk pos) (.tup ds) Γ M R := fun Hi H σ v ok en r Q q => by
  cases r with
  | tup hq ra => exact ⟨_, pg_tup hc pgs_wgs rfl hst, _, _, rfl, sameT ok.im hq, ra.length.symm.trans hl.symm, h Hi H σ _ ok en ra Q q⟩
theorem as_asg {tg : Expr} (he : aE X e Γ M fun d M' => aG X tg d Γ M' k.nx) (hs : swapsWithSole [tg] e pos.line X.env = pure false := by rfl) (hw : swappedStores [tg] e X.env = pure none := by rfl) (h1 : (assignEach [tg] X.env).map (·.2) = [assign tg X.env] := by rfl) : aS X (.Assign [tg] e pos) Γ M k := fun Hi H σ ok en D q => by
  refine ⟨_, ps_asg pe_we pg_wg hs hw h1, ?_⟩
  refine he Hi H σ ok en _ fun x M1 v Hi1 H1 h1 s1 ok1 r1 => ?_
  exact h1 Hi1 H1 σ v ok1 (en.mono s1) r1 _ fun Γ2 M2 σ2 Hi2 H2 h2 s2 ok2 en2 => q.nx _ _ _ Hi2 H2 h2 (s1.trans s2) ok2 en2
theorem as_set {ps : Pos} (n : Nat) (hN : X.N.Nodup) (he : aE X e Γ M fun d M' => k.nx (Γ.set n (some d)) M') (hi : X.N[n]? = some x := by rfl) (hx : Loc X.env.scope x := by first | exact Or.inl rfl | exact Or.inr rfl)
    (hs : swapsWith e (some (.Name x ps)) pos.line X.env = pure false := by rfl) (hf : X.fn x = true ∨ X.env.scope.names.lookup x = some .local := by first | exact .inl rfl | exact .inr rfl | assumption) : aS X (.Assign [.Name x ps] e pos) Γ M k := fun Hi H σ ok en D q => by
  refine ⟨_, ps_set hN hi hx pe_we hs hf, ?_⟩
  exact he Hi H σ ok en _ fun x M1 v Hi1 H1 h1 s1 ok1 r1 => q.nx _ _ _ Hi1 H1 h1 s1 ok1 ((en.mono s1).set r1)
/-- a, b = e1, e2 -/
theorem as_par {px py pt : Pos} {kt k2 pt2} (n m : Nat) (hN : X.N.Nodup) (hc : X.calm = true) (hnm : n ≠ m) (he : aA X [a, b] Γ M fun ds M' => ∃ d1 d2, ds = [d1, d2] ∧ k.nx ((Γ.set n (some d1)).set m (some d2)) M')
    (hi : X.N[n]? = some x := by rfl) (hj : X.N[m]? = some y := by rfl) (hx : X.env.scope.names.lookup x = some .local := by rfl) (hy : X.env.scope.names.lookup y = some .local := by rfl)
    (hw : swappedStores [.Tuple [.Name x px, .Name y py] kt pt] (.Tuple [a, b] k2 pt2) X.env = pure (some [x, y]) := by rfl)
    (hs : swapsWithSole [.Tuple [.Name x px, .Name y py] kt pt] (.Tuple [a, b] k2 pt2) pos.line X.env = pure false := by rfl) : aS X (.Assign [.Tuple [.Name x px, .Name y py] kt pt] (.Tuple [a, b] k2 pt2) pos) Γ M k := fun Hi H σ ok en D q => by
  refine ⟨_, ps_par hc hN hi hj hnm hx hy pa_wa hw hs, ?_⟩
  refine he Hi H σ ok en _ fun ds M1 vs Hi1 H1 h1 s1 ok1 r1 => ?_
  obtain ⟨d1, d2, rfl, h2⟩ := h1
  cases r1 with
  | cons r1 r2 =>
    cases r2 with
    | cons r2 r3 =>
      cases r3
      exact ⟨_, _, rfl, q.nx _ _ _ Hi1 H1 h2 s1 ok1 (((en.mono s1).set r1).set r2)⟩
/-- xs[i] = e -/
theorem ag_sub {n : Nat} {p : Addr} {xs : List Val} {jj : Nat} {R : Gam → Mem → Prop} (ha : aV X a Γ M (.ptr p)) (hb : aV X b Γ M (.int i)) (hm : M[n]? = some (p, .lst xs)) (hj : ixN xs.length i = some jj) (h : R Γ (M.set n (p, .lst (xs.set jj d))))
    (hsl : ∀ v, assign (.Subscript a b pos) X.env v = (do
      let ov ← holding [v] (eval a X.env)
      let iv ← holding [v, ov] (eval b X.env)
      standAt pos
      holding [v, ov, iv] (setItem ov iv v)
      release [v, ov, iv] []) := by intro _; rfl) : aG X (.Subscript a b pos) d Γ M R := fun Hi H σ v ok en r Q q => by
  refine ⟨_, pg_sub pe_we pe_we set_list hsl, ?_⟩
  refine ha Hi H σ ok en _ fun x M1 v1 Hi1 H1 h1 s1 ok1 r1 => ?_
  obtain ⟨rfl, rfl⟩ := h1
  refine hb Hi1 H1 σ ok1 (en.mono s1) _ fun y M2 w Hi2 H2 h2 s2 ok2 r2 => ?_
  obtain ⟨rfl, rfl⟩ := h2
  cases r1
  cases r2
  obtain ⟨_, o, ho, ys, rfl, ra⟩ := ok2.get hm
  have s12 := s1.trans s2
  exact ⟨p, ys, i, jj, rfl, rfl, ho, by rw [← ra.length]; exact hj, q _ _ _ Hi2 _ h s12 (ok2.set hm ⟨_, rfl, ra.set (r.mono s12) jj⟩) (en.mono s12)⟩
/-! ### fields stored -/
theorem as_fld {C : Addr} {ps : Pos} (c : Cls X.K C) (na : NoAttr X.K C f) (he : aE X e Γ M fun d M' => aE X a Γ M' fun o M2 => ∃ n p fs, o = .ptr p ∧ M2[n]? = some (p, .ins C fs) ∧ fs.length < 1000 ∧ k.nx Γ (M2.set n (p, .ins C (putV f d fs))))
    (hs : swapsWith e (some (.Attribute a f ps)) pos.line X.env = pure false := by rfl) : aS X (.Assign [.Attribute a f ps] e pos) Γ M k := fun Hi H σ ok en D q => by
  refine ⟨_, ps_fld pe_we pe_we hs, ?_⟩
  refine he Hi H σ ok en _ fun d M1 v Hi1 H1 h1 s1 ok1 r1 => ?_
  refine h1 Hi1 H1 σ ok1 (en.mono s1) _ fun o M2 w Hi2 H2 h2 s2 ok2 r2 => ?_
  obtain ⟨n, p, fs, rfl, hm, hl, hk⟩ := h2
  cases r2
  obtain ⟨_, o, ho, dx, gs, rfl, rf⟩ := ok2.get hm
  refine ⟨p, C, dx, gs, rfl, ho, c, na, by rw [← rf.length]; exact hl, ?_⟩
  have s12 := s1.trans s2
  exact q.nx _ _ σ Hi2 _ hk s12 (ok2.set hm ⟨dx, _, rfl, rf.put (r1.mono s2)⟩) (en.mono s12)
/-! ### append -/
theorem ae_append {n0 : Nat} {p : Addr} {xs0 : List Val} (ha : aV X a Γ M (.ptr p)) (hm0 : M[n0]? = some (p, .lst xs0)) (he : aE X e Γ M fun y M2 => ∃ n xs, M2[n]? = some (p, .lst xs) ∧ xs.length < sizeLine ∧ P .non (M2.set n (p, .lst (xs ++ [y]))))
    (hbase : attributeBase a "append" X.env (eval a X.env) = eval a X.env := by rfl)
    (hfew : ((backTo pos (starEach [e] X.env)).all (fun x => !x.1) && (backToKw pos (keywordEach [] X.env)).all (fun x => x.1.isSome)
      && decide (([e] : List Expr).length + ([] : List Keyword).length + (if ([] : List Keyword).isEmpty then 0 else 1) < 30)) = true := by rfl)
    (hline : (apos.endLine == pos.line) = true := by rfl) (hs : starEach [e] X.env = (false, eval e X.env) :: starEach [] X.env := by rfl) : aE X (.Call (.Attribute a "append" apos) [e] [] pos) Γ M P := fun Hi H σ ok en Q q => by
  refine ⟨_, pe_bm PySem.F.plainAttrs_list PySem.F.slot_list_append PySem.F.type_list_append mt_append pe_we (pa_cons pe_we pa_nil hs) hbase hfew hline hs rfl, ?_⟩
  refine ha Hi H σ ok en _ fun d M1 v Hi1 H1 h1 s1 ok1 r1 => ?_
  obtain ⟨rfl, rfl⟩ := h1
  cases r1
  obtain ⟨_, o, ho, ys, rfl, ra⟩ := ok1.get hm0
  refine ⟨.inl ⟨rfl, _, SqL.of ho⟩, ?_⟩
  refine he Hi1 H1 σ ok1 (en.mono s1) _ fun y M2 w Hi2 H2 h2 s2 ok2 r2 => ?_
  obtain ⟨n, xs, hm, hl, hp⟩ := h2
  obtain ⟨_, o, ho2, zs, rfl, rz⟩ := ok2.get hm
  exact ⟨p, zs, w, rfl, rfl, ho2, by rw [← rz.length]; exact hl, q _ _ _ Hi2 _ hp (s1.trans s2) (ok2.set hm ⟨_, rfl, rz.append (.cons r2 .nil)⟩) .non⟩
/-! ### loops -/
def WI (X : Cx) (tg iter : Expr) : TI := fun σ H R => ∃ t, PI X tg iter t ∧ t σ H R
theorem pi_wi {tg iter : Expr} : PI X tg iter (WI X tg iter) := ⟨fun pins s σ H R I ⟨t, p, h⟩ => p.run pins s σ H R I h⟩
/-- n turns, the i-th gives it i; while G holds of the cells -/
def aI (X : Cx) (tg iter : Expr) (Γ : Gam) (M : Mem) (n : Nat) (it : Nat → Val) (G : Mem → Prop) (P : Mem → Prop) : Prop := ∀ Hi H σ, Ok X.K Hi M H → EnvR X.K Hi Γ σ → ∀ R : It → Hp → Prop,
  (∀ J M1 Hi1 H1, P M1 → Same Hi Hi1 → Ok X.K Hi1 M1 H1 →
    Walk J n (fun H' => ∃ Hi' M', Same Hi1 Hi' ∧ Ok X.K Hi' M' H' ∧ G M') (fun i H' v H'' => ∀ Hi' M', Same Hi1 Hi' → Ok X.K Hi' M' H' → G M' → ∃ Hi'', Same Hi' Hi'' ∧ Ok X.K Hi'' M' H'' ∧ Rep X.K Hi'' (it i) v) → R J H1) → WI X tg iter σ H R
theorem as_for {tg iter : Expr} {body : List Stmt} {n : Nat} {it : Nat → Val} {G : Mem → Prop} (I : Nat → Gam → Mem → Prop) (hp : PassesOwn (model X.prog X.w) X.A X.env X.xe) (hc : X.calm = true) (hi : aI X tg iter Γ M n it G (I 0 Γ)) (hG : ∀ i Γ M, i ≤ n → I i Γ M → G M)
    (hs : ∀ i Γ M, i < n → I i Γ M → aG X tg (it i) Γ M fun Γ2 M2 => aSs X body Γ2 M2 { k with nx := I (i + 1), ct := I (i + 1), bk := k.nx }) (hd : ∀ Γ M, I n Γ M → k.nx Γ M)
    (hf : ∀ x, foldedSetIterable iter X.env x = pure x := by intro _; rfl) : aS X (.For tg iter body [] pos) Γ M k := fun Hi H σ ok en D q => by
  refine ⟨_, ps_for hp hc pi_wi pg_wg pss_wb hf, ?_⟩
  refine hi Hi H σ ok en _ fun J M1 Hi1 H1 h1 s1 ok1 w => ?_
  refine for_it w (fun i σ' H' => ∃ Γ' M' Hi', I i Γ' M' ∧ Same Hi1 Hi' ∧ Ok X.K Hi' M' H' ∧ EnvR X.K Hi' Γ' σ') ⟨Γ, M1, Hi1, h1, Same.refl _, ok1, en.mono s1⟩ ?_ ?_ ?_
  · rintro i σ' H' hi ⟨Γ', M', Hi', h2, s2, ok2, en2⟩
    exact ⟨Hi', M', s2, ok2, hG i Γ' M' hi h2⟩
  · rintro i v σ' H' H'' hi ⟨Γ', M', Hi', h2, s2, ok2, en2⟩ hy
    obtain ⟨Hi3, s3, ok3, r3⟩ := hy Hi' M' s2 ok2 (hG i Γ' M' (Nat.le_of_lt hi) h2)
    have s13 := (s1.trans s2).trans s3
    refine hs i Γ' M' hi h2 Hi3 H'' σ' v ok3 (en2.mono s3) r3 _ fun Γ4 M4 σ4 Hi4 H4 h4 s4 ok4 en4 => ?_
    have s24 := (s2.trans s3).trans s4
    exact h4 Hi4 H4 σ4 ok4 en4 _ ⟨fun Γ5 M5 σ5 Hi5 H5 h5 s5 ok5 en5 => ⟨Γ5, M5, Hi5, h5, s24.trans s5, ok5, en5⟩, (q.up (s13.trans s4)).rt, (q.up (s13.trans s4)).nx, fun Γ5 M5 σ5 Hi5 H5 h5 s5 ok5 en5 => ⟨Γ5, M5, Hi5, h5, s24.trans s5, ok5, en5⟩⟩
  · rintro σ' H' ⟨Γ', M', Hi', h2, s2, ok2, en2⟩
    exact q.nx Γ' M' σ' Hi' H' (hd Γ' M' h2) (s1.trans s2) ok2 en2
theorem as_while {body : List Stmt} (I : Nat → Gam → Mem → Prop) (n : Nat) (hp : PassesOwn (model X.prog X.w) X.A X.env X.xe) (h0 : I n Γ M)
    (hs : ∀ n Γ M, I n Γ M → aT X c Γ M fun b M1 => (b = true → aSs X body Γ M1 { k with nx := fun Γ' M' => ∃ m, m < n ∧ I m Γ' M', ct := fun Γ' M' => ∃ m, m < n ∧ I m Γ' M', bk := k.nx }) ∧ (b = false → k.nx Γ M1)) : aS X (.While c body [] pos) Γ M k := fun Hi H σ ok en D q => by
  refine ⟨_, ps_while hp pt_wt pss_wb, ?_⟩
  refine ⟨fun m σ' H' => ∃ Γ' M' Hi', I m Γ' M' ∧ Same Hi Hi' ∧ Ok X.K Hi' M' H' ∧ EnvR X.K Hi' Γ' σ', ⟨n, Γ, M, Hi, h0, Same.refl _, ok, en⟩, ?_⟩
  rintro m σ' H' ⟨Γ', M', Hi', h2, s2, ok2, en2⟩
  refine hs m Γ' M' h2 Hi' H' σ' ok2 en2 _ fun b M3 Hi3 H3 h3 s3 ok3 => ?_
  cases b with
  | true =>
    refine iteT ⟨fun σ5 H5 => ∃ Γ5 M5 Hi5, (∃ m', m' < m ∧ I m' Γ5 M5) ∧ Same Hi3 Hi5 ∧ Ok X.K Hi5 M5 H5 ∧ EnvR X.K Hi5 Γ5 σ5, ?_, ?_⟩
    · rintro σ5 H5 ⟨Γ5, M5, Hi5, ⟨m', hl, h5⟩, s5, ok5, en5⟩
      exact ⟨m', hl, Γ5, M5, Hi5, h5, (s2.trans s3).trans s5, ok5, en5⟩
    · have q3 := q.up (s2.trans s3)
      exact h3.1 rfl Hi3 H3 σ' ok3 (en2.mono s3) _ ⟨fun Γ5 M5 σ5 Hi5 H5 h5 s5 ok5 en5 => ⟨Γ5, M5, Hi5, h5, s5, ok5, en5⟩, q3.rt, q3.nx, fun Γ5 M5 σ5 Hi5 H5 h5 s5 ok5 en5 => ⟨Γ5, M5, Hi5, h5, s5, ok5, en5⟩⟩
  | false => exact iteF (q.nx Γ' M3 σ' Hi3 H3 (h3.2 rfl) (s2.trans s3) ok3 (en2.mono s3))
/-! ### what is walked -/
theorem Sq.at {K : PySem.W.Frag} {H : Hp} {ds : List Val} {vs : List V} {i : Nat} {v : V} (r : RepA K H ds vs) (h : vs[i]? = some v) : Rep K H (ds.getD i .non) v := by
  obtain ⟨d, h1, h2⟩ := r.getV h
  rw [List.getD_eq_getElem?_getD, h1]
  exact h2
theorem ai_lst {tg : Expr} {R : Mem → Prop} {xs : List Val} (ha : aE X a Γ M fun d M' => d = .lst xs ∧ R M') : aI X tg a Γ M xs.length (fun i => xs.getD i .non) (fun _ => True) R := fun Hi H σ ok en R' q => by
  refine ⟨_, pi_list pe_we, ?_⟩
  refine ha Hi H σ ok en _ fun d M1 v Hi1 H1 h1 s1 ok1 r1 => ?_
  obtain ⟨rfl, hp⟩ := h1
  cases r1 with
  | @lst p ys _ hq ra =>
    refine ⟨p, rfl, ⟨ys, ok1.im.seq hq⟩, q _ M1 Hi1 H1 hp s1 ok1 ?_⟩
    rw [ra.length]
    refine walk_list.mono (fun H' hG => ?_) fun i H' v H'' hi hG hy Hi' M' s2 ok2 _ => ?_
    · obtain ⟨Hi', M', s2, ok2, _⟩ := hG
      exact ok2.im.seq (s2.seq hq)
    · obtain ⟨rfl, hv⟩ := hy
      exact ⟨Hi', Same.refl _, ok2, (Sq.at ra hv).mono s2⟩
theorem ai_tup {tg : Expr} {R : Mem → Prop} {xs : List Val} (ha : aE X a Γ M fun d M' => d = .tup xs ∧ R M') : aI X tg a Γ M xs.length (fun i => xs.getD i .non) (fun _ => True) R := fun Hi H σ ok en R' q => by
  refine ⟨_, pi_tup pe_we, ?_⟩
  refine ha Hi H σ ok en _ fun d M1 v Hi1 H1 h1 s1 ok1 r1 => ?_
  obtain ⟨rfl, hp⟩ := h1
  cases r1 with
  | @tup p ys _ hq ra =>
    refine ⟨p, rfl, ⟨ys, sameT ok1.im hq⟩, q _ M1 Hi1 H1 hp s1 ok1 ?_⟩
    rw [ra.length]
    refine walk_tup.mono (fun H' hG => ?_) fun i H' v H'' hi hG hy Hi' M' s2 ok2 _ => ?_
    · obtain ⟨Hi', M', s2, ok2, _⟩ := hG
      exact sameT ok2.im (sameT s2 hq)
    · obtain ⟨rfl, hv⟩ := hy
      exact ⟨Hi', Same.refl _, ok2, (Sq.at ra hv).mono s2⟩
theorem ai_range1 {tg : Expr} {R : Mem → Prop} {n : Nat} (hm : X.mg "range" = none) (ha : aE X a Γ M fun d M' => ∃ j : Int, d = .int j ∧ j.toNat = n ∧ -(2 ^ 62) ≤ j ∧ j < 2 ^ 62 ∧ R M') (hg : Gl X "range" := by rfl) (hs : starEach [a] X.env = [(false, eval a X.env)] := by rfl) :
    aI X tg (.Call (.Name "range" p1) [a] [] pos) Γ M n (fun i => .int (0 + i)) (fun _ => True) R := fun Hi H σ ok en R' q => by
  refine ⟨_, pi_range1 hg hm (pa_cons pe_we pa_nil hs) hs, ?_⟩
  refine ha Hi H σ ok en _ fun d M1 v Hi1 H1 h1 s1 ok1 r1 => ?_
  obtain ⟨j, rfl, rfl, hl, hh, hp⟩ := h1
  cases r1
  refine ⟨j, rfl, hl, hh, q _ M1 Hi1 H1 hp s1 ok1 ?_⟩
  refine walk_range.mono (fun _ _ => trivial) fun i H' v H'' hi hG hy Hi' M' s2 ok2 _ => ?_
  obtain ⟨rfl, rfl⟩ := hy
  exact ⟨Hi', Same.refl _, ok2, .int _⟩
theorem ai_range2 {tg : Expr} {R : Mem → Prop} {n : Nat} {lo : Int} (hm : X.mg "range" = none) (ha : aA X [a, b] Γ M fun ds M' => ∃ hi : Int, ds = [.int lo, .int hi] ∧ (hi - lo).toNat = n ∧ (-(2 ^ 62) ≤ lo ∧ lo < 2 ^ 62 ∧ -(2 ^ 62) ≤ hi ∧ hi < 2 ^ 62) ∧ R M') (hg : Gl X "range" := by rfl)
    (hs : starEach [a, b] X.env = [(false, eval a X.env), (false, eval b X.env)] := by rfl) (hs2 : starEach [b] X.env = [(false, eval b X.env)] := by rfl) :
    aI X tg (.Call (.Name "range" p1) [a, b] [] pos) Γ M n (fun i => .int (lo + i)) (fun _ => True) R := fun Hi H σ ok en R' q => by
  refine ⟨_, pi_range2 hg hm pa_wa hs hs2, ?_⟩
  refine ha Hi H σ ok en _ fun d M1 v Hi1 H1 h1 s1 ok1 r1 => ?_
  obtain ⟨hi, rfl, rfl, hb, hp⟩ := h1
  cases r1 with
  | cons r1 r2 =>
    cases r2 with
    | cons r2 r3 =>
      cases r3
      cases r1
      cases r2
      refine ⟨lo, hi, rfl, hb, q _ M1 Hi1 H1 hp s1 ok1 ?_⟩
      refine walk_range.mono (fun _ _ => trivial) fun i H' v H'' hi hG hy Hi' M' s2 ok2 _ => ?_
      obtain ⟨rfl, rfl⟩ := hy
      exact ⟨Hi', Same.refl _, ok2, .int _⟩
theorem ai_enumL {elts : List Expr} {kk : Nat} {tpos : Pos} {R : Mem → Prop} {xs : List Val} (hm : X.mg "enumerate" = none) (ha : aE X a Γ M fun d M' => d = .lst xs ∧ R M') (hg : Gl X "enumerate" := by rfl) (hs : starEach [a] X.env = [(false, eval a X.env)] := by rfl) :
    aI X (.Tuple elts kk tpos) (.Call (.Name "enumerate" p1) [a] [] pos) Γ M xs.length (fun i => .tup [.int i, xs.getD i .non]) (fun _ => True) R := fun Hi H σ ok en R' q => by
  refine ⟨_, pi_enum hg hm (pa_cons pe_we pa_nil hs) hs, ?_⟩
  refine ha Hi H σ ok en _ fun d M1 v Hi1 H1 h1 s1 ok1 r1 => ?_
  obtain ⟨rfl, hp⟩ := h1
  cases r1 with
  | @lst p ys _ hq ra =>
    refine ⟨p, ys, rfl, ok1.im.seq hq, q _ M1 Hi1 H1 hp s1 ok1 ?_⟩
    rw [ra.length]
    refine walk_enum.mono (fun H' hG => ?_) fun i H' v H'' hi hG hy Hi' M' s2 ok2 _ => ?_
    · obtain ⟨Hi', M', s2, ok2, _⟩ := hG
      exact ok2.im.seq (s2.seq hq)
    · obtain ⟨T, x, y, rfl, hT, rfl, hx, hy⟩ := hy
      cases hx
      have s3 := same_upd (o := .tup [.int (i : Nat), y]) (ok2.none hT)
      exact ⟨_, s3, ok2.imm hT, .tup (SqT.of upd_same) (.cons (.int _) (.cons ((Sq.at ra hy).mono (s2.trans s3)) .nil))⟩
end
end Ab
namespace Ab
open PySem PySem.Spec PyProof.Rows L2
/-! ### promises -/
/-- positional arguments, cells, what follows -/
abbrev ASp := List Val → Mem → (Val → Mem → Prop) → Prop
/-- .. and the keywords' values -/
abbrev ASx := List Val → List Val → Mem → (Val → Mem → Prop) → Prop
def spA (K : PySem.W.Frag) (s : ASp) : Sp := fun vs H Q _ => ∃ Hi M ds P, RepA K Hi ds vs ∧ Ok K Hi M H ∧ s ds M P ∧ Post K Hi P Q
def spX (K : PySem.W.Frag) (s : ASx) (vs zs : List V) (H : Hp) (Q : VK) : Prop := ∃ Hi M ds es P, RepA K Hi ds vs ∧ RepA K Hi es zs ∧ Ok K Hi M H ∧ s ds es M P ∧ Post K Hi P Q
/-- the end of a def: cells of its own are forgotten, or will change no more -/
inductive Ret (P : Val → Mem → Prop) : Val → Mem → Prop
  | ok {d : Val} {M : Mem} : P d M → Ret P d M
  | drop {d : Val} {M : Mem} {c : Addr × Cell} : Ret P d M → Ret P d (c :: M)
  | frz {p : Addr} {xs : List Val} {M : Mem} : Ret P (.lst xs) M → Ret P (.ptr p) ((p, .lst xs) :: M)
  | obj {p C : Addr} {fs : List (Str × Val)} {M : Mem} : Ret P (.obj C fs) M → Ret P (.ptr p) ((p, .ins C fs) :: M)
  | tr {d : Val} {M M' : Mem} : (∀ K Hi H, Ok K Hi M H → Ok K Hi M' H) → Ret P d M' → Ret P d M
theorem Ret.post {K : PySem.W.Frag} {P : Val → Mem → Prop} {Q : VK} {d : Val} {M : Mem} (h : Ret P d M) : ∀ {Hi Hi' H' : Hp} {v : V}, Post K Hi P Q → Same Hi Hi' → Ok K Hi' M H' → Rep K Hi' d v → Q v H' := by
  induction h with
  | ok hp => exact fun q s ok r => q _ _ _ _ _ hp s ok r
  | drop _ ih => exact fun q s ok r => ih q s (Ok.tail ok) r
  | tr t _ ih => exact fun q s ok r => ih q s (t _ _ _ ok) r
  | frz _ ih =>
    intro Hi Hi' H' v q s ok r
    obtain ⟨e0, o, ho, vs, rfl, ra⟩ := ok.ce _ _ List.mem_cons_self
    cases r
    have s2 := same_upd (o := .lst vs) e0
    exact ih q (s.trans s2) (ok.freeze ho) (.lst (SqL.of upd_same) (ra.mono s2))
  | @obj p C fs M _ ih =>
    intro Hi Hi' H' v q s ok r
    obtain ⟨e0, o, ho, dx, gs, rfl, ra⟩ := ok.ce _ _ List.mem_cons_self
    cases r
    have s2 := same_upd (o := .ins C dx gs) e0
    exact ih q (s.trans s2) (ok.freeze ho) (.obj upd_same (ra.mono s2))
/-- the slots at a def's entry -/
def gam (N : List Str) (ds : List Val) : Gam := ds.map some ++ List.replicate (N.length - ds.length) none
theorem env_start {K : PySem.W.Frag} {H : Hp} {N : List Str} {ds : List Val} {vs : List V} (r : RepA K H ds vs) : EnvR K H (gam N ds) (L2.start N vs) := by
  refine ⟨by simp [gam, L2.start, r.length], fun i d h => ?_⟩
  unfold gam at h
  unfold L2.start
  by_cases hi : i < ds.length
  · rw [List.getElem?_append_left (by simpa using hi), List.getElem?_map] at h
    obtain ⟨d', h1, h2⟩ := Option.map_eq_some_iff.mp h
    cases h2
    obtain ⟨v, h3, h4⟩ := r.get h1
    refine ⟨v, ?_, h4⟩
    rw [List.getElem?_append_left (by rw [List.length_map, ← r.length]; exact hi), List.getElem?_map, h3]
    rfl
  · rw [List.getElem?_append_right (by simpa using Nat.le_of_not_lt hi)] at h
    have := List.mem_of_getElem? h
    rw [List.mem_replicate] at this
    cases this.2
abbrev kOf (P : Val → Mem → Prop) : AK := { nx := fun _ M => Ret P .non M, rt := Ret P }
/-- the context of a def's body -/
abbrev bcx (P : Program) (w : World) (K : PySem.W.Frag) (mg : Str → Option Value) (base : Heap) (N : List Str) (qual : Str) (sc : Scope) (f : Addr) (cdv : Value) (A : Around) (outer : List Env) (s : Shared) (H : Hp) (E : XK) : Cx := (cxOf CX0 P w K mg base N qual sc f cdv A outer s H E).nox
/-- room for k calls, nothing guarded -/
structure Rm (k : Nat) (A : Around) : Prop where
  room : Room k A
  gd : A.guards = some []
theorem Rm.mono {j k : Nat} {A : Around} (r : Rm k A) (h : j ≤ k) : Rm j A := ⟨r.room.mono h, r.gd⟩
theorem Rm.deeper {k : Nat} {A : Around} (r : Rm (k + 1) A) (env : Env) : Rm k (A.deeper env) := ⟨r.room.deeper env, r.gd⟩
theorem Rm.in1 {k : Nat} {A : Around} (r : Rm (k + 1) A) : Rm k A.in1 := ⟨r.room.in1, r.gd⟩
theorem Rm.make {k : Nat} {A : Around} (r : Rm (k + 1) A) (C : Addr) (us : List Value) (kw : List (Str × Value)) : Rm k (A.under (.builtin "type.__call__" ⟨.ref C :: us, kw⟩)) := ⟨r.room.make C us kw, by
  show pushGuards (Code.builtin "type.__call__" ⟨.ref C :: us, kw⟩).guards A.guards = some []
  rw [r.gd]
  first | rfl | simp [Code.guards, pushGuards]⟩
theorem Rm.u1 {k : Nat} {A : Around} (r : Rm k A) : A.units + 1 < cLine := hu_of r.room
theorem Rm.u64 {k : Nat} {A : Around} (r : Rm k A) : A.units + 64 < cLine := Nat.lt_of_le_of_lt (by omega) r.room.un
section
variable {P : Program} {w : World} {K : PySem.W.Frag} {mg : Str → Option Value} {base : Heap}
theorem body_of {N : List Str} {qual : Str} {sc : Scope} {f : Addr} {cdv : Value} {A : Around} {outer : List Env} {s : Shared} {H : Hp} {E : XK} {body : List Stmt} {s0 : ASp} {vs : List V} {Q : VK}
    (hb : ∀ ds M R, s0 ds M R → aSs (bcx P w K mg base N qual sc f cdv A outer s H E) body (gam N ds) M (kOf R)) (h : spA K s0 vs H Q E) :
    ∃ t, PSs (bcx P w K mg base N qual sc f cdv A outer s H E) body t ∧ t { nx := fun _ H' => Q .non H', rt := Q } (L2.start N vs) H := by
  obtain ⟨Hi, M, ds, R, r, ok, hs, q⟩ := h
  refine hb ds M R hs Hi H _ ok (env_start r) _ ⟨fun Γ M' σ Hi' H' h1 s1 ok1 _ => h1.post q s1 ok1 .non, fun d M' v Hi' H' h1 s1 ok1 r1 => h1.post q s1 ok1 r1, fun _ _ _ _ _ z => z.elim, fun _ _ _ _ _ z => z.elim⟩
/-- a def by its call: ks the keywords of the call -/
structure FnX (P : Program) (w : World) (K : PySem.W.Frag) (mg : Str → Option Value) (base : Heap) (k : Nat) (f : Addr) (ks : List Str) (sp : List V → List V → Hp → VK → Prop) : Prop where
  run : ∀ (A : Around) (outer : List Env) (s : Shared) (H : Hp) (us ws : List Value) (vs zs : List V) (Q : VK), Rm k A → Env0 P w K mg base A outer s H → Vals vs us → Vals zs ws → zs.length = ks.length → sp vs zs H Q →
    codeAny (model P w) A (.call (.ref f) ⟨us, ks.zip ws⟩) (CR CX0 outer P w H s Q E0) s
theorem FnX.mono {j k : Nat} {f : Addr} {ks : List Str} {sp : List V → List V → Hp → VK → Prop} (F : FnX P w K mg base j f ks sp) (h : j ≤ k) : FnX P w K mg base k f ks sp := ⟨fun A outer s H us ws vs zs Q hr => F.run A outer s H us ws vs zs Q (hr.mono h)⟩
/-- what a def's body must do, in every context in which it may be called -/
abbrev BodyOk (P : Program) (w : World) (K : PySem.W.Frag) (mg : Str → Option Value) (base : Heap) (k : Nat) (f : Addr) (N : List Str) (qual : Str) (sc : Scope) (body : List Stmt) (s0 : ASp) : Prop :=
  ∀ cdv A outer s H E, Rm k (A.deeper (envOfC qual sc s.heap.objs.size f cdv)) → ∀ ds M R, s0 ds M R → aSs (bcx P w K mg base N qual sc f cdv A outer s H E) body (gam N ds) M (kOf R)
theorem fnx_kbn {x qual : Str} {params : Arguments} {body : List Stmt} {sc : Scope} {dvs : List V} {kws : List (Str × V)} {f : Addr} {fd : FuncData} {N ps ks : List Str} {k n : Nat} {s0 : ASp} {g : List Value → List Value → List Value} {gV : List V → List V → List V} (gA : List Val → List Val → List Val)
    (F : FunD K x qual params body sc dvs kws f fd) (S : FnScope N ps sc) (b : KBn K fd ps n ks g gV)
    (hrel : ∀ H ds vs es zs, RepA K H ds vs → RepA K H es zs → ds.length = n → es.length = ks.length → RepA K H (gA ds es) (gV vs zs)) (len : ∀ ds M R, s0 ds M R → ds.length = ps.length)
    (hb : BodyOk P w K mg base k f N qual sc body s0) : FnX P w K mg base (k + 1) f ks (spX K fun ds es M R => ds.length = n ∧ s0 (gA ds es) M R) := by
  refine ⟨fun A outer s H us ws vs zs Q hr e0 r rz hz ⟨Hi, M, ds, es, R, ra, re, ok, ⟨hn, hs⟩, q⟩ => ?_⟩
  obtain ⟨oc, od, dV, kV, doc, pm, an, cdv, ct, osl, rfl, lk, hcd, _, _⟩ := F.ex
  have KX : K.In s.heap := e0.mod.kin.keeps fun b o e => (e0.bs b o e).1
  have hbt := b.to s us ws KX (by rw [← r.length, ← ra.length]; exact hn) (by rw [← rz.length]; exact hz)
  have rg := hrel Hi ds vs es zs ra re hn (re.length.trans hz)
  have hl : (gV vs zs).length = ps.length := rg.length.symm.trans (len _ _ _ hs)
  refine StX.run_bnd (CX := CX0) (E := E0) (G := fun vs' H2 => vs' = gV vs zs ∧ H2 = H) lk hcd S hr.room e0 (fun A' Ex Q' h => ?_) fun s2 H2 vs' hG hr' => ?_
  · exact hbt _ _ _ _ (h s H (gV vs zs) (g us ws) e0 Un.refl rfl (fun _ _ z => z) (b.rel r rz) hl ⟨rfl, rfl⟩)
  · obtain ⟨rfl, rfl⟩ := hG
    obtain ⟨t, p, z⟩ := body_of (hb cdv A outer s2 H2 E0 (hr.deeper _)) (Q := Q) (vs := gV vs zs) ⟨Hi, M, gA ds es, R, rg, ok, hs, q⟩
    exact ⟨t, p.nox, z⟩
theorem fun_d {x qual : Str} {st : Stmt} {f : Addr} {fd : FuncData} (F : Fun K x qual st f fd) : FunD K x qual (defArgs st) (defBody st) (defScope st) [] [] f fd := by
  obtain ⟨⟨oc, od, kV, doc, pm, an, cdv, ct, osl, rfl, lk, hcd⟩, kp⟩ := F
  exact ⟨⟨oc, od, .none, kV, doc, pm, an, cdv, ct, osl, rfl, lk, hcd, .inl ⟨rfl, rfl⟩, .inl rfl⟩, kp⟩
end
/-! ### calls -/
section
variable {X : Cx} {Γ : Gam} {M : Mem} {P : Val → Mem → Prop} {e a b c o : Expr} {es : List Expr} {kws : List Keyword} {pos p1 p2 apos kpos : Pos} {k : AK} {d d1 d2 d3 : Val} {i j : Int} {x y m : Str} {n : Nat} {f C : Addr} {ks : List Str} {sx : ASx} {nm : Option Str}
theorem run_x {pins : List (Addr × Obj)} {σ : L2.St} {H : Hp} {s : Shared} {Q : VK} {us ws : List Value} {vs zs : List V} {sp : List V → List V → Hp → VK → Prop} (F : FnX X.prog X.w X.K X.mg X.base n f ks sp) (hr : Rm n X.A)
    (I : Inv X pins σ H s) (r : Vals vs us) (rz : Vals zs ws) (l2 : zs.length = ks.length) (h : sp vs zs H Q) : wpAny (model X.prog X.w) X.A (call (.ref f) us (ks.zip ws)) (EP X pins σ Q) X.xe s := by
  refine wpAny_call (codeAny_mono (F.run X.A X.stack s H us ws vs zs Q hr I.env0 r rz l2 h) fun r s' hq => ?_)
  cases r with
  | error e => exact False.elim hq
  | ok fl =>
    cases fl with
    | ret u => exact I.after hq
    | next => exact False.elim hq
    | brk => exact False.elim hq
    | cont => exact False.elim hq
def aKw (X : Cx) (kws : List Keyword) (Γ : Gam) (M : Mem) (P : List Val → Mem → Prop) : Prop := ∀ Hi H σ, Ok X.K Hi M H → EnvR X.K Hi Γ σ → ∀ Q, PostA X.K Hi P Q → ∃ t, PK X kws t ∧ t σ H Q
def WK (X : Cx) (kws : List Keyword) : TA := fun σ H Q => ∃ t, PK X kws t ∧ t σ H Q
theorem pk_wk : PK X kws (WK X kws) := ⟨fun pos pins s σ H Q I ⟨t, p, h⟩ => p.run pos pins s σ H Q I h⟩
theorem ak_nil {P : List Val → Mem → Prop} (h : P [] M) : aKw X [] Γ M P := fun Hi H σ ok en Q q => ⟨_, pk_nil, q _ _ _ Hi H h (Same.refl _) ok .nil⟩
theorem ak_cons {P : List Val → Mem → Prop} (h : aE X e Γ M fun x M1 => aKw X kws Γ M1 fun xs M2 => P (x :: xs) M2) : aKw X (⟨nm, e, kpos⟩ :: kws) Γ M P := fun Hi H σ ok en Q q => by
  refine ⟨_, pk_cons pe_we pk_wk, ?_⟩
  refine h Hi H σ ok en _ fun x M1 v Hi1 H1 h1 s1 ok1 r1 => ?_
  exact h1 Hi1 H1 σ ok1 (en.mono s1) _ fun xs M2 vs Hi2 H2 h2 s2 ok2 r2 => q _ _ _ Hi2 H2 h2 (s1.trans s2) ok2 (.cons (r1.mono s2) r2)
/-- f(e, .., k = v, ..) -/
theorem ae_call (F : FnX X.prog X.w X.K X.mg X.base n f ks (spX X.K sx)) (hr : Rm n X.A) (hm : X.mg x = some (.ref f)) (hk : PySem.W.keepIn X.K (.ref f) = true) (h : aA X (e :: es) Γ M fun ds M1 => aKw X kws Γ M1 fun zs M2 => zs.length = ks.length ∧ sx ds zs M2 P)
    (hg : Gl X x := by rfl) (hall : (backToKw pos (keywordEach kws X.env)).all (·.1.isSome) = true := by rfl) (hks : (backToKw pos (keywordEach kws X.env)).filterMap (·.1) = ks := by rfl) (hdb : (x == ("__debug__" : Str)) = false := by decide)
    (he : starEach (e :: es) X.env = (false, eval e X.env) :: starEach es X.env := by rfl) (hpl : ((backTo pos (starEach (e :: es) X.env)).any (·.1) || (backToKw pos (keywordEach kws X.env)).any (·.1.isNone)) = false := by rfl) : aE X (.Call (.Name x p1) (e :: es) kws pos) Γ M P := fun Hi H σ ok en Q q => by
  refine ⟨fun σ H Q => WA X (e :: es) σ H fun vs H1 => WK X kws σ H1 fun zs H2 => zs.length = ks.length ∧ spX X.K sx vs zs H2 Q, ⟨fun pins s σ H Q I h => ?_⟩, ?_⟩
  · refine wpAny_Call_Name_kw (ld_glob I hg hm ?_ hdb)
    refine PySem.W.callWith_KW (h₀ := X.base) I.ok.mod.kin hk hall (thn (pa_wa.run pos pins s σ H _ I h) fun us s1 ⟨vs, H1, I1, r, q⟩ => ?_) hpl he
    refine thn (pk_wk.run pos pins s1 σ H1 _ I1 q) fun ws s2 ⟨zs, H2, I2, rz, l2, q2⟩ => ⟨I2.kIn, ?_⟩
    rw [hks]
    exact run_x F hr I2 r rz l2 q2
  · refine h Hi H σ ok en _ fun ds M1 vs Hi1 H1 h1 s1 ok1 r1 => ?_
    refine h1 Hi1 H1 σ ok1 (en.mono s1) _ fun zs M2 ws Hi2 H2 h2 s2 ok2 r2 => ?_
    exact ⟨r2.length.symm.trans h2.1, Hi2, M2, ds, zs, P, r1.mono s2, r2, ok2, h2.2, q.up (s1.trans s2)⟩
/-- o.m(e, .., k = v, ..) -/
theorem ae_meth {pl : Sem Bool} {fs : List (Str × Val)} (c : Cls X.K C) (hm : Meth X.K C m f) (F : FnX X.prog X.w X.K X.mg X.base n f ks (spX X.K sx)) (hr : Rm n X.A) (ho : aV X o Γ M d) (hob : Ob M C d fs) (hl : fs.lookup m = none)
    (h : aA X (e :: es) Γ M fun ds M1 => aKw X kws Γ M1 fun zs M2 => zs.length = ks.length ∧ sx (d :: ds) zs M2 P)
    (hall : (backToKw pos (keywordEach kws X.env)).all (·.1.isSome) = true := by rfl) (hks : (backToKw pos (keywordEach kws X.env)).filterMap (·.1) = ks := by rfl)
    (he : starEach (e :: es) X.env = (false, eval e X.env) :: starEach es X.env := by rfl) (hpl : ((backTo pos (starEach (e :: es) X.env)).any (·.1) || (backToKw pos (keywordEach kws X.env)).any (·.1.isNone)) = false := by rfl)
    (ht : eval (.Call (.Attribute o m apos) (e :: es) kws pos) X.env = (do
      let ov ← eval o X.env
      standAt apos.atName
      let (f, first) ← holding [ov] (getMethod ov m pl)
      callWith pos f first (backTo pos (starEach (e :: es) X.env)) (backToKw pos (keywordEach kws X.env))) := by rfl) : aE X (.Call (.Attribute o m apos) (e :: es) kws pos) Γ M P := fun Hi H σ ok en Q q => by
  refine ⟨fun σ H Q => WE X o σ H fun x H0 => ∃ a dx fs, x = .ref a ∧ H0 a = some (.ins C dx fs) ∧ fs.lookup m = none ∧ WA X (e :: es) σ H0 fun vs H1 => WK X kws σ H1 fun zs H2 => zs.length = ks.length ∧ spX X.K sx (x :: vs) zs H2 Q, ⟨fun pins s σ H Q I h => ?_⟩, ?_⟩
  · refine PySem.W.methodCall_KW (pl := pl) (thn (pe_we.run pins s σ H _ I h) fun u s1 ⟨x, H1, I1, rx, a, dx, fs, ex, ea, l, q⟩ => ?_) ht
    subst ex
    obtain rfl : u = Value.ref a := rx
    refine getmeth_ok I1 ea c hm l ?_
    refine PySem.W.callWith_KW (first := [.ref a]) (h₀ := X.base) I.ok.mod.kin hm.kp hall (thn (pa_wa.run pos pins s1 σ H1 _ I1 q) fun us s2 ⟨vs, H2, I2, r, q2⟩ => ?_) hpl he
    refine thn (pk_wk.run pos pins s2 σ H2 _ I2 q2) fun ws s3 ⟨zs, H3, I3, rz, l2, q3⟩ => ⟨I3.kIn, ?_⟩
    rw [hks]
    exact run_x (us := .ref a :: us) (vs := .ref a :: vs) F hr I3 (.cons rfl r) rz l2 q3
  · refine ho Hi H σ ok en _ fun x M0 v0 Hi0 H0 h0 s0 ok0 r0 => ?_
    obtain ⟨rfl, rfl⟩ := h0
    obtain ⟨p, dx, gs, rfl, hp, rf⟩ := hob.rep ok0 r0
    refine ⟨p, dx, gs, rfl, hp, rf.none hl, ?_⟩
    refine h Hi0 H0 σ ok0 (en.mono s0) _ fun ds M1 vs Hi1 H1 h1 s1 ok1 r1 => ?_
    refine h1 Hi1 H1 σ ok1 (en.mono (s0.trans s1)) _ fun zs M2 ws Hi2 H2 h2 s2 ok2 r2 => ?_
    exact ⟨r2.length.symm.trans h2.1, Hi2, M2, _ :: ds, zs, P, .cons (r0.mono (s1.trans s2)) (r1.mono s2), r2, ok2, h2.2, q.up ((s0.trans s1).trans s2)⟩
/-- C(e, .., k = v, ..) -/
theorem run_mk {pins : List (Addr × Obj)} {σ : L2.St} {H : Hp} {s : Shared} {Q : VK} {us ws : List Value} {vs zs : List V} {sp : List V → List V → Hp → VK → Prop} (Mk_ : Mk X.K C f) (F : FnX X.prog X.w X.K X.mg X.base n f ks sp) (hr : Rm (n + 1) X.A)
    (I : Inv X pins σ H s) (r : Vals vs us) (rz : Vals zs ws) (l2 : zs.length = ks.length)
    (h : ∀ x dx, H x = none → H dx = none → dx ≠ x → sp (.ref x :: vs) zs (upd (upd H dx (.own x)) x (.ins C dx [])) (fun v H2 => v = .non ∧ Q (.ref x) H2)) :
    wpAny (model X.prog X.w) X.A (call (.ref C) us (ks.zip ws)) (EP X pins σ Q) X.xe s := by
  have hq := h (s.heap.objs.size + 1) s.heap.objs.size (I.hok.fresh (Nat.le_succ _)) (I.hok.fresh (Nat.le_refl _)) (Nat.ne_of_lt (Nat.lt_succ_self _))
  have I2 := Inv.made (C := C) I
  have r1 : Vals (V.ref (s.heap.objs.size + 1) :: vs) (Value.ref (s.heap.objs.size + 1) :: us) := .cons rfl r
  refine wpAny_call (make_map (f := f) I.kIn Mk_.makes Mk_.init (beq_iff_eq.mp Mk_.fn) (codeAny_mono (F.run _ X.stack _ _ (Value.ref (s.heap.objs.size + 1) :: us) ws _ zs _ (hr.make C us (ks.zip ws))
    (I2.env0.make C us (ks.zip ws)) r1 rz l2 hq) fun r s' hq' => ?_))
  cases r with
  | error e => exact False.elim hq'
  | ok fl =>
    cases fl with
    | ret u =>
      obtain ⟨v, H', I3, rv, ev, q3⟩ := I2.after hq'
      subst ev
      exact ⟨rv, ⟨V.ref (s.heap.objs.size + 1), H', I3, rfl, q3⟩⟩
    | next => exact False.elim hq'
    | brk => exact False.elim hq'
    | cont => exact False.elim hq'
theorem ae_make (Mk_ : Mk X.K C f) (F : FnX X.prog X.w X.K X.mg X.base n f ks (spX X.K sx)) (hr : Rm (n + 1) X.A) (hm : X.mg x = some (.ref C))
    (h : aA X (e :: es) Γ M fun ds M1 => aKw X kws Γ M1 fun zs M2 => zs.length = ks.length ∧ ∀ p, p ∉ M2.map (·.1) → sx (.ptr p :: ds) zs ((p, .ins C []) :: M2) (fun v M3 => v = .non ∧ P (.ptr p) M3))
    (hg : Gl X x := by rfl) (hall : (backToKw pos (keywordEach kws X.env)).all (·.1.isSome) = true := by rfl) (hks : (backToKw pos (keywordEach kws X.env)).filterMap (·.1) = ks := by rfl) (hdb : (x == ("__debug__" : Str)) = false := by decide)
    (he : starEach (e :: es) X.env = (false, eval e X.env) :: starEach es X.env := by rfl) (hpl : ((backTo pos (starEach (e :: es) X.env)).any (·.1) || (backToKw pos (keywordEach kws X.env)).any (·.1.isNone)) = false := by rfl) : aE X (.Call (.Name x p1) (e :: es) kws pos) Γ M P := fun Hi H σ ok en Q q => by
  refine ⟨fun σ H Q => WA X (e :: es) σ H fun vs H1 => WK X kws σ H1 fun zs H2 => zs.length = ks.length ∧ ∀ x dx, H2 x = none → H2 dx = none → dx ≠ x → spX X.K sx (.ref x :: vs) zs (upd (upd H2 dx (.own x)) x (.ins C dx [])) (fun v H3 => v = .non ∧ Q (.ref x) H3), ⟨fun pins s σ H Q I h => ?_⟩, ?_⟩
  · refine wpAny_Call_Name_kw (ld_glob I hg hm ?_ hdb)
    refine PySem.W.callWith_KW (h₀ := X.base) I.ok.mod.kin Mk_.kp hall (thn (pa_wa.run pos pins s σ H _ I h) fun us s1 ⟨vs, H1, I1, r, q⟩ => ?_) hpl he
    refine thn (pk_wk.run pos pins s1 σ H1 _ I1 q) fun ws s2 ⟨zs, H2, I2, rz, l2, q2⟩ => ⟨I2.kIn, ?_⟩
    rw [hks]
    exact run_mk Mk_ F hr I2 r rz l2 q2
  · refine h Hi H σ ok en _ fun ds M1 vs Hi1 H1 h1 s1 ok1 r1 => ?_
    refine h1 Hi1 H1 σ ok1 (en.mono s1) _ fun zs M2 ws Hi2 H2 h2 s2 ok2 r2 => ?_
    refine ⟨r2.length.symm.trans h2.1, fun x dx hx hdx hne => ?_⟩
    have s3 := same_upd (o := .own x) (ok2.none hdx)
    have ok3 : Ok X.K (upd Hi2 dx (.own x)) M2 (upd H2 dx (.own x)) := ok2.imm hdx
    have hx3 : upd H2 dx (.own x) x = none := by rw [upd_ne hne.symm]; exact hx
    refine ⟨_, (x, .ins C []) :: M2, .ptr x :: ds, zs, _, .cons (.ptr x) (r1.mono (s2.trans s3)), r2.mono s3, ok3.new hx3 ⟨dx, [], rfl, .nil⟩, h2.2 x (ok2.fresh hx), ?_⟩
    rintro d M4 v Hi4 H4 ⟨rfl, hp⟩ s4 ok4 r4
    cases r4
    exact ⟨rfl, q _ _ _ Hi4 H4 hp (((s1.trans s2).trans s3).trans s4) ok4 (.ptr x)⟩
end
end Ab
namespace Ab
open PySem PySem.Spec PyProof.Rows L2
open AutoSeq1 (wpAny_loadPart')
/-! enumerate(tuple) -/
end Ab
namespace Ab
open PySem PySem.Spec PyProof.Rows L2
/-! ### comprehensions -/
theorem wipe_set (n : Nat) (x : Option V) : ∀ (vs : List Nat) (σ : L2.St), wipe (σ.set n x) vs = if n ∈ vs then wipe σ vs else (wipe σ vs).set n x
  | [], σ => by simp [wipe]
  | v :: vs, σ => by
    unfold wipe
    rw [wipe_set n x vs σ]
    by_cases h : n ∈ vs
    · rw [if_pos h, if_pos (List.mem_cons_of_mem _ h)]
    · rw [if_neg h]
      by_cases e : n = v
      · subst e
        rw [if_pos List.mem_cons_self, List.set_set]
      · rw [if_neg (by simp [e, h]), List.set_comm _ _ e]
def wipeG (Γ : Gam) : List Nat → Gam
  | [] => Γ
  | v :: vs => (wipeG Γ vs).set v none
theorem env_none {K : PySem.W.Frag} {H : Hp} {Γ : Gam} {σ : L2.St} (n : Nat) (h : EnvR K H Γ σ) : EnvR K H (Γ.set n none) (σ.set n none) := by
  refine ⟨by rw [List.length_set, List.length_set]; exact h.1, fun j e q => ?_⟩
  by_cases hij : n = j
  · subst hij
    by_cases hl : n < Γ.length
    · rw [List.getElem?_set_self hl] at q
      cases q
    · rw [List.getElem?_eq_none_iff.mpr (by rw [List.length_set]; omega)] at q
      cases q
  · rw [List.getElem?_set_ne hij] at q
    obtain ⟨w, h1, h2⟩ := h.2 j e q
    exact ⟨w, by rw [List.getElem?_set_ne hij]; exact h1, h2⟩
theorem env_wipe {K : PySem.W.Frag} {H : Hp} {Γ : Gam} {σ : L2.St} (h : EnvR K H Γ σ) : ∀ vs : List Nat, EnvR K H (wipeG Γ vs) (wipe σ vs)
  | [] => h
  | v :: vs => env_none v (env_wipe h vs)
section
variable {X : Cx} {Γ : Gam} {M : Mem} {P : Val → Mem → Prop} {e a b c o : Expr} {es : List Expr} {kws : List Keyword} {pos p1 p2 apos kpos : Pos} {k : AK} {d d1 d2 d3 : Val} {i j : Int} {x y m : Str} {n : Nat} {f C : Addr}
/-- a target within a comprehension: slots of vs alone -/
def aGw (X : Cx) (vs : List Nat) (tg : Expr) (d : Val) (Γ : Gam) (M : Mem) (R : Gam → Mem → Prop) : Prop := ∀ Hi H σ v, Ok X.K Hi M H → EnvR X.K Hi Γ σ → Rep X.K Hi d v → ∀ Q : L2.St → Hp → Prop, (∀ Γ' M' σ' Hi' H', R Γ' M' → Same Hi Hi' → Ok X.K Hi' M' H' → EnvR X.K Hi' Γ' σ' → wipe σ' vs = wipe σ vs → Q σ' H') → WG X tg v σ H Q
theorem agw_name {vs : List Nat} {R : Gam → Mem → Prop} (n : Nat) (hN : X.N.Nodup) (h : R (Γ.set n (some d)) M) (hn : n ∈ vs := by decide) (hi : X.N[n]? = some x := by rfl) (hx : Loc X.env.scope x := by first | exact Or.inl rfl | exact Or.inr rfl) (hf : X.fn x = true ∨ X.env.scope.names.lookup x = some .local := by first | exact .inl rfl | exact .inr rfl | assumption) :
    aGw X vs (.Name x pos) d Γ M R := fun Hi H σ v ok en r Q q => ⟨_, pg_name hN hi hx hf, q _ _ _ Hi H h (Same.refl _) ok (en.set r) (by rw [wipe_set, if_pos hn])⟩
def aGws (X : Cx) (vs : List Nat) (tgs : List Expr) (ds : List Val) (Γ : Gam) (M : Mem) (R : Gam → Mem → Prop) : Prop := ∀ Hi H σ ws, Ok X.K Hi M H → EnvR X.K Hi Γ σ → RepA X.K Hi ds ws → ∀ Q : L2.St → Hp → Prop, (∀ Γ' M' σ' Hi' H', R Γ' M' → Same Hi Hi' → Ok X.K Hi' M' H' → EnvR X.K Hi' Γ' σ' → wipe σ' vs = wipe σ vs → Q σ' H') → ∃ t, PGs X tgs t ∧ t ws σ H Q
theorem agws_nil {vs : List Nat} {R : Gam → Mem → Prop} (h : R Γ M) : aGws X vs [] [] Γ M R := fun Hi H σ ws ok en r Q q => by
  cases r
  exact ⟨_, pgs_nil, rfl, q _ _ _ Hi H h (Same.refl _) ok en rfl⟩
theorem agws_cons {vs : List Nat} {R : Gam → Mem → Prop} {ds : List Val} (h : aGw X vs e d Γ M fun Γ' M' => aGws X vs es ds Γ' M' R) (hs : (assignEach (e :: es) X.env).map (·.2) = assign e X.env :: (assignEach es X.env).map (·.2) := by rfl) : aGws X vs (e :: es) (d :: ds) Γ M R := fun Hi H σ ws ok en r Q q => by
  cases r with
  | cons r1 r2 =>
    refine ⟨_, pgs_cons pg_wg pgs_wgs hs, _, _, rfl, ?_⟩
    refine h Hi H σ _ ok en r1 _ fun Γ' M' σ' Hi' H' h1 s1 ok1 en1 w1 => ?_
    exact h1 Hi' H' σ' _ ok1 en1 (r2.mono s1) Q fun Γ2 M2 σ2 Hi2 H2 h2 s2 ok2 en2 w2 => q _ _ _ Hi2 H2 h2 (s1.trans s2) ok2 en2 (w2.trans w1)
theorem agw_tup {vs : List Nat} {kk : Nat} {R : Gam → Mem → Prop} {ds : List Val} (hc : X.calm = true) (h : aGws X vs es ds Γ M R) (hl : (assignEach es X.env).length = ds.length := by rfl) (hst : (assignEach es X.env).findIdx? (·.1) = none := by rfl) : aGw X vs (.Tuple es kk pos) (.tup ds) Γ M R := fun Hi H σ v ok en r Q q => by
  cases r with
  | tup hq ra => exact ⟨_, pg_tup hc pgs_wgs rfl hst, _, _, rfl, sameT ok.im hq, ra.length.symm.trans hl.symm, h Hi H σ _ ok en ra Q q⟩
def aTs (X : Cx) (ifs : List Expr) (Γ : Gam) (M : Mem) (P : Bool → Mem → Prop) : Prop := ∀ Hi H σ, Ok X.K Hi M H → EnvR X.K Hi Γ σ → ∀ Q, PostT X.K Hi P Q → ∃ t, PTs X ifs t ∧ t σ H Q
def WTs (X : Cx) (ifs : List Expr) : TT := fun σ H Q => ∃ t, PTs X ifs t ∧ t σ H Q
theorem pts_wts {ifs : List Expr} : PTs X ifs (WTs X ifs) := ⟨fun pins s σ H Q I ⟨t, p, h⟩ => p.run pins s σ H Q I h⟩
theorem ats_nil {P : Bool → Mem → Prop} (h : P true M) : aTs X [] Γ M P := fun Hi H σ ok en Q q => ⟨_, pts_nil, q _ _ Hi H h (Same.refl _) ok⟩
/-- a comprehension's block -/
abbrev bx (X : Cx) (scope : Scope) (s : Shared) (H : Hp) (C : Addr) (cl : List (Str × Addr)) (fp : List Addr) : Cx := X.blk s H scope (compEnvC scope cl C X.env) fp
def bE (X : Cx) (scope : Scope) (e : Expr) (Γ : Gam) (M : Mem) (P : Val → Mem → Prop) : Prop := ∀ s H C cl fp, aE (bx X scope s H C cl fp) e Γ M P
def bTs (X : Cx) (scope : Scope) (es : List Expr) (Γ : Gam) (M : Mem) (P : Bool → Mem → Prop) : Prop := ∀ s H C cl fp, aTs (bx X scope s H C cl fp) es Γ M P
def bG (X : Cx) (scope : Scope) (vs : List Nat) (tg : Expr) (d : Val) (Γ : Gam) (M : Mem) (R : Gam → Mem → Prop) : Prop := ∀ s H C cl fp, aGw (bx X scope s H C cl fp) vs tg d Γ M R
theorem lc_read {tg iter elt : Expr} {ifs : List Expr} {scope : Scope} {vs : List Nat} {n : Nat} {it : Nat → Val} {G : Mem → Prop} (J : Nat → List Val → Mem → Prop)
    (hi : aI X tg iter Γ M n it G (J 0 [])) (hG : ∀ i acc M, i ≤ n → J i acc M → G M) (hGd : ∀ c M, G M → G (c :: M))
    (hs : ∀ i acc M D, i < n → acc.length ≤ i → J i acc M → bG X scope vs tg (it i) (wipeG Γ vs) ((D, .lst acc) :: M) fun Γ2 M2 => bTs X scope ifs Γ2 M2 fun b M3 =>
      (b = true → bE X scope elt Γ2 M3 fun y M4 => ∃ M5, M4 = (D, .lst acc) :: M5 ∧ J (i + 1) (acc ++ [y]) M5) ∧ (b = false → ∃ M5, M3 = (D, .lst acc) :: M5 ∧ J (i + 1) acc M5))
    (hn : n ≤ 100000) (hd : ∀ D acc M, J n acc M → P (.ptr D) ((D, .lst acc) :: M)) {Hi H : Hp} {σ : L2.St} (ok : Ok X.K Hi M H) (en : EnvR X.K Hi Γ σ) {Q : VK} (q : Post X.K Hi P Q) :
    tLc (WI X tg iter) (fun v σ H Q => ∀ s H' C cl fp, WG (bx X scope s H' C cl fp) tg v σ H Q) (fun σ H Q => ∀ s H' C cl fp, WTs (bx X scope s H' C cl fp) ifs σ H Q) (fun σ H Q => ∀ s H' C cl fp, WE (bx X scope s H' C cl fp) elt σ H Q) vs σ H Q := by
  refine hi Hi H σ ok en _ fun J' M1 Hi1 H1 h1 s1 ok1 w => ?_
  intro D hD
  refine lc_it (g := fun v σ H Q => ∀ s H' C cl fp, WG (bx X scope s H' C cl fp) tg v σ H Q) (tt := fun σ H Q => ∀ s H' C cl fp, WTs (bx X scope s H' C cl fp) ifs σ H Q) (te := fun σ H Q => ∀ s H' C cl fp, WE (bx X scope s H' C cl fp) elt σ H Q) (vs := vs) (σ := σ) (Qd := fun H => Q (V.ref D) H)
    w (fun i H' => ∃ acc M' Hi', J i acc M' ∧ acc.length ≤ i ∧ Same Hi1 Hi' ∧ Ok X.K Hi' ((D, .lst acc) :: M') H') ⟨[], M1, Hi1, h1, Nat.le_refl _, Same.refl _, ok1.new hD ⟨[], rfl, .nil⟩⟩ ?_ ?_ ?_
  · rintro i H' hi ⟨acc, M', Hi', h2, _, s2, ok2⟩
    exact ⟨Hi', M', s2, ok2.tail, hG i acc M' hi h2⟩
  · rintro i v H' H'' hi ⟨acc, M', Hi', h2, hl, s2, ok2⟩ hy
    obtain ⟨Hi3, s3, ok3, r3⟩ := hy Hi' ((D, .lst acc) :: M') s2 ok2 (hGd _ _ (hG i acc M' (Nat.le_of_lt hi) h2))
    intro s0 H0 C0 cl0 fp0
    have s13 := s2.trans s3
    refine hs i acc M' D hi hl h2 s0 H0 C0 cl0 fp0 Hi3 H'' (wipe σ vs) v ok3 (env_wipe (en.mono (s1.trans s13)) vs) r3 _ fun Γ4 M4 σ4 Hi4 H4 h4 s4 ok4 en4 w4 => ⟨?_, ?_⟩
    · rw [w4]
      clear w4 en4
      have idem : ∀ (us : List Nat) (τ : L2.St), wipe (wipe τ us) us = wipe τ us := by
        intro us
        induction us with
        | nil => intro τ; rfl
        | cons u us ih =>
          intro τ
          show (wipe ((wipe τ us).set u none) us).set u none = (wipe τ us).set u none
          rw [wipe_set]
          by_cases hu : u ∈ us
          · rw [if_pos hu, ih]
          · rw [if_neg hu, ih, List.set_set]
      exact idem vs σ
    · intro s5 H5 C5 cl5 fp5
      refine h4 s5 H5 C5 cl5 fp5 Hi4 H4 σ4 ok4 en4 _ fun b M6 Hi6 H6 h6 s6 ok6 => ?_
      cases b with
      | true =>
        refine iteT fun s7 H7 C7 cl7 fp7 => ?_
        refine h6.1 rfl s7 H7 C7 cl7 fp7 Hi6 H6 σ4 ok6 (en4.mono s6) _ fun y M8 v8 Hi8 H8 h8 s8 ok8 r8 => ?_
        obtain ⟨M9, rfl, h9⟩ := h8
        obtain ⟨_, o, ho, xs, rfl, ra⟩ := ok8.ce D _ List.mem_cons_self
        refine ⟨xs, ho, ?_, ?_⟩
        · rw [← ra.length]
          exact Nat.lt_of_lt_of_le (Nat.lt_of_le_of_lt hl (Nat.lt_of_lt_of_le hi hn)) (by decide)
        · exact ⟨acc ++ [y], M9, Hi8, h9, by rw [List.length_append]; exact Nat.succ_le_succ hl, ((s13.trans s4).trans s6).trans s8, ok8.set (i := 0) rfl ⟨_, rfl, ra.append (.cons r8 .nil)⟩⟩
      | false =>
        obtain ⟨M9, rfl, h9⟩ := h6.2 rfl
        exact iteF ⟨acc, M9, Hi6, h9, Nat.le_succ_of_le hl, (s13.trans s4).trans s6, ok6⟩
  · rintro H' ⟨acc, M', Hi', h2, hl, s2, ok2⟩
    exact q _ _ _ Hi' H' (hd D acc M' h2) (s1.trans s2) ok2 (.ptr D)
/-- [elt for tg in iter if ..]: a new cell -/
theorem ae_lcC {tg iter elt : Expr} {ifs : List Expr} {scope : Scope} (own : List (Str × Nat)) {n : Nat} {it : Nat → Val} {G : Mem → Prop} (J : Nat → List Val → Mem → Prop) (hc : X.calm = true) (hN : X.N.Nodup) (ok : BlkOk X.N X.env.scope scope own)
    (hi : aI X tg iter Γ M n it G (J 0 [])) (hG : ∀ i acc M, i ≤ n → J i acc M → G M) (hGd : ∀ c M, G M → G (c :: M))
    (hs : ∀ i acc M D, i < n → acc.length ≤ i → J i acc M → bG X scope (own.map (·.2)) tg (it i) (wipeG Γ (own.map (·.2))) ((D, .lst acc) :: M) fun Γ2 M2 => bTs X scope ifs Γ2 M2 fun b M3 =>
      (b = true → bE X scope elt Γ2 M3 fun y M4 => ∃ M5, M4 = (D, .lst acc) :: M5 ∧ J (i + 1) (acc ++ [y]) M5) ∧ (b = false → ∃ M5, M3 = (D, .lst acc) :: M5 ∧ J (i + 1) acc M5))
    (hn : n ≤ 100000) (hd : ∀ D acc M, J n acc M → P (.ptr D) ((D, .lst acc) :: M)) (hf : ∀ x, foldedSetIterable iter X.env x = pure x := by intro _; rfl) :
    aE X (.ListComp elt [⟨tg, iter, ifs, 0⟩] scope pos) Γ M P := fun Hi H σ ok' en Q q =>
  ⟨_, pe_lc hc hN pi_wi ok (fun s H C cl fp => ⟨fun pins s' σ H v u Q I r h => pg_wg.run pins s' σ H v u Q I r (h _ _ _ _ _)⟩) (fun s H C cl fp => ⟨fun pins s' σ H Q I h => pts_wts.run pins s' σ H Q I (h _ _ _ _ _)⟩) (fun s H C cl fp => ⟨fun pins s' σ H Q I h => pe_we.run pins s' σ H Q I (h _ _ _ _ _)⟩) hf,
    lc_read J hi hG hGd hs hn hd ok' en q⟩
end
end Ab
namespace Ab
open PySem PySem.Spec PyProof.Rows L2
section
variable {X : Cx} {Γ : Gam} {M : Mem} {P : Val → Mem → Prop} {e a b c o : Expr} {es : List Expr} {kws : List Keyword} {pos p1 p2 apos kpos : Pos} {k : AK} {d d1 d2 d3 : Val} {i j : Int} {x y m : Str} {n : Nat} {f C : Addr}
/-! ### a class's own things -/
/-- o.f, f a property -/
theorem ae_prop {fl : Str} {p g : Addr} {fs : List (Str × Val)} {sx : ASx} (c : Cls X.K C) (hp : PropOf X.K C fl p g) (F : FnX X.prog X.w X.K X.mg X.base n g [] (spX X.K sx)) (hr : Rm (n + 1) X.A) (ho : aV X o Γ M d) (hob : Ob M C d fs) (h : sx [d] [] M P)
    (hb : attributeBase o fl X.env (eval o X.env) = eval o X.env := by rfl) : aE X (.Attribute o fl pos) Γ M P := fun Hi H σ ok en Q q => by
  refine ⟨fun σ H Q => WE X o σ H fun x H1 => ∃ a dx fs, x = .ref a ∧ H1 a = some (.ins C dx fs) ∧ spX X.K sx [.ref a] [] H1 Q, ⟨fun pins s σ H Q I h => ?_⟩, ?_⟩
  · refine attr_of hb (thn (pe_we.run pins s σ H _ I h) fun u s1 ⟨x, H1, I1, rx, a, dx, fs, ex, ea, q⟩ => ?_)
    subst ex
    obtain rfl : u = Value.ref a := rx
    obtain ⟨mA, O, _, _, _, _⟩ := ins_get I1.hok ea
    obtain ⟨od, J, _⟩ := O.look
    obtain ⟨rest, hrec⟩ := hp.rec_
    have I2 := I1.tok (s1.toks + 1)
    have hc : (PySem.W.clsIn X.K C).isSome = true := by
      obtain ⟨cd, hc, _⟩ := PySem.W.any_some c.hd
      rw [hc]
      rfl
    refine PySem.W.get_bind I1.kIn J (PySem.W.plainGet_of (c.get fl)).1 (PySem.W.findObj_data hc hp.at_ hp.get hp.tak) (PySem.W.plainGet_of (c.get fl)).2 (wpAny_call (PySem.W.prop_get (s := { s1 with toks := s1.toks + 1 }) I1.kIn hrec ?_))
    refine codeAny_mono (F.run X.A.in1 X.stack { s1 with toks := s1.toks + 1 } H1 [.ref a] [] [.ref a] [] Q hr.in1 I2.env0.in1 (.cons rfl .nil) .nil rfl q) fun r s' hq => ?_
    cases r with
    | error er => exact False.elim hq
    | ok fl =>
      cases fl with
      | ret u =>
        obtain ⟨v, H', I3, rv, q3⟩ := I2.after hq
        show wpAny _ _ (handedOut u) _ _ _
        rw [PySem.W.handedOut_of (handed_of rv)]
        exact wpAny_pure ⟨v, H', I3, rv, q3⟩
      | next => exact False.elim hq
      | brk => exact False.elim hq
      | cont => exact False.elim hq
  · refine ho Hi H σ ok en _ fun x M0 v0 Hi0 H0 h0 s0 ok0 r0 => ?_
    obtain ⟨rfl, rfl⟩ := h0
    obtain ⟨p, dx, gs, rfl, hp, rf⟩ := hob.rep ok0 r0
    exact ⟨p, dx, gs, rfl, hp, Hi0, _, [_], [], P, .cons r0 .nil, .nil, ok0, h, q.up s0⟩
/-- C.m is a staticmethod: its record at p, its def at g -/
structure SMet (K : PySem.W.Frag) (C : Addr) (mc : Value) (m : Str) (p g : Addr) : Prop where
  at_ : PySem.W.findCls K (.ref C) mc m = some (.get (.builtin "staticmethod.__get__") (.ref p) .none (.ref C))
  rc : ∃ rest, PySem.W.recIn K p "staticmethod" = some (.ref g :: rest)
  kp : PySem.W.keepIn K (.ref g) = true
theorem ae_smeth {mc : Value} {p g : Addr} {pl : Sem Bool} {ks : List Str} {sx : ASx} (r : ClX.CRead X.K C mc) (sm : SMet X.K C mc m p g) (F : FnX X.prog X.w X.K X.mg X.base n g ks (spX X.K sx)) (hr : Rm n X.A) (ho : aV X o Γ M (.ptr C))
    (h : aA X (e :: es) Γ M fun ds M1 => aKw X kws Γ M1 fun zs M2 => zs.length = ks.length ∧ sx ds zs M2 P)
    (hall : (backToKw pos (keywordEach kws X.env)).all (·.1.isSome) = true := by rfl) (hks : (backToKw pos (keywordEach kws X.env)).filterMap (·.1) = ks := by rfl)
    (he : starEach (e :: es) X.env = (false, eval e X.env) :: starEach es X.env := by rfl) (hpl : ((backTo pos (starEach (e :: es) X.env)).any (·.1) || (backToKw pos (keywordEach kws X.env)).any (·.1.isNone)) = false := by rfl)
    (ht : eval (.Call (.Attribute o m apos) (e :: es) kws pos) X.env = (do
      let ov ← eval o X.env
      standAt apos.atName
      let (f, first) ← holding [ov] (getMethod ov m pl)
      callWith pos f first (backTo pos (starEach (e :: es) X.env)) (backToKw pos (keywordEach kws X.env))) := by rfl) : aE X (.Call (.Attribute o m apos) (e :: es) kws pos) Γ M P := fun Hi H σ ok en Q q => by
  refine ⟨fun σ H Q => WE X o σ H fun x H0 => x = .ref C ∧ WA X (e :: es) σ H0 fun vs H1 => WK X kws σ H1 fun zs H2 => zs.length = ks.length ∧ spX X.K sx vs zs H2 Q, ⟨fun pins s σ H Q I h => ?_⟩, ?_⟩
  · refine PySem.W.methodCall_KW (pl := pl) (thn (pe_we.run pins s σ H _ I h) fun u s1 ⟨x, H1, I1, rx, ex, q⟩ => ?_) ht
    subst ex
    obtain rfl : u = Value.ref C := rx
    obtain ⟨rest, hp⟩ := sm.rc
    refine PySem.W.method_cls I1.kIn r.ga (PySem.W.cls_bind I1.kIn r.rd sm.at_ (wpAny_call (PySem.W.sm_get (s := { s1 with toks := s1.toks + 1 }) I1.kIn hp (PySem.W.handed_on rfl ?_))))
    have I2 := I1.tok (s1.toks + 1)
    refine PySem.W.callWith_KW (first := []) (h₀ := X.base) I.ok.mod.kin sm.kp hall (thn (pa_wa.run pos pins _ σ H1 _ I2 q) fun us s2 ⟨vs, H2, I3, r, q2⟩ => ?_) hpl he
    refine thn (pk_wk.run pos pins s2 σ H2 _ I3 q2) fun ws s3 ⟨zs, H3, I4, rz, l2, q3⟩ => ⟨I4.kIn, ?_⟩
    rw [hks]
    exact run_x F hr I4 r rz l2 q3
  · refine ho Hi H σ ok en _ fun x M0 v0 Hi0 H0 h0 s0 ok0 r0 => ?_
    obtain ⟨rfl, rfl⟩ := h0
    cases r0
    refine ⟨rfl, ?_⟩
    refine h Hi0 H0 σ ok0 (en.mono s0) _ fun ds M1 vs Hi1 H1 h1 s1 ok1 r1 => ?_
    refine h1 Hi1 H1 σ ok1 (en.mono (s0.trans s1)) _ fun zs M2 ws Hi2 H2 h2 s2 ok2 r2 => ?_
    exact ⟨r2.length.symm.trans h2.1, Hi2, M2, ds, zs, P, r1.mono s2, r2, ok2, h2.2, q.up ((s0.trans s1).trans s2)⟩
/-! ### isinstance -/
/-- a value's type -/
inductive TyV (K : PySem.W.Frag) (M : Mem) : Val → Value → Prop
  | non : TyV K M .non (.type "NoneType")
  | bl (b : Bool) : TyV K M (.bl b) (.type "bool")
  | int (i : Int) : TyV K M (.int i) (.type "int")
  | str (x : Str) : TyV K M (.str x) (.type "str")
  | tup (xs : List Val) : TyV K M (.tup xs) (.type "tuple")
  | lst {d : Val} {xs : List Val} : Vw M d (.lst xs) → TyV K M d (.type "list")
  | ob {C : Addr} {d : Val} {fs : List (Str × Val)} : Ob M C d fs → Cls K C → PySem.W.findIn K (.ref C) "__class__" = some (some (.builtin "object.__class__")) → PySem.W.specialIn K (.builtin "object.__class__") "__get__" = some (some (.builtin "getset_descriptor.__get__")) →
      PySem.W.takesIn K (.builtin "object.__class__") = some true → PySem.W.mroIn K C (.type "object") = some true → TyV K M d (.ref C)
theorem tyx_l {K : PySem.W.Frag} {H : Hp} {p : Addr} {xs : List V} (h : SqL K H p xs) : TyX K H (.ref p) (.type "list") := by
  rcases h with (h | ⟨o, h⟩) | h
  · exact .base (.lst h)
  · exact .base (.frz h)
  · obtain ⟨its, _, o, e, c, _⟩ := h
    exact .kList e c
theorem tyx_t {K : PySem.W.Frag} {H : Hp} {p : Addr} {xs : List V} (h : SqT K H p xs) : TyX K H (.ref p) (.type "tuple") := by
  rcases h with (h | ⟨o, h⟩) | h
  · exact .base (.tup h)
  · exact .fTuple h
  · obtain ⟨its, _, o, e, c, _⟩ := h
    exact .kTuple e c
theorem TyV.tyx {K : PySem.W.Frag} {Hi H : Hp} {t : Value} {v : V} (h : TyV K M d t) (ok : Ok K Hi M H) (r : Rep K Hi d v) : TyX K H v t := by
  cases h with
  | non => cases r; exact .base .non
  | bl b => cases r; exact .base (.bl b)
  | int b => cases r; exact .base (.int b)
  | str b => cases r; exact .base (.str b)
  | tup xs => cases r with
    | tup hq ra => exact tyx_t (sameT ok.im hq)
  | lst hv =>
    obtain ⟨p, ys, rfl, hq, _⟩ := hv.repL ok r
    exact tyx_l hq
  | ob ho c h1 h2 h3 h4 =>
    obtain ⟨p, dx, gs, rfl, hq, _⟩ := ho.rep ok r
    exact .base (.ins hq c h1 h2 h3 h4)
/-- a class as a value -/
inductive ClV : Val → Value → Prop
  | ty (n : String) : ClV (.ty n) (.type n)
  | own (C : Addr) : ClV (.ptr C) (.ref C)
theorem ae_isi {t u : Value} {bb : Bool} (hm : X.mg "isinstance" = none) (ha : aV X a Γ M d1) (hb : aV X b Γ M d2) (hc : ClV d2 u) (ht : TyV X.K M d1 t) (hk : PySem.W.kitOne X.K t u = some bb) (h : P (.bl bb) M) (hg : Gl X "isinstance" := by rfl)
    (hs : starEach [a, b] X.env = (false, eval a X.env) :: starEach [b] X.env := by rfl) (hs2 : starEach [b] X.env = (false, eval b X.env) :: starEach [] X.env := by rfl) (hpl : (backTo pos (starEach [b] X.env)).any (·.1) = false := by rfl) : aE X (.Call (.Name "isinstance" p1) [a, b] [] pos) Γ M P :=
  ae_callB call_isi hm (by decide +kernel) (aa_cons (ha.val (aa_cons (hb.val (aa_nil fun Hi H vs ok r Q q => by
    cases r with
    | cons r1 r2 =>
      cases r2 with
      | cons r2 r3 =>
        cases r3
        refine ⟨_, _, t, u, bb, rfl, ?_, ht.tyx ok r1, hk, q _ _ _ Hi H h (Same.refl _) ok (.bl _)⟩
        cases hc with
        | ty n => cases r2; exact .ty n
        | own C => cases r2; exact .own C)) hs2)) hs) hg (he := hs) (hpl := hpl)
/-- a built-in class by its name -/
theorem av_ty {T : String} (hm : X.mg x = none) (hv : bootBuiltins x = some (.type T)) (hg : Gl X x := by rfl) (hn : x ≠ "__name__" := by decide) (hd : (x == ("__debug__" : Str)) = false := by decide) : aV X (.Name x pos) Γ M (.ty T) :=
  ae_c (v := .ty T) (pe_bltn hg hm hv rfl hn hd) (fun _ _ => .ty T) ⟨rfl, rfl⟩
/-! ### all, sum, sorted, min, max -/
theorem ae_all (hm : X.mg "all" = none) (hc : X.calm = true) (ha : aE X a Γ M fun d M' => ∃ bs : List Bool, Vw M' d (.lst (bs.map .bl)) ∧ P (.bl (bs.all id)) M') (hg : Gl X "all" := by rfl) (hst : starEach [a] X.env = [(false, eval a X.env)] := by rfl) : aE X (.Call (.Name "all" p1) [a] [] pos) Γ M P :=
  ae_callB (cr_all hc) hm (by decide +kernel) (aa_cons (ha.mono fun d M' ⟨bs, hv, h⟩ => aa_nil fun Hi H vs ok r Q q => by
    cases r with
    | cons r1 r2 =>
      cases r2
      obtain ⟨p, ys, rfl, hq, ra⟩ := hv.repL ok r1
      rw [ra.bls] at hq
      exact ⟨p, bs, rfl, hq, q _ _ _ Hi H h (Same.refl _) ok (.bl _)⟩) hst) hg (he := hst) (hpl := rfl)
theorem ae_max2 (hm : X.mg "max" = none) (hc : X.calm = true) (ha : aV X a Γ M (.int i)) (hb : aV X b Γ M (.int j)) (h : P (.int (if j > i then j else i)) M) (hg : Gl X "max" := by rfl)
    (hs : starEach [a, b] X.env = (false, eval a X.env) :: starEach [b] X.env := by rfl) (hs2 : starEach [b] X.env = (false, eval b X.env) :: starEach [] X.env := by rfl) (hpl : (backTo pos (starEach [b] X.env)).any (·.1) = false := by rfl) : aE X (.Call (.Name "max" p1) [a, b] [] pos) Γ M P :=
  ae_callB (call_max2 hc) hm (by decide +kernel) (aa_cons (ha.val (aa_cons (hb.val (aa_nil fun Hi H vs ok r Q q => by
    cases r with
    | cons r1 r2 =>
      cases r2 with
      | cons r2 r3 =>
        cases r3
        cases r1
        cases r2
        exact ⟨i, j, rfl, q _ _ _ Hi H h (Same.refl _) ok (.int _)⟩)) hs2)) hs) hg (he := hs) (hpl := hpl)
/-! ### + and * of lists and tuples -/
def rCatL (K : PySem.W.Frag) : R2 := fun x y H Q => ∃ l b xs zs, x = .ref l ∧ y = .ref b ∧ SqL K H l xs ∧ SqL K H b zs ∧ xs.length + zs.length ≤ sizeLine ∧ ∀ p, H p = none → Q (.ref p) (upd H p (.lst (xs ++ zs)))
theorem op_catL : OpR X (binaryOp .Add) (rCatL X.K) := by
  intro pins s σ H x y v u Q I rx ry h
  obtain ⟨l, b, xs, zs, rfl, rfl, hH, hB, hz, q⟩ := h
  cases rx
  cases ry
  obtain ⟨its, r, pl, z⟩ := I.list hH
  obtain ⟨its2, r2, pl2, z2⟩ := I.list hB
  have l1 := r.length
  have l2 := r2.length
  obtain ⟨⟨cl, dd, da, sl⟩, ho, hc, n, hd⟩ := pl.isList
  obtain ⟨⟨cl2, dd2, da2, sl2⟩, ho2, hc2, n2, hd2⟩ := pl2.isList
  obtain rfl : cl = .type "list" := hc
  obtain rfl : cl2 = .type "list" := hc2
  obtain rfl : da = .seq its.toArray n := hd
  obtain rfl : da2 = .seq its2.toArray n2 := hd2
  refine concat_meets ⟨_, ho, rfl⟩ ⟨_, ho2, rfl⟩ noFill_list_add seq_list_add PySem.F.slot_list_add PySem.F.entry_list_add (PySem.F.args_list_add_2 _ _) (list_addW l b its.toArray its2.toArray n n2 dd dd2 sl sl2 (by rw [List.size_toArray, List.size_toArray]; omega)) ⟨ho, ho2, ?_⟩
  rw [show its.toArray ++ its2.toArray = (its ++ its2).toArray by simp]
  exact ⟨.ref _, _, I.lnew (t' := s.toks) (r.append r2) (by rw [List.length_append]; omega), rfl, q _ I.fresh⟩
theorem rv_catL {xs ys : List Val} (h1 : Vw M d1 (.lst xs)) (h2 : Vw M d2 (.lst ys)) (hl : xs.length + ys.length ≤ sizeLine) (h : ∀ p, P (.ptr p) ((p, .lst (xs ++ ys)) :: M)) : RV X (rCatL X.K) d1 d2 M P := fun Hi H v w ok rv rw_ Q q => by
  obtain ⟨p, us, rfl, hq, ra⟩ := h1.repL ok rv
  obtain ⟨p', ws, rfl, hq', ra'⟩ := h2.repL ok rw_
  exact ⟨p, p', us, ws, rfl, rfl, hq, hq', by rw [← ra.length, ← ra'.length]; exact hl, fun l hl => q _ _ _ _ _ (h l) (Same.refl _) (ok.new hl ⟨_, rfl, ra.append ra'⟩) (.ptr l)⟩
theorem rv_catT {xs ys : List Val} (hl : xs.length + ys.length ≤ sizeLine) (h : P (.tup (xs ++ ys)) M) : RV X (rCatA X.K) (.tup xs) (.tup ys) M P := fun Hi H v w ok rv rw_ Q q => by
  cases rv with
  | @tup p us _ hq ra =>
    cases rw_ with
    | @tup p' ws _ hq' ra' =>
      refine ⟨p, p', us, ws, rfl, rfl, sameT ok.im hq, sameT ok.im hq', by rw [← ra.length, ← ra'.length]; exact hl, fun e => ?_, fun _ e => ?_, fun _ _ l hl => ?_⟩
      · subst e
        cases ra
        exact q _ _ _ Hi H h (Same.refl _) ok (.tup hq' ra')
      · subst e
        cases ra'
        rw [List.append_nil] at h
        exact q _ _ _ Hi H h (Same.refl _) ok (.tup hq ra)
      · have s2 := same_upd (o := .tup (us ++ ws)) (ok.none hl)
        exact q _ _ _ _ _ h s2 (ok.imm hl) (.tup (SqT.of upd_same) ((ra.append ra').mono s2))
end
end Ab
namespace Ab
open PySem PySem.Spec PyProof.Rows L2
section
variable {X : Cx} {Γ : Gam} {M : Mem} {P : Val → Mem → Prop} {e a b c o : Expr} {es : List Expr} {kws : List Keyword} {pos p1 p2 apos kpos : Pos} {k : AK} {d d1 d2 d3 : Val} {i j : Int} {x y m : Str} {n : Nat} {f C : Addr}
/-! ### repr of lists and tuples -/
def rRepr (K : PySem.W.Frag) : List V → Hp → VK → Prop := fun xs H Q => ∃ (p : Addr) (d : PyData), xs = [.ref p] ∧ Dp K H (.ref p) d ∧ d.showable = true ∧ d.hasDict = false ∧ d.depth ≤ 60 ∧ d.shown.length ≤ sizeLine ∧ Q (.str d.shown) H
theorem call_repr {n : Nat} (hr : Rm n X.A) : CallR X (.builtin "repr") (rRepr X.K) := by
  intro pins s σ H xs us Q I r h
  obtain ⟨p, d, rfl, hd, h1, h2, h3, h4, q⟩ := h
  obtain ⟨u, rfl, ru⟩ := vals1 r
  obtain rfl : u = Value.ref p := ru
  obtain ⟨as, rd⟩ := Dp.reads I d (.ref p) (.ref p) hd rfl
  have hu := hr.u64
  exact repr_of_reads' rd h1 (PyData.noDict_hsm h2) hr.gd (by omega) (fun _ _ z => z) (fun h' u tk hk => ⟨.str d.shown, H, I.kept (h' := h') (t' := tk) hk, ⟨_, rfl⟩, q⟩) h4
theorem rep_ref {K : PySem.W.Frag} {H : Hp} {d : Val} {v : V} {p : PyData} (r : Rep K H d v) (h : toD d = some p) (hl : (∃ xs, p = .list xs) ∨ ∃ xs, p = .tuple xs) : ∃ a, v = .ref a := by
  cases r <;> first | exact ⟨_, rfl⟩ | (rcases hl with ⟨_, rfl⟩ | ⟨_, rfl⟩ <;> cases h)
theorem ae_repr {n : Nat} (hr : Rm n X.A) (hm : X.mg "repr" = none) (ha : aE X a Γ M fun d M' => ∃ d' p, Vw M' d d' ∧ toD d' = some p ∧ ((∃ xs, p = .list xs) ∨ ∃ xs, p = .tuple xs) ∧ p.showable = true ∧ p.hasDict = false ∧ p.depth ≤ 60 ∧ p.shown.length ≤ sizeLine ∧ P (.str p.shown) M')
    (hg : Gl X "repr" := by rfl) (hst : starEach [a] X.env = [(false, eval a X.env)] := by rfl) : aE X (.Call (.Name "repr" p1) [a] [] pos) Γ M P :=
  ae_callB (call_repr hr) hm (by decide +kernel) (aa_cons (ha.mono fun d M' ⟨d', p, hv, hd, hl, h1, h2, h3, h4, h⟩ => aa_nil fun Hi H vs ok r Q q => by
    cases r with
    | cons r1 r2 =>
      cases r2
      have rH := hv.rep ok r1
      obtain ⟨l, rfl⟩ := rep_ref rH hd hl
      exact ⟨l, p, rfl, rep_dp _ rH hd, h1, h2, h3, h4, q _ _ _ Hi H h (Same.refl _) ok (.str _)⟩) hst) hg (he := hst) (hpl := rfl)
/-! ### [x] * n -/
theorem rv_repL {xs : List Val} {p : Addr} {jj : Int} {n : Nat} (hm : M[n]? = some (p, .lst xs)) (h1 : 0 ≤ jj) (h2 : jj < 2 ^ 31) (hl : xs.length * jj.toNat ≤ sizeLine) (h : ∀ q, P (.ptr q) ((q, .lst (List.replicate jj.toNat xs).flatten) :: M)) : RV X rRep (.ptr p) (.int jj) M P := fun Hi H v w ok rv rw_ Q q => by
  cases rv
  cases rw_
  obtain ⟨_, o, ho, ys, rfl, ra⟩ := ok.get hm
  refine ⟨p, jj, ys, rfl, rfl, ho, by omega, by omega, by rw [← ra.length]; exact hl, fun l hl => q _ _ _ _ _ (h l) (Same.refl _) (ok.new hl ⟨_, rfl, ?_⟩) (.ptr l)⟩
  have : ∀ m : Nat, RepA X.K Hi (List.replicate m xs).flatten (List.replicate m ys).flatten := by
    intro m
    induction m with
    | zero => exact .nil
    | succ m ih =>
      rw [List.replicate_succ, List.replicate_succ, List.flatten_cons, List.flatten_cons]
      exact ra.append ih
  exact this _
/-! ### dict displays -/
def aPr (X : Cx) (ps : List (Expr × Expr)) (Γ : Gam) (M : Mem) (P : List (Key × Val) → Mem → Prop) : Prop := ∀ Hi H σ, Ok X.K Hi M H → EnvR X.K Hi Γ σ → ∀ Q : List (V × V) → Hp → Prop,
  (∀ kvs M' (ws : List (Key × V)) Hi' H', P kvs M' → Same Hi Hi' → Ok X.K Hi' M' H' → RepK X.K Hi' kvs ws → Q (ws.map fun kv => (kV kv.1, kv.2)) H') → tPairs (ps.map fun p => (WE X p.1, WE X p.2)) σ H Q
theorem ap_nil {P : List (Key × Val) → Mem → Prop} (h : P [] M) : aPr X [] Γ M P := fun Hi H σ ok en Q q => q [] M [] Hi H h (Same.refl _) ok .nil
theorem ap_cons {P : List (Key × Val) → Mem → Prop} {kk : Str} {ps : List (Expr × Expr)} (hk : aV X a Γ M (.str kk)) (hv : aV X e Γ M d) (h : aPr X ps Γ M fun kvs M' => P ((.inr kk, d) :: kvs) M') : aPr X ((a, e) :: ps) Γ M P := fun Hi H σ ok en Q q => by
  refine hk Hi H σ ok en _ fun x M1 v1 Hi1 H1 h1 s1 ok1 r1 => ?_
  obtain ⟨rfl, rfl⟩ := h1
  cases r1
  refine hv Hi1 H1 σ ok1 (en.mono s1) _ fun x M2 v2 Hi2 H2 h2 s2 ok2 r2 => ?_
  obtain ⟨rfl, rfl⟩ := h2
  have s12 := s1.trans s2
  refine h Hi2 H2 σ ok2 (en.mono s12) _ fun kvs M' ws Hi' H' h3 s3 ok3 r3 => ?_
  exact q ((.inr kk, _) :: kvs) M' ((.inr kk, v2) :: ws) Hi' H' h3 (s12.trans s3) ok3 (.cons (r2.mono s3) r3)
def mergeA (kvs more : List (Key × Val)) : List (Key × Val) := more.foldl (fun acc kv => dPut acc kv.1 kv.2) kvs
theorem rep_merge {K : PySem.W.Frag} {H : Hp} : ∀ {more : List (Key × Val)} {ws : List (Key × V)} {kvs : List (Key × Val)} {gs : List (Key × V)}, RepK K H more ws → RepK K H kvs gs → RepK K H (mergeA kvs more) (mergeK gs ws)
  | [], _, _, _, .nil, r => r
  | (kk, dd) :: more, _, _, _, .cons (v := v) (gs := gs) a t, r => by
    show RepK K H (mergeA (dPut _ kk dd) more) (mergeK (putK _ kk v) gs)
    exact rep_merge t (r.put a)
theorem disp_of {ps : List (Expr × Expr)} {keys : List (Option Expr)} {values : List Expr} (hpp : PPs X pos keys values (ps.map fun p => (WE X p.1, WE X p.2))) (hall : keys.all (·.isSome) = true) (hl : keys.length = values.length) (h0 : keys ≠ []) (h15 : keys.length ≤ 15)
    (h : ∀ p, aPr X ps Γ ((p, .dk []) :: M) fun kvs M' => ∃ M2, M' = (p, .dk []) :: M2 ∧ kvs.length ≤ 15 ∧ P (.ptr p) ((p, .dk (mergeA [] kvs)) :: M2)) : aE X (.Dict keys values pos) Γ M P := fun Hi H σ ok en Q q => by
  refine ⟨_, pe_disp hpp hall hl h0 h15, fun p hp => ?_⟩
  refine h p Hi _ σ (ok.new hp ⟨[], rfl, .nil⟩) en _ fun kvs M' ws Hi' H' h1 s1 ok1 r1 => ?_
  obtain ⟨M2, rfl, h15', hP⟩ := h1
  obtain ⟨_, o, ho, gs, rfl, rk⟩ := ok1.ce p _ List.mem_cons_self
  cases rk
  exact ⟨ho, ws, rfl, by rw [← r1.length]; exact h15', q _ _ _ Hi' _ hP s1 (ok1.set (i := 0) rfl ⟨_, rfl, rep_merge r1 .nil⟩) (.ptr p)⟩
theorem ae_dict3 {a1 a2 a3 e1 e2 e3 : Expr} (h : ∀ p, aPr X [(a1, e1), (a2, e2), (a3, e3)] Γ ((p, .dk []) :: M) fun kvs M' => ∃ M2, M' = (p, .dk []) :: M2 ∧ kvs.length ≤ 15 ∧ P (.ptr p) ((p, .dk (mergeA [] kvs)) :: M2)) : aE X (.Dict [some a1, some a2, some a3] [e1, e2, e3] pos) Γ M P :=
  disp_of (pps_cons pe_we pe_we (pps_cons pe_we pe_we (pps_cons pe_we pe_we pps_nil))) rfl rfl (fun z => nomatch z) (Nat.le_of_ble_eq_true rfl) h
/-! ### a, b, c = e1, e2, e3 -/
theorem ps_par3 {n1 n2 n3 : Nat} {x y z : Str} {e1 e2 e3 : Expr} {ta : TA} {px py pz pt : Pos} {kt k2 pt2} (hc : X.calm = true) (hN : X.N.Nodup) (hi : X.N[n1]? = some x) (hj : X.N[n2]? = some y) (hk : X.N[n3]? = some z) (h12 : n1 ≠ n2) (h13 : n1 ≠ n3) (h23 : n2 ≠ n3)
    (hx : X.env.scope.names.lookup x = some .local) (hy : X.env.scope.names.lookup y = some .local) (hz : X.env.scope.names.lookup z = some .local) (ha : PA X [e1, e2, e3] ta)
    (hw : swappedStores [.Tuple [.Name x px, .Name y py, .Name z pz] kt pt] (.Tuple [e1, e2, e3] k2 pt2) X.env = pure (some [x, y, z]))
    (hs : swapsWithSole [.Tuple [.Name x px, .Name y py, .Name z pz] kt pt] (.Tuple [e1, e2, e3] k2 pt2) pos.line X.env = pure false) :
    PS X (.Assign [.Tuple [.Name x px, .Name y py, .Name z pz] kt pt] (.Tuple [e1, e2, e3] k2 pt2) pos) (fun D σ H => ta σ H fun vs H1 => ∃ v1 v2 v3, vs = [v1, v2, v3] ∧ D.nx (((σ.set n1 (some v1)).set n2 (some v2)).set n3 (some v3)) H1) := by
  refine ⟨fun pins s σ H D I h => ?_⟩
  rw [exec_Assign_arm, hs]
  refine wpAny_bind (wpAny_standAt (wpAny_bind (wpAny_pure ?_)))
  rw [if_neg (by decide)]
  refine wpAny_bind (Tuple_ (thn (ha.run _ pins s σ H _ I h) fun us s1 ⟨vs, H1, I1, r1, v1, v2, v3, e1, q1⟩ => ?_))
  subst e1
  obtain ⟨u1, u2, u3, rfl, ru1, ru2, ru3⟩ : ∃ u1 u2 u3, us = [u1, u2, u3] ∧ RelV v1 u1 ∧ RelV v2 u2 ∧ RelV v3 u3 := by
    cases r1 with
    | cons p q =>
      cases q with
      | cons p' q' =>
        cases q' with
        | cons p'' q'' =>
          cases q''
          exact ⟨_, _, _, rfl, p, p', p''⟩
  refine wpAny_newObj_type ?_ (by show 3 ≤ sizeLine; decide)
  have I2 : Inv X pins σ H1 { s1 with heap := s1.heap.push { cls := .type "tuple", data := .seq [u1, u2, u3].toArray } } := I1.kept (t' := s1.toks) fun b o e => Heap.get?_push_of_some _ e
  rw [hw]
  refine wpAny_bind (wpAny_pure ?_)
  show wpAny (model X.prog X.w) X.A (do rule "assign.swapped-stores"; let items ← unpackItems (.ref s1.heap.objs.size) 3 none; assignInOrder [fun v => bindName X.env z v, fun v => bindName X.env y v, fun v => bindName X.env x v] items.reverse; pure Flow.next) _ _ _
  refine wpAny_bind (wpAny_rule (wpAny_bind (unpackItems_tuple (items := #[u1, u2, u3]) (I.ok.hd hc) (IsTup.new s1.heap _) fun h' hx' => ?_)))
  have I3 := I2.kept (h' := h') (t' := s1.toks) fun b o e => hx' b o (Nat.ne_of_lt (Heap.lt_size e)) e
  show wpAny _ _ (assignInOrder [fun v => bindName X.env z v, fun v => bindName X.env y v, fun v => bindName X.env x v] [u3, u2, u1] >>= fun _ => pure Flow.next) _ _ _
  refine wpAny_bind (assignInOrder_cons (wpAny_bindName (store_ok I3 hN hk (.inl hz) ru3 (fun s2 I4 => ?_) (.inr hz))))
  refine assignInOrder_cons (wpAny_bindName (store_ok I4 hN hj (.inl hy) ru2 (fun s3 I5 => ?_) (.inr hy)))
  refine assignInOrder_cons (wpAny_bindName (store_ok I5 hN hi (.inl hx) ru1 (fun s4 I6 => assignInOrder_nil (wpAny_pure ?_)) (.inr hx)))
  have e : ((σ.set n3 (some v3)).set n2 (some v2)).set n1 (some v1) = ((σ.set n1 (some v1)).set n2 (some v2)).set n3 (some v3) := by
    rw [List.set_comm _ _ (Ne.symm h12), List.set_comm _ _ (Ne.symm h13), List.set_comm _ _ (Ne.symm h23)]
  rw [e] at I6
  exact ⟨_, H1, I6, q1⟩
theorem as_par3 {x y z : Str} {e1 e2 e3 : Expr} {px py pz pt : Pos} {kt k2 pt2} (n1 n2 n3 : Nat) (hN : X.N.Nodup) (hc : X.calm = true) (he : aA X [e1, e2, e3] Γ M fun ds M' => ∃ d1 d2 d3, ds = [d1, d2, d3] ∧ k.nx (((Γ.set n1 (some d1)).set n2 (some d2)).set n3 (some d3)) M')
    (h12 : n1 ≠ n2 := by decide) (h13 : n1 ≠ n3 := by decide) (h23 : n2 ≠ n3 := by decide) (hi : X.N[n1]? = some x := by rfl) (hj : X.N[n2]? = some y := by rfl) (hk : X.N[n3]? = some z := by rfl) (hx : X.env.scope.names.lookup x = some .local := by rfl) (hy : X.env.scope.names.lookup y = some .local := by rfl) (hz : X.env.scope.names.lookup z = some .local := by rfl)
    (hw : swappedStores [.Tuple [.Name x px, .Name y py, .Name z pz] kt pt] (.Tuple [e1, e2, e3] k2 pt2) X.env = pure (some [x, y, z]) := by rfl)
    (hs : swapsWithSole [.Tuple [.Name x px, .Name y py, .Name z pz] kt pt] (.Tuple [e1, e2, e3] k2 pt2) pos.line X.env = pure false := by rfl) : aS X (.Assign [.Tuple [.Name x px, .Name y py, .Name z pz] kt pt] (.Tuple [e1, e2, e3] k2 pt2) pos) Γ M k := fun Hi H σ ok en D q => by
  refine ⟨_, ps_par3 hc hN hi hj hk h12 h13 h23 hx hy hz pa_wa hw hs, ?_⟩
  refine he Hi H σ ok en _ fun ds M1 vs Hi1 H1 h1 s1 ok1 r1 => ?_
  obtain ⟨d1, d2, d3, rfl, h2⟩ := h1
  cases r1 with
  | cons r1 r2 =>
    cases r2 with
    | cons r2 r3 =>
      cases r3 with
      | cons r3 r4 =>
        cases r4
        exact ⟨_, _, _, rfl, q.nx _ _ _ Hi1 H1 h2 s1 ok1 ((((en.mono s1).set r1).set r2).set r3)⟩
end
/-! ### a def with a star and keyword-only parameters -/
end Ab
namespace Ab
open PySem PySem.Spec PyProof.Rows L2
/-! the end of a law: its def runs in the claim's own surroundings, where nothing is guarded -/
/-- only the script is known of -/
def hpS (a : Addr) (o : Obj) (xs : List V) : Hp := fun b => if b = a then some (.frz o (.lst xs)) else none
end Ab
namespace Ab
open PySem PySem.Spec PyProof.Rows L2
section
variable {X : Cx} {Γ : Gam} {M : Mem} {P : Val → Mem → Prop} {e a b c o : Expr} {es : List Expr} {pos p1 p2 apos kpos : Pos} {k : AK} {d d1 d2 d3 : Val} {i j : Int} {x y m : Str} {n : Nat} {f C : Addr}
theorem av_neg (h : aV X a Γ M (.int i)) : aV X (.UnaryOp .USub a pos) Γ M (.int (-i)) := fun Hi H σ ok en Q q => by
  refine ⟨_, pe_un un_neg pe_we, ?_⟩
  refine h Hi H σ ok en _ fun x M1 v Hi1 H1 h1 s1 ok1 r1 => ?_
  obtain ⟨rfl, rfl⟩ := h1
  cases r1
  exact ⟨i, rfl, q _ _ _ Hi1 H1 ⟨rfl, rfl⟩ s1 ok1 (.int _)⟩
/-- a comprehension whose items are told by their number, and that changes nothing -/
theorem ae_lcP {tg iter elt : Expr} {scope : Scope} (own : List (Str × Nat)) {n : Nat} {it : Nat → Val} (g : Nat → Val) (hc : X.calm = true) (hN : X.N.Nodup) (ok : BlkOk X.N X.env.scope scope own)
    (hi : aI X tg iter Γ M n it (fun _ => True) (fun M' => M' = M))
    (hs : ∀ i acc D, i < n → bG X scope (own.map (·.2)) tg (it i) (wipeG Γ (own.map (·.2))) ((D, .lst acc) :: M) fun Γ2 M2 => bE X scope elt Γ2 M2 fun y M4 => y = g i ∧ M4 = (D, .lst acc) :: M)
    (hn : n ≤ 100000) (hd : P (.lst ((List.range n).map g)) M) (hf : ∀ x, foldedSetIterable iter X.env x = pure x := by intro _; rfl) :
    aE X (.ListComp elt [⟨tg, iter, [], 0⟩] scope pos) Γ M P := by
  refine ae_frz (ae_lcC (it := it) own (fun i acc M' => M' = M ∧ acc = (List.range i).map g) hc hN ok ?_ (fun _ _ _ _ _ => trivial) (fun _ _ _ => trivial) ?_ hn ?_ hf)
  · intro Hi H σ ok en R q
    exact hi Hi H σ ok en R fun J M1 Hi1 H1 h1 => q J M1 Hi1 H1 ⟨h1, rfl⟩
  · rintro i acc M' D hi' _ ⟨rfl, rfl⟩ s H C cl fp
    intro Hi1 H1 σ1 v1 ok1 en1 r1 Q1 q1
    refine hs i _ D hi' s H C cl fp Hi1 H1 σ1 v1 ok1 en1 r1 Q1 fun Γ2 M2 σ2 Hi2 H2 h2 => q1 Γ2 M2 σ2 Hi2 H2 fun s' H' C' cl' fp' => ats_nil ⟨fun _ s2 H2 C2 cl2 fp2 => (h2 s2 H2 C2 cl2 fp2).mono fun y M4 hy => ?_, fun z => nomatch z⟩
    obtain ⟨rfl, rfl⟩ := hy
    exact ⟨_, rfl, rfl, by rw [List.range_succ, List.map_append]; rfl⟩
  · rintro D acc M' ⟨rfl, rfl⟩
    exact ⟨D, _, _, rfl, rfl, hd⟩
end
end Ab
namespace Ab
open PySem PySem.Spec PyProof.Rows L2
section
variable {X : Cx} {Γ : Gam} {M : Mem} {P : Val → Mem → Prop} {e a b c o : Expr} {es : List Expr} {pos p1 p2 apos kpos : Pos} {k : AK} {d d1 d2 d3 : Val} {i j : Int} {x y m : Str} {n : Nat} {f C : Addr}
/-! ### loops whose turns are known only when what they walk has been reckoned -/
def aJ (X : Cx) (tg iter : Expr) (Γ : Gam) (M : Mem) (P : Nat → (Nat → Val) → Mem → Prop) : Prop := ∀ Hi H σ, Ok X.K Hi M H → EnvR X.K Hi Γ σ → ∀ R : It → Hp → Prop,
  (∀ J n it M1 Hi1 H1, P n it M1 → Same Hi Hi1 → Ok X.K Hi1 M1 H1 →
    Walk J n (fun H' => ∃ Hi' M', Same Hi1 Hi' ∧ Ok X.K Hi' M' H') (fun i H' v H'' => ∀ Hi' M', Same Hi1 Hi' → Ok X.K Hi' M' H' → ∃ Hi'', Same Hi' Hi'' ∧ Ok X.K Hi'' M' H'' ∧ Rep X.K Hi'' (it i) v) → R J H1) → WI X tg iter σ H R
theorem aj_ai {tg iter : Expr} {n : Nat} {it : Nat → Val} {R : Mem → Prop} {P : Nat → (Nat → Val) → Mem → Prop} (h : aI X tg iter Γ M n it (fun _ => True) R) (hp : ∀ M1, R M1 → P n it M1) : aJ X tg iter Γ M P := fun Hi H σ ok en R' q =>
  h Hi H σ ok en R' fun J M1 Hi1 H1 h1 s1 ok1 w => q J n it M1 Hi1 H1 (hp M1 h1) s1 ok1 (w.mono (fun H' ⟨Hi', M', a, b⟩ => ⟨Hi', M', a, b, trivial⟩) fun i H' v H'' _ _ hy Hi' M' a b => hy Hi' M' a b trivial)
theorem aj_lst {tg : Expr} {P : Nat → (Nat → Val) → Mem → Prop} (ha : aE X a Γ M fun d M' => ∃ xs, d = .lst xs ∧ P xs.length (fun i => xs.getD i .non) M') : aJ X tg a Γ M P := fun Hi H σ ok en R' q => by
  refine ⟨_, pi_list pe_we, ?_⟩
  refine ha Hi H σ ok en _ fun d M1 v Hi1 H1 h1 s1 ok1 r1 => ?_
  obtain ⟨xs, rfl, hp⟩ := h1
  cases r1 with
  | @lst p ys _ hq ra =>
    refine ⟨p, rfl, ⟨ys, ok1.im.seq hq⟩, q _ xs.length _ M1 Hi1 H1 hp s1 ok1 ?_⟩
    rw [ra.length]
    refine walk_list.mono (fun H' hG => ?_) fun i H' v H'' hi hG hy Hi' M' s2 ok2 => ?_
    · obtain ⟨Hi', M', s2, ok2⟩ := hG
      exact ok2.im.seq (s2.seq hq)
    · obtain ⟨rfl, hv⟩ := hy
      exact ⟨Hi', Same.refl _, ok2, (Sq.at ra hv).mono s2⟩
theorem aj_range1 {tg : Expr} {P : Nat → (Nat → Val) → Mem → Prop} (hm : X.mg "range" = none) (ha : aE X a Γ M fun d M' => ∃ j : Int, d = .int j ∧ -(2 ^ 62) ≤ j ∧ j < 2 ^ 62 ∧ P j.toNat (fun i => .int (0 + i)) M') (hg : Gl X "range" := by rfl) (hs : starEach [a] X.env = [(false, eval a X.env)] := by rfl) :
    aJ X tg (.Call (.Name "range" p1) [a] [] pos) Γ M P := fun Hi H σ ok en R' q => by
  refine ⟨_, pi_range1 hg hm (pa_cons pe_we pa_nil hs) hs, ?_⟩
  refine ha Hi H σ ok en _ fun d M1 v Hi1 H1 h1 s1 ok1 r1 => ?_
  obtain ⟨j, rfl, hl, hh, hp⟩ := h1
  cases r1
  refine ⟨j, rfl, hl, hh, q _ _ _ M1 Hi1 H1 hp s1 ok1 ?_⟩
  refine walk_range.mono (fun _ _ => trivial) fun i H' v H'' hi hG hy Hi' M' s2 ok2 => ?_
  obtain ⟨rfl, rfl⟩ := hy
  exact ⟨Hi', Same.refl _, ok2, .int _⟩
/-- a for, its invariant told behind what it walks -/
theorem as_forJ {tg iter : Expr} {body : List Stmt} (hp : PassesOwn (model X.prog X.w) X.A X.env X.xe) (hc : X.calm = true)
    (hi : aJ X tg iter Γ M fun n it M1 => ∃ I : Nat → Gam → Mem → Prop, I 0 Γ M1 ∧ (∀ i Γ M, i < n → I i Γ M → aG X tg (it i) Γ M fun Γ2 M2 => aSs X body Γ2 M2 { k with nx := I (i + 1), ct := I (i + 1), bk := k.nx }) ∧ ∀ Γ M, I n Γ M → k.nx Γ M)
    (hf : ∀ x, foldedSetIterable iter X.env x = pure x := by intro _; rfl) : aS X (.For tg iter body [] pos) Γ M k := fun Hi H σ ok en D q => by
  refine ⟨_, ps_for hp hc pi_wi pg_wg pss_wb hf, ?_⟩
  refine hi Hi H σ ok en _ fun J n it M1 Hi1 H1 h1 s1 ok1 w => ?_
  obtain ⟨I, h0, hs, hd⟩ := h1
  refine for_it w (fun i σ' H' => ∃ Γ' M' Hi', I i Γ' M' ∧ Same Hi1 Hi' ∧ Ok X.K Hi' M' H' ∧ EnvR X.K Hi' Γ' σ') ⟨Γ, M1, Hi1, h0, Same.refl _, ok1, en.mono s1⟩ ?_ ?_ ?_
  · rintro i σ' H' hi ⟨Γ', M', Hi', h2, s2, ok2, en2⟩
    exact ⟨Hi', M', s2, ok2⟩
  · rintro i v σ' H' H'' hi ⟨Γ', M', Hi', h2, s2, ok2, en2⟩ hy
    obtain ⟨Hi3, s3, ok3, r3⟩ := hy Hi' M' s2 ok2
    have s13 := (s1.trans s2).trans s3
    refine hs i Γ' M' hi h2 Hi3 H'' σ' v ok3 (en2.mono s3) r3 _ fun Γ4 M4 σ4 Hi4 H4 h4 s4 ok4 en4 => ?_
    have s24 := (s2.trans s3).trans s4
    exact h4 Hi4 H4 σ4 ok4 en4 _ ⟨fun Γ5 M5 σ5 Hi5 H5 h5 s5 ok5 en5 => ⟨Γ5, M5, Hi5, h5, s24.trans s5, ok5, en5⟩, (q.up (s13.trans s4)).rt, (q.up (s13.trans s4)).nx, fun Γ5 M5 σ5 Hi5 H5 h5 s5 ok5 en5 => ⟨Γ5, M5, Hi5, h5, s24.trans s5, ok5, en5⟩⟩
  · rintro σ' H' ⟨Γ', M', Hi', h2, s2, ok2, en2⟩
    exact q.nx Γ' M' σ' Hi' H' (hd Γ' M' h2) (s1.trans s2) ok2 en2
/-- what a comprehension must show, behind what it walks -/
abbrev LcJ (X : Cx) (scope : Scope) (vs : List Nat) (tg elt : Expr) (ifs : List Expr) (Γ : Gam) (P : Val → Mem → Prop) : Nat → (Nat → Val) → Mem → Prop := fun n it M1 => n ≤ 100000 ∧ ∃ J : Nat → List Val → Mem → Prop, J 0 [] M1 ∧
  (∀ i acc M D, i < n → acc.length ≤ i → J i acc M → bG X scope vs tg (it i) (wipeG Γ vs) ((D, .lst acc) :: M) fun Γ2 M2 => bTs X scope ifs Γ2 M2 fun b M3 =>
    (b = true → bE X scope elt Γ2 M3 fun y M4 => ∃ M5, M4 = (D, .lst acc) :: M5 ∧ J (i + 1) (acc ++ [y]) M5) ∧ (b = false → ∃ M5, M3 = (D, .lst acc) :: M5 ∧ J (i + 1) acc M5)) ∧
  ∀ D acc M, J n acc M → P (.ptr D) ((D, .lst acc) :: M)
theorem lc_readJ {tg iter elt : Expr} {ifs : List Expr} {scope : Scope} {vs : List Nat} (hi : aJ X tg iter Γ M (LcJ X scope vs tg elt ifs Γ P)) {Hi H : Hp} {σ : L2.St} (ok : Ok X.K Hi M H) (en : EnvR X.K Hi Γ σ) {Q : VK} (q : Post X.K Hi P Q) :
    tLc (WI X tg iter) (fun v σ H Q => ∀ s H' C cl fp, WG (bx X scope s H' C cl fp) tg v σ H Q) (fun σ H Q => ∀ s H' C cl fp, WTs (bx X scope s H' C cl fp) ifs σ H Q) (fun σ H Q => ∀ s H' C cl fp, WE (bx X scope s H' C cl fp) elt σ H Q) vs σ H Q := by
  refine hi Hi H σ ok en _ fun J' n it M1 Hi1 H1 h1 s1 ok1 w => ?_
  obtain ⟨hn, J, h0, hs, hd⟩ := h1
  intro D hD
  refine lc_it (g := fun v σ H Q => ∀ s H' C cl fp, WG (bx X scope s H' C cl fp) tg v σ H Q) (tt := fun σ H Q => ∀ s H' C cl fp, WTs (bx X scope s H' C cl fp) ifs σ H Q) (te := fun σ H Q => ∀ s H' C cl fp, WE (bx X scope s H' C cl fp) elt σ H Q) (vs := vs) (σ := σ) (Qd := fun H => Q (V.ref D) H)
    w (fun i H' => ∃ acc M' Hi', J i acc M' ∧ acc.length ≤ i ∧ Same Hi1 Hi' ∧ Ok X.K Hi' ((D, .lst acc) :: M') H') ⟨[], M1, Hi1, h0, Nat.le_refl _, Same.refl _, ok1.new hD ⟨[], rfl, .nil⟩⟩ ?_ ?_ ?_
  · rintro i H' hi ⟨acc, M', Hi', h2, _, s2, ok2⟩
    exact ⟨Hi', M', s2, ok2.tail⟩
  · rintro i v H' H'' hi ⟨acc, M', Hi', h2, hl, s2, ok2⟩ hy
    obtain ⟨Hi3, s3, ok3, r3⟩ := hy Hi' ((D, .lst acc) :: M') s2 ok2
    intro s0 H0 C0 cl0 fp0
    have s13 := s2.trans s3
    refine hs i acc M' D hi hl h2 s0 H0 C0 cl0 fp0 Hi3 H'' (wipe σ vs) v ok3 (env_wipe (en.mono (s1.trans s13)) vs) r3 _ fun Γ4 M4 σ4 Hi4 H4 h4 s4 ok4 en4 w4 => ⟨?_, ?_⟩
    · rw [w4]
      clear w4 en4
      have idem : ∀ (us : List Nat) (τ : L2.St), wipe (wipe τ us) us = wipe τ us := by
        intro us
        induction us with
        | nil => intro τ; rfl
        | cons u us ih =>
          intro τ
          show (wipe ((wipe τ us).set u none) us).set u none = (wipe τ us).set u none
          rw [wipe_set]
          by_cases hu : u ∈ us
          · rw [if_pos hu, ih]
          · rw [if_neg hu, ih, List.set_set]
      exact idem vs σ
    · intro s5 H5 C5 cl5 fp5
      refine h4 s5 H5 C5 cl5 fp5 Hi4 H4 σ4 ok4 en4 _ fun b M6 Hi6 H6 h6 s6 ok6 => ?_
      cases b with
      | true =>
        refine iteT fun s7 H7 C7 cl7 fp7 => ?_
        refine h6.1 rfl s7 H7 C7 cl7 fp7 Hi6 H6 σ4 ok6 (en4.mono s6) _ fun y M8 v8 Hi8 H8 h8 s8 ok8 r8 => ?_
        obtain ⟨M9, rfl, h9⟩ := h8
        obtain ⟨_, o, ho, xs, rfl, ra⟩ := ok8.ce D _ List.mem_cons_self
        refine ⟨xs, ho, ?_, ?_⟩
        · rw [← ra.length]
          exact Nat.lt_of_lt_of_le (Nat.lt_of_le_of_lt hl (Nat.lt_of_lt_of_le hi hn)) (by decide)
        · exact ⟨acc ++ [y], M9, Hi8, h9, by rw [List.length_append]; exact Nat.succ_le_succ hl, ((s13.trans s4).trans s6).trans s8, ok8.set (i := 0) rfl ⟨_, rfl, ra.append (.cons r8 .nil)⟩⟩
      | false =>
        obtain ⟨M9, rfl, h9⟩ := h6.2 rfl
        exact iteF ⟨acc, M9, Hi6, h9, Nat.le_succ_of_le hl, (s13.trans s4).trans s6, ok6⟩
  · rintro H' ⟨acc, M', Hi', h2, hl, s2, ok2⟩
    exact q _ _ _ Hi' H' (hd D acc M' h2) (s1.trans s2) ok2 (.ptr D)
theorem as_lcJ {tg iter elt : Expr} {ifs : List Expr} {scope : Scope} {py spos : Pos} (m : Nat) (own : List (Str × Nat)) (hc : X.calm = true) (hN : X.N.Nodup) (ok : BlkOk X.N X.env.scope scope own)
    (hi : aJ X tg iter Γ M (LcJ X scope (own.map (·.2)) tg elt ifs Γ fun d M' => k.nx (Γ.set m (some d)) M')) (hy : X.N[m]? = some y := by rfl) (hyl : X.env.scope.names.lookup y = some .local := by rfl)
    (hsw : swapsWith (.ListComp elt [⟨tg, iter, ifs, 0⟩] scope pos) (some (.Name y py)) spos.line X.env = pure true := by exact sw_true rfl rfl rfl (by decide +kernel))
    (hf : ∀ x, foldedSetIterable iter X.env x = pure x := by intro _; rfl) :
    aS X (.Assign [.Name y py] (.ListComp elt [⟨tg, iter, ifs, 0⟩] scope pos) spos) Γ M k := fun Hi H σ ok' en D q =>
  ⟨_, ps_setLc hc hN hy hyl hsw pi_wi ok (fun s H C cl fp => ⟨fun pins s' σ H v u Q I r h => pg_wg.run pins s' σ H v u Q I r (h _ _ _ _ _)⟩) (fun s H C cl fp => ⟨fun pins s' σ H Q I h => pts_wts.run pins s' σ H Q I (h _ _ _ _ _)⟩) (fun s H C cl fp => ⟨fun pins s' σ H Q I h => pe_we.run pins s' σ H Q I (h _ _ _ _ _)⟩) hf,
    lc_readJ hi ok' en fun d M' v Hi' H' h' s' ok2 r => q.nx _ _ _ Hi' H' h' s' ok2 ((en.mono s').set r)⟩
end
end Ab
namespace Ab
open PySem PySem.Spec PyProof.Rows L2
section
variable {X : Cx} {Γ : Gam} {M : Mem} {P : Val → Mem → Prop} {e a b c o : Expr} {es : List Expr} {pos p1 p2 apos kpos : Pos} {k : AK} {d d1 d2 d3 : Val} {i j : Int} {x y m : Str} {n : Nat} {f C : Addr}
/-! ### operands that change cells -/
def WC (X : Cx) (g : Value → Value → Sem Value) : R2 := fun x y H Q => ∃ r, OpR X g r ∧ r x y H Q
theorem op_wc {g : Value → Value → Sem Value} : OpR X g (WC X g) := fun pins s σ H x y v u Q I rx ry ⟨r, ho, h⟩ => ho pins s σ H x y v u Q I rx ry h
def BinV (X : Cx) (op : Operator) (M : Mem) (x y : Val) (P : Val → Mem → Prop) : Prop := ∃ r, OpR X (binaryOp op) r ∧ RV X r x y M P
theorem ae_bin {op : Operator} (h : aE X a Γ M fun x M1 => aE X b Γ M1 fun y M2 => BinV X op M2 x y P) : aE X (.BinOp a op b pos) Γ M P :=
  ae_op op_wc (h.mono fun x M1 h1 => h1.mono fun y M2 ⟨r, ho, hr⟩ Hi H v w ok rv rw_ Q q => ⟨r, ho, hr Hi H v w ok rv rw_ Q q⟩)
theorem bv_add (h : P (.int (i + j)) M) : BinV X .Add M (.int i) (.int j) P := ⟨_, op_add, rv_I0 (f := fun i j => .int (i + j)) (fun _ _ => .int _) h⟩
theorem bv_catL {xs ys : List Val} (h1 : Vw M d1 (.lst xs)) (h2 : Vw M d2 (.lst ys)) (hl : xs.length + ys.length ≤ sizeLine) (h : ∀ p, P (.ptr p) ((p, .lst (xs ++ ys)) :: M)) : BinV X .Add M d1 d2 P := ⟨_, op_catL, rv_catL h1 h2 hl h⟩
theorem bv_catT {xs ys : List Val} (hl : xs.length + ys.length ≤ sizeLine) (h : P (.tup (xs ++ ys)) M) : BinV X .Add M (.tup xs) (.tup ys) P := ⟨_, op_catA, rv_catT hl h⟩
theorem bv_repL {xs : List Val} {p : Addr} {jj : Int} {n : Nat} (hm : M[n]? = some (p, .lst xs)) (h1 : 0 ≤ jj) (h2 : jj < 2 ^ 31) (hl : xs.length * jj.toNat ≤ sizeLine) (h : ∀ q, P (.ptr q) ((q, .lst (List.replicate jj.toNat xs).flatten) :: M)) : BinV X .Mult M (.ptr p) (.int jj) P := ⟨_, op_rep, rv_repL hm h1 h2 hl h⟩
theorem at_cmpM {op : CmpOp} {P : Bool → Mem → Prop} (h : aE X a Γ M fun x M1 => aE X b Γ M1 fun y M2 => ∃ k, Cmp X op M2 x y k ∧ P k M2) (hm : behindInMarks op b = false := by first | exact nomark _ | rfl) : aT X (.Compare a [op] [b] pos) Γ M P := fun Hi H σ ok en Q q => by
  refine ⟨_, pt_cmpR op_wc pe_we pe_we hm, ?_⟩
  refine h Hi H σ ok en _ fun x M1 v Hi1 H1 h1 s1 ok1 r1 => ?_
  refine h1 Hi1 H1 σ ok1 (en.mono s1) _ fun y M2 w Hi2 H2 h2 s2 ok2 r2 => ?_
  obtain ⟨kk, ⟨r, ho, hr⟩, hp⟩ := h2
  refine ⟨r, ho, hr Hi2 H2 v w ok2 (r1.mono s2) r2 _ fun z M' v' Hi3 H3 h3 s3 ok3 r3 => ?_⟩
  obtain ⟨rfl, rfl⟩ := h3
  cases r3
  exact ⟨kk, rfl, q _ _ Hi3 H3 hp ((s1.trans s2).trans s3) ok3⟩
/-- xs[i] -/
theorem ae_ixM (h : aE X a Γ M fun x M1 => aE X b Γ M1 fun y M2 => ∃ i xs d, y = .int i ∧ Sq M2 x xs ∧ atI xs i = some d ∧ P d M2) (hs : PlainIx b := by exact fun _ _ => rfl) : aE X (.Subscript a b pos) Γ M P := fun Hi H σ ok en Q q => by
  refine ⟨_, pe_ix ix_seq pe_we pe_we hs, ?_⟩
  refine h Hi H σ ok en _ fun x M1 v Hi1 H1 h1 s1 ok1 r1 => ?_
  refine h1 Hi1 H1 σ ok1 (en.mono s1) _ fun y M2 w Hi2 H2 h2 s2 ok2 r2 => ?_
  obtain ⟨i, xs, d, rfl, hsq, hat, hp⟩ := h2
  cases r2
  obtain ⟨p, ys, rfl, hq, ra⟩ := hsq.rep ok2 (r1.mono s2)
  obtain ⟨z, hz, rz⟩ := rep_at ra hat
  have fin := q _ _ z Hi2 H2 hp (s1.trans s2) ok2 rz
  rcases hq with hq | hq
  · exact .inl ⟨p, ys, i, z, rfl, rfl, hq, hz, fin⟩
  · exact .inr (.inl ⟨p, ys, i, z, rfl, rfl, hq, hz, fin⟩)
/-- ints as data -/
theorem toDs_ints : ∀ ns : List Int, toDs (ns.map .int) = some (ns.map PyData.int)
  | [] => rfl
  | n :: ns => by
    rw [List.map_cons, List.map_cons]
    unfold toDs
    rw [toDs_ints ns]
    rfl
theorem toD_tup {xs : List Val} {ds : List PyData} (h : toDs xs = some ds) : toD (.tup xs) = some (.tuple ds) := by
  unfold toD
  rw [h]
  rfl
theorem toD_lst {xs : List Val} {ds : List PyData} (h : toDs xs = some ds) : toD (.lst xs) = some (.list ds) := by
  unfold toD
  rw [h]
  rfl
theorem lay_ints : ∀ ns : List Int, PyData.canLayAll0 (ns.map PyData.int) = true
  | [] => rfl
  | n :: ns => by
    rw [List.map_cons]
    unfold PyData.canLayAll0
    rw [lay_ints ns]
    rfl
theorem dep_ints : ∀ ns : List Int, PyData.depthAll (ns.map PyData.int) = 0
  | [] => rfl
  | n :: ns => by
    rw [List.map_cons]
    unfold PyData.depthAll
    rw [dep_ints ns]
    rfl
theorem shaped_tupI (ns : List Int) : SeqAt.shaped (.tuple (ns.map PyData.int)) = true := by
  unfold SeqAt.shaped PyData.canLay0 PyData.depth
  rw [lay_ints, dep_ints]
  rfl
theorem shaped_lstI (ns : List Int) : SeqAt.shaped (.list (ns.map PyData.int)) = true := by
  unfold SeqAt.shaped PyData.canLay0 PyData.depth
  rw [lay_ints, dep_ints]
  rfl
theorem eqv_ints : ∀ ns ms : List Int, PyData.eqvAll (ns.map PyData.int) (ms.map PyData.int) = decide (ns = ms)
  | [], [] => rfl
  | [], _ :: _ => rfl
  | _ :: _, [] => rfl
  | n :: ns, m :: ms => by
    rw [List.map_cons, List.map_cons]
    unfold PyData.eqvAll PyData.eqv
    rw [eqv_ints ns ms]
    by_cases h : n = m
    · subst h
      simp
    · simp [h]
theorem cmp_neLI {ns ms : List Int} (v1 : Vw M d1 (.lst (ns.map .int))) (v2 : Vw M d2 (.lst (ms.map .int))) (hu : X.A.units + 64 < cLine) : Cmp X .NotEq M d1 d2 (!decide (ns = ms)) := by
  have h := cmp_neD v1 v2 (toD_lst (toDs_ints ns)) (toD_lst (toDs_ints ms)) (shaped_lstI ns) (shaped_lstI ms) hu
  rw [show PyData.eqv (.list (ns.map PyData.int)) (.list (ms.map PyData.int)) = decide (ns = ms) from eqv_ints ns ms] at h
  exact h
theorem cmp_eqTI {ns ms : List Int} (hu : X.A.units + 64 < cLine) : Cmp X .Eq M (.tup (ns.map .int)) (.tup (ms.map .int)) (decide (ns = ms)) := by
  have h := cmp_eqD (X := X) (M := M) (.self (.tup (ns.map .int))) (.self (.tup (ms.map .int))) (toD_tup (toDs_ints ns)) (toD_tup (toDs_ints ms)) (shaped_tupI ns) (shaped_tupI ms) hu
  rw [show PyData.eqv (.tuple (ns.map PyData.int)) (.tuple (ms.map PyData.int)) = decide (ns = ms) from eqv_ints ns ms] at h
  exact h
theorem cmp_neTI {ns ms : List Int} (hu : X.A.units + 64 < cLine) : Cmp X .NotEq M (.tup (ns.map .int)) (.tup (ms.map .int)) (!decide (ns = ms)) := by
  have h := cmp_neD (X := X) (M := M) (.self (.tup (ns.map .int))) (.self (.tup (ms.map .int))) (toD_tup (toDs_ints ns)) (toD_tup (toDs_ints ms)) (shaped_tupI ns) (shaped_tupI ms) hu
  rw [show PyData.eqv (.tuple (ns.map PyData.int)) (.tuple (ms.map PyData.int)) = decide (ns = ms) from eqv_ints ns ms] at h
  exact h
end
end Ab
namespace Ab
open PySem PySem.Spec PyProof.Rows L2
section
variable {X : Cx} {Γ : Gam} {M : Mem} {P : Val → Mem → Prop} {e a b c o : Expr} {es : List Expr} {pos p1 p2 apos kpos : Pos} {k : AK} {d d1 d2 d3 : Val} {i j : Int} {x y m : Str} {n : Nat} {f C : Addr}
/-! ### lists that are never changed, as values -/
theorem av_lst {ds : List Val} (h : aVs X es Γ M ds) (hl : ds.length ≤ sizeLine) : aV X (.List es pos) Γ M (.lst ds) := ae_lst (h.val ⟨hl, rfl, rfl⟩)
theorem av_sliceL {xs : List Val} {elo ehi : Option Expr} {lo hi : Option Int} (ha : aV X a Γ M d) (hl : aO X elo Γ M lo) (hh : aO X ehi Γ M hi) (hv : Vw M d (.lst xs)) : aV X (.Subscript a (.Slice elo ehi none p2) pos) Γ M (.lst (cutA xs lo hi)) :=
  ae_frz (ae_sliceL ha hl hh hv fun p => ⟨p, _, _, rfl, rfl, rfl, rfl⟩)
theorem av_sliceT {xs : List Val} {elo ehi : Option Expr} {lo hi : Option Int} (ha : aV X a Γ M (.tup xs)) (hl : aO X elo Γ M lo) (hh : aO X ehi Γ M hi) : aV X (.Subscript a (.Slice elo ehi none p2) pos) Γ M (.tup (cutA xs lo hi)) :=
  ae_sliceT ha hl hh ⟨rfl, rfl⟩
theorem av_catL {xs ys : List Val} (ha : aV X a Γ M d1) (hb : aV X b Γ M d2) (h1 : Vw M d1 (.lst xs)) (h2 : Vw M d2 (.lst ys)) (hl : xs.length + ys.length ≤ sizeLine) : aV X (.BinOp a .Add b pos) Γ M (.lst (xs ++ ys)) :=
  ae_frz (ae_bin (ha.val (hb.val (bv_catL h1 h2 hl fun p => ⟨p, _, _, rfl, rfl, rfl, rfl⟩))))
theorem av_catT {xs ys : List Val} (ha : aV X a Γ M (.tup xs)) (hb : aV X b Γ M (.tup ys)) (hl : xs.length + ys.length ≤ sizeLine) : aV X (.BinOp a .Add b pos) Γ M (.tup (xs ++ ys)) :=
  ae_bin (ha.val (hb.val (bv_catT hl ⟨rfl, rfl⟩)))
theorem av_tuple {xs : List Val} (hm : X.mg "tuple" = none) (ha : aV X a Γ M d) (hs : Sq M d xs) (hg : Gl X "tuple" := by rfl) (hst : starEach [a] X.env = [(false, eval a X.env)] := by rfl) : aV X (.Call (.Name "tuple" p1) [a] [] pos) Γ M (.tup xs) :=
  ae_tuple hm (ha.val ⟨xs, hs, rfl, rfl⟩) hg hst
theorem av_list {xs : List Val} (hm : X.mg "list" = none) (ha : aV X a Γ M d) (hs : Sq M d xs) (hg : Gl X "list" := by rfl) (hst : starEach [a] X.env = [(false, eval a X.env)] := by rfl) : aV X (.Call (.Name "list" p1) [a] [] pos) Γ M (.lst xs) :=
  ae_frz (ae_list hm (ha.val ⟨xs, hs, fun p => ⟨p, _, _, rfl, rfl, rfl, rfl⟩⟩) hg hst)
/-! ### slices of lists of ints -/
def cutI (g : List Int) (lo hi : Option Int) : List Int := (g.drop (HT.sIx g.length 0 lo)).take (HT.sIx g.length g.length hi - HT.sIx g.length 0 lo)
theorem cut_map {g : List Int} {lo hi : Option Int} : cutA (g.map Val.int) lo hi = (cutI g lo hi).map Val.int := by
  unfold cutA cutI
  rw [List.length_map, ← List.map_drop, ← List.map_take]
theorem cut_len {g : List Int} {lo hi : Option Int} : (cutI g lo hi).length ≤ g.length := by
  unfold cutI
  rw [List.length_take, List.length_drop]
  omega
theorem cut_hi {g : List Int} {j : Int} (h0 : 0 ≤ j) (h1 : j ≤ g.length) : cutI g none (some j) = g.take j.toNat := by
  obtain ⟨n, rfl⟩ := Int.eq_ofNat_of_zero_le h0
  unfold cutI
  rw [HT.sIx_nat, HT.sIx_none, List.drop_zero, Nat.sub_zero, Nat.min_eq_left (by omega), Int.toNat_natCast]
theorem cut_lo {g : List Int} {j : Int} (h0 : 0 ≤ j) (h1 : j ≤ g.length) : cutI g (some j) none = g.drop j.toNat := by
  obtain ⟨n, rfl⟩ := Int.eq_ofNat_of_zero_le h0
  unfold cutI
  rw [HT.sIx_nat, HT.sIx_none, Nat.min_eq_left (by omega), Int.toNat_natCast]
  exact List.take_of_length_le (by rw [List.length_drop]; omega)
end
end Ab
namespace Ab
open PySem PySem.Spec PyProof.Rows L2
section
variable {X : Cx} {Γ : Gam} {M : Mem} {P : Val → Mem → Prop} {e a b c o : Expr} {es : List Expr} {pos p1 p2 apos kpos : Pos} {k : AK} {d d1 d2 d3 : Val} {i j : Int} {x y m : Str} {n : Nat} {f C : Addr}
/-- a cell of the expression's own is forgotten -/
theorem ae_dropc (h : aE X e Γ M fun d M' => ∃ c M'', M' = c :: M'' ∧ P d M'') : aE X e Γ M P := fun Hi H σ ok en Q q => by
  refine h Hi H σ ok en _ fun d M1 v Hi1 H1 h1 s1 ok1 r1 => ?_
  obtain ⟨c, M2, rfl, hp⟩ := h1
  exact q _ _ _ Hi1 H1 hp s1 (Ok.tail (p := c.1) (c := c.2) ok1) r1
/-- an instance that will change no more -/
theorem ae_frzO (h : aE X e Γ M fun d M' => ∃ p C fs M'', d = .ptr p ∧ M' = (p, .ins C fs) :: M'' ∧ P (.obj C fs) M'') : aE X e Γ M P := fun Hi H σ ok en Q q => by
  refine h Hi H σ ok en _ fun d M1 v Hi1 H1 h1 s1 ok1 r1 => ?_
  obtain ⟨p, C, fs, M2, rfl, rfl, hp⟩ := h1
  obtain ⟨e0, o, ho, dx, gs, rfl, ra⟩ := ok1.ce p _ List.mem_cons_self
  cases r1
  have s2 := same_upd (o := .ins C dx gs) e0
  exact q _ _ _ _ _ hp (s1.trans s2) (ok1.freeze ho) (.obj upd_same (ra.mono s2))
/-- [x, ..] * n -/
theorem av_repL {ds : List Val} (h : aVs X es Γ M ds) (hl : ds.length ≤ sizeLine) (hb : ∀ M', aV X b Γ M' (.int j)) (h1 : 0 ≤ j) (h2 : j < 2 ^ 31) (hl2 : ds.length * j.toNat ≤ sizeLine) : aV X (.BinOp (.List es p1) .Mult b pos) Γ M (.lst (List.replicate j.toNat ds).flatten) :=
  ae_dropc (ae_frz (ae_bin (ae_lstC (h.val ⟨hl, fun q => (hb _).val (bv_repL (n := 0) rfl h1 h2 hl2 fun z => ⟨z, _, _, rfl, rfl, _, _, rfl, rfl, rfl⟩)⟩))))
theorem Ret.drops {P : Val → Mem → Prop} {d : Val} {M : Mem} : ∀ {cs : Mem}, Ret P d M → Ret P d (cs ++ M)
  | [], h => h
  | _ :: _, h => .drop (Ret.drops h)
/-! ### ints are shown -/
theorem log_lt {n : Nat} (h : n < 2 ^ 1920) : n.log2 < 1920 := by
  by_cases h0 : n = 0
  · subst h0
    decide
  · exact (Nat.log2_lt h0).mpr h
def showI (v : Int) : Prop := v.natAbs.log2 < 1920
theorem shownI_le {v : Int} (h : showI v) : (PyData.shown (.int v)).length ≤ 1921 := int_text_len_1921 h
end
end Ab
namespace Ab
open PySem PySem.Spec PyProof.Rows L2
/-! defs out of the head's facts -/
section
variable {P : Program} {w : World} {K : PySem.W.Frag} {mg : Str → Option Value} {base : Heap} {x qual : Str} {st : Stmt} {f : Addr} {oc : Value} {od an : Option Addr} {osl : Array (Option Value)} {kV doc pm cdv ct : Value} {fd : FuncData}
theorem fd_mk (l : K.lookup f = some ⟨oc, od, .func (PySem.W.fnOf x qual (defArgs st) (defBody st) (defScope st) .none kV doc pm an cdv ct), osl⟩)
    (c : PySem.W.codeIn K cdv qual = true) (k : PySem.W.keepIn K (.ref f) = true) : FunD K x qual (defArgs st) (defBody st) (defScope st) [] [] f (PySem.W.fnOf x qual (defArgs st) (defBody st) (defScope st) .none kV doc pm an cdv ct) :=
  fun_d (fun_mk l c k)
/-- two keyword-only defaults -/
theorem fd_kw2 {D : Addr} {k1 k2 : Str} {v1 v2 : V} {u1 u2 : Value} (l : K.lookup f = some ⟨oc, od, .func (PySem.W.fnOf x qual (defArgs st) (defBody st) (defScope st) .none (.ref D) doc pm an cdv ct), osl⟩)
    (c : PySem.W.codeIn K cdv qual = true) (k : PySem.W.keepIn K (.ref f) = true) (n1 : PySem.W.nsIn K D k1 = some (some u1)) (n2 : PySem.W.nsIn K D k2 = some (some u2)) (r1 : RelV v1 u1) (r2 : RelV v2 u2) :
    FunD K x qual (defArgs st) (defBody st) (defScope st) [] [(k1, v1), (k2, v2)] f (PySem.W.fnOf x qual (defArgs st) (defBody st) (defScope st) .none (.ref D) doc pm an cdv ct) :=
  ⟨⟨oc, od, .none, .ref D, doc, pm, an, cdv, ct, osl, rfl, l, c, .inl ⟨rfl, rfl⟩, .inr ⟨D, rfl, fun q hq => by
    rcases List.mem_cons.mp hq with e | hq
    · subst e
      exact ⟨u1, n1, r1⟩
    · rcases List.mem_cons.mp hq with e | hq
      · subst e
        exact ⟨u2, n2, r2⟩
      · cases hq⟩⟩, k⟩
/-- a def called by positions and keywords, every parameter written -/
theorem kbn_kw {params : Arguments} {body : List Stmt} {sc : Scope} {kws : List (Str × V)} {ps ks : List Str} {n : Nat} (F : FunD K x qual params body sc [] kws f fd)
    (h : ∀ (kV doc pm : Value) (an : Option Addr) (cdv ct : Value) (us ws : List Value), us.length = n → ws.length = ks.length → bindArgs (PySem.W.fnOf x qual params body sc .none kV doc pm an cdv ct) ⟨us, ks.zip ws⟩ = pure (ps.zip (us ++ ws))) :
    KBn K fd ps n ks (fun us ws => us ++ ws) (fun vs zs => vs ++ zs) := by
  obtain ⟨oc, od, dV, kV, doc, pm, an, cdv, ct, osl, rfl, lk, hcd, hD, _⟩ := F.ex
  obtain ⟨_, rfl⟩ : ([] : List V) = [] ∧ dV = .none := by
    rcases hD with h | ⟨e, _⟩
    · exact h
    · exact absurd rfl e
  exact ⟨fun s us ws _ h1 h2 => .of_eq (h kV doc pm an cdv ct us ws h1 h2), fun r1 r2 => r1.append r2⟩
/-- .. and its promise -/
theorem fnx_kw {params : Arguments} {body : List Stmt} {sc : Scope} {kws : List (Str × V)} {N ps ks : List Str} {k n : Nat} {s0 : ASp} (F : FunD K x qual params body sc [] kws f fd) (S : FnScope N ps sc)
    (h : ∀ (kV doc pm : Value) (an : Option Addr) (cdv ct : Value) (us ws : List Value), us.length = n → ws.length = ks.length → bindArgs (PySem.W.fnOf x qual params body sc .none kV doc pm an cdv ct) ⟨us, ks.zip ws⟩ = pure (ps.zip (us ++ ws)))
    (len : ∀ ds M R, s0 ds M R → ds.length = ps.length) (hb : BodyOk P w K mg base k f N qual sc body s0) : FnX P w K mg base (k + 1) f ks (spX K fun ds es M R => ds.length = n ∧ s0 (ds ++ es) M R) :=
  fnx_kbn (fun ds es => ds ++ es) F S (kbn_kw F h) (fun H ds vs es zs r1 r2 _ _ => r1.append r2) len hb
/-- .. by positions alone -/
theorem fnx_pos' {params : Arguments} {body : List Stmt} {sc : Scope} {kws : List (Str × V)} {N ps : List Str} {k : Nat} {s0 : ASp} (F : FunD K x qual params body sc [] kws f fd) (S : FnScope N ps sc)
    (h : ∀ (kV doc pm : Value) (an : Option Addr) (cdv ct : Value) (us : List Value), us.length = ps.length → bindArgs (PySem.W.fnOf x qual params body sc .none kV doc pm an cdv ct) ⟨us, []⟩ = pure (ps.zip us))
    (len : ∀ ds M R, s0 ds M R → ds.length = ps.length) (hb : BodyOk P w K mg base k f N qual sc body s0) : FnX P w K mg base (k + 1) f [] (spX K fun ds _ => s0 ds) := by
  have F1 := fnx_kbn (n := ps.length) (ks := []) (fun ds _ => ds) F S (g := fun us _ => us) (gV := fun vs _ => vs) (by
    obtain ⟨oc, od, dV, kV, doc, pm, an, cdv, ct, osl, rfl, lk, hcd, hD, _⟩ := F.ex
    obtain ⟨_, rfl⟩ : ([] : List V) = [] ∧ dV = .none := by
      rcases hD with h | ⟨e, _⟩
      · exact h
      · exact absurd rfl e
    refine ⟨fun s us ws _ h1 h2 => .of_eq ?_, fun r1 _ => r1⟩
    obtain rfl := List.length_eq_zero_iff.mp h2
    exact h kV doc pm an cdv ct us h1) (fun H ds vs es zs r _ _ _ => r) len hb
  exact ⟨fun A outer s H us ws vs zs Q hr e0 r rz hz ⟨Hi, M, ds, es, R, ra, re, ok, hs, q⟩ => F1.run A outer s H us ws vs zs Q hr e0 r rz hz ⟨Hi, M, ds, es, R, ra, re, ok, ⟨len _ _ _ hs, hs⟩, q⟩⟩
end
end Ab
namespace Ab
open PySem PySem.Spec PyProof.Rows L2 Builtin
/-! ### == and != of instances by their own __eq__ -/
end Ab
namespace Ab
open PySem PySem.Spec PyProof.Rows L2
/-- a call somewhere below the running body -/
theorem run_at {X : Cx} {A : Around} {n : Nat} {f : Addr} {pins : List (Addr × Obj)} {σ : L2.St} {H : Hp} {s : Shared} {Q : VK} {us : List Value} {vs : List V} {sp : List V → List V → Hp → VK → Prop} (F : FnX X.prog X.w X.K X.mg X.base n f [] sp) (hr : Rm n A) (hf : A.frames = X.A.frames)
    (I : Inv X pins σ H s) (r : Vals vs us) (h : sp vs [] H Q) : wpAny (model X.prog X.w) A (call (.ref f) us) (EP X pins σ Q) X.xe s := by
  have e0 : Env0 X.prog X.w X.K X.mg X.base A X.stack s H := by
    have e := I.env0
    exact ⟨by rw [hf]; exact e.frames, e.mod, e.bs, e.bsz, e.funs, e.frf, e.hok, e.bare⟩
  refine wpAny_call (codeAny_mono (F.run A X.stack s H us [] vs [] Q hr e0 r .nil rfl h) fun r s' hq => ?_)
  cases r with
  | error e => exact False.elim hq
  | ok fl =>
    cases fl with
    | ret u => exact I.after hq
    | next => exact False.elim hq
    | brk => exact False.elim hq
    | cont => exact False.elim hq
/-- == of the class at C by the def at f: what it answers of the fields -/
structure OwnE (P : Program) (w : World) (K : PySem.W.Frag) (mg : Str → Option Value) (base : Heap) (n : Nat) (C f : Addr) (good : List (Str × Val) → Prop) (rel : List (Str × Val) → List (Str × Val) → Bool) : Prop where
  fx : FnX P w K mg base n f [] (spX K fun ds _ M R => ∃ fs gs, ds = [.obj C fs, .obj C gs] ∧ good fs ∧ good gs ∧ R (.bl (rel fs gs)) M)
  at_ : PySem.W.findIn K (.ref C) "__eq__" = some (some (.ref f))
  fn : PySem.W.isFn K (.ref f) = true
  ne : PySem.W.findIn K (.ref C) "__ne__" = some (some (.builtin "object.__ne__"))
  ob : PySem.W.subIn K (.ref C) (.type "object") = some true
section
variable {X : Cx} {n : Nat} {C f : Addr} {good : List (Str × Val) → Prop} {rel : List (Str × Val) → List (Str × Val) → Bool} {M : Mem} {fs gs : List (Str × Val)}
def rO (K : PySem.W.Frag) (C : Addr) (good : List (Str × Val) → Prop) (rel : List (Str × Val) → List (Str × Val) → Bool) (neg : Bool) : R2 := fun x y H Q => ∃ a b dx dy fs gs, x = .ref a ∧ y = .ref b ∧ H a = some (.ins C dx fs) ∧ H b = some (.ins C dy gs) ∧
  spX K (fun ds _ M R => ∃ fs gs, ds = [.obj C fs, .obj C gs] ∧ good fs ∧ good gs ∧ R (.bl (rel fs gs)) M) [x, y] [] H (fun v H' => ∃ bb, v = .bl bb ∧ Q (.bl (if neg then !bb else bb)) H')
theorem op_eqO (O : OwnE X.prog X.w X.K X.mg X.base n C f good rel) (hr : Rm n X.A) : OpR X (compareOp .Eq) (rO X.K C good rel false) := by
  intro pins s σ H x y v u Q I rx ry h
  obtain ⟨a, b, dx, dy, fs, gs, rfl, rfl, ha, hb, hsp⟩ := h
  cases rx
  cases ry
  obtain ⟨mA, J, _⟩ := ins_get I.hok ha
  obtain ⟨mB, J', _⟩ := ins_get I.hok hb
  obtain ⟨od, J, _⟩ := J.look
  obtain ⟨od', J', _⟩ := J'.look
  obtain ⟨m, hF⟩ := I.fr
  show wpAny (model X.prog X.w) X.A (richCompare .Eq (.ref a) (.ref b)) (EP X pins σ Q) X.xe s
  refine PySem.W.cmp_K (op := .Eq) (tb := .ref C) hr.room.units0 hF I.ok.mod.kin J J'.type (by simp [PySem.W.notFirst]) O.at_ O.fn ?_
  refine wpAny_mono (run_at O.fx hr rfl I (vs := [.ref a, .ref b]) (.cons rfl (.cons rfl .nil)) hsp) (fun r s' z => ?_) fun _ _ x => x
  obtain ⟨v', H', I', rv, bb, rfl, q⟩ := z
  cases rv
  exact ⟨.bl bb, H', I', rfl, q⟩
theorem rv_O {neg : Bool} (hf : good fs) (hg : good gs) : RV X (rO X.K C good rel neg) (.obj C fs) (.obj C gs) M fun z M' => z = .bl (if neg then !rel fs gs else rel fs gs) ∧ M' = M := fun Hi H v w ok rv rw_ Q q => by
  cases id rv with
  | @obj a _ dx vs _ ha ra =>
    cases id rw_ with
    | @obj b _ dy ws _ hb rb =>
      refine ⟨a, b, dx, dy, vs, ws, rfl, rfl, ok.im _ _ ha, ok.im _ _ hb, Hi, M, [.obj C fs, .obj C gs], [], fun z M' => z = .bl (rel fs gs) ∧ M' = M, .cons rv (.cons rw_ .nil), .nil, ok, ⟨fs, gs, rfl, hf, hg, rfl, rfl⟩, ?_⟩
      intro d M' v Hi' H' h s' ok' r
      obtain ⟨rfl, rfl⟩ := h
      cases r
      exact ⟨_, rfl, q _ _ _ Hi' H' ⟨rfl, rfl⟩ s' ok' (.bl _)⟩
theorem cmp_eqO (O : OwnE X.prog X.w X.K X.mg X.base n C f good rel) (hr : Rm n X.A) (hf : good fs) (hg : good gs) : Cmp X .Eq M (.obj C fs) (.obj C gs) (rel fs gs) := ⟨_, op_eqO O hr, rv_O (neg := false) hf hg⟩
end
end Ab
namespace Ab
open PySem PySem.Spec PyProof.Rows L2
open AutoSeq1 (wpAny_loadPart')
open PySem.SeqAt MeetsSeq MeetsSeq2 MeetsSeq3 SeqRoads2
/-! ### lists whose items are equal: == and != (neg) -/
/-! ### items by their own == -/
def DV (K : PySem.W.Frag) (ed : Val → Val → Prop) : Eqv := fun x y H => ∃ d e, Rep K H d x ∧ Rep K H e y ∧ ed d e
theorem DV.mono {K : PySem.W.Frag} {ed : Val → Val → Prop} {x y : V} {H H' : Hp} (s : Same H H') (h : DV K ed x y H) : DV K ed x y H' := by
  obtain ⟨d, e, r1, r2, h⟩ := h
  exact ⟨d, e, r1.mono s, r2.mono s, h⟩
end Ab
namespace Ab
open PySem PySem.Spec PyProof.Rows L2
section
variable {X : Cx} {Γ : Gam} {M : Mem} {P : Val → Mem → Prop} {e a b c o : Expr} {es : List Expr} {pos p1 p2 apos kpos : Pos} {k : AK} {d d1 d2 d3 : Val} {i j : Int} {x y m : Str} {n : Nat} {f C : Addr}
/-- a global name that holds an int -/
theorem av_gint {t : Tok} (hm : X.mg x = some (.int i t)) (hg : Gl X x := by rfl) (hd : (x == ("__debug__" : Str)) = false := by decide) : aV X (.Name x pos) Γ M (.int i) := fun Hi H σ ok en Q q =>
  ⟨fun σ H Q => Q (.int i) H, ⟨fun pins s σ H Q I h => ld_glob I hg hm ⟨.int i, H, I, ⟨t, rfl⟩, h⟩ hd⟩, q _ _ _ Hi H ⟨rfl, rfl⟩ (Same.refl _) ok (.int i)⟩
/-- t * n -/
theorem av_repT {xs : List Val} (ha : aV X a Γ M (.tup xs)) (hb : aV X b Γ M (.int j)) (hx : xs ≠ []) (h1 : 2 ≤ j) (h2 : j ≤ 1000) (hl : xs.length ≤ 1000) : aV X (.BinOp a .Mult b pos) Γ M (.tup (List.replicate j.toNat xs).flatten) :=
  av_op op_repT ha hb fun Hi H v w ok rv rw_ Q q => by
    cases rw_
    cases rv with
    | @tup p ys _ hq ra =>
      have rep : ∀ m : Nat, RepA X.K Hi (List.replicate m xs).flatten (List.replicate m ys).flatten := by
        intro m
        induction m with
        | zero => exact .nil
        | succ m ih =>
          rw [List.replicate_succ, List.replicate_succ, List.flatten_cons, List.flatten_cons]
          exact ra.append ih
      refine ⟨p, j, ys, rfl, rfl, sameT ok.im hq, fun z => hx ?_, h1, h2, by rw [← ra.length]; exact hl, fun l hl => ?_⟩
      · subst z
        cases ra
        rfl
      · have s2 := same_upd (o := .tup (List.replicate j.toNat ys).flatten) (ok.none hl)
        exact q _ _ _ _ _ ⟨rfl, rfl⟩ s2 (ok.imm hl) (.tup (SqT.of upd_same) ((rep _).mono s2))
end
/-! ### def f( *v) -/
section
variable {P : Program} {w : World} {K : PySem.W.Frag} {mg : Str → Option Value} {base : Heap}
/-- positional defaults fill up -/
theorem fnx_dfl {x qual : Str} {params : Arguments} {body : List Stmt} {sc : Scope} {dvs : List V} {kws : List (Str × V)} {f : Addr} {fd : FuncData} {N ps : List Str} {k n : Nat} {s0 : ASp} (F : FunD K x qual params body sc dvs kws f fd) (S : FnScope N ps sc) (hd : dvs ≠ []) (dd : List Val) (hdd : ∀ H, RepA K H dd dvs)
    (h : ∀ (T : Addr) (kV doc pm : Value) (an : Option Addr) (cdv ct : Value) (us its : List Value), us.length = n → its.length = dvs.length →
      ∃ k, bindArgs (PySem.W.fnOf x qual params body sc (.ref T) kV doc pm an cdv ct) ⟨us, []⟩ = seqItems? (.ref T) >>= k ∧ k (some its.toArray) = pure (ps.zip (us ++ its)))
    (len : ∀ ds M R, s0 ds M R → ds.length = ps.length) (hb : BodyOk P w K mg base k f N qual sc body s0) : FnX P w K mg base (k + 1) f [] (spX K fun ds _ M R => ds.length = n ∧ s0 (ds ++ dd) M R) := by
  obtain ⟨oc, od, dV, kV, doc, pm, an, cdv, ct, osl, e, lk, hcd, hD, hK⟩ := F.ex
  rcases hD with ⟨e, _⟩ | ⟨_, T, o, its, m, e2, lT, oT, rT⟩
  · exact absurd e hd
  · subst e2
    subst e
    have l1 : its.length = dvs.length := rT.length.symm
    refine fnx_kbn (n := n) (ks := []) (fun ds _ => ds ++ dd) F S (g := fun us _ => us ++ its) (gV := fun vs _ => vs ++ dvs) ⟨fun s us ws X l2 h2 => ?_, fun r1 _ => r1.append rT⟩ (fun H ds vs es zs r _ _ _ => r.append (hdd H)) len hb
    obtain rfl := List.length_eq_zero_iff.mp h2
    obtain ⟨k', e1, e2⟩ := h T kV doc pm an cdv ct us its l2 l1
    refine BindsTo.of_looks fun M => ?_
    show PySem.W.Looks M s.heap (bindArgs _ ⟨us, []⟩) _
    rw [e1]
    exact looks_items X lT oT (.of_pure e2)
end
end Ab
/-! streams: a front and a loop; the normal form is one -/
namespace Sm
abbrev Stm := List Int × List Int
def lp (l : List Int) (i : Nat) : Int := l.getD (i % l.length) 0
def item (s : Stm) (i : Nat) : Int := if i < s.1.length then s.1.getD i 0 else lp s.2 (i - s.1.length)
theorem gd_eq {l : List Int} {i : Nat} (h : i < l.length) : l.getD i 0 = l[i] := by
  rw [List.getD_eq_getElem?_getD, List.getElem?_eq_getElem h]
  rfl
theorem ext_gd {l m : List Int} (hl : l.length = m.length) (h : ∀ i, i < l.length → l.getD i 0 = m.getD i 0) : l = m := by
  apply List.ext_getElem hl
  intro i h1 h2
  have := h i h1
  rwa [gd_eq h1, gd_eq h2] at this
theorem lp_add {l : List Int} (i : Nat) : lp l (i + l.length) = lp l i := by
  unfold lp
  rw [Nat.add_mod_right]
theorem lp_lt {l : List Int} {i : Nat} (h : i < l.length) : lp l i = l.getD i 0 := by
  unfold lp
  rw [Nat.mod_eq_of_lt h]
/-! ### periods -/
theorem per_mul {h : Nat → Int} {p : Nat} (hp : ∀ i, h (i + p) = h i) : ∀ (k i : Nat), h (i + p * k) = h i
  | 0, i => by rw [Nat.mul_zero, Nat.add_zero]
  | k + 1, i => by
    rw [Nat.mul_succ, ← Nat.add_assoc, hp, per_mul hp k]
theorem per_mod {h : Nat → Int} {p : Nat} (hp : ∀ i, h (i + p) = h i) (i : Nat) : h (i % p) = h i := by
  have := per_mul hp (i / p) (i % p)
  rw [Nat.mod_add_div] at this
  exact this.symm
theorem per_gcd {h : Nat → Int} (p q : Nat) (hp : ∀ i, h (i + p) = h i) (hq : ∀ i, h (i + q) = h i) : ∀ i, h (i + Nat.gcd p q) = h i := by
  induction p, q using Nat.gcd.induction with
  | H0 q => rw [Nat.gcd_zero_left]; exact hq
  | H1 m n hm ih =>
    rw [Nat.gcd_rec]
    refine ih (fun i => ?_) hp
    have e := per_mul hp (n / m) (i + n % m)
    rw [Nat.add_assoc, Nat.mod_add_div] at e
    rw [← e]
    exact hq i
/-- no smaller period that divides the length -/
def prim (l : List Int) : Prop := ∀ p, 0 < p → p < l.length → p ∣ l.length → ¬ ∀ i, lp l (i + p) = lp l i
def last0 (l : List Int) : Int := l.getD (l.length - 1) 0
structure NF (s : Stm) : Prop where
  ne : s.2 ≠ []
  pr : prim s.2
  fr : s.1 = [] ∨ last0 s.1 ≠ last0 s.2
theorem prim_per {l : List Int} (hn : l ≠ []) (hp : prim l) {d : Nat} (h0 : 0 < d) (hd : d ∣ l.length) (h : ∀ i, lp l (i + d) = lp l i) : d = l.length := by
  have hl : 0 < l.length := List.length_pos_iff.mpr hn
  have := Nat.le_of_dvd hl hd
  rcases Nat.lt_or_ge d l.length with h1 | h1
  · exact absurd h (hp d h0 h1 hd)
  · omega
theorem item_ge {s : Stm} {i : Nat} (h : s.1.length ≤ i) : item s i = lp s.2 (i - s.1.length) := by
  unfold item
  rw [if_neg (by omega)]
theorem item_lt {s : Stm} {i : Nat} (h : i < s.1.length) : item s i = s.1.getD i 0 := by
  unfold item
  rw [if_pos h]
theorem uniq_le {s t : Stm} (hs : NF s) (ht : NF t) (h : ∀ i, item s i = item t i) (hle : s.1.length ≤ t.1.length) : s = t := by
  have ps : 0 < s.2.length := List.length_pos_iff.mpr hs.ne
  have pt : 0 < t.2.length := List.length_pos_iff.mpr ht.ne
  generalize hc : t.1.length - s.1.length = c
  -- behind t's front
  have hh : ∀ i, lp s.2 (i + c) = lp t.2 i := fun i => by
    have := h (i + t.1.length)
    rw [item_ge (by omega), item_ge (by omega)] at this
    rw [show i + t.1.length - s.1.length = i + c by omega, Nat.add_sub_cancel] at this
    exact this
  have per1 : ∀ i, lp t.2 (i + s.2.length) = lp t.2 i := fun i => by
    rw [← hh, ← hh, show i + s.2.length + c = i + c + s.2.length by omega, lp_add]
  have d1 := per_gcd _ _ per1 (fun i => lp_add (l := t.2) i)
  have dpos : 0 < Nat.gcd s.2.length t.2.length := Nat.gcd_pos_of_pos_left _ ps
  have e1 := prim_per ht.ne ht.pr dpos (Nat.gcd_dvd_right _ _) d1
  have d2 : ∀ i, lp s.2 (i + Nat.gcd s.2.length t.2.length) = lp s.2 i := fun i => by
    have k : ∀ j, lp s.2 j = lp t.2 (j + s.2.length * c - c) := fun j => by
      have hc' : c ≤ s.2.length * c := Nat.le_mul_of_pos_left _ ps
      rw [← hh, show j + s.2.length * c - c + c = j + s.2.length * c by omega]
      exact (per_mul (fun i => lp_add (l := s.2) i) c j).symm
    have hc' : c ≤ s.2.length * c := Nat.le_mul_of_pos_left _ ps
    rw [k, k, show i + Nat.gcd s.2.length t.2.length + s.2.length * c - c = (i + s.2.length * c - c) + Nat.gcd s.2.length t.2.length by omega, d1]
  have e2 := prim_per hs.ne hs.pr dpos (Nat.gcd_dvd_left _ _) d2
  have hpq : s.2.length = t.2.length := e2.symm.trans e1
  have hc0 : c = 0 := by
    rcases Nat.eq_zero_or_pos c with z | z
    · exact z
    · exfalso
      have hN : 0 < t.1.length := by omega
      rcases ht.fr with q | q
      · rw [q] at hN
        exact absurd hN (by simp)
      · refine q ?_
        have a1 := h (t.1.length - 1)
        rw [item_ge (by omega), item_lt (by omega)] at a1
        have a2 := hh (t.2.length - 1)
        rw [show t.2.length - 1 + c = (c - 1) + s.2.length by omega, lp_add, lp_lt (l := t.2) (by omega)] at a2
        rw [show t.1.length - 1 - s.1.length = c - 1 by omega] at a1
        show t.1.getD (t.1.length - 1) 0 = t.2.getD (t.2.length - 1) 0
        rw [← a1, ← a2]
  have hl : s.1.length = t.1.length := by omega
  have f1 : s.1 = t.1 := ext_gd hl fun i hi => by
    have := h i
    rwa [item_lt hi, item_lt (hl ▸ hi)] at this
  have f2 : s.2 = t.2 := ext_gd hpq fun i hi => by
    have := hh i
    rw [hc0, Nat.add_zero, lp_lt hi, lp_lt (hpq ▸ hi)] at this
    exact this
  exact Prod.ext f1 f2
theorem uniq {s t : Stm} (hs : NF s) (ht : NF t) (h : ∀ i, item s i = item t i) : s = t := by
  rcases Nat.le_total s.1.length t.1.length with q | q
  · exact uniq_le hs ht h q
  · exact (uniq_le ht hs (fun i => (h i).symm) q).symm
/-! ### the program's way there -/
def cyc (t : List Int) (m : Nat) : List Int := (List.replicate m t).flatten
theorem cyc_succ (t : List Int) (m : Nat) : cyc t (m + 1) = t ++ cyc t m := by
  unfold cyc
  rw [List.replicate_succ, List.flatten_cons]
theorem cyc_len (t : List Int) : ∀ m, (cyc t m).length = m * t.length
  | 0 => by simp [cyc]
  | m + 1 => by
    rw [cyc_succ, List.length_append, cyc_len t m, Nat.succ_mul, Nat.add_comm]
theorem cyc_get (t : List Int) : ∀ (m i : Nat), i < m * t.length → (cyc t m).getD i 0 = lp t i
  | 0, i, h => by simp at h
  | m + 1, i, h => by
    rw [cyc_succ, List.getD_eq_getElem?_getD]
    by_cases hi : i < t.length
    · rw [List.getElem?_append_left hi, lp_lt hi, List.getD_eq_getElem?_getD]
    · have hi' : t.length ≤ i := by omega
      rw [List.getElem?_append_right hi', ← List.getD_eq_getElem?_getD, cyc_get t m (i - t.length) (by rw [Nat.succ_mul] at h; omega)]
      have := lp_add (l := t) (i - t.length)
      rw [Nat.sub_add_cancel hi'] at this
      exact this.symm
/-- the loop is its first p items over and over -/
def isRep (l : List Int) (p : Nat) : Bool := decide (l.length % p = 0) && decide (l = cyc (l.take p) (l.length / p))
def slFrom (l : List Int) : Nat → Nat → List Int
  | 0, _ => l
  | c + 1, p => if isRep l p = true then l.take p else slFrom l c (p + 1)
def sloop (l : List Int) : List Int := slFrom l (l.length - 1) 1
theorem take_len {l : List Int} {p : Nat} (h : p ≤ l.length) : (l.take p).length = p := by rw [List.length_take]; omega
theorem isRep_iff {l : List Int} {p : Nat} (h0 : 0 < p) (h1 : p < l.length) : isRep l p = true ↔ p ∣ l.length ∧ ∀ i, lp l (i + p) = lp l i := by
  unfold isRep
  rw [Bool.and_eq_true, decide_eq_true_iff, decide_eq_true_iff, ← Nat.dvd_iff_mod_eq_zero]
  have tl := take_len (Nat.le_of_lt h1)
  refine ⟨fun ⟨hd, he⟩ => ⟨hd, ?_⟩, fun ⟨hd, hp⟩ => ⟨hd, ?_⟩⟩
  · have hm : l.length / p * p = l.length := Nat.div_mul_cancel hd
    have g : ∀ i, i < l.length → l.getD i 0 = lp (l.take p) i := fun i hi => by
      have := cyc_get (l.take p) (l.length / p) i (by rw [tl, hm]; exact hi)
      rw [← he] at this
      exact this
    have g2 : ∀ i, lp l i = lp (l.take p) i := fun i => by
      unfold lp
      have hl : 0 < l.length := by omega
      have hi := Nat.mod_lt i hl
      have := g _ hi
      unfold lp at this
      rw [this, tl, Nat.mod_mod_of_dvd _ hd]
    intro i
    rw [g2, g2]
    have := lp_add (l := l.take p) i
    rw [tl] at this
    exact this
  · have hm : l.length / p * p = l.length := Nat.div_mul_cancel hd
    refine ext_gd (by rw [cyc_len, tl, hm]) fun i hi => ?_
    rw [cyc_get _ _ _ (by rw [tl, hm]; exact hi)]
    have := per_mod hp i
    rw [lp_lt hi, lp_lt (Nat.lt_trans (Nat.mod_lt i h0) h1)] at this
    rw [← this]
    unfold lp
    rw [tl, List.getD_eq_getElem?_getD, List.getD_eq_getElem?_getD, List.getElem?_take_of_lt (Nat.mod_lt i h0)]
theorem lp_take {l : List Int} {p : Nat} (h0 : 0 < p) (h1 : p < l.length) (hp : ∀ i, lp l (i + p) = lp l i) (i : Nat) : lp (l.take p) i = lp l i := by
  have tl := take_len (Nat.le_of_lt h1)
  have hm := Nat.mod_lt i h0
  rw [← per_mod hp i, lp_lt (Nat.lt_trans hm h1)]
  unfold lp
  rw [tl, List.getD_eq_getElem?_getD, List.getD_eq_getElem?_getD, List.getElem?_take_of_lt hm]
/-- what the search has behind it -/
theorem slFrom_spec {l : List Int} (hn : l ≠ []) : ∀ (c p : Nat), 0 < p → c + p = l.length → (∀ q, 0 < q → q < p → q ∣ l.length → ¬ ∀ i, lp l (i + q) = lp l i) →
    slFrom l c p ≠ [] ∧ prim (slFrom l c p) ∧ (∀ i, lp (slFrom l c p) i = lp l i) ∧ (slFrom l c p).length ≤ l.length ∧ ∀ v ∈ slFrom l c p, v ∈ l
  | 0, p, h0, hc, hb => by
    refine ⟨hn, fun q q0 q1 => hb q q0 ?_, fun _ => rfl, Nat.le_refl _, fun v h => h⟩
    have : slFrom l 0 p = l := rfl
    rw [this] at q1
    omega
  | c + 1, p, h0, hc, hb => by
    unfold slFrom
    have h1 : p < l.length := by omega
    by_cases hr : isRep l p = true
    · rw [if_pos hr]
      obtain ⟨hd, hp⟩ := (isRep_iff h0 h1).mp hr
      have tl := take_len (Nat.le_of_lt h1)
      refine ⟨fun z => ?_, fun q q0 q1 qd hq => ?_, lp_take h0 h1 hp, by omega, fun v hv => List.mem_of_mem_take hv⟩
      · rw [z] at tl
        simp at tl
        omega
      · rw [tl] at q1 qd
        refine hb q q0 q1 (Nat.dvd_trans qd hd) fun i => ?_
        have := hq i
        rwa [lp_take h0 h1 hp, lp_take h0 h1 hp] at this
    · rw [if_neg hr]
      refine slFrom_spec hn c (p + 1) (by omega) (by omega) fun q q0 q1 qd hq => ?_
      rcases Nat.lt_or_ge q p with z | z
      · exact hb q q0 z qd hq
      · have : q = p := by omega
        subst this
        exact hr ((isRep_iff h0 h1).mpr ⟨qd, hq⟩)
theorem sloop_spec {l : List Int} (hn : l ≠ []) : sloop l ≠ [] ∧ prim (sloop l) ∧ (∀ i, lp (sloop l) i = lp l i) ∧ (sloop l).length ≤ l.length ∧ ∀ v ∈ sloop l, v ∈ l := by
  have hl : 0 < l.length := List.length_pos_iff.mpr hn
  exact slFrom_spec hn _ _ (by decide) (by omega) fun q q0 q1 => by omega
def rotR (l : List Int) : List Int := last0 l :: l.dropLast
def nfGo : Nat → List Int → List Int → Stm
  | 0, f, l => (f, l)
  | c + 1, f, l => if f ≠ [] ∧ last0 f = last0 l then nfGo c f.dropLast (rotR l) else (f, l)
def nf (s : Stm) : Stm := nfGo s.1.length s.1 (sloop s.2)
theorem rot_len {l : List Int} (hn : l ≠ []) : (rotR l).length = l.length := by
  have hl : 0 < l.length := List.length_pos_iff.mpr hn
  unfold rotR
  rw [List.length_cons, List.length_dropLast]
  omega
theorem last_mem {l : List Int} (hn : l ≠ []) : last0 l ∈ l := by
  have hl : 0 < l.length := List.length_pos_iff.mpr hn
  unfold last0
  rw [gd_eq (by omega)]
  exact List.getElem_mem _
theorem mem_dl {l : List Int} {v : Int} (h : v ∈ l.dropLast) : v ∈ l := by
  rw [List.dropLast_eq_take] at h
  exact List.mem_of_mem_take h
theorem rot_mem {l : List Int} (hn : l ≠ []) {v : Int} (h : v ∈ rotR l) : v ∈ l := by
  rcases List.mem_cons.mp h with rfl | h
  · exact last_mem hn
  · exact mem_dl h
theorem gd_dropLast {l : List Int} {i : Nat} (h : i < l.length - 1) : l.dropLast.getD i 0 = l.getD i 0 := by
  rw [gd_eq (by rw [List.length_dropLast]; exact h), gd_eq (by omega), List.getElem_dropLast]
theorem rot_lp {l : List Int} (hn : l ≠ []) (i : Nat) : lp (rotR l) (i + 1) = lp l i := by
  have hl : 0 < l.length := List.length_pos_iff.mpr hn
  have hr := rot_len hn
  have hm := Nat.mod_lt i hl
  have k : ∀ j, j < l.length → lp (rotR l) (j + 1) = lp l j := fun j hj => by
    by_cases z : j + 1 < l.length
    · rw [lp_lt (by omega), lp_lt hj]
      show (last0 l :: l.dropLast).getD (j + 1) 0 = _
      rw [List.getD_cons_succ, gd_dropLast (by omega)]
    · have e : j = l.length - 1 := by omega
      subst e
      have : lp (rotR l) (l.length - 1 + 1) = lp (rotR l) 0 := by
        have := lp_add (l := rotR l) 0
        rw [hr] at this
        rw [show l.length - 1 + 1 = 0 + l.length by omega]
        exact this
      rw [this, lp_lt (by omega), lp_lt hj]
      rfl
  have e1 : lp l i = lp l (i % l.length) := (per_mod (fun i => lp_add (l := l) i) i).symm
  rw [e1, ← k _ hm]
  have := per_mul (h := fun j => lp (rotR l) (j + 1)) (p := l.length) (fun j => by
    have := lp_add (l := rotR l) (j + 1)
    rw [hr] at this
    show lp (rotR l) (j + l.length + 1) = _
    rw [show j + l.length + 1 = j + 1 + l.length by omega]
    exact this) (i / l.length) (i % l.length)
  rw [Nat.mod_add_div] at this
  exact this
theorem rot_prim {l : List Int} (hn : l ≠ []) (hp : prim l) : prim (rotR l) := fun q q0 q1 qd hq => by
  rw [rot_len hn] at q1 qd
  refine hp q q0 q1 qd fun i => ?_
  have := hq (i + 1)
  rw [show i + 1 + q = i + q + 1 by omega, rot_lp hn, rot_lp hn] at this
  exact this
theorem step_item {f l : List Int} (hf : f ≠ []) (hn : l ≠ []) (he : last0 f = last0 l) (i : Nat) : item (f.dropLast, rotR l) i = item (f, l) i := by
  have hl : 0 < f.length := List.length_pos_iff.mpr hf
  have h2 : 0 < l.length := List.length_pos_iff.mpr hn
  have hd : f.dropLast.length = f.length - 1 := List.length_dropLast
  by_cases h : i < f.length - 1
  · rw [item_lt (by show i < f.dropLast.length; omega), item_lt (by show i < f.length; omega)]
    exact gd_dropLast h
  · rw [item_ge (by show f.dropLast.length ≤ i; omega)]
    show lp (rotR l) (i - f.dropLast.length) = _
    rw [hd]
    by_cases z : i = f.length - 1
    · subst z
      rw [Nat.sub_self, item_lt (by show f.length - 1 < f.length; omega), lp_lt (by rw [rot_len hn]; exact h2)]
      exact he.symm
    · rw [item_ge (by show f.length ≤ i; omega), show i - (f.length - 1) = (i - f.length) + 1 by omega, rot_lp hn]
theorem nfGo_spec : ∀ (c : Nat) (f l : List Int), f.length ≤ c → l ≠ [] → prim l → NF (nfGo c f l) ∧ (∀ i, item (nfGo c f l) i = item (f, l) i) ∧ (nfGo c f l).1.length ≤ f.length ∧ (nfGo c f l).2.length = l.length ∧ (∀ v ∈ (nfGo c f l).1, v ∈ f) ∧ ∀ v ∈ (nfGo c f l).2, v ∈ l
  | 0, f, l, hc, hn, hp => by
    have e : f = [] := List.length_eq_zero_iff.mp (Nat.le_zero.mp hc)
    subst e
    exact ⟨⟨hn, hp, .inl rfl⟩, fun _ => rfl, Nat.le_refl _, rfl, fun _ h => h, fun _ h => h⟩
  | c + 1, f, l, hc, hn, hp => by
    unfold nfGo
    by_cases h : f ≠ [] ∧ last0 f = last0 l
    · rw [if_pos h]
      have hl : 0 < f.length := List.length_pos_iff.mpr h.1
      have hr : rotR l ≠ [] := fun z => by
        unfold rotR at z
        cases z
      obtain ⟨h1, h2, h3, h4, h5, h6⟩ := nfGo_spec c f.dropLast (rotR l) (by rw [List.length_dropLast]; omega) hr (rot_prim hn hp)
      exact ⟨h1, fun i => (h2 i).trans (step_item h.1 hn h.2 i), by rw [List.length_dropLast] at h3; omega, h4.trans (rot_len hn), fun v hv => mem_dl (h5 v hv), fun v hv => rot_mem hn (h6 v hv)⟩
    · rw [if_neg h]
      refine ⟨⟨hn, hp, ?_⟩, fun _ => rfl, Nat.le_refl _, rfl, fun _ h => h, fun _ h => h⟩
      by_cases z : f = []
      · exact .inl z
      · exact .inr fun e => h ⟨z, e⟩
structure NfS (s t : Stm) : Prop where
  nf : NF t
  it : ∀ i, item t i = item s i
  l1 : t.1.length ≤ s.1.length
  l2 : t.2.length ≤ s.2.length
  m1 : ∀ v ∈ t.1, v ∈ s.1
  m2 : ∀ v ∈ t.2, v ∈ s.2
theorem nf_spec {s : Stm} (hn : s.2 ≠ []) : NfS s (nf s) := by
  obtain ⟨a1, a2, a3, a4, a5⟩ := sloop_spec hn
  obtain ⟨h1, h2, h3, h4, h5, h6⟩ := nfGo_spec s.1.length s.1 (sloop s.2) (Nat.le_refl _) a1 a2
  refine ⟨h1, fun i => (h2 i).trans ?_, h3, h4 ▸ a4, h5, fun v hv => a5 v (h6 v hv)⟩
  unfold item
  by_cases z : i < s.1.length
  · rw [if_pos z, if_pos z]
  · rw [if_neg z, if_neg z]
    exact a3 _
end Sm
namespace K14
open PySem L2 Ab
def topS (i : Nat) : Stmt := PySem.Challenge.pw_nestcount_k14_paths_judged.main.body.getD i (.Pass ⟨0, 0, 0, 0⟩)
abbrev c_InvalidSchedule___init__ : Stmt := inClass (topS 3) 0
abbrev n_InvalidSchedule___init__ : List Str := ["self", "part"]
theorem q_InvalidSchedule___init__ : FnScope n_InvalidSchedule___init__ ["self", "part"] (defScope c_InvalidSchedule___init__) := ⟨rfl, rfl, rfl, by decide +kernel, rfl, by decide +kernel, by decide +kernel⟩
abbrev c_InvalidNumber___init__ : Stmt := inClass (topS 4) 0
abbrev n_InvalidNumber___init__ : List Str := ["self", "number"]
theorem q_InvalidNumber___init__ : FnScope n_InvalidNumber___init__ ["self", "number"] (defScope c_InvalidNumber___init__) := ⟨rfl, rfl, rfl, by decide +kernel, rfl, by decide +kernel, by decide +kernel⟩
abbrev c_InvalidCertificate___init__ : Stmt := inClass (topS 6) 0
abbrev n_InvalidCertificate___init__ : List Str := ["self", "part"]
theorem q_InvalidCertificate___init__ : FnScope n_InvalidCertificate___init__ ["self", "part"] (defScope c_InvalidCertificate___init__) := ⟨rfl, rfl, rfl, by decide +kernel, rfl, by decide +kernel, by decide +kernel⟩
abbrev s_is_integer : Stmt := topS 12
abbrev n_is_integer : List Str := ["value", "low", "high"]
theorem q_is_integer : FnScope n_is_integer ["value", "low", "high"] (defScope s_is_integer) := ⟨rfl, rfl, rfl, by decide +kernel, rfl, by decide +kernel, by decide +kernel⟩
abbrev s_check_integer : Stmt := topS 14
abbrev n_check_integer : List Str := ["value", "low", "high"]
theorem q_check_integer : FnScope n_check_integer ["value", "low", "high"] (defScope s_check_integer) := ⟨rfl, rfl, rfl, by decide +kernel, rfl, by decide +kernel, by decide +kernel⟩
abbrev s_are_items : Stmt := topS 15
abbrev n_are_items : List Str := ["value", "least_size", "most_size", "item"]
theorem q_are_items : FnScope n_are_items ["value", "least_size", "most_size"] (defScope s_are_items) := ⟨rfl, rfl, rfl, by decide +kernel, rfl, by decide +kernel, by decide +kernel⟩
abbrev s_shortest_loop : Stmt := topS 16
abbrev n_shortest_loop : List Str := ["loop", "size"]
theorem q_shortest_loop : FnScope n_shortest_loop ["loop"] (defScope s_shortest_loop) := ⟨rfl, rfl, rfl, by decide +kernel, rfl, by decide +kernel, by decide +kernel⟩
abbrev s_normal_form : Stmt := topS 17
abbrev n_normal_form : List Str := ["front", "loop"]
theorem q_normal_form : FnScope n_normal_form ["front", "loop"] (defScope s_normal_form) := ⟨rfl, rfl, rfl, by decide +kernel, rfl, by decide +kernel, by decide +kernel⟩
abbrev s_stream_item : Stmt := topS 18
abbrev n_stream_item : List Str := ["stream", "index", "front", "loop"]
theorem q_stream_item : FnScope n_stream_item ["stream", "index"] (defScope s_stream_item) := ⟨rfl, rfl, rfl, by decide +kernel, rfl, by decide +kernel, by decide +kernel⟩
abbrev c_Schedule___init__ : Stmt := inClass (topS 20) 4
abbrev n_Schedule___init__ : List Str := ["self", "arity", "spine", "levels"]
theorem q_Schedule___init__ : FnScope n_Schedule___init__ ["self", "arity", "spine", "levels"] (defScope c_Schedule___init__) := ⟨rfl, rfl, rfl, by decide +kernel, rfl, by decide +kernel, by decide +kernel⟩
abbrev c_Schedule_is_stream : Stmt := inClass (topS 20) 5
abbrev n_Schedule_is_stream : List Str := ["value"]
theorem q_Schedule_is_stream : FnScope n_Schedule_is_stream ["value"] (defScope c_Schedule_is_stream) := ⟨rfl, rfl, rfl, by decide +kernel, rfl, by decide +kernel, by decide +kernel⟩
abbrev c_Schedule_arity : Stmt := inClass (topS 20) 8
abbrev n_Schedule_arity : List Str := ["self"]
theorem q_Schedule_arity : FnScope n_Schedule_arity ["self"] (defScope c_Schedule_arity) := ⟨rfl, rfl, rfl, by decide +kernel, rfl, by decide +kernel, by decide +kernel⟩
abbrev c_Schedule_spine : Stmt := inClass (topS 20) 9
abbrev n_Schedule_spine : List Str := ["self"]
theorem q_Schedule_spine : FnScope n_Schedule_spine ["self"] (defScope c_Schedule_spine) := ⟨rfl, rfl, rfl, by decide +kernel, rfl, by decide +kernel, by decide +kernel⟩
abbrev c_Schedule_levels : Stmt := inClass (topS 20) 10
abbrev n_Schedule_levels : List Str := ["self"]
theorem q_Schedule_levels : FnScope n_Schedule_levels ["self"] (defScope c_Schedule_levels) := ⟨rfl, rfl, rfl, by decide +kernel, rfl, by decide +kernel, by decide +kernel⟩
abbrev c_Schedule_spine_at : Stmt := inClass (topS 20) 12
abbrev n_Schedule_spine_at : List Str := ["self", "index"]
theorem q_Schedule_spine_at : FnScope n_Schedule_spine_at ["self", "index"] (defScope c_Schedule_spine_at) := ⟨rfl, rfl, rfl, by decide +kernel, rfl, by decide +kernel, by decide +kernel⟩
abbrev c_Schedule_level_at : Stmt := inClass (topS 20) 13
abbrev n_Schedule_level_at : List Str := ["self", "height"]
theorem q_Schedule_level_at : FnScope n_Schedule_level_at ["self", "height"] (defScope c_Schedule_level_at) := ⟨rfl, rfl, rfl, by decide +kernel, rfl, by decide +kernel, by decide +kernel⟩
abbrev c_Schedule___eq__ : Stmt := inClass (topS 20) 22
abbrev n_Schedule___eq__ : List Str := ["self", "other"]
theorem q_Schedule___eq__ : FnScope n_Schedule___eq__ ["self", "other"] (defScope c_Schedule___eq__) := ⟨rfl, rfl, rfl, by decide +kernel, rfl, by decide +kernel, by decide +kernel⟩
abbrev s_is_integer_nodes : Stmt := topS 22
abbrev n_is_integer_nodes : List Str := ["value", "least"]
theorem q_is_integer_nodes : FnScope n_is_integer_nodes ["value", "least"] (defScope s_is_integer_nodes) := ⟨rfl, rfl, rfl, by decide +kernel, rfl, by decide +kernel, by decide +kernel⟩
abbrev s_need_schedule : Stmt := topS 24
abbrev n_need_schedule : List Str := ["value"]
theorem q_need_schedule : FnScope n_need_schedule ["value"] (defScope s_need_schedule) := ⟨rfl, rfl, rfl, by decide +kernel, rfl, by decide +kernel, by decide +kernel⟩
abbrev s_path_inside : Stmt := topS 25
abbrev n_path_inside : List Str := ["schedule", "sizes", "stage", "before", "at", "steps", "rest"]
theorem q_path_inside : FnScope n_path_inside ["schedule", "sizes", "stage", "before"] (defScope s_path_inside) := ⟨rfl, rfl, rfl, by decide +kernel, rfl, by decide +kernel, by decide +kernel⟩
abbrev s_path_of : Stmt := topS 26
abbrev n_path_of : List Str := ["schedule", "label", "end", "sizes", "stage", "begin"]
theorem q_path_of : FnScope n_path_of ["schedule", "label"] (defScope s_path_of) := ⟨rfl, rfl, rfl, by decide +kernel, rfl, by decide +kernel, by decide +kernel⟩
abbrev c_Node___init__ : Stmt := inClass (topS 27) 1
abbrev n_Node___init__ : List Str := ["self", "schedule", "height", "index"]
theorem q_Node___init__ : FnScope n_Node___init__ ["self", "schedule", "height", "index"] (defScope c_Node___init__) := ⟨rfl, rfl, rfl, by decide +kernel, rfl, by decide +kernel, by decide +kernel⟩
abbrev c_Node___eq__ : Stmt := inClass (topS 27) 2
abbrev n_Node___eq__ : List Str := ["self", "other"]
theorem q_Node___eq__ : FnScope n_Node___eq__ ["self", "other"] (defScope c_Node___eq__) := ⟨rfl, rfl, rfl, by decide +kernel, rfl, by decide +kernel, by decide +kernel⟩
abbrev c_Node_schedule : Stmt := inClass (topS 27) 3
abbrev n_Node_schedule : List Str := ["self"]
theorem q_Node_schedule : FnScope n_Node_schedule ["self"] (defScope c_Node_schedule) := ⟨rfl, rfl, rfl, by decide +kernel, rfl, by decide +kernel, by decide +kernel⟩
abbrev c_Node_height : Stmt := inClass (topS 27) 4
abbrev n_Node_height : List Str := ["self"]
theorem q_Node_height : FnScope n_Node_height ["self"] (defScope c_Node_height) := ⟨rfl, rfl, rfl, by decide +kernel, rfl, by decide +kernel, by decide +kernel⟩
abbrev c_Node_at : Stmt := inClass (topS 27) 9
abbrev n_Node_at : List Str := ["cls", "schedule", "label", "stage", "steps", "rest"]
theorem q_Node_at : FnScope n_Node_at ["cls", "schedule", "label"] (defScope c_Node_at) := ⟨rfl, rfl, rfl, by decide +kernel, rfl, by decide +kernel, by decide +kernel⟩
abbrev c_Node_led : Stmt := inClass (topS 27) 10
abbrev n_Node_led : List Str := ["schedule", "stage", "steps", "index", "step"]
theorem q_Node_led : FnScope n_Node_led ["schedule", "stage", "steps"] (defScope c_Node_led) := ⟨rfl, rfl, rfl, by decide +kernel, rfl, by decide +kernel, by decide +kernel⟩
abbrev c_Node_named : Stmt := inClass (topS 27) 11
abbrev n_Node_named : List Str := ["schedule", "height", "index"]
theorem q_Node_named : FnScope n_Node_named ["schedule", "height", "index"] (defScope c_Node_named) := ⟨rfl, rfl, rfl, by decide +kernel, rfl, by decide +kernel, by decide +kernel⟩
abbrev c_Node_child : Stmt := inClass (topS 27) 13
abbrev n_Node_child : List Str := ["self", "number"]
theorem q_Node_child : FnScope n_Node_child ["self", "number"] (defScope c_Node_child) := ⟨rfl, rfl, rfl, by decide +kernel, rfl, by decide +kernel, by decide +kernel⟩
abbrev c_Node_children : Stmt := inClass (topS 27) 14
abbrev n_Node_children : List Str := ["self", "many", "number"]
theorem q_Node_children : FnScope n_Node_children ["self"] (defScope c_Node_children) := ⟨rfl, rfl, rfl, by decide +kernel, rfl, by decide +kernel, by decide +kernel⟩
abbrev c_SpineNode___init__ : Stmt := inClass (topS 28) 0
abbrev n_SpineNode___init__ : List Str := ["self", "schedule", "height", "__class__"]
theorem q_SpineNode___init__ : NdefX.NScope n_SpineNode___init__ ["self", "schedule", "height"] ["__class__"] (defScope c_SpineNode___init__) := NdefX.nscope_by (by decide +kernel)
abbrev c_SpineNode___repr__ : Stmt := inClass (topS 28) 1
abbrev n_SpineNode___repr__ : List Str := ["self"]
theorem q_SpineNode___repr__ : FnScope n_SpineNode___repr__ ["self"] (defScope c_SpineNode___repr__) := ⟨rfl, rfl, rfl, by decide +kernel, rfl, by decide +kernel, by decide +kernel⟩
abbrev c_BranchNode___init__ : Stmt := inClass (topS 29) 0
abbrev n_BranchNode___init__ : List Str := ["self", "schedule", "height", "index", "__class__"]
theorem q_BranchNode___init__ : NdefX.NScope n_BranchNode___init__ ["self", "schedule", "height", "index"] ["__class__"] (defScope c_BranchNode___init__) := NdefX.nscope_by (by decide +kernel)
abbrev c_BranchNode___repr__ : Stmt := inClass (topS 29) 1
abbrev n_BranchNode___repr__ : List Str := ["self"]
theorem q_BranchNode___repr__ : FnScope n_BranchNode___repr__ ["self"] (defScope c_BranchNode___repr__) := ⟨rfl, rfl, rfl, by decide +kernel, rfl, by decide +kernel, by decide +kernel⟩
abbrev s_label_path : Stmt := topS 31
abbrev n_label_path : List Str := ["schedule", "label"]
theorem q_label_path : FnScope n_label_path ["schedule", "label"] (defScope s_label_path) := ⟨rfl, rfl, rfl, by decide +kernel, rfl, by decide +kernel, by decide +kernel⟩
abbrev s_is_equal : Stmt := topS 32
abbrev n_is_equal : List Str := ["value", "due"]
theorem q_is_equal : FnScope n_is_equal ["value", "due"] (defScope s_is_equal) := ⟨rfl, rfl, rfl, by decide +kernel, rfl, by decide +kernel, by decide +kernel⟩
abbrev s_check_path : Stmt := topS 33
abbrev n_check_path : List Str := ["schedule", "label", "path", "stage", "steps", "rest", "step", "due"]
theorem q_check_path : FnScope n_check_path ["schedule", "label", "path"] (defScope s_check_path) := ⟨rfl, rfl, rfl, by decide +kernel, rfl, by decide +kernel, by decide +kernel⟩
abbrev s__law_streams : Stmt := topS 35
abbrev n__law_streams : List Str := ["_law_script", "_law_cells", "_law_found", "_law_k", "_law_cell"]
theorem q__law_streams : FnScope n__law_streams ["_law_script"] (defScope s__law_streams) := ⟨rfl, rfl, rfl, by decide +kernel, rfl, by decide +kernel, by decide +kernel⟩
abbrev s__law_next : Stmt := topS 36
abbrev n__law_next : List Str := ["_law_stream", "_law_many", "_law_found", "_law_at", "_law_cells"]
theorem q__law_next : FnScope n__law_next ["_law_stream", "_law_many"] (defScope s__law_next) := ⟨rfl, rfl, rfl, by decide +kernel, rfl, by decide +kernel, by decide +kernel⟩
abbrev s__law_row : Stmt := topS 37
abbrev n__law_row : List Str := ["_law_stream", "_law_low", "_law_width", "_law_front", "_law_k", "_law_loop"]
theorem q__law_row : FnScope n__law_row ["_law_stream", "_law_low"] (defScope s__law_row) := ⟨rfl, rfl, rfl, by decide +kernel, rfl, by decide +kernel, by decide +kernel⟩
abbrev s__law_plan : Stmt := topS 38
abbrev n__law_plan : List Str := ["_law_stream", "_law_most", "_law_k", "_law_trunk", "_law_crown"]
theorem q__law_plan : FnScope n__law_plan ["_law_stream", "_law_most"] (defScope s__law_plan) := ⟨rfl, rfl, rfl, by decide +kernel, rfl, by decide +kernel, by decide +kernel⟩
abbrev s__law_great : Stmt := topS 39
abbrev n__law_great : List Str := ["_law_stream", "_law_most", "_law_found", "_law_turn"]
theorem q__law_great : FnScope n__law_great ["_law_stream", "_law_most"] (defScope s__law_great) := ⟨rfl, rfl, rfl, by decide +kernel, rfl, by decide +kernel, by decide +kernel⟩
abbrev s__law_is_node : Stmt := topS 40
abbrev n__law_is_node : List Str := ["_law_node", "_law_high", "_law_m", "_law_is_spine", "_law_is_branch", "_law_due_here"]
theorem q__law_is_node : FnScope n__law_is_node ["_law_node", "_law_high", "_law_m"] (defScope s__law_is_node) := ⟨rfl, rfl, rfl, by decide +kernel, rfl, by decide +kernel, by decide +kernel⟩
abbrev s__law_outcome : Stmt := topS 41
abbrev n__law_outcome : List Str := ["_law_call", "_law_caught", "_law_found", "e", "_law_some"]
theorem q__law_outcome : FnScope n__law_outcome ["_law_call"] (defScope s__law_outcome) := ⟨rfl, rfl, rfl, by decide +kernel, rfl, by decide +kernel, by decide +kernel⟩
abbrev s__law_due : Stmt := topS 42
abbrev n__law_due : List Str := ["_law_what", "_law_right_here"]
theorem q__law_due : FnScope n__law_due ["_law_what", "_law_right_here"] (defScope s__law_due) := ⟨rfl, rfl, rfl, by decide +kernel, rfl, by decide +kernel, by decide +kernel⟩
abbrev s__law_spoiled : Stmt := topS 43
abbrev n__law_spoiled : List Str := ["_law_stream", "_law_right_here", "_law_at", "_law_steps", "_law_rest", "_law_spot", "_law_odd", "_law_fore", "_law_rear", "_law_way", "_law_bent", "_law_whole"]
theorem q__law_spoiled : FnScope n__law_spoiled ["_law_stream", "_law_right_here"] (defScope s__law_spoiled) := ⟨rfl, rfl, rfl, by decide +kernel, rfl, by decide +kernel, by decide +kernel⟩
abbrev s__law_right : Stmt := topS 44
abbrev n__law_right : List Str := ["_law_stream", "_law_plan_here", "_law_far", "_law_right_here", "_law_node", "_law_turn", "_law_what", "_law_due_here", "_law_kept", "_law_told", "_law_row_here"]
theorem q__law_right : FnScope n__law_right ["_law_stream", "_law_plan_here", "_law_far"] (defScope s__law_right) := ⟨rfl, rfl, rfl, by decide +kernel, rfl, by decide +kernel, by decide +kernel⟩
abbrev s_law : Stmt := topS 45
abbrev n_law : List Str := ["_law_script", "_law_stream", "_law_k", "_law_trunk", "_law_crown", "_law_plan_here", "_law_far", "_law_odd", "_law_told"]
theorem q_law : FnScope n_law ["_law_script"] (defScope s_law) := ⟨rfl, rfl, rfl, by decide +kernel, rfl, by decide +kernel, by decide +kernel⟩
end K14
namespace Ab
open PySem L2
/-! ### short words -/
section
variable {X : Cx} {Γ : Gam} {M : Mem} {pos : Pos} {x : Str} {d : Val} {i : Int} {j}
theorem v_ (n : Nat) (hd : Γ[n]? = some (some d) := by rfl) (hN : X.N[n]? = some x := by rfl) (hv : Vis X.env.scope x := by first | exact Or.inl rfl | exact Or.inr (Or.inl rfl) | exact Or.inr (Or.inr rfl))
    (hdb : (x == ("__debug__" : Str)) = false := by decide) (hcd : (x == ("__classdict__" : Str)) = false := by decide) : aV X (.Name x pos) Γ M d := ae_var n hd ⟨rfl, rfl⟩ hN hv hdb hcd
theorem i_ : aV X (.Constant (.int i) j pos) Γ M (.int i) := ae_int ⟨rfl, rfl⟩
theorem s_ : aV X (.Constant (.str x) j pos) Γ M (.str x) := ae_str ⟨rfl, rfl⟩
theorem n_ : aV X (.Constant .none j pos) Γ M .non := ae_non ⟨rfl, rfl⟩
theorem nft {p : Prop} : false = true → p := fun h => nomatch h
theorem ntf {p : Prop} : true = false → p := fun h => nomatch h
theorem sz {n : Nat} (h : n ≤ 100000) : n ≤ sizeLine := Nat.le_trans h (by decide)
theorem szl {n : Nat} (h : n < 100000) : n < sizeLine := Nat.lt_of_lt_of_le h (by decide)
theorem szb {n : Nat} (h : Nat.ble n 100000 = true := by rfl) : n ≤ sizeLine := sz (Nat.le_of_ble_eq_true h)
end
def optV : Option Int → Val
  | none => .non
  | some l => .int l
def within (n : Int) (lo hi : Option Int) : Bool := (match lo with | none => true | some l => decide (l ≤ n)) && (match hi with | none => true | some h => decide (n ≤ h))
def iT (xs : List Int) : Val := .tup (xs.map .int)
def iL (xs : List Int) : Val := .lst (xs.map .int)
def at0 (g : List Int) (i : Int) : Int := g.getD i.toNat 0
theorem atI_int {g : List Int} {i : Int} (h0 : 0 ≤ i) (h1 : i < g.length) : atI (g.map Val.int) i = some (.int (at0 g i)) := by
  obtain ⟨n, rfl⟩ := Int.eq_ofNat_of_zero_le h0
  refine atI_nat ?_
  have hn : n < g.length := by omega
  rw [List.getElem?_map, List.getElem?_eq_getElem hn]
  show some (Val.int g[n]) = some (Val.int (at0 g n))
  unfold at0
  rw [Int.toNat_natCast, List.getD_eq_getElem?_getD, List.getElem?_eq_getElem hn]
  rfl
/-- the last one -/
theorem atI_last {g : List Int} (h : g ≠ []) : atI (g.map Val.int) (-1) = some (.int (g.getD (g.length - 1) 0)) := by
  have hl : 0 < g.length := List.length_pos_iff.mpr h
  unfold atI ixN
  rw [List.length_map, if_neg (by decide), if_pos (by omega), Option.bind_some, show ((-1 : Int) + (g.length : Int)).toNat = g.length - 1 by omega, List.getElem?_map, List.getElem?_eq_getElem (by omega), List.getD_eq_getElem?_getD, List.getElem?_eq_getElem (by omega)]
  rfl
theorem getD_int {g : List Int} {i : Nat} (h : i < g.length) : (g.map Val.int).getD i .non = .int g[i] := by
  rw [List.getD_eq_getElem?_getD, List.getElem?_map, List.getElem?_eq_getElem h]
  rfl
theorem cut_neg {g : List Int} (h : g ≠ []) : cutI g none (some (-1)) = g.dropLast := by
  have hl : 0 < g.length := List.length_pos_iff.mpr h
  unfold cutI
  have e : HT.sIx g.length g.length (some (-1)) = g.length - 1 := by
    show (if (-1 : Int) < 0 then ((-1 : Int) + (g.length : Int)).toNat else min (-1 : Int).toNat g.length) = _
    rw [if_pos (by decide)]
    omega
  rw [e, HT.sIx_none, List.drop_zero, Nat.sub_zero, List.dropLast_eq_take]
theorem cut_end {g : List Int} (h : g ≠ []) : cutI g (some (-1)) none = [g.getD (g.length - 1) 0] := by
  have hl : 0 < g.length := List.length_pos_iff.mpr h
  unfold cutI
  have e : HT.sIx g.length 0 (some (-1)) = g.length - 1 := by
    show (if (-1 : Int) < 0 then ((-1 : Int) + (g.length : Int)).toNat else min (-1 : Int).toNat g.length) = _
    rw [if_pos (by decide)]
    omega
  rw [e, HT.sIx_none, List.drop_eq_getElem_cons (by omega), show g.length - 1 + 1 = g.length by omega, List.drop_length, show g.length - (g.length - 1) = 1 by omega, List.getD_eq_getElem?_getD, List.getElem?_eq_getElem (by omega)]
  rfl
theorem map_cyc {g : List Int} (m : Nat) : (List.replicate m (g.map Val.int)).flatten = ((List.replicate m g).flatten).map Val.int := by
  induction m with
  | zero => rfl
  | succ m ih => rw [List.replicate_succ, List.replicate_succ, List.flatten_cons, List.flatten_cons, List.map_append, ih]
abbrev FX (P : Program) (w : World) (K : PySem.W.Frag) (mg : Str → Option Value) (base : Heap) (k : Nat) (f : Addr) (s : ASx) : Prop := FnX P w K mg base k f [] (spX K s)
/-- a def that stands under a global name -/
structure Gd (P : Program) (w : World) (K : PySem.W.Frag) (mg : Str → Option Value) (base : Heap) (k : Nat) (x : Str) (ks : List Str) (s : ASx) : Prop where
  ex : ∃ f, FnX P w K mg base k f ks (spX K s) ∧ mg x = some (.ref f) ∧ PySem.W.keepIn K (.ref f) = true
section
variable {X : Cx} {Γ : Gam} {M : Mem} {P : Val → Mem → Prop} {e : Expr} {es : List Expr} {kws : List Keyword} {pos p1 : Pos} {x : Str} {n m : Nat} {ks : List Str} {sx : ASx}
theorem ae_g (G : Gd X.prog X.w X.K X.mg X.base n x ks sx) (hr : Rm m X.A) (hnm : n ≤ m) (h : aA X (e :: es) Γ M fun ds M1 => aKw X kws Γ M1 fun zs M2 => zs.length = ks.length ∧ sx ds zs M2 P)
    (hg : Gl X x := by rfl) (hall : (backToKw pos (keywordEach kws X.env)).all (·.1.isSome) = true := by rfl) (hks : (backToKw pos (keywordEach kws X.env)).filterMap (·.1) = ks := by rfl) (hdb : (x == ("__debug__" : Str)) = false := by decide)
    (he : starEach (e :: es) X.env = (false, eval e X.env) :: starEach es X.env := by rfl) (hpl : ((backTo pos (starEach (e :: es) X.env)).any (·.1) || (backToKw pos (keywordEach kws X.env)).any (·.1.isNone)) = false := by rfl) : aE X (.Call (.Name x p1) (e :: es) kws pos) Γ M P := by
  obtain ⟨f, F, hm, hk⟩ := G.ex
  exact ae_call F (hr.mono hnm) hm hk h hg hall hks hdb he hpl
end
end Ab
namespace K14
open PySem L2 Ab Sm
section
variable {P : Program} {w : World} {K : PySem.W.Frag} {mg : Str → Option Value} {base : Heap} {k : Nat} {f C : Addr}
/-! ### is_integer, check_integer, are_items -/
def aInt : ASp := fun ds M R => ∃ n lo hi, ds = [.int n, optV lo, optV hi] ∧ R (.bl (within n lo hi)) M
theorem b_is_integer (m1 : mg "isinstance" = none) (m2 : mg "int" = none) (m3 : mg "bool" = none) : BodyOk P w K mg base k f n_is_integer "is_integer" (defScope s_is_integer) (defBody s_is_integer) aInt := by
  rintro cdv A outer s H E hr ds M R ⟨n, lo, hi, rfl, hp⟩
  refine as_cons (as_if (at_w (aw_or (at_not (at_val (ae_isi m1 (v_ 0) (av_ty (T := "int") m2 (by decide +kernel)) (.ty "int") (.int _) (kit_ty (by decide +kernel)) ⟨true, rfl, nft, fun _ => ?_⟩))))))
  refine aw_or1 (at_val (ae_isi m1 (v_ 0) (av_ty (T := "bool") m3 (by decide +kernel)) (.ty "bool") (.int _) (kit_ty (by decide +kernel)) ⟨false, rfl, nft, fun _ => ?_⟩))
  refine as_nil (as_one (as_ret ?_))
  cases lo with
  | none =>
    refine ae_and (ae_or (ae_cmp (v_ 1) n_ cmp_isN ⟨true, rfl, fun _ => ⟨true, rfl, fun _ => ?_, ntf⟩, ntf⟩))
    cases hi with
    | none => exact ae_one (ae_or (ae_cmp (v_ 2) n_ cmp_isN ⟨true, rfl, fun _ => .ok hp, ntf⟩))
    | some h => exact ae_one (ae_or (ae_cmp (v_ 2) n_ cmp_isN ⟨false, rfl, nft, fun _ => ae_one (ae_cmp (v_ 0) (v_ 2) cmp_le (.ok (by simpa [within] using hp)))⟩))
  | some l =>
    refine ae_and (ae_or (ae_cmp (v_ 1) n_ cmp_isN ⟨false, rfl, nft, fun _ => ae_one (ae_cmp (v_ 1) (v_ 0) cmp_le ⟨_, rfl, fun e => ?_, fun e => .ok (by simpa [within, e] using hp)⟩)⟩))
    cases hi with
    | none => exact ae_one (ae_or (ae_cmp (v_ 2) n_ cmp_isN ⟨true, rfl, fun _ => .ok (by simpa [within, e] using hp), ntf⟩))
    | some h => exact ae_one (ae_or (ae_cmp (v_ 2) n_ cmp_isN ⟨false, rfl, nft, fun _ => ae_one (ae_cmp (v_ 0) (v_ 2) cmp_le (.ok (by simpa [within, e] using hp)))⟩))
/-- is_integer(x, low=.., high=..) -/
abbrev GInt (P : Program) (w : World) (K : PySem.W.Frag) (mg : Str → Option Value) (base : Heap) : Prop := Gd P w K mg base 1 "is_integer_schedules" ["low", "high"] fun ds es M R => ds.length = 1 ∧ aInt (ds ++ es) M R
def aChk : ASp := fun ds M R => ∃ n lo, ds = [.int n, .int lo, .non] ∧ lo ≤ n ∧ R .non M
theorem b_check_integer (G : GInt P w K mg base) : BodyOk P w K mg base 1 f n_check_integer "check_integer" (defScope s_check_integer) (defBody s_check_integer) aChk := by
  rintro cdv A outer s H E hr ds M R ⟨n, lo, rfl, hle, hp⟩
  refine as_one (as_if (at_not (at_val (ae_g G hr (by decide) (aa_cons ((v_ 0).val (aa_nil (ak_cons ((v_ 1).val (ak_cons ((v_ 2).val (ak_nil ⟨rfl, rfl, n, some lo, none, rfl, true, ?_, nft, fun _ => as_nil (.ok hp)⟩))))))))))))
  have e : within n (some lo) none = true := by simp [within]; exact hle
  rw [e]
abbrev GChk (P : Program) (w : World) (K : PySem.W.Frag) (mg : Str → Option Value) (base : Heap) : Prop := Gd P w K mg base 2 "check_integer" [] fun ds _ M R => ds.length = 2 ∧ aChk (ds ++ [.non]) M R
def okI (v : Int) : Prop := 0 ≤ v ∧ v ≤ 1000000
theorem rep_true {M : Mem} {n : Nat} : Vw M (.lst ((List.range n).map fun _ => Val.bl true)) (.lst ((List.replicate n true).map .bl)) := by
  have e : (List.range n).map (fun _ => Val.bl true) = (List.replicate n true).map .bl := by simp [List.map_const']
  rw [e]
  exact .self _
def aItems : ASp := fun ds M R => ∃ xs a b, ds = [iT xs, .int a, .int b] ∧ a ≤ (xs.length : Int) ∧ (xs.length : Int) ≤ b ∧ b ≤ 1000 ∧ (∀ v ∈ xs, okI v) ∧ R (.bl true) M
theorem b_are_items {t : Tok} (G : GInt P w K mg base) (gl : mg "LABEL_LIMIT" = some (.int 1000000 t)) (m1 : mg "isinstance" = none) (m2 : mg "tuple" = none) (m3 : mg "len" = none) (m4 : mg "all" = none) : BodyOk P w K mg base 1 f n_are_items "are_items" (defScope s_are_items) (defBody s_are_items) aItems := by
  rintro cdv A outer s H E hr ds M R ⟨xs, a, b, rfl, h1, h2, h3, hx, hp⟩
  refine as_cons (as_if (at_w (aw_or (at_not (at_val (ae_isi m1 (v_ 0) (av_ty (T := "tuple") m2 (by decide +kernel)) (.ty "tuple") (.tup _) (kit_ty (by decide +kernel)) ⟨true, rfl, nft, fun _ => ?_⟩))))))
  refine aw_or1 (at_not (at_chain (v_ 1) (av_len m3 (v_ 0) .t) (v_ 2) cmp_le cmp_le ⟨fun h => ?_, fun _ => as_nil ?_⟩))
  · simp at h
    omega
  refine as_one (as_ret (ae_all m4 rfl (ae_lcP [("item", 3)] (fun _ => .bl true) rfl q_are_items.nd (blkOk_by (N := n_are_items) (sc := defScope s_are_items) (by decide +kernel)) (ai_tup ((v_ 0).val ⟨rfl, rfl⟩)) ?_ (by simp; omega) ⟨List.replicate _ true, rep_true, .ok ?_⟩)))
  · intro i acc D hi s H C' cl fp
    have hi' : i < xs.length := by simpa using hi
    rw [getD_int hi']
    refine agw_name 3 q_are_items.nd fun s H C' cl fp => ?_
    refine ae_g G hr (by decide) (aa_cons ((v_ 3).val (aa_nil (ak_cons (i_.val (ak_cons ((av_gint gl).val (ak_nil ⟨rfl, rfl, xs[i], some 0, some 1000000, rfl, ?_, rfl⟩))))))))
    have := hx _ (List.getElem_mem hi')
    have e : within xs[i] (some 0) (some 1000000) = true := by simp [within]; exact this
    rw [e]
  · rw [show (List.replicate (List.map Val.int xs).length true).all id = true by simp]
    exact hp
abbrev GItems (P : Program) (w : World) (K : PySem.W.Frag) (mg : Str → Option Value) (base : Heap) : Prop := Gd P w K mg base 2 "are_items" [] fun ds _ => aItems ds
/-! ### shortest_loop, normal_form, stream_item -/
def aSl : ASp := fun ds M R => ∃ l, ds = [iT l] ∧ l ≠ [] ∧ l.length ≤ 1000 ∧ R (iT (sloop l)) M
theorem b_shortest_loop (m1 : mg "range" = none) (m3 : mg "len" = none) : BodyOk P w K mg base k f n_shortest_loop "shortest_loop" (defScope s_shortest_loop) (defBody s_shortest_loop) aSl := by
  rintro cdv A outer s H E hr ds M R ⟨l, rfl, hn, hl, hp⟩
  have hu := hr.u64
  have hpos : 0 < l.length := List.length_pos_iff.mpr hn
  have len1 : ∀ {X : Cx} {Γ : Gam} {M : Mem} {e : Expr}, aV X e Γ M (.int ((l.map Val.int).length : Nat)) → aV X e Γ M (.int (l.length : Nat)) := fun h => by rw [List.length_map] at h; exact h
  refine as_cons (as_for (n := l.length - 1) (fun i Γ M' => M' = M ∧ ∃ v1, Γ = [some (iT l), v1] ∧ sloop l = slFrom l (l.length - 1 - i) (i + 1)) PassesOwn.never rfl
    (ai_range2 (lo := 1) m1 (aa_cons (i_.val (aa_cons ((len1 (av_len m3 (v_ 0) .t)).val (aa_nil ⟨_, rfl, by omega, by omega, rfl, none, rfl, rfl⟩)))))) (fun _ _ _ _ _ => trivial) ?_ ?_)
  · rintro i Γ M' hi ⟨rfl, v1, rfl, hs⟩
    refine ag_name 1 q_shortest_loop.nd ?_
    rw [show l.length - 1 - i = (l.length - 1 - (i + 1)) + 1 by omega] at hs
    have hst : slFrom l (l.length - 1 - (i + 1) + 1) (i + 1) = if isRep l (i + 1) = true then l.take (i + 1) else slFrom l (l.length - 1 - (i + 1)) (i + 1 + 1) := rfl
    rw [hst] at hs
    have e1 : (1 : Int) + (i : Int) = ((i + 1 : Nat) : Int) := by omega
    rw [e1]
    have sl : ∀ {X : Cx} {Γ : Gam} {M : Mem} {e : Expr}, aV X e Γ M (.tup (cutA (l.map Val.int) none (some ((i + 1 : Nat) : Int)))) → aV X e Γ M (iT (l.take (i + 1))) := fun h => by
      rw [cut_map, cut_hi (by omega) (by omega), Int.toNat_natCast] at h
      exact h
    have dv : ((l.length : Int) / ((i + 1 : Nat) : Int)) = ((l.length / (i + 1) : Nat) : Int) := by omega
    by_cases hm : l.length % (i + 1) = 0
    · have hge : 2 ≤ l.length / (i + 1) := by
        have h1 := Nat.div_add_mod l.length (i + 1)
        rw [hm, Nat.add_zero] at h1
        rcases Nat.lt_or_ge (l.length / (i + 1)) 2 with z | z
        · have : l.length / (i + 1) ≤ 1 := by omega
          have := Nat.mul_le_mul_left (i + 1) this
          omega
        · exact z
      have hle : l.length / (i + 1) ≤ l.length := Nat.div_le_self _ _
      have tl := take_len (l := l) (p := i + 1) (by omega)
      have tne : (l.take (i + 1)).map Val.int ≠ [] := fun z => by
        have := congrArg List.length z
        rw [List.length_map, tl] at this
        simp at this
      have cy : ∀ {X : Cx} {Γ : Gam} {M : Mem} {e : Expr}, aV X e Γ M (.tup (List.replicate ((l.length : Int) / ((i + 1 : Nat) : Int)).toNat ((l.take (i + 1)).map Val.int)).flatten) → aV X e Γ M (iT (cyc (l.take (i + 1)) (l.length / (i + 1)))) := fun h => by
        rw [dv, Int.toNat_natCast, map_cyc] at h
        exact h
      refine as_one (as_if (at_w (aw_and (at_cmp (av_mod (len1 (av_len m3 (v_ 0) .t)) (v_ 1) (by omega)) i_ cmp_eqI ⟨fun _ => ?_, fun h => ?_⟩))))
      · refine aw_and1 (at_cmp (v_ 0) (cy (av_repT (sl (av_sliceT (v_ 0) ao_none (ao_some (v_ 1)))) (av_fdiv (len1 (av_len m3 (v_ 0) .t)) (v_ 1) ⟨by omega, by omega⟩) tne (by rw [dv]; omega) (by rw [dv]; omega) (by rw [List.length_map, tl]; omega))) (cmp_eqTI hu) ⟨fun h => ?_, fun h => ?_⟩)
        · have hrp : isRep l (i + 1) = true := by
            unfold isRep
            rw [decide_eq_true hm, h]
            rfl
          rw [if_pos hrp] at hs
          refine as_one (as_ret ((sl (av_sliceT (v_ 0) ao_none (ao_some (v_ 1)))).val (.ok ?_)))
          rw [← hs]
          exact hp
        · have hrp : ¬ isRep l (i + 1) = true := by
            unfold isRep
            rw [h, Bool.and_false]
            exact Bool.false_ne_true
          rw [if_neg hrp] at hs
          exact as_nil ⟨rfl, _, rfl, hs⟩
      · exfalso
        rw [decide_eq_false_iff_not] at h
        apply h
        omega
    · have hrp : ¬ isRep l (i + 1) = true := by
        unfold isRep
        rw [decide_eq_false hm, Bool.false_and]
        exact Bool.false_ne_true
      rw [if_neg hrp] at hs
      refine as_one (as_if (at_w (aw_and (at_cmp (av_mod (len1 (av_len m3 (v_ 0) .t)) (v_ 1) (by omega)) i_ cmp_eqI ⟨fun h => ?_, fun _ => ⟨nft, fun _ => as_nil ⟨rfl, _, rfl, hs⟩⟩⟩))))
      exfalso
      rw [decide_eq_true_eq] at h
      omega
  · rintro Γ M' ⟨rfl, v1, rfl, hs⟩
    refine as_one (as_ret ((v_ 0).val (.ok ?_)))
    rw [Nat.sub_self] at hs
    have e : sloop l = l := hs
    rw [e] at hp
    exact hp
abbrev GSl (P : Program) (w : World) (K : PySem.W.Frag) (mg : Str → Option Value) (base : Heap) : Prop := Gd P w K mg base 1 "shortest_loop" [] fun ds _ => aSl ds
end
end K14
namespace K14
open PySem L2 Ab Sm
section
variable {P : Program} {w : World} {K : PySem.W.Frag} {mg : Str → Option Value} {base : Heap} {k : Nat} {f C : Addr}
/-- a stream -/
def stV (s : Stm) : Val := .tup [iT s.1, iT s.2]
def aNf : ASp := fun ds M R => ∃ s : Stm, ds = [iT s.1, iT s.2] ∧ s.2 ≠ [] ∧ s.1.length ≤ 1000 ∧ s.2.length ≤ 1000 ∧ R (stV (nf s)) M
theorem nfGo_succ {c : Nat} {f l : List Int} : nfGo (c + 1) f l = if f ≠ [] ∧ last0 f = last0 l then nfGo c f.dropLast (rotR l) else (f, l) := rfl
theorem cmp_neT {X : Cx} {M : Mem} {g : List Int} (hu : X.A.units + 64 < cLine) : Cmp X .NotEq M (iT g) (.tup []) (!decide (g = [])) := cmp_neTI (ns := g) (ms := []) hu
theorem b_normal_form (G : GSl P w K mg base) : BodyOk P w K mg base 1 f n_normal_form "normal_form" (defScope s_normal_form) (defBody s_normal_form) aNf := by
  rintro cdv A outer s H E hr ds M R ⟨⟨f0, l0⟩, rfl, hn, h1, h2, hp⟩
  have hu := hr.u64
  refine as_cons (as_set 1 q_normal_form.nd (ae_g G hr (by decide) (aa_cons ((v_ 1).val (aa_nil (ak_nil ⟨rfl, l0, rfl, hn, h2, ?_⟩))))))
  have hsl := sloop_spec hn
  refine as_cons (as_while (fun c Γ M' => M' = M ∧ ∃ f l, Γ = [some (iT f), some (iT l)] ∧ l ≠ [] ∧ f.length = c ∧ f.length ≤ 1000 ∧ l.length ≤ 1000 ∧ nf (f0, l0) = nfGo c f l) f0.length PassesOwn.never ⟨rfl, f0, sloop l0, rfl, hsl.1, rfl, h1, Nat.le_trans hsl.2.2.2.1 h2, rfl⟩ ?_)
  rintro c Γ M' ⟨rfl, g, l, rfl, hl, hc, hf, hll, hnf⟩
  have sf : g ≠ [] → ∀ {X : Cx} {Γ : Gam} {M : Mem} {e : Expr}, aV X e Γ M (.tup (cutA (g.map Val.int) none (some (-1)))) → aV X e Γ M (iT g.dropLast) := fun hne _ _ _ _ h => by
    rw [cut_map, cut_neg hne] at h
    exact h
  have s1 : ∀ {X : Cx} {Γ : Gam} {M : Mem} {e : Expr}, aV X e Γ M (.tup (cutA (l.map Val.int) none (some (-1)))) → aV X e Γ M (iT l.dropLast) := fun h => by
    rw [cut_map, cut_neg hl] at h
    exact h
  have s2 : ∀ {X : Cx} {Γ : Gam} {M : Mem} {e : Expr}, aV X e Γ M (.tup (cutA (l.map Val.int) (some (-1)) none)) → aV X e Γ M (iT [last0 l]) := fun h => by
    rw [cut_map, cut_end hl] at h
    exact h
  have fin : nf (f0, l0) = (g, l) → aSs (bcx P w K mg base n_normal_form "normal_form" (defScope s_normal_form) f cdv A outer s H E) [(defBody s_normal_form).getD 2 (.Pass ⟨0, 0, 0, 0⟩)] [some (iT g), some (iT l)] M' (kOf R) := fun e => by
    refine as_one (as_ret (aE.val (av_tup (avs_cons (v_ 0) (avs_cons (v_ 1) avs_nil)) szb) (.ok ?_)))
    rw [e] at hp
    exact hp
  by_cases hfe : g = []
  · subst hfe
    refine at_w (aw_and (at_cmp (v_ 0) (av_tup avs_nil szb) (cmp_neT hu) ⟨fun h => ?_, fun _ => ⟨nft, fun _ => fin ?_⟩⟩))
    · simp at h
    · rw [hnf, ← hc]
      rfl
  · have hfl : 0 < g.length := List.length_pos_iff.mpr hfe
    obtain ⟨c', rfl⟩ : ∃ c', c = c' + 1 := ⟨c - 1, by omega⟩
    rw [nfGo_succ] at hnf
    refine at_w (aw_and (at_cmp (v_ 0) (av_tup avs_nil szb) (cmp_neT hu) ⟨fun _ => ?_, fun h => ?_⟩))
    · refine aw_and1 (at_cmp (av_ixT (v_ 0) (av_neg i_) (atI_last hfe)) (av_ixT (v_ 1) (av_neg i_) (atI_last hl)) cmp_eqI ⟨fun h => ?_, fun h => fin ?_⟩)
      · rw [decide_eq_true_eq] at h
        rw [if_pos ⟨hfe, h⟩] at hnf
        refine as_one (as_par 0 1 q_normal_form.nd rfl (by decide) (aa_cons ((sf hfe (av_sliceT (v_ 0) ao_none (ao_some (av_neg i_)))).val (aa_cons (aE.val (av_catT (s2 (av_sliceT (v_ 1) (ao_some (av_neg i_)) ao_none)) (s1 (av_sliceT (v_ 1) ao_none (ao_some (av_neg i_)))) (sz ?_)) (aa_nil ⟨_, _, rfl, c', Nat.lt_succ_self _, rfl, g.dropLast, rotR l, rfl, ?_, ?_, ?_, ?_, hnf⟩))))))
        · simp
          omega
        · unfold rotR
          exact List.cons_ne_nil _ _
        · rw [List.length_dropLast]
          omega
        · rw [List.length_dropLast]
          omega
        · rw [rot_len hl]
          exact hll
      · rw [decide_eq_false_iff_not] at h
        rw [if_neg fun z => h z.2] at hnf
        exact hnf
    · simp [hfe] at h
abbrev GNf (P : Program) (w : World) (K : PySem.W.Frag) (mg : Str → Option Value) (base : Heap) : Prop := Gd P w K mg base 2 "normal_form" [] fun ds _ => aNf ds
/-! ### stream_item -/
def aItem : ASp := fun ds M R => ∃ (s : Stm) (i : Int), ds = [stV s, .int i] ∧ s.2 ≠ [] ∧ 0 ≤ i ∧ R (.int (item s i.toNat)) M
theorem item_lp {s : Stm} {i : Int} (hn : s.2 ≠ []) (h0 : 0 ≤ i) (h : ¬ i < (s.1.length : Int)) : item s i.toNat = at0 s.2 ((i - (s.1.length : Int)) % (s.2.length : Int)) := by
  have hl : 0 < s.2.length := List.length_pos_iff.mpr hn
  rw [item_ge (by omega)]
  unfold lp at0
  have e : i - (s.1.length : Int) = ((i.toNat - s.1.length : Nat) : Int) := by omega
  rw [e, ← Int.natCast_emod, Int.toNat_natCast]
theorem b_stream_item (m3 : mg "len" = none) : BodyOk P w K mg base k f n_stream_item "stream_item" (defScope s_stream_item) (defBody s_stream_item) aItem := by
  rintro cdv A outer s0 H E hr ds M R ⟨s, i, rfl, hn, h0, hp⟩
  have hl : 0 < s.2.length := List.length_pos_iff.mpr hn
  refine as_cons (as_asg ((v_ 0).val (ag_tup rfl (ags_cons (ag_name 2 q_stream_item.nd (ags_cons (ag_name 3 q_stream_item.nd (ags_nil ?_))))))))
  have len1 : ∀ {g : List Int} {X : Cx} {Γ : Gam} {M : Mem} {e : Expr}, aV X e Γ M (.int ((g.map Val.int).length : Nat)) → aV X e Γ M (.int (g.length : Nat)) := fun h => by rw [List.length_map] at h; exact h
  refine as_one (as_ret (ae_ifd (p := i < (s.1.length : Int)) (at_cmp (v_ 1) (len1 (av_len m3 (v_ 2) .t)) cmp_lt ⟨rfl, rfl⟩) (fun h => ?_) (fun h => ?_)))
  · refine aE.val (av_ixT (v_ 2) (v_ 1) (atI_int h0 h)) (.ok ?_)
    have e : item s i.toNat = at0 s.1 i := item_lt (by omega)
    rw [e] at hp
    exact hp
  · refine aE.val (av_ixT (v_ 3) (av_mod (av_sub (v_ 1) (len1 (av_len m3 (v_ 2) .t))) (len1 (av_len m3 (v_ 3) .t)) (by omega)) (atI_int (Int.emod_nonneg _ (by omega)) (Int.emod_lt_of_pos _ (by omega)))) (.ok ?_)
    rw [item_lp hn h0 h] at hp
    exact hp
abbrev GItem (P : Program) (w : World) (K : PySem.W.Frag) (mg : Str → Option Value) (base : Heap) : Prop := Gd P w K mg base 1 "stream_item" [] fun ds _ => aItem ds
end
end K14
namespace Sm
/-! ### streams without their first items, with other ones -/
/-! ### streams item by item -/
theorem item_per {s : Stm} {p i : Nat} (hd : s.2.length ∣ p) (hi : s.1.length ≤ i) : item s (i + p) = item s i := by
  rw [item_ge (by omega), item_ge hi, show i + p - s.1.length = i - s.1.length + p by omega]
  obtain ⟨q, rfl⟩ := hd
  exact per_mul (fun i => lp_add (l := s.2) i) q _
def minL : List Int → Int
  | [] => 0
  | x :: xs => xs.foldl (fun a b => if b < a then b else a) x
def maxL : List Int → Int
  | [] => 0
  | x :: xs => xs.foldl (fun a b => if b > a then b else a) x
theorem minL_spec : ∀ (xs : List Int) (x : Int), minL (x :: xs) ∈ x :: xs ∧ ∀ y ∈ x :: xs, minL (x :: xs) ≤ y
  | [], x => ⟨List.mem_cons_self, fun y hy => by
    have : y = x := by simpa using hy
    subst this
    exact Int.le_refl _⟩
  | b :: xs, x => by
    have e : minL (x :: b :: xs) = minL ((if b < x then b else x) :: xs) := rfl
    obtain ⟨h1, h2⟩ := minL_spec xs (if b < x then b else x)
    rw [e]
    have h0 := h2 _ List.mem_cons_self
    refine ⟨?_, fun y hy => ?_⟩
    · rcases List.mem_cons.mp h1 with z | z
      · rw [z]
        split
        · exact List.mem_cons_of_mem _ List.mem_cons_self
        · exact List.mem_cons_self
      · exact List.mem_cons_of_mem _ (List.mem_cons_of_mem _ z)
    · rcases List.mem_cons.mp hy with rfl | hy
      · refine Int.le_trans h0 ?_
        split <;> omega
      · rcases List.mem_cons.mp hy with rfl | hy
        · refine Int.le_trans h0 ?_
          split <;> omega
        · exact h2 y (List.mem_cons_of_mem _ hy)
theorem maxL_spec : ∀ (xs : List Int) (x : Int), maxL (x :: xs) ∈ x :: xs ∧ ∀ y ∈ x :: xs, y ≤ maxL (x :: xs)
  | [], x => ⟨List.mem_cons_self, fun y hy => by
    have : y = x := by simpa using hy
    subst this
    exact Int.le_refl _⟩
  | b :: xs, x => by
    have e : maxL (x :: b :: xs) = maxL ((if b > x then b else x) :: xs) := rfl
    obtain ⟨h1, h2⟩ := maxL_spec xs (if b > x then b else x)
    rw [e]
    have h0 := h2 _ List.mem_cons_self
    refine ⟨?_, fun y hy => ?_⟩
    · rcases List.mem_cons.mp h1 with z | z
      · rw [z]
        split
        · exact List.mem_cons_of_mem _ List.mem_cons_self
        · exact List.mem_cons_self
      · exact List.mem_cons_of_mem _ (List.mem_cons_of_mem _ z)
    · rcases List.mem_cons.mp hy with rfl | hy
      · refine Int.le_trans ?_ h0
        split <;> omega
      · rcases List.mem_cons.mp hy with rfl | hy
        · refine Int.le_trans ?_ h0
          split <;> omega
        · exact h2 y (List.mem_cons_of_mem _ hy)
theorem min_is {ns : List Int} {m : Int} (h1 : m ∈ ns) (h2 : ∀ y ∈ ns, m ≤ y) : m = minL ns := by
  cases ns with
  | nil => cases h1
  | cons x xs =>
    obtain ⟨a, b⟩ := minL_spec xs x
    exact Int.le_antisymm (h2 _ a) (b _ h1)
theorem max_is {ns : List Int} {m : Int} (h1 : m ∈ ns) (h2 : ∀ y ∈ ns, y ≤ m) : m = maxL ns := by
  cases ns with
  | nil => cases h1
  | cons x xs =>
    obtain ⟨a, b⟩ := maxL_spec xs x
    exact Int.le_antisymm (b _ h1) (h2 _ a)
/-! ### the least common multiple, step by step -/
end Sm
namespace Ab
open PySem PySem.Spec PyProof.Rows L2
end Ab
namespace K14
open PySem L2 Ab Sm
theorem cut_loN {g : List Int} {j : Int} (h0 : 0 ≤ j) : cutI g (some j) none = g.drop j.toNat := by
  by_cases h : j ≤ g.length
  · exact cut_lo h0 h
  · obtain ⟨n, rfl⟩ := Int.eq_ofNat_of_zero_le h0
    unfold cutI
    rw [HT.sIx_nat, HT.sIx_none, Nat.min_eq_right (by omega), Int.toNat_natCast, List.drop_of_length_le (Nat.le_refl _), List.drop_of_length_le (by omega), List.take_nil]
section
variable {P : Program} {w : World} {K : PySem.W.Frag} {mg : Str → Option Value} {base : Heap} {k : Nat} {f C : Addr}
/-! ### stream_without, with_front, with_first -/
/-! ### common_multiple -/
def nL (ns : List Nat) : List Int := ns.map fun (n : Nat) => (n : Int)
end
end K14
namespace K14
open PySem L2 Ab Sm
inductive Wd where
  | sum | least | greatest
def Wd.str : Wd → Str
  | .sum => "sum"
  | .least => "least"
  | .greatest => "greatest"
def opV : Wd → List Int → Int
  | .sum, ns => ns.sum
  | .least, ns => minL ns
  | .greatest, ns => maxL ns
def colF (w : Wd) (ss : List Stm) (i : Nat) : Int := opV w (ss.map fun s => item s i)
end K14
namespace K14
open PySem L2 Ab Sm
/-! ### schedules -/
structure Lim (s : Stm) : Prop where
  l1 : s.1.length ≤ 12
  l2 : s.2.length ≤ 6
  ne : s.2 ≠ []
  a1 : ∀ v ∈ s.1, okI v
  a2 : ∀ v ∈ s.2, okI v
structure Sc where
  a : Int
  sp : Stm
  lv : Stm
def schF (S : Sc) : List (Str × Val) := [("own_arity", .int S.a), ("own_spine", stV S.sp), ("own_levels", stV S.lv)]
def scV (C : Addr) (S : Sc) : Val := .obj C (schF S)
structure GoodS (S : Sc) : Prop where
  a2 : 2 ≤ S.a
  a9 : S.a ≤ 9
  ns : NF S.sp
  ls : Lim S.sp
  nl : NF S.lv
  ll : Lim S.lv
  lf : item S.lv 0 ≠ 0
theorem item_mem {s : Stm} (hn : s.2 ≠ []) (i : Nat) : item s i ∈ s.1 ∨ item s i ∈ s.2 := by
  have hl : 0 < s.2.length := List.length_pos_iff.mpr hn
  by_cases h : i < s.1.length
  · left
    rw [item_lt h, gd_eq h]
    exact List.getElem_mem h
  · right
    rw [item_ge (by omega)]
    unfold lp
    rw [gd_eq (Nat.mod_lt _ hl)]
    exact List.getElem_mem _
theorem Lim.item {s : Stm} (h : Lim s) (i : Nat) : okI (item s i) := by
  rcases item_mem h.ne i with z | z
  · exact h.a1 _ z
  · exact h.a2 _ z
theorem GoodS.ext {S T : Sc} (hS : GoodS S) (hT : GoodS T) (ha : S.a = T.a) (h1 : ∀ i, item S.sp i = item T.sp i) (h2 : ∀ i, item S.lv i = item T.lv i) : S = T := by
  cases S
  cases T
  have e1 := uniq hS.ns hT.ns h1
  have e2 := uniq hS.nl hT.nl h2
  subst ha e1 e2
  rfl
structure Rs (K : PySem.W.Frag) (mg : Str → Option Value) (C : Addr) : Prop where
  cl : Cls K C
  nA : NoAttr K C "own_arity"
  nS : NoAttr K C "own_spine"
  nL : NoAttr K C "own_levels"
  gC : mg "Schedule" = some (.ref C)
structure Lm (mg : Str → Option Value) (t1 t2 t3 t4 : Tok) : Prop where
  f : mg "FRONT_LIMIT" = some (.int 12 t1)
  l : mg "LOOP_LIMIT" = some (.int 6 t2)
  b : mg "LABEL_LIMIT" = some (.int 1000000 t3)
  a : mg "ARITY_LIMIT" = some (.int 9 t4)
theorem look_a {S : Sc} : (schF S).lookup ("own_arity" : Str) = some (.int S.a) := by rfl
theorem look_s {S : Sc} : (schF S).lookup ("own_spine" : Str) = some (stV S.sp) := by rfl
theorem look_l {S : Sc} : (schF S).lookup ("own_levels" : Str) = some (stV S.lv) := by rfl
section
variable {P : Program} {w : World} {K : PySem.W.Frag} {mg : Str → Option Value} {base : Heap} {k : Nat} {f C : Addr} {t1 t2 t3 t4 : Tok}
/-! ### checked_stream -/
/-! ### Schedule.is_stream, __init__ -/
def aIss : ASp := fun ds M R => ∃ s : Stm, ds = [stV s] ∧ Lim s ∧ R (.bl true) M
theorem b_is_stream (L : Lm mg t1 t2 t3 t4) (G : GItems P w K mg base) (m1 : mg "isinstance" = none) (m2 : mg "tuple" = none) (m3 : mg "len" = none) : BodyOk P w K mg base 2 f n_Schedule_is_stream "Schedule.is_stream" (defScope c_Schedule_is_stream) (defBody c_Schedule_is_stream) aIss := by
  rintro cdv A outer s0 H E hr ds M R ⟨s, rfl, hs, hp⟩
  have hpos : 0 < s.2.length := List.length_pos_iff.mpr hs.ne
  have q1 := hs.l1
  have q2 := hs.l2
  refine as_cons (as_if (at_w (aw_or (at_not (at_val (ae_isi m1 (v_ 0) (av_ty (T := "tuple") m2 (by decide +kernel)) (.ty "tuple") (.tup _) (kit_ty (by decide +kernel)) ⟨true, rfl, nft, fun _ => ?_⟩))))))
  refine aw_or1 (at_cmp (av_len m3 (v_ 0) .t) i_ cmp_neI ⟨nft, fun _ => as_nil ?_⟩)
  refine as_one (as_ret (ae_and (ae_g G hr (by decide) (aa_cons ((av_ixT (v_ 0) i_ rfl).val (aa_cons (i_.val (aa_cons ((av_gint L.f).val (aa_nil (ak_nil ⟨rfl, s.1, 0, 12, rfl, by omega, by omega, by decide, hs.a1, true, rfl, fun _ => ?_, ntf⟩)))))))))))
  exact ae_one (ae_g G hr (by decide) (aa_cons ((av_ixT (v_ 0) i_ rfl).val (aa_cons (i_.val (aa_cons ((av_gint L.l).val (aa_nil (ak_nil ⟨rfl, s.2, 1, 6, rfl, by omega, by omega, by decide, hs.a2, .ok hp⟩)))))))))
structure Cs (P : Program) (w : World) (K : PySem.W.Frag) (mg : Str → Option Value) (base : Heap) (C p g : Addr) : Prop where
  rd : ClX.CRead K C (.type "type")
  sm : SMet K C (.type "type") "is_stream" p g
  fx : FX P w K mg base 3 g fun ds _ => aIss ds
def aInitS (C : Addr) : ASp := fun ds M R => ∃ (p : Addr) (a : Int) (sp lv : Stm) (M0 : Mem), ds = [.ptr p, .int a, stV sp, stV lv] ∧ M = (p, .ins C []) :: M0 ∧ 2 ≤ a ∧ a ≤ 9 ∧ Lim sp ∧ Lim lv ∧ item lv 0 ≠ 0 ∧ R .non ((p, .ins C (schF ⟨a, nf sp, nf lv⟩)) :: M0)
theorem b_init {pS gS : Addr} (T : Rs K mg C) (L : Lm mg t1 t2 t3 t4) (G1 : GInt P w K mg base) (G2 : Cs P w K mg base C pS gS) (G3 : GItem P w K mg base) (G4 : GNf P w K mg base) :
    BodyOk P w K mg base 3 f n_Schedule___init__ "Schedule.__init__" (defScope c_Schedule___init__) (defBody c_Schedule___init__) (aInitS C) := by
  rintro cdv A outer s0 H E hr ds M R ⟨p, a, sp, lv, M0, rfl, rfl, ha2, ha9, hs, hl, h0, hp⟩
  have q1 := hs.l1
  have q2 := hs.l2
  have q3 := hl.l1
  have q4 := hl.l2
  refine as_cons (as_if (at_not (at_val (ae_g G1 hr (by decide) (aa_cons ((v_ 1).val (aa_nil (ak_cons (i_.val (ak_cons ((av_gint L.a).val (ak_nil ⟨rfl, rfl, a, some 2, some 9, rfl, true, ?_, nft, fun _ => as_nil ?_⟩))))))))))))
  · have e : within a (some 2) (some 9) = true := by simp [within]; omega
    rw [e]
  refine as_cons (as_if (at_not (at_val (ae_smeth G2.rd G2.sm G2.fx hr (ae_glob T.gC ⟨rfl, rfl⟩) (aa_cons ((v_ 2).val (aa_nil (ak_nil ⟨rfl, sp, rfl, hs, true, rfl, nft, fun _ => as_nil ?_⟩))))))))
  refine as_cons (as_if (at_not (at_val (ae_smeth G2.rd G2.sm G2.fx hr (ae_glob T.gC ⟨rfl, rfl⟩) (aa_cons ((v_ 3).val (aa_nil (ak_nil ⟨rfl, lv, rfl, hl, true, rfl, nft, fun _ => as_nil ?_⟩))))))))
  refine as_cons (as_if (at_cmpM (ae_g G3 hr (by decide) (aa_cons ((v_ 3).val (aa_cons (i_.val (aa_nil (ak_nil ⟨rfl, lv, 0, rfl, hl.ne, by decide, i_.val ⟨_, cmp_eqI, fun h => ?_, fun _ => as_nil ?_⟩⟩)))))))))
  · rw [decide_eq_true_eq] at h
    exact absurd h h0
  refine as_cons (as_fld T.cl T.nA ((v_ 1).val ((v_ 0).val ⟨0, p, _, rfl, rfl, Nat.le_of_ble_eq_true rfl, ?_⟩)))
  refine as_cons (as_fld T.cl T.nS (ae_g G4 hr (by decide) (aa_cons ((av_ixT (v_ 2) i_ rfl).val (aa_cons ((av_ixT (v_ 2) i_ rfl).val (aa_nil (ak_nil ⟨rfl, sp, rfl, hs.ne, by omega, by omega, (v_ 0).val ⟨0, p, _, rfl, rfl, Nat.le_of_ble_eq_true rfl, ?_⟩⟩))))))))
  refine as_one (as_fld T.cl T.nL (ae_g G4 hr (by decide) (aa_cons ((av_ixT (v_ 3) i_ rfl).val (aa_cons ((av_ixT (v_ 3) i_ rfl).val (aa_nil (ak_nil ⟨rfl, lv, rfl, hl.ne, by omega, by omega, (v_ 0).val ⟨0, p, _, rfl, rfl, Nat.le_of_ble_eq_true rfl, .ok ?_⟩⟩))))))))
  exact hp
structure Mks (P : Program) (w : World) (K : PySem.W.Frag) (mg : Str → Option Value) (base : Heap) (C : Addr) : Prop where
  ex : ∃ fi, Mk K C fi ∧ FnX P w K mg base 4 fi ["spine", "levels"] (spX K fun ds es M R => ds.length = 2 ∧ aInitS C (ds ++ es) M R)
/-- Schedule(a, spine=s, levels=l) -/
theorem ae_sch {X : Cx} {Γ : Gam} {M : Mem} {R : Val → Mem → Prop} {e e1 e2 : Expr} {p1 p2 p3 pos : Pos} {m : Nat} (T : Rs X.K X.mg C) (I : Mks X.prog X.w X.K X.mg X.base C) (hr : Rm m X.A) (hm : 5 ≤ m)
    (h : aE X e Γ M fun x M1 => aE X e1 Γ M1 fun y M2 => aE X e2 Γ M2 fun z M3 => ∃ a sp lv, x = .int a ∧ y = stV sp ∧ z = stV lv ∧ 2 ≤ a ∧ a ≤ 9 ∧ Lim sp ∧ Lim lv ∧ item lv 0 ≠ 0 ∧ R (scV C ⟨a, nf sp, nf lv⟩) M3)
    (hg : Gl X "Schedule" := by rfl) (he : starEach [e] X.env = (false, eval e X.env) :: starEach [] X.env := by rfl) : aE X (.Call (.Name "Schedule" p1) [e] [⟨some "spine", e1, p2⟩, ⟨some "levels", e2, p3⟩] pos) Γ M R := by
  obtain ⟨fi, mk, F⟩ := I.ex
  refine ae_frzO (ae_make mk F (hr.mono hm) T.gC (aa_cons (h.mono fun x M1 h1 => aa_nil (ak_cons (h1.mono fun y M2 h2 => ak_cons (h2.mono fun z M3 h3 => ak_nil ⟨rfl, fun p hn => ⟨rfl, ?_⟩⟩)))) he) hg rfl rfl (by decide) he (by rw [he]; rfl))
  obtain ⟨a, sp, lv, rfl, rfl, rfl, a2, a9, hs, hl, h0, hR⟩ := h3
  exact ⟨p, a, sp, lv, M3, rfl, rfl, a2, a9, hs, hl, h0, rfl, p, C, _, _, rfl, rfl, hR⟩
/-! ### made_schedule -/
end
end K14
namespace K14
open PySem L2 Ab Sm
/-- a made schedule is good -/
theorem good_nf {a : Int} {s l : Stm} (a2 : 2 ≤ a) (a9 : a ≤ 9) (h1 : s.2 ≠ []) (h2 : l.2 ≠ []) (ls : Lim (nf s)) (ll : Lim (nf l)) (h0 : item l 0 ≠ 0) : GoodS ⟨a, nf s, nf l⟩ :=
  ⟨a2, a9, (nf_spec h1).nf, ls, (nf_spec h2).nf, ll, by rw [(nf_spec h2).it]; exact h0⟩
theorem lim_nf {s : Stm} (hn : s.2 ≠ []) (h1 : s.1.length ≤ 12) (h2 : s.2.length ≤ 6) (h3 : ∀ v ∈ s.1, okI v) (h4 : ∀ v ∈ s.2, okI v) : Lim (nf s) :=
  have q := nf_spec hn
  ⟨Nat.le_trans q.l1 h1, Nat.le_trans q.l2 h2, q.nf.ne, fun v hv => h3 v (q.m1 v hv), fun v hv => h4 v (q.m2 v hv)⟩
section
variable {P : Program} {w : World} {K : PySem.W.Frag} {mg : Str → Option Value} {base : Heap} {k : Nat} {f C : Addr} {t1 t2 t3 t4 : Tok}
theorem av_a {X : Cx} {Γ : Gam} {M : Mem} {e : Expr} {S : Sc} {pos : Pos} (T : Rs X.K X.mg C) (h : aV X e Γ M (scV C S)) (hb : attributeBase e "own_arity" X.env (eval e X.env) = eval e X.env := by rfl) : aV X (.Attribute e "own_arity" pos) Γ M (.int S.a) := av_fld T.cl T.nA h (.im _) look_a hb
theorem av_s {X : Cx} {Γ : Gam} {M : Mem} {e : Expr} {S : Sc} {pos : Pos} (T : Rs X.K X.mg C) (h : aV X e Γ M (scV C S)) (hb : attributeBase e "own_spine" X.env (eval e X.env) = eval e X.env := by rfl) : aV X (.Attribute e "own_spine" pos) Γ M (stV S.sp) := av_fld T.cl T.nS h (.im _) look_s hb
theorem av_l {X : Cx} {Γ : Gam} {M : Mem} {e : Expr} {S : Sc} {pos : Pos} (T : Rs X.K X.mg C) (h : aV X e Γ M (scV C S)) (hb : attributeBase e "own_levels" X.env (eval e X.env) = eval e X.env := by rfl) : aV X (.Attribute e "own_levels" pos) Γ M (stV S.lv) := av_fld T.cl T.nL h (.im _) look_l hb
/-! ### spine_at, level_at, arity -/
def aSat (C : Addr) : ASp := fun ds M R => ∃ (S : Sc) (i : Int), ds = [scV C S, .int i] ∧ GoodS S ∧ 0 ≤ i ∧ R (.int (item S.sp i.toNat)) M
def aLat (C : Addr) : ASp := fun ds M R => ∃ (S : Sc) (i : Int), ds = [scV C S, .int i] ∧ GoodS S ∧ 0 ≤ i ∧ R (.int (item S.lv i.toNat)) M
theorem b_spine_at (T : Rs K mg C) (G1 : GChk P w K mg base) (G2 : GItem P w K mg base) : BodyOk P w K mg base 2 f n_Schedule_spine_at "Schedule.spine_at" (defScope c_Schedule_spine_at) (defBody c_Schedule_spine_at) (aSat C) := by
  rintro cdv A outer s0 H E hr ds M R ⟨S, i, rfl, hS, h0, hp⟩
  refine as_cons (as_expr (ae_g G1 hr (by decide) (aa_cons ((v_ 1).val (aa_cons (i_.val (aa_nil (ak_nil ⟨rfl, rfl, i, 0, rfl, h0, ?_⟩))))))))
  exact as_one (as_ret (ae_g G2 hr (by decide) (aa_cons ((av_s T (v_ 0)).val (aa_cons ((v_ 1).val (aa_nil (ak_nil ⟨rfl, S.sp, i, rfl, hS.ns.ne, h0, .ok hp⟩))))))))
theorem b_level_at (T : Rs K mg C) (G1 : GChk P w K mg base) (G2 : GItem P w K mg base) : BodyOk P w K mg base 2 f n_Schedule_level_at "Schedule.level_at" (defScope c_Schedule_level_at) (defBody c_Schedule_level_at) (aLat C) := by
  rintro cdv A outer s0 H E hr ds M R ⟨S, i, rfl, hS, h0, hp⟩
  refine as_cons (as_expr (ae_g G1 hr (by decide) (aa_cons ((v_ 1).val (aa_cons (i_.val (aa_nil (ak_nil ⟨rfl, rfl, i, 0, rfl, h0, ?_⟩))))))))
  exact as_one (as_ret (ae_g G2 hr (by decide) (aa_cons ((av_l T (v_ 0)).val (aa_cons ((v_ 1).val (aa_nil (ak_nil ⟨rfl, S.lv, i, rfl, hS.nl.ne, h0, .ok hp⟩))))))))
def aAri (C : Addr) : ASp := fun ds M R => ∃ (S : Sc), ds = [scV C S] ∧ R (.int S.a) M
theorem b_arity (T : Rs K mg C) : BodyOk P w K mg base k f n_Schedule_arity "Schedule.arity" (defScope c_Schedule_arity) (defBody c_Schedule_arity) (aAri C) := by
  rintro cdv A outer s0 H E hr ds M R ⟨S, rfl, hp⟩
  exact as_one (as_ret ((av_a T (v_ 0)).val (.ok hp)))
/-! ### delayed, times -/
end
end K14
namespace K14
open PySem L2 Ab Sm
/-! ### == of schedules -/
theorem toD_st (s : Stm) : toD (stV s) = some (.tuple [.tuple (s.1.map PyData.int), .tuple (s.2.map PyData.int)]) := by
  refine toD_tup ?_
  unfold toDs
  rw [show toD (iT s.1) = some (.tuple (s.1.map PyData.int)) from toD_tup (toDs_ints s.1)]
  show ((toDs [iT s.2]).map fun ds => PyData.tuple (s.1.map PyData.int) :: ds) = _
  unfold toDs
  rw [show toD (iT s.2) = some (.tuple (s.2.map PyData.int)) from toD_tup (toDs_ints s.2)]
  rfl
theorem shaped_st (s : Stm) : SeqAt.shaped (.tuple [.tuple (s.1.map PyData.int), .tuple (s.2.map PyData.int)]) = true := by
  simp [SeqAt.shaped, PyData.canLay0, PyData.canLayAll0, PyData.depth, PyData.depthAll, lay_ints, dep_ints]
theorem eqv_st (s t : Stm) : PyData.eqv (.tuple [.tuple (s.1.map PyData.int), .tuple (s.2.map PyData.int)]) (.tuple [.tuple (t.1.map PyData.int), .tuple (t.2.map PyData.int)]) = decide (s = t) := by
  simp only [PyData.eqv, PyData.eqvAll, eqv_ints, Bool.and_true]
  obtain ⟨a, b⟩ := s
  obtain ⟨c, d⟩ := t
  simp [Prod.mk.injEq]
theorem cmp_eqST {X : Cx} {M : Mem} {s t : Stm} (hu : X.A.units + 64 < cLine) : Cmp X .Eq M (stV s) (stV t) (decide (s = t)) := by
  have h := cmp_eqD (X := X) (M := M) (.self (stV s)) (.self (stV t)) (toD_st s) (toD_st t) (shaped_st s) (shaped_st t) hu
  rw [eqv_st] at h
  exact h
noncomputable def relS (fs gs : List (Str × Val)) : Bool := @decide (fs = gs) (Classical.propDecidable _)
def goodF (fs : List (Str × Val)) : Prop := ∃ S : Sc, fs = schF S ∧ GoodS S
theorem iT_inj {xs ys : List Int} (h : iT xs = iT ys) : xs = ys := by
  unfold iT at h
  have h2 : xs.map Val.int = ys.map Val.int := by injection h
  exact List.map_inj_right (fun a b e => by injection e) |>.mp h2
theorem stV_inj {s t : Stm} (h : stV s = stV t) : s = t := by
  unfold stV at h
  have h2 : [iT s.1, iT s.2] = [iT t.1, iT t.2] := by injection h
  have h3 := (List.cons.inj h2).1
  have h4 := (List.cons.inj (List.cons.inj h2).2).1
  exact Prod.ext (iT_inj h3) (iT_inj h4)
theorem schF_inj {S T : Sc} (h : schF S = schF T) : S = T := by
  unfold schF at h
  have h1 := (List.cons.inj h).1
  have h2 := (List.cons.inj (List.cons.inj h).2).1
  have h3 := (List.cons.inj (List.cons.inj (List.cons.inj h).2).2).1
  have e1 : Val.int S.a = Val.int T.a := (Prod.mk.inj h1).2
  have e2 := stV_inj (Prod.mk.inj h2).2
  have e3 := stV_inj (Prod.mk.inj h3).2
  cases S
  cases T
  cases e1
  simp only at e2 e3
  subst e2 e3
  rfl
theorem rel_eq {S T : Sc} (h : S = T) : relS (schF S) (schF T) = true := by
  unfold relS
  exact @decide_eq_true _ (Classical.propDecidable _) (by rw [h])
theorem rel_ne {S T : Sc} (h : S ≠ T) : relS (schF S) (schF T) = false := by
  unfold relS
  exact @decide_eq_false _ (Classical.propDecidable _) fun z => h (schF_inj z)
/-- what isinstance asks of the class -/
structure Isi (K : PySem.W.Frag) (C : Addr) : Prop where
  c1 : PySem.W.findIn K (.ref C) "__class__" = some (some (.builtin "object.__class__"))
  c2 : PySem.W.specialIn K (.builtin "object.__class__") "__get__" = some (some (.builtin "getset_descriptor.__get__"))
  c3 : PySem.W.takesIn K (.builtin "object.__class__") = some true
  c4 : PySem.W.mroIn K C (.type "object") = some true
  c5 : PySem.W.kitOne K (.ref C) (.ref C) = some true
section
variable {P : Program} {w : World} {K : PySem.W.Frag} {mg : Str → Option Value} {base : Heap} {k : Nat} {f C : Addr} {t1 t2 t3 t4 : Tok}
theorem ty_sc {M : Mem} {S : Sc} (T : Rs K mg C) (I : Isi K C) : TyV K M (scV C S) (.ref C) := .ob (.im _) T.cl I.c1 I.c2 I.c3 I.c4
def aEqS (C : Addr) : ASp := fun ds M R => ∃ fs gs, ds = [.obj C fs, .obj C gs] ∧ goodF fs ∧ goodF gs ∧ R (.bl (relS fs gs)) M
theorem b_eq (T : Rs K mg C) (I : Isi K C) (m1 : mg "isinstance" = none) : BodyOk P w K mg base k f n_Schedule___eq__ "Schedule.__eq__" (defScope c_Schedule___eq__) (defBody c_Schedule___eq__) (aEqS C) := by
  rintro cdv A outer s0 H E hr ds M R ⟨fs, gs, rfl, ⟨S, rfl, hS⟩, ⟨S', rfl, hS'⟩, hp⟩
  have hu := hr.u64
  refine as_cons (as_if (at_w (aw_or (at_not (at_val (ae_isi m1 (d1 := scV C S') (v_ 1) (ae_glob T.gC ⟨rfl, rfl⟩) (.own C) (ty_sc T I) I.c5 ⟨true, rfl, nft, fun _ => ?_⟩))))))
  have v0 : ∀ {X : Cx} {Γ : Gam} {M : Mem} {e : Expr}, aV X e Γ M (.obj C (schF S)) → aV X e Γ M (scV C S) := fun h => h
  have v1 : ∀ {X : Cx} {Γ : Gam} {M : Mem} {e : Expr}, aV X e Γ M (.obj C (schF S')) → aV X e Γ M (scV C S') := fun h => h
  by_cases ha : S.a = S'.a
  · refine aw_or1 (at_cmp (av_a T (v0 (v_ 0))) (av_a T (v1 (v_ 1))) cmp_neI ⟨fun h => ?_, fun _ => as_nil ?_⟩)
    · rw [decide_eq_true ha] at h
      exact absurd h (by decide)
    refine as_one (as_ret (ae_and (ae_cmp (av_s T (v0 (v_ 0))) (av_s T (v1 (v_ 1))) (cmp_eqST hu) ⟨_, rfl, fun h => ?_, fun h => .ok ?_⟩)))
    · rw [decide_eq_true_eq] at h
      refine ae_one (ae_cmp (av_l T (v0 (v_ 0))) (av_l T (v1 (v_ 1))) (cmp_eqST hu) (.ok ?_))
      by_cases hl : S.lv = S'.lv
      · rw [decide_eq_true hl]
        have e : S = S' := by
          cases S
          cases S'
          simp only at ha h hl
          subst ha h hl
          rfl
        rw [rel_eq e] at hp
        exact hp
      · rw [decide_eq_false hl]
        rw [rel_ne (S := S) (T := S') fun z => hl (by rw [z])] at hp
        exact hp
    · rw [decide_eq_false_iff_not] at h
      rw [rel_ne (S := S) (T := S') fun z => h (by rw [z])] at hp
      exact hp
  · refine aw_or1 (at_cmp (av_a T (v0 (v_ 0))) (av_a T (v1 (v_ 1))) cmp_neI ⟨fun _ => ?_, fun h => ?_⟩)
    · refine as_one (as_ret (ae_bl (.ok ?_)))
      rw [rel_ne (S := S) (T := S') fun z => ha (by rw [z])] at hp
      exact hp
    · rw [decide_eq_false ha] at h
      exact absurd h (by decide)
/-! ### combined_schedules -/
end
/-- six items on, from the twelfth -/
def P6 (s : Stm) : Prop := ∀ i, 12 ≤ i → item s (i + 6) = item s i
end K14
namespace Ab
open PySem PySem.Spec PyProof.Rows L2
end Ab
namespace Ab
open PySem PySem.Spec PyProof.Rows L2
/-! ### tests by a plain Prop -/
section
variable {X : Cx} {Γ : Gam} {M : Mem} {P : Val → Mem → Prop} {e a b c o : Expr} {es : List Expr} {pos p1 p2 apos kpos : Pos} {k : AK} {d d1 d2 d3 : Val} {i j l : Int} {x y m : Str} {n : Nat} {f C : Addr} {p q : Prop}
def TP (X : Cx) (c : Expr) (Γ : Gam) (M : Mem) (p : Prop) : Prop := ∃ b : Bool, aB X c Γ M b ∧ (b = true ↔ p)
def CP (X : Cx) (op : CmpOp) (M : Mem) (x y : Val) (p : Prop) : Prop := ∃ b : Bool, Cmp X op M x y b ∧ (b = true ↔ p)
theorem cp_lt : CP X .Lt M (.int i) (.int j) (i < j) := ⟨_, cmp_lt, decide_eq_true_iff⟩
theorem cp_le : CP X .LtE M (.int i) (.int j) (i ≤ j) := ⟨_, cmp_le, decide_eq_true_iff⟩
theorem cp_gt : CP X .Gt M (.int i) (.int j) (j < i) := ⟨_, cmp_gt, decide_eq_true_iff⟩
theorem cp_ge : CP X .GtE M (.int i) (.int j) (j ≤ i) := ⟨_, cmp_ge, decide_eq_true_iff⟩
theorem cp_eq : CP X .Eq M (.int i) (.int j) (i = j) := ⟨_, cmp_eqI, decide_eq_true_iff⟩
theorem cp_isN : CP X .Is M d .non (d.isN = true) := ⟨_, cmp_isN, Iff.rfl⟩
theorem cp_of {op : CmpOp} {x y : Val} {b : Bool} (h : Cmp X op M x y b) : CP X op M x y (b = true) := ⟨b, h, Iff.rfl⟩
theorem cp_neL {ns ms : List Int} (v1 : Vw M d1 (.lst (ns.map .int))) (v2 : Vw M d2 (.lst (ms.map .int))) (hu : X.A.units + 64 < cLine) : CP X .NotEq M d1 d2 (ns ≠ ms) := ⟨_, cmp_neLI v1 v2 hu, by simp⟩
theorem tp_cmp {op : CmpOp} (ha : aV X a Γ M d1) (hb : aV X b Γ M d2) (hc : CP X op M d1 d2 p) (hm : behindInMarks op b = false := by first | exact nomark _ | rfl) : TP X (.Compare a [op] [b] pos) Γ M p := by
  obtain ⟨k, h, i⟩ := hc
  exact ⟨k, at_cmp ha hb h ⟨rfl, rfl⟩ hm, i⟩
theorem tp_val {k : Bool} (h : aV X e Γ M (.bl k)) (he : ∀ whole, isTrue e X.env whole = (do let v ← whole; standAt e.pos; holding [v] (truthy v)) := by intro _; rfl) : TP X e Γ M (k = true) := ⟨k, at_val (h.val ⟨_, rfl, rfl, rfl⟩) he, Iff.rfl⟩
theorem as_ifp {s1 s2 : List Stmt} (h : TP X c Γ M p) (h1 : p → aSs X s1 Γ M k) (h2 : ¬ p → aSs X s2 Γ M k) : aS X (.If c s1 s2 pos) Γ M k := by
  obtain ⟨b, h, i⟩ := h
  exact as_if (h.val ⟨fun z => h1 (i.mp z), fun z => h2 fun y => by rw [i.mpr y] at z; cases z⟩)
theorem ae_ifp (h : TP X c Γ M p) (h1 : p → aE X a Γ M P) (h2 : ¬ p → aE X b Γ M P) : aE X (.IfExp c a b pos) Γ M P := by
  obtain ⟨b, h, i⟩ := h
  exact ae_if (h.val ⟨fun z => h1 (i.mp z), fun z => h2 fun y => by rw [i.mpr y] at z; cases z⟩)
theorem av_ifI [Decidable p] (h : TP X c Γ M p) (h1 : p → aV X a Γ M (.int i)) (h2 : ¬ p → aV X b Γ M (.int j)) : aV X (.IfExp c a b pos) Γ M (.int (if p then i else j)) := by
  refine ae_ifp h (fun z => ?_) fun z => ?_
  · rw [if_pos z]
    exact h1 z
  · rw [if_neg z]
    exact h2 z
/-! ### slots forgotten -/
def Le : Gam → Gam → Prop
  | [], [] => True
  | none :: a, _ :: b => Le a b
  | some d :: a, e :: b => e = some d ∧ Le a b
  | _, _ => False
theorem Le.spec : ∀ {A B : Gam}, Le A B → A.length = B.length ∧ ∀ (i : Nat) (d : Val), A[i]? = some (some d) → B[i]? = some (some d)
  | [], [], _ => ⟨rfl, fun i d h => by simp at h⟩
  | none :: a, x :: b, h => by
    obtain ⟨h1, h2⟩ := Le.spec (A := a) (B := b) h
    refine ⟨by simp [h1], fun i d q => ?_⟩
    cases i with
    | zero => simp at q
    | succ i => exact h2 i d (by simpa using q)
  | some d :: a, e :: b, h => by
    obtain ⟨rfl, h⟩ := h
    obtain ⟨h1, h2⟩ := Le.spec (A := a) (B := b) h
    refine ⟨by simp [h1], fun i d' q => ?_⟩
    cases i with
    | zero => simpa using q
    | succ i => exact h2 i d' (by simpa using q)
  | [], _ :: _, h => h.elim
  | none :: _, [], h => h.elim
  | some _ :: _, [], h => h.elim
theorem Le.env {K : PySem.W.Frag} {H : Hp} {Γ Γ' : Gam} {σ : L2.St} (h : Le Γ' Γ) (en : EnvR K H Γ σ) : EnvR K H Γ' σ := en.drop h.spec.1 h.spec.2
theorem Le.refl : ∀ {Γ : Gam}, Le Γ Γ
  | [] => trivial
  | none :: a => Le.refl (Γ := a)
  | some d :: a => ⟨rfl, Le.refl (Γ := a)⟩
theorem as_le {Γ' : Gam} {s : List Stmt} (l : Le Γ' Γ) (h : aSs X s Γ' M k) : aSs X s Γ M k := fun Hi H σ ok en D q => h Hi H σ ok (l.env en) D q
/-- cells forgotten -/
theorem as_sub {M' : Mem} {s : List Stmt} (l : M'.Sublist M) (h : aSs X s Γ M' k) : aSs X s Γ M k := fun Hi H σ ok en D q => h Hi H σ (ok.sub l) en D q
theorem as_wk {Γ' : Gam} {M' : Mem} {s : List Stmt} (l : Le Γ' Γ) (l2 : M'.Sublist M) (h : aSs X s Γ' M' k) : aSs X s Γ M k := as_le l (as_sub l2 h)
theorem Le.trans : ∀ {A B C : Gam}, Le A B → Le B C → Le A C
  | [], [], C, _, h => h
  | none :: a, x :: b, [], _, h => by cases x <;> exact h.elim
  | none :: a, none :: b, y :: c, h1, h2 => Le.trans (A := a) (B := b) (C := c) h1 h2
  | none :: a, some x :: b, y :: c, h1, h2 => Le.trans (A := a) (B := b) (C := c) h1 h2.2
  | some d :: a, e :: b, [], h1, h2 => by cases e <;> exact h2.elim
  | some d :: a, e :: b, y :: c, h1, h2 => by
    obtain ⟨rfl, h1⟩ := h1
    exact ⟨h2.1, Le.trans (A := a) (B := b) (C := c) h1 h2.2⟩
  | [], _ :: _, _, h, _ => h.elim
  | none :: _, [], _, h, _ => h.elim
  | some _ :: _, [], _, h, _ => h.elim
/-- a loop whose invariant forgets slots and cells -/
abbrev Wk (I : Gam → Mem → Prop) : Gam → Mem → Prop := fun Γ M => ∃ Γ' M', I Γ' M' ∧ Le Γ' Γ ∧ M'.Sublist M
theorem Wk.mono {I : Gam → Mem → Prop} {Γ Γ' : Gam} {M M' : Mem} (l : Le Γ' Γ) (l2 : M'.Sublist M) (h : Wk I Γ' M') : Wk I Γ M := by
  obtain ⟨Γ0, M0, h, a, b⟩ := h
  exact ⟨Γ0, M0, h, a.trans l, b.trans l2⟩
theorem le_nil : Le [] [] := trivial
theorem le_skip {a b : Gam} {x : Option Val} (h : Le a b) : Le (none :: a) (x :: b) := h
theorem le_keep {a b : Gam} {d d' : Val} (e : d' = d) (h : Le a b) : Le (some d :: a) (some d' :: b) := ⟨congrArg some e, h⟩
theorem as_forW {tg iter : Expr} {body : List Stmt} (hp : PassesOwn (model X.prog X.w) X.A X.env X.xe) (hc : X.calm = true)
    (hi : aJ X tg iter Γ M fun n it M1 => ∃ I : Nat → Gam → Mem → Prop, Wk (I 0) Γ M1 ∧ (∀ i Γ M, i < n → I i Γ M → aG X tg (it i) Γ M fun Γ2 M2 => aSs X body Γ2 M2 { k with nx := Wk (I (i + 1)), ct := Wk (I (i + 1)), bk := k.nx }) ∧ ∀ Γ M, I n Γ M → k.nx Γ M)
    (hk : ∀ Γ Γ' M M', Le Γ' Γ → M'.Sublist M → k.nx Γ' M' → k.nx Γ M := by intro _ _ _ _ l l2 h; first | exact as_wk l l2 h | exact Wk.mono l l2 h)
    (hf : ∀ x, foldedSetIterable iter X.env x = pure x := by intro _; rfl) : aS X (.For tg iter body [] pos) Γ M k :=
  as_forJ hp hc (fun Hi H σ ok en R' q => hi Hi H σ ok en R' fun J n it M1 Hi1 H1 ⟨I, h0, hs, hd⟩ => q J n it M1 Hi1 H1 ⟨fun i => Wk (I i), h0, fun i Γ' M' hi' ⟨Γ0, M0, h, l, l2⟩ => fun Hi H σ v ok en r Q q => hs i Γ0 M0 hi' h Hi H σ v (ok.sub l2) (l.env en) r Q q, fun Γ' M' ⟨Γ0, M0, h, l, l2⟩ => hk _ _ _ _ l l2 (hd Γ0 M0 h)⟩) hf
theorem as_whileW {body : List Stmt} (I : Nat → Gam → Mem → Prop) (n : Nat) (hp : PassesOwn (model X.prog X.w) X.A X.env X.xe) (h0 : Wk (I n) Γ M)
    (hs : ∀ n Γ M, I n Γ M → ∃ p, TP X c Γ M p ∧ (p → aSs X body Γ M { k with nx := Wk fun Γ' M' => ∃ m, m < n ∧ I m Γ' M', ct := Wk fun Γ' M' => ∃ m, m < n ∧ I m Γ' M', bk := k.nx }) ∧ (¬ p → k.nx Γ M))
    (hk : ∀ Γ Γ' M M', Le Γ' Γ → M'.Sublist M → k.nx Γ' M' → k.nx Γ M := by intro _ _ _ _ l l2 h; first | exact as_wk l l2 h | exact Wk.mono l l2 h) : aS X (.While c body [] pos) Γ M k :=
  as_while (fun n => Wk (I n)) n hp h0 fun n Γ' M' ⟨Γ0, M0, h, l, l2⟩ => by
    obtain ⟨p, ⟨b, hb, i⟩, h1, h2⟩ := hs n Γ0 M0 h
    intro Hi H σ ok en Q q
    refine hb Hi H σ (ok.sub l2) (l.env en) Q fun b' M1 Hi' H' hh => ?_
    obtain ⟨rfl, rfl⟩ := hh
    refine q _ _ Hi' H' ⟨fun z => ?_, fun z => hk _ _ _ _ l (List.Sublist.refl _) (h2 fun y => by rw [i.mpr y] at z; cases z)⟩
    refine as_le l ((h1 (i.mp z)).mono ?_ (fun _ _ h => h) (fun _ _ h => h) ?_)
    · rintro Γ5 M5 ⟨Γ6, M6, ⟨m, hm, h6⟩, l6, l7⟩
      exact ⟨m, hm, Γ6, M6, h6, l6, l7⟩
    · rintro Γ5 M5 ⟨Γ6, M6, ⟨m, hm, h6⟩, l6, l7⟩
      exact ⟨m, hm, Γ6, M6, h6, l6, l7⟩
/-! ### lengths, items -/
inductive LenIs (M : Mem) : Val → Nat → Prop
  | iT (xs : List Int) : LenIs M (iT xs) xs.length
  | iL (xs : List Int) : LenIs M (iL xs) xs.length
  | mT {α : Type} (xs : List α) (g : α → Val) : LenIs M (.tup (xs.map g)) xs.length
  | mL {α : Type} (xs : List α) (g : α → Val) : LenIs M (.lst (xs.map g)) xs.length
  | t (xs : List Val) : LenIs M (.tup xs) xs.length
  | l (xs : List Val) : LenIs M (.lst xs) xs.length
  | cm (n : Nat) {α : Type} {p : Addr} {xs : List α} {g : α → Val} : M[n]? = some (p, .lst (xs.map g)) → LenIs M (.ptr p) xs.length
  | c (n : Nat) {p : Addr} {xs : List Val} : M[n]? = some (p, .lst xs) → LenIs M (.ptr p) xs.length
theorem av_lenN {n : Nat} (hm : X.mg "len" = none) (ha : aV X a Γ M d) (hs : LenIs M d n) (hg : Gl X "len" := by rfl) (hst : starEach [a] X.env = [(false, eval a X.env)] := by rfl) : aV X (.Call (.Name "len" p1) [a] [] pos) Γ M (.int n) := by
  cases hs with
  | iT xs => have h := av_len hm ha .t hg hst (pos := pos) (p1 := p1); rw [List.length_map] at h; exact h
  | iL xs => have h := av_len hm ha (.l (.self _)) hg hst (pos := pos) (p1 := p1); rw [List.length_map] at h; exact h
  | mT xs g => have h := av_len hm ha .t hg hst (pos := pos) (p1 := p1); rw [List.length_map] at h; exact h
  | mL xs g => have h := av_len hm ha (.l (.self _)) hg hst (pos := pos) (p1 := p1); rw [List.length_map] at h; exact h
  | t xs => exact av_len hm ha .t hg hst
  | l xs => exact av_len hm ha (.l (.self _)) hg hst
  | cm n h0 => have h := av_len hm ha (.l (.lst n h0)) hg hst (pos := pos) (p1 := p1); rw [List.length_map] at h; exact h
  | c n h0 => exact av_len hm ha (.l (.lst n h0)) hg hst
/-- d[i] -/
inductive IxIs (M : Mem) : Val → Int → Val → Prop
  | iT {xs : List Int} {i : Int} : 0 ≤ i → i < xs.length → IxIs M (iT xs) i (.int (at0 xs i))
  | iL {xs : List Int} {i : Int} : 0 ≤ i → i < xs.length → IxIs M (iL xs) i (.int (at0 xs i))
  | ci (n : Nat) {p : Addr} {xs : List Int} {i : Int} : M[n]? = some (p, .lst (xs.map .int)) → 0 ≤ i → i < xs.length → IxIs M (.ptr p) i (.int (at0 xs i))
  | t {xs : List Val} {i : Int} {d : Val} : atI xs i = some d → IxIs M (.tup xs) i d
  | l {xs : List Val} {i : Int} {d : Val} : atI xs i = some d → IxIs M (.lst xs) i d
  | c (n : Nat) {p : Addr} {xs : List Val} {i : Int} {d : Val} : M[n]? = some (p, .lst xs) → atI xs i = some d → IxIs M (.ptr p) i d
theorem av_ix {i : Int} (ha : aV X a Γ M d1) (hb : aV X b Γ M (.int i)) (h : IxIs M d1 i d) (hs : PlainIx b := by exact fun _ _ => rfl) : aV X (.Subscript a b pos) Γ M d := by
  cases h with
  | iT h0 h1 => exact av_ixT ha hb (atI_int h0 h1) hs
  | iL h0 h1 => exact av_ixL ha hb (.self _) (atI_int h0 h1) hs
  | ci n hm h0 h1 => exact av_ixL ha hb (.lst n hm) (atI_int h0 h1) hs
  | t h => exact av_ixT ha hb h hs
  | l h => exact av_ixL ha hb (.self _) h hs
  | c n hm h => exact av_ixL ha hb (.lst n hm) h hs
theorem av_max2 (hm : X.mg "max" = none) (hc : X.calm = true) (ha : aV X a Γ M (.int i)) (hb : aV X b Γ M (.int j)) (hg : Gl X "max" := by rfl)
    (hs : starEach [a, b] X.env = (false, eval a X.env) :: starEach [b] X.env := by rfl) (hs2 : starEach [b] X.env = (false, eval b X.env) :: starEach [] X.env := by rfl) (hpl : (backTo pos (starEach [b] X.env)).any (·.1) = false := by rfl) : aV X (.Call (.Name "max" p1) [a, b] [] pos) Γ M (.int (max i j)) := by
  refine ae_max2 hm hc ha hb ⟨?_, rfl⟩ hg hs hs2 hpl
  congr 1
  split <;> omega
theorem av_bl {bb : Bool} {j} : aV X (.Constant (.bool bb) j pos) Γ M (.bl bb) := ae_bl ⟨rfl, rfl⟩
theorem as_setv {ps : Pos} (n : Nat) (hN : X.N.Nodup) (he : aV X e Γ M d) (h : k.nx (Γ.set n (some d)) M) (hi : X.N[n]? = some x := by rfl) (hx : Loc X.env.scope x := by first | exact Or.inl rfl | exact Or.inr rfl)
    (hs : swapsWith e (some (.Name x ps)) pos.line X.env = pure false := by rfl) (hf : X.fn x = true ∨ X.env.scope.names.lookup x = some .local := by first | exact .inl rfl | exact .inr rfl | assumption) : aS X (.Assign [.Name x ps] e pos) Γ M k := as_set n hN (he.val h) hi hx hs hf
theorem as_retv (he : aV X e Γ M d) (h : k.rt d M) : aS X (.Return (some e) pos) Γ M k := as_ret (he.val h)
end
end Ab
namespace Ab
open PySem PySem.Spec PyProof.Rows L2
/-- what is still the built-in -/
structure Bt (mg : Str → Option Value) : Prop where
  isinstance : mg "isinstance" = none
  int : mg "int" = none
  bool : mg "bool" = none
  tuple : mg "tuple" = none
  len : mg "len" = none
  enumerate : mg "enumerate" = none
  range : mg "range" = none
  all : mg "all" = none
  list : mg "list" = none
  min : mg "min" = none
  max : mg "max" = none
  sum : mg "sum" = none
section
variable {X : Cx} {Γ : Gam} {M : Mem} {P : Val → Mem → Prop} {e a b c o : Expr} {es : List Expr} {pos p1 p2 apos kpos : Pos} {k : AK} {d d1 d2 d3 : Val} {i j l : Int} {x y m : Str} {n : Nat} {f C : Addr} {p q : Prop}
def CDivU (i j : Int) : Prop := CDiv i j ∨ CDivW i j
def CMulU (i j : Int) : Prop := CMul i j ∨ CMulX i j
theorem bv_mulU (hc : CMulU i j) (h : P (.int (i * j)) M) : BinV X .Mult M (.int i) (.int j) P := by
  rcases hc with hc | hc
  · exact ⟨_, op_mul, rv_I (f := fun i j => .int (i * j)) hc (fun _ _ => .int _) h⟩
  · exact ⟨_, op_mulX, rv_I (f := fun i j => .int (i * j)) hc (fun _ _ => .int _) h⟩
theorem bv_fdivU (hc : CDivU i j) (h : P (.int (i / j)) M) : BinV X .FloorDiv M (.int i) (.int j) P := by
  rcases hc with hc | hc
  · exact ⟨_, op_fdiv, rv_I (f := fun i j => .int (i / j)) hc (fun _ _ => .int _) h⟩
  · exact ⟨_, op_fdivW, rv_I (f := fun i j => .int (i / j)) hc (fun _ _ => .int _) h⟩
theorem av_mulU (ha : aV X a Γ M (.int i)) (hb : aV X b Γ M (.int j)) (hc : CMulU i j) : aV X (.BinOp a .Mult b pos) Γ M (.int (i * j)) := ae_bin (ha.val (hb.val (bv_mulU hc ⟨rfl, rfl⟩)))
theorem av_fdivU (ha : aV X a Γ M (.int i)) (hb : aV X b Γ M (.int j)) (hc : CDivU i j) : aV X (.BinOp a .FloorDiv b pos) Γ M (.int (i / j)) := ae_bin (ha.val (hb.val (bv_fdivU hc ⟨rfl, rfl⟩)))
theorem cdw {i j : Int} (h : 0 < j) (hb : j.natAbs < 2 ^ 8000) : CDivU i j := .inr (wide_div h hb (by decide) (by decide))
theorem cp_neL0 {ns : List Int} (v1 : Vw M d1 (.lst (ns.map .int))) (hu : X.A.units + 64 < cLine) : CP X .NotEq M d1 (.lst []) (ns ≠ []) := cp_neL (ms := []) v1 (.self _) hu
end
end Ab
namespace K14
open PySem L2 Ab Sm
/-! ### the law's draws -/
def stC (x t y : Int) : Cell := .lst [.int x, .int t, .int y]
/-- the state's cell stands at place i; its count is at most N -/
def St (M : Mem) (i : Nat) (a : Addr) (N : Nat) : Prop := ∃ x t y, M[i]? = some (a, stC x t y) ∧ 0 ≤ t ∧ t ≤ (N : Int)
/-- nothing but the state has changed, by c draws at most -/
def Dw (i : Nat) (a : Addr) (c : Nat) (M M' : Mem) : Prop := ∃ x t y x' t' y', M[i]? = some (a, stC x t y) ∧ M' = M.set i (a, stC x' t' y') ∧ (0 ≤ t → 0 ≤ t') ∧ t' ≤ t + (c : Int)
theorem stC_inj {x t y x' t' y' : Int} (h : stC x t y = stC x' t' y') : x = x' ∧ t = t' ∧ y = y' := by
  unfold stC at h
  injection h with h
  injection h with h
  injection h with h1 h
  injection h with h2 h
  injection h with h3 _
  injection h1 with h1
  injection h2 with h2
  injection h3 with h3
  exact ⟨h1, h2, h3⟩
theorem Dw.trans {M M' M'' : Mem} {i : Nat} {a : Addr} {c e : Nat} (d : Dw i a c M M') (d' : Dw i a e M' M'') : Dw i a (c + e) M M'' := by
  obtain ⟨x1, t1, y1, x2, t2, y2, hm1, rfl, g0, g1⟩ := d
  obtain ⟨x3, t3, y3, x4, t4, y4, hm3, rfl, g2, g3⟩ := d'
  rw [List.getElem?_set_self (List.getElem?_eq_some_iff.mp hm1).1] at hm3
  obtain ⟨_, rfl, _⟩ := stC_inj (Prod.mk.inj (Option.some.inj hm3)).2
  exact ⟨x1, t1, y1, x4, t4, y4, hm1, by rw [List.set_set], fun h => g2 (g0 h), by omega⟩
theorem Dw.mono {M M' : Mem} {i : Nat} {a : Addr} {c e : Nat} (d : Dw i a c M M') (h : c ≤ e) : Dw i a e M M' := by
  obtain ⟨x1, t1, y1, x2, t2, y2, hm1, e1, g0, g1⟩ := d
  exact ⟨x1, t1, y1, x2, t2, y2, hm1, e1, g0, by omega⟩
theorem St.refl {M : Mem} {i : Nat} {a : Addr} {N : Nat} (h : St M i a N) : Dw i a 0 M M := by
  obtain ⟨x, t, y, h, h0, h1⟩ := h
  refine ⟨x, t, y, x, t, y, h, ?_, fun h => h, by omega⟩
  apply List.ext_getElem?
  intro j
  by_cases hij : i = j
  · subst hij
    rw [List.getElem?_set_self (List.getElem?_eq_some_iff.mp h).1, h]
  · rw [List.getElem?_set_ne hij]
theorem St.cons {M : Mem} {i : Nat} {a : Addr} {N : Nat} {c : Addr × Cell} (h : St M i a N) : St (c :: M) (i + 1) a N := h
theorem Dw.cons {M M' : Mem} {i : Nat} {a : Addr} {e : Nat} {c : Addr × Cell} (h : Dw (i + 1) a e (c :: M) M') : ∃ M'', M' = c :: M'' ∧ Dw i a e M M'' := by
  obtain ⟨x1, t1, y1, x2, t2, y2, hm1, rfl, g⟩ := h
  exact ⟨_, rfl, x1, t1, y1, x2, t2, y2, hm1, rfl, g⟩
end K14
namespace K14
open PySem L2 Ab Sm
def sm (v : Int) : Prop := 0 ≤ v ∧ v < 100000
section
variable {P : Program} {w : World} {K : PySem.W.Frag} {mg : Str → Option Value} {base : Heap} {k : Nat} {f C : Addr}
/-! ### _law_sequence -/
structure Seq (lo : Int) (s : Stm) : Prop where
  l1 : s.1.length ≤ 5
  l2 : s.2.length ∣ 6
  ne : s.2 ≠ []
  a1 : ∀ v ∈ s.1, sm v
  a2 : ∀ v ∈ s.2, sm v
  lo : lo ≤ item s 0
theorem map_set0 {xs : List Int} {v : Int} : (xs.map Val.int).set 0 (.int v) = (xs.set 0 v).map Val.int := by rw [List.map_set]
theorem set0_mem {xs : List Int} {v u : Int} (h : u ∈ xs.set 0 v) : u = v ∨ u ∈ xs := by
  rcases List.mem_or_eq_of_mem_set h with h | h
  · exact .inr h
  · exact .inl h
/-! ### _law_indices -/
end
end K14
namespace K14
open PySem L2 Ab Sm
/-! ### what combinations keep -/
structure Bs (b : Int) (S : Sc) : Prop where
  g : GoodS S
  p1 : P6 S.sp
  p2 : P6 S.lv
  b1 : ∀ i, item S.sp i ≤ b
  b2 : ∀ i, item S.lv i ≤ b
theorem Bs.n1 {b : Int} {S : Sc} (h : Bs b S) (i : Nat) : 0 ≤ item S.sp i := (h.g.ls.item i).1
theorem Bs.n2 {b : Int} {S : Sc} (h : Bs b S) (i : Nat) : 0 ≤ item S.lv i := (h.g.ll.item i).1
theorem Bs.mono {b c : Int} {S : Sc} (h : Bs b S) (hc : b ≤ c) : Bs c S := ⟨h.g, h.p1, h.p2, fun i => Int.le_trans (h.b1 i) hc, fun i => Int.le_trans (h.b2 i) hc⟩
/-! ### the methods, as the law calls them -/
section
variable {P : Program} {w : World} {K : PySem.W.Frag} {mg : Str → Option Value} {base : Heap} {k : Nat} {f C : Addr}
/-! ### _law_columns, _law_items_right -/
/-- the three combinations of Ss -/
structure Three (Ss : List Sc) (A L H : Sc) : Prop where
  ne : Ss ≠ []
  ln : Ss.length ≤ 4
  bs : ∀ S ∈ Ss, Bs 99999 S
  ar : ∀ S ∈ Ss, ∀ S' ∈ Ss, S.a = S'.a
  gA : GoodS A
  gL : GoodS L
  gH : GoodS H
  aA : ∀ S ∈ Ss, A.a = S.a
  aL : ∀ S ∈ Ss, L.a = S.a
  aH : ∀ S ∈ Ss, H.a = S.a
  sA : ∀ i, item A.sp i = (Ss.map fun S => item S.sp i).sum
  lA : ∀ i, item A.lv i = (Ss.map fun S => item S.lv i).sum
  sL : ∀ i, item L.sp i = minL (Ss.map fun S => item S.sp i)
  lL : ∀ i, item L.lv i = minL (Ss.map fun S => item S.lv i)
  sH : ∀ i, item H.sp i = maxL (Ss.map fun S => item S.sp i)
  lH : ∀ i, item H.lv i = maxL (Ss.map fun S => item S.lv i)
end
end K14
namespace K14
open PySem L2 Ab Sm
theorem sum_app {xs : List Int} {x : Int} : (xs ++ [x]).sum = xs.sum + x := by simp
theorem min_app {xs : List Int} {x : Int} (h : xs ≠ []) : minL (xs ++ [x]) = minL [x, minL xs] := by
  cases xs with
  | nil => exact absurd rfl h
  | cons y ys =>
    obtain ⟨a1, a2⟩ := minL_spec ys y
    obtain ⟨b1, b2⟩ := minL_spec [minL (y :: ys)] x
    refine (min_is (ns := y :: ys ++ [x]) ?_ fun z hz => ?_).symm
    · rcases List.mem_cons.mp b1 with q | q
      · rw [q]
        exact List.mem_append_right _ List.mem_cons_self
      · rw [List.mem_singleton.mp q]
        exact List.mem_append_left _ a1
    · rcases List.mem_append.mp hz with q | q
      · exact Int.le_trans (b2 _ (List.mem_cons_of_mem _ List.mem_cons_self)) (a2 z q)
      · rw [List.mem_singleton.mp q]
        exact b2 x List.mem_cons_self
theorem max_app {xs : List Int} {x : Int} (h : xs ≠ []) : maxL (xs ++ [x]) = maxL [maxL xs, x] := by
  cases xs with
  | nil => exact absurd rfl h
  | cons y ys =>
    obtain ⟨a1, a2⟩ := maxL_spec ys y
    obtain ⟨b1, b2⟩ := maxL_spec [x] (maxL (y :: ys))
    refine (max_is (ns := y :: ys ++ [x]) ?_ fun z hz => ?_).symm
    · rcases List.mem_cons.mp b1 with q | q
      · rw [q]
        exact List.mem_append_left _ a1
      · rw [List.mem_singleton.mp q]
        exact List.mem_append_right _ List.mem_cons_self
    · rcases List.mem_append.mp hz with q | q
      · exact Int.le_trans (a2 z q) (b2 _ List.mem_cons_self)
      · rw [List.mem_singleton.mp q]
        exact b2 x (List.mem_cons_of_mem _ List.mem_cons_self)
theorem op_rot {wd : Wd} {x : Int} {xs : List Int} : opV wd (x :: xs) = opV wd (xs ++ [x]) := by
  cases wd with
  | sum =>
    show (x :: xs).sum = (xs ++ [x]).sum
    rw [sum_app, List.sum_cons]
    omega
  | least =>
    obtain ⟨a1, a2⟩ := minL_spec xs x
    refine min_is (ns := xs ++ [x]) ?_ fun z hz => a2 z ?_
    · rcases List.mem_cons.mp a1 with q | q
      · exact List.mem_append_right _ (List.mem_singleton.mpr q)
      · exact List.mem_append_left _ q
    · rcases List.mem_append.mp hz with q | q
      · exact List.mem_cons_of_mem _ q
      · rw [List.mem_singleton.mp q]
        exact List.mem_cons_self
  | greatest =>
    obtain ⟨a1, a2⟩ := maxL_spec xs x
    refine max_is (ns := xs ++ [x]) ?_ fun z hz => a2 z ?_
    · rcases List.mem_cons.mp a1 with q | q
      · exact List.mem_append_right _ (List.mem_singleton.mpr q)
      · exact List.mem_append_left _ q
    · rcases List.mem_append.mp hz with q | q
      · exact List.mem_cons_of_mem _ q
      · rw [List.mem_singleton.mp q]
        exact List.mem_cons_self
/-- two combinations of the same schedules, in another order -/
theorem Three.same {Ss : List Sc} {T : Sc} {A L H A' L' H' : Sc} (h : Three (Ss ++ [T]) A L H) (h' : Three (T :: Ss) A' L' H') : A = A' ∧ L = L' ∧ H = H' := by
  have m1 : T ∈ Ss ++ [T] := List.mem_append_right _ List.mem_cons_self
  have m2 : T ∈ T :: Ss := List.mem_cons_self
  refine ⟨h.gA.ext h'.gA ((h.aA T m1).trans (h'.aA T m2).symm) (fun i => ?_) fun i => ?_, h.gL.ext h'.gL ((h.aL T m1).trans (h'.aL T m2).symm) (fun i => ?_) fun i => ?_, h.gH.ext h'.gH ((h.aH T m1).trans (h'.aH T m2).symm) (fun i => ?_) fun i => ?_⟩
  · rw [h.sA, h'.sA, List.map_append]
    exact (op_rot (wd := .sum)).symm
  · rw [h.lA, h'.lA, List.map_append]
    exact (op_rot (wd := .sum)).symm
  · rw [h.sL, h'.sL, List.map_append]
    exact (op_rot (wd := .least)).symm
  · rw [h.lL, h'.lL, List.map_append]
    exact (op_rot (wd := .least)).symm
  · rw [h.sH, h'.sH, List.map_append]
    exact (op_rot (wd := .greatest)).symm
  · rw [h.lH, h'.lH, List.map_append]
    exact (op_rot (wd := .greatest)).symm
theorem Three.one {S : Sc} (h : Bs 99999 S) : Three [S] S S S := by
  have ar : ∀ T ∈ [S], ∀ T' ∈ [S], T.a = T'.a := fun T hT T' hT' => by rw [List.mem_singleton.mp hT, List.mem_singleton.mp hT']
  have a1 : ∀ T ∈ [S], S.a = T.a := fun T hT => by rw [List.mem_singleton.mp hT]
  exact ⟨List.cons_ne_nil _ _, by simp, fun T hT => by rw [List.mem_singleton.mp hT]; exact h, ar, h.g, h.g, h.g, a1, a1, a1, fun i => by simp, fun i => by simp, fun i => rfl, fun i => rfl, fun i => rfl, fun i => rfl⟩
theorem Three.more {Ss : List Sc} {T A L H A' L' H' : Sc} (h : Three Ss A L H) (hT : Bs 99999 T) (ha : ∀ S ∈ Ss, S.a = T.a) (hl : Ss.length ≤ 3) (gA : GoodS A') (gL : GoodS L') (gH : GoodS H') (aA : A'.a = T.a) (aL : L'.a = T.a) (aH : H'.a = T.a)
    (s1 : ∀ i, item A'.sp i = colF .sum ([A, T].map Sc.sp) i) (s2 : ∀ i, item A'.lv i = colF .sum ([A, T].map Sc.lv) i) (s3 : ∀ i, item L'.sp i = colF .least ([T, L].map Sc.sp) i) (s4 : ∀ i, item L'.lv i = colF .least ([T, L].map Sc.lv) i)
    (s5 : ∀ i, item H'.sp i = colF .greatest ([H, T].map Sc.sp) i) (s6 : ∀ i, item H'.lv i = colF .greatest ([H, T].map Sc.lv) i) : Three (Ss ++ [T]) A' L' H' := by
  have up : ∀ {p : Sc → Prop}, (∀ S ∈ Ss, p S) → p T → ∀ S ∈ Ss ++ [T], p S := fun h1 h2 S hS => by
    rcases List.mem_append.mp hS with z | z
    · exact h1 S z
    · rw [List.mem_singleton.mp z]
      exact h2
  have ar : ∀ S ∈ Ss ++ [T], S.a = T.a := up ha rfl
  have nn : ∀ (g : Sc → Int), Ss.map g ≠ [] := fun g => by simpa using h.ne
  refine ⟨by simp, by rw [List.length_append]; show Ss.length + 1 ≤ 4; omega, up h.bs hT, fun S hS S' hS' => (ar S hS).trans (ar S' hS').symm, gA, gL, gH, fun S hS => aA.trans (ar S hS).symm, fun S hS => aL.trans (ar S hS).symm, fun S hS => aH.trans (ar S hS).symm, fun i => ?_, fun i => ?_, fun i => ?_, fun i => ?_, fun i => ?_, fun i => ?_⟩
  · rw [s1, List.map_append]
    show [item A.sp i, item T.sp i].sum = (_ ++ [item T.sp i]).sum
    rw [sum_app, h.sA]
    simp
  · rw [s2, List.map_append]
    show [item A.lv i, item T.lv i].sum = (_ ++ [item T.lv i]).sum
    rw [sum_app, h.lA]
    simp
  · rw [s3, List.map_append]
    show minL [item T.sp i, item L.sp i] = minL (_ ++ [item T.sp i])
    rw [min_app (nn _), h.sL]
  · rw [s4, List.map_append]
    show minL [item T.lv i, item L.lv i] = minL (_ ++ [item T.lv i])
    rw [min_app (nn _), h.lL]
  · rw [s5, List.map_append]
    show maxL [item H.sp i, item T.sp i] = maxL (_ ++ [item T.sp i])
    rw [max_app (nn _), h.sH]
  · rw [s6, List.map_append]
    show maxL [item H.lv i, item T.lv i] = maxL (_ ++ [item T.lv i])
    rw [max_app (nn _), h.lH]
section
variable {P : Program} {w : World} {K : PySem.W.Frag} {mg : Str → Option Value} {base : Heap} {k : Nat} {f C : Addr}
abbrev OwnS (P : Program) (w : World) (K : PySem.W.Frag) (mg : Str → Option Value) (base : Heap) (C fq : Addr) : Prop := OwnE P w K mg base 1 C fq goodF relS
end
end K14
namespace Sm
/-! ### the place of a leaf: b leaves stand before it -/
def smN (f : Nat → Int) : Nat → Int
  | 0 => 0
  | n + 1 => smN f n + f n
theorem smN_congr {f g : Nat → Int} {n : Nat} (h : ∀ j, j < n → f j = g j) : smN f n = smN g n := by
  induction n with
  | zero => rfl
  | succ n ih => rw [smN, smN, ih fun j hj => h j (by omega), h n (by omega)]
theorem smN_add {f g : Nat → Int} {n : Nat} : smN (fun j => f j + g j) n = smN f n + smN g n := by
  induction n with
  | zero => rfl
  | succ n ih => rw [smN, smN, smN, ih]; omega
theorem smN_le {f g : Nat → Int} {n : Nat} (h : ∀ j, j < n → f j ≤ g j) : smN f n ≤ smN g n := by
  induction n with
  | zero => exact Int.le_refl _
  | succ n ih =>
    have h1 := ih fun j hj => h j (by omega)
    have h2 := h n (by omega)
    rw [smN, smN]
    omega
theorem smN_ext {f : Nat → Int} {n m : Nat} (hm : n ≤ m) (h : ∀ j, n ≤ j → f j = 0) : smN f m = smN f n := by
  induction m with
  | zero =>
    have : n = 0 := by omega
    rw [this]
  | succ m ih =>
    rcases Nat.lt_or_ge m n with z | z
    · have : n = m + 1 := by omega
      rw [this]
    · rw [smN, ih z, h m z, Int.add_zero]
theorem smN_head {f : Nat → Int} {n : Nat} : smN f (n + 1) = f 0 + smN (fun j => f (j + 1)) n := by
  induction n with
  | zero => simp [smN]
  | succ n ih => rw [smN, ih, smN]; omega
def plT (k : Nat) (s l : Nat → Int) (b h : Nat) : Int := (if k ^ h ≤ b then s (h + 1) else 0) + l (h + 1) * ((b / k ^ (h + 1) : Nat) : Int)
def place (k : Nat) (s l : Nat → Int) (b : Nat) : Int := s 0 + (b : Int) * l 0 + smN (plT k s l b) b
theorem lt_pow {k : Nat} (hk : 2 ≤ k) (b : Nat) : b < k ^ b := Nat.lt_of_lt_of_le Nat.lt_two_pow_self (Nat.pow_le_pow_left hk b)
theorem plT_zero {k : Nat} {s l : Nat → Int} {b h : Nat} (hb : b < k ^ h) (hk : 2 ≤ k) : plT k s l b h = 0 := by
  have h2 : b < k ^ (h + 1) := Nat.lt_of_lt_of_le hb (Nat.pow_le_pow_right (by omega) (by omega))
  rw [plT, if_neg (by omega), Nat.div_eq_of_lt h2]
  simp
theorem place_N {k : Nat} {s l : Nat → Int} {b N : Nat} (hk : 2 ≤ k) (hN : b < k ^ N) : place k s l b = s 0 + (b : Int) * l 0 + smN (plT k s l b) N := by
  have key : ∀ m, b < k ^ m → ∀ j, m ≤ j → plT k s l b j = 0 := fun m hm j hj => plT_zero (Nat.lt_of_lt_of_le hm (Nat.pow_le_pow_right (by omega) hj)) hk
  rw [place]
  congr 1
  rcases Nat.le_total N b with z | z
  · exact smN_ext z (key N hN)
  · exact (smN_ext z (key b (lt_pow hk b))).symm
theorem place_zero {k : Nat} {s l : Nat → Int} : place k s l 0 = s 0 := by simp [place, smN]
/-! ### leaf by leaf -/
theorem dvd_div {m b : Nat} (hm : 0 < m) (hb : 0 < b) (h : m ∣ b) : b / m = (b - 1) / m + 1 := by
  obtain ⟨c, rfl⟩ := h
  have hc : 0 < c := by
    rcases Nat.eq_zero_or_pos c with z | z
    · rw [z] at hb; simp at hb
    · exact z
  obtain ⟨c, rfl⟩ : ∃ d, c = d + 1 := ⟨c - 1, by omega⟩
  rw [Nat.mul_div_cancel_left _ hm]
  have : m * (c + 1) - 1 = m * c + (m - 1) := by rw [Nat.mul_add, Nat.mul_one]; omega
  rw [this, Nat.mul_add_div hm, Nat.div_eq_of_lt (by omega)]
theorem ndvd_div {m b : Nat} (hm : 0 < m) (h : ¬ m ∣ b + 1) : (b + 1) / m = b / m := by
  rw [Nat.succ_div, if_neg h, Nat.add_zero]
end Sm
namespace K14
open PySem L2 Ab Sm
section
variable {P : Program} {w : World} {K : PySem.W.Frag} {mg : Str → Option Value} {base : Heap} {k : Nat} {f C : Addr}
/-! ### properties -/
def aSpi (C : Addr) : ASp := fun ds M R => ∃ (S : Sc), ds = [scV C S] ∧ R (stV S.sp) M
def aLev (C : Addr) : ASp := fun ds M R => ∃ (S : Sc), ds = [scV C S] ∧ R (stV S.lv) M
theorem b_spine (T : Rs K mg C) : BodyOk P w K mg base k f n_Schedule_spine "Schedule.spine" (defScope c_Schedule_spine) (defBody c_Schedule_spine) (aSpi C) := by
  rintro cdv A outer s0 H E hr ds M R ⟨S, rfl, hp⟩
  exact as_one (as_ret ((av_s T (v_ 0)).val (.ok hp)))
theorem b_levels (T : Rs K mg C) : BodyOk P w K mg base k f n_Schedule_levels "Schedule.levels" (defScope c_Schedule_levels) (defBody c_Schedule_levels) (aLev C) := by
  rintro cdv A outer s0 H E hr ds M R ⟨S, rfl, hp⟩
  exact as_one (as_ret ((av_l T (v_ 0)).val (.ok hp)))
structure PrA (P : Program) (w : World) (K : PySem.W.Frag) (mg : Str → Option Value) (base : Heap) (C : Addr) : Prop where
  ex : ∃ p g, PropOf K C "arity" p g ∧ FX P w K mg base 1 g fun ds _ => aAri C ds
structure PrS (P : Program) (w : World) (K : PySem.W.Frag) (mg : Str → Option Value) (base : Heap) (C : Addr) : Prop where
  ex : ∃ p g, PropOf K C "spine" p g ∧ FX P w K mg base 1 g fun ds _ => aSpi C ds
structure PrL (P : Program) (w : World) (K : PySem.W.Frag) (mg : Str → Option Value) (base : Heap) (C : Addr) : Prop where
  ex : ∃ p g, PropOf K C "levels" p g ∧ FX P w K mg base 1 g fun ds _ => aLev C ds
theorem av_arity {X : Cx} {Γ : Gam} {M : Mem} {o : Expr} {pos : Pos} {m : Nat} {S : Sc} (T : Rs X.K X.mg C) (Q : PrA X.prog X.w X.K X.mg X.base C) (hr : Rm m X.A) (hm : 2 ≤ m) (ho : aV X o Γ M (scV C S)) (hb : attributeBase o "arity" X.env (eval o X.env) = eval o X.env := by rfl) : aV X (.Attribute o "arity" pos) Γ M (.int S.a) := by
  obtain ⟨p, g, hp, F⟩ := Q.ex
  exact ae_prop T.cl hp F (hr.mono hm) ho (.im _) ⟨S, rfl, rfl, rfl⟩ hb
/-! ### is_prunable, pruned -/
structure LmE (mg : Str → Option Value) : Prop where
  FRONT_LIMIT : ∃ t, mg "FRONT_LIMIT" = some (.int 12 t)
  LOOP_LIMIT : ∃ t, mg "LOOP_LIMIT" = some (.int 6 t)
  LABEL_LIMIT : ∃ t, mg "LABEL_LIMIT" = some (.int 1000000 t)
  ARITY_LIMIT : ∃ t, mg "ARITY_LIMIT" = some (.int 9 t)
end
end K14
namespace K14
open PySem L2 Ab Sm
theorem Seq.lim {lo : Int} {s : Stm} (h : Seq lo s) : Lim s := ⟨by have := h.l1; omega, Nat.le_of_dvd (by decide) h.l2, h.ne, fun v hv => ⟨(h.a1 v hv).1, by have := (h.a1 v hv).2; omega⟩, fun v hv => ⟨(h.a2 v hv).1, by have := (h.a2 v hv).2; omega⟩⟩
theorem Seq.bd {lo : Int} {s : Stm} (h : Seq lo s) (i : Nat) : item s i ≤ 99999 := by
  rcases item_mem h.ne i with z | z
  · have := (h.a1 _ z).2
    omega
  · have := (h.a2 _ z).2
    omega
theorem seq_bs {a : Int} {s l : Stm} (a2 : 2 ≤ a) (a9 : a ≤ 9) (hs : Seq 0 s) (hl : Seq 1 l) : Bs 99999 ⟨a, nf s, nf l⟩ := by
  have n1 := nf_spec hs.ne
  have n2 := nf_spec hl.ne
  have hs1 := hs.l1
  have hl1 := hl.l1
  have q1 : Lim (nf s) := lim_nf hs.ne hs.lim.l1 hs.lim.l2 hs.lim.a1 hs.lim.a2
  have q2 : Lim (nf l) := lim_nf hl.ne hl.lim.l1 hl.lim.l2 hl.lim.a1 hl.lim.a2
  have h0 := hl.lo
  refine ⟨good_nf a2 a9 hs.ne hl.ne q1 q2 (by omega), fun i hi => ?_, fun i hi => ?_, fun i => ?_, fun i => ?_⟩
  · show item (nf s) (i + 6) = item (nf s) i
    rw [n1.it, n1.it]
    exact item_per hs.l2 (by omega)
  · show item (nf l) (i + 6) = item (nf l) i
    rw [n2.it, n2.it]
    exact item_per hl.l2 (by omega)
  · show item (nf s) i ≤ 99999
    rw [n1.it]
    exact hs.bd i
  · show item (nf l) i ≤ 99999
    rw [n2.it]
    exact hl.bd i
end K14
namespace Ab
open PySem PySem.Spec PyProof.Rows L2
section
variable {X : Cx} {Γ : Gam} {M : Mem} {P : Val → Mem → Prop} {e a b c o : Expr} {es : List Expr} {pos p1 p2 apos kpos : Pos} {k : AK} {d d1 d2 d3 : Val} {i j l : Int} {x y m f : Str} {n : Nat} {C : Addr} {p q : Prop}
/-- loops at a def's end: slots are forgotten, cells are not -/
abbrev Wl (I : Gam → Mem → Prop) : Gam → Mem → Prop := fun Γ M => ∃ Γ', I Γ' M ∧ Le Γ' Γ
theorem as_whileL {body : List Stmt} (I : Nat → Gam → Mem → Prop) (n : Nat) (hp : PassesOwn (model X.prog X.w) X.A X.env X.xe) (h0 : Wl (I n) Γ M)
    (hs : ∀ n Γ M, I n Γ M → ∃ p, TP X c Γ M p ∧ (p → aSs X body Γ M { k with nx := Wl fun Γ' M' => ∃ m, m < n ∧ I m Γ' M', ct := Wl fun Γ' M' => ∃ m, m < n ∧ I m Γ' M', bk := k.nx }) ∧ (¬ p → k.nx Γ M))
    (hk : ∀ Γ Γ' M, Le Γ' Γ → k.nx Γ' M → k.nx Γ M := by intro _ _ _ l h; first | exact h | exact as_le l h) : aS X (.While c body [] pos) Γ M k :=
  as_while (fun n => Wl (I n)) n hp h0 fun n Γ' M' ⟨Γ0, h, l⟩ => by
    obtain ⟨p, ⟨b, hb, i⟩, h1, h2⟩ := hs n Γ0 M' h
    intro Hi H σ ok en Q q
    refine hb Hi H σ ok (l.env en) Q fun b' M1 Hi' H' hh => ?_
    obtain ⟨rfl, rfl⟩ := hh
    refine q _ _ Hi' H' ⟨fun z => ?_, fun z => hk _ _ _ l (h2 fun y => by rw [i.mpr y] at z; cases z)⟩
    refine as_le l ((h1 (i.mp z)).mono ?_ (fun _ _ h => h) (fun _ _ h => h) ?_)
    · rintro Γ5 M5 ⟨Γ6, ⟨m, hm, h6⟩, l6⟩
      exact ⟨m, hm, Γ6, h6, l6⟩
    · rintro Γ5 M5 ⟨Γ6, ⟨m, hm, h6⟩, l6⟩
      exact ⟨m, hm, Γ6, h6, l6⟩
theorem ae_mt1 {n q : Nat} {C : Addr} {m : Str} {s : ASp} {fs : List (Str × Val)} {pl : Sem Bool} (c : Cls X.K C) (F : ∃ f, Meth X.K C m f ∧ FX X.prog X.w X.K X.mg X.base n f fun ds _ => s ds) (hr : Rm q X.A) (hq : n ≤ q) (ho : aV X o Γ M d) (hob : Ob M C d fs) (h : aE X e Γ M fun x M1 => s [d, x] M1 P) (hl : fs.lookup m = none := by rfl)
    (hst : starEach [e] X.env = (false, eval e X.env) :: starEach [] X.env := by rfl)
    (ht : eval (.Call (.Attribute o m apos) [e] [] pos) X.env = (do
      let ov ← eval o X.env
      standAt apos.atName
      let (f, first) ← holding [ov] (getMethod ov m pl)
      callWith pos f first (backTo pos (starEach [e] X.env)) (backToKw pos (keywordEach [] X.env))) := by rfl) : aE X (.Call (.Attribute o m apos) [e] [] pos) Γ M P := by
  obtain ⟨f, mt, F⟩ := F
  exact ae_meth c mt F (hr.mono hq) ho hob hl (aa_cons (h.mono fun x M1 hx => aa_nil (ak_nil ⟨rfl, hx⟩)) hst) rfl rfl hst (by rw [hst]; rfl) ht
/-- cells in another order -/
theorem as_perm {M' : Mem} {s : List Stmt} (l : M'.Perm M) (h : aSs X s Γ M' k) : aSs X s Γ M k := fun Hi H σ ok en D q => h Hi H σ (ok.perm l) en D q
theorem ae_perm (h : aE X e Γ M fun d M1 => ∃ M2, M2.Perm M1 ∧ P d M2) : aE X e Γ M P := fun Hi H σ ok en Q q => h Hi H σ ok en Q fun d M1 v Hi' H' ⟨M2, hp, hP⟩ s ok' r => q d M2 v Hi' H' hP s (ok'.perm hp) r
theorem aj_tup {tg : Expr} {P : Nat → (Nat → Val) → Mem → Prop} (ha : aE X a Γ M fun d M' => ∃ xs, d = .tup xs ∧ P xs.length (fun i => xs.getD i .non) M') : aJ X tg a Γ M P := fun Hi H σ ok en R' q => by
  refine ⟨_, pi_tup pe_we, ?_⟩
  refine ha Hi H σ ok en _ fun d M1 v Hi1 H1 h1 s1 ok1 r1 => ?_
  obtain ⟨xs, rfl, hp⟩ := h1
  cases r1 with
  | @tup p ys _ hq ra =>
    refine ⟨p, rfl, ⟨ys, sameT ok1.im hq⟩, q _ xs.length _ M1 Hi1 H1 hp s1 ok1 ?_⟩
    rw [ra.length]
    refine walk_tup.mono (fun H' hG => ?_) fun i H' v H'' hi hG hy Hi' M' s2 ok2 => ?_
    · obtain ⟨Hi', M', s2, ok2⟩ := hG
      exact sameT ok2.im (sameT s2 hq)
    · obtain ⟨rfl, hv⟩ := hy
      exact ⟨Hi', Same.refl _, ok2, (Sq.at ra hv).mono s2⟩
end
end Ab
namespace Sm
/-! ### counting nodes of one height: la 0 is the size of the whole subtree below such a node, la j (j > 0) the labels of a node j higher; sp j the spine items above; own the node's own labels; a0 the first place; eh the end of the stage of the spine node -/
structure Ct where
  k : Nat
  la : Nat → Int
  sp : Nat → Int
  own : Int
  a0 : Int
  eh : Int
structure CtOk (c : Ct) : Prop where
  k2 : 2 ≤ c.k
  la : ∀ j, 0 ≤ c.la j
  l0 : 0 < c.la 0
  sp : ∀ j, 0 ≤ c.sp j
  o0 : 0 ≤ c.own
  o1 : c.own ≤ c.la 0
  a0 : 0 ≤ c.a0
  ae : c.a0 ≤ c.eh
def zz (c : Ct) : Nat → Int
  | 0 => c.la 0
  | t + 1 => c.la (t + 1) + c.k * zz c t
def en (c : Ct) : Nat → Int
  | 0 => c.eh
  | t + 1 => en c t + c.sp t + (c.k - 1) * zz c t
/-- quotients up to t -/
def fq (c : Ct) (t i : Nat) : Int := smN (fun j => c.la j * ((i / c.k ^ j : Nat) : Int)) (t + 1)
def qq (c : Ct) (t i : Nat) : Int := c.own + smN (fun j => c.la (j + 1)) t + fq c t i
/-- the place of the node with b nodes before it -/
def pp (c : Ct) (b : Nat) : Int := if b = 0 then c.a0 else c.eh - c.la 0 + c.own + smN (fun j => if c.k ^ j ≤ b then c.sp j else 0) b + fq c b b
section
variable {c : Ct}
theorem zz_pos (h : CtOk c) : ∀ t, 0 < zz c t
  | 0 => h.l0
  | t + 1 => by
    have h1 := zz_pos h t
    have h2 := h.la (t + 1)
    have h3 : (0 : Int) < c.k * zz c t := Int.mul_pos (by have := h.k2; omega) h1
    rw [zz]
    omega
theorem fq_digit (h : CtOk c) {t d i : Nat} (hi : i < c.k ^ t) : fq c t (d * c.k ^ t + i) = d * zz c t + fq c t i := by
  have hk := h.k2
  have key : ∀ s, s ≤ t → smN (fun j => c.la j * (((d * c.k ^ t + i) / c.k ^ j : Nat) : Int)) (s + 1) = d * (c.k : Int) ^ (t - s) * zz c s + smN (fun j => c.la j * ((i / c.k ^ j : Nat) : Int)) (s + 1) := by
    intro s
    induction s with
    | zero =>
      intro _
      simp only [smN, zz, Nat.pow_zero, Nat.div_one, Nat.sub_zero]
      rw [Int.natCast_add, Int.natCast_mul, Int.natCast_pow, Int.mul_add, Int.mul_comm (c.la 0) ((d : Int) * _)]
      omega
    | succ s ih =>
      intro hs
      rw [smN, ih (by omega), smN.eq_def _ (s + 1 + 1)]
      simp only
      have e1 : (d * c.k ^ t + i) / c.k ^ (s + 1) = d * c.k ^ (t - (s + 1)) + i / c.k ^ (s + 1) := by
        have : d * c.k ^ t = c.k ^ (s + 1) * (d * c.k ^ (t - (s + 1))) := by
          rw [Nat.mul_left_comm, ← Nat.pow_add, show s + 1 + (t - (s + 1)) = t by omega]
        rw [this, Nat.mul_add_div (Nat.pow_pos (by omega))]
      have e2 : (c.k : Int) ^ (t - s) = c.k ^ (t - (s + 1)) * c.k := by
        rw [show t - s = t - (s + 1) + 1 by omega, Int.pow_succ]
      rw [e1, zz, e2, Int.natCast_add, Int.natCast_mul, Int.natCast_pow]
      generalize (c.k : Int) ^ (t - (s + 1)) = K
      generalize ((i / c.k ^ (s + 1) : Nat) : Int) = I
      generalize smN (fun j => c.la j * ((i / c.k ^ j : Nat) : Int)) (s + 1) = Z
      rw [Int.mul_add, Int.mul_add, ← Int.mul_assoc (d : Int) K (c.k : Int), Int.mul_assoc ((d : Int) * K) (c.k : Int) (zz c s), Int.mul_comm (c.la (s + 1)) ((d : Int) * K)]
      omega
  have := key t (Nat.le_refl _)
  rw [Nat.sub_self, Int.pow_zero, Int.mul_one] at this
  exact this
theorem fq_succ {t i : Nat} (hi : i < c.k ^ (t + 1)) : fq c (t + 1) i = fq c t i := by
  unfold fq
  rw [smN, Nat.div_eq_of_lt hi]
  simp
theorem qq_digit (h : CtOk c) {t d i : Nat} (hd : d < c.k) (hi : i < c.k ^ t) : qq c (t + 1) (d * c.k ^ t + i) = c.la (t + 1) + d * zz c t + qq c t i := by
  have hlt : d * c.k ^ t + i < c.k ^ (t + 1) := by
    rw [Nat.pow_succ, Nat.mul_comm (c.k ^ t)]
    have : (d + 1) * c.k ^ t ≤ c.k * c.k ^ t := Nat.mul_le_mul_right _ hd
    rw [Nat.succ_mul] at this
    omega
  unfold qq
  rw [fq_succ hlt, fq_digit h hi, smN]
  omega
theorem fq_nn (h : CtOk c) (t i : Nat) : 0 ≤ fq c t i := by
  have : smN (fun _ => 0) (t + 1) ≤ fq c t i := smN_le fun j _ => Int.mul_nonneg (h.la j) (Int.natCast_nonneg _)
  have e : ∀ n, smN (fun _ => 0) n = 0 := fun n => by
    induction n with
    | zero => rfl
    | succ n ih => rw [smN, ih]; rfl
  rw [e] at this
  exact this
theorem sm_nn {f : Nat → Int} (h : ∀ j, 0 ≤ f j) : ∀ n, 0 ≤ smN f n
  | 0 => Int.le_refl _
  | n + 1 => by
    have := sm_nn h n
    have := h n
    rw [smN]
    omega
theorem qq_nn (h : CtOk c) (t i : Nat) : 0 ≤ qq c t i := by
  have h1 := h.o0
  have h2 := fq_nn h t i
  have h3 := sm_nn (f := fun j => c.la (j + 1)) (fun j => h.la _) t
  unfold qq
  omega
theorem qq_le (h : CtOk c) : ∀ (t i : Nat), i < c.k ^ t → qq c t i ≤ zz c t
  | 0, i, hi => by
    have : i = 0 := by simpa using hi
    subst this
    have := h.o1
    simp [qq, fq, smN, zz]
    omega
  | t + 1, i, hi => by
    have hp : 0 < c.k ^ t := Nat.pow_pos (by have := h.k2; omega)
    have e : i = (i / c.k ^ t) * c.k ^ t + i % c.k ^ t := by rw [Nat.mul_comm]; exact (Nat.div_add_mod i _).symm
    have hd : i / c.k ^ t < c.k := Nat.div_lt_of_lt_mul (by rw [← Nat.pow_succ]; exact hi)
    have hm : i % c.k ^ t < c.k ^ t := Nat.mod_lt _ hp
    have ih := qq_le h t _ hm
    rw [e, qq_digit h hd hm, zz]
    have hz := zz_pos h t
    have : ((i / c.k ^ t : Nat) : Int) * zz c t ≤ (c.k - 1) * zz c t := Int.mul_le_mul_of_nonneg_right (by omega) (by omega)
    have e2 : ((c.k : Int) - 1) * zz c t = c.k * zz c t - zz c t := by rw [Int.sub_mul]; omega
    omega
/-- the search inside a whole tree of t steps -/
def ins (c : Ct) : Nat → Int → Int
  | 0, off => if c.own ≤ off then 1 else 0
  | t + 1, off => if off < c.la (t + 1) then 0 else (off - c.la (t + 1)) / zz c t * ((c.k ^ t : Nat) : Int) + ins c t ((off - c.la (t + 1)) % zz c t)
/-- ends against sizes -/
theorem en_zz (h : CtOk c) : ∀ t, c.eh - c.la 0 + smN c.sp t + zz c t = en c t + smN (fun j => c.la (j + 1)) t
  | 0 => by simp [smN, zz, en]
  | t + 1 => by
    have ih := en_zz h t
    rw [smN, smN, zz, en]
    have : ((c.k : Int) - 1) * zz c t = c.k * zz c t - zz c t := by rw [Int.sub_mul]; omega
    omega
/-- a place by its stage -/
theorem pp_stage (h : CtOk c) {t d i : Nat} (d1 : 1 ≤ d) (hd : d < c.k) (hi : i < c.k ^ t) : pp c (d * c.k ^ t + i) = en c t + c.sp t + ((d : Int) - 1) * zz c t + qq c t i := by
  have hk := h.k2
  have hp : 0 < c.k ^ t := Nat.pow_pos (by omega)
  have hge : c.k ^ t ≤ d * c.k ^ t := Nat.le_mul_of_pos_left _ d1
  have hlt : d * c.k ^ t + i < c.k ^ (t + 1) := by
    rw [Nat.pow_succ, Nat.mul_comm (c.k ^ t)]
    have : (d + 1) * c.k ^ t ≤ c.k * c.k ^ t := Nat.mul_le_mul_right _ hd
    rw [Nat.succ_mul] at this
    omega
  have hb := lt_pow hk (d * c.k ^ t + i)
  unfold pp
  rw [if_neg (by omega)]
  have ht : t < d * c.k ^ t + i := Nat.lt_of_lt_of_le (lt_pow hk t) (by omega)
  have e1 : smN (fun j => if c.k ^ j ≤ d * c.k ^ t + i then c.sp j else 0) (d * c.k ^ t + i) = smN c.sp (t + 1) := by
    rw [smN_ext (n := t + 1) (by omega) fun j hj => if_neg (by
      have := Nat.pow_le_pow_right (n := c.k) (by omega) hj
      omega)]
    exact smN_congr fun j hj => if_pos (Nat.le_trans (Nat.pow_le_pow_right (by omega) (by omega)) (Nat.le_trans hge (by omega)))
  have e2 : fq c (d * c.k ^ t + i) (d * c.k ^ t + i) = fq c t (d * c.k ^ t + i) := by
    unfold fq
    refine smN_ext (by omega) fun j hj => ?_
    have := Nat.pow_le_pow_right (n := c.k) (by omega) hj
    rw [Nat.div_eq_of_lt (by omega)]
    simp
  rw [e1, e2, fq_digit h hi]
  have e3 := en_zz h t
  have e4 : ((d : Int) - 1) * zz c t = d * zz c t - zz c t := by rw [Int.sub_mul]; omega
  rw [smN]
  unfold qq
  omega
theorem en_mono (h : CtOk c) {t u : Nat} (hu : t ≤ u) : en c t ≤ en c u := by
  induction u with
  | zero =>
    have : t = 0 := by omega
    rw [this]
    exact Int.le_refl _
  | succ u ih =>
    rcases Nat.lt_or_ge u t with z | z
    · have : t = u + 1 := by omega
      rw [this]
      exact Int.le_refl _
    · have := ih z
      have h1 := h.sp u
      have h2 : 0 ≤ ((c.k : Int) - 1) * zz c u := Int.mul_nonneg (by have := h.k2; omega) (by have := zz_pos h u; omega)
      rw [en]
      omega
/-- the stage of a node -/
theorem stage_of {k : Nat} (hk : 2 ≤ k) : ∀ {b : Nat}, 0 < b → ∃ t d i, b = d * k ^ t + i ∧ 1 ≤ d ∧ d < k ∧ i < k ^ t := by
  intro b hb
  have : ∃ t, b < k ^ (t + 1) := ⟨b, Nat.lt_of_lt_of_le (lt_pow hk b) (Nat.pow_le_pow_right (by omega) (by omega))⟩
  have key : ∀ N, (b < k ^ (N + 1)) → ∃ t, k ^ t ≤ b ∧ b < k ^ (t + 1) := by
    intro N
    induction N with
    | zero => exact fun h => ⟨0, by rw [Nat.pow_zero]; exact hb, h⟩
    | succ N ih =>
      intro h
      rcases Nat.lt_or_ge b (k ^ (N + 1)) with z | z
      · exact ih z
      · exact ⟨N + 1, z, h⟩
  obtain ⟨N, hN⟩ := this
  obtain ⟨t, h1, h2⟩ := key N hN
  have hp : 0 < k ^ t := Nat.pow_pos (by omega)
  refine ⟨t, b / k ^ t, b % k ^ t, by rw [Nat.mul_comm]; exact (Nat.div_add_mod b _).symm, Nat.div_pos h1 hp, Nat.div_lt_of_lt_mul (by rw [← Nat.pow_succ]; exact h2), Nat.mod_lt _ hp⟩
theorem pp_ge (h : CtOk c) {t d i : Nat} (d1 : 1 ≤ d) (hd : d < c.k) (hi : i < c.k ^ t) : en c t ≤ pp c (d * c.k ^ t + i) ∧ pp c (d * c.k ^ t + i) ≤ en c (t + 1) := by
  rw [pp_stage h d1 hd hi, en]
  have h1 := h.sp t
  have hz := zz_pos h t
  have q0 := qq_nn h t i
  have q1 := qq_le h t i hi
  have e1 : 0 ≤ ((d : Int) - 1) * zz c t := Int.mul_nonneg (by omega) (by omega)
  have e2 : (d : Int) * zz c t ≤ ((c.k : Int) - 1) * zz c t := Int.mul_le_mul_of_nonneg_right (by omega) (by omega)
  have e4 : ((d : Int) - 1) * zz c t = d * zz c t - zz c t := by rw [Int.sub_mul]; omega
  omega
/-- what is counted is one number -/
theorem cnt_uniq {v u : Int} (v0 : 0 ≤ v) (u0 : 0 ≤ u) (h : ∀ b : Nat, (b : Int) < v ↔ (b : Int) < u) : v = u := by
  obtain ⟨a, rfl⟩ := Int.eq_ofNat_of_zero_le v0
  obtain ⟨b, rfl⟩ := Int.eq_ofNat_of_zero_le u0
  have h1 := h a
  have h2 := h b
  omega
end
end Sm
namespace Sm
/-! ### sizes and ends of a tree; the counter of a height -/
def siz (k : Nat) (l : Nat → Int) : Nat → Int
  | 0 => l 0
  | j + 1 => l (j + 1) + k * siz k l j
def ed (k : Nat) (s l : Nat → Int) : Nat → Int
  | 0 => s 0
  | j + 1 => ed k s l j + s (j + 1) + (k - 1) * siz k l j
def fp (k : Nat) (s l : Nat → Int) (h : Nat) : Int := (if h = 0 then 0 else ed k s l (h - 1)) + s h
def ctO (k : Nat) (s l : Nat → Int) (h : Nat) : Ct := ⟨k, fun j => if j = 0 then siz k l h else l (h + j), fun j => s (h + 1 + j), l h, fp k s l h, ed k s l h⟩
/-- the place of a node of height h with b such nodes before it -/
def pl (k : Nat) (s l : Nat → Int) (h b : Nat) : Int := pp (ctO k s l h) b
section
variable {k : Nat} {s l : Nat → Int}
theorem sz_pos (hk : 2 ≤ k) (hl : ∀ j, 0 ≤ l j) (h0 : 0 < l 0) : ∀ j, 0 < siz k l j
  | 0 => h0
  | j + 1 => by
    have h1 := sz_pos hk hl h0 j
    have h2 := hl (j + 1)
    have h3 : (0 : Int) < k * siz k l j := Int.mul_pos (by omega) h1
    rw [siz]
    omega
theorem sz_ge (hk : 2 ≤ k) (hl : ∀ j, 0 ≤ l j) (h0 : 0 < l 0) (j : Nat) : l j ≤ siz k l j := by
  cases j with
  | zero => exact Int.le_refl _
  | succ j =>
    have := sz_pos hk hl h0 j
    have h3 : (0 : Int) < k * siz k l j := Int.mul_pos (by omega) this
    rw [siz]
    omega
theorem ed_nn (hk : 2 ≤ k) (hs : ∀ j, 0 ≤ s j) (hl : ∀ j, 0 ≤ l j) (h0 : 0 < l 0) : ∀ j, 0 ≤ ed k s l j
  | 0 => hs 0
  | j + 1 => by
    have h1 := ed_nn hk hs hl h0 j
    have h2 := hs (j + 1)
    have h3 : 0 ≤ ((k : Int) - 1) * siz k l j := Int.mul_nonneg (by omega) (by have := sz_pos hk hl h0 j; omega)
    rw [ed]
    omega
theorem ct_ok (hk : 2 ≤ k) (hs : ∀ j, 0 ≤ s j) (hl : ∀ j, 0 ≤ l j) (h0 : 0 < l 0) (h : Nat) : CtOk (ctO k s l h) where
  k2 := hk
  la := fun j => by
    show 0 ≤ if j = 0 then siz k l h else l (h + j)
    split
    · have := sz_pos hk hl h0 h
      omega
    · exact hl _
  l0 := sz_pos hk hl h0 h
  sp := fun j => hs _
  o0 := hl h
  o1 := sz_ge hk hl h0 h
  a0 := by
    show 0 ≤ fp k s l h
    unfold fp
    have h1 := hs h
    split
    · omega
    · have := ed_nn hk hs hl h0 (h - 1)
      omega
  ae := by
    show fp k s l h ≤ ed k s l h
    unfold fp
    cases h with
    | zero =>
      show 0 + s 0 ≤ s 0
      omega
    | succ h =>
      rw [if_neg (by omega), Nat.add_sub_cancel, ed]
      have h3 : 0 ≤ ((k : Int) - 1) * siz k l h := Int.mul_nonneg (by omega) (by have := sz_pos hk hl h0 h; omega)
      omega
/-- as finishing reckons it -/
theorem pl_form {h b : Nat} (hb : 0 < b) {N N' : Nat} (hN : b < k ^ N) (hN' : b < k ^ (N' + 1)) (hk : 2 ≤ k) : pl k s l h b = ed k s l h + ((b : Int) - 1) * siz k l h + l h + smN (fun j => if k ^ j ≤ b then s (h + 1 + j) else 0) N + smN (fun j => ((b / k ^ (j + 1) : Nat) : Int) * l (h + (j + 1))) N' := by
  unfold pl pp
  rw [if_neg (by omega)]
  have e1 : smN (fun j => if (ctO k s l h).k ^ j ≤ b then (ctO k s l h).sp j else 0) b = smN (fun j => if k ^ j ≤ b then s (h + 1 + j) else 0) N := by
    show smN (fun j => if k ^ j ≤ b then s (h + 1 + j) else 0) b = _
    have key : ∀ m, b < k ^ m → ∀ j, m ≤ j → (if k ^ j ≤ b then s (h + 1 + j) else 0) = 0 := fun m hm j hj => if_neg (by
      have := Nat.pow_le_pow_right (n := k) (by omega) hj
      omega)
    rcases Nat.le_total N b with z | z
    · exact smN_ext z (key N hN)
    · exact (smN_ext z (key b (lt_pow hk b))).symm
  have e2 : fq (ctO k s l h) b b = (b : Int) * siz k l h + smN (fun j => ((b / k ^ (j + 1) : Nat) : Int) * l (h + (j + 1))) N' := by
    unfold fq
    rw [smN_head]
    show (if (0 : Nat) = 0 then siz k l h else l (h + 0)) * ((b / k ^ 0 : Nat) : Int) + smN (fun j => (if j + 1 = 0 then siz k l h else l (h + (j + 1))) * ((b / k ^ (j + 1) : Nat) : Int)) b = _
    rw [if_pos rfl, Nat.pow_zero, Nat.div_one, Int.mul_comm]
    congr 1
    have e3 : smN (fun j => (if j + 1 = 0 then siz k l h else l (h + (j + 1))) * ((b / k ^ (j + 1) : Nat) : Int)) b = smN (fun j => ((b / k ^ (j + 1) : Nat) : Int) * l (h + (j + 1))) b := smN_congr fun j _ => by rw [if_neg (by omega), Int.mul_comm]
    rw [e3]
    have key : ∀ m, b < k ^ (m + 1) → ∀ j, m ≤ j → ((b / k ^ (j + 1) : Nat) : Int) * l (h + (j + 1)) = 0 := fun m hm j hj => by
      have := Nat.pow_le_pow_right (n := k) (by omega) (show m + 1 ≤ j + 1 by omega)
      rw [Nat.div_eq_of_lt (by omega)]
      simp
    rcases Nat.le_total N' b with z | z
    · exact smN_ext z (key N' hN')
    · exact (smN_ext z (key b (Nat.lt_of_lt_of_le (lt_pow hk b) (Nat.pow_le_pow_right (by omega) (by omega))))).symm
  rw [e1, e2]
  show ed k s l h - siz k l h + l h + _ + _ = _
  rw [Int.sub_mul]
  omega
theorem pl_zero {h : Nat} : pl k s l h 0 = fp k s l h := rfl
/-! ### linear -/
variable {s1 l1 s2 l2 : Nat → Int}
variable {m : Int}
theorem pl_nn (hk : 2 ≤ k) (hs : ∀ j, 0 ≤ s j) (hl : ∀ j, 0 ≤ l j) (h0 : 0 < l 0) (h b : Nat) : 0 ≤ pl k s l h b := by
  have ok := ct_ok hk hs hl h0 h
  rcases Nat.eq_zero_or_pos b with z | z
  · subst z
    exact ok.a0
  · obtain ⟨u, d, i, rfl, d1, hd, hi⟩ := stage_of hk z
    have h1 : en (ctO k s l h) u ≤ pp (ctO k s l h) (d * k ^ u + i) := (pp_ge ok d1 hd hi).1
    have h2 := en_mono ok (Nat.zero_le u)
    have h3 := ok.ae
    have h4 := ok.a0
    have : en (ctO k s l h) 0 = (ctO k s l h).eh := rfl
    show 0 ≤ pp (ctO k s l h) _
    omega
/-- how many nodes of height h are finished by n -/
def Cnt (k : Nat) (s l : Nat → Int) (h : Nat) (n v : Int) : Prop := 0 ≤ v ∧ ∀ b : Nat, (b : Int) < v ↔ pl k s l h b ≤ n
end
end Sm
namespace K14
open PySem L2 Ab Sm
/-! ### counters: the cells -/
def szS (S : Sc) (j : Nat) : Int := siz S.a.toNat (item S.lv) j
def edS (S : Sc) (j : Nat) : Int := ed S.a.toNat (item S.sp) (item S.lv) j
def pwS (S : Sc) (j : Nat) : Int := ((S.a.toNat ^ j : Nat) : Int)
def ctS (S : Sc) (h : Nat) : Ct := ctO S.a.toNat (item S.sp) (item S.lv) h
def upL (g : Nat → Int) (n : Nat) : List Int := (List.range (n + 1)).map g
theorem up_len {g : Nat → Int} {n : Nat} : (upL g n).length = n + 1 := by simp [upL]
theorem up_at {g : Nat → Int} {n : Nat} {i : Int} (h0 : 0 ≤ i) (h1 : i ≤ n) : at0 (upL g n) i = g i.toNat := by
  unfold at0 upL
  rw [List.getD_eq_getElem?_getD, List.getElem?_map, List.getElem?_range (by omega)]
  rfl
theorem up_succ {g : Nat → Int} {n : Nat} : (upL g n).map Val.int ++ [Val.int (g (n + 1))] = (upL g (n + 1)).map Val.int := by
  unfold upL
  rw [List.range_succ (n := n + 1), List.map_append, List.map_append]
  rfl
def cF (C : Addr) (S : Sc) (h : Nat) (p1 p2 p3 : Addr) : List (Str × Val) := [("own_schedule", scV C S), ("own_height", .int (h : Int)), ("sizes", .ptr p1), ("ends", .ptr p2), ("powers", .ptr p3)]
structure Cn (C C2 : Addr) (M : Mem) (i : Nat) (c p1 p2 p3 : Addr) (S : Sc) (h n : Nat) : Prop where
  c0 : M[i]? = some (c, .ins C2 (cF C S h p1 p2 p3))
  c1 : M[i + 1]? = some (p1, .lst ((upL (szS S) n).map .int))
  c2 : M[i + 2]? = some (p2, .lst ((upL (edS S) n).map .int))
  c3 : M[i + 3]? = some (p3, .lst ((upL (pwS S) n).map .int))
def grown (M : Mem) (i : Nat) (p1 p2 p3 : Addr) (S : Sc) (n : Nat) : Mem := ((M.set (i + 1) (p1, .lst ((upL (szS S) n).map .int))).set (i + 2) (p2, .lst ((upL (edS S) n).map .int))).set (i + 3) (p3, .lst ((upL (pwS S) n).map .int))
section
variable {C C2 : Addr} {M : Mem} {i : Nat} {c p1 p2 p3 : Addr} {S : Sc} {h n m : Nat}
theorem Cn.len (q : Cn C C2 M i c p1 p2 p3 S h n) : i + 3 < M.length := (List.getElem?_eq_some_iff.mp q.c3).1
theorem set_id {α : Type} {l : List α} {j : Nat} {x : α} (h : l[j]? = some x) : l.set j x = l := by
  apply List.ext_getElem?
  intro z
  by_cases e : j = z
  · subst e
    rw [List.getElem?_set_self (List.getElem?_eq_some_iff.mp h).1, h]
  · rw [List.getElem?_set_ne e]
theorem Cn.self (q : Cn C C2 M i c p1 p2 p3 S h n) : grown M i p1 p2 p3 S n = M := by
  unfold grown
  rw [set_id q.c1, set_id q.c2, set_id q.c3]
end
/-- spine_at, level_at, arity, as counters use them -/
structure Sm2 (P : Program) (w : World) (K : PySem.W.Frag) (mg : Str → Option Value) (base : Heap) (C : Addr) : Prop where
  sat : ∃ f, Meth K C "spine_at" f ∧ FX P w K mg base 3 f fun ds _ => aSat C ds
  lat : ∃ f, Meth K C "level_at" f ∧ FX P w K mg base 3 f fun ds _ => aLat C ds
section
variable {P : Program} {w : World} {K : PySem.W.Frag} {mg : Str → Option Value} {base : Heap} {k : Nat} {f C C2 : Addr}
theorem av_sa {X : Cx} {Γ : Gam} {M : Mem} {o e : Expr} {pos apos : Pos} {m : Nat} {S : Sc} {i : Int} {pl : Sem Bool} (T : Rs X.K X.mg C) (Q : Sm2 X.prog X.w X.K X.mg X.base C) (hr : Rm m X.A) (hm : 3 ≤ m) (ho : aV X o Γ M (scV C S)) (he : aV X e Γ M (.int i)) (hS : GoodS S) (h0 : 0 ≤ i) (hst : starEach [e] X.env = (false, eval e X.env) :: starEach [] X.env := by rfl)
    (ht : eval (.Call (.Attribute o "spine_at" apos) [e] [] pos) X.env = (do
      let ov ← eval o X.env
      standAt apos.atName
      let (f, first) ← holding [ov] (getMethod ov "spine_at" pl)
      callWith pos f first (backTo pos (starEach [e] X.env)) (backToKw pos (keywordEach [] X.env))) := by rfl) : aV X (.Call (.Attribute o "spine_at" apos) [e] [] pos) Γ M (.int (item S.sp i.toNat)) := by
  obtain ⟨f, mt, F⟩ := Q.sat
  exact ae_meth T.cl mt F (hr.mono hm) ho (.im _) rfl (aa_cons (he.val (aa_nil (ak_nil ⟨rfl, S, i, rfl, hS, h0, rfl, rfl⟩))) hst) rfl rfl hst (by rw [hst]; rfl) ht
theorem av_la {X : Cx} {Γ : Gam} {M : Mem} {o e : Expr} {pos apos : Pos} {m : Nat} {S : Sc} {i : Int} {pl : Sem Bool} (T : Rs X.K X.mg C) (Q : Sm2 X.prog X.w X.K X.mg X.base C) (hr : Rm m X.A) (hm : 3 ≤ m) (ho : aV X o Γ M (scV C S)) (he : aV X e Γ M (.int i)) (hS : GoodS S) (h0 : 0 ≤ i) (hst : starEach [e] X.env = (false, eval e X.env) :: starEach [] X.env := by rfl)
    (ht : eval (.Call (.Attribute o "level_at" apos) [e] [] pos) X.env = (do
      let ov ← eval o X.env
      standAt apos.atName
      let (f, first) ← holding [ov] (getMethod ov "level_at" pl)
      callWith pos f first (backTo pos (starEach [e] X.env)) (backToKw pos (keywordEach [] X.env))) := by rfl) : aV X (.Call (.Attribute o "level_at" apos) [e] [] pos) Γ M (.int (item S.lv i.toNat)) := by
  obtain ⟨f, mt, F⟩ := Q.lat
  exact ae_meth T.cl mt F (hr.mono hm) ho (.im _) rfl (aa_cons (he.val (aa_nil (ak_nil ⟨rfl, S, i, rfl, hS, h0, rfl, rfl⟩))) hst) rfl rfl hst (by rw [hst]; rfl) ht
/-! ### check_at_least -/
/-! ### grow -/
end
end K14
namespace K14
open PySem L2 Ab Sm
section
variable {S : Sc}
theorem GoodS.k2 (g : GoodS S) : 2 ≤ S.a.toNat := by have := g.a2; omega
theorem GoodS.k9 (g : GoodS S) : S.a.toNat ≤ 9 := by have := g.a9; omega
theorem GoodS.s0 (g : GoodS S) (j : Nat) : 0 ≤ item S.sp j := (g.ls.item j).1
theorem GoodS.l0 (g : GoodS S) (j : Nat) : 0 ≤ item S.lv j := (g.ll.item j).1
theorem GoodS.lp (g : GoodS S) : 0 < item S.lv 0 := by have := g.l0 0; have := g.lf; omega
theorem GoodS.ct (g : GoodS S) (h : Nat) : CtOk (ctS S h) := ct_ok g.k2 g.s0 g.l0 g.lp h
end
end K14
namespace K14
open PySem L2 Ab Sm
def CntS (S : Sc) (h : Nat) (n v : Int) : Prop := Cnt S.a.toNat (item S.sp) (item S.lv) h n v
end K14
namespace K14
open PySem L2 Ab Sm
theorem Cn.cons {C C2 : Addr} {M : Mem} {i : Nat} {c p1 p2 p3 : Addr} {S : Sc} {h n : Nat} {x : Addr × Cell} (q : Cn C C2 M i c p1 p2 p3 S h n) : Cn C C2 (x :: M) (i + 1) c p1 p2 p3 S h n := ⟨q.c0, q.c1, q.c2, q.c3⟩
end K14
namespace Ab
open PySem PySem.Spec PyProof.Rows L2
theorem cutA_take {xs : List Val} {n : Nat} : cutA xs none (some (n : Int)) = xs.take n := by
  unfold cutA
  rw [HT.sIx_nat, HT.sIx_none, List.drop_zero, Nat.sub_zero]
  rcases Nat.le_total n xs.length with z | z
  · rw [Nat.min_eq_left z]
  · rw [Nat.min_eq_right z, List.take_of_length_le (Nat.le_refl _), List.take_of_length_le z]
end Ab
namespace Ab
open PySem PySem.Spec PyProof.Rows L2
/-! ### t[::-1] of a tuple -/
section
variable {prog : Program} {w : World} {A : Around} {E : Value → Shared → Prop} {s : Shared}
theorem adj_rev (n : Nat) : Builtin.Slice.sliceAdjust none none (-1) (n : Int) = ((n : Int) - 1, -1) := by
  unfold Builtin.Slice.sliceAdjust
  simp
theorem plc_rev (n : Nat) : Builtin.Slice.slicePlaces ((n : Int) - 1) (-1) (-1) = n := by
  unfold Builtin.Slice.slicePlaces
  rw [if_neg (show ¬ ((-1 : Int) > 0) by decide), show (- -1 : Int) = 1 by decide, Int.ediv_one]
  split <;> omega
theorem app_rev {sl : Addr} {vl vu vs : Value} {n : Nat} {Q : Int × Int × Nat → Shared → Prop} (hs : s.heap.IsSliceOf sl vl vu vs) (pl : IsPart vl none) (pu : IsPart vu none) (pv : IsPart vs (some (-1))) (h : Q ((n : Int) - 1, -1, n) s) :
    wpAny (model prog w) A (Builtin.Slice.sliceApplied (.ref sl) (pure (n : Int))) Q E s := by
  obtain ⟨os, hos, hcs, hds⟩ := id hs
  unfold Builtin.Slice.sliceApplied Builtin.Slice.sliceFields
  refine wpAny_bind (wpAny_bind (wpAny_field hos hds (x := vl) rfl (wpAny_bind (wpAny_field hos hds (x := vu) rfl (wpAny_bind (wpAny_field hos hds (x := vs) rfl (wpAny_pure ?_)))))))
  refine wpAny_bind (HT.slicePart_ pv ?_)
  show wpAny _ _ (if ((-1 : Int) == 0) = true then _ else _) _ _ s
  rw [if_neg (by decide)]
  refine wpAny_bind (HT.slicePart_ pl (wpAny_bind (HT.slicePart_ pu (wpAny_bind (wpAny_pure ?_)))))
  show wpAny _ _ (match Builtin.Slice.sliceAdjust none none (-1) (n : Int) with | (lo, hi) => pure (lo, (-1 : Int), Builtin.Slice.slicePlaces lo hi (-1))) _ _ s
  rw [adj_rev n]
  show wpAny _ _ (pure ((n : Int) - 1, (-1 : Int), Builtin.Slice.slicePlaces ((n : Int) - 1) (-1) (-1))) _ _ s
  rw [plc_rev]
  exact wpAny_pure h
theorem fm_congr {α β : Type} {f g : α → Option β} : ∀ {l : List α}, (∀ m ∈ l, f m = g m) → l.filterMap f = l.filterMap g
  | [], _ => rfl
  | x :: l, h => by
    rw [List.filterMap_cons, List.filterMap_cons, h x List.mem_cons_self, fm_congr (l := l) fun m hm => h m (List.mem_cons_of_mem _ hm)]
theorem pick_rev (xs : Array Value) : ((List.range xs.size).filterMap fun (m : Nat) => xs[(((xs.size : Int) - 1) + (m : Int) * -1).toNat]?).toArray = xs.toList.reverse.toArray := by
  congr 1
  have e : (List.range xs.size).filterMap (fun (m : Nat) => xs[(((xs.size : Int) - 1) + (m : Int) * -1).toNat]?) = ((List.range xs.size).map fun k => xs.size - 1 - k).filterMap (xs[·]?) := by
    rw [List.filterMap_map]
    refine fm_congr fun m hm => ?_
    have hm := List.mem_range.mp hm
    show xs[(((xs.size : Int) - 1) + (m : Int) * -1).toNat]? = xs[xs.size - 1 - m]?
    congr 1
    omega
  rw [e, PySem.W.krv_range, List.filterMap_reverse, PySem.W.krv_all]
theorem item_rev {t sl : Addr} {items : Array Value} {vl vu vs : Value} {Q : Value → Shared → Prop} (ht : IsTup s.heap t items) (hs : s.heap.IsSliceOf sl vl vu vs) (pl : IsPart vl none) (pu : IsPart vu none) (pv : IsPart vs (some (-1)))
    (h : Q (.ref s.heap.objs.size) { s with heap := s.heap.push { cls := .type "tuple", data := .seq items.toList.reverse.toArray } }) (hsz : items.size ≤ sizeLine) : wpAny (model prog w) A (getItem (.ref t) (.ref sl)) Q E s := by
  have hz : sizeOk (.seq items.toList.reverse.toArray) := by
    show items.toList.reverse.toArray.size ≤ sizeLine
    simpa using hsz
  obtain ⟨os, hos, hcs, hds⟩ := id hs
  have tS : s.TypeIs (.ref sl) "slice" := ⟨os, hos, hcs⟩
  unfold getItem
  try with_reducible refine wpAny_holding ?_
  first | refine wpAny_bind (wpAny_pure ?_) | skip
  refine wpAny_bind (wpAny_sequenceKey ht.typeIs (by decide) (wpAny_bind (wpAny_callSpecial?_slot (name := Str.ofString "__getitem__") ht.typeIs PyProof.Rows.slot_tuple_getitem (wpAny_call_entry PyProof.Rows.slot_tuple_getitem ht.typeIs entry_tuple_getitem ?_ (args_tuple_getitem _ _)))))
  show wpAny _ _ (Builtin.Tuple.tupleItemsOf (.ref t) >>= _) _ _ s
  refine wpAny_bind (tupleItemsOf_ ht (wpAny_bind (wpAny_typeOf tS ?_)))
  rw [if_pos (by decide)]
  refine wpAny_bind (app_rev hs pl pu pv ?_)
  show wpAny _ _ (if (((items.size : Int) - 1 == 0) && ((-1 : Int) == 1) && (items.size == items.size)) = true then _ else _) _ _ s
  rw [if_neg (by simp), pick_rev]
  first
    | exact wpAny_bind (m := Builtin.Tuple.tupleExact _) (wpAny_newObj_type (wpAny_pure ⟨_, rfl, wpAny_pure h⟩) hz)
    | exact wpAny_bind (wpAny_bind (m := Builtin.Tuple.tupleExact _) (wpAny_newObj_type (wpAny_pure ⟨_, rfl, wpAny_pure h⟩) hz))
end
section
variable {X : Cx} {Γ : Gam} {M : Mem} {P : Val → Mem → Prop} {e a : Expr} {pos p1 p2 p3 : Pos} {xs : List Val}
def tRevT (K : PySem.W.Frag) (te : TE) : TE := fun σ H Q => te σ H fun x H1 => ∃ a xs, x = .ref a ∧ SqT K H1 a xs ∧ ∀ p, H1 p = none → Q (.ref p) (upd H1 p (.tup xs.reverse))
theorem pe_revT {te : TE} {k : Nat} (he : PE X e te) : PE X (.Subscript e (.Slice none none (some (.UnaryOp .USub (.Constant (.int 1) k p1) p2)) p3) pos) (tRevT X.K te) := by
  refine ⟨fun pins s σ H Q I h => ?_⟩
  refine Subscript_ (thn (he.run pins s σ H _ I h) fun v s1 ⟨x, H1, I1, r1, a, xs, ex, hx, q⟩ => ?_)
  subst ex
  cases r1
  have ho : PO X (some (.UnaryOp .USub (.Constant (.int 1) k p1) p2)) (tPart (tUn (rU fun i => .int (-i)) (tC (.int 1)))) := po_some (pe_un un_neg pe_int)
  refine wpAny_Slice (thn (po_none.run pins s1 σ H1 (fun o H2 => o = none ∧ H2 = H1) I1 ⟨rfl, rfl⟩) fun vl s2 ⟨l, H2, I2, pl, el, e2⟩ => ?_)
  subst el e2
  refine thn (po_none.run pins s2 σ H2 (fun o H3 => o = none ∧ H3 = H2) I2 ⟨rfl, rfl⟩) fun vu s3 ⟨u, H3, I3, pu, eu, e3⟩ => ?_
  subst eu e3
  refine thn (ho.run pins s3 σ H3 (fun o H4 => o = some (-1) ∧ H4 = H3) I3 ⟨1, rfl, -1, rfl, rfl, rfl⟩) fun vs s4 ⟨o, H4, I4, ps, eo, e4⟩ => ?_
  subst eo e4
  have I5 : Inv X pins σ H4 { s4 with heap := s4.heap.push { cls := .type "slice", data := .fields #[vl, vu, vs] } } := I4.kept (t' := s4.toks) fun b ob q => Heap.get?_push_of_some _ q
  obtain ⟨its, r, ht, hz⟩ := I5.tuple hx
  have hlen := r.length
  show wpAny (model X.prog X.w) X.A (subscriptTail e (.Slice none none (some (.UnaryOp .USub (.Constant (.int 1) k p1) p2)) p3) (.ref a) (.ref s4.heap.objs.size)) (EP X pins σ Q) X.xe { s4 with heap := s4.heap.push { cls := .type "slice", data := .fields #[vl, vu, vs] } }
  refine tail_any (ops := [.ref a, .ref s4.heap.objs.size]) ht.typeIs (PyProof.Rows.slot_tuple_getitem.lookup) ?_ (by with_unfolding_all rfl)
  refine item_rev ht (Heap.IsSliceOf.new _ vl vu vs) pl pu ps ?_ (by rw [List.size_toArray]; omega)
  refine ⟨.ref _, _, I5.laid (t' := s4.toks) (o := .tup xs.reverse) (fun b ob q => Heap.get?_push_of_some _ q) (Nat.le_refl _) ?_, rfl, q _ (I5.hok.fresh (Nat.le_refl _))⟩
  exact ⟨by rw [List.length_reverse]; exact hz, _, r.reverse, IsTup.new _ _⟩
theorem RepA.rev {K : PySem.W.Frag} {H : Hp} {ds : List Val} {vs : List V} (r : RepA K H ds vs) : RepA K H ds.reverse vs.reverse := by
  induction ds generalizing vs with
  | nil => cases r; exact .nil
  | cons d ds ih =>
    cases r with
    | cons r1 r2 =>
      rw [List.reverse_cons, List.reverse_cons]
      exact (ih r2).append (.cons r1 .nil)
theorem av_revT {k : Nat} (ha : aV X e Γ M (.tup xs)) : aV X (.Subscript e (.Slice none none (some (.UnaryOp .USub (.Constant (.int 1) k p1) p2)) p3) pos) Γ M (.tup xs.reverse) := fun Hi H σ ok en Q q => by
  refine ⟨_, pe_revT pe_we, ?_⟩
  refine ha Hi H σ ok en _ fun x M1 v Hi1 H1 h1 s1 ok1 r1 => ?_
  obtain ⟨rfl, rfl⟩ := h1
  cases r1 with
  | @tup p ys _ hq ra =>
    refine ⟨p, ys, rfl, sameT ok1.im hq, fun l hl => ?_⟩
    have s2 := same_upd (o := .tup ys.reverse) (ok1.none hl)
    exact q _ _ _ _ _ ⟨rfl, rfl⟩ (s1.trans s2) (ok1.imm hl) (.tup (SqT.of upd_same) (ra.rev.mono s2))
end
end Ab
/-! boxes: opened, closed; promises over boxes -/
namespace Ab
open PySem PySem.Spec PyProof.Rows L2
section
variable {P : Program} {w : World} {K : PySem.W.Frag} {mg : Str → Option Value} {base : Heap} {k : Nat} {f : Addr} {ks : List Str} {sp sp' : List V → List V → Hp → VK → Prop} {sx sx' : ASx}
theorem FnX.weak (F : FnX P w K mg base k f ks sp) (h : ∀ vs zs H Q, sp' vs zs H Q → sp vs zs H Q) : FnX P w K mg base k f ks sp' :=
  ⟨fun A outer s H us ws vs zs Q a b c d e g => F.run A outer s H us ws vs zs Q a b c d e (h vs zs H Q g)⟩
theorem set_at {α : Type} {M : List α} {i : Nat} {x : α} (h : M[i]? = some x) : M.set i x = M := by
  induction M generalizing i with
  | nil => rfl
  | cons y M ih =>
    cases i with
    | zero => cases h; rfl
    | succ i => rw [List.set_cons_succ, ih h]
/-- a promise over cells, told over their box -/
theorem FnX.box (F : FnX P w K mg base k f ks (spX K sx)) (h : ∀ ds es M R, sx' ds es M R → ∃ (i : Nat) (p : Addr) (φ : Mem0 → Prop), M[i]? = some (p, .box φ) ∧
    ∀ B, φ B → p ∈ B.map (·.1) → sx ds es (bs B ++ M.eraseIdx i) fun d M' => ∃ B' φ', M' = bs B' ++ M.eraseIdx i ∧ φ' B' ∧ p ∈ B'.map (·.1) ∧ R d (M.set i (p, .box φ'))) : FnX P w K mg base k f ks (spX K sx') :=
  F.weak fun vs zs H Q ⟨Hi, M, ds, es, R, r1, r2, ok, hs, q⟩ => by
    obtain ⟨i, p, φ, hi, hb⟩ := h ds es M R hs
    obtain ⟨B, h1, h2, ok'⟩ := ok.opn hi
    refine ⟨Hi, _, ds, es, _, r1, r2, ok', hb B h1 h2, fun d M' v Hi' H' hd s' ok2 r => ?_⟩
    obtain ⟨B', φ', rfl, h3, h4, h5⟩ := hd
    exact q d _ v Hi' H' h5 s' (ok2.clsAt hi h3 h4) r
end
end Ab
/-! repr of data of any depth; memories read otherwise -/
namespace Ab
open PySem PySem.Spec PyProof.Rows L2
mutual
def shV : Val → Prop
  | .non => True
  | .bl _ => True
  | .int i => showI i
  | .str x => x.cps.toList.all (fun c => decide (c < 16 ^ 8)) = true
  | .lst xs => shVs xs
  | .tup xs => shVs xs
  | .ty _ => False
  | .ptr _ => False
  | .obj _ _ => False
  | .exc _ _ => False
  | .lam _ _ => False
def shVs : List Val → Prop
  | [] => True
  | x :: xs => shV x ∧ shVs xs
end
mutual
def wdV : Val → Nat
  | .non => 5
  | .bl _ => 5
  | .int _ => 1921
  | .str x => 10 * x.length + 2
  | .lst xs => wdVs xs + 3
  | .tup xs => wdVs xs + 3
  | .ty _ => 0
  | .ptr _ => 0
  | .obj _ _ => 0
  | .exc _ _ => 0
  | .lam _ _ => 0
def wdVs : List Val → Nat
  | [] => 0
  | x :: xs => wdV x + 2 + wdVs xs
end
mutual
def dpV : Val → Nat
  | .non => 0
  | .bl _ => 0
  | .int _ => 0
  | .str _ => 0
  | .lst xs => dpVs xs + 1
  | .tup xs => dpVs xs + 1
  | .ty _ => 0
  | .ptr _ => 0
  | .obj _ _ => 0
  | .exc _ _ => 0
  | .lam _ _ => 0
def dpVs : List Val → Nat
  | [] => 0
  | x :: xs => max (dpV x) (dpVs xs)
end
structure ShD (v : Val) (p : PyData) : Prop where
  td : toD v = some p
  sh : p.showable = true
  nd : p.hasDict = false
  ln : p.shown.length ≤ wdV v
  dp : p.depth ≤ dpV v
structure ShDs (v : List Val) (p : List PyData) : Prop where
  td : toDs v = some p
  sh : PyData.showableAll p = true
  nd : PyData.hasDictAll p = false
  ln : ((PyData.shownAll p).map (·.length)).sum + 2 * (PyData.shownAll p).length ≤ wdVs v
  dp : PyData.depthAll p ≤ dpVs v
mutual
theorem shd : ∀ (v : Val), shV v → ∃ p, ShD v p
  | .non, _ => ⟨.none, by unfold toD; rfl, rfl, rfl, by decide, by simp [PyData.depth]⟩
  | .bl b, _ => ⟨.bool b, by unfold toD; rfl, rfl, rfl, by cases b <;> decide, by simp [PyData.depth]⟩
  | .int i, h => ⟨.int i, by unfold toD; rfl, by unfold PyData.showable; exact decide_eq_true h, rfl, by unfold wdV; exact shownI_le h, by simp [PyData.depth]⟩
  | .str x, h => ⟨.str x, by unfold toD; rfl, rfl, rfl, by
      unfold wdV PyData.shown
      have := StrLaws.reprText_len x (fun c hc => by unfold shV at h; exact of_decide_eq_true (List.all_eq_true.mp h c hc))
      omega, by simp [PyData.depth]⟩
  | .lst xs, h => by
    unfold shV at h
    obtain ⟨ps, q⟩ := shds xs h
    refine ⟨.list ps, by unfold toD; rw [q.td]; rfl, by unfold PyData.showable; exact q.sh, by unfold PyData.hasDict; exact q.nd, ?_, by unfold PyData.depth dpV; have := q.dp; omega⟩
    unfold wdV PyData.shown
    have h1 := listText_len_le (PyData.shownAll ps)
    have h2 := q.ln
    omega
  | .tup xs, h => by
    unfold shV at h
    obtain ⟨ps, q⟩ := shds xs h
    refine ⟨.tuple ps, by unfold toD; rw [q.td]; rfl, by unfold PyData.showable; exact q.sh, by unfold PyData.hasDict; exact q.nd, ?_, by unfold PyData.depth dpV; have := q.dp; omega⟩
    unfold wdV PyData.shown
    have h1 := tupleText_len_le (PyData.shownAll ps)
    have h2 := q.ln
    omega
  | .ty _, h => h.elim
  | .ptr _, h => h.elim
  | .obj _ _, h => h.elim
  | .exc _ _, h => h.elim
  | .lam _ _, h => h.elim
theorem shds : ∀ (v : List Val), shVs v → ∃ p, ShDs v p
  | [], _ => ⟨[], rfl, rfl, rfl, by decide, by simp [PyData.depthAll]⟩
  | x :: xs, h => by
    unfold shVs at h
    obtain ⟨p, q⟩ := shd x h.1
    obtain ⟨ps, qs⟩ := shds xs h.2
    refine ⟨p :: ps, by unfold toDs; rw [q.td, qs.td]; rfl, by unfold PyData.showableAll; rw [q.sh, qs.sh]; rfl, by unfold PyData.hasDictAll; rw [q.nd, qs.nd]; rfl, ?_, by unfold PyData.depthAll dpVs; have := q.dp; have := qs.dp; omega⟩
    unfold PyData.shownAll wdVs
    rw [List.map_cons, List.sum_cons, List.length_cons]
    have := q.ln
    have := qs.ln
    omega
end
def rpr (v : Val) : Str := match toD v with
  | some p => p.shown
  | none => ""
def isSq : Val → Prop
  | .lst _ => True
  | .tup _ => True
  | _ => False
section
variable {X : Cx} {Γ : Gam} {M M' : Mem} {P : Val → Mem → Prop} {e a b c o : Expr} {pos p1 : Pos} {sts : List Stmt} {k : AK} {d v : Val} {n : Nat}
theorem ae_reprV (hr : Rm n X.A) (hm : X.mg "repr" = none) (ha : aE X a Γ M fun d M' => ∃ v, Vw M' d v ∧ isSq v ∧ shV v ∧ wdV v ≤ sizeLine ∧ dpV v ≤ 60 ∧ P (.str (rpr v)) M')
    (hg : Gl X "repr" := by rfl) (hst : starEach [a] X.env = [(false, eval a X.env)] := by rfl) : aE X (.Call (.Name "repr" p1) [a] [] pos) Γ M P := by
  refine ae_repr hr hm (ha.mono fun d M1 ⟨v, h1, h2, h3, h4, h5, h6⟩ => ?_) hg hst
  obtain ⟨p, q⟩ := shd v h3
  have e : rpr v = p.shown := by unfold rpr; rw [q.td]
  rw [e] at h6
  refine ⟨v, p, h1, q.td, ?_, q.sh, q.nd, Nat.le_trans q.dp h5, Nat.le_trans q.ln h4, h6⟩
  have t := q.td
  cases v with
  | lst xs =>
    unfold toD at t
    obtain ⟨ds, _, rfl⟩ := Option.map_eq_some_iff.mp t
    exact .inl ⟨_, rfl⟩
  | tup xs =>
    unfold toD at t
    obtain ⟨ds, _, rfl⟩ := Option.map_eq_some_iff.mp t
    exact .inr ⟨_, rfl⟩
  | _ => exact h2.elim
theorem av_repr (hr : Rm n X.A) (hm : X.mg "repr" = none) (ha : aV X a Γ M v) (h2 : isSq v) (h3 : shV v) (h4 : wdV v ≤ sizeLine) (h5 : dpV v ≤ 60)
    (hg : Gl X "repr" := by rfl) (hst : starEach [a] X.env = [(false, eval a X.env)] := by rfl) : aV X (.Call (.Name "repr" p1) [a] [] pos) Γ M (.str (rpr v)) :=
  ae_reprV hr hm (ha.val ⟨v, .self _, h2, h3, h4, h5, rfl, rfl⟩) hg hst
end
section
variable {P : Val → Mem → Prop} {d : Val} {M M' : Mem} {B : Mem0} {p : Addr} {φ : Mem0 → Prop} {x : Cell} {i : Nat}
/-- a def's end: the cells go back into their box -/
theorem Ret.clsAt (hi : M[i]? = some (p, x)) (h : φ B) (hp : p ∈ B.map (·.1)) (hr : Ret P d (M.set i (p, .box φ))) : Ret P d (bs B ++ M.eraseIdx i) := .tr (fun _ _ _ ok => ok.clsAt hi h hp) hr
theorem Ret.cls (h : φ B) (hp : p ∈ B.map (·.1)) (hr : Ret P d ((p, .box φ) :: M)) : Ret P d (bs B ++ M) := .tr (fun _ _ _ ok => ok.cls h hp) hr
theorem bx_get {α : Type} {M : List α} {i : Nat} {x y : α} (h : M[i]? = some x) : (M.set i y)[i]? = some y := List.getElem?_set_self (List.getElem?_eq_some_iff.mp h).1
end
end Ab
/-! comparisons whose outcome is known; data compared -/
namespace Ab
open PySem PySem.Spec PyProof.Rows L2
mutual
def dtV : Val → Prop
  | .non => True
  | .bl _ => True
  | .int _ => True
  | .str x => PyData.strOk x = true
  | .lst xs => dtVs xs
  | .tup xs => dtVs xs
  | .ty _ => False
  | .ptr _ => False
  | .obj _ _ => False
  | .exc _ _ => False
  | .lam _ _ => False
def dtVs : List Val → Prop
  | [] => True
  | x :: xs => dtV x ∧ dtVs xs
end
structure DtD (v : Val) (p : PyData) : Prop where
  td : toD v = some p
  cl : p.canLay0 = true
  dp : p.depth ≤ dpV v
structure DtDs (v : List Val) (p : List PyData) : Prop where
  td : toDs v = some p
  cl : PyData.canLayAll0 p = true
  dp : PyData.depthAll p ≤ dpVs v
mutual
theorem dtd : ∀ (v : Val), dtV v → ∃ p, DtD v p
  | .non, _ => ⟨.none, by unfold toD; rfl, rfl, by simp [PyData.depth]⟩
  | .bl b, _ => ⟨.bool b, by unfold toD; rfl, rfl, by simp [PyData.depth]⟩
  | .int i, h => ⟨.int i, by unfold toD; rfl, rfl, by simp [PyData.depth]⟩
  | .str x, h => ⟨.str x, by unfold toD; rfl, by unfold dtV at h; unfold PyData.canLay0; exact h, by simp [PyData.depth]⟩
  | .lst xs, h => by
    unfold dtV at h
    obtain ⟨ps, q⟩ := dtds xs h
    exact ⟨.list ps, by unfold toD; rw [q.td]; rfl, by unfold PyData.canLay0; exact q.cl, by unfold PyData.depth dpV; have := q.dp; omega⟩
  | .tup xs, h => by
    unfold dtV at h
    obtain ⟨ps, q⟩ := dtds xs h
    exact ⟨.tuple ps, by unfold toD; rw [q.td]; rfl, by unfold PyData.canLay0; exact q.cl, by unfold PyData.depth dpV; have := q.dp; omega⟩
  | .ty _, h => h.elim
  | .ptr _, h => h.elim
  | .obj _ _, h => h.elim
  | .exc _ _, h => h.elim
  | .lam _ _, h => h.elim
theorem dtds : ∀ (v : List Val), dtVs v → ∃ p, DtDs v p
  | [], _ => ⟨[], rfl, rfl, by simp [PyData.depthAll]⟩
  | x :: xs, h => by
    unfold dtVs at h
    obtain ⟨p, q⟩ := dtd x h.1
    obtain ⟨ps, qs⟩ := dtds xs h.2
    exact ⟨p :: ps, by unfold toDs; rw [q.td, qs.td]; rfl, by unfold PyData.canLayAll0; rw [q.cl, qs.cl]; rfl, by unfold PyData.depthAll dpVs; have := q.dp; have := qs.dp; omega⟩
end
section
variable {X : Cx} {Γ : Gam} {M M' : Mem} {P : Val → Mem → Prop} {e a b c o : Expr} {pos p1 : Pos} {sts : List Stmt} {k : AK} {d d1 d2 v w : Val} {n : Nat} {i j : Int}
theorem cmp_neV (h1 : Vw M d1 v) (h2 : Vw M d2 w) (h : v = w) (hd : dtV v) (hp : dpV v ≤ 60) (hu : X.A.units + 64 < cLine) : Cmp X .NotEq M d1 d2 false := by
  subst h
  obtain ⟨p, q⟩ := dtd v hd
  have hs : SeqAt.shaped p = true := Bool.and_eq_true_iff.mpr ⟨q.cl, decide_eq_true (by have := q.dp; omega)⟩
  have := cmp_neD (X := X) h1 h2 q.td q.td hs hs hu
  rwa [SeqAt.eqv_refl _ q.cl] at this
theorem cmp_neT (h : i ≠ j) : Cmp X .NotEq M (.int i) (.int j) true := cmp_neI.eq (by simp [h])
theorem cmp_gtF (h : i ≤ j) : Cmp X .Gt M (.int i) (.int j) false := cmp_gt.eq (by simp; omega)
theorem cmp_eqST {x y : Str} (h : x = y) : Cmp X .Eq M (.str x) (.str y) true := cmp_eqS.eq (by simp [h])
theorem cmp_eqSF {x y : Str} (h : x ≠ y) : Cmp X .Eq M (.str x) (.str y) false := cmp_eqS.eq (by simp [h])
theorem cmp_neSF {x y : Str} (h : x = y) : Cmp X .NotEq M (.str x) (.str y) false := cmp_neS.eq (by simp [h])
theorem cmp_neST {x y : Str} (h : x ≠ y) : Cmp X .NotEq M (.str x) (.str y) true := cmp_neS.eq (by simp [h])
theorem atI_ixis {M : Mem} {x : Val} {i : Int} {d : Val} (h : IxIs M x i d) : ∃ xs, Sq M x xs ∧ atI xs i = some d := by
  cases h with
  | iT h0 h1 => exact ⟨_, .t, atI_int h0 h1⟩
  | iL h0 h1 => exact ⟨_, .l (.self _), atI_int h0 h1⟩
  | ci n hm h0 h1 => exact ⟨_, .l (.lst n hm), atI_int h0 h1⟩
  | t h => exact ⟨_, .t, h⟩
  | l h => exact ⟨_, .l (.self _), h⟩
  | c n hm h => exact ⟨_, .l (.lst n hm), h⟩
theorem av_powC {v : Int} (ha : aV X a Γ M (.int i)) (hb : aV X b Γ M (.int j)) (hc : CPow i j) (h : i ^ j.toNat = v) : aV X (.BinOp a .Pow b pos) Γ M (.int v) := by
  rw [← h]
  exact av_pow ha hb hc
/-- xs[i], either part changing cells -/
theorem ae_ixV (h : aE X a Γ M fun x M1 => aE X b Γ M1 fun y M2 => ∃ i d, y = .int i ∧ IxIs M2 x i d ∧ P d M2) (hs : PlainIx b := by exact fun _ _ => rfl) : aE X (.Subscript a b pos) Γ M P :=
  ae_ixM (h.mono fun x M1 h1 => h1.mono fun y M2 ⟨i, d, e, hi, hp⟩ => by
    obtain ⟨xs, h2, h3⟩ := atI_ixis hi
    exact ⟨i, xs, d, e, h2, h3, hp⟩) hs
end
end Ab
namespace Ab
open PySem PySem.Spec PyProof.Rows L2
end Ab
/-! defs that say super(): judgements at the def's own code -/
namespace Ab
open PySem PySem.Spec PyProof.Rows L2 NdefX
def zE (X : Cx) (body : List Stmt) (e : Expr) (Γ : Gam) (M : Mem) (P : Val → Mem → Prop) : Prop := ∀ Hi H σ pins s, Ok X.K Hi M H → EnvR X.K Hi Γ σ → Inv X pins σ H s → ∀ Q : VK, Post X.K Hi P Q → PySem.wpAt (model X.prog X.w) X.A (.func body X.env) (eval e X.env) (EP X pins σ Q) X.xe s
structure ZR (X : Cx) (pins : List (Addr × Obj)) (Hi : Hp) (k : AK) (Φ : Flow → Shared → Prop) : Prop where
  nx : ∀ Γ M σ Hi' H' s', k.nx Γ M → Same Hi Hi' → Ok X.K Hi' M H' → EnvR X.K Hi' Γ σ → Inv X pins σ H' s' → Φ .next s'
  rt : ∀ d M v u σ Hi' H' s', k.rt d M → Same Hi Hi' → Ok X.K Hi' M H' → Rep X.K Hi' d v → Inv X pins σ H' s' → RelV v u → Φ (.ret u) s'
  bk : ∀ Γ M σ Hi' H' s', k.bk Γ M → Same Hi Hi' → Ok X.K Hi' M H' → EnvR X.K Hi' Γ σ → Inv X pins σ H' s' → Φ .brk s'
  ct : ∀ Γ M σ Hi' H' s', k.ct Γ M → Same Hi Hi' → Ok X.K Hi' M H' → EnvR X.K Hi' Γ σ → Inv X pins σ H' s' → Φ .cont s'
def zS (X : Cx) (body : List Stmt) (st : Stmt) (Γ : Gam) (M : Mem) (k : AK) : Prop := ∀ Hi H σ pins s, Ok X.K Hi M H → EnvR X.K Hi Γ σ → Inv X pins σ H s → ∀ Φ, ZR X pins Hi k Φ → PySem.wpAt (model X.prog X.w) X.A (.func body X.env) (exec st X.env) Φ X.xe s
def zSs (X : Cx) (body : List Stmt) (sts : List Stmt) (Γ : Gam) (M : Mem) (k : AK) : Prop := ∀ Hi H σ pins s, Ok X.K Hi M H → EnvR X.K Hi Γ σ → Inv X pins σ H s → ∀ Φ, ZR X pins Hi k Φ → PySem.wpAt (model X.prog X.w) X.A (.func body X.env) (execs sts X.env) Φ X.xe s
theorem ZR.up {X : Cx} {pins : List (Addr × Obj)} {Hi Hi1 : Hp} {k : AK} {Φ : Flow → Shared → Prop} (h : ZR X pins Hi k Φ) (e : Same Hi Hi1) : ZR X pins Hi1 k Φ :=
  ⟨fun Γ M σ Hi' H' s' p q => h.nx Γ M σ Hi' H' s' p (e.trans q), fun d M v u σ Hi' H' s' p q => h.rt d M v u σ Hi' H' s' p (e.trans q), fun Γ M σ Hi' H' s' p q => h.bk Γ M σ Hi' H' s' p (e.trans q), fun Γ M σ Hi' H' s' p q => h.ct Γ M σ Hi' H' s' p (e.trans q)⟩
section
variable {X : Cx} {body : List Stmt} {Γ : Gam} {M : Mem} {P : Val → Mem → Prop} {e a b c : Expr} {es : List Expr} {pos p0 p1 apos : Pos} {k : AK} {d : Val} {st : Stmt} {sts s1 s2 : List Stmt} {x m : Str}
/-- the ends that fit -/
def zD (X : Cx) (pins : List (Addr × Obj)) (Φ : Flow → Shared → Prop) : Ends where
  nx := fun σ' H' => ∀ s', Inv X pins σ' H' s' → Φ .next s'
  rt := fun v H' => ∀ σ' u s', Inv X pins σ' H' s' → RelV v u → Φ (.ret u) s'
  bk := fun σ' H' => ∀ s', Inv X pins σ' H' s' → Φ .brk s'
  ct := fun σ' H' => ∀ s', Inv X pins σ' H' s' → Φ .cont s'
theorem zr_real {pins : List (Addr × Obj)} {Hi : Hp} {Φ : Flow → Shared → Prop} (h : ZR X pins Hi k Φ) : Real X.K Hi k (zD X pins Φ) :=
  ⟨fun Γ M σ Hi' H' p q o en s' I => h.nx Γ M σ Hi' H' s' p q o en I, fun d M v Hi' H' p q o r σ' u s' I rv => h.rt d M v u σ' Hi' H' s' p q o r I rv, fun Γ M σ Hi' H' p q o en s' I => h.bk Γ M σ Hi' H' s' p q o en I, fun Γ M σ Hi' H' p q o en s' I => h.ct Γ M σ Hi' H' s' p q o en I⟩
theorem sp_phi {pins : List (Addr × Obj)} {Φ : Flow → Shared → Prop} {f : Flow} {s' : Shared} (h : SP X pins (zD X pins Φ) f s') : Φ f s' := by
  cases f with
  | next => obtain ⟨σ, H, I, q⟩ := h; exact q s' I
  | brk => obtain ⟨σ, H, I, q⟩ := h; exact q s' I
  | cont => obtain ⟨σ, H, I, q⟩ := h; exact q s' I
  | ret u => obtain ⟨v, σ, H, I, r, q⟩ := h; exact q σ u s' I r
theorem zs_of (h : aSs X sts Γ M k) : zSs X body sts Γ M k := fun Hi H σ pins s ok en I Φ q => wpAt_of_wpAny (wpAny_mono (pss_wb.run pins s σ H _ I (h Hi H σ ok en _ (zr_real q))) (fun _ _ z => sp_phi z) fun _ _ z => z)
theorem zs_cons (h : zS X body st Γ M { k with nx := fun Γ' M' => zSs X body sts Γ' M' k }) : zSs X body (st :: sts) Γ M k := fun Hi H σ pins s ok en I Φ q => by
  refine ks_wpAt_execs_cons (h Hi H σ pins s ok en I _ ⟨fun Γ' M' σ' Hi' H' s' p e o en' I' => ?_, fun d M v u σ' Hi' H' s' p e o r I' rv => ?_, fun Γ' M' σ' Hi' H' s' p e o en' I' => ?_, fun Γ' M' σ' Hi' H' s' p e o en' I' => ?_⟩)
  · exact p Hi' H' σ' pins s' o en' I' Φ (q.up e)
  · exact q.rt d M v u σ' Hi' H' s' p e o r I' rv
  · exact q.bk Γ' M' σ' Hi' H' s' p e o en' I'
  · exact q.ct Γ' M' σ' Hi' H' s' p e o en' I'
theorem zs_nil (h : k.nx Γ M) : zSs X body [] Γ M k := zs_of (as_nil h)
theorem zs_one (h : zS X body st Γ M k) : zSs X body [st] Γ M k := fun Hi H σ pins s ok en I Φ q => by
  refine ks_wpAt_execs_cons (h Hi H σ pins s ok en I _ ⟨fun Γ' M' σ' Hi' H' s' p e o en' I' => ?_, fun d M v u σ' Hi' H' s' p e o r I' rv => ?_, fun Γ' M' σ' Hi' H' s' p e o en' I' => ?_, fun Γ' M' σ' Hi' H' s' p e o en' I' => ?_⟩)
  · exact zs_nil (k := k) p Hi' H' σ' pins s' o en' I' Φ (q.up e)
  · exact q.rt d M v u σ' Hi' H' s' p e o r I' rv
  · exact q.bk Γ' M' σ' Hi' H' s' p e o en' I'
  · exact q.ct Γ' M' σ' Hi' H' s' p e o en' I'
/-! ### super().m(e, ..) -/
/-- what the written part says of super() in a method at f of the class at D, for an instance of the class at C -/
structure Sup (K : PySem.W.Frag) (prog : Program) (f cda cc D C f2 : Addr) (m : Str) : Prop where
  fn : ∃ oc od fd osl ar, K.lookup f = some ⟨oc, od, .func fd, osl⟩ ∧ (fd.params.posonlyargs ++ fd.params.args).head? = some ar ∧ ar.arg = ("self" : Str)
  cd : ∃ ccl cdd vs ccs file tf, K.lookup cda = some ⟨ccl, cdd, .fields vs, ccs⟩ ∧ vs[2]? = some (.str file tf) ∧ ((prog.main.file : Str) == file) = true
  cl : ∃ c0 cld csl, K.lookup cc = some ⟨c0, cld, .cell (some (.ref D)), csl⟩
  cD : ∃ cd, PySem.W.clsIn K D = some cd
  sub : PySem.W.mroIn K C (.ref D) = some true
  tp : (prog.main.scope.names.lookup ("super" : Str)).isSome = false
  op : PySem.W.nsIn K cStatics "thirdparty.any" = some none
  fd : PySem.W.ks_superIn K C D m = some (some (.ref f2))
  ty : PySem.W.typeIn K (.ref f2) = some (.type "function")
  fi : PySem.W.fnIn K f2 = true
theorem ze_sup {n q : Nat} {f cda cc D C f2 : Addr} {fs : List (Str × Val)} {sx : ASx} {pl : Sem Bool} (S : Sup X.K X.prog f cda cc D C f2 m) (F : FnX X.prog X.w X.K X.mg X.base n f2 [] (spX X.K sx)) (hr : Rm q X.A) (hq : n ≤ q) (hms : X.mg "super" = none) (c : Cls X.K C)
    (hd : Γ[0]? = some (some d)) (hob : Ob M C d fs) (h : aA X (e :: es) Γ M fun ds M1 => sx (d :: ds) [] M1 P)
    (hN : X.N[0]? = some ("self" : Str) := by rfl) (hk : X.env.scope.kind = .function := by rfl) (hks : X.env.kindOf "super" = some .globalImplicit := by rfl) (hkc : X.env.kindOf "__class__" = some .free := by rfl) (hka : X.env.kindOf "self" = some .local := by rfl)
    (hfu : X.env.func = some f := by rfl) (hco : X.env.code = .ref cda := by rfl) (hcl : X.env.cells.lookup ("__class__" : Str) = some cc := by rfl) (hm : (m == ("__class__" : Str)) = false := by decide)
    (he : starEach (e :: es) X.env = (false, eval e X.env) :: starEach es X.env := by rfl) (hpl : (backTo pos (starEach es X.env)).any (·.1) = false := by rfl)
    (ht : eval (.Call (.Attribute (.Call (.Name "super" p0) [] [] p1) m apos) (e :: es) [] pos) X.env = (do
      let ov ← attributeBase (.Call (.Name "super" p0) [] [] p1) m X.env (eval (.Call (.Name "super" p0) [] [] p1) X.env)
      standAt apos.atName
      let (f, first) ← holding [ov] (getMethod ov m pl)
      callWith pos f first (backTo pos (starEach (e :: es) X.env)) []) := by rfl) : zE X body (.Call (.Attribute (.Call (.Name "super" p0) [] [] p1) m apos) (e :: es) [] pos) Γ M P := fun Hi H σ pins s ok en I Q q' => by
  obtain ⟨oc, od, fd, osl, ar, l1, l2, l3⟩ := S.fn
  obtain ⟨ccl, cdd, vs, ccs, file, tf, k1, k2, k3⟩ := S.cd
  obtain ⟨c0, cld, csl, z1⟩ := S.cl
  obtain ⟨cdD, hcD⟩ := S.cD
  have KX : X.K.In s.heap := I.kIn
  obtain ⟨v, hv, rv⟩ := en.2 0 d hd
  obtain ⟨xa, dx, gs, rfl, hx, rf⟩ := hob.rep ok rv
  obtain ⟨mA, O, _, _, _, _⟩ := ins_get I.hok hx
  obtain ⟨od', IA, _⟩ := O.look
  obtain ⟨oD, hD1, hD2⟩ : ∃ oD, s.heap.get? D = some oD ∧ oD.data = .cls cdD := by
    unfold PySem.W.clsIn at hcD
    split at hcD
    · rename_i c d cd' sl ho
      cases hcD
      exact ⟨_, KX _ _ ho, rfl⟩
    · cases hcD
  obtain ⟨mm, hns, hlk⟩ := I.loc
  obtain ⟨u, ru, lk⟩ := hlk 0 "self" (.ref xa) hN hv (.inl hka)
  obtain rfl : u = Value.ref xa := ru
  have hself : mm "self" = some (Value.ref xa) := by
    rcases lk with ⟨_, h⟩ | ⟨h, _⟩
    · exact h
    · rcases h with h | h <;> rw [hka] at h <;> cases h
  refine ks_wpAt_MethodCall (pl := pl) ?_ ht
  refine ks_wpAt_super_base hks hkc hm hfu (KX _ _ l1) rfl l2 hco (KX _ _ k1) rfl k2 k3 S.tp ?_
  obtain ⟨mb, h1, h2⟩ := I.mod.blt
  refine PySem.W.ks_loadName_global hk hks (Calls.loadGlobal_builtin (by rw [I.ok.glob]; exact I.mod.glob.keeps I.bk) hms (by rw [I.ok.blt]; exact h1.keeps I.bk) ((h2 "super" (by decide)).trans (by decide +kernel)) ⟨rfl, ?_⟩)
  refine wpAny_loadName_free hk hkc hcl ⟨_, KX _ _ z1, rfl⟩ ?_
  rw [l3]
  refine wpAny_loadName_local hk hka hns hself ?_
  refine ks_wpAny_isType_cls hD1 hD2 ⟨rfl, ?_⟩
  obtain ⟨hh, g, dr, t, os⟩ := s
  refine ks_wpAny_call_super hD1 hD2 IA.at_ IA.cls (fun c e => ?_) (PySem.W.looks_mroIn KX S.sub) (fun h' e' kp => ?_)
  · have := IA.no
    unfold PySem.W.notCls at this
    rw [e] at this
    exact Bool.noConfusion this
  have I1 : Inv X pins σ H ⟨h', g, dr, t, os⟩ := I.kept (s := ⟨hh, g, dr, t, os⟩) (t' := t) kp
  have KX1 : X.K.In h' := I1.kIn
  obtain ⟨mA1, O1, _, _, _, _⟩ := ins_get I1.hok hx
  obtain ⟨od1, IA1, _⟩ := O1.look
  cases hc : PySem.W.clsIn X.K C with
  | none =>
    have := S.fd
    unfold PySem.W.ks_superIn at this
    rw [hc] at this
    cases this
  | some cd =>
    have hsup := S.fd
    unfold PySem.W.ks_superIn at hsup
    rw [hc] at hsup
    obtain ⟨of, hof, hofc⟩ : ∃ of, h'.get? f2 = some of ∧ of.cls = .type "function" := by
      have ht' : (X.K.lookup f2).map (·.cls) = some (.type "function") := S.ty
      cases z : X.K.lookup f2 with
      | none => rw [z] at ht'; cases ht'
      | some of => rw [z] at ht'; exact ⟨of, KX1 _ _ z, Option.some.inj ht'⟩
    refine ks_wpAny_getMethod_super e' (PySem.W.looks_opaque KX1 S.op) (l₀ := cd.mro) (fun A Q E s k q => wpAny_bind ((PySem.W.looks_clsIn KX1 hc) A _ E s k (wpAny_pure q))) rfl KX1 hsup hof hofc (PySem.W.ks_ne KX1 IA1 hc) hm ?_
    have I2 : Inv X ((h'.objs.size, PySem.W.methodObj (.ref f2) (.ref xa)) :: pins) σ H ⟨h'.push (PySem.W.methodObj (.ref f2) (.ref xa)), g, dr, t + 1, os⟩ := ClX.pin_new (s := ⟨h', g, dr, t, os⟩) (t' := t + 1) I1 (fun _ _ z => Heap.get?_push_of_some _ z) (Nat.le_refl _) (Heap.get?_push_size h' rfl) (fun v z => nomatch z)
    have hb : X.base.get? h'.objs.size = none := ClX.base_none (s := ⟨h', g, dr, t, os⟩) I1 (Nat.le_refl _)
    refine PySem.W.callWith_M (K := X.K) (h₀ := X.base) (first := []) (q := h'.objs.size) (g := f2) (self := .ref xa) I2.ok.mod.kin (news_at (I2.pin (h'.objs.size, PySem.W.methodObj (.ref f2) (.ref xa)) (List.mem_append_right _ List.mem_cons_self)).2.2.1 hb (ClX.pin_at I2)) List.mem_cons_self S.fi ?_ he hpl
    refine wpAny_mono (pa_wa.run pos _ _ σ H (fun ws H2 => spX X.K sx (.ref xa :: ws) [] H2 Q) I2 (h Hi H σ ok en _ fun ds M1 ws Hi1 H1 p1 e1 o1 r1 => ⟨Hi1, M1, d :: ds, [], P, .cons (rv.mono e1) r1, .nil, o1, p1, q'.up e1⟩)) (fun us s3 z => ?_) fun _ _ z => z
    obtain ⟨ws, H3, I3, rw3, q3⟩ := z
    refine ⟨⟨ClX.pin_at I3, I3.kIn⟩, ?_⟩
    have zz : wpAny (model X.prog X.w) X.A (call (.ref h'.objs.size) us) (EP X ((h'.objs.size, PySem.W.methodObj (.ref f2) (.ref xa)) :: pins) σ Q) X.xe s3 := by
      refine wpAny_call (PySem.W.method_call (ClX.pin_at I3) (codeAny_mono (F.run X.A X.stack s3 H3 (.ref xa :: us) [] (.ref xa :: ws) [] Q (hr.mono hq) I3.env0 (.cons rfl rw3) .nil rfl q3) fun r s' hq => ?_))
      cases r with
      | error e => exact False.elim hq
      | ok fl =>
        cases fl with
        | ret u => exact I3.after hq
        | next => exact False.elim hq
        | brk => exact False.elim hq
        | cont => exact False.elim hq
    exact thn zz fun _ _ y => ClX.unpinE y
end
section
variable {P : Program} {w : World} {K : PySem.W.Frag} {mg : Str → Option Value} {base : Heap} {N ps : List Str} {F : NF} {f cc D : Addr} {k : Nat} {s0 : ASp}
abbrev zcx (P : Program) (w : World) (K : PySem.W.Frag) (mg : Str → Option Value) (base : Heap) (N : List Str) (F : NF) (f : Addr) (A : Around) (outer : List Env) (s : Shared) (H : Hp) : Cx := (ncx CX0 P w K mg base N F f A outer s H E0).nox
/-- what the body of a def that says super() must do -/
abbrev ZBody (P : Program) (w : World) (K : PySem.W.Frag) (mg : Str → Option Value) (base : Heap) (k : Nat) (f : Addr) (N : List Str) (F : NF) (s0 : ASp) : Prop :=
  ∀ A outer s H, Rm k (A.deeper (envF F f s.heap.objs.size)) → ∀ ds M R, s0 ds M R → zSs (zcx P w K mg base N F f A outer s H) F.body F.body (gam N ds) M (kOf R)
theorem fnx_sup {oc c0 : Value} {od cld : Option Addr} {osl csl : Array (Option Value)} {doc pm ctv : Value} (hcl : F.cl = [(("__class__" : Str), cc)]) (lk : K.lookup f = some ⟨oc, od, .func (F.fd doc pm ctv), osl⟩) (hcd : PySem.W.codeIn K (.ref F.c) F.qual = true)
    (hcell : K.lookup cc = some ⟨c0, cld, .cell (some (.ref D)), csl⟩) (S : NScope N ps ["__class__"] F.scope) (hb : ∀ (us : List Value), us.length = ps.length → bindArgs (F.fd doc pm ctv) ⟨us, []⟩ = pure (ps.zip us)) (len : ∀ ds M R, s0 ds M R → ds.length = ps.length)
    (hbody : ZBody P w K mg base k f N F s0) : FnX P w K mg base (k + 1) f [] (spX K fun ds _ => s0 ds) := by
  refine ⟨fun A outer s H us ws vs zs Q hr e0 r rz hz ⟨Hi, M, ds, es, R, ra, re, ok, hs, q⟩ => ?_⟩
  have hl : vs.length = ps.length := ra.length.symm.trans (len _ _ _ hs)
  have KX : K.In s.heap := e0.mod.kin.keeps fun b o e => (e0.bs b o e).1
  have lim : s.heap.NoLimit := e0.mod.nolimit.keeps fun b o e => (e0.bs b o e).1
  have hcb := e0.bs cc _ (e0.mod.kin _ _ hcell)
  have C : CellsAt F.cl ["__class__"] [some (.ref D)] s.heap H := by
    rw [hcl]
    refine ⟨rfl, fun y c h => ?_, fun x y c h1 h2 => ?_, fun i y h => ?_⟩
    · have : c = cc := by
        rw [List.lookup_cons] at h
        split at h
        · exact (Option.some.inj h).symm
        · cases h
      subst this
      exact ⟨hcb.2, _, _, hcb.1, rfl⟩
    · have one : ∀ z : Str, List.lookup z [(("__class__" : Str), cc)] = some c → z = ("__class__" : Str) := fun z h => by
        rw [List.lookup_cons] at h
        split at h
        · rename_i e
          exact eq_of_beq e
        · cases h
      rw [one x h1, one y h2]
    · cases i with
      | zero =>
        cases h
        exact ⟨cc, by rw [List.lookup_cons, beq_self_eq_true], fun v hv => by cases hv; exact ⟨_, rfl, _, hcb.1, rfl⟩⟩
      | succ i => cases h
  have e : ws = [] := List.length_eq_zero_iff.mp (rz.length.symm.trans hz)
  subst e
  refine codeAny_call_function hr.room.depth (KX _ _ lk) rfl S.co S.gen rfl (PySem.W.codeRec_of KX hcd) ?_
  show wpAny _ _ (bindArgs (F.fd doc pm ctv) ⟨us, []⟩) _ _ _
  rw [hb us (by rw [← r.length]; exact hl)]
  refine wpAny_pure (wpAny_newFunctionEnv S.nocell (fun ⟨n, _⟩ hy => S.par n (List.of_mem_zip hy).1) (fun h₁ hns hsb => ⟨lim.fresh _ hsb, ?_⟩) S.kind)
  show codeAny _ _ (.func F.body (envF F f s.heap.objs.size)) _ _
  refine ks_codeAny_funcAt ?_
  have kp : ∀ b o, s.heap.get? b = some o → h₁.get? b = some o := fun b o e => hsb.extBut b o (Nat.ne_of_lt (Heap.lt_size e)) (Heap.get?_push_of_some _ e)
  have I : Inv (ncx CX0 P w K mg base N F f A outer s H E0) [] (startF N vs [some (.ref D)]) H { s with heap := h₁, toks := s.toks + (ps.zip us).length } := inv_startN S hr.room.hd e0 hl r C hns kp
  have hpl : ps.length + 1 ≤ N.length := by
    have q := congrArg List.length S.pre
    rw [List.length_take, List.length_append] at q
    have : (["__class__"] : List Str).length = 1 := rfl
    omega
  have en : EnvR K Hi (gam N ds) (startF N vs [some (.ref D)]) := by
    have h0 := env_start (N := N) ra
    refine ⟨?_, fun i d hd => ?_⟩
    · unfold gam startF
      rw [List.length_append, List.length_append, List.length_append, List.length_map, List.length_map, List.length_replicate, List.length_replicate, ra.length]
      have : ([some (V.ref D)] : List (Option V)).length = 1 := rfl
      omega
    · obtain ⟨v, h1, h2⟩ := h0.2 i d hd
      refine ⟨v, ?_, h2⟩
      unfold L2.start at h1
      unfold startF
      by_cases hi : i < (vs.map some).length
      · rw [List.getElem?_append_left hi] at h1 ⊢
        exact h1
      · rw [List.getElem?_append_right (by omega), List.getElem?_replicate] at h1
        split at h1 <;> cases h1
  refine PySem.wpAt_mono (hbody A outer s H (hr.deeper _) ds M R hs Hi H _ [] _ ok en (I.wish _) (fun fl s' => CE outer P w H s Q (match fl with | .ret u => u | _ => .none) s') ⟨fun Γ M' σ' Hi' H' s' p e o en' J => ?_, fun d M' v u σ' Hi' H' s' p e o r' J rv => ?_, fun Γ M' σ' Hi' H' s' p => p.elim, fun Γ M' σ' Hi' H' s' p => p.elim⟩) (fun fl s' z => z) fun _ _ z => z.elim
  · exact ⟨.non, H', J.os, J.bare, J.base, J.hok, rfl, p.post q e o .non⟩
  · exact ⟨v, H', J.os, J.bare, J.base, J.hok, rv, p.post q e o r'⟩
end
end Ab
/-! methods of instances that stand in boxes -/
namespace Ab
open PySem PySem.Spec PyProof.Rows L2
/-- d is an instance of the class at C without an attribute m of its own -/
def ObM (M : Mem) (C : Addr) (d : Val) (m : Str) : Prop := ∀ K Hi H v, Ok K Hi M H → Rep K Hi d v → ∃ p dx gs, v = .ref p ∧ H p = some (.ins C dx gs) ∧ gs.lookup m = none
theorem Ob.obM {M : Mem} {C : Addr} {d : Val} {fs : List (Str × Val)} {m : Str} (h : Ob M C d fs) (hl : fs.lookup m = none) : ObM M C d m := fun K Hi H v ok r => by
  obtain ⟨p, dx, gs, h1, h2, h3⟩ := h.rep ok r
  exact ⟨p, dx, gs, h1, h2, h3.none hl⟩
end Ab
/-! two keywords in the other order -/
namespace Ab
open PySem PySem.Spec PyProof.Rows L2
end Ab
/-! list.extend -/
namespace Ab
open PySem PySem.Spec PyProof.Rows L2
end Ab
/-! Ab35: statements that end in more than one way are joined; boxes are weakened. -/
namespace Ab
open PySem PySem.Spec PyProof.Rows L2
section
variable {X : Cx} {Γ Γ1 : Gam} {M : Mem} {k : AK} {st : Stmt} {sts : List Stmt} {p : Addr} {φ φ' : Mem0 → Prop}
theorem aS.mono {k' : AK} (h : aS X st Γ M k) (f1 : ∀ Γ M, k.nx Γ M → k'.nx Γ M) (f2 : ∀ d M, k.rt d M → k'.rt d M) (f3 : ∀ Γ M, k.bk Γ M → k'.bk Γ M) (f4 : ∀ Γ M, k.ct Γ M → k'.ct Γ M) : aS X st Γ M k' := fun Hi H σ ok en D q =>
  h Hi H σ ok en D ⟨fun Γ M σ Hi' H' p => q.nx Γ M σ Hi' H' (f1 Γ M p), fun d M v Hi' H' p => q.rt d M v Hi' H' (f2 d M p), fun Γ M σ Hi' H' p => q.bk Γ M σ Hi' H' (f3 Γ M p), fun Γ M σ Hi' H' p => q.ct Γ M σ Hi' H' (f4 Γ M p)⟩
end
end Ab
/-! Ab36: own exception classes over any built-in base: made by an own __init__ that calls the base's and stores fields. -/
namespace Ab
open PySem PySem.Spec PyProof.Rows L2
structure XCl (K : PySem.W.Frag) (C : Addr) (B newId initId : String) (tl : List Value) : Prop where
  fb : ExcBaseFacts B newId initId tl
  sf : StoreFacts B tl "object.__setattr__" "object"
  ini : PySem.W.excInitIn K C tl newId = true
  ovr : PySem.W.excOver K C tl = true
  hd : PySem.W.hasDictIn K C = true
  sa : PySem.W.findIn K (.ref C) "__setattr__" = some (some (.builtin "object.__setattr__"))
  exC : PySem.W.subIn K (.ref C) (.type "BaseException") = some true
  tyC : PySem.W.typeIn K (.ref C) = some (.type "type")
  kC : PySem.W.keepIn K (.ref C) = true
section
open Builtin.ObjectAttr
variable {prog : Program} {w : World} {A : Around} {E : Value → Shared → Prop} {R : Result → Shared → Prop} {hp : Heap} {g : Array GenState} {d : Drawn} {t : Nat} {os : OsState}
variable {K : PySem.W.Frag} {C : Addr} {B newId initId : String} {tl : List Value}
theorem XCl.cd (T : XCl K C B newId initId tl) : ∃ cd, PySem.W.clsIn K C = some cd ∧ cd.hasDict = true := by
  have h0 := T.hd
  unfold PySem.W.hasDictIn at h0
  cases e : PySem.W.clsIn K C with
  | none => simp [e] at h0
  | some c0 => exact ⟨c0, rfl, by simpa [e] using h0⟩
/-- the first field -/
theorem xo_new {nm : Str} {tk : Tok} {v : Value} {x : Addr} {fv : Array Value} (T : XCl K C B newId initId tl) (KX : K.In hp) (hx : hp.get? x = some { cls := .ref C, data := .fields fv }) (ha : PySem.W.findIn K (.ref C) nm = some none)
    (hq : ∀ h' tk' dx, (∀ b o, b ≠ x → hp.get? b = some o → h'.get? b = some o) → hp.objs.size ≤ dx → dx ≠ x → h'.get? x = some { cls := .ref C, dict := some dx, data := .fields fv } → h'.Ns1 dx (fun y => if y = nm then some v else none) → R (.ok (.ret .none)) ⟨h', g, d, tk', os⟩) :
    codeAny (model prog w) A (.call (.builtin "object.__setattr__") ⟨[.ref x, .str nm tk, v], []⟩) R ⟨hp, g, d, t, os⟩ := by
  obtain ⟨cd, hcd, hdd⟩ := T.cd
  have hxs : x ≠ hp.objs.size := Nat.ne_of_lt (Heap.lt_size hx)
  have Lc : PySem.W.Looks (model prog w) hp (classData C) cd := PySem.W.looks_clsIn KX hcd
  refine PySem.W.osa_openX (od := none) T.sf KX (⟨hx, rfl, rfl, trivial⟩ : PySem.W.InstAt hp x { cls := .ref C, data := .fields fv } C none) T.ovr (r := none) (by unfold PySem.W.takerIn; rw [ha]; rfl) fun b0 => ?_
  show wpAny _ _ (storeInOwnDict (.ref x) (.ref C) (.str nm tk) nm v b0) _ _ _
  obtain ⟨n0, b1, b2, b3, b4, b5, b6, b7, b8, b9, b10⟩ := cd
  dsimp only at hdd
  subst hdd
  unfold storeInOwnDict ownDictForStores
  repeat (first | with_reducible refine PySem.HandSPX.store_in_new ?_ ?_ | with_reducible refine wpAny_loadPart_at hx ?_ | with_reducible refine Lc.at ?_ | wp_step)
  · exact ⟨_, #[], _, (Heap.get?_update_ne _ _ _ _ hxs.symm).trans (Heap.get?_push_at rfl rfl), rfl, fun z1 z2 => absurd z2 (by simp), fun _ => rfl⟩
  · intro h' tk' hn' hs
    have hx1 : (hp.push { cls := .type "dict", data := .dict #[] }).get? x = some { cls := .ref C, data := .fields fv } := Heap.get?_push_of_some _ hx
    refine hq h' tk' hp.objs.size (fun b1 o1 z1 z2 => ?_) (Nat.le_refl _) hxs.symm ?_ hn'
    · exact (hs.2 b1 (Nat.ne_of_lt (Heap.lt_size z2))).trans ((Heap.get?_update_ne _ _ _ _ z1).trans (Heap.get?_push_of_some _ z2))
    · exact (hs.2 x hxs).trans (Heap.get?_update_self _ hx1 rfl)
/-- a further field -/
theorem xo_old {nm : Str} {tk : Tok} {v : Value} {x dx : Addr} {fv : Array Value} {m0 : Str → Option Value} {nl : List Str} (T : XCl K C B newId initId tl) (KX : K.In hp) (hx : hp.get? x = some { cls := .ref C, dict := some dx, data := .fields fv }) (hns : hp.Ns1 dx m0) (hw : Within m0 nl) (hz : nl.length ≤ 1000) (ha : PySem.W.findIn K (.ref C) nm = some none)
    (hq : ∀ h' tk', (∀ b o, b ≠ dx → hp.get? b = some o → h'.get? b = some o) → h'.Ns1 dx (fun y => if y = nm then some v else m0 y) → R (.ok (.ret .none)) ⟨h', g, d, tk', os⟩) :
    codeAny (model prog w) A (.call (.builtin "object.__setattr__") ⟨[.ref x, .str nm tk, v], []⟩) R ⟨hp, g, d, t, os⟩ := by
  obtain ⟨cd, hcd, hdd⟩ := T.cd
  obtain ⟨o2, _, _, ho2, _, _⟩ := hns.count hw
  have Lc : PySem.W.Looks (model prog w) hp (classData C) cd := PySem.W.looks_clsIn KX hcd
  refine PySem.W.osa_openX (od := some o2) T.sf KX (⟨hx, rfl, rfl, ho2⟩ : PySem.W.InstAt hp x { cls := .ref C, dict := some dx, data := .fields fv } C (some o2)) T.ovr (r := none) (by unfold PySem.W.takerIn; rw [ha]; rfl) fun b0 => ?_
  show wpAny _ _ (storeInOwnDict (.ref x) (.ref C) (.str nm tk) nm v b0) _ _ _
  obtain ⟨n0, b1, b2, b3, b4, b5, b6, b7, b8, b9, b10⟩ := cd
  dsimp only at hdd
  subst hdd
  unfold storeInOwnDict ownDictForStores
  repeat (first | with_reducible refine PySem.OEX.store_in_old hns hw hz ?_ | with_reducible refine wpAny_loadPart_at hx ?_ | with_reducible refine Lc.at ?_ | wp_step)
  intro h' tk' hn' hs
  exact hq h' tk' (fun b1 o1 z1 z2 => (hs.2 b1 z1).trans z2) hn'
end
section
variable {X : Cx} {pins : List (Addr × Obj)} {σ : L2.St} {H : Hp} {s : Shared} {a C dx : Addr} {f : Str} {y : V} {u : Value} {fs : List (Str × V)} {E : Value → Shared → Prop} {A : Around} {B newId initId : String} {tl : List Value}
/-- Base.__init__(self, ..): nothing of it is told -/
theorem x_init {us : List Value} {Q : Value → Shared → Prop} (T : XCl X.K C B newId initId tl) (I : Inv X pins σ H s) (e : H a = some (exo a C none)) (hl : us.length ≤ sizeLine) (h : ∀ s', Inv X pins σ H s' → Q .none s') :
    wpAny (model X.prog X.w) A (call (.builtin initId) (.ref a :: us)) Q E s := by
  obtain ⟨t1, w1⟩ := exo_at I.hok e
  obtain ⟨n1, n2, n3, n4, bm, n5, n6, n7, n8, n9, n10, n11, n12, n13, n14, n15, hC, hT⟩ := PySem.W.excInit_of I.kIn T.ini
  obtain ⟨hp, g, d, t, os⟩ := s
  refine wpAny_call (PySem.HandSPX.init_base T.fb hT hC w1 hl fun h' t2 k1 w2 => ?_)
  have J := Inv.write (t' := t) (x := a) (o := exo a C none) I (by rw [e]; exact True.intro) (.inl rfl) k1 ⟨_, w2⟩ (exo_ok w2)
  rw [show upd H a (exo a C none) = H from funext fun b => by
    by_cases hb : b = a
    · subst hb; rw [upd_same, e]
    · exact upd_ne hb] at J
  exact h _ J
/-- self.f = y, the first field -/
theorem x_new {Q : Unit → Shared → Prop} (T : XCl X.K C B newId initId tl) (I : Inv X pins σ H s) (e : H a = some (exo a C none)) (hno : PySem.W.findIn X.K (.ref C) f = some none) (ry : RelV y u)
    (h : ∀ dx s', H dx = none → dx ≠ a → Inv X pins σ (upd (upd H dx (exd dx [(f, y)])) a (exo a C (some dx))) s' → Q () s') : wpAny (model X.prog X.w) A (setAttr (.ref a) f u) Q E s := by
  obtain ⟨t1, w1⟩ := exo_at I.hok e
  obtain ⟨hp, g, d, t, os⟩ := s
  refine PySem.W.set_plain I.kIn (od := none) (ox := { cls := .ref C, dict := none, data := .fields #[.ref t1, .none, .none, .none, .bool false, .none] }) ⟨w1, rfl, rfl, trivial⟩ T.sa ?_
  refine xo_new T I.kIn w1 hno (fun h' tk' dx k1 dn dne w2 hn => ?_)
  have hnd : H dx = none := I.hok.fresh dn
  have nd : ∀ {b : Addr} {o : Obj}, hp.get? b = some o → b ≠ dx := fun {b o} z => Nat.ne_of_lt (Nat.lt_of_lt_of_le (Heap.lt_size z) dn)
  have na : ∀ {b : Addr}, H b = none → b ≠ a := fun {b} z1 z2 => by
    subst z2
    rw [e] at z1
    cases z1
  refine h dx _ hnd dne (I.un (t' := tk') ⟨fun b o z z2 _ _ => k1 b o (na z2) z, fun b o z z2 _ _ => ⟨o.slots, k1 b o (na z2) z⟩, fun b o z z2 _ => by rw [upd_ne (na z2), upd_ne (nd z)]; exact z2, fun b o z _ => ?_, fun b xs z => ?_, fun b o v z => ?_, fun b ps z => ?_⟩ fun b o z => ?_)
  · by_cases hb : b = a
    · subst hb
      exact ⟨_, w2⟩
    · exact ⟨o, k1 b o hb z⟩
  · rw [upd_ne (at_ne e z exo_tup), upd_ne (ne_of_none z hnd)]
    exact z
  · rw [upd_ne (at_ne e z exo_frz), upd_ne (ne_of_none z hnd)]
    exact z
  · refine ⟨#[], ?_⟩
    rw [upd_ne (at_ne e z exo_tbl), upd_ne (ne_of_none z hnd), z]
    simp
  · by_cases hb : b = a
    · subst hb
      rw [upd_same] at z
      cases z
      exact exo_ok w2
    · rw [upd_ne hb] at z
      by_cases hd : b = dx
      · subst hd
        rw [upd_same] at z
        cases z
        exact exd_ok hn (relO_put (fs := []) ry fun _ => True.intro)
      · rw [upd_ne hd] at z
        refine (I.hok b o z).stay (fun c v hc z2 => k1 c v ?_ z2) (fun c hc => ?_) (fun c xs hc => ?_)
        · rcases hc with z3 | z3
          · rw [z3]; exact hb
          · exact at_ne e z3 exo_own
        · rw [upd_ne (at_ne e hc exo_own), upd_ne (ne_of_none hc hnd)]
          exact hc
        · rw [upd_ne (at_ne e hc exo_tup), upd_ne (ne_of_none hc hnd)]
          exact hc
/-- self.f = y, a further field -/
theorem x_old {Q : Unit → Shared → Prop} (T : XCl X.K C B newId initId tl) (I : Inv X pins σ H s) (e : H a = some (exo a C (some dx))) (ed : H dx = some (exd dx fs)) (hl : fs.length ≤ 900) (hno : PySem.W.findIn X.K (.ref C) f = some none) (ry : RelV y u)
    (h : ∀ s', Inv X pins σ (upd H dx (exd dx ((f, y) :: fs))) s' → Q () s') : wpAny (model X.prog X.w) A (setAttr (.ref a) f u) Q E s := by
  obtain ⟨t1, w1⟩ := exo_at I.hok e
  obtain ⟨mA, hns, rel⟩ := exd_at I.hok ed
  obtain ⟨o2, _, _, ho2, _, _⟩ := hns.count (within_of rel)
  obtain ⟨hp, g, d, t, os⟩ := s
  refine PySem.W.set_plain I.kIn (od := some o2) (ox := { cls := .ref C, dict := some dx, data := .fields #[.ref t1, .none, .none, .none, .bool false, .none] }) ⟨w1, rfl, rfl, ho2⟩ T.sa ?_
  refine xo_old T I.kIn w1 hns (within_of rel) (by rw [List.length_map]; omega) hno (fun h' tk' k1 hn => ?_)
  refine h _ (Inv.write (t' := tk') (x := dx) (e := dx) (o := exd dx ((f, y) :: fs)) I (by rw [ed]; exact True.intro) (.inl rfl) k1 ?_ (exd_ok hn (relO_put ry rel)))
  obtain ⟨o3, _, _, w3, _⟩ := hn
  exact ⟨o3, w3⟩
end
end Ab
/-! Ab37: the __init__ of an own exception class; C(..) makes an exception. -/
namespace Ab
open PySem PySem.Spec PyProof.Rows L2
section
variable {X : Cx} {B newId initId : String} {tl : List Value} {o e : Expr} {es : List Expr} {to te : TE} {ta : TA} {f : Str} {p p' p1 p2 pos : Pos}
/-- Base.__init__(self, ..), Base an own class -/
theorem px_init {C0 : Addr} {xb : Str} {pl : Sem Bool} (hh : PySem.W.handedIn (.builtin initId) = true) (r : ClX.CRead X.K C0 (.type "type")) (fv : PySem.W.findCls X.K (.ref C0) (.type "type") "__init__" = some (.val (.builtin initId))) (hg : Gl X xb) (hm : X.mg xb = some (.ref C0)) (ha : PA X (e :: es) ta)
    (hc : eval (.Call (.Attribute (.Name xb p1) "__init__" p2) (e :: es) [] pos) X.env = (do
      let v0 ← eval (.Name xb p1) X.env
      standAt p2.atName
      let (f0, first) ← holding [v0] (getMethod v0 "__init__" pl)
      callWith pos f0 first (backTo pos (starEach (e :: es) X.env)) (backToKw pos (keywordEach [] X.env))) := by rfl)
    (he : starEach (e :: es) X.env = (false, eval e X.env) :: starEach es X.env := by rfl) (hpl : (backTo pos (starEach es X.env)).any (·.1) = false := by rfl) (hdb : (xb == ("__debug__" : Str)) = false := by decide) :
    PE X (.Call (.Attribute (.Name xb p1) "__init__" p2) (e :: es) [] pos) (fun σ H Q => ta σ H fun vs H1 => ∃ (a C : Addr) (ws : List V), vs = .ref a :: ws ∧ ws.length ≤ 1000 ∧ XCl X.K C B newId initId tl ∧ H1 a = some (exo a C none) ∧ Q .non H1) := by
  refine ⟨fun pins s σ H Q I h => PySem.W.methodCall_KW (pl := pl) (ld_glob I hg hm ?_ hdb) hc⟩
  refine PySem.W.method_cls I.kIn r.ga (PySem.W.cls_value I.kIn r.rd fv hh ?_)
  show wpAny _ _ (callWith pos (Value.builtin initId) [] (backTo pos (starEach (e :: es) X.env)) []) _ _ _
  refine PyProof.Rows.callWith_method1 (thn (ha.run pos pins _ σ H _ (I.tok _) h) fun us s1 ⟨vs, H1, I1, r1, a, C, ws, ev, hl, T, ea, q⟩ => ?_) he hpl
  subst ev
  cases r1 with
  | @cons _ u0 _ ur ra rr =>
    obtain rfl : u0 = Value.ref a := ra
    exact x_init T I1 ea (by rw [← Paired.length rr, sizeLine_eq]; omega) fun s' J => ⟨.non, H1, J, rfl, q⟩
/-- self.f = e -/
theorem qx_set (ho : PE X o to) (he : PE X e te) (hs : swapsWith e (some (.Attribute o f p')) pos.line X.env = pure false := by rfl) :
    PS X (.Assign [.Attribute o f p'] e pos) (fun D σ H => te σ H fun y H1 => to σ H1 fun x H2 => ∃ a C : Addr, x = .ref a ∧ XCl X.K C B newId initId tl ∧ PySem.W.findIn X.K (.ref C) f = some none ∧
      ((H2 a = some (exo a C none) ∧ ∀ dx, H2 dx = none → dx ≠ a → D.nx σ (upd (upd H2 dx (exd dx [(f, y)])) a (exo a C (some dx)))) ∨
        ∃ (dx : Addr) (fs : List (Str × V)), H2 a = some (exo a C (some dx)) ∧ H2 dx = some (exd dx fs) ∧ fs.length ≤ 900 ∧ D.nx σ (upd H2 dx (exd dx ((f, y) :: fs))))) := by
  refine ⟨fun pins s σ H D I h => plainObj_wpAny_Assign_Attribute (thn (he.run pins s σ H _ I h) fun v s1 ⟨y, H1, I1, r1, q1⟩ => thn (ho.run pins s1 σ H1 _ I1 q1) fun u s2 ⟨x, H2, I2, r2, a, C, ex, T, hno, q⟩ => ?_) hs⟩
  subst ex
  obtain rfl : u = Value.ref a := r2
  rcases q with ⟨ea, q⟩ | ⟨dx, fs, ea, ed, hl, q⟩
  · exact x_new T I2 ea hno r1 fun dx s' n1 n2 J => ⟨σ, _, J, q dx n1 n2⟩
  · exact x_old T I2 ea ed hl hno r1 fun s' J => ⟨σ, _, J, q⟩
end
/-! ### a def told by readings -/
section
variable {P : Program} {w : World} {K : PySem.W.Frag} {mg : Str → Option Value} {base : Heap} {x qual : Str} {f : Addr} {fd : FuncData}
theorem fnx_raw {params : Arguments} {body : List Stmt} {sc : Scope} {kws : List (Str × V)} {N ps : List Str} {k : Nat} {sp : List V → Hp → VK → Prop} (F : FunD K x qual params body sc [] kws f fd) (S : FnScope N ps sc)
    (h : ∀ (kV doc pm : Value) (an : Option Addr) (cdv ct : Value) (us : List Value), us.length = ps.length → bindArgs (PySem.W.fnOf x qual params body sc .none kV doc pm an cdv ct) ⟨us, []⟩ = pure (ps.zip us))
    (hb : ∀ cdv A outer s H, Rm k (A.deeper (envOfC qual sc s.heap.objs.size f cdv)) → Mod K mg base → ∀ vs Q, sp vs H Q → ∃ t, PSs (cxOf CX0 P w K mg base N qual sc f cdv A outer s H E0) body t ∧ t { nx := fun _ H' => Q .non H', rt := Q } (L2.start N vs) H) :
    FnX P w K mg base (k + 1) f [] fun vs _ H Q => vs.length = ps.length ∧ sp vs H Q := by
  refine ⟨fun A outer s H us ws vs zs Q hr e0 r rz hz ⟨hl, hs⟩ => ?_⟩
  obtain ⟨oc, od, dV, kV, doc, pm, an, cdv, ct, osl, rfl, lk, hcd, hD, _⟩ := F.ex
  obtain ⟨_, rfl⟩ : ([] : List V) = [] ∧ dV = .none := by
    rcases hD with h | ⟨e, _⟩
    · exact h
    · exact absurd rfl e
  obtain rfl : ws = [] := by
    have : zs = [] := List.length_eq_zero_iff.mp hz
    subst this
    cases rz
    rfl
  refine StX.run_bnd (CX := CX0) (E := E0) (G := fun vs' H2 => vs' = vs ∧ H2 = H) lk hcd S hr.room e0 (fun A' Ex Q' h' => ?_) fun s2 H2 vs' hG hr' => ?_
  · exact BindsTo.of_eq (h kV doc pm an cdv ct us (by rw [← r.length]; exact hl)) _ _ _ _ (h' s H vs us e0 Un.refl rfl (fun _ _ z => z) r hl ⟨rfl, rfl⟩)
  · obtain ⟨rfl, rfl⟩ := hG
    exact hb cdv A outer s2 H2 (hr.deeper _) e0.mod vs' Q hs
end
/-! ### C(e, ..) -/
/-- what C(..) wants and gives: fs the fields, the last one first -/
abbrev SpI (C : Addr) (g : List V → List (Str × V)) (n : Nat) : List V → List V → Hp → VK → Prop := fun vs _ H Q => ∃ a ws, vs = .ref a :: ws ∧ ws.length = n ∧ H a = some (exo a C none) ∧ ∀ dx, H dx = none → dx ≠ a → Q .non (upd (upd H dx (exd dx (g ws))) a (exo a C (some dx)))
section
variable {X : Cx} {B newId initId : String} {tl : List Value} {x : Str} {C fI : Addr} {k n : Nat} {g : List V → List (Str × V)} {e : Expr} {es : List Expr} {p pos : Pos}
theorem pmk_x (T : XCl X.K C B newId initId tl) (iC : PySem.W.findIn X.K (.ref C) "__init__" = some (some (.ref fI))) (tI : PySem.W.typeIn X.K (.ref fI) = some (.type "function"))
    (F : FnX X.prog X.w X.K X.mg X.base k fI [] (SpI C g n)) (hr : Rm (k + 1) X.A) (hg : Gl X x) (hm : X.mg x = some (.ref C)) (hn : n ≤ 900)
    (hdb : (x == ("__debug__" : Str)) = false := by decide) (he : starEach (e :: es) X.env = (false, eval e X.env) :: starEach es X.env := by rfl) (hpl : (backTo pos (starEach es X.env)).any (·.1) = false := by rfl) :
    PMk X (.Call (.Name x p) (e :: es) [] pos) (fun σ H Q => WA X (e :: es) σ H fun vs H1 => vs.length = n ∧ ∀ d, H1 d = none → Q (.ref C) (some d) (upd H1 d (.xd (g vs)))) := by
  intro pins s σ H Q I h
  obtain ⟨n1, n2, n3, n4, bm, n5, n6, n7, n8, n9, n10, n11, n12, n13, n14, n15, hC, hT⟩ := PySem.W.excInit_of I.kIn T.ini
  refine wpAny_Call_Name_kw (ld_glob I hg hm ?_ hdb)
  refine PySem.W.callWith_K (h₀ := X.base) I.ok.mod.kin T.kC (thn (pa_wa.run pos pins s σ H _ I h) fun us s1 ⟨vs, H1, I1, r1, hz, q1⟩ => ⟨I1.kIn, ?_⟩) he hpl
  show wpAny _ _ (call (.ref C) us) _ _ _
  obtain ⟨m1, m2, m3, m4, bm', m5, m6, m7, m8, m9, m10, m11, m12, m13, m14, m15, hC1, hT1⟩ := PySem.W.excInit_of I1.kIn T.ini
  obtain ⟨hp, g0, dr, tk, os⟩ := s1
  have hsz : hp.objs.size ≤ hp.objs.size + 1 := Nat.le_succ _
  have hnA : H1 (hp.objs.size + 1) = none := I1.hok.fresh hsz
  have kk : ∀ b u, hp.get? b = some u → ((hp.push (PySem.W.kdv_tup us)).push (PySem.HandSPX.excO C hp.objs.size)).get? b = some u := fun b u z => Heap.get?_push_of_some _ (Heap.get?_push_of_some _ z)
  have hgt : ((hp.push (PySem.W.kdv_tup us)).push (PySem.HandSPX.excO C hp.objs.size)).get? (hp.objs.size + 1) = some (PySem.HandSPX.excO C hp.objs.size) := by heap_get
  have I2 : Inv X pins σ (upd H1 (hp.objs.size + 1) (exo (hp.objs.size + 1) C none)) ⟨(hp.push (PySem.W.kdv_tup us)).push (PySem.HandSPX.excO C hp.objs.size), g0, dr, tk, os⟩ :=
    Inv.laid (t' := tk) I1 kk hsz (exo_ok hgt)
  have r2 : Vals (V.ref (hp.objs.size + 1) :: vs) (Value.ref (hp.objs.size + 1) :: us) := .cons rfl r1
  have hus : us.length ≤ sizeLine := by
    rw [← Paired.length r1, sizeLine_eq, hz]
    omega
  have hq : SpI C g n (V.ref (hp.objs.size + 1) :: vs) [] (upd H1 (hp.objs.size + 1) (exo (hp.objs.size + 1) C none)) (fun v H2 => v = .non ∧ ∃ (d : Addr) (fs : List (Str × V)), H2 (hp.objs.size + 1) = some (exo (hp.objs.size + 1) C (some d)) ∧ H2 d = some (exd d fs) ∧ H1 d = none ∧ Q (.ref C) (some d) (upd (del H2 (hp.objs.size + 1)) d (.xd fs))) := by
    refine ⟨_, vs, rfl, hz, upd_same, fun d hd hda => ⟨rfl, d, g vs, upd_same, ?_, ?_, ?_⟩⟩
    · rw [upd_ne hda, upd_same]
    · rw [upd_ne hda] at hd
      exact hd
    · rw [upd_ne hda] at hd
      have ee : upd (del (upd (upd (upd H1 (hp.objs.size + 1) (exo (hp.objs.size + 1) C none)) d (exd d (g vs))) (hp.objs.size + 1) (exo (hp.objs.size + 1) C (some d))) (hp.objs.size + 1)) d (.xd (g vs)) = upd H1 d (.xd (g vs)) := funext fun b => by
        by_cases h1 : b = d
        · rw [h1, upd_same, upd_same]
        · rw [upd_ne h1, upd_ne h1]
          by_cases h2 : b = hp.objs.size + 1
          · rw [h2, del_same, hnA]
          · rw [del_ne h2, upd_ne h2, upd_ne h1, upd_ne h2]
      rw [ee]
      exact q1 d hd
  refine wpAny_call (PySem.HandSPX.call_own T.fb hT1 hC1 (PySem.W.looks_findIn I1.kIn iC) (fun self => PySem.W.bind_fn I1.kIn self tI) hus
    (codeAny_mono (F.run _ X.stack _ _ (Value.ref (hp.objs.size + 1) :: us) [] _ [] _ (hr.make C us []) (I2.env0.make C us []) r2 .nil rfl hq) fun r s' hq' => ?_))
  cases r with
  | error er => exact False.elim hq'
  | ok fl =>
    cases fl with
    | ret u =>
      obtain ⟨v, H2, os2, bare2, un2, hok2, rv, ev, d, fs, ea, ed, hd1, q2⟩ := hq'
      subst ev
      obtain ⟨h2, g2, d2, t2, os'⟩ := s'
      exact ⟨rv, mk_end (raises_own T.exC T.tyC) I1 hsz kk un2 hok2 os2 bare2 ea ed hd1 q2⟩
    | next => exact False.elim hq'
    | brk => exact False.elim hq'
    | cont => exact False.elim hq'
end
end Ab
/-! Ab38: pieces that may raise: yE, yS, ySs; raise; calls of defs that may raise; the promise of such a def. -/
namespace Ab
open PySem PySem.Spec PyProof.Rows L2
def XRep (K : PySem.W.Frag) (H : Hp) (cls : Value) (d : Option Addr) (C : Addr) (fs : List (Str × Val)) : Prop := cls = .ref C ∧ ((d = none ∧ fs = []) ∨ ∃ dd gs, d = some dd ∧ H dd = some (.xd gs) ∧ RepF K H fs gs)
theorem XRep.mono {K : PySem.W.Frag} {H H' : Hp} {cls : Value} {d : Option Addr} {C : Addr} {fs : List (Str × Val)} (e : Same H H') (h : XRep K H cls d C fs) : XRep K H' cls d C fs := by
  obtain ⟨h1, h2 | ⟨dd, gs, h2, h3, h4⟩⟩ := h
  · exact ⟨h1, .inl h2⟩
  · exact ⟨h1, .inr ⟨dd, gs, h2, e _ _ h3, h4.mono e⟩⟩
/-- an exception's class, fields, the memory -/
abbrev XP := Addr → List (Str × Val) → Mem → Prop
abbrev XG := Gam → XP
def XPost (K : PySem.W.Frag) (Hi : Hp) (PE : XP) (E : XK) : Prop := ∀ C fs M' Hi' H' cls d, PE C fs M' → Same Hi Hi' → Ok K Hi' M' H' → XRep K Hi' cls d C fs → E cls d H'
theorem XPost.up {K : PySem.W.Frag} {Hi Hi1 : Hp} {PE : XP} {E : XK} (h : XPost K Hi PE E) (e : Same Hi Hi1) : XPost K Hi1 PE E := fun C fs M' Hi' H' cls d p s => h C fs M' Hi' H' cls d p (e.trans s)
def XReal (K : PySem.W.Frag) (Hi : Hp) (ex : XG) (W : WX) : Prop := ∀ Γ C fs M' σ Hi' H' cls d, ex Γ C fs M' → Same Hi Hi' → Ok K Hi' M' H' → EnvR K Hi' Γ σ → XRep K Hi' cls d C fs → W cls d σ H'
theorem XReal.up {K : PySem.W.Frag} {Hi Hi1 : Hp} {ex : XG} {W : WX} (h : XReal K Hi ex W) (e : Same Hi Hi1) : XReal K Hi1 ex W := fun Γ C fs M' σ Hi' H' cls d p s => h Γ C fs M' σ Hi' H' cls d p (e.trans s)
theorem XReal.at {K : PySem.W.Frag} {Hi : Hp} {ex : XG} {W : WX} {Γ : Gam} {σ : L2.St} (h : XReal K Hi ex W) (en : EnvR K Hi Γ σ) : XPost K Hi (ex Γ) fun cls d H => W cls d σ H := fun C fs M' Hi' H' cls d p s ok => h Γ C fs M' σ Hi' H' cls d p s ok (en.mono s)
abbrev Po (X : Cx) : Prop := PassesOwn (model X.prog X.w) X.A X.env X.xe
def yE (X : Cx) (e : Expr) (Γ : Gam) (M : Mem) (P : Val → Mem → Prop) (PE : XP) : Prop := ∀ W, Takes X W → Po X → ∀ Hi H σ, Ok X.K Hi M H → EnvR X.K Hi Γ σ → ∀ Q : VK, Post X.K Hi P Q → XPost X.K Hi PE (fun cls d H' => W cls d σ H') → WE X e σ H Q
def yS (X : Cx) (s : Stmt) (Γ : Gam) (M : Mem) (k : AK) (ex : XG) : Prop := ∀ W, Takes X W → Po X → ∀ Hi H σ, Ok X.K Hi M H → EnvR X.K Hi Γ σ → ∀ D, Real X.K Hi k D → XReal X.K Hi ex W → WS X s D σ H
def ySs (X : Cx) (s : List Stmt) (Γ : Gam) (M : Mem) (k : AK) (ex : XG) : Prop := ∀ W, Takes X W → Po X → ∀ Hi H σ, Ok X.K Hi M H → EnvR X.K Hi Γ σ → ∀ D, Real X.K Hi k D → XReal X.K Hi ex W → WB X s D σ H
section
variable {X : Cx} {Γ : Gam} {M : Mem} {P : Val → Mem → Prop} {PE : XP} {ex : XG} {e c : Expr} {es : List Expr} {pos p1 : Pos} {k : AK} {st : Stmt} {sts s1 s2 : List Stmt} {x : Str} {n : Nat}
theorem ys_of (h : aS X st Γ M k) : yS X st Γ M k ex := fun _ _ _ Hi H σ ok en D q _ => h Hi H σ ok en D q
theorem yss_of (h : aSs X sts Γ M k) : ySs X sts Γ M k ex := fun _ _ _ Hi H σ ok en D q _ => h Hi H σ ok en D q
theorem ys_nil (h : k.nx Γ M) : ySs X [] Γ M k ex := yss_of (as_nil h)
theorem ys_cons (h : yS X st Γ M { k with nx := fun Γ' M' => ySs X sts Γ' M' k ex } ex) : ySs X (st :: sts) Γ M k ex := fun W tk po Hi H σ ok en D q y =>
  ⟨_, pss_cons ps_ws pss_wb, h W tk po Hi H σ ok en { D with nx := WB X sts D } ⟨fun Γ' M' σ' Hi' H' hn s ok' en' => hn W tk po Hi' H' σ' ok' en' D (q.up s) (y.up s), q.rt, q.bk, q.ct⟩ y⟩
theorem ys_one (h : yS X st Γ M k ex) : ySs X [st] Γ M k ex := fun W tk po Hi H σ ok en D q y => ⟨_, pss_one ps_ws, h W tk po Hi H σ ok en D q y⟩
theorem ys_expr (h : yE X e Γ M (fun _ M' => k.nx Γ M') (ex Γ)) (hs : swapsWith e none pos.line X.env = pure false := by rfl) : yS X (.Expr e pos) Γ M k ex := fun W tk po Hi H σ ok en D q y =>
  ⟨_, ps_expr pe_we hs, h W tk po Hi H σ ok en _ (fun d M1 v Hi1 H1 h1 s1 ok1 r1 => q.nx _ _ _ Hi1 H1 h1 s1 ok1 (en.mono s1)) (y.at en)⟩
theorem ys_set {ps : Pos} (n : Nat) (hN : X.N.Nodup) (he : yE X e Γ M (fun d M' => k.nx (Γ.set n (some d)) M') (ex Γ)) (hi : X.N[n]? = some x := by rfl) (hx : Loc X.env.scope x := by first | exact Or.inl rfl | exact Or.inr rfl)
    (hs : swapsWith e (some (.Name x ps)) pos.line X.env = pure false := by rfl) (hf : X.fn x = true ∨ X.env.scope.names.lookup x = some .local := by first | exact .inl rfl | exact .inr rfl | assumption) : yS X (.Assign [.Name x ps] e pos) Γ M k ex := fun W tk po Hi H σ ok en D q y =>
  ⟨_, ps_set hN hi hx pe_we hs hf, he W tk po Hi H σ ok en _ (fun d M1 v Hi1 H1 h1 s1 ok1 r1 => q.nx _ _ _ Hi1 H1 h1 s1 ok1 ((en.mono s1).set r1)) (y.at en)⟩
theorem ys_asg {tg : Expr} (he : yE X e Γ M (fun d M' => aG X tg d Γ M' k.nx) (ex Γ)) (hs : swapsWithSole [tg] e pos.line X.env = pure false := by rfl) (hw : swappedStores [tg] e X.env = pure none := by rfl) (h1 : (assignEach [tg] X.env).map (·.2) = [assign tg X.env] := by rfl) : yS X (.Assign [tg] e pos) Γ M k ex := fun W tk po Hi H σ ok en D q y =>
  ⟨_, ps_asg pe_we pg_wg hs hw h1, he W tk po Hi H σ ok en _ (fun d M1 v Hi1 H1 h2 s1 ok1 r1 => h2 Hi1 H1 σ v ok1 (en.mono s1) r1 _ fun Γ2 M2 σ2 Hi2 H2 h3 s2 ok2 en2 => q.nx _ _ _ Hi2 H2 h3 (s1.trans s2) ok2 en2) (y.at en)⟩
theorem ys_if (h : aT X c Γ M fun b M' => (b = true → ySs X s1 Γ M' k ex) ∧ (b = false → ySs X s2 Γ M' k ex)) : yS X (.If c s1 s2 pos) Γ M k ex := fun W tk po Hi H σ ok en D q y => by
  refine ⟨_, ps_if pt_wt pss_wb pss_wb, h Hi H σ ok en _ fun b M1 Hi1 H1 h1 z1 ok1 => ?_⟩
  cases b with
  | true => exact iteT (h1.1 rfl W tk po Hi1 H1 σ ok1 (en.mono z1) D (q.up z1) (y.up z1))
  | false => exact iteF (h1.2 rfl W tk po Hi1 H1 σ ok1 (en.mono z1) D (q.up z1) (y.up z1))
theorem yE.mono {P' : Val → Mem → Prop} {PE' : XP} (h : yE X e Γ M P PE) (f : ∀ d M', P d M' → P' d M') (f2 : ∀ C fs M', PE C fs M' → PE' C fs M') : yE X e Γ M P' PE' := fun W tk po Hi H σ ok en Q q y => h W tk po Hi H σ ok en Q (fun d M1 v Hi1 H1 p => q d M1 v Hi1 H1 (f d M1 p)) fun C fs M' Hi' H' cls d p => y C fs M' Hi' H' cls d (f2 C fs M' p)
end
/-! ### raise C(e, ..) -/
/-- an exception class as its name says: n arguments, their fields g -/
structure XMk (P : Program) (w : World) (K : PySem.W.Frag) (mg : Str → Option Value) (base : Heap) (x : Str) (C : Addr) (n : Nat) (g : List Val → List (Str × Val)) : Prop where
  ex : ∃ B newId initId tl fI gV, XCl K C B newId initId tl ∧ PySem.W.findIn K (.ref C) "__init__" = some (some (.ref fI)) ∧ PySem.W.typeIn K (.ref fI) = some (.type "function") ∧ FnX P w K mg base 1 fI [] (SpI C gV n) ∧ mg x = some (.ref C) ∧ ∀ H ds vs, RepA K H ds vs → ds.length = n → RepF K H (g ds) (gV vs)
  n9 : n ≤ 900
section
variable {X : Cx} {Γ : Gam} {M : Mem} {ex : XG} {e : Expr} {es : List Expr} {pos p1 pos' : Pos} {k : AK} {x : Str} {n m : Nat} {C : Addr} {g : List Val → List (Str × Val)}
theorem ys_raise (T : XMk X.prog X.w X.K X.mg X.base x C n g) (hr : Rm m X.A) (hm : 2 ≤ m) (hc : X.calm = true) (h : aA X (e :: es) Γ M fun ds M1 => ds.length = n ∧ ex Γ C (g ds) M1) (hg : Gl X x := by rfl)
    (hdb : (x == ("__debug__" : Str)) = false := by decide) (he : starEach (e :: es) X.env = (false, eval e X.env) :: starEach es X.env := by rfl) (hpl : (backTo pos (starEach es X.env)).any (·.1) = false := by rfl) :
    yS X (.Raise (some (.Call (.Name x p1) (e :: es) [] pos)) none pos') Γ M k ex := fun W tk po Hi H σ ok en D q y => by
  obtain ⟨B, newId, initId, tl, fI, gV, T1, iC, tI, F, mx, rel⟩ := T.ex
  refine ⟨_, ps_raise hc tk (pmk_x T1 iC tI F (hr.mono hm) hg mx T.n9 hdb he hpl), ?_⟩
  refine h Hi H σ ok en _ fun ds M1 vs Hi1 H1 h1 z1 ok1 r1 => ⟨r1.length.symm.trans h1.1, fun d hd => ?_⟩
  have z2 := same_upd (o := .xd (gV vs)) (Ok.none ok1 hd)
  exact y Γ C (g ds) M1 σ (upd Hi1 d (.xd (gV vs))) _ _ _ h1.2 (z1.trans z2) (ok1.imm hd) ((en.mono z1).mono z2) ⟨rfl, .inr ⟨d, gV vs, rfl, upd_same, (rel Hi1 ds vs r1 h1.1).mono z2⟩⟩
end
end Ab
/-! Ab39: calls of defs that may raise, their promises. -/
namespace Ab
open PySem PySem.Spec PyProof.Rows L2
abbrev ASe := List Val → Mem → (Val → Mem → Prop) → XP → Prop
abbrev ASxe := List Val → List Val → Mem → (Val → Mem → Prop) → XP → Prop
def spE (K : PySem.W.Frag) (s : ASxe) (vs zs : List V) (H : Hp) (Q : VK) (E : XK) : Prop := ∃ Hi M ds es P PE, RepA K Hi ds vs ∧ RepA K Hi es zs ∧ Ok K Hi M H ∧ s ds es M P PE ∧ Post K Hi P Q ∧ XPost K Hi PE E
structure FnE (P : Program) (w : World) (K : PySem.W.Frag) (mg : Str → Option Value) (base : Heap) (k : Nat) (f : Addr) (ks : List Str) (sp : List V → List V → Hp → VK → XK → Prop) : Prop where
  run : ∀ (A : Around) (outer : List Env) (s : Shared) (H : Hp) (us ws : List Value) (vs zs : List V) (Q : VK) (E : XK), Rm k A → Env0 P w K mg base A outer s H → Vals vs us → Vals zs ws → zs.length = ks.length → sp vs zs H Q E →
    codeAny (model P w) A (.call (.ref f) ⟨us, ks.zip ws⟩) (CR (L2.CX P w) outer P w H s Q E) s
/-- the cells of a def may be dropped when it raises -/
inductive RetX (PE : XP) : XP
  | ok {C : Addr} {fs : List (Str × Val)} {M : Mem} : PE C fs M → RetX PE C fs M
  | drop {C : Addr} {fs : List (Str × Val)} {c : Addr × Cell} {M : Mem} : RetX PE C fs M → RetX PE C fs (c :: M)
theorem RetX.post {K : PySem.W.Frag} {PE : XP} {E : XK} {Hi : Hp} (q : XPost K Hi PE E) {C : Addr} {fs : List (Str × Val)} {M : Mem} (h : RetX PE C fs M) : ∀ {Hi' H' : Hp} {cls : Value} {d : Option Addr}, Same Hi Hi' → Ok K Hi' M H' → XRep K Hi' cls d C fs → E cls d H' := by
  induction h with
  | ok p => exact fun s ok r => q _ _ _ _ _ _ _ p s ok r
  | drop _ ih => exact fun s ok r => ih s ok.tail r
abbrev ecx (P : Program) (w : World) (K : PySem.W.Frag) (mg : Str → Option Value) (base : Heap) (N : List Str) (qual : Str) (sc : Scope) (f : Addr) (cdv : Value) (A : Around) (outer : List Env) (s : Shared) (H : Hp) (E : XK) : Cx := cxOf (L2.CX P w) P w K mg base N qual sc f cdv A outer s H E
abbrev BodyE (P : Program) (w : World) (K : PySem.W.Frag) (mg : Str → Option Value) (base : Heap) (k : Nat) (f : Addr) (N : List Str) (qual : Str) (sc : Scope) (body : List Stmt) (s0 : ASe) : Prop :=
  ∀ cdv A outer s H E, Rm k (A.deeper (envOfC qual sc s.heap.objs.size f cdv)) → Po (ecx P w K mg base N qual sc f cdv A outer s H E) → ∀ ds M R PE, s0 ds M R PE → ySs (ecx P w K mg base N qual sc f cdv A outer s H E) body (gam N ds) M (kOf R) fun _ => RetX PE
section
variable {P : Program} {w : World} {K : PySem.W.Frag} {mg : Str → Option Value} {base : Heap} {x qual : Str} {f : Addr} {fd : FuncData}
theorem fne_kbn {params : Arguments} {body : List Stmt} {sc : Scope} {dvs : List V} {kws : List (Str × V)} {N ps ks : List Str} {k n : Nat} {s0 : ASe} {g : List Value → List Value → List Value} {gV : List V → List V → List V} (gA : List Val → List Val → List Val)
    (F : FunD K x qual params body sc dvs kws f fd) (S : FnScope N ps sc) (b : KBn K fd ps n ks g gV)
    (hrel : ∀ H ds vs es zs, RepA K H ds vs → RepA K H es zs → ds.length = n → es.length = ks.length → RepA K H (gA ds es) (gV vs zs)) (len : ∀ ds M R PE, s0 ds M R PE → ds.length = ps.length)
    (hb : BodyE P w K mg base k f N qual sc body s0) : FnE P w K mg base (k + 1) f ks (spE K fun ds es M R PE => ds.length = n ∧ s0 (gA ds es) M R PE) := by
  refine ⟨fun A outer s H us ws vs zs Q E hr e0 r rz hz ⟨Hi, M, ds, es, R, PE, ra, re, ok, ⟨hn, hs⟩, q, qx⟩ => ?_⟩
  obtain ⟨oc, od, dV, kV, doc, pm, an, cdv, ct, osl, rfl, lk, hcd, _, _⟩ := F.ex
  have KX : K.In s.heap := e0.mod.kin.keeps fun b1 o1 z1 => (e0.bs b1 o1 z1).1
  have hbt := b.to s us ws KX (by rw [← r.length, ← ra.length]; exact hn) (by rw [← rz.length]; exact hz)
  have rg := hrel Hi ds vs es zs ra re hn (re.length.trans hz)
  have hl : (gV vs zs).length = ps.length := rg.length.symm.trans (len _ _ _ _ hs)
  refine StX.run_bnd (CX := L2.CX P w) (E := E) (G := fun vs' H2 => vs' = gV vs zs ∧ H2 = H) lk hcd S hr.room e0 (fun A' Ex Q' h => ?_) fun s2 H2 vs' hG hr' => ?_
  · exact hbt _ _ _ _ (h s H (gV vs zs) (g us ws) e0 Un.refl rfl (fun _ _ z => z) (b.rel r rz) hl ⟨rfl, rfl⟩)
  · obtain ⟨rfl, rfl⟩ := hG
    obtain ⟨t, p, z⟩ := hb cdv A outer s2 H2 E (hr.deeper _) (passes_of (K := fun e s'' => L2.CX P w outer H2 s2 E e s'') (E₁ := _) rfl) (gA ds es) M R PE hs (fun cls d _ H => E cls d H) (takes_of rfl rfl rfl rfl) (passes_of (K := fun e s'' => L2.CX P w outer H2 s2 E e s'') (E₁ := _) rfl) Hi H2 _ ok (env_start rg)
      { nx := fun _ H' => Q .non H', rt := Q } ⟨fun Γ M' σ Hi' H' h1 s1 ok1 _ => h1.post q s1 ok1 .non, fun d M' v Hi' H' h1 s1 ok1 r1 => h1.post q s1 ok1 r1, fun _ _ _ _ _ z => z.elim, fun _ _ _ _ _ z => z.elim⟩
      (fun Γ C fs M' σ Hi' H' cls d h1 s1 ok1 _ r1 => h1.post qx s1 ok1 r1)
    exact ⟨t, p, z⟩
theorem fne_pos {params : Arguments} {body : List Stmt} {sc : Scope} {kws : List (Str × V)} {N ps : List Str} {k : Nat} {s0 : ASe} (F : FunD K x qual params body sc [] kws f fd) (S : FnScope N ps sc)
    (h : ∀ (kV doc pm : Value) (an : Option Addr) (cdv ct : Value) (us : List Value), us.length = ps.length → bindArgs (PySem.W.fnOf x qual params body sc .none kV doc pm an cdv ct) ⟨us, []⟩ = pure (ps.zip us))
    (len : ∀ ds M R PE, s0 ds M R PE → ds.length = ps.length) (hb : BodyE P w K mg base k f N qual sc body s0) : FnE P w K mg base (k + 1) f [] (spE K fun ds _ => s0 ds) := by
  have F1 := fne_kbn (n := ps.length) (ks := []) (fun ds _ => ds) F S (g := fun us _ => us) (gV := fun vs _ => vs) (by
    obtain ⟨oc, od, dV, kV, doc, pm, an, cdv, ct, osl, rfl, lk, hcd, hD, _⟩ := F.ex
    obtain ⟨_, rfl⟩ : ([] : List V) = [] ∧ dV = .none := by
      rcases hD with z | ⟨z, _⟩
      · exact z
      · exact absurd rfl z
    refine ⟨fun s us ws _ h1 h2 => .of_eq ?_, fun r1 _ => r1⟩
    obtain rfl := List.length_eq_zero_iff.mp h2
    exact h kV doc pm an cdv ct us h1) (fun H ds vs es zs r _ _ _ => r) len hb
  exact ⟨fun A outer s H us ws vs zs Q E hr e0 r rz hz ⟨Hi, M, ds, es, R, PE, ra, re, ok, hs, q, qx⟩ => F1.run A outer s H us ws vs zs Q E hr e0 r rz hz ⟨Hi, M, ds, es, R, PE, ra, re, ok, ⟨len _ _ _ _ hs, hs⟩, q, qx⟩⟩
theorem FnE.weak {k : Nat} {ks : List Str} {sp sp' : List V → List V → Hp → VK → XK → Prop} (F : FnE P w K mg base k f ks sp) (h : ∀ vs zs H Q E, sp' vs zs H Q E → sp vs zs H Q E) : FnE P w K mg base k f ks sp' :=
  ⟨fun A outer s H us ws vs zs Q E hr e0 r rz hz hs => F.run A outer s H us ws vs zs Q E hr e0 r rz hz (h _ _ _ _ _ hs)⟩
theorem FnE.mono {j k : Nat} {ks : List Str} {sp : List V → List V → Hp → VK → XK → Prop} (F : FnE P w K mg base j f ks sp) (h : j ≤ k) : FnE P w K mg base k f ks sp := ⟨fun A outer s H us ws vs zs Q E hr => F.run A outer s H us ws vs zs Q E (hr.mono h)⟩
end
/-- a global def that may raise -/
structure GdE (P : Program) (w : World) (K : PySem.W.Frag) (mg : Str → Option Value) (base : Heap) (k : Nat) (x : Str) (ks : List Str) (s : ASxe) : Prop where
  ex : ∃ f, FnE P w K mg base k f ks (spE K s) ∧ mg x = some (.ref f) ∧ PySem.W.keepIn K (.ref f) = true
section
variable {X : Cx} {Γ : Gam} {M : Mem} {P : Val → Mem → Prop} {PE : XP} {e o : Expr} {es : List Expr} {kws : List Keyword} {pos p1 apos : Pos} {x m : Str} {n q : Nat} {f C : Addr} {ks : List Str} {sx : ASxe} {W : WX}
theorem run_e {pins : List (Addr × Obj)} {σ : L2.St} {H : Hp} {s : Shared} {Q : VK} {us ws : List Value} {vs zs : List V} {sp : List V → List V → Hp → VK → XK → Prop} (tk : Takes X W) (F : FnE X.prog X.w X.K X.mg X.base n f ks sp) (hr : Rm n X.A)
    (I : Inv X pins σ H s) (r : Vals vs us) (rz : Vals zs ws) (l2 : zs.length = ks.length) (h : sp vs zs H Q fun cls d H' => W cls d σ H') : wpAny (model X.prog X.w) X.A (call (.ref f) us (ks.zip ws)) (EP X pins σ Q) X.xe s := by
  refine wpAny_call (codeAny_mono (F.run X.A X.stack s H us ws vs zs Q _ hr I.env0 r rz l2 h) fun r s' hq => ?_)
  cases r with
  | error e => exact tk e s' (XE.of_call I (fun _ _ _ z => z) hq)
  | ok fl =>
    cases fl with
    | ret u => exact I.after hq
    | next => exact False.elim hq
    | brk => exact False.elim hq
    | cont => exact False.elim hq
/-- f(e, .., k = v, ..) -/
theorem ye_g (G : GdE X.prog X.w X.K X.mg X.base n x ks sx) (hr : Rm q X.A) (hq : n ≤ q) (h : aA X (e :: es) Γ M fun ds M1 => aKw X kws Γ M1 fun zs M2 => zs.length = ks.length ∧ sx ds zs M2 P PE)
    (hg : Gl X x := by rfl) (hall : (backToKw pos (keywordEach kws X.env)).all (·.1.isSome) = true := by rfl) (hks : (backToKw pos (keywordEach kws X.env)).filterMap (·.1) = ks := by rfl) (hdb : (x == ("__debug__" : Str)) = false := by decide)
    (he : starEach (e :: es) X.env = (false, eval e X.env) :: starEach es X.env := by rfl) (hpl : ((backTo pos (starEach (e :: es) X.env)).any (·.1) || (backToKw pos (keywordEach kws X.env)).any (·.1.isNone)) = false := by rfl) :
    yE X (.Call (.Name x p1) (e :: es) kws pos) Γ M P PE := fun W tk po Hi H σ ok en Q q1 y1 => by
  obtain ⟨f, F, hm, hk⟩ := G.ex
  refine ⟨fun σ H Q => WA X (e :: es) σ H fun vs H1 => WK X kws σ H1 fun zs H2 => zs.length = ks.length ∧ spE X.K sx vs zs H2 Q fun cls d H' => W cls d σ H', ⟨fun pins s σ H Q I h => ?_⟩, ?_⟩
  · refine wpAny_Call_Name_kw (ld_glob I hg hm ?_ hdb)
    refine PySem.W.callWith_KW (first := []) (h₀ := X.base) I.ok.mod.kin hk hall (thn (pa_wa.run pos pins s σ H _ I h) fun us s1 ⟨vs, H1, I1, r, z1⟩ => ?_) hpl he
    refine thn (pk_wk.run pos pins s1 σ H1 _ I1 z1) fun ws s2 ⟨zs, H2, I2, rz, l2, z2⟩ => ⟨I2.kIn, ?_⟩
    rw [hks]
    exact run_e tk (F.mono hq) hr I2 r rz l2 z2
  · refine h Hi H σ ok en _ fun ds M1 vs Hi1 H1 h1 s1 ok1 r1 => ?_
    refine h1 Hi1 H1 σ ok1 (en.mono s1) _ fun zs M2 ws Hi2 H2 h2 s2 ok2 r2 => ?_
    exact ⟨r2.length.symm.trans h2.1, Hi2, M2, ds, zs, P, PE, r1.mono s2, r2, ok2, h2.2, q1.up (s1.trans s2), y1.up (s1.trans s2)⟩
end
end Ab
/-! Ab40: try: .. except C as n: ..; the caught exception is a value from then on. -/
namespace Ab
open PySem PySem.Spec PyProof.Rows L2
theorem exH_ok {P : Program} {w : World} {H : Hp} {h : Heap} {a C : Addr} {d : Option Addr} {oe : Obj} {vs : Array Value} (e : h.get? a = some oe) (z : Zc (.ref C) d oe) (hd : oe.data = .fields vs) : ObjOk P w H h a (exH a C d) :=
  ⟨⟨oe, vs, e, z, hd⟩, ⟨oe, e⟩, fun _ _ ⟨o, v, q, r⟩ k => ⟨o, v, k o q, r⟩⟩
section
variable {X : Cx} {pins : List (Addr × Obj)} {σ : L2.St} {H : Hp} {sI s s' : Shared} {B : Heap} {a C : Addr} {d : Option Addr} {oe : Obj} {vs : Array Value}
/-- landed, and the exception tracked -/
theorem Inv_landV (I : Inv X pins σ H sI) (nb : ∀ b o, sI.heap.get? b = some o → b ∉ frs X.stack → B.get? b = some o) (st : B.StaysIn s'.heap) (up : sI.heap.UpToSlots s'.heap) (os : s'.os = sI.os) (ag : AllBare s'.gens)
    (ha : s'.heap.get? a = some oe) (hz : Zc (.ref C) d oe) (hd : oe.data = .fields vs) (na : H a = none) (sn : sI.heap.get? a = none) : Inv X pins σ (upd H a (exH a C d)) s' := by
  have nf : ∀ b ∈ frs X.stack, ∀ o, sI.heap.get? b = some o → ∃ sl, s'.heap.get? b = some { o with slots := sl } := fun b hb o z => by
    obtain ⟨_, o', z1, z2⟩ := I.stack.mem hb
    rw [z] at z1
    cases z1
    exact up b o z z2
  have ne : ∀ b o, sI.heap.get? b = some o → b ≠ a := fun b o z1 z2 => by
    rw [z2, sn] at z1
    cases z1
  have ok0 : HOk X.prog X.w H s'.heap := (I.inGround nb).kept st
  refine Inv.call' (ch := []) I os ⟨fun b o z _ hb _ => st b o (nb b o z hb), fun b o z _ hb _ => nf b hb o z, fun b o z z2 _ => by rw [upd_ne (ne b o z)]; exact z2, fun b o z _ => ?_, fun b xs z => by rw [upd_ne (ne_of_none z na)]; exact z, fun b o u z => by rw [upd_ne (ne_of_none z na)]; exact z, fun b ps z => ⟨#[], by rw [upd_ne (ne_of_none z na), z]; simp⟩⟩ (fun b o z => ?_) ag (fun _ z => nomatch z)
  · by_cases hb : b ∈ frs X.stack
    · obtain ⟨sl, q⟩ := nf b hb o z
      exact ⟨_, q⟩
    · exact ⟨o, st b o (nb b o z hb)⟩
  · by_cases hb : b = a
    · subst hb
      rw [upd_same] at z
      cases z
      exact exH_ok ha hz hd
    · rw [upd_ne hb] at z
      exact (ok0 b o z).stay (fun _ _ _ q => q) (fun c q => by rw [upd_ne (ne_of_none q na)]; exact q) fun c xs q => by rw [upd_ne (ne_of_none q na)]; exact q
theorem Inv_inS (I : Inv X pins σ H s) (a : Addr) : Inv (X.suite a (X.pn ++ pins)) [] σ H s :=
  ⟨I.ok.suite _ _, I.os, I.bare, I.base, I.loc, I.cell, I.free, I.freeC, fun p hp => I.pin p (by rw [List.append_nil] at hp; exact hp), I.hok, I.len⟩
theorem Inv_outS {pn' : List (Addr × Obj)} (I : Inv (X.suite a (X.pn ++ pins)) pn' σ H s) (ok : X.Ok) : Inv X pins σ H s :=
  ⟨ok, I.os, I.bare, I.base, I.loc, I.cell, I.free, I.freeC, fun p hp => I.pin p (List.mem_append_left _ hp), I.hok, I.len⟩
end
/-- what a clause wishes of an exception of the body -/
def wV (K : PySem.W.Frag) (c : Value) (i : Nat) (ts : Addr → Addr → Option Addr → TS) (Wout : WX) (D : Ends) : WX := fun cls d σ H => ∃ C b, cls = .ref C ∧ PySem.W.exmOne K cls c = some b ∧
  (b = true → ∀ a, H a = none → ts a C d { nx := fun σ' H' => D.nx (σ'.set i none) H', rt := D.rt, bk := fun σ' H' => D.bk (σ'.set i none) H', ct := fun σ' H' => D.ct (σ'.set i none) H' } (σ.set i (some (.ref a))) (upd H a (exH a C d))) ∧ (b = false → Wout cls d σ H)
section
variable {X : Cx} {x n : Str} {c : Value} {i : Nat} {body suite : List Stmt} {b0 : Stmt} {np pos pos' : Pos} {tb : WX → TS} {ts : Addr → Addr → Option Addr → TS} {Wout : WX}
theorem ps_try_v (hs : X.stack = X.env :: X.outer) (hf : X.env.frame = some X.env.locals) (hN : X.N.Nodup) (hi : X.N[i]? = some n) (hln : X.env.kindOf n = some .local) (hc : Names X x c) (tk : Takes X Wout)
    (hb : ∀ (W : WX) (pn : List (Addr × Obj)) (xe : Value → Shared → Prop), Takes (X.tr pn xe) W → PassesOwn (model X.prog X.w) X.A X.env xe → PSs (X.tr pn xe) body (tb W))
    (hsu : ∀ (a C : Addr) (d : Option Addr) (pn : List (Addr × Obj)), PSs (X.suite a pn) (b0 :: suite) (ts a C d)) :
    PS X (.Try body [.ExceptHandler (some (.Name x np)) (some n) (b0 :: suite) pos'] [] [] pos) (fun D σ H => tb (wV X.K c i ts Wout D) D σ H) := by
  refine ⟨fun pins s σ H D I h => wpAny_Try_except ?_⟩
  have ok := I.ok
  have hfr : X.A.frames = some (X.env :: X.outer) := by rw [ok.frames, hs]
  have hloc : Loc X.env.scope n := .inl hln
  refine wpAny_mono ((hb (wV X.K c i ts Wout D) (X.pn ++ pins) (fun e z1 => wpAny (model X.prog X.w) X.A (noteFrame e X.env) (fun _ z2 => wpAny (model X.prog X.w) X.A (setFlight e none) (fun _ z3 =>
    wpAny (model X.prog X.w) X.A (handleBy e X.env [.ExceptHandler (some (.Name x np)) (some n) (b0 :: suite) pos']) (SP X pins D) X.xe z3) X.xe z2) X.xe z1) (fun u s' xx => ?_) PassesOwn.looking).run [] s σ H D (I.toTry _) h) (fun f s1 hsp => ?_) (fun _ _ z => z)
  · obtain ⟨a, B, sI, pins', σ1, H1, cls, d, rfl, J', nb, up, sky, na, os, ag, C, b, rfl, hb1, hyes, hno⟩ := xx
    have J : Inv X pins σ1 H1 sI := J'.ofTry ok
    show wpAny (model X.prog X.w) X.A (noteFrame (.ref a) X.env) _ _ _
    refine Sky.land Zc.steady hfr hf (show Sky B (X.env :: X.outer) a (Zc (.ref C) d) X.env.locals s'.heap by rw [← hs]; exact sky) fun h3 fl3 up3 => ?_
    have J3 : Inv X pins σ1 H1 { s' with heap := h3 } := J.landed nb fl3.1 (up.trans up3) os ag
    obtain ⟨oe3, vs3, he3, hz3, hd3⟩ := fl3.there
    have nfr : a ∉ frs (X.env :: X.outer) := fun hm => by
      obtain ⟨_, o', z1, z2⟩ := fl3.2.2.1.mem hm
      rw [he3] at z1
      cases z1
      exact z2 _ hd3
    have sn : sI.heap.get? a = none := by
      cases z : sI.heap.get? a with
      | none => rfl
      | some o =>
        have y := nb a o z (by rw [hs]; exact nfr)
        rw [fl3.2.1] at y
        cases y
    have nL : a ≠ X.env.locals := fun z => nfr (List.mem_filterMap.mpr ⟨X.env, List.mem_cons_self, by rw [hf, z]⟩)
    have nF : a ∉ X.fs := fun hm => by
      obtain ⟨e, z1, z2⟩ := List.mem_filterMap.mp hm
      exact nfr (List.mem_filterMap.mpr ⟨e, List.mem_cons_of_mem _ z1, z2⟩)
    have S3 := J3.suite he3 hd3 na nL nF
    refine wpAny_handleBy_cons (codeAny_handlers_test ?_) (by intro q; cases q)
    have LT : PySem.W.Looks (model X.prog X.w) h3 (typeOf (.ref a)) (.ref C) := fun A Q E s k q => wpAny_typeOf_ref (k _ _ he3) (by rw [hz3.1]; exact q)
    have test : ∀ {Q : Value → Shared → Prop} {E : Value → Shared → Prop}, Q c { s' with heap := h3 } → wpAny (model X.prog X.w) (X.A.mark (some (.ref a))) (eval (.Name x np) X.env) Q E { s' with heap := h3 } := fun {Q E} q => by
      obtain ⟨hg, hdbg, hm | ⟨hm, hv, hnn⟩⟩ := hc
      · exact ld_glob (X := X.suite a ((a, oe3) :: (X.pn ++ pins))) S3 hg hm q hdbg
      · exact ld_blt (X := X.suite a ((a, oe3) :: (X.pn ++ pins))) S3 hg hm hv q hnn hdbg
    refine test ((PySem.W.exm_one (M := model X.prog X.w) J3.kIn LT hb1).here ?_)
    cases b with
    | true =>
      refine codeAny_handlers_suite_as (HandSPX.lands_againZ fl3 fun h4 fl4 up4 => ?_)
      obtain ⟨oe4, vs4, he4, hz4, hd4⟩ := fl4.there
      have J4 : Inv X pins σ1 (upd H1 a (exH a C d)) { s' with heap := h4 } := Inv_landV (s' := { s' with heap := h4 }) J nb fl4.1 ((up.trans up3).trans up4) os ag he4 hz4 hd4 na sn
      refine store_ok (X := X.suite a (X.pn ++ pins)) (v := .ref a) (Inv_inS J4 a) hN hi hloc rfl (fun s5 S5 => ?_) (.inr hln)
      refine wpAny_mono ((hsu a C d (X.pn ++ pins)).run [] s5 _ _ _ S5 (hyes rfl a na)) (fun f s6 hsp => ?_) (fun _ _ z => False.elim z)
      have fin : ∀ {σ6 : L2.St} {H6 : Hp} {Q : Shared → Prop}, Inv (X.suite a (X.pn ++ pins)) [] σ6 H6 s6 → (∀ s7, Inv X pins (σ6.set i none) H6 s7 → Q s7) →
          wpAny (model X.prog X.w) X.A (do bindName X.env n .none; unbindBehindTheSuite X.env n pos') (fun _ s7 => Q s7) X.xe s6 := fun {σ6 H6 Q} S6 hq => gone_ok (Inv_outS S6 ok) hN hi hln hq
      cases f with
      | next =>
        obtain ⟨σ6, H6, S6, q6⟩ := hsp
        exact fin S6 fun s7 J7 => ⟨_, _, J7, q6⟩
      | brk =>
        obtain ⟨σ6, H6, S6, q6⟩ := hsp
        exact fin S6 fun s7 J7 => ⟨_, _, J7, q6⟩
      | cont =>
        obtain ⟨σ6, H6, S6, q6⟩ := hsp
        exact fin S6 fun s7 J7 => ⟨_, _, J7, q6⟩
      | ret u =>
        obtain ⟨v6, σ6, H6, S6, r6, q6⟩ := hsp
        exact fin S6 fun s7 J7 => ⟨_, _, _, J7, r6, q6⟩
    | false =>
      show wpAny _ X.A (handleBy (.ref a) X.env []) _ _ _
      refine wpAny_handleBy_nil ?_
      obtain ⟨k1, k2, k3, oe, vs, T, oT, t2, w1, w2, w3, w4, w5⟩ := id fl3
      unfold PySem.passOn
      refine wpAny_bind (wpAny_field w1 w3 w4 ?_)
      rw [if_neg (show ¬ ((Value.ref T == Value.none) = true) from by simp)]
      have fin : wpAny (model X.prog X.w) X.A (setFlight (.ref a) X.env.frame) (fun _ s4 => wpAny (model X.prog X.w) X.A (throw (.ref a) : Sem Flow) (SP X pins D) X.xe s4) X.xe { s' with heap := h3 } := by
        rw [hf]
        refine HandSPX.setFlight_upZ fl3 fun h4 hh4 up4 => wpAny_throw (tk _ _ ?_)
        exact ⟨a, B, sI, pins, σ1, H1, .ref C, d, rfl, J, nb, (up.trans up3).trans up4, .inr (.inr (by rw [hs]; exact hh4)), na, os, ag, hno rfl⟩
      first
        | exact wpAny_bind (wpAny_pure (wpAny_bind fin))
        | exact wpAny_bind fin
  · cases f with
    | next =>
      obtain ⟨σ1, H1, J', q⟩ := hsp
      exact wpAny_execs_nil ⟨σ1, H1, J'.ofTry ok, q⟩
    | brk =>
      obtain ⟨σ1, H1, J', q⟩ := hsp
      exact ⟨σ1, H1, J'.ofTry ok, q⟩
    | cont =>
      obtain ⟨σ1, H1, J', q⟩ := hsp
      exact ⟨σ1, H1, J'.ofTry ok, q⟩
    | ret u =>
      obtain ⟨v, σ1, H1, J', r, q⟩ := hsp
      exact ⟨v, σ1, H1, J'.ofTry ok, r, q⟩
end
/-! ### the same over values -/
/-- what the try wishes of the body's exceptions: the clause's suite, or it goes on -/
def exT (X : Cx) (c : Value) (i : Nat) (suite : List Stmt) (k : AK) (ex : XG) : XG := fun Γ C fs M => ∃ b, PySem.W.exmOne X.K (.ref C) c = some b ∧
  (b = true → ∀ a pn, aSs (X.suite a pn) suite (Γ.set i (some (.exc C fs))) M { nx := fun Γ' M' => k.nx (Γ'.set i none) M', rt := k.rt, bk := fun Γ' M' => k.bk (Γ'.set i none) M', ct := fun Γ' M' => k.ct (Γ'.set i none) M' }) ∧ (b = false → ex Γ C fs M)
section
variable {X : Cx} {Γ : Gam} {M : Mem} {k : AK} {ex : XG} {x n : Str} {c : Value} {body suite : List Stmt} {b0 : Stmt} {np pos pos' : Pos}
theorem xrep_rep {K : PySem.W.Frag} {Hi : Hp} {a C : Addr} {cls : Value} {d : Option Addr} {fs : List (Str × Val)} (h : XRep K Hi cls d C fs) (na : Hi a = none) : Rep K (upd Hi a (exH a C d)) (.exc C fs) (.ref a) := by
  obtain ⟨_, ⟨rfl, rfl⟩ | ⟨dd, gs, rfl, h1, h2⟩⟩ := h
  · exact .exc0 upd_same
  · exact .exc upd_same (by rw [upd_ne (ne_of_none h1 na)]; exact h1) (h2.mono (same_upd na))
theorem try_core (i : Nat) (hN : X.N.Nodup) (hc : Names X x c) {W : WX} (tk : Takes X W)
    (hb : ∀ pn xe, Po (X.tr pn xe) → ySs (X.tr pn xe) body Γ M k (exT X c i (b0 :: suite) k ex)) {Hi H : Hp} {σ : L2.St} (ok : Ok X.K Hi M H) (en : EnvR X.K Hi Γ σ) {D : Ends} (q : Real X.K Hi k D) (y : XReal X.K Hi ex W)
    (hs : X.stack = X.env :: X.outer) (hf : X.env.frame = some X.env.locals) (hi : X.N[i]? = some n) (hln : X.env.kindOf n = some .local) :
    WS X (.Try body [.ExceptHandler (some (.Name x np)) (some n) (b0 :: suite) pos'] [] [] pos) D σ H := by
  refine ⟨_, ps_try_v (tb := fun W1 D1 σ1 H1 => ∀ pn xe, Takes (X.tr pn xe) W1 → PassesOwn (model X.prog X.w) X.A X.env xe → WB (X.tr pn xe) body D1 σ1 H1) (ts := fun a C d D1 σ1 H1 => ∀ pn, WB (X.suite a pn) (b0 :: suite) D1 σ1 H1) hs hf hN hi hln hc tk (fun W1 pn xe t1 p1 => ⟨fun pins s σ1 H1 D1 I1 h1 => pss_wb.run pins s σ1 H1 D1 I1 (h1 pn xe t1 p1)⟩) (fun a C d pn => ⟨fun pins s σ1 H1 D1 I1 h1 => pss_wb.run pins s σ1 H1 D1 I1 (h1 pn)⟩), fun pn xe t1 p1 => ?_⟩
  refine hb pn xe p1 _ t1 p1 Hi H σ ok en D q fun Γ1 C fs M1 σ1 Hi1 H1 cls d h1 s1 ok1 en1 r1 => ?_
  obtain ⟨b, hb1, hyes, hno⟩ := h1
  have ec := r1.1
  subst ec
  refine ⟨C, b, rfl, hb1, fun hbt a na pn2 => ?_, fun hbf => y Γ1 C fs M1 σ1 Hi1 H1 _ d (hno hbf) s1 ok1 en1 r1⟩
  have ni : Hi1 a = none := Ok.none ok1 na
  have s2 := same_upd (o := exH a C d) ni
  have q2 := q.up (s1.trans s2)
  refine hyes hbt a pn2 (upd Hi1 a (exH a C d)) _ _ (ok1.imm na) ((en1.mono s2).set (xrep_rep r1 ni)) _ ⟨fun Γ3 M3 σ3 Hi3 H3 h3 s3 ok3 en3 => ?_, fun d3 M3 v3 Hi3 H3 h3 s3 ok3 r3 => ?_, fun Γ3 M3 σ3 Hi3 H3 h3 s3 ok3 en3 => ?_, fun Γ3 M3 σ3 Hi3 H3 h3 s3 ok3 en3 => ?_⟩
  · exact q2.nx _ _ _ Hi3 H3 h3 s3 ok3 (env_none i en3)
  · exact q2.rt _ _ _ Hi3 H3 h3 s3 ok3 r3
  · exact q2.bk _ _ _ Hi3 H3 h3 s3 ok3 (env_none i en3)
  · exact q2.ct _ _ _ Hi3 H3 h3 s3 ok3 (env_none i en3)
/-- try: body except x as n: suite; nothing else leaves -/
theorem as_try (i : Nat) (hN : X.N.Nodup) (hc : Names X x c) (hb : ∀ pn xe, Po (X.tr pn xe) → ySs (X.tr pn xe) body Γ M k (exT X c i (b0 :: suite) k fun _ _ _ _ => False))
    (hs : X.stack = X.env :: X.outer := by rfl) (hf : X.env.frame = some X.env.locals := by rfl) (hi : X.N[i]? = some n := by rfl) (hln : X.env.kindOf n = some .local := by rfl) :
    aS X (.Try body [.ExceptHandler (some (.Name x np)) (some n) (b0 :: suite) pos'] [] [] pos) Γ M k := fun Hi H σ ok en D q =>
  try_core i hN hc takes_none5 hb ok en q (fun _ _ _ _ _ _ _ _ _ z => z.elim) hs hf hi hln
end
end Ab
/-! Ab41: a caught exception's fields, its class. -/
namespace Ab
open PySem PySem.Spec PyProof.Rows L2
section
variable {X : Cx} {Γ : Gam} {M : Mem} {P : Val → Mem → Prop} {a b : Expr} {pos p1 : Pos} {C : Addr} {f : Str} {d2 : Val} {fs : List (Str × Val)}
/-- e.f, e a caught exception -/
theorem ae_xf (T : XfC X.K C) (hno : PySem.W.findIn X.K (.ref C) f = some none) (ha : aE X a Γ M fun d M' => ∃ fs v, d = .exc C fs ∧ fs.lookup f = some v ∧ P v M') (hb : attributeBase a f X.env (eval a X.env) = eval a X.env := by rfl) : aE X (.Attribute a f pos) Γ M P := fun Hi H σ ok en Q q => by
  refine ⟨fun σ H Q => WE X a σ H fun x H1 => ∃ (p dd : Addr) (gs : List (Str × V)) (v : V), x = .ref p ∧ H1 p = some (exH p C (some dd)) ∧ H1 dd = some (.xd gs) ∧ gs.lookup f = some v ∧ Q v H1, ⟨fun pins s σ H Q I h => attr_of hb (thn (pe_we.run pins s σ H _ I h) fun u s1 hh => ?_)⟩, ?_⟩
  · obtain ⟨x, H1, I1, rx, p, dd, gs, v, rfl, ep, ed, l, q1⟩ := hh
    obtain rfl : u = Value.ref p := rx
    have y1 : ObjOk X.prog X.w H1 s1.heap p (exH p C (some dd)) := I1.hok p _ ep
    obtain ⟨⟨oe, vs, z1, z2, z3⟩, _⟩ := y1
    have y2 : ObjOk X.prog X.w H1 s1.heap dd (.xd gs) := I1.hok dd _ ed
    obtain ⟨mA, hns, hr⟩ := y2
    obtain ⟨od, ho, hl⟩ := lookIn_ns hns
    obtain ⟨u, hu, ru⟩ := RelO.some_of (v := v) (o := mA f) (by rw [← l]; exact hr f)
    have J : PySem.W.InstAt s1.heap p oe C (some od) := ⟨z1, z2.1, by unfold PySem.W.notCls; rw [z3] <;> rfl, by rw [z2.2]; exact ho⟩
    exact HandSPX.exc_get I1.kIn J T.ga T.gg T.exC (PySem.W.findObj_own T.hdC hno rfl (by rw [hl, hu])) (handed_of ru) ⟨v, H1, I1.tok _, ru, q1⟩
  · refine ha Hi H σ ok en _ fun x M1 v Hi1 H1 h1 s1 ok1 r1 => ?_
    obtain ⟨fs, w, rfl, hl, hp⟩ := h1
    cases r1 with
    | exc e1 e2 rf =>
      obtain ⟨v, hv, rv⟩ := rf.lookup hl
      exact ⟨_, _, _, v, rfl, ok1.im _ _ e1, ok1.im _ _ e2, hv, q _ _ _ Hi1 H1 hp s1 ok1 rv⟩
    | exc0 e1 => cases hl
theorem call_isX : CallR X (.builtin "isinstance") (fun xs H Q => ∃ (p C : Addr) (d : Option Addr) (c : V) (u : Value) (b : Bool), xs = [.ref p, c] ∧ H p = some (exH p C d) ∧ (∀ dd, d = some dd → ∃ gs, H dd = some (.xd gs)) ∧ ExcC X.K C ∧ ClsV c u ∧ PySem.W.kitOne X.K (.ref C) u = some b ∧ Q (.bl b) H) := by
  intro pins s σ H xs us Q I r h
  obtain ⟨p, C, d, c, u, b, rfl, hp, hd, EC, k, e, q⟩ := h
  obtain ⟨u1, u2, rfl, r1, r2⟩ := vals2 r
  have e2 := k.eq r2
  subst e2
  cases r1
  have y1 : ObjOk X.prog X.w H s.heap p (exH p C d) := I.hok p _ hp
  obtain ⟨⟨oe, vs, z1, z2, z3⟩, _⟩ := y1
  obtain ⟨od, J⟩ : ∃ od, PySem.W.InstAt s.heap p oe C od := by
    cases d with
    | none => exact ⟨none, z1, z2.1, by unfold PySem.W.notCls; rw [z3] <;> rfl, by rw [z2.2]; trivial⟩
    | some dd =>
      obtain ⟨gs, hg⟩ := hd dd rfl
      have y2 : ObjOk X.prog X.w H s.heap dd (.xd gs) := I.hok dd _ hg
      obtain ⟨mA, hns, _⟩ := y2
      obtain ⟨od, ho, _⟩ := lookIn_ns hns
      exact ⟨some od, z1, z2.1, by unfold PySem.W.notCls; rw [z3] <;> rfl, by rw [z2.2]; exact ho⟩
  have hcl : (PySem.W.clsIn X.K C).isSome = true := by
    have h0 := EC.hd
    unfold PySem.W.hasDictIn at h0
    cases e : PySem.W.clsIn X.K C with
    | none => simp [e] at h0
    | some _ => rfl
  exact PySem.W.kia_one (PySem.W.kitx_exc (od := od) hcl EC.hg EC.hk EC.hs EC.ha EC.hn EC.ht EC.hm) I.kIn J e (fun z => nomatch z) fun tk => ⟨.bl b, H, I.tok tk, rfl, q⟩
/-- isinstance(e, D), e a caught exception -/
theorem ae_isx {u : Value} {bb : Bool} (hm : X.mg "isinstance" = none) (EC : ExcC X.K C) (ha : aV X a Γ M (.exc C fs)) (hb : aV X b Γ M d2) (hc : ClV d2 u) (hk : PySem.W.kitOne X.K (.ref C) u = some bb) (h : P (.bl bb) M) (hg : Gl X "isinstance" := by rfl)
    (hs : starEach [a, b] X.env = (false, eval a X.env) :: starEach [b] X.env := by rfl) (hs2 : starEach [b] X.env = (false, eval b X.env) :: starEach [] X.env := by rfl) (hpl : (backTo pos (starEach [b] X.env)).any (·.1) = false := by rfl) : aE X (.Call (.Name "isinstance" p1) [a, b] [] pos) Γ M P :=
  ae_callB call_isX hm (by decide +kernel) (aa_cons (ha.val (aa_cons (hb.val (aa_nil fun Hi H vs ok r Q q => by
    cases r with
    | cons r1 r2 =>
      cases r2 with
      | cons r2 r3 =>
        cases r3
        have kc : ∀ {v : V}, Rep X.K Hi d2 v → ClsV v u := fun {v} r => by
          cases hc with
          | ty n => cases r; exact .ty n
          | own C => cases r; exact .own C
        cases r1 with
        | exc e1 e2 rf => exact ⟨_, C, _, _, u, bb, rfl, ok.im _ _ e1, (fun dd e => by cases e; exact ⟨_, ok.im _ _ e2⟩), EC, kc r2, hk, q _ _ _ Hi H h (Same.refl _) ok (.bl _)⟩
        | exc0 e1 => exact ⟨_, C, _, _, u, bb, rfl, ok.im _ _ e1, (fun dd e => nomatch e), EC, kc r2, hk, q _ _ _ Hi H h (Same.refl _) ok (.bl _)⟩)) hs2)) hs) hg (he := hs) (hpl := hpl)
end
end Ab
/-! Ab42: loops whose body may raise; slots and cells forgotten. -/
namespace Ab
open PySem PySem.Spec PyProof.Rows L2
section
variable {X : Cx} {Γ : Gam} {M : Mem} {k : AK} {ex : XG} {c : Expr} {pos : Pos} {sts : List Stmt} {st : Stmt}
/-! slots and cells may be forgotten -/
theorem ySs.mono {k' : AK} (h : ySs X sts Γ M k ex) (f1 : ∀ Γ M, k.nx Γ M → k'.nx Γ M) (f2 : ∀ d M, k.rt d M → k'.rt d M) (f3 : ∀ Γ M, k.bk Γ M → k'.bk Γ M) (f4 : ∀ Γ M, k.ct Γ M → k'.ct Γ M) : ySs X sts Γ M k' ex := fun W tk po Hi H σ ok en D q y =>
  h W tk po Hi H σ ok en D ⟨fun Γ M σ Hi' H' p => q.nx Γ M σ Hi' H' (f1 Γ M p), fun d M v Hi' H' p => q.rt d M v Hi' H' (f2 d M p), fun Γ M σ Hi' H' p => q.bk Γ M σ Hi' H' (f3 Γ M p), fun Γ M σ Hi' H' p => q.ct Γ M σ Hi' H' (f4 Γ M p)⟩ y
end
end Ab
/-! Ab43: defs that may raise, with defaults or keywords. -/
namespace Ab
open PySem PySem.Spec PyProof.Rows L2
end Ab
/-! Ab44: repr of a number, a truth value, None, a text -/
namespace Ab
open PySem PySem.Spec PyProof.Rows L2
end Ab
/-! Ab45: classmethods (with keywords), making an instance through a local name, zip, not in, isinstance of several classes, constants of a class -/
namespace Ab
open PySem PySem.Spec PyProof.Rows L2
/-! ### classmethods -/
theorem callWith_MKW {K : PySem.W.Frag} {M : Model} {A : Around} {s : Shared} {E : Value → Shared → Prop} {env : Env} {pos : Pos} {q g : Addr} {self : Value} {Q : Value → Shared → Prop} {e : Expr} {rest : List Expr} {kws : List Keyword} (hf : PySem.W.fnIn K g = true) (hall : (backToKw pos (keywordEach kws env)).all (·.1.isSome) = true)
    (h : wpAny M A (spliced (backTo pos (starEach (e :: rest) env))) (fun vs s₁ => wpAny M A (evalAll ((backToKw pos (keywordEach kws env)).map (·.2)))
      (fun ks s₂ => PySem.W.MethP K q g self s₂.heap ∧ wpAny M A (call (.ref q) vs (((backToKw pos (keywordEach kws env)).filterMap (·.1)).zip ks)) Q E s₂) E s₁) E s)
    (hplain : ((backTo pos (starEach (e :: rest) env)).any (·.1) || (backToKw pos (keywordEach kws env)).any (·.1.isNone)) = false := by rfl) (he : starEach (e :: rest) env = (false, eval e env) :: starEach rest env := by rfl) :
    wpAny M A (callWith pos (.ref q) [] (backTo pos (starEach (e :: rest) env)) (backToKw pos (keywordEach kws env))) Q E s :=
  PySem.W.callWith_of hplain (PySem.W.keeps_M hf) (PyProof.Rows.evalArgs_kw2 hall h he)
section
variable {X : Cx} {Γ : Gam} {M : Mem} {P : Val → Mem → Prop} {o e a b : Expr} {es : List Expr} {pos p1 apos : Pos} {kws : List Keyword} {n q : Nat} {m x : Str} {C : Addr} {ks : List Str} {sx : ASx} {d d1 d2 : Val}
/-- C.m(e, .., k=..) -/
theorem ae_cmeth {mc : Value} {p g : Addr} {pl : Sem Bool} (r : ClX.CRead X.K C mc) (cm : ClX.CMet X.K C mc m p g) (F : FnX X.prog X.w X.K X.mg X.base n g ks (spX X.K sx)) (hr : Rm q X.A) (hq : n ≤ q) (ho : aV X o Γ M (.ptr C))
    (h : aA X (e :: es) Γ M fun ds M1 => aKw X kws Γ M1 fun zs M2 => zs.length = ks.length ∧ sx (.ptr C :: ds) zs M2 P)
    (hall : (backToKw pos (keywordEach kws X.env)).all (·.1.isSome) = true := by rfl) (hks : (backToKw pos (keywordEach kws X.env)).filterMap (·.1) = ks := by rfl)
    (he : starEach (e :: es) X.env = (false, eval e X.env) :: starEach es X.env := by rfl) (hpl : ((backTo pos (starEach (e :: es) X.env)).any (·.1) || (backToKw pos (keywordEach kws X.env)).any (·.1.isNone)) = false := by rfl)
    (ht : eval (.Call (.Attribute o m apos) (e :: es) kws pos) X.env = (do
      let ov ← eval o X.env
      standAt apos.atName
      let (f, first) ← holding [ov] (getMethod ov m pl)
      callWith pos f first (backTo pos (starEach (e :: es) X.env)) (backToKw pos (keywordEach kws X.env))) := by rfl) : aE X (.Call (.Attribute o m apos) (e :: es) kws pos) Γ M P := fun Hi H σ ok en Q qq => by
  refine ⟨fun σ H Q => WE X o σ H fun x H0 => x = .ref C ∧ WA X (e :: es) σ H0 fun vs H1 => WK X kws σ H1 fun zs H2 => zs.length = ks.length ∧ spX X.K sx (.ref C :: vs) zs H2 Q, ⟨fun pins s σ H Q I h => ?_⟩, ?_⟩
  · refine PySem.W.methodCall_KW (pl := pl) (thn (pe_we.run pins s σ H _ I h) fun u s1 ⟨x, H1, I1, rx, ex, q⟩ => ?_) ht
    subst ex
    obtain rfl : u = Value.ref C := rx
    refine ClX.getmethcm_ok I1 r cm fun s' I2 => ?_
    refine callWith_MKW (self := .ref C) cm.fi hall (thn (pa_wa.run pos _ _ σ H1 _ I2 q) fun us s2 ⟨vs, H2, I3, rv, q2⟩ => ?_) hpl he
    refine thn (pk_wk.run pos _ s2 σ H2 _ I3 q2) fun ws s3 ⟨zs, H3, I4, rz, l2, q3⟩ => ⟨⟨ClX.pin_at I4, I4.kIn⟩, ?_⟩
    rw [hks]
    have z : wpAny (model X.prog X.w) X.A (call (.ref s1.heap.objs.size) us (ks.zip ws)) (EP X ((s1.heap.objs.size, PySem.W.methodObj (.ref g) (.ref C)) :: pins) σ Q) X.xe s3 := by
      refine wpAny_call (PySem.W.method_call (ClX.pin_at I4) (codeAny_mono (F.run X.A X.stack s3 H3 (.ref C :: us) ws (.ref C :: vs) zs Q (hr.mono hq) I4.env0 (.cons rfl rv) rz l2 q3) fun r s'' hq' => ?_))
      cases r with
      | error e => exact False.elim hq'
      | ok fl =>
        cases fl with
        | ret u => exact I4.after hq'
        | next => exact False.elim hq'
        | brk => exact False.elim hq'
        | cont => exact False.elim hq'
    exact thn z fun _ _ y => ClX.unpinE y
  · refine ho Hi H σ ok en _ fun x M0 v0 Hi0 H0 h0 s0 ok0 r0 => ?_
    obtain ⟨rfl, rfl⟩ := h0
    cases r0
    refine ⟨rfl, ?_⟩
    refine h Hi0 H0 σ ok0 (en.mono s0) _ fun ds M1 vs Hi1 H1 h1 s1 ok1 r1 => ?_
    refine h1 Hi1 H1 σ ok1 (en.mono (s0.trans s1)) _ fun zs M2 ws Hi2 H2 h2 s2 ok2 r2 => ?_
    exact ⟨r2.length.symm.trans h2.1, Hi2, M2, _, zs, P, .cons (.ptr C) (r1.mono s2), r2, ok2, h2.2, qq.up ((s0.trans s1).trans s2)⟩
/-- C.f, a constant of the class -/
theorem av_cval {mc u : Value} {f : Str} {v : V} (r : ClX.CRead X.K C mc) (k : ClX.CVal X.K C mc f v u) (ha : aV X a Γ M (.ptr C)) (rep : ∀ H, Rep X.K H d v) (hb : attributeBase a f X.env (eval a X.env) = eval a X.env := by rfl) : aV X (.Attribute a f pos) Γ M d := fun Hi H σ ok en Q q => by
  refine ⟨_, ClX.pe_cval pe_we hb, ?_⟩
  refine ha Hi H σ ok en _ fun x M1 w Hi1 H1 h1 s1 ok1 r1 => ?_
  obtain ⟨rfl, rfl⟩ := h1
  cases r1
  exact ⟨C, mc, v, u, rfl, r, k, q _ _ v Hi1 H1 ⟨rfl, rfl⟩ s1 ok1 (rep _)⟩
/-! ### zip of two tuples -/
theorem walk_zipT {K : PySem.W.Frag} {p1 p2 : Addr} {xs ys : List V} {n : Nat} (hn : n = min xs.length ys.length) : Walk (RZ.ItzT K p1 p2) n (fun H => SqT K H p1 xs ∧ SqT K H p2 ys) (YPair (fun i => xs[i]?) (fun i => ys[i]?)) := by
  refine ⟨fun i H hi ⟨hx, hy⟩ => ⟨xs, ys, xs[i], ys[i], hx, hy, List.getElem?_eq_getElem (by omega), List.getElem?_eq_getElem (by omega)⟩, fun H ⟨hx, hy⟩ => ⟨xs, ys, hx, hy, by omega⟩, fun i H v H' hi ⟨hx, hy⟩ h => ?_⟩
  obtain ⟨T, x, y, h1, h2, h3, h4, h5⟩ := h
  exact ⟨T, x, y, h1, h2, h3, h4 xs hx, h5 ys hy⟩
theorem ai_zipT {elts : List Expr} {kk : Nat} {tpos : Pos} {R : Mem → Prop} {xs ys : List Val} (hm : X.mg "zip" = none) (ha : aA X [a, b] Γ M fun ds M' => ds = [.tup xs, .tup ys] ∧ R M') (hg : Gl X "zip" := by rfl)
    (hs : starEach [a, b] X.env = (false, eval a X.env) :: starEach [b] X.env := by rfl) (hpl : (backTo pos (starEach [b] X.env)).any (·.1) = false := by rfl) :
    aI X (.Tuple elts kk tpos) (.Call (.Name "zip" p1) [a, b] [] pos) Γ M (min xs.length ys.length) (fun i => .tup [xs.getD i .non, ys.getD i .non]) (fun _ => True) R := fun Hi H σ ok en R' q => by
  refine ⟨_, RZ.pi_zipA hg hm pa_wa hs hpl, ?_⟩
  refine ha Hi H σ ok en _ fun ds M1 vs Hi1 H1 h1 s1 ok1 r1 => ?_
  obtain ⟨rfl, hp⟩ := h1
  cases r1 with
  | cons ra r1 =>
    cases r1 with
    | cons rb r1 =>
      cases r1
      cases ra with
      | @tup p zs _ hq1 ra =>
        cases rb with
        | @tup p' zs' _ hq2 rb =>
          refine ⟨p, p', zs, zs', rfl, .inr ⟨sameT ok1.im hq1, sameT ok1.im hq2, q _ M1 Hi1 H1 hp s1 ok1 ?_⟩⟩
          rw [ra.length, rb.length]
          refine (walk_zipT rfl).mono (fun H' hG => ?_) fun i H' v H'' hi hG hy Hi' M' s2 ok2 _ => ?_
          · obtain ⟨Hi', M', s2, ok2, _⟩ := hG
            exact ⟨sameT ok2.im (sameT s2 hq1), sameT ok2.im (sameT s2 hq2)⟩
          · obtain ⟨T, x, y, rfl, hT, rfl, hx, hy⟩ := hy
            have s3 := same_upd (o := .tup [x, y]) (ok2.none hT)
            exact ⟨_, s3, ok2.imm hT, .tup (SqT.of upd_same) (.cons ((Sq.at ra hx).mono (s2.trans s3)) (.cons ((Sq.at rb hy).mono (s2.trans s3)) .nil))⟩
/-! ### i not in (j, ..) -/
end
end Ab
namespace K14
open PySem L2 Ab Sm
section
variable {P : Program} {w : World} {K : PySem.W.Frag} {mg : Str → Option Value} {base : Heap} {k : Nat} {f C CN : Addr}
/-! ### is_integer of nodes.py, need_schedule -/
def aInn : ASp := fun ds M R => ∃ n lo : Int, ds = [.int n, .int lo] ∧ R (.bl (decide (lo ≤ n))) M
theorem b_is_integer_nodes (B : Bt mg) : BodyOk P w K mg base k f n_is_integer_nodes "is_integer" (defScope s_is_integer_nodes) (defBody s_is_integer_nodes) aInn := by
  rintro cdv A outer s H E hr ds M R ⟨n, lo, rfl, hp⟩
  refine as_one (as_ret (ae_and (ae_isi B.isinstance (v_ 0) (av_ty (T := "int") B.int (by decide +kernel)) (.ty "int") (.int _) (kit_ty (by decide +kernel)) ⟨true, rfl, fun _ => ?_, ntf⟩)))
  refine ae_and (ae_not (ae_isi B.isinstance (v_ 0) (av_ty (T := "bool") B.bool (by decide +kernel)) (.ty "bool") (.int _) (kit_ty (by decide +kernel)) ⟨false, rfl, true, rfl, fun _ => ?_, ntf⟩))
  exact ae_one (ae_cmp (v_ 0) (v_ 1) cmp_ge (.ok hp))
abbrev GInn (P : Program) (w : World) (K : PySem.W.Frag) (mg : Str → Option Value) (base : Heap) : Prop := Gd P w K mg base 1 "is_integer_nodes" [] fun ds _ => aInn ds
def aNsc (C : Addr) : ASp := fun ds M R => ∃ S : Sc, ds = [scV C S] ∧ R .non M
theorem b_need_schedule (B : Bt mg) (T : Rs K mg C) (IS : Isi K C) : BodyOk P w K mg base k f n_need_schedule "need_schedule" (defScope s_need_schedule) (defBody s_need_schedule) (aNsc C) := by
  rintro cdv A outer s0 H E hr ds M R ⟨S, rfl, hp⟩
  exact as_one (as_if (at_not (at_val (ae_isi B.isinstance (v_ 0) (ae_glob T.gC ⟨rfl, rfl⟩) (.own C) (ty_sc T IS) IS.c5 ⟨true, rfl, nft, fun _ => as_nil (.ok hp)⟩))))
abbrev GNsc (P : Program) (w : World) (K : PySem.W.Frag) (mg : Str → Option Value) (base : Heap) (C : Addr) : Prop := Gd P w K mg base 1 "need_schedule" [] fun ds _ => aNsc C ds
/-! ### sizes_up_to, end_of_stage -/
theorem szS_succ {S : Sc} (hS : GoodS S) (t : Nat) : item S.lv (t + 1) + S.a * szS S t = szS S (t + 1) := by
  have := hS.a2
  unfold szS
  rw [siz, Int.toNat_of_nonneg (by omega)]
theorem edS_step {S : Sc} (hS : GoodS S) (t : Nat) : edS S t + item S.sp (t + 1) + (S.a - 1) * szS S t = edS S (t + 1) := by
  have := hS.a2
  unfold edS szS
  rw [ed, Int.toNat_of_nonneg (by omega)]
/-! ### need_height, branch_size, stage_end -/
structure NdC (K : PySem.W.Frag) (mg : Str → Option Value) (CN : Addr) : Prop where
  gN : mg "Node" = some (.ref CN)
  rd : ClX.CRead K CN (.type "type")
  mh : ∃ t, ClX.CVal K CN (.type "type") "MAX_HEIGHT" (.int 3000) (.int 3000 t)
theorem av_mh {X : Cx} {Γ : Gam} {M : Mem} {p1 pos : Pos} (N : NdC X.K X.mg CN) (hg : Gl X "Node" := by rfl) (hb : attributeBase (.Name "Node" p1) "MAX_HEIGHT" X.env (eval (.Name "Node" p1) X.env) = eval (.Name "Node" p1) X.env := by rfl) : aV X (.Attribute (.Name "Node" p1) "MAX_HEIGHT" pos) Γ M (.int 3000) := by
  obtain ⟨t, v⟩ := N.mh
  exact av_cval N.rd v (ae_glob N.gN ⟨rfl, rfl⟩ hg) (fun _ => .int 3000) hb
end
end K14
/-! Ab46: isinstance(x, (C1, C2)) -/
namespace Ab
open PySem PySem.Spec PyProof.Rows L2
end Ab
/-! repr of great ints (up to 12900 binary digits), alone and within lists and tuples -/
namespace Ab
open PySem PySem.Spec PyProof.Rows L2 PySem.Builtin
/-- the limit of digits stands as it was set at the start -/
def DigK (K : PySem.W.Frag) : Prop := PySem.W.nsIn K cStatics "sys.int_max_str_digits" = some none
abbrev DigL (M : Model) (h : Heap) : Prop := PySem.W.Looks M h intMaxStrDigits 4300
theorem digL {K : PySem.W.Frag} {M : Model} {h : Heap} (D : DigK K) (x : K.In h) : DigL M h := fun A Q E s k q => by
  unfold intMaxStrDigits
  refine wpAny_bind (PySem.W.looks_nsIn x D A _ _ s k ?_)
  exact wpAny_pure q
section
variable {prog : Program} {w : World} {A : Around} {E : Value → Shared → Prop} {s : Shared} {h₀ : Heap}
theorem odl_wide {i : Int} {Q : Option Nat → Shared → Prop} (D : DigL (model prog w) h₀) (hk : ∀ b o, h₀.get? b = some o → s.heap.get? b = some o) (hi : i.natAbs.log2 < 12900) (q : Q none s) : wpAny (model prog w) A (overDigitLimit? i) Q E s := by
  by_cases c : i.natAbs.log2 < 1920
  · rw [PySem.overDigitLimit_small c]
    exact wpAny_pure q
  · have e : overDigitLimit? i = (intMaxStrDigits >>= fun n => if i.natAbs.log2 / 30 + 1 > 1000 then (if (n != 0 && decide (n / 90 ≤ ((i.natAbs.log2 / 30 + 1) - 11) / 10)) = true then pure (some n) else unsupported "int:decimal-text-by-_pylong") else if (n == 0 || decide (i.natAbs.log2 < 3 * n)) = true then pure none else pure (if i.natAbs ≥ 10 ^ n then some n else none)) := by
      unfold overDigitLimit?
      rw [if_neg c]
      rfl
    rw [e]
    refine wpAny_bind (D A _ _ s hk ?_)
    have g1 : ¬ i.natAbs.log2 / 30 + 1 > 1000 := by omega
    have g2 : (4300 == 0 || decide (i.natAbs.log2 < 3 * 4300)) = true := by simp; omega
    rw [if_neg g1, if_pos g2]
    exact wpAny_pure q
theorem fits_wide {i : Int} (h : i.natAbs.log2 < 12900) : (Str.ofString (toString i)).length ≤ sizeLine := by
  have e := int_text_length_le (k := 12900) (by decide) h
  have e2 : (Str.ofString (toString i)).length = (toString i).length := PySem.ofString_length _
  rw [e2]
  exact Nat.le_trans e (by decide)
theorem irepr_wide {i : Int} {t : Tok} {Q : Value → Shared → Prop} (D : DigL (model prog w) h₀) (hk : ∀ b o, h₀.get? b = some o → s.heap.get? b = some o) (hi : i.natAbs.log2 < 12900) (q : Q (.str (toString i) s.toks) { s with toks := s.toks + 1 }) :
    wpAny (model prog w) A (call (.builtin "int.__repr__") [.int i t]) Q E s := by
  refine wpAny_call_entry F.slot_int_repr (typeIs_int s i t) F.entry_int_repr ?_ (F.args_int_repr_1 _)
  show wpAny _ A.in1 (overDigitLimit? i >>= _) _ _ s
  refine wpAny_bind (odl_wide D hk hi ?_)
  show wpAny _ A.in1 (mkStr (toString i) >>= fun v => ret v) _ _ s
  exact wpAny_bind (wpAny_mkStr (wpAny_pure ⟨_, rfl, q⟩) (fits_wide hi))
theorem robj_wide {i : Int} {t : Tok} {Q : Value → Shared → Prop} (D : DigL (model prog w) h₀) (hk : ∀ b o, h₀.get? b = some o → s.heap.get? b = some o) (hu : A.units < cLine) (hi : i.natAbs.log2 < 12900) (q : Q (.str (toString i) s.toks) { s with toks := s.toks + 1 }) :
    wpAny (model prog w) A (pyReprObj (.int i t)) Q E s := by
  unfold pyReprObj
  refine wpAny_bind (wpAny_cRoomFor hu ?_)
  refine wpAny_bind (wpAny_specialOf (name := Str.ofString "__repr__") (typeIs_int s i t) F.slot_int_repr.lookup ?_)
  refine wpAny_bind (m := callSpecialIfBound? (.int i t) (Str.ofString "__repr__")) (wpAny_callSpecialIfBound?_slot (name := Str.ofString "__repr__") (typeIs_int s i t) F.slot_int_repr (irepr_wide D hk hi ?_))
  exact wpAny_bind (wpAny_isInstance (T := "str") (b := true) rfl isSubtype_str_str (wpAny_pure q))
theorem rk_int {i : Int} (D : DigL (model prog w) h₀) (t : Tok) (hi : i.natAbs.log2 < 12900) (as : List Addr) (n : Nat) : ReprK prog w as h₀ n (.int i t) (toString i) := by
  intro base hb A g E s Q hg hcl hu hk hQ
  have hb' : base ≤ sizeLine := Nat.le_trans (Nat.le_add_right _ _) hb
  rw [pyReprUnder_leaf (v := .int i t) hb' (fun _ e => nomatch e)]
  unfold pyRepr
  exact wpAny_bind (robj_wide D hk (Nat.lt_of_le_of_lt (Nat.le_add_right _ _) hu) hi (wpAny_pure (hQ s.heap _ fun _ _ e => e)))
def Tells (prog : Program) (w : World) (h₀ : Heap) (v : Value) (p : PyData) : Prop := ∃ bs, ReadAtMost h₀ p.depth bs ∧ ReprK prog w bs h₀ p.depth v p.shown
def TellsA (prog : Program) (w : World) (h₀ : Heap) (vs : List Value) (ps : List PyData) : Prop := ∃ bs, ReadAtMost h₀ (PyData.depthAll ps) bs ∧ ReprAllK prog w bs h₀ (PyData.depthAll ps) vs (PyData.shownAll ps)
theorem Tells.of {v : Value} {p : PyData} (h : ReprK prog w [] h₀ p.depth v p.shown) : Tells prog w h₀ v p := ⟨[], (fun _ z => nomatch z), h⟩
end
/-! ### on values -/
end Ab
/-! a run that cannot wake the generators that slept when it began leaves them as they are -/
namespace Ab
open PySem PySem.Spec PyProof.Rows L2 GenW
/-- what stands at a place of the two tables: in the run whose sleepers cannot be woken, in the run itself -/
inductive Tw : GenState → GenState → Prop
  | same {x : GenState} (h : ∀ k l c p fs cl, x = .suspended k l c p fs cl → splitAtGen fs = none) : Tw x x
  | slept {k : Resume → Sem PySem.Fin} {l : List Value} {c : Code} {p : Pos} {fs : List Frame} {cl : Bool} : Tw (.suspended (fun _ => .unsupported "slept") l c p fs cl) (.suspended k l c p fs cl)
def GTw (a b : Array GenState) : Prop := a.size = b.size ∧ ∀ (i : Nat) x y, a[i]? = some x → b[i]? = some y → Tw x y
def Sl (x : GenState) : Prop := ∃ l c p fs cl, x = .suspended (fun _ => .unsupported "slept") l c p fs cl
def Stay (a b a' b' : Array GenState) : Prop := ∀ (i : Nat) x, a[i]? = some x → Sl x → a'[i]? = some x ∧ b'[i]? = b[i]?
theorem Stay.refl (a b : Array GenState) : Stay a b a b := fun i x h _ => ⟨h, rfl⟩
theorem Stay.trans {a b a1 b1 a2 b2 : Array GenState} (h : Stay a b a1 b1) (h2 : Stay a1 b1 a2 b2) : Stay a b a2 b2 := fun i x e z => by
  obtain ⟨e1, e2⟩ := h i x e z
  obtain ⟨e3, e4⟩ := h2 i x e1 z
  exact ⟨e3, e4.trans e2⟩
theorem Tw.bare {x y : GenState} (h : Tw x y) : x.bare = y.bare := by
  cases h with
  | same => rfl
  | slept => rfl
theorem GTw.get {a b : Array GenState} (h : GTw a b) {i : Nat} {x : GenState} (e : a[i]? = some x) : ∃ y, b[i]? = some y ∧ Tw x y := by
  obtain ⟨hi, _⟩ := Array.getElem?_eq_some_iff.mp e
  have hi' : i < b.size := h.1 ▸ hi
  exact ⟨b[i], Array.getElem?_eq_getElem hi', h.2 i x _ e (Array.getElem?_eq_getElem hi')⟩
theorem GTw.set {a b : Array GenState} (h : GTw a b) (g : Nat) {x : GenState} (hx : ∀ k l c p fs cl, x = .suspended k l c p fs cl → splitAtGen fs = none) : GTw (a.setIfInBounds g x) (b.setIfInBounds g x) := by
  refine ⟨by rw [Array.size_setIfInBounds, Array.size_setIfInBounds]; exact h.1, fun i u v hu hv => ?_⟩
  rw [Array.getElem?_setIfInBounds] at hu hv
  by_cases e : g = i
  · subst e
    rw [if_pos rfl] at hu hv
    by_cases hl : g < a.size
    · rw [if_pos hl] at hu
      rw [if_pos (h.1 ▸ hl)] at hv
      cases hu
      cases hv
      exact .same hx
    · rw [if_neg hl] at hu
      cases hu
  · rw [if_neg e] at hu hv
    exact h.2 i u v hu hv
theorem GTw.push {a b : Array GenState} (h : GTw a b) (c : Code) : GTw (a.push (.fresh c)) (b.push (.fresh c)) := by
  refine ⟨by rw [Array.size_push, Array.size_push, h.1], fun i u v hu hv => ?_⟩
  rw [Array.getElem?_push] at hu hv
  by_cases e : i = a.size
  · rw [if_pos e] at hu
    rw [if_pos (e.trans h.1)] at hv
    cases hu
    cases hv
    exact .same fun _ _ _ _ _ _ z => nomatch z
  · rw [if_neg e] at hu
    rw [if_neg (fun z => e (z.trans h.1.symm))] at hv
    exact h.2 i u v hu hv
end Ab
/-! generators: the heap cut, objects that stand by while one sleeps -/
namespace Ab
open PySem PySem.Spec PyProof.Rows L2 GenW
/-- the first B objects -/
def cutH (B : Nat) (h : Heap) : Heap := ⟨(h.objs.toList.take B).toArray, h.life⟩
def cutS (B : Nat) (s : Shared) : Shared := { s with heap := cutH B s.heap }
/-! ### what stands by -/
abbrev Own := List (Addr × Obj)
section
variable {ow : Own} {H H' Hi Hi' : Hp} {b : Addr} {o : Obj} {x : HO}
/-- a raw thing is no exception -/
theorem raw_exc {C : Addr} {d : Option Addr} {o : Obj} : rawH b o ≠ exH b C d := fun e => by
  unfold rawH exH at e
  have e1 := HO.ext.inj e
  let o1 : Obj := { cls := .ref C, dict := d, data := .fields #[], slots := #[] }
  let o2 : Obj := { cls := .ref C, dict := d, data := .fields #[.none], slots := #[] }
  have go : ∀ (u : Obj) (vs : Array Value), u.data = .fields vs → Zc (.ref C) d u → u = o := fun u vs hd hz => by
    have hp : ∃ h : Heap, h.get? b = some u := by
      refine ⟨⟨Array.replicate (b + 1) u, {}⟩, ?_⟩
      unfold Heap.get?
      simp only [Array.getElem?_replicate, Nat.lt_succ_self, if_true]
      obtain ⟨c, dd, dt, sl⟩ := u
      have hd : dt = .fields vs := hd
      subst hd
      rfl
    obtain ⟨h, hh⟩ := hp
    have := congrFun e1 h
    have h2 : h.get? b = some o := this.mpr ⟨u, vs, hh, hz, hd⟩
    rw [hh] at h2
    cases h2
    rfl
  have e2 := go o1 #[] rfl ⟨rfl, rfl⟩
  have e3 := go o2 #[.none] rfl ⟨rfl, rfl⟩
  have e4 : o1 = o2 := e2.trans e3.symm
  have e5 := congrArg Obj.data e4
  cases e5
/-- nor a code object -/
theorem raw_code {q : Str} {o : Obj} : rawH b o ≠ LamX.CodeO b q := fun e => by
  unfold rawH LamX.CodeO at e
  have e1 := HO.ext.inj e
  let o1 : Obj := { cls := .none, dict := none, data := .fields #[.none, .str q 0], slots := #[] }
  let o2 : Obj := { cls := .none, dict := none, data := .fields #[.none, .str q 1], slots := #[] }
  have go : ∀ (u : Obj) (vs : Array Value) (tk : Tok), u.data = .fields vs → vs[1]? = some (.str q tk) → u = o := fun u vs tk hd hz => by
    have hp : ∃ h : Heap, h.get? b = some u := by
      refine ⟨⟨Array.replicate (b + 1) u, {}⟩, ?_⟩
      unfold Heap.get?
      simp only [Array.getElem?_replicate, Nat.lt_succ_self, if_true]
      obtain ⟨c, dd, dt, sl⟩ := u
      have hd : dt = .fields vs := hd
      subst hd
      rfl
    obtain ⟨h, hh⟩ := hp
    have := congrFun e1 h
    have h2 : h.get? b = some o := this.mpr ⟨u, vs, tk, hh, hd, hz⟩
    rw [hh] at h2
    cases h2
    rfl
  have e2 := go o1 #[.none, .str q 0] 0 rfl rfl
  have e3 := go o2 #[.none, .str q 1] 1 rfl rfl
  have e4 : o1 = o2 := e2.trans e3.symm
  have e5 := congrArg Obj.data e4
  simp [o1, o2] at e5
theorem Kp.sqL {K : PySem.W.Frag} {a : Addr} {xs : List V} (e : Kp H H') (h : SqL K H a xs) : SqL K H' a xs := by
  rcases h with (h | ⟨o, h⟩) | h
  · exact .inl (.inl (e _ _ h fun o z => by cases z))
  · exact .inl (.inr ⟨o, e _ _ h fun o z => by cases z⟩)
  · exact .inr h
theorem Kp.sqT {K : PySem.W.Frag} {a : Addr} {xs : List V} (e : Kp H H') (h : SqT K H a xs) : SqT K H' a xs := by
  rcases h with (h | ⟨o, h⟩) | h
  · exact .inl (.inl (e _ _ h fun o z => by cases z))
  · exact .inl (.inr ⟨o, e _ _ h fun o z => by cases z⟩)
  · exact .inr h
end
mutual
theorem Rep.kp {K : PySem.W.Frag} {H H' : Hp} (e : Kp H H') : ∀ {d : Val} {v : V}, Rep K H d v → Rep K H' d v
  | _, _, .non => .non
  | _, _, .bl b => .bl b
  | _, _, .int i => .int i
  | _, _, .str x => .str x
  | _, _, .ty n => .ty n
  | _, _, .ptr a => .ptr a
  | _, _, .lst h r => .lst (e.sqL h) (RepA.kp e r)
  | _, _, .tup h r => .tup (e.sqT h) (RepA.kp e r)
  | _, _, .obj h r => .obj (e _ _ h fun o z => by cases z) (RepF.kp e r)
  | _, _, .exc h d r => .exc (e _ _ h fun o z => raw_exc z.symm) (e _ _ d fun o z => by cases z) (RepF.kp e r)
  | _, _, .exc0 h => .exc0 (e _ _ h fun o z => raw_exc z.symm)
  | _, _, .lam h => .lam (h.trans e)
theorem RepA.kp {K : PySem.W.Frag} {H H' : Hp} (e : Kp H H') : ∀ {ds : List Val} {vs : List V}, RepA K H ds vs → RepA K H' ds vs
  | _, _, .nil => .nil
  | _, _, .cons a r => .cons (Rep.kp e a) (RepA.kp e r)
theorem RepF.kp {K : PySem.W.Frag} {H H' : Hp} (e : Kp H H') : ∀ {ds : List (Str × Val)} {vs : List (Str × V)}, RepF K H ds vs → RepF K H' ds vs
  | _, _, .nil => .nil
  | _, _, .cons a r => .cons (Rep.kp e a) (RepF.kp e r)
end
theorem RepK.kp {K : PySem.W.Frag} {H H' : Hp} (e : Kp H H') : ∀ {ds : List (Key × Val)} {vs : List (Key × V)}, RepK K H ds vs → RepK K H' ds vs
  | _, _, .nil => .nil
  | _, _, .cons a r => .cons (a.kp e) (RepK.kp e r)
theorem RepC.kp {K : PySem.W.Frag} {H H' : Hp} (e : Kp H H') : ∀ {c : Cell0} {o : HO}, RepC K H c o → RepC K H' c o
  | .lst _, _, ⟨xs, h, r⟩ => ⟨xs, h, r.kp e⟩
  | .dk _, _, ⟨kvs, h, r⟩ => ⟨kvs, h, r.kp e⟩
  | .ins _ _, _, ⟨dx, fs, h, r⟩ => ⟨dx, fs, h, r.kp e⟩
  | .fz _ _ _, _, ⟨h, r⟩ => ⟨h, r.kp e⟩
  | .tb _, _, ⟨ps, h, t, r⟩ => ⟨ps, h, t, fun pos cv hc => let ⟨c, h1, h2⟩ := r pos cv hc; ⟨c, h1, e _ _ h2 fun o z => raw_code z.symm⟩⟩
theorem EnvR.kp {K : PySem.W.Frag} {H H' : Hp} {Γ : Gam} {σ : L2.St} (e : Kp H H') (h : EnvR K H Γ σ) : EnvR K H' Γ σ := ⟨h.1, fun i d q => let ⟨v, h1, h2⟩ := h.2 i d q; ⟨v, h1, h2.kp e⟩⟩
end Ab
/-! generators: the contract, statements of a generator's body -/
namespace Ab
open PySem PySem.Spec PyProof.Rows L2 GenW
/-- what is wanted of a wake: an item and where the generator then stands, or its end; the cells then -/
abbrev Hnd (τ : Type) := Option (Val × τ) → Mem → Prop
/-- a wake: where the generator stands, the abstract heap and the cells then, what is wanted, what must stay as it is -/
structure Wkg (τ : Type) where
  x : τ
  Hi : Hp
  H : Hp
  M : Mem
  R : Hnd τ
  pn : List (Addr × Obj)
/-- a generator: Tr: what a wake does; Th: when its consumer wakes it -/
structure GX (τ : Type) where
  P : Program
  w : World
  K : PySem.W.Frag
  mg : Str → Option Value
  base : Heap
  N : List Str
  qual : Str
  sc : Scope
  f : Addr
  cdv : Value
  A : Around
  outer : List Env
  B : Nat
  gp : Addr × Obj
  Tr : τ → Mem → Hnd τ → Prop
  Th : Nat → Wkg τ → Shared → Prop
/-- the context of a generator's body since a wake -/
abbrev gcx (P : Program) (w : World) (K : PySem.W.Frag) (mg : Str → Option Value) (base : Heap) (N : List Str) (qual : Str) (sc : Scope) (f : Addr) (cdv : Value) (A : Around) (outer : List Env) (B : Nat) (pn : List (Addr × Obj)) (H : Hp) (s : Shared) : Cx :=
  { prog := P, w := w, K := K, mg := mg, base := base, A := A.deeper (envOfC qual sc B f cdv), N := N, s_0 := cutS B s, H_0 := H, env := envOfC qual sc B f cdv, outer := outer, stack := envOfC qual sc B f cdv :: outer,
    ex := [], fn := fun _ => true, calm := true, pn := pn, xe := fun _ _ => False }
section
variable {τ : Type}
abbrev GX.env (G : GX τ) : Env := envOfC G.qual G.sc G.B G.f G.cdv
abbrev GX.cx (G : GX τ) (H : Hp) (s : Shared) (pn : List (Addr × Obj)) : Cx := gcx G.P G.w G.K G.mg G.base G.N G.qual G.sc G.f G.cdv G.A G.outer G.B (G.gp :: pn) H s
/-- what is true of it through its life -/
structure GOk (G : GX τ) : Prop where
  mod : Mod G.K G.mg G.base
  kind : G.sc.kind = .function
  co : G.sc.isCoroutine = false
  inj : ∀ x y c, G.env.cells.lookup x = some c → G.env.cells.lookup y = some c → x = y
  has : ∀ x, (G.env.kindOf x = some .cell ∨ G.env.kindOf x = some .free) → ∃ c, G.env.cells.lookup x = some c
  cab : ∀ x c, G.env.cells.lookup x = some c → G.B < c
  hd : G.A.handled = none
  frames : G.A.frames = some G.outer
  bsz : G.base.objs.size ≤ G.B
  sml : ∀ b ∈ frs G.outer, b < G.B
  gpB : G.B < G.gp.1
  gpd : ∀ v, G.gp.2.data ≠ .cell v
  gpc : ∀ x c, G.env.cells.lookup x = some c → c ≠ G.gp.1
structure PinOk (G : GX τ) (H : Hp) (s : Shared) (p : Addr × Obj) : Prop where
  at_ : s.heap.get? p.1 = some p.2
  no : H p.1 = none
  loc : p.1 ≠ G.B
  fr : p.1 ∉ frs G.outer
  nc : ∀ v, p.2.data ≠ .cell v
/-- the state at a wake -/
structure Woke (G : GX τ) (n : Nat) (W : Wkg τ) (s : Shared) : Prop where
  th : G.Th n W s
  pos : 0 < n
  tr : G.Tr W.x W.M W.R
  ok : Ok G.K W.Hi W.M W.H
  le : G.B ≤ s.heap.objs.size
  bs : ∀ b o, G.base.get? b = some o → s.heap.get? b = some o ∧ W.H b = none
  funs : s.heap.FunFrames G.base G.outer
  frf : ∀ b ∈ frs G.outer, W.H b = none
  hok : HOk G.P G.w W.H s.heap
  bare : AllBare s.gens
  pn : ∀ p ∈ W.pn, PinOk G W.H s p
/-- the frame, its cells, its iterators, as they stand -/
structure At (G : GX τ) (ip : List (Addr × Obj)) (σ : L2.St) (s : Shared) : Prop where
  loc : ∃ m, s.heap.Ns G.B m ∧ ∀ (i : Nat) (x : Str) (v : V), G.N[i]? = some x → σ[i]? = some (some v) → Vis G.sc x → ∃ u, RelV v u ∧ Look G.env s.heap m x u
  cell : ∀ x c, G.env.cells.lookup x = some c → ∃ v, s.heap.IsCell c v
  ip : ∀ p ∈ ip, s.heap.get? p.1 = some p.2 ∧ p.1 ≠ G.B ∧ p.1 ∉ frs G.outer ∧ (∀ v, p.2.data ≠ .cell v) ∧ G.B ≤ p.1
  gp : s.heap.get? G.gp.1 = some G.gp.2
  len : σ.length = G.N.length
/-- what a run since a wake leaves -/
structure Seen (G : GX τ) (W : Wkg τ) (s₀ : Shared) (Hi H : Hp) (M : Mem) (s : Shared) : Prop where
  os : s.os = s₀.os
  bare : AllBare s.gens
  un : Un (frs G.outer) [] W.H H (cutH G.B s₀.heap) s.heap
  hok : HOk G.P G.w H s.heap
  pn : ∀ p ∈ G.gp :: W.pn, s.heap.get? p.1 = some p.2 ∧ H p.1 = none
  sm : Same W.Hi Hi
  ok : Ok G.K Hi M H
/-- what stands by -/
structure OwOk (G : GX τ) (ow : Own) (H : Hp) (s : Shared) : Prop where
  at_ : ∀ p ∈ ow, s.heap.get? p.1 = some p.2
  no : ∀ p ∈ ow, H p.1 = none
  ab : ∀ p ∈ ow, G.B ≤ p.1
  gp : G.gp ∈ ow
/-- the protocol -/
def YG (G : GX τ) : Protocol := fun n s₀ v s kap => ∃ (W : Wkg τ) (d : Val) (x' : τ) (vv : V) (M : Mem) (Hi H : Hp) (ow : Own), G.Th (n + 1) W s₀ ∧ W.R (some (d, x')) M ∧ RelV vv v ∧ Rep G.K Hi d vv ∧ Seen G W s₀ Hi H M s ∧ OwOk G ow H s ∧ (∀ p ∈ W.pn, ∀ q ∈ ow, p.1 ≠ q.1) ∧
  ∀ (W' : Wkg τ) (s' : Shared), Woke G n W' s' → W'.x = x' → Same Hi W'.Hi → OwOk G ow W'.H s' → (∀ p ∈ W'.pn, ∀ q ∈ ow, p.1 ≠ q.1) → kap (.send .none) s'
def EG (G : GX τ) (n : Nat) (s₀ s : Shared) : Prop := ∃ (W : Wkg τ) (M : Mem) (Hi H : Hp), G.Th n W s₀ ∧ W.R none M ∧ Seen G W s₀ Hi H M s
abbrev RG (G : GX τ) : GenEnd := fun n s₀ r s => ((r = .ok (.ret .none) ∨ r = .ok .next) ∧ EG G n s₀ s) ∨ ∃ e, r = .error e ∧ False
/-- what is wanted behind a statement of a generator: the wakes left, the wish, slots, cells -/
structure KG (τ : Type) where
  nx : Nat → Hnd τ → Gam → Mem → Prop
  rt : Nat → Hnd τ → Val → Mem → Prop
  bk : Nat → Hnd τ → Gam → Mem → Prop := fun _ _ _ _ => False
  ct : Nat → Hnd τ → Gam → Mem → Prop := fun _ _ _ _ => False
def KG.at (k : KG τ) (n : Nat) (R : Hnd τ) : AK := { nx := k.nx n R, rt := k.rt n R, bk := k.bk n R, ct := k.ct n R }
/-- where the generator's code stands -/
structure GCt (G : GX τ) (ip : List (Addr × Obj)) (c : Code) (fs : List Frame) (gd : Bool → Bool) : Prop where
  over : G.A.over c fs = G.A.deeper G.env
  split : splitAtGen fs = none
  guard : fs.any Frame.guarded = false
  gd : gd false = false
  ip : ∀ p ∈ ip, G.B ≤ p.1
abbrev SegG (G : GX τ) (n : Nat) (s₀ : Shared) (c : Code) (t : Sem PySem.Fin) (fs : List Frame) (s : Shared) : Prop := Seg (model G.P G.w) G.A (RG G) (YG G) n s₀ c t fs s
/-- the state amid a run since a wake -/
structure GIv (G : GX τ) (ip : List (Addr × Obj)) (n : Nat) (W : Wkg τ) (s₀ s : Shared) (σ : L2.St) (H Hi : Hp) (M : Mem) : Prop where
  th : G.Th n W s₀
  sm : Same W.Hi Hi
  inv : Inv (G.cx W.H s₀ W.pn) ip σ H s
  ok : Ok G.K Hi M H
  ap : ∀ p ∈ W.pn, ∀ q ∈ ip, p.1 ≠ q.1
  le : G.B ≤ s₀.heap.objs.size
  gpn : ∀ p ∈ W.pn, p.1 ≠ G.gp.1
structure GKo (G : GX τ) (ip : List (Addr × Obj)) (Hi0 : Hp) (c : Code) (fs : List Frame) (Kc : Flow → Sem PySem.Fin) (k : KG τ) : Prop where
  nx : ∀ n W s₀ s σ H Hi Γ M, GIv G ip n W s₀ s σ H Hi M → Same Hi0 Hi → EnvR G.K Hi Γ σ → k.nx n W.R Γ M → SegG G n s₀ c (Kc .next) fs s
  bk : ∀ n W s₀ s σ H Hi Γ M, GIv G ip n W s₀ s σ H Hi M → Same Hi0 Hi → EnvR G.K Hi Γ σ → k.bk n W.R Γ M → SegG G n s₀ c (Kc .brk) fs s
  ct : ∀ n W s₀ s σ H Hi Γ M, GIv G ip n W s₀ s σ H Hi M → Same Hi0 Hi → EnvR G.K Hi Γ σ → k.ct n W.R Γ M → SegG G n s₀ c (Kc .cont) fs s
  rt : ∀ n W s₀ s σ H Hi d v u M, GIv G ip n W s₀ s σ H Hi M → Same Hi0 Hi → Rep G.K Hi d v → RelV v u → k.rt n W.R d M → SegG G n s₀ c (Kc (.ret u)) fs s
def gS (G : GX τ) (st : Stmt) (n : Nat) (R : Hnd τ) (Γ : Gam) (M : Mem) (k : KG τ) : Prop := GOk G → ∀ ip W s₀ c fs Kc Jc gd lv s σ H Hi, GCt G ip c fs gd → GIv G ip n W s₀ s σ H Hi M → W.R = R → EnvR G.K Hi Γ σ →
  GKo G ip Hi c fs Kc k → SegG G n s₀ c ((exec st G.env).wrap Kc Jc gd lv) fs s
def gSs (G : GX τ) (st : List Stmt) (n : Nat) (R : Hnd τ) (Γ : Gam) (M : Mem) (k : KG τ) : Prop := GOk G → ∀ ip W s₀ c fs Kc Jc gd lv s σ H Hi, GCt G ip c fs gd → GIv G ip n W s₀ s σ H Hi M → W.R = R → EnvR G.K Hi Γ σ →
  GKo G ip Hi c fs Kc k → SegG G n s₀ c ((execs st G.env).wrap Kc Jc gd lv) fs s
end
section
variable {τ : Type} {G : GX τ} {st : Stmt} {sts rest : List Stmt} {n : Nat} {R : Hnd τ} {Γ : Gam} {M : Mem} {k : KG τ}
section
variable {ip : List (Addr × Obj)} {W : Wkg τ} {s₀ s : Shared} {σ : L2.St} {H Hi : Hp}
theorem GKo.up {Hi' : Hp} {c : Code} {fs : List Frame} {Kc : Flow → Sem PySem.Fin} (kk : GKo G ip Hi c fs Kc k) (sm : Same Hi Hi') : GKo G ip Hi' c fs Kc k :=
  ⟨fun n W s₀ s σ H Hi2 Γ M v s2 => kk.nx n W s₀ s σ H Hi2 Γ M v (sm.trans s2), fun n W s₀ s σ H Hi2 Γ M v s2 => kk.bk n W s₀ s σ H Hi2 Γ M v (sm.trans s2), fun n W s₀ s σ H Hi2 Γ M v s2 => kk.ct n W s₀ s σ H Hi2 Γ M v (sm.trans s2), fun n W s₀ s σ H Hi2 d v u M g s2 => kk.rt n W s₀ s σ H Hi2 d v u M g (sm.trans s2)⟩
theorem GIv.to (v : GIv G ip n W s₀ s σ H Hi M) {s' : Shared} {σ' : L2.St} {H' Hi' : Hp} {M' : Mem} (I : Inv (G.cx W.H s₀ W.pn) ip σ' H' s') (sm : Same Hi Hi') (ok : Ok G.K Hi' M' H') : GIv G ip n W s₀ s' σ' H' Hi' M' := ⟨v.th, v.sm.trans sm, I, ok, v.ap, v.le, v.gpn⟩
end
/-! ### while -/
end
end Ab
/-! generator defs: the call -/
namespace Ab
open PySem PySem.Spec PyProof.Rows L2 GenW
/-- a generator that has not begun; it stands at x -/
def GNew (P : Program) (w : World) (K : PySem.W.Frag) (mg : Str → Option Value) (base : Heap) (k : Nat) (outer : List Env) (B : Nat) {τ : Type} (Tr : τ → Mem → Hnd τ → Prop) (H Hi : Hp) (x : τ) (u : Value) (s : Shared) : Prop :=
  ∃ (N : List Str) (qual : Str) (sc : Scope) (f : Addr) (cdv : Value) (gp : Addr × Obj) (g : Nat) (c : Code) (ow : Own) (nm qn : Value),
    u = .ref gp.1 ∧ gp.2.cls = .type "generator" ∧ gp.2.data = .fields #[.int g 0, nm, qn] ∧ gp.2.slots = #[] ∧ s.gens[g]? = some (.fresh c) ∧
    (∀ p ∈ ow, s.heap.get? p.1 = some p.2 ∧ H p.1 = none ∧ B ≤ p.1) ∧ gp ∈ ow ∧
    ∀ (A : Around) (Th : Nat → Wkg τ → Shared → Prop), Rm k A → A.frames = some outer → GOk (GX.mk P w K mg base N qual sc f cdv A outer B gp Tr Th) ∧
      ∀ (n : Nat) (W : Wkg τ) (s2 : Shared), Woke (GX.mk P w K mg base N qual sc f cdv A outer B gp Tr Th) n W s2 → W.x = x → Same Hi W.Hi → OwOk (GX.mk P w K mg base N qual sc f cdv A outer B gp Tr Th) ow W.H s2 → (∀ p ∈ W.pn, ∀ q ∈ ow, p.1 ≠ q.1) →
        SegG (GX.mk P w K mg base N qual sc f cdv A outer B gp Tr Th) n s2 c ((model P w).den c) [] s2
/-- a generator def by its call -/
structure GnX (P : Program) (w : World) (K : PySem.W.Frag) (mg : Str → Option Value) (base : Heap) (k : Nat) (f : Addr) (ks : List Str) {τ : Type} (Tr : τ → Mem → Hnd τ → Prop) (s0 : List Val → List Val → τ → Prop) : Prop where
  run : ∀ (A : Around) (outer : List Env) (s : Shared) (H Hi : Hp) (us ws : List Value) (vs zs : List V) (ds es : List Val) (x : τ), Rm k A → Env0 P w K mg base A outer s H → Vals vs us → Vals zs ws → zs.length = ks.length → RepA K Hi ds vs → RepA K Hi es zs → s0 ds es x →
    codeAny (model P w) A (.call (.ref f) ⟨us, ks.zip ws⟩) (fun r s' => match r with
      | .ok (.ret u) => GNew P w K mg base k outer s.heap.objs.size Tr H Hi x u s' ∧ s'.os = s.os ∧ AllBare s'.gens ∧ ∀ b o, s.heap.get? b = some o → s'.heap.get? b = some o
      | _ => False) s
end Ab
/-! a for over a generator -/
namespace Ab
open PySem PySem.Spec PyProof.Rows L2 GenW
open Sem (wp)
end Ab
/-! calls of generator defs -/
namespace Ab
open PySem PySem.Spec PyProof.Rows L2 GenW
section
variable {X : Cx} {Γ : Gam} {M : Mem} {e o : Expr} {es : List Expr} {kws : List Keyword} {pos p1 apos : Pos} {x m : Str} {n : Nat} {f C : Addr} {ks : List Str} {τ : Type} {Tr : τ → Mem → Hnd τ → Prop} {s0 : List Val → List Val → τ → Prop} {P : τ → Mem → Prop}
theorem GnX.mono {P : Program} {w : World} {K : PySem.W.Frag} {mg : Str → Option Value} {base : Heap} {j k : Nat} (F : GnX P w K mg base j f ks Tr s0) (h : j ≤ k) : GnX P w K mg base k f ks Tr s0 := ⟨fun A outer s H Hi us ws vs zs ds es x hr e0 r rz l rd re hs =>
  codeAny_mono (F.run A outer s H Hi us ws vs zs ds es x (hr.mono h) e0 r rz l rd re hs) fun r s' hq => by
    cases r with
    | error e => exact hq
    | ok fl =>
      cases fl with
      | ret u =>
        obtain ⟨⟨N, qual, sc, f, cdv, gp, g, c, ow, nm, qn, h1, h2, h3, h4, h5, h6, h7, h8⟩, h9⟩ := hq
        exact ⟨⟨N, qual, sc, f, cdv, gp, g, c, ow, nm, qn, h1, h2, h3, h4, h5, h6, h7, fun A Th hr => h8 A Th (hr.mono h)⟩, h9⟩
      | next => exact hq
      | brk => exact hq
      | cont => exact hq⟩
end
end Ab
/-! a for within a generator's body -/
namespace Ab
open PySem PySem.Spec PyProof.Rows L2 GenW
end Ab
/-! dicts: keys that are ints or texts, get, locking, walking -/
namespace Ab
open PySem PySem.Spec PyProof.Rows L2
/-- a dict at p, locked or not -/
def DkAt (M : Mem) (p : Addr) (ds : List (Key × Val)) : Prop := ∃ n : Nat, M[n]? = some (p, .dk ds) ∨ ∃ od kvs, M[n]? = some (p, .b (.fz od kvs ds))
theorem DkAt.dk {M : Mem} {p : Addr} {ds : List (Key × Val)} (n : Nat) (h : M[n]? = some (p, .dk ds)) : DkAt M p ds := ⟨n, .inl h⟩
theorem DkAt.fz {M : Mem} {p : Addr} {ds : List (Key × Val)} {od : Obj} {kvs : List (Key × V)} (n : Nat) (h : M[n]? = some (p, .b (.fz od kvs ds))) : DkAt M p ds := ⟨n, .inr ⟨od, kvs, h⟩⟩
theorem DkAt.rd {K : PySem.W.Frag} {M : Mem} {p : Addr} {ds : List (Key × Val)} {Hi H : Hp} (h : DkAt M p ds) (ok : Ok K Hi M H) : ∃ kvs, Rd H p (.dK kvs) ∧ RepK K Hi ds kvs := by
  obtain ⟨n, h | ⟨od, kvs, h⟩⟩ := h
  · obtain ⟨_, o, ho, ks, rfl, rk⟩ := ok.get h
    exact ⟨ks, .inl ho, rk⟩
  · obtain ⟨_, o, ho, rfl, rk⟩ := ok.get h
    exact ⟨kvs, .inr ⟨od, ho⟩, rk⟩
section
variable {X : Cx} {Γ : Gam} {M : Mem} {P : Val → Mem → Prop} {e a b c o : Expr} {pos p1 apos ppos : Pos} {k : AK} {d d1 : Val} {kk : Key} {p : Addr} {ds : List (Key × Val)}
/-- while G: the locked dict is there -/
def Lk (p : Addr) (od : Obj) (kvs : List (Key × V)) (ds : List (Key × Val)) (M : Mem) : Prop := ∃ n : Nat, M[n]? = some (p, .b (.fz od kvs ds))
theorem Lk.rd {K : PySem.W.Frag} {od : Obj} {kvs : List (Key × V)} {Hi H : Hp} (h : Lk p od kvs ds M) (ok : Ok K Hi M H) : H p = some (.frz od (.dK kvs)) ∧ RepK K Hi ds kvs := by
  obtain ⟨n, h⟩ := h
  obtain ⟨_, o, ho, rfl, rk⟩ := ok.get h
  exact ⟨ho, rk⟩
end
end Ab
/-! generators: loops that forget slots; keywords in the other order -/
namespace Ab
open PySem PySem.Spec PyProof.Rows L2 GenW
section
variable {τ : Type} {G : GX τ} {st : Stmt} {sts : List Stmt} {n : Nat} {R : Hnd τ} {Γ Γ' : Gam} {M : Mem} {k k' : KG τ}
theorem gko_mono {ip : List (Addr × Obj)} {Hi : Hp} {c : Code} {fs : List Frame} {Kc : Flow → Sem PySem.Fin} (kk : GKo G ip Hi c fs Kc k') (f1 : ∀ n R Γ M, k.nx n R Γ M → k'.nx n R Γ M) (f2 : ∀ n R d M, k.rt n R d M → k'.rt n R d M) (f3 : ∀ n R Γ M, k.bk n R Γ M → k'.bk n R Γ M) (f4 : ∀ n R Γ M, k.ct n R Γ M → k'.ct n R Γ M) : GKo G ip Hi c fs Kc k :=
  ⟨fun n W s₀ s σ H Hi Γ M v sm en h => kk.nx n W s₀ s σ H Hi Γ M v sm en (f1 _ _ _ _ h), fun n W s₀ s σ H Hi Γ M v sm en h => kk.bk n W s₀ s σ H Hi Γ M v sm en (f3 _ _ _ _ h), fun n W s₀ s σ H Hi Γ M v sm en h => kk.ct n W s₀ s σ H Hi Γ M v sm en (f4 _ _ _ _ h), fun n W s₀ s σ H Hi d v u M g sm r rv h => kk.rt n W s₀ s σ H Hi d v u M g sm r rv (f2 _ _ _ _ h)⟩
theorem gS.mono (h : gS G st n R Γ M k) (f1 : ∀ n R Γ M, k.nx n R Γ M → k'.nx n R Γ M) (f2 : ∀ n R d M, k.rt n R d M → k'.rt n R d M := by intro _ _ _ _ h; exact h) (f3 : ∀ n R Γ M, k.bk n R Γ M → k'.bk n R Γ M := by intro _ _ _ _ h; exact h) (f4 : ∀ n R Γ M, k.ct n R Γ M → k'.ct n R Γ M := by intro _ _ _ _ h; exact h) : gS G st n R Γ M k' :=
  fun go ip W s₀ c fs Kc Jc gd lv s σ H Hi g v hR en kk => h go ip W s₀ c fs Kc Jc gd lv s σ H Hi g v hR en (gko_mono kk f1 f2 f3 f4)
theorem gSs.mono (h : gSs G sts n R Γ M k) (f1 : ∀ n R Γ M, k.nx n R Γ M → k'.nx n R Γ M) (f2 : ∀ n R d M, k.rt n R d M → k'.rt n R d M := by intro _ _ _ _ h; exact h) (f3 : ∀ n R Γ M, k.bk n R Γ M → k'.bk n R Γ M := by intro _ _ _ _ h; exact h) (f4 : ∀ n R Γ M, k.ct n R Γ M → k'.ct n R Γ M := by intro _ _ _ _ h; exact h) : gSs G sts n R Γ M k' :=
  fun go ip W s₀ c fs Kc Jc gd lv s σ H Hi g v hR en kk => h go ip W s₀ c fs Kc Jc gd lv s σ H Hi g v hR en (gko_mono kk f1 f2 f3 f4)
end
section
variable {P : Program} {w : World} {K : PySem.W.Frag} {mg : Str → Option Value} {base : Heap}
theorem repA_rev {H : Hp} : ∀ {ds : List Val} {vs : List V}, RepA K H ds vs → RepA K H ds.reverse vs.reverse
  | _, _, .nil => .nil
  | _, _, .cons a r => by
    rw [List.reverse_cons, List.reverse_cons]
    exact (repA_rev r).append (.cons a .nil)
theorem vals_rev : ∀ {ds : List V} {vs : List Value}, Vals ds vs → Vals ds.reverse vs.reverse
  | _, _, .nil => .nil
  | _, _, .cons a r => by
    rw [List.reverse_cons, List.reverse_cons]
    exact (vals_rev r).append (.cons a .nil)
/-- keywords in the reverse order -/
theorem kbn_rev {params : Arguments} {body : List Stmt} {sc : Scope} {kws : List (Str × V)} {x qual : Str} {f : Addr} {fd : FuncData} {ps ks : List Str} {n : Nat} (F : FunD K x qual params body sc [] kws f fd)
    (h : ∀ (kV doc pm : Value) (an : Option Addr) (cdv ct : Value) (us ws : List Value), us.length = n → ws.length = ks.length → bindArgs (PySem.W.fnOf x qual params body sc .none kV doc pm an cdv ct) ⟨us, ks.zip ws⟩ = pure (ps.zip (us ++ ws.reverse))) : KBn K fd ps n ks (fun us ws => us ++ ws.reverse) (fun vs zs => vs ++ zs.reverse) := by
  obtain ⟨oc, od, dV, kV, doc, pm, an, cdv, ct, osl, rfl, lk, hcd, hD, _⟩ := F.ex
  obtain ⟨_, rfl⟩ : ([] : List V) = [] ∧ dV = .none := by
    rcases hD with h | ⟨e, _⟩
    · exact h
    · exact absurd rfl e
  exact ⟨fun s us ws _ h1 h2 => .of_eq (h kV doc pm an cdv ct us ws h1 h2), fun r1 r2 => r1.append (vals_rev r2)⟩
end
theorem ae_dict0 {X : Cx} {Γ : Gam} {M : Mem} {P : Val → Mem → Prop} {pos : Pos} (h : ∀ p, P (.ptr p) ((p, .dk []) :: M)) : aE X (.Dict [] [] pos) Γ M P := fun Hi H σ ok en Q q =>
  ⟨_, pe_dnewK, fun p hp => q _ _ _ Hi _ (h p) (Same.refl _) (ok.new hp ⟨[], rfl, .nil⟩) (.ptr p)⟩
end Ab
namespace Ab
open PySem PySem.Spec PyProof.Rows L2
end Ab
/-! Ab92: xs[::-1] of a list -/
namespace Ab
open PySem PySem.Spec PyProof.Rows L2
end Ab
/-! Ab74: try with several clauses `except C as n` -/
namespace Ab
open PySem PySem.Spec PyProof.Rows L2
/-! ### the same over values -/
end Ab
/-! Ab75: x(*y, k=e) where x is a local name that holds a class; t * 1; tuple(range(a, b)); a def that may raise but does not -/
namespace Ab
open PySem PySem.Spec PyProof.Rows L2
/-! ### t * 1 -/
end Ab
/-! Ab76: == and != of instances that stand in boxes; Name(*y, k=e); a box behind which new cells are left -/
namespace Ab
open PySem PySem.Spec PyProof.Rows L2
/-- == of the class at C by the def at f, over any memory -/
structure OwnM (P : Program) (w : World) (K : PySem.W.Frag) (mg : Str → Option Value) (base : Heap) (n : Nat) (C f : Addr) (s : ASp) : Prop where
  fx : FX P w K mg base n f fun ds _ => s ds
  at_ : PySem.W.findIn K (.ref C) "__eq__" = some (some (.ref f))
  fn : PySem.W.isFn K (.ref f) = true
  ne : PySem.W.findIn K (.ref C) "__ne__" = some (some (.builtin "object.__ne__"))
  ob : PySem.W.subIn K (.ref C) (.type "object") = some true
end Ab
/-! generators: tests that change cells; boxes over defs that raise -/
namespace Ab
open PySem PySem.Spec PyProof.Rows L2 GenW
section
variable {P : Program} {w : World} {K : PySem.W.Frag} {mg : Str → Option Value} {base : Heap} {k : Nat} {f : Addr} {ks : List Str}
theorem FnE.box {sx sx' : ASxe} (F : FnE P w K mg base k f ks (spE K sx)) (h : ∀ ds es M R PE, sx' ds es M R PE → ∃ (i : Nat) (p : Addr) (φ : Mem0 → Prop), M[i]? = some (p, .box φ) ∧
    ∀ B, φ B → p ∈ B.map (·.1) → sx ds es (bs B ++ M.eraseIdx i) (fun d M' => ∃ B' φ', M' = bs B' ++ M.eraseIdx i ∧ φ' B' ∧ p ∈ B'.map (·.1) ∧ R d (M.set i (p, .box φ')))
      (fun C fs M' => ∃ B' φ', M' = bs B' ++ M.eraseIdx i ∧ φ' B' ∧ p ∈ B'.map (·.1) ∧ PE C fs (M.set i (p, .box φ')))) : FnE P w K mg base k f ks (spE K sx') :=
  F.weak fun vs zs H Q E ⟨Hi, M, ds, es, R, PE, r1, r2, ok, hs, q, qe⟩ => by
    obtain ⟨i, p, φ, hi, hb⟩ := h ds es M R PE hs
    obtain ⟨B, h1, h2, ok'⟩ := ok.opn hi
    refine ⟨Hi, _, ds, es, _, _, r1, r2, ok', hb B h1 h2, fun d M' v Hi' H' hd s' ok2 r => ?_, fun C fs M' Hi' H' cls d hd s' ok2 r => ?_⟩
    · obtain ⟨B', φ', rfl, h3, h4, h5⟩ := hd
      exact q d _ v Hi' H' h5 s' (ok2.clsAt hi h3 h4) r
    · obtain ⟨B', φ', rfl, h3, h4, h5⟩ := hd
      exact qe C fs _ Hi' H' cls d h5 s' (ok2.clsAt hi h3 h4) r
end
end Ab
/-! Ab77: a box opened around an expression and closed as another box -/
namespace Ab
open PySem PySem.Spec PyProof.Rows L2
end Ab
/-! Ab78: the dict of a def's ** parameter, told of the heap alone -/
namespace Ab
open PySem PySem.Spec PyProof.Rows L2
end Ab
/-! Ab79: {k: v for .. in ..} -/
namespace Ab
open PySem PySem.Spec PyProof.Rows L2
end Ab
/-! Ab80: data compared with either answer; == and != of an instance with a value of another kind; list(d.items()); dicts compared with {} -/
namespace Ab
open PySem PySem.Spec PyProof.Rows L2 Builtin
section
variable {X : Cx} {M : Mem} {d1 d2 v w : Val}
theorem CP.is {op : CmpOp} {x y : Val} {p : Prop} [Decidable p] (h : CP X op M x y p) : Cmp X op M x y (decide p) := by
  obtain ⟨b, h1, h2⟩ := h
  have : b = decide p := by
    cases b with
    | true => exact (decide_eq_true (h2.mp rfl)).symm
    | false => exact (decide_eq_false fun z => nomatch h2.mpr z).symm
  rw [← this]
  exact h1
end
/-! ### an instance against a value of another kind -/
/-- no value of a built-in type is one of C's -/
theorem kit_no {K : PySem.W.Frag} {C : Addr} {T : String} (hd : PySem.W.hasDictIn K C = true) (ht : PySem.W.typeIn K (.ref C) = some (.type "type")) (hs : PySem.W.subIn K (.type T) (.ref C) = some false) : PySem.W.kitOne K (.type T) (.ref C) = some false ∧ PySem.W.notFirst K C (.type T) = true := by
  obtain ⟨cd, hc, _⟩ := PySem.W.any_some hd
  refine ⟨?_, by simp [PySem.W.notFirst, hs]⟩
  unfold PySem.W.kitOne PySem.W.kitCls
  rw [if_neg (by simp)]
  show (if ((PySem.W.clsIn K C).isSome && PySem.W.typeIn K (.ref C) == some (.type "type")) = true then PySem.W.subIn K (.type T) (.ref C) else none) = some false
  rw [hc, ht, hs]
  simp
/-! ### dicts against the empty one -/
/-! ### list(d.items()) -/
end Ab
/-! Ab81: data in a tuple or list of data -/
namespace Ab
open PySem PySem.Spec PyProof.Rows L2 Builtin
end Ab
/-! Ab82: classmethods by keywords alone; classmethods that may raise -/
namespace Ab
open PySem PySem.Spec PyProof.Rows L2
end Ab
/-! Ab83: a property of any expression that gives an instance, boxed or not -/
namespace Ab
open PySem PySem.Spec PyProof.Rows L2
end Ab
/-! g(lambda: e): a lambda handed to a def that calls it -/
namespace Ab
open PySem PySem.Spec PyProof.Rows L2 LamX
section
variable {X : Cx} {pins : List (Addr × Obj)} {σ : L2.St} {H Hi : Hp} {s : Shared} {M : Mem}
/-- what is known when the lambda has been made -/
structure Made (X : Cx) (pins : List (Addr × Obj)) (σ : L2.St) (Hi : Hp) (M : Mem) (params : Arguments) (body : PySem.Expr) (scope : Scope) (f c' : Addr) (pm ctv : Value) (Hi1 H1 : Hp) (s' : Shared) : Prop where
  inv : Inv X pins σ H1 s'
  ok : Ok X.K Hi1 M H1
  sm : Same Hi Hi1
  at_ : s'.heap.get? f = some (PySem.W.kla_obj "<lambda>" (X.env.qual ++ "<lambda>") params body scope (cloFrom X.env.cells scope.names []) pm c' ctv)
  no : H1 f = none
  fr : f ∉ frs X.stack
  co : Hi1 c' = some (CodeO c' (X.env.qual ++ "<lambda>"))
theorem lam_made {c Pt : Addr} {i : Nat} {params : Arguments} {body : PySem.Expr} {scope : Scope} {pos : Pos} {E : Value → Shared → Prop} {Q : Value → Shared → Prop} (I : Inv X pins σ H s) (ok : Ok X.K Hi M H) (TB : TabB X.base X.mg c Pt) (hcode : X.env.code = .ref c)
    (hm : M[i]? = some (Pt, .b (.tb (X.env.qual ++ "<lambda>")))) (hdef : defaultsOf params X.env = ([], [])) (hfree : ∀ y ∈ scope.names, y.2 = .free → ∃ c, X.env.cells.lookup y.1 = some c)
    (h : ∀ f c' pm ctv Hi1 H1 s', Made X pins σ Hi M params body scope f c' pm ctv Hi1 H1 s' → Q (.ref f) s') :
    wpAny (model X.prog X.w) X.A (eval (.Lambda params body scope pos) X.env) Q E s := by
  obtain ⟨hin, o, hP, ps, rfl, ht, ha⟩ := ok.get hm
  refine PySem.W.kla_eval hdef ?_
  have rawP := I.hok Pt _ hP
  have nofr : ∀ f, s.heap.objs.size ≤ f → f ∉ frs X.stack := fun f hf z => by
    rcases List.mem_cons.mp (I.stkSub _ z) with e | e
    · have h1 := I.lt
      rw [← e] at h1
      exact absurd h1 (Nat.not_lt.mpr hf)
    · exact I.nofs hf e
  cases hc : codeAmong pos ps.toList with
  | some cv =>
    obtain ⟨c', rfl, hco⟩ := ha pos cv hc
    refine PySem.W.kla_makeFunctionHit (closure_ok hfree) I.ok.glob (I.mod.glob.keeps I.bk) hcode (TB.code.keeps I.bk) rawP ht hc (TB.bm.keeps I.bk) fun ctv h' tk hx hsz => ?_
    exact h _ c' _ ctv Hi H _ ⟨I.kept fun b o e => Heap.get?_push_of_some _ (hx b o e), ok, Same.refl _, Heap.get?_push_size _ rfl, I.hok.fresh hsz, nofr _ hsz, hco⟩
  | none =>
    refine PySem.W.kla_makeFunction (closure_ok hfree) I.ok.glob (I.mod.glob.keeps I.bk) hcode (TB.code.keeps I.bk) rawP ht hc TB.gP (TB.bm.keeps I.bk) fun c' ctv h' tk hx hge hlt ⟨_, oc, vs, t, e2, hoc, hd, hv⟩ htb => ?_
    cases e2
    have nC : H c' = none := I.hok.fresh hge
    have niC : Hi c' = none := ok.none nC
    have nPc : Pt ≠ c' := ne_of_none hP nC
    obtain ⟨more, hmore⟩ : ∃ more : Array Value, more = #[rawInt pos.line, rawInt pos.col, .ref c'] := ⟨_, rfl⟩
    rw [← hmore] at htb
    have eL : (ps ++ more).toList = ps.toList ++ [rawInt pos.line, rawInt pos.col, .ref c'] := by rw [hmore]; simp
    let ob := PySem.W.kla_obj "<lambda>" (X.env.qual ++ "<lambda>") params body scope (cloFrom X.env.cells scope.names []) ((X.mg "__name__").getD .none) c' ctv
    have I1 := inv_table (t' := tk) (q := X.env.qual ++ "<lambda>") (more := more) (h' := h'.push ob) I hP (fun b o hb e => Heap.get?_push_of_some _ (hx b o hb e)) (Heap.get?_push_of_some _ htb) hge ⟨oc, vs, t, Heap.get?_push_of_some _ hoc, hd, hv⟩
    have sm := same_upd (o := CodeO c' (X.env.qual ++ "<lambda>")) niC
    -- the code object never changes; the table's cell is written
    have ok1 : Ok X.K (upd Hi c' (CodeO c' (X.env.qual ++ "<lambda>"))) M (upd H c' (CodeO c' (X.env.qual ++ "<lambda>"))) := ok.imm nC
    have ok2 : Ok X.K (upd Hi c' (CodeO c' (X.env.qual ++ "<lambda>"))) (M.set i (Pt, .b (.tb (X.env.qual ++ "<lambda>")))) (upd (upd H c' (CodeO c' (X.env.qual ++ "<lambda>"))) Pt (.tbl (ps ++ more))) := by
      refine ok1.set hm ⟨ps ++ more, rfl, by rw [eL]; exact PySem.TriplesOk_snoc _ _ _ _ ht, fun p' cv hcv => ?_⟩
      rw [eL] at hcv
      rcases among_app _ ht hcv with z | z
      · obtain ⟨c0, e1, e3⟩ := ha p' cv z
        exact ⟨c0, e1, sm _ _ e3⟩
      · exact ⟨c', z, upd_same⟩
    rw [show M.set i (Pt, Cell.b (.tb (X.env.qual ++ "<lambda>"))) = M from set_at hm] at ok2
    have comm : upd (upd H c' (CodeO c' (X.env.qual ++ "<lambda>"))) Pt (.tbl (ps ++ more)) = upd (upd H Pt (.tbl (ps ++ more))) c' (CodeO c' (X.env.qual ++ "<lambda>")) := by
      funext b
      by_cases h1 : b = Pt
      · subst h1
        rw [upd_same, upd_ne nPc, upd_same]
      · by_cases h2 : b = c'
        · subst h2
          rw [upd_ne h1, upd_same, upd_same]
        · rw [upd_ne h1, upd_ne h2, upd_ne h2, upd_ne h1]
    rw [comm] at ok2
    have hsz : s.heap.objs.size ≤ h'.objs.size := Nat.le_trans hge (Nat.le_of_lt hlt)
    refine h h'.objs.size c' ((X.mg "__name__").getD .none) ctv _ _ _ ⟨I1, ok2, sm, Heap.get?_push_size _ rfl, ?_, nofr _ hsz, upd_same⟩
    rw [upd_ne (Nat.ne_of_gt hlt), upd_ne (Nat.ne_of_gt (Nat.lt_of_lt_of_le (Heap.lt_size rawP) hsz))]
    exact I.hok.fresh hsz
end
/-! ### the lambda called -/
abbrev LSb := Mem → (Val → Mem → Prop) → XP → Prop
section
variable {X Z : Cx} {pins : List (Addr × Obj)} {σ : L2.St} {H Hi Hi1 H1 : Hp} {s s' : Shared} {M M1 : Mem} {ΓX : Gam} {params : Arguments} {body : PySem.Expr} {scope : Scope} {f c' : Addr} {pm ctv : Value} {bsp : LSb} {kk : Nat}
/-- what the lambda's body does, in its own context -/
def LBody (X : Cx) (body : PySem.Expr) (scope : Scope) (ΓX : Gam) (kk : Nat) (bsp : LSb) : Prop := ∀ (A : Around) (outer : List Env) (s : Shared) (H : Hp) (E : XK) (f c' : Addr), Rm kk (A.deeper (lamEnv X scope s.heap.objs.size f c')) → Po (lamCx X A outer s H E scope f c') →
  ∀ M P PE, bsp M P PE → yE (lamCx X A outer s H E scope f c') body ΓX M P PE
/-- a(), a the name of a slot that holds the lambda -/
theorem ye_act {N : List Str} {q : Str} {sc : Scope} {g : Addr} {cdv : Value} {EZ : XK} {pn : List (Addr × Obj)} {xe : Value → Shared → Prop} {a : Str} {p1 p2 : Pos} {i : Nat} {Γ : Gam} {P : Val → Mem → Prop} {PE : XP}
    (m : Made X pins σ Hi M1 params body scope f c' pm ctv Hi1 H1 s') (en : EnvR X.K Hi1 ΓX σ) (L : LamS X.env.scope scope)
    (hbind : ∀ (q : Str) (cl : List (Str × Addr)) (pm cv ctv : Value), bindArgs (PySem.W.kla_fn "<lambda>" q params body scope cl pm cv ctv) ⟨[], []⟩ = pure [])
    (hb : LBody X body scope ΓX kk bsp) (hr : Rm (kk + 1) (X.A.deeper (envOfC q sc s'.heap.objs.size g cdv)))
    (hN : N[i]? = some a) (hΓ : Γ[i]? = some (some (.lam f Hi1))) (hv : Vis sc a) (hp : bsp M P PE)
    (hd : (a == ("__debug__" : Str)) = false := by decide) (hcd : (a == ("__classdict__" : Str)) = false := by decide) :
    yE ((cxOf CX0 X.prog X.w X.K X.mg X.base N q sc g cdv X.A X.stack s' H1 EZ).tr pn xe) (.Call (.Name a p1) [] [] p2) Γ M P PE := fun W tk po HiZ HZ σZ okZ enZ Q qq qx => by
  obtain ⟨v, hv1, hv2⟩ := enZ.2 i _ hΓ
  cases hv2 with
  | lam kp =>
  have hco : HZ c' = some (CodeO c' (X.env.qual ++ "<lambda>")) := okZ.im _ _ (kp _ _ m.co fun o z => raw_code z.symm)
  have enX : EnvR X.K HiZ ΓX σ := en.kp kp
  refine ⟨fun σ2 H2 Q2 => σ2[i]? = some (some (.ref f)) ∧ H2 c' = some (CodeO c' (X.env.qual ++ "<lambda>")) ∧ ∃ HiZ, Ok X.K HiZ M H2 ∧ EnvR X.K HiZ ΓX σ ∧ Post X.K HiZ P Q2 ∧ XPost X.K HiZ PE (fun cls d H' => W cls d σ2 H'), ⟨fun pinsZ sZ σ2 H2 Q2 IZ h => ?_⟩, hv1, hco, HiZ, okZ, enX, qq, qx⟩
  obtain ⟨hs, hc, HiZ, okZ, enX, qq, qx⟩ := h
  refine wpAny_Call_Name_kw (thn ((pe_var (pos := p1) (i := i) hN hv hd hcd).run pinsZ sZ σ2 H2 (fun v H1 => v = .ref f ∧ H1 = H2) IZ ⟨.ref f, hs, rfl, rfl⟩) fun u s1 ⟨v, H3, I1, r1, q1⟩ => ?_)
  obtain ⟨rfl, rfl⟩ := q1
  obtain rfl : u = Value.ref f := r1
  have of1 := I1.base.keep f _ m.at_ m.no m.fr (fun z => nomatch (show f ∈ ([] : List Addr) from z))
  refine PySem.W.callWith_F0 ⟨_, _, _, _, of1⟩ ?_
  have un : Un (frs X.stack) [] H1 H3 s'.heap s1.heap := I1.base
  obtain ⟨⟨oc, vs, t, hoc, hdc, hvc⟩, _, _⟩ := I1.hok c' _ hc
  have rc : codeAny (model X.prog X.w) (X.A.deeper (envOfC q sc s'.heap.objs.size g cdv)) (.call (.ref f) ⟨[], []⟩) (CR (L2.CX X.prog X.w) (envOfC q sc s'.heap.objs.size g cdv :: X.stack) X.prog X.w H3 s1 Q2 (fun cls d H' => W cls d σ2 H')) s1 := by
    refine PySem.W.kla_callFunE hr.room.depth of1 rfl L.co L.gen rfl ⟨c', oc, vs, t, rfl, hoc, hdc, hvc⟩ ?_
    rw [hbind]
    refine wpAny_pure (wpAny_newFunctionEnv (fun y hy => (L.own y hy).2) (fun y hy => absurd hy (by simp)) (fun h₁ hns hsb => ⟨I1.nolimit.fresh _ hsb, ?_⟩) L.kind)
    have kp1 : ∀ b o, s1.heap.get? b = some o → h₁.get? b = some o := fun b o e => hsb.extBut b o (Nat.ne_of_lt (Heap.lt_size e)) (Heap.get?_push_of_some _ e)
    have J := lam_start2 (tk := s1.toks + ([] : List (Str × Value)).length) (f := f) (c' := c') (E := fun cls d H' => W cls d σ2 H') m.inv L I1.env0 hr.room.hd un hns kp1
    have po2 : Po (lamCx X (X.A.deeper (envOfC q sc s'.heap.objs.size g cdv)) (envOfC q sc s'.heap.objs.size g cdv :: X.stack) s1 H3 (fun cls d H' => W cls d σ2 H') scope f c') := passes_of (K := fun e s'' => L2.CX X.prog X.w (envOfC q sc s'.heap.objs.size g cdv :: X.stack) H3 s1 (fun cls d H' => W cls d σ2 H') e s'') rfl
    have hw := hb (X.A.deeper (envOfC q sc s'.heap.objs.size g cdv)) (envOfC q sc s'.heap.objs.size g cdv :: X.stack) s1 H3 (fun cls d H' => W cls d σ2 H') f c' (hr.deeper _) po2 M P PE hp
      (fun cls d _ H' => W cls d σ2 H') (takes_of rfl rfl rfl rfl) po2 HiZ H3 σ okZ enX Q2 qq qx
    refine PySem.W.kla_codeExpr (wpAny_mono (pe_we.run [] _ _ H3 Q2 J hw) (fun v s' hq => ?_) fun e s' hq => hq)
    obtain ⟨w', H', J', rv, q⟩ := hq
    exact ⟨w', H', J'.os, J'.bare, J'.base, J'.hok, rv, q⟩
  refine wpAny_call (codeAny_mono rc fun r s' hq => ?_)
  cases r with
  | error e => exact tk e s' (XE.of_call I1 (fun _ _ _ z => z) hq)
  | ok fl =>
    cases fl with
    | ret u => exact I1.after hq
    | next => exact False.elim hq
    | brk => exact False.elim hq
    | cont => exact False.elim hq
end
/-! ### a def that gets a lambda -/
/-- from what the lambda does: cells, what follows -/
abbrev LSp := LSb → Mem → (Val → Mem → Prop) → Prop
section
variable {P : Program} {w : World} {K : PySem.W.Frag} {mg : Str → Option Value} {base : Heap}
/-- what its body must do: the lambda stands in the slot of a -/
abbrev BodyL (P : Program) (w : World) (K : PySem.W.Frag) (mg : Str → Option Value) (base : Heap) (k : Nat) (g : Addr) (N : List Str) (q : Str) (sc : Scope) (body : List Stmt) (a : Str) (sL : LSp) : Prop :=
  ∀ cdv A outer s H E, Rm k (A.deeper (envOfC q sc s.heap.objs.size g cdv)) → ∀ (f : Addr) (Hf : Hp) (bsp : LSb),
    (∀ (pn : List (Addr × Obj)) (xe : Value → Shared → Prop) (i : Nat) (Γ : Gam) (M : Mem) (R : Val → Mem → Prop) (PE : XP) (p1 p2 : Pos), N[i]? = some a → Γ[i]? = some (some (Val.lam f Hf)) → bsp M R PE → yE ((cxOf CX0 P w K mg base N q sc g cdv A outer s H E).tr pn xe) (.Call (.Name a p1) [] [] p2) Γ M R PE) →
    ∀ M R, sL bsp M R → aSs (bcx P w K mg base N q sc g cdv A outer s H E) body (gam N [Val.lam f Hf]) M (kOf R)
structure LGd (P : Program) (w : World) (K : PySem.W.Frag) (mg : Str → Option Value) (base : Heap) (k : Nat) (x : Str) (sL : LSp) : Prop where
  ex : ∃ (g : Addr) (q : Str) (pg : Arguments) (body : List Stmt) (sc : Scope) (N : List Str) (a : Str) (fd : FuncData), FunD K x q pg body sc [] [] g fd ∧ FnScope N [a] sc ∧ Vis sc a ∧ N[0]? = some a ∧
    (∀ (kV doc pm : Value) (an : Option Addr) (cdv ct : Value) (u : Value), bindArgs (PySem.W.fnOf x q pg body sc .none kV doc pm an cdv ct) ⟨[u], []⟩ = pure [(a, u)]) ∧
    (a == ("__debug__" : Str)) = false ∧ (a == ("__classdict__" : Str)) = false ∧ mg x = some (.ref g) ∧ PySem.W.keepIn K (.ref g) = true ∧ BodyL P w K mg base k g N q sc body a sL
end
section
variable {X : Cx} {Γ : Gam} {M : Mem} {R : Val → Mem → Prop} {params : Arguments} {body : PySem.Expr} {scope : Scope} {p lpos pos : Pos} {x : Str} {k kk m i : Nat} {c Pt : Addr} {bsp : LSb} {sL : LSp}
/-- the table of the maker's code objects -/
structure Tbl (X : Cx) (Pt : Addr) : Prop where
  ex : ∃ c, TabB X.base X.mg c Pt ∧ X.env.code = .ref c
/-- x(lambda: body) -/
theorem ae_lam (G : LGd X.prog X.w X.K X.mg X.base k x sL) (hr : Rm m X.A) (hk : k + 1 ≤ m) (T : Tbl X Pt) (hm : M[i]? = some (Pt, .b (.tb (X.env.qual ++ "<lambda>")))) (kk : Nat) (bsp : LSb) (hb : LBody X body scope Γ kk bsp) (hkk : kk + 1 ≤ k) (h : sL bsp M R)
    (hg : Gl X x := by rfl) (L : lamSB X.env.scope scope = true := by decide +kernel) (hdef : defaultsOf params X.env = ([], []) := by rfl)
    (hbind : ∀ (q : Str) (cl : List (Str × Addr)) (pm cv ctv : Value), bindArgs (PySem.W.kla_fn "<lambda>" q params body scope cl pm cv ctv) ⟨[], []⟩ = pure [] := by intros; rfl)
    (hdb : (x == ("__debug__" : Str)) = false := by decide) : aE X (.Call (.Name x p) [.Lambda params body scope lpos] [] pos) Γ M R := fun Hi H σ ok en Q q => by
  obtain ⟨c, TB, hcode⟩ := T.ex
  obtain ⟨g, qg, pg, bg, sg, Ng, a, fd, F, Sg, hva, hN0, hbd, hda, hdc, hmg, hkg, hB⟩ := G.ex
  obtain ⟨oc, od, dV, kV, doc, pm0, an, cdv, ct, osl, rfl, lk, hcd, hD, _⟩ := F.ex
  obtain ⟨_, rfl⟩ : ([] : List V) = [] ∧ dV = .none := by
    rcases hD with z | ⟨z, _⟩
    · exact z
    · exact absurd rfl z
  have LS := lamS_by L
  refine ⟨fun σ H Q => ∃ Hi, Ok X.K Hi M H ∧ EnvR X.K Hi Γ σ ∧ Post X.K Hi R Q, ⟨fun pins s σ H Q I ⟨Hi, ok, en, q⟩ => ?_⟩, Hi, ok, en, q⟩
  refine wpAny_Call_Name_kw (ld_glob I hg hmg ?_ hdb)
  refine PySem.W.callWith_K (h₀ := X.base) I.ok.mod.kin hkg ?_ (by rfl) (by rfl)
  show wpAny _ _ (spliced ((false, eval (.Lambda params body scope lpos) X.env) :: backTo pos (starEach [] X.env))) _ _ s
  refine Calls.spliced_cons (lam_made I ok TB hcode hm hdef (LS.has I.ok) fun f c' pm ctv Hi1 H1 s' md => ?_)
  refine Calls.spliced_nil ⟨md.inv.kIn, ?_⟩
  have en1 := en.mono md.sm
  have rc : codeAny (model X.prog X.w) X.A (.call (.ref g) ⟨[.ref f], []⟩) (CR CX0 X.stack X.prog X.w H1 s' Q E0) s' := by
    refine run_ofS (k := k) (N := Ng) (ps := [a]) (us := [.ref f]) (vs := [.ref f]) lk hcd Sg (hr.room.mono hk) md.inv.env0 (.of_eq (hbd kV doc pm0 an cdv ct (.ref f))) (.cons rfl .nil) rfl fun hr' => ?_
    have hrm : Rm k (X.A.deeper (envOfC qg sg s'.heap.objs.size g cdv)) := ⟨hr', (hr.mono hk).deeper _ |>.gd⟩
    have hS := hB cdv X.A X.stack s' H1 E0 hrm f Hi1 bsp (fun pn xe i2 Γ2 M2 R2 PE p1 p2 hN2 hΓ2 hp2 => ye_act md en1 LS hbind hb (hrm.mono hkk) hN2 hΓ2 hva hp2 hda hdc) M R h
    obtain ⟨t, pt, ht⟩ := hS Hi1 H1 _ md.ok (env_start (N := Ng) (.cons (.lam (Kp.refl Hi1)) .nil)) { nx := fun _ H' => Q .non H', rt := Q } ⟨fun Γ M' σ Hi' H' h1 s1 ok1 _ => h1.post (q.up md.sm) s1 ok1 .non, fun d M' v Hi' H' h1 s1 ok1 r1 => h1.post (q.up md.sm) s1 ok1 r1, fun _ _ _ _ _ z => z.elim, fun _ _ _ _ _ z => z.elim⟩
    exact ⟨t, pt.nox, ht⟩
  refine wpAny_call (codeAny_mono rc fun r s2 hq => ?_)
  cases r with
  | error e => exact (show False from hq).elim
  | ok fl =>
    cases fl with
    | ret u => exact md.inv.after hq
    | next => exact False.elim hq
    | brk => exact False.elim hq
    | cont => exact False.elim hq
end
end Ab
/-! Ab84: t * n for any n from 0 on -/
namespace Ab
open PySem PySem.Spec PyProof.Rows L2
theorem LGd.mono {P : Program} {w : World} {K : PySem.W.Frag} {mg : Str → Option Value} {base : Heap} {k k' : Nat} {x : Str} {sL : LSp} (G : LGd P w K mg base k x sL) (h : k ≤ k') : LGd P w K mg base k' x sL := by
  obtain ⟨g, q, pg, body, sc, N, a, fd, h1, h2, h3, h4, h5, h6, h7, h8, h9, hB⟩ := G.ex
  exact ⟨g, q, pg, body, sc, N, a, fd, h1, h2, h3, h4, h5, h6, h7, h8, h9, fun cdv A outer s H E hr => hB cdv A outer s H E (hr.mono h)⟩
/-- .. one of another class -/
theorem kit_noC {K : PySem.W.Frag} {C C' : Addr} (hd : PySem.W.hasDictIn K C = true) (ht : PySem.W.typeIn K (.ref C) = some (.type "type")) (hs : PySem.W.subIn K (.ref C') (.ref C) = some false) (hr : PySem.W.subIn K (.ref C) (.ref C) = some true) : PySem.W.kitOne K (.ref C') (.ref C) = some false := by
  obtain ⟨cd, hc, _⟩ := PySem.W.any_some hd
  unfold PySem.W.kitOne PySem.W.kitCls
  have hne : C' ≠ C := fun z => by
    subst z
    rw [hr] at hs
    cases hs
  rw [if_neg (by simpa using hne)]
  show (if ((PySem.W.clsIn K C).isSome && PySem.W.typeIn K (.ref C) == some (.type "type")) = true then PySem.W.subIn K (.ref C') (.ref C) else none) = some false
  rw [hc, ht, hs]
  simp
end Ab
/-! arguments in any order; a def with one positional parameter and a star -/
namespace Ab
open PySem L2 GenW
end Ab
/-! slices of lists of ints, sums, comparisons of two texts -/
namespace Ab
open PySem L2
/-! ### repr(a) against repr(b) -/
end Ab
/-! texts: str(i), int(s), +, join, split, find, count, places, slices, signs walked, f-strings -/
namespace Ab
open PySem PySem.Spec PyProof.Rows L2
section
variable {X : Cx} {Γ : Gam} {M : Mem} {P : Val → Mem → Prop} {e a b c o : Expr} {es : List Expr} {pos p1 p2 apos : Pos} {d : Val} {i j : Int} {x y z : Str}
/-! ### f-strings -/
/-- {e}: a text or an int -/
inductive FmtV : Val → Str → Prop
  | str (y : Str) : y.length ≤ sizeLine → FmtV (.str y) y
  | int (i : Int) : showI i → FmtV (.int i) (toString i)
theorem av_fmt {y : Str} (ha : aV X a Γ M d) (hf : FmtV d y) : aV X (.FormattedValue a (-1) none pos) Γ M (.str y) := fun Hi H σ ok en Q q => by
  refine ⟨_, pe_fmt pe_we, ?_⟩
  refine ha Hi H σ ok en _ fun d M1 v Hi1 H1 h1 s1 ok1 r1 => ?_
  obtain ⟨rfl, rfl⟩ := h1
  cases hf with
  | str _ hy =>
    cases r1
    exact .inl ⟨y, rfl, hy, q _ _ _ Hi1 _ ⟨rfl, rfl⟩ s1 ok1 (.str _)⟩
  | int i hi =>
    cases r1
    exact .inr ⟨i, rfl, hi, q _ _ _ Hi1 _ ⟨rfl, rfl⟩ s1 ok1 (.str _)⟩
/-- the parts -/
inductive FParts (X : Cx) (Γ : Gam) (M : Mem) : List Expr → Str → Str → Prop
  | nil (acc : Str) : FParts X Γ M [] acc acc
  | cons {e : Expr} {es : List Expr} {acc y out : Str} : aV X e Γ M (.str y) → (acc ++ y).length ≤ sizeLine → FParts X Γ M es (acc ++ y) out → FParts X Γ M (e :: es) acc out
theorem pj_we : ∀ es : List Expr, PJ X es (es.map fun e => WE X e)
  | [] => .nil
  | _ :: es => .cons pe_we (pj_we es)
theorem fparts_run {σ : L2.St} {es : List Expr} {acc out : Str} (h : FParts X Γ M es acc out) : ∀ {Hi H : Hp}, Ok X.K Hi M H → EnvR X.K Hi Γ σ → ∀ {Q : Str → Hp → Prop}, (∀ Hi' H', Same Hi Hi' → Ok X.K Hi' M H' → Q out H') → tJs (es.map fun e => WE X e) acc σ H Q := by
  induction h with
  | nil acc => exact fun {Hi H} ok en {Q} q => q Hi H (Same.refl _) ok
  | cons ha hl hr ih =>
    intro Hi H ok en Q q
    refine ha Hi H σ ok en _ fun d M1 v Hi1 H1 h1 s1 ok1 r1 => ?_
    obtain ⟨rfl, rfl⟩ := h1
    cases r1
    exact ⟨_, rfl, hl, ih ok1 (en.mono s1) fun Hi' H' s2 ok2 => q Hi' H' (s1.trans s2) ok2⟩
theorem av_joined {v1 v2 : Expr} {rest : List Expr} {out : Str} (h : FParts X Γ M (v1 :: v2 :: rest) Str.empty out) : aV X (.JoinedStr (v1 :: v2 :: rest) pos) Γ M (.str out) := fun Hi H σ ok en Q q => by
  refine ⟨_, pe_joined (pj_we _), ?_⟩
  exact fparts_run h ok en fun Hi' H' s ok' => q _ _ _ Hi' _ ⟨rfl, rfl⟩ s ok' (.str _)
end
end Ab
/-! Ab85: str(o) of an own instance -/
namespace Ab
open PySem PySem.Spec PyProof.Rows L2
end Ab
/-! Ab93: repr(o) of an own instance -/
namespace Ab
open PySem PySem.Spec PyProof.Rows L2
section
variable {prog : Program} {w : World} {A : Around} {E : Value → Shared → Prop} {s : Shared} {K : PySem.W.Frag} {x C f : Addr} {ox : Obj} {od : Option Obj}
open PySem.W in
theorem kro_repr {Q : Value → Shared → Prop} (hu : A.in1.units < cLine) (X : K.In s.heap) (I : PySem.W.InstAt s.heap x ox C od) (hs : PySem.W.findIn K (.ref C) "__repr__" = some (some (.ref f))) (hf : PySem.W.isFn K (.ref f) = true)
    (h : wpAny (model prog w) A.in1 (call (.ref f) [.ref x]) (PySem.W.StrBack Q) E s) : wpAny (model prog w) A (call (.builtin "repr") [.ref x]) Q E s := by
  refine Calls.call_function_entry F.kind_repr F.plain_repr F.entry_repr (F.args_repr1 _) ?_
  unfold Builtin.«repr»
  refine wpAny_bind (m := oneArg "repr" _) (wpAny_pure ?_)
  refine wpAny_bind (wpAny_cRoomFor hu ?_)
  refine wpAny_bind (wpAny_bind (I.type.here ((PySem.W.looks_findIn X hs).here ?_)))
  show wpAny _ _ (if (some (Value.ref f)).isNone = true then _ else _) _ _ _
  rw [if_neg (by simp)]
  refine wpAny_bind (m := callSpecialIfBound? (.ref x) (Str.ofString "__repr__") _) (PySem.W.ifBound_K X I hs hf (wpAny_mono h (fun r s' hr => ?_) fun _ _ y => y))
  cases r <;> first | exact hr.elim | skip
  refine wpAny_bind (wpAny_isInstance (typeIs_str _ _ _) isSubtype_str_str ?_)
  first
    | exact wpAny_pure ⟨_, rfl, hr⟩
    | (rw [if_pos rfl]; exact wpAny_pure ⟨_, rfl, hr⟩)
    | (simp only [if_true]; exact wpAny_pure ⟨_, rfl, hr⟩)
end
/-- the class's own __repr__ -/
structure ReprM (P : Program) (w : World) (K : PySem.W.Frag) (mg : Str → Option Value) (base : Heap) (n : Nat) (C f : Addr) (s0 : ASp) : Prop where
  fx : FX P w K mg base n f fun ds _ => s0 ds
  at_ : PySem.W.findIn K (.ref C) "__repr__" = some (some (.ref f))
  fn : PySem.W.isFn K (.ref f) = true
section
variable {X : Cx} {Γ : Gam} {M : Mem} {R : Val → Mem → Prop} {a : Expr} {pos p1 : Pos} {n m : Nat} {C f : Addr} {s0 : ASp}
theorem call_reprOwn (O : ReprM X.prog X.w X.K X.mg X.base n C f s0) (hr : Rm (n + 1) X.A) : CallR X (.builtin "repr") fun xs H Q => ∃ a dx fs, xs = [.ref a] ∧ H a = some (.ins C dx fs) ∧ spX X.K (fun ds _ M R => s0 ds M R) [.ref a] [] H fun v H' => ∃ y, v = .str y ∧ Q (.str y) H' := by
  intro pins s σ H xs us Q I r h
  obtain ⟨a, dx, fs, rfl, ha, hsp⟩ := h
  cases r with
  | cons r1 r2 =>
    cases r2
    cases r1
    obtain ⟨mA, J, _⟩ := ins_get I.hok ha
    obtain ⟨od, J, _⟩ := J.look
    refine kro_repr (hr.in1 : Rm n X.A.in1).room.units0 I.kIn J O.at_ O.fn ?_
    refine wpAny_mono (run_at (A := X.A.in1) O.fx hr.in1 rfl I (vs := [.ref a]) (.cons rfl .nil) hsp) (fun r s' z => ?_) fun _ _ x => x
    obtain ⟨v', H', I', rv, y, rfl, q⟩ := z
    obtain ⟨t, rfl⟩ := rv
    exact ⟨.str y, H', I', ⟨_, rfl⟩, q⟩
/-- repr(o) -/
theorem ae_reprOwn {m1 : Str} (O : ReprM X.prog X.w X.K X.mg X.base n C f s0) (hr : Rm m X.A) (hm : n + 1 ≤ m) (hs : X.mg "repr" = none) (h : aE X a Γ M fun d M1 => ObM M1 C d m1 ∧ s0 [d] M1 fun v M2 => ∃ y, v = .str y ∧ R (.str y) M2) (hg : Gl X "repr" := by rfl)
    (hst : starEach [a] X.env = [(false, eval a X.env)] := by rfl) : aE X (.Call (.Name "repr" p1) [a] [] pos) Γ M R :=
  ae_callB (call_reprOwn O (hr.mono hm)) hs (by decide +kernel) (aa_cons (h.mono fun d M1 ⟨hob, h1⟩ => aa_nil fun Hi H vs ok r Q q => by
    cases r with
    | cons r1 r2 =>
      cases r2
      obtain ⟨x, dx, fs, rfl, ha, _⟩ := hob _ _ _ _ ok r1
      refine ⟨x, dx, fs, rfl, ha, Hi, M1, [d], [], _, .cons r1 .nil, .nil, ok, h1, ?_⟩
      intro d2 M2 v2 Hi2 H2 hd s2 ok2 r2
      obtain ⟨y, rfl, hy⟩ := hd
      cases r2
      exact ⟨y, rfl, q _ _ _ _ _ hy s2 ok2 (.str _)⟩) hst) hg (he := hst) (hpl := rfl)
end
end Ab
/-! Ab94: super().m(..) as a statement; (a, b) < (c, d) of ints -/
namespace Ab
open PySem PySem.Spec PyProof.Rows L2 PySem.W
section
variable {X : Cx} {body : List Stmt} {Γ : Gam} {M : Mem} {e : Expr} {pos : Pos} {k : AK}
theorem zs_expr (h : zE X body e Γ M fun _ M' => k.nx Γ M') (hi : interactive X.env = false := by rfl) (hs : swapsWith e none pos.line X.env = pure false := by rfl) : zS X body (.Expr e pos) Γ M k := fun Hi H σ pins s ok en I Φ q =>
  ks_wpAt_Expr_any (PySem.wpAt_mono (h Hi H σ pins s ok en I (fun v H' => ∀ s', Inv X pins σ H' s' → Φ .next s') fun d M' v Hi' H' p e o r s' I' => q.nx Γ M' σ Hi' H' s' p e o (en.mono e) I') (fun u s' ⟨v, H', I', rv, z⟩ => z s' I') fun _ _ z => z) hi hs
end
end Ab
namespace Sm
/-! ### the value of a sequence of levels, as a limit -/
def ff (k : Int) (w : Nat → Int) : Nat → Int
  | 0 => 0
  | n + 1 => ff k w n * k + w n
structure Vl (k : Int) (w : Nat → Int) (x b : Int) : Prop where
  b0 : 0 < b
  bd : ∃ c : Int, ∀ n, -c ≤ x * k ^ n - b * ff k w n ∧ x * k ^ n - b * ff k w n ≤ c
/-! ### lowest terms -/
end Sm
/-! the mean gap as a fraction; blocks of leaves -/
namespace Sm
/-- a / b is k times the value of the levels w -/
structure Gq (k : Int) (w : Nat → Int) (a b : Nat) : Prop where
  b0 : 0 < b
  ex : ∃ x y, Vl k w x y ∧ 0 ≤ x ∧ (a : Int) * y = x * k * b
variable {k : Int} {w w1 w2 : Nat → Int} {a b a' b' a1 b1 a2 b2 : Nat} {x y : Int}
theorem Gq.of (hk : 2 ≤ k) (h : Vl k w x y) (h0 : 0 ≤ x) : Gq k w (x * k).toNat y.toNat := by
  have y0 := h.b0
  have xk : 0 ≤ x * k := Int.mul_nonneg h0 (by omega)
  exact ⟨by omega, x, y, h, h0, by rw [Int.toNat_of_nonneg xk, Int.toNat_of_nonneg (by omega)]⟩
/-! ### the place of a leaf, by counting and by the sum -/
theorem pl0_place {k : Nat} {s l : Nat → Int} {b : Nat} (hk : 2 ≤ k) : pl k s l 0 b = place k s l b := by
  rcases Nat.eq_zero_or_pos b with h | h
  · subst h
    rw [pl_zero, place_zero]
    simp [fp]
  · rw [pl_form h (lt_pow hk b) (Nat.lt_trans (lt_pow hk b) (Nat.pow_lt_pow_right (by omega) (Nat.lt_succ_self b))) hk]
    unfold place plT
    rw [smN_add, show ed k s l 0 = s 0 from rfl, show siz k l 0 = l 0 from rfl]
    have e1 : smN (fun j => if k ^ j ≤ b then s (0 + 1 + j) else 0) b = smN (fun j => if k ^ j ≤ b then s (j + 1) else 0) b := smN_congr fun j _ => by rw [show 0 + 1 + j = j + 1 by omega]
    have e2 : smN (fun j => ((b / k ^ (j + 1) : Nat) : Int) * l (0 + (j + 1))) b = smN (fun j => l (j + 1) * ((b / k ^ (j + 1) : Nat) : Int)) b := smN_congr fun j _ => by rw [Int.mul_comm, Nat.zero_add]
    rw [e1, e2, Int.sub_mul]
    omega
theorem smN_sub {f g : Nat → Int} {n : Nat} : smN (fun j => f j - g j) n = smN f n - smN g n := by
  induction n with
  | zero => rfl
  | succ n ih => rw [smN, smN, smN, ih]; omega
theorem place_two {k : Nat} {s l : Nat → Int} {b N : Nat} (hk : 2 ≤ k) (hN : b < k ^ N) : place k s l b = s 0 + smN (fun h => if k ^ h ≤ b then s (h + 1) else 0) N + smN (fun h => l h * ((b / k ^ h : Nat) : Int)) (N + 1) := by
  rw [place_N hk hN]
  unfold plT
  rw [smN_add, smN_head (f := fun h => l h * ((b / k ^ h : Nat) : Int)), Nat.pow_zero, Nat.div_one, Int.mul_comm (b : Int)]
  omega
end Sm
/-! distances of places -/
namespace Sm
variable {k : Nat} {s l : Nat → Int}
theorem dvd_iff_div {m b : Nat} (hm : 0 < m) : (((b + 1) / m : Nat) : Int) - ((b / m : Nat) : Int) = if m ∣ b + 1 then 1 else 0 := by
  by_cases h : m ∣ b + 1
  · rw [if_pos h, dvd_div hm (Nat.succ_pos b) h, show b.succ - 1 = b from rfl]
    omega
  · rw [if_neg h, ndvd_div hm h]
    omega
/-- the distance between two leaves -/
theorem place_step (hk : 2 ≤ k) {b N : Nat} (hN : b + 1 < k ^ N) : place k s l (b + 1) - place k s l b = smN (fun j => if k ^ j ∣ b + 1 then l j else 0) (N + 1) + smN (fun j => if k ^ j = b + 1 then s (j + 1) else 0) N := by
  rw [place_two hk hN, place_two hk (N := N) (b := b) (by omega)]
  have e1 : smN (fun h => l h * (((b + 1) / k ^ h : Nat) : Int)) (N + 1) - smN (fun h => l h * ((b / k ^ h : Nat) : Int)) (N + 1) = smN (fun j => if k ^ j ∣ b + 1 then l j else 0) (N + 1) := by
    rw [← smN_sub]
    refine smN_congr fun j _ => ?_
    rw [← Int.mul_sub, dvd_iff_div (Nat.pow_pos (by omega))]
    split <;> simp
  have e2 : smN (fun h => if k ^ h ≤ b + 1 then s (h + 1) else 0) N - smN (fun h => if k ^ h ≤ b then s (h + 1) else 0) N = smN (fun j => if k ^ j = b + 1 then s (j + 1) else 0) N := by
    rw [← smN_sub]
    refine smN_congr fun j _ => ?_
    by_cases h1 : k ^ j ≤ b
    · rw [if_pos (by omega), if_pos h1, if_neg (by omega)]
      omega
    · by_cases h2 : k ^ j = b + 1
      · rw [if_pos (by omega), if_neg h1, if_pos h2]
        omega
      · rw [if_neg (by omega), if_neg h1, if_neg h2]
        omega
  omega
/-- by the exponent: b + 1 = k ^ e * r, k does not divide r -/
theorem place_exp (hk : 2 ≤ k) {b e r : Nat} (hb : b + 1 = k ^ e * r) (hr : ¬ k ∣ r) : place k s l (b + 1) - place k s l b = smN l (e + 1) + if r = 1 then s (e + 1) else 0 := by
  have r0 : 0 < r := by
    rcases Nat.eq_zero_or_pos r with h | h
    · subst h
      exact absurd (Nat.dvd_zero k) hr
    · exact h
  have dv : ∀ j, k ^ j ∣ b + 1 ↔ j ≤ e := fun j => by
    constructor
    · intro h
      rcases Nat.lt_or_ge e j with z | z
      · exfalso
        obtain ⟨c, rfl⟩ : ∃ c, j = e + 1 + c := ⟨j - (e + 1), by omega⟩
        have h1 : k ^ e * k ∣ k ^ e * r := by
          rw [← hb, ← Nat.pow_succ]
          exact Nat.dvd_trans (Nat.pow_dvd_pow k (by omega)) h
        exact hr (Nat.dvd_of_mul_dvd_mul_left (Nat.pow_pos (by omega)) h1)
      · exact z
    · intro h
      rw [hb]
      exact Nat.dvd_trans (Nat.pow_dvd_pow k h) (Nat.dvd_mul_right _ _)
  have eN : e < b + 1 := by
    have h1 := lt_pow hk e
    have h2 : k ^ e ≤ k ^ e * r := Nat.le_mul_of_pos_right _ r0
    omega
  rw [place_step hk (N := b + 1) (lt_pow hk (b + 1))]
  congr 1
  · have h1 : smN (fun j => if k ^ j ∣ b + 1 then l j else 0) (b + 1 + 1) = smN (fun j => if k ^ j ∣ b + 1 then l j else 0) (e + 1) := smN_ext (by omega) fun j hj => if_neg (by rw [dv]; omega)
    rw [h1]
    exact smN_congr fun j hj => if_pos ((dv j).mpr (by omega))
  · by_cases h1 : r = 1
    · subst h1
      rw [Nat.mul_one] at hb
      rw [if_pos rfl]
      have h2 : smN (fun j => if k ^ j = b + 1 then s (j + 1) else 0) (b + 1) = smN (fun j => if k ^ j = b + 1 then s (j + 1) else 0) (e + 1) := smN_ext (by omega) fun j hj => if_neg (by
        rw [hb]
        intro h
        have := (Nat.pow_right_inj (by omega : 2 ≤ k)).mp h
        omega)
      rw [h2, smN, if_pos hb.symm]
      have h3 : smN (fun j => if k ^ j = b + 1 then s (j + 1) else 0) e = smN (fun _ => 0) e := smN_congr fun j hj => if_neg (by
        rw [hb]
        intro h
        have := (Nat.pow_right_inj (by omega : 2 ≤ k)).mp h
        omega)
      rw [h3]
      have h4 : ∀ n, smN (fun _ => 0) n = 0 := fun n => by
        induction n with
        | zero => rfl
        | succ n ih => rw [smN, ih]; rfl
      rw [h4]
      omega
    · rw [if_neg h1]
      have h3 : smN (fun j => if k ^ j = b + 1 then s (j + 1) else 0) (b + 1) = smN (fun _ => 0) (b + 1) := smN_congr fun j hj => if_neg (by
        intro h
        have hj := (dv j).mp (by rw [h]; exact Nat.dvd_refl _)
        have h5 : k ^ e * r = k ^ j := by rw [← hb, h]
        obtain ⟨c, rfl⟩ : ∃ c, e = j + c := ⟨e - j, by omega⟩
        rw [Nat.pow_add, Nat.mul_assoc] at h5
        have h6 : k ^ c * r = 1 := Nat.eq_of_mul_eq_mul_left (Nat.pow_pos (by omega) : 0 < k ^ j) (by rw [h5, Nat.mul_one])
        exact h1 (Nat.eq_one_of_mul_eq_one_left h6))
      rw [h3]
      have h4 : ∀ n, smN (fun _ => 0) n = 0 := fun n => by
        induction n with
        | zero => rfl
        | succ n ih => rw [smN, ih]; rfl
      rw [h4]
/-! ### nodes of one height follow one another -/
/-- the labels of the node with b such nodes before it -/
def lab (s l : Nat → Int) (h b : Nat) : Int := if b = 0 then s h else l h
theorem fq_step {c : Ct} (h : CtOk c) (t i : Nat) : fq c t i + c.la 0 ≤ fq c t (i + 1) := by
  unfold fq
  rw [smN_head, smN_head, Nat.pow_zero, Nat.div_one, Nat.div_one]
  have h1 : smN (fun j => c.la (j + 1) * ((i / c.k ^ (j + 1) : Nat) : Int)) t ≤ smN (fun j => c.la (j + 1) * (((i + 1) / c.k ^ (j + 1) : Nat) : Int)) t := smN_le fun j _ => Int.mul_le_mul_of_nonneg_left (Int.ofNat_le.mpr (Nat.div_le_div_right (Nat.le_succ i))) (h.la _)
  have h2 : c.la 0 * ((i + 1 : Nat) : Int) = c.la 0 * (i : Int) + c.la 0 := by rw [Int.natCast_add, Int.mul_add]; simp
  omega
theorem fq_ext {c : Ct} (h : CtOk c) {t u i : Nat} (hu : t ≤ u) (hi : i < c.k ^ (t + 1)) : fq c u i = fq c t i := by
  unfold fq
  refine smN_ext (by omega) fun j hj => ?_
  have : i < c.k ^ j := Nat.lt_of_lt_of_le hi (Nat.pow_le_pow_right (by have := h.k2; omega) hj)
  rw [Nat.div_eq_of_lt this]
  simp
theorem pp_step {c : Ct} (h : CtOk c) (b : Nat) : pp c b + c.own ≤ pp c (b + 1) := by
  unfold pp
  rw [if_neg (Nat.succ_ne_zero b)]
  have hk := h.k2
  have e1 : smN (fun j => if c.k ^ j ≤ b then c.sp j else 0) b ≤ smN (fun j => if c.k ^ j ≤ b + 1 then c.sp j else 0) (b + 1) := by
    have h1 : smN (fun j => if c.k ^ j ≤ b then c.sp j else 0) b ≤ smN (fun j => if c.k ^ j ≤ b + 1 then c.sp j else 0) b := smN_le fun j _ => by
      have := h.sp j
      split
      · rw [if_pos (by omega)]
        exact Int.le_refl _
      · split
        · exact this
        · exact Int.le_refl _
    have h2 : 0 ≤ if c.k ^ b ≤ b + 1 then c.sp b else 0 := by
      split
      · exact h.sp b
      · exact Int.le_refl _
    rw [smN]
    omega
  have o1 := h.o1
  by_cases hb : b = 0
  · subst hb
    rw [if_pos rfl]
    have e0 : smN (fun j => if c.k ^ j ≤ 0 then c.sp j else 0) 0 = 0 := rfl
    have e2 : c.la 0 ≤ fq c (0 + 1) (0 + 1) := by
      have h3 := fq_step h 1 0
      have h4 := fq_nn h 1 0
      exact Int.le_trans (by omega) h3
    have ae := h.ae
    omega
  · rw [if_neg hb]
    have e2 : fq c b b + c.la 0 ≤ fq c (b + 1) (b + 1) := by
      have h3 := fq_step h (b + 1) b
      rw [fq_ext h (Nat.le_succ b) (Nat.lt_trans (lt_pow hk b) (Nat.pow_lt_pow_right (by omega) (Nat.lt_succ_self b)))] at h3
      exact h3
    omega
theorem pl_step (hk : 2 ≤ k) (hs : ∀ j, 0 ≤ s j) (hl : ∀ j, 0 ≤ l j) (h0 : 0 < l 0) (h b : Nat) : pl k s l h b + lab s l h (b + 1) ≤ pl k s l h (b + 1) := by
  have := pp_step (ct_ok hk hs hl h0 h) b
  unfold lab
  rw [if_neg (Nat.succ_ne_zero b)]
  exact this
theorem pl_mono (hk : 2 ≤ k) (hs : ∀ j, 0 ≤ s j) (hl : ∀ j, 0 ≤ l j) (h0 : 0 < l 0) (h : Nat) {b c : Nat} (hb : b ≤ c) : pl k s l h b ≤ pl k s l h c := by
  induction c with
  | zero => rw [Nat.le_zero.mp hb]; exact Int.le_refl _
  | succ c ih =>
    rcases Nat.lt_or_ge c b with z | z
    · rw [show b = c + 1 by omega]
      exact Int.le_refl _
    · have h1 := pl_step hk hs hl h0 h c
      have h2 := ih z
      have h3 : 0 ≤ lab s l h (c + 1) := by
        unfold lab
        rw [if_neg (Nat.succ_ne_zero c)]
        exact hl h
      omega
/-- where a node begins -/
def pb (k : Nat) (s l : Nat → Int) (h b : Nat) : Int := pl k s l h b - max (lab s l h b - 1) 0
end Sm
namespace Sm
theorem pp_step2 {c : Ct} (h : CtOk c) {b : Nat} (hb : 0 < b) : pp c b + c.la 0 ≤ pp c (b + 1) := by
  unfold pp
  rw [if_neg (Nat.succ_ne_zero b), if_neg (by omega)]
  have hk := h.k2
  have e1 : smN (fun j => if c.k ^ j ≤ b then c.sp j else 0) b ≤ smN (fun j => if c.k ^ j ≤ b + 1 then c.sp j else 0) (b + 1) := by
    have h1 : smN (fun j => if c.k ^ j ≤ b then c.sp j else 0) b ≤ smN (fun j => if c.k ^ j ≤ b + 1 then c.sp j else 0) b := smN_le fun j _ => by
      have := h.sp j
      split
      · rw [if_pos (by omega)]
        exact Int.le_refl _
      · split
        · exact this
        · exact Int.le_refl _
    have h2 : 0 ≤ if c.k ^ b ≤ b + 1 then c.sp b else 0 := by
      split
      · exact h.sp b
      · exact Int.le_refl _
    rw [smN]
    omega
  have e2 : fq c b b + c.la 0 ≤ fq c (b + 1) (b + 1) := by
    have h3 := fq_step h (b + 1) b
    rw [fq_ext h (Nat.le_succ b) (Nat.lt_trans (lt_pow hk b) (Nat.pow_lt_pow_right (by omega) (Nat.lt_succ_self b)))] at h3
    exact h3
  omega
theorem pl_ge {k : Nat} {s l : Nat → Int} (hk : 2 ≤ k) (hs : ∀ j, 0 ≤ s j) (hl : ∀ j, 0 ≤ l j) (h0 : 0 < l 0) (h b : Nat) : (b : Int) ≤ pl k s l h b + 1 := by
  induction b with
  | zero =>
    have := pl_nn hk hs hl h0 h 0
    omega
  | succ b ih =>
    rcases Nat.eq_zero_or_pos b with z | z
    · subst z
      have := pl_nn hk hs hl h0 h 1
      show ((0 + 1 : Nat) : Int) ≤ pl k s l h 1 + 1
      omega
    · have h1 := pp_step2 (ct_ok hk hs hl h0 h) z
      have h2 : 0 < (ctO k s l h).la 0 := (ct_ok hk hs hl h0 h).l0
      have h3 : pl k s l h b + (ctO k s l h).la 0 ≤ pl k s l h (b + 1) := h1
      omega
theorem Cnt.le {k : Nat} {s l : Nat → Int} (hk : 2 ≤ k) (hs : ∀ j, 0 ≤ s j) (hl : ∀ j, 0 ≤ l j) (h0 : 0 < l 0) {h : Nat} {n v : Int} (n0 : 0 ≤ n) (hv : Cnt k s l h n v) : v ≤ n + 2 := by
  rcases Int.lt_or_le (n + 2) v with z | z
  · have h1 := (hv.2 (n + 2).toNat).mp (by omega)
    have h2 := pl_ge hk hs hl h0 h (n + 2).toNat
    omega
  · exact z
end Sm
/-! sums over powers and quotients; bounds of places -/
namespace Sm
def psum (k : Nat) (f : Nat → Int) (b sh : Nat) : Int := smN (fun j => if k ^ j ≤ b then f (sh + j) else 0) b
def lsum (k : Nat) (f : Nat → Int) (b sh : Nat) : Int := smN (fun j => ((b / k ^ (j + 1) : Nat) : Int) * f (sh + j)) b
theorem smN_same {f : Nat → Int} {n m : Nat} (h1 : ∀ j, n ≤ j → f j = 0) (h2 : ∀ j, m ≤ j → f j = 0) : smN f n = smN f m := by
  have a := smN_ext (f := f) (n := n) (m := n + m) (by omega) h1
  have b := smN_ext (f := f) (n := m) (m := n + m) (by omega) h2
  rw [← a, b]
theorem psum_is {k : Nat} (hk : 2 ≤ k) {f : Nat → Int} {b sh t : Nat} (ht : b < k ^ t) : smN (fun j => if k ^ j ≤ b then f (sh + j) else 0) t = psum k f b sh := by
  refine smN_same (fun j hj => if_neg ?_) fun j hj => if_neg ?_
  · have := Nat.pow_le_pow_right (n := k) (by omega) hj
    omega
  · have := lt_pow hk j
    omega
theorem lsum_is {k : Nat} (hk : 2 ≤ k) {f : Nat → Int} {b sh t : Nat} (ht : b < k ^ (t + 1)) : smN (fun j => ((b / k ^ (j + 1) : Nat) : Int) * f (sh + j)) t = lsum k f b sh := by
  refine smN_same (fun j hj => ?_) fun j hj => ?_
  · have : b < k ^ (j + 1) := Nat.lt_of_lt_of_le ht (Nat.pow_le_pow_right (by omega) (by omega))
    rw [Nat.div_eq_of_lt this]
    simp
  · have : b < k ^ (j + 1) := Nat.lt_trans (Nat.lt_of_le_of_lt hj (lt_pow hk j)) (Nat.pow_lt_pow_right (by omega) (Nat.lt_succ_self j))
    rw [Nat.div_eq_of_lt this]
    simp
variable {k : Nat} {s l : Nat → Int}
theorem pl_sums (hk : 2 ≤ k) {h b : Nat} (hb : 0 < b) : pl k s l h b = ed k s l h + l h + ((b : Int) - 1) * siz k l h + lsum k l b (h + 1) + psum k s b (h + 1) := by
  rw [pl_form hb (lt_pow hk b) (Nat.lt_trans (lt_pow hk b) (Nat.pow_lt_pow_right (by omega) (Nat.lt_succ_self b))) hk]
  unfold psum lsum
  have e : smN (fun j => ((b / k ^ (j + 1) : Nat) : Int) * l (h + (j + 1))) b = smN (fun j => ((b / k ^ (j + 1) : Nat) : Int) * l (h + 1 + j)) b := smN_congr fun j _ => by rw [show h + (j + 1) = h + 1 + j by omega]
  rw [e]
  omega
/-! ### bounds -/
theorem siz_nn (l0 : ∀ j, 0 ≤ l j) : ∀ h, 0 ≤ siz k l h
  | 0 => l0 0
  | h + 1 => by
    have h1 := siz_nn l0 h
    have h2 := l0 (h + 1)
    have h3 := Int.mul_nonneg (show (0 : Int) ≤ k by omega) h1
    rw [siz]
    omega
theorem siz_le9 (hk9 : k ≤ 9) (l0 : ∀ j, 0 ≤ l j) (l6 : ∀ j, l j ≤ 1000000) : ∀ h, siz k l h + 1000000 ≤ 2000000 * ((9 ^ h : Nat) : Int)
  | 0 => by
    have := l6 0
    show l 0 + 1000000 ≤ 2000000 * ((1 : Nat) : Int)
    omega
  | h + 1 => by
    have h1 := siz_le9 hk9 l0 l6 h
    have h2 := l6 (h + 1)
    have h3 := siz_nn (k := k) l0 h
    have h4 : (k : Int) * siz k l h ≤ 9 * siz k l h := Int.mul_le_mul_of_nonneg_right (by omega) h3
    rw [siz, Nat.pow_succ, Int.natCast_mul]
    omega
end Sm
/-! pruning: the labels of height 0 taken away -/
namespace Sm
section
variable {k : Nat} {s l : Nat → Int}
/-- how many leaves lie before the node's own labels -/
def vL (k h b : Nat) : Nat := if b = 0 then k ^ h else k ^ (h + 1) * b
theorem vL_pos (hk : 2 ≤ k) (h b : Nat) : 0 < vL k h b := by
  unfold vL
  split
  · exact Nat.pow_pos (by omega)
  · exact Nat.mul_pos (Nat.pow_pos (by omega)) (by omega)
theorem lsum_k (hk : 2 ≤ k) (b h : Nat) : lsum k l (k * b) h = (b : Int) * l h + lsum k l b (h + 1) := by
  have h1 : k * b < k ^ (k * b + 1) := Nat.lt_trans (lt_pow hk (k * b)) (Nat.pow_lt_pow_right (by omega) (Nat.lt_succ_self _))
  rw [← lsum_is hk (t := k * b + 1) (Nat.lt_of_lt_of_le h1 (Nat.pow_le_pow_right (by omega) (by omega))), ← lsum_is hk (t := k * b) (b := b) (Nat.lt_of_le_of_lt (Nat.le_mul_of_pos_left _ (by omega)) h1), smN_head]
  congr 1
  · rw [Nat.zero_add, Nat.pow_one, Nat.mul_div_cancel_left _ (by omega), Nat.add_zero]
  · refine smN_congr fun j _ => ?_
    rw [Nat.pow_succ k (j + 1), Nat.mul_comm _ k, Nat.mul_div_mul_left _ _ (by omega), show h + (j + 1) = h + 1 + j by omega]
theorem psum_k (hk : 2 ≤ k) {b : Nat} (hb : 0 < b) (h : Nat) : psum k s (k * b) h = s h + psum k s b (h + 1) := by
  have h1 : k * b < k ^ (k * b) := Nat.lt_pow_self (by omega)
  rw [← psum_is hk (t := k * b + 1) (Nat.lt_of_lt_of_le h1 (Nat.pow_le_pow_right (by omega) (by omega))), ← psum_is hk (t := k * b) (b := b) (Nat.lt_of_le_of_lt (Nat.le_mul_of_pos_left _ (by omega)) h1), smN_head]
  congr 1
  · rw [Nat.pow_zero, if_pos (show 1 ≤ k * b from Nat.mul_pos (by omega) hb), Nat.add_zero]
  · refine smN_congr fun j _ => ?_
    have e : k ^ (j + 1) ≤ k * b ↔ k ^ j ≤ b := by
      rw [Nat.pow_succ, Nat.mul_comm]
      exact Nat.mul_le_mul_left_iff (by omega)
    rw [show h + (j + 1) = h + 1 + j by omega]
    by_cases c : k ^ j ≤ b
    · rw [if_pos c, if_pos (e.mpr c)]
    · rw [if_neg c, if_neg (fun z => c (e.mp z))]
/-- the first child -/
theorem pl_child (hk : 2 ≤ k) {b : Nat} (hb : 0 < b) (h : Nat) : pl k s l h (k * b) = pl k s l (h + 1) b + l h := by
  rw [pl_sums hk (Nat.mul_pos (by omega) hb), pl_sums hk hb, lsum_k hk, psum_k hk hb, ed, siz, Int.natCast_mul]
  generalize siz k l h = z
  have e : ((b : Int) - 1) * (l (h + 1) + (k : Int) * z) = (b : Int) * l (h + 1) - l (h + 1) + ((k : Int) * (b : Int)) * z - (k : Int) * z := by
    rw [Int.sub_mul, Int.one_mul, Int.mul_add, ← Int.mul_assoc, Int.mul_comm (b : Int) (k : Int)]
    omega
  rw [e, Int.sub_mul, Int.sub_mul, Int.one_mul]
  omega
theorem pl_first (hk : 2 ≤ k) (h : Nat) : pl k s l h 1 = pl k s l (h + 1) 0 + l h := by
  rw [pl_sums hk (by omega), pl_zero, fp, if_neg (by omega), Nat.add_sub_cancel]
  have e1 : lsum k l 1 (h + 1) = 0 := by
    rw [← lsum_is hk (t := 0) (by rw [Nat.zero_add, Nat.pow_one]; omega)]
    rfl
  have e2 : psum k s 1 (h + 1) = s (h + 1) := by
    rw [← psum_is hk (t := 1) (by rw [Nat.pow_one]; omega), smN, smN, Nat.pow_zero, if_pos (Nat.le_refl 1)]
    show 0 + s (h + 1 + 0) = _
    rw [Nat.add_zero, Int.zero_add]
  rw [e1, e2]
  simp
  omega
theorem pl_down (hk : 2 ≤ k) : ∀ (h : Nat) {b : Nat}, 0 < b → pl k s l 0 (k ^ h * b) = pl k s l h b + smN l h
  | 0, b, hb => by rw [Nat.pow_zero, Nat.one_mul, smN, Int.add_zero]
  | h + 1, b, hb => by
    rw [Nat.pow_succ, Nat.mul_assoc, pl_down hk h (Nat.mul_pos (by omega) hb), pl_child hk hb, smN]
    omega
theorem pl_vL (hk : 2 ≤ k) (h b : Nat) : pl k s l 0 (vL k h b) = pl k s l (h + 1) b + smN l (h + 1) := by
  unfold vL
  split
  · rename_i z
    subst z
    have := pl_down (s := s) (l := l) hk h (b := 1) (by omega)
    rw [Nat.mul_one] at this
    rw [this, pl_first hk, smN]
    omega
  · exact pl_down hk (h + 1) (by omega)
theorem smN_mon {f : Nat → Int} (h : ∀ j, 0 ≤ f j) {n m : Nat} (hn : n ≤ m) : smN f n ≤ smN f m := by
  induction m with
  | zero =>
    have : n = 0 := by omega
    subst this
    exact Int.le_refl _
  | succ m ih =>
    rcases Nat.lt_or_ge m n with z | z
    · have : n = m + 1 := by omega
      subst this
      exact Int.le_refl _
    · have := ih z
      have := h m
      rw [smN]
      omega
theorem smN_nn0 {f : Nat → Int} (h : ∀ j, 0 ≤ f j) (n : Nat) : 0 ≤ smN f n := smN_mon h (Nat.zero_le n)
/-- the step before a leaf whose number has a power -/
theorem pl_prev (hk : 2 ≤ k) (hs : ∀ j, 0 ≤ s j) (hl : ∀ j, 0 ≤ l j) {t v : Nat} (hv : k ^ t ∣ v) (v0 : 0 < v) : pl k s l 0 (v - 1) + smN l (t + 1) ≤ pl k s l 0 v := by
  obtain ⟨b, rfl⟩ : ∃ b, v = b + 1 := ⟨v - 1, by omega⟩
  rw [Nat.add_sub_cancel, pl0_place hk, pl0_place hk]
  have hN : b + 1 < k ^ (b + 1 + t) := Nat.lt_of_lt_of_le (Nat.lt_pow_self (by omega)) (Nat.pow_le_pow_right (by omega) (by omega))
  have h1 := place_step (s := s) (l := l) hk hN
  have h2 : 0 ≤ smN (fun j => if k ^ j = b + 1 then s (j + 1) else 0) (b + 1 + t) := smN_nn0 (fun j => by split; exact hs _; exact Int.le_refl _) _
  have h3 : smN (fun j => if k ^ j ∣ b + 1 then l j else 0) (t + 1) ≤ smN (fun j => if k ^ j ∣ b + 1 then l j else 0) (b + 1 + t + 1) := smN_mon (fun j => by split; exact hl _; exact Int.le_refl _) (by omega)
  have h4 : smN (fun j => if k ^ j ∣ b + 1 then l j else 0) (t + 1) = smN l (t + 1) := smN_congr fun j hj => if_pos (Nat.dvd_trans (Nat.pow_dvd_pow k (by omega)) hv)
  omega
theorem vL_prev (hk : 2 ≤ k) (hs : ∀ j, 0 ≤ s j) (hl : ∀ j, 0 ≤ l j) (h b : Nat) : pl k s l 0 (vL k h b - 1) + (if b = 0 then 0 else l (h + 1)) ≤ pl k s l (h + 1) b := by
  have e := pl_vL (s := s) (l := l) hk h b
  have v0 := vL_pos hk h b
  by_cases z : b = 0
  · have h1 := pl_prev (s := s) (l := l) hk hs hl (t := h) (v := vL k h b) (by unfold vL; rw [if_pos z]; exact Nat.dvd_refl _) v0
    rw [if_pos z]
    omega
  · have h1 := pl_prev (s := s) (l := l) hk hs hl (t := h + 1) (v := vL k h b) (by unfold vL; rw [if_neg z]; exact Nat.dvd_mul_right _ _) v0
    rw [smN] at h1
    rw [if_neg z]
    omega
theorem pl_far (hk : 2 ≤ k) (hs : ∀ j, 0 ≤ s j) (hl : ∀ j, 0 ≤ l j) (h0 : 0 < l 0) (h b : Nat) : ∀ d : Nat, pl k s l h b + (d : Int) * l h ≤ pl k s l h (b + d)
  | 0 => by simp
  | d + 1 => by
    have h1 := pl_far hk hs hl h0 h b d
    have h2 := pl_step hk hs hl h0 h (b + d)
    unfold lab at h2
    rw [if_neg (by omega)] at h2
    rw [show b + (d + 1) = b + d + 1 by omega, Int.natCast_add, Int.add_mul]
    simp
    omega
theorem Cnt.mono {h : Nat} {n m v u : Int} (a : Cnt k s l h n v) (b : Cnt k s l h m u) (hn : n ≤ m) : v ≤ u := by
  rcases (show v ≤ u ∨ u < v by omega) with z | z
  · exact z
  · have u0 := b.1
    have h1 := (a.2 u.toNat).mp (by omega)
    have h2 := (b.2 u.toNat).mpr (by omega)
    omega
end
end Sm
/-! the labels of all heights make up all labels -/
namespace Sm
/-- the part of the labels a+1 .. a+w that lies up to n -/
def cl (n a w : Int) : Int := max 0 (min (n - a) w)
def sg (f : Nat → Int) (lo c : Nat) : Int := smN (fun i => f (lo + i)) c
section
variable {k : Nat} {s l : Nat → Int}
theorem lsum_same (hk : 2 ≤ k) {c : Nat} (hc : ¬ k ∣ c + 1) (h : Nat) : lsum k l (c + 1) h = lsum k l c h := by
  have h1 : c + 1 < k ^ (c + 1 + 1) := Nat.lt_trans (lt_pow hk (c + 1)) (Nat.pow_lt_pow_right (by omega) (Nat.lt_succ_self _))
  rw [← lsum_is hk (t := c + 1) h1, ← lsum_is hk (t := c + 1) (b := c) (by omega)]
  refine smN_congr fun j _ => ?_
  have := dvd_iff_div (m := k ^ (j + 1)) (b := c) (Nat.pow_pos (by omega))
  rw [if_neg (fun z => hc (Nat.dvd_trans ⟨k ^ j, by rw [Nat.pow_succ, Nat.mul_comm]⟩ z))] at this
  congr 1
  omega
theorem psum_same (hk : 2 ≤ k) {c : Nat} (hc : ¬ k ∣ c + 1) (c0 : 0 < c) (h : Nat) : psum k s (c + 1) h = psum k s c h := by
  have h1 := lt_pow hk (c + 1)
  rw [← psum_is hk (t := c + 1) h1, ← psum_is hk (t := c + 1) (b := c) (by omega)]
  refine smN_congr fun j _ => ?_
  have e : k ^ j ≤ c + 1 ↔ k ^ j ≤ c := by
    refine ⟨fun z => ?_, fun z => by omega⟩
    rcases Nat.lt_or_ge c (k ^ j) with y | y
    · exfalso
      have : k ^ j = c + 1 := by omega
      cases j with
      | zero => rw [Nat.pow_zero] at this; omega
      | succ j => exact hc ⟨k ^ j, by rw [← this, Nat.pow_succ, Nat.mul_comm]⟩
    · exact y
  by_cases z : k ^ j ≤ c
  · rw [if_pos z, if_pos (e.mpr z)]
  · rw [if_neg z, if_neg (fun y => z (e.mp y))]
/-- siblings -/
theorem pl_sib (hk : 2 ≤ k) {c : Nat} (hc : ¬ k ∣ c + 1) (c0 : 0 < c) (h : Nat) : pl k s l h (c + 1) = pl k s l h c + siz k l h := by
  rw [pl_sums hk (by omega), pl_sums hk c0, lsum_same hk hc, psum_same hk hc c0, show (((c + 1 : Nat) : Int) - 1) = ((c : Int) - 1) + 1 by omega, Int.add_mul, Int.one_mul]
  omega
theorem pl_sibs (hk : 2 ≤ k) (h : Nat) {b : Nat} (hb : 0 < b) : ∀ i, i < k → pl k s l h (b * k + i) = pl k s l h (b * k) + (i : Int) * siz k l h
  | 0, _ => by simp
  | i + 1, hi => by
    have h1 := pl_sibs hk h hb i (by omega)
    have h2 : 0 < b * k := Nat.mul_pos hb (by omega)
    rw [show b * k + (i + 1) = b * k + i + 1 by omega, pl_sib hk (fun z => ?_) (by omega), h1, Int.natCast_add, Int.add_mul]
    · simp
      omega
    · rw [show b * k + i + 1 = b * k + (i + 1) by omega] at z
      have := (Nat.dvd_add_right (Nat.dvd_mul_left k b)).mp z
      have := Nat.le_of_dvd (by omega) this
      omega
theorem pl_sib0 (hk : 2 ≤ k) (h : Nat) : ∀ i, i + 1 < k → pl k s l h (i + 1) = pl k s l h 1 + (i : Int) * siz k l h
  | 0, _ => by simp
  | i + 1, hi => by
    have h1 := pl_sib0 hk h i (by omega)
    rw [pl_sib hk (fun z => ?_) (by omega), h1, Int.natCast_add, Int.add_mul]
    · simp
      omega
    · have := Nat.le_of_dvd (by omega) z
      omega
/-- where a node's own labels begin -/
def stt (k : Nat) (s l : Nat → Int) (h b : Nat) : Int := pl k s l h b - lab s l h b
theorem stt_pos {h b : Nat} (hb : 0 < b) : stt k s l h b = pl k s l h b - l h := by
  unfold stt lab
  rw [if_neg (by omega)]
theorem siz_pw (hk : 2 ≤ k) (hl : ∀ j, 0 ≤ l j) (h0 : 0 < l 0) : ∀ h : Nat, ((2 ^ h : Nat) : Int) ≤ siz k l h
  | 0 => by
    rw [siz, Nat.pow_zero]
    omega
  | h + 1 => by
    have h1 := siz_pw hk hl h0 h
    have h2 : 2 * siz k l h ≤ (k : Int) * siz k l h := Int.mul_le_mul_of_nonneg_right (by omega) (siz_nn hl h)
    have h3 := hl (h + 1)
    rw [siz, Nat.pow_succ, Int.natCast_mul]
    omega
theorem ed_pw (hk : 2 ≤ k) (hs : ∀ j, 0 ≤ s j) (hl : ∀ j, 0 ≤ l j) (h0 : 0 < l 0) (h : Nat) : ((2 ^ h : Nat) : Int) ≤ ed k s l (h + 1) := by
  have h1 := siz_pw hk hl h0 h
  have h2 := ed_nn hk hs hl h0 h
  have h3 := hs (h + 1)
  have h4 : 1 * siz k l h ≤ ((k : Int) - 1) * siz k l h := Int.mul_le_mul_of_nonneg_right (by omega) (siz_nn hl h)
  rw [ed]
  omega
end
end Sm
/-! S26: the order of the nodes of a tree; digits -/
namespace Sm
section
variable {k : Nat} {s l : Nat → Int}
theorem stt_zero (h : Nat) : stt k s l (h + 1) 0 = ed k s l h := by
  unfold stt
  rw [pl_zero]
  unfold fp lab
  rw [if_neg (by omega), if_pos rfl]
  show ed k s l h + s (h + 1) - s (h + 1) = _
  omega
theorem stt_00 : stt k s l 0 0 = 0 := by
  unfold stt
  rw [pl_zero]
  unfold fp lab
  rw [if_pos rfl, if_pos rfl]
  omega
theorem pl_stt (h b : Nat) : pl k s l h b = stt k s l h b + lab s l h b := by unfold stt; omega
/-- the top digit -/
theorem stt_top (hk : 2 ≤ k) (h : Nat) {d : Nat} (d1 : 1 ≤ d) (hd : d < k) : stt k s l h d = ed k s l h + s (h + 1) + ((d : Int) - 1) * siz k l h := by
  have h1 := pl_sib0 (s := s) (l := l) hk h (d - 1) (by omega)
  have h2 := pl_first (s := s) (l := l) hk h
  rw [show d - 1 + 1 = d by omega] at h1
  rw [stt_pos (by omega), h1, h2, pl_stt, stt_zero]
  unfold lab
  rw [if_pos rfl, show ((d - 1 : Nat) : Int) = (d : Int) - 1 by omega]
  omega
/-- a further digit -/
theorem stt_dig (hk : 2 ≤ k) (h : Nat) {m d : Nat} (m0 : 0 < m) (hd : d < k) : stt k s l h (m * k + d) = stt k s l (h + 1) m + l (h + 1) + (d : Int) * siz k l h := by
  have h1 := pl_sibs (s := s) (l := l) hk h m0 d hd
  have h2 := pl_child (s := s) (l := l) hk m0 h
  have h3 : 0 < m * k := Nat.mul_pos m0 (by omega)
  rw [stt_pos (by omega), stt_pos m0, h1, Nat.mul_comm m k, h2]
  omega
/-! ### digits, the most significant one first -/
def dval (k : Nat) : Nat → List Nat → Nat
  | n, [] => n
  | n, d :: r => dval k (n * k + d) r
theorem dval_app (k : Nat) : ∀ (a b : List Nat) (n : Nat), dval k n (a ++ b) = dval k (dval k n a) b
  | [], _, _ => rfl
  | d :: a, b, n => dval_app k a b (n * k + d)
theorem dval_mono {k : Nat} (hk : 1 ≤ k) : ∀ (ds : List Nat) (n : Nat), n ≤ dval k n ds
  | [], n => Nat.le_refl _
  | d :: ds, n => by
    refine Nat.le_trans ?_ (dval_mono hk ds (n * k + d))
    have : n * 1 ≤ n * k := Nat.mul_le_mul_left n hk
    omega
/-! ### the order -/
/-- how many leaves come before a node -/
def lf (k h b : Nat) : Nat := if b = 0 then (if h = 0 then 0 else k ^ (h - 1)) else b * k ^ h
theorem lf_vL (h b : Nat) : lf k (h + 1) b = vL k h b := by
  unfold lf vL
  rw [if_neg (by omega : ¬ h + 1 = 0), Nat.add_sub_cancel, Nat.mul_comm]
theorem lf_0 (b : Nat) : lf k 0 b = b := by
  unfold lf
  rw [if_pos rfl, Nat.pow_zero, Nat.mul_one]
  split <;> omega
theorem lf_pos (hk : 2 ≤ k) {h b : Nat} (hh : ¬ (h = 0 ∧ b = 0)) : 0 < lf k h b := by
  cases h with
  | zero =>
    rw [lf_0]
    omega
  | succ h =>
    rw [lf_vL]
    exact vL_pos hk h b
theorem pl_le_lf (hk : 2 ≤ k) (hs : ∀ j, 0 ≤ s j) (hl : ∀ j, 0 ≤ l j) (h b : Nat) : pl k s l h b ≤ pl k s l 0 (lf k h b) := by
  cases h with
  | zero =>
    rw [lf_0]
    exact Int.le_refl _
  | succ h =>
    rw [lf_vL, pl_vL hk]
    have := smN_nn0 hl (h + 1)
    omega
theorem ed_last (hk : 2 ≤ k) (h : Nat) : pl k s l 0 (k ^ h - 1) = ed k s l h := by
  have h2 : pl k s l (h + 1) 0 = ed k s l h + s (h + 1) := by rw [pl_stt, stt_zero]; unfold lab; rw [if_pos rfl]
  have h3 := pl_vL (s := s) (l := l) hk h 0
  have hp : 0 < k ^ h := Nat.pow_pos (by omega)
  obtain ⟨b, hb⟩ : ∃ b, k ^ h = b + 1 := ⟨k ^ h - 1, by omega⟩
  have h4 := place_exp (s := s) (l := l) (b := b) (e := h) (r := 1) hk (by omega) (by intro z; exact absurd (Nat.le_of_dvd (by decide) z) (by omega))
  rw [if_pos rfl, ← pl0_place hk, ← pl0_place hk] at h4
  unfold vL at h3
  rw [if_pos rfl, h2, hb] at h3
  rw [hb, Nat.add_sub_cancel]
  omega
theorem lf_prev (hk : 2 ≤ k) (hs : ∀ j, 0 ≤ s j) (hl : ∀ j, 0 ≤ l j) (h0 : 0 < l 0) {h b : Nat} (hh : ¬ (h = 0 ∧ b = 0)) : pl k s l 0 (lf k h b - 1) ≤ stt k s l h b := by
  cases h with
  | zero =>
    rw [lf_0]
    obtain ⟨c, rfl⟩ : ∃ c, b = c + 1 := ⟨b - 1, by omega⟩
    have := pl_step hk hs hl h0 0 c
    unfold stt
    show pl k s l 0 c ≤ _
    omega
  | succ h =>
    rw [lf_vL]
    by_cases hb : b = 0
    · subst hb
      rw [stt_zero]
      unfold vL
      rw [if_pos rfl, ed_last hk]
      exact Int.le_refl _
    · have := vL_prev hk hs hl h b
      rw [if_neg hb] at this
      rw [stt_pos (by omega)]
      omega
theorem pl_desc (hk : 2 ≤ k) (hl : ∀ j, 0 ≤ l j) : ∀ (d h : Nat) {m : Nat}, 0 < m → pl k s l (h + d) m ≤ pl k s l h (m * k ^ d)
  | 0, h, m, _ => by
    rw [Nat.pow_zero, Nat.mul_one]
    exact Int.le_refl _
  | d + 1, h, m, hm => by
    have h1 := pl_desc hk hl d (h + 1) hm
    have hp : 0 < m * k ^ d := Nat.mul_pos hm (Nat.pow_pos (by omega))
    have h2 := pl_child (s := s) (l := l) hk hp h
    have h3 := hl h
    rw [show h + (d + 1) = h + 1 + d by omega, Nat.pow_succ, show m * (k ^ d * k) = k * (m * k ^ d) by rw [Nat.mul_comm (k ^ d), ← Nat.mul_assoc, ← Nat.mul_assoc, Nat.mul_comm m k]]
    omega
theorem stt_desc (hk : 2 ≤ k) (hl : ∀ j, 0 ≤ l j) (d h : Nat) {m : Nat} (hm : 0 < m) : pl k s l (h + d + 1) m ≤ stt k s l h (m * k ^ (d + 1)) := by
  have h1 := pl_desc (s := s) hk hl d (h + 1) hm
  have hp : 0 < m * k ^ d := Nat.mul_pos hm (Nat.pow_pos (by omega))
  have h2 := pl_child (s := s) (l := l) hk hp h
  have hq : 0 < m * k ^ (d + 1) := Nat.mul_pos hm (Nat.pow_pos (by omega))
  rw [stt_pos hq, Nat.pow_succ, show m * (k ^ d * k) = k * (m * k ^ d) by rw [Nat.mul_comm (k ^ d), ← Nat.mul_assoc, ← Nat.mul_assoc, Nat.mul_comm m k]]
  rw [show h + d + 1 = h + 1 + d by omega]
  omega
/-- a node that comes before another one ends before it begins -/
theorem node_lt (hk : 2 ≤ k) (hs : ∀ j, 0 ≤ s j) (hl : ∀ j, 0 ≤ l j) (h0 : 0 < l 0) {h1 b1 h2 b2 : Nat} (lt : lf k h1 b1 < lf k h2 b2 ∨ (lf k h1 b1 = lf k h2 b2 ∧ h2 < h1)) : pl k s l h1 b1 ≤ stt k s l h2 b2 := by
  rcases lt with lt | ⟨e, hh⟩
  · have hz : ¬ (h2 = 0 ∧ b2 = 0) := fun z => by
      rw [z.1, z.2, lf_0] at lt
      omega
    refine Int.le_trans (pl_le_lf hk hs hl h1 b1) (Int.le_trans (pl_mono hk hs hl h0 0 (show lf k h1 b1 ≤ lf k h2 b2 - 1 by omega)) (lf_prev hk hs hl h0 hz))
  · obtain ⟨d, rfl⟩ : ∃ d, h1 = h2 + d + 1 := ⟨h1 - h2 - 1, by omega⟩
    have hpos := lf_pos (k := k) hk (h := h2 + d + 1) (b := b1) (by omega)
    have hk1 : ∀ n, 0 < k ^ n := fun n => Nat.pow_pos (by omega)
    by_cases z2 : b2 = 0
    · subst z2
      exfalso
      cases h2 with
      | zero =>
        rw [lf_0] at e
        omega
      | succ h2 =>
        rw [lf_vL, lf_vL] at e
        unfold vL at e
        rw [if_pos rfl] at e
        have hlt : k ^ h2 < k ^ (h2 + 1 + d) := Nat.pow_lt_pow_right (by omega) (by omega)
        split at e
        · omega
        · have h3 : k ^ (h2 + 1 + d + 1) * 1 ≤ k ^ (h2 + 1 + d + 1) * b1 := Nat.mul_le_mul_left _ (by omega)
          have h4 : k ^ (h2 + 1 + d) < k ^ (h2 + 1 + d + 1) := Nat.pow_lt_pow_right (by omega) (by omega)
          omega
    · have e2 : lf k h2 b2 = b2 * k ^ h2 := if_neg z2
      by_cases z1 : b1 = 0
      · subst z1
        have e1 : lf k (h2 + d + 1) 0 = k ^ (h2 + d) := by
          unfold lf
          rw [if_pos rfl, if_neg (by omega)]
          rfl
        rw [e1, e2, Nat.pow_add, Nat.mul_comm (k ^ h2)] at e
        have eb : k ^ d = b2 := Nat.eq_of_mul_eq_mul_right (hk1 h2) e
        have hf := pl_first (s := s) (l := l) hk (h2 + d)
        have hn := hl (h2 + d)
        cases d with
        | zero =>
          rw [Nat.pow_zero] at eb
          subst eb
          rw [stt_pos (by decide)]
          have hf : pl k s l h2 1 = pl k s l (h2 + 0 + 1) 0 + l h2 := hf
          omega
        | succ d =>
          have h3 := stt_desc (s := s) hk hl d h2 (m := 1) (by decide)
          rw [Nat.one_mul, eb] at h3
          have : pl k s l (h2 + d + 1) 1 = pl k s l (h2 + (d + 1) + 1) 0 + l (h2 + (d + 1)) := hf
          omega
      · have e1 : lf k (h2 + d + 1) b1 = b1 * k ^ (h2 + d + 1) := if_neg z1
        rw [e1, e2, show h2 + d + 1 = (d + 1) + h2 by omega, Nat.pow_add, ← Nat.mul_assoc] at e
        have eb := Nat.eq_of_mul_eq_mul_right (hk1 h2) e
        rw [← eb]
        exact stt_desc hk hl d h2 (by omega)
end
end Sm
namespace K14
open PySem L2 Ab Sm
/-! ### nodes -/
def nfN (st : Stmt) (name qual : Str) (cc cda : Addr) : NdefX.NF := ⟨name, qual, defArgs st, defBody st, defScope st, [(("__class__" : Str), cc)], cda⟩
structure NdX (K : PySem.W.Frag) (X : Addr) : Prop where
  cl : Cls K X
  n0 : NoAttr K X "own_schedule"
  n1 : NoAttr K X "own_height"
  n2 : NoAttr K X "index"
  is : Isi K X
structure NdT (K : PySem.W.Frag) (mg : Str → Option Value) (CN CS CB : Addr) : Prop where
  nc : NdC K mg CN
  gS : mg "SpineNode" = some (.ref CS)
  gB : mg "BranchNode" = some (.ref CB)
  s : NdX K CS
  b : NdX K CB
  sN : PySem.W.kitOne K (.ref CS) (.ref CN) = some true
  bN : PySem.W.kitOne K (.ref CB) (.ref CN) = some true
  sB : PySem.W.kitOne K (.ref CS) (.ref CB) = some false
  bS : PySem.W.kitOne K (.ref CB) (.ref CS) = some false
def ndX (CS CB : Addr) (m : Nat) : Addr := if m = 0 then CS else CB
def ndF (C : Addr) (S : Sc) (h m : Nat) : List (Str × Val) := [("own_schedule", scV C S), ("own_height", .int (h : Int)), ("index", .int (m : Int))]
def ndV (C CS CB : Addr) (S : Sc) (h m : Nat) : Val := .obj (ndX CS CB m) (ndF C S h m)
section
variable {P : Program} {w : World} {K : PySem.W.Frag} {mg : Str → Option Value} {base : Heap} {k : Nat} {f C CN CS CB : Addr}
theorem NdT.x (N : NdT K mg CN CS CB) (m : Nat) : NdX K (ndX CS CB m) := by
  unfold ndX
  split
  · exact N.s
  · exact N.b
theorem NdT.kN (N : NdT K mg CN CS CB) (m : Nat) : PySem.W.kitOne K (.ref (ndX CS CB m)) (.ref CN) = some true := by
  unfold ndX
  split
  · exact N.sN
  · exact N.bN
theorem ty_nd {M : Mem} {S : Sc} {h m : Nat} (N : NdT K mg CN CS CB) : TyV K M (ndV C CS CB S h m) (.ref (ndX CS CB m)) := .ob (.im _) (N.x m).cl (N.x m).is.c1 (N.x m).is.c2 (N.x m).is.c3 (N.x m).is.c4
section
variable {X : Cx} {Γ : Gam} {M : Mem} {o : Expr} {pos : Pos} {S : Sc} {h m : Nat}
theorem av_ndS (N : NdT X.K X.mg CN CS CB) (ho : aV X o Γ M (ndV C CS CB S h m)) (hb : attributeBase o "own_schedule" X.env (eval o X.env) = eval o X.env := by rfl) : aV X (.Attribute o "own_schedule" pos) Γ M (scV C S) := av_fld (N.x m).cl (N.x m).n0 ho (.im _) rfl hb
theorem av_ndH (N : NdT X.K X.mg CN CS CB) (ho : aV X o Γ M (ndV C CS CB S h m)) (hb : attributeBase o "own_height" X.env (eval o X.env) = eval o X.env := by rfl) : aV X (.Attribute o "own_height" pos) Γ M (.int (h : Int)) := av_fld (N.x m).cl (N.x m).n1 ho (.im _) rfl hb
theorem av_ndI (N : NdT X.K X.mg CN CS CB) (ho : aV X o Γ M (ndV C CS CB S h m)) (hb : attributeBase o "index" X.env (eval o X.env) = eval o X.env := by rfl) : aV X (.Attribute o "index" pos) Γ M (.int (m : Int)) := av_fld (N.x m).cl (N.x m).n2 ho (.im _) rfl hb
end
/-! ### making nodes -/
def aNin (C X0 : Addr) : ASp := fun ds M R => ∃ (p : Addr) (S : Sc) (h m : Nat) (M0 : Mem), ds = [.ptr p, scV C S, .int (h : Int), .int (m : Int)] ∧ M = (p, .ins X0 []) :: M0 ∧ h ≤ 3000 ∧ R .non ((p, .ins X0 (ndF C S h m)) :: M0)
theorem b_ninit {X0 : Addr} (NX : NdX K X0) (N : NdC K mg CN) (GS : GNsc P w K mg base C) (GI : GInn P w K mg base) : BodyOk P w K mg base 1 f n_Node___init__ "Node.__init__" (defScope c_Node___init__) (defBody c_Node___init__) (aNin C X0) := by
  rintro cdv A outer s0 H E hr ds M R ⟨p, S, h, m, M0, rfl, rfl, h30, hp⟩
  refine as_cons (as_expr (ae_g GS hr (by decide) (aa_cons ((v_ 1).val (aa_nil (ak_nil ⟨rfl, S, rfl, ?_⟩))))))
  refine as_cons (as_if (at_w (aw_or (at_not (at_val (ae_g GI hr (by decide) (aa_cons ((v_ 2).val (aa_cons (i_.val (aa_nil (ak_nil ⟨rfl, (h : Int), 0, rfl, true, ?_, nft, fun _ => ?_⟩))))))))))))
  · rw [decide_eq_true (by omega)]
  refine aw_or1 (at_cmp (v_ 2) (av_mh N) (cmp_gtF (by omega)) ⟨nft, fun _ => as_nil ?_⟩)
  refine as_cons (as_fld NX.cl NX.n0 ((v_ 1).val ((v_ 0).val ⟨0, p, _, rfl, rfl, Nat.le_of_ble_eq_true rfl, ?_⟩)))
  refine as_cons (as_fld NX.cl NX.n1 ((v_ 2).val ((v_ 0).val ⟨0, p, _, rfl, rfl, Nat.le_of_ble_eq_true rfl, ?_⟩)))
  refine as_one (as_fld NX.cl NX.n2 ((v_ 3).val ((v_ 0).val ⟨0, p, _, rfl, rfl, Nat.le_of_ble_eq_true rfl, .ok ?_⟩)))
  exact hp
def aSin (C CS : Addr) : ASp := fun ds M R => ∃ (p : Addr) (S : Sc) (h : Nat) (M0 : Mem), ds = [.ptr p, scV C S, .int (h : Int)] ∧ M = (p, .ins CS []) :: M0 ∧ h ≤ 3000 ∧ R .non ((p, .ins CS (ndF C S h 0)) :: M0)
theorem z_spine_init {cc cda D f2 : Addr} (ms : mg "super" = none) (NX : NdX K CS) (S1 : Sup K P f cda cc D CS f2 "__init__") (XI : FX P w K mg base 2 f2 fun ds _ => aNin C CS ds) :
    ZBody P w K mg base 2 f n_SpineNode___init__ (nfN c_SpineNode___init__ "__init__" "SpineNode.__init__" cc cda) (aSin C CS) := by
  rintro A outer s0 H hr ds M R ⟨p, S, h, M0, rfl, rfl, h30, hp⟩
  exact zs_one (zs_expr (ze_sup S1 XI hr (by decide) ms NX.cl rfl (.ce 0 rfl) (aa_cons ((v_ 1).val (aa_cons ((v_ 2).val (aa_cons (i_.val (aa_nil ⟨p, S, h, 0, M0, rfl, rfl, h30, .ok hp⟩)))))))))
def aBin (C CB : Addr) : ASp := fun ds M R => ∃ (p : Addr) (S : Sc) (h m : Nat) (M0 : Mem), ds = [.ptr p, scV C S, .int (h : Int), .int (m : Int)] ∧ M = (p, .ins CB []) :: M0 ∧ h ≤ 3000 ∧ 0 < m ∧ R .non ((p, .ins CB (ndF C S h m)) :: M0)
theorem z_branch_init {cc cda D f2 : Addr} (ms : mg "super" = none) (NX : NdX K CB) (GI : GInn P w K mg base) (S1 : Sup K P f cda cc D CB f2 "__init__") (XI : FX P w K mg base 2 f2 fun ds _ => aNin C CB ds) :
    ZBody P w K mg base 2 f n_BranchNode___init__ (nfN c_BranchNode___init__ "__init__" "BranchNode.__init__" cc cda) (aBin C CB) := by
  rintro A outer s0 H hr ds M R ⟨p, S, h, m, M0, rfl, rfl, h30, m0, hp⟩
  refine zs_cons (zs_expr (ze_sup S1 XI hr (by decide) ms NX.cl rfl (.ce 0 rfl) (aa_cons ((v_ 1).val (aa_cons ((v_ 2).val (aa_cons ((v_ 3).val (aa_nil ⟨p, S, h, m, M0, rfl, rfl, h30, ?_⟩)))))))))
  refine zs_of ?_
  refine as_one (as_if (at_not (at_val (ae_g GI hr (by decide) (aa_cons ((v_ 3).val (aa_cons (i_.val (aa_nil (ak_nil ⟨rfl, (m : Int), 1, rfl, true, ?_, nft, fun _ => as_nil (.ok hp)⟩))))))))))
  rw [decide_eq_true (by omega)]
structure NMk (P : Program) (w : World) (K : PySem.W.Frag) (mg : Str → Option Value) (base : Heap) (C CS CB : Addr) : Prop where
  s : ∃ fi, Mk K CS fi ∧ FX P w K mg base 3 fi fun ds _ => aSin C CS ds
  b : ∃ fi, Mk K CB fi ∧ FX P w K mg base 3 fi fun ds _ => aBin C CB ds
section
variable {X : Cx} {Γ : Gam} {M : Mem} {R : Val → Mem → Prop} {e e1 e2 : Expr} {p1 p2 pos : Pos} {m : Nat}
theorem ae_spine (N : NdT X.K X.mg CN CS CB) (I : NMk X.prog X.w X.K X.mg X.base C CS CB) (hr : Rm m X.A) (hm : 4 ≤ m)
    (hh : aE X e Γ M fun x M1 => aE X e1 Γ M1 fun y M2 => ∃ (S : Sc) (h : Nat), x = scV C S ∧ y = .int (h : Int) ∧ h ≤ 3000 ∧ R (ndV C CS CB S h 0) M2)
    (hg : Gl X "SpineNode" := by rfl) (he : starEach [e, e1] X.env = (false, eval e X.env) :: starEach [e1] X.env := by rfl) (he2 : starEach [e1] X.env = (false, eval e1 X.env) :: starEach [] X.env := by rfl) : aE X (.Call (.Name "SpineNode" p1) [e, e1] [] pos) Γ M R := by
  obtain ⟨fi, mk, F⟩ := I.s
  refine ae_frzO (ae_make mk F (hr.mono hm) N.gS (aa_cons (hh.mono fun x M1 h1 => aa_cons (h1.mono fun y M2 ⟨S, h, e1, e2, h30, hR⟩ => aa_nil (ak_nil ⟨rfl, fun p hn => ?_⟩)) he2) he) hg rfl rfl (by decide) he (by rw [he, he2]; rfl))
  subst e1 e2
  exact ⟨p, S, h, M2, rfl, rfl, h30, rfl, p, CS, _, M2, rfl, rfl, hR⟩
theorem ae_branch (N : NdT X.K X.mg CN CS CB) (I : NMk X.prog X.w X.K X.mg X.base C CS CB) (hr : Rm m X.A) (hm : 4 ≤ m)
    (hh : aE X e Γ M fun x M1 => aE X e1 Γ M1 fun y M2 => aE X e2 Γ M2 fun z M3 => ∃ (S : Sc) (h b : Nat), x = scV C S ∧ y = .int (h : Int) ∧ z = .int (b : Int) ∧ h ≤ 3000 ∧ 0 < b ∧ R (ndV C CS CB S h b) M3)
    (hg : Gl X "BranchNode" := by rfl) (he : starEach [e, e1, e2] X.env = (false, eval e X.env) :: starEach [e1, e2] X.env := by rfl) (he2 : starEach [e1, e2] X.env = (false, eval e1 X.env) :: starEach [e2] X.env := by rfl) (he3 : starEach [e2] X.env = (false, eval e2 X.env) :: starEach [] X.env := by rfl) : aE X (.Call (.Name "BranchNode" p1) [e, e1, e2] [] pos) Γ M R := by
  obtain ⟨fi, mk, F⟩ := I.b
  refine ae_frzO (ae_make mk F (hr.mono hm) N.gB (aa_cons (hh.mono fun x M1 h1 => aa_cons (h1.mono fun y M2 h2 => aa_cons (h2.mono fun z M3 ⟨S, h, b, e1, e2, e3, h30, b0, hR⟩ => aa_nil (ak_nil ⟨rfl, fun p hn => ?_⟩)) he3) he2) he) hg rfl rfl (by decide) he (by rw [he, he2, he3]; rfl))
  subst e1 e2 e3
  have ex : ndX CS CB b = CB := if_neg (by omega)
  unfold ndV at hR
  rw [ex] at hR
  exact ⟨p, S, h, b, M3, rfl, rfl, h30, b0, rfl, p, CB, _, M3, rfl, rfl, hR⟩
end
/-! ### Node.named -/
def aNmd (C CS CB : Addr) : ASp := fun ds M R => ∃ (S : Sc) (h m : Nat), ds = [scV C S, .int (h : Int), .int (m : Int)] ∧ h ≤ 3000 ∧ R (ndV C CS CB S h m) M
theorem b_named (N : NdT K mg CN CS CB) (I : NMk P w K mg base C CS CB) (GI : GInn P w K mg base) : BodyOk P w K mg base 4 f n_Node_named "Node.named" (defScope c_Node_named) (defBody c_Node_named) (aNmd C CS CB) := by
  rintro cdv A outer s0 H E hr ds M R ⟨S, h, m, rfl, h30, hp⟩
  refine as_cons (as_if (at_w (aw_and (at_val (ae_g GI hr (by decide) (aa_cons ((v_ 2).val (aa_cons (i_.val (aa_nil (ak_nil ⟨rfl, (m : Int), 0, rfl, true, ?_, fun _ => ?_, ntf⟩)))))))))))
  · rw [decide_eq_true (by omega)]
  by_cases z : m = 0
  · subst z
    exact aw_and1 (at_cmp (v_ 2) i_ (cmp_eqI.eq (decide_eq_true rfl)) ⟨fun _ => as_one (as_ret (ae_spine N I hr (by decide) ((v_ 0).val ((v_ 1).val ⟨S, h, rfl, rfl, h30, .ok hp⟩)))), ntf⟩)
  · exact aw_and1 (at_cmp (v_ 2) i_ (cmp_eqI.eq (decide_eq_false (by omega))) ⟨nft, fun _ => as_nil (as_one (as_ret (ae_branch N I hr (by decide) ((v_ 0).val ((v_ 1).val ((v_ 2).val ⟨S, h, m, rfl, rfl, rfl, h30, by omega, .ok hp⟩))))))⟩)
structure NNm (P : Program) (w : World) (K : PySem.W.Frag) (mg : Str → Option Value) (base : Heap) (C CN CS CB : Addr) : Prop where
  ex : ∃ p g, SMet K CN (.type "type") "named" p g ∧ FX P w K mg base 5 g fun ds _ => aNmd C CS CB ds
theorem ae_named {X : Cx} {Γ : Gam} {M : Mem} {R : Val → Mem → Prop} {e e1 e2 : Expr} {p1 apos pos : Pos} {m : Nat} {pl : Sem Bool} (N : NdT X.K X.mg CN CS CB) (I : NNm X.prog X.w X.K X.mg X.base C CN CS CB) (hr : Rm m X.A) (hm : 5 ≤ m)
    (hh : aE X e Γ M fun x M1 => aE X e1 Γ M1 fun y M2 => aE X e2 Γ M2 fun z M3 => ∃ (S : Sc) (h b : Nat), x = scV C S ∧ y = .int (h : Int) ∧ z = .int (b : Int) ∧ h ≤ 3000 ∧ R (ndV C CS CB S h b) M3)
    (hg : Gl X "Node" := by rfl) (he : starEach [e, e1, e2] X.env = (false, eval e X.env) :: starEach [e1, e2] X.env := by rfl) (he2 : starEach [e1, e2] X.env = (false, eval e1 X.env) :: starEach [e2] X.env := by rfl) (he3 : starEach [e2] X.env = (false, eval e2 X.env) :: starEach [] X.env := by rfl)
    (ht : eval (.Call (.Attribute (.Name "Node" p1) "named" apos) [e, e1, e2] [] pos) X.env = (do
      let ov ← eval (.Name "Node" p1) X.env
      standAt apos.atName
      let (f, first) ← holding [ov] (getMethod ov "named" pl)
      callWith pos f first (backTo pos (starEach [e, e1, e2] X.env)) (backToKw pos (keywordEach [] X.env))) := by rfl) : aE X (.Call (.Attribute (.Name "Node" p1) "named" apos) [e, e1, e2] [] pos) Γ M R := by
  obtain ⟨p, g, sm, F⟩ := I.ex
  refine ae_smeth N.nc.rd sm F (hr.mono hm) (ae_glob N.nc.gN ⟨rfl, rfl⟩ hg) (aa_cons (hh.mono fun x M1 h1 => aa_cons (h1.mono fun y M2 h2 => aa_cons (h2.mono fun z M3 ⟨S, h, b, e1, e2, e3, h30, hR⟩ => aa_nil (ak_nil ⟨rfl, S, h, b, by rw [e1, e2, e3], h30, hR⟩)) he3) he2) he) rfl rfl he (by rw [he, he2, he3]; rfl) ht
end
end K14
namespace K14
open PySem L2 Ab GenW Sm
/-! ### properties and methods of nodes -/
structure NPr (P : Program) (w : World) (K : PySem.W.Frag) (mg : Str → Option Value) (base : Heap) (CS CB : Addr) (fl : Str) (n : Nat) (sp : ASp) : Prop where
  s : ∃ p g, PropOf K CS fl p g ∧ FX P w K mg base n g fun ds _ => sp ds
  b : ∃ p g, PropOf K CB fl p g ∧ FX P w K mg base n g fun ds _ => sp ds
structure NMt (P : Program) (w : World) (K : PySem.W.Frag) (mg : Str → Option Value) (base : Heap) (CS CB : Addr) (nm : Str) (n : Nat) (sp : ASp) : Prop where
  s : ∃ f, Meth K CS nm f ∧ FX P w K mg base n f fun ds _ => sp ds
  b : ∃ f, Meth K CB nm f ∧ FX P w K mg base n f fun ds _ => sp ds
section
variable {P : Program} {w : World} {K : PySem.W.Frag} {mg : Str → Option Value} {base : Heap} {k : Nat} {f C CN CS CB : Addr} {fl : Str} {n : Nat} {s : ASp}
theorem NPr.x (Q : NPr P w K mg base CS CB fl n s) (m : Nat) : ∃ p g, PropOf K (ndX CS CB m) fl p g ∧ FX P w K mg base n g fun ds _ => s ds := by
  unfold ndX
  split
  · exact Q.s
  · exact Q.b
theorem NMt.x (Q : NMt P w K mg base CS CB fl n s) (m : Nat) : ∃ f, Meth K (ndX CS CB m) fl f ∧ FX P w K mg base n f fun ds _ => s ds := by
  unfold ndX
  split
  · exact Q.s
  · exact Q.b
section
variable {X : Cx} {Γ : Gam} {M : Mem} {R : Val → Mem → Prop} {o e : Expr} {apos pos : Pos} {S : Sc} {h m q : Nat}
theorem ae_npr (N : NdT X.K X.mg CN CS CB) (Q : NPr X.prog X.w X.K X.mg X.base CS CB fl n s) (hr : Rm q X.A) (hq : n + 1 ≤ q) (ho : aV X o Γ M (ndV C CS CB S h m)) (hh : s [ndV C CS CB S h m] M R) (hb : attributeBase o fl X.env (eval o X.env) = eval o X.env := by rfl) : aE X (.Attribute o fl pos) Γ M R := by
  obtain ⟨p, g, hp, F⟩ := Q.x m
  exact ae_prop (N.x m).cl hp F (hr.mono hq) ho (.im _) hh hb
theorem ae_nm1 {pl : Sem Bool} (N : NdT X.K X.mg CN CS CB) (Q : NMt X.prog X.w X.K X.mg X.base CS CB fl n s) (hr : Rm q X.A) (hq : n ≤ q) (ho : aV X o Γ M (ndV C CS CB S h m)) (hh : aE X e Γ M fun x M1 => s [ndV C CS CB S h m, x] M1 R) (hl : (ndF C S h m).lookup fl = none := by rfl)
    (hst : starEach [e] X.env = (false, eval e X.env) :: starEach [] X.env := by rfl)
    (ht : eval (.Call (.Attribute o fl apos) [e] [] pos) X.env = (do
      let ov ← eval o X.env
      standAt apos.atName
      let (f, first) ← holding [ov] (getMethod ov fl pl)
      callWith pos f first (backTo pos (starEach [e] X.env)) (backToKw pos (keywordEach [] X.env))) := by rfl) : aE X (.Call (.Attribute o fl apos) [e] [] pos) Γ M R :=
  ae_mt1 (N.x m).cl (Q.x m) hr hq ho (.im _) hh hl hst ht
end
def aPsc (C CS CB : Addr) : ASp := fun ds M R => ∃ (S : Sc) (h m : Nat), ds = [ndV C CS CB S h m] ∧ R (scV C S) M
theorem b_nschedule (N : NdT K mg CN CS CB) : BodyOk P w K mg base k f n_Node_schedule "Node.schedule" (defScope c_Node_schedule) (defBody c_Node_schedule) (aPsc C CS CB) := by
  rintro cdv A outer s0 H E hr ds M R ⟨S, h, m, rfl, hp⟩
  exact as_one (as_retv (av_ndS N (v_ 0)) (.ok hp))
def aPhe (C CS CB : Addr) : ASp := fun ds M R => ∃ (S : Sc) (h m : Nat), ds = [ndV C CS CB S h m] ∧ R (.int (h : Int)) M
theorem b_nheight (N : NdT K mg CN CS CB) : BodyOk P w K mg base k f n_Node_height "Node.height" (defScope c_Node_height) (defBody c_Node_height) (aPhe C CS CB) := by
  rintro cdv A outer s0 H E hr ds M R ⟨S, h, m, rfl, hp⟩
  exact as_one (as_retv (av_ndH N (v_ 0)) (.ok hp))
def aChi (C CS CB : Addr) : ASp := fun ds M R => ∃ (S : Sc) (h m c : Nat), ds = [ndV C CS CB S h m, .int (c : Int)] ∧ GoodS S ∧ 0 < h ∧ h ≤ 3000 ∧ c < S.a.toNat ∧ R (ndV C CS CB S (h - 1) (m * S.a.toNat + c)) M
theorem b_child (T : Rs K mg C) (PA : PrA P w K mg base C) (N : NdT K mg CN CS CB) (I : NNm P w K mg base C CN CS CB) (GI : GInn P w K mg base) : BodyOk P w K mg base 5 f n_Node_child "Node.child" (defScope c_Node_child) (defBody c_Node_child) (aChi C CS CB) := by
  rintro cdv A outer s0 H E hr ds M R ⟨S, h, m, c, rfl, hS, h0, h30, hc, hp⟩
  have a2 := hS.a2
  have a9 := hS.a9
  have ea : S.a = (S.a.toNat : Int) := by omega
  refine as_cons (as_if (at_w (aw_or (at_not (at_val (ae_g GI hr (by decide) (aa_cons ((v_ 1).val (aa_cons (i_.val (aa_nil (ak_nil ⟨rfl, (c : Int), 0, rfl, true, ?_, nft, fun _ => ?_⟩))))))))))))
  · rw [decide_eq_true (by omega)]
  refine aw_or (at_cmp (v_ 1) (av_arity T PA hr (by decide) (av_ndS N (v_ 0))) (cmp_ge.eq (decide_eq_false (by omega))) ⟨nft, fun _ => aw_or1 (at_cmp (av_ndH N (v_ 0)) i_ (cmp_eqI.eq (decide_eq_false (by omega))) ⟨nft, fun _ => as_nil ?_⟩)⟩)
  refine as_one (as_ret (ae_named N I hr (by decide) ((av_ndS N (v_ 0)).val ((av_sub (av_ndH N (v_ 0)) i_).val ((av_add (av_mulU (av_ndI N (v_ 0)) (av_arity T PA hr (by decide) (av_ndS N (v_ 0))) (.inl (.inr ⟨by omega, by omega⟩))) (v_ 1)).val ⟨S, h - 1, m * S.a.toNat + c, rfl, by rw [show ((h - 1 : Nat) : Int) = (h : Int) - 1 by omega], ?_, by omega, .ok hp⟩)))))
  rw [Int.natCast_add, Int.natCast_mul, ← ea]
def kids (C CS CB : Addr) (S : Sc) (h m : Nat) : List Val := if h = 0 then [] else (List.range S.a.toNat).map fun c => ndV C CS CB S (h - 1) (m * S.a.toNat + c)
def aKid (C CS CB : Addr) : ASp := fun ds M R => ∃ (S : Sc) (h m : Nat), ds = [ndV C CS CB S h m] ∧ GoodS S ∧ h ≤ 3000 ∧ R (.tup (kids C CS CB S h m)) M
theorem b_children (B : Bt mg) (T : Rs K mg C) (PA : PrA P w K mg base C) (N : NdT K mg CN CS CB) (XC : NMt P w K mg base CS CB "child" 6 (aChi C CS CB)) : BodyOk P w K mg base 6 f n_Node_children "Node.children" (defScope c_Node_children) (defBody c_Node_children) (aKid C CS CB) := by
  rintro cdv A outer s0 H E hr ds M R ⟨S, h, m, rfl, hS, h30, hp⟩
  have a2 := hS.a2
  have a9 := hS.a9
  have ea : S.a = (S.a.toNat : Int) := by omega
  refine as_cons (as_setv (d := .int ((if h = 0 then 0 else S.a.toNat : Nat) : Int)) 1 q_Node_children.nd ?_ ?_)
  · by_cases z : h = 0
    · rw [if_pos z]
      exact ae_ifp (tp_cmp (av_ndH N (v_ 0)) i_ cp_gt) (fun c => absurd c (by omega)) (fun _ => i_.val ⟨rfl, rfl⟩)
    · rw [if_neg z, ← ea]
      exact ae_ifp (tp_cmp (av_ndH N (v_ 0)) i_ cp_gt) (fun _ => (av_arity T PA hr (by decide) (av_ndS N (v_ 0))).val ⟨rfl, rfl⟩) (fun c => absurd (by omega) c)
  refine as_one (as_ret (ae_tuple B.tuple (ae_lcP [("number", 2)] (fun c => ndV C CS CB S (h - 1) (m * S.a.toNat + c)) rfl q_Node_children.nd (blkOk_by (N := n_Node_children) (sc := defScope c_Node_children) (by decide +kernel)) (ai_range1 (n := if h = 0 then 0 else S.a.toNat) B.range ((v_ 1).val ⟨_, rfl, Int.toNat_natCast _, by omega, by split <;> omega, rfl⟩)) ?_ (by split <;> omega) ⟨_, .l (.self _), .ok ?_⟩)))
  · intro c acc D hc s1 H1 C1 cl fp
    refine agw_name 2 q_Node_children.nd fun s1 H1 C1 cl fp => ?_
    have h0 : 0 < h := by
      by_cases z : h = 0
      · rw [if_pos z] at hc
        omega
      · omega
    rw [if_neg (by omega)] at hc
    exact ae_nm1 N XC hr (by decide) (v_ 0) (aE.val (v_ 2) ⟨S, h, m, c, by rw [Int.zero_add], hS, h0, h30, hc, rfl, rfl⟩)
  · unfold kids at hp
    by_cases z : h = 0
    · rw [if_pos z] at hp ⊢
      exact hp
    · rw [if_neg z] at hp ⊢
      exact hp
end
end K14
/-! Ab95: isinstance of a subclass -/
namespace Ab
open PySem PySem.Spec PyProof.Rows L2
theorem kit_yes {K : PySem.W.Frag} {C : Addr} {t : Value} (hd : PySem.W.hasDictIn K C = true) (ht : PySem.W.typeIn K (.ref C) = some (.type "type")) (hs : PySem.W.subIn K t (.ref C) = some true) : PySem.W.kitOne K t (.ref C) = some true := by
  obtain ⟨cd, hc, _⟩ := PySem.W.any_some hd
  unfold PySem.W.kitOne PySem.W.kitCls
  split
  · rfl
  show (if ((PySem.W.clsIn K C).isSome && PySem.W.typeIn K (.ref C) == some (.type "type")) = true then PySem.W.subIn K t (.ref C) else none) = some true
  rw [hc, ht, hs]
  simp
theorem nf_no {K : PySem.W.Frag} {C : Addr} {t : Value} (hs : PySem.W.subIn K t (.ref C) = some false) : PySem.W.notFirst K C t = true := by
  simp [PySem.W.notFirst, hs]
theorem nf_self {K : PySem.W.Frag} {C : Addr} : PySem.W.notFirst K C (.ref C) = true := by
  simp [PySem.W.notFirst]
/-! ### t == () -/
end Ab
namespace K14
open PySem L2 Ab GenW Sm
section
variable {P : Program} {w : World} {K : PySem.W.Frag} {mg : Str → Option Value} {base : Heap} {k : Nat} {f C CN CS CB : Addr} {fl : Str} {n : Nat}
/-! ### __repr__ -/
abbrev zzS : Str := "SpineNode("
abbrev zzB : Str := "BranchNode("
abbrev zzC : Str := ", "
abbrev zzE : Str := ")"
def spT (h : Nat) : Str := Str.empty ++ zzS ++ toString (h : Int) ++ zzE
def brT (h m : Nat) : Str := Str.empty ++ zzB ++ toString (h : Int) ++ zzC ++ toString (m : Int) ++ zzE
def ndT (h m : Nat) : Str := if m = 0 then spT h else brT h m
theorem showN {m : Nat} (h : m < 2 ^ 1900) : showI (m : Int) := log_lt (Nat.lt_of_lt_of_le (show ((m : Int)).natAbs < 2 ^ 1900 by rw [Int.natAbs_natCast]; exact h) (Nat.pow_le_pow_right (by decide) (by decide)))
theorem show30 {h : Nat} (hh : h ≤ 3001) : showI (h : Int) := showN (Nat.lt_of_lt_of_le (show h < 2 ^ 12 by omega) (Nat.pow_le_pow_right (by decide) (by decide)))
theorem sp_parts {X : Cx} {Γ : Gam} {M : Mem} {e : Expr} {j1 j2 : Nat} {p1 p2 p3 pos : Pos} {h : Nat} (he : aV X e Γ M (.int (h : Int))) (hh : showI (h : Int)) : aV X (.JoinedStr [.Constant (.str "SpineNode(") j1 p1, .FormattedValue e (-1) none p2, .Constant (.str ")") j2 p3] pos) Γ M (.str (spT h)) := by
  have l1 : (toString (h : Int) : Str).length ≤ 1921 := shownI_le hh
  have e0 : (Str.empty ++ zzS : Str).length = 10 := by rw [Str.empty_append]; decide
  have e1 : (Str.empty ++ zzS ++ toString (h : Int) : Str).length = 10 + (toString (h : Int) : Str).length := by rw [Str.length_append, e0]
  have e2 : (zzE : Str).length = 1 := by decide
  exact av_joined (out := spT h) (.cons s_ (sz (n := (Str.empty ++ zzS : Str).length) (by omega)) (.cons (av_fmt he (.int _ hh)) (sz (n := (Str.empty ++ zzS ++ toString (h : Int) : Str).length) (by omega)) (.cons s_ (sz (n := (Str.empty ++ zzS ++ toString (h : Int) ++ zzE : Str).length) (by rw [Str.length_append]; omega)) (.nil _))))
theorem br_parts {X : Cx} {Γ : Gam} {M : Mem} {e e2 : Expr} {j1 j2 j3 : Nat} {p1 p2 p3 p4 p5 pos : Pos} {h m : Nat} (he : aV X e Γ M (.int (h : Int))) (he2 : aV X e2 Γ M (.int (m : Int))) (hh : showI (h : Int)) (hm : showI (m : Int)) : aV X (.JoinedStr [.Constant (.str "BranchNode(") j1 p1, .FormattedValue e (-1) none p2, .Constant (.str ", ") j2 p3, .FormattedValue e2 (-1) none p4, .Constant (.str ")") j3 p5] pos) Γ M (.str (brT h m)) := by
  have l1 : (toString (h : Int) : Str).length ≤ 1921 := shownI_le hh
  have l2 : (toString (m : Int) : Str).length ≤ 1921 := shownI_le hm
  have e0 : (Str.empty ++ zzB : Str).length = 11 := by rw [Str.empty_append]; decide
  have e1 : (Str.empty ++ zzB ++ toString (h : Int) : Str).length = 11 + (toString (h : Int) : Str).length := by rw [Str.length_append, e0]
  have c2 : (zzC : Str).length = 2 := by decide
  have e2 : (Str.empty ++ zzB ++ toString (h : Int) ++ zzC : Str).length = 11 + (toString (h : Int) : Str).length + 2 := by rw [Str.length_append, e1, c2]
  have e3 : (Str.empty ++ zzB ++ toString (h : Int) ++ zzC ++ toString (m : Int) : Str).length = 11 + (toString (h : Int) : Str).length + 2 + (toString (m : Int) : Str).length := by rw [Str.length_append, e2]
  have c3 : (zzE : Str).length = 1 := by decide
  exact av_joined (out := brT h m) (.cons s_ (sz (n := (Str.empty ++ zzB : Str).length) (by omega)) (.cons (av_fmt he (.int _ hh)) (sz (n := (Str.empty ++ zzB ++ toString (h : Int) : Str).length) (by omega)) (.cons s_ (sz (n := (Str.empty ++ zzB ++ toString (h : Int) ++ zzC : Str).length) (by omega)) (.cons (av_fmt he2 (.int _ hm)) (sz (n := (Str.empty ++ zzB ++ toString (h : Int) ++ zzC ++ toString (m : Int) : Str).length) (by omega)) (.cons s_ (sz (n := (Str.empty ++ zzB ++ toString (h : Int) ++ zzC ++ toString (m : Int) ++ zzE : Str).length) (by rw [Str.length_append]; omega)) (.nil _))))))
def aSrp (C CS CB : Addr) : ASp := fun ds M R => ∃ (S : Sc) (h : Nat), ds = [ndV C CS CB S h 0] ∧ h ≤ 3001 ∧ R (.str (ndT h 0)) M
theorem b_spine_repr (N : NdT K mg CN CS CB) : BodyOk P w K mg base k f n_SpineNode___repr__ "SpineNode.__repr__" (defScope c_SpineNode___repr__) (defBody c_SpineNode___repr__) (aSrp C CS CB) := by
  rintro cdv A outer s0 H E hr ds M R ⟨S, h, rfl, hh, hp⟩
  exact as_one (as_retv (sp_parts (av_ndH N (v_ 0)) (show30 hh)) (.ok hp))
def aBrp (C CS CB : Addr) : ASp := fun ds M R => ∃ (S : Sc) (h m : Nat), ds = [ndV C CS CB S h m] ∧ h ≤ 3001 ∧ 0 < m ∧ m < 2 ^ 1900 ∧ R (.str (ndT h m)) M
theorem b_branch_repr (N : NdT K mg CN CS CB) : BodyOk P w K mg base k f n_BranchNode___repr__ "BranchNode.__repr__" (defScope c_BranchNode___repr__) (defBody c_BranchNode___repr__) (aBrp C CS CB) := by
  rintro cdv A outer s0 H E hr ds M R ⟨S, h, m, rfl, hh, m0, hm, hp⟩
  have e : ndT h m = brT h m := if_neg (by omega)
  rw [e] at hp
  exact as_one (as_retv (br_parts (av_ndH N (v_ 0)) (av_ndI N (v_ 0)) (show30 hh) (showN hm)) (.ok hp))
structure NRp (P : Program) (w : World) (K : PySem.W.Frag) (mg : Str → Option Value) (base : Heap) (C CS CB : Addr) : Prop where
  s : ∃ f, ReprM P w K mg base 1 CS f (aSrp C CS CB)
  b : ∃ f, ReprM P w K mg base 1 CB f (aBrp C CS CB)
theorem ae_nrepr {X : Cx} {Γ : Gam} {M : Mem} {R : Val → Mem → Prop} {a : Expr} {p1 pos : Pos} {q : Nat} {S : Sc} {h m : Nat} (N : NdT X.K X.mg CN CS CB) (Q : NRp X.prog X.w X.K X.mg X.base C CS CB) (hr : Rm q X.A) (hq : 2 ≤ q) (hs : X.mg "repr" = none) (ha : aV X a Γ M (ndV C CS CB S h m)) (hh : h ≤ 3001) (hm : m < 2 ^ 1900) (hp : R (.str (ndT h m)) M) (hg : Gl X "repr" := by rfl)
    (hst : starEach [a] X.env = [(false, eval a X.env)] := by rfl) : aE X (.Call (.Name "repr" p1) [a] [] pos) Γ M R := by
  by_cases z : m = 0
  · subst z
    obtain ⟨f, O⟩ := Q.s
    exact ae_reprOwn (m1 := "__repr__") O hr hq hs (ha.val ⟨(Ob.im _).obM rfl, S, h, rfl, hh, _, rfl, hp⟩) hg hst
  · obtain ⟨f, O⟩ := Q.b
    have ex : ndX CS CB m = CB := if_neg z
    have hob : ObM M CB (ndV C CS CB S h m) "__repr__" := by
      unfold ndV
      rw [ex]
      exact (Ob.im _).obM rfl
    exact ae_reprOwn (m1 := "__repr__") O hr hq hs (ha.val ⟨hob, S, h, m, rfl, hh, by omega, hm, _, rfl, hp⟩) hg hst
/-! ### __eq__ -/
def aNeq (K : PySem.W.Frag) (C CN CS CB : Addr) : ASp := fun ds M R => ∃ (S : Sc) (h m : Nat) (d : Val), ds = [ndV C CS CB S h m, d] ∧ GoodS S ∧
  ((∃ (S' : Sc) (h' m' : Nat) (b : Bool), d = ndV C CS CB S' h' m' ∧ GoodS S' ∧ (b = true ↔ h = h' ∧ m = m' ∧ S = S') ∧ R (.bl b) M) ∨ (∃ t, TyV K M d t ∧ PySem.W.kitOne K t (.ref CN) = some false ∧ R (.bl false) M))
theorem b_neq (B : Bt mg) (N : NdT K mg CN CS CB) {fq : Addr} (OS : OwnS P w K mg base C fq) : BodyOk P w K mg base 1 f n_Node___eq__ "Node.__eq__" (defScope c_Node___eq__) (defBody c_Node___eq__) (aNeq K C CN CS CB) := by
  rintro cdv A outer s0 H E hr ds M R ⟨S, h, m, d, rfl, hS, hp⟩
  rcases hp with ⟨S', h', m', b, rfl, hS', hb, hp⟩ | ⟨t, ht, hk, hp⟩
  · refine as_cons (as_if (at_w (aw_or (at_not (at_val (ae_isi B.isinstance (v_ 1) (ae_glob N.nc.gN ⟨rfl, rfl⟩) (.own CN) (ty_nd N) (N.kN m') ⟨true, rfl, nft, fun _ => ?_⟩))))))
    by_cases z1 : h = h'
    · refine aw_or (at_cmp (av_ndH N (v_ 0)) (av_ndH N (v_ 1)) (cmp_neI.eq (by rw [decide_eq_true (by omega)]; rfl)) ⟨nft, fun _ => ?_⟩)
      by_cases z2 : m = m'
      · refine aw_or1 (at_cmp (av_ndI N (v_ 0)) (av_ndI N (v_ 1)) (cmp_neI.eq (by rw [decide_eq_true (by omega)]; rfl)) ⟨nft, fun _ => as_nil ?_⟩)
        have e : b = relS (schF S) (schF S') := by
          by_cases z3 : S = S'
          · rw [rel_eq z3]
            exact hb.mpr ⟨z1, z2, z3⟩
          · rw [rel_ne z3]
            cases b with
            | false => rfl
            | true => exact absurd (hb.mp rfl).2.2 z3
        rw [e] at hp
        exact as_one (as_ret (ae_cmp (av_ndS N (v_ 0)) (av_ndS N (v_ 1)) (cmp_eqO OS hr ⟨_, rfl, hS⟩ ⟨_, rfl, hS'⟩) (.ok hp)))
      · have e : b = false := by
          cases b with
          | false => rfl
          | true => exact absurd (hb.mp rfl).2.1 z2
        subst e
        refine aw_or1 (at_cmp (av_ndI N (v_ 0)) (av_ndI N (v_ 1)) (cmp_neI.eq (by rw [decide_eq_false (by omega)]; rfl)) ⟨fun _ => ?_, ntf⟩)
        refine as_one (as_retv av_bl ?_)
        exact .ok hp
    · have e : b = false := by
        cases b with
        | false => rfl
        | true => exact absurd (hb.mp rfl).1 z1
      subst e
      refine aw_or (at_cmp (av_ndH N (v_ 0)) (av_ndH N (v_ 1)) (cmp_neI.eq (by rw [decide_eq_false (by omega)]; rfl)) ⟨fun _ => ⟨fun _ => ?_, ntf⟩, ntf⟩)
      refine as_one (as_retv av_bl ?_)
      exact .ok hp
  · refine as_cons (as_if (at_w (aw_or (at_not (at_val (ae_isi B.isinstance (v_ 1) (ae_glob N.nc.gN ⟨rfl, rfl⟩) (.own CN) ht hk ⟨false, rfl, fun _ => ⟨fun _ => ?_, ntf⟩, ntf⟩))))))
    refine as_one (as_retv av_bl ?_)
    exact .ok hp
structure NEq (P : Program) (w : World) (K : PySem.W.Frag) (mg : Str → Option Value) (base : Heap) (C CN CS CB : Addr) : Prop where
  s : ∃ f, OwnM P w K mg base 2 CS f (aNeq K C CN CS CB)
  b : ∃ f, OwnM P w K mg base 2 CB f (aNeq K C CN CS CB)
  sb : PySem.W.notFirst K CS (.ref CB) = true
  bs : PySem.W.notFirst K CB (.ref CS) = true
theorem NEq.x (Q : NEq P w K mg base C CN CS CB) (m : Nat) : ∃ f, OwnM P w K mg base 2 (ndX CS CB m) f (aNeq K C CN CS CB) := by
  unfold ndX
  split
  · exact Q.s
  · exact Q.b
theorem NEq.nf (Q : NEq P w K mg base C CN CS CB) (m m' : Nat) : PySem.W.notFirst K (ndX CS CB m) (.ref (ndX CS CB m')) = true := by
  unfold ndX
  split <;> split
  · exact nf_self
  · exact Q.sb
  · exact Q.bs
  · exact nf_self
/-! ### trees.py -/
/-! ### leaves_before -/
/-! ### precedes -/
end
end K14
/-! S27: the node in which a label lies; its path -/
namespace Sm
section
variable {k : Nat} {s l : Nat → Int} {n : Int} {h b h' b' : Nat}
structure On (k : Nat) (s l : Nat → Int) (n : Int) (h b : Nat) : Prop where
  lo : stt k s l h b < n
  hi : n ≤ pl k s l h b
theorem lf_inj (hk : 2 ≤ k) (e : lf k h b = lf k h b') : b = b' := by
  cases h with
  | zero =>
    rw [lf_0, lf_0] at e
    exact e
  | succ h =>
    rw [lf_vL, lf_vL] at e
    unfold vL at e
    have hp : 0 < k ^ (h + 1) := Nat.pow_pos (by omega)
    have hlt : k ^ h < k ^ (h + 1) := Nat.pow_lt_pow_right (by omega) (by omega)
    split at e
    · split at e
      · omega
      · have : k ^ (h + 1) * 1 ≤ k ^ (h + 1) * b' := Nat.mul_le_mul_left _ (by omega)
        omega
    · split at e
      · have : k ^ (h + 1) * 1 ≤ k ^ (h + 1) * b := Nat.mul_le_mul_left _ (by omega)
        omega
      · exact Nat.eq_of_mul_eq_mul_left hp e
theorem On.uniq (hk : 2 ≤ k) (hs : ∀ j, 0 ≤ s j) (hl : ∀ j, 0 ≤ l j) (h0 : 0 < l 0) (x : On k s l n h b) (y : On k s l n h' b') : h = h' ∧ b = b' := by
  have key : ∀ {h b h' b' : Nat}, On k s l n h b → On k s l n h' b' → ¬ (lf k h b < lf k h' b' ∨ (lf k h b = lf k h' b' ∧ h' < h)) := fun {h b h' b'} x y z => by
    have := node_lt hk hs hl h0 z
    have := x.hi
    have := y.lo
    omega
  have k1 := key x y
  have k2 := key y x
  have e : lf k h b = lf k h' b' := by omega
  have eh : h = h' := by omega
  subst eh
  exact ⟨rfl, lf_inj hk e⟩
/-! ### padded digits -/
def pdg (k : Nat) : Nat → Nat → List Nat
  | 0, _ => []
  | j + 1, v => pdg k j (v / k) ++ [v % k]
/-- the last digits of a number -/
theorem drop_dig : ∀ (ds : List Nat) (n j : Nat), (∀ d ∈ ds, d < k) → j ≤ ds.length → ds.drop (ds.length - j) = pdg k j (dval k n ds) := fun ds => by
  induction hL : ds.length generalizing ds with
  | zero =>
    intro n j _ hj
    have : j = 0 := by omega
    subst this
    rw [Nat.sub_zero, List.drop_of_length_le (by omega)]
    rfl
  | succ L ih =>
    intro n j hd hj
    rcases List.eq_nil_or_concat ds with z | ⟨i, d, z⟩
    · rw [z] at hL
      cases hL
    · have z : ds = i ++ [d] := by rw [z, List.concat_eq_append]
      subst z
      have hi : i.length = L := by
        rw [List.length_append] at hL
        simpa using hL
      have hdk : d < k := hd d (by simp)
      cases j with
      | zero =>
        rw [Nat.sub_zero, List.drop_of_length_le (by omega)]
        rfl
      | succ j =>
        have e1 := ih i hi n j (fun x hx => hd x (by simp [hx])) (by omega)
        rw [show L + 1 - (j + 1) = L - j by omega, List.drop_append_of_le_length (by omega), e1, dval_app]
        show _ = pdg k j ((dval k n i * k + d) / k) ++ [(dval k n i * k + d) % k]
        rw [Nat.mul_comm, Nat.mul_add_div (by omega), Nat.div_eq_of_lt hdk, Nat.add_zero, Nat.mul_add_mod, Nat.mod_eq_of_lt hdk]
/-! ### the path of a label -/
structure PathOf (k : Nat) (s l : Nat → Int) (n : Int) (st : Nat) (ds : List Nat) (r : Int) : Prop where
  len : ds.length ≤ st
  on : On k s l n (st - ds.length) (dval k 0 ds)
  rest : r = n - stt k s l (st - ds.length) (dval k 0 ds)
  lt : ∀ d ∈ ds, d < k
  hd : ds = [] ∨ ∃ d t, ds = d :: t ∧ 1 ≤ d
theorem PathOf.spine {st : Nat} (h1 : stt k s l st 0 < n) (h2 : n ≤ pl k s l st 0) : PathOf k s l n st [] (n - stt k s l st 0) := ⟨Nat.zero_le _, ⟨h1, h2⟩, rfl, (fun _ h => nomatch h), .inl rfl⟩
/-- inside the branches of a stage: the node at height a on the way, v its index -/
structure Way (k : Nat) (s l : Nat → Int) (n : Int) (st a : Nat) (ds : List Nat) (r : Int) : Prop where
  len : ds.length + a = st
  lt : ∀ d ∈ ds, d < k
  hd : ∃ d t, ds = d :: t ∧ 1 ≤ d
  eq : n = stt k s l a (dval k 0 ds) + r
  r1 : 1 ≤ r
  r2 : r ≤ siz k l a
theorem Way.pos (hk : 2 ≤ k) {st a : Nat} {ds : List Nat} {r : Int} (w : Way k s l n st a ds r) : 0 < dval k 0 ds := by
  obtain ⟨d, t, rfl, h1⟩ := w.hd
  refine Nat.lt_of_lt_of_le ?_ (dval_mono (k := k) (by omega) t (0 * k + d))
  omega
theorem Way.fin (hk : 2 ≤ k) {st a : Nat} {ds : List Nat} {r : Int} (w : Way k s l n st a ds r) (hr : r ≤ l a) : PathOf k s l n st ds r := by
  have hp := w.pos hk
  have hl := w.len
  have ha : st - ds.length = a := by omega
  have he := w.eq
  have h1 := w.r1
  refine ⟨by omega, ?_, ?_, w.lt, .inr w.hd⟩
  · rw [ha]
    have := stt_pos (k := k) (s := s) (l := l) (h := a) hp
    exact ⟨by omega, by omega⟩
  · rw [ha]
    omega
theorem ediv_lt {x y z : Int} (hz : 0 < z) (h : x < y * z) : x / z < y := Int.ediv_lt_of_lt_mul hz h
theorem Way.first (hk : 2 ≤ k) (hl : ∀ j, 0 ≤ l j) (h0 : 0 < l 0) {a : Nat} {c : Int} (c0 : 0 ≤ c) (c1 : c < ((k : Int) - 1) * siz k l a) (he : n = ed k s l a + s (a + 1) + 1 + c) :
    Way k s l n (a + 1) a [(c / siz k l a + 1).toNat] (c % siz k l a + 1) ∧ ((c / siz k l a + 1).toNat : Int) = c / siz k l a + 1 := by
  have hz := sz_pos hk hl h0 a
  have q0 : 0 ≤ c / siz k l a := Int.ediv_nonneg c0 (by omega)
  have q1 : c / siz k l a < (k : Int) - 1 := ediv_lt hz c1
  have m0 := Int.emod_nonneg c (show siz k l a ≠ 0 by omega)
  have m1 := Int.emod_lt_of_pos c hz
  have hdm := Int.mul_ediv_add_emod c (siz k l a)
  obtain ⟨d, hd⟩ : ∃ d : Nat, c / siz k l a + 1 = (d : Int) := ⟨(c / siz k l a + 1).toNat, by omega⟩
  have ed' : (c / siz k l a + 1).toNat = d := by omega
  rw [ed']
  refine ⟨⟨by show 1 + a = a + 1; omega, fun x hx => ?_, ⟨d, [], rfl, by omega⟩, ?_, by omega, by omega⟩, hd.symm⟩
  · rw [List.mem_singleton.mp hx]
    omega
  · show n = stt k s l a (0 * k + d) + _
    rw [Nat.zero_mul, Nat.zero_add, stt_top hk a (by omega) (by omega)]
    have e : (d : Int) - 1 = c / siz k l a := by omega
    rw [e, Int.mul_comm]
    omega
theorem Way.next (hk : 2 ≤ k) (hl : ∀ j, 0 ≤ l j) (h0 : 0 < l 0) {st a : Nat} {ds : List Nat} {r : Int} (w : Way k s l n st a ds r) (hr : l a < r) :
    ∃ a', a = a' + 1 ∧ Way k s l n st a' (ds ++ [((r - l a - 1) / siz k l a').toNat]) ((r - l a - 1) % siz k l a' + 1) ∧ (((r - l a - 1) / siz k l a').toNat : Int) = (r - l a - 1) / siz k l a' := by
  cases a with
  | zero =>
    have := w.r2
    have e : siz k l 0 = l 0 := rfl
    omega
  | succ a =>
    refine ⟨a, rfl, ?_⟩
    have hz := sz_pos hk hl h0 a
    have hsz : siz k l (a + 1) = l (a + 1) + k * siz k l a := rfl
    have r2 := w.r2
    have hc1 : r - l (a + 1) - 1 < (k : Int) * siz k l a := by omega
    obtain ⟨c, hc, c0⟩ : ∃ c, r - l (a + 1) - 1 = c ∧ 0 ≤ c := ⟨_, rfl, by omega⟩
    rw [hc] at hc1 ⊢
    have q0 : 0 ≤ c / siz k l a := Int.ediv_nonneg c0 (by omega)
    have q1 : c / siz k l a < (k : Int) := ediv_lt hz hc1
    have m0 := Int.emod_nonneg c (show siz k l a ≠ 0 by omega)
    have m1 := Int.emod_lt_of_pos c hz
    have hdm := Int.mul_ediv_add_emod c (siz k l a)
    obtain ⟨d, hd⟩ : ∃ d : Nat, c / siz k l a = (d : Int) := ⟨(c / siz k l a).toNat, by omega⟩
    have ed' : (c / siz k l a).toNat = d := by omega
    rw [ed']
    have hlen := w.len
    refine ⟨⟨by rw [List.length_append]; show ds.length + 1 + a = st; omega, fun x hx => ?_, ?_, ?_, by omega, by omega⟩, hd.symm⟩
    · rcases List.mem_append.mp hx with z | z
      · exact w.lt x z
      · rw [List.mem_singleton.mp z]
        omega
    · obtain ⟨x, t, rfl, h1⟩ := w.hd
      exact ⟨x, t ++ [d], rfl, h1⟩
    · rw [dval_app]
      show n = stt k s l a (dval k 0 ds * k + d) + _
      rw [stt_dig hk a (w.pos hk) (by omega), w.eq]
      rw [← hd, Int.mul_comm]
      omega
end
end Sm
namespace K14
open PySem L2 Ab GenW Sm
section
variable {P : Program} {w : World} {K : PySem.W.Frag} {mg : Str → Option Value} {base : Heap} {k : Nat} {f C CN CS CB : Addr}
/-! ### paths -/
abbrev OnS (S : Sc) (n : Int) (h b : Nat) : Prop := On S.a.toNat (item S.sp) (item S.lv) n h b
abbrev PathS (S : Sc) (n : Int) (st : Nat) (ds : List Nat) (r : Int) : Prop := PathOf S.a.toNat (item S.sp) (item S.lv) n st ds r
abbrev WayS (S : Sc) (n : Int) (st a : Nat) (ds : List Nat) (r : Int) : Prop := Way S.a.toNat (item S.sp) (item S.lv) n st a ds r
abbrev dgT (ds : List Nat) : Val := .tup ((ds.map Int.ofNat).map .int)
abbrev paV (st : Nat) (ds : List Nat) (r : Int) : Val := .tup [.int (st : Int), dgT ds, .int r]
theorem szS_8000 {S : Sc} (hS : GoodS S) {a : Nat} (ha : a ≤ 2300) : (szS S a).natAbs < 2 ^ 8000 := by
  have h1 := siz_le9 hS.k9 hS.l0 (fun j => (hS.ll.item j).2) a
  have h2 : 0 < szS S a := sz_pos hS.k2 hS.l0 hS.lp a
  have h3 : (9 : Nat) ^ a ≤ 9 ^ 2300 := Nat.pow_le_pow_right (by decide) ha
  have h4 : 2000000 * (9 : Nat) ^ 2300 < 2 ^ 8000 := by decide +kernel
  have h5 : szS S a + 1000000 ≤ 2000000 * ((9 ^ a : Nat) : Int) := h1
  generalize (9 : Nat) ^ 2300 = p at *
  generalize (2 : Nat) ^ 8000 = q at *
  generalize (9 : Nat) ^ a = r at *
  omega
def aPin (C : Addr) : ASp := fun ds M R => ∃ (S : Sc) (a : Nat) (n c : Int), ds = [scV C S, .lst ((upL (szS S) a).map .int), .int ((a + 1 : Nat) : Int), .int c] ∧ GoodS S ∧ a ≤ 2300 ∧ 0 ≤ c ∧ c < ((S.a.toNat : Int) - 1) * szS S a ∧ n = edS S a + item S.sp (a + 1) + 1 + c ∧ ∀ x r, PathS S n (a + 1) x r → R (paV (a + 1) x r) M
theorem b_path_inside (B : Bt mg) (T : Rs K mg C) (Q : Sm2 P w K mg base C) : BodyOk P w K mg base 3 f n_path_inside "path_inside" (defScope s_path_inside) (defBody s_path_inside) (aPin C) := by
  rintro cdv A outer s0 H E hr ds M R ⟨S, a, n, c, rfl, hS, ha, c0, c1, he, hp⟩
  have k2 := hS.k2
  have hul := up_len (g := szS S) (n := a)
  have hz : ∀ b, 0 < szS S b := fun b => sz_pos k2 hS.l0 hS.lp b
  have up : ∀ b : Nat, b ≤ a → at0 (upL (szS S) a) (b : Int) = szS S b := fun b hb => by rw [up_at (by omega) (by omega), Int.toNat_natCast]
  obtain ⟨hw, hw2⟩ := Way.first (s := item S.sp) (l := item S.lv) (n := n) k2 hS.l0 hS.lp c0 c1 he
  have ix : ∀ {Γ : Gam} {M : Mem} {e1 e2 : Expr} {pos : Pos} {b : Nat}, b ≤ a → aV (bcx P w K mg base n_path_inside "path_inside" (defScope s_path_inside) f cdv A outer s0 H E) e1 Γ M (.lst ((upL (szS S) a).map .int)) → aV (bcx P w K mg base n_path_inside "path_inside" (defScope s_path_inside) f cdv A outer s0 H E) e2 Γ M (.int (b : Int)) → PlainIx e2 → aV (bcx P w K mg base n_path_inside "path_inside" (defScope s_path_inside) f cdv A outer s0 H E) (.Subscript e1 e2 pos) Γ M (.int (szS S b)) := fun hb h1 h2 h3 => by
    rw [← up _ hb]
    exact av_ixL h1 h2 (.self _) (atI_int (by omega) (by rw [hul]; omega)) h3
  refine as_cons (as_setv (d := .int (a : Int)) 4 q_path_inside.nd ?_ ?_)
  · rw [show (a : Int) = ((a + 1 : Nat) : Int) - 1 by omega]
    exact av_sub (v_ 2) i_
  refine as_cons (as_par 5 6 q_path_inside.nd rfl (by decide) (aa_cons (ae_lstC (aa_cons ((av_add (av_fdivU (v_ 3) (ix (Nat.le_refl _) (v_ 1) (v_ 4) fun _ _ => rfl) (cdw (hz a) (szS_8000 hS ha))) i_).val (aa_nil ⟨szb, fun q => aa_cons ((av_add (av_mod (v_ 3) (ix (Nat.le_refl _) (v_ 1) (v_ 4) fun _ _ => rfl) (hz a)) i_).val (aa_nil ⟨_, _, rfl, ?_⟩))⟩))))))
  have e0 : c / szS S a + 1 = (((c / szS S a + 1).toNat : Nat) : Int) := hw2.symm
  rw [e0]
  refine as_cons (as_whileW (fun m Γ M' => ∃ (x : List Nat) (r b : Int), WayS S n (a + 1) m x r ∧ M' = (q, .lst ((x.map Int.ofNat).map .int)) :: M ∧ Γ = [some (scV C S), some (.lst ((upL (szS S) a).map .int)), some (.int ((a + 1 : Nat) : Int)), some (.int b), some (.int (m : Int)), some (.ptr q), some (.int r)]) a PassesOwn.never ⟨_, _, ⟨_, _, c, hw, rfl, rfl⟩, (by repeat' first | exact le_nil | refine le_skip ?_ | refine le_keep rfl ?_), (by repeat' first | exact List.Sublist.refl _ | exact List.sublist_append_right _ _ | apply List.Sublist.cons₂ | apply List.Sublist.cons)⟩ ?_)
  rintro m Γ M' ⟨x, r, b, w, rfl, rfl⟩
  have hma : m ≤ a := by
    have := w.len
    have : 1 ≤ x.length := by
      obtain ⟨d, t, rfl, _⟩ := w.hd
      simp
    omega
  have hxl : x.length ≤ a + 1 := by have := w.len; omega
  have lv : ∀ {Γ : Gam} {M : Mem} {e1 e2 : Expr} {pos apos : Pos}, True := fun {_ _ _ _ _ _} => trivial
  refine ⟨_, tp_cmp (v_ 6) (av_la T Q hr (by decide) (v_ 0) (v_ 4) hS (i := (m : Int)) (by omega)) cp_gt, fun hc => ?_, fun hc => ?_⟩
  · have hc : item S.lv m < r := hc
    obtain ⟨m', rfl, w', hd⟩ := w.next k2 hS.l0 hS.lp hc
    refine as_cons (as_setv (d := .int (r - item S.lv (m' + 1) - 1)) 3 q_path_inside.nd (av_sub (av_sub (v_ 6) (av_la T Q hr (by decide) (v_ 0) (v_ 4) hS (i := ((m' + 1 : Nat) : Int)) (by omega))) i_) ?_)
    refine as_cons (as_setv (d := .int (m' : Int)) 4 q_path_inside.nd ?_ ?_)
    · rw [show (m' : Int) = ((m' + 1 : Nat) : Int) - 1 by omega]
      exact av_sub (v_ 4) i_
    refine as_cons (as_expr (ae_append (n0 := 0) (v_ 5) rfl ((av_fdivU (v_ 3) (ix (by omega) (v_ 1) (v_ 4) fun _ _ => rfl) (cdw (hz m') (szS_8000 hS (by omega)))).val ⟨0, _, rfl, szl (by rw [List.length_map, List.length_map]; omega), ?_⟩)))
    refine as_one (as_setv 6 q_path_inside.nd (av_add (av_mod (v_ 3) (ix (by omega) (v_ 1) (v_ 4) fun _ _ => rfl) (hz m')) i_) ?_)
    refine ⟨_, _, ⟨m', by omega, _, _, _, w', ?_, rfl⟩, (by repeat' first | exact le_nil | refine le_skip ?_ | refine le_keep rfl ?_), (by repeat' first | exact List.Sublist.refl _ | exact List.sublist_append_right _ _ | apply List.Sublist.cons₂ | apply List.Sublist.cons)⟩
    rw [List.map_append, List.map_append]
    show (q, Cell.lst (_ ++ [Val.int ((r - item S.lv (m' + 1) - 1) / szS S m')])) :: M = (q, Cell.lst (_ ++ [Val.int (((r - item S.lv (m' + 1) - 1) / siz S.a.toNat (item S.lv) m').toNat : Nat)])) :: M
    rw [hd]
    rfl
  · have hc : ¬ item S.lv m < r := hc
    have hpath := w.fin k2 (by omega)
    refine as_one (as_ret ((av_tup (avs_cons (v_ 2) (avs_cons (av_tuple B.tuple (v_ 5) (.l (.lst 0 rfl))) (avs_cons (v_ 6) avs_nil))) szb).val (.drop (.ok (hp x r hpath)))))
abbrev GPin (P : Program) (w : World) (K : PySem.W.Frag) (mg : Str → Option Value) (base : Heap) (C : Addr) : Prop := Gd P w K mg base 4 "path_inside" [] fun ds _ => aPin C ds
/-! ### path_of -/
def aPth (C : Addr) : ASp := fun ds M R => ∃ (S : Sc) (n : Int), ds = [scV C S, .int n] ∧ GoodS S ∧ 1 ≤ n ∧ n < 2 ^ 2000 ∧ ∀ st x r, st ≤ 2010 → PathS S n st x r → R (paV st x r) M
theorem b_path_of (B : Bt mg) (T : Rs K mg C) (Q : Sm2 P w K mg base C) (PA : PrA P w K mg base C) (GI : GPin P w K mg base C) : BodyOk P w K mg base 4 f n_path_of "path_of" (defScope s_path_of) (defBody s_path_of) (aPth C) := by
  rintro cdv A outer s0 H E hr ds M R ⟨S, n, rfl, hS, n1, n2, hp⟩
  have a2 := hS.a2
  have a9 := hS.a9
  have k2 := hS.k2
  have ea : S.a = (S.a.toNat : Int) := by omega
  have hz : ∀ b, 0 < szS S b := fun b => sz_pos k2 hS.l0 hS.lp b
  have ed8 : ∀ t : Nat, edS S t < n → t ≤ 2001 := fun t ht => by
    cases t with
    | zero => omega
    | succ t =>
      have h1 := ed_pw (s := item S.sp) (l := item S.lv) k2 hS.s0 hS.l0 hS.lp t
      have h2 : ((2 ^ t : Nat) : Int) ≤ edS S (t + 1) := h1
      have h3 : ((2 ^ t : Nat) : Int) < 2 ^ 2000 := by omega
      have e : (2 : Int) ^ 2000 = ((2 ^ 2000 : Nat) : Int) := by rw [Int.natCast_pow]; rfl
      rw [e] at h3
      have h4 : 2 ^ t < 2 ^ 2000 := Int.ofNat_lt.mp h3
      have := (Nat.pow_lt_pow_iff_right (a := 2) (by decide)).mp h4
      omega
  refine as_cons (as_par3 2 3 4 q_path_of.nd rfl (aa_cons ((av_sa T Q hr (by decide) (v_ 0) i_ hS (by decide)).val (aa_cons (ae_lstC (aa_cons ((av_la T Q hr (by decide) (v_ 0) i_ hS (by decide)).val (aa_nil ⟨szb, fun q => aa_cons (i_.val (aa_nil ⟨_, _, _, rfl, ?_⟩))⟩)))))))) 
  have e00 : edS S 0 = item S.sp (0 : Int).toNat := rfl
  rw [← e00]
  refine as_cons (as_ifp (tp_cmp (v_ 1) (v_ 2) cp_le) (fun hc => ?_) (fun hc => as_nil ?_))
  · have hc : n ≤ edS S 0 := hc
    have h0 : PathS S n 0 [] (n - stt S.a.toNat (item S.sp) (item S.lv) 0 0) := PathOf.spine (by rw [stt_00]; omega) (by rw [pl_zero]; unfold fp; rw [if_pos rfl, Int.zero_add]; exact hc)
    rw [stt_00, Int.sub_zero] at h0
    exact as_one (as_ret ((av_tup (avs_cons i_ (avs_cons (av_tup avs_nil szb) (avs_cons (v_ 1) avs_nil))) szb).val (.drop (.ok (hp 0 [] n (by decide) h0)))))
  have hc : ¬ n ≤ edS S 0 := hc
  refine as_one (as_whileL (fun m Γ M' => ∃ t : Nat, m = 2010 - t ∧ edS S t < n ∧ M' = (q, .lst ((upL (szS S) t).map .int)) :: M ∧ Γ = [some (scV C S), some (.int n), some (.int (edS S t)), some (.ptr q), some (.int (t : Int)), none]) 2010 PassesOwn.never ⟨_, ⟨0, rfl, by omega, rfl, rfl⟩, (by repeat' first | exact le_nil | refine le_skip ?_ | refine le_keep rfl ?_)⟩ ?_)
  rintro m Γ M' ⟨t, rfl, ht, rfl, rfl⟩
  have ht8 := ed8 t ht
  have hul := up_len (g := szS S) (n := t)
  refine ⟨_, tp_val av_bl, fun _ => ?_, fun h => absurd rfl h⟩
  refine as_cons (as_setv (d := .int ((t + 1 : Nat) : Int)) 4 q_path_of.nd ?_ ?_)
  · rw [show ((t + 1 : Nat) : Int) = (t : Int) + 1 by omega]
    exact av_add (v_ 4) i_
  refine as_cons (as_setv (d := .int (edS S t + item S.sp (t + 1))) 5 q_path_of.nd (av_add (v_ 2) (av_sa T Q hr (by decide) (v_ 0) (v_ 4) hS (i := ((t + 1 : Nat) : Int)) (by omega))) ?_)
  refine as_cons (as_ifp (tp_cmp (v_ 1) (v_ 5) cp_le) (fun hc2 => ?_) (fun hc2 => as_nil ?_))
  · have h0 : PathS S n (t + 1) [] (n - stt S.a.toNat (item S.sp) (item S.lv) (t + 1) 0) := PathOf.spine (by rw [stt_zero]; exact ht) (by rw [pl_stt, stt_zero]; unfold lab; rw [if_pos rfl]; exact hc2)
    rw [stt_zero] at h0
    exact as_one (as_ret ((av_tup (avs_cons (v_ 4) (avs_cons (av_tup avs_nil szb) (avs_cons (av_sub (v_ 1) (v_ 2)) avs_nil))) szb).val (.drop (.ok (hp (t + 1) [] _ (by omega) h0)))))
  have hc2 : ¬ n ≤ edS S t + item S.sp (t + 1) := hc2
  have e1 : at0 (upL (szS S) t) (((t + 1 : Nat) : Int) - 1) = szS S t := by rw [up_at (by omega) (by omega), show (((t + 1 : Nat) : Int) - 1).toNat = t by omega]
  have hix : ∀ {Γ : Gam} {e e2 : Expr} {pos : Pos}, aV (bcx P w K mg base n_path_of "path_of" (defScope s_path_of) f cdv A outer s0 H E) e Γ ((q, .lst ((upL (szS S) t).map .int)) :: M) (.ptr q) → aV (bcx P w K mg base n_path_of "path_of" (defScope s_path_of) f cdv A outer s0 H E) e2 Γ ((q, .lst ((upL (szS S) t).map .int)) :: M) (.int (((t + 1 : Nat) : Int) - 1)) → PlainIx e2 → aV (bcx P w K mg base n_path_of "path_of" (defScope s_path_of) f cdv A outer s0 H E) (.Subscript e e2 pos) Γ ((q, .lst ((upL (szS S) t).map .int)) :: M) (.int (szS S t)) := fun h1 h2 h3 => by
    rw [← e1]
    exact av_ixL h1 h2 (.lst 0 rfl) (atI_int (by omega) (by rw [hul]; omega)) h3
  refine as_cons (as_setv (d := .int (edS S (t + 1))) 2 q_path_of.nd ?_ ?_)
  · rw [← edS_step hS t]
    exact av_add (v_ 5) (av_mulU (av_sub (av_arity T PA hr (by decide) (v_ 0)) i_) (hix (v_ 3) (av_sub (v_ 4) i_) fun _ _ => rfl) (.inl (.inl ⟨by omega, by omega⟩)))
  refine as_cons (as_ifp (tp_cmp (v_ 1) (v_ 2) cp_le) (fun hc3 => ?_) (fun hc3 => as_nil ?_))
  · have hc3 : n ≤ edS S (t + 1) := hc3
    refine as_frz 3 rfl ?_
    have e5 := edS_step hS t
    rw [ea] at e5
    refine as_one (as_ret (ae_g GI hr (by decide) (aa_cons ((v_ 0).val (aa_cons ((v_ 3).val (aa_cons ((v_ 4).val (aa_cons ((av_sub (av_sub (v_ 1) (v_ 5)) i_).val (aa_nil (ak_nil ⟨rfl, S, t, n, n - (edS S t + item S.sp (t + 1)) - 1, rfl, hS, by omega, by omega, by omega, by omega, fun x r hx => .ok (hp (t + 1) x r (by omega) hx)⟩))))))))))))
  have hc3 : ¬ n ≤ edS S (t + 1) := hc3
  refine as_one (as_expr (ae_append (n0 := 0) (v_ 3) rfl (aE.val (av_add (av_la T Q hr (by decide) (v_ 0) (v_ 4) hS (i := ((t + 1 : Nat) : Int)) (by omega)) (av_mulU (av_arity T PA hr (by decide) (v_ 0)) (hix (v_ 3) (av_sub (v_ 4) i_) fun _ _ => rfl) (.inl (.inl ⟨by omega, by omega⟩)))) ⟨0, _, rfl, (szl (by rw [List.length_map, hul]; omega)), ?_⟩)))
  refine ⟨_, ⟨2010 - (t + 1), by omega, t + 1, rfl, by omega, ?_, rfl⟩, (by repeat' first | exact le_nil | refine le_skip ?_ | refine le_keep rfl ?_)⟩
  have e6 := szS_succ hS t
  show (q, Cell.lst ((upL (szS S) t).map .int ++ [.int (item S.lv (t + 1) + S.a * szS S t)])) :: M = _
  rw [e6, up_succ]
abbrev GPth (P : Program) (w : World) (K : PySem.W.Frag) (mg : Str → Option Value) (base : Heap) (C : Addr) : Prop := Gd P w K mg base 5 "path_of" [] fun ds _ => aPth C ds
/-! ### led, at, label_path, end_label -/
def aLed (C CS CB : Addr) : ASp := fun ds M R => ∃ (S : Sc) (st : Nat) (x : List Nat), ds = [scV C S, .int (st : Int), dgT x] ∧ GoodS S ∧ x.length ≤ st ∧ st ≤ 3000 ∧ R (ndV C CS CB S (st - x.length) (dval S.a.toNat 0 x)) M
theorem b_led (B : Bt mg) (T : Rs K mg C) (PA : PrA P w K mg base C) (N : NdT K mg CN CS CB) (I : NNm P w K mg base C CN CS CB) : BodyOk P w K mg base 5 f n_Node_led "Node.led" (defScope c_Node_led) (defBody c_Node_led) (aLed C CS CB) := by
  rintro cdv A outer s0 H E hr ds M R ⟨S, st, x, rfl, hS, hx, h30, hp⟩
  have a2 := hS.a2
  have a9 := hS.a9
  have ea : S.a = (S.a.toNat : Int) := by omega
  have hxl : ((x.map Int.ofNat).map Val.int).length = x.length := by rw [List.length_map, List.length_map]
  refine as_cons (as_setv (d := .int ((dval S.a.toNat 0 (x.take 0) : Nat) : Int)) 3 q_Node_led.nd i_ ?_)
  refine as_cons (as_forW PassesOwn.never rfl (aj_ai (R := fun M1 => M1 = M) (ai_tup (xs := (x.map Int.ofNat).map .int) ((v_ 2).val ⟨rfl, rfl⟩)) fun M1 e => ?_))
  subst e
  refine ⟨fun i Γ M' => M' = M1 ∧ Γ = [some (scV C S), some (.int (st : Int)), some (dgT x), some (.int ((dval S.a.toNat 0 (x.take i) : Nat) : Int)), none], ⟨_, _, ⟨rfl, rfl⟩, (by repeat' first | exact le_nil | refine le_skip ?_ | refine le_keep rfl ?_), (by repeat' first | exact List.Sublist.refl _ | exact List.sublist_append_right _ _ | apply List.Sublist.cons₂ | apply List.Sublist.cons)⟩, ?_, ?_⟩
  · rintro i Γ M' hi ⟨rfl, rfl⟩
    have hi : i < x.length := by rw [hxl] at hi; exact hi
    dsimp only
    rw [getD_int (by rw [List.length_map]; exact hi), show ((x.map Int.ofNat)[i]'(by rw [List.length_map]; exact hi)) = (x[i] : Int) by rw [List.getElem_map]; rfl]
    refine ag_name 4 q_Node_led.nd ?_
    refine as_one (as_setv (d := .int ((dval S.a.toNat 0 (x.take (i + 1)) : Nat) : Int)) 3 q_Node_led.nd ?_ ⟨_, _, ⟨rfl, rfl⟩, (by repeat' first | exact le_nil | refine le_skip ?_ | refine le_keep rfl ?_), (by repeat' first | exact List.Sublist.refl _ | exact List.sublist_append_right _ _ | apply List.Sublist.cons₂ | apply List.Sublist.cons)⟩)
    have e2 : dval S.a.toNat 0 (x.take (i + 1)) = dval S.a.toNat 0 (x.take i) * S.a.toNat + x[i] := by
      rw [List.take_succ_eq_append_getElem hi, dval_app]
      rfl
    rw [e2, Int.natCast_add, Int.natCast_mul, ← ea]
    exact av_add (av_mulU (v_ 3) (av_arity T PA hr (by decide) (v_ 0)) (.inl (.inr ⟨by omega, by omega⟩))) (v_ 4)
  · rintro Γ M' ⟨rfl, rfl⟩
    rw [hxl, List.take_length]
    refine as_one (as_ret (ae_named N I hr (by decide) ((v_ 0).val ((av_sub (v_ 1) (av_len B.len (v_ 2) .t)).val ((v_ 3).val ⟨S, st - x.length, _, rfl, ?_, rfl, by omega, .ok hp⟩)))))
    rw [hxl, show ((st - x.length : Nat) : Int) = (st : Int) - (x.length : Int) by omega]
structure NLd (P : Program) (w : World) (K : PySem.W.Frag) (mg : Str → Option Value) (base : Heap) (C CN CS CB : Addr) : Prop where
  ex : ∃ p g, SMet K CN (.type "type") "led" p g ∧ FX P w K mg base 6 g fun ds _ => aLed C CS CB ds
def aAt (C CN CS CB : Addr) : ASp := fun ds M R => ∃ (S : Sc) (n : Int), ds = [.ptr CN, scV C S, .int n] ∧ GoodS S ∧ 1 ≤ n ∧ n < 2 ^ 2000 ∧ ∀ h b, OnS S n h b → h ≤ 2010 → R (ndV C CS CB S h b) M
theorem b_at (N : NdT K mg CN CS CB) (GS : GNsc P w K mg base C) (GI : GInn P w K mg base) (GP : GPth P w K mg base C) (LD : NLd P w K mg base C CN CS CB) : BodyOk P w K mg base 6 f n_Node_at "Node.at" (defScope c_Node_at) (defBody c_Node_at) (aAt C CN CS CB) := by
  rintro cdv A outer s0 H E hr ds M R ⟨S, n, rfl, hS, n1, n2, hp⟩
  obtain ⟨p, g, sm, F⟩ := LD.ex
  refine as_cons (as_expr (ae_g GS hr (by decide) (aa_cons ((v_ 1).val (aa_nil (ak_nil ⟨rfl, S, rfl, ?_⟩))))))
  refine as_cons (as_if (at_not (at_val (ae_g GI hr (by decide) (aa_cons ((v_ 2).val (aa_cons (i_.val (aa_nil (ak_nil ⟨rfl, n, 1, rfl, true, ?_, nft, fun _ => as_nil ?_⟩))))))))))
  · rw [decide_eq_true n1]
  refine as_cons (as_asg (ae_g GP hr (by decide) (aa_cons ((v_ 1).val (aa_cons ((v_ 2).val (aa_nil (ak_nil ⟨rfl, S, n, rfl, hS, n1, n2, fun st x r hst hx => ag_tup rfl (ags_cons (ag_name 3 q_Node_at.nd (ags_cons (ag_name 4 q_Node_at.nd (ags_cons (ag_name 5 q_Node_at.nd (ags_nil ?_)))))))⟩))))))))
  exact as_one (as_ret (ae_smeth N.nc.rd sm F (hr.mono (by decide)) (v_ 0) (aa_cons ((v_ 1).val (aa_cons ((v_ 3).val (aa_cons ((v_ 4).val (aa_nil (ak_nil ⟨rfl, S, st, x, rfl, hS, hx.len, by omega, .ok (hp _ _ hx.on (by omega))⟩))))))))))
def aLpa (C : Addr) : ASp := fun ds M R => ∃ (S : Sc) (n : Int), ds = [scV C S, .int n] ∧ GoodS S ∧ 1 ≤ n ∧ n < 2 ^ 2000 ∧ ∀ st x r, st ≤ 2010 → PathS S n st x r → R (paV st x r) M
theorem b_label_path (GS : GNsc P w K mg base C) (GI : GInn P w K mg base) (GP : GPth P w K mg base C) : BodyOk P w K mg base 5 f n_label_path "label_path" (defScope s_label_path) (defBody s_label_path) (aLpa C) := by
  rintro cdv A outer s0 H E hr ds M R ⟨S, n, rfl, hS, n1, n2, hp⟩
  refine as_cons (as_expr (ae_g GS hr (by decide) (aa_cons ((v_ 0).val (aa_nil (ak_nil ⟨rfl, S, rfl, ?_⟩))))))
  refine as_cons (as_if (at_not (at_val (ae_g GI hr (by decide) (aa_cons ((v_ 1).val (aa_cons (i_.val (aa_nil (ak_nil ⟨rfl, n, 1, rfl, true, ?_, nft, fun _ => as_nil ?_⟩))))))))))
  · rw [decide_eq_true n1]
  exact as_one (as_ret (ae_g GP hr (by decide) (aa_cons ((v_ 0).val (aa_cons ((v_ 1).val (aa_nil (ak_nil ⟨rfl, S, n, rfl, hS, n1, n2, fun st x r hst hx => .ok (hp st x r hst hx)⟩))))))))
abbrev GLpa (P : Program) (w : World) (K : PySem.W.Frag) (mg : Str → Option Value) (base : Heap) (C : Addr) : Prop := Gd P w K mg base 6 "label_path" [] fun ds _ => aLpa C ds
end
end K14
namespace K14
open PySem L2 Ab Sm
/-! ### exceptions of one field -/
abbrev g1V (f : Str) (ws : List V) : List (Str × V) := [(f, ws.getD 0 .non)]
abbrev g1 (f : Str) (ds : List Val) : List (Str × Val) := [(f, ds.getD 0 .non)]
theorem g1_rel {K : PySem.W.Frag} {f : Str} : ∀ H ds vs, RepA K H ds vs → ds.length = 1 → RepF K H (g1 f ds) (g1V f vs)
  | H, [d], _, .cons r .nil, _ => .cons r .nil
/-- what stands behind a class for its base's __init__ -/
structure XBase (K : PySem.W.Frag) (mg : Str → Option Value) (xb : Str) (initId : String) : Prop where
  ex : ∃ C0, ClX.CRead K C0 (.type "type") ∧ PySem.W.findCls K (.ref C0) (.type "type") "__init__" = some (.val (.builtin initId)) ∧ mg xb = some (.ref C0)
  hh : PySem.W.handedIn (.builtin initId) = true
section
variable {P : Program} {w : World} {K : PySem.W.Frag} {mg : Str → Option Value} {base : Heap} {k : Nat} {f C : Addr} {fd : FuncData} {B newId initId : String} {tl : List Value}
theorem xi_InvalidSchedule {kws : List (Str × V)} (F : FunD K "__init__" "InvalidSchedule.__init__" (defArgs c_InvalidSchedule___init__) (defBody c_InvalidSchedule___init__) (defScope c_InvalidSchedule___init__) [] kws f fd) (T : XCl K C B newId initId tl) (XB : XBase K mg "ScheduleError" initId) (hno : PySem.W.findIn K (.ref C) "part" = some none) : FnX P w K mg base 1 f [] (SpI C (g1V "part") 1) := by
  obtain ⟨C0, r, fv, mx⟩ := XB.ex
  refine (fnx_raw (sp := fun vs H Q => SpI C (g1V "part") 1 vs [] H Q) F q_InvalidSchedule___init__ (fun _ _ _ _ _ _ us hl => match us, hl with | [_, _], _ => rfl) fun cdv A outer s H hr mod vs Q h => ?_).weak fun vs zs H Q h => ⟨?_, h⟩
  · obtain ⟨a, ws, rfl, hl, ha, hq⟩ := h
    obtain ⟨y, rfl⟩ : ∃ y, ws = [y] := by
      match ws, hl with
      | [y], _ => exact ⟨y, rfl⟩
    refine ⟨_, pss_cons (ps_expr (px_init (B := B) (newId := newId) (initId := initId) (tl := tl) XB.hh r fv rfl mx (pa_cons (pv 0) (pa_cons pe_str pa_nil)))) (pss_one (qx_set (B := B) (newId := newId) (initId := initId) (tl := tl) (pv 0) (pv 1))), ?_⟩
    exact ⟨.ref a, rfl, a, C, _, rfl, by decide, T, ha, y, rfl, .ref a, rfl, a, C, rfl, T, hno, .inl ⟨ha, fun dx h1 h2 => hq dx h1 h2⟩⟩
  · obtain ⟨a, ws, rfl, hl, _⟩ := h
    show ws.length + 1 = 2
    omega
theorem xi_InvalidNumber {kws : List (Str × V)} (F : FunD K "__init__" "InvalidNumber.__init__" (defArgs c_InvalidNumber___init__) (defBody c_InvalidNumber___init__) (defScope c_InvalidNumber___init__) [] kws f fd) (T : XCl K C B newId initId tl) (XB : XBase K mg "ScheduleError" initId) (hno : PySem.W.findIn K (.ref C) "number" = some none) : FnX P w K mg base 1 f [] (SpI C (g1V "number") 1) := by
  obtain ⟨C0, r, fv, mx⟩ := XB.ex
  refine (fnx_raw (sp := fun vs H Q => SpI C (g1V "number") 1 vs [] H Q) F q_InvalidNumber___init__ (fun _ _ _ _ _ _ us hl => match us, hl with | [_, _], _ => rfl) fun cdv A outer s H hr mod vs Q h => ?_).weak fun vs zs H Q h => ⟨?_, h⟩
  · obtain ⟨a, ws, rfl, hl, ha, hq⟩ := h
    obtain ⟨y, rfl⟩ : ∃ y, ws = [y] := by
      match ws, hl with
      | [y], _ => exact ⟨y, rfl⟩
    refine ⟨_, pss_cons (ps_expr (px_init (B := B) (newId := newId) (initId := initId) (tl := tl) XB.hh r fv rfl mx (pa_cons (pv 0) (pa_cons pe_str pa_nil)))) (pss_one (qx_set (B := B) (newId := newId) (initId := initId) (tl := tl) (pv 0) (pv 1))), ?_⟩
    exact ⟨.ref a, rfl, a, C, _, rfl, by decide, T, ha, y, rfl, .ref a, rfl, a, C, rfl, T, hno, .inl ⟨ha, fun dx h1 h2 => hq dx h1 h2⟩⟩
  · obtain ⟨a, ws, rfl, hl, _⟩ := h
    show ws.length + 1 = 2
    omega
theorem xi_InvalidCertificate {kws : List (Str × V)} (F : FunD K "__init__" "InvalidCertificate.__init__" (defArgs c_InvalidCertificate___init__) (defBody c_InvalidCertificate___init__) (defScope c_InvalidCertificate___init__) [] kws f fd) (T : XCl K C B newId initId tl) (XB : XBase K mg "ScheduleError" initId) (hno : PySem.W.findIn K (.ref C) "part" = some none) : FnX P w K mg base 1 f [] (SpI C (g1V "part") 1) := by
  obtain ⟨C0, r, fv, mx⟩ := XB.ex
  refine (fnx_raw (sp := fun vs H Q => SpI C (g1V "part") 1 vs [] H Q) F q_InvalidCertificate___init__ (fun _ _ _ _ _ _ us hl => match us, hl with | [_, _], _ => rfl) fun cdv A outer s H hr mod vs Q h => ?_).weak fun vs zs H Q h => ⟨?_, h⟩
  · obtain ⟨a, ws, rfl, hl, ha, hq⟩ := h
    obtain ⟨y, rfl⟩ : ∃ y, ws = [y] := by
      match ws, hl with
      | [y], _ => exact ⟨y, rfl⟩
    refine ⟨_, pss_cons (ps_expr (px_init (B := B) (newId := newId) (initId := initId) (tl := tl) XB.hh r fv rfl mx (pa_cons (pv 0) (pa_cons pe_str pa_nil)))) (pss_one (qx_set (B := B) (newId := newId) (initId := initId) (tl := tl) (pv 0) (pv 1))), ?_⟩
    exact ⟨.ref a, rfl, a, C, _, rfl, by decide, T, ha, y, rfl, .ref a, rfl, a, C, rfl, T, hno, .inl ⟨ha, fun dx h1 h2 => hq dx h1 h2⟩⟩
  · obtain ⟨a, ws, rfl, hl, _⟩ := h
    show ws.length + 1 = 2
    omega
end
end K14
namespace K14
open PySem L2 Ab Sm
/-! ### the law's streams of draws: a dict -/
def stD (cs : List Int) (t y : Int) : Cell := .dk [(.inr "cells", .lst (cs.map .int)), (.inr "at", .int t), (.inr "left", .int y)]
theorem stD_inj {cs cs' : List Int} {t y t' y' : Int} (h : stD cs t y = stD cs' t' y') : t = t' := by
  unfold stD at h
  injection h with h
  injection h with h
  injection h with h1 h
  injection h with h2 h
  have := congrArg Prod.snd h2
  simpa using this
/-- the stream's cell stands at place i; its count is at most N -/
def SD (M : Mem) (i : Nat) (a : Addr) (N : Nat) : Prop := ∃ cs t y, M[i]? = some (a, stD cs t y) ∧ cs ≠ [] ∧ cs.length ≤ 1000 ∧ 0 ≤ t ∧ t ≤ (N : Int)
def Dq (i : Nat) (a : Addr) (c : Nat) (M M' : Mem) : Prop := ∃ cs t y cs' t' y', M[i]? = some (a, stD cs t y) ∧ M' = M.set i (a, stD cs' t' y') ∧ (cs ≠ [] → cs' ≠ []) ∧ (cs.length ≤ 1000 → cs'.length ≤ 1000) ∧ (0 ≤ t → 0 ≤ t') ∧ t' ≤ t + (c : Int)
theorem SD.dq {M M' : Mem} {i : Nat} {a : Addr} {N c : Nat} (h : SD M i a N) (d : Dq i a c M M') : SD M' i a (N + c) := by
  obtain ⟨cs, t, y, hm, hne, hl, h0, h1⟩ := h
  obtain ⟨cs1, t1, y1, cs2, t2, y2, hm1, rfl, f1, f2, g0, g1⟩ := d
  rw [hm] at hm1
  have e := (Prod.mk.inj (Option.some.inj hm1)).2
  have et := stD_inj e
  have ec : cs = cs1 := by
    unfold stD at e
    injection e with e
    injection e with e
    injection e with e1 e
    have e2 := congrArg Prod.snd e1
    have e3 : cs.map Val.int = cs1.map Val.int := by simpa using e2
    exact (List.map_inj_right (fun a b h => by injection h)).mp e3
  subst et ec
  exact ⟨cs2, t2, y2, List.getElem?_set_self (List.getElem?_eq_some_iff.mp hm).1, f1 hne, f2 hl, g0 h0, by omega⟩
theorem Dq.trans {M M' M'' : Mem} {i : Nat} {a : Addr} {c e : Nat} (d : Dq i a c M M') (d' : Dq i a e M' M'') : Dq i a (c + e) M M'' := by
  obtain ⟨cs1, t1, y1, cs2, t2, y2, hm1, rfl, f1, f2, g0, g1⟩ := d
  obtain ⟨cs3, t3, y3, cs4, t4, y4, hm3, rfl, f3, f4, g2, g3⟩ := d'
  rw [List.getElem?_set_self (List.getElem?_eq_some_iff.mp hm1).1] at hm3
  have e := (Prod.mk.inj (Option.some.inj hm3)).2
  have et := stD_inj e
  have ec : cs2 = cs3 := by
    unfold stD at e
    injection e with e
    injection e with e
    injection e with e1 e
    have e2 := congrArg Prod.snd e1
    have e3 : cs2.map Val.int = cs3.map Val.int := by simpa using e2
    exact (List.map_inj_right (fun a b h => by injection h)).mp e3
  subst et ec
  exact ⟨cs1, t1, y1, cs4, t4, y4, hm1, by rw [List.set_set], fun h => f3 (f1 h), fun h => f4 (f2 h), fun h => g2 (g0 h), by omega⟩
theorem Dq.mono {M M' : Mem} {i : Nat} {a : Addr} {c e : Nat} (d : Dq i a c M M') (h : c ≤ e) : Dq i a e M M' := by
  obtain ⟨cs1, t1, y1, cs2, t2, y2, hm1, e1, f1, f2, g0, g1⟩ := d
  exact ⟨cs1, t1, y1, cs2, t2, y2, hm1, e1, f1, f2, g0, by omega⟩
theorem SD.refl {M : Mem} {i : Nat} {a : Addr} {N : Nat} (h : SD M i a N) : Dq i a 0 M M := by
  obtain ⟨cs, t, y, h, _⟩ := h
  exact ⟨cs, t, y, cs, t, y, h, (set_id h).symm, fun h => h, fun h => h, fun h => h, by omega⟩
theorem SD.cons {M : Mem} {i : Nat} {a : Addr} {N : Nat} {c : Addr × Cell} (h : SD M i a N) : SD (c :: M) (i + 1) a N := h
theorem Dq.cons {M M' : Mem} {i : Nat} {a : Addr} {e : Nat} {c : Addr × Cell} (h : Dq (i + 1) a e (c :: M) M') : ∃ M'', M' = c :: M'' ∧ Dq i a e M M'' := by
  obtain ⟨x1, t1, y1, x2, t2, y2, hm1, rfl, g⟩ := h
  exact ⟨_, rfl, x1, t1, y1, x2, t2, y2, hm1, rfl, g⟩
section
variable {P : Program} {w : World} {K : PySem.W.Frag} {mg : Str → Option Value} {base : Heap} {k : Nat} {f C C2 : Addr}
/-! ### _law_next -/
def aNxt : ASp := fun ds M R => ∃ (a : Addr) (i N : Nat) (n : Int), ds = [.ptr a, .int n] ∧ SD M i a N ∧ N ≤ 1000000 ∧ 0 < n ∧ n.natAbs < 2 ^ 8000 ∧ ∀ v M', 0 ≤ v → v < n → Dq i a 1 M M' → R (.int v) M'
abbrev GNx (P : Program) (w : World) (K : PySem.W.Frag) (mg : Str → Option Value) (base : Heap) : Prop := Gd P w K mg base 1 "_law_next" [] fun ds _ => aNxt ds
theorem ae_next {X : Cx} {Γ : Gam} {M : Mem} {R : Val → Mem → Prop} {a b : Expr} {p1 pos : Pos} {n : Int} {p : Addr} {i m N : Nat} (D : GNx X.prog X.w X.K X.mg X.base) (hr : Rm m X.A) (hm : 1 ≤ m) (ha : aV X a Γ M (.ptr p)) (hb : aV X b Γ M (.int n)) (hs : SD M i p N) (hN : N ≤ 1000000) (h0 : 0 < n) (h1 : n.natAbs < 2 ^ 8000)
    (h : ∀ v M', 0 ≤ v → v < n → Dq i p 1 M M' → R (.int v) M') (hg : Gl X "_law_next" := by rfl)
    (he : starEach [a, b] X.env = [(false, eval a X.env), (false, eval b X.env)] := by rfl) (he2 : starEach [b] X.env = [(false, eval b X.env)] := by rfl) : aE X (.Call (.Name "_law_next" p1) [a, b] [] pos) Γ M R :=
  ae_g D hr hm (aa_cons (ha.val (aa_cons (hb.val (aa_nil (ak_nil ⟨rfl, p, i, N, n, rfl, hs, hN, h0, h1, h⟩))) (by rw [he2]; rfl))) (by rw [he, he2])) hg rfl rfl (he := by rw [he, he2]) (hpl := by rw [he]; rfl)
/-! ### _law_raised -/
/-! ### _law_huge -/
end
end K14
namespace K14
open PySem L2 Ab Sm
/-- a short stream -/
structure Sq3 (lo : Int) (s : Stm) : Prop where
  sq : Seq lo s
  a1 : ∀ v ∈ s.1, v ≤ 3
  a2 : ∀ v ∈ s.2, v ≤ 3
  l3 : s.1.length ≤ 3
theorem Sq3.it {lo : Int} {s : Stm} (h : Sq3 lo s) (i : Nat) : item s i ≤ 3 := by
  rcases item_mem h.sq.ne i with z | z
  · exact h.a1 _ z
  · exact h.a2 _ z
theorem sq3_bs {a : Int} {s l : Stm} (a2 : 2 ≤ a) (a9 : a ≤ 9) (hs : Sq3 0 s) (hl : Sq3 1 l) : Bs 3 ⟨a, nf s, nf l⟩ := by
  have h := seq_bs a2 a9 hs.sq hl.sq
  exact ⟨h.g, h.p1, h.p2, fun i => by show item (nf s) i ≤ 3; rw [(nf_spec hs.sq.ne).it]; exact hs.it i, fun i => by show item (nf l) i ≤ 3; rw [(nf_spec hl.sq.ne).it]; exact hl.it i⟩
section
variable {P : Program} {w : World} {K : PySem.W.Frag} {mg : Str → Option Value} {base : Heap} {k : Nat} {f C C2 : Addr}
/-! ### _law_random_stream -/
def aRst : ASp := fun ds M R => ∃ (p : Addr) (i N : Nat) (lo : Int), ds = [.ptr p, .int lo] ∧ SD M i p N ∧ N ≤ 900000 ∧ 0 ≤ lo ∧ lo ≤ 1 ∧ ∀ s M', Sq3 lo s → Dq i p 9 M M' → R (stV s) M'
theorem max_sm3 {lo v : Int} (h0 : 0 ≤ lo) (h1 : lo ≤ 1) (v0 : 0 ≤ v) (v3 : v ≤ 3) : (sm (max v lo) ∧ max v lo ≤ 3) ∧ lo ≤ max v lo := by
  unfold sm
  omega
/-! ### _law_streams -/
/-- the streams' cells -/
def Sts (M : Mem) (ps : List Addr) (N : Nat) : Prop := ∀ (j : Nat) (p : Addr), ps[j]? = some p → SD M j p N
def aSts : ASp := fun ds M R => ∃ ns : List Int, ds = [.lst (ns.map .int)] ∧ ns.length ≤ 63 ∧ ∀ (ps : List Addr) (Ds : Mem), ps ≠ [] → ps.length ≤ 6 → Ds.length = ps.length → Sts Ds ps 600 → R (.lst (ps.map .ptr)) (Ds ++ M)
abbrev GSts (P : Program) (w : World) (K : PySem.W.Frag) (mg : Str → Option Value) (base : Heap) : Prop := Gd P w K mg base 1 "_law_streams" [] fun ds _ => aSts ds
end
end K14
namespace K14
open PySem L2 Ab Sm
/-! ### the draws of stage 4: a dict in a box -/
def d4 (x y t : Int) : List (Key × Val) := [(.inr "left", .int x), (.inr "folded", .int y), (.inr "step", .int t)]
section
variable {P : Program} {w : World} {K : PySem.W.Frag} {mg : Str → Option Value} {base : Heap} {k : Nat} {f C C2 : Addr}
def sm4 (v : Int) : Prop := 0 ≤ v ∧ v ≤ 29
/-- a small stream of draws -/
structure Sg4 (s : Stm) : Prop where
  l1 : s.1.length ≤ 4
  l2 : s.2.length ≤ 3
  ne : s.2 ≠ []
  a1 : ∀ v ∈ s.1, sm4 v
  a2 : ∀ v ∈ s.2, sm4 v
theorem Sg4.lim {s : Stm} (h : Sg4 s) : Lim s := ⟨by have := h.l1; omega, by have := h.l2; omega, h.ne, fun v hv => ⟨(h.a1 v hv).1, by have := (h.a1 v hv).2; omega⟩, fun v hv => ⟨(h.a2 v hv).1, by have := (h.a2 v hv).2; omega⟩⟩
theorem Sg4.item {s : Stm} (h : Sg4 s) (i : Nat) : sm4 (item s i) := by
  rcases item_mem h.ne i with z | z
  · exact h.a1 _ z
  · exact h.a2 _ z
/-! ### _law_item -/
end
end K14
namespace K14
open PySem L2 Ab Sm
/-! ### the streams of draws in boxes -/
def st3 (p : Addr) (N : Nat) : Cell := .box fun B => ∃ (cs : List Int) (t y : Int), B = [(p, .dk [(.inr "cells", .lst (cs.map .int)), (.inr "at", .int t), (.inr "left", .int y)])] ∧ cs ≠ [] ∧ cs.length ≤ 1000 ∧ 0 ≤ t ∧ t ≤ (N : Int)
theorem sd_open {p : Addr} {N : Nat} {B : Mem0} {M : Mem} (h : ∃ (cs : List Int) (t y : Int), B = [(p, .dk [(.inr "cells", .lst (cs.map .int)), (.inr "at", .int t), (.inr "left", .int y)])] ∧ cs ≠ [] ∧ cs.length ≤ 1000 ∧ 0 ≤ t ∧ t ≤ (N : Int)) : SD (bs B ++ M) 0 p N := by
  obtain ⟨cs, t, y, rfl, h1, h2, h3, h4⟩ := h
  exact ⟨cs, t, y, rfl, h1, h2, h3, h4⟩
theorem sd_close {p : Addr} {N : Nat} {M : Mem} (h : SD M 0 p N) : ∃ B M2, M = bs B ++ M2 ∧ p ∈ B.map (·.1) ∧ ∃ (cs : List Int) (t y : Int), B = [(p, .dk [(.inr "cells", .lst (cs.map .int)), (.inr "at", .int t), (.inr "left", .int y)])] ∧ cs ≠ [] ∧ cs.length ≤ 1000 ∧ 0 ≤ t ∧ t ≤ (N : Int) := by
  obtain ⟨cs, t, y, h1, h2, h3, h4, h5⟩ := h
  cases M with
  | nil => cases h1
  | cons x M =>
    cases h1
    exact ⟨_, M, rfl, List.mem_cons_self, cs, t, y, rfl, h2, h3, h4, h5⟩
theorem sd_tail {p : Addr} {N c : Nat} {B : Mem0} {E M' : Mem} (h : ∃ (cs : List Int) (t y : Int), B = [(p, .dk [(.inr "cells", .lst (cs.map .int)), (.inr "at", .int t), (.inr "left", .int y)])] ∧ cs ≠ [] ∧ cs.length ≤ 1000 ∧ 0 ≤ t ∧ t ≤ (N : Int)) (d : Dq 0 p c (bs B ++ E) M') :
    ∃ B', M' = bs B' ++ E ∧ (∃ (cs : List Int) (t y : Int), B' = [(p, .dk [(.inr "cells", .lst (cs.map .int)), (.inr "at", .int t), (.inr "left", .int y)])] ∧ cs ≠ [] ∧ cs.length ≤ 1000 ∧ 0 ≤ t ∧ t ≤ ((N + c : Nat) : Int)) ∧ p ∈ B'.map (·.1) := by
  have hs := (sd_open (M := E) h).dq d
  obtain ⟨cs0, t0, y0, rfl, _⟩ := h
  obtain ⟨cs1, t1, y1, cs2, t2, y2, hm, rfl, _⟩ := d
  obtain ⟨cs, t, y, h1, h2, h3, h4, h5⟩ := hs
  have e : (p, stD cs2 t2 y2) = (p, stD cs t y) := Option.some.inj h1
  have e2 : stD cs2 t2 y2 = stD cs t y := (Prod.mk.inj e).2
  refine ⟨[(p, .dk [(.inr "cells", .lst (cs.map .int)), (.inr "at", .int t), (.inr "left", .int y)])], ?_, ⟨cs, t, y, rfl, h2, h3, h4, h5⟩, List.mem_cons_self⟩
  show (p, stD cs2 t2 y2) :: E = (p, stD cs t y) :: E
  rw [e2]
section
variable {P : Program} {w : World} {K : PySem.W.Frag} {mg : Str → Option Value} {base : Heap} {k : Nat} {f C C2 : Addr}
/-- a promise over a stream, told over its box -/
theorem gd_box3 {n : Nat} {x : Str} {s s' : ASp} (G : Gd P w K mg base n x [] fun ds _ => s ds)
    (h : ∀ ds M R, s' ds M R → ∃ (i : Nat) (p : Addr) (N : Nat), M[i]? = some (p, st3 p N) ∧ ∀ M1, SD M1 0 p N → s ds M1 fun d M' => ∃ c, Dq 0 p c M1 M' ∧ R d (M.set i (p, st3 p (N + c)))) : Gd P w K mg base n x [] fun ds _ => s' ds := by
  obtain ⟨f, F, hm, hk⟩ := G.ex
  refine ⟨f, F.weak fun vs zs H Q ⟨Hi, M, ds, es, R, r1, r2, ok, hs, q⟩ => ?_, hm, hk⟩
  obtain ⟨i, p, N, hi, hr⟩ := h ds M R hs
  obtain ⟨B, h1, h2, ok'⟩ := ok.opn hi
  refine ⟨Hi, bs B ++ M.eraseIdx i, ds, es, _, r1, r2, ok', hr _ (sd_open h1), fun d M' v Hi' H' hd s' ok2 r => ?_⟩
  obtain ⟨c, hdq, hR⟩ := hd
  obtain ⟨B', rfl, h3, h4⟩ := sd_tail h1 hdq
  exact q d _ v Hi' H' hR s' (ok2.clsAt hi h3 h4) r
def aNx3 : ASp := fun ds M R => ∃ (p : Addr) (i N : Nat) (n : Int), ds = [.ptr p, .int n] ∧ M[i]? = some (p, st3 p N) ∧ N ≤ 1000000 ∧ 0 < n ∧ n ≤ 1000000000 ∧ ∀ v, 0 ≤ v → v < n → R (.int v) (M.set i (p, st3 p (N + 1)))
def aRs3 : ASp := fun ds M R => ∃ (p : Addr) (i N : Nat) (lo : Int), ds = [.ptr p, .int lo] ∧ M[i]? = some (p, st3 p N) ∧ N ≤ 900000 ∧ 0 ≤ lo ∧ lo ≤ 1 ∧ ∀ s, Sq3 lo s → R (stV s) (M.set i (p, st3 p (N + 9)))
abbrev GNx3 (P : Program) (w : World) (K : PySem.W.Frag) (mg : Str → Option Value) (base : Heap) : Prop := Gd P w K mg base 1 "_law_next" [] fun ds _ => aNx3 ds
theorem big8 {n : Int} (h0 : 0 < n) (h1 : n ≤ 1000000000) : n.natAbs < 2 ^ 8000 := by
  have : n.natAbs < 2 ^ 30 := by omega
  exact Nat.lt_of_lt_of_le this (Nat.pow_le_pow_right (by decide) (by decide))
theorem nx3 (G : GNx P w K mg base) : GNx3 P w K mg base := gd_box3 G fun ds M R ⟨p, i, N, n, e, hi, hN, h0, h1, hp⟩ => ⟨i, p, N, hi, fun M1 hs => ⟨p, 0, N, n, e, hs, hN, h0, big8 h0 h1, fun v M' v0 v1 d => ⟨1, d, hp v v0 v1⟩⟩⟩
/-- streams with their counts, in front of others -/
def qM (q : List (Addr × Nat)) (M : Mem) : Mem := q.map (fun x => (x.1, st3 x.1 x.2)) ++ M
theorem ok_sts {K : PySem.W.Frag} {Hi H : Hp} {M : Mem} {N : Nat} : ∀ {ps : List Addr} {Ds A : Mem}, Sts Ds ps N → Ds.length = ps.length → Ok K Hi (A ++ (Ds ++ M)) H → Ok K Hi (A ++ qM (ps.map fun p => (p, N)) M) H
  | [], Ds, A, _, hl, ok => by
    have : Ds = [] := List.length_eq_zero_iff.mp hl
    subst this
    exact ok
  | p :: ps, Ds, A, hs, hl, ok => by
    cases Ds with
    | nil => cases hl
    | cons x Ds =>
      have hx : SD [x] 0 p N := by
        obtain ⟨cs, t, y, h1, h2⟩ := hs 0 p rfl
        exact ⟨cs, t, y, h1, h2⟩
      obtain ⟨B, M2, e, hp, hB⟩ := sd_close hx
      obtain ⟨cs, t, y, rfl, h2⟩ := hB
      have ex : x = (p, .b (.dk [(.inr "cells", .lst (cs.map .int)), (.inr "at", .int t), (.inr "left", .int y)])) := (List.cons.inj e).1
      subst ex
      have ok1 := ok.perm (M' := bs [(p, Cell0.dk [(.inr "cells", .lst (cs.map .int)), (.inr "at", .int t), (.inr "left", .int y)])] ++ (A ++ (Ds ++ M))) (List.perm_middle (l₁ := A)).symm
      have ok2 := ok1.cls (φ := fun B => ∃ (cs : List Int) (t y : Int), B = [(p, Cell0.dk [(.inr "cells", .lst (cs.map .int)), (.inr "at", .int t), (.inr "left", .int y)])] ∧ cs ≠ [] ∧ cs.length ≤ 1000 ∧ 0 ≤ t ∧ t ≤ (N : Int)) ⟨cs, t, y, rfl, h2⟩ hp
      have pm : ((A ++ [(p, st3 p N)]) ++ (Ds ++ M)).Perm ((p, st3 p N) :: (A ++ (Ds ++ M))) := by
        rw [List.append_assoc]
        exact List.perm_middle
      have ok3 : Ok K Hi ((A ++ [(p, st3 p N)]) ++ (Ds ++ M)) H := ok2.perm pm
      have ok4 := ok_sts (ps := ps) (A := A ++ [(p, st3 p N)]) (fun j p' hj => hs (j + 1) p' hj) (Nat.succ.inj hl) ok3
      rw [List.append_assoc] at ok4
      exact ok4
def aSt3 : ASp := fun ds M R => ∃ ns : List Int, ds = [.lst (ns.map .int)] ∧ ns.length ≤ 63 ∧ ∀ ps : List Addr, ps ≠ [] → ps.length ≤ 6 → R (.lst (ps.map .ptr)) (qM (ps.map fun p => (p, 600)) M)
abbrev GSt3 (P : Program) (w : World) (K : PySem.W.Frag) (mg : Str → Option Value) (base : Heap) : Prop := Gd P w K mg base 1 "_law_streams" [] fun ds _ => aSt3 ds
theorem gst3 (G : GSts P w K mg base) : GSt3 P w K mg base := by
  obtain ⟨f, F, hm, hk⟩ := G.ex
  refine ⟨f, F.weak fun vs zs H Q ⟨Hi, M, ds, es, R, r1, r2, ok, ⟨ns, e, hl, hp⟩, q⟩ => ?_, hm, hk⟩
  refine ⟨Hi, M, ds, es, fun d M' => ∃ (ps : List Addr) (Ds : Mem), d = .lst (ps.map .ptr) ∧ M' = Ds ++ M ∧ ps ≠ [] ∧ ps.length ≤ 6 ∧ Ds.length = ps.length ∧ Sts Ds ps 600, r1, r2, ok, ⟨ns, e, hl, fun ps Ds h1 h2 h3 h4 => ⟨ps, Ds, rfl, rfl, h1, h2, h3, h4⟩⟩, fun d M' v Hi' H' hd s' ok2 r => ?_⟩
  obtain ⟨ps, Ds, rfl, rfl, h1, h2, h3, h4⟩ := hd
  exact q _ _ v Hi' H' (hp ps h1 h2) s' (ok_sts (A := []) h4 h3 ok2) r
/-- a stream is brought to the front -/
theorem q_front {q : List (Addr × Nat)} {M : Mem} {i : Nat} {x : Addr × Nat} (h : q[i]? = some x) : ((x.1, st3 x.1 x.2) :: qM (q.eraseIdx i) M).Perm (qM q M) := by
  have h1 := perm_at h
  have h2 := (h1.map (fun x : Addr × Nat => ((x.1, st3 x.1 x.2) : Addr × Cell))).append_right M
  exact h2.symm
end
end K14
namespace K14
open PySem L2 Ab Sm
/-! ### counters in boxes -/
section
variable {P : Program} {w : World} {K : PySem.W.Frag} {mg : Str → Option Value} {base : Heap} {k : Nat} {f C C2 C3 : Addr}
/-! ### labels_of, has_number, frequency -/
/-! ### StartCounter -/
theorem CntS.le {S : Sc} (hS : GoodS S) {h : Nat} {x v : Int} (x0 : 0 ≤ x) (hv : CntS S h x v) : v ≤ x + 2 := Cnt.le hS.k2 hS.s0 hS.l0 hS.lp x0 hv
end
end K14
/-! labels by number; another arity; greater schedules -/
namespace Sm
/-! ### another arity -/
end Sm
/-! items with zeros between them -/
namespace Sm
end Sm
namespace K14
open PySem L2 Ab Sm
section
variable {P : Program} {w : World} {K : PySem.W.Frag} {mg : Str → Option Value} {base : Heap} {k : Nat} {f C CN : Addr}
/-! ### is_integer, check_integer of anything -/
/-- no integer, or a truth value -/
def NInt (K : PySem.W.Frag) (M : Mem) (d : Val) : Prop := (∃ T, TyV K M d T ∧ PySem.W.kitOne K T (.type "int") = some false) ∨ ∃ b, d = .bl b
theorem NInt.non {M : Mem} : NInt K M .non := .inl ⟨_, .non, kit_ty (by decide +kernel)⟩
theorem NInt.str {M : Mem} {s : Str} : NInt K M (.str s) := .inl ⟨_, .str s, kit_ty (by decide +kernel)⟩
theorem NInt.bl {M : Mem} {b : Bool} : NInt K M (.bl b) := .inr ⟨b, rfl⟩
theorem NInt.tup {M : Mem} {xs : List Val} : NInt K M (.tup xs) := .inl ⟨_, .tup xs, kit_ty (by decide +kernel)⟩
/-! ### in_arity refuses -/
end
end K14
/-! Ab86: texts: a sign in a text, a text under a global name, bool comprehensions -/
namespace Ab
open PySem PySem.Spec PyProof.Rows L2
end Ab
/-! Ab87: isinstance of values whose kind is told by their representation (dicts too); split texts: how long -/
namespace Ab
open PySem PySem.Spec PyProof.Rows L2
def TyY (K : PySem.W.Frag) (M : Mem) (d : Val) (t : Value) : Prop := ∀ (Hi H : Hp) (v : V), Ok K Hi M H → Rep K Hi d v → TyX K H v t
theorem TyV.y {K : PySem.W.Frag} {M : Mem} {d : Val} {t : Value} (h : TyV K M d t) : TyY K M d t := fun _ _ _ ok r => h.tyx ok r
theorem tyY_dk {K : PySem.W.Frag} {M : Mem} {p : Addr} {i : Nat} {ds : List (Key × Val)} (hi : M[i]? = some (p, .dk ds)) : TyY K M (.ptr p) (.type "dict") := fun Hi H v ok r => by
  obtain ⟨_, o, ho, kvs, rfl, rk⟩ := ok.get hi
  cases r
  exact .base (.dK ho)
section
variable {X : Cx} {Γ : Gam} {M : Mem} {P : Val → Mem → Prop} {a b : Expr} {pos p1 : Pos} {d1 d2 : Val}
theorem ae_isiY {t u : Value} {bb : Bool} (hm : X.mg "isinstance" = none) (ha : aV X a Γ M d1) (hb : aV X b Γ M d2) (hc : ClV d2 u) (ht : TyY X.K M d1 t) (hk : PySem.W.kitOne X.K t u = some bb) (h : P (.bl bb) M) (hg : Gl X "isinstance" := by rfl)
    (hs : starEach [a, b] X.env = (false, eval a X.env) :: starEach [b] X.env := by rfl) (hs2 : starEach [b] X.env = (false, eval b X.env) :: starEach [] X.env := by rfl) (hpl : (backTo pos (starEach [b] X.env)).any (·.1) = false := by rfl) : aE X (.Call (.Name "isinstance" p1) [a, b] [] pos) Γ M P :=
  ae_callB call_isi hm (by decide +kernel) (aa_cons (ha.val (aa_cons (hb.val (aa_nil fun Hi H vs ok r Q q => by
    cases r with
    | cons r1 r2 =>
      cases r2 with
      | cons r2 r3 =>
        cases r3
        refine ⟨_, _, t, u, bb, rfl, ?_, ht _ _ _ ok r1, hk, q _ _ _ Hi H h (Same.refl _) ok (.bl _)⟩
        cases hc with
        | ty n => cases r2; exact .ty n
        | own C => cases r2; exact .own C)) hs2)) hs) hg (he := hs) (hpl := hpl)
end
end Ab
/-! repr of any data, with cells and empty dicts in it -/
namespace Ab
open PySem PySem.Spec PyProof.Rows L2 PySem.Builtin
mutual
inductive Rx (h : Heap) : Value → PyData → Prop
  | none : Rx h .none .none
  | bool (b : Bool) : Rx h (.bool b) (.bool b)
  | int (i : Int) (t : Tok) : Rx h (.int i t) (.int i)
  | str (x : Str) (t : Tok) : Rx h (.str x t) (.str x)
  | list {a : Addr} {o : Obj} {vs : Array Value} {n : Nat} {xs : List PyData} : h.get? a = some o → o.cls = .type "list" → o.data = .seq vs n → RxA h vs.toList xs → Rx h (.ref a) (.list xs)
  | tuple {a : Addr} {o : Obj} {vs : Array Value} {n : Nat} {xs : List PyData} : h.get? a = some o → o.cls = .type "tuple" → o.data = .seq vs n → RxA h vs.toList xs → Rx h (.ref a) (.tuple xs)
  | dict {a : Addr} {o : Obj} {n : Nat} : h.get? a = some o → o.cls = .type "dict" → o.data = .dict #[] n → (a == sysModules) = false → Rx h (.ref a) (.dict [])
inductive RxA (h : Heap) : List Value → List PyData → Prop
  | nil : RxA h [] []
  | cons {v : Value} {vs : List Value} {d : PyData} {ds : List PyData} : Rx h v d → RxA h vs ds → RxA h (v :: vs) (d :: ds)
end
mutual
theorem Rx.reads {h : Heap} : ∀ (d : PyData) (v : Value), Rx h v d → ∃ as, Reads h v d as
  | .none, _, r => by cases r; exact ⟨_, .none⟩
  | .bool b, _, r => by cases r; exact ⟨_, .bool b⟩
  | .int i, _, r => by
    cases r with
    | int _ t => exact ⟨_, .int i t⟩
  | .str x, _, r => by
    cases r with
    | str _ t => exact ⟨_, .str x t⟩
  | .list xs, _, r => by
    cases r with
    | list h1 h2 h3 h4 =>
      obtain ⟨as, q⟩ := RxA.reads xs _ h4
      exact ⟨_, .list h1 h2 h3 q⟩
  | .tuple xs, _, r => by
    cases r with
    | tuple h1 h2 h3 h4 =>
      obtain ⟨as, q⟩ := RxA.reads xs _ h4
      exact ⟨_, .tuple h1 h2 h3 q⟩
  | .dict kvs, _, r => by
    cases r with
    | dict h1 h2 h3 h4 => exact ⟨_, .dict (kvs := []) h1 h2 h3 .nil .nil⟩
theorem RxA.reads {h : Heap} : ∀ (d : List PyData) (v : List Value), RxA h v d → ∃ as, ReadsAll h v d as
  | [], _, r => by cases r; exact ⟨_, .nil⟩
  | d :: ds, _, r => by
    cases r with
    | cons r1 r2 =>
      obtain ⟨as, q1⟩ := Rx.reads d _ r1
      obtain ⟨bs, q2⟩ := RxA.reads ds _ r2
      exact ⟨_, .cons q1 q2⟩
end
mutual
/-- ints of at most 12900 binary digits -/
def shQ : PyData → Prop
  | .none => True
  | .bool _ => True
  | .int i => i.natAbs.log2 < 12900
  | .str x => x.cps.toList.all (fun c => decide (c < 16 ^ 8)) = true
  | .list xs => shQs xs
  | .tuple xs => shQs xs
  | .dict kvs => kvs = []
def shQs : List PyData → Prop
  | [] => True
  | x :: xs => shQ x ∧ shQs xs
end
mutual
def wdQ : PyData → Nat
  | .none => 5
  | .bool _ => 5
  | .int i => i.natAbs.log2 + 2
  | .str x => 10 * x.length + 2
  | .list xs => wdQs xs + 3
  | .tuple xs => wdQs xs + 3
  | .dict _ => 2
def wdQs : List PyData → Nat
  | [] => 0
  | x :: xs => wdQ x + 2 + wdQs xs
end
mutual
theorem wdq_ok : ∀ (p : PyData), shQ p → p.shown.length ≤ wdQ p
  | .none, _ => by decide
  | .bool b, _ => by cases b <;> decide
  | .int i, h => by
      unfold shQ at h
      unfold wdQ PyData.shown
      have e := int_text_length_le (k := i.natAbs.log2 + 1) (Nat.succ_pos _) (Nat.lt_succ_self i.natAbs.log2)
      have e2 : (Str.ofString (toString i)).length = (toString i).length := PySem.ofString_length _
      show (Str.ofString (toString i)).length ≤ _
      omega
  | .str x, h => by
      unfold shQ at h
      unfold wdQ PyData.shown
      have := StrLaws.reprText_len x (fun c hc => of_decide_eq_true (List.all_eq_true.mp h c hc))
      omega
  | .list xs, h => by
    unfold shQ at h
    have h2 := wdqs_ok xs h
    unfold wdQ PyData.shown
    have h1 := listText_len_le (PyData.shownAll xs)
    omega
  | .tuple xs, h => by
    unfold shQ at h
    have h2 := wdqs_ok xs h
    unfold wdQ PyData.shown
    have h1 := tupleText_len_le (PyData.shownAll xs)
    omega
  | .dict kvs, h => by
    unfold shQ at h
    subst h
    decide
theorem wdqs_ok : ∀ (p : List PyData), shQs p → ((PyData.shownAll p).map (·.length)).sum + 2 * (PyData.shownAll p).length ≤ wdQs p
  | [], _ => by decide
  | x :: xs, h => by
    unfold shQs at h
    have h1 := wdq_ok x h.1
    have h2 := wdqs_ok xs h.2
    unfold PyData.shownAll wdQs
    rw [List.map_cons, List.sum_cons, List.length_cons]
    omega
end
section
variable {prog : Program} {w : World} {A : Around} {E : Value → Shared → Prop} {s : Shared} {h₀ : Heap}
mutual
theorem tellsQ (D : DigL (model prog w) h₀) : ∀ (p : PyData) (v : Value), Rx h₀ v p → shQ p → p.shown.length ≤ sizeLine → Tells prog w h₀ v p
  | .none, _, r, _, _ => by cases r; exact .of (by unfold PyData.shown; exact .of_is ReprIs.none _ _ _)
  | .bool b, _, r, _, _ => by cases r; exact .of (by unfold PyData.shown; exact .of_is (ReprIs.bool b) _ _ _)
  | .int i, _, r, h, _ => by
    cases r
    unfold shQ at h
    exact .of (by unfold PyData.shown; exact rk_int D _ h _ _)
  | .str x, _, r, _, z => by
    cases r
    unfold PyData.shown at z
    exact .of (by unfold PyData.shown; exact .of_is (ReprIs.str x _ z) _ _ _)
  | .list xs, v, r0, h, z => by
    unfold shQ at h
    unfold PyData.shown at z
    cases r0 with
    | @list a o vs n _ c1 c2 c3 c4 =>
      obtain ⟨bs, m1, m2⟩ := tellsQA D xs _ c4 h fun t ht => Nat.le_trans (listText_mem_le ht) z
      obtain ⟨as', c4'⟩ := RxA.reads xs _ c4
      have rd : Reads h₀ (.ref a) (.list xs) _ := .list c1 c2 c3 c4'
      have dl : PyData.depthAll xs < (PyData.list xs).depth := by simp only [PyData.depth]; omega
      have out := not_mem_of_deeper rd dl m1
      refine ⟨a :: bs, fun b hb => ?_, ?_⟩
      · rcases List.mem_cons.mp hb with rfl | hb
        · exact ⟨_, _, rd, Nat.le_refl _⟩
        · obtain ⟨d', as2, y1, y2⟩ := m1 b hb
          exact ⟨d', as2, y1, by omega⟩
      · unfold PyData.depth PyData.shown
        obtain ⟨l⟩ := vs
        cases l with
        | nil =>
          cases (show RxA h₀ [] xs from c4)
          unfold PyData.shownAll
          rw [listText_nil]
          exact (ReprK.listEmpty c1 c2 c3).level_le (Nat.le_refl _)
        | cons y l => exact ReprK.list c1 c2 c3 out (by simpa using m2.length_eq) fun j y' e => m2.item j y' (by simpa using e)
  | .tuple xs, v, r0, h, z => by
    unfold shQ at h
    unfold PyData.shown at z
    cases r0 with
    | @tuple a o vs n _ c1 c2 c3 c4 =>
      obtain ⟨bs, m1, m2⟩ := tellsQA D xs _ c4 h fun t ht => Nat.le_trans (tupleText_mem_le ht) z
      obtain ⟨as', c4'⟩ := RxA.reads xs _ c4
      have rd : Reads h₀ (.ref a) (.tuple xs) _ := .tuple c1 c2 c3 c4'
      have dl : PyData.depthAll xs < (PyData.tuple xs).depth := by simp only [PyData.depth]; omega
      have out := not_mem_of_deeper rd dl m1
      refine ⟨a :: bs, fun b hb => ?_, ?_⟩
      · rcases List.mem_cons.mp hb with rfl | hb
        · exact ⟨_, _, rd, Nat.le_refl _⟩
        · obtain ⟨d', as2, y1, y2⟩ := m1 b hb
          exact ⟨d', as2, y1, by omega⟩
      · unfold PyData.depth PyData.shown
        exact ReprK.tuple c1 c2 c3 out m2
  | .dict kvs, v, r0, h, z => by
    cases r0 with
    | @dict a o n c1 c2 c3 c4 =>
      have rd : Reads h₀ (.ref a) (.dict []) _ := .dict (kvs := []) c1 c2 c3 .nil .nil
      refine ⟨[a], fun b hb => ?_, ?_⟩
      · rcases List.mem_cons.mp hb with rfl | hb
        · exact ⟨_, _, rd, Nat.le_refl _⟩
        · exact nomatch hb
      · have := ReprK.dict (prog := prog) (w := w) (as := []) (d := 0) (ps := []) c1 c2 c3 c4 (by simp) .nil
        exact this.level_le (by simp only [PyData.depth]; omega)
theorem tellsQA (D : DigL (model prog w) h₀) : ∀ (ps : List PyData) (vs : List Value), RxA h₀ vs ps → shQs ps → (∀ t ∈ PyData.shownAll ps, t.length ≤ sizeLine) → TellsA prog w h₀ vs ps
  | [], _, r, _, _ => by
    cases r
    exact ⟨[], (fun _ z => nomatch z), by unfold PyData.shownAll; exact .nil⟩
  | p :: ps, _, r, h, z => by
    unfold shQs at h
    unfold PyData.shownAll at z
    cases r with
    | cons r1 r2 =>
      obtain ⟨c1, m1, n1⟩ := tellsQ D p _ r1 h.1 (z _ List.mem_cons_self)
      obtain ⟨c2, m2, n2⟩ := tellsQA D ps _ r2 h.2 fun t ht => z t (List.mem_cons_of_mem _ ht)
      refine ⟨c1 ++ c2, fun b hb => ?_, ?_⟩
      · unfold PyData.depthAll
        rcases List.mem_append.mp hb with hb | hb
        · obtain ⟨d', as', y1, y2⟩ := m1 b hb
          exact ⟨d', as', y1, Nat.le_trans y2 (Nat.le_max_left _ _)⟩
        · obtain ⟨d', as', y1, y2⟩ := m2 b hb
          exact ⟨d', as', y1, Nat.le_trans y2 (Nat.le_max_right _ _)⟩
      · unfold PyData.depthAll PyData.shownAll
        refine .cons ((n1.more fun b hb => ?_).level_le (Nat.le_max_left _ _)) (n2.more_le (fun b hb => ?_) (Nat.le_max_right _ _))
        · exact List.mem_append_left _ hb
        · exact List.mem_append_right _ hb
end
theorem repr_Q {v : Value} {p : PyData} {Q : Value → Shared → Prop} (D : DigL (model prog w) s.heap) (r : Rx s.heap v p) (h : shQ p) (z : p.shown.length ≤ sizeLine) (hg : A.guards = some []) (hu : A.units + (p.depth + 1) < cLine)
    (hQ : ∀ h' u tk, (∀ b o, s.heap.get? b = some o → h'.get? b = some o) → Q (.str p.shown u) { s with heap := h', toks := tk }) : wpAny (model prog w) A (call (.builtin "repr") [v]) Q E s := by
  have hu1 : A.in1.units = A.units + 1 := rfl
  have hg1 : A.in1.guards = some [] := hg
  cases r with
  | none => exact PySem.P.repr_of_none (hQ s.heap _ _ fun _ _ e => e)
  | bool b =>
    unfold PyData.shown at hQ
    exact PySem.P.repr_of_bool (hQ s.heap _ _ fun _ _ e => e)
  | int i t =>
    unfold shQ at h
    unfold PyData.shown at hQ
    refine call_repr_slot (by omega) (typeIs_int s i t) F.slot_int_repr.toG (irepr_wide D (fun _ _ z => z) h ?_)
    exact ⟨_, _, rfl, hQ s.heap _ _ fun _ _ e => e⟩
  | str x t =>
    unfold PyData.shown at hQ z
    exact PySem.P.repr_of_str (hQ s.heap _ _ fun _ _ e => e) z
  | @list a o vs n xs c1 c2 c3 c4 =>
    unfold shQ at h
    unfold PyData.shown at z hQ
    unfold PyData.depth at hu
    obtain ⟨bs, m1, m2⟩ := tellsQA D xs _ c4 h fun t ht => Nat.le_trans (listText_mem_le ht) z
    obtain ⟨as', c4'⟩ := RxA.reads xs _ c4
    have rd : Reads s.heap (.ref a) (.list xs) _ := .list c1 c2 c3 c4'
    have dl : PyData.depthAll xs < (PyData.list xs).depth := by simp only [PyData.depth]; omega
    have out := not_mem_of_deeper rd dl m1
    refine call_repr_slot (by omega) ⟨o, c1, c2⟩ F.slot_list_repr.toG ?_
    obtain ⟨l⟩ := vs
    cases l with
    | nil =>
      cases (show RxA s.heap [] xs from c4)
      unfold PyData.shownAll at hQ
      rw [listText_nil] at hQ
      exact call_list_repr_empty ⟨o, c1, c2⟩ c1 c3 ⟨_, _, rfl, hQ s.heap _ _ fun _ _ e => e⟩
    | cons y l => exact call_list_reprK c1 c2 c3 out (by simpa using m2.length_eq) (fun j y' e => m2.item j y' (by simpa using e)) hg1 (fun b _ => Clear.nil b) (by omega) (fun _ _ e => e) (fun h' u tk k => ⟨_, _, rfl, hQ h' u tk k⟩) z
  | @tuple a o vs n xs c1 c2 c3 c4 =>
    unfold shQ at h
    unfold PyData.shown at z hQ
    unfold PyData.depth at hu
    obtain ⟨bs, m1, m2⟩ := tellsQA D xs _ c4 h fun t ht => Nat.le_trans (tupleText_mem_le ht) z
    obtain ⟨as', c4'⟩ := RxA.reads xs _ c4
    have rd : Reads s.heap (.ref a) (.tuple xs) _ := .tuple c1 c2 c3 c4'
    have dl : PyData.depthAll xs < (PyData.tuple xs).depth := by simp only [PyData.depth]; omega
    have out := not_mem_of_deeper rd dl m1
    refine call_repr_slot (by omega) ⟨o, c1, c2⟩ F.slot_tuple_repr ?_
    exact call_tuple_reprK c1 c2 c3 out m2 hg1 (fun b _ => Clear.nil b) (by omega) (fun _ _ e => e) (fun h' u tk k => ⟨_, _, rfl, hQ h' u tk k⟩) z
  | @dict a o n c1 c2 c3 c4 =>
    unfold PyData.depth at hu
    refine call_repr_slot (by omega) ⟨o, c1, c2⟩ F.slot_dict_repr ?_
    exact call_dict_reprK (as := []) (d := 0) (ps := []) c1 c2 c3 c4 (by simp) .nil hg1 (fun b _ => Clear.nil b) (by omega) (fun _ _ e => e) (fun h' u tk k => ⟨_, _, rfl, hQ h' u tk k⟩) z
end
/-! ### on the abstract heap -/
mutual
inductive Dq (K : PySem.W.Frag) (H : Hp) : V → PyData → Prop
  | non : Dq K H .non .none
  | bl (b : Bool) : Dq K H (.bl b) (.bool b)
  | int (i : Int) : Dq K H (.int i) (.int i)
  | str (x : Str) : Dq K H (.str x) (.str x)
  | lst {a : Addr} {xs : List V} {ds : List PyData} : SqL K H a xs → DqA K H xs ds → Dq K H (.ref a) (.list ds)
  | tup {a : Addr} {xs : List V} {ds : List PyData} : SqT K H a xs → DqA K H xs ds → Dq K H (.ref a) (.tuple ds)
  | dk {a : Addr} : Rd H a (.dK []) → Dq K H (.ref a) (.dict [])
inductive DqA (K : PySem.W.Frag) (H : Hp) : List V → List PyData → Prop
  | nil : DqA K H [] []
  | cons {v : V} {vs : List V} {d : PyData} {ds : List PyData} : Dq K H v d → DqA K H vs ds → DqA K H (v :: vs) (d :: ds)
end
section
variable {X : Cx} {pins : List (Addr × Obj)} {σ : L2.St} {H : Hp} {s : Shared}
mutual
theorem Dq.rx (I : Inv X pins σ H s) : ∀ (d : PyData) (v : V) (u : Value), Dq X.K H v d → RelV v u → Rx s.heap u d
  | .none, _, _, h, r => by
    cases h
    cases r
    exact .none
  | .bool b, _, _, h, r => by
    cases h
    cases r
    exact .bool b
  | .int i, _, _, h, r => by
    cases h
    obtain ⟨t, rfl⟩ := r
    exact .int i t
  | .str x, _, _, h, r => by
    cases h
    obtain ⟨t, rfl⟩ := r
    exact .str x t
  | .list ds, _, _, h, r => by
    cases h with
    | lst hs ha =>
      cases r
      obtain ⟨its, rv, ⟨o, n, ho, hc, _, hd⟩, _⟩ := I.list hs
      exact .list ho hc hd (DqA.rx I ds _ its ha rv)
  | .tuple ds, _, _, h, r => by
    cases h with
    | tup hs ha =>
      cases r
      obtain ⟨its, rv, ⟨o, ho, hc, n, hd⟩, _⟩ := I.tuple hs
      exact .tuple ho hc hd (DqA.rx I ds _ its ha rv)
  | .dict kvs, _, _, h, r => by
    cases h with
    | dk hs =>
      cases r
      have hk : ∀ {a : Addr}, Rd H a (.dK []) → ObjOk X.prog X.w H s.heap a (.dK []) := fun hs => by
        rcases hs with hs | ⟨o, hs⟩
        · exact I.hok _ _ hs
        · exact (I.hok _ _ hs).2
      obtain ⟨_, hsys, vs, kv, dd⟩ := hk hs
      cases kv
      obtain ⟨o, es, n, ho, hx, hd, _, hp, _⟩ := dd
      obtain ⟨l⟩ := es
      cases hp
      exact .dict ho hx.1 hd hsys
theorem DqA.rx (I : Inv X pins σ H s) : ∀ (ds : List PyData) (vs : List V) (us : List Value), DqA X.K H vs ds → Vals vs us → RxA s.heap us ds
  | [], _, _, h, r => by
    cases h
    cases r
    exact .nil
  | d :: ds, _, _, h, r => by
    cases h with
    | cons h1 h2 =>
      cases r with
      | cons r1 r2 => exact .cons (Dq.rx I d _ _ h1 r1) (DqA.rx I ds _ _ h2 r2)
end
end
/-! ### on values -/
mutual
/-- what a value is as data: cells are looked into -/
inductive Vd (M : Mem) : Val → PyData → Prop
  | non : Vd M .non .none
  | bl (b : Bool) : Vd M (.bl b) (.bool b)
  | int (i : Int) : Vd M (.int i) (.int i)
  | str (x : Str) : Vd M (.str x) (.str x)
  | lst {xs : List Val} {ps : List PyData} : VdA M xs ps → Vd M (.lst xs) (.list ps)
  | tup {xs : List Val} {ps : List PyData} : VdA M xs ps → Vd M (.tup xs) (.tuple ps)
  | cel (i : Nat) {p : Addr} {xs : List Val} {ps : List PyData} : M[i]? = some (p, .lst xs) → VdA M xs ps → Vd M (.ptr p) (.list ps)
  | dk {p : Addr} : DkAt M p [] → Vd M (.ptr p) (.dict [])
inductive VdA (M : Mem) : List Val → List PyData → Prop
  | nil : VdA M [] []
  | cons {v : Val} {vs : List Val} {d : PyData} {ds : List PyData} : Vd M v d → VdA M vs ds → VdA M (v :: vs) (d :: ds)
end
mutual
theorem Vd.dq {K : PySem.W.Frag} {Hi H : Hp} {M : Mem} (ok : Ok K Hi M H) : ∀ (p : PyData) (d : Val) (v : V), Vd M d p → Rep K Hi d v → Dq K H v p
  | .none, _, _, h, r => by cases h; cases r; exact .non
  | .bool b, _, _, h, r => by cases h; cases r; exact .bl b
  | .int i, _, _, h, r => by cases h; cases r; exact .int i
  | .str x, _, _, h, r => by cases h; cases r; exact .str x
  | .tuple ps, _, _, h, r => by
    cases h with
    | tup ha =>
      cases r with
      | tup hs hr => exact .tup (sameT ok.im hs) (VdA.dq ok ps _ _ ha hr)
  | .list ps, _, _, h, r => by
    cases h with
    | lst ha =>
      cases r with
      | lst hs hr => exact .lst (ok.im.seq hs) (VdA.dq ok ps _ _ ha hr)
    | cel i hi ha =>
      cases r with
      | ptr a =>
        obtain ⟨_, o, ho, xs, rfl, hr⟩ := ok.get hi
        exact .lst (.inl (.inl ho)) (VdA.dq ok ps _ _ ha hr)
  | .dict kvs, _, _, h, r => by
    cases h with
    | dk hd =>
      cases r with
      | ptr a =>
        obtain ⟨kv, h1, h2⟩ := hd.rd ok
        cases h2
        exact .dk h1
theorem VdA.dq {K : PySem.W.Frag} {Hi H : Hp} {M : Mem} (ok : Ok K Hi M H) : ∀ (ps : List PyData) (ds : List Val) (vs : List V), VdA M ds ps → RepA K Hi ds vs → DqA K H vs ps
  | [], _, _, h, r => by cases h; cases r; exact .nil
  | p :: ps, _, _, h, r => by
    cases h with
    | cons h1 h2 =>
      cases r with
      | cons r1 r2 => exact .cons (Vd.dq ok p _ _ h1 r1) (VdA.dq ok ps _ _ h2 r2)
end
/-- every cell of M stands in M' -/
def Has (M M' : Mem) : Prop := ∀ (i : Nat) (x : Addr × Cell), M[i]? = some x → ∃ j : Nat, M'[j]? = some x
theorem Has.cons {M : Mem} {c : Addr × Cell} : Has M (c :: M) := fun i x h => ⟨i + 1, by rw [List.getElem?_cons_succ]; exact h⟩
theorem Has.refl {M : Mem} : Has M M := fun i x h => ⟨i, h⟩
theorem Has.trans {M M1 M2 : Mem} (a : Has M M1) (b : Has M1 M2) : Has M M2 := fun i x h => by
  obtain ⟨j, hj⟩ := a i x h
  exact b j x hj
theorem DkAt.has {M M' : Mem} {p : Addr} {ds : List (Key × Val)} (h : DkAt M p ds) (e : Has M M') : DkAt M' p ds := by
  obtain ⟨n, h | ⟨od, kvs, h⟩⟩ := h
  · obtain ⟨j, hj⟩ := e n _ h
    exact ⟨j, .inl hj⟩
  · obtain ⟨j, hj⟩ := e n _ h
    exact ⟨j, .inr ⟨od, kvs, hj⟩⟩
mutual
theorem Vd.has {M M' : Mem} (e : Has M M') : ∀ (p : PyData) (d : Val), Vd M d p → Vd M' d p
  | .none, _, h => by cases h; exact .non
  | .bool b, _, h => by cases h; exact .bl b
  | .int i, _, h => by cases h; exact .int i
  | .str x, _, h => by cases h; exact .str x
  | .tuple ps, _, h => by
    cases h with
    | tup ha => exact .tup (VdA.has e ps _ ha)
  | .list ps, _, h => by
    cases h with
    | lst ha => exact .lst (VdA.has e ps _ ha)
    | cel i hi ha =>
      obtain ⟨j, hj⟩ := e i _ hi
      exact .cel j hj (VdA.has e ps _ ha)
  | .dict kvs, _, h => by
    cases h with
    | dk hd => exact .dk (hd.has e)
theorem VdA.has {M M' : Mem} (e : Has M M') : ∀ (ps : List PyData) (ds : List Val), VdA M ds ps → VdA M' ds ps
  | [], _, h => by cases h; exact .nil
  | p :: ps, _, h => by
    cases h with
    | cons h1 h2 => exact .cons (Vd.has e p _ h1) (VdA.has e ps _ h2)
end
theorem VdA.ints {M : Mem} : ∀ xs : List Int, VdA M (xs.map .int) (xs.map .int)
  | [] => .nil
  | x :: xs => .cons (.int x) (VdA.ints xs)
theorem VdA.append {M : Mem} : ∀ {ds es : List Val} {ps qs : List PyData}, VdA M ds ps → VdA M es qs → VdA M (ds ++ es) (ps ++ qs)
  | [], _, ps, _, h, k => by cases h; exact k
  | _ :: _, _, _, _, h, k => by
    cases h with
    | cons h1 h2 => exact .cons h1 (VdA.append h2 k)
/-- told by repr -/
structure RQ (p : PyData) : Prop where
  sh : shQ p
  wd : wdQ p ≤ sizeLine
  dp : p.depth ≤ 60
section
variable {X : Cx} {Γ : Gam} {M : Mem} {P : Val → Mem → Prop} {a b : Expr} {pos p1 p2 q1 q2 : Pos} {n : Nat} {d : Val} {p : PyData}
theorem call_reprQ {n : Nat} (D : DigK X.K) (hr : Rm n X.A) : CallR X (.builtin "repr") (fun xs H Q => ∃ (v : V) (d : PyData), xs = [v] ∧ Dq X.K H v d ∧ RQ d ∧ Q (.str d.shown) H) := by
  intro pins s σ H xs us Q I r h
  obtain ⟨v, d, rfl, hd, hq, q⟩ := h
  obtain ⟨u, rfl, ru⟩ := vals1 r
  have hu := hr.u64
  have h3 := hq.dp
  exact repr_Q (digL D I.kIn) (Dq.rx I d v u hd ru) hq.sh (Nat.le_trans (wdq_ok d hq.sh) hq.wd) hr.gd (by omega) fun h' u tk hk => ⟨.str d.shown, H, I.kept (h' := h') (t' := tk) hk, ⟨_, rfl⟩, q⟩
theorem ae_reprQ (D : DigK X.K) (hr : Rm n X.A) (hm : X.mg "repr" = none) (ha : aE X a Γ M fun d M' => ∃ p, Vd M' d p ∧ RQ p ∧ P (.str p.shown) M')
    (hg : Gl X "repr" := by rfl) (hst : starEach [a] X.env = [(false, eval a X.env)] := by rfl) : aE X (.Call (.Name "repr" p1) [a] [] pos) Γ M P :=
  ae_callB (call_reprQ D hr) hm (by decide +kernel) (aa_cons (ha.mono fun d M' ⟨p, hv, hq, h⟩ => aa_nil fun Hi H vs ok r Q q => by
    cases r with
    | cons r1 r2 =>
      cases r2
      exact ⟨_, p, rfl, Vd.dq ok p _ _ hv r1, hq, q _ _ _ Hi H h (Same.refl _) ok (.str _)⟩) hst) hg (he := hst) (hpl := rfl)
theorem av_reprQ (D : DigK X.K) (hr : Rm n X.A) (hm : X.mg "repr" = none) (ha : aV X a Γ M d) (hv : Vd M d p) (hq : RQ p)
    (hg : Gl X "repr" := by rfl) (hst : starEach [a] X.env = [(false, eval a X.env)] := by rfl) : aV X (.Call (.Name "repr" p1) [a] [] pos) Γ M (.str p.shown) :=
  ae_reprQ D hr hm (ha.val ⟨p, hv, hq, rfl, rfl⟩) hg hst
/-- repr(a) != repr(b): alike -/
theorem at_rneQ {P : Bool → Mem → Prop} (D : DigK X.K) (hr : Rm n X.A) (hm : X.mg "repr" = none) (h : aE X a Γ M fun d M1 => ∃ p, Vd M1 d p ∧ RQ p ∧ aE X b Γ M1 fun d2 M2 => Vd M2 d2 p ∧ P false M2)
    (hg : Gl X "repr" := by rfl) (ha : starEach [a] X.env = [(false, eval a X.env)] := by rfl) (hb : starEach [b] X.env = [(false, eval b X.env)] := by rfl) (hk : behindInMarks .NotEq (.Call (.Name "repr" p2) [b] [] q2) = false := by first | exact nomark _ | rfl) : aT X (.Compare (.Call (.Name "repr" p1) [a] [] q1) [.NotEq] [.Call (.Name "repr" p2) [b] [] q2] pos) Γ M P :=
  at_cmpM (ae_reprQ D hr hm (h.mono fun d M1 ⟨p, v1, r1, h2⟩ => ⟨p, v1, r1, ae_reprQ D hr hm (h2.mono fun d2 M2 ⟨v2, hp⟩ => ⟨p, v2, r1, false, cmp_neSF rfl, hp⟩) hg hb⟩) hg ha) hk
end
end Ab
namespace K14
open PySem L2 Ab Sm
section
variable {P : Program} {w : World} {K : PySem.W.Frag} {mg : Str → Option Value} {base : Heap} {k : Nat} {f C : Addr}
/-! ### is_integer of the nodes refuses; is_equal -/
/-- no integer, or a truth value; dicts too -/
def NIy (K : PySem.W.Frag) (M : Mem) (d : Val) : Prop := (∃ T, TyY K M d T ∧ PySem.W.kitOne K T (.type "int") = some false) ∨ ∃ b, d = .bl b
def aInnN (K : PySem.W.Frag) : ASp := fun ds M R => ∃ d lo, ds = [d, lo] ∧ NIy K M d ∧ R (.bl false) M
theorem b_innN (B : Bt mg) : BodyOk P w K mg base k f n_is_integer_nodes "is_integer" (defScope s_is_integer_nodes) (defBody s_is_integer_nodes) (aInnN K) := by
  rintro cdv A outer s H E hr ds M R ⟨d, lo, rfl, ⟨T, hT, hk⟩ | ⟨b, rfl⟩, hp⟩
  · exact as_one (as_ret (ae_and (ae_isiY B.isinstance (v_ 0) (av_ty (T := "int") B.int (by decide +kernel)) (.ty "int") hT hk ⟨false, rfl, nft, fun _ => .ok hp⟩)))
  · refine as_one (as_ret (ae_and (ae_isi B.isinstance (v_ 0) (av_ty (T := "int") B.int (by decide +kernel)) (.ty "int") (.bl b) (kit_ty (by decide +kernel)) ⟨true, rfl, fun _ => ?_, ntf⟩)))
    exact ae_and (ae_not (ae_isi B.isinstance (v_ 0) (av_ty (T := "bool") B.bool (by decide +kernel)) (.ty "bool") (.bl b) (kit_ty (by decide +kernel)) ⟨true, rfl, false, rfl, nft, fun _ => .ok hp⟩))
abbrev GInnN (P : Program) (w : World) (K : PySem.W.Frag) (mg : Str → Option Value) (base : Heap) : Prop := Gd P w K mg base 1 "is_integer_nodes" [] fun ds _ => aInnN K ds
def aIeq (K : PySem.W.Frag) : ASp := fun ds M R => ∃ (d : Val) (n : Int), ds = [d, .int n] ∧ 0 ≤ n ∧ ((NIy K M d ∧ R (.bl false) M) ∨ ∃ v : Int, d = .int v ∧ R (.bl (decide (v = n))) M)
theorem b_is_equal (GI : GInn P w K mg base) (GN : GInnN P w K mg base) : BodyOk P w K mg base 1 f n_is_equal "is_equal" (defScope s_is_equal) (defBody s_is_equal) (aIeq K) := by
  rintro cdv A outer s H E hr ds M R ⟨d, n, rfl, n0, ⟨h, hp⟩ | ⟨v, rfl, hp⟩⟩
  · exact as_one (as_ret (ae_and (ae_g GN hr (by decide) (aa_cons ((v_ 0).val (aa_cons (i_.val (aa_nil (ak_nil ⟨rfl, d, _, rfl, h, false, rfl, nft, fun _ => .ok hp⟩)))))))))
  · refine as_one (as_ret (ae_and (ae_g GI hr (by decide) (aa_cons ((v_ 0).val (aa_cons (i_.val (aa_nil (ak_nil ⟨rfl, v, 0, rfl, _, rfl, fun _ => ae_one (ae_cmp (v_ 0) (v_ 1) cmp_eqI (.ok hp)), fun h => .ok ?_⟩)))))))))
    have h : ¬ (0 : Int) ≤ v := of_decide_eq_false h
    rw [decide_eq_false (show ¬ v = n by omega)] at hp
    exact hp
abbrev GIeq (P : Program) (w : World) (K : PySem.W.Frag) (mg : Str → Option Value) (base : Heap) : Prop := Gd P w K mg base 2 "is_equal" [] fun ds _ => aIeq K ds
/-! ### check_path: what is no path at all -/
/-- no tuple -/
def NTup (K : PySem.W.Frag) (M : Mem) (d : Val) : Prop := ∃ T, TyV K M d T ∧ PySem.W.kitOne K T (.type "tuple") = some false
def aCpF (K : PySem.W.Frag) (C CI : Addr) : ASe := fun ds M R PE => ∃ (S : Sc) (n : Int) (d : Val), ds = [scV C S, .int n, d] ∧ GoodS S ∧ 1 ≤ n ∧ n < 2 ^ 2000 ∧ (NTup K M d ∨ (∃ xs, d = .tup xs ∧ xs.length ≠ 3) ∨ ∃ a b c, d = .tup [a, b, c] ∧ NTup K M b) ∧ PE CI [("part", .str "form")] M
theorem e_check_pathF {CI : Addr} (B : Bt mg) (GL : GLpa P w K mg base C) (XI : XMk P w K mg base "InvalidCertificate" CI 1 (g1 "part")) : BodyE P w K mg base 6 f n_check_path "check_path" (defScope s_check_path) (defBody s_check_path) (aCpF K C CI) := by
  rintro cdv A outer s0 H E hr po ds M R PE ⟨S, n, d, rfl, hS, n1, n2, hd, hp⟩
  refine ys_cons (ys_of (as_asg (ae_g GL hr (by decide) (aa_cons ((v_ 0).val (aa_cons ((v_ 1).val (aa_nil (ak_nil ⟨rfl, S, n, rfl, hS, n1, n2, fun st x r hst hx => ?_⟩)))))))))
  refine ag_tup rfl (ags_cons (ag_name 3 q_check_path.nd (ags_cons (ag_name 4 q_check_path.nd (ags_cons (ag_name 5 q_check_path.nd (ags_nil ?_)))))))
  rcases hd with ⟨T, hT, hk⟩ | ⟨xs, rfl, hl⟩ | ⟨a, b, c, rfl, T, hT, hk⟩
  · exact ys_cons (ys_if (at_w (aw_or (at_not (at_val (ae_isi B.isinstance (v_ 2) (av_ty (T := "tuple") B.tuple (by decide +kernel)) (.ty "tuple") hT hk ⟨false, rfl, fun _ => ⟨fun _ => ys_one (ys_raise XI hr (by decide) rfl (aa_cons (s_.val (aa_nil ⟨rfl, .ok hp⟩)))), ntf⟩, ntf⟩))))))
  · refine ys_cons (ys_if (at_w (aw_or (at_not (at_val (ae_isi B.isinstance (v_ 2) (av_ty (T := "tuple") B.tuple (by decide +kernel)) (.ty "tuple") (.tup _) (kit_ty (by decide +kernel)) ⟨true, rfl, nft, fun _ => ?_⟩))))))
    exact aw_or (at_cmp (av_len B.len (v_ 2) .t) i_ cmp_neI ⟨fun _ => ⟨fun _ => ys_one (ys_raise XI hr (by decide) rfl (aa_cons (s_.val (aa_nil ⟨rfl, .ok hp⟩)))), ntf⟩, fun h => absurd h (by simp; omega)⟩)
  · refine ys_cons (ys_if (at_w (aw_or (at_not (at_val (ae_isi B.isinstance (v_ 2) (av_ty (T := "tuple") B.tuple (by decide +kernel)) (.ty "tuple") (.tup _) (kit_ty (by decide +kernel)) ⟨true, rfl, nft, fun _ => ?_⟩))))))
    refine aw_or (at_cmp (av_len B.len (v_ 2) .t) i_ cmp_neI ⟨fun h => by simp at h, fun _ => ?_⟩)
    exact aw_or1 (at_not (at_val (ae_isi B.isinstance (av_ixT (v_ 2) i_ (d := b) rfl) (av_ty (T := "tuple") B.tuple (by decide +kernel)) (.ty "tuple") hT hk ⟨false, rfl, fun _ => ys_one (ys_raise XI hr (by decide) rfl (aa_cons (s_.val (aa_nil ⟨rfl, .ok hp⟩)))), ntf⟩)))
/-! ### check_path: something of a path's form -/
def ItD (K : PySem.W.Frag) (M : Mem) (d : Val) : Prop := (NIy K M d ∧ ∀ v : Int, d ≠ .int v) ∨ ∃ v : Int, d = .int v
def eqI (d : Val) (n : Int) : Bool := match d with | .int v => decide (v = n) | _ => false
theorem eqI_no {d : Val} {n : Int} (h : ∀ v : Int, d ≠ .int v) : eqI d n = false := by
  cases d <;> first | rfl | exact absurd rfl (h _)
theorem ae_ieq {X : Cx} {Γ : Gam} {M : Mem} {R : Val → Mem → Prop} {e b : Expr} {p1 pos : Pos} {m : Nat} {d : Val} {n : Int} (G : GIeq X.prog X.w X.K X.mg X.base) (hr : Rm m X.A) (hm : 2 ≤ m) (he : aV X e Γ M d) (hb : aV X b Γ M (.int n)) (n0 : 0 ≤ n) (h : ItD X.K M d) (hR : R (.bl (eqI d n)) M)
    (hg : Gl X "is_equal" := by rfl) (he1 : starEach [e, b] X.env = [(false, eval e X.env), (false, eval b X.env)] := by rfl) (he2 : starEach [b] X.env = [(false, eval b X.env)] := by rfl) : aE X (.Call (.Name "is_equal" p1) [e, b] [] pos) Γ M R := by
  refine ae_g G hr hm (aa_cons (he.val (aa_cons (hb.val (aa_nil (ak_nil ⟨rfl, d, n, rfl, n0, ?_⟩))) (by rw [he2]; rfl))) (by rw [he1, he2])) hg rfl rfl (by decide) (by rw [he1, he2]) (by rw [he1]; rfl)
  rcases h with ⟨h, hv⟩ | ⟨v, rfl⟩
  · refine .inl ⟨h, ?_⟩
    rw [eqI_no hv] at hR
    exact hR
  · exact .inr ⟨v, rfl, hR⟩
/-- the part at which it differs -/
def stEq (ys : List Val) (x : List Nat) : Bool := decide (ys.length = x.length) && (List.range x.length).all fun i => eqI (ys.getD i .non) ((x.getD i 0 : Nat) : Int)
def aCpS (K : PySem.W.Frag) (C CI : Addr) (nd : Sc → Nat → List Nat → Val) : ASe := fun ds M R PE => ∃ (S : Sc) (n : Int) (a c : Val) (ys : List Val), ds = [scV C S, .int n, .tup [a, .tup ys, c]] ∧ GoodS S ∧ 1 ≤ n ∧ n < 2 ^ 2000 ∧ ItD K M a ∧ ItD K M c ∧ ys.length ≤ 10000 ∧ (∀ y ∈ ys, ∀ q : Addr × Cell, ItD K (q :: M) y) ∧
  ∀ st x r, PathS S n st x r → if eqI a (st : Int) = false then PE CI [("part", .str "stage")] M else if stEq ys x = false then PE CI [("part", .str "steps")] M else if eqI c r = false then PE CI [("part", .str "rest")] M else R (nd S st x) M
theorem e_check_pathS {CI CN CS CB : Addr} (B : Bt mg) (mz : mg "zip" = none) (N : NdT K mg CN CS CB) (LD : NLd P w K mg base C CN CS CB) (GL : GLpa P w K mg base C) (GE : GIeq P w K mg base) (XI : XMk P w K mg base "InvalidCertificate" CI 1 (g1 "part")) : BodyE P w K mg base 7 f n_check_path "check_path" (defScope s_check_path) (defBody s_check_path) (aCpS K C CI fun S st x => ndV C CS CB S (st - x.length) (dval S.a.toNat 0 x)) := by
  rintro cdv A outer s0 H E hr po ds M R PE ⟨S, n, a, c, ys, rfl, hS, n1, n2, ha, hc, hl, hy, hp⟩
  refine ys_cons (ys_of (as_asg (ae_g GL hr (by decide) (aa_cons ((v_ 0).val (aa_cons ((v_ 1).val (aa_nil (ak_nil ⟨rfl, S, n, rfl, hS, n1, n2, fun st x r hst hx => ?_⟩)))))))))
  refine ag_tup rfl (ags_cons (ag_name 3 q_check_path.nd (ags_cons (ag_name 4 q_check_path.nd (ags_cons (ag_name 5 q_check_path.nd (ags_nil ?_)))))))
  have hq := hp st x r hx
  obtain ⟨lp, lg, sm, FL⟩ := LD.ex
  refine ys_cons (ys_of (as_if (at_w (aw_or (at_not (at_val (ae_isi B.isinstance (v_ 2) (av_ty (T := "tuple") B.tuple (by decide +kernel)) (.ty "tuple") (.tup _) (kit_ty (by decide +kernel)) ⟨true, rfl, nft, fun _ => ?_⟩)))))))
  refine aw_or (at_cmp (av_len B.len (v_ 2) .t) i_ cmp_neI ⟨fun h => by simp at h, fun _ => ?_⟩)
  refine aw_or1 (at_not (at_val (ae_isi B.isinstance (av_ixT (v_ 2) i_ (d := .tup ys) rfl) (av_ty (T := "tuple") B.tuple (by decide +kernel)) (.ty "tuple") (.tup _) (kit_ty (by decide +kernel)) ⟨true, rfl, nft, fun _ => as_nil ?_⟩)))
  rcases h1 : eqI a (st : Int) with _ | _
  · rw [if_pos h1] at hq
    exact ys_cons (ys_if (at_not (at_val (ae_ieq GE hr (by decide) (av_ixT (v_ 2) i_ (d := a) rfl) (v_ 3) (by omega) ha ⟨false, by rw [h1], fun _ => ys_one (ys_raise XI hr (by decide) rfl (aa_cons (s_.val (aa_nil ⟨rfl, .ok hq⟩)))), ntf⟩))))
  rw [if_neg (by rw [h1]; decide)] at hq
  refine ys_cons (ys_if (at_not (at_val (ae_ieq GE hr (by decide) (av_ixT (v_ 2) i_ (d := a) rfl) (v_ 3) (by omega) ha ⟨true, by rw [h1], nft, fun _ => ys_nil ?_⟩))))
  have lx : ((x.map Int.ofNat).map Val.int).length = x.length := by rw [List.length_map, List.length_map]
  have xe : ∀ i, i < x.length → ((x.map Int.ofNat).map Val.int).getD i .non = .int ((x.getD i 0 : Nat) : Int) := fun i hi => by
    rw [List.getD_eq_getElem?_getD, List.getElem?_map, List.getElem?_map, List.getElem?_eq_getElem hi, List.getD_eq_getElem?_getD, List.getElem?_eq_getElem hi]
    rfl
  by_cases hlen : ys.length = x.length
  · have vw : Vw M (.lst ((List.range (min ys.length ((x.map Int.ofNat).map Val.int).length)).map fun i => Val.bl (eqI (ys.getD i .non) ((x.getD i 0 : Nat) : Int)))) (.lst (((List.range x.length).map fun i => eqI (ys.getD i .non) ((x.getD i 0 : Nat) : Int)).map .bl)) := by
      rw [lx, hlen, Nat.min_self, List.map_map]
      exact .self _
    have es : stEq ys x = ((List.range x.length).map fun i => eqI (ys.getD i .non) ((x.getD i 0 : Nat) : Int)).all id := by
      unfold stEq
      rw [decide_eq_true hlen, Bool.true_and, List.all_map]
      rfl
    rcases hb : stEq ys x with _ | _
    · rw [if_pos hb] at hq
      refine ys_cons (ys_if (at_w (aw_or (at_cmp (av_len B.len (av_ixT (v_ 2) i_ (d := .tup ys) rfl) .t) (av_len B.len (v_ 4) .t) cmp_neI ⟨fun h => ?_, fun _ => aw_or1 (at_not (at_val (ae_all B.all rfl (ae_lcP [("step", 6), ("due", 7)] (fun i => .bl (eqI (ys.getD i .non) ((x.getD i 0 : Nat) : Int))) rfl q_check_path.nd (blkOk_by (N := n_check_path) (sc := defScope s_check_path) (by decide +kernel)) (ai_zipT mz (aA.val (avs_cons (av_ixT (v_ 2) i_ (d := .tup ys) rfl) (avs_cons (v_ 4) avs_nil)) ⟨rfl, rfl⟩)) ?_ (by rw [lx, hlen, Nat.min_self]; omega) ⟨_, vw, false, by rw [← es, hb], fun _ => ys_one (ys_raise XI hr (by decide) rfl (aa_cons (s_.val (aa_nil ⟨rfl, .ok hq⟩)))), ntf⟩))))⟩))))
      · rw [lx, hlen] at h
        simp at h
      · intro i acc D hi s1 H1 C1 cl fp
        rw [lx, hlen, Nat.min_self] at hi
        rw [xe i hi]
        refine agw_tup rfl (agws_cons (agw_name 6 q_check_path.nd (agws_cons (agw_name 7 q_check_path.nd (agws_nil fun s1 H1 C1 cl fp => ?_)))))
        refine ae_ieq GE hr (by decide) (v_ 6) (v_ 7) (by omega) (hy _ ?_ _) ⟨rfl, rfl⟩
        rw [List.getD_eq_getElem?_getD, List.getElem?_eq_getElem (by omega)]
        exact List.getElem_mem _
    · rw [if_neg (by rw [hb]; decide)] at hq
      refine ys_cons (ys_if (at_w (aw_or (at_cmp (av_len B.len (av_ixT (v_ 2) i_ (d := .tup ys) rfl) .t) (av_len B.len (v_ 4) .t) cmp_neI ⟨fun h => ?_, fun _ => aw_or1 (at_not (at_val (ae_all B.all rfl (ae_lcP [("step", 6), ("due", 7)] (fun i => .bl (eqI (ys.getD i .non) ((x.getD i 0 : Nat) : Int))) rfl q_check_path.nd (blkOk_by (N := n_check_path) (sc := defScope s_check_path) (by decide +kernel)) (ai_zipT mz (aA.val (avs_cons (av_ixT (v_ 2) i_ (d := .tup ys) rfl) (avs_cons (v_ 4) avs_nil)) ⟨rfl, rfl⟩)) ?_ (by rw [lx, hlen, Nat.min_self]; omega) ⟨_, vw, true, by rw [← es, hb], nft, fun _ => ys_nil ?_⟩))))⟩))))
      · rw [lx, hlen] at h
        simp at h
      · intro i acc D hi s1 H1 C1 cl fp
        rw [lx, hlen, Nat.min_self] at hi
        rw [xe i hi]
        refine agw_tup rfl (agws_cons (agw_name 6 q_check_path.nd (agws_cons (agw_name 7 q_check_path.nd (agws_nil fun s1 H1 C1 cl fp => ?_)))))
        refine ae_ieq GE hr (by decide) (v_ 6) (v_ 7) (by omega) (hy _ ?_ _) ⟨rfl, rfl⟩
        rw [List.getD_eq_getElem?_getD, List.getElem?_eq_getElem (by omega)]
        exact List.getElem_mem _
      have r0 : 0 ≤ r := by have e1 := hx.rest; have e2 := hx.on.1; omega
      rcases hc1 : eqI c r with _ | _
      · rw [if_pos hc1] at hq
        exact ys_cons (ys_if (at_not (at_val (ae_ieq GE hr (by decide) (av_ixT (v_ 2) i_ (d := c) rfl) (v_ 5) r0 hc ⟨false, by rw [hc1], fun _ => ys_one (ys_raise XI hr (by decide) rfl (aa_cons (s_.val (aa_nil ⟨rfl, .ok hq⟩)))), ntf⟩))))
      rw [if_neg (by rw [hc1]; decide)] at hq
      refine ys_cons (ys_if (at_not (at_val (ae_ieq GE hr (by decide) (av_ixT (v_ 2) i_ (d := c) rfl) (v_ 5) r0 hc ⟨true, by rw [hc1], nft, fun _ => ys_nil ?_⟩))))
      exact ys_one (ys_of (as_ret (ae_smeth N.nc.rd sm FL (hr.mono (by decide)) (ae_glob N.nc.gN ⟨rfl, rfl⟩) (aa_cons ((v_ 0).val (aa_cons ((v_ 3).val (aa_cons ((v_ 4).val (aa_nil (ak_nil ⟨rfl, S, st, x, rfl, hS, hx.len, by omega, .ok hq⟩)))))))))))
  · have hb : stEq ys x = false := by
      unfold stEq
      rw [decide_eq_false hlen, Bool.false_and]
    rw [if_pos hb] at hq
    refine ys_cons (ys_if (at_w (aw_or (at_cmp (av_len B.len (av_ixT (v_ 2) i_ (d := .tup ys) rfl) .t) (av_len B.len (v_ 4) .t) cmp_neI ⟨fun _ => ⟨fun _ => ys_one (ys_raise XI hr (by decide) rfl (aa_cons (s_.val (aa_nil ⟨rfl, .ok hq⟩)))), ntf⟩, fun h => ?_⟩))))
    rw [lx] at h
    exfalso
    simp at h
    omega
end
end K14
/-! a def that may raise: called by keywords alone; keywords in the order backwards -/
namespace Ab
open PySem L2
section
variable {X : Cx} {Γ : Gam} {M : Mem} {P : Val → Mem → Prop} {PE : XP} {kws : List Keyword} {pos p1 : Pos} {x : Str} {n q : Nat} {ks : List Str} {sx : ASxe}
theorem ye_g0 (G : GdE X.prog X.w X.K X.mg X.base n x ks sx) (hr : Rm q X.A) (hq : n ≤ q) (h : aKw X kws Γ M fun zs M2 => zs.length = ks.length ∧ sx [] zs M2 P PE)
    (hg : Gl X x := by rfl) (hall : (backToKw pos (keywordEach kws X.env)).all (·.1.isSome) = true := by rfl) (hks : (backToKw pos (keywordEach kws X.env)).filterMap (·.1) = ks := by rfl) (hdb : (x == ("__debug__" : Str)) = false := by decide)
    (hpl : ((backTo pos (starEach [] X.env)).any (·.1) || (backToKw pos (keywordEach kws X.env)).any (·.1.isNone)) = false := by rfl) :
    yE X (.Call (.Name x p1) [] kws pos) Γ M P PE := fun W tk po Hi H σ ok en Q q1 y1 => by
  obtain ⟨f, F, hm, hk⟩ := G.ex
  refine ⟨fun σ H Q => WK X kws σ H fun zs H2 => zs.length = ks.length ∧ spE X.K sx [] zs H2 Q fun cls d H' => W cls d σ H', ⟨fun pins s σ H Q I h => ?_⟩, ?_⟩
  · refine wpAny_Call_Name_kw (ld_glob I hg hm ?_ hdb)
    refine PySem.W.callWith_KW0 (h₀ := X.base) I.ok.mod.kin hk hall ?_ hpl
    refine thn (pk_wk.run pos pins s σ H _ I h) fun ws s2 ⟨zs, H2, I2, rz, l2, z2⟩ => ⟨I2.kIn, ?_⟩
    rw [hks]
    exact run_e tk (F.mono hq) hr I2 .nil rz l2 z2
  · refine h Hi H σ ok en _ fun zs M2 ws Hi2 H2 h2 s2 ok2 r2 => ?_
    exact ⟨r2.length.symm.trans h2.1, Hi2, M2, [], zs, P, PE, .nil, r2, ok2, h2.2, q1.up s2, y1.up s2⟩
end
section
variable {P : Program} {w : World} {K : PySem.W.Frag} {mg : Str → Option Value} {base : Heap} {x qual : Str} {f : Addr} {fd : FuncData}
theorem fne_kwR {params : Arguments} {body : List Stmt} {sc : Scope} {kws : List (Str × V)} {N ps ks : List Str} {k n : Nat} {s0 : ASe} (F : FunD K x qual params body sc [] kws f fd) (S : FnScope N ps sc)
    (h : ∀ (kV doc pm : Value) (an : Option Addr) (cdv ct : Value) (us ws : List Value), us.length = n → ws.length = ks.length → bindArgs (PySem.W.fnOf x qual params body sc .none kV doc pm an cdv ct) ⟨us, ks.zip ws⟩ = pure (ps.zip (us ++ ws.reverse)))
    (len : ∀ ds M R PE, s0 ds M R PE → ds.length = ps.length) (hb : BodyE P w K mg base k f N qual sc body s0) : FnE P w K mg base (k + 1) f ks (spE K fun ds es M R PE => ds.length = n ∧ s0 (ds ++ es.reverse) M R PE) :=
  fne_kbn (fun ds es => ds ++ es.reverse) F S (kbn_rev F h) (fun H ds vs es zs r1 r2 _ _ => r1.append (repA_rev r2)) len hb
end
end Ab
namespace K14
open PySem L2 Ab Sm
section
variable {P : Program} {w : World} {K : PySem.W.Frag} {mg : Str → Option Value} {base : Heap} {k : Nat} {f C CX CN CI : Addr}
/-! ### need_schedule, label_path refuse -/
/-- no schedule -/
def NSch (K : PySem.W.Frag) (C : Addr) (M : Mem) (d : Val) : Prop := ∃ T, TyY K M d T ∧ PySem.W.kitOne K T (.ref C) = some false
def aNscX (K : PySem.W.Frag) (C CX : Addr) : ASe := fun ds M R PE => ∃ d, ds = [d] ∧ NSch K C M d ∧ PE CX [("part", .str "schedule")] M
theorem e_need_schedule (B : Bt mg) (T : Rs K mg C) (XS : XMk P w K mg base "InvalidSchedule" CX 1 (g1 "part")) : BodyE P w K mg base 2 f n_need_schedule "need_schedule" (defScope s_need_schedule) (defBody s_need_schedule) (aNscX K C CX) := by
  rintro cdv A outer s0 H E hr po ds M R PE ⟨d, rfl, ⟨t, ht, hk⟩, hp⟩
  exact ys_one (ys_if (at_not (at_val (ae_isiY B.isinstance (v_ 0) (ae_glob T.gC ⟨rfl, rfl⟩) (.own C) ht hk ⟨false, rfl, fun _ => ys_one (ys_raise XS hr (by decide) rfl (aa_cons (s_.val (aa_nil ⟨rfl, .ok hp⟩)))), ntf⟩))))
abbrev GNscX (P : Program) (w : World) (K : PySem.W.Frag) (mg : Str → Option Value) (base : Heap) (C CX : Addr) : Prop := GdE P w K mg base 3 "need_schedule" [] fun ds _ => aNscX K C CX ds
/-- no label -/
def LbBad (K : PySem.W.Frag) (M : Mem) (d : Val) (lo : Int) : Prop := NIy K M d ∨ ∃ n : Int, d = .int n ∧ n < lo
def aLpaX (K : PySem.W.Frag) (C CX CN : Addr) : ASe := fun ds M R PE => (∃ d l, ds = [d, l] ∧ NSch K C M d ∧ PE CX [("part", .str "schedule")] M) ∨ ∃ (S : Sc) (l : Val), ds = [scV C S, l] ∧ LbBad K M l 1 ∧ PE CN [("number", l)] M
theorem e_label_path (GS : GNsc P w K mg base C) (GSX : GNscX P w K mg base C CX) (GI : GInn P w K mg base) (GN : GInnN P w K mg base) (XN : XMk P w K mg base "InvalidNumber" CN 1 (g1 "number")) : BodyE P w K mg base 4 f n_label_path "label_path" (defScope s_label_path) (defBody s_label_path) (aLpaX K C CX CN) := by
  rintro cdv A outer s0 H E hr po ds M R PE (⟨d, l, rfl, hd, hp⟩ | ⟨S, l, rfl, hl, hp⟩)
  · exact ys_cons (ys_expr (ye_g GSX hr (by decide) (aa_cons ((v_ 0).val (aa_nil (ak_nil ⟨rfl, d, rfl, hd, .ok hp⟩))))))
  · refine ys_cons (ys_of (as_expr (ae_g GS hr (by decide) (aa_cons ((v_ 0).val (aa_nil (ak_nil ⟨rfl, S, rfl, ?_⟩)))))))
    rcases hl with hl | ⟨n, rfl, hn⟩
    · exact ys_cons (ys_if (at_not (at_val (ae_g GN hr (by decide) (aa_cons ((v_ 1).val (aa_cons (i_.val (aa_nil (ak_nil ⟨rfl, l, _, rfl, hl, false, rfl, fun _ => ys_one (ys_raise XN hr (by decide) rfl (aa_cons ((v_ 1).val (aa_nil ⟨rfl, .ok hp⟩)))), ntf⟩))))))))))
    · refine ys_cons (ys_if (at_not (at_val (ae_g GI hr (by decide) (aa_cons ((v_ 1).val (aa_cons (i_.val (aa_nil (ak_nil ⟨rfl, n, 1, rfl, false, ?_, fun _ => ys_one (ys_raise XN hr (by decide) rfl (aa_cons ((v_ 1).val (aa_nil ⟨rfl, .ok hp⟩)))), ntf⟩))))))))))
      rw [decide_eq_false (by omega)]
abbrev GLpaX (P : Program) (w : World) (K : PySem.W.Frag) (mg : Str → Option Value) (base : Heap) (C CX CN : Addr) : Prop := GdE P w K mg base 5 "label_path" [] fun ds _ => aLpaX K C CX CN ds
/-! ### check_path, whole -/
def aCpX (K : PySem.W.Frag) (C CX CN : Addr) : ASe := fun ds M R PE => ∃ a b c, ds = [a, b, c] ∧ aLpaX K C CX CN [a, b] M (fun _ _ => False) PE
theorem e_check_pathX (GX : GLpaX P w K mg base C CX CN) : BodyE P w K mg base 5 f n_check_path "check_path" (defScope s_check_path) (defBody s_check_path) (aCpX K C CX CN) := by
  rintro cdv A outer s0 H E hr po ds M R PE ⟨a, b, c, rfl, h⟩
  refine ys_cons (ys_asg (ye_g GX hr (by decide) (aa_cons ((v_ 0).val (aa_cons ((v_ 1).val (aa_nil (ak_nil ⟨rfl, ?_⟩))))))))
  rcases h with ⟨d, l, e, hd, hp⟩ | ⟨S, l, e, hl, hp⟩
  · exact .inl ⟨d, l, e, hd, .ok hp⟩
  · exact .inr ⟨S, l, e, hl, .ok hp⟩
def aCp (K : PySem.W.Frag) (C CX CN CI : Addr) (nd : Sc → Nat → List Nat → Val) : ASe := fun ds M R PE => aCpX K C CX CN ds M R PE ∨ aCpF K C CI ds M R PE ∨ aCpS K C CI nd ds M R PE
theorem aCp_len {K : PySem.W.Frag} {C CX CN CI : Addr} {nd : Sc → Nat → List Nat → Val} {ds : List Val} {M : Mem} {R : Val → Mem → Prop} {PE : XP} (h : aCp K C CX CN CI nd ds M R PE) : ds.length = 3 := by
  rcases h with ⟨a, b, c, rfl, _⟩ | ⟨S, n, d, rfl, _⟩ | ⟨S, n, a, c, ys, rfl, _⟩ <;> rfl
theorem e_check_path {CO CS CB : Addr} (B : Bt mg) (mz : mg "zip" = none) (N : NdT K mg CO CS CB) (LD : NLd P w K mg base C CO CS CB) (GL : GLpa P w K mg base C) (GX : GLpaX P w K mg base C CX CN) (GE : GIeq P w K mg base) (XI : XMk P w K mg base "InvalidCertificate" CI 1 (g1 "part")) : BodyE P w K mg base 7 f n_check_path "check_path" (defScope s_check_path) (defBody s_check_path) (aCp K C CX CN CI fun S st x => ndV C CS CB S (st - x.length) (dval S.a.toNat 0 x)) := by
  rintro cdv A outer s0 H E hr po ds M R PE (h | h | h)
  · exact e_check_pathX GX cdv A outer s0 H E (hr.mono (by decide)) po ds M R PE h
  · exact e_check_pathF B GL XI cdv A outer s0 H E (hr.mono (by decide)) po ds M R PE h
  · exact e_check_pathS B mz N LD GL GE XI cdv A outer s0 H E hr po ds M R PE h
/-- check_path as it is called -/
structure GCp (P : Program) (w : World) (K : PySem.W.Frag) (mg : Str → Option Value) (base : Heap) (C CX CN CI : Addr) (nd : Sc → Nat → List Nat → Val) : Prop where
  p : GdE P w K mg base 8 "check_path" [] fun ds _ => aCp K C CX CN CI nd ds
  k : GdE P w K mg base 8 "check_path" ["path", "label", "schedule"] fun ds es M R PE => ds.length = 0 ∧ aCp K C CX CN CI nd (ds ++ es.reverse) M R PE
end
end K14
namespace K14
open PySem L2 Ab Sm
section
variable {P : Program} {w : World} {K : PySem.W.Frag} {mg : Str → Option Value} {base : Heap} {k : Nat} {f C C2 : Addr}
/-! ### the draws of stage 2 -/
theorem b__law_next (B : Bt mg) : BodyOk P w K mg base k f n__law_next "_law_next" (defScope s__law_next) (defBody s__law_next) aNxt := by
  rintro cdv A outer s0 H E hr ds M R ⟨a, i, N, n, rfl, ⟨cs, t, y, hm, hne, hl, ht0, htN⟩, hN, hn, hn2, hp⟩
  have hil := (List.getElem?_eq_some_iff.mp hm).1
  have hlen : 0 < cs.length := List.length_pos_iff.mpr hne
  refine as_cons (as_dput hr.u1 (v_ 0) s_ (av_add (av_dget hr.u1 (v_ 0) s_ hm (d := .int t) rfl) i_) hm (szl (Nat.le_of_ble_eq_true rfl)) ?_)
  have hm2 : (M.set i (a, stD cs (t + 1) y))[i]? = some (a, .dk [(.inr "cells", .lst (cs.map .int)), (.inr "at", .int (t + 1)), (.inr "left", .int y)]) := List.getElem?_set_self hil
  show aSs _ _ _ (M.set i (a, stD cs (t + 1) y)) _
  refine as_cons (as_ifp (tp_cmp (av_dget hr.u1 (v_ 0) s_ hm2 (d := .int y) rfl) i_ cp_gt) (fun hx => ?_) (fun hx => as_nil ?_))
  · refine as_cons (as_setv 2 q__law_next.nd (av_mod (av_dget hr.u1 (v_ 0) s_ hm2 (d := .int y) rfl) (v_ 1) hn) ?_)
    refine as_cons (as_dput hr.u1 (v_ 0) s_ (av_fdivU (av_dget hr.u1 (v_ 0) s_ hm2 (d := .int y) rfl) (v_ 1) (cdw hn hn2)) hm2 (szl (Nat.le_of_ble_eq_true rfl)) ?_)
    rw [List.set_set]
    refine as_one (as_retv (v_ 2) (.ok ?_))
    exact hp _ _ (Int.emod_nonneg _ (by omega)) (Int.emod_lt_of_pos _ hn) ⟨cs, t, y, cs, t + 1, y / n, hm, rfl, fun h => h, fun h => h, fun _ => by omega, by omega⟩
  · refine as_cons (as_par 3 4 q__law_next.nd rfl (by decide) (aA.val (avs_cons (av_dget hr.u1 (v_ 0) s_ hm2 (d := .int (t + 1)) rfl) (avs_cons (av_dget hr.u1 (v_ 0) s_ hm2 (d := .lst (cs.map .int)) rfl) avs_nil)) ⟨_, _, rfl, ?_⟩))
    have j0 : 0 ≤ (t + 1) % (cs.length : Int) := Int.emod_nonneg _ (by omega)
    have j1 : (t + 1) % (cs.length : Int) < (cs.length : Int) := Int.emod_lt_of_pos _ (by omega)
    have o1 : (7901 : Int) * (t + 1) * (t + 1) ≤ 7901 * 1000001 * 1000001 := by
      have h1 : (7901 : Int) * (t + 1) ≤ 7901 * 1000001 := by omega
      exact Int.mul_le_mul h1 (by omega) (by omega) (by decide)
    have o0 : 0 ≤ (7901 : Int) * (t + 1) * (t + 1) := Int.mul_nonneg (by omega) (by omega)
    refine as_cons (as_setv 2 q__law_next.nd (av_add (av_add (av_add (av_mod (av_ix (v_ 4) (av_mod (v_ 3) (av_lenN B.len (v_ 4) (by first | exact .iT _ | exact .iL _ | exact .mT _ _ | exact .mL _ _ | exact .cm 0 rfl | exact .cm 1 rfl | exact .cm 2 rfl | exact .c 0 rfl | exact .c 1 rfl | exact .t _ | exact .l _ | exact .cm _ (by assumption))) (by first | omega | assumption)) (by first | exact .iT (by omega) (by omega) | exact .iL (by omega) (by omega) | exact .ci 0 rfl (by omega) (by omega) | exact .ci 1 rfl (by omega) (by omega) | exact .t rfl | exact .l rfl | exact .c 0 rfl rfl | exact .c 1 rfl rfl | assumption | exact .ci _ (by assumption) (by omega) (by omega))) i_ (by first | omega | assumption)) (av_mulU (av_mulU i_ (v_ 3) (by first | exact .inl (.inl ⟨by omega, by omega⟩) | exact .inl (.inr ⟨by omega, by omega⟩) | assumption)) (v_ 3) (by first | exact .inl (.inl ⟨by omega, by omega⟩) | exact .inl (.inr ⟨by omega, by omega⟩) | assumption))) (av_mulU i_ (v_ 3) (by first | exact .inl (.inl ⟨by omega, by omega⟩) | exact .inl (.inr ⟨by omega, by omega⟩) | assumption))) i_) ?_)
    generalize at0 cs ((t + 1) % (cs.length : Int)) = z
    have z0 := Int.emod_nonneg z (show (2147483629 : Int) ≠ 0 by decide)
    have z1 := Int.emod_lt_of_pos z (show (0 : Int) < 2147483629 by decide)
    have hpw : CPow (z % 2147483629 + (7901 : Int) * (t + 1) * (t + 1) + 104711 * (t + 1) + 13) 5 := ⟨by decide, by decide, by omega⟩
    refine as_one (as_retv (av_mod (av_fdivU (av_mod (av_mulU (av_mod (av_pow (v_ 2) i_ (by first | exact ⟨by omega, by omega, by decide⟩ | assumption)) i_ (by first | omega | assumption)) i_ (by first | exact .inl (.inl ⟨by omega, by omega⟩) | exact .inl (.inr ⟨by omega, by omega⟩) | assumption)) i_ (by first | omega | assumption)) i_ (by first | exact .inl ⟨by omega, by omega⟩ | assumption)) (v_ 1) (by first | omega | assumption)) ?_)
    exact .ok (hp _ _ (Int.emod_nonneg _ (by omega)) (Int.emod_lt_of_pos _ hn) ⟨cs, t, y, cs, t + 1, y, hm, rfl, fun h => h, fun h => h, fun _ => by omega, by omega⟩)
/-! ### _law_row -/
theorem b__law_row (B : Bt mg) (D : GNx P w K mg base) : BodyOk P w K mg base 1 f n__law_row "_law_row" (defScope s__law_row) (defBody s__law_row) aRst := by
  rintro cdv A outer s0 H E hr ds M R ⟨p, i, N, lo, rfl, hs, hN, h0, h1, hp⟩
  have hu := hr.u64
  refine as_cons (as_set 2 q__law_row.nd (ae_bin (i_.val (ae_next D hr (by decide) (v_ 0) i_ hs (by omega) (by decide) (by decide) fun wd M1 w0 w1 d1 => bv_add ?_))))
  have hs1 := hs.dq d1
  have hw2 : (1 + wd).natAbs < 2 ^ 8000 := Nat.lt_of_lt_of_le (show (1 + wd).natAbs < 2 ^ 3 by omega) (Nat.pow_le_pow_right (by decide) (by decide))
  refine as_cons (as_lcJ 3 [("_law_k", 4)] rfl q__law_row.nd (blkOk_by (N := n__law_row) (sc := defScope s__law_row) (by decide +kernel)) (aj_range1 B.range (ae_next D hr (by decide) (v_ 0) i_ hs1 (by omega) (by decide) (by decide) fun c M2 c0 c1 d2 => ⟨_, rfl, by omega, by omega, ?_⟩)))
  have hs2 := hs1.dq d2
  refine ⟨by omega, fun t acc M' => ∃ xs : List Int, acc = xs.map .int ∧ xs.length = t ∧ (∀ v ∈ xs, 0 ≤ v ∧ v ≤ 3) ∧ Dq i p t M2 M', ⟨[], rfl, rfl, (fun _ h => nomatch h), hs2.refl⟩, ?_, ?_⟩
  · rintro t acc M' D' ht hl ⟨xs, rfl, hxl, hx, dt⟩ s H C' cl fp
    have hst := hs2.dq dt
    refine agw_name 4 q__law_row.nd fun s H C' cl fp => ats_nil ⟨fun _ s H C' cl fp => ?_, ntf⟩
    refine ae_next D hr (by decide) (v_ 0) (v_ 2) hst.cons (by omega) (by omega) hw2 fun v M3 v0 v1 d3 => ?_
    obtain ⟨M4, rfl, d4⟩ := d3.cons
    refine ⟨M4, rfl, xs ++ [v], by rw [List.map_append]; rfl, by rw [List.length_append, hxl]; rfl, fun u hu => ?_, dt.trans d4⟩
    rcases List.mem_append.mp hu with z | z
    · exact hx u z
    · rw [List.mem_singleton.mp z]
      omega
  rintro q acc M3 ⟨xs, rfl, hxl, hx, d3⟩
  have hs3 := hs2.dq d3
  refine as_cons (as_lcJ 5 [("_law_k", 4)] rfl q__law_row.nd (blkOk_by (N := n__law_row) (sc := defScope s__law_row) (by decide +kernel)) (aj_range1 B.range (ae_bin (i_.val (ae_next D hr (by decide) (v_ 0) i_ hs3.cons (by omega) (by decide) (by decide) fun e M4 e0 e1 d4 => bv_add ⟨_, rfl, by omega, by omega, ?_⟩)))))
  obtain ⟨M5, rfl, d5⟩ := d4.cons
  have hs5 := hs3.dq d5
  refine ⟨by omega, fun t acc M' => ∃ (ys : List Int) (M6 : Mem), acc = ys.map .int ∧ M' = (q, .lst (xs.map .int)) :: M6 ∧ ys.length = t ∧ (∀ v ∈ ys, 0 ≤ v ∧ v ≤ 3) ∧ Dq i p t M5 M6, ⟨[], M5, rfl, rfl, rfl, (fun _ h => nomatch h), hs5.refl⟩, ?_, ?_⟩
  · rintro t acc M' D' ht hl ⟨ys, M6, rfl, rfl, hyl, hy, dt⟩ s H C' cl fp
    have hst := hs5.dq dt
    refine agw_name 4 q__law_row.nd fun s H C' cl fp => ats_nil ⟨fun _ s H C' cl fp => ?_, ntf⟩
    refine ae_next D hr (by decide) (v_ 0) (v_ 2) hst.cons.cons (by omega) (by omega) hw2 fun v M7 v0 v1 d7 => ?_
    obtain ⟨M8, rfl, d8⟩ := d7.cons
    obtain ⟨M9, rfl, d9⟩ := d8.cons
    refine ⟨_, rfl, ys ++ [v], M9, by rw [List.map_append]; rfl, rfl, by rw [List.length_append, hyl]; rfl, fun u hu => ?_, dt.trans d9⟩
    rcases List.mem_append.mp hu with z | z
    · exact hy u z
    · rw [List.mem_singleton.mp z]
      omega
  rintro q2 acc M' ⟨ys, M6, rfl, rfl, hyl, hy, d6⟩
  have dd : Dq i p 9 M M6 := (((((d1.trans d2).trans d3).trans d5).trans d6)).mono (by omega)
  have y13 : 1 ≤ ys.length ∧ ys.length ≤ 3 := by omega
  have y6 : ys.length ∣ 6 := by
    rcases (show ys.length = 1 ∨ ys.length = 2 ∨ ys.length = 3 by omega) with e | e | e <;> rw [e] <;> decide
  have fin : ∀ (s : Stm), Sq3 lo s → aSs (bcx P w K mg base n__law_row "_law_row" (defScope s__law_row) f cdv A outer s0 H E) [(defBody s__law_row).getD 4 (.Pass ⟨0, 0, 0, 0⟩)] [some (.ptr p), some (.int lo), none, some (.ptr q), none, some (.ptr q2)] ((q2, .lst (s.2.map .int)) :: (q, .lst (s.1.map .int)) :: M6) (kOf R) := fun s hq => by
    exact as_one (as_ret (aE.val (av_tup (avs_cons (av_tuple B.tuple (v_ 3) (.l (.lst 1 rfl))) (avs_cons (av_tuple B.tuple (v_ 5) (.l (.lst 0 rfl))) avs_nil)) szb) (.drop (.drop (.ok (hp s M6 hq dd))))))
  have yne : ys ≠ [] := fun z' => by
    rw [z'] at y13
    simp at y13
  have sy : ∀ v ∈ ys, sm v := fun v hv => by have := hy v hv; unfold sm; omega
  have sx : ∀ v ∈ xs, sm v := fun v hv => by have := hx v hv; unfold sm; omega
  refine as_cons (as_ifp (tp_cmp (v_ 3) (av_lst avs_nil szb) (cp_neL0 (by first | exact .self _ | exact .lst 0 rfl | exact .lst 1 rfl | exact .lst 2 rfl | exact .lst 3 rfl) hr.u64)) (fun cnd => ?_) (fun cnd => ?_))
  · have hx1 : 0 < xs.length := List.length_pos_iff.mpr cnd
    refine as_one (as_asg (aE.val (av_max2 B.max rfl (av_ix (v_ 3) i_ (by first | exact .iT (by omega) (by omega) | exact .iL (by omega) (by omega) | exact .ci 0 rfl (by omega) (by omega) | exact .ci 1 rfl (by omega) (by omega) | exact .t rfl | exact .l rfl | exact .c 0 rfl rfl | exact .c 1 rfl rfl | assumption | exact .ci _ (by assumption) (by omega) (by omega))) (v_ 1)) (ag_sub (n := 1) (jj := 0) (v_ 3) i_ rfl ?_ ?_)))
    · rw [List.length_map]
      unfold ixN
      rw [if_pos (by decide), if_pos (by omega)]
      rfl
    · show aSs _ _ _ ((q2, .lst (ys.map Val.int)) :: (q, .lst ((xs.map Val.int).set 0 _)) :: M6) _
      rw [map_set0]
      have hm0 : at0 xs 0 ∈ xs := by show xs.getD 0 0 ∈ xs; rw [gd_eq hx1]; exact List.getElem_mem _
      have hm := max_sm3 h0 h1 (hx _ hm0).1 (hx _ hm0).2
      refine as_le (by repeat' first | exact le_nil | refine le_skip ?_ | refine le_keep rfl ?_) (fin (xs.set 0 _, ys) ⟨⟨by rw [List.length_set]; omega, y6, yne, fun v hv => ?_, sy, ?_⟩, fun v hv => ?_, fun v hv => (hy v hv).2, by rw [List.length_set]; omega⟩)
      · rcases set0_mem hv with rfl | hv
        · exact hm.1.1
        · exact sx v hv
      · rw [item_lt (by rw [List.length_set]; exact hx1), gd_eq (by rw [List.length_set]; exact hx1), List.getElem_set_self]
        exact hm.2
      · rcases set0_mem hv with rfl | hv
        · exact hm.1.2
        · exact (hx v hv).2
  · have hx0 : xs = [] := by simpa using cnd
    subst hx0
    have hy1 : 0 < ys.length := by omega
    refine as_one (as_asg (aE.val (av_max2 B.max rfl (av_ix (v_ 5) i_ (by first | exact .iT (by omega) (by omega) | exact .iL (by omega) (by omega) | exact .ci 0 rfl (by omega) (by omega) | exact .ci 1 rfl (by omega) (by omega) | exact .t rfl | exact .l rfl | exact .c 0 rfl rfl | exact .c 1 rfl rfl | assumption | exact .ci _ (by assumption) (by omega) (by omega))) (v_ 1)) (ag_sub (n := 0) (jj := 0) (v_ 5) i_ rfl ?_ ?_)))
    · rw [List.length_map]
      unfold ixN
      rw [if_pos (by decide), if_pos (by omega)]
      rfl
    · show aSs _ _ _ ((q2, .lst ((ys.map Val.int).set 0 _)) :: (q, .lst (([] : List Int).map .int)) :: M6) _
      rw [map_set0]
      have hm0 : at0 ys 0 ∈ ys := by show ys.getD 0 0 ∈ ys; rw [gd_eq hy1]; exact List.getElem_mem _
      have hm := max_sm3 h0 h1 (hy _ hm0).1 (hy _ hm0).2
      refine as_le (by repeat' first | exact le_nil | refine le_skip ?_ | refine le_keep rfl ?_) (fin ([], ys.set 0 _) ⟨⟨Nat.zero_le _, by rw [List.length_set]; exact y6, fun z' => yne (by simpa using z'), (fun _ h => nomatch h), fun v hv => ?_, ?_⟩, (fun _ h => nomatch h), fun v hv => ?_, Nat.zero_le _⟩)
      · rcases set0_mem hv with rfl | hv
        · exact hm.1.1
        · exact sy v hv
      · show lo ≤ item ([], ys.set 0 _) 0
        rw [item_ge (by exact Nat.le_refl _)]
        show lo ≤ lp (ys.set 0 _) 0
        rw [lp_lt (by rw [List.length_set]; exact hy1), gd_eq (by rw [List.length_set]; exact hy1), List.getElem_set_self]
        exact hm.2
      · rcases set0_mem hv with rfl | hv
        · exact hm.1.2
        · exact (hy v hv).2
abbrev GRow (P : Program) (w : World) (K : PySem.W.Frag) (mg : Str → Option Value) (base : Heap) : Prop := Gd P w K mg base 2 "_law_row" [] fun ds _ => aRst ds
abbrev GRow3 (P : Program) (w : World) (K : PySem.W.Frag) (mg : Str → Option Value) (base : Heap) : Prop := Gd P w K mg base 2 "_law_row" [] fun ds _ => aRs3 ds
theorem row3 (G : GRow P w K mg base) : GRow3 P w K mg base := gd_box3 G fun ds M R ⟨p, i, N, lo, e, hi, hN, h0, h1, hp⟩ => ⟨i, p, N, hi, fun M1 hs => ⟨p, 0, N, lo, e, hs, hN, h0, h1, fun v M' v0 d => ⟨9, d, hp v v0⟩⟩⟩
/-! ### _law_streams -/
theorem cut_len3 {g : List Int} : (cutI g none (some 3)).length = min 3 g.length := by
  unfold cutI
  rw [show (some (3 : Int)) = some ((3 : Nat) : Int) from rfl, HT.sIx_nat, HT.sIx_none, List.length_take]
  simp
theorem b__law_streams (B : Bt mg) : BodyOk P w K mg base k f n__law_streams "_law_streams" (defScope s__law_streams) (defBody s__law_streams) aSts := by
  rintro cdv A outer s0 H E hr ds M R ⟨ns, rfl, hl, hp⟩
  obtain ⟨cs, hcs, hcne, hcl⟩ : ∃ cs : List Int, cs = (if ns = [] then [0] else ns) ∧ cs ≠ [] ∧ cs.length ≤ 63 := by
    refine ⟨_, rfl, ?_, ?_⟩
    · split
      · simp
      · assumption
    · split
      · simp
      · exact hl
  refine as_cons (as_set 1 q__law_streams.nd (ae_ifp (P := fun d M' => d = iL cs ∧ M' = M) (tp_cmp (v_ 0) (av_lst avs_nil szb) (cp_neL0 (by first | exact .self _ | exact .lst 0 rfl | exact .lst 1 rfl | exact .lst 2 rfl | exact .lst 3 rfl) hr.u64)) (fun c => aE.val (av_list B.list (v_ 0) (by first | exact .t | exact .l (by first | exact .self _ | exact .lst 0 rfl | exact .lst 1 rfl | exact .lst 2 rfl | exact .lst 3 rfl))) ⟨?_, rfl⟩) (fun c => aE.val (av_lst (avs_cons i_ avs_nil) szb) ⟨?_, rfl⟩) |>.mono ?_))
  · rw [hcs, if_neg c]
    rfl
  · rw [hcs, if_pos (by simpa using c)]
    rfl
  rintro d M' ⟨rfl, rfl⟩
  refine as_cons (as_set 2 q__law_streams.nd (ae_lstC (aa_nil ⟨szb, fun q => ?_⟩)))
  refine as_cons (as_forW PassesOwn.never rfl (aj_ai (R := fun M1 => M1 = (q, .lst []) :: M') (ai_enumL (xs := (cutI cs none (some 3)).map .int) B.enumerate (aE.val (av_sliceL (v_ 1) ao_none (ao_some i_) (by first | exact .self _ | exact .lst 0 rfl | exact .lst 1 rfl | exact .lst 2 rfl | exact .lst 3 rfl)) ⟨?_, rfl⟩)) fun M1 e => ?_))
  · rw [cut_map]
  subst e
  have h6 := cut_len3 (g := cs)
  have hc1 : 0 < cs.length := List.length_pos_iff.mpr hcne
  refine ⟨fun j Γ M1 => ∃ (ps : List Addr) (Ds : Mem), M1 = (q, .lst (ps.map .ptr)) :: (Ds ++ M') ∧ ps.length = j ∧ Ds.length = j ∧ Sts Ds ps 600 ∧ Γ = [none, some (iL cs), some (.ptr q), none, none], ⟨_, _, ⟨[], [], rfl, rfl, rfl, (fun j p h => by simp at h), rfl⟩, (by repeat' first | exact le_nil | refine le_skip ?_ | refine le_keep rfl ?_), (by repeat' first | exact List.Sublist.refl _ | exact List.sublist_append_right _ _ | apply List.Sublist.cons₂ | apply List.Sublist.cons)⟩, ?_, ?_⟩
  · rintro j Γ M1 hj ⟨ps, Ds, rfl, hpl, hdl, hst, rfl⟩
    have hj' : j < (cutI cs none (some 3)).length := by simpa using hj
    show aG _ _ (Val.tup [Val.int (j : Int), ((cutI cs none (some 3)).map Val.int).getD j .non]) _ _ _
    rw [getD_int hj']
    generalize (cutI cs none (some 3))[j] = it at *
    refine ag_tup rfl (ags_cons (ag_name 3 q__law_streams.nd (ags_cons (ag_name 4 q__law_streams.nd (ags_nil ?_)))))
    refine as_one (as_expr (ae_append (n0 := 0) (v_ 2) rfl (ae_perm (ae_dict3 fun p => ap_cons s_ (d := iL (cs.drop j ++ cs.take j)) ?_ (ap_cons s_ (av_mulU i_ (v_ 3) (by first | exact .inl (.inl ⟨by omega, by omega⟩) | exact .inl (.inr ⟨by omega, by omega⟩) | assumption)) (ap_cons s_ (av_ifI (tp_cmp (v_ 4) (av_powC (v := 1000000000000000000) i_ i_ ⟨by decide, by decide, by decide⟩ (by decide)) cp_ge) (fun _ => (v_ 4)) (fun _ => i_)) (ap_nil ⟨_, rfl, Nat.le_of_ble_eq_true rfl, ?_⟩)))))))
    · have h : ∀ {X : Cx} {Γ : Gam} {M : Mem} {e : Expr}, aV X e Γ M (.lst (cutA (cs.map Val.int) (some (j : Int)) none ++ cutA (cs.map Val.int) none (some (j : Int)))) → aV X e Γ M (iL (cs.drop j ++ cs.take j)) := fun h => by
        rw [cut_map, cut_map, cut_loN (by omega), cut_hi (by omega) (by omega), Int.toNat_natCast, ← List.map_append] at h
        exact h
      refine h (av_catL (av_sliceL (v_ 1) (ao_some (v_ 3)) ao_none (by first | exact .self _ | exact .lst 0 rfl | exact .lst 1 rfl | exact .lst 2 rfl | exact .lst 3 rfl)) (av_sliceL (v_ 1) ao_none (ao_some (v_ 3)) (by first | exact .self _ | exact .lst 0 rfl | exact .lst 1 rfl | exact .lst 2 rfl | exact .lst 3 rfl)) (.self _) (.self _) (Ab.sz ?_))
      rw [cut_map, cut_map, List.length_map, List.length_map]
      have := cut_len (g := cs) (lo := some (j : Int)) (hi := none)
      have := cut_len (g := cs) (lo := none) (hi := some (j : Int))
      omega
    · refine ⟨(q, .lst (ps.map .ptr)) :: ((Ds ++ [(p, stD (cs.drop j ++ cs.take j) (83 * (j : Int)) (if (10 : Int) ^ (18 : Int).toNat ≤ it then it else 0))]) ++ M'), ?_, 0, _, rfl, szl (by rw [List.length_map]; omega), ?_⟩
      · rw [List.append_assoc]
        exact ((List.perm_middle.cons _).trans (List.Perm.swap _ _ _))
      · generalize (if (10 : Int) ^ (18 : Int).toNat ≤ it then it else 0) = lf
        show Wk _ _ ((q, Cell.lst (ps.map .ptr ++ [.ptr p])) :: ((Ds ++ [(p, stD (cs.drop j ++ cs.take j) (83 * (j : Int)) lf)]) ++ M'))
        rw [show ps.map Val.ptr ++ [.ptr p] = (ps ++ [p]).map Val.ptr by rw [List.map_append]; rfl]
        refine ⟨_, _, ⟨ps ++ [p], Ds ++ [(p, stD (cs.drop j ++ cs.take j) (83 * (j : Int)) lf)], rfl, by rw [List.length_append, hpl]; rfl, by rw [List.length_append, hdl]; rfl, fun j' p' h => ?_, rfl⟩, (by repeat' first | exact le_nil | refine le_skip ?_ | refine le_keep rfl ?_), (by repeat' first | exact List.Sublist.refl _ | exact List.sublist_append_right _ _ | apply List.Sublist.cons₂ | apply List.Sublist.cons)⟩
        rcases Nat.lt_or_ge j' ps.length with z | z
        · rw [List.getElem?_append_left z] at h
          obtain ⟨c1, t1, y1, g1, g2⟩ := hst j' p' h
          exact ⟨c1, t1, y1, by rw [List.getElem?_append_left (by omega)]; exact g1, g2⟩
        · have hlt := (List.getElem?_eq_some_iff.mp h).1
          rw [List.length_append] at hlt
          have e : j' = ps.length := by have : j' < ps.length + 1 := hlt; omega
          subst e
          rw [List.getElem?_append_right (Nat.le_refl _), Nat.sub_self] at h
          have e2 : p = p' := by simpa using h
          subst e2
          refine ⟨cs.drop j ++ cs.take j, 83 * (j : Int), _, by rw [List.getElem?_append_right (by omega), show ps.length - Ds.length = 0 by omega]; rfl, fun z => ?_, ?_, by omega, by omega⟩
          · have := congrArg List.length z
            simp at this
            omega
          · rw [List.length_append, List.length_drop, List.length_take]
            omega
  · rintro Γ M1 ⟨ps, Ds, rfl, hpl, hdl, hst, rfl⟩
    have hpl2 : ps.length = min 3 cs.length := by rw [hpl, List.length_map]; exact h6
    refine as_one (as_ret ((v_ 2).val (.frz (.ok (hp ps Ds (fun z => ?_) (by omega) (by omega) hst)))))
    rw [z] at hpl2
    simp at hpl2
    omega
/-! ### _law_plan -/
def aPlan (C : Addr) : ASp := fun ds M R => ∃ (p : Addr) (i N : Nat) (mo : Int), ds = [.ptr p, .int mo] ∧ M[i]? = some (p, st3 p N) ∧ N ≤ 800000 ∧ 2 ≤ mo ∧ mo ≤ 9 ∧ ∀ (a : Int) (s l : Stm), 2 ≤ a → a ≤ mo → Sq3 0 s → Sq3 1 l → R (.tup [.int a, stV s, stV l, scV C ⟨a, nf s, nf l⟩]) (M.set i (p, st3 p (N + 19)))
theorem Sq3.lim {lo : Int} {s : Stm} (h : Sq3 lo s) : Lim s := ⟨by have := h.l3; omega, Nat.le_of_dvd (by decide) h.sq.l2, h.sq.ne, fun v hv => ⟨(h.sq.a1 v hv).1, by have := h.a1 v hv; omega⟩, fun v hv => ⟨(h.sq.a2 v hv).1, by have := h.a2 v hv; omega⟩⟩
theorem b__law_plan (T : Rs K mg C) (I : Mks P w K mg base C) (g__law_next : GNx3 P w K mg base) (g__law_row : GRow3 P w K mg base) : BodyOk P w K mg base 5 f n__law_plan "_law_plan" (defScope s__law_plan) (defBody s__law_plan) (aPlan C) := by
  rintro cdv A outer s0 H E hr ds M R ⟨p, i, N, mo, rfl, hi, hN, m2, m9, hp⟩
  refine as_cons (as_set 2 q__law_plan.nd (ae_bin (aE.val i_ (ae_g g__law_next hr (by decide) (aa_cons (aE.val (v_ 0) (aa_cons (aE.val (av_sub (v_ 1) i_) (aa_nil (ak_nil ⟨rfl, p, i, _, _, rfl, (by first | exact hi | exact bx_get hi | exact bx_get (bx_get hi) | exact bx_get (bx_get (bx_get hi)) | exact bx_get (bx_get (bx_get (bx_get hi)))), (by omega), (by omega), (by omega), fun a a0 a1 => (bv_add ?_)⟩))))))))))
  refine as_cons (as_par 3 4 q__law_plan.nd rfl (by decide) (aa_cons (ae_g g__law_row hr (by decide) (aa_cons (aE.val (v_ 0) (aa_cons (aE.val i_ (aa_nil (ak_nil ⟨rfl, p, i, _, _, rfl, (by first | exact hi | exact bx_get hi | exact bx_get (bx_get hi) | exact bx_get (bx_get (bx_get hi)) | exact bx_get (bx_get (bx_get (bx_get hi)))), (by omega), (by decide), (by decide), fun s sh => (aa_cons (ae_g g__law_row hr (by decide) (aa_cons (aE.val (v_ 0) (aa_cons (aE.val i_ (aa_nil (ak_nil ⟨rfl, p, i, _, _, rfl, (by first | exact hi | exact bx_get hi | exact bx_get (bx_get hi) | exact bx_get (bx_get (bx_get hi)) | exact bx_get (bx_get (bx_get (bx_get hi)))), (by omega), (by decide), (by decide), fun l lh => (aa_nil ⟨_, _, rfl, ?_⟩)⟩))))))))⟩)))))))))
  simp only [List.set_set]
  have h0 : item l 0 ≠ 0 := by have := lh.sq.lo; omega
  refine as_one (as_ret (ae_tup (aa_cons (aE.val (v_ 2) (aa_cons (aE.val (v_ 3) (aa_cons (aE.val (v_ 4) (aa_cons (ae_sch T I hr (by decide) (aE.val (v_ 2) (aE.val (v_ 3) (aE.val (v_ 4) ⟨_, _, _, rfl, rfl, rfl, by omega, by omega, sh.lim, lh.lim, h0, aa_nil ⟨szb, ?_⟩⟩)))) ))))))))) 
  exact .ok (hp (2 + a) s l (by omega) (by omega) sh lh)
abbrev GPlan (P : Program) (w : World) (K : PySem.W.Frag) (mg : Str → Option Value) (base : Heap) (C : Addr) : Prop := Gd P w K mg base 6 "_law_plan" [] fun ds _ => aPlan C ds
end
end K14
/-! Ab96: a comprehension with one test, pure items -/
namespace Ab
open PySem PySem.Spec PyProof.Rows L2
section
variable {X : Cx} {Γ : Gam} {M : Mem} {P : Val → Mem → Prop} {pos : Pos}
theorem cmp_eqB {b c : Bool} : Cmp X .Eq M (.bl b) (.bl c) (decide (b = c)) := ⟨_, op_eq, fun Hi H v w ok rv rw_ Q q => by
  cases rv
  cases rw_
  refine ⟨rfl, ?_⟩
  have e : decide (V.bl b = V.bl c) = decide (b = c) := by simp
  rw [e]
  exact q _ _ _ Hi H ⟨rfl, rfl⟩ (Same.refl _) ok (.bl _)⟩
theorem cmp_neB {b c : Bool} : Cmp X .NotEq M (.bl b) (.bl c) (!decide (b = c)) := ⟨_, op_ne, fun Hi H v w ok rv rw_ Q q => by
  cases rv
  cases rw_
  refine ⟨rfl, ?_⟩
  have e : decide (V.bl b = V.bl c) = decide (b = c) := by simp
  rw [e]
  exact q _ _ _ Hi H ⟨rfl, rfl⟩ (Same.refl _) ok (.bl _)⟩
end
end Ab
namespace K14
open PySem L2 Ab GenW Sm
section
variable {P : Program} {w : World} {K : PySem.W.Frag} {mg : Str → Option Value} {base : Heap} {k : Nat} {f C CN CS CB : Addr}
/-! ### _law_great -/
def aGrt : ASp := fun ds M R => ∃ (p : Addr) (i N : Nat) (mo : Int), ds = [.ptr p, .int mo] ∧ M[i]? = some (p, st3 p N) ∧ N ≤ 900000 ∧ 9 ≤ mo ∧ mo ≤ 98 ∧ ∀ (v N' : Nat), 1 ≤ v → v < 2 ^ 320 → N' ≤ N + 12 → R (.int (v : Int)) (M.set i (p, st3 p N'))
theorem b__law_great (B : Bt mg) (g__law_next : GNx3 P w K mg base) : BodyOk P w K mg base 2 f n__law_great "_law_great" (defScope s__law_great) (defBody s__law_great) aGrt := by
  rintro cdv A outer s0 H E hr ds M R ⟨p, i, N, mo, rfl, hi, hN, m9, m98, hp⟩
  have step : ∀ (x : Cell) (N : Nat), (M.set i (p, x)).set i (p, st3 p N) = M.set i (p, st3 p N) := fun x N => by rw [List.set_set]
  have p9 : ∀ {X : Cx} {Γ : Gam} {M : Mem} {a b : Expr} {pos : Pos}, aV X a Γ M (.int 10) → aV X b Γ M (.int 9) → aV X (.BinOp a .Pow b pos) Γ M (.int 1000000000) := fun ha hb => av_powC ha hb ⟨by decide, by decide, by decide⟩ (by decide)
  refine as_cons (as_set 2 q__law_great.nd (ae_bin (i_.val (ae_g g__law_next hr (by decide) (aa_cons ((v_ 0).val (aa_cons ((p9 i_ i_).val (aa_nil (ak_nil ⟨rfl, p, i, N, 1000000000, rfl, hi, by omega, by decide, by decide, fun x x0 x1 => bv_add ?_⟩))))))))) )
  obtain ⟨v0, hv0, b0, b1⟩ : ∃ v : Nat, 1 + x = (v : Int) ∧ 1 ≤ v ∧ v ≤ 1000000000 := ⟨(1 + x).toNat, by omega, by omega, by omega⟩
  rw [hv0]
  have hdiv : mo / 9 ≤ 10 ∧ 1 ≤ mo / 9 := by omega
  refine as_cons (as_forW PassesOwn.never rfl (aj_range1 B.range (ae_g g__law_next hr (by decide) (aa_cons ((v_ 0).val (aa_cons ((av_fdivU (v_ 1) i_ (by first | exact .inl ⟨by omega, by omega⟩ | assumption)).val (aa_nil (ak_nil ⟨rfl, p, i, N + 1, mo / 9, rfl, bx_get hi, by omega, by omega, by omega, fun c c0 c1 => ⟨_, rfl, by omega, by omega, ?_⟩⟩)))))))))
  rw [step]
  refine ⟨fun t Γ M' => ∃ v : Nat, 1 ≤ v ∧ v ≤ 2 ^ (31 * (t + 1)) ∧ M' = M.set i (p, st3 p (N + 1 + 1 + t)) ∧ Γ = [some (.ptr p), some (.int mo), some (.int (v : Int)), none], ⟨_, _, ⟨v0, b0, Nat.le_trans b1 (by decide), rfl, rfl⟩, (by repeat' first | exact le_nil | refine le_skip ?_ | refine le_keep rfl ?_), (by repeat' first | exact List.Sublist.refl _ | exact List.sublist_append_right _ _ | apply List.Sublist.cons₂ | apply List.Sublist.cons)⟩, ?_, ?_⟩
  · rintro t Γ M' ht ⟨v, v1, vb, rfl, rfl⟩
    have ht : t < 10 := by omega
    refine ag_name 3 q__law_great.nd ?_
    refine as_one (as_set 2 q__law_great.nd (ae_bin ((av_mulU (v_ 2) (p9 i_ i_) (.inl (.inr ⟨by omega, by omega⟩))).val (ae_g g__law_next hr (by decide) (aa_cons ((v_ 0).val (aa_cons ((p9 i_ i_).val (aa_nil (ak_nil ⟨rfl, p, i, _, 1000000000, rfl, bx_get hi, by omega, by decide, by decide, fun y y0 y1 => bv_add ?_⟩))))))))))
    rw [step]
    have e : (v : Int) * 1000000000 + y = ((v * 1000000000 + y.toNat : Nat) : Int) := by
      rw [Int.natCast_add, Int.natCast_mul, Int.toNat_of_nonneg y0]
      rfl
    have y2 : y.toNat ≤ 1000000000 := by
      clear vb e
      omega
    rw [e]
    refine ⟨_, _, ⟨v * 1000000000 + y.toNat, Nat.le_trans v1 (Nat.le_trans (Nat.le_mul_of_pos_right v (by decide)) (Nat.le_add_right _ _)), ?_, rfl, rfl⟩, (by repeat' first | exact le_nil | refine le_skip ?_ | refine le_keep rfl ?_), (by repeat' first | exact List.Sublist.refl _ | exact List.sublist_append_right _ _ | apply List.Sublist.cons₂ | apply List.Sublist.cons)⟩
    have h1 : v * 1000000000 + y.toNat ≤ v * 2 ^ 31 := by
      refine Nat.le_trans (Nat.add_le_add_left (Nat.le_trans y2 (Nat.le_mul_of_pos_left 1000000000 v1)) _) ?_
      rw [← Nat.mul_add]
      exact Nat.mul_le_mul_left v (by decide)
    refine Nat.le_trans h1 ?_
    rw [show 31 * (t + 1 + 1) = 31 * (t + 1) + 31 by omega, Nat.pow_add]
    exact Nat.mul_le_mul_right _ vb
  · rintro Γ M' ⟨v, v1, vb, rfl, rfl⟩
    have ht : c.toNat ≤ 9 := by omega
    refine as_one (as_retv (v_ 2) (.ok (hp v _ v1 ?_ (by omega))))
    refine Nat.lt_of_le_of_lt vb (Nat.lt_of_le_of_lt (Nat.pow_le_pow_right (by decide) (show 31 * (c.toNat + 1) ≤ 310 by omega)) (Nat.pow_lt_pow_right (by decide) (by decide)))
abbrev GGrt (P : Program) (w : World) (K : PySem.W.Frag) (mg : Str → Option Value) (base : Heap) : Prop := Gd P w K mg base 3 "_law_great" [] fun ds _ => aGrt ds
/-! ### _law_is_node -/
def aIsn (C CS CB : Addr) : ASp := fun ds M R => ∃ (S : Sc) (h m : Nat), ds = [ndV C CS CB S h m, .int (h : Int), .int (m : Int)] ∧ h ≤ 3000 ∧ m < 2 ^ 1900 ∧ R (.bl true) M
theorem b__law_is_node (B : Bt mg) (mr : mg "repr" = none) (N : NdT K mg CN CS CB) (PH : NPr P w K mg base CS CB "height" 1 (aPhe C CS CB)) (Q : NRp P w K mg base C CS CB) : BodyOk P w K mg base 4 f n__law_is_node "_law_is_node" (defScope s__law_is_node) (defBody s__law_is_node) (aIsn C CS CB) := by
  rintro cdv A outer s0 H E hr ds M R ⟨S, h, m, rfl, h30, hm, hp⟩
  have hu := hr.u64
  have kS : PySem.W.kitOne K (.ref (ndX CS CB m)) (.ref CS) = some (decide (m = 0)) := by
    unfold ndX
    by_cases z : m = 0
    · rw [if_pos z, decide_eq_true z]
      exact N.s.is.c5
    · rw [if_neg z, decide_eq_false z]
      exact N.bS
  have kB : PySem.W.kitOne K (.ref (ndX CS CB m)) (.ref CB) = some (!decide (m = 0)) := by
    unfold ndX
    by_cases z : m = 0
    · rw [if_pos z, decide_eq_true z]
      exact N.sB
    · rw [if_neg z, decide_eq_false z]
      exact N.b.is.c5
  refine as_cons (as_par 3 4 q__law_is_node.nd rfl (by decide) (aa_cons (ae_isi B.isinstance (v_ 0) (ae_glob N.gS ⟨rfl, rfl⟩) (.own CS) (ty_nd N) kS (aa_cons (ae_isi B.isinstance (v_ 0) (ae_glob N.gB ⟨rfl, rfl⟩) (.own CB) (ty_nd N) kB (aa_nil ⟨_, _, rfl, ?_⟩)))))) 
  refine as_cons (as_if (at_w (aw_or (at_not (at_val (ae_isi B.isinstance (v_ 0) (ae_glob N.nc.gN ⟨rfl, rfl⟩) (.own CN) (ty_nd N) (N.kN m) ⟨true, rfl, nft, fun _ => aw_or (at_cmp (v_ 3) (v_ 4) (cmp_eqB.eq (b' := false) ?_) ⟨nft, fun _ => aw_or1 (at_cmp (v_ 3) (ae_cmp (v_ 2) i_ cmp_eqI ⟨rfl, rfl⟩) (cmp_neB.eq (b' := false) ?_) ⟨nft, fun _ => as_nil ?_⟩)⟩)⟩))))))
  · cases decide (m = 0) <;> rfl
  · have e : decide ((m : Int) = 0) = decide (m = 0) := by
      by_cases z : m = 0
      · rw [decide_eq_true z, decide_eq_true (by omega)]
      · rw [decide_eq_false z, decide_eq_false (by omega)]
    rw [e, decide_eq_true rfl]
    rfl
  refine as_cons (as_setv (d := .str (ndT h m)) 5 q__law_is_node.nd ?_ ?_)
  · by_cases z : m = 0
    · subst z
      exact ae_ifp (tp_cmp (v_ 2) i_ cp_eq) (fun _ => (sp_parts (v_ 1) (show30 (by omega))).val ⟨rfl, rfl⟩) (fun c => absurd rfl c)
    · have e : ndT h m = brT h m := if_neg z
      rw [e]
      exact ae_ifp (tp_cmp (v_ 2) i_ cp_eq) (fun c => absurd c (by omega)) (fun _ => (br_parts (v_ 1) (v_ 2) (show30 (by omega)) (showN hm)).val ⟨rfl, rfl⟩)
  have sh : shV (.lst [.int (h : Int), .int (m : Int)]) := ⟨show30 (by omega), showN hm, trivial⟩
  have wd : wdV (.lst [.int (h : Int), .int (m : Int)]) ≤ sizeLine := szb
  refine as_one (as_ret (ae_and (ae_cmp (av_repr (v := .lst [.int (h : Int), .int (m : Int)]) hr mr (av_lst (avs_cons (ae_npr N PH hr (by decide) (v_ 0) ⟨S, h, m, rfl, rfl, rfl⟩) (avs_cons (av_ndI N (v_ 0)) avs_nil)) szb) trivial sh wd (Nat.le_of_ble_eq_true rfl)) (av_repr (v := .lst [.int (h : Int), .int (m : Int)]) hr mr (av_lst (avs_cons (v_ 1) (avs_cons (v_ 2) avs_nil)) szb) trivial sh wd (Nat.le_of_ble_eq_true rfl)) (Ab.cmp_eqST rfl) ⟨true, rfl, fun _ => ?_, ntf⟩)))
  exact ae_one (ae_cmp (ae_nrepr N Q hr (by decide) mr (v_ 0) (by omega) hm ⟨rfl, rfl⟩) (v_ 5) (Ab.cmp_eqST rfl) (.ok hp))
abbrev GIsn (P : Program) (w : World) (K : PySem.W.Frag) (mg : Str → Option Value) (base : Heap) (C CS CB : Addr) : Prop := Gd P w K mg base 5 "_law_is_node" [] fun ds _ => aIsn C CS CB ds
/-! ### _law_up, _law_key -/
/-! ### _law_name -/
end
end K14
/-! texts of tuples by repr, told apart -/
namespace Sm
open PySem L2 Ab
theorem tl_int (n : Nat) : TL.tl (PyData.int ((n : Nat) : Int)).shown = TL.numL n := by
  unfold PyData.shown
  exact TL.tl_num n
theorem joinL_nil {S : List Nat} {ps : List (List Nat)} (h : TL.joinL (44 :: S) ps = []) : ps = [] ∨ ps = [[]] := by
  match ps, h with
  | [], _ => exact .inl rfl
  | [p], h => exact .inr (by rw [show p = [] from h])
  | p :: q :: r, h =>
    have : (p ++ (44 :: S ++ TL.joinL (44 :: S) (q :: r))).length = 0 := by rw [show p ++ (44 :: S ++ TL.joinL (44 :: S) (q :: r)) = [] from h]; rfl
    simp at this
theorem tup_tl (ts : List Str) : TL.tl (tupleText ts) = 40 :: (TL.joinL [44, 32] (ts.map TL.tl) ++ (if ts.length = 1 then [44, 41] else [41])) := by
  unfold tupleText
  rw [TL.tl_append, TL.tl_append, TL.tl_join]
  have e1 : TL.tl (("(" : String) : Str) = [40] := by decide
  have e2 : TL.tl ((", " : String) : Str) = [44, 32] := by decide
  rw [e1, e2]
  by_cases h : ts.length = 1
  · rw [if_pos h, if_pos (by rw [h]; rfl)]
    have e3 : TL.tl ((",)" : String) : Str) = [44, 41] := by decide
    rw [e3]
    rfl
  · rw [if_neg h, if_neg (by simpa using h)]
    have e3 : TL.tl ((")" : String) : Str) = [41] := by decide
    rw [e3]
    rfl
theorem split_at {c : Nat} : ∀ {p q r s : List Nat}, c ∉ p → c ∉ q → p ++ c :: r = q ++ c :: s → p = q ∧ r = s
  | [], [], _, _, _, _, h => ⟨rfl, (List.cons.inj h).2⟩
  | [], y :: q, _, _, _, h2, h => absurd (List.mem_cons.mpr (.inl (List.cons.inj h).1)) h2
  | x :: p, [], _, _, h1, _, h => absurd (List.mem_cons.mpr (.inl (List.cons.inj h).1.symm)) h1
  | x :: p, y :: q, _, _, h1, h2, h => by
    obtain ⟨e1, e2⟩ := List.cons.inj h
    obtain ⟨e3, e4⟩ := split_at (fun z => h1 (List.mem_cons_of_mem _ z)) (fun z => h2 (List.mem_cons_of_mem _ z)) e2
    exact ⟨by rw [e1, e3], e4⟩
/-- tuples of texts without commas -/
theorem tup_inj {ts us : List Str} (h1 : ∀ t ∈ ts, 44 ∉ TL.tl t) (h2 : ∀ t ∈ us, 44 ∉ TL.tl t) (n1 : ∀ t ∈ ts, TL.tl t ≠ []) (n2 : ∀ t ∈ us, TL.tl t ≠ []) (h : tupleText ts = tupleText us) : ts = us := by
  have e := congrArg TL.tl h
  rw [tup_tl, tup_tl] at e
  have e := (List.cons.inj e).2
  have one : ∀ {t : Str} {us : List Str}, 44 ∉ TL.tl t → (∀ t ∈ us, 44 ∉ TL.tl t) → us.length ≠ 1 → TL.tl t ++ [44, 41] = TL.joinL [44, 32] (us.map TL.tl) ++ [41] → False := fun {t us} ht hu hl e => by
    match us, hu, hl, e with
    | [], _, _, e =>
      have := congrArg List.length e
      rw [List.length_append] at this
      simp [TL.joinL] at this
    | [_], _, hl, _ => exact hl rfl
    | u :: v :: r, hu, _, e =>
      have e : TL.tl t ++ 44 :: [41] = TL.tl u ++ 44 :: (32 :: (TL.joinL [44, 32] ((v :: r).map TL.tl) ++ [41])) := by
        rw [e]
        show (TL.tl u ++ ([44, 32] ++ TL.joinL [44, 32] ((v :: r).map TL.tl))) ++ [41] = _
        simp
      have := (split_at ht (hu u List.mem_cons_self) e).2
      exact absurd (List.cons.inj this).1 (by decide)
  by_cases c1 : ts.length = 1 <;> by_cases c2 : us.length = 1
  · rw [if_pos c1, if_pos c2] at e
    obtain ⟨t, rfl⟩ := List.length_eq_one_iff.mp c1
    obtain ⟨u, rfl⟩ := List.length_eq_one_iff.mp c2
    have e : TL.tl t ++ [44, 41] = TL.tl u ++ [44, 41] := e
    rw [TL.ext_tl (List.append_cancel_right e)]
  · rw [if_pos c1, if_neg c2] at e
    obtain ⟨t, rfl⟩ := List.length_eq_one_iff.mp c1
    exact (one (h1 t List.mem_cons_self) h2 c2 e).elim
  · rw [if_neg c1, if_pos c2] at e
    obtain ⟨t, rfl⟩ := List.length_eq_one_iff.mp c2
    exact (one (h2 t List.mem_cons_self) h1 c1 e.symm).elim
  · rw [if_neg c1, if_neg c2] at e
    have e := List.append_cancel_right e
    by_cases d1 : ts = []
    · subst d1
      rcases joinL_nil e.symm with h | h
      · exact (List.map_eq_nil_iff.mp h).symm
      · exact absurd (by rw [← List.length_map (f := TL.tl), h]; rfl) c2
    by_cases d2 : us = []
    · subst d2
      rcases joinL_nil e with h | h
      · exact List.map_eq_nil_iff.mp h
      · exact absurd (by rw [← List.length_map (f := TL.tl), h]; rfl) c1
    have m1 : ∀ p ∈ ts.map TL.tl, 44 ∉ p := fun p hp => by
      obtain ⟨t, ht, rfl⟩ := List.mem_map.mp hp
      exact h1 t ht
    have m2 : ∀ p ∈ us.map TL.tl, 44 ∉ p := fun p hp => by
      obtain ⟨t, ht, rfl⟩ := List.mem_map.mp hp
      exact h2 t ht
    have g1 := TL.spl_join (S := [32]) (fun h => d1 (List.map_eq_nil_iff.mp h)) m1
    have g2 := TL.spl_join (S := [32]) (fun h => d2 (List.map_eq_nil_iff.mp h)) m2
    rw [e, g2] at g1
    exact (TL.map_tl_inj g1).symm
/-- the values that stand in for others -/
def oddP : List PyData := [.none, .bool true, .bool false, .str "1", .tuple [.int 1], .list [.int 1], .int (-1)]
def AtomP (p : PyData) : Prop := (∃ n : Nat, p = .int ((n : Nat) : Int)) ∨ p ∈ oddP
theorem odd_sign : ∀ p ∈ oddP, ∃ c ∈ TL.tl p.shown, (c < 48 ∨ 57 < c) := by
  intro p hp
  simp only [oddP, List.mem_cons, List.not_mem_nil, or_false] at hp
  rcases hp with rfl | rfl | rfl | rfl | rfl | rfl | rfl
  · exact ⟨78, by decide +kernel, by decide⟩
  · exact ⟨84, by decide +kernel, by decide⟩
  · exact ⟨70, by decide +kernel, by decide⟩
  · exact ⟨39, by decide +kernel, by decide⟩
  · exact ⟨40, by decide +kernel, by decide⟩
  · exact ⟨91, by decide +kernel, by decide⟩
  · exact ⟨45, by decide +kernel, by decide⟩
theorem atom_shown {p : PyData} (h : AtomP p) {n : Nat} : p.shown = (PyData.int ((n : Nat) : Int)).shown ↔ p = .int ((n : Nat) : Int) := by
  refine ⟨fun e => ?_, fun e => by rw [e]⟩
  have e := congrArg TL.tl e
  rw [tl_int] at e
  rcases h with ⟨m, rfl⟩ | h
  · rw [tl_int] at e
    rw [TL.numL_inj e]
  · obtain ⟨c, hc, h2⟩ := odd_sign p h
    rw [e] at hc
    exact absurd hc (TL.numL_free h2)
theorem joinL_has {S : List Nat} {c : Nat} : ∀ {ps : List (List Nat)} {p : List Nat}, p ∈ ps → c ∈ p → c ∈ TL.joinL S ps
  | [q], p, hp, hc => by
    rw [List.mem_singleton.mp hp] at hc
    exact hc
  | q :: r :: s, p, hp, hc => by
    show c ∈ q ++ (S ++ TL.joinL S (r :: s))
    rcases List.mem_cons.mp hp with rfl | hp
    · exact List.mem_append_left _ hc
    · exact List.mem_append_right _ (List.mem_append_right _ (joinL_has hp hc))
theorem joinL_free {S : List Nat} {c : Nat} (hS : c ∉ S) : ∀ {ps : List (List Nat)}, (∀ p ∈ ps, c ∉ p) → c ∉ TL.joinL S ps
  | [], _ => fun h => nomatch h
  | [q], h => h q List.mem_cons_self
  | q :: r :: s, h => fun hc => by
    rcases List.mem_append.mp (show c ∈ q ++ (S ++ TL.joinL S (r :: s)) from hc) with hc | hc
    · exact h q List.mem_cons_self hc
    · rcases List.mem_append.mp hc with hc | hc
      · exact hS hc
      · exact joinL_free hS (fun p hp => h p (List.mem_cons_of_mem _ hp)) hc
theorem shownAll_map : ∀ ps : List PyData, PyData.shownAll ps = ps.map PyData.shown
  | [] => by unfold PyData.shownAll; rfl
  | p :: ps => by unfold PyData.shownAll; rw [shownAll_map ps]; rfl
theorem nat_free {n c : Nat} (h : c < 48 ∨ 57 < c) : c ∉ TL.tl (PyData.int ((n : Nat) : Int)).shown := by
  rw [tl_int]
  exact TL.numL_free h
theorem atom_comma {p : PyData} (h : AtomP p) (hp : p ≠ .tuple [.int 1]) : 44 ∉ TL.tl p.shown := by
  rcases h with ⟨n, rfl⟩ | h
  · exact nat_free (by decide)
  · simp only [oddP, List.mem_cons, List.not_mem_nil, or_false] at h
    rcases h with rfl | rfl | rfl | rfl | rfl | rfl | rfl
    · decide +kernel
    · decide +kernel
    · decide +kernel
    · decide +kernel
    · exact absurd rfl hp
    · decide +kernel
    · decide +kernel
theorem atom_ne {p : PyData} (h : AtomP p) : TL.tl p.shown ≠ [] := by
  rcases h with ⟨n, rfl⟩ | h
  · rw [tl_int]
    exact TL.numL_ne n
  · obtain ⟨c, hc, _⟩ := odd_sign p h
    intro e
    rw [e] at hc
    exact nomatch hc
theorem map_shown : ∀ {ps : List PyData} {ns : List Nat}, (∀ p ∈ ps, AtomP p) → ps.map PyData.shown = (ns.map fun n => PyData.int ((n : Nat) : Int)).map PyData.shown → ps = ns.map fun n => PyData.int ((n : Nat) : Int)
  | [], [], _, _ => rfl
  | [], _ :: _, _, e => absurd e (by simp)
  | _ :: _, [], _, e => absurd e (by simp)
  | p :: ps, n :: ns, h, e => by
    rw [List.map_cons, List.map_cons, List.map_cons] at e
    obtain ⟨a, b⟩ := List.cons.inj e
    rw [List.map_cons, (atom_shown (h p List.mem_cons_self)).mp a, map_shown (fun q hq => h q (List.mem_cons_of_mem _ hq)) b]
theorem tup_shown {ps : List PyData} (h : ∀ p ∈ ps, AtomP p) {ns : List Nat} : (PyData.tuple ps).shown = (PyData.tuple (ns.map fun n => PyData.int ((n : Nat) : Int))).shown ↔ ps = ns.map fun n => PyData.int ((n : Nat) : Int) := by
  refine ⟨fun e => ?_, fun e => by rw [e]⟩
  unfold PyData.shown at e
  rw [shownAll_map, shownAll_map] at e
  have nn : ∀ t ∈ (ns.map fun n => PyData.int ((n : Nat) : Int)).map PyData.shown, 44 ∉ TL.tl t ∧ TL.tl t ≠ [] ∧ 40 ∉ TL.tl t := fun t ht => by
    obtain ⟨q, hq, rfl⟩ := List.mem_map.mp ht
    obtain ⟨n, _, rfl⟩ := List.mem_map.mp hq
    exact ⟨nat_free (by decide), atom_ne (.inl ⟨n, rfl⟩), nat_free (by decide)⟩
  have e2 := congrArg TL.tl e
  rw [tup_tl, tup_tl] at e2
  have e2 := (List.cons.inj e2).2
  have no40 : 40 ∉ TL.joinL [44, 32] (((ns.map fun n => PyData.int ((n : Nat) : Int)).map PyData.shown).map TL.tl) ++ (if ((ns.map fun n => PyData.int ((n : Nat) : Int)).map PyData.shown).length = 1 then [44, 41] else [41]) := fun hc => by
    rcases List.mem_append.mp hc with hc | hc
    · refine joinL_free (by decide) (fun p hp => ?_) hc
      obtain ⟨t, ht, rfl⟩ := List.mem_map.mp hp
      exact (nn t ht).2.2
    · split at hc <;> exact absurd hc (by decide)
  rw [← e2] at no40
  have no1 : PyData.tuple [.int 1] ∉ ps := fun hm => by
    refine no40 (List.mem_append_left _ (joinL_has (List.mem_map.mpr ⟨_, List.mem_map.mpr ⟨_, hm, rfl⟩, rfl⟩) ?_))
    decide +kernel
  have e3 := tup_inj (fun t ht => ?_) (fun t ht => (nn t ht).1) (fun t ht => ?_) (fun t ht => (nn t ht).2.1) e
  · exact map_shown h e3
  · obtain ⟨q, hq, rfl⟩ := List.mem_map.mp ht
    exact atom_comma (h q hq) fun e => no1 (e ▸ hq)
  · obtain ⟨q, hq, rfl⟩ := List.mem_map.mp ht
    exact atom_ne (h q hq)
end Sm
/-! S28: the labels of a branch, listed -/
namespace Sm
abbrev Tri := Nat × Nat × Int
section
variable {k : Nat} {s l : Nat → Int}
/-- x is the label number i (from 0 on) of the branch (h, v) -/
structure At (k : Nat) (s l : Nat → Int) (h v : Nat) (i : Int) (x : Tri) : Prop where
  ex : ∃ sp, x.1 ≤ h ∧ sp < k ^ (h - x.1) ∧ x.2.1 = v * k ^ (h - x.1) + sp ∧ 1 ≤ x.2.2 ∧ x.2.2 ≤ l x.1 ∧ ∀ V, 0 < V → stt k s l x.1 (V * k ^ (h - x.1) + sp) + x.2.2 = stt k s l h V + 1 + i
def Lst (k : Nat) (s l : Nat → Int) (h v : Nat) (o : Int) (L : List Tri) : Prop := ∀ (i : Nat) (x : Tri), L[i]? = some x → At k s l h v (o + (i : Int)) x
theorem Lst.nil {h v : Nat} {o : Int} : Lst k s l h v o [] := fun i x hx => by simp at hx
/-- a label of the branch (h, V) lies on the node that the list tells -/
theorem At.on {h : Nat} {i : Int} {x : Tri} (hk : 2 ≤ k) (a : At k s l h 0 i x) {V : Nat} (hV : 0 < V) : On k s l (stt k s l h V + 1 + i) x.1 (V * k ^ (h - x.1) + x.2.1) ∧ x.2.2 = stt k s l h V + 1 + i - stt k s l x.1 (V * k ^ (h - x.1) + x.2.1) := by
  obtain ⟨sp, h1, h2, h3, h4, h5, h6⟩ := a.ex
  have e : x.2.1 = sp := by rw [h3, Nat.zero_mul, Nat.zero_add]
  have h7 := h6 V hV
  rw [e]
  have hp : 0 < V * k ^ (h - x.1) + sp := by
    have : 0 < V * k ^ (h - x.1) := Nat.mul_pos hV (Nat.pow_pos (by omega))
    omega
  have := stt_pos (k := k) (s := s) (l := l) (h := x.1) hp
  exact ⟨⟨by omega, by omega⟩, by omega⟩
/-! ### outside of a branch -/
theorem within (hk : 2 ≤ k) (hl : ∀ j, 0 ≤ l j) : ∀ (d h V sp : Nat), 0 < V → sp < k ^ d → stt k s l (h + d) V ≤ stt k s l h (V * k ^ d + sp) ∧ pl k s l h (V * k ^ d + sp) ≤ stt k s l (h + d) V + siz k l (h + d)
  | 0, h, V, sp, hV, hsp => by
    have : sp = 0 := by
      rw [Nat.pow_zero] at hsp
      omega
    subst this
    rw [Nat.pow_zero, Nat.mul_one, Nat.add_zero, Nat.add_zero]
    have h1 := stt_pos (k := k) (s := s) (l := l) (h := h) hV
    have h2 : l h ≤ siz k l h := by
      cases h with
      | zero => exact Int.le_refl _
      | succ h =>
        have := siz_nn (k := k) hl h
        have : 0 ≤ (k : Int) * siz k l h := Int.mul_nonneg (by omega) this
        show l (h + 1) ≤ l (h + 1) + k * siz k l h
        omega
    exact ⟨Int.le_refl _, by omega⟩
  | d + 1, h, V, sp, hV, hsp => by
    have hp : 0 < k ^ d := Nat.pow_pos (by omega)
    have hc : sp / k ^ d < k := by
      rw [Nat.div_lt_iff_lt_mul hp, Nat.mul_comm, ← Nat.pow_succ]
      exact hsp
    have hr : sp % k ^ d < k ^ d := Nat.mod_lt _ hp
    have hdm : k ^ d * (sp / k ^ d) + sp % k ^ d = sp := Nat.div_add_mod sp (k ^ d)
    generalize sp / k ^ d = c at *
    generalize sp % k ^ d = r at *
    have hV' : 0 < V * k + c := by
      have : 1 * 1 ≤ V * k := Nat.mul_le_mul hV (by omega)
      omega
    obtain ⟨i1, i2⟩ := within hk hl d h (V * k + c) r hV' hr
    have e : V * k ^ (d + 1) + sp = (V * k + c) * k ^ d + r := by
      rw [← hdm, Nat.pow_succ, Nat.add_mul, Nat.mul_assoc, Nat.mul_comm k, Nat.mul_comm c, Nat.add_assoc]
    have h1 := stt_dig (s := s) (l := l) hk (h + d) hV hc
    have hz := siz_nn (k := k) hl (h + d)
    have hln := hl (h + d + 1)
    have hcz : 0 ≤ (c : Int) * siz k l (h + d) := Int.mul_nonneg (by omega) hz
    have hcz2 : ((c : Int) + 1) * siz k l (h + d) ≤ (k : Int) * siz k l (h + d) := Int.mul_le_mul_of_nonneg_right (by omega) hz
    rw [Int.add_mul, Int.one_mul] at hcz2
    have hs : siz k l (h + (d + 1)) = l (h + d + 1) + k * siz k l (h + d) := rfl
    rw [e, hs]
    rw [show h + (d + 1) = h + d + 1 by omega]
    exact ⟨by omega, by omega⟩
end
end Sm
/-! S15: the reading: a value as a sum of values of the pruned sequence; the nested equation of the constant schedule -/
namespace Sm
section
variable {k : Nat} {s l : Nat → Int}
theorem Cnt.sub {h : Nat} {n v u : Int} (a : Cnt k s l h n v) (b : Cnt k s l h n u) : v = u := cnt_uniq a.1 b.1 fun i => (a.2 i).trans (b.2 i).symm
theorem pl10 : pl k s l 1 0 = s 0 + s 1 := by
  rw [pl_zero, fp, if_neg (by omega)]
  rfl
theorem pl00 : pl k s l 0 0 = s 0 := by
  rw [pl_zero, fp, if_pos rfl, Int.zero_add]
/-! ### the constant schedule -/
/-- one label on each branch node, g on each spine node but the first -/
structure Kst (g : Int) (s l : Nat → Int) : Prop where
  g0 : 0 ≤ g
  s0 : s 0 = 1
  s1 : ∀ j, s (j + 1) = g
  l1 : ∀ j, l j = 1
theorem Kst.sn {g : Int} (h : Kst g s l) (j : Nat) : 0 ≤ s j := by
  cases j with
  | zero => rw [h.s0]; decide
  | succ j => rw [h.s1]; exact h.g0
theorem Kst.ln {g : Int} (h : Kst g s l) (j : Nat) : 0 ≤ l j := by rw [h.l1]; decide
theorem Kst.far {g : Int} (h : Kst g s l) (hk : 2 ≤ k) {b : Nat} (hb : 0 < b) : (b : Int) + g + 1 ≤ pl k s l 0 b := by
  obtain ⟨d, rfl⟩ : ∃ d, b = 1 + d := ⟨b - 1, by omega⟩
  have e := pl_far hk h.sn h.ln (by rw [h.l1]; decide) 0 1 d
  rw [pl_first hk, h.l1] at e
  have e2 : pl k s l (0 + 1) 0 = s 0 + s 1 := pl10
  rw [e2, h.s0, h.s1] at e
  omega
theorem Kst.le {g : Int} (h : Kst g s l) (hk : 2 ≤ k) {m v : Int} (hm : g + 1 ≤ m) (hv : Cnt k s l 0 m v) : 1 ≤ v ∧ v ≤ m - g := by
  have g0 := h.g0
  have v1 : 1 ≤ v := by
    have := (hv.2 0).mpr (by rw [pl00, h.s0]; omega)
    omega
  refine ⟨v1, ?_⟩
  rcases (show v = 1 ∨ 2 ≤ v by omega) with e | e
  · omega
  · have h1 := (hv.2 (v.toNat - 1)).mp (by omega)
    have h2 := h.far hk (b := v.toNat - 1) (by omega)
    omega
end
end Sm
/-! S16: every number has a value -/
namespace Sm
end Sm
/-! the past of a reading; the equation just before it holds -/
namespace Sm
end Sm
/-! the sum of the first places; sums of values -/
namespace Sm
/-- the sum of u / P for u below v, twice -/
def gs (P v : Nat) : Int := smN (fun u => ((u / P : Nat) : Int)) v
section
variable {k : Nat} {s l : Nat → Int}
/-- the sum of the first v places -/
def SP (k : Nat) (s l : Nat → Int) (v : Nat) : Int := smN (fun b => pl k s l 0 b) v
/-- by heights -/
def spT (k : Nat) (s l : Nat → Int) (v j : Nat) : Int := s (j + 1) * max ((v : Int) - ((k ^ j : Nat) : Int)) 0 + l (j + 1) * gs (k ^ (j + 1)) v
end
end Sm
/-! the sum of the first places, height by height, as the code adds it up -/
namespace Sm
end Sm
/-! bounds of places of leaves and of their sums; the first that fits -/
namespace Sm
end Sm
/-! S29: bounds of labels; the ends of paths -/
namespace Sm
section
variable {k : Nat} {s l : Nat → Int}
theorem dval_lt {k : Nat} : ∀ (ds : List Nat) (n : Nat), (∀ d ∈ ds, d < k) → dval k n ds < (n + 1) * k ^ ds.length
  | [], n, _ => by
    rw [List.length_nil, Nat.pow_zero, Nat.mul_one]
    exact Nat.lt_succ_self n
  | d :: ds, n, h => by
    have h1 := dval_lt ds (n * k + d) (fun x hx => h x (List.mem_cons_of_mem _ hx))
    have hd := h d List.mem_cons_self
    have h2 : (n * k + d + 1) * k ^ ds.length ≤ (n + 1) * k * k ^ ds.length := Nat.mul_le_mul_right _ (by rw [Nat.add_mul, Nat.one_mul]; omega)
    rw [List.length_cons, Nat.pow_succ, Nat.mul_comm (k ^ ds.length) k, ← Nat.mul_assoc]
    exact Nat.lt_of_lt_of_le h1 h2
theorem lab_nn (hs : ∀ j, 0 ≤ s j) (hl : ∀ j, 0 ≤ l j) (h b : Nat) : 0 ≤ lab s l h b := by unfold lab; split; exact hs h; exact hl h
theorem stt_nn (hk : 2 ≤ k) (hs : ∀ j, 0 ≤ s j) (hl : ∀ j, 0 ≤ l j) (h0 : 0 < l 0) {h b : Nat} : 0 ≤ stt k s l h b := by
  by_cases z : h = 0 ∧ b = 0
  · rw [z.1, z.2, stt_00]
    exact Int.le_refl _
  · have h1 := lf_prev hk hs hl h0 z
    have h2 := pl_mono hk hs hl h0 0 (Nat.zero_le (lf k h b - 1))
    have h3 := pl_stt (k := k) (s := s) (l := l) 0 0
    rw [stt_00] at h3
    have h4 := lab_nn hs hl 0 0
    omega
end
end Sm
/-! a label has one path -/
namespace Sm
theorem dval_ge {k : Nat} : ∀ (ds : List Nat) (n : Nat), n * k ^ ds.length ≤ dval k n ds
  | [], n => by show n * k ^ 0 ≤ n; rw [Nat.pow_zero, Nat.mul_one]; exact Nat.le_refl _
  | d :: t, n => by
    have h := dval_ge (k := k) t (n * k + d)
    have e : n * k ^ (t.length + 1) ≤ (n * k + d) * k ^ t.length := by
      rw [Nat.pow_succ, Nat.mul_comm (k ^ t.length) k, ← Nat.mul_assoc]
      exact Nat.mul_le_mul_right _ (Nat.le_add_right _ _)
    exact Nat.le_trans e h
theorem dval_inj {k : Nat} (hk : 2 ≤ k) {ds es : List Nat} (h1 : ∀ d ∈ ds, d < k) (h2 : ∀ d ∈ es, d < k) (g1 : ds = [] ∨ ∃ d t, ds = d :: t ∧ 1 ≤ d) (g2 : es = [] ∨ ∃ d t, es = d :: t ∧ 1 ≤ d) (e : dval k 0 ds = dval k 0 es) : ds = es := by
  have lo : ∀ {ds : List Nat}, (∃ d t, ds = d :: t ∧ 1 ≤ d) → k ^ (ds.length - 1) ≤ dval k 0 ds := fun {ds} ⟨d, t, e, hd⟩ => by
    subst e
    have := dval_ge (k := k) t (0 * k + d)
    rw [Nat.zero_mul, Nat.zero_add] at this
    refine Nat.le_trans ?_ (show d * k ^ t.length ≤ dval k 0 (d :: t) by show _ ≤ dval k (0 * k + d) t; rw [Nat.zero_mul, Nat.zero_add]; exact this)
    exact Nat.le_mul_of_pos_left _ hd
  have hi : ∀ {ds : List Nat}, (∀ d ∈ ds, d < k) → dval k 0 ds < k ^ ds.length := fun {ds} h => by
    have := dval_lt ds 0 h
    rwa [Nat.zero_add, Nat.one_mul] at this
  have pw : ∀ {a b : Nat}, k ^ a < k ^ b → a < b := fun h => (Nat.pow_lt_pow_iff_right (by omega)).mp h
  have len : ds.length = es.length := by
    rcases g1 with rfl | g1
    · rcases g2 with rfl | g2
      · rfl
      · have := lo g2
        have h0 := Nat.pow_pos (n := es.length - 1) (show 0 < k by omega)
        rw [← e] at this
        have : dval k 0 [] = 0 := rfl
        omega
    · rcases g2 with rfl | g2
      · have := lo g1
        have h0 := Nat.pow_pos (n := ds.length - 1) (show 0 < k by omega)
        rw [e] at this
        have : dval k 0 [] = 0 := rfl
        omega
      · have l1 := lo g1
        have l2 := lo g2
        have u1 := hi h1
        have u2 := hi h2
        have a1 := pw (Nat.lt_of_le_of_lt (e ▸ l1) u2)
        have a2 := pw (Nat.lt_of_le_of_lt (e ▸ l2) u1)
        obtain ⟨_, _, rfl, _⟩ := g1
        obtain ⟨_, _, rfl, _⟩ := g2
        simp only [List.length_cons] at *
        omega
  have e1 := drop_dig ds 0 ds.length h1 (Nat.le_refl _)
  have e2 := drop_dig es 0 es.length h2 (Nat.le_refl _)
  rw [Nat.sub_self, List.drop_zero] at e1 e2
  rw [e1, e2, len, e]
theorem PathOf.uniq {k : Nat} {s l : Nat → Int} (hk : 2 ≤ k) (hs : ∀ j, 0 ≤ s j) (hl : ∀ j, 0 ≤ l j) (h0 : 0 < l 0) {n : Int} {st st' : Nat} {ds ds' : List Nat} {r r' : Int} (p : PathOf k s l n st ds r) (q : PathOf k s l n st' ds' r') : st = st' ∧ ds = ds' ∧ r = r' := by
  obtain ⟨e1, e2⟩ := On.uniq hk hs hl h0 p.on q.on
  have e3 := dval_inj hk p.lt q.lt p.hd q.hd e2
  subst e3
  have l1 := p.len
  have l2 := q.len
  have e4 : st = st' := by omega
  subst e4
  exact ⟨rfl, rfl, p.rest.trans q.rest.symm⟩
theorem PathOf.r1 {k : Nat} {s l : Nat → Int} {n : Int} {st : Nat} {ds : List Nat} {r : Int} (p : PathOf k s l n st ds r) : 1 ≤ r := by
  have h1 := p.rest
  have h2 := p.on.lo
  omega
theorem PathOf.rn {k : Nat} {s l : Nat → Int} (hk : 2 ≤ k) (hs : ∀ j, 0 ≤ s j) (hl : ∀ j, 0 ≤ l j) (h0 : 0 < l 0) {n : Int} {st : Nat} {ds : List Nat} {r : Int} (p : PathOf k s l n st ds r) : r ≤ n := by
  have h1 := p.rest
  have h2 := stt_nn hk hs hl h0 (h := st - ds.length) (b := dval k 0 ds)
  omega
end Sm
/-! defs that make lambdas: their code object is known; the end of a law whose defs make lambdas -/
namespace Ab
open PySem PySem.Spec PyProof.Rows L2 LamX
section
variable {P : Program} {w : World} {K : PySem.W.Frag} {mg : Str → Option Value} {base : Heap}
/-- a body whose code object is at c -/
abbrev BodyT (P : Program) (w : World) (K : PySem.W.Frag) (mg : Str → Option Value) (base : Heap) (k : Nat) (f c : Addr) (N : List Str) (qual : Str) (sc : Scope) (body : List Stmt) (s0 : ASp) : Prop :=
  ∀ A outer s H E, Rm k (A.deeper (envOfC qual sc s.heap.objs.size f (.ref c))) → ∀ ds M R, s0 ds M R → aSs (bcx P w K mg base N qual sc f (.ref c) A outer s H E) body (gam N ds) M (kOf R)
theorem fnx_posT {x qual : Str} {params : Arguments} {body : List Stmt} {sc : Scope} {f c : Addr} {oc : Value} {od an : Option Addr} {osl : Array (Option Value)} {kV doc pm ct : Value} {N ps : List Str} {k : Nat} {s0 : ASp}
    (lk : K.lookup f = some ⟨oc, od, .func (PySem.W.fnOf x qual params body sc .none kV doc pm an (.ref c) ct), osl⟩) (hcd : PySem.W.codeIn K (.ref c) qual = true) (S : FnScope N ps sc)
    (h : ∀ (us : List Value), us.length = ps.length → bindArgs (PySem.W.fnOf x qual params body sc .none kV doc pm an (.ref c) ct) ⟨us, []⟩ = pure (ps.zip us))
    (len : ∀ ds M R, s0 ds M R → ds.length = ps.length) (hb : BodyT P w K mg base k f c N qual sc body s0) : FnX P w K mg base (k + 1) f [] (spX K fun ds _ => s0 ds) := by
  refine ⟨fun A outer s H us ws vs zs Q hr e0 r rz hz ⟨Hi, M, ds, es, R, ra, re, ok, hs, q⟩ => ?_⟩
  have hl := len _ _ _ hs
  have ez : zs = [] := List.length_eq_zero_iff.mp hz
  subst ez
  cases rz
  have hlv : vs.length = ps.length := ra.length.symm.trans hl
  have hlu : us.length = ps.length := r.length.symm.trans hlv
  refine StX.run_bnd (CX := CX0) (E := E0) (G := fun vs' H2 => vs' = vs ∧ H2 = H) lk hcd S hr.room e0 (fun A' Ex Q' hh => ?_) fun s2 H2 vs' hG hr' => ?_
  · show wpAny (model P w) A' (bindArgs _ ⟨us, []⟩) Q' Ex s
    rw [h us hlu]
    exact wpAny_pure (hh s H vs us e0 Un.refl rfl (fun _ _ z => z) r hlv ⟨rfl, rfl⟩)
  · obtain ⟨rfl, rfl⟩ := hG
    obtain ⟨t, p, z⟩ := body_of (hb A outer s2 H2 E0 (hr.deeper _)) (Q := Q) (vs := vs') ⟨Hi, M, ds, R, ra, ok, hs, q⟩
    exact ⟨t, p.nox, z⟩
end
/-! ### the end -/
abbrev tbM (ts : List (Addr × Str)) : Mem := ts.map fun p => (p.1, Cell.b (.tb p.2))
/-- a law's promise where tables stand -/
def aLawT (ts : List (Addr × Str)) : ASx := fun ds _ M R => ∃ ns : List Int, ds = [.lst (ns.map .int)] ∧ ns.length ≤ 63 ∧ M = tbM ts ∧ ∀ M', R (.bl true) M'
section
variable {P : Program} {w : World} {K : PySem.W.Frag} {mg mb : Str → Option Value} {k : Nat} {fa a : Addr} {sp : List V → List V → Hp → VK → Prop} {s : Shared} {vs : List Value} {ns : List Int} {cs : List (Addr × Addr)}
theorem run_lawT (KX : K.In s.heap) (hns : s.heap.Ns mainGlobals mg) (hbl : s.heap.Ns builtinsNs mb) (hbb : ∀ x : Str, x ≠ "__name__" → mb x = bootBuiltins x) (hlim : s.heap.NoLimit) (hg : s.gens = #[])
    (hT : ∀ p ∈ cs, s.heap.get? p.2 = some { cls := .none, data := .fields #[] }) (nT : ∀ p ∈ cs, K.lookup p.2 = none) (C : ∀ p ∈ cs, PySem.W.codeHdIn K p.1 p.2 = true)
    (hbm : ∃ (bm : Addr) (ob : Obj), mg "__builtins__" = some (.ref bm) ∧ bm ≠ builtinsNs ∧ s.heap.get? bm = some ob ∧ ob.cls = .type "module" ∧ ob.dict = some builtinsNs ∧ ob.data = .plain)
    (ha : s.heap.get? a = some { cls := .type "list", data := .seq vs.toArray }) (hi : IntsAre vs ns) (hl : ns.length ≤ sizeLine) (hr : Rm k callerA)
    (F : ∀ bs : Heap, K.In bs → bs.Ns mainGlobals mg → (∀ p ∈ cs, TabB bs mg p.1 p.2) → FnX P w K mg bs k fa [] sp)
    (hsp : ∀ H : Hp, (∀ p ∈ cs, H p.2 = some (.tbl #[])) → SqL K (fun b => if b ∈ cs.map (·.2) then none else H b) a (ns.map V.int) → (∀ b, b ∈ cs.map (·.2) → a ≠ b) → sp [.ref a] [] H (fun v _ => v = .bl true)) :
    codeAny (model P w) callerA (.call (.ref fa) ⟨[.ref a], []⟩) (fun r s' => r = .ok (.ret (.bool true)) ∧ OldK s.heap s'.heap ∧ s'.os = s.os ∧ AllBare s'.gens) s := by
  have isT : ∀ b : Addr, b ∈ cs.map (·.2) → s.heap.get? b = some { cls := .none, data := .fields #[] } := fun b hb => by
    obtain ⟨p, hp, rfl⟩ := List.mem_map.mp hb
    exact hT p hp
  have aT : ∀ b, b ∈ cs.map (·.2) → a ≠ b := fun b z e => by
    have q := isT b z
    rw [← e, ha] at q
    exact nomatch (show Data.seq vs.toArray _ = Data.fields #[] from congrArg Obj.data (Option.some.inj q))
  -- what may be tracked: the script, the tables
  have go : ∀ H : Hp, (∀ p ∈ cs, H p.2 = some (.tbl #[])) → (∀ b o, H b = some o → (b ∈ cs.map (·.2) ∧ o = .tbl #[]) ∨ (b = a ∧ K.lookup a = none ∧ ∃ ob xs, o = .frz ob (.lst xs))) → HOk P w H s.heap → SqL K (fun b => if b ∈ cs.map (·.2) then none else H b) a (ns.map V.int) →
      codeAny (model P w) callerA (.call (.ref fa) ⟨[.ref a], []⟩) (fun r s' => r = .ok (.ret (.bool true)) ∧ OldK s.heap s'.heap ∧ s'.os = s.os ∧ AllBare s'.gens) s := by
    intro H hH only hok hS
    have shown : ∀ {b : Addr} {o : Obj}, s.heap.get? b = some o → (∀ us n, o.data ≠ .seq us n) → o.data ≠ .fields #[] → (hidT s.heap H).get? b = some o := fun {b o} e n1 n2 => hidT_get e (by
      cases q : H b with
      | none => rfl
      | some u =>
        rcases only b u q with ⟨hb, _⟩ | ⟨rfl, _⟩
        · rw [isT b hb] at e
          cases e
          exact absurd rfl n2
        · rw [ha] at e
          cases e
          exact absurd rfl (n1 _ _))
    have nsOf : ∀ {b : Addr} {m : Str → Option Value}, s.heap.Ns b m → (hidT s.heap H).Ns b m := fun {b m} ⟨o, es, ep, e, dd, r⟩ => ⟨o, es, ep, shown e (fun _ _ z => by rw [dd] at z; cases z) (fun z => by rw [dd] at z; cases z), dd, r⟩
    have kin : K.In (hidT s.heap H) := fun b o e => hidT_get (KX b o e) (by
      cases q : H b with
      | none => rfl
      | some u =>
        rcases only b u q with ⟨hb, _⟩ | ⟨rfl, hk, _⟩
        · obtain ⟨p, hp, ep⟩ := List.mem_map.mp hb
          have := nT p hp
          rw [ep, e] at this
          cases this
        · rw [hk] at e
          cases e)
    have tabs : ∀ p ∈ cs, TabB (hidT s.heap H) mg p.1 p.2 := fun p hp => by
      obtain ⟨bm, ob, b1, b2, b3, b4, b5, b6⟩ := hbm
      obtain ⟨og, eg, pg, g1, g2, _⟩ := hns
      have noG : bm ≠ mainGlobals := fun q => by
        rw [q, g1] at b3
        cases b3
        rw [g2] at b6
        cases b6
      have noP : bm ≠ p.2 := fun q => by
        rw [q, hT p hp] at b3
        cases b3
        cases b6
      refine ⟨PySem.W.codeHd_of_K kin (C p hp), ⟨bm, ob, b1, b2, noG, noP, shown b3 (fun _ _ z => by rw [b6] at z; cases z) (fun z => by rw [b6] at z; cases z), b4, b5, b6⟩, fun z => ?_⟩
      rw [z, hT p hp] at g1
      cases g1
      cases g2
    obtain ⟨mc, l1, l2⟩ := hlim
    have e0 : Env0 P w K mg (hidT s.heap H) callerA [] s H := ⟨rfl, ⟨kin, nsOf hns, ⟨mb, nsOf hbl, hbb⟩, mc, nsOf l1, l2⟩, fun b o e => of_hidT e, Nat.le_of_eq (hidT_size _ _), trivial, (fun b hb => nomatch hb), hok, .of_eq hg⟩
    refine codeAny_mono ((F _ kin (nsOf hns) tabs).run callerA [] s H [.ref a] [] [.ref a] [] _ hr e0 (.cons rfl .nil) .nil rfl (hsp H hH hS aT)) fun r s' h => ?_
    cases r with
    | error e => exact False.elim h
    | ok fl =>
      cases fl with
      | next => exact False.elim h
      | brk => exact False.elim h
      | cont => exact False.elim h
      | ret u =>
        obtain ⟨v, H', os, bare, un, hok', rv, rfl⟩ := h
        obtain rfl : u = Value.bool true := rv
        have more : ∀ p ∈ cs, ∃ m : Array Value, s'.heap.get? p.2 = some { cls := .none, data := .fields m } := fun p hp => by
          obtain ⟨m, z⟩ := un.tbls p.2 #[] (hH p hp)
          exact ⟨_, hok' p.2 _ z⟩
        have kept : ∀ b o, b ∉ cs.map (·.2) → s.heap.get? b = some o → s'.heap.get? b = some o := fun b o nb e => by
          cases q : H b with
          | none => exact un.keep b o e q (fun z => nomatch z) (fun z => nomatch z)
          | some u =>
            rcases only b u q with ⟨hb, _⟩ | ⟨rfl, _, ob, xs, rfl⟩
            · exact absurd hb nb
            · have e1 := (hok _ _ q).1
              rw [e] at e1
              cases e1
              exact (hok' _ _ (un.frzs _ _ _ q)).1
        refine ⟨rfl, ⟨fun b o e => ?_, fun b o e => ?_⟩, os, bare⟩
        · by_cases hb : b ∈ cs.map (·.2)
          · obtain ⟨p, hp, rfl⟩ := List.mem_map.mp hb
            obtain ⟨m, hm⟩ := more p hp
            rw [hT p hp] at e
            cases e
            exact .inr (.inl ⟨((PySem.W.codeHd_of_K KX (C p hp)).tab (hT p hp)).isCodeTable, rfl, #[], m, rfl, by rw [Array.empty_append]; exact hm⟩)
          · exact .inl (kept b o hb e)
        · by_cases hb : b ∈ cs.map (·.2)
          · obtain ⟨p, hp, rfl⟩ := List.mem_map.mp hb
            obtain ⟨m, hm⟩ := more p hp
            exact ⟨_, hm⟩
          · exact ⟨o, kept b o hb e⟩
  have rv := vals_ints hi
  cases hk : K.lookup a with
  | some o =>
    have e := KX a o hk
    rw [ha] at e
    cases e
    refine go (fun b => if b ∈ cs.map (·.2) then some (.tbl #[]) else none) (fun p hp => if_pos (List.mem_map.mpr ⟨p, hp, rfl⟩)) (fun b o z => ?_) (fun b o z => ?_) (.inr ⟨_, vs.toArray, _, hk, rfl, rfl, rfl, ?_, by simpa using rv⟩)
    · by_cases hb : b ∈ cs.map (·.2)
      · simp only [if_pos hb] at z
        cases z
        exact .inl ⟨hb, rfl⟩
      · simp only [if_neg hb] at z
        cases z
    · by_cases hb : b ∈ cs.map (·.2)
      · simp only [if_pos hb] at z
        cases z
        exact isT b hb
      · simp only [if_neg hb] at z
        cases z
    · rw [List.size_toArray, hi.length]
      exact hl
  | none =>
    refine go (fun b => if b ∈ cs.map (·.2) then some (.tbl #[]) else hpS a { cls := .type "list", data := .seq vs.toArray } (ns.map V.int) b) (fun p hp => if_pos (List.mem_map.mpr ⟨p, hp, rfl⟩)) (fun b o z => ?_) (fun b o z => ?_) (.inl (.inr ⟨{ cls := .type "list", data := .seq vs.toArray }, ?_⟩))
    · by_cases hb : b ∈ cs.map (·.2)
      · simp only [if_pos hb] at z
        cases z
        exact .inl ⟨hb, rfl⟩
      · simp only [if_neg hb] at z
        unfold hpS at z
        by_cases hb2 : b = a
        · simp only [if_pos hb2] at z
          cases z
          exact .inr ⟨hb2, hk, _, _, rfl⟩
        · simp only [if_neg hb2] at z
          cases z
    · by_cases hb : b ∈ cs.map (·.2)
      · simp only [if_pos hb] at z
        cases z
        exact isT b hb
      · simp only [if_neg hb] at z
        unfold hpS at z
        by_cases hb2 : b = a
        · simp only [if_pos hb2] at z
          cases z
          subst hb2
          exact ⟨ha, by rw [List.length_map]; exact hl, vs, _, rv, ha⟩
        · simp only [if_neg hb2] at z
          cases z
    · have na : a ∉ cs.map (·.2) := fun z => aT a z rfl
      show (if a ∈ cs.map (·.2) then none else if a ∈ cs.map (·.2) then some (HO.tbl #[]) else hpS a _ _ a) = _
      rw [if_neg na, if_neg na]
      exact if_pos rfl
end
theorem flat_tb : ∀ ts : List (Addr × Str), Flat (tbM ts) (ts.map fun p => (p.1, Cell0.tb p.2))
  | [] => .nil
  | p :: ts => (flat_tb ts).one
/-- the end of a law whose defs make lambdas: cs: code objects, their tables, the lambdas' name -/
theorem walk_xT {l : PySem.W.OpenLaw} {k : Nat} {q : Program} {loose : List Str} {XP : (Str → Option Value) → Heap → Prop} {YP : World → Heap → Prop} {d : DefRec} {K : Params → PySem.W.Frag}
    (hn : l.most = some 63) (hdf : d.params.defaults = []) (hr : Room k callerA) (hY : ∀ (w : World) (h : Heap), YP w h → (K w.params).In h) (xs : List Str) (hrec : (xs.all fun x => (recsOf q).any fun e => e.name == x) = true)
    (F : ∀ (w : World) (mg : Str → Option Value) (fa : Addr) (h : Heap), (K w.params).In h → h.Ns mainGlobals mg → mg d.name = some (.ref fa) → (∀ x ∈ xs, ∀ f, mg x = some (.ref f) → OwnTab (K w.params) f h) →
        ∃ cs : List (Addr × Addr × Str), (∀ p ∈ cs, h.get? p.2.1 = some { cls := .none, data := .fields #[] }) ∧ (∀ p ∈ cs, (K w.params).lookup p.2.1 = none) ∧ (∀ p ∈ cs, PySem.W.codeHdIn (K w.params) p.1 p.2.1 = true) ∧ (cs.map (·.2.1)).Nodup ∧
          ∀ bs : Heap, (K w.params).In bs → bs.Ns mainGlobals mg → (∀ p ∈ cs, TabB bs mg p.1 p.2.1) → FnX l.prog w (K w.params) mg bs k fa [] (spX (K w.params) (aLawT (cs.map (·.2))))) :
    PySem.W.WalkO q loose XP YP l.row.toRowW d [] (fun f vs => PySem.call f vs) := by
  refine Att.attach_call hn hdf fun w s₀ s₁ mg mb fa o pm cd doc a vs ns G Y ho hd hcd hmg hobj hints hlen hg => ?_
  have KX := hY w _ Y
  have own : ∀ x ∈ xs, ∀ f, mg x = some (.ref f) → OwnTab (K w.params) f s₁.heap := fun x hx f hf c P o1 fd1 e dd vs1 sl k1 k2 k3 k4 k5 => by
    obtain ⟨dL, hm, hn1⟩ := List.any_eq_true.mp (List.all_eq_true.mp hrec x hx)
    have hn2 := beq_iff_eq.mp hn1
    obtain ⟨a', o', fd', c', P', h1, h2, h3, h4, h5, h6⟩ := G.T.tab dL hm
    rw [hn2, hf] at h1
    cases h1
    have g1 := KX _ _ k1
    rw [g1] at h2
    cases h2
    rw [k2] at h3
    cases h3
    rw [k3] at h4
    cases h4
    obtain ⟨⟨oc, vc, e1, _, e3, e4⟩, hP⟩ := h6
    have g2 := KX _ _ k4
    rw [g2] at e1
    cases e1
    cases e3
    rw [k5] at e4
    cases e4
    exact hP
  obtain ⟨cs, hT, nT, hC, hnd, hF⟩ := F w mg fa _ KX G.T.g hmg own
  have mem : ∀ p ∈ cs.map (fun p => (p.1, p.2.1)), ∃ x ∈ cs, p = (x.1, x.2.1) := fun p hp => let ⟨x, h1, h2⟩ := List.mem_map.mp hp; ⟨x, h1, h2.symm⟩
  refine run_lawT (cs := cs.map fun p => (p.1, p.2.1)) KX G.T.g G.T.b G.T.builtins G.T.nolimit hg (fun p hp => by obtain ⟨x, h1, rfl⟩ := mem p hp; exact hT x h1) (fun p hp => by obtain ⟨x, h1, rfl⟩ := mem p hp; exact nT x h1) (fun p hp => by obtain ⟨x, h1, rfl⟩ := mem p hp; exact hC x h1) G.T.bmain hobj hints (Nat.le_trans hlen (by decide)) ⟨hr, rfl⟩
    (fun bs kin hns tb => hF bs kin hns fun p hp => tb (p.1, p.2.1) (List.mem_map.mpr ⟨p, hp, rfl⟩)) fun H hH hS hna => ?_
  have em : (cs.map fun p => (p.1, p.2.1)).map (·.2) = cs.map (·.2.1) := by rw [List.map_map]; rfl
  rw [em] at hS hna
  refine ⟨fun b => if b ∈ cs.map (·.2.1) then none else H b, tbM (cs.map (·.2)), [.lst (ns.map .int)], [], fun d _ => d = .bl true, .cons (.lst hS (.ofInts ns)) .nil, .nil, ⟨_, flat_tb _, ?_, ?_, ?_⟩, ⟨ns, rfl, hlen, rfl, fun _ => rfl⟩, ?_⟩
  · intro b x e
    by_cases hb : b ∈ cs.map (·.2.1)
    · simp only [if_pos hb] at e
      cases e
    · simp only [if_neg hb] at e
      exact e
  · intro b c hm
    obtain ⟨p, hp, e⟩ := List.mem_map.mp hm
    obtain ⟨p2, hp2, rfl⟩ := List.mem_map.mp hp
    cases e
    have hin : p2.2.1 ∈ cs.map (·.2.1) := List.mem_map.mpr ⟨p2, hp2, rfl⟩
    refine ⟨if_pos hin, _, hH (p2.1, p2.2.1) (List.mem_map.mpr ⟨p2, hp2, rfl⟩), #[], rfl, trivial, fun pos cv hc => ?_⟩
    have z : codeAmong pos [] = some cv := hc
    simp [codeAmong] at z
  · rw [List.map_map, List.map_map]
    exact hnd
  · rintro d M' v Hi' H' rfl _ _ r
    cases r
    rfl
end Ab
/-! Ab100: arguments that may raise; calls with such arguments -/
namespace Ab
open PySem PySem.Spec PyProof.Rows L2
end Ab
/-! Ab101: an own class below a built-in type -/
namespace Ab
open PySem PySem.Spec PyProof.Rows L2
theorem kit_tyS {K : PySem.W.Frag} {C : Addr} {T : String} {b : Bool} (hm : PySem.W.kitMeta T = true) (hs : PySem.W.subIn K (.ref C) (.type T) = some b) : PySem.W.kitOne K (.ref C) (.type T) = some b := by
  unfold PySem.W.kitOne
  rw [if_neg (show ¬ ((Value.ref C == Value.type T) = true) from by simp)]
  show (if PySem.W.kitMeta T = true then PySem.W.subIn K (.ref C) (.type T) else none) = some b
  rw [if_pos hm]
  exact hs
end Ab
/-! Ab99: try with clauses `except (C, D, ..) as n` and `except C as n` -/
namespace Ab
open PySem PySem.Spec PyProof.Rows L2
/-! ### the same over values -/
end Ab
/-! Ab112: try: .. except C: .. (one clause, no name) -/
namespace Ab
open PySem PySem.Spec PyProof.Rows L2
end Ab
namespace K14
open PySem L2 Ab GenW LamX Sm
section
variable {P : Program} {w : World} {K : PySem.W.Frag} {mg : Str → Option Value} {base : Heap} {k : Nat} {f C CN CS CB CI CX CL : Addr}
theorem sz2 {n : Nat} (h : n ≤ 1000000) : n ≤ sizeLine := Nat.le_trans h (by decide)
theorem lg {n k : Nat} (hk : 0 < k) (h : n < 2 ^ k) : n.log2 < k := by
  by_cases z : n = 0
  · subst z
    rw [Nat.log2_zero]
    exact hk
  · exact (Nat.log2_lt z).mpr h
/-! ### values that stand in a path's places -/
structure AtV (d : Val) (p : PyData) : Prop where
  vd : Vd [] d p
  at_ : AtomP p
  sh : shQ p
  wd : wdQ p ≤ 2100
  dp : p.depth ≤ 1
def Smal (d : Val) : Prop := ∃ p, AtV d p ∧ wdQ p ≤ 12
theorem at_nat {n k : Nat} (h : n < 2 ^ k) (hk : 0 < k) (h2 : k ≤ 2000) : AtV (.int ((n : Nat) : Int)) (.int ((n : Nat) : Int)) ∧ wdQ (.int ((n : Nat) : Int)) ≤ k + 1 := by
  have e : ((n : Nat) : Int).natAbs.log2 < k := by
    rw [Int.natAbs_natCast]
    exact lg hk h
  have w : wdQ (.int ((n : Nat) : Int)) ≤ k + 1 := by
    unfold wdQ
    omega
  exact ⟨⟨.int _, .inl ⟨n, rfl⟩, by unfold shQ; omega, by omega, by simp [PyData.depth]⟩, w⟩
theorem sm_nat {n : Nat} (h : n ≤ 9) : Smal (.int ((n : Nat) : Int)) := by
  obtain ⟨a, b⟩ := at_nat (n := n) (k := 4) (by omega) (by decide) (by decide)
  exact ⟨_, a, by omega⟩
def oddV : List Val := [.non, .bl true, .bl false, .str "1", .tup [.int 1], .lst [.int 1], .int (0 - 1), .int 0, .int 1, .int 2]
theorem sm_odd : ∀ d ∈ oddV, Smal d := by
  intro d hd
  simp only [oddV, List.mem_cons, List.not_mem_nil, or_false] at hd
  rcases hd with rfl | rfl | rfl | rfl | rfl | rfl | rfl | rfl | rfl | rfl
  · exact ⟨_, ⟨.non, .inr (by simp [oddP]), trivial, by decide, by decide⟩, by decide⟩
  · exact ⟨_, ⟨.bl true, .inr (by simp [oddP]), trivial, by decide, by decide⟩, by decide⟩
  · exact ⟨_, ⟨.bl false, .inr (by simp [oddP]), trivial, by decide, by decide⟩, by decide⟩
  · exact ⟨_, ⟨.str "1", .inr (by simp [oddP]), (by show _ = true; decide +kernel), by decide +kernel, by decide⟩, by decide +kernel⟩
  · exact ⟨_, ⟨.tup (.cons (.int 1) .nil), .inr (by simp [oddP]), ⟨(by show _ < _; decide +kernel), trivial⟩, by decide +kernel, by decide +kernel⟩, by decide +kernel⟩
  · exact ⟨_, ⟨.lst (.cons (.int 1) .nil), .inr (by simp [oddP]), ⟨(by show _ < _; decide +kernel), trivial⟩, by decide +kernel, by decide +kernel⟩, by decide +kernel⟩
  · exact ⟨_, ⟨.int (-1), .inr (by simp [oddP]), (by show _ < _; decide +kernel), by decide +kernel, by decide +kernel⟩, by decide +kernel⟩
  · exact sm_nat (n := 0) (by decide)
  · exact sm_nat (n := 1) (by decide)
  · exact sm_nat (n := 2) (by decide)
theorem vd_cel {p : Addr} {q : PyData} (h : Vd [] (.ptr p) q) : False := by
  cases h with
  | cel i h _ => exact nomatch h
  | dk h =>
    obtain ⟨n, h | ⟨_, _, h⟩⟩ := h <;> exact nomatch h
theorem AtV.itd {d : Val} {p : PyData} (h : AtV d p) {M : Mem} : ItD K M d := by
  have v := h.vd
  cases d with
  | ptr a => exact (vd_cel v).elim
  | non => exact .inl ⟨.inl ⟨_, TyV.non.y, kit_ty (by decide +kernel)⟩, fun _ e => nomatch e⟩
  | bl b => exact .inl ⟨.inr ⟨b, rfl⟩, fun _ e => nomatch e⟩
  | int i => exact .inr ⟨i, rfl⟩
  | str x => exact .inl ⟨.inl ⟨_, (TyV.str x).y, kit_ty (by decide +kernel)⟩, fun _ e => nomatch e⟩
  | lst xs => exact .inl ⟨.inl ⟨_, (TyV.lst (.self _)).y, kit_ty (by decide +kernel)⟩, fun _ e => nomatch e⟩
  | tup xs => exact .inl ⟨.inl ⟨_, (TyV.tup xs).y, kit_ty (by decide +kernel)⟩, fun _ e => nomatch e⟩
  | ty _ => cases v
  | obj _ _ => cases v
  | exc _ _ => cases v
  | lam _ _ => cases v
theorem AtV.eqI {d : Val} {p : PyData} (h : AtV d p) {n : Int} : eqI d n = true ↔ p = .int n := by
  have v := h.vd
  cases v with
  | int i =>
    show decide (i = n) = true ↔ _
    rw [decide_eq_true_eq]
    exact ⟨fun e => by rw [e], fun e => by cases e; rfl⟩
  | _ => exact ⟨(fun e => nomatch e), (fun e => nomatch e)⟩
inductive AtA : List Val → List PyData → Prop
  | nil : AtA [] []
  | cons {d : Val} {p : PyData} {ds : List Val} {ps : List PyData} : AtV d p → wdQ p ≤ 12 → AtA ds ps → AtA (d :: ds) (p :: ps)
theorem AtA.of : ∀ {ds : List Val}, (∀ d ∈ ds, Smal d) → ∃ ps, AtA ds ps
  | [], _ => ⟨[], .nil⟩
  | d :: ds, h => by
    obtain ⟨p, a, b⟩ := h d List.mem_cons_self
    obtain ⟨ps, c⟩ := AtA.of fun e he => h e (List.mem_cons_of_mem _ he)
    exact ⟨_, .cons a b c⟩
theorem AtA.len {ds : List Val} {ps : List PyData} (h : AtA ds ps) : ds.length = ps.length := by
  induction h with
  | nil => rfl
  | cons _ _ _ ih => rw [List.length_cons, List.length_cons, ih]
theorem AtA.vd {ds : List Val} {ps : List PyData} (h : AtA ds ps) : VdA [] ds ps := by
  induction h with
  | nil => exact .nil
  | cons a _ _ ih => exact .cons a.vd ih
theorem AtA.all {ds : List Val} {ps : List PyData} (h : AtA ds ps) : (∀ p ∈ ps, AtomP p) ∧ shQs ps ∧ wdQs ps ≤ 14 * ps.length ∧ PyData.depthAll ps ≤ 1 := by
  induction h with
  | nil => exact ⟨(fun _ h => nomatch h), trivial, Nat.le_refl _, by simp [PyData.depthAll]⟩
  | cons a b _ ih =>
    refine ⟨fun p hp => ?_, ⟨a.sh, ih.2.1⟩, ?_, ?_⟩
    · rcases List.mem_cons.mp hp with rfl | hp
      · exact a.at_
      · exact ih.1 p hp
    · unfold wdQs
      rw [List.length_cons]
      have := ih.2.2.1
      omega
    · unfold PyData.depthAll
      have := ih.2.2.2
      have := a.dp
      omega
theorem stEq_cons {y : Val} {ys : List Val} {n : Nat} {x : List Nat} : stEq (y :: ys) (n :: x) = (eqI y (n : Int) && stEq ys x) := by
  unfold stEq
  rw [List.length_cons, List.length_cons, List.range_succ_eq_map, List.all_cons, List.all_map]
  have e : decide (ys.length + 1 = x.length + 1) = decide (ys.length = x.length) := by
    by_cases h : ys.length = x.length
    · rw [decide_eq_true h, decide_eq_true (by omega)]
    · rw [decide_eq_false h, decide_eq_false (by omega)]
  rw [e]
  show (decide (ys.length = x.length) && (eqI y (n : Int) && (List.range x.length).all fun i => eqI (ys.getD i .non) ((x.getD i 0 : Nat) : Int))) = _
  generalize eqI y (n : Int) = a
  generalize decide (ys.length = x.length) = b
  cases a <;> cases b <;> rfl
theorem AtA.st {ys : List Val} {ps : List PyData} (h : AtA ys ps) : ∀ {x : List Nat}, stEq ys x = true ↔ ps = x.map fun n => PyData.int ((n : Nat) : Int) := by
  induction h with
  | nil =>
    intro x
    cases x with
    | nil => exact ⟨fun _ => rfl, fun _ => rfl⟩
    | cons n x => exact ⟨(fun e => by simp [stEq] at e), (fun e => nomatch e)⟩
  | cons a b _ ih =>
    intro x
    cases x with
    | nil => exact ⟨(fun e => by simp [stEq] at e), (fun e => nomatch e)⟩
    | cons n x =>
      rw [stEq_cons, Bool.and_eq_true, a.eqI, ih, List.map_cons]
      exact ⟨fun ⟨e1, e2⟩ => by rw [e1, e2], fun e => List.cons.inj e⟩
/-! ### what may be handed in for a path -/
def Dt (d : Val) : Prop := ∃ p, Vd [] d p ∧ shQ p ∧ wdQ p ≤ 100000 ∧ p.depth ≤ 2
theorem AtV.dt {d : Val} {p : PyData} (h : AtV d p) : Dt d := ⟨p, h.vd, h.sh, by have := h.wd; omega, by have := h.dp; omega⟩
theorem dt_tup {ys : List Val} (h : ∀ y ∈ ys, Smal y) (hl : ys.length ≤ 5000) : Dt (.tup ys) ∧ Dt (.lst ys) := by
  obtain ⟨ps, a⟩ := AtA.of h
  obtain ⟨_, h2, h3, h4⟩ := a.all
  have := a.len
  exact ⟨⟨.tuple ps, .tup a.vd, h2, by unfold wdQ; omega, by simp only [PyData.depth]; omega⟩, ⟨.list ps, .lst a.vd, h2, by unfold wdQ; omega, by simp only [PyData.depth]; omega⟩⟩
theorem dts : ∀ {ds : List Val}, (∀ d ∈ ds, Dt d) → ∃ ps, VdA [] ds ps ∧ shQs ps ∧ wdQs ps ≤ 100002 * ds.length ∧ PyData.depthAll ps ≤ 2
  | [], _ => ⟨[], .nil, trivial, Nat.le_refl _, by simp [PyData.depthAll]⟩
  | d :: ds, h => by
    obtain ⟨p, a1, a2, a3, a4⟩ := h d List.mem_cons_self
    obtain ⟨ps, b1, b2, b3, b4⟩ := dts fun e he => h e (List.mem_cons_of_mem _ he)
    exact ⟨p :: ps, .cons a1 b1, ⟨a2, b2⟩, by unfold wdQs; rw [List.length_cons]; omega, by unfold PyData.depthAll; omega⟩
def Dr (d : Val) : Prop := ∃ p, Vd [] d p ∧ RQ p
theorem dr_seq {ds : List Val} (h : ∀ d ∈ ds, Dt d) (hl : ds.length ≤ 4) : Dr (.tup ds) ∧ Dr (.lst ds) := by
  obtain ⟨ps, b1, b2, b3, b4⟩ := dts h
  exact ⟨⟨.tuple ps, .tup b1, b2, sz2 (by unfold wdQ; omega), by simp only [PyData.depth]; omega⟩, ⟨.list ps, .lst b1, b2, sz2 (by unfold wdQ; omega), by simp only [PyData.depth]; omega⟩⟩
theorem Dt.dr {d : Val} (h : Dt d) : Dr d := by
  obtain ⟨p, a1, a2, a3, a4⟩ := h
  exact ⟨p, a1, a2, sz2 (by omega), by omega⟩
structure Wh (K : PySem.W.Frag) (d : Val) : Prop where
  ex : Dr d
  kd : (∀ M, NTup K M d) ∨ (∃ xs, d = .tup xs ∧ xs.length ≠ 3) ∨ (∃ a b c, d = .tup [a, b, c] ∧ ∀ M, NTup K M b) ∨
    ∃ a ys c pa ps pc, d = .tup [a, .tup ys, c] ∧ AtV a pa ∧ AtA ys ps ∧ AtV c pc ∧ ys.length ≤ 5000
theorem ntup_lst {xs : List Val} {M : Mem} : NTup K M (.lst xs) := ⟨_, TyV.lst (.self _), kit_ty (by decide +kernel)⟩
theorem Wh.path {a c : Val} {ys : List Val} {pa pc : PyData} (ha : AtV a pa) (hc : AtV c pc) (hy : ∀ y ∈ ys, Smal y) (hl : ys.length ≤ 5000) : Wh K (.tup [a, .tup ys, c]) := by
  obtain ⟨ps, h⟩ := AtA.of hy
  refine ⟨(dr_seq (ds := [a, .tup ys, c]) (fun d hd => ?_) (Nat.le_of_ble_eq_true rfl)).1, .inr (.inr (.inr ⟨a, ys, c, pa, ps, pc, rfl, ha, h, hc, hl⟩))⟩
  simp only [List.mem_cons, List.not_mem_nil, or_false] at hd
  rcases hd with rfl | rfl | rfl
  · exact ha.dt
  · exact (dt_tup hy hl).1
  · exact hc.dt
theorem AtV.ntup {d : Val} {p : PyData} (h : AtV d p) : (∀ M, NTup K M d) ∨ d = .tup [.int 1] := by
  have v := h.vd
  cases d with
  | ptr a => exact (vd_cel v).elim
  | non => exact .inl fun M => ⟨_, .non, kit_ty (by decide +kernel)⟩
  | bl b => exact .inl fun M => ⟨_, .bl b, kit_ty (by decide +kernel)⟩
  | int i => exact .inl fun M => ⟨_, .int i, kit_ty (by decide +kernel)⟩
  | str x => exact .inl fun M => ⟨_, .str x, kit_ty (by decide +kernel)⟩
  | lst xs => exact .inl fun M => ntup_lst
  | tup xs =>
    cases v with
    | @tup _ ps ha =>
      right
      rcases h.at_ with ⟨n, e⟩ | e
      · exact nomatch e
      · simp only [oddP, List.mem_cons, List.not_mem_nil, or_false] at e
        rcases e with e | e | e | e | e | e | e <;> cases e
        cases ha with
        | cons h1 h2 =>
          cases h1
          cases h2
          rfl
  | ty _ => cases v
  | obj _ _ => cases v
  | exc _ _ => cases v
  | lam _ _ => cases v
theorem Wh.mid {a b c : Val} {pa pb pc : PyData} (ha : AtV a pa) (hb : AtV b pb) (hc : AtV c pc) : Wh K (.tup [a, b, c]) := by
  rcases hb.ntup (K := K) with h | rfl
  · refine ⟨(dr_seq (ds := [a, b, c]) (fun d hd => ?_) (Nat.le_of_ble_eq_true rfl)).1, .inr (.inr (.inl ⟨a, b, c, rfl, h⟩))⟩
    simp only [List.mem_cons, List.not_mem_nil, or_false] at hd
    rcases hd with rfl | rfl | rfl
    · exact ha.dt
    · exact hb.dt
    · exact hc.dt
  · exact .path ha hc (fun y hy => by rw [List.mem_singleton.mp hy]; exact sm_nat (n := 1) (by decide)) (Nat.le_of_ble_eq_true rfl)
/-! ### _law_due -/
abbrev fmS : Str := "form"
def duE (st : Nat) (x : List Nat) (r : Int) : Val → Option Str
  | .tup [a, b, c] => match b with
    | .tup ys => if eqI a (st : Int) = false then some "stage" else if stEq ys x = false then some "steps" else if eqI c r = false then some "rest" else none
    | _ => some "form"
  | _ => some "form"
def duV : Option Str → Val
  | none => .non
  | some s => .str s
theorem ntup_no {M : Mem} {xs : List Val} (h : NTup K M (.tup xs)) : False := by
  obtain ⟨T, hT, hk⟩ := h
  cases hT with
  | tup _ =>
    rw [show PySem.W.kitOne K (.type "tuple") (.type "tuple") = some true from kit_ty (by decide +kernel)] at hk
    cases hk
  | lst h => cases h
  | ob h => cases h
def aDue (K : PySem.W.Frag) : ASp := fun ds M R => ∃ (d : Val) (st : Nat) (x : List Nat) (r : Int), ds = [d, paV st x r] ∧ Wh K d ∧ st < 2 ^ 1900 ∧ (∀ e ∈ x, e ≤ 9) ∧ x.length ≤ 2100 ∧ 1 ≤ r ∧ r < 2 ^ 1900 ∧ R (duV (duE st x r d)) M
theorem b__law_due (B : Bt mg) (mr : mg "repr" = none) (D : DigK K) : BodyOk P w K mg base 2 f n__law_due "_law_due" (defScope s__law_due) (defBody s__law_due) (aDue K) := by
  rintro cdv A outer s0 H E hr ds M R ⟨d, st, x, r, rfl, hw, hst, hx9, hxl, r1, r2, hp⟩
  rcases hw.kd with h | ⟨xs, rfl, hl⟩ | ⟨a, b, c, rfl, h⟩ | ⟨a, ys, c, pa, ps, pc, rfl, ha, hy, hc, hyl⟩
  · obtain ⟨T, hT, hk⟩ := h M
    have e : duE st x r d = some fmS := by
      cases d with
      | tup xs => exact (ntup_no (h M)).elim
      | _ => rfl
    rw [e] at hp
    exact as_cons (as_if (at_w (aw_or (at_not (at_val (ae_isi B.isinstance (v_ 0) (av_ty (T := "tuple") B.tuple (by decide +kernel)) (.ty "tuple") hT hk ⟨false, rfl, fun _ => ⟨fun _ => as_one (as_retv s_ (.ok hp)), ntf⟩, ntf⟩))))))
  · have e : duE st x r (.tup xs) = some fmS := by
      match xs, hl with
      | [], _ => rfl
      | [_], _ => rfl
      | [_, _], _ => rfl
      | [_, _, _], h => exact absurd rfl h
      | _ :: _ :: _ :: _ :: _, _ => rfl
    rw [e] at hp
    refine as_cons (as_if (at_w (aw_or (at_not (at_val (ae_isi B.isinstance (v_ 0) (av_ty (T := "tuple") B.tuple (by decide +kernel)) (.ty "tuple") (.tup _) (kit_ty (by decide +kernel)) ⟨true, rfl, nft, fun _ => ?_⟩))))))
    exact aw_or (at_cmp (av_len B.len (v_ 0) .t) i_ cmp_neI ⟨fun _ => ⟨fun _ => as_one (as_retv s_ (.ok hp)), ntf⟩, fun h => absurd h (by simp; omega)⟩)
  · obtain ⟨T, hT, hk⟩ := h M
    have e : duE st x r (.tup [a, b, c]) = some fmS := by
      cases b with
      | tup xs => exact (ntup_no (h M)).elim
      | _ => rfl
    rw [e] at hp
    refine as_cons (as_if (at_w (aw_or (at_not (at_val (ae_isi B.isinstance (v_ 0) (av_ty (T := "tuple") B.tuple (by decide +kernel)) (.ty "tuple") (.tup _) (kit_ty (by decide +kernel)) ⟨true, rfl, nft, fun _ => ?_⟩))))))
    refine aw_or (at_cmp (av_len B.len (v_ 0) .t) i_ cmp_neI ⟨fun h => by simp at h, fun _ => ?_⟩)
    exact aw_or1 (at_not (at_val (ae_isi B.isinstance (av_ixT (v_ 0) i_ (d := b) rfl) (av_ty (T := "tuple") B.tuple (by decide +kernel)) (.ty "tuple") hT hk ⟨false, rfl, fun _ => as_one (as_retv s_ (.ok hp)), ntf⟩)))
  have hp : R (duV (if eqI a (st : Int) = false then some "stage" else if stEq ys x = false then some "steps" else if eqI c r = false then some "rest" else none)) M := hp
  refine as_cons (as_if (at_w (aw_or (at_not (at_val (ae_isi B.isinstance (v_ 0) (av_ty (T := "tuple") B.tuple (by decide +kernel)) (.ty "tuple") (.tup _) (kit_ty (by decide +kernel)) ⟨true, rfl, nft, fun _ => ?_⟩))))))
  refine aw_or (at_cmp (av_len B.len (v_ 0) .t) i_ cmp_neI ⟨fun h => by simp at h, fun _ => ?_⟩)
  refine aw_or1 (at_not (at_val (ae_isi B.isinstance (av_ixT (v_ 0) i_ (d := .tup ys) rfl) (av_ty (T := "tuple") B.tuple (by decide +kernel)) (.ty "tuple") (.tup _) (kit_ty (by decide +kernel)) ⟨true, rfl, nft, fun _ => as_nil ?_⟩)))
  have up : ∀ {d p}, Vd [] d p → Vd M d p := fun h => h.has (fun i x h => by simp at h)
  have rq : ∀ {d p}, AtV d p → RQ p := fun h => ⟨h.sh, sz2 (by have := h.wd; omega), by have := h.dp; omega⟩
  have rqA : ∀ {ds ps}, AtA ds ps → ps.length ≤ 5000 → RQ (.tuple ps) := fun h hl => by
    obtain ⟨_, h2, h3, h4⟩ := h.all
    exact ⟨h2, sz2 (by unfold wdQ; omega), by simp only [PyData.depth]; omega⟩
  obtain ⟨ast, _⟩ := at_nat (n := st) (k := 1900) hst (by decide) (by decide)
  obtain ⟨rn, rfl⟩ : ∃ rn : Nat, r = (rn : Int) := ⟨r.toNat, by omega⟩
  have hrn : rn < 2 ^ 1900 := by
    have e : ((2 : Int) ^ 1900) = ((2 ^ 1900 : Nat) : Int) := by rw [Int.natCast_pow]; rfl
    rw [e] at r2
    exact Int.ofNat_lt.mp r2
  obtain ⟨arn, _⟩ := at_nat (n := rn) (k := 1900) hrn (by decide) (by decide)
  have hxv : ∀ y ∈ (x.map Int.ofNat).map Val.int, Smal y := fun y hy => by
    obtain ⟨i, hi, rfl⟩ := List.mem_map.mp hy
    obtain ⟨n, hn, rfl⟩ := List.mem_map.mp hi
    exact sm_nat (hx9 n hn)
  have vx : Vd M (dgT x) (.tuple (x.map fun n => PyData.int ((n : Nat) : Int))) := by
    have e : (x.map fun n => PyData.int ((n : Nat) : Int)) = (x.map Int.ofNat).map PyData.int := by
      rw [List.map_map]
      rfl
    rw [e]
    exact .tup (.ints _)
  have rx : RQ (.tuple (x.map fun n => PyData.int ((n : Nat) : Int))) := by
    obtain ⟨qs, hq⟩ := AtA.of hxv
    have e : qs = x.map fun n => PyData.int ((n : Nat) : Int) := by
      rw [← hq.st]
      unfold stEq
      rw [List.length_map, List.length_map, decide_eq_true rfl, Bool.true_and, List.all_eq_true]
      intro i hi
      have hi := List.mem_range.mp hi
      rw [List.getD_eq_getElem?_getD, List.getElem?_map, List.getElem?_map, List.getElem?_eq_getElem hi, List.getD_eq_getElem?_getD, List.getElem?_eq_getElem hi]
      exact decide_eq_true rfl
    rw [← e]
    exact rqA hq (by rw [e, List.length_map]; omega)
  have vst : Vd M (.int (st : Int)) (.int (st : Int)) := .int _
  have vr : Vd M (.int (rn : Int)) (.int (rn : Int)) := .int _
  rcases c1 : eqI a (st : Int) with _ | _
  · rw [if_pos c1] at hp
    refine as_cons (as_if (at_cmp (av_reprQ D hr mr (av_ixT (v_ 0) i_ (d := a) rfl) (up ha.vd) (rq ha)) (av_reprQ D hr mr (av_ixT (v_ 1) i_ (d := .int (st : Int)) rfl) vst (rq ast)) (Ab.cmp_neST fun e => ?_) ⟨fun _ => as_one (as_retv s_ (.ok hp)), ntf⟩))
    rw [ha.eqI.mpr ((atom_shown ha.at_).mp e)] at c1
    cases c1
  rw [if_neg (by rw [c1]; decide)] at hp
  refine as_cons (as_if (at_cmp (av_reprQ D hr mr (av_ixT (v_ 0) i_ (d := a) rfl) (up ha.vd) (rq ha)) (av_reprQ D hr mr (av_ixT (v_ 1) i_ (d := .int (st : Int)) rfl) vst (rq ast)) (Ab.cmp_neSF (by rw [ha.eqI.mp c1])) ⟨nft, fun _ => as_nil ?_⟩))
  have vy : Vd M (.tup ys) (.tuple ps) := up (.tup hy.vd)
  have ry : RQ (.tuple ps) := rqA hy (by rw [← hy.len]; exact hyl)
  rcases c2 : stEq ys x with _ | _
  · rw [if_pos c2] at hp
    refine as_cons (as_if (at_cmp (av_reprQ D hr mr (av_ixT (v_ 0) i_ (d := .tup ys) rfl) vy ry) (av_reprQ D hr mr (av_ixT (v_ 1) i_ (d := dgT x) rfl) vx rx) (Ab.cmp_neST fun e => ?_) ⟨fun _ => as_one (as_retv s_ (.ok hp)), ntf⟩))
    rw [hy.st.mpr ((tup_shown hy.all.1).mp e)] at c2
    cases c2
  rw [if_neg (by rw [c2]; decide)] at hp
  refine as_cons (as_if (at_cmp (av_reprQ D hr mr (av_ixT (v_ 0) i_ (d := .tup ys) rfl) vy ry) (av_reprQ D hr mr (av_ixT (v_ 1) i_ (d := dgT x) rfl) vx rx) (Ab.cmp_neSF (by rw [hy.st.mp c2])) ⟨nft, fun _ => as_nil ?_⟩))
  rcases c3 : eqI c (rn : Int) with _ | _
  · rw [if_pos c3] at hp
    refine as_one (as_ret (ae_if (at_cmp (av_reprQ D hr mr (av_ixT (v_ 0) i_ (d := c) rfl) (up hc.vd) (rq hc)) (av_reprQ D hr mr (av_ixT (v_ 1) i_ (d := .int (rn : Int)) rfl) vr (rq arn)) (Ab.cmp_eqSF fun e => ?_) ⟨nft, fun _ => s_.val (.ok hp)⟩)))
    rw [hc.eqI.mpr ((atom_shown hc.at_).mp e)] at c3
    cases c3
  rw [if_neg (by rw [c3]; decide)] at hp
  exact as_one (as_ret (ae_if (at_cmp (av_reprQ D hr mr (av_ixT (v_ 0) i_ (d := c) rfl) (up hc.vd) (rq hc)) (av_reprQ D hr mr (av_ixT (v_ 1) i_ (d := .int (rn : Int)) rfl) vr (rq arn)) (Ab.cmp_eqST (by rw [hc.eqI.mp c3])) ⟨fun _ => n_.val (.ok hp), ntf⟩)))
abbrev GDue (P : Program) (w : World) (K : PySem.W.Frag) (mg : Str → Option Value) (base : Heap) : Prop := Gd P w K mg base 3 "_law_due" [] fun ds _ => aDue K ds
end
end K14
/-! Ab97: xs[a:e], the upper bound changing cells -/
namespace Ab
open PySem PySem.Spec PyProof.Rows L2
end Ab
namespace K14
open PySem L2 Ab GenW LamX Sm
section
variable {P : Program} {w : World} {K : PySem.W.Frag} {mg : Str → Option Value} {base : Heap} {k : Nat} {f C CO CS CB CI CX CL : Addr}
/-! ### _law_outcome -/
/-- the exception classes as the law sees them -/
structure XO (K : PySem.W.Frag) (mg : Str → Option Value) (CI CN CX BS : Addr) : Prop where
  gs : mg "ScheduleError" = some (.ref BS)
  gi : mg "InvalidCertificate" = some (.ref CI)
  gn : mg "InvalidNumber" = some (.ref CN)
  gx : mg "InvalidSchedule" = some (.ref CX)
  ve : mg "ValueError" = none
  xi : PySem.W.exmOne K (.ref CI) (.ref BS) = some true
  xn : PySem.W.exmOne K (.ref CN) (.ref BS) = some true
  xx : PySem.W.exmOne K (.ref CX) (.ref BS) = some true
  ei : L2.ExcC K CI
  en : L2.ExcC K CN
  ex : L2.ExcC K CX
  fi : XfC K CI
  fn : XfC K CN
  fx : XfC K CX
  ni : PySem.W.findIn K (.ref CI) "part" = some none
  nn : PySem.W.findIn K (.ref CN) "number" = some none
  nx : PySem.W.findIn K (.ref CX) "part" = some none
  ii : PySem.W.kitOne K (.ref CI) (.ref CI) = some true
  iv : PySem.W.kitOne K (.ref CI) (.type "ValueError") = some true
  ic : PySem.W.kitOne K (.ref CI) (.ref CN) = some false
  ix : PySem.W.kitOne K (.ref CI) (.ref CX) = some false
  nj : PySem.W.kitOne K (.ref CN) (.ref CI) = some false
  nc : PySem.W.kitOne K (.ref CN) (.ref CN) = some true
  ny : PySem.W.kitOne K (.ref CN) (.ref CX) = some false
  xj : PySem.W.kitOne K (.ref CX) (.ref CI) = some false
  xc : PySem.W.kitOne K (.ref CX) (.ref CN) = some false
  xy : PySem.W.kitOne K (.ref CX) (.ref CX) = some true
def aOut (CI CN CX : Addr) : LSp := fun bsp M R => bsp M (fun v M1 => R (.lst [v]) M1) fun C fs M1 =>
  (C = CI ∧ ∃ v, fs = [(("part" : Str), v)] ∧ R (.tup [.str "certificate", v]) M1) ∨ (C = CN ∧ ∃ v, fs = [(("number" : Str), v)] ∧ R (.tup [.str "number", v]) M1) ∨ (C = CX ∧ ∃ v, fs = [(("part" : Str), v)] ∧ R (.tup [.str "schedule", v]) M1)
theorem b__law_outcome {CN BS : Addr} (B : Bt mg) (XE : XO K mg CI CN CX BS) : BodyL P w K mg base 1 f n__law_outcome "_law_outcome" (defScope s__law_outcome) (defBody s__law_outcome) "_law_call" (aOut CI CN CX) := by
  rintro cdv A outer s0 H E hr fl Hf bsp act M R hp
  refine as_cons (as_asg (aE.val (ae_tup (aA.val (avs_cons n_ (avs_cons n_ avs_nil)) ⟨szb, rfl, rfl⟩)) (ag_tup rfl (ags_cons (ag_name 1 q__law_outcome.nd (ags_cons (ag_name 2 q__law_outcome.nd (ags_nil ?_))))))))
  refine as_cons (as_try 3 q__law_outcome.nd (c := .ref BS) ⟨rfl, by decide, .inl XE.gs⟩ fun pn xe po => ?_)
  refine ys_one (ys_set 2 q__law_outcome.nd ((act pn xe 0 _ _ _ _ _ _ rfl rfl hp).mono (fun d M1 h => ?_) fun C fs M1 h => ?_))
  · refine as_cons (as_ifp (tp_cmp (v_ 1) n_ cp_isN) (fun _ => ?_) (fun c => absurd rfl c))
    exact as_one (as_retv (av_lst (avs_cons (v_ 2) avs_nil) szb) (.ok h))
  rcases h with ⟨rfl, v, rfl, h⟩ | ⟨rfl, v, rfl, h⟩ | ⟨rfl, v, rfl, h⟩
  · refine ⟨true, XE.xi, fun _ a pn => as_one (as_setv 1 q__law_outcome.nd (v_ 3) ?_), ntf⟩
    refine as_cons (as_ifp (tp_cmp (v_ 1) n_ cp_isN) (fun c => ?no) (fun _ => as_nil ?_))
    case no => exact absurd (show false = true from c) (by decide)
    refine as_cons (as_set 4 q__law_outcome.nd (ae_lstC (aa_nil ⟨szb, fun q => ?_⟩)))
    refine as_cons (as_if (at_w (aw_and (at_val (ae_isx B.isinstance XE.ei (v_ 1) (ae_glob XE.gi ⟨rfl, rfl⟩) (.own C) XE.ii ⟨true, rfl, fun _ => aw_and1 (at_val (ae_isx B.isinstance XE.ei (v_ 1) (av_ty (T := "ValueError") XE.ve (by decide +kernel)) (.ty "ValueError") XE.iv ⟨true, rfl, fun _ => ?_, ntf⟩)), ntf⟩)))))
    refine as_one (as_expr (ae_append (n0 := 0) (v_ 4) rfl (ae_tup (aa_cons (s_.val (aa_cons (ae_xf XE.fi XE.ni ((v_ 1).val ⟨_, v, rfl, rfl, aa_nil ⟨szb, 0, _, rfl, szl (by decide), ?_⟩⟩))))))))
    refine as_cons (as_if (at_val (ae_isx B.isinstance XE.ei (v_ 1) (ae_glob XE.gn ⟨rfl, rfl⟩) (.own CN) XE.ic ⟨false, rfl, nft, fun _ => as_nil ?_⟩)))
    refine as_cons (as_if (at_val (ae_isx B.isinstance XE.ei (v_ 1) (ae_glob XE.gx ⟨rfl, rfl⟩) (.own CX) XE.ix ⟨false, rfl, nft, fun _ => as_nil ?_⟩)))
    exact as_one (as_ret (ae_if (at_cmp (av_len B.len (v_ 4) (.l (.lst 0 rfl))) i_ cmp_eqI ⟨fun _ => (av_ixL (v_ 4) i_ (.lst 0 rfl) rfl).val (.drop (.ok h)), fun h => absurd h (by simp)⟩)))
  · refine ⟨true, XE.xn, fun _ a pn => as_one (as_setv 1 q__law_outcome.nd (v_ 3) ?_), ntf⟩
    refine as_cons (as_ifp (tp_cmp (v_ 1) n_ cp_isN) (fun c => ?no) (fun _ => as_nil ?_))
    case no => exact absurd (show false = true from c) (by decide)
    refine as_cons (as_set 4 q__law_outcome.nd (ae_lstC (aa_nil ⟨szb, fun q => ?_⟩)))
    refine as_cons (as_if (at_w (aw_and (at_val (ae_isx B.isinstance XE.en (v_ 1) (ae_glob XE.gi ⟨rfl, rfl⟩) (.own CI) XE.nj ⟨false, rfl, nft, fun _ => ⟨nft, fun _ => as_nil ?_⟩⟩)))))
    refine as_cons (as_if (at_val (ae_isx B.isinstance XE.en (v_ 1) (ae_glob XE.gn ⟨rfl, rfl⟩) (.own C) XE.nc ⟨true, rfl, fun _ => ?_, ntf⟩)))
    refine as_one (as_expr (ae_append (n0 := 0) (v_ 4) rfl (ae_tup (aa_cons (s_.val (aa_cons (ae_xf XE.fn XE.nn ((v_ 1).val ⟨_, v, rfl, rfl, aa_nil ⟨szb, 0, _, rfl, szl (by decide), ?_⟩⟩))))))))
    refine as_cons (as_if (at_val (ae_isx B.isinstance XE.en (v_ 1) (ae_glob XE.gx ⟨rfl, rfl⟩) (.own CX) XE.ny ⟨false, rfl, nft, fun _ => as_nil ?_⟩)))
    exact as_one (as_ret (ae_if (at_cmp (av_len B.len (v_ 4) (.l (.lst 0 rfl))) i_ cmp_eqI ⟨fun _ => (av_ixL (v_ 4) i_ (.lst 0 rfl) rfl).val (.drop (.ok h)), fun h => absurd h (by simp)⟩)))
  · refine ⟨true, XE.xx, fun _ a pn => as_one (as_setv 1 q__law_outcome.nd (v_ 3) ?_), ntf⟩
    refine as_cons (as_ifp (tp_cmp (v_ 1) n_ cp_isN) (fun c => ?no) (fun _ => as_nil ?_))
    case no => exact absurd (show false = true from c) (by decide)
    refine as_cons (as_set 4 q__law_outcome.nd (ae_lstC (aa_nil ⟨szb, fun q => ?_⟩)))
    refine as_cons (as_if (at_w (aw_and (at_val (ae_isx B.isinstance XE.ex (v_ 1) (ae_glob XE.gi ⟨rfl, rfl⟩) (.own CI) XE.xj ⟨false, rfl, nft, fun _ => ⟨nft, fun _ => as_nil ?_⟩⟩)))))
    refine as_cons (as_if (at_val (ae_isx B.isinstance XE.ex (v_ 1) (ae_glob XE.gn ⟨rfl, rfl⟩) (.own CN) XE.xc ⟨false, rfl, nft, fun _ => as_nil ?_⟩)))
    refine as_cons (as_if (at_val (ae_isx B.isinstance XE.ex (v_ 1) (ae_glob XE.gx ⟨rfl, rfl⟩) (.own C) XE.xy ⟨true, rfl, fun _ => ?_, ntf⟩)))
    refine as_one (as_expr (ae_append (n0 := 0) (v_ 4) rfl (ae_tup (aa_cons (s_.val (aa_cons (ae_xf XE.fx XE.nx ((v_ 1).val ⟨_, v, rfl, rfl, aa_nil ⟨szb, 0, _, rfl, szl (by decide), ?_⟩⟩))))))))
    exact as_one (as_ret (ae_if (at_cmp (av_len B.len (v_ 4) (.l (.lst 0 rfl))) i_ cmp_eqI ⟨fun _ => (av_ixL (v_ 4) i_ (.lst 0 rfl) rfl).val (.drop (.ok h)), fun h => absurd h (by simp)⟩)))
abbrev LOut (P : Program) (w : World) (K : PySem.W.Frag) (mg : Str → Option Value) (base : Heap) (CI CN CX : Addr) : Prop := LGd P w K mg base 10 "_law_outcome" (aOut CI CN CX)
/-! ### _law_spoiled -/
theorem atI_mem {xs : List Val} {i : Int} (h0 : 0 ≤ i) (h1 : i < xs.length) : ∃ d, d ∈ xs ∧ atI xs i = some d := by
  obtain ⟨n, rfl⟩ : ∃ n : Nat, i = n := ⟨i.toNat, by omega⟩
  have hn : n < xs.length := by omega
  exact ⟨xs[n], List.getElem_mem hn, atI_nat (List.getElem?_eq_getElem hn)⟩
theorem cutA_mem {xs : List Val} {lo hi : Option Int} {v : Val} (h : v ∈ cutA xs lo hi) : v ∈ xs := List.mem_of_mem_drop (List.mem_of_mem_take h)
theorem cutA_len {xs : List Val} {lo hi : Option Int} : (cutA xs lo hi).length ≤ xs.length := by
  unfold cutA
  rw [List.length_take, List.length_drop]
  omega
def aSpo (K : PySem.W.Frag) : ASp := fun ds M R => ∃ (p : Addr) (i N : Nat) (st : Nat) (x : List Nat) (r : Int), ds = [.ptr p, paV st x r] ∧ M[i]? = some (p, st3 p N) ∧ N ≤ 800000 ∧ st < 2 ^ 1800 ∧ (∀ e ∈ x, e ≤ 9) ∧ x.length ≤ 2050 ∧ 1 ≤ r ∧ r < 2 ^ 1800 ∧ ∀ d, Wh K d → R d (M.set i (p, st3 p (N + 3)))
theorem b__law_spoiled (B : Bt mg) (g__law_next : GNx3 P w K mg base) : BodyOk P w K mg base 2 f n__law_spoiled "_law_spoiled" (defScope s__law_spoiled) (defBody s__law_spoiled) (aSpo K) := by
  rintro cdv A outer s0 H E hr ds M R ⟨p, i, N, st, x, r, rfl, hi, hN, hst, hx9, hxl, r1, r2, hp⟩
  obtain ⟨sv, hsv⟩ : ∃ sv, sv = (x.map Int.ofNat).map Val.int := ⟨_, rfl⟩
  have e0 : paV st x r = .tup [.int (st : Int), .tup sv, .int r] := by rw [hsv]
  rw [e0]
  clear e0
  obtain ⟨rn, rfl⟩ : ∃ rn : Nat, r = (rn : Int) := ⟨r.toNat, by omega⟩
  have rn1 : 1 ≤ rn := by omega
  have hrn : rn < 2 ^ 1800 := by
    have e : ((2 : Int) ^ 1800) = ((2 ^ 1800 : Nat) : Int) := by rw [Int.natCast_pow]; rfl
    rw [e] at r2
    exact Int.ofNat_lt.mp r2
  have e21 : 2 ^ 1800 + 1 ≤ 2 ^ 1900 := by decide +kernel
  have nst : ∀ n : Nat, n ≤ st + 1 → AtV (.int (n : Int)) (.int (n : Int)) := fun n hn => (at_nat (k := 1900) (Nat.lt_of_le_of_lt hn (Nat.lt_of_lt_of_le (Nat.succ_lt_succ hst) e21)) (by decide) (by decide)).1
  have nrn : ∀ n : Nat, n ≤ rn + 1 → AtV (.int (n : Int)) (.int (n : Int)) := fun n hn => (at_nat (k := 1900) (Nat.lt_of_le_of_lt hn (Nat.lt_of_lt_of_le (Nat.succ_lt_succ hrn) e21)) (by decide) (by decide)).1
  clear hst r2 hrn e21
  have sm : ∀ y ∈ sv, Smal y := fun y hy => by
    rw [hsv] at hy
    obtain ⟨j, hj, rfl⟩ := List.mem_map.mp hy
    obtain ⟨n, hn, rfl⟩ := List.mem_map.mp hj
    exact sm_nat (hx9 n hn)
  have sl : sv.length ≤ 2050 := by rw [hsv, List.length_map, List.length_map]; exact hxl
  clear hsv hx9 hxl
  have step : ∀ (c : Cell) (N : Nat), (M.set i (p, c)).set i (p, st3 p N) = M.set i (p, st3 p N) := fun c N => by rw [List.set_set]
  refine as_cons (as_asg ((v_ 1).val (ag_tup rfl (ags_cons (ag_name 2 q__law_spoiled.nd (ags_cons (ag_name 3 q__law_spoiled.nd (ags_cons (ag_name 4 q__law_spoiled.nd (ags_nil ?_))))))))))
  refine as_cons (as_set 5 q__law_spoiled.nd (ae_g g__law_next hr (by decide) (aa_cons ((v_ 0).val (aa_cons ((av_add (av_len B.len (v_ 3) .t) i_).val (aa_nil (ak_nil ⟨rfl, p, i, N, _, rfl, hi, by omega, by omega, by omega, fun spot s0 s1 => ?_⟩))))))))
  refine as_cons (as_set 6 q__law_spoiled.nd (ae_ixV (aE.val (d := .lst oddV) (av_lst (avs_cons n_ (avs_cons av_bl (avs_cons av_bl (avs_cons s_ (avs_cons (ae_tup (aA.val (avs_cons i_ avs_nil) ⟨szb, rfl, rfl⟩)) (avs_cons (av_lst (avs_cons i_ avs_nil) szb) (avs_cons (av_sub i_ i_) (avs_cons i_ (avs_cons i_ (avs_cons i_ avs_nil)))))))))) szb) (ae_g g__law_next hr (by decide) (aa_cons ((v_ 0).val (aa_cons (i_.val (aa_nil (ak_nil ⟨rfl, p, i, N + 1, 10, rfl, bx_get hi, by omega, by decide, by decide, fun o o0 o1 => ?_⟩)))))))))) 
  obtain ⟨od, om, oh⟩ := atI_mem (xs := oddV) o0 o1
  refine ⟨o, od, rfl, .l oh, ?_⟩
  rw [step]
  obtain ⟨po, hod, wod⟩ := sm_odd od om
  have sod : Smal od := ⟨po, hod, wod⟩
  refine as_cons (as_par3 7 8 9 q__law_spoiled.nd rfl (aa_cons ((av_sliceT (v_ 3) ao_none (ao_some (v_ 5))).val (aa_cons ((av_sliceT (v_ 3) (ao_some (v_ 5)) ao_none).val (aa_cons (ae_g g__law_next hr (by decide) (aa_cons ((v_ 0).val (aa_cons (i_.val (aa_nil (ak_nil ⟨rfl, p, i, N + 1 + 1, 23, rfl, bx_get hi, by omega, by decide, by decide, fun way w0 w1 => aa_nil ⟨_, _, _, rfl, ?_⟩⟩)))))))))))) )
  rw [step]
  have fm : ∀ y ∈ cutA sv none (some spot), Smal y := fun y hy => sm y (cutA_mem hy)
  have rm : ∀ y ∈ cutA sv (some spot) none, Smal y := fun y hy => sm y (cutA_mem hy)
  have fl : (cutA sv none (some spot)).length ≤ 2050 := Nat.le_trans cutA_len sl
  have rl : (cutA sv (some spot) none).length ≤ 2050 := Nat.le_trans cutA_len sl
  generalize cutA sv none (some spot) = fv at *
  generalize cutA sv (some spot) none = rv at *
  have rm2 : ∀ y ∈ cutA rv (some 1) none, Smal y := fun y hy => rm y (cutA_mem hy)
  have rl2 : (cutA rv (some 1) none).length ≤ 2050 := Nat.le_trans cutA_len rl
  have ast := nst st (by omega)
  have arn := nrn rn (by omega)
  have whp : ∀ {a c : Val} {ys : List Val} {pa pc : PyData}, AtV a pa → AtV c pc → (∀ y ∈ ys, Smal y) → ys.length ≤ 5000 → Wh K (.tup [a, .tup ys, c]) := fun h1 h2 h3 h4 => .path h1 h2 h3 h4
  have sat : ∀ {xs ys : List Val}, (∀ y ∈ xs, Smal y) → (∀ y ∈ ys, Smal y) → ∀ y ∈ xs ++ ys, Smal y := fun h1 h2 y hy => (List.mem_append.mp hy).elim (h1 y) (h2 y)
  have so1 : ∀ y ∈ [od], Smal y := fun y hy => by
    rw [List.mem_singleton.mp hy]
    exact sod
  have dst : Dt (.int (st : Int)) := ast.dt
  have drn : Dt (.int (rn : Int)) := arn.dt
  have dsv := dt_tup sm (by omega)
  refine as_cons (as_ifp (tp_cmp (v_ 9) i_ cp_lt) (fun hw => ?_) (fun hw => as_nil ?_))
  · refine as_cons (as_setv (d := .lst [.tup ((fv ++ [od]) ++ rv), .tup ((fv ++ [od]) ++ cutA rv (some 1) none), .tup (fv ++ cutA rv (some 1) none), .tup sv.reverse]) 10 q__law_spoiled.nd ?_ ?_)
    · refine av_lst (avs_cons (av_catT (av_catT (v_ 7) (av_tup (avs_cons (v_ 6) avs_nil) szb) (sz (by simp; omega))) (v_ 8) (sz (by simp; omega))) (avs_cons (av_catT (av_catT (v_ 7) (av_tup (avs_cons (v_ 6) avs_nil) szb) (sz (by simp; omega))) (av_sliceT (v_ 8) (ao_some i_) ao_none) (sz (by simp; omega))) (avs_cons (av_catT (v_ 7) (av_sliceT (v_ 8) (ao_some i_) ao_none) (sz (by omega))) (avs_cons (av_revT (v_ 3)) avs_nil)))) szb
    have key : ∀ b ∈ ([.tup ((fv ++ [od]) ++ rv), .tup ((fv ++ [od]) ++ cutA rv (some 1) none), .tup (fv ++ cutA rv (some 1) none), .tup sv.reverse] ++ [.tup (sv ++ [od]), .tup fv, .lst sv, od] : List Val), Wh K (.tup [.int (st : Int), b, .int (rn : Int)]) := fun b hb => by
      simp only [List.cons_append, List.nil_append, List.mem_cons, List.not_mem_nil, or_false] at hb
      rcases hb with rfl | rfl | rfl | rfl | rfl | rfl | rfl | rfl
      · exact whp ast arn (sat (sat fm so1) rm) (by simp; omega)
      · exact whp ast arn (sat (sat fm so1) rm2) (by simp; omega)
      · exact whp ast arn (sat fm rm2) (by simp; omega)
      · exact whp ast arn (fun y hy => sm y (List.mem_reverse.mp hy)) (by simp; omega)
      · exact whp ast arn (sat sm so1) (by simp; omega)
      · exact whp ast arn fm (by omega)
      · refine ⟨(dr_seq (ds := [_, _, _]) (fun d hd => ?_) (Nat.le_of_ble_eq_true rfl)).1, .inr (.inr (.inl ⟨_, _, _, rfl, fun M => ntup_lst⟩))⟩
        simp only [List.mem_cons, List.not_mem_nil, or_false] at hd
        rcases hd with rfl | rfl | rfl
        · exact dst
        · exact dsv.2
        · exact drn
      · exact .mid ast hod arn
    obtain ⟨b, hb, hbi⟩ := atI_mem (xs := ([.tup ((fv ++ [od]) ++ rv), .tup ((fv ++ [od]) ++ cutA rv (some 1) none), .tup (fv ++ cutA rv (some 1) none), .tup sv.reverse] ++ [.tup (sv ++ [od]), .tup fv, .lst sv, od] : List Val)) w0 (by simpa using hw)
    exact as_one (as_retv (av_tup (avs_cons (v_ 2) (avs_cons (av_ix (av_catL (v_ 10) (av_lst (avs_cons (av_catT (v_ 3) (av_tup (avs_cons (v_ 6) avs_nil) szb) (sz (by simp; omega))) (avs_cons (v_ 7) (avs_cons (av_list B.list (v_ 3) .t) (avs_cons (v_ 6) avs_nil)))) szb) (.self _) (.self _) szb) (v_ 9) (.l hbi)) (avs_cons (v_ 4) avs_nil))) szb) (.ok (hp _ (key b hb))))
  refine as_cons (as_ifp (tp_cmp (v_ 9) i_ cp_lt) (fun hw2 => ?_) (fun hw2 => as_nil ?_))
  · refine as_cons (as_setv (d := .lst [.tup [.int ((st : Int) + 1), .tup sv, .int (rn : Int)], .tup [.int ((st : Int) - 1), .tup sv, .int (rn : Int)], .tup [od, .tup sv, .int (rn : Int)]]) 11 q__law_spoiled.nd ?_ ?_)
    · exact av_lst (avs_cons (av_tup (avs_cons (av_add (v_ 2) i_) (avs_cons (v_ 3) (avs_cons (v_ 4) avs_nil))) szb) (avs_cons (av_tup (avs_cons (av_sub (v_ 2) i_) (avs_cons (v_ 3) (avs_cons (v_ 4) avs_nil))) szb) (avs_cons (av_tup (avs_cons (v_ 6) (avs_cons (v_ 3) (avs_cons (v_ 4) avs_nil))) szb) avs_nil))) szb
    refine as_cons (as_setv (d := .lst ([.tup [.int ((st : Int) + 1), .tup sv, .int (rn : Int)], .tup [.int ((st : Int) - 1), .tup sv, .int (rn : Int)], .tup [od, .tup sv, .int (rn : Int)]] ++ [.tup [.int (st : Int), .tup sv, od], .tup [.int (st : Int), .tup sv, .int ((rn : Int) + 1)], .tup [.int (st : Int), .tup sv, .int ((rn : Int) - 1)]])) 11 q__law_spoiled.nd ?_ ?_)
    · exact av_catL (v_ 11) (av_lst (avs_cons (av_tup (avs_cons (v_ 2) (avs_cons (v_ 3) (avs_cons (v_ 6) avs_nil))) szb) (avs_cons (av_tup (avs_cons (v_ 2) (avs_cons (v_ 3) (avs_cons (av_add (v_ 4) i_) avs_nil))) szb) (avs_cons (av_tup (avs_cons (v_ 2) (avs_cons (v_ 3) (avs_cons (av_sub (v_ 4) i_) avs_nil))) szb) avs_nil))) szb) (.self _) (.self _) szb
    have key : ∀ b ∈ (([.tup [.int ((st : Int) + 1), .tup sv, .int (rn : Int)], .tup [.int ((st : Int) - 1), .tup sv, .int (rn : Int)], .tup [od, .tup sv, .int (rn : Int)]] ++ [.tup [.int (st : Int), .tup sv, od], .tup [.int (st : Int), .tup sv, .int ((rn : Int) + 1)], .tup [.int (st : Int), .tup sv, .int ((rn : Int) - 1)]]) ++ [.tup [.int (st : Int), .tup sv, .int (rn : Int)]] : List Val), Wh K b := fun b hb => by
      simp only [List.cons_append, List.nil_append, List.mem_cons, List.not_mem_nil, or_false] at hb
      rcases hb with rfl | rfl | rfl | rfl | rfl | rfl | rfl
      · exact whp (nst (st + 1) (by omega)) arn sm (by omega)
      · by_cases z : st = 0
        · subst z
          obtain ⟨q, hq, _⟩ := sm_odd (.int (0 - 1)) (by simp [oddV])
          exact whp hq arn sm (by omega)
        · rw [show ((st : Int) - 1) = ((st - 1 : Nat) : Int) by omega]
          exact whp (nst (st - 1) (by omega)) arn sm (by omega)
      · exact whp hod arn sm (by omega)
      · exact whp ast hod sm (by omega)
      · exact whp ast (nrn (rn + 1) (by omega)) sm (by omega)
      · rw [show ((rn : Int) - 1) = ((rn - 1 : Nat) : Int) by omega]
        exact whp ast (nrn (rn - 1) (by omega)) sm (by omega)
      · exact whp ast arn sm (by omega)
    obtain ⟨b, hb, hbi⟩ := atI_mem (xs := (([.tup [.int ((st : Int) + 1), .tup sv, .int (rn : Int)], .tup [.int ((st : Int) - 1), .tup sv, .int (rn : Int)], .tup [od, .tup sv, .int (rn : Int)]] ++ [.tup [.int (st : Int), .tup sv, od], .tup [.int (st : Int), .tup sv, .int ((rn : Int) + 1)], .tup [.int (st : Int), .tup sv, .int ((rn : Int) - 1)]]) ++ [.tup [.int (st : Int), .tup sv, .int (rn : Int)]] : List Val)) (i := way - 8) (by omega) (by simp; omega)
    exact as_one (as_retv (av_ix (av_catL (v_ 11) (av_lst (avs_cons (v_ 1) avs_nil) szb) (.self _) (.self _) szb) (av_sub (v_ 9) i_) (.l hbi)) (.ok (hp _ (key b hb))))
  have key : ∀ b ∈ ([.lst [.int (st : Int), .tup sv, .int (rn : Int)], .tup (cutA [.int (st : Int), .tup sv, .int (rn : Int)] none (some 2)), .tup ([.int (st : Int), .tup sv, .int (rn : Int)] ++ [.int 0]), .non, .int 5, .str "path", .tup [], .tup [od, od, od]] : List Val), Wh K b := fun b hb => by
    simp only [List.mem_cons, List.not_mem_nil, or_false] at hb
    have d0 : ∀ n : Nat, n ≤ 9 → Dt (.int (n : Int)) := fun n hn => by
      obtain ⟨q, hq, _⟩ := sm_nat hn
      exact hq.dt
    have m3 : ∀ d ∈ ([.int (st : Int), .tup sv, .int (rn : Int)] : List Val), Dt d := fun d hd => by
      simp only [List.mem_cons, List.not_mem_nil, or_false] at hd
      rcases hd with rfl | rfl | rfl
      · exact dst
      · exact dsv.1
      · exact drn
    rcases hb with rfl | rfl | rfl | rfl | rfl | rfl | rfl | rfl
    · exact ⟨(dr_seq m3 (Nat.le_of_ble_eq_true rfl)).2, .inl fun M => ntup_lst⟩
    · exact ⟨(dr_seq (fun d hd => m3 d (cutA_mem hd)) (Nat.le_trans cutA_len (Nat.le_of_ble_eq_true rfl))).1, .inr (.inl ⟨_, rfl, fun e => by
        rw [show (2 : Int) = ((2 : Nat) : Int) from rfl, cutA_take] at e
        exact absurd e (by simp)⟩)⟩
    · refine ⟨(dr_seq (fun d hd => ?_) (Nat.le_of_ble_eq_true rfl)).1, .inr (.inl ⟨_, rfl, fun e => absurd e (by simp)⟩)⟩
      rcases List.mem_append.mp hd with hd | hd
      · exact m3 d hd
      · rw [List.mem_singleton.mp hd]
        exact d0 0 (by decide)
    · obtain ⟨q, hq, _⟩ := sm_odd .non (by simp [oddV])
      exact ⟨hq.dt.dr, .inl fun M => ⟨_, .non, kit_ty (by decide +kernel)⟩⟩
    · exact ⟨(d0 5 (by decide)).dr, .inl fun M => ⟨_, .int 5, kit_ty (by decide +kernel)⟩⟩
    · refine ⟨⟨_, .str "path", (by show _ = true; decide +kernel), sz2 (by decide +kernel), by decide⟩, .inl fun M => ⟨_, .str _, kit_ty (by decide +kernel)⟩⟩
    · exact ⟨(dr_seq (fun d hd => by simp at hd) (Nat.zero_le _)).1, .inr (.inl ⟨_, rfl, fun e => absurd e (by simp)⟩)⟩
    · exact .mid hod hod hod
  obtain ⟨b, hb, hbi⟩ := atI_mem (xs := ([.lst [.int (st : Int), .tup sv, .int (rn : Int)], .tup (cutA [.int (st : Int), .tup sv, .int (rn : Int)] none (some 2)), .tup ([.int (st : Int), .tup sv, .int (rn : Int)] ++ [.int 0]), .non, .int 5, .str "path", .tup [], .tup [od, od, od]] : List Val)) (i := way - 15) (by omega) (by simp; omega)
  exact as_one (as_retv (av_ix (av_lst (avs_cons (av_list B.list (v_ 1) .t) (avs_cons (av_sliceT (v_ 1) ao_none (ao_some i_)) (avs_cons (av_catT (v_ 1) (av_tup (avs_cons i_ avs_nil) szb) szb) (avs_cons n_ (avs_cons i_ (avs_cons s_ (avs_cons (av_tup avs_nil szb) (avs_cons (av_tup (avs_cons (v_ 6) (avs_cons (v_ 6) (avs_cons (v_ 6) avs_nil))) szb) avs_nil)))))))) szb) (av_sub (v_ 9) i_) (.l hbi)) (.ok (hp _ (key b hb))))
abbrev GSpo (P : Program) (w : World) (K : PySem.W.Frag) (mg : Str → Option Value) (base : Heap) : Prop := Gd P w K mg base 3 "_law_spoiled" [] fun ds _ => aSpo K ds
end
end K14
namespace K14
open PySem L2 Ab GenW LamX Sm
section
variable {P : Program} {w : World} {K : PySem.W.Frag} {mg : Str → Option Value} {base : Heap} {k : Nat} {f C CO CS CB CI CX CN CL Pt : Addr}
/-! ### Node.at as it is called -/
structure NAt (P : Program) (w : World) (K : PySem.W.Frag) (mg : Str → Option Value) (base : Heap) (C CN CS CB : Addr) : Prop where
  ex : ∃ p g, ClX.CRead K CN (.type "type") ∧ ClX.CMet K CN (.type "type") "at" p g ∧ FX P w K mg base 7 g fun ds _ => aAt C CN CS CB ds
section
variable {X : Cx} {Γ : Gam} {M : Mem} {R : Val → Mem → Prop} {e e1 : Expr} {p1 apos pos : Pos} {q : Nat} {S : Sc} {n : Int} {pl : Sem Bool}
theorem ae_nat (N : NdT X.K X.mg CN CS CB) (I : NAt X.prog X.w X.K X.mg X.base C CN CS CB) (hr : Rm q X.A) (hq : 7 ≤ q) (he : aV X e Γ M (scV C S)) (he1 : aV X e1 Γ M (.int n)) (hS : GoodS S) (n1 : 1 ≤ n) (n2 : n < 2 ^ 2000) (h : ∀ a b, OnS S n a b → a ≤ 2010 → R (ndV C CS CB S a b) M)
    (hg : Gl X "Node" := by rfl) (hst : starEach [e, e1] X.env = (false, eval e X.env) :: starEach [e1] X.env := by rfl) (hst2 : starEach [e1] X.env = (false, eval e1 X.env) :: starEach [] X.env := by rfl)
    (ht : eval (.Call (.Attribute (.Name "Node" p1) "at" apos) [e, e1] [] pos) X.env = (do
      let ov ← eval (.Name "Node" p1) X.env
      standAt apos.atName
      let (f, first) ← holding [ov] (getMethod ov "at" pl)
      callWith pos f first (backTo pos (starEach [e, e1] X.env)) (backToKw pos (keywordEach [] X.env))) := by rfl) : aE X (.Call (.Attribute (.Name "Node" p1) "at" apos) [e, e1] [] pos) Γ M R := by
  obtain ⟨p, g, r, cm, F⟩ := I.ex
  exact ae_cmeth r cm F hr hq (ae_glob N.nc.gN ⟨rfl, rfl⟩ hg) (aa_cons (he.val (aa_cons (he1.val (aa_nil (ak_nil ⟨rfl, S, n, rfl, hS, n1, n2, h⟩))) hst2)) hst) rfl rfl hst (by rw [hst, hst2]; rfl) ht
end
abbrev ndO (C CS CB : Addr) : Sc → Nat → List Nat → Val := fun S st x => ndV C CS CB S (st - x.length) (dval S.a.toNat 0 x)
/-- check_path at what may be handed in -/
theorem cp_of {S : Sc} {n : Int} {st : Nat} {x : List Nat} {r : Int} {d : Val} {M : Mem} {R : Val → Mem → Prop} {PE : XP} (hS : GoodS S) (n1 : 1 ≤ n) (n2 : n < 2 ^ 2000) (hx : PathS S n st x r) (hw : Wh K d) (h1 : duE st x r d = none → R (ndO C CS CB S st x) M) (h2 : ∀ s, duE st x r d = some s → PE CI [("part", .str s)] M) :
    aCp K C CX CN CI (ndO C CS CB) [scV C S, .int n, d] M R PE := by
  rcases hw.kd with h | ⟨xs, rfl, hl⟩ | ⟨a, b, c, rfl, h⟩ | ⟨a, ys, c, pa, ps, pc, rfl, ha, hy, hc, hyl⟩
  · refine .inr (.inl ⟨S, n, d, rfl, hS, n1, n2, .inl (h M), h2 _ ?_⟩)
    cases d with
    | tup xs => exact (ntup_no (h M)).elim
    | _ => rfl
  · refine .inr (.inl ⟨S, n, _, rfl, hS, n1, n2, .inr (.inl ⟨xs, rfl, hl⟩), h2 _ ?_⟩)
    match xs, hl with
    | [], _ => rfl
    | [_], _ => rfl
    | [_, _], _ => rfl
    | [_, _, _], h => exact absurd rfl h
    | _ :: _ :: _ :: _ :: _, _ => rfl
  · refine .inr (.inl ⟨S, n, _, rfl, hS, n1, n2, .inr (.inr ⟨a, b, c, rfl, h M⟩), h2 _ ?_⟩)
    cases b with
    | tup xs => exact (ntup_no (h M)).elim
    | _ => rfl
  · refine .inr (.inr ⟨S, n, a, c, ys, rfl, hS, n1, n2, ha.itd, hc.itd, by omega, fun y hy' q => ?_, fun st' x' r' hx' => ?_⟩)
    · have : ∀ {ys : List Val} {ps : List PyData}, AtA ys ps → ∀ y ∈ ys, ItD K (q :: M) y := fun h => by
        induction h with
        | nil => intro y hy; exact nomatch hy
        | cons a _ _ ih =>
          intro y hy
          rcases List.mem_cons.mp hy with rfl | hy
          · exact a.itd
          · exact ih y hy
      exact this hy y hy'
    · obtain ⟨rfl, rfl, rfl⟩ := PathOf.uniq hS.k2 hS.s0 hS.l0 hS.lp hx hx'
      have h1 : (if eqI a (st : Int) = false then some ("stage" : Str) else if stEq ys x = false then some ("steps" : Str) else if eqI c r = false then some ("rest" : Str) else none) = none → R (ndO C CS CB S st x) M := h1
      have h2 : ∀ s : Str, (if eqI a (st : Int) = false then some ("stage" : Str) else if stEq ys x = false then some ("steps" : Str) else if eqI c r = false then some ("rest" : Str) else none) = some s → PE CI [("part", .str s)] M := h2
      split
      · rename_i c1
        exact h2 _ (by rw [if_pos c1])
      · rename_i c1
        split
        · rename_i c2
          exact h2 _ (by rw [if_neg c1, if_pos c2])
        · rename_i c2
          split
          · rename_i c3
            exact h2 _ (by rw [if_neg c1, if_neg c2, if_pos c3])
          · rename_i c3
            exact h1 (by rw [if_neg c1, if_neg c2, if_neg c3])
theorem du_ok {st : Nat} {x : List Nat} {r : Int} {d : Val} {s : Str} (h : duE st x r d = some s) : PyData.strOk s = true := by
  have : s ∈ [("form" : Str), "stage", "steps", "rest"] := by
    unfold duE at h
    split at h
    · split at h
      · split at h
        · cases h; simp
        · split at h
          · cases h; simp
          · split at h
            · cases h; simp
            · cases h
      · cases h; simp
    · cases h; simp
  simp only [List.mem_cons, List.not_mem_nil, or_false] at this
  rcases this with rfl | rfl | rfl | rfl <;> decide +kernel
theorem on_idx {S : Sc} (hS : GoodS S) {n : Int} {h b : Nat} (o : OnS S n h b) : (b : Int) ≤ n + 1000001 := by
  have h1 := pl_ge hS.k2 hS.s0 hS.l0 hS.lp h b
  have h2 := pl_stt (k := S.a.toNat) (s := item S.sp) (l := item S.lv) h b
  have h3 := o.lo
  have h4 : lab (item S.sp) (item S.lv) h b ≤ 1000000 := by
    unfold lab
    split
    · exact (hS.ls.item h).2
    · exact (hS.ll.item h).2
  omega
/-- what the outcome is -/
def resV (nd : Val) : Option Str → Val
  | none => .lst [nd]
  | some s => .tup [.str "certificate", .str s]
/-! ### _law_right -/
abbrev rtLam : Str := "_law_right.<locals>.<lambda>"
def aRgh (C Pt : Addr) : ASp := fun ds M R => ∃ (p : Addr) (i N j : Nat) (S : Sc) (n : Int), ds = [.ptr p, scV C S, .int n] ∧ M[i]? = some (p, st3 p N) ∧ N ≤ 700000 ∧ M[j]? = some (Pt, .b (.tb rtLam)) ∧ GoodS S ∧ 1 ≤ n ∧ n < 2 ^ 400 ∧ R (.bl true) (M.set i (p, st3 p (N + 24)))
theorem b__law_right {c : Addr} (B : Bt mg) (mr : mg "repr" = none) (D : DigK K) (N : NdT K mg CO CS CB) (NA : NAt P w K mg base C CO CS CB) (GL : GLpa P w K mg base C) (GC : GCp P w K mg base C CX CN CI (ndO C CS CB)) (GS : GSpo P w K mg base) (GD : GDue P w K mg base) (LO : LOut P w K mg base CI CN CX) (GIN : GIsn P w K mg base C CS CB)
    (PHE : NPr P w K mg base CS CB "height" 1 (aPhe C CS CB)) (TB : TabB base mg c Pt) : BodyT P w K mg base 12 f c n__law_right "_law_right" (defScope s__law_right) (defBody s__law_right) (aRgh C Pt) := by
  rintro A outer s0 H E hr ds M R ⟨p, i, N0, j, S, n, rfl, hi, hN, hj, hS, n1, n2, hp⟩
  have hu := hr.u64
  have n22 : n < 2 ^ 2000 := by
    have e : (2 : Int) ^ 400 ≤ 2 ^ 2000 := by decide +kernel
    omega
  have ne : i ≠ j := fun e => by
    rw [e, hj] at hi
    cases hi
  have hjs : ∀ x, (M.set i x)[j]? = some (Pt, .b (.tb rtLam)) := fun x => by rw [List.getElem?_set_ne ne]; exact hj
  have step : ∀ (c : Cell) (N : Nat), (M.set i (p, c)).set i (p, st3 p N) = M.set i (p, st3 p N) := fun c N => by rw [List.set_set]
  refine as_cons (as_asg (ae_tup (aa_cons (ae_g GL hr (by decide) (aa_cons ((v_ 1).val (aa_cons ((v_ 2).val (aa_nil (ak_nil ⟨rfl, S, n, rfl, hS, n1, n22, fun st x r hst hx => aa_cons (ae_nat N NA hr (by decide) (v_ 1) (v_ 2) hS n1 n22 fun h b on h20 => aa_nil ⟨szb, ag_tup rfl (ags_cons (ag_name 3 q__law_right.nd (ags_cons (ag_name 4 q__law_right.nd (ags_nil ?_)))))⟩)⟩))))))))) )
  have r1 : 1 ≤ r := hx.r1
  have rn : r ≤ n := hx.rn hS.k2 hS.s0 hS.l0 hS.lp
  have hx9 : ∀ e ∈ x, e ≤ 9 := fun e he => by
    have h1 := hx.lt e he
    have h2 := hS.k9
    omega
  have hxl : x.length ≤ 2010 := Nat.le_trans hx.len hst
  have e20 : 2 ^ 11 ≤ 2 ^ 1800 := by decide +kernel
  have st18 : st < 2 ^ 1800 := Nat.lt_of_lt_of_le (show st < 2 ^ 11 by omega) e20
  have e40 : (2 : Int) ^ 400 ≤ 2 ^ 1800 := by decide +kernel
  have r18 : r < 2 ^ 1800 := Int.lt_of_lt_of_le (Int.lt_of_le_of_lt rn n2) e40
  have e50 : (2 : Int) ^ 1800 ≤ 2 ^ 1900 := by decide +kernel
  have st19 : st < 2 ^ 1900 := Nat.lt_of_lt_of_le st18 (by decide +kernel)
  have r19 : r < 2 ^ 1900 := Int.lt_of_lt_of_le r18 e50
  have hb19 : b < 2 ^ 1900 := by
    have h1 := on_idx hS on
    have e : (2 : Int) ^ 400 + 1000001 ≤ ((2 ^ 1900 : Nat) : Int) := by decide +kernel
    have h2 : (b : Int) < ((2 ^ 1900 : Nat) : Int) := Int.lt_of_le_of_lt h1 (Int.lt_of_lt_of_le (Int.add_lt_add_right n2 _) e)
    exact Int.ofNat_lt.mp h2
  have hnd : ndO C CS CB S st x = ndV C CS CB S h b := by
    obtain ⟨e1, e2⟩ := On.uniq hS.k2 hS.s0 hS.l0 hS.lp hx.on on
    show ndV C CS CB S (st - x.length) (dval S.a.toNat 0 x) = _
    rw [e1, e2]
  clear e20 e40 e50 n2
  refine as_cons (as_forW PassesOwn.never rfl (aj_range1 B.range (i_.val ⟨_, rfl, by decide, by decide, ?_⟩)))
  refine ⟨fun t Γ M' => M' = M.set i (p, st3 p (N0 + 3 * t)) ∧ Γ = [some (.ptr p), some (scV C S), some (.int n), some (paV st x r), some (ndV C CS CB S h b), none, none, none, none, none, none], ⟨_, _, ⟨(set_at hi).symm, rfl⟩, (by repeat' first | exact le_nil | refine le_skip ?_ | refine le_keep rfl ?_), (by repeat' first | exact List.Sublist.refl _ | exact List.sublist_append_right _ _ | apply List.Sublist.cons₂ | apply List.Sublist.cons)⟩, ?_, ?_⟩
  · rintro t Γ M' ht ⟨rfl, rfl⟩
    have ht : t < 8 := ht
    refine ag_name 5 q__law_right.nd ?_
    refine as_cons (as_set 6 q__law_right.nd (ae_g GS hr (by decide) (aa_cons ((v_ 0).val (aa_cons ((v_ 3).val (aa_nil (ak_nil ⟨rfl, p, i, N0 + 3 * t, st, x, r, rfl, bx_get hi, by omega, st18, hx9, by omega, r1, r18, fun d hw => ?_⟩))))))))
    rw [step]
    obtain ⟨pd, vd, rq⟩ := hw.ex
    have up : ∀ {M : Mem}, Vd M d pd := fun {M} => vd.has (fun i x h => by simp at h)
    have htb := hjs (p, st3 p (N0 + 3 * t + 3))
    have eN : N0 + 3 * t + 3 = N0 + 3 * (t + 1) := by omega
    rw [eN] at *
    generalize hM1 : M.set i (p, st3 p (N0 + 3 * (t + 1))) = M1 at *
    refine as_cons (as_par 7 8 q__law_right.nd rfl (by decide) (aa_cons (ae_g GD hr (by decide) (aa_cons ((v_ 6).val (aa_cons ((v_ 3).val (aa_nil (ak_nil ⟨rfl, d, st, x, r, rfl, hw, st19, hx9, by omega, r1, r19, aa_cons ((av_reprQ D hr mr (v_ 6) up rq).val (aa_nil ⟨_, _, rfl, ?_⟩))⟩)))))))))
    obtain ⟨res, hres⟩ : ∃ res : Val, res = resV (ndV C CS CB S h b) (duE st x r d) := ⟨_, rfl⟩
    have out : ∀ {M2 : Mem} {R' : Val → Mem → Prop}, R' res M2 → aOut CI CN CX (fun M3 R3 PE => M3 = M2 ∧ aCp K C CX CN CI (ndO C CS CB) [scV C S, .int n, d] M2 R3 PE) M2 R' := by
      intro M2 R' hR
      refine ⟨rfl, cp_of hS n1 n22 hx hw ?_ ?_⟩
      · intro e
        have h3 : R' (resV (ndV C CS CB S h b) none) M2 := by
          rw [← e, ← hres]
          exact hR
        rw [hnd]
        exact h3
      · intro s e
        have h3 : R' (resV (ndV C CS CB S h b) (some s)) M2 := by
          rw [← e, ← hres]
          exact hR
        exact .inl ⟨rfl, _, rfl, h3⟩
    refine as_cons (as_set 9 q__law_right.nd (ae_lstC (aa_cons (ae_lam LO hr (by decide) ⟨c, TB, rfl⟩ (i := j) htb 8 (fun M3 R3 PE => M3 = M1 ∧ aCp K C CX CN CI (ndO C CS CB) [scV C S, .int n, d] M1 R3 PE) (fun A outer s H E f c' hr' po M2 R' PE ⟨eM, hb⟩ => ?lam) (by decide) (out (aa_nil ⟨szb, fun q => ?_⟩)) (L := by show lamSB (defScope s__law_right) _ = true; decide +kernel)))))
    case lam =>
      subst eM
      exact ye_g GC.p hr' (by decide) (aa_cons ((v_ 1).val (aa_cons ((v_ 2).val (aa_cons ((v_ 6).val (aa_nil (ak_nil ⟨rfl, hb⟩))))))))
    refine as_cons (as_expr (ae_append (n0 := 0) (v_ 9) rfl (ae_lam LO hr (by decide) ⟨c, TB, rfl⟩ (i := j + 1) (by rw [List.getElem?_cons_succ]; exact htb) 8 (fun M3 R3 PE => M3 = (q, .lst [res]) :: M1 ∧ aCp K C CX CN CI (ndO C CS CB) [scV C S, .int n, d] ((q, .lst [res]) :: M1) R3 PE) (fun A outer s H E f c' hr' po M2 R' PE ⟨eM, hb⟩ => ?lam) (by decide) (out ⟨0, [res], rfl, szl (by simp), ?_⟩) (L := by show lamSB (defScope s__law_right) _ = true; decide +kernel))))
    case lam =>
      subst eM
      exact ye_g0 GC.k hr' (by decide) (ak_cons ((v_ 6).val (ak_cons ((v_ 2).val (ak_cons ((v_ 1).val (ak_nil ⟨rfl, rfl, hb⟩)))))))
    show aSs _ _ _ ((q, .lst [res, res]) :: M1) _
    refine as_cons (as_if (at_cmp (av_reprQ D hr mr (v_ 6) up rq) (v_ 8) (Ab.cmp_neSF rfl) ⟨nft, fun _ => as_nil ?_⟩))
    refine as_frz 9 rfl ?_
    have fin : Wk (fun Γ M' => M' = M.set i (p, st3 p (N0 + 3 * (t + 1))) ∧ Γ = [some (.ptr p), some (scV C S), some (.int n), some (paV st x r), some (ndV C CS CB S h b), none, none, none, none, none, none]) [some (.ptr p), some (scV C S), some (.int n), some (paV st x r), some (ndV C CS CB S h b), none, none, none, none, none, none] M1 := ⟨_, _, ⟨rfl, rfl⟩, (by repeat' first | exact le_nil | refine le_skip ?_ | refine le_keep rfl ?_), by rw [hM1]; exact List.Sublist.refl _⟩
    rcases hdu : duE st x r d with _ | s
    · have hres : res = .lst [ndV C CS CB S h b] := by
        rw [hres, hdu]
        rfl
      subst hres
      refine as_one (as_ifp (tp_cmp (v_ 7) n_ cp_isN) (fun _ => ?_) (fun c => absurd rfl c))
      refine as_one (as_if (at_not (at_val (ae_all B.all rfl (ae_lcP [("_law_row_here", 10)] (fun _ => .bl true) rfl q__law_right.nd (blkOk_by (N := n__law_right) (sc := defScope s__law_right) (by decide +kernel)) (ai_lst (xs := [.lst [ndV C CS CB S h b], .lst [ndV C CS CB S h b]]) ((v_ 9).val ⟨rfl, rfl⟩)) ?_ (Nat.le_of_ble_eq_true rfl) ⟨[true, true], .self _, true, rfl, nft, fun _ => as_nil ?_⟩)))))
      · intro t' acc D' ht' s1 H1 C1 cl fp
        have e : ([.lst [ndV C CS CB S h b], .lst [ndV C CS CB S h b]] : List Val).getD t' .non = .lst [ndV C CS CB S h b] := by
          match t', ht' with
          | 0, _ => rfl
          | 1, _ => rfl
        rw [e]
        refine agw_name 10 q__law_right.nd fun s1 H1 C1 cl fp => ?_
        refine ae_and (ae_cmp (av_len B.len (v_ 10) (.l (.self _))) i_ cmp_eqI ⟨true, rfl, fun _ => ?_, ntf⟩)
        exact ae_one (ae_g GIN hr (by decide) (aa_cons ((av_ixL (v_ 10) i_ (.self _) rfl).val (aa_cons (ae_npr N PHE hr (by decide) (v_ 4) ⟨S, h, b, rfl, aa_cons ((av_ndI N (v_ 4)).val (aa_nil (ak_nil ⟨rfl, S, h, b, rfl, by omega, hb19, rfl, rfl⟩)))⟩)))))
      · exact fin.mono (by repeat' first | exact le_nil | refine le_skip ?_ | refine le_keep rfl ?_) (List.Sublist.refl _)
    · have hres : res = .tup [.str "certificate", .str s] := by
        rw [hres, hdu]
        rfl
      subst hres
      refine as_one (as_ifp (tp_cmp (v_ 7) n_ cp_isN) (fun c => ?no) (fun _ => ?_))
      case no => exact absurd (show false = true from c) (by decide)
      refine as_one (as_if (at_cmp (v_ 9) (av_repL (avs_cons (av_tup (avs_cons s_ (avs_cons (v_ 7) avs_nil)) szb) avs_nil) szb (fun M' => i_) (by decide) (by decide) szb) (cmp_neV (v := .lst [.tup [.str "certificate", .str s], .tup [.str "certificate", .str s]]) (w := .lst [.tup [.str "certificate", .str s], .tup [.str "certificate", .str s]]) (.self _) (.self _) ?_ ⟨⟨(by decide +kernel : PyData.strOk "certificate" = true), du_ok hdu, trivial⟩, ⟨(by decide +kernel : PyData.strOk "certificate" = true), du_ok hdu, trivial⟩, trivial⟩ (Nat.le_of_ble_eq_true rfl) hu) ⟨nft, fun _ => as_nil ?_⟩))
      · rfl
      · exact fin.mono (by repeat' first | exact le_nil | refine le_skip ?_ | refine le_keep rfl ?_) (List.Sublist.refl _)
  · rintro Γ M' ⟨rfl, rfl⟩
    exact as_one (as_ret (ae_bl (.ok hp)))
abbrev GRgh (P : Program) (w : World) (K : PySem.W.Frag) (mg : Str → Option Value) (base : Heap) (C Pt : Addr) : Prop := Gd P w K mg base 13 "_law_right" [] fun ds _ => aRgh C Pt ds
end
end K14
/-! Ab104: a list of a generator frozen; if not super().m(..) -/
namespace Ab
open PySem PySem.Spec PyProof.Rows L2 PySem.W GenW
end Ab
/-! Ab105: a dict display whose values make cells -/
namespace Ab
open PySem PySem.Spec PyProof.Rows L2
end Ab
namespace K14
open PySem L2 Ab GenW LamX Sm
section
variable {P : Program} {w : World} {K : PySem.W.Frag} {mg : Str → Option Value} {base : Heap} {k : Nat} {f C CO CS CB CI CX CN CL Pt Pl : Addr}
abbrev lwLam : Str := "law.<locals>.<lambda>"
def aLawN (Pt Pl : Addr) : ASp := fun ds M R => ∃ ns : List Int, ds = [.lst (ns.map .int)] ∧ ns.length ≤ 63 ∧ M = tbM [(Pt, rtLam), (Pl, lwLam)] ∧ ∀ M', R (.bl true) M'
theorem tb_at {q : List (Addr × Nat)} {x : Addr × Cell} : ((x :: qM q (tbM [(Pt, rtLam), (Pl, lwLam)])) : Mem)[q.length + 1]? = some (Pt, .b (.tb rtLam)) ∧ ((x :: qM q (tbM [(Pt, rtLam), (Pl, lwLam)])) : Mem)[q.length + 2]? = some (Pl, .b (.tb lwLam)) := by
  refine ⟨?_, ?_⟩
  · rw [List.getElem?_cons_succ]
    unfold qM
    rw [List.getElem?_append_right (by rw [List.length_map]; exact Nat.le_refl _), List.length_map, Nat.sub_self]
    rfl
  · rw [List.getElem?_cons_succ]
    unfold qM
    rw [List.getElem?_append_right (by rw [List.length_map]; omega), List.length_map, show q.length + 1 - q.length = 1 by omega]
    rfl
/-- values that are no label, no schedule -/
structure OdL (K : PySem.W.Frag) (C : Addr) (M : Mem) (d : Val) : Prop where
  lb : LbBad K M d 1
  sc : NSch K C M d
  vd : ∃ p, Vd M d p ∧ shQ p ∧ wdQ p ≤ 1000 ∧ p.depth ≤ 2
theorem nsc {M : Mem} {d : Val} {T : String} (hd : PySem.W.hasDictIn K C = true) (ht : PySem.W.typeIn K (.ref C) = some (.type "type")) (h : TyY K M d (.type T)) (hs : PySem.W.subIn K (.type T) (.ref C) = some false) : NSch K C M d := ⟨_, h, (kit_no hd ht hs).1⟩
/-- the built-in types are none of the class's subclasses -/
structure NoSub (K : PySem.W.Frag) (C : Addr) : Prop where
  hd : PySem.W.hasDictIn K C = true
  ht : PySem.W.typeIn K (.ref C) = some (.type "type")
  n : PySem.W.subIn K (.type "NoneType") (.ref C) = some false
  i : PySem.W.subIn K (.type "int") (.ref C) = some false
  b : PySem.W.subIn K (.type "bool") (.ref C) = some false
  s : PySem.W.subIn K (.type "str") (.ref C) = some false
  t : PySem.W.subIn K (.type "tuple") (.ref C) = some false
  l : PySem.W.subIn K (.type "list") (.ref C) = some false
  d : PySem.W.subIn K (.type "dict") (.ref C) = some false
theorem od_all (NS : NoSub K C) {M : Mem} {p : Addr} {i : Nat} (hi : M[i]? = some (p, .dk [])) : ∀ d ∈ ([.non, .int 0, .int (0 - 5), .bl true, .str "1", .tup [.int 1], .lst [], .ptr p] : List Val), OdL K C M d := by
  intro d hd
  simp only [List.mem_cons, List.not_mem_nil, or_false] at hd
  rcases hd with rfl | rfl | rfl | rfl | rfl | rfl | rfl | rfl
  · exact ⟨.inl (.inl ⟨_, TyV.non.y, kit_ty (by decide +kernel)⟩), nsc NS.hd NS.ht TyV.non.y NS.n, _, .non, trivial, by decide, by decide⟩
  · exact ⟨.inr ⟨_, rfl, by decide⟩, nsc NS.hd NS.ht (TyV.int _).y NS.i, _, .int _, (by show _ < _; decide +kernel), by decide +kernel, by decide +kernel⟩
  · exact ⟨.inr ⟨_, rfl, by decide⟩, nsc NS.hd NS.ht (TyV.int _).y NS.i, _, .int _, (by show _ < _; decide +kernel), by decide +kernel, by decide +kernel⟩
  · exact ⟨.inl (.inr ⟨_, rfl⟩), nsc NS.hd NS.ht (TyV.bl _).y NS.b, _, .bl _, trivial, by decide, by decide⟩
  · exact ⟨.inl (.inl ⟨_, (TyV.str _).y, kit_ty (by decide +kernel)⟩), nsc NS.hd NS.ht (TyV.str _).y NS.s, _, .str _, (by show _ = true; decide +kernel), by decide +kernel, by decide +kernel⟩
  · exact ⟨.inl (.inl ⟨_, (TyV.tup _).y, kit_ty (by decide +kernel)⟩), nsc NS.hd NS.ht (TyV.tup _).y NS.t, _, .tup (.cons (.int 1) .nil), ⟨(by show _ < _; decide +kernel), trivial⟩, by decide +kernel, by decide +kernel⟩
  · exact ⟨.inl (.inl ⟨_, (TyV.lst (.self _)).y, kit_ty (by decide +kernel)⟩), nsc NS.hd NS.ht (TyV.lst (.self _)).y NS.l, _, .lst .nil, trivial, by decide +kernel, by decide +kernel⟩
  · exact ⟨.inl (.inl ⟨_, tyY_dk hi, kit_ty (by decide +kernel)⟩), nsc NS.hd NS.ht (tyY_dk hi) NS.d, _, .dk (.dk i hi), (by show _ = _; rfl), by decide +kernel, by decide +kernel⟩
theorem b_law {c : Addr} (B : Bt mg) (mr : mg "repr" = none) (D : DigK K) (NS : NoSub K C) (g__law_streams : GSt3 P w K mg base) (GX : GNx3 P w K mg base) (GP : GPlan P w K mg base C) (GG : GGrt P w K mg base) (GR : GRgh P w K mg base C Pt) (GC : GCp P w K mg base C CX CN CI (ndO C CS CB)) (LO : LOut P w K mg base CI CN CX) (TB : TabB base mg c Pl) :
    BodyT P w K mg base 14 f c n_law "law" (defScope s_law) (defBody s_law) (aLawN Pt Pl) := by
  rintro A outer s0 H E hr ds M R ⟨ns, rfl, hl, rfl, hp⟩
  refine as_cons (as_forW PassesOwn.never rfl (aj_lst (ae_g g__law_streams hr (by decide) (aa_cons ((v_ 0).val (aa_nil (ak_nil ⟨rfl, ns, rfl, hl, fun ps pne pl6 => ⟨_, rfl, ?_⟩⟩)))))))
  rw [List.length_map]
  generalize hM : tbM [(Pt, rtLam), (Pl, lwLam)] = M at *
  refine ⟨fun j Γ M0 => ∃ q : List (Addr × Nat), (∀ p ∈ ps, ∃ N, (p, N) ∈ q) ∧ (∀ x ∈ q, x.2 ≤ 600 + 500 * j) ∧ M0 = qM q M ∧ Γ = [some (.lst (ns.map .int)), none, none, none, none, none, none, none, none], ⟨_, _, ⟨ps.map fun p => (p, 600), fun p hp => ⟨600, List.mem_map.mpr ⟨p, hp, rfl⟩⟩, fun x hx => ?_, rfl, rfl⟩, (by repeat' first | exact le_nil | refine le_skip ?_ | refine le_keep rfl ?_), (by repeat' first | exact List.Sublist.refl _ | exact List.sublist_append_right _ _ | apply List.Sublist.cons₂ | apply List.Sublist.cons)⟩, ?_, ?_⟩
  · obtain ⟨p, _, rfl⟩ := List.mem_map.mp hx
    exact Nat.le_refl _
  · rintro j Γ M0 hj ⟨q, hq1, hq2, rfl, rfl⟩
    show aG _ _ ((ps.map Val.ptr).getD j .non) _ _ _
    rw [show (ps.map Val.ptr).getD j .non = .ptr ps[j] by rw [List.getD_eq_getElem?_getD, List.getElem?_map, List.getElem?_eq_getElem hj]; rfl]
    obtain ⟨n0, hN⟩ := hq1 ps[j] (List.getElem_mem _)
    generalize hpp : ps[j] = p at *
    obtain ⟨i, hi⟩ := List.mem_iff_getElem?.mp hN
    have hN6 : n0 ≤ 5000 := by have := hq2 _ hN; omega
    have fin : ∀ (N' : Nat) (M1 : Mem), N' ≤ n0 + 500 → M1 = (p, st3 p N') :: qM (q.eraseIdx i) M → Wk (fun Γ M1 => ∃ q : List (Addr × Nat), (∀ p ∈ ps, ∃ N, (p, N) ∈ q) ∧ (∀ x ∈ q, x.2 ≤ 600 + 500 * (j + 1)) ∧ M1 = qM q M ∧ Γ = [some (.lst (ns.map .int)), none, none, none, none, none, none, none, none]) [some (.lst (ns.map .int)), none, none, none, none, none, none, none, none] M1 := by
      rintro N' _ hN' rfl
      refine ⟨_, _, ⟨(p, N') :: q.eraseIdx i, fun p' hp' => ?_, fun x hx => ?_, rfl, rfl⟩, (by repeat' first | exact le_nil | refine le_skip ?_ | refine le_keep rfl ?_), (by repeat' first | exact List.Sublist.refl _ | exact List.sublist_append_right _ _ | apply List.Sublist.cons₂ | apply List.Sublist.cons)⟩
      · obtain ⟨N', h'⟩ := hq1 p' hp'
        rcases List.mem_cons.mp ((perm_at hi).subset h') with e | e
        · cases e
          exact ⟨_, List.mem_cons_self⟩
        · exact ⟨N', List.mem_cons_of_mem _ e⟩
      · rcases List.mem_cons.mp hx with e | e
        · rw [e]
          have := hq2 _ hN
          show N' ≤ _
          have : n0 ≤ 600 + 500 * j := this
          omega
        · have := hq2 x (List.mem_of_mem_eraseIdx e)
          omega
    refine ag_name 1 q_law.nd ?_
    refine as_perm (q_front hi) ?_
    have htb : ∀ N, (((p, st3 p N) :: qM (q.eraseIdx i) M) : Mem)[(q.eraseIdx i).length + 1]? = some (Pt, .b (.tb rtLam)) := fun N => by rw [← hM]; exact tb_at.1
    have htl : ∀ N, (((p, st3 p N) :: qM (q.eraseIdx i) M) : Mem)[(q.eraseIdx i).length + 2]? = some (Pl, .b (.tb lwLam)) := fun N => by rw [← hM]; exact tb_at.2
    generalize hQ : qM (q.eraseIdx i) M = Q at *
    refine as_cons (as_asg (ae_g GP hr (by decide) (aa_cons ((v_ 1).val (aa_cons (i_.val (aa_nil (ak_nil ⟨rfl, p, 0, n0, 9, rfl, rfl, by omega, by decide, by decide, fun a s l a2 a9 hs hl => ag_tup rfl (ags_cons (ag_name 2 q_law.nd (ags_cons (ag_name 3 q_law.nd (ags_cons (ag_name 4 q_law.nd (ags_cons (ag_name 5 q_law.nd (ags_nil ?_)))))))))⟩))))))))
    have bS := sq3_bs (a := a) (by omega) (by omega) hs hl
    have hS := bS.g
    generalize (⟨a, nf s, nf l⟩ : Sc) = S at *
    show aSs _ _ [some (.lst (ns.map .int)), some (.ptr p), some (.int a), some (stV s), some (stV l), some (scV C S), none, none, none] ((p, st3 p (n0 + 19)) :: Q) _
    refine as_le (Γ' := [some (.lst (ns.map .int)), some (.ptr p), none, none, none, some (scV C S), none, none, none]) (by repeat' first | exact le_nil | refine le_skip ?_ | refine le_keep rfl ?_) ?_
    have rgh : ∀ {n : Int} {N : Nat}, 1 ≤ n → n < 2 ^ 400 → N ≤ 10000 → ∀ {R}, R (.bl true) ((p, st3 p (N + 24)) :: Q) → aRgh C Pt [.ptr p, scV C S, .int n] ((p, st3 p N) :: Q) R := fun {n N} h1 h2 h3 {R} h4 => ⟨p, 0, N, _, S, n, rfl, rfl, by omega, htb N, hS, h1, h2, h4⟩
    refine as_cons (as_forW PassesOwn.never rfl (aj_tup (ae_tup (aa_cons (ae_bin (i_.val (ae_g GX hr (by decide) (aa_cons ((v_ 1).val (aa_cons (i_.val (aa_nil (ak_nil ⟨rfl, p, 0, n0 + 19, 30, rfl, rfl, by omega, by decide, by decide, fun u u0 u1 => bv_add (aa_cons (ae_g GG hr (by decide) (aa_cons ((v_ 1).val (aa_cons (i_.val (aa_nil (ak_nil ⟨rfl, p, 0, n0 + 19 + 1, 60, rfl, rfl, by omega, by decide, by decide, fun v N1 v1 v2 hN1 => aa_nil ⟨szb, [.int (1 + u), .int (v : Int)], rfl, ?_⟩⟩))))))))⟩)))))))))))))
    have big : ((2 ^ 320 : Nat) : Int) ≤ 2 ^ 400 := by decide +kernel
    have two : ∀ t : Nat, t < 2 → ∃ n : Int, ([.int (1 + u), .int (v : Int)] : List Val).getD t .non = .int n ∧ 1 ≤ n ∧ n < 2 ^ 400 := fun t ht => by
      match t, ht with
      | 0, _ => exact ⟨1 + u, rfl, by omega, Int.lt_of_lt_of_le (show 1 + u < ((2 ^ 320 : Nat) : Int) from Int.lt_of_lt_of_le (show 1 + u < 1000 by omega) (by decide +kernel)) big⟩
      | 1, _ => exact ⟨v, rfl, by omega, Int.lt_of_lt_of_le (Int.ofNat_lt.mpr v2) big⟩
    clear v1 v2 big
    refine ⟨fun t Γ M' => M' = (p, st3 p (N1 + 24 * t)) :: Q ∧ Γ = [some (.lst (ns.map .int)), some (.ptr p), none, none, none, some (scV C S), none, none, none], ⟨_, _, ⟨rfl, rfl⟩, (by repeat' first | exact le_nil | refine le_skip ?_ | refine le_keep rfl ?_), (by repeat' first | exact List.Sublist.refl _ | exact List.sublist_append_right _ _ | apply List.Sublist.cons₂ | apply List.Sublist.cons)⟩, ?_, ?_⟩
    · rintro t Γ M' ht ⟨rfl, rfl⟩
      have ht : t < 2 := ht
      obtain ⟨n, en, h1, h2⟩ := two t ht
      dsimp only
      rw [en]
      refine ag_name 6 q_law.nd ?_
      exact as_one (as_if (at_not (at_val (ae_g GR hr (by decide) (aa_cons ((v_ 1).val (aa_cons ((v_ 5).val (aa_cons ((v_ 6).val (aa_nil (ak_nil ⟨rfl, rgh h1 h2 (by omega) ⟨true, rfl, nft, fun _ => as_nil ⟨_, _, ⟨rfl, rfl⟩, (by repeat' first | exact le_nil | refine le_skip ?_ | refine le_keep rfl ?_), (by repeat' first | exact List.Sublist.refl _ | exact List.sublist_append_right _ _ | apply List.Sublist.cons₂ | apply List.Sublist.cons)⟩⟩⟩))))))))))) )
    rintro Γ M' ⟨rfl, rfl⟩
    have e24 : N1 + 24 * [Val.int (1 + u), Val.int (v : Int)].length = N1 + 48 := rfl
    rw [e24]
    refine as_cons (as_set 7 q_law.nd (ae_ixV (ae_lst (aa_cons (n_.val (aa_cons (i_.val (aa_cons ((av_sub i_ i_).val (aa_cons (av_bl.val (aa_cons (s_.val (aa_cons ((av_tup (avs_cons i_ avs_nil) szb).val (aa_cons ((av_lst avs_nil szb).val (aa_cons (ae_dict0 fun pd => aa_nil ⟨szb, ?_⟩)))))))))))))))))) )
    refine ae_g GX hr (by decide) (aa_cons ((v_ 1).val (aa_cons (i_.val (aa_nil (ak_nil ⟨rfl, p, 1, N1 + 48, 8, rfl, rfl, by omega, by decide, by decide, fun o o0 o1 => ?_⟩))))))
    obtain ⟨od, om, oh⟩ := atI_mem (xs := ([.non, .int 0, .int (0 - 5), .bl true, .str "1", .tup [.int 1], .lst [], .ptr pd] : List Val)) o0 o1
    refine ⟨o, od, rfl, .l oh, ?_⟩
    show aSs _ _ _ ((pd, .dk []) :: (p, st3 p (N1 + 48 + 1)) :: Q) _
    have hod := fun {M : Mem} {i : Nat} (hi : M[i]? = some (pd, .dk [])) => od_all NS hi od om
    have h2l : (((pd, Cell.dk []) :: (p, st3 p (N1 + 48 + 1)) :: Q) : Mem)[(q.eraseIdx i).length + 2 + 1]? = some (Pl, .b (.tb lwLam)) := by
      rw [List.getElem?_cons_succ]
      exact htl _
    generalize hM2 : (((pd, Cell.dk []) :: (p, st3 p (N1 + 48 + 1)) :: Q) : Mem) = M2 at *
    have hpd : M2[0]? = some (pd, .dk []) := by rw [← hM2]; rfl
    refine as_cons (as_set 8 q_law.nd (ae_lstC (aa_cons (ae_lam LO hr (by decide) ⟨c, TB, rfl⟩ (i := (q.eraseIdx i).length + 2 + 1) h2l 8 (fun M3 R3 PE => M3 = M2 ∧ PE CN [("number", od)] M2) (fun A outer s H E f c' hr' po M3 R' PE ⟨eM, hb⟩ => ?lam) (by decide) ⟨rfl, .inr (.inl ⟨rfl, _, rfl, aa_nil ⟨szb, fun qt => ?_⟩⟩)⟩ (L := by show lamSB (defScope s_law) _ = true; decide +kernel)))))
    case lam =>
      subst eM
      exact ye_g GC.p hr' (by decide) (aa_cons ((v_ 5).val (aa_cons ((v_ 7).val (aa_cons (n_.val (aa_nil (ak_nil ⟨rfl, .inl ⟨_, _, _, rfl, .inr ⟨S, od, rfl, (hod hpd).lb, hb⟩⟩⟩))))))))
    refine as_cons (as_expr (ae_append (n0 := 0) (v_ 8) rfl (ae_lam LO hr (by decide) ⟨c, TB, rfl⟩ (i := (q.eraseIdx i).length + 2 + 1 + 1) (by rw [List.getElem?_cons_succ]; exact h2l) 8 (fun M3 R3 PE => M3 = (qt, .lst [.tup [.str "number", od]]) :: M2 ∧ PE CX [("part", .str "schedule")] M3) (fun A outer s H E f c' hr' po M3 R' PE ⟨eM, hb⟩ => ?lam) (by decide) ⟨rfl, .inr (.inr ⟨rfl, _, rfl, 0, _, rfl, szl (by simp), ?_⟩)⟩ (L := by show lamSB (defScope s_law) _ = true; decide +kernel))))
    case lam =>
      subst eM
      exact ye_g GC.p hr' (by decide) (aa_cons ((v_ 7).val (aa_cons ((v_ 7).val (aa_cons (n_.val (aa_nil (ak_nil ⟨rfl, .inl ⟨_, _, _, rfl, .inl ⟨od, od, rfl, (hod (i := 1) hpd).sc, hb⟩⟩⟩))))))))
    show aSs _ _ _ ((qt, .lst [.tup [.str "number", od], .tup [.str "schedule", .str "schedule"]]) :: M2) _
    obtain ⟨pq, vq, sq, wq, dq⟩ := (hod (M := (qt, .lst [.tup [.str "number", od], .tup [.str "schedule", .str "schedule"]]) :: M2) (i := 1) hpd).vd
    have sS : ∀ x : Str, x.cps.toList.all (fun c => decide (c < 16 ^ 8)) = true → shQ (.str x) := fun x h => h
    have rq : RQ (.list [.tuple [.str "number", pq], .tuple [.str "schedule", .str "schedule"]]) := by
      refine ⟨⟨⟨sS _ (by decide +kernel), sq, trivial⟩, ⟨sS _ (by decide +kernel), sS _ (by decide +kernel), trivial⟩, trivial⟩, sz2 ?_, ?_⟩
      · show (wdQ (.str "number") + 2 + (wdQ pq + 2 + 0) + 3 + 2 + (wdQ (.str "schedule") + 2 + (wdQ (.str "schedule") + 2 + 0) + 3 + 2 + 0) + 3) ≤ _
        have e1 : wdQ (.str "number") = 62 := by decide +kernel
        have e2 : wdQ (.str "schedule") = 82 := by decide +kernel
        omega
      · simp only [PyData.depth, PyData.depthAll]
        omega
    refine as_one (as_if (at_rneQ D hr mr ((v_ 8).val ⟨.list [.tuple [.str "number", pq], .tuple [.str "schedule", .str "schedule"]], .cel 0 rfl (.cons (.tup (.cons (.str _) (.cons vq .nil))) (.cons (.tup (.cons (.str _) (.cons (.str _) .nil))) .nil)), rq, (av_lst (avs_cons (av_tup (avs_cons s_ (avs_cons (v_ 7) avs_nil)) szb) (avs_cons (av_tup (avs_cons s_ (avs_cons s_ avs_nil)) szb) avs_nil)) szb).val ⟨.lst (.cons (.tup (.cons (.str _) (.cons vq .nil))) (.cons (.tup (.cons (.str _) (.cons (.str _) .nil))) .nil)), nft, fun _ => as_nil ?_⟩⟩)))
    obtain ⟨Γ1, M1, h1, l1, s1⟩ := fin (N1 + 48 + 1) _ (by omega) rfl
    refine ⟨Γ1, M1, h1, l1.trans (by repeat' first | exact le_nil | refine le_skip ?_ | refine le_keep rfl ?_), ?_⟩
    rw [← hM2]
    exact .cons _ (.cons _ s1)
  · rintro Γ M0 ⟨q, _, _, rfl, rfl⟩
    exact as_one (as_ret (ae_bl (.drops (.ok (hp _)))))
end
end K14
namespace K14
open PySem L2 Ab LamX
theorem gd_pos {P : Program} {w : World} {K : PySem.W.Frag} {mg : Str → Option Value} {base : Heap} {x x' qual : Str} {params : Arguments} {body : List Stmt} {sc : Scope} {kws : List (Str × V)} {N ps : List Str} {k : Nat} {s0 : ASp} {f : Addr} {fd : FuncData} (F : FunD K x qual params body sc [] kws f fd) (S : FnScope N ps sc)
    (h : ∀ (kV doc pm : Value) (an : Option Addr) (cdv ct : Value) (us : List Value), us.length = ps.length → bindArgs (PySem.W.fnOf x qual params body sc .none kV doc pm an cdv ct) ⟨us, []⟩ = pure (ps.zip us))
    (len : ∀ ds M R, s0 ds M R → ds.length = ps.length) (hb : BodyOk P w K mg base k f N qual sc body s0) (hm : mg x' = some (.ref f)) : Gd P w K mg base (k + 1) x' [] (fun ds _ => s0 ds) := ⟨⟨f, fnx_pos' F S h len hb, hm, F.kp⟩⟩
theorem allX {l : PySem.W.OpenLaw} {w : World} {K : PySem.W.Frag} {h : Heap} {mg : Str → Option Value} {fa : Addr} (X : K.In h) (G : h.Ns mainGlobals mg) (hfa : mg "law" = some (.ref fa)) (own : ∀ x ∈ (["_law_right", "law"] : List Str), ∀ f, mg x = some (.ref f) → OwnTab K f h)
    {tt0 : Tok}
    {tt1 : Tok}
    {tt2 : Tok}
    {tt3 : Tok}
    {C : Addr}
    {D0 : Addr} {w1 w2 : Value}
    {fx1 : Addr} {odx1 anx1 : Option Addr} {slx1 : Array (Option Value)} {ocx1 dcx1 pmx1 cdx1 ctx1 : Value}
    {T2 : Addr} {tc2 : Value} {td2 : Option Addr} {tsl2 : Array (Option Value)} {k02 : Nat}
    {fx2 : Addr} {odx2 anx2 : Option Addr} {slx2 : Array (Option Value)} {ocx2 kVx2 dcx2 pmx2 cdx2 ctx2 : Value}
    {fx3 : Addr} {odx3 anx3 : Option Addr} {slx3 : Array (Option Value)} {ocx3 kVx3 dcx3 pmx3 cdx3 ctx3 : Value}
    {fx4 : Addr} {odx4 anx4 : Option Addr} {slx4 : Array (Option Value)} {ocx4 kVx4 dcx4 pmx4 cdx4 ctx4 : Value}
    {fx5 : Addr} {odx5 anx5 : Option Addr} {slx5 : Array (Option Value)} {ocx5 kVx5 dcx5 pmx5 cdx5 ctx5 : Value}
    {fx6 : Addr} {odx6 anx6 : Option Addr} {slx6 : Array (Option Value)} {ocx6 kVx6 dcx6 pmx6 cdx6 ctx6 : Value}
    {fx7 : Addr} {odx7 anx7 : Option Addr} {slx7 : Array (Option Value)} {ocx7 kVx7 dcx7 pmx7 cdx7 ctx7 : Value}
    {pSx7 : Addr} {rSx7 : List Value}
    {fx8 : Addr} {odx8 anx8 : Option Addr} {slx8 : Array (Option Value)} {ocx8 kVx8 dcx8 pmx8 cdx8 ctx8 : Value}
    {fx9 : Addr} {odx9 anx9 : Option Addr} {slx9 : Array (Option Value)} {ocx9 kVx9 dcx9 pmx9 cdx9 ctx9 : Value}
    {fx10 : Addr} {odx10 anx10 : Option Addr} {slx10 : Array (Option Value)} {ocx10 kVx10 dcx10 pmx10 cdx10 ctx10 : Value}
    {fx11 : Addr} {odx11 anx11 : Option Addr} {slx11 : Array (Option Value)} {ocx11 kVx11 dcx11 pmx11 cdx11 ctx11 : Value}
    {fx12 : Addr} {odx12 anx12 : Option Addr} {slx12 : Array (Option Value)} {ocx12 kVx12 dcx12 pmx12 cdx12 ctx12 : Value}
    {pNx12 : Addr} {rNx12 : List Value}
    {fx13 : Addr} {odx13 anx13 : Option Addr} {slx13 : Array (Option Value)} {ocx13 kVx13 dcx13 pmx13 cdx13 ctx13 : Value}
    {pNx13 : Addr} {rNx13 : List Value}
    {fx14 : Addr} {odx14 anx14 : Option Addr} {slx14 : Array (Option Value)} {ocx14 kVx14 dcx14 pmx14 cdx14 ctx14 : Value}
    {pNx14 : Addr} {rNx14 : List Value}
    {CN : Addr} {tmN : Tok}
    {fx15 : Addr} {odx15 anx15 : Option Addr} {slx15 : Array (Option Value)} {ocx15 kVx15 dcx15 pmx15 cdx15 ctx15 : Value}
    {fx16 : Addr} {odx16 anx16 : Option Addr} {slx16 : Array (Option Value)} {ocx16 kVx16 dcx16 pmx16 cdx16 ctx16 : Value}
    {CSp : Addr}
    {CBr : Addr}
    {fx17 : Addr} {odx17 anx17 : Option Addr} {slx17 : Array (Option Value)} {ocx17 kVx17 dcx17 pmx17 cdx17 ctx17 : Value}
    {fx18 ccx18 cdax18 : Addr} {odx18 cldx18 cddx18 : Option Addr} {slx18 cslx18 ccsx18 : Array (Option Value)} {ocx18 dcx18 pmx18 ctx18 c0x18 cclx18 : Value} {vsx18 : Array Value} {flx18 : Str} {tfx18 : Tok}
    {cdtCSp : ClassData}
    {fx19 ccx19 cdax19 : Addr} {odx19 cldx19 cddx19 : Option Addr} {slx19 cslx19 ccsx19 : Array (Option Value)} {ocx19 dcx19 pmx19 ctx19 c0x19 cclx19 : Value} {vsx19 : Array Value} {flx19 : Str} {tfx19 : Tok}
    {cdtCBr : ClassData}
    {fx20 : Addr} {odx20 anx20 : Option Addr} {slx20 : Array (Option Value)} {ocx20 kVx20 dcx20 pmx20 cdx20 ctx20 : Value}
    {pSx20 : Addr} {rSx20 : List Value}
    {fx21 : Addr} {odx21 anx21 : Option Addr} {slx21 : Array (Option Value)} {ocx21 kVx21 dcx21 pmx21 cdx21 ctx21 : Value}
    {pNx21 : Addr} {rNx21 : List Value}
    {fx22 : Addr} {odx22 anx22 : Option Addr} {slx22 : Array (Option Value)} {ocx22 kVx22 dcx22 pmx22 cdx22 ctx22 : Value}
    {pNx22 : Addr} {rNx22 : List Value}
    {fx23 : Addr} {odx23 anx23 : Option Addr} {slx23 : Array (Option Value)} {ocx23 kVx23 dcx23 pmx23 cdx23 ctx23 : Value}
    {fx24 : Addr} {odx24 anx24 : Option Addr} {slx24 : Array (Option Value)} {ocx24 kVx24 dcx24 pmx24 cdx24 ctx24 : Value}
    {fx25 : Addr} {odx25 anx25 : Option Addr} {slx25 : Array (Option Value)} {ocx25 kVx25 dcx25 pmx25 cdx25 ctx25 : Value}
    {fx26 : Addr} {odx26 anx26 : Option Addr} {slx26 : Array (Option Value)} {ocx26 kVx26 dcx26 pmx26 cdx26 ctx26 : Value}
    {fx27 : Addr} {odx27 anx27 : Option Addr} {slx27 : Array (Option Value)} {ocx27 kVx27 dcx27 pmx27 cdx27 ctx27 : Value}
    {fx28 : Addr} {odx28 anx28 : Option Addr} {slx28 : Array (Option Value)} {ocx28 kVx28 dcx28 pmx28 cdx28 ctx28 : Value}
    {fx29 : Addr} {odx29 anx29 : Option Addr} {slx29 : Array (Option Value)} {ocx29 kVx29 dcx29 pmx29 cdx29 ctx29 : Value}
    {fx30 : Addr} {odx30 anx30 : Option Addr} {slx30 : Array (Option Value)} {ocx30 kVx30 dcx30 pmx30 cdx30 ctx30 : Value}
    {pSx30 : Addr} {rSx30 : List Value}
    {fx31 pCx31 : Addr} {rCx31 : List Value} {odx31 anx31 : Option Addr} {slx31 : Array (Option Value)} {ocx31 dcx31 pmx31 cdx31 ctx31 kVx31 : Value}
    {fx32 : Addr} {odx32 anx32 : Option Addr} {slx32 : Array (Option Value)} {ocx32 kVx32 dcx32 pmx32 cdx32 ctx32 : Value}
    {BScheduleError : Addr}
    {EInvalidCertificate : Addr}
    {fx33 : Addr} {odx33 anx33 : Option Addr} {slx33 : Array (Option Value)} {ocx33 kVx33 dcx33 pmx33 cdx33 ctx33 : Value}
    {EInvalidNumber : Addr}
    {fx34 : Addr} {odx34 anx34 : Option Addr} {slx34 : Array (Option Value)} {ocx34 kVx34 dcx34 pmx34 cdx34 ctx34 : Value}
    {EInvalidSchedule : Addr}
    {fx35 : Addr} {odx35 anx35 : Option Addr} {slx35 : Array (Option Value)} {ocx35 kVx35 dcx35 pmx35 cdx35 ctx35 : Value}
    {fx36 : Addr} {odx36 anx36 : Option Addr} {slx36 : Array (Option Value)} {ocx36 kVx36 dcx36 pmx36 cdx36 ctx36 : Value}
    {fx37 : Addr} {odx37 anx37 : Option Addr} {slx37 : Array (Option Value)} {ocx37 kVx37 dcx37 pmx37 cdx37 ctx37 : Value}
    {fx38 : Addr} {odx38 anx38 : Option Addr} {slx38 : Array (Option Value)} {ocx38 kVx38 dcx38 pmx38 cdx38 ctx38 : Value}
    {fx39 : Addr} {odx39 anx39 : Option Addr} {slx39 : Array (Option Value)} {ocx39 kVx39 dcx39 pmx39 cdx39 ctx39 : Value}
    {fx40 : Addr} {odx40 anx40 : Option Addr} {slx40 : Array (Option Value)} {ocx40 kVx40 dcx40 pmx40 cdx40 ctx40 : Value}
    {fx41 : Addr} {odx41 anx41 : Option Addr} {slx41 : Array (Option Value)} {ocx41 kVx41 dcx41 pmx41 cdx41 ctx41 : Value}
    {fx42 : Addr} {odx42 anx42 : Option Addr} {slx42 : Array (Option Value)} {ocx42 kVx42 dcx42 pmx42 cdx42 ctx42 : Value}
    {fx43 : Addr} {odx43 anx43 : Option Addr} {slx43 : Array (Option Value)} {ocx43 kVx43 dcx43 pmx43 cdx43 ctx43 : Value}
    {fx44 : Addr} {odx44 anx44 : Option Addr} {slx44 : Array (Option Value)} {ocx44 kVx44 dcx44 pmx44 cdx44 ctx44 : Value}
    {fx45 : Addr} {odx45 anx45 : Option Addr} {slx45 : Array (Option Value)} {ocx45 kVx45 dcx45 pmx45 cdx45 ctx45 : Value}
    {fx46 : Addr} {odx46 anx46 : Option Addr} {slx46 : Array (Option Value)} {ocx46 kVx46 dcx46 pmx46 cdx46 ctx46 : Value}
    {fx47 cdax47 Ptx47 : Addr} {odx47 anx47 cddx47 : Option Addr} {slx47 ccsx47 : Array (Option Value)} {ocx47 kVx47 dcx47 pmx47 ctx47 cclx47 : Value} {vsx47 : Array Value}
    {fx48 cdax48 Ptx48 : Addr} {odx48 anx48 cddx48 : Option Addr} {slx48 ccsx48 : Array (Option Value)} {ocx48 kVx48 dcx48 pmx48 ctx48 cclx48 : Value} {vsx48 : Array Value}
    (u0 : PySem.W.nsIn K mainGlobals "FRONT_LIMIT" = some (some (.int 12 tt0)))
    (u1 : PySem.W.nsIn K mainGlobals "LOOP_LIMIT" = some (some (.int 6 tt1)))
    (u2 : PySem.W.nsIn K mainGlobals "LABEL_LIMIT" = some (some (.int 1000000 tt2)))
    (u3 : PySem.W.nsIn K mainGlobals "ARITY_LIMIT" = some (some (.int 9 tt3)))
    (aC : PySem.W.nsIn K mainGlobals "Schedule" = some (some (.ref C)))
    (pgC : PySem.W.plainGet K C Str.empty = true)
    (hdC : PySem.W.hasDictIn K C = true)
    (poC : PySem.W.plainOver K C = true)
    (saC : PySem.W.findIn K (.ref C) "__setattr__" = some (some (.builtin "object.__setattr__")))
    (mkC : PySem.W.makesIn K C = true)
    (kcC : PySem.W.keepIn K (.ref C) = true)
    (nC0 : PySem.W.findIn K (.ref C) "own_arity" = some none)
    (nC1 : PySem.W.findIn K (.ref C) "own_spine" = some none)
    (nC2 : PySem.W.findIn K (.ref C) "own_levels" = some none)
    (e1C : PySem.W.findIn K (.ref C) "__class__" = some (some (.builtin "object.__class__")))
    (e2C : PySem.W.specialIn K (.builtin "object.__class__") "__get__" = some (some (.builtin "getset_descriptor.__get__")))
    (e3C : PySem.W.takesIn K (.builtin "object.__class__") = some true)
    (e4C : PySem.W.mroIn K C (.type "object") = some true)
    (e6C : PySem.W.findIn K (.ref C) "__ne__" = some (some (.builtin "object.__ne__")))
    (e7C : PySem.W.subIn K (.ref C) (.type "object") = some true)
    (ax1 : PySem.W.nsIn K mainGlobals "is_integer_schedules" = some (some (.ref fx1)))
    (lx1 : K.lookup fx1 = some ⟨ocx1, odx1, .func (PySem.W.fnOf "is_integer" "is_integer" (defArgs s_is_integer) (defBody s_is_integer) (defScope s_is_integer) .none (.ref D0) dcx1 pmx1 anx1 cdx1 ctx1), slx1⟩)
    (cx1 : PySem.W.codeIn K cdx1 "is_integer" = true)
    (kx1 : PySem.W.keepIn K (.ref fx1) = true)
    (d1 : PySem.W.nsIn K D0 "low" = some (some w1))
    (d2 : PySem.W.nsIn K D0 "high" = some (some w2))
    (ax2 : PySem.W.nsIn K mainGlobals "check_integer" = some (some (.ref fx2)))
    (lx2 : K.lookup fx2 = some ⟨ocx2, odx2, .func (PySem.W.fnOf "check_integer" "check_integer" (defArgs s_check_integer) (defBody s_check_integer) (defScope s_check_integer) (.ref T2) kVx2 dcx2 pmx2 anx2 cdx2 ctx2), slx2⟩)
    (cx2 : PySem.W.codeIn K cdx2 "check_integer" = true)
    (kx2 : PySem.W.keepIn K (.ref fx2) = true)
    (dx2 : K.lookup T2 = some ⟨tc2, td2, .seq #[.none] k02, tsl2⟩)
    (ax3 : PySem.W.nsIn K mainGlobals "are_items" = some (some (.ref fx3)))
    (lx3 : K.lookup fx3 = some ⟨ocx3, odx3, .func (PySem.W.fnOf "are_items" "are_items" (defArgs s_are_items) (defBody s_are_items) (defScope s_are_items) .none kVx3 dcx3 pmx3 anx3 cdx3 ctx3), slx3⟩)
    (cx3 : PySem.W.codeIn K cdx3 "are_items" = true)
    (kx3 : PySem.W.keepIn K (.ref fx3) = true)
    (ax4 : PySem.W.nsIn K mainGlobals "shortest_loop" = some (some (.ref fx4)))
    (lx4 : K.lookup fx4 = some ⟨ocx4, odx4, .func (PySem.W.fnOf "shortest_loop" "shortest_loop" (defArgs s_shortest_loop) (defBody s_shortest_loop) (defScope s_shortest_loop) .none kVx4 dcx4 pmx4 anx4 cdx4 ctx4), slx4⟩)
    (cx4 : PySem.W.codeIn K cdx4 "shortest_loop" = true)
    (kx4 : PySem.W.keepIn K (.ref fx4) = true)
    (ax5 : PySem.W.nsIn K mainGlobals "normal_form" = some (some (.ref fx5)))
    (lx5 : K.lookup fx5 = some ⟨ocx5, odx5, .func (PySem.W.fnOf "normal_form" "normal_form" (defArgs s_normal_form) (defBody s_normal_form) (defScope s_normal_form) .none kVx5 dcx5 pmx5 anx5 cdx5 ctx5), slx5⟩)
    (cx5 : PySem.W.codeIn K cdx5 "normal_form" = true)
    (kx5 : PySem.W.keepIn K (.ref fx5) = true)
    (ax6 : PySem.W.nsIn K mainGlobals "stream_item" = some (some (.ref fx6)))
    (lx6 : K.lookup fx6 = some ⟨ocx6, odx6, .func (PySem.W.fnOf "stream_item" "stream_item" (defArgs s_stream_item) (defBody s_stream_item) (defScope s_stream_item) .none kVx6 dcx6 pmx6 anx6 cdx6 ctx6), slx6⟩)
    (cx6 : PySem.W.codeIn K cdx6 "stream_item" = true)
    (kx6 : PySem.W.keepIn K (.ref fx6) = true)
    (rd : PySem.W.readsIn K C (.type "type") = true)
    (ga : PySem.W.specialIn K (.ref C) "__getattribute__" = some (some (.builtin "type.__getattribute__")))
    (ax7 : PySem.W.findCls K (.ref C) (.type "type") "is_stream" = some (.get (.builtin "staticmethod.__get__") (.ref pSx7) .none (.ref C)))
    (bx7 : PySem.W.recIn K pSx7 "staticmethod" = some (.ref fx7 :: rSx7))
    (lx7 : K.lookup fx7 = some ⟨ocx7, odx7, .func (PySem.W.fnOf "is_stream" "Schedule.is_stream" (defArgs c_Schedule_is_stream) (defBody c_Schedule_is_stream) (defScope c_Schedule_is_stream) .none kVx7 dcx7 pmx7 anx7 cdx7 ctx7), slx7⟩)
    (cx7 : PySem.W.codeIn K cdx7 "Schedule.is_stream" = true)
    (kx7 : PySem.W.keepIn K (.ref fx7) = true)
    (ax8 : PySem.W.findIn K (.ref C) "__init__" = some (some (.ref fx8)))
    (ix8 : PySem.W.isFn K (.ref fx8) = true)
    (lx8 : K.lookup fx8 = some ⟨ocx8, odx8, .func (PySem.W.fnOf "__init__" "Schedule.__init__" (defArgs c_Schedule___init__) (defBody c_Schedule___init__) (defScope c_Schedule___init__) .none kVx8 dcx8 pmx8 anx8 cdx8 ctx8), slx8⟩)
    (cx8 : PySem.W.codeIn K cdx8 "Schedule.__init__" = true)
    (kx8 : PySem.W.keepIn K (.ref fx8) = true)
    (ax9 : PySem.W.findIn K (.ref C) "spine_at" = some (some (.ref fx9)))
    (ix9 : PySem.W.isFn K (.ref fx9) = true)
    (lx9 : K.lookup fx9 = some ⟨ocx9, odx9, .func (PySem.W.fnOf "spine_at" "Schedule.spine_at" (defArgs c_Schedule_spine_at) (defBody c_Schedule_spine_at) (defScope c_Schedule_spine_at) .none kVx9 dcx9 pmx9 anx9 cdx9 ctx9), slx9⟩)
    (cx9 : PySem.W.codeIn K cdx9 "Schedule.spine_at" = true)
    (kx9 : PySem.W.keepIn K (.ref fx9) = true)
    (ax10 : PySem.W.findIn K (.ref C) "level_at" = some (some (.ref fx10)))
    (ix10 : PySem.W.isFn K (.ref fx10) = true)
    (lx10 : K.lookup fx10 = some ⟨ocx10, odx10, .func (PySem.W.fnOf "level_at" "Schedule.level_at" (defArgs c_Schedule_level_at) (defBody c_Schedule_level_at) (defScope c_Schedule_level_at) .none kVx10 dcx10 pmx10 anx10 cdx10 ctx10), slx10⟩)
    (cx10 : PySem.W.codeIn K cdx10 "Schedule.level_at" = true)
    (kx10 : PySem.W.keepIn K (.ref fx10) = true)
    (ax11 : PySem.W.findIn K (.ref C) "__eq__" = some (some (.ref fx11)))
    (ix11 : PySem.W.isFn K (.ref fx11) = true)
    (lx11 : K.lookup fx11 = some ⟨ocx11, odx11, .func (PySem.W.fnOf "__eq__" "Schedule.__eq__" (defArgs c_Schedule___eq__) (defBody c_Schedule___eq__) (defScope c_Schedule___eq__) .none kVx11 dcx11 pmx11 anx11 cdx11 ctx11), slx11⟩)
    (cx11 : PySem.W.codeIn K cdx11 "Schedule.__eq__" = true)
    (kx11 : PySem.W.keepIn K (.ref fx11) = true)
    (ax12 : PySem.W.findIn K (.ref C) "arity" = some (some (.ref pNx12)))
    (gx12 : PySem.W.specialIn K (.ref pNx12) "__get__" = some (some (.builtin "property.__get__")))
    (tx12 : PySem.W.takesIn K (.ref pNx12) = some true)
    (bx12 : PySem.W.recIn K pNx12 "property" = some (.ref fx12 :: rNx12))
    (lx12 : K.lookup fx12 = some ⟨ocx12, odx12, .func (PySem.W.fnOf "arity" "Schedule.arity" (defArgs c_Schedule_arity) (defBody c_Schedule_arity) (defScope c_Schedule_arity) .none kVx12 dcx12 pmx12 anx12 cdx12 ctx12), slx12⟩)
    (cx12 : PySem.W.codeIn K cdx12 "Schedule.arity" = true)
    (kx12 : PySem.W.keepIn K (.ref fx12) = true)
    (ax13 : PySem.W.findIn K (.ref C) "spine" = some (some (.ref pNx13)))
    (gx13 : PySem.W.specialIn K (.ref pNx13) "__get__" = some (some (.builtin "property.__get__")))
    (tx13 : PySem.W.takesIn K (.ref pNx13) = some true)
    (bx13 : PySem.W.recIn K pNx13 "property" = some (.ref fx13 :: rNx13))
    (lx13 : K.lookup fx13 = some ⟨ocx13, odx13, .func (PySem.W.fnOf "spine" "Schedule.spine" (defArgs c_Schedule_spine) (defBody c_Schedule_spine) (defScope c_Schedule_spine) .none kVx13 dcx13 pmx13 anx13 cdx13 ctx13), slx13⟩)
    (cx13 : PySem.W.codeIn K cdx13 "Schedule.spine" = true)
    (kx13 : PySem.W.keepIn K (.ref fx13) = true)
    (ax14 : PySem.W.findIn K (.ref C) "levels" = some (some (.ref pNx14)))
    (gx14 : PySem.W.specialIn K (.ref pNx14) "__get__" = some (some (.builtin "property.__get__")))
    (tx14 : PySem.W.takesIn K (.ref pNx14) = some true)
    (bx14 : PySem.W.recIn K pNx14 "property" = some (.ref fx14 :: rNx14))
    (lx14 : K.lookup fx14 = some ⟨ocx14, odx14, .func (PySem.W.fnOf "levels" "Schedule.levels" (defArgs c_Schedule_levels) (defBody c_Schedule_levels) (defScope c_Schedule_levels) .none kVx14 dcx14 pmx14 anx14 cdx14 ctx14), slx14⟩)
    (cx14 : PySem.W.codeIn K cdx14 "Schedule.levels" = true)
    (kx14 : PySem.W.keepIn K (.ref fx14) = true)
    (aCN : PySem.W.nsIn K mainGlobals "Node" = some (some (.ref CN)))
    (rCN : PySem.W.readsIn K CN (.type "type") = true)
    (gCN : PySem.W.specialIn K (.ref CN) "__getattribute__" = some (some (.builtin "type.__getattribute__")))
    (vCN : PySem.W.findCls K (.ref CN) (.type "type") "MAX_HEIGHT" = some (.val (.int 3000 tmN)))
    (ax15 : PySem.W.nsIn K mainGlobals "is_integer_nodes" = some (some (.ref fx15)))
    (lx15 : K.lookup fx15 = some ⟨ocx15, odx15, .func (PySem.W.fnOf "is_integer" "is_integer" (defArgs s_is_integer_nodes) (defBody s_is_integer_nodes) (defScope s_is_integer_nodes) .none kVx15 dcx15 pmx15 anx15 cdx15 ctx15), slx15⟩)
    (cx15 : PySem.W.codeIn K cdx15 "is_integer" = true)
    (kx15 : PySem.W.keepIn K (.ref fx15) = true)
    (ax16 : PySem.W.nsIn K mainGlobals "need_schedule" = some (some (.ref fx16)))
    (lx16 : K.lookup fx16 = some ⟨ocx16, odx16, .func (PySem.W.fnOf "need_schedule" "need_schedule" (defArgs s_need_schedule) (defBody s_need_schedule) (defScope s_need_schedule) .none kVx16 dcx16 pmx16 anx16 cdx16 ctx16), slx16⟩)
    (cx16 : PySem.W.codeIn K cdx16 "need_schedule" = true)
    (kx16 : PySem.W.keepIn K (.ref fx16) = true)
    (aCSp : PySem.W.nsIn K mainGlobals "SpineNode" = some (some (.ref CSp)))
    (pgCSp : PySem.W.plainGet K CSp Str.empty = true)
    (hdCSp : PySem.W.hasDictIn K CSp = true)
    (poCSp : PySem.W.plainOver K CSp = true)
    (saCSp : PySem.W.findIn K (.ref CSp) "__setattr__" = some (some (.builtin "object.__setattr__")))
    (mkCSp : PySem.W.makesIn K CSp = true)
    (kcCSp : PySem.W.keepIn K (.ref CSp) = true)
    (nCSp0 : PySem.W.findIn K (.ref CSp) "own_schedule" = some none)
    (nCSp1 : PySem.W.findIn K (.ref CSp) "own_height" = some none)
    (nCSp2 : PySem.W.findIn K (.ref CSp) "index" = some none)
    (e1CSp : PySem.W.findIn K (.ref CSp) "__class__" = some (some (.builtin "object.__class__")))
    (e2CSp : PySem.W.specialIn K (.builtin "object.__class__") "__get__" = some (some (.builtin "getset_descriptor.__get__")))
    (e3CSp : PySem.W.takesIn K (.builtin "object.__class__") = some true)
    (e4CSp : PySem.W.mroIn K CSp (.type "object") = some true)
    (e6CSp : PySem.W.findIn K (.ref CSp) "__ne__" = some (some (.builtin "object.__ne__")))
    (e7CSp : PySem.W.subIn K (.ref CSp) (.type "object") = some true)
    (tyCSp : PySem.W.typeIn K (.ref CSp) = some (.type "type"))
    (suCSp : PySem.W.subIn K (.ref CSp) (.ref CN) = some true)
    (ssCSp : PySem.W.subIn K (.ref CSp) (.ref CSp) = some true)
    (aCBr : PySem.W.nsIn K mainGlobals "BranchNode" = some (some (.ref CBr)))
    (pgCBr : PySem.W.plainGet K CBr Str.empty = true)
    (hdCBr : PySem.W.hasDictIn K CBr = true)
    (poCBr : PySem.W.plainOver K CBr = true)
    (saCBr : PySem.W.findIn K (.ref CBr) "__setattr__" = some (some (.builtin "object.__setattr__")))
    (mkCBr : PySem.W.makesIn K CBr = true)
    (kcCBr : PySem.W.keepIn K (.ref CBr) = true)
    (nCBr0 : PySem.W.findIn K (.ref CBr) "own_schedule" = some none)
    (nCBr1 : PySem.W.findIn K (.ref CBr) "own_height" = some none)
    (nCBr2 : PySem.W.findIn K (.ref CBr) "index" = some none)
    (e1CBr : PySem.W.findIn K (.ref CBr) "__class__" = some (some (.builtin "object.__class__")))
    (e2CBr : PySem.W.specialIn K (.builtin "object.__class__") "__get__" = some (some (.builtin "getset_descriptor.__get__")))
    (e3CBr : PySem.W.takesIn K (.builtin "object.__class__") = some true)
    (e4CBr : PySem.W.mroIn K CBr (.type "object") = some true)
    (e6CBr : PySem.W.findIn K (.ref CBr) "__ne__" = some (some (.builtin "object.__ne__")))
    (e7CBr : PySem.W.subIn K (.ref CBr) (.type "object") = some true)
    (tyCBr : PySem.W.typeIn K (.ref CBr) = some (.type "type"))
    (suCBr : PySem.W.subIn K (.ref CBr) (.ref CN) = some true)
    (ssCBr : PySem.W.subIn K (.ref CBr) (.ref CBr) = some true)
    (hdCN : PySem.W.hasDictIn K CN = true)
    (tyCN : PySem.W.typeIn K (.ref CN) = some (.type "type"))
    (ssCN : PySem.W.subIn K (.ref CN) (.ref CN) = some true)
    (sSB : PySem.W.subIn K (.ref CSp) (.ref CBr) = some false)
    (sBS : PySem.W.subIn K (.ref CBr) (.ref CSp) = some false)
    (ax17 : PySem.W.findIn K (.ref CN) "__init__" = some (some (.ref fx17)))
    (ix17 : PySem.W.isFn K (.ref fx17) = true)
    (lx17 : K.lookup fx17 = some ⟨ocx17, odx17, .func (PySem.W.fnOf "__init__" "Node.__init__" (defArgs c_Node___init__) (defBody c_Node___init__) (defScope c_Node___init__) .none kVx17 dcx17 pmx17 anx17 cdx17 ctx17), slx17⟩)
    (cx17 : PySem.W.codeIn K cdx17 "Node.__init__" = true)
    (kx17 : PySem.W.keepIn K (.ref fx17) = true)
    (ax18 : PySem.W.findIn K (.ref CSp) "__init__" = some (some (.ref fx18)))
    (ix18 : PySem.W.isFn K (.ref fx18) = true)
    (lx18 : K.lookup fx18 = some ⟨ocx18, odx18, .func (PySem.W.fnX "__init__" "SpineNode.__init__" (defArgs c_SpineNode___init__) (defBody c_SpineNode___init__) (defScope c_SpineNode___init__) [(("__class__" : Str), ccx18)] .none .none dcx18 pmx18 none (.ref cdax18) ctx18), slx18⟩)
    (cx18 : PySem.W.codeIn K (.ref cdax18) "SpineNode.__init__" = true)
    (kx18 : PySem.W.keepIn K (.ref fx18) = true)
    (ex18 : K.lookup ccx18 = some ⟨c0x18, cldx18, .cell (some (.ref CSp)), cslx18⟩)
    (dx18 : K.lookup cdax18 = some ⟨cclx18, cddx18, .fields vsx18, ccsx18⟩)
    (vx18 : vsx18[2]? = some (.str flx18 tfx18))
    (wx18 : ((l.prog.main.file : Str) == flx18) = true)
    (supt : (l.prog.main.scope.names.lookup ("super" : Str)).isSome = false)
    (supo : PySem.W.nsIn K cStatics "thirdparty.any" = some none)
    (cdCSp : PySem.W.clsIn K CSp = some cdtCSp)
    (sbCSp : PySem.W.mroIn K CSp (.ref CSp) = some true)
    (sux18__init__ : PySem.W.ks_superIn K CSp CSp "__init__" = some (some (.ref fx17)))
    (tyx18__init__ : PySem.W.typeIn K (.ref fx17) = some (.type "function"))
    (fix18__init__ : PySem.W.fnIn K fx17 = true)
    (ax19 : PySem.W.findIn K (.ref CBr) "__init__" = some (some (.ref fx19)))
    (ix19 : PySem.W.isFn K (.ref fx19) = true)
    (lx19 : K.lookup fx19 = some ⟨ocx19, odx19, .func (PySem.W.fnX "__init__" "BranchNode.__init__" (defArgs c_BranchNode___init__) (defBody c_BranchNode___init__) (defScope c_BranchNode___init__) [(("__class__" : Str), ccx19)] .none .none dcx19 pmx19 none (.ref cdax19) ctx19), slx19⟩)
    (cx19 : PySem.W.codeIn K (.ref cdax19) "BranchNode.__init__" = true)
    (kx19 : PySem.W.keepIn K (.ref fx19) = true)
    (ex19 : K.lookup ccx19 = some ⟨c0x19, cldx19, .cell (some (.ref CBr)), cslx19⟩)
    (dx19 : K.lookup cdax19 = some ⟨cclx19, cddx19, .fields vsx19, ccsx19⟩)
    (vx19 : vsx19[2]? = some (.str flx19 tfx19))
    (wx19 : ((l.prog.main.file : Str) == flx19) = true)
    (cdCBr : PySem.W.clsIn K CBr = some cdtCBr)
    (sbCBr : PySem.W.mroIn K CBr (.ref CBr) = some true)
    (sux19__init__ : PySem.W.ks_superIn K CBr CBr "__init__" = some (some (.ref fx17)))
    (tyx19__init__ : PySem.W.typeIn K (.ref fx17) = some (.type "function"))
    (fix19__init__ : PySem.W.fnIn K fx17 = true)
    (ax20 : PySem.W.findCls K (.ref CN) (.type "type") "named" = some (.get (.builtin "staticmethod.__get__") (.ref pSx20) .none (.ref CN)))
    (bx20 : PySem.W.recIn K pSx20 "staticmethod" = some (.ref fx20 :: rSx20))
    (lx20 : K.lookup fx20 = some ⟨ocx20, odx20, .func (PySem.W.fnOf "named" "Node.named" (defArgs c_Node_named) (defBody c_Node_named) (defScope c_Node_named) .none kVx20 dcx20 pmx20 anx20 cdx20 ctx20), slx20⟩)
    (cx20 : PySem.W.codeIn K cdx20 "Node.named" = true)
    (kx20 : PySem.W.keepIn K (.ref fx20) = true)
    (ax21 : PySem.W.findIn K (.ref CSp) "schedule" = some (some (.ref pNx21)))
    (gx21 : PySem.W.specialIn K (.ref pNx21) "__get__" = some (some (.builtin "property.__get__")))
    (tx21 : PySem.W.takesIn K (.ref pNx21) = some true)
    (bx21 : PySem.W.recIn K pNx21 "property" = some (.ref fx21 :: rNx21))
    (lx21 : K.lookup fx21 = some ⟨ocx21, odx21, .func (PySem.W.fnOf "schedule" "Node.schedule" (defArgs c_Node_schedule) (defBody c_Node_schedule) (defScope c_Node_schedule) .none kVx21 dcx21 pmx21 anx21 cdx21 ctx21), slx21⟩)
    (cx21 : PySem.W.codeIn K cdx21 "Node.schedule" = true)
    (kx21 : PySem.W.keepIn K (.ref fx21) = true)
    (ax21CBr : PySem.W.findIn K (.ref CBr) "schedule" = some (some (.ref pNx21)))
    (ax22 : PySem.W.findIn K (.ref CSp) "height" = some (some (.ref pNx22)))
    (gx22 : PySem.W.specialIn K (.ref pNx22) "__get__" = some (some (.builtin "property.__get__")))
    (tx22 : PySem.W.takesIn K (.ref pNx22) = some true)
    (bx22 : PySem.W.recIn K pNx22 "property" = some (.ref fx22 :: rNx22))
    (lx22 : K.lookup fx22 = some ⟨ocx22, odx22, .func (PySem.W.fnOf "height" "Node.height" (defArgs c_Node_height) (defBody c_Node_height) (defScope c_Node_height) .none kVx22 dcx22 pmx22 anx22 cdx22 ctx22), slx22⟩)
    (cx22 : PySem.W.codeIn K cdx22 "Node.height" = true)
    (kx22 : PySem.W.keepIn K (.ref fx22) = true)
    (ax22CBr : PySem.W.findIn K (.ref CBr) "height" = some (some (.ref pNx22)))
    (ax23 : PySem.W.findIn K (.ref CSp) "child" = some (some (.ref fx23)))
    (ix23 : PySem.W.isFn K (.ref fx23) = true)
    (lx23 : K.lookup fx23 = some ⟨ocx23, odx23, .func (PySem.W.fnOf "child" "Node.child" (defArgs c_Node_child) (defBody c_Node_child) (defScope c_Node_child) .none kVx23 dcx23 pmx23 anx23 cdx23 ctx23), slx23⟩)
    (cx23 : PySem.W.codeIn K cdx23 "Node.child" = true)
    (kx23 : PySem.W.keepIn K (.ref fx23) = true)
    (ax23CBr : PySem.W.findIn K (.ref CBr) "child" = some (some (.ref fx23)))
    (ax24 : PySem.W.findIn K (.ref CSp) "children" = some (some (.ref fx24)))
    (ix24 : PySem.W.isFn K (.ref fx24) = true)
    (lx24 : K.lookup fx24 = some ⟨ocx24, odx24, .func (PySem.W.fnOf "children" "Node.children" (defArgs c_Node_children) (defBody c_Node_children) (defScope c_Node_children) .none kVx24 dcx24 pmx24 anx24 cdx24 ctx24), slx24⟩)
    (cx24 : PySem.W.codeIn K cdx24 "Node.children" = true)
    (kx24 : PySem.W.keepIn K (.ref fx24) = true)
    (ax24CBr : PySem.W.findIn K (.ref CBr) "children" = some (some (.ref fx24)))
    (ax25 : PySem.W.findIn K (.ref CSp) "__eq__" = some (some (.ref fx25)))
    (ix25 : PySem.W.isFn K (.ref fx25) = true)
    (lx25 : K.lookup fx25 = some ⟨ocx25, odx25, .func (PySem.W.fnOf "__eq__" "Node.__eq__" (defArgs c_Node___eq__) (defBody c_Node___eq__) (defScope c_Node___eq__) .none kVx25 dcx25 pmx25 anx25 cdx25 ctx25), slx25⟩)
    (cx25 : PySem.W.codeIn K cdx25 "Node.__eq__" = true)
    (kx25 : PySem.W.keepIn K (.ref fx25) = true)
    (ax25CBr : PySem.W.findIn K (.ref CBr) "__eq__" = some (some (.ref fx25)))
    (ax26 : PySem.W.findIn K (.ref CSp) "__repr__" = some (some (.ref fx26)))
    (ix26 : PySem.W.isFn K (.ref fx26) = true)
    (lx26 : K.lookup fx26 = some ⟨ocx26, odx26, .func (PySem.W.fnOf "__repr__" "SpineNode.__repr__" (defArgs c_SpineNode___repr__) (defBody c_SpineNode___repr__) (defScope c_SpineNode___repr__) .none kVx26 dcx26 pmx26 anx26 cdx26 ctx26), slx26⟩)
    (cx26 : PySem.W.codeIn K cdx26 "SpineNode.__repr__" = true)
    (kx26 : PySem.W.keepIn K (.ref fx26) = true)
    (ax27 : PySem.W.findIn K (.ref CBr) "__repr__" = some (some (.ref fx27)))
    (ix27 : PySem.W.isFn K (.ref fx27) = true)
    (lx27 : K.lookup fx27 = some ⟨ocx27, odx27, .func (PySem.W.fnOf "__repr__" "BranchNode.__repr__" (defArgs c_BranchNode___repr__) (defBody c_BranchNode___repr__) (defScope c_BranchNode___repr__) .none kVx27 dcx27 pmx27 anx27 cdx27 ctx27), slx27⟩)
    (cx27 : PySem.W.codeIn K cdx27 "BranchNode.__repr__" = true)
    (kx27 : PySem.W.keepIn K (.ref fx27) = true)
    (ax28 : PySem.W.nsIn K mainGlobals "path_inside" = some (some (.ref fx28)))
    (lx28 : K.lookup fx28 = some ⟨ocx28, odx28, .func (PySem.W.fnOf "path_inside" "path_inside" (defArgs s_path_inside) (defBody s_path_inside) (defScope s_path_inside) .none kVx28 dcx28 pmx28 anx28 cdx28 ctx28), slx28⟩)
    (cx28 : PySem.W.codeIn K cdx28 "path_inside" = true)
    (kx28 : PySem.W.keepIn K (.ref fx28) = true)
    (ax29 : PySem.W.nsIn K mainGlobals "path_of" = some (some (.ref fx29)))
    (lx29 : K.lookup fx29 = some ⟨ocx29, odx29, .func (PySem.W.fnOf "path_of" "path_of" (defArgs s_path_of) (defBody s_path_of) (defScope s_path_of) .none kVx29 dcx29 pmx29 anx29 cdx29 ctx29), slx29⟩)
    (cx29 : PySem.W.codeIn K cdx29 "path_of" = true)
    (kx29 : PySem.W.keepIn K (.ref fx29) = true)
    (ax30 : PySem.W.findCls K (.ref CN) (.type "type") "led" = some (.get (.builtin "staticmethod.__get__") (.ref pSx30) .none (.ref CN)))
    (bx30 : PySem.W.recIn K pSx30 "staticmethod" = some (.ref fx30 :: rSx30))
    (lx30 : K.lookup fx30 = some ⟨ocx30, odx30, .func (PySem.W.fnOf "led" "Node.led" (defArgs c_Node_led) (defBody c_Node_led) (defScope c_Node_led) .none kVx30 dcx30 pmx30 anx30 cdx30 ctx30), slx30⟩)
    (cx30 : PySem.W.codeIn K cdx30 "Node.led" = true)
    (kx30 : PySem.W.keepIn K (.ref fx30) = true)
    (ax31 : PySem.W.findCls K (.ref CN) (.type "type") "at" = some (.get (.builtin "classmethod.__get__") (.ref pCx31) .none (.ref CN)))
    (bx31 : PySem.W.recIn K pCx31 "classmethod" = some (.ref fx31 :: rCx31))
    (lx31 : K.lookup fx31 = some ⟨ocx31, odx31, .func (PySem.W.fnOf "at" "Node.at" (defArgs c_Node_at) (defBody c_Node_at) (defScope c_Node_at) .none kVx31 dcx31 pmx31 anx31 cdx31 ctx31), slx31⟩)
    (cx31 : PySem.W.codeIn K cdx31 "Node.at" = true)
    (kx31 : PySem.W.keepIn K (.ref fx31) = true)
    (nx31 : PySem.W.fnIn K fx31 = true)
    (ax32 : PySem.W.nsIn K mainGlobals "label_path" = some (some (.ref fx32)))
    (lx32 : K.lookup fx32 = some ⟨ocx32, odx32, .func (PySem.W.fnOf "label_path" "label_path" (defArgs s_label_path) (defBody s_label_path) (defScope s_label_path) .none kVx32 dcx32 pmx32 anx32 cdx32 ctx32), slx32⟩)
    (cx32 : PySem.W.codeIn K cdx32 "label_path" = true)
    (kx32 : PySem.W.keepIn K (.ref fx32) = true)
    (dig : PySem.W.nsIn K cStatics "sys.int_max_str_digits" = some none)
    (aBScheduleError : PySem.W.nsIn K mainGlobals "ScheduleError" = some (some (.ref BScheduleError)))
    (rBScheduleError : PySem.W.readsIn K BScheduleError (.type "type") = true)
    (gBScheduleError : PySem.W.specialIn K (.ref BScheduleError) "__getattribute__" = some (some (.builtin "type.__getattribute__")))
    (vBScheduleError : PySem.W.findCls K (.ref BScheduleError) (.type "type") "__init__" = some (.val (.builtin "ValueError.__init__")))
    (sBScheduleError : PySem.W.subIn K (.ref BScheduleError) (.type "BaseException") = some true)
    (hBScheduleError : PySem.W.hasDictIn K BScheduleError = true)
    (tBScheduleError : PySem.W.typeIn K (.ref BScheduleError) = some (.type "type"))
    (xo1 : PySem.W.specialIn K (.builtin "object.__class__") "__get__" = some (some (.builtin "getset_descriptor.__get__")))
    (xo2 : PySem.W.takesIn K (.builtin "object.__class__") = some true)
    (aEInvalidCertificate : PySem.W.nsIn K mainGlobals "InvalidCertificate" = some (some (.ref EInvalidCertificate)))
    (iEInvalidCertificate : PySem.W.excInitIn K EInvalidCertificate [.type "ValueError", .type "Exception", .type "BaseException", .type "object"] "ValueError.__new__" = true)
    (oEInvalidCertificate : PySem.W.excOver K EInvalidCertificate [.type "ValueError", .type "Exception", .type "BaseException", .type "object"] = true)
    (hEInvalidCertificate : PySem.W.hasDictIn K EInvalidCertificate = true)
    (sEInvalidCertificate : PySem.W.findIn K (.ref EInvalidCertificate) "__setattr__" = some (some (.builtin "object.__setattr__")))
    (xEInvalidCertificate : PySem.W.subIn K (.ref EInvalidCertificate) (.type "BaseException") = some true)
    (tEInvalidCertificate : PySem.W.typeIn K (.ref EInvalidCertificate) = some (.type "type"))
    (kEInvalidCertificate : PySem.W.keepIn K (.ref EInvalidCertificate) = true)
    (nEInvalidCertificate : PySem.W.findIn K (.ref EInvalidCertificate) "part" = some none)
    (gEInvalidCertificate : PySem.W.findIn K (.ref EInvalidCertificate) "__getattribute__" = some (some (.builtin "BaseException.__getattribute__")))
    (qEInvalidCertificate : PySem.W.findIn K (.ref EInvalidCertificate) "__getattr__" = some none)
    (cEInvalidCertificate : PySem.W.findIn K (.ref EInvalidCertificate) "__class__" = some (some (.builtin "object.__class__")))
    (mEInvalidCertificate : PySem.W.mroIn K EInvalidCertificate (.type "object") = some true)
    (ax33 : PySem.W.findIn K (.ref EInvalidCertificate) "__init__" = some (some (.ref fx33)))
    (ix33 : PySem.W.isFn K (.ref fx33) = true)
    (lx33 : K.lookup fx33 = some ⟨ocx33, odx33, .func (PySem.W.fnOf "__init__" "InvalidCertificate.__init__" (defArgs c_InvalidCertificate___init__) (defBody c_InvalidCertificate___init__) (defScope c_InvalidCertificate___init__) .none kVx33 dcx33 pmx33 anx33 cdx33 ctx33), slx33⟩)
    (cx33 : PySem.W.codeIn K cdx33 "InvalidCertificate.__init__" = true)
    (kx33 : PySem.W.keepIn K (.ref fx33) = true)
    (tyEInvalidCertificate : PySem.W.typeIn K (.ref fx33) = some (.type "function"))
    (aEInvalidNumber : PySem.W.nsIn K mainGlobals "InvalidNumber" = some (some (.ref EInvalidNumber)))
    (iEInvalidNumber : PySem.W.excInitIn K EInvalidNumber [.type "ValueError", .type "Exception", .type "BaseException", .type "object"] "ValueError.__new__" = true)
    (oEInvalidNumber : PySem.W.excOver K EInvalidNumber [.type "ValueError", .type "Exception", .type "BaseException", .type "object"] = true)
    (hEInvalidNumber : PySem.W.hasDictIn K EInvalidNumber = true)
    (sEInvalidNumber : PySem.W.findIn K (.ref EInvalidNumber) "__setattr__" = some (some (.builtin "object.__setattr__")))
    (xEInvalidNumber : PySem.W.subIn K (.ref EInvalidNumber) (.type "BaseException") = some true)
    (tEInvalidNumber : PySem.W.typeIn K (.ref EInvalidNumber) = some (.type "type"))
    (kEInvalidNumber : PySem.W.keepIn K (.ref EInvalidNumber) = true)
    (nEInvalidNumber : PySem.W.findIn K (.ref EInvalidNumber) "number" = some none)
    (gEInvalidNumber : PySem.W.findIn K (.ref EInvalidNumber) "__getattribute__" = some (some (.builtin "BaseException.__getattribute__")))
    (qEInvalidNumber : PySem.W.findIn K (.ref EInvalidNumber) "__getattr__" = some none)
    (cEInvalidNumber : PySem.W.findIn K (.ref EInvalidNumber) "__class__" = some (some (.builtin "object.__class__")))
    (mEInvalidNumber : PySem.W.mroIn K EInvalidNumber (.type "object") = some true)
    (ax34 : PySem.W.findIn K (.ref EInvalidNumber) "__init__" = some (some (.ref fx34)))
    (ix34 : PySem.W.isFn K (.ref fx34) = true)
    (lx34 : K.lookup fx34 = some ⟨ocx34, odx34, .func (PySem.W.fnOf "__init__" "InvalidNumber.__init__" (defArgs c_InvalidNumber___init__) (defBody c_InvalidNumber___init__) (defScope c_InvalidNumber___init__) .none kVx34 dcx34 pmx34 anx34 cdx34 ctx34), slx34⟩)
    (cx34 : PySem.W.codeIn K cdx34 "InvalidNumber.__init__" = true)
    (kx34 : PySem.W.keepIn K (.ref fx34) = true)
    (tyEInvalidNumber : PySem.W.typeIn K (.ref fx34) = some (.type "function"))
    (aEInvalidSchedule : PySem.W.nsIn K mainGlobals "InvalidSchedule" = some (some (.ref EInvalidSchedule)))
    (iEInvalidSchedule : PySem.W.excInitIn K EInvalidSchedule [.type "ValueError", .type "Exception", .type "BaseException", .type "object"] "ValueError.__new__" = true)
    (oEInvalidSchedule : PySem.W.excOver K EInvalidSchedule [.type "ValueError", .type "Exception", .type "BaseException", .type "object"] = true)
    (hEInvalidSchedule : PySem.W.hasDictIn K EInvalidSchedule = true)
    (sEInvalidSchedule : PySem.W.findIn K (.ref EInvalidSchedule) "__setattr__" = some (some (.builtin "object.__setattr__")))
    (xEInvalidSchedule : PySem.W.subIn K (.ref EInvalidSchedule) (.type "BaseException") = some true)
    (tEInvalidSchedule : PySem.W.typeIn K (.ref EInvalidSchedule) = some (.type "type"))
    (kEInvalidSchedule : PySem.W.keepIn K (.ref EInvalidSchedule) = true)
    (nEInvalidSchedule : PySem.W.findIn K (.ref EInvalidSchedule) "part" = some none)
    (gEInvalidSchedule : PySem.W.findIn K (.ref EInvalidSchedule) "__getattribute__" = some (some (.builtin "BaseException.__getattribute__")))
    (qEInvalidSchedule : PySem.W.findIn K (.ref EInvalidSchedule) "__getattr__" = some none)
    (cEInvalidSchedule : PySem.W.findIn K (.ref EInvalidSchedule) "__class__" = some (some (.builtin "object.__class__")))
    (mEInvalidSchedule : PySem.W.mroIn K EInvalidSchedule (.type "object") = some true)
    (ax35 : PySem.W.findIn K (.ref EInvalidSchedule) "__init__" = some (some (.ref fx35)))
    (ix35 : PySem.W.isFn K (.ref fx35) = true)
    (lx35 : K.lookup fx35 = some ⟨ocx35, odx35, .func (PySem.W.fnOf "__init__" "InvalidSchedule.__init__" (defArgs c_InvalidSchedule___init__) (defBody c_InvalidSchedule___init__) (defScope c_InvalidSchedule___init__) .none kVx35 dcx35 pmx35 anx35 cdx35 ctx35), slx35⟩)
    (cx35 : PySem.W.codeIn K cdx35 "InvalidSchedule.__init__" = true)
    (kx35 : PySem.W.keepIn K (.ref fx35) = true)
    (tyEInvalidSchedule : PySem.W.typeIn K (.ref fx35) = some (.type "function"))
    (ax36 : PySem.W.nsIn K mainGlobals "is_equal" = some (some (.ref fx36)))
    (lx36 : K.lookup fx36 = some ⟨ocx36, odx36, .func (PySem.W.fnOf "is_equal" "is_equal" (defArgs s_is_equal) (defBody s_is_equal) (defScope s_is_equal) .none kVx36 dcx36 pmx36 anx36 cdx36 ctx36), slx36⟩)
    (cx36 : PySem.W.codeIn K cdx36 "is_equal" = true)
    (kx36 : PySem.W.keepIn K (.ref fx36) = true)
    (ax37 : PySem.W.nsIn K mainGlobals "check_path" = some (some (.ref fx37)))
    (lx37 : K.lookup fx37 = some ⟨ocx37, odx37, .func (PySem.W.fnOf "check_path" "check_path" (defArgs s_check_path) (defBody s_check_path) (defScope s_check_path) .none kVx37 dcx37 pmx37 anx37 cdx37 ctx37), slx37⟩)
    (cx37 : PySem.W.codeIn K cdx37 "check_path" = true)
    (kx37 : PySem.W.keepIn K (.ref fx37) = true)
    (zEInvalidCertificateBScheduleError : PySem.W.subIn K (.ref EInvalidCertificate) (.ref BScheduleError) = some true)
    (zEInvalidNumberBScheduleError : PySem.W.subIn K (.ref EInvalidNumber) (.ref BScheduleError) = some true)
    (zEInvalidScheduleBScheduleError : PySem.W.subIn K (.ref EInvalidSchedule) (.ref BScheduleError) = some true)
    (kve : PySem.W.subIn K (.ref EInvalidCertificate) (.type "ValueError") = some true)
    (srI : PySem.W.subIn K (.ref EInvalidCertificate) (.ref EInvalidCertificate) = some true)
    (sfIN : PySem.W.subIn K (.ref EInvalidCertificate) (.ref EInvalidNumber) = some false)
    (sfIX : PySem.W.subIn K (.ref EInvalidCertificate) (.ref EInvalidSchedule) = some false)
    (srN : PySem.W.subIn K (.ref EInvalidNumber) (.ref EInvalidNumber) = some true)
    (sfNI : PySem.W.subIn K (.ref EInvalidNumber) (.ref EInvalidCertificate) = some false)
    (sfNX : PySem.W.subIn K (.ref EInvalidNumber) (.ref EInvalidSchedule) = some false)
    (srX : PySem.W.subIn K (.ref EInvalidSchedule) (.ref EInvalidSchedule) = some true)
    (sfXI : PySem.W.subIn K (.ref EInvalidSchedule) (.ref EInvalidCertificate) = some false)
    (sfXN : PySem.W.subIn K (.ref EInvalidSchedule) (.ref EInvalidNumber) = some false)
    (ax38 : PySem.W.nsIn K mainGlobals "_law_outcome" = some (some (.ref fx38)))
    (lx38 : K.lookup fx38 = some ⟨ocx38, odx38, .func (PySem.W.fnOf "_law_outcome" "_law_outcome" (defArgs s__law_outcome) (defBody s__law_outcome) (defScope s__law_outcome) .none kVx38 dcx38 pmx38 anx38 cdx38 ctx38), slx38⟩)
    (cx38 : PySem.W.codeIn K cdx38 "_law_outcome" = true)
    (kx38 : PySem.W.keepIn K (.ref fx38) = true)
    (ax39 : PySem.W.nsIn K mainGlobals "_law_next" = some (some (.ref fx39)))
    (lx39 : K.lookup fx39 = some ⟨ocx39, odx39, .func (PySem.W.fnOf "_law_next" "_law_next" (defArgs s__law_next) (defBody s__law_next) (defScope s__law_next) .none kVx39 dcx39 pmx39 anx39 cdx39 ctx39), slx39⟩)
    (cx39 : PySem.W.codeIn K cdx39 "_law_next" = true)
    (kx39 : PySem.W.keepIn K (.ref fx39) = true)
    (ax40 : PySem.W.nsIn K mainGlobals "_law_row" = some (some (.ref fx40)))
    (lx40 : K.lookup fx40 = some ⟨ocx40, odx40, .func (PySem.W.fnOf "_law_row" "_law_row" (defArgs s__law_row) (defBody s__law_row) (defScope s__law_row) .none kVx40 dcx40 pmx40 anx40 cdx40 ctx40), slx40⟩)
    (cx40 : PySem.W.codeIn K cdx40 "_law_row" = true)
    (kx40 : PySem.W.keepIn K (.ref fx40) = true)
    (ax41 : PySem.W.nsIn K mainGlobals "_law_streams" = some (some (.ref fx41)))
    (lx41 : K.lookup fx41 = some ⟨ocx41, odx41, .func (PySem.W.fnOf "_law_streams" "_law_streams" (defArgs s__law_streams) (defBody s__law_streams) (defScope s__law_streams) .none kVx41 dcx41 pmx41 anx41 cdx41 ctx41), slx41⟩)
    (cx41 : PySem.W.codeIn K cdx41 "_law_streams" = true)
    (kx41 : PySem.W.keepIn K (.ref fx41) = true)
    (ax42 : PySem.W.nsIn K mainGlobals "_law_plan" = some (some (.ref fx42)))
    (lx42 : K.lookup fx42 = some ⟨ocx42, odx42, .func (PySem.W.fnOf "_law_plan" "_law_plan" (defArgs s__law_plan) (defBody s__law_plan) (defScope s__law_plan) .none kVx42 dcx42 pmx42 anx42 cdx42 ctx42), slx42⟩)
    (cx42 : PySem.W.codeIn K cdx42 "_law_plan" = true)
    (kx42 : PySem.W.keepIn K (.ref fx42) = true)
    (ax43 : PySem.W.nsIn K mainGlobals "_law_great" = some (some (.ref fx43)))
    (lx43 : K.lookup fx43 = some ⟨ocx43, odx43, .func (PySem.W.fnOf "_law_great" "_law_great" (defArgs s__law_great) (defBody s__law_great) (defScope s__law_great) .none kVx43 dcx43 pmx43 anx43 cdx43 ctx43), slx43⟩)
    (cx43 : PySem.W.codeIn K cdx43 "_law_great" = true)
    (kx43 : PySem.W.keepIn K (.ref fx43) = true)
    (ax44 : PySem.W.nsIn K mainGlobals "_law_is_node" = some (some (.ref fx44)))
    (lx44 : K.lookup fx44 = some ⟨ocx44, odx44, .func (PySem.W.fnOf "_law_is_node" "_law_is_node" (defArgs s__law_is_node) (defBody s__law_is_node) (defScope s__law_is_node) .none kVx44 dcx44 pmx44 anx44 cdx44 ctx44), slx44⟩)
    (cx44 : PySem.W.codeIn K cdx44 "_law_is_node" = true)
    (kx44 : PySem.W.keepIn K (.ref fx44) = true)
    (ax45 : PySem.W.nsIn K mainGlobals "_law_due" = some (some (.ref fx45)))
    (lx45 : K.lookup fx45 = some ⟨ocx45, odx45, .func (PySem.W.fnOf "_law_due" "_law_due" (defArgs s__law_due) (defBody s__law_due) (defScope s__law_due) .none kVx45 dcx45 pmx45 anx45 cdx45 ctx45), slx45⟩)
    (cx45 : PySem.W.codeIn K cdx45 "_law_due" = true)
    (kx45 : PySem.W.keepIn K (.ref fx45) = true)
    (ax46 : PySem.W.nsIn K mainGlobals "_law_spoiled" = some (some (.ref fx46)))
    (lx46 : K.lookup fx46 = some ⟨ocx46, odx46, .func (PySem.W.fnOf "_law_spoiled" "_law_spoiled" (defArgs s__law_spoiled) (defBody s__law_spoiled) (defScope s__law_spoiled) .none kVx46 dcx46 pmx46 anx46 cdx46 ctx46), slx46⟩)
    (cx46 : PySem.W.codeIn K cdx46 "_law_spoiled" = true)
    (kx46 : PySem.W.keepIn K (.ref fx46) = true)
    (ax47 : PySem.W.nsIn K mainGlobals "_law_right" = some (some (.ref fx47)))
    (lx47 : K.lookup fx47 = some ⟨ocx47, odx47, .func (PySem.W.fnOf "_law_right" "_law_right" (defArgs s__law_right) (defBody s__law_right) (defScope s__law_right) .none kVx47 dcx47 pmx47 anx47 (.ref cdax47) ctx47), slx47⟩)
    (cx47 : PySem.W.codeIn K (.ref cdax47) "_law_right" = true)
    (kx47 : PySem.W.keepIn K (.ref fx47) = true)
    (dx47 : K.lookup cdax47 = some ⟨cclx47, cddx47, .fields vsx47, ccsx47⟩)
    (vx47 : vsx47[11]? = some (.ref Ptx47))
    (npx47 : K.lookup Ptx47 = none)
    (chx47 : PySem.W.codeHdIn K cdax47 Ptx47 = true)
    (nsn : PySem.W.subIn K (.type "NoneType") (.ref C) = some false)
    (nsi : PySem.W.subIn K (.type "int") (.ref C) = some false)
    (nsb : PySem.W.subIn K (.type "bool") (.ref C) = some false)
    (nss : PySem.W.subIn K (.type "str") (.ref C) = some false)
    (nst : PySem.W.subIn K (.type "tuple") (.ref C) = some false)
    (nsl : PySem.W.subIn K (.type "list") (.ref C) = some false)
    (nsd : PySem.W.subIn K (.type "dict") (.ref C) = some false)
    (tyC : PySem.W.typeIn K (.ref C) = some (.type "type"))
    (ax48 : PySem.W.nsIn K mainGlobals "law" = some (some (.ref fx48)))
    (lx48 : K.lookup fx48 = some ⟨ocx48, odx48, .func (PySem.W.fnOf "law" "law" (defArgs s_law) (defBody s_law) (defScope s_law) .none kVx48 dcx48 pmx48 anx48 (.ref cdax48) ctx48), slx48⟩)
    (cx48 : PySem.W.codeIn K (.ref cdax48) "law" = true)
    (kx48 : PySem.W.keepIn K (.ref fx48) = true)
    (dx48 : K.lookup cdax48 = some ⟨cclx48, cddx48, .fields vsx48, ccsx48⟩)
    (vx48 : vsx48[11]? = some (.ref Ptx48))
    (npx48 : K.lookup Ptx48 = none)
    (chx48 : PySem.W.codeHdIn K cdax48 Ptx48 = true)
    (z0 : PySem.W.nsIn K mainGlobals "isinstance" = some none)
    (z1 : PySem.W.nsIn K mainGlobals "int" = some none)
    (z2 : PySem.W.nsIn K mainGlobals "bool" = some none)
    (z3 : PySem.W.nsIn K mainGlobals "tuple" = some none)
    (z4 : PySem.W.nsIn K mainGlobals "len" = some none)
    (z5 : PySem.W.nsIn K mainGlobals "enumerate" = some none)
    (z6 : PySem.W.nsIn K mainGlobals "range" = some none)
    (z7 : PySem.W.nsIn K mainGlobals "all" = some none)
    (z8 : PySem.W.nsIn K mainGlobals "list" = some none)
    (z9 : PySem.W.nsIn K mainGlobals "min" = some none)
    (z10 : PySem.W.nsIn K mainGlobals "max" = some none)
    (z11 : PySem.W.nsIn K mainGlobals "sum" = some none)
    (z12 : PySem.W.nsIn K mainGlobals "repr" = some none)
    (z13 : PySem.W.nsIn K mainGlobals "ValueError" = some none)
    (z14 : PySem.W.nsIn K mainGlobals "zip" = some none)
    (z15 : PySem.W.nsIn K mainGlobals "super" = some none)
    (y1 : RelV .non w1)
    (y2 : RelV .non w2)
    (ndp : ([Ptx47, Ptx48] : List Addr).Nodup)
    : ∃ cs : List (Addr × Addr × Str), (∀ p ∈ cs, h.get? p.2.1 = some { cls := .none, data := .fields #[] }) ∧ (∀ p ∈ cs, K.lookup p.2.1 = none) ∧ (∀ p ∈ cs, PySem.W.codeHdIn K p.1 p.2.1 = true) ∧ (cs.map (·.2.1)).Nodup ∧
        ∀ base : Heap, K.In base → base.Ns mainGlobals mg → (∀ p ∈ cs, TabB base mg p.1 p.2.1) → FnX l.prog w K mg base 15 fa [] (spX K (aLawT (cs.map (·.2)))) := by
  refine ⟨[(cdax47, Ptx47, ("_law_right.<locals>.<lambda>" : Str)), (cdax48, Ptx48, ("law.<locals>.<lambda>" : Str))], List.forall_mem_cons.mpr ⟨own "_law_right" List.mem_cons_self fx47 (PySem.W.mg_of X G ax47) _ _ _ _ _ _ _ _ lx47 rfl rfl dx47 vx47, List.forall_mem_cons.mpr ⟨own "law" (List.mem_cons_of_mem _ List.mem_cons_self) fx48 (PySem.W.mg_of X G ax48) _ _ _ _ _ _ _ _ lx48 rfl rfl dx48 vx48, List.forall_mem_nil _⟩⟩, List.forall_mem_cons.mpr ⟨npx47, List.forall_mem_cons.mpr ⟨npx48, List.forall_mem_nil _⟩⟩, List.forall_mem_cons.mpr ⟨chx47, List.forall_mem_cons.mpr ⟨chx48, List.forall_mem_nil _⟩⟩, ndp, ?_⟩
  intro base _ _ tbs
  have TBx47 : TabB base mg cdax47 Ptx47 := tbs (cdax47, Ptx47, ("_law_right.<locals>.<lambda>" : Str)) List.mem_cons_self
  have TBx48 : TabB base mg cdax48 Ptx48 := tbs (cdax48, Ptx48, ("law.<locals>.<lambda>" : Str)) (List.mem_cons_of_mem _ List.mem_cons_self)
  have B : Bt mg := ⟨(PySem.W.mg_none_of X G z0), (PySem.W.mg_none_of X G z1), (PySem.W.mg_none_of X G z2), (PySem.W.mg_none_of X G z3), (PySem.W.mg_none_of X G z4), (PySem.W.mg_none_of X G z5), (PySem.W.mg_none_of X G z6), (PySem.W.mg_none_of X G z7), (PySem.W.mg_none_of X G z8), (PySem.W.mg_none_of X G z9), (PySem.W.mg_none_of X G z10), (PySem.W.mg_none_of X G z11)⟩
  have T : Rs K mg C := ⟨⟨pgC, hdC, poC, saC⟩, nC0, nC1, nC2, PySem.W.mg_of X G aC⟩
  have L : Lm mg tt0 tt1 tt2 tt3 := ⟨PySem.W.mg_of X G u0, PySem.W.mg_of X G u1, PySem.W.mg_of X G u2, PySem.W.mg_of X G u3⟩
  have LE_ : LmE mg := ⟨⟨_, PySem.W.mg_of X G u0⟩, ⟨_, PySem.W.mg_of X G u1⟩, ⟨_, PySem.W.mg_of X G u2⟩, ⟨_, PySem.W.mg_of X G u3⟩⟩
  have e5 : PySem.W.kitOne K (.ref C) (.ref C) = some true := if_pos (by simp)
  have IS : Isi K C := ⟨e1C, e2C, e3C, e4C, e5⟩
  have Fx1 := fd_kw2 (st := s_is_integer) lx1 cx1 kx1 d1 d2 y1 y2
  have GA : GInt l.prog w K mg base := by
    obtain ⟨mv, kb⟩ := FunD.kbinds0 (ps := ["value", "low", "high"]) Fx1 1 ["low", "high"] [] (fun us _ ws => us ++ ws) (by simp) (fun _ h => nomatch h) (fun r1 _ r2 => r1.append r2)
      (fun D doc pm an cdv ct us mv ws h1 h2 h3 => match us, mv, ws, h1, h2, h3 with | [_], [], [_, _], _, _, _ => rfl)
    exact ⟨⟨fx1, fnx_kbn (k := 0) (fun ds es => ds ++ es) Fx1 q_is_integer kb (fun H ds vs es zs r1 r2 _ _ => r1.append r2) (fun ds M R ⟨n, lo, hi, e, _⟩ => by rw [e]; rfl) (b_is_integer (PySem.W.mg_none_of X G z0) (PySem.W.mg_none_of X G z1) (PySem.W.mg_none_of X G z2)), (PySem.W.mg_of X G ax1), kx1⟩⟩
  have Fx2 : FunD K "check_integer" "check_integer" (defArgs s_check_integer) (defBody s_check_integer) (defScope s_check_integer) [.non] [] fx2 _ := ⟨⟨ocx2, odx2, .ref T2, kVx2, dcx2, pmx2, anx2, cdx2, ctx2, slx2, rfl, lx2, cx2, .inr ⟨List.cons_ne_nil _ _, T2, _, [.none], k02, rfl, dx2, rfl, .cons rfl .nil⟩, .inl rfl⟩, kx2⟩
  have GB : GChk l.prog w K mg base := ⟨⟨fx2, fnx_dfl (n := 2) (dd := [.non]) Fx2 q_check_integer (List.cons_ne_nil _ _) (fun H => .cons .non .nil) (fun T' kV doc pm an cdv ct us its h1 h2 => match us, its, h1, h2 with | [_, _], [_], _, _ => ⟨_, rfl, rfl⟩) (fun ds M R h => by obtain ⟨n, lo, rfl, _⟩ := h; rfl) (b_check_integer GA), (PySem.W.mg_of X G ax2), kx2⟩⟩
  have Fx3 := fd_mk (st := s_are_items) lx3 cx3 kx3
  have GC : GItems l.prog w K mg base := gd_pos Fx3 q_are_items (fun _ _ _ _ _ _ us hl => match us, hl with | [_, _, _], _ => rfl) (fun ds M R h => by obtain ⟨x, a, b, rfl, _⟩ := h <;> rfl) (b_are_items GA L.b (PySem.W.mg_none_of X G z0) (PySem.W.mg_none_of X G z3) (PySem.W.mg_none_of X G z4) (PySem.W.mg_none_of X G z7)) (PySem.W.mg_of X G ax3)
  have Fx4 := fd_mk (st := s_shortest_loop) lx4 cx4 kx4
  have GD : GSl l.prog w K mg base := gd_pos Fx4 q_shortest_loop (fun _ _ _ _ _ _ us hl => match us, hl with | [_], _ => rfl) (fun ds M R h => by obtain ⟨x, rfl, _⟩ := h <;> rfl) (b_shortest_loop (PySem.W.mg_none_of X G z6) (PySem.W.mg_none_of X G z4)) (PySem.W.mg_of X G ax4)
  have Fx5 := fd_mk (st := s_normal_form) lx5 cx5 kx5
  have GE : GNf l.prog w K mg base := gd_pos Fx5 q_normal_form (fun _ _ _ _ _ _ us hl => match us, hl with | [_, _], _ => rfl) (fun ds M R h => by obtain ⟨x, rfl, _⟩ := h <;> rfl) (b_normal_form GD) (PySem.W.mg_of X G ax5)
  have Fx6 := fd_mk (st := s_stream_item) lx6 cx6 kx6
  have GF : GItem l.prog w K mg base := gd_pos Fx6 q_stream_item (fun _ _ _ _ _ _ us hl => match us, hl with | [_, _], _ => rfl) (fun ds M R h => by obtain ⟨x, i, rfl, _⟩ := h <;> rfl) (b_stream_item (PySem.W.mg_none_of X G z4)) (PySem.W.mg_of X G ax6)
  have Fx7 := fd_mk (st := c_Schedule_is_stream) lx7 cx7 kx7
  have XJ : FX l.prog w K mg base 3 fx7 fun ds _ => aIss ds := fnx_pos' Fx7 q_Schedule_is_stream (fun _ _ _ _ _ _ us hl => match us, hl with | [_], _ => rfl) (fun ds M R h => by obtain ⟨x, rfl, _⟩ := h; rfl) (b_is_stream L GC (PySem.W.mg_none_of X G z0) (PySem.W.mg_none_of X G z3) (PySem.W.mg_none_of X G z4))
  have CS : Cs l.prog w K mg base C pSx7 fx7 := ⟨⟨rd, ga⟩, ⟨ax7, ⟨_, bx7⟩, kx7⟩, XJ⟩
  have Fx8 := fd_mk (st := c_Schedule___init__) lx8 cx8 kx8
  have MK : Mks l.prog w K mg base C := ⟨⟨fx8, ⟨mkC, ax8, ix8, kcC⟩, fnx_kw Fx8 q_Schedule___init__ (fun _ _ _ _ _ _ us ws h1 h2 => match us, ws, h1, h2 with | [_, _], [_, _], _, _ => rfl) (fun ds M R h => by obtain ⟨p, a, sp, lv, M0, rfl, _⟩ := h; rfl) (b_init T L GA CS GF GE)⟩⟩
  have Fx9 := fd_mk (st := c_Schedule_spine_at) lx9 cx9 kx9
  have XE : FX l.prog w K mg base 3 fx9 fun ds _ => aSat C ds := fnx_pos' Fx9 q_Schedule_spine_at (fun _ _ _ _ _ _ us hl => match us, hl with | [_, _], _ => rfl) (fun ds M R h => by obtain ⟨x, i, rfl, _⟩ := h; rfl) (b_spine_at T GB GF)
  have Fx10 := fd_mk (st := c_Schedule_level_at) lx10 cx10 kx10
  have XF : FX l.prog w K mg base 3 fx10 fun ds _ => aLat C ds := fnx_pos' Fx10 q_Schedule_level_at (fun _ _ _ _ _ _ us hl => match us, hl with | [_, _], _ => rfl) (fun ds M R h => by obtain ⟨x, i, rfl, _⟩ := h; rfl) (b_level_at T GB GF)
  have SM : Sm2 l.prog w K mg base C := ⟨⟨fx9, ⟨ax9, ix9, kx9⟩, XE⟩, ⟨fx10, ⟨ax10, ix10, kx10⟩, XF⟩⟩
  have Fx11 := fd_mk (st := c_Schedule___eq__) lx11 cx11 kx11
  have XI : FX l.prog w K mg base 1 fx11 fun ds _ => aEqS C ds := fnx_pos' Fx11 q_Schedule___eq__ (fun _ _ _ _ _ _ us hl => match us, hl with | [_, _], _ => rfl) (fun ds M R h => by obtain ⟨x, i, rfl, _⟩ := h; rfl) (b_eq T IS (PySem.W.mg_none_of X G z0))
  have OS : OwnS l.prog w K mg base C fx11 := ⟨XI, ax11, ix11, e6C, e7C⟩
  have Fx12 := fd_mk (st := c_Schedule_arity) lx12 cx12 kx12
  have YPA : FX l.prog w K mg base 1 fx12 fun ds _ => aAri C ds := fnx_pos' Fx12 q_Schedule_arity (fun _ _ _ _ _ _ us hl => match us, hl with | [_], _ => rfl) (fun ds M R h => by obtain ⟨x, rfl, _⟩ := h; rfl) (b_arity T)
  have PA : PrA l.prog w K mg base C := ⟨⟨pNx12, fx12, ⟨ax12, gx12, tx12, _, bx12⟩, YPA⟩⟩
  have Fx13 := fd_mk (st := c_Schedule_spine) lx13 cx13 kx13
  have YPS_ : FX l.prog w K mg base 1 fx13 fun ds _ => aSpi C ds := fnx_pos' Fx13 q_Schedule_spine (fun _ _ _ _ _ _ us hl => match us, hl with | [_], _ => rfl) (fun ds M R h => by obtain ⟨x, rfl, _⟩ := h; rfl) (b_spine T)
  have PS_ : PrS l.prog w K mg base C := ⟨⟨pNx13, fx13, ⟨ax13, gx13, tx13, _, bx13⟩, YPS_⟩⟩
  have Fx14 := fd_mk (st := c_Schedule_levels) lx14 cx14 kx14
  have YPL_ : FX l.prog w K mg base 1 fx14 fun ds _ => aLev C ds := fnx_pos' Fx14 q_Schedule_levels (fun _ _ _ _ _ _ us hl => match us, hl with | [_], _ => rfl) (fun ds M R h => by obtain ⟨x, rfl, _⟩ := h; rfl) (b_levels T)
  have PL_ : PrL l.prog w K mg base C := ⟨⟨pNx14, fx14, ⟨ax14, gx14, tx14, _, bx14⟩, YPL_⟩⟩
  have NC : NdC K mg CN := ⟨PySem.W.mg_of X G aCN, ⟨rCN, gCN⟩, ⟨_, vCN, ⟨_, rfl⟩⟩⟩
  have Fx15 := fd_mk (st := s_is_integer_nodes) lx15 cx15 kx15
  have NI : GInn l.prog w K mg base := gd_pos Fx15 q_is_integer_nodes (fun _ _ _ _ _ _ us hl => match us, hl with | [_, _], _ => rfl) (fun ds M R h => by obtain ⟨n, lo, rfl, _⟩ := h <;> rfl) (b_is_integer_nodes (k := 0) B) (PySem.W.mg_of X G ax15)
  have Fx16 := fd_mk (st := s_need_schedule) lx16 cx16 kx16
  have NS : GNsc l.prog w K mg base C := gd_pos Fx16 q_need_schedule (fun _ _ _ _ _ _ us hl => match us, hl with | [_], _ => rfl) (fun ds M R h => by obtain ⟨S, rfl, _⟩ := h <;> rfl) (b_need_schedule (k := 0) B T IS) (PySem.W.mg_of X G ax16)
  have NXCSp : NdX K CSp := ⟨⟨pgCSp, hdCSp, poCSp, saCSp⟩, nCSp0, nCSp1, nCSp2, ⟨e1CSp, e2CSp, e3CSp, e4CSp, if_pos (by simp)⟩⟩
  have NXCBr : NdX K CBr := ⟨⟨pgCBr, hdCBr, poCBr, saCBr⟩, nCBr0, nCBr1, nCBr2, ⟨e1CBr, e2CBr, e3CBr, e4CBr, if_pos (by simp)⟩⟩
  have NT : NdT K mg CN CSp CBr := ⟨NC, PySem.W.mg_of X G aCSp, PySem.W.mg_of X G aCBr, NXCSp, NXCBr, kit_yes hdCN tyCN suCSp, kit_yes hdCN tyCN suCBr, kit_noC hdCBr tyCBr sSB ssCBr, kit_noC hdCSp tyCSp sBS ssCSp⟩
  have Fx17 := fd_mk (st := c_Node___init__) lx17 cx17 kx17
  have XICSp : FX l.prog w K mg base 2 fx17 fun ds _ => aNin C CSp ds := fnx_pos' Fx17 q_Node___init__ (fun _ _ _ _ _ _ us hl => match us, hl with | [_, _, _, _], _ => rfl) (fun ds M R h => by obtain ⟨p, S, h, m, M0, rfl, _⟩ := h; rfl) (b_ninit NXCSp NC NS NI)
  have XICBr : FX l.prog w K mg base 2 fx17 fun ds _ => aNin C CBr ds := fnx_pos' Fx17 q_Node___init__ (fun _ _ _ _ _ _ us hl => match us, hl with | [_, _, _, _], _ => rfl) (fun ds M R h => by obtain ⟨p, S, h, m, M0, rfl, _⟩ := h; rfl) (b_ninit NXCBr NC NS NI)
  have SUPCSp : Sup K l.prog fx18 cdax18 ccx18 CSp CSp fx17 "__init__" := ⟨⟨_, _, _, _, _, lx18, rfl, rfl⟩, ⟨_, _, _, _, _, _, dx18, vx18, wx18⟩, ⟨_, _, _, ex18⟩, ⟨_, cdCSp⟩, sbCSp, supt, supo, sux18__init__, tyx18__init__, fix18__init__⟩
  have XMCSp : FX l.prog w K mg base 3 fx18 fun ds _ => aSin C CSp ds := fnx_sup (F := nfN c_SpineNode___init__ "__init__" "SpineNode.__init__" ccx18 cdax18) rfl lx18 cx18 ex18 q_SpineNode___init__ (fun us hl => match us, hl with | [_, _, _], _ => rfl) (fun ds M R h => by obtain ⟨p, S, h, M0, rfl, _⟩ := h; rfl) (z_spine_init (PySem.W.mg_none_of X G z15) NXCSp SUPCSp XICSp)
  have SUPCBr : Sup K l.prog fx19 cdax19 ccx19 CBr CBr fx17 "__init__" := ⟨⟨_, _, _, _, _, lx19, rfl, rfl⟩, ⟨_, _, _, _, _, _, dx19, vx19, wx19⟩, ⟨_, _, _, ex19⟩, ⟨_, cdCBr⟩, sbCBr, supt, supo, sux19__init__, tyx19__init__, fix19__init__⟩
  have XMCBr : FX l.prog w K mg base 3 fx19 fun ds _ => aBin C CBr ds := fnx_sup (F := nfN c_BranchNode___init__ "__init__" "BranchNode.__init__" ccx19 cdax19) rfl lx19 cx19 ex19 q_BranchNode___init__ (fun us hl => match us, hl with | [_, _, _, _], _ => rfl) (fun ds M R h => by obtain ⟨p, S, h, m, M0, rfl, _⟩ := h; rfl) (z_branch_init (PySem.W.mg_none_of X G z15) NXCBr NI SUPCBr XICBr)
  have IM : NMk l.prog w K mg base C CSp CBr := ⟨⟨fx18, ⟨mkCSp, ax18, ix18, kcCSp⟩, XMCSp⟩, ⟨fx19, ⟨mkCBr, ax19, ix19, kcCBr⟩, XMCBr⟩⟩
  have Fx20 := fd_mk (st := c_Node_named) lx20 cx20 kx20
  have XNM : FX l.prog w K mg base 5 fx20 fun ds _ => aNmd C CSp CBr ds := fnx_pos' Fx20 q_Node_named (fun _ _ _ _ _ _ us hl => match us, hl with | [_, _, _], _ => rfl) (fun ds M R h => by obtain ⟨S, h, m, rfl, _⟩ := h; rfl) (b_named NT IM NI)
  have IN : NNm l.prog w K mg base C CN CSp CBr := ⟨⟨_, _, ⟨ax20, ⟨_, bx20⟩, kx20⟩, XNM⟩⟩
  have Fx21 := fd_mk (st := c_Node_schedule) lx21 cx21 kx21
  have YPSC : FX l.prog w K mg base 1 fx21 fun ds _ => aPsc C CSp CBr ds := fnx_pos' Fx21 q_Node_schedule (fun _ _ _ _ _ _ us hl => match us, hl with | [_], _ => rfl) (fun ds M R h => by obtain ⟨S, h, m, rfl, _⟩ := h; rfl) (b_nschedule (k := 0) NT)
  have PSC : NPr l.prog w K mg base CSp CBr "schedule" 1 (aPsc C CSp CBr) := ⟨⟨pNx21, fx21, ⟨ax21, gx21, tx21, _, bx21⟩, YPSC⟩, ⟨pNx21, fx21, ⟨ax21CBr, gx21, tx21, _, bx21⟩, YPSC⟩⟩
  have Fx22 := fd_mk (st := c_Node_height) lx22 cx22 kx22
  have YPHE : FX l.prog w K mg base 1 fx22 fun ds _ => aPhe C CSp CBr ds := fnx_pos' Fx22 q_Node_height (fun _ _ _ _ _ _ us hl => match us, hl with | [_], _ => rfl) (fun ds M R h => by obtain ⟨S, h, m, rfl, _⟩ := h; rfl) (b_nheight (k := 0) NT)
  have PHE : NPr l.prog w K mg base CSp CBr "height" 1 (aPhe C CSp CBr) := ⟨⟨pNx22, fx22, ⟨ax22, gx22, tx22, _, bx22⟩, YPHE⟩, ⟨pNx22, fx22, ⟨ax22CBr, gx22, tx22, _, bx22⟩, YPHE⟩⟩
  have Fx23 := fd_mk (st := c_Node_child) lx23 cx23 kx23
  have YXCHI : FX l.prog w K mg base 6 fx23 fun ds _ => aChi C CSp CBr ds := fnx_pos' Fx23 q_Node_child (fun _ _ _ _ _ _ us hl => match us, hl with | [_, _], _ => rfl) (fun ds M R h => by obtain ⟨S, h, m, c, rfl, _⟩ := h; rfl) (b_child T PA NT IN NI)
  have XCHI : NMt l.prog w K mg base CSp CBr "child" 6 (aChi C CSp CBr) := ⟨⟨fx23, ⟨ax23, ix23, kx23⟩, YXCHI⟩, ⟨fx23, ⟨ax23CBr, ix23, kx23⟩, YXCHI⟩⟩
  have Fx24 := fd_mk (st := c_Node_children) lx24 cx24 kx24
  have YXKID : FX l.prog w K mg base 7 fx24 fun ds _ => aKid C CSp CBr ds := fnx_pos' Fx24 q_Node_children (fun _ _ _ _ _ _ us hl => match us, hl with | [_], _ => rfl) (fun ds M R h => by obtain ⟨S, h, m, rfl, _⟩ := h; rfl) (b_children B T PA NT XCHI)
  have XKID : NMt l.prog w K mg base CSp CBr "children" 7 (aKid C CSp CBr) := ⟨⟨fx24, ⟨ax24, ix24, kx24⟩, YXKID⟩, ⟨fx24, ⟨ax24CBr, ix24, kx24⟩, YXKID⟩⟩
  have Fx25 := fd_mk (st := c_Node___eq__) lx25 cx25 kx25
  have XNE : FX l.prog w K mg base 2 fx25 fun ds _ => aNeq K C CN CSp CBr ds := fnx_pos' Fx25 q_Node___eq__ (fun _ _ _ _ _ _ us hl => match us, hl with | [_, _], _ => rfl) (fun ds M R h => by obtain ⟨S, h, m, d, rfl, _⟩ := h; rfl) (b_neq B NT OS)
  have NQ : NEq l.prog w K mg base C CN CSp CBr := ⟨⟨fx25, XNE, ax25, ix25, e6CSp, e7CSp⟩, ⟨fx25, XNE, ax25CBr, ix25, e6CBr, e7CBr⟩, nf_no sBS, nf_no sSB⟩
  have Fx26 := fd_mk (st := c_SpineNode___repr__) lx26 cx26 kx26
  have XRCSp : FX l.prog w K mg base 1 fx26 fun ds _ => aSrp C CSp CBr ds := fnx_pos' Fx26 q_SpineNode___repr__ (fun _ _ _ _ _ _ us hl => match us, hl with | [_], _ => rfl) (fun ds M R h => by obtain ⟨S, h, rfl, _⟩ := h; rfl) (b_spine_repr (k := 0) NT)
  have Fx27 := fd_mk (st := c_BranchNode___repr__) lx27 cx27 kx27
  have XRCBr : FX l.prog w K mg base 1 fx27 fun ds _ => aBrp C CSp CBr ds := fnx_pos' Fx27 q_BranchNode___repr__ (fun _ _ _ _ _ _ us hl => match us, hl with | [_], _ => rfl) (fun ds M R h => by obtain ⟨S, h, m, rfl, _⟩ := h; rfl) (b_branch_repr (k := 0) NT)
  have NR : NRp l.prog w K mg base C CSp CBr := ⟨⟨fx26, XRCSp, ax26, ix26⟩, ⟨fx27, XRCBr, ax27, ix27⟩⟩
  have Fx28 := fd_mk (st := s_path_inside) lx28 cx28 kx28
  have GPI : GPin l.prog w K mg base C := gd_pos Fx28 q_path_inside (fun _ _ _ _ _ _ us hl => match us, hl with | [_, _, _, _], _ => rfl) (fun ds M R h => by obtain ⟨S, a, n, c, rfl, _⟩ := h <;> rfl) (b_path_inside B T SM) (PySem.W.mg_of X G ax28)
  have Fx29 := fd_mk (st := s_path_of) lx29 cx29 kx29
  have GPO : GPth l.prog w K mg base C := gd_pos Fx29 q_path_of (fun _ _ _ _ _ _ us hl => match us, hl with | [_, _], _ => rfl) (fun ds M R h => by obtain ⟨S, n, rfl, _⟩ := h <;> rfl) (b_path_of B T SM PA GPI) (PySem.W.mg_of X G ax29)
  have Fx30 := fd_mk (st := c_Node_led) lx30 cx30 kx30
  have XLD : FX l.prog w K mg base 6 fx30 fun ds _ => aLed C CSp CBr ds := fnx_pos' Fx30 q_Node_led (fun _ _ _ _ _ _ us hl => match us, hl with | [_, _, _], _ => rfl) (fun ds M R h => by obtain ⟨S, st, x, rfl, _⟩ := h; rfl) (b_led B T PA NT IN)
  have LD : NLd l.prog w K mg base C CN CSp CBr := ⟨⟨_, _, ⟨ax30, ⟨_, bx30⟩, kx30⟩, XLD⟩⟩
  have Fx31 := fd_mk (st := c_Node_at) lx31 cx31 kx31
  have XAT : FX l.prog w K mg base 7 fx31 fun ds _ => aAt C CN CSp CBr ds := fnx_pos' Fx31 q_Node_at (fun _ _ _ _ _ _ us hl => match us, hl with | [_, _, _], _ => rfl) (fun ds M R h => by obtain ⟨S, n, rfl, _⟩ := h; rfl) (b_at NT NS NI GPO LD)
  have NAT : NAt l.prog w K mg base C CN CSp CBr := ⟨⟨pCx31, fx31, ⟨rCN, gCN⟩, ⟨ax31, ⟨_, bx31⟩, nx31⟩, XAT⟩⟩
  have Fx32 := fd_mk (st := s_label_path) lx32 cx32 kx32
  have GLP : GLpa l.prog w K mg base C := gd_pos Fx32 q_label_path (fun _ _ _ _ _ _ us hl => match us, hl with | [_, _], _ => rfl) (fun ds M R h => by obtain ⟨S, n, rfl, _⟩ := h <;> rfl) (b_label_path NS NI GPO) (PySem.W.mg_of X G ax32)
  have DG : DigK K := dig
  have XBScheduleError : XBase K mg "ScheduleError" "ValueError.__init__" := ⟨⟨BScheduleError, ⟨rBScheduleError, gBScheduleError⟩, vBScheduleError, PySem.W.mg_of X G aBScheduleError⟩, by decide +kernel⟩
  have Fx33 := fd_mk (st := c_InvalidCertificate___init__) lx33 cx33 kx33
  have TEInvalidCertificate : XCl K EInvalidCertificate "ValueError" "ValueError.__new__" "ValueError.__init__" [.type "ValueError", .type "Exception", .type "BaseException", .type "object"] := ⟨PySem.F.excBase_ValueError, PySem.F.store_ValueError, iEInvalidCertificate, oEInvalidCertificate, hEInvalidCertificate, sEInvalidCertificate, xEInvalidCertificate, tEInvalidCertificate, kEInvalidCertificate⟩
  have XKInvalidCertificate : XMk l.prog w K mg base "InvalidCertificate" EInvalidCertificate 1 (g1 "part") := ⟨⟨_, _, _, _, _, g1V "part", TEInvalidCertificate, ax33, tyEInvalidCertificate, xi_InvalidCertificate Fx33 TEInvalidCertificate XBScheduleError nEInvalidCertificate, PySem.W.mg_of X G aEInvalidCertificate, g1_rel⟩, by decide⟩
  have ECInvalidCertificate : L2.ExcC K EInvalidCertificate := ⟨gEInvalidCertificate, qEInvalidCertificate, xEInvalidCertificate, hEInvalidCertificate, cEInvalidCertificate, xo1, xo2, mEInvalidCertificate⟩
  have XFInvalidCertificate : XfC K EInvalidCertificate := ⟨gEInvalidCertificate, qEInvalidCertificate, xEInvalidCertificate, hEInvalidCertificate⟩
  have ITInvalidCertificate : PySem.W.kitOne K (.ref EInvalidCertificate) (.ref EInvalidCertificate) = some true := if_pos (by simp)
  have Fx34 := fd_mk (st := c_InvalidNumber___init__) lx34 cx34 kx34
  have TEInvalidNumber : XCl K EInvalidNumber "ValueError" "ValueError.__new__" "ValueError.__init__" [.type "ValueError", .type "Exception", .type "BaseException", .type "object"] := ⟨PySem.F.excBase_ValueError, PySem.F.store_ValueError, iEInvalidNumber, oEInvalidNumber, hEInvalidNumber, sEInvalidNumber, xEInvalidNumber, tEInvalidNumber, kEInvalidNumber⟩
  have XKInvalidNumber : XMk l.prog w K mg base "InvalidNumber" EInvalidNumber 1 (g1 "number") := ⟨⟨_, _, _, _, _, g1V "number", TEInvalidNumber, ax34, tyEInvalidNumber, xi_InvalidNumber Fx34 TEInvalidNumber XBScheduleError nEInvalidNumber, PySem.W.mg_of X G aEInvalidNumber, g1_rel⟩, by decide⟩
  have ECInvalidNumber : L2.ExcC K EInvalidNumber := ⟨gEInvalidNumber, qEInvalidNumber, xEInvalidNumber, hEInvalidNumber, cEInvalidNumber, xo1, xo2, mEInvalidNumber⟩
  have XFInvalidNumber : XfC K EInvalidNumber := ⟨gEInvalidNumber, qEInvalidNumber, xEInvalidNumber, hEInvalidNumber⟩
  have ITInvalidNumber : PySem.W.kitOne K (.ref EInvalidNumber) (.ref EInvalidNumber) = some true := if_pos (by simp)
  have Fx35 := fd_mk (st := c_InvalidSchedule___init__) lx35 cx35 kx35
  have TEInvalidSchedule : XCl K EInvalidSchedule "ValueError" "ValueError.__new__" "ValueError.__init__" [.type "ValueError", .type "Exception", .type "BaseException", .type "object"] := ⟨PySem.F.excBase_ValueError, PySem.F.store_ValueError, iEInvalidSchedule, oEInvalidSchedule, hEInvalidSchedule, sEInvalidSchedule, xEInvalidSchedule, tEInvalidSchedule, kEInvalidSchedule⟩
  have XKInvalidSchedule : XMk l.prog w K mg base "InvalidSchedule" EInvalidSchedule 1 (g1 "part") := ⟨⟨_, _, _, _, _, g1V "part", TEInvalidSchedule, ax35, tyEInvalidSchedule, xi_InvalidSchedule Fx35 TEInvalidSchedule XBScheduleError nEInvalidSchedule, PySem.W.mg_of X G aEInvalidSchedule, g1_rel⟩, by decide⟩
  have ECInvalidSchedule : L2.ExcC K EInvalidSchedule := ⟨gEInvalidSchedule, qEInvalidSchedule, xEInvalidSchedule, hEInvalidSchedule, cEInvalidSchedule, xo1, xo2, mEInvalidSchedule⟩
  have XFInvalidSchedule : XfC K EInvalidSchedule := ⟨gEInvalidSchedule, qEInvalidSchedule, xEInvalidSchedule, hEInvalidSchedule⟩
  have ITInvalidSchedule : PySem.W.kitOne K (.ref EInvalidSchedule) (.ref EInvalidSchedule) = some true := if_pos (by simp)
  have NIN : GInnN l.prog w K mg base := gd_pos Fx15 q_is_integer_nodes (fun _ _ _ _ _ _ us hl => match us, hl with | [_, _], _ => rfl) (fun ds M R h => by obtain ⟨d, lo, rfl, _⟩ := h; rfl) (b_innN (k := 0) B) (PySem.W.mg_of X G ax15)
  have Fx36 := fd_mk (st := s_is_equal) lx36 cx36 kx36
  have NIE : GIeq l.prog w K mg base := gd_pos Fx36 q_is_equal (fun _ _ _ _ _ _ us hl => match us, hl with | [_, _], _ => rfl) (fun ds M R h => by obtain ⟨d, n, rfl, _⟩ := h <;> rfl) (b_is_equal NI NIN) (PySem.W.mg_of X G ax36)
  have NSX : GNscX l.prog w K mg base C EInvalidSchedule := ⟨⟨fx16, fne_pos Fx16 q_need_schedule (fun _ _ _ _ _ _ us hl => match us, hl with | [_], _ => rfl) (fun ds M R PE h => by obtain ⟨d, rfl, _⟩ := h; rfl) (e_need_schedule B T XKInvalidSchedule), (PySem.W.mg_of X G ax16), kx16⟩⟩
  have LPX : GLpaX l.prog w K mg base C EInvalidSchedule EInvalidNumber := ⟨⟨fx32, fne_pos Fx32 q_label_path (fun _ _ _ _ _ _ us hl => match us, hl with | [_, _], _ => rfl) (fun ds M R PE h => by obtain ⟨d, l, rfl, _⟩ | ⟨S, l, rfl, _⟩ := h <;> rfl) (e_label_path NS NSX NI NIN XKInvalidNumber), (PySem.W.mg_of X G ax32), kx32⟩⟩
  have Fx37 := fd_mk (st := s_check_path) lx37 cx37 kx37
  have ECP := e_check_path (f := fx37) (CI := EInvalidCertificate) B (PySem.W.mg_none_of X G z14) NT LD GLP LPX NIE XKInvalidCertificate
  have GC : GCp l.prog w K mg base C EInvalidSchedule EInvalidNumber EInvalidCertificate (ndO C CSp CBr) := ⟨⟨⟨fx37, fne_pos Fx37 q_check_path (fun _ _ _ _ _ _ us hl => match us, hl with | [_, _, _], _ => rfl) (fun ds M R PE h => aCp_len h) ECP, (PySem.W.mg_of X G ax37), kx37⟩⟩,
    ⟨⟨fx37, fne_kwR (n := 0) (ks := ["path", "label", "schedule"]) Fx37 q_check_path (fun _ _ _ _ _ _ us ws h1 h2 => match us, ws, h1, h2 with | [], [_, _, _], _, _ => rfl) (fun ds M R PE h => aCp_len h) ECP, (PySem.W.mg_of X G ax37), kx37⟩⟩⟩
  have xmI : PySem.W.exmOne K (.ref EInvalidCertificate) (.ref BScheduleError) = some true := PySem.W.exm_ref sBScheduleError hBScheduleError tBScheduleError zEInvalidCertificateBScheduleError
  have xmN : PySem.W.exmOne K (.ref EInvalidNumber) (.ref BScheduleError) = some true := PySem.W.exm_ref sBScheduleError hBScheduleError tBScheduleError zEInvalidNumberBScheduleError
  have xmX : PySem.W.exmOne K (.ref EInvalidSchedule) (.ref BScheduleError) = some true := PySem.W.exm_ref sBScheduleError hBScheduleError tBScheduleError zEInvalidScheduleBScheduleError
  have XE : XO K mg EInvalidCertificate EInvalidNumber EInvalidSchedule BScheduleError := ⟨PySem.W.mg_of X G aBScheduleError, PySem.W.mg_of X G aEInvalidCertificate, PySem.W.mg_of X G aEInvalidNumber, PySem.W.mg_of X G aEInvalidSchedule, (PySem.W.mg_none_of X G z13), xmI, xmN, xmX, ECInvalidCertificate, ECInvalidNumber, ECInvalidSchedule, XFInvalidCertificate, XFInvalidNumber, XFInvalidSchedule, nEInvalidCertificate, nEInvalidNumber, nEInvalidSchedule, ITInvalidCertificate, kit_tyS (by decide +kernel) kve, kit_noC hEInvalidNumber tEInvalidNumber sfIN srN, kit_noC hEInvalidSchedule tEInvalidSchedule sfIX srX, kit_noC hEInvalidCertificate tEInvalidCertificate sfNI srI, ITInvalidNumber, kit_noC hEInvalidSchedule tEInvalidSchedule sfNX srX, kit_noC hEInvalidCertificate tEInvalidCertificate sfXI srI, kit_noC hEInvalidNumber tEInvalidNumber sfXN srN, ITInvalidSchedule⟩
  have Fx38 := fd_mk (st := s__law_outcome) lx38 cx38 kx38
  have LO : LOut l.prog w K mg base EInvalidCertificate EInvalidNumber EInvalidSchedule := LGd.mono (k := 1) ⟨⟨fx38, "_law_outcome", _, _, _, n__law_outcome, "_law_call", _, Fx38, q__law_outcome, .inl rfl, rfl, fun kV doc pm an cdv ct u => rfl, rfl, rfl, (PySem.W.mg_of X G ax38), kx38, b__law_outcome B XE⟩⟩ (by decide)
  have Fx39 := fd_mk (st := s__law_next) lx39 cx39 kx39
  have HN : GNx l.prog w K mg base := gd_pos Fx39 q__law_next (fun _ _ _ _ _ _ us hl => match us, hl with | [_, _], _ => rfl) (fun ds M R h => by obtain ⟨a, i, N, n, rfl, _⟩ := h <;> rfl) (b__law_next B) (PySem.W.mg_of X G ax39)
  have Fx40 := fd_mk (st := s__law_row) lx40 cx40 kx40
  have HR : GRow l.prog w K mg base := gd_pos Fx40 q__law_row (fun _ _ _ _ _ _ us hl => match us, hl with | [_, _], _ => rfl) (fun ds M R h => by obtain ⟨p, i, N, lo, rfl, _⟩ := h <;> rfl) (b__law_row B HN) (PySem.W.mg_of X G ax40)
  have Fx41 := fd_mk (st := s__law_streams) lx41 cx41 kx41
  have HS : GSts l.prog w K mg base := gd_pos Fx41 q__law_streams (fun _ _ _ _ _ _ us hl => match us, hl with | [_], _ => rfl) (fun ds M R h => by obtain ⟨ns, rfl, _⟩ := h <;> rfl) (b__law_streams B) (PySem.W.mg_of X G ax41)
  have Fx42 := fd_mk (st := s__law_plan) lx42 cx42 kx42
  have HP : GPlan l.prog w K mg base C := gd_pos Fx42 q__law_plan (fun _ _ _ _ _ _ us hl => match us, hl with | [_, _], _ => rfl) (fun ds M R h => by obtain ⟨p, i, N, mo, rfl, _⟩ := h <;> rfl) (b__law_plan T MK (nx3 HN) (row3 HR)) (PySem.W.mg_of X G ax42)
  have Fx43 := fd_mk (st := s__law_great) lx43 cx43 kx43
  have HG : GGrt l.prog w K mg base := gd_pos Fx43 q__law_great (fun _ _ _ _ _ _ us hl => match us, hl with | [_, _], _ => rfl) (fun ds M R h => by obtain ⟨p, i, N, mo, rfl, _⟩ := h <;> rfl) (b__law_great B (nx3 HN)) (PySem.W.mg_of X G ax43)
  have Fx44 := fd_mk (st := s__law_is_node) lx44 cx44 kx44
  have HI : GIsn l.prog w K mg base C CSp CBr := gd_pos Fx44 q__law_is_node (fun _ _ _ _ _ _ us hl => match us, hl with | [_, _, _], _ => rfl) (fun ds M R h => by obtain ⟨S, h, m, rfl, _⟩ := h <;> rfl) (b__law_is_node B (PySem.W.mg_none_of X G z12) NT PHE NR) (PySem.W.mg_of X G ax44)
  have Fx45 := fd_mk (st := s__law_due) lx45 cx45 kx45
  have HD : GDue l.prog w K mg base := gd_pos Fx45 q__law_due (fun _ _ _ _ _ _ us hl => match us, hl with | [_, _], _ => rfl) (fun ds M R h => by obtain ⟨d, st, x, r, rfl, _⟩ := h <;> rfl) (b__law_due B (PySem.W.mg_none_of X G z12) DG) (PySem.W.mg_of X G ax45)
  have Fx46 := fd_mk (st := s__law_spoiled) lx46 cx46 kx46
  have HSp : GSpo l.prog w K mg base := gd_pos Fx46 q__law_spoiled (fun _ _ _ _ _ _ us hl => match us, hl with | [_, _], _ => rfl) (fun ds M R h => by obtain ⟨p, i, N, st, x, r, rfl, _⟩ := h <;> rfl) (b__law_spoiled B (nx3 HN)) (PySem.W.mg_of X G ax46)
  have HRi : GRgh l.prog w K mg base C Ptx47 := ⟨⟨fx47, fnx_posT lx47 cx47 q__law_right (fun us hl => match us, hl with | [_, _, _], _ => rfl) (fun ds M R h => by obtain ⟨p, i, N, j, S, n, rfl, _⟩ := h; rfl) (b__law_right B (PySem.W.mg_none_of X G z12) DG NT NAT GLP GC HSp HD LO HI PHE TBx47), (PySem.W.mg_of X G ax47), kx47⟩⟩
  have NS_ : NoSub K C := ⟨hdC, tyC, nsn, nsi, nsb, nss, nst, nsl, nsd⟩
  have e := hfa.symm.trans (PySem.W.mg_of X G ax48)
  cases e
  exact fnx_posT (s0 := aLawN Ptx47 Ptx48) lx48 cx48 q_law (fun us hl => match us, hl with | [_], _ => rfl) (fun ds M R h => by obtain ⟨ns, rfl, _⟩ := h; rfl) (b_law B (PySem.W.mg_none_of X G z12) DG NS_ (gst3 HS) (nx3 HN) HP HG HRi GC LO TBx48)
end K14
/-! Ab113: the head by one kernel run, where tables of code objects are looked at as well -/
open PySem PySem.W PyProof.Rows in
set_option maxHeartbeats 0 in
theorem PySem.Challenge.cw_nestcount_k14_paths_judged_holds : PySem.Challenge.rw_nestcount_k14_paths_judged.Holds := by
  refine HDTOP ?_
  k_fill
  refine Ab.walk_xT (l := PySem.Challenge.rw_nestcount_k14_paths_judged) (k := 15) rfl rfl ⟨rfl, by decide, by decide⟩ (fun w h Y => PySem.W.km_in_of Y) ["_law_right", "law"] (by kernel_rfl) ?F
  case F =>
    intro w mg fa h KX G hmg own
    refine' K14.allX KX G hmg own ?u0 ?u1 ?u2 ?u3 ?aC ?pgC ?hdC ?poC ?saC ?mkC ?kcC ?nC0 ?nC1 ?nC2 ?e1C ?e2C ?e3C ?e4C ?e6C ?e7C ?ax1 ?lx1 ?cx1 ?kx1 ?d1 ?d2 ?ax2 ?lx2 ?cx2 ?kx2 ?dx2 ?ax3 ?lx3 ?cx3 ?kx3 ?ax4 ?lx4 ?cx4 ?kx4 ?ax5 ?lx5 ?cx5 ?kx5 ?ax6 ?lx6 ?cx6 ?kx6 ?rd ?ga ?ax7 ?bx7 ?lx7 ?cx7 ?kx7 ?ax8 ?ix8 ?lx8 ?cx8 ?kx8 ?ax9 ?ix9 ?lx9 ?cx9 ?kx9 ?ax10 ?ix10 ?lx10 ?cx10 ?kx10 ?ax11 ?ix11 ?lx11 ?cx11 ?kx11 ?ax12 ?gx12 ?tx12 ?bx12 ?lx12 ?cx12 ?kx12 ?ax13 ?gx13 ?tx13 ?bx13 ?lx13 ?cx13 ?kx13 ?ax14 ?gx14 ?tx14 ?bx14 ?lx14 ?cx14 ?kx14 ?aCN ?rCN ?gCN ?vCN ?ax15 ?lx15 ?cx15 ?kx15 ?ax16 ?lx16 ?cx16 ?kx16 ?aCSp ?pgCSp ?hdCSp ?poCSp ?saCSp ?mkCSp ?kcCSp ?nCSp0 ?nCSp1 ?nCSp2 ?e1CSp ?e2CSp ?e3CSp ?e4CSp ?e6CSp ?e7CSp ?tyCSp ?suCSp ?ssCSp ?aCBr ?pgCBr ?hdCBr ?poCBr ?saCBr ?mkCBr ?kcCBr ?nCBr0 ?nCBr1 ?nCBr2 ?e1CBr ?e2CBr ?e3CBr ?e4CBr ?e6CBr ?e7CBr ?tyCBr ?suCBr ?ssCBr ?hdCN ?tyCN ?ssCN ?sSB ?sBS ?ax17 ?ix17 ?lx17 ?cx17 ?kx17 ?ax18 ?ix18 ?lx18 ?cx18 ?kx18 ?ex18 ?dx18 ?vx18 ?wx18 ?supt ?supo ?cdCSp ?sbCSp ?sux18__init__ ?tyx18__init__ ?fix18__init__ ?ax19 ?ix19 ?lx19 ?cx19 ?kx19 ?ex19 ?dx19 ?vx19 ?wx19 ?cdCBr ?sbCBr ?sux19__init__ ?tyx19__init__ ?fix19__init__ ?ax20 ?bx20 ?lx20 ?cx20 ?kx20 ?ax21 ?gx21 ?tx21 ?bx21 ?lx21 ?cx21 ?kx21 ?ax21CBr ?ax22 ?gx22 ?tx22 ?bx22 ?lx22 ?cx22 ?kx22 ?ax22CBr ?ax23 ?ix23 ?lx23 ?cx23 ?kx23 ?ax23CBr ?ax24 ?ix24 ?lx24 ?cx24 ?kx24 ?ax24CBr ?ax25 ?ix25 ?lx25 ?cx25 ?kx25 ?ax25CBr ?ax26 ?ix26 ?lx26 ?cx26 ?kx26 ?ax27 ?ix27 ?lx27 ?cx27 ?kx27 ?ax28 ?lx28 ?cx28 ?kx28 ?ax29 ?lx29 ?cx29 ?kx29 ?ax30 ?bx30 ?lx30 ?cx30 ?kx30 ?ax31 ?bx31 ?lx31 ?cx31 ?kx31 ?nx31 ?ax32 ?lx32 ?cx32 ?kx32 ?dig ?aBScheduleError ?rBScheduleError ?gBScheduleError ?vBScheduleError ?sBScheduleError ?hBScheduleError ?tBScheduleError ?xo1 ?xo2 ?aEInvalidCertificate ?iEInvalidCertificate ?oEInvalidCertificate ?hEInvalidCertificate ?sEInvalidCertificate ?xEInvalidCertificate ?tEInvalidCertificate ?kEInvalidCertificate ?nEInvalidCertificate ?gEInvalidCertificate ?qEInvalidCertificate ?cEInvalidCertificate ?mEInvalidCertificate ?ax33 ?ix33 ?lx33 ?cx33 ?kx33 ?tyEInvalidCertificate ?aEInvalidNumber ?iEInvalidNumber ?oEInvalidNumber ?hEInvalidNumber ?sEInvalidNumber ?xEInvalidNumber ?tEInvalidNumber ?kEInvalidNumber ?nEInvalidNumber ?gEInvalidNumber ?qEInvalidNumber ?cEInvalidNumber ?mEInvalidNumber ?ax34 ?ix34 ?lx34 ?cx34 ?kx34 ?tyEInvalidNumber ?aEInvalidSchedule ?iEInvalidSchedule ?oEInvalidSchedule ?hEInvalidSchedule ?sEInvalidSchedule ?xEInvalidSchedule ?tEInvalidSchedule ?kEInvalidSchedule ?nEInvalidSchedule ?gEInvalidSchedule ?qEInvalidSchedule ?cEInvalidSchedule ?mEInvalidSchedule ?ax35 ?ix35 ?lx35 ?cx35 ?kx35 ?tyEInvalidSchedule ?ax36 ?lx36 ?cx36 ?kx36 ?ax37 ?lx37 ?cx37 ?kx37 ?zEInvalidCertificateBScheduleError ?zEInvalidNumberBScheduleError ?zEInvalidScheduleBScheduleError ?kve ?srI ?sfIN ?sfIX ?srN ?sfNI ?sfNX ?srX ?sfXI ?sfXN ?ax38 ?lx38 ?cx38 ?kx38 ?ax39 ?lx39 ?cx39 ?kx39 ?ax40 ?lx40 ?cx40 ?kx40 ?ax41 ?lx41 ?cx41 ?kx41 ?ax42 ?lx42 ?cx42 ?kx42 ?ax43 ?lx43 ?cx43 ?kx43 ?ax44 ?lx44 ?cx44 ?kx44 ?ax45 ?lx45 ?cx45 ?kx45 ?ax46 ?lx46 ?cx46 ?kx46 ?ax47 ?lx47 ?cx47 ?kx47 ?dx47 ?vx47 ?npx47 ?chx47 ?nsn ?nsi ?nsb ?nss ?nst ?nsl ?nsd ?tyC ?ax48 ?lx48 ?cx48 ?kx48 ?dx48 ?vx48 ?npx48 ?chx48 ?z0 ?z1 ?z2 ?z3 ?z4 ?z5 ?z6 ?z7 ?z8 ?z9 ?z10 ?z11 ?z12 ?z13 ?z14 ?z15 ?y1 ?y2 ?ndp
    (case u0 => k_is)
    (case u1 => k_is)
    (case u2 => k_is)
    (case u3 => k_is)
    (case aC => k_is)
    (case pgC => k_is)
    (case hdC => k_is)
    (case poC => k_is)
    (case saC => k_is)
    (case mkC => k_is)
    (case kcC => k_is)
    (case nC0 => k_is)
    (case nC1 => k_is)
    (case nC2 => k_is)
    (case e1C => k_is)
    (case e2C => k_is)
    (case e3C => k_is)
    (case e4C => k_is)
    (case e6C => k_is)
    (case e7C => k_is)
    (case ax1 => k_is)
    (case lx1 => k_is)
    (case cx1 => k_is)
    (case kx1 => k_is)
    (case d1 => k_is)
    (case d2 => k_is)
    (case ax2 => k_is)
    (case lx2 => k_is)
    (case cx2 => k_is)
    (case kx2 => k_is)
    (case dx2 => k_is)
    (case ax3 => k_is)
    (case lx3 => k_is)
    (case cx3 => k_is)
    (case kx3 => k_is)
    (case ax4 => k_is)
    (case lx4 => k_is)
    (case cx4 => k_is)
    (case kx4 => k_is)
    (case ax5 => k_is)
    (case lx5 => k_is)
    (case cx5 => k_is)
    (case kx5 => k_is)
    (case ax6 => k_is)
    (case lx6 => k_is)
    (case cx6 => k_is)
    (case kx6 => k_is)
    (case rd => k_is)
    (case ga => k_is)
    (case ax7 => k_is)
    (case bx7 => k_is)
    (case lx7 => k_is)
    (case cx7 => k_is)
    (case kx7 => k_is)
    (case ax8 => k_is)
    (case ix8 => k_is)
    (case lx8 => k_is)
    (case cx8 => k_is)
    (case kx8 => k_is)
    (case ax9 => k_is)
    (case ix9 => k_is)
    (case lx9 => k_is)
    (case cx9 => k_is)
    (case kx9 => k_is)
    (case ax10 => k_is)
    (case ix10 => k_is)
    (case lx10 => k_is)
    (case cx10 => k_is)
    (case kx10 => k_is)
    (case ax11 => k_is)
    (case ix11 => k_is)
    (case lx11 => k_is)
    (case cx11 => k_is)
    (case kx11 => k_is)
    (case ax12 => k_is)
    (case gx12 => k_is)
    (case tx12 => k_is)
    (case bx12 => k_is)
    (case lx12 => k_is)
    (case cx12 => k_is)
    (case kx12 => k_is)
    (case ax13 => k_is)
    (case gx13 => k_is)
    (case tx13 => k_is)
    (case bx13 => k_is)
    (case lx13 => k_is)
    (case cx13 => k_is)
    (case kx13 => k_is)
    (case ax14 => k_is)
    (case gx14 => k_is)
    (case tx14 => k_is)
    (case bx14 => k_is)
    (case lx14 => k_is)
    (case cx14 => k_is)
    (case kx14 => k_is)
    (case aCN => k_is)
    (case rCN => k_is)
    (case gCN => k_is)
    (case vCN => k_is)
    (case ax15 => k_is)
    (case lx15 => k_is)
    (case cx15 => k_is)
    (case kx15 => k_is)
    (case ax16 => k_is)
    (case lx16 => k_is)
    (case cx16 => k_is)
    (case kx16 => k_is)
    (case aCSp => k_is)
    (case pgCSp => k_is)
    (case hdCSp => k_is)
    (case poCSp => k_is)
    (case saCSp => k_is)
    (case mkCSp => k_is)
    (case kcCSp => k_is)
    (case nCSp0 => k_is)
    (case nCSp1 => k_is)
    (case nCSp2 => k_is)
    (case e1CSp => k_is)
    (case e2CSp => k_is)
    (case e3CSp => k_is)
    (case e4CSp => k_is)
    (case e6CSp => k_is)
    (case e7CSp => k_is)
    (case tyCSp => k_is)
    (case suCSp => k_is)
    (case ssCSp => k_is)
    (case aCBr => k_is)
    (case pgCBr => k_is)
    (case hdCBr => k_is)
    (case poCBr => k_is)
    (case saCBr => k_is)
    (case mkCBr => k_is)
    (case kcCBr => k_is)
    (case nCBr0 => k_is)
    (case nCBr1 => k_is)
    (case nCBr2 => k_is)
    (case e1CBr => k_is)
    (case e2CBr => k_is)
    (case e3CBr => k_is)
    (case e4CBr => k_is)
    (case e6CBr => k_is)
    (case e7CBr => k_is)
    (case tyCBr => k_is)
    (case suCBr => k_is)
    (case ssCBr => k_is)
    (case hdCN => k_is)
    (case tyCN => k_is)
    (case ssCN => k_is)
    (case sSB => k_is)
    (case sBS => k_is)
    (case ax17 => k_is)
    (case ix17 => k_is)
    (case lx17 => k_is)
    (case cx17 => k_is)
    (case kx17 => k_is)
    (case ax18 => k_is)
    (case ix18 => k_is)
    (case lx18 => k_is)
    (case cx18 => k_is)
    (case kx18 => k_is)
    (case ex18 => k_is)
    (case dx18 => k_is)
    (case vx18 => exact rfl)
    (case wx18 => first | rfl | decide +kernel)
    (case supt => decide +kernel)
    (case supo => k_is)
    (case cdCSp => k_is)
    (case sbCSp => k_is)
    (case sux18__init__ => ks_is)
    (case tyx18__init__ => k_is)
    (case fix18__init__ => k_is)
    (case ax19 => k_is)
    (case ix19 => k_is)
    (case lx19 => k_is)
    (case cx19 => k_is)
    (case kx19 => k_is)
    (case ex19 => k_is)
    (case dx19 => k_is)
    (case vx19 => exact rfl)
    (case wx19 => first | rfl | decide +kernel)
    (case cdCBr => k_is)
    (case sbCBr => k_is)
    (case sux19__init__ => ks_is)
    (case tyx19__init__ => k_is)
    (case fix19__init__ => k_is)
    (case ax20 => k_is)
    (case bx20 => k_is)
    (case lx20 => k_is)
    (case cx20 => k_is)
    (case kx20 => k_is)
    (case ax21 => k_is)
    (case gx21 => k_is)
    (case tx21 => k_is)
    (case bx21 => k_is)
    (case lx21 => k_is)
    (case cx21 => k_is)
    (case kx21 => k_is)
    (case ax21CBr => k_is)
    (case ax22 => k_is)
    (case gx22 => k_is)
    (case tx22 => k_is)
    (case bx22 => k_is)
    (case lx22 => k_is)
    (case cx22 => k_is)
    (case kx22 => k_is)
    (case ax22CBr => k_is)
    (case ax23 => k_is)
    (case ix23 => k_is)
    (case lx23 => k_is)
    (case cx23 => k_is)
    (case kx23 => k_is)
    (case ax23CBr => k_is)
    (case ax24 => k_is)
    (case ix24 => k_is)
    (case lx24 => k_is)
    (case cx24 => k_is)
    (case kx24 => k_is)
    (case ax24CBr => k_is)
    (case ax25 => k_is)
    (case ix25 => k_is)
    (case lx25 => k_is)
    (case cx25 => k_is)
    (case kx25 => k_is)
    (case ax25CBr => k_is)
    (case ax26 => k_is)
    (case ix26 => k_is)
    (case lx26 => k_is)
    (case cx26 => k_is)
    (case kx26 => k_is)
    (case ax27 => k_is)
    (case ix27 => k_is)
    (case lx27 => k_is)
    (case cx27 => k_is)
    (case kx27 => k_is)
    (case ax28 => k_is)
    (case lx28 => k_is)
    (case cx28 => k_is)
    (case kx28 => k_is)
    (case ax29 => k_is)
    (case lx29 => k_is)
    (case cx29 => k_is)
    (case kx29 => k_is)
    (case ax30 => k_is)
    (case bx30 => k_is)
    (case lx30 => k_is)
    (case cx30 => k_is)
    (case kx30 => k_is)
    (case ax31 => k_is)
    (case bx31 => k_is)
    (case lx31 => k_is)
    (case cx31 => k_is)
    (case kx31 => k_is)
    (case nx31 => k_is)
    (case ax32 => k_is)
    (case lx32 => k_is)
    (case cx32 => k_is)
    (case kx32 => k_is)
    (case dig => k_is)
    (case aBScheduleError => k_is)
    (case rBScheduleError => k_is)
    (case gBScheduleError => k_is)
    (case vBScheduleError => k_is)
    (case sBScheduleError => k_is)
    (case hBScheduleError => k_is)
    (case tBScheduleError => k_is)
    (case xo1 => k_is)
    (case xo2 => k_is)
    (case aEInvalidCertificate => k_is)
    (case iEInvalidCertificate => kx_is)
    (case oEInvalidCertificate => kx_is)
    (case hEInvalidCertificate => k_is)
    (case sEInvalidCertificate => k_is)
    (case xEInvalidCertificate => k_is)
    (case tEInvalidCertificate => k_is)
    (case kEInvalidCertificate => k_is)
    (case nEInvalidCertificate => k_is)
    (case gEInvalidCertificate => k_is)
    (case qEInvalidCertificate => k_is)
    (case cEInvalidCertificate => k_is)
    (case mEInvalidCertificate => k_is)
    (case ax33 => k_is)
    (case ix33 => k_is)
    (case lx33 => k_is)
    (case cx33 => k_is)
    (case kx33 => k_is)
    (case tyEInvalidCertificate => k_is)
    (case aEInvalidNumber => k_is)
    (case iEInvalidNumber => kx_is)
    (case oEInvalidNumber => kx_is)
    (case hEInvalidNumber => k_is)
    (case sEInvalidNumber => k_is)
    (case xEInvalidNumber => k_is)
    (case tEInvalidNumber => k_is)
    (case kEInvalidNumber => k_is)
    (case nEInvalidNumber => k_is)
    (case gEInvalidNumber => k_is)
    (case qEInvalidNumber => k_is)
    (case cEInvalidNumber => k_is)
    (case mEInvalidNumber => k_is)
    (case ax34 => k_is)
    (case ix34 => k_is)
    (case lx34 => k_is)
    (case cx34 => k_is)
    (case kx34 => k_is)
    (case tyEInvalidNumber => k_is)
    (case aEInvalidSchedule => k_is)
    (case iEInvalidSchedule => kx_is)
    (case oEInvalidSchedule => kx_is)
    (case hEInvalidSchedule => k_is)
    (case sEInvalidSchedule => k_is)
    (case xEInvalidSchedule => k_is)
    (case tEInvalidSchedule => k_is)
    (case kEInvalidSchedule => k_is)
    (case nEInvalidSchedule => k_is)
    (case gEInvalidSchedule => k_is)
    (case qEInvalidSchedule => k_is)
    (case cEInvalidSchedule => k_is)
    (case mEInvalidSchedule => k_is)
    (case ax35 => k_is)
    (case ix35 => k_is)
    (case lx35 => k_is)
    (case cx35 => k_is)
    (case kx35 => k_is)
    (case tyEInvalidSchedule => k_is)
    (case ax36 => k_is)
    (case lx36 => k_is)
    (case cx36 => k_is)
    (case kx36 => k_is)
    (case ax37 => k_is)
    (case lx37 => k_is)
    (case cx37 => k_is)
    (case kx37 => k_is)
    (case zEInvalidCertificateBScheduleError => k_is)
    (case zEInvalidNumberBScheduleError => k_is)
    (case zEInvalidScheduleBScheduleError => k_is)
    (case kve => k_is)
    (case srI => k_is)
    (case sfIN => k_is)
    (case sfIX => k_is)
    (case srN => k_is)
    (case sfNI => k_is)
    (case sfNX => k_is)
    (case srX => k_is)
    (case sfXI => k_is)
    (case sfXN => k_is)
    (case ax38 => k_is)
    (case lx38 => k_is)
    (case cx38 => k_is)
    (case kx38 => k_is)
    (case ax39 => k_is)
    (case lx39 => k_is)
    (case cx39 => k_is)
    (case kx39 => k_is)
    (case ax40 => k_is)
    (case lx40 => k_is)
    (case cx40 => k_is)
    (case kx40 => k_is)
    (case ax41 => k_is)
    (case lx41 => k_is)
    (case cx41 => k_is)
    (case kx41 => k_is)
    (case ax42 => k_is)
    (case lx42 => k_is)
    (case cx42 => k_is)
    (case kx42 => k_is)
    (case ax43 => k_is)
    (case lx43 => k_is)
    (case cx43 => k_is)
    (case kx43 => k_is)
    (case ax44 => k_is)
    (case lx44 => k_is)
    (case cx44 => k_is)
    (case kx44 => k_is)
    (case ax45 => k_is)
    (case lx45 => k_is)
    (case cx45 => k_is)
    (case kx45 => k_is)
    (case ax46 => k_is)
    (case lx46 => k_is)
    (case cx46 => k_is)
    (case kx46 => k_is)
    (case ax47 => k_is)
    (case lx47 => k_is)
    (case cx47 => k_is)
    (case kx47 => k_is)
    (case dx47 => k_is)
    (case vx47 => exact rfl)
    (case npx47 => first | kernel_rfl | exact rfl)
    (case chx47 => first | kernel_rfl | exact rfl)
    (case nsn => k_is)
    (case nsi => k_is)
    (case nsb => k_is)
    (case nss => k_is)
    (case nst => k_is)
    (case nsl => k_is)
    (case nsd => k_is)
    (case tyC => k_is)
    (case ax48 => k_is)
    (case lx48 => k_is)
    (case cx48 => k_is)
    (case kx48 => k_is)
    (case dx48 => k_is)
    (case vx48 => exact rfl)
    (case npx48 => first | kernel_rfl | exact rfl)
    (case chx48 => first | kernel_rfl | exact rfl)
    (case z0 => k_is)
    (case z1 => k_is)
    (case z2 => k_is)
    (case z3 => k_is)
    (case z4 => k_is)
    (case z5 => k_is)
    (case z6 => k_is)
    (case z7 => k_is)
    (case z8 => k_is)
    (case z9 => k_is)
    (case z10 => k_is)
    (case z11 => k_is)
    (case z12 => k_is)
    (case z13 => k_is)
    (case z14 => k_is)
    (case z15 => k_is)
    (case y1 => exact rfl)
    (case y2 => exact rfl)
    (case ndp => decide)
