import PyProof.Rows.All
import Wide.All
import OpenK.AllK
import Wide.FinOn
import HandS.ForMost
import HandS.Walk
import HandS.Flow
import HandS.Defaults
import HandS.Star
import HandS.MakeKwOnly
import HandS.Property
import HandS.ClsMeth
import HandS.IsInst
import HandS.TupAny
import HandS.SortInts
import HandS.Conv
import HandS.Exc
import HandS.Lambda
import KE.GoesEnum
import HandS.OwnEq
import PyProof.InstNe
import HandS.NoneIn
import HandS.TupMul
import HandS.Flt
import KE.DatumOrd
import HandS.NestedK
import HandS.GenCall
import PySem.Challenge.RW_nestcount_k54_whole_goals
import HandS.Wide
import HandS.WideBits
import HandS.Style
import HandS.Text
import HandS.Codes
import KE.KSuper
import HandS.ExcInit
import HandS.ExcField
import HandS.ExcOwn
import HandS.ExcValue
import KE.KExcInit
import KE.KTryMore
import HandS.TryMany
import KE.KExcIs
import HandS.ExcIs
import HandS.Zip
import KE.KStar
import HandS.MethStar
import HandS.GenBody
import HandS.GenYield
import HandS.GenList
import HandS.Iter
import KE.KParD
import HandS.DictComp
import HandS.ListItems
import KE.KIsAll
import HandS.Deep
import HandS.FStr
import KE.KCallOwn
import KE.KTupSum
import HandS.Call
import KE.KFmtOwn
import PyProof.InstSpecial
import HandS.List
import PyProof.EqAt
import KE.KBoundM
import KE.LtData
import KE.OsRunLaw
import KE.KNestM
import KE.KExcLine
set_option Elab.async false
set_option linter.all false
set_option maxRecDepth 100000
set_option maxHeartbeats 2000000
namespace HdCut
open HeadRun PySem PyProof.Rows PySem.W PySem.Calls
theorem mid3 {α β γ δ : Type} {o : Option α} {f : α → β} {g : α → γ} {h : α → δ} {x : β} {y : γ} {z : δ} (h2 : o.map g = some y) (h13 : o.map (fun s => (f s, h s)) = some (x, z)) : o.map (fun s => (f s, g s, h s)) = some (x, y, z) := by
  cases o with
  | none => cases h2
  | some s => cases h2; cases h13; rfl
theorem pair2 {α β γ : Type} {o : Option α} {f : α → β × γ} {x : β × γ} (h1 : o.map (fun s => (f s).1) = some x.1) (h2 : o.map (fun s => (f s).2) = some x.2) : o.map f = some x := by
  cases o with
  | none => cases h1
  | some s =>
    have e1 : (f s).1 = x.1 := Option.some.inj h1
    have e2 : (f s).2 = x.2 := Option.some.inj h2
    exact congrArg some (Prod.ext e1 e2)
noncomputable abbrev PP : Program := PySem.Challenge.rw_nestcount_k54_whole_goals.row.prog
noncomputable def qv : Program := { PP with main := { PP.main with body := [0, 2, 3, 4, 5, 6, 7, 8, 9, 10, 12, 13, 14, 15, 17, 19, 20, 21, 22, 23, 24, 25, 26, 27, 28, 29, 30, 32, 33, 35, 36, 37, 38, 39, 40, 41, 42, 43, 44, 46, 47, 50, 51, 52, 53, 54, 55, 57, 58, 59, 60, 61, 62, 63, 64, 65, 66, 67, 68, 69, 70, 71, 72, 73, 74, 75].map fun i => PP.main.body.getD i (.Pass ⟨0, 0, 0, 0⟩) } }
noncomputable def lo : List PySem.Str := ["is_integer_schedules", "check_integer", "Schedule", "Counter", "is_integer_nodes", "Node", "is_count", "Growth"]
noncomputable def fs (s : SharedT) := HeadRun.seenQ qv lo (importedModules PP.main.body) (fun s => xlAt qv [] s && recOk PySem.Challenge.rw_nestcount_k54_whole_goals.row.records s) s.abs
noncomputable abbrev rn (w : World) (os : OsState) : Option SharedT := endF (stepQ (denQ tabQ) PP w) 20576 PP w os

noncomputable def lsK {α : Type} (t : BT) : Nat → List Obj → (List Obj → α) → α
  | 0, acc, k => k acc
  | m + 1, acc, k => match (t.get m).getD default with
    | ⟨c, d, dt, sl⟩ => lsK t m (⟨c, d, dt, sl⟩ :: acc) k
theorem lsK_eq {α : Type} (t : BT) : ∀ (m : Nat) (acc : List Obj) (k : List Obj → α), lsK t m acc k = k ((List.range m).map (fun a => (t.get a).getD default) ++ acc)
  | 0, acc, k => rfl
  | m + 1, acc, k => by
    have e : lsK t (m + 1) acc k = lsK t m ((t.get m).getD default :: acc) k := rfl
    rw [e, lsK_eq t m, List.range_succ, List.map_append]
    simp
noncomputable def frAbs {α : Type} (s : SharedT) (k : Shared → α) : α := lsK s.tree s.n [] fun l => k ⟨⟨⟨l⟩, s.life⟩, s.gens, s.drawn, s.toks, s.os⟩
theorem frAbs_eq {α : Type} (s : SharedT) (k : Shared → α) : frAbs s k = k s.abs := by
  unfold frAbs
  rw [lsK_eq, List.append_nil]
  rfl
noncomputable def fa (a : Shared) := HeadRun.seenQ qv lo (importedModules PP.main.body) (fun s => xlAt qv [] s && recOk PySem.Challenge.rw_nestcount_k54_whole_goals.row.records s) a
theorem sk1 (w : World) (os : OsState) : (rn w os).map (fun s => frAbs s fun a => (fa a).2.1) = some (openGood qv lo).2.1 := by kernel_rfl
theorem sk2 (w : World) (os : OsState) : (rn w os).map (fun s => frAbs s fun a => (fa a).2.2.1) = some (openGood qv lo).2.2.1 := by kernel_rfl
theorem sk0 (w : World) (os : OsState) : (rn w os).map (fun s => frAbs s fun a => (fa a).1) = some (openGood qv lo).1 := by kernel_rfl
theorem sk3 (w : World) (os : OsState) : (rn w os).map (fun s => frAbs s fun a => (fa a).2.2.2.1) = some (openGood qv lo).2.2.2.1 := by kernel_rfl
theorem sk4 (w : World) (os : OsState) : (rn w os).map (fun s => frAbs s fun a => (fa a).2.2.2.2.1) = some (openGood qv lo).2.2.2.2.1 := by kernel_rfl
theorem sk5 (w : World) (os : OsState) : (rn w os).map (fun s => frAbs s fun a => (fa a).2.2.2.2.2) = some (openGood qv lo).2.2.2.2.2 := by kernel_rfl
theorem un {β : Type} {o : Option SharedT} {f : Shared → β} {x : β} (h : o.map (fun s => frAbs s f) = some x) : o.map (fun s => f s.abs) = some x := by
  simp only [frAbs_eq] at h
  exact h
theorem seenG {A1 A2 A3 A4 A5 A6 : Type} {o : Option SharedT} (F : Shared → A1 × A2 × A3 × A4 × A5 × A6) (X : A1 × A2 × A3 × A4 × A5 × A6) (h0 : o.map (fun s => frAbs s fun a => (F a).1) = some X.1) (h1 : o.map (fun s => frAbs s fun a => (F a).2.1) = some X.2.1) (h2 : o.map (fun s => frAbs s fun a => (F a).2.2.1) = some X.2.2.1)
    (h3 : o.map (fun s => frAbs s fun a => (F a).2.2.2.1) = some X.2.2.2.1) (h4 : o.map (fun s => frAbs s fun a => (F a).2.2.2.2.1) = some X.2.2.2.2.1) (h5 : o.map (fun s => frAbs s fun a => (F a).2.2.2.2.2) = some X.2.2.2.2.2) : o.map (fun s => F s.abs) = some X :=
  pair2 (f := fun s : SharedT => F s.abs) (un h0) (pair2 (f := fun s : SharedT => (F s.abs).2) (un h1) (pair2 (f := fun s : SharedT => (F s.abs).2.2) (un h2) (pair2 (f := fun s : SharedT => (F s.abs).2.2.2) (un h3) (pair2 (f := fun s : SharedT => (F s.abs).2.2.2.2) (un h4) (un h5)))))
theorem seen (w : World) (os : OsState) : (rn w os).map (fun s => fa s.abs) = some (openGood qv lo) :=
  seenG fa (openGood qv lo) (sk0 w os) (sk1 w os) (sk2 w os) (sk3 w os) (sk4 w os) (sk5 w os)
end HdCut
namespace Ab
open PySem PySem.W PySem.Calls PyProof.Rows HeadRun
end Ab
local macro_rules
  | `(tactic| o_head $H) => `(tactic| o_headL $H)
local macro_rules
  | `(tactic| refine $e) => match e with
    | `($f:ident (q := $q) (loose := $l) (Xt := $x) (XP := $xp) (Yf := $yf) (Ya := $ya) (YP := $yp) (N := $n) ?hl $r*) => if f.getId.eraseMacroScopes == `PySem.W.holds_open || f.getId.eraseMacroScopes == `PySem.W.holds_openC || f.getId.eraseMacroScopes == `holds_open || f.getId.eraseMacroScopes == `holds_openC then
        `(tactic| refine $f (q := $q) (loose := $l) (Xt := $x) (XP := $xp) (Yf := $yf) (Ya := $ya) (YP := $yp) (N := $n) (by refine HeadRun.left_oneK (M := $n) (by kernel_rfl) (by rfl) (fun s => by kernel_rfl) (by rfl) (by intro w os; exact HdCut.mid3 (Eq.trans (by kernel_rfl) (Eq.trans (HdCut.seen w os) (by kernel_rfl))) (by kernel_rfl))) $r*)
        else Lean.Macro.throwUnsupported
    | _ => Lean.Macro.throwUnsupported
open PySem PySem.W PyProof.Rows in
set_option maxHeartbeats 0 in
open_top HDTOP for PySem.Challenge.rw_nestcount_k54_whole_goals
/-! Ab: an abstract state over HandS: values without addresses, a list of cells that may change; no heap is seen by a def's proof. -/
namespace Ab
open PySem PySem.Spec PyProof.Rows L2
/-- the object at b, as it stands -/
def rawH (b : Addr) (o : Obj) : HO := .ext fun h => h.get? b = some o
/-- all but raw things -/
def Kp (H H' : Hp) : Prop := ∀ b x, H b = some x → (∀ o, x ≠ rawH b o) → H' b = some x
theorem Kp.refl (H : Hp) : Kp H H := fun _ _ e _ => e
theorem Kp.same {H H' : Hp} (e : Same H H') : Kp H H' := fun b x h _ => e b x h
theorem Kp.trans {H H1 H2 : Hp} (a : Kp H H1) (b : Kp H1 H2) : Kp H H2 := fun c x h n => b c x (a c x h n) n
inductive Val where
  | non | bl (b : Bool) | int (i : Int) | str (x : Str) | ty (n : String) | ptr (a : Addr)
  | lst (xs : List Val) | tup (xs : List Val)
  | obj (C : Addr) (fs : List (Str × Val))
  | exc (C : Addr) (fs : List (Str × Val))
  /-- a lambda; what stood when it was made -/
  | lam (a : Addr) (H1 : Hp)
/-- a caught exception of the class at C, its dict -/
def exH (a C : Addr) (d : Option Addr) : HO := .ext fun h => ∃ (oe : Obj) (vs : Array Value), h.get? a = some oe ∧ Zc (.ref C) d oe ∧ oe.data = .fields vs
mutual
inductive Rep (K : PySem.W.Frag) (H : Hp) : Val → V → Prop
  | non : Rep K H .non .non
  | bl (b : Bool) : Rep K H (.bl b) (.bl b)
  | int (i : Int) : Rep K H (.int i) (.int i)
  | str (x : Str) : Rep K H (.str x) (.str x)
  | ty (n : String) : Rep K H (.ty n) (.ty n)
  | ptr (a : Addr) : Rep K H (.ptr a) (.ref a)
  | lst {a : Addr} {xs : List V} {ds : List Val} : SqL K H a xs → RepA K H ds xs → Rep K H (.lst ds) (.ref a)
  | tup {a : Addr} {xs : List V} {ds : List Val} : SqT K H a xs → RepA K H ds xs → Rep K H (.tup ds) (.ref a)
  | obj {a C dx : Addr} {gs : List (Str × V)} {fs : List (Str × Val)} : H a = some (.ins C dx gs) → RepF K H fs gs → Rep K H (.obj C fs) (.ref a)
  | exc {a C dd : Addr} {gs : List (Str × V)} {fs : List (Str × Val)} : H a = some (exH a C (some dd)) → H dd = some (.xd gs) → RepF K H fs gs → Rep K H (.exc C fs) (.ref a)
  | exc0 {a C : Addr} : H a = some (exH a C none) → Rep K H (.exc C []) (.ref a)
  | lam {a : Addr} {H1 : Hp} : Kp H1 H → Rep K H (.lam a H1) (.ref a)
inductive RepA (K : PySem.W.Frag) (H : Hp) : List Val → List V → Prop
  | nil : RepA K H [] []
  | cons {d : Val} {v : V} {ds : List Val} {vs : List V} : Rep K H d v → RepA K H ds vs → RepA K H (d :: ds) (v :: vs)
inductive RepF (K : PySem.W.Frag) (H : Hp) : List (Str × Val) → List (Str × V) → Prop
  | nil : RepF K H [] []
  | cons {f : Str} {d : Val} {v : V} {fs : List (Str × Val)} {gs : List (Str × V)} : Rep K H d v → RepF K H fs gs → RepF K H ((f, d) :: fs) ((f, v) :: gs)
end
theorem sameT {K : PySem.W.Frag} {H H' : Hp} {a : Addr} {xs : List V} (e : Same H H') (h : SqT K H a xs) : SqT K H' a xs := by
  rcases h with (h | ⟨o, h⟩) | h
  · exact .inl (.inl (e _ _ h))
  · exact .inl (.inr ⟨o, e _ _ h⟩)
  · exact .inr h
mutual
theorem Rep.mono {K : PySem.W.Frag} {H H' : Hp} (e : Same H H') : ∀ {d : Val} {v : V}, Rep K H d v → Rep K H' d v
  | _, _, .non => .non
  | _, _, .bl b => .bl b
  | _, _, .int i => .int i
  | _, _, .str x => .str x
  | _, _, .ty n => .ty n
  | _, _, .ptr a => .ptr a
  | _, _, .lst h r => .lst (e.seq h) (RepA.mono e r)
  | _, _, .tup h r => .tup (sameT e h) (RepA.mono e r)
  | _, _, .obj h r => .obj (e _ _ h) (RepF.mono e r)
  | _, _, .exc h d r => .exc (e _ _ h) (e _ _ d) (RepF.mono e r)
  | _, _, .exc0 h => .exc0 (e _ _ h)
  | _, _, .lam h => .lam (h.trans (.same e))
theorem RepA.mono {K : PySem.W.Frag} {H H' : Hp} (e : Same H H') : ∀ {ds : List Val} {vs : List V}, RepA K H ds vs → RepA K H' ds vs
  | _, _, .nil => .nil
  | _, _, .cons a r => .cons (Rep.mono e a) (RepA.mono e r)
theorem RepF.mono {K : PySem.W.Frag} {H H' : Hp} (e : Same H H') : ∀ {ds : List (Str × Val)} {vs : List (Str × V)}, RepF K H ds vs → RepF K H' ds vs
  | _, _, .nil => .nil
  | _, _, .cons a r => .cons (Rep.mono e a) (RepF.mono e r)
end
/-- fields, stored -/
def putV (f : Str) (v : Val) : List (Str × Val) → List (Str × Val)
  | [] => [(f, v)]
  | (g, x) :: r => if g = f then (g, v) :: r else (g, x) :: putV f v r
theorem RepF.lookup {K : PySem.W.Frag} {H : Hp} {f : Str} {d : Val} : ∀ {fs : List (Str × Val)} {gs : List (Str × V)}, RepF K H fs gs → fs.lookup f = some d → ∃ v, gs.lookup f = some v ∧ Rep K H d v
  | _, _, .nil, e => by cases e
  | (g, x) :: fs, _, .cons (v := v) (gs := gs) a r, e => by
    rw [List.lookup_cons] at e ⊢
    cases q : f == g with
    | true =>
      rw [q] at e
      cases e
      exact ⟨v, rfl, a⟩
    | false =>
      rw [q] at e
      exact RepF.lookup r e
theorem RepF.none {K : PySem.W.Frag} {H : Hp} {f : Str} : ∀ {fs : List (Str × Val)} {gs : List (Str × V)}, RepF K H fs gs → fs.lookup f = none → gs.lookup f = none
  | _, _, .nil, _ => rfl
  | (g, x) :: fs, _, .cons (v := v) (gs := gs) a r, e => by
    rw [List.lookup_cons] at e ⊢
    cases q : f == g with
    | true =>
      rw [q] at e
      cases e
    | false =>
      rw [q] at e
      exact RepF.none r e
theorem RepF.put {K : PySem.W.Frag} {H : Hp} {f : Str} {d : Val} {v : V} (hd : Rep K H d v) : ∀ {fs : List (Str × Val)} {gs : List (Str × V)}, RepF K H fs gs → RepF K H (putV f d fs) (putF f v gs)
  | _, _, .nil => .cons hd .nil
  | (g, x) :: fs, _, .cons (v := w) (gs := gs) a r => by
    unfold putV putF
    by_cases q : g = f
    · rw [if_pos q, if_pos q]
      exact .cons hd r
    · rw [if_neg q, if_neg q]
      exact .cons a (RepF.put hd r)
theorem RepF.length {K : PySem.W.Frag} {H : Hp} : ∀ {fs : List (Str × Val)} {gs : List (Str × V)}, RepF K H fs gs → fs.length = gs.length
  | _, _, .nil => rfl
  | _, _, .cons _ r => congrArg Nat.succ (RepF.length r)
/-- a dict's pairs -/
inductive RepK (K : PySem.W.Frag) (H : Hp) : List (Key × Val) → List (Key × V) → Prop
  | nil : RepK K H [] []
  | cons {f : Key} {d : Val} {v : V} {fs : List (Key × Val)} {gs : List (Key × V)} : Rep K H d v → RepK K H fs gs → RepK K H ((f, d) :: fs) ((f, v) :: gs)
theorem RepK.mono {K : PySem.W.Frag} {H H' : Hp} (e : Same H H') : ∀ {ds : List (Key × Val)} {vs : List (Key × V)}, RepK K H ds vs → RepK K H' ds vs
  | _, _, .nil => .nil
  | _, _, .cons a r => .cons (Rep.mono e a) (RepK.mono e r)
theorem RepK.length {K : PySem.W.Frag} {H : Hp} : ∀ {fs : List (Key × Val)} {gs : List (Key × V)}, RepK K H fs gs → fs.length = gs.length
  | _, _, .nil => rfl
  | _, _, .cons _ r => congrArg Nat.succ (RepK.length r)
def dGet : List (Key × Val) → Key → Option Val
  | [], _ => none
  | (g, x) :: r, k => if g = k then some x else dGet r k
def dPut (kvs : List (Key × Val)) (k : Key) (v : Val) : List (Key × Val) :=
  if (kvs.any fun kv => decide (kv.1 = k)) = true then kvs.map (fun kv => if kv.1 = k then (kv.1, v) else kv) else kvs ++ [(k, v)]
theorem RepK.any {K : PySem.W.Frag} {H : Hp} {k : Key} : ∀ {fs : List (Key × Val)} {gs : List (Key × V)}, RepK K H fs gs → (fs.any fun kv => decide (kv.1 = k)) = (gs.any fun kv => decide (kv.1 = k))
  | _, _, .nil => rfl
  | _, _, .cons a r => by
    rw [List.any_cons, List.any_cons, RepK.any r]
theorem RepK.maps {K : PySem.W.Frag} {H : Hp} {k : Key} {d : Val} {v : V} (hd : Rep K H d v) : ∀ {fs : List (Key × Val)} {gs : List (Key × V)}, RepK K H fs gs → RepK K H (fs.map (fun kv => if kv.1 = k then (kv.1, d) else kv)) (gs.map (fun kv => if kv.1 = k then (kv.1, v) else kv))
  | _, _, .nil => .nil
  | (g, x) :: _, _, .cons (v := w) a r => by
    rw [List.map_cons, List.map_cons]
    by_cases q : g = k
    · rw [if_pos q, if_pos q]
      exact .cons hd (RepK.maps hd r)
    · rw [if_neg q, if_neg q]
      exact .cons a (RepK.maps hd r)
theorem RepK.append {K : PySem.W.Frag} {H : Hp} : ∀ {fs fs' : List (Key × Val)} {gs gs' : List (Key × V)}, RepK K H fs gs → RepK K H fs' gs' → RepK K H (fs ++ fs') (gs ++ gs')
  | _, _, _, _, .nil, r => r
  | _, _, _, _, .cons a r, q => .cons a (RepK.append r q)
theorem RepK.put {K : PySem.W.Frag} {H : Hp} {k : Key} {d : Val} {v : V} (hd : Rep K H d v) {fs : List (Key × Val)} {gs : List (Key × V)} (r : RepK K H fs gs) : RepK K H (dPut fs k d) (putK gs k v) := by
  unfold dPut putK
  rw [r.any]
  by_cases q : (gs.any fun kv => decide (kv.1 = k)) = true
  · rw [if_pos q, if_pos q]
    exact r.maps hd
  · rw [if_neg q, if_neg q]
    exact r.append (.cons hd .nil)
theorem RepK.get {K : PySem.W.Frag} {H : Hp} {k : Key} {d : Val} : ∀ {fs : List (Key × Val)} {gs : List (Key × V)}, RepK K H fs gs → dGet fs k = some d → ∃ v, valV gs k = some v ∧ Rep K H d v
  | _, _, .nil, e => by cases e
  | (g, x) :: fs, _, .cons (v := v) (gs := gs) a r, e => by
    unfold dGet at e
    by_cases q : g = k
    · rw [if_pos q] at e
      cases e
      exact ⟨v, valV_pos q, a⟩
    · rw [if_neg q] at e
      rw [valV_neg (p := (g, v)) q]
      exact RepK.get r e
theorem RepK.noKey {K : PySem.W.Frag} {H : Hp} {k : Key} : ∀ {fs : List (Key × Val)} {gs : List (Key × V)}, RepK K H fs gs → dGet fs k = none → valV gs k = none
  | _, _, .nil, _ => rfl
  | (g, x) :: fs, _, .cons (v := v) (gs := gs) a r, e => by
    unfold dGet at e
    by_cases q : g = k
    · rw [if_pos q] at e
      cases e
    · rw [if_neg q] at e
      rw [valV_neg (p := (g, v)) q]
      exact RepK.noKey r e
section
variable {K : PySem.W.Frag} {H H' : Hp}
theorem RepA.length : ∀ {ds : List Val} {vs : List V}, RepA K H ds vs → ds.length = vs.length
  | _, _, .nil => rfl
  | _, _, .cons _ r => congrArg Nat.succ (RepA.length r)
theorem RepA.get : ∀ {ds : List Val} {vs : List V} {i : Nat} {d : Val}, RepA K H ds vs → ds[i]? = some d → ∃ v, vs[i]? = some v ∧ Rep K H d v
  | _, _, _, _, .nil, e => by simp at e
  | _, _, 0, _, .cons r _, e => by simp at e; subst e; exact ⟨_, rfl, r⟩
  | _, _, i + 1, d, .cons _ t, e => by
    obtain ⟨u, h1, h2⟩ := RepA.get (i := i) (d := d) t (by simpa using e)
    exact ⟨u, by simpa using h1, h2⟩
theorem RepA.getV : ∀ {ds : List Val} {vs : List V} {i : Nat} {v : V}, RepA K H ds vs → vs[i]? = some v → ∃ d, ds[i]? = some d ∧ Rep K H d v
  | _, _, _, _, .nil, e => by simp at e
  | _, _, 0, _, .cons r _, e => by simp at e; subst e; exact ⟨_, rfl, r⟩
  | _, _, i + 1, d, .cons _ t, e => by
    obtain ⟨u, h1, h2⟩ := RepA.getV (i := i) (v := d) t (by simpa using e)
    exact ⟨u, by simpa using h1, h2⟩
theorem RepA.append : ∀ {ds es : List Val} {vs ws : List V}, RepA K H ds vs → RepA K H es ws → RepA K H (ds ++ es) (vs ++ ws)
  | _, _, _, _, .nil, s => s
  | _, _, _, _, .cons r t, s => .cons r (RepA.append t s)
theorem RepA.set {d : Val} {v : V} (r : Rep K H d v) : ∀ {ds : List Val} {vs : List V} (i : Nat), RepA K H ds vs → RepA K H (ds.set i d) (vs.set i v)
  | _, _, _, .nil => .nil
  | _, _, 0, .cons _ t => .cons r t
  | _, _, i + 1, .cons q t => .cons q (RepA.set r i t)
theorem RepA.take : ∀ {ds : List Val} {vs : List V} (n : Nat), RepA K H ds vs → RepA K H (ds.take n) (vs.take n)
  | _, _, 0, _ => .nil
  | _, _, _ + 1, .nil => .nil
  | _, _, n + 1, .cons r t => .cons r (RepA.take n t)
theorem RepA.drop : ∀ {ds : List Val} {vs : List V} (n : Nat), RepA K H ds vs → RepA K H (ds.drop n) (vs.drop n)
  | _, _, 0, r => r
  | _, _, _ + 1, .nil => .nil
  | _, _, n + 1, .cons _ t => RepA.drop n t
theorem RepA.ints : ∀ {ns : List Int} {vs : List V}, RepA K H (ns.map Val.int) vs → vs = ns.map V.int
  | [], _, .nil => rfl
  | _ :: ns, _, .cons (.int _) t => by rw [RepA.ints (ns := ns) t, List.map_cons]
theorem RepA.ofInts : ∀ (ns : List Int), RepA K H (ns.map Val.int) (ns.map V.int)
  | [] => .nil
  | n :: ns => .cons (.int n) (RepA.ofInts ns)
theorem RepA.bls : ∀ {ns : List Bool} {vs : List V}, RepA K H (ns.map Val.bl) vs → vs = ns.map V.bl
  | [], _, .nil => rfl
  | _ :: ns, _, .cons (.bl _) t => by rw [RepA.bls (ns := ns) t, List.map_cons]
end
/-! ### what may change -/
inductive Cell0 where
  | lst (xs : List Val)
  | dk (kvs : List (Key × Val))
  | ins (C : Addr) (fs : List (Str × Val))
  /-- a dict while it is known to the object (a loop walks it) -/
  | fz (od : Obj) (kvs : List (Key × V)) (ds : List (Key × Val))
  /-- a table of code objects, all of the name q -/
  | tb (q : Str)
abbrev Mem0 := List (Addr × Cell0)
/-- a cell, or a box: some cells of which only phi is told -/
inductive Cell where
  | b (c : Cell0)
  | box (φ : Mem0 → Prop)
abbrev Cell.lst (xs : List Val) : Cell := .b (.lst xs)
abbrev Cell.dk (kvs : List (Key × Val)) : Cell := .b (.dk kvs)
abbrev Cell.ins (C : Addr) (fs : List (Str × Val)) : Cell := .b (.ins C fs)
def RepC (K : PySem.W.Frag) (H : Hp) : Cell0 → HO → Prop
  | .lst ds, o => ∃ xs, o = .lst xs ∧ RepA K H ds xs
  | .dk ds, o => ∃ kvs : List (Key × V), o = .dK kvs ∧ RepK K H ds kvs
  | .ins C ds, o => ∃ dx fs, o = .ins C dx fs ∧ RepF K H ds fs
  | .fz od kvs ds, o => o = .frz od (.dK kvs) ∧ RepK K H ds kvs
  | .tb q, o => ∃ ps : Array Value, o = .tbl ps ∧ TriplesOk ps.toList ∧ ∀ (pos : Pos) (cv : Value), codeAmong pos ps.toList = some cv → ∃ c, cv = .ref c ∧ H c = some (LamX.CodeO c q)
theorem RepC.mono {K : PySem.W.Frag} {H H' : Hp} (e : Same H H') : ∀ {c : Cell0} {o : HO}, RepC K H c o → RepC K H' c o
  | .lst _, _, ⟨xs, h, r⟩ => ⟨xs, h, r.mono e⟩
  | .dk _, _, ⟨kvs, h, r⟩ => ⟨kvs, h, r.mono e⟩
  | .ins _ _, _, ⟨dx, fs, h, r⟩ => ⟨dx, fs, h, r.mono e⟩
  | .fz _ _ _, _, ⟨h, r⟩ => ⟨h, r.mono e⟩
  | .tb _, _, ⟨ps, h, t, r⟩ => ⟨ps, h, t, fun pos cv hc => let ⟨c, h1, h2⟩ := r pos cv hc; ⟨c, h1, e _ _ h2⟩⟩
abbrev Mem := List (Addr × Cell)
/-- Hi: what never changes; F: the cells -/
structure Ok0 (K : PySem.W.Frag) (Hi : Hp) (F : Mem0) (H : Hp) : Prop where
  im : Same Hi H
  ce : ∀ a c, (a, c) ∈ F → Hi a = none ∧ ∃ o, H a = some o ∧ RepC K Hi c o
  nd : (F.map (·.1)).Nodup
/-- the cells of an entry -/
def Opn (p : Addr) : Cell → Mem0 → Prop
  | .b c, B => B = [(p, c)]
  | .box φ, B => φ B ∧ p ∈ B.map (·.1)
inductive Flat : Mem → Mem0 → Prop
  | nil : Flat [] []
  | cons {p : Addr} {c : Cell} {M : Mem} {B F : Mem0} : Opn p c B → Flat M F → Flat ((p, c) :: M) (B ++ F)
def Ok (K : PySem.W.Frag) (Hi : Hp) (M : Mem) (H : Hp) : Prop := ∃ F, Flat M F ∧ Ok0 K Hi F H
theorem same_upd {H : Hp} {p : Addr} {o : HO} (h : H p = none) : Same H (upd H p o) := fun b x e => by
  rw [upd_ne (ne_of_none e h)]
  exact e
section
variable {K : PySem.W.Frag} {Hi Hi' H H' : Hp} {F F' : Mem0} {a p : Addr} {c c' : Cell0} {o : HO}
theorem Ok0.none (k : Ok0 K Hi F H) (h : H p = Option.none) : Hi p = Option.none := k.im.free h
theorem Ok0.notin (k : Ok0 K Hi F H) (h : H p = Option.none) : ∀ c, (p, c) ∉ F := fun c hm => by
  obtain ⟨_, o, e, _⟩ := k.ce p c hm
  rw [h] at e
  cases e
theorem Ok0.fresh (k : Ok0 K Hi F H) (h : H p = Option.none) : p ∉ F.map (·.1) := fun hm => by
  obtain ⟨⟨q, c⟩, h1, h2⟩ := List.mem_map.mp hm
  have e : q = p := h2
  subst e
  exact k.notin h c h1
theorem Ok0.imm (k : Ok0 K Hi F H) (h : H p = Option.none) : Ok0 K (upd Hi p o) F (upd H p o) where
  im := fun b x e => by
    by_cases hb : b = p
    · subst hb
      rw [upd_same] at e ⊢
      exact e
    · rw [upd_ne hb] at e ⊢
      exact k.im b x e
  ce := fun a c hm => by
    obtain ⟨e0, o', e, r⟩ := k.ce a c hm
    have hb : a ≠ p := fun z => k.notin h c (z ▸ hm)
    refine ⟨by rw [upd_ne hb]; exact e0, o', by rw [upd_ne hb]; exact e, r.mono (same_upd (k.none h))⟩
  nd := k.nd
theorem Ok0.new (k : Ok0 K Hi F H) (h : H p = Option.none) (r : RepC K Hi c o) : Ok0 K Hi ((p, c) :: F) (upd H p o) where
  im := fun b x e => by
    have hb : b ≠ p := fun z => by
      subst z
      rw [k.none h] at e
      cases e
    rw [upd_ne hb]
    exact k.im b x e
  ce := fun a c' hm => by
    rcases List.mem_cons.mp hm with e | hm
    · cases e
      exact ⟨k.none h, o, upd_same, r⟩
    · obtain ⟨e0, o', e, r'⟩ := k.ce a c' hm
      have hb : a ≠ p := fun z => k.notin h c' (z ▸ hm)
      exact ⟨e0, o', by rw [upd_ne hb]; exact e, r'⟩
  nd := by
    rw [List.map_cons]
    exact List.nodup_cons.mpr ⟨k.fresh h, k.nd⟩
theorem Ok0.perm (k : Ok0 K Hi F H) (s : F'.Perm F) : Ok0 K Hi F' H := ⟨k.im, fun a c h => k.ce a c (s.subset h), (s.map _).nodup_iff.mpr k.nd⟩
theorem Ok0.sub (k : Ok0 K Hi F H) (s : F'.Sublist F) : Ok0 K Hi F' H := ⟨k.im, fun a c h => k.ce a c (s.subset h), k.nd.sublist (s.map _)⟩
/-- the first cell is written -/
theorem Ok0.set (k : Ok0 K Hi ((a, c) :: F) H) (r : RepC K Hi c' o) : Ok0 K Hi ((a, c') :: F) (upd H a o) where
  im := fun b x e => by
    have hb : b ≠ a := fun z => by
      subst z
      rw [(k.ce b c List.mem_cons_self).1] at e
      cases e
    rw [upd_ne hb]
    exact k.im b x e
  ce := fun b d hm => by
    have nd := k.nd
    rw [List.map_cons] at nd
    rcases List.mem_cons.mp hm with e | hm2
    · cases e
      exact ⟨(k.ce a c List.mem_cons_self).1, o, upd_same, r⟩
    · have hb : b ≠ a := fun z => by
        subst z
        exact (List.nodup_cons.mp nd).1 (List.mem_map.mpr ⟨(b, d), hm2, rfl⟩)
      obtain ⟨e0, o', e, r'⟩ := k.ce b d (List.mem_cons_of_mem _ hm2)
      exact ⟨e0, o', by rw [upd_ne hb]; exact e, r'⟩
  nd := k.nd
/-- the first cell will change no more -/
theorem Ok0.freeze (k : Ok0 K Hi ((p, c) :: F) H) (h : H p = some o) : Ok0 K (upd Hi p o) F H where
  im := fun b x e => by
    by_cases hb : b = p
    · subst hb
      rw [upd_same] at e
      rw [h]
      exact e
    · rw [upd_ne hb] at e
      exact k.im b x e
  ce := fun a d hm => by
    obtain ⟨e0, o', e, r⟩ := k.ce a d (List.mem_cons_of_mem _ hm)
    have nd := k.nd
    rw [List.map_cons] at nd
    have hb : a ≠ p := fun z => by
      subst z
      exact (List.nodup_cons.mp nd).1 (List.mem_map.mpr ⟨(a, d), hm, rfl⟩)
    exact ⟨by rw [upd_ne hb]; exact e0, o', e, r.mono (same_upd (k.ce p c List.mem_cons_self).1)⟩
  nd := by
    have nd := k.nd
    rw [List.map_cons] at nd
    exact (List.nodup_cons.mp nd).2
end
theorem Flat.append : ∀ {M M' : Mem} {F F' : Mem0}, Flat M F → Flat M' F' → Flat (M ++ M') (F ++ F')
  | _, _, _, _, .nil, q => q
  | _, _, _, _, .cons (B := B) (F := F) o r, q => by
    rw [List.append_assoc]
    exact .cons o (r.append q)
theorem Flat.split : ∀ {M M' : Mem} {F : Mem0}, Flat (M ++ M') F → ∃ F1 F2, F = F1 ++ F2 ∧ Flat M F1 ∧ Flat M' F2
  | [], _, F, h => ⟨[], F, rfl, .nil, h⟩
  | (p, c) :: M, M', _, .cons (B := B) (F := F) o r => by
    obtain ⟨F1, F2, rfl, h1, h2⟩ := Flat.split r
    exact ⟨B ++ F1, F2, by rw [List.append_assoc], .cons o h1, h2⟩
theorem Flat.one {p : Addr} {c : Cell0} {M : Mem} {F : Mem0} (h : Flat M F) : Flat ((p, .b c) :: M) ((p, c) :: F) := .cons (B := [(p, c)]) rfl h
theorem Flat.mem {p : Addr} {c : Cell} : ∀ {M : Mem} {F : Mem0}, Flat M F → (p, c) ∈ M → ∃ B, Opn p c B ∧ B.Sublist F
  | _, _, .nil, h => nomatch h
  | _, _, .cons (B := B) (F := F) o r, h => by
    rcases List.mem_cons.mp h with e | h
    · cases e
      exact ⟨B, o, List.sublist_append_left _ _⟩
    · obtain ⟨B', h1, h2⟩ := r.mem h
      exact ⟨B', h1, h2.trans (List.sublist_append_right _ _)⟩
theorem Flat.perm {M M' : Mem} (s : M.Perm M') : ∀ {F : Mem0}, Flat M F → ∃ F', Flat M' F' ∧ F'.Perm F := by
  induction s with
  | nil => exact fun h => ⟨_, h, .refl _⟩
  | cons x _ ih =>
    intro F h
    cases h with
    | cons o r =>
      obtain ⟨F', h1, h2⟩ := ih r
      exact ⟨_, .cons o h1, h2.append_left _⟩
  | swap x y l =>
    intro F h
    cases h with
    | cons o r =>
      cases r with
      | cons o2 r2 =>
        refine ⟨_, .cons o2 (.cons o r2), ?_⟩
        rw [← List.append_assoc, ← List.append_assoc]
        exact List.perm_append_comm.append_right _
  | trans _ _ ih1 ih2 =>
    intro F h
    obtain ⟨F', h1, h2⟩ := ih1 h
    obtain ⟨F'', h3, h4⟩ := ih2 h1
    exact ⟨F'', h3, h4.trans h2⟩
theorem Flat.sub {M M' : Mem} (s : M'.Sublist M) : ∀ {F : Mem0}, Flat M F → ∃ F', Flat M' F' ∧ F'.Sublist F := by
  induction s with
  | slnil => exact fun h => ⟨_, h, .refl _⟩
  | cons x _ ih =>
    intro F h
    cases h with
    | cons o r =>
      obtain ⟨F', h1, h2⟩ := ih r
      exact ⟨F', h1, h2.trans (List.sublist_append_right _ _)⟩
  | cons_cons x _ ih =>
    intro F h
    cases h with
    | cons o r =>
      obtain ⟨F', h1, h2⟩ := ih r
      exact ⟨_, .cons o h1, (List.append_sublist_append_left _).mpr h2⟩
section
variable {K : PySem.W.Frag} {Hi Hi' H H' : Hp} {M M' : Mem} {a p : Addr} {c c' : Cell0} {x : Cell} {o : HO} {B : Mem0} {φ : Mem0 → Prop}
theorem Ok.im (k : Ok K Hi M H) : Same Hi H := by
  obtain ⟨F, _, k⟩ := k
  exact k.im
theorem Ok.ce (k : Ok K Hi M H) : ∀ a c, (a, Cell.b c) ∈ M → Hi a = none ∧ ∃ o, H a = some o ∧ RepC K Hi c o := fun a c h => by
  obtain ⟨F, f, k⟩ := k
  obtain ⟨B, h1, h2⟩ := f.mem h
  have h1 : B = [(a, c)] := h1
  subst h1
  exact k.ce a c (h2.subset List.mem_cons_self)
theorem Ok.none (k : Ok K Hi M H) (h : H p = Option.none) : Hi p = Option.none := k.im.free h
theorem Ok.notin (k : Ok K Hi M H) (h : H p = Option.none) : ∀ c, (p, c) ∉ M := fun c hm => by
  obtain ⟨F, f, k⟩ := k
  obtain ⟨B, h1, h2⟩ := f.mem hm
  have hp : p ∈ B.map (·.1) := by
    cases c with
    | b c =>
      have h1 : B = [(p, c)] := h1
      subst h1
      exact List.mem_cons_self
    | box φ => exact h1.2
  exact k.fresh h ((h2.map _).subset hp)
theorem Ok.fresh (k : Ok K Hi M H) (h : H p = Option.none) : p ∉ M.map (·.1) := fun hm => by
  obtain ⟨⟨q, c⟩, h1, h2⟩ := List.mem_map.mp hm
  have e : q = p := h2
  subst e
  exact k.notin h c h1
/-- a new object that never changes -/
theorem Ok.imm (k : Ok K Hi M H) (h : H p = Option.none) : Ok K (upd Hi p o) M (upd H p o) := by
  obtain ⟨F, f, k⟩ := k
  exact ⟨F, f, k.imm h⟩
/-- a new cell -/
theorem Ok.new (k : Ok K Hi M H) (h : H p = Option.none) (r : RepC K Hi c o) : Ok K Hi ((p, .b c) :: M) (upd H p o) := by
  obtain ⟨F, f, k⟩ := k
  exact ⟨_, f.one, k.new h r⟩
theorem Ok.get {i : Nat} (k : Ok K Hi M H) (h : M[i]? = some (a, .b c)) : Hi a = Option.none ∧ ∃ o, H a = some o ∧ RepC K Hi c o := k.ce a c (List.mem_of_getElem? h)
theorem Ok.perm (k : Ok K Hi M H) (s : M'.Perm M) : Ok K Hi M' H := by
  obtain ⟨F, f, k⟩ := k
  obtain ⟨F', f', q⟩ := f.perm s.symm
  exact ⟨F', f', k.perm q⟩
theorem Ok.sub (k : Ok K Hi M H) (s : M'.Sublist M) : Ok K Hi M' H := by
  obtain ⟨F, f, k⟩ := k
  obtain ⟨F', f', q⟩ := f.sub s
  exact ⟨F', f', k.sub q⟩
theorem perm_at {α : Type} {M : List α} {i : Nat} {x : α} (h : M[i]? = some x) : M.Perm (x :: M.eraseIdx i) := by
  induction M generalizing i with
  | nil => cases h
  | cons y M ih =>
    cases i with
    | zero =>
      cases h
      exact .refl _
    | succ i =>
      rw [List.eraseIdx_cons_succ]
      exact ((ih h).cons y).trans (.swap x y _)
theorem perm_set {α : Type} {M : List α} {i : Nat} {x y : α} (h : M[i]? = some x) : (M.set i y).Perm (y :: M.eraseIdx i) := by
  induction M generalizing i with
  | nil => cases h
  | cons z M ih =>
    cases i with
    | zero => exact .refl _
    | succ i =>
      rw [List.eraseIdx_cons_succ, List.set_cons_succ]
      exact ((ih h).cons z).trans (.swap y z _)
/-- a cell is written -/
theorem Ok.set {i : Nat} (k : Ok K Hi M H) (h : M[i]? = some (a, .b c)) (r : RepC K Hi c' o) : Ok K Hi (M.set i (a, .b c')) (upd H a o) := by
  obtain ⟨F, f, k⟩ := k.perm (perm_at h).symm
  refine Ok.perm ?_ (perm_set (y := (a, Cell.b c')) h)
  cases f with
  | cons o f =>
    have o : _ = [(a, c)] := o
    subst o
    exact ⟨_, f.one, Ok0.set k r⟩
/-- the first cell will change no more -/
theorem Ok.freeze (k : Ok K Hi ((p, .b c) :: M) H) (h : H p = some o) : Ok K (upd Hi p o) M H := by
  obtain ⟨F, f, k⟩ := k
  cases f with
  | cons q f =>
    have q : _ = [(p, c)] := q
    subst q
    exact ⟨_, f, Ok0.freeze k h⟩
theorem Ok.tail {c : Cell} (k : Ok K Hi ((p, c) :: M) H) : Ok K Hi M H := k.sub (List.sublist_cons_self _ _)
theorem Ok.all (H : Hp) : Ok K H [] H := ⟨[], .nil, Same.refl H, (fun _ _ h => nomatch h), List.nodup_nil⟩
/-- the cells of a list of cells -/
abbrev bs (B : Mem0) : Mem := B.map fun x => (x.1, Cell.b x.2)
theorem Flat.bs : ∀ B : Mem0, Flat (bs B) B
  | [] => .nil
  | (_, _) :: B => (Flat.bs B).one
theorem Flat.ofBs : ∀ {B F : Mem0}, Flat (Ab.bs B) F → F = B
  | [], _, .nil => rfl
  | (p, c) :: B, _, .cons o r => by
    have o : _ = [(p, c)] := o
    subst o
    rw [Flat.ofBs r]
    rfl
/-- a box is opened, closed -/
theorem Ok.opn {i : Nat} (k : Ok K Hi M H) (h : M[i]? = some (p, .box φ)) : ∃ B, φ B ∧ p ∈ B.map (·.1) ∧ Ok K Hi (bs B ++ M.eraseIdx i) H := by
  obtain ⟨F, f, k⟩ := k.perm (perm_at h).symm
  cases f with
  | cons o f => exact ⟨_, o.1, o.2, _, (Flat.bs _).append f, k⟩
theorem Ok.cls (k : Ok K Hi (bs B ++ M) H) (h : φ B) (hp : p ∈ B.map (·.1)) : Ok K Hi ((p, .box φ) :: M) H := by
  obtain ⟨F, f, k⟩ := k
  obtain ⟨F1, F2, rfl, h1, h2⟩ := f.split
  rw [Flat.ofBs h1] at k
  exact ⟨_, .cons (show Opn p (.box φ) B from ⟨h, hp⟩) h2, k⟩
theorem Ok.clsAt {i : Nat} (k : Ok K Hi (bs B ++ M.eraseIdx i) H) (hi : M[i]? = some (p, x)) (h : φ B) (hp : p ∈ B.map (·.1)) : Ok K Hi (M.set i (p, .box φ)) H :=
  (k.cls h hp).perm (perm_set hi)
end
/-! ### slots -/
abbrev Gam := List (Option Val)
def EnvR (K : PySem.W.Frag) (H : Hp) (Γ : Gam) (σ : L2.St) : Prop := Γ.length = σ.length ∧ ∀ (i : Nat) (d : Val), Γ[i]? = some (some d) → ∃ v, σ[i]? = some (some v) ∧ Rep K H d v
theorem EnvR.mono {K : PySem.W.Frag} {H H' : Hp} {Γ : Gam} {σ : L2.St} (h : EnvR K H Γ σ) (e : Same H H') : EnvR K H' Γ σ := ⟨h.1, fun i d q => by
  obtain ⟨v, h1, h2⟩ := h.2 i d q
  exact ⟨v, h1, h2.mono e⟩⟩
theorem EnvR.set {K : PySem.W.Frag} {H : Hp} {Γ : Gam} {σ : L2.St} {i : Nat} {d : Val} {v : V} (h : EnvR K H Γ σ) (r : Rep K H d v) : EnvR K H (Γ.set i (some d)) (σ.set i (some v)) := by
  refine ⟨by rw [List.length_set, List.length_set]; exact h.1, fun j e q => ?_⟩
  by_cases hij : i = j
  · subst hij
    by_cases hl : i < Γ.length
    · rw [List.getElem?_set_self hl] at q
      cases q
      exact ⟨v, List.getElem?_set_self (h.1 ▸ hl), r⟩
    · rw [List.getElem?_eq_none_iff.mpr (by rw [List.length_set]; omega)] at q
      cases q
  · rw [List.getElem?_set_ne hij] at q
    obtain ⟨w, h1, h2⟩ := h.2 j e q
    exact ⟨w, by rw [List.getElem?_set_ne hij]; exact h1, h2⟩
theorem EnvR.drop {K : PySem.W.Frag} {H : Hp} {Γ Γ' : Gam} {σ : L2.St} (h : EnvR K H Γ σ) (hl : Γ'.length = Γ.length) (w : ∀ (i : Nat) (d : Val), Γ'[i]? = some (some d) → Γ[i]? = some (some d)) : EnvR K H Γ' σ := ⟨hl.trans h.1, fun i d q => h.2 i d (w i d q)⟩
/-! ### the readings that always fit -/
def WE (X : Cx) (e : Expr) : TE := fun σ H Q => ∃ t, PE X e t ∧ t σ H Q
def WT (X : Cx) (e : Expr) : TT := fun σ H Q => ∃ t, PT X e t ∧ t σ H Q
def WA (X : Cx) (es : List Expr) : TA := fun σ H Q => ∃ t, PA X es t ∧ t σ H Q
def WS (X : Cx) (s : Stmt) : TS := fun D σ H => ∃ t, PS X s t ∧ t D σ H
def WB (X : Cx) (s : List Stmt) : TS := fun D σ H => ∃ t, PSs X s t ∧ t D σ H
section
variable {X : Cx}
theorem pe_we {e : Expr} : PE X e (WE X e) := ⟨fun pins s σ H Q I ⟨t, p, h⟩ => p.run pins s σ H Q I h⟩
theorem pt_wt {e : Expr} : PT X e (WT X e) := ⟨fun pins s σ H Q I ⟨t, p, h⟩ => p.run pins s σ H Q I h⟩
theorem pa_wa {es : List Expr} : PA X es (WA X es) := ⟨fun pos pins s σ H Q I ⟨t, p, h⟩ => p.run pos pins s σ H Q I h⟩
theorem ps_ws {s : Stmt} : PS X s (WS X s) := ⟨fun pins s σ H D I ⟨t, p, h⟩ => p.run pins s σ H D I h⟩
theorem pss_wb {s : List Stmt} : PSs X s (WB X s) := ⟨fun pins s σ H D I ⟨t, p, h⟩ => p.run pins s σ H D I h⟩
end
/-! ### the judgements: what a piece does to values and cells -/
def Post (K : PySem.W.Frag) (Hi : Hp) (P : Val → Mem → Prop) (Q : VK) : Prop := ∀ d M' v Hi' H', P d M' → Same Hi Hi' → Ok K Hi' M' H' → Rep K Hi' d v → Q v H'
def PostA (K : PySem.W.Frag) (Hi : Hp) (P : List Val → Mem → Prop) (Q : List V → Hp → Prop) : Prop := ∀ d M' v Hi' H', P d M' → Same Hi Hi' → Ok K Hi' M' H' → RepA K Hi' d v → Q v H'
def PostT (K : PySem.W.Frag) (Hi : Hp) (P : Bool → Mem → Prop) (Q : Bool → Hp → Prop) : Prop := ∀ b M' Hi' H', P b M' → Same Hi Hi' → Ok K Hi' M' H' → Q b H'
theorem Post.up {K : PySem.W.Frag} {Hi Hi1 : Hp} {P : Val → Mem → Prop} {Q : VK} (h : Post K Hi P Q) (e : Same Hi Hi1) : Post K Hi1 P Q := fun d M' v Hi' H' p s => h d M' v Hi' H' p (e.trans s)
theorem PostT.up {K : PySem.W.Frag} {Hi Hi1 : Hp} {P : Bool → Mem → Prop} {Q : Bool → Hp → Prop} (h : PostT K Hi P Q) (e : Same Hi Hi1) : PostT K Hi1 P Q := fun b M' Hi' H' p s => h b M' Hi' H' p (e.trans s)
theorem PostA.up {K : PySem.W.Frag} {Hi Hi1 : Hp} {P : List Val → Mem → Prop} {Q : List V → Hp → Prop} (h : PostA K Hi P Q) (e : Same Hi Hi1) : PostA K Hi1 P Q := fun d M' v Hi' H' p s => h d M' v Hi' H' p (e.trans s)
def aE (X : Cx) (e : Expr) (Γ : Gam) (M : Mem) (P : Val → Mem → Prop) : Prop := ∀ Hi H σ, Ok X.K Hi M H → EnvR X.K Hi Γ σ → ∀ Q : VK, Post X.K Hi P Q → WE X e σ H Q
def aT (X : Cx) (e : Expr) (Γ : Gam) (M : Mem) (P : Bool → Mem → Prop) : Prop := ∀ Hi H σ, Ok X.K Hi M H → EnvR X.K Hi Γ σ → ∀ Q, PostT X.K Hi P Q → WT X e σ H Q
def aA (X : Cx) (es : List Expr) (Γ : Gam) (M : Mem) (P : List Val → Mem → Prop) : Prop := ∀ Hi H σ, Ok X.K Hi M H → EnvR X.K Hi Γ σ → ∀ Q, PostA X.K Hi P Q → WA X es σ H Q
abbrev aV (X : Cx) (e : Expr) (Γ : Gam) (M : Mem) (d : Val) : Prop := aE X e Γ M fun x M' => x = d ∧ M' = M
abbrev aB (X : Cx) (e : Expr) (Γ : Gam) (M : Mem) (b : Bool) : Prop := aT X e Γ M fun x M' => x = b ∧ M' = M
abbrev aVs (X : Cx) (es : List Expr) (Γ : Gam) (M : Mem) (ds : List Val) : Prop := aA X es Γ M fun x M' => x = ds ∧ M' = M
/-- what is wanted behind a statement -/
structure AK where
  nx : Gam → Mem → Prop
  rt : Val → Mem → Prop
  bk : Gam → Mem → Prop := fun _ _ => False
  ct : Gam → Mem → Prop := fun _ _ => False
structure Real (K : PySem.W.Frag) (Hi : Hp) (k : AK) (D : Ends) : Prop where
  nx : ∀ Γ M σ Hi' H', k.nx Γ M → Same Hi Hi' → Ok K Hi' M H' → EnvR K Hi' Γ σ → D.nx σ H'
  rt : ∀ d M v Hi' H', k.rt d M → Same Hi Hi' → Ok K Hi' M H' → Rep K Hi' d v → D.rt v H'
  bk : ∀ Γ M σ Hi' H', k.bk Γ M → Same Hi Hi' → Ok K Hi' M H' → EnvR K Hi' Γ σ → D.bk σ H'
  ct : ∀ Γ M σ Hi' H', k.ct Γ M → Same Hi Hi' → Ok K Hi' M H' → EnvR K Hi' Γ σ → D.ct σ H'
theorem Real.up {K : PySem.W.Frag} {Hi Hi1 : Hp} {k : AK} {D : Ends} (h : Real K Hi k D) (e : Same Hi Hi1) : Real K Hi1 k D :=
  ⟨fun Γ M σ Hi' H' p s => h.nx Γ M σ Hi' H' p (e.trans s), fun d M v Hi' H' p s => h.rt d M v Hi' H' p (e.trans s), fun Γ M σ Hi' H' p s => h.bk Γ M σ Hi' H' p (e.trans s), fun Γ M σ Hi' H' p s => h.ct Γ M σ Hi' H' p (e.trans s)⟩
def aS (X : Cx) (s : Stmt) (Γ : Gam) (M : Mem) (k : AK) : Prop := ∀ Hi H σ, Ok X.K Hi M H → EnvR X.K Hi Γ σ → ∀ D, Real X.K Hi k D → WS X s D σ H
def aSs (X : Cx) (s : List Stmt) (Γ : Gam) (M : Mem) (k : AK) : Prop := ∀ Hi H σ, Ok X.K Hi M H → EnvR X.K Hi Γ σ → ∀ D, Real X.K Hi k D → WB X s D σ H
section
variable {X : Cx} {Γ : Gam} {M : Mem} {P : Val → Mem → Prop} {e a b c : Expr} {es : List Expr} {pos : Pos} {k : AK} {d d1 d2 : Val}
theorem aE.mono {P' : Val → Mem → Prop} (h : aE X e Γ M P) (f : ∀ d M', P d M' → P' d M') : aE X e Γ M P' := fun Hi H σ ok en Q q => h Hi H σ ok en Q fun d M' v Hi' H' p => q d M' v Hi' H' (f d M' p)
theorem aT.mono {P P' : Bool → Mem → Prop} (h : aT X e Γ M P) (f : ∀ d M', P d M' → P' d M') : aT X e Γ M P' := fun Hi H σ ok en Q q => h Hi H σ ok en Q fun d M' Hi' H' p => q d M' Hi' H' (f d M' p)
theorem aE.val (h : aV X e Γ M d) (p : P d M) : aE X e Γ M P := h.mono fun x M' q => by
  obtain ⟨h1, h2⟩ := q
  subst h1 h2
  exact p
theorem aT.val {P : Bool → Mem → Prop} {b : Bool} (h : aB X e Γ M b) (p : P b M) : aT X e Γ M P := h.mono fun x M' q => by
  obtain ⟨h1, h2⟩ := q
  subst h1 h2
  exact p
theorem aA.val {P : List Val → Mem → Prop} {ds : List Val} (h : aVs X es Γ M ds) (p : P ds M) : aA X es Γ M P := fun Hi H σ ok en Q q => h Hi H σ ok en Q fun d M' v Hi' H' r => by
  obtain ⟨h1, h2⟩ := r
  subst h1 h2
  exact q _ _ v Hi' H' p
/-- a constant -/
theorem ae_c {v : V} {d : Val} (hp : PE X e (tC v)) (r : ∀ K H, Rep K H d v) (h : P d M) : aE X e Γ M P := fun Hi H σ ok _ Q q => ⟨_, hp, q d M v Hi H h (Same.refl _) ok (r _ _)⟩
theorem ae_int {i : Int} {j} (h : P (.int i) M) : aE X (.Constant (.int i) j pos) Γ M P := ae_c pe_int (fun _ _ => .int i) h
theorem ae_bl {i : Bool} {j} (h : P (.bl i) M) : aE X (.Constant (.bool i) j pos) Γ M P := ae_c pe_bl (fun _ _ => .bl i) h
theorem ae_str {i : Str} {j} (h : P (.str i) M) : aE X (.Constant (.str i) j pos) Γ M P := ae_c pe_str (fun _ _ => .str i) h
theorem ae_non {j} (h : P .non M) : aE X (.Constant .none j pos) Γ M P := ae_c pe_non (fun _ _ => .non) h
/-- a name of the def -/
theorem ae_var {x : Str} (i : Nat) {d : Val} (hd : Γ[i]? = some (some d)) (h : P d M) (hN : X.N[i]? = some x := by rfl) (hv : Vis X.env.scope x := by first | exact Or.inl rfl | exact Or.inr (Or.inl rfl) | exact Or.inr (Or.inr rfl))
    (hdb : (x == ("__debug__" : Str)) = false := by decide) (hcd : (x == ("__classdict__" : Str)) = false := by decide) : aE X (.Name x pos) Γ M P := fun Hi H σ ok en Q q => by
  obtain ⟨v, h1, r⟩ := en.2 i d hd
  exact ⟨_, pe_var hN hv hdb hcd, v, h1, q d M v Hi H h (Same.refl _) ok r⟩
/-- a global of the module that is an address -/
theorem ae_glob {x : Str} {f : Addr} (hm : X.mg x = some (.ref f)) (h : P (.ptr f) M) (hg : Gl X x := by rfl) (hd : (x == ("__debug__" : Str)) = false := by decide) : aE X (.Name x pos) Γ M P :=
  ae_c (pe_glob (v := .ref f) hg hm rfl hd) (fun _ _ => .ptr f) h
/-- what an operation on values asks -/
def RV (X : Cx) (r : R2) (x y : Val) (M : Mem) (P : Val → Mem → Prop) : Prop := ∀ Hi H v w, Ok X.K Hi M H → Rep X.K Hi x v → Rep X.K Hi y w → ∀ Q, Post X.K Hi P Q → r v w H Q
theorem ae_op {op : Operator} {r : R2} (ho : OpR X (binaryOp op) r) (h : aE X a Γ M fun x M1 => aE X b Γ M1 fun y M2 => RV X r x y M2 P) : aE X (.BinOp a op b pos) Γ M P := fun Hi H σ ok en Q q => by
  refine ⟨_, pe_op ho pe_we pe_we, ?_⟩
  refine h Hi H σ ok en _ fun x M1 v Hi1 H1 h1 s1 ok1 r1 => ?_
  refine h1 Hi1 H1 σ ok1 (en.mono s1) _ fun y M2 w Hi2 H2 h2 s2 ok2 r2 => ?_
  exact h2 Hi2 H2 v w ok2 (r1.mono s2) r2 Q (q.up (s1.trans s2))
theorem rv_I0 {g : Int → Int → V} {f : Int → Int → Val} {i j : Int} (hr : ∀ K H, Rep K H (f i j) (g i j)) (h : P (f i j) M) : RV X (rI0 g) (.int i) (.int j) M P := fun Hi H v w ok rv rw_ Q q => by
  cases rv
  cases rw_
  exact ⟨i, j, rfl, rfl, q _ _ _ Hi H h (Same.refl _) ok (hr _ _)⟩
theorem rv_I {C : Int → Int → Prop} {g : Int → Int → V} {f : Int → Int → Val} {i j : Int} (hc : C i j) (hr : ∀ K H, Rep K H (f i j) (g i j)) (h : P (f i j) M) : RV X (rI C g) (.int i) (.int j) M P := fun Hi H v w ok rv rw_ Q q => by
  cases rv
  cases rw_
  exact ⟨i, j, rfl, rfl, hc, q _ _ _ Hi H h (Same.refl _) ok (hr _ _)⟩
theorem av_op {op : Operator} {r : R2} (ho : OpR X (binaryOp op) r) (ha : aV X a Γ M d1) (hb : aV X b Γ M d2) (hr : RV X r d1 d2 M P) : aE X (.BinOp a op b pos) Γ M P := ae_op ho (ha.val (hb.val hr))
variable {i j : Int}
theorem av_add (ha : aV X a Γ M (.int i)) (hb : aV X b Γ M (.int j)) : aV X (.BinOp a .Add b pos) Γ M (.int (i + j)) := av_op op_add ha hb (rv_I0 (f := fun i j => .int (i + j)) (fun _ _ => .int _) ⟨rfl, rfl⟩)
theorem av_sub (ha : aV X a Γ M (.int i)) (hb : aV X b Γ M (.int j)) : aV X (.BinOp a .Sub b pos) Γ M (.int (i - j)) := av_op op_sub ha hb (rv_I0 (f := fun i j => .int (i - j)) (fun _ _ => .int _) ⟨rfl, rfl⟩)
theorem av_mul (ha : aV X a Γ M (.int i)) (hb : aV X b Γ M (.int j)) (hc : CMul i j) : aV X (.BinOp a .Mult b pos) Γ M (.int (i * j)) := av_op op_mul ha hb (rv_I (f := fun i j => .int (i * j)) hc (fun _ _ => .int _) ⟨rfl, rfl⟩)
theorem av_mod (ha : aV X a Γ M (.int i)) (hb : aV X b Γ M (.int j)) (hc : 0 < j) : aV X (.BinOp a .Mod b pos) Γ M (.int (i % j)) := av_op op_mod ha hb (rv_I (f := fun i j => .int (i % j)) hc (fun _ _ => .int _) ⟨rfl, rfl⟩)
theorem av_fdiv (ha : aV X a Γ M (.int i)) (hb : aV X b Γ M (.int j)) (hc : CDiv i j) : aV X (.BinOp a .FloorDiv b pos) Γ M (.int (i / j)) := av_op op_fdiv ha hb (rv_I (f := fun i j => .int (i / j)) hc (fun _ _ => .int _) ⟨rfl, rfl⟩)
theorem av_pow (ha : aV X a Γ M (.int i)) (hb : aV X b Γ M (.int j)) (hc : CPow i j) : aV X (.BinOp a .Pow b pos) Γ M (.int (i ^ j.toNat)) := av_op op_pow ha hb (rv_I (f := fun i j => .int (i ^ j.toNat)) hc (fun _ _ => .int _) ⟨rfl, rfl⟩)
end
end Ab
namespace Ab
open PySem PySem.Spec PyProof.Rows L2
/-- a value as it may be read: itself, or the list that stands in its cell -/
inductive Vw (M : Mem) : Val → Val → Prop
  | self (d : Val) : Vw M d d
  | lst (i : Nat) {p : Addr} {xs : List Val} : M[i]? = some (p, .lst xs) → Vw M (.ptr p) (.lst xs)
theorem Vw.rep {K : PySem.W.Frag} {Hi H : Hp} {M : Mem} {d e : Val} {v : V} (h : Vw M d e) (ok : Ok K Hi M H) (r : Rep K Hi d v) : Rep K H e v := by
  cases h with
  | self => exact r.mono ok.im
  | lst i hm =>
    obtain ⟨_, o, ho, xs', rfl, ra⟩ := ok.get hm
    cases r
    exact .lst (SqL.of ho) (ra.mono ok.im)
mutual
def toD : Val → Option PyData
  | .non => some .none
  | .bl b => some (.bool b)
  | .int i => some (.int i)
  | .str x => some (.str x)
  | .lst xs => (toDs xs).map PyData.list
  | .tup xs => (toDs xs).map PyData.tuple
  | .ty _ => none
  | .ptr _ => none
  | .obj _ _ => none
  | .exc _ _ => none
  | .lam _ _ => none
def toDs : List Val → Option (List PyData)
  | [] => some []
  | x :: xs => (toD x).bind fun d => (toDs xs).map fun ds => d :: ds
end
mutual
theorem rep_dp {K : PySem.W.Frag} {H : Hp} : ∀ (x : Val) {v : V} {d : PyData}, Rep K H x v → toD x = some d → Dp K H v d
  | .non, _, _, .non, e => by cases e; exact .non
  | .bl b, _, _, .bl _, e => by cases e; exact .bl b
  | .int i, _, _, .int _, e => by cases e; exact .int i
  | .str x, _, _, .str _, e => by cases e; exact .str x
  | .lst xs, _, _, .lst h r, e => by
    unfold toD at e
    obtain ⟨ds, h1, rfl⟩ := Option.map_eq_some_iff.mp e
    exact .lst h (rep_dps xs r h1)
  | .tup xs, _, _, .tup h r, e => by
    unfold toD at e
    obtain ⟨ds, h1, rfl⟩ := Option.map_eq_some_iff.mp e
    exact .tup h (rep_dps xs r h1)
  | .ty _, _, _, _, e => by cases e
  | .ptr _, _, _, _, e => by cases e
  | .obj _ _, _, _, _, e => by cases e
  | .exc _ _, _, _, _, e => by cases e
  | .lam _ _, _, _, _, e => by cases e
theorem rep_dps {K : PySem.W.Frag} {H : Hp} : ∀ (xs : List Val) {vs : List V} {ds : List PyData}, RepA K H xs vs → toDs xs = some ds → DpAll K H vs ds
  | [], _, _, .nil, e => by cases e; exact .nil
  | x :: xs, _, _, .cons a r, e => by
    unfold toDs at e
    obtain ⟨d, h1, h2⟩ := Option.bind_eq_some_iff.mp e
    obtain ⟨ds, h3, rfl⟩ := Option.map_eq_some_iff.mp h2
    exact .cons (rep_dp x a h1) (rep_dps xs r h3)
end
section
variable {X : Cx} {Γ : Gam} {M : Mem} {P : Val → Mem → Prop} {e a b c : Expr} {es : List Expr} {pos : Pos} {k : AK} {d d1 d2 d3 : Val} {i j : Int}
/-! ### comparisons -/
def Cmp (X : Cx) (op : CmpOp) (M : Mem) (x y : Val) (b : Bool) : Prop := ∃ r, OpR X (compareOp op) r ∧ RV X r x y M fun z M' => z = .bl b ∧ M' = M
theorem cmp_lt : Cmp X .Lt M (.int i) (.int j) (decide (i < j)) := ⟨_, op_lt, rv_I0 (f := fun i j => .bl (decide (i < j))) (fun _ _ => .bl _) ⟨rfl, rfl⟩⟩
theorem cmp_le : Cmp X .LtE M (.int i) (.int j) (decide (i ≤ j)) := ⟨_, op_le, rv_I0 (f := fun i j => .bl (decide (i ≤ j))) (fun _ _ => .bl _) ⟨rfl, rfl⟩⟩
theorem cmp_gt : Cmp X .Gt M (.int i) (.int j) (decide (j < i)) := ⟨_, op_gt, rv_I0 (f := fun i j => .bl (decide (j < i))) (fun _ _ => .bl _) ⟨rfl, rfl⟩⟩
theorem cmp_ge : Cmp X .GtE M (.int i) (.int j) (decide (j ≤ i)) := ⟨_, op_ge, rv_I0 (f := fun i j => .bl (decide (j ≤ i))) (fun _ _ => .bl _) ⟨rfl, rfl⟩⟩
theorem cmp_eqI : Cmp X .Eq M (.int i) (.int j) (decide (i = j)) := ⟨_, op_eq, fun Hi H v w ok rv rw_ Q q => by
  cases rv
  cases rw_
  refine ⟨rfl, ?_⟩
  have e : decide (V.int i = V.int j) = decide (i = j) := by simp
  rw [e]
  exact q _ M _ Hi H ⟨rfl, rfl⟩ (Same.refl _) ok (.bl _)⟩
theorem cmp_neI : Cmp X .NotEq M (.int i) (.int j) (!decide (i = j)) := ⟨_, op_ne, fun Hi H v w ok rv rw_ Q q => by
  cases rv
  cases rw_
  refine ⟨rfl, ?_⟩
  have e : decide (V.int i = V.int j) = decide (i = j) := by simp
  rw [e]
  exact q _ M _ Hi H ⟨rfl, rfl⟩ (Same.refl _) ok (.bl _)⟩
theorem cmp_eqS {x y : Str} : Cmp X .Eq M (.str x) (.str y) (decide (x = y)) := ⟨_, op_eq, fun Hi H v w ok rv rw_ Q q => by
  cases rv
  cases rw_
  refine ⟨rfl, ?_⟩
  have e : decide (V.str x = V.str y) = decide (x = y) := by simp
  rw [e]
  exact q _ M _ Hi H ⟨rfl, rfl⟩ (Same.refl _) ok (.bl _)⟩
theorem cmp_neS {x y : Str} : Cmp X .NotEq M (.str x) (.str y) (!decide (x = y)) := ⟨_, op_ne, fun Hi H v w ok rv rw_ Q q => by
  cases rv
  cases rw_
  refine ⟨rfl, ?_⟩
  have e : decide (V.str x = V.str y) = decide (x = y) := by simp
  rw [e]
  exact q _ M _ Hi H ⟨rfl, rfl⟩ (Same.refl _) ok (.bl _)⟩
/-- data of any depth -/
theorem cmp_eqD {d1' d2' : Val} {p q : PyData} (v1 : Vw M d1 d1') (v2 : Vw M d2 d2') (h1 : toD d1' = some p) (h2 : toD d2' = some q) (s1 : SeqAt.shaped p = true) (s2 : SeqAt.shaped q = true) (hu : X.A.units + 64 < cLine) : Cmp X .Eq M d1 d2 (PyData.eqv p q) :=
  ⟨_, op_eqD hu, fun Hi H v w ok rv rw_ Q post => ⟨p, q, rep_dp _ (v1.rep ok rv) h1, rep_dp _ (v2.rep ok rw_) h2, s1, s2, post _ M _ Hi H ⟨rfl, rfl⟩ (Same.refl _) ok (.bl _)⟩⟩
theorem cmp_neD {d1' d2' : Val} {p q : PyData} (v1 : Vw M d1 d1') (v2 : Vw M d2 d2') (h1 : toD d1' = some p) (h2 : toD d2' = some q) (s1 : SeqAt.shaped p = true) (s2 : SeqAt.shaped q = true) (hu : X.A.units + 64 < cLine) : Cmp X .NotEq M d1 d2 (!PyData.eqv p q) :=
  ⟨_, op_neD hu, fun Hi H v w ok rv rw_ Q post => ⟨p, q, rep_dp _ (v1.rep ok rv) h1, rep_dp _ (v2.rep ok rw_) h2, s1, s2, post _ M _ Hi H ⟨rfl, rfl⟩ (Same.refl _) ok (.bl _)⟩⟩
def Val.isN : Val → Bool
  | .non => true
  | _ => false
theorem rep_isN {K : PySem.W.Frag} {H : Hp} {x : Val} {v : V} (r : Rep K H x v) : decide (v = .non) = x.isN := by
  cases r <;> rfl
theorem cmp_isN : Cmp X .Is M d .non d.isN := ⟨_, op_isN, fun Hi H v w ok rv rw_ Q q => by
  cases rw_
  refine ⟨rfl, ?_⟩
  rw [rep_isN rv]
  exact q _ M _ Hi H ⟨rfl, rfl⟩ (Same.refl _) ok (.bl _)⟩
theorem cmp_notN : Cmp X .IsNot M d .non (!d.isN) := ⟨_, op_notN, fun Hi H v w ok rv rw_ Q q => by
  cases rw_
  refine ⟨rfl, ?_⟩
  rw [rep_isN rv]
  exact q _ M _ Hi H ⟨rfl, rfl⟩ (Same.refl _) ok (.bl _)⟩
theorem Cmp.eq {op : CmpOp} {x y : Val} {b b' : Bool} (h : Cmp X op M x y b) (e : b = b') : Cmp X op M x y b' := e ▸ h
/-- a comparison as a value, as a test -/
theorem ae_cmp {op : CmpOp} {k : Bool} (ha : aV X a Γ M d1) (hb : aV X b Γ M d2) (hc : Cmp X op M d1 d2 k) (h : P (.bl k) M) (hm : behindInMarks op b = false := by first | exact nomark _ | rfl) : aE X (.Compare a [op] [b] pos) Γ M P := fun Hi H σ ok en Q q => by
  obtain ⟨r, ho, hr⟩ := hc
  refine ⟨_, pe_cmpR ho pe_we pe_we hm, ?_⟩
  refine ha Hi H σ ok en _ fun x M1 v Hi1 H1 h1 s1 ok1 r1 => ?_
  obtain ⟨rfl, rfl⟩ := h1
  refine hb Hi1 H1 σ ok1 (en.mono s1) _ fun y M2 w Hi2 H2 h2 s2 ok2 r2 => ?_
  obtain ⟨rfl, rfl⟩ := h2
  exact hr Hi2 H2 v w ok2 (r1.mono s2) r2 Q fun z M' v' Hi3 H3 h3 s3 ok3 r3 => by
    obtain ⟨rfl, rfl⟩ := h3
    exact q _ _ v' Hi3 H3 h ((s1.trans s2).trans s3) ok3 r3
theorem at_cmp {op : CmpOp} {k : Bool} {P : Bool → Mem → Prop} (ha : aV X a Γ M d1) (hb : aV X b Γ M d2) (hc : Cmp X op M d1 d2 k) (h : P k M) (hm : behindInMarks op b = false := by first | exact nomark _ | rfl) : aT X (.Compare a [op] [b] pos) Γ M P := fun Hi H σ ok en Q q => by
  obtain ⟨r, ho, hr⟩ := hc
  refine ⟨_, pt_cmpR ho pe_we pe_we hm, ?_⟩
  refine ha Hi H σ ok en _ fun x M1 v Hi1 H1 h1 s1 ok1 r1 => ?_
  obtain ⟨rfl, rfl⟩ := h1
  refine hb Hi1 H1 σ ok1 (en.mono s1) _ fun y M2 w Hi2 H2 h2 s2 ok2 r2 => ?_
  obtain ⟨rfl, rfl⟩ := h2
  exact hr Hi2 H2 v w ok2 (r1.mono s2) r2 _ fun z M' v' Hi3 H3 h3 s3 ok3 r3 => by
    obtain ⟨rfl, rfl⟩ := h3
    cases r3
    exact ⟨k, rfl, q _ _ Hi3 H3 h ((s1.trans s2).trans s3) ok3⟩
theorem at_chain {op op' : CmpOp} {k1 k2 : Bool} {P : Bool → Mem → Prop} (ha : aV X a Γ M d1) (hb : aV X b Γ M d2) (hc : aV X c Γ M d3) (h1 : Cmp X op M d1 d2 k1) (h2 : Cmp X op' M d2 d3 k2) (h : P (k1 && k2) M) (hm : lastMarks [op, op'] [b, c] = false := by with_unfolding_all rfl) :
    aT X (.Compare a [op, op'] [b, c] pos) Γ M P := fun Hi H σ ok en Q q => by
  obtain ⟨r, ho, hr⟩ := h1
  obtain ⟨r', ho', hr'⟩ := h2
  refine ⟨_, pt_chain ho ho' pe_we pe_we pe_we hm, ?_⟩
  refine ha Hi H σ ok en _ fun x M1 v Hi1 H1 h1 s1 ok1 r1 => ?_
  obtain ⟨rfl, rfl⟩ := h1
  refine hb Hi1 H1 σ ok1 (en.mono s1) _ fun y M2 w Hi2 H2 h2 s2 ok2 r2 => ?_
  obtain ⟨rfl, rfl⟩ := h2
  refine hr Hi2 H2 v w ok2 (r1.mono s2) r2 _ fun z M' v' Hi3 H3 h3 s3 ok3 r3 => ?_
  obtain ⟨rfl, rfl⟩ := h3
  cases r3
  refine ⟨k1, rfl, ?_⟩
  have s13 := (s1.trans s2).trans s3
  cases k1 with
  | false => exact iteF ⟨false, rfl, q _ _ Hi3 H3 h s13 ok3⟩
  | true =>
    refine iteT (hc Hi3 H3 σ ok3 (en.mono s13) _ fun y4 M4 w4 Hi4 H4 h4 s4 ok4 r4 => ?_)
    obtain ⟨rfl, rfl⟩ := h4
    exact hr' Hi4 H4 w w4 ok4 (r2.mono (s3.trans s4)) r4 _ fun z M' v' Hi5 H5 h5 s5 ok5 r5 => by
      obtain ⟨rfl, rfl⟩ := h5
      cases r5
      exact ⟨_, rfl, q _ _ Hi5 H5 h ((s13.trans s4).trans s5) ok5⟩
/-! ### tests -/
theorem at_val {P : Bool → Mem → Prop} (h : aE X e Γ M fun x M' => ∃ k, x = .bl k ∧ P k M') (he : ∀ whole, isTrue e X.env whole = (do let v ← whole; standAt e.pos; holding [v] (truthy v)) := by intro _; rfl) : aT X e Γ M P := fun Hi H σ ok en Q q => by
  refine ⟨_, pt_val pe_we he, ?_⟩
  refine h Hi H σ ok en _ fun x M1 v Hi1 H1 h1 s1 ok1 r1 => ?_
  obtain ⟨k, rfl, p⟩ := h1
  cases r1
  exact ⟨k, rfl, q _ _ Hi1 H1 p s1 ok1⟩
theorem at_not {P : Bool → Mem → Prop} (h : aT X a Γ M fun x M' => P (!x) M') : aT X (.UnaryOp .Not a pos) Γ M P := fun Hi H σ ok en Q q => by
  refine ⟨_, pt_not pt_wt, ?_⟩
  exact h Hi H σ ok en _ fun x M1 Hi1 H1 h1 s1 ok1 => q _ _ Hi1 H1 h1 s1 ok1
def WW (X : Cx) (e : Expr) : TT := fun σ H Q => ∃ t, PW X e t ∧ t σ H Q
theorem pw_ww : PW X e (WW X e) := ⟨fun whole pins s σ H Q I ⟨t, p, h⟩ => p.run whole pins s σ H Q I h⟩
def aW (X : Cx) (e : Expr) (Γ : Gam) (M : Mem) (P : Bool → Mem → Prop) : Prop := ∀ Hi H σ, Ok X.K Hi M H → EnvR X.K Hi Γ σ → ∀ Q, PostT X.K Hi P Q → WW X e σ H Q
theorem at_w {P : Bool → Mem → Prop} (h : aW X e Γ M P) : aT X e Γ M P := fun Hi H σ ok en Q q => by
  obtain ⟨t, p, z⟩ := h Hi H σ ok en Q q
  exact ⟨t, p.pt, z⟩
theorem aw_and1 {P : Bool → Mem → Prop} (h : aT X a Γ M P) : aW X (.BoolOp .And [a] pos) Γ M P := fun Hi H σ ok en Q q => ⟨_, pw_and1 pt_wt, h Hi H σ ok en Q q⟩
theorem aw_or1 {P : Bool → Mem → Prop} (h : aT X a Γ M P) : aW X (.BoolOp .Or [a] pos) Γ M P := fun Hi H σ ok en Q q => ⟨_, pw_or1 pt_wt, h Hi H σ ok en Q q⟩
theorem aw_and {P : Bool → Mem → Prop} {rest : List Expr} (h : aT X a Γ M fun x M' => (x = true → aW X (.BoolOp .And (b :: rest) pos) Γ M' P) ∧ (x = false → P false M')) : aW X (.BoolOp .And (a :: b :: rest) pos) Γ M P := fun Hi H σ ok en Q q => by
  refine ⟨_, pw_and pt_wt pw_ww, ?_⟩
  refine h Hi H σ ok en _ fun x M1 Hi1 H1 h1 s1 ok1 => ?_
  cases x with
  | true => exact iteT (h1.1 rfl Hi1 H1 σ ok1 (en.mono s1) _ (q.up s1))
  | false => exact iteF (q _ _ Hi1 H1 (h1.2 rfl) s1 ok1)
theorem aw_or {P : Bool → Mem → Prop} {rest : List Expr} (h : aT X a Γ M fun x M' => (x = true → P true M') ∧ (x = false → aW X (.BoolOp .Or (b :: rest) pos) Γ M' P)) : aW X (.BoolOp .Or (a :: b :: rest) pos) Γ M P := fun Hi H σ ok en Q q => by
  refine ⟨_, pw_or pt_wt pw_ww, ?_⟩
  refine h Hi H σ ok en _ fun x M1 Hi1 H1 h1 s1 ok1 => ?_
  cases x with
  | false => exact iteF (h1.2 rfl Hi1 H1 σ ok1 (en.mono s1) _ (q.up s1))
  | true => exact iteT (q _ _ Hi1 H1 (h1.1 rfl) s1 ok1)
/-- as values -/
theorem ae_and {rest : List Expr} (h : aE X a Γ M fun x M' => ∃ k, x = .bl k ∧ (k = true → aE X (.BoolOp .And (b :: rest) pos) Γ M' P) ∧ (k = false → P (.bl false) M')) : aE X (.BoolOp .And (a :: b :: rest) pos) Γ M P := fun Hi H σ ok en Q q => by
  refine ⟨_, pe_and pe_we pe_we, ?_⟩
  refine h Hi H σ ok en _ fun x M1 v Hi1 H1 h1 s1 ok1 r1 => ?_
  obtain ⟨k, rfl, h2, h3⟩ := h1
  cases r1
  refine ⟨k, rfl, ?_⟩
  cases k with
  | true => exact iteT (h2 rfl Hi1 H1 σ ok1 (en.mono s1) _ (q.up s1))
  | false => exact iteF (q _ _ _ Hi1 H1 (h3 rfl) s1 ok1 (.bl _))
theorem ae_or {rest : List Expr} (h : aE X a Γ M fun x M' => ∃ k, x = .bl k ∧ (k = true → P (.bl true) M') ∧ (k = false → aE X (.BoolOp .Or (b :: rest) pos) Γ M' P)) : aE X (.BoolOp .Or (a :: b :: rest) pos) Γ M P := fun Hi H σ ok en Q q => by
  refine ⟨_, pe_or pe_we pe_we, ?_⟩
  refine h Hi H σ ok en _ fun x M1 v Hi1 H1 h1 s1 ok1 r1 => ?_
  obtain ⟨k, rfl, h2, h3⟩ := h1
  cases r1
  refine ⟨k, rfl, ?_⟩
  cases k with
  | false => exact iteF (h3 rfl Hi1 H1 σ ok1 (en.mono s1) _ (q.up s1))
  | true => exact iteT (q _ _ _ Hi1 H1 (h2 rfl) s1 ok1 (.bl _))
theorem ae_one {op} (h : aE X a Γ M P) : aE X (.BoolOp op [a] pos) Γ M P := fun Hi H σ ok en Q q => ⟨_, pe_one pe_we, h Hi H σ ok en Q q⟩
theorem ae_not (h : aE X a Γ M fun x M' => ∃ k, x = .bl k ∧ P (.bl (!k)) M') : aE X (.UnaryOp .Not a pos) Γ M P := fun Hi H σ ok en Q q => by
  refine ⟨_, pe_not pe_we, ?_⟩
  refine h Hi H σ ok en _ fun x M1 v Hi1 H1 h1 s1 ok1 r1 => ?_
  obtain ⟨k, rfl, h2⟩ := h1
  cases r1
  exact ⟨k, rfl, q _ _ _ Hi1 H1 h2 s1 ok1 (.bl _)⟩
theorem ae_if (h : aT X c Γ M fun x M' => (x = true → aE X a Γ M' P) ∧ (x = false → aE X b Γ M' P)) : aE X (.IfExp c a b pos) Γ M P := fun Hi H σ ok en Q q => by
  refine ⟨_, pe_ifExp pt_wt pe_we pe_we, ?_⟩
  refine h Hi H σ ok en _ fun x M1 Hi1 H1 h1 s1 ok1 => ?_
  cases x with
  | true => exact iteT (h1.1 rfl Hi1 H1 σ ok1 (en.mono s1) _ (q.up s1))
  | false => exact iteF (h1.2 rfl Hi1 H1 σ ok1 (en.mono s1) _ (q.up s1))
/-- truth of a pure test in two ways -/
theorem ae_ifd {p : Prop} [Decidable p] (hc : aB X c Γ M (decide p)) (h1 : p → aE X a Γ M P) (h2 : ¬ p → aE X b Γ M P) : aE X (.IfExp c a b pos) Γ M P :=
  ae_if (hc.val ⟨fun z => h1 (of_decide_eq_true z), fun z => h2 (of_decide_eq_false z)⟩)
/-! ### arguments, displays -/
theorem aa_nil {P : List Val → Mem → Prop} (h : P [] M) : aA X [] Γ M P := fun Hi H σ ok en Q q => ⟨_, pa_nil, q _ _ _ Hi H h (Same.refl _) ok .nil⟩
theorem aa_cons {P : List Val → Mem → Prop} (h : aE X e Γ M fun x M1 => aA X es Γ M1 fun xs M2 => P (x :: xs) M2) (hs : starEach (e :: es) X.env = (false, eval e X.env) :: starEach es X.env := by rfl) : aA X (e :: es) Γ M P := fun Hi H σ ok en Q q => by
  refine ⟨_, pa_cons pe_we pa_wa hs, ?_⟩
  refine h Hi H σ ok en _ fun x M1 v Hi1 H1 h1 s1 ok1 r1 => ?_
  exact h1 Hi1 H1 σ ok1 (en.mono s1) _ fun xs M2 vs Hi2 H2 h2 s2 ok2 r2 => q _ _ _ Hi2 H2 h2 (s1.trans s2) ok2 (.cons (r1.mono s2) r2)
theorem avs_nil : aVs X [] Γ M [] := aa_nil ⟨rfl, rfl⟩
theorem avs_cons {ds : List Val} (h : aV X e Γ M d) (hr : aVs X es Γ M ds) (hs : starEach (e :: es) X.env = (false, eval e X.env) :: starEach es X.env := by rfl) : aVs X (e :: es) Γ M (d :: ds) :=
  aa_cons (h.val (hr.val ⟨rfl, rfl⟩)) hs
theorem ae_tup {x1} (h : aA X es Γ M fun xs M' => xs.length ≤ sizeLine ∧ P (.tup xs) M') : aE X (.Tuple es x1 pos) Γ M P := fun Hi H σ ok en Q q => by
  refine ⟨_, pe_tup pa_wa, ?_⟩
  refine h Hi H σ ok en _ fun xs M1 vs Hi1 H1 h1 s1 ok1 r1 => ?_
  refine ⟨r1.length ▸ h1.1, fun p hp => ?_⟩
  have s2 := same_upd (o := .tup vs) (ok1.none hp)
  exact q _ _ _ _ _ h1.2 (s1.trans s2) (ok1.imm hp) (.tup (SqT.of upd_same) (r1.mono s2))
theorem av_tup {x1} {ds : List Val} (h : aVs X es Γ M ds) (hl : ds.length ≤ sizeLine) : aV X (.Tuple es x1 pos) Γ M (.tup ds) := ae_tup (h.val ⟨hl, rfl, rfl⟩)
/-- a list that will not change -/
theorem ae_lst (h : aA X es Γ M fun xs M' => xs.length ≤ sizeLine ∧ P (.lst xs) M') : aE X (.List es pos) Γ M P := fun Hi H σ ok en Q q => by
  refine ⟨_, pe_lst pa_wa, ?_⟩
  refine h Hi H σ ok en _ fun xs M1 vs Hi1 H1 h1 s1 ok1 r1 => ?_
  refine ⟨r1.length ▸ h1.1, fun p hp => ?_⟩
  have s2 := same_upd (o := .lst vs) (ok1.none hp)
  exact q _ _ _ _ _ h1.2 (s1.trans s2) (ok1.imm hp) (.lst (SqL.of upd_same) (r1.mono s2))
/-- a list that will change: a new cell -/
theorem ae_lstC (h : aA X es Γ M fun xs M' => xs.length ≤ sizeLine ∧ ∀ p, P (.ptr p) ((p, .lst xs) :: M')) : aE X (.List es pos) Γ M P := fun Hi H σ ok en Q q => by
  refine ⟨_, pe_lst pa_wa, ?_⟩
  refine h Hi H σ ok en _ fun xs M1 vs Hi1 H1 h1 s1 ok1 r1 => ?_
  refine ⟨r1.length ▸ h1.1, fun p hp => ?_⟩
  exact q _ _ _ _ _ (h1.2 p) s1 (ok1.new hp ⟨vs, rfl, r1⟩) (.ptr p)
/-! ### places -/
theorem rep_at {K : PySem.W.Frag} {H : Hp} {ds : List Val} {vs : List V} (r : RepA K H ds vs) {i : Int} {d : Val} (h : atI ds i = some d) : ∃ v, atI vs i = some v ∧ Rep K H d v := by
  unfold atI at h ⊢
  rw [← r.length]
  cases e : ixN ds.length i with
  | none => rw [e] at h; cases h
  | some j =>
    rw [e] at h
    exact r.get h
/-- xs[i], t[i] -/
theorem ae_ixL {xs : List Val} (ha : aV X a Γ M d1) (hb : aV X b Γ M (.int i)) (hv : Vw M d1 (.lst xs)) (h : ∃ d, atI xs i = some d ∧ P d M) (hs : PlainIx b := by exact fun _ _ => rfl) : aE X (.Subscript a b pos) Γ M P := fun Hi H σ ok en Q q => by
  obtain ⟨d, hd, p⟩ := h
  refine ⟨_, pe_ix ix_list pe_we pe_we hs, ?_⟩
  refine ha Hi H σ ok en _ fun x M1 v Hi1 H1 h1 s1 ok1 r1 => ?_
  obtain ⟨rfl, rfl⟩ := h1
  refine hb Hi1 H1 σ ok1 (en.mono s1) _ fun y M2 w Hi2 H2 h2 s2 ok2 r2 => ?_
  obtain ⟨rfl, rfl⟩ := h2
  cases r2
  cases hv with
  | self =>
    cases r1.mono s2 with
    | lst hq ra =>
      obtain ⟨z, hz, rz⟩ := rep_at ra hd
      exact ⟨_, _, i, z, rfl, rfl, ok2.im.seq hq, hz, q _ _ z Hi2 H2 p (s1.trans s2) ok2 rz⟩
  | lst j hm =>
    obtain ⟨_, o, ho, xs', rfl, ra⟩ := ok2.get hm
    cases r1
    obtain ⟨z, hz, rz⟩ := rep_at ra hd
    exact ⟨_, _, i, z, rfl, rfl, SqL.of ho, hz, q _ _ z Hi2 H2 p (s1.trans s2) ok2 rz⟩
theorem ae_ixT {xs : List Val} (ha : aV X a Γ M (.tup xs)) (hb : aV X b Γ M (.int i)) (h : ∃ d, atI xs i = some d ∧ P d M) (hs : PlainIx b := by exact fun _ _ => rfl) : aE X (.Subscript a b pos) Γ M P := fun Hi H σ ok en Q q => by
  obtain ⟨d, hd, p⟩ := h
  refine ⟨_, pe_ix ix_tup pe_we pe_we hs, ?_⟩
  refine ha Hi H σ ok en _ fun x M1 v Hi1 H1 h1 s1 ok1 r1 => ?_
  obtain ⟨rfl, rfl⟩ := h1
  refine hb Hi1 H1 σ ok1 (en.mono s1) _ fun y M2 w Hi2 H2 h2 s2 ok2 r2 => ?_
  obtain ⟨rfl, rfl⟩ := h2
  cases r2
  cases r1.mono s2 with
  | tup hq ra =>
    obtain ⟨z, hz, rz⟩ := rep_at ra hd
    exact ⟨_, _, i, z, rfl, rfl, sameT ok2.im hq, hz, q _ _ z Hi2 H2 p (s1.trans s2) ok2 rz⟩
theorem av_ixL {xs : List Val} (ha : aV X a Γ M d1) (hb : aV X b Γ M (.int i)) (hv : Vw M d1 (.lst xs)) (hd : atI xs i = some d) (hs : PlainIx b := by exact fun _ _ => rfl) : aV X (.Subscript a b pos) Γ M d := ae_ixL ha hb hv ⟨d, hd, rfl, rfl⟩ hs
theorem av_ixT {xs : List Val} (ha : aV X a Γ M (.tup xs)) (hb : aV X b Γ M (.int i)) (hd : atI xs i = some d) (hs : PlainIx b := by exact fun _ _ => rfl) : aV X (.Subscript a b pos) Γ M d := ae_ixT ha hb ⟨d, hd, rfl, rfl⟩ hs
end
end Ab
namespace Ab
open PySem PySem.Spec PyProof.Rows L2
section
variable {X : Cx} {Γ : Gam} {M : Mem} {P : Val → Mem → Prop} {e a b c o : Expr} {es : List Expr} {pos p1 p2 apos : Pos} {k : AK} {d d1 d2 d3 : Val} {i j : Int} {x f m : Str}
/-- a new list's cell that will not change -/
theorem ae_frz (h : aE X e Γ M fun d M' => ∃ p xs M'', d = .ptr p ∧ M' = (p, .lst xs) :: M'' ∧ P (.lst xs) M'') : aE X e Γ M P := fun Hi H σ ok en Q q => by
  refine h Hi H σ ok en _ fun d M1 v Hi1 H1 h1 s1 ok1 r1 => ?_
  obtain ⟨p, xs, M2, rfl, rfl, hp⟩ := h1
  obtain ⟨e0, o, ho, vs, rfl, ra⟩ := ok1.ce p _ List.mem_cons_self
  cases r1
  have s2 := same_upd (o := .lst vs) e0
  exact q _ _ _ _ _ hp (s1.trans s2) (ok1.freeze ho) (.lst (SqL.of upd_same) (ra.mono s2))
/-! ### calls of built-ins -/
def RA (X : Cx) (r : List V → Hp → VK → Prop) (xs : List Val) (M : Mem) (P : Val → Mem → Prop) : Prop := ∀ Hi H vs, Ok X.K Hi M H → RepA X.K Hi xs vs → ∀ Q, Post X.K Hi P Q → r vs H Q
theorem ae_callB {id : String} {r : List V → Hp → VK → Prop} (hc : CallR X (.builtin id) r) (hm : X.mg x = none) (hv : bootBuiltins x = some (.builtin id)) (h : aA X (e :: es) Γ M fun xs M' => RA X r xs M' P)
    (hg : Gl X x := by rfl) (hn : x ≠ "__name__" := by decide) (hdb : (x == ("__debug__" : Str)) = false := by decide)
    (he : starEach (e :: es) X.env = (false, eval e X.env) :: starEach es X.env := by rfl) (hpl : (backTo pos (starEach es X.env)).any (·.1) = false := by rfl) : aE X (.Call (.Name x p1) (e :: es) [] pos) Γ M P := fun Hi H σ ok en Q q => by
  refine ⟨_, pe_callB hc hg hm hv pa_wa hn hdb he hpl, ?_⟩
  exact h Hi H σ ok en _ fun xs M1 vs Hi1 H1 h1 s1 ok1 r1 => h1 Hi1 H1 vs ok1 r1 Q (q.up s1)
theorem ae_callTy {T : String} {r : List V → Hp → VK → Prop} (hc : CallR X (.type T) r) (hm : X.mg x = none) (hv : bootBuiltins x = some (.type T)) (h : aA X (e :: es) Γ M fun xs M' => RA X r xs M' P)
    (hg : Gl X x := by rfl) (hn : x ≠ "__name__" := by decide) (hdb : (x == ("__debug__" : Str)) = false := by decide)
    (he : starEach (e :: es) X.env = (false, eval e X.env) :: starEach es X.env := by rfl) (hpl : (backTo pos (starEach es X.env)).any (·.1) = false := by rfl) : aE X (.Call (.Name x p1) (e :: es) [] pos) Γ M P := fun Hi H σ ok en Q q => by
  refine ⟨_, pe_callTy hc hg hm hv pa_wa hn hdb he hpl, ?_⟩
  exact h Hi H σ ok en _ fun xs M1 vs Hi1 H1 h1 s1 ok1 r1 => h1 Hi1 H1 vs ok1 r1 Q (q.up s1)
/-- what a list or tuple value is -/
inductive Sq (M : Mem) : Val → List Val → Prop
  | l {d : Val} {xs : List Val} : Vw M d (.lst xs) → Sq M d xs
  | t {xs : List Val} : Sq M (.tup xs) xs
theorem Sq.rep {K : PySem.W.Frag} {Hi H : Hp} {d : Val} {xs : List Val} {v : V} (h : Sq M d xs) (ok : Ok K Hi M H) (r : Rep K Hi d v) : ∃ p ys, v = .ref p ∧ (SqL K H p ys ∨ SqT K H p ys) ∧ RepA K Hi xs ys := by
  cases h with
  | l h =>
    cases h with
    | self => cases r with
      | lst hq ra => exact ⟨_, _, rfl, .inl (ok.im.seq hq), ra⟩
    | lst i hm =>
      obtain ⟨_, o, ho, ys, rfl, ra⟩ := ok.get hm
      cases r
      exact ⟨_, _, rfl, .inl (SqL.of ho), ra⟩
  | t => cases r with
    | tup hq ra => exact ⟨_, _, rfl, .inr (sameT ok.im hq), ra⟩
theorem Vw.repL {K : PySem.W.Frag} {Hi H : Hp} {d : Val} {xs : List Val} {v : V} (h : Vw M d (.lst xs)) (ok : Ok K Hi M H) (r : Rep K Hi d v) : ∃ p ys, v = .ref p ∧ SqL K H p ys ∧ RepA K Hi xs ys := by
  cases h with
  | self => cases r with
    | lst hq ra => exact ⟨_, _, rfl, ok.im.seq hq, ra⟩
  | lst i hm =>
    obtain ⟨_, o, ho, ys, rfl, ra⟩ := ok.get hm
    cases r
    exact ⟨_, _, rfl, SqL.of ho, ra⟩
theorem ae_len {xs : List Val} (hm : X.mg "len" = none) (ha : aV X a Γ M d) (hs : Sq M d xs) (h : P (.int xs.length) M) (hg : Gl X "len" := by rfl) (hst : starEach [a] X.env = [(false, eval a X.env)] := by rfl) : aE X (.Call (.Name "len" p1) [a] [] pos) Γ M P :=
  ae_callB call_len_seq hm PySem.boot_len (aa_cons (ha.val (aa_nil fun Hi H vs ok r Q q => by
    cases r with
    | cons r1 r2 =>
      cases r2
      obtain ⟨p, ys, rfl, hq, ra⟩ := hs.rep ok r1
      refine ⟨p, ys, rfl, hq, ?_⟩
      rw [← ra.length]
      exact q _ _ _ Hi H h (Same.refl _) ok (.int _))) hst) hg (he := hst) (hpl := rfl)
theorem av_len {xs : List Val} (hm : X.mg "len" = none) (ha : aV X a Γ M d) (hs : Sq M d xs) (hg : Gl X "len" := by rfl) (hst : starEach [a] X.env = [(false, eval a X.env)] := by rfl) : aV X (.Call (.Name "len" p1) [a] [] pos) Γ M (.int xs.length) := ae_len hm ha hs ⟨rfl, rfl⟩ hg hst
/-- list(x): a new cell -/
theorem ae_list (hm : X.mg "list" = none) (ha : aE X a Γ M fun d M' => ∃ xs, Sq M' d xs ∧ ∀ p, P (.ptr p) ((p, .lst xs) :: M')) (hg : Gl X "list" := by rfl) (hst : starEach [a] X.env = [(false, eval a X.env)] := by rfl) : aE X (.Call (.Name "list" p1) [a] [] pos) Γ M P :=
  ae_callTy call_list_of hm (by decide +kernel) (aa_cons (ha.mono fun d M' ⟨xs, hs, h⟩ => aa_nil fun Hi H vs ok r Q q => by
    cases r with
    | cons r1 r2 =>
      cases r2
      obtain ⟨p, ys, rfl, hq, ra⟩ := hs.rep ok r1
      exact ⟨p, ys, rfl, hq, fun l hl => q _ _ _ _ _ (h l) (Same.refl _) (ok.new hl ⟨ys, rfl, ra⟩) (.ptr l)⟩) hst) hg (he := hst) (hpl := rfl)
/-- tuple(x) -/
theorem ae_tuple (hm : X.mg "tuple" = none) (ha : aE X a Γ M fun d M' => ∃ xs, Sq M' d xs ∧ P (.tup xs) M') (hg : Gl X "tuple" := by rfl) (hst : starEach [a] X.env = [(false, eval a X.env)] := by rfl) : aE X (.Call (.Name "tuple" p1) [a] [] pos) Γ M P :=
  ae_callTy call_tuple_of hm (by decide +kernel) (aa_cons (ha.mono fun d M' ⟨xs, hs, h⟩ => aa_nil fun Hi H vs ok r Q q => by
    cases r with
    | cons r1 r2 =>
      cases r2
      cases hs with
      | l hs =>
        obtain ⟨p, ys, rfl, hq, ra⟩ := hs.repL ok r1
        refine ⟨p, ys, rfl, .inl ⟨hq, fun l hl => ?_⟩⟩
        have s2 := same_upd (o := .tup ys) (ok.none hl)
        exact q _ _ _ _ _ h s2 (ok.imm hl) (.tup (SqT.of upd_same) (ra.mono s2))
      | t =>
        cases r1 with
        | tup hq ra => exact ⟨_, _, rfl, .inr ⟨sameT ok.im hq, q _ _ _ Hi H h (Same.refl _) ok (.tup hq ra)⟩⟩) hst) hg (he := hst) (hpl := rfl)
/-! ### slices -/
def aO (X : Cx) (e : Option Expr) (Γ : Gam) (M : Mem) (o : Option Int) : Prop := ∀ Hi H σ, Ok X.K Hi M H → EnvR X.K Hi Γ σ → ∀ Q : Option Int → Hp → Prop, (∀ Hi' H', Same Hi Hi' → Ok X.K Hi' M H' → Q o H') → ∃ t, PO X e t ∧ t σ H Q
theorem ao_none : aO X none Γ M none := fun Hi H σ ok en Q q => ⟨_, po_none, q Hi H (Same.refl _) ok⟩
theorem ao_some (h : aV X e Γ M (.int i)) : aO X (some e) Γ M (some i) := fun Hi H σ ok en Q q => by
  refine ⟨_, po_some pe_we, ?_⟩
  refine h Hi H σ ok en _ fun x M1 v Hi1 H1 h1 s1 ok1 r1 => ?_
  obtain ⟨rfl, rfl⟩ := h1
  cases r1
  exact ⟨i, rfl, q Hi1 H1 s1 ok1⟩
def WO (X : Cx) (e : Option Expr) : TO := fun σ H Q => ∃ t, PO X e t ∧ t σ H Q
theorem po_wo {e : Option Expr} : PO X e (WO X e) := ⟨fun pins s σ H Q I ⟨t, p, h⟩ => p.run pins s σ H Q I h⟩
def cutA (xs : List Val) (lo hi : Option Int) : List Val := (xs.drop (HT.sIx xs.length 0 lo)).take (HT.sIx xs.length xs.length hi - HT.sIx xs.length 0 lo)
theorem rep_cut {K : PySem.W.Frag} {H : Hp} {xs : List Val} {vs : List V} (r : RepA K H xs vs) (lo hi : Option Int) : RepA K H (cutA xs lo hi) (cutV vs lo hi) := by
  unfold cutA cutV
  rw [← r.length]
  exact (r.drop _).take _
theorem ae_sliceT {xs : List Val} {elo ehi : Option Expr} {lo hi : Option Int} (ha : aV X a Γ M (.tup xs)) (hl : aO X elo Γ M lo) (hh : aO X ehi Γ M hi) (h : P (.tup (cutA xs lo hi)) M) : aE X (.Subscript a (.Slice elo ehi none p2) pos) Γ M P := fun Hi H σ ok en Q q => by
  refine ⟨_, pe_slice sl_tupA pe_we po_wo po_wo, ?_⟩
  refine ha Hi H σ ok en _ fun x M1 v Hi1 H1 h1 s1 ok1 r1 => ?_
  obtain ⟨rfl, rfl⟩ := h1
  refine hl Hi1 H1 σ ok1 (en.mono s1) _ fun Hi2 H2 s2 ok2 => ?_
  refine hh Hi2 H2 σ ok2 (en.mono (s1.trans s2)) _ fun Hi3 H3 s3 ok3 => ?_
  have s13 := (s1.trans s2).trans s3
  cases r1.mono (s2.trans s3) with
  | @tup p ys _ hq ra =>
    refine ⟨p, ys, rfl, sameT ok3.im hq, fun hw => ?_, fun hw l hl => ?_⟩
    · have e : cutA xs lo hi = xs := by
        unfold cutA
        rw [ra.length, hw.1, hw.2]
        rw [← ra.length]
        simp
      rw [e] at h
      exact q _ _ _ Hi3 H3 h s13 ok3 (.tup hq ra)
    · have s4 := same_upd (o := .tup (cutV ys lo hi)) (ok3.none hl)
      exact q _ _ _ _ _ h (s13.trans s4) (ok3.imm hl) (.tup (SqT.of upd_same) ((rep_cut ra lo hi).mono s4))
/-! ### fields -/
/-- an instance: one that will not change, or a cell -/
inductive Ob (M : Mem) (C : Addr) : Val → List (Str × Val) → Prop
  | im (fs : List (Str × Val)) : Ob M C (.obj C fs) fs
  | ce (i : Nat) {p : Addr} {fs : List (Str × Val)} : M[i]? = some (p, .ins C fs) → Ob M C (.ptr p) fs
theorem Ob.rep {K : PySem.W.Frag} {Hi H : Hp} {C : Addr} {d : Val} {fs : List (Str × Val)} {v : V} (h : Ob M C d fs) (ok : Ok K Hi M H) (r : Rep K Hi d v) : ∃ p dx gs, v = .ref p ∧ H p = some (.ins C dx gs) ∧ RepF K Hi fs gs := by
  cases h with
  | im => cases r with
    | obj hq ra => exact ⟨_, _, _, rfl, ok.im _ _ hq, ra⟩
  | ce i hm =>
    obtain ⟨_, o, ho, dx, gs, rfl, ra⟩ := ok.get hm
    cases r
    exact ⟨_, _, _, rfl, ho, ra⟩
theorem ae_fld {C : Addr} (c : Cls X.K C) (n : NoAttr X.K C f) (ha : aE X a Γ M fun d M' => ∃ fs v, Ob M' C d fs ∧ fs.lookup f = some v ∧ P v M') (hb : attributeBase a f X.env (eval a X.env) = eval a X.env := by rfl) : aE X (.Attribute a f pos) Γ M P := fun Hi H σ ok en Q q => by
  refine ⟨_, pe_fld pe_we hb, ?_⟩
  refine ha Hi H σ ok en _ fun x M1 v Hi1 H1 h1 s1 ok1 r1 => ?_
  obtain ⟨fs, z, ho, hf, hp⟩ := h1
  obtain ⟨p, dx, gs, rfl, hq, ra⟩ := ho.rep ok1 r1
  obtain ⟨w, hw, rw_⟩ := ra.lookup hf
  exact ⟨p, C, dx, gs, w, rfl, hq, c, n, hw, q _ _ w Hi1 H1 hp s1 ok1 rw_⟩
theorem av_fld {C : Addr} {fs : List (Str × Val)} (c : Cls X.K C) (n : NoAttr X.K C f) (ha : aV X a Γ M d) (ho : Ob M C d fs) (hf : fs.lookup f = some d1) (hb : attributeBase a f X.env (eval a X.env) = eval a X.env := by rfl) : aV X (.Attribute a f pos) Γ M d1 :=
  ae_fld c n (ha.val ⟨fs, d1, ho, hf, rfl, rfl⟩) hb
/-! ### dicts -/
theorem ae_dget {n : Nat} {p : Addr} {kvs : List (Key × Val)} (hu : X.A.units + 1 < cLine) (ha : aV X a Γ M (.ptr p)) (hb : aV X b Γ M (.str x)) (hm : M[n]? = some (p, .dk kvs)) (h : ∃ d, dGet kvs (.inr x) = some d ∧ P d M) (hs : NoSl b := by exact fun _ _ => rfl) : aE X (.Subscript a b pos) Γ M P := fun Hi H σ ok en Q q => by
  obtain ⟨d, hd, hp⟩ := h
  refine ⟨_, pe_dget hu pe_we pe_we hs, ?_⟩
  refine ha Hi H σ ok en _ fun x M1 v Hi1 H1 h1 s1 ok1 r1 => ?_
  obtain ⟨rfl, rfl⟩ := h1
  refine hb Hi1 H1 σ ok1 (en.mono s1) _ fun y M2 w Hi2 H2 h2 s2 ok2 r2 => ?_
  obtain ⟨rfl, rfl⟩ := h2
  cases r1
  cases r2
  obtain ⟨_, o, ho, ks, rfl, rk⟩ := ok2.get hm
  obtain ⟨z, hz, rz⟩ := rk.get hd
  exact ⟨p, z, rfl, .inl ⟨ks, .inr _, .inl ho, rfl, hz.symm⟩, q _ _ z Hi2 H2 hp (s1.trans s2) ok2 rz⟩
theorem av_dget {n : Nat} {p : Addr} {kvs : List (Key × Val)} (hu : X.A.units + 1 < cLine) (ha : aV X a Γ M (.ptr p)) (hb : aV X b Γ M (.str x)) (hm : M[n]? = some (p, .dk kvs)) (hd : dGet kvs (.inr x) = some d) (hs : NoSl b := by exact fun _ _ => rfl) : aV X (.Subscript a b pos) Γ M d := ae_dget hu ha hb hm ⟨d, hd, rfl, rfl⟩ hs
theorem as_dput {n : Nat} {p : Addr} {kvs : List (Key × Val)} {ppos : Pos} (hu : X.A.units + 1 < cLine) (ha : aV X a Γ M (.ptr p)) (hb : aV X b Γ M (.str x)) (he : aV X e Γ M d) (hm : M[n]? = some (p, .dk kvs)) (hl : kvs.length < sizeLine) (h : k.nx Γ (M.set n (p, .dk (dPut kvs (.inr x) d))))
    (hs : swapsWith e (some (.Subscript a b ppos)) pos.line X.env = pure false := by rfl) : aS X (.Assign [.Subscript a b ppos] e pos) Γ M k := fun Hi H σ ok en D q => by
  refine ⟨_, ps_dput hu pe_we pe_we pe_we hs, ?_⟩
  refine he Hi H σ ok en _ fun x0 M0 v0 Hi0 H0 h0 s0 ok0 r0 => ?_
  obtain ⟨rfl, rfl⟩ := h0
  refine ha Hi0 H0 σ ok0 (en.mono s0) _ fun x M1 v Hi1 H1 h1 s1 ok1 r1 => ?_
  obtain ⟨rfl, rfl⟩ := h1
  refine hb Hi1 H1 σ ok1 (en.mono (s0.trans s1)) _ fun y M2 w Hi2 H2 h2 s2 ok2 r2 => ?_
  obtain ⟨rfl, rfl⟩ := h2
  cases r1
  cases r2
  obtain ⟨_, o, ho, ks, rfl, rk⟩ := ok2.get hm
  have s02 := (s0.trans s1).trans s2
  exact ⟨p, _, rfl, .inl ⟨ks, .inr _, ho, rfl, by rw [← rk.length]; exact hl, rfl⟩, q.nx _ _ σ Hi2 _ h s02 (ok2.set hm ⟨_, rfl, rk.put (r0.mono (s1.trans s2))⟩) (en.mono s02)⟩
end
end Ab
namespace Ab
open PySem PySem.Spec PyProof.Rows L2
section
variable {X : Cx} {Γ : Gam} {M : Mem} {P : Val → Mem → Prop} {e a b c o : Expr} {es : List Expr} {pos p1 p2 apos : Pos} {k : AK} {d d1 d2 d3 : Val} {i j : Int} {x y f m : Str} {st : Stmt} {sts : List Stmt}
/-! ### blocks -/
theorem as_nil (h : k.nx Γ M) : aSs X [] Γ M k := fun Hi H σ ok en D q => ⟨_, pss_nil, q.nx Γ M σ Hi H h (Same.refl _) ok en⟩
theorem as_cons (h : aS X st Γ M { k with nx := fun Γ' M' => aSs X sts Γ' M' k }) : aSs X (st :: sts) Γ M k := fun Hi H σ ok en D q => by
  refine ⟨_, pss_cons ps_ws pss_wb, ?_⟩
  exact h Hi H σ ok en { D with nx := WB X sts D } ⟨fun Γ' M' σ' Hi' H' hn s ok' en' => hn Hi' H' σ' ok' en' D (q.up s), q.rt, q.bk, q.ct⟩
theorem as_one (h : aS X st Γ M k) : aSs X [st] Γ M k := fun Hi H σ ok en D q => ⟨_, pss_one ps_ws, h Hi H σ ok en D q⟩
theorem aSs.mono {k' : AK} (h : aSs X sts Γ M k) (f1 : ∀ Γ M, k.nx Γ M → k'.nx Γ M) (f2 : ∀ d M, k.rt d M → k'.rt d M) (f3 : ∀ Γ M, k.bk Γ M → k'.bk Γ M) (f4 : ∀ Γ M, k.ct Γ M → k'.ct Γ M) : aSs X sts Γ M k' := fun Hi H σ ok en D q =>
  h Hi H σ ok en D ⟨fun Γ M σ Hi' H' p => q.nx Γ M σ Hi' H' (f1 Γ M p), fun d M v Hi' H' p => q.rt d M v Hi' H' (f2 d M p), fun Γ M σ Hi' H' p => q.bk Γ M σ Hi' H' (f3 Γ M p), fun Γ M σ Hi' H' p => q.ct Γ M σ Hi' H' (f4 Γ M p)⟩
/-- the list in a slot's cell will change no more -/
theorem as_frz (i : Nat) {p : Addr} {xs : List Val} (hΓ : Γ[i]? = some (some (.ptr p))) (h : aSs X sts (Γ.set i (some (.lst xs))) M k) : aSs X sts Γ ((p, .lst xs) :: M) k := fun Hi H σ ok en D q => by
  obtain ⟨e0, o, ho, vs, rfl, ra⟩ := ok.ce p _ List.mem_cons_self
  have s2 := same_upd (o := .lst vs) e0
  obtain ⟨v, hv, rv⟩ := en.2 i _ hΓ
  cases rv
  have en2 := (en.mono s2).set (i := i) (d := .lst xs) (v := .ref p) (.lst (SqL.of upd_same) (ra.mono s2))
  have e : σ.set i (some (V.ref p)) = σ := by
    apply List.ext_getElem?
    intro j
    by_cases hij : i = j
    · subst hij
      rw [List.getElem?_set_self (List.getElem?_eq_some_iff.mp hv).1, hv]
    · rw [List.getElem?_set_ne hij]
  rw [e] at en2
  exact h _ H σ (ok.freeze ho) en2 D (q.up s2)
/-! ### statements -/
theorem as_expr (h : aE X e Γ M fun _ M' => k.nx Γ M') (hs : swapsWith e none pos.line X.env = pure false := by rfl) : aS X (.Expr e pos) Γ M k := fun Hi H σ ok en D q => by
  refine ⟨_, ps_expr pe_we hs, ?_⟩
  exact h Hi H σ ok en _ fun x M1 v Hi1 H1 h1 s1 ok1 r1 => q.nx _ _ σ Hi1 H1 h1 s1 ok1 (en.mono s1)
theorem as_ret (h : aE X e Γ M k.rt) : aS X (.Return (some e) pos) Γ M k := fun Hi H σ ok en D q => by
  refine ⟨_, ps_ret pe_we, ?_⟩
  exact h Hi H σ ok en _ fun x M1 v Hi1 H1 h1 s1 ok1 r1 => q.rt _ _ v Hi1 H1 h1 s1 ok1 r1
theorem as_if {s1 s2 : List Stmt} (h : aT X c Γ M fun b M' => (b = true → aSs X s1 Γ M' k) ∧ (b = false → aSs X s2 Γ M' k)) : aS X (.If c s1 s2 pos) Γ M k := fun Hi H σ ok en D q => by
  refine ⟨_, ps_if pt_wt pss_wb pss_wb, ?_⟩
  refine h Hi H σ ok en _ fun x M1 Hi1 H1 h1 s1 ok1 => ?_
  cases x with
  | true => exact iteT (h1.1 rfl Hi1 H1 σ ok1 (en.mono s1) D (q.up s1))
  | false => exact iteF (h1.2 rfl Hi1 H1 σ ok1 (en.mono s1) D (q.up s1))
theorem as_ifd {s1 s2 : List Stmt} {p : Prop} [Decidable p] (hc : aB X c Γ M (decide p)) (h1 : p → aSs X s1 Γ M k) (h2 : ¬ p → aSs X s2 Γ M k) : aS X (.If c s1 s2 pos) Γ M k :=
  as_if (hc.val ⟨fun z => h1 (of_decide_eq_true z), fun z => h2 (of_decide_eq_false z)⟩)
/-! ### targets -/
def WG (X : Cx) (tg : Expr) : TG := fun v σ H Q => ∃ t, PG X tg t ∧ t v σ H Q
theorem pg_wg : PG X e (WG X e) := ⟨fun pins s σ H v u Q I r ⟨t, p, h⟩ => p.run pins s σ H v u Q I r h⟩
def aG (X : Cx) (tg : Expr) (d : Val) (Γ : Gam) (M : Mem) (R : Gam → Mem → Prop) : Prop := ∀ Hi H σ v, Ok X.K Hi M H → EnvR X.K Hi Γ σ → Rep X.K Hi d v → ∀ Q : L2.St → Hp → Prop, (∀ Γ' M' σ' Hi' H', R Γ' M' → Same Hi Hi' → Ok X.K Hi' M' H' → EnvR X.K Hi' Γ' σ' → Q σ' H') → WG X tg v σ H Q
theorem ag_name {R : Gam → Mem → Prop} (n : Nat) (hN : X.N.Nodup) (h : R (Γ.set n (some d)) M) (hi : X.N[n]? = some x := by rfl) (hx : Loc X.env.scope x := by first | exact Or.inl rfl | exact Or.inr rfl) (hf : X.fn x = true ∨ X.env.scope.names.lookup x = some .local := by first | exact .inl rfl | exact .inr rfl | assumption) :
    aG X (.Name x pos) d Γ M R := fun Hi H σ v ok en r Q q => ⟨_, pg_name hN hi hx hf, q _ _ _ Hi H h (Same.refl _) ok (en.set r)⟩
def aGs (X : Cx) (tgs : List Expr) (ds : List Val) (Γ : Gam) (M : Mem) (R : Gam → Mem → Prop) : Prop := ∀ Hi H σ vs, Ok X.K Hi M H → EnvR X.K Hi Γ σ → RepA X.K Hi ds vs → ∀ Q : L2.St → Hp → Prop, (∀ Γ' M' σ' Hi' H', R Γ' M' → Same Hi Hi' → Ok X.K Hi' M' H' → EnvR X.K Hi' Γ' σ' → Q σ' H') → ∃ t, PGs X tgs t ∧ t vs σ H Q
def WGs (X : Cx) (tgs : List Expr) : TGs := fun v σ H Q => ∃ t, PGs X tgs t ∧ t v σ H Q
theorem pgs_wgs : PGs X es (WGs X es) := ⟨fun pins s σ H v u Q I r ⟨t, p, h⟩ => p.run pins s σ H v u Q I r h⟩
theorem ags_nil {R : Gam → Mem → Prop} (h : R Γ M) : aGs X [] [] Γ M R := fun Hi H σ vs ok en r Q q => by
  cases r
  exact ⟨_, pgs_nil, rfl, q _ _ _ Hi H h (Same.refl _) ok en⟩
theorem ags_cons {R : Gam → Mem → Prop} {ds : List Val} (h : aG X e d Γ M fun Γ' M' => aGs X es ds Γ' M' R) (hs : (assignEach (e :: es) X.env).map (·.2) = assign e X.env :: (assignEach es X.env).map (·.2) := by rfl) : aGs X (e :: es) (d :: ds) Γ M R := fun Hi H σ vs ok en r Q q => by
  cases r with
  | cons r1 r2 =>
    refine ⟨_, pgs_cons pg_wg pgs_wgs hs, _, _, rfl, ?_⟩
    refine h Hi H σ _ ok en r1 _ fun Γ' M' σ' Hi' H' h1 s1 ok1 en1 => ?_
    exact h1 Hi' H' σ' _ ok1 en1 (r2.mono s1) Q fun Γ2 M2 σ2 Hi2 H2 h2 s2 ok2 en2 => q _ _ _ Hi2 H2 h2 (s1.trans s2) ok2 en2
theorem ag_tup {kk : Nat} {R : Gam → Mem → Prop} {ds : List Val} (hc : X.calm = true) (h : aGs X es ds Γ M R) (hl : (assignEach es X.env).length = ds.length := by rfl) (hst : (assignEach es X.env).findIdx? (·.1) = none := by rfl) : aG X (.Tuple es kk pos) (.tup ds) Γ M R := fun Hi H σ v ok en r Q q => by
  cases r with
  | tup hq ra => exact ⟨_, pg_tup hc pgs_wgs rfl hst, _, _, rfl, sameT ok.im hq, ra.length.symm.trans hl.symm, h Hi H σ _ ok en ra Q q⟩
theorem as_asg {tg : Expr} (he : aE X e Γ M fun d M' => aG X tg d Γ M' k.nx) (hs : swapsWithSole [tg] e pos.line X.env = pure false := by rfl) (hw : swappedStores [tg] e X.env = pure none := by rfl) (h1 : (assignEach [tg] X.env).map (·.2) = [assign tg X.env] := by rfl) : aS X (.Assign [tg] e pos) Γ M k := fun Hi H σ ok en D q => by
  refine ⟨_, ps_asg pe_we pg_wg hs hw h1, ?_⟩
  refine he Hi H σ ok en _ fun x M1 v Hi1 H1 h1 s1 ok1 r1 => ?_
  exact h1 Hi1 H1 σ v ok1 (en.mono s1) r1 _ fun Γ2 M2 σ2 Hi2 H2 h2 s2 ok2 en2 => q.nx _ _ _ Hi2 H2 h2 (s1.trans s2) ok2 en2
theorem as_set {ps : Pos} (n : Nat) (hN : X.N.Nodup) (he : aE X e Γ M fun d M' => k.nx (Γ.set n (some d)) M') (hi : X.N[n]? = some x := by rfl) (hx : Loc X.env.scope x := by first | exact Or.inl rfl | exact Or.inr rfl)
    (hs : swapsWith e (some (.Name x ps)) pos.line X.env = pure false := by rfl) (hf : X.fn x = true ∨ X.env.scope.names.lookup x = some .local := by first | exact .inl rfl | exact .inr rfl | assumption) : aS X (.Assign [.Name x ps] e pos) Γ M k := fun Hi H σ ok en D q => by
  refine ⟨_, ps_set hN hi hx pe_we hs hf, ?_⟩
  exact he Hi H σ ok en _ fun x M1 v Hi1 H1 h1 s1 ok1 r1 => q.nx _ _ _ Hi1 H1 h1 s1 ok1 ((en.mono s1).set r1)
/-- a, b = e1, e2 -/
theorem as_par {px py pt : Pos} {kt k2 pt2} (n m : Nat) (hN : X.N.Nodup) (hc : X.calm = true) (hnm : n ≠ m) (he : aA X [a, b] Γ M fun ds M' => ∃ d1 d2, ds = [d1, d2] ∧ k.nx ((Γ.set n (some d1)).set m (some d2)) M')
    (hi : X.N[n]? = some x := by rfl) (hj : X.N[m]? = some y := by rfl) (hx : X.env.scope.names.lookup x = some .local := by rfl) (hy : X.env.scope.names.lookup y = some .local := by rfl)
    (hw : swappedStores [.Tuple [.Name x px, .Name y py] kt pt] (.Tuple [a, b] k2 pt2) X.env = pure (some [x, y]) := by rfl)
    (hs : swapsWithSole [.Tuple [.Name x px, .Name y py] kt pt] (.Tuple [a, b] k2 pt2) pos.line X.env = pure false := by rfl) : aS X (.Assign [.Tuple [.Name x px, .Name y py] kt pt] (.Tuple [a, b] k2 pt2) pos) Γ M k := fun Hi H σ ok en D q => by
  refine ⟨_, ps_par hc hN hi hj hnm hx hy pa_wa hw hs, ?_⟩
  refine he Hi H σ ok en _ fun ds M1 vs Hi1 H1 h1 s1 ok1 r1 => ?_
  obtain ⟨d1, d2, rfl, h2⟩ := h1
  cases r1 with
  | cons r1 r2 =>
    cases r2 with
    | cons r2 r3 =>
      cases r3
      exact ⟨_, _, rfl, q.nx _ _ _ Hi1 H1 h2 s1 ok1 (((en.mono s1).set r1).set r2)⟩
/-- x += e, whole numbers -/
theorem as_augI {op : Operator} {g : Int → Int → Int} {ps : Pos} (n : Nat) (hN : X.N.Nodup) (ho : PIp X op (ipI g)) (hΓ : Γ[n]? = some (some (.int i))) (he : aE X e Γ M fun d M' => ∃ j, d = .int j ∧ k.nx (Γ.set n (some (.int (g i j)))) M') (hi : X.N[n]? = some x := by rfl) (hx : Loc X.env.scope x := by first | exact Or.inl rfl | exact Or.inr rfl)
    (hf : X.fn x = true ∨ X.env.scope.names.lookup x = some .local := by first | exact .inl rfl | exact .inr rfl | assumption) : aS X (.AugAssign (.Name x ps) op e pos) Γ M k := fun Hi H σ ok en D q => by
  refine ⟨_, ps_aug hN hi hx pe_we ho hf, ?_⟩
  obtain ⟨v, hv, rv⟩ := en.2 n _ hΓ
  cases rv
  refine ⟨_, hv, ?_⟩
  refine he Hi H σ ok en _ fun x M1 v Hi1 H1 h1 s1 ok1 r1 => ?_
  obtain ⟨j, rfl, h2⟩ := h1
  cases r1
  exact ⟨i, j, rfl, rfl, q.nx _ _ _ Hi1 H1 h2 s1 ok1 ((en.mono s1).set (.int _))⟩
/-- xs[i] = e -/
theorem ag_sub {n : Nat} {p : Addr} {xs : List Val} {jj : Nat} {R : Gam → Mem → Prop} (ha : aV X a Γ M (.ptr p)) (hb : aV X b Γ M (.int i)) (hm : M[n]? = some (p, .lst xs)) (hj : ixN xs.length i = some jj) (h : R Γ (M.set n (p, .lst (xs.set jj d))))
    (hsl : ∀ v, assign (.Subscript a b pos) X.env v = (do
      let ov ← holding [v] (eval a X.env)
      let iv ← holding [v, ov] (eval b X.env)
      standAt pos
      holding [v, ov, iv] (setItem ov iv v)
      release [v, ov, iv] []) := by intro _; rfl) : aG X (.Subscript a b pos) d Γ M R := fun Hi H σ v ok en r Q q => by
  refine ⟨_, pg_sub pe_we pe_we set_list hsl, ?_⟩
  refine ha Hi H σ ok en _ fun x M1 v1 Hi1 H1 h1 s1 ok1 r1 => ?_
  obtain ⟨rfl, rfl⟩ := h1
  refine hb Hi1 H1 σ ok1 (en.mono s1) _ fun y M2 w Hi2 H2 h2 s2 ok2 r2 => ?_
  obtain ⟨rfl, rfl⟩ := h2
  cases r1
  cases r2
  obtain ⟨_, o, ho, ys, rfl, ra⟩ := ok2.get hm
  have s12 := s1.trans s2
  exact ⟨p, ys, i, jj, rfl, rfl, ho, by rw [← ra.length]; exact hj, q _ _ _ Hi2 _ h s12 (ok2.set hm ⟨_, rfl, ra.set (r.mono s12) jj⟩) (en.mono s12)⟩
/-! ### fields stored -/
theorem as_fld {C : Addr} {ps : Pos} (c : Cls X.K C) (na : NoAttr X.K C f) (he : aE X e Γ M fun d M' => aE X a Γ M' fun o M2 => ∃ n p fs, o = .ptr p ∧ M2[n]? = some (p, .ins C fs) ∧ fs.length < 1000 ∧ k.nx Γ (M2.set n (p, .ins C (putV f d fs))))
    (hs : swapsWith e (some (.Attribute a f ps)) pos.line X.env = pure false := by rfl) : aS X (.Assign [.Attribute a f ps] e pos) Γ M k := fun Hi H σ ok en D q => by
  refine ⟨_, ps_fld pe_we pe_we hs, ?_⟩
  refine he Hi H σ ok en _ fun d M1 v Hi1 H1 h1 s1 ok1 r1 => ?_
  refine h1 Hi1 H1 σ ok1 (en.mono s1) _ fun o M2 w Hi2 H2 h2 s2 ok2 r2 => ?_
  obtain ⟨n, p, fs, rfl, hm, hl, hk⟩ := h2
  cases r2
  obtain ⟨_, o, ho, dx, gs, rfl, rf⟩ := ok2.get hm
  refine ⟨p, C, dx, gs, rfl, ho, c, na, by rw [← rf.length]; exact hl, ?_⟩
  have s12 := s1.trans s2
  exact q.nx _ _ σ Hi2 _ hk s12 (ok2.set hm ⟨dx, _, rfl, rf.put (r1.mono s2)⟩) (en.mono s12)
/-! ### append -/
theorem ae_append {n0 : Nat} {p : Addr} {xs0 : List Val} (ha : aV X a Γ M (.ptr p)) (hm0 : M[n0]? = some (p, .lst xs0)) (he : aE X e Γ M fun y M2 => ∃ n xs, M2[n]? = some (p, .lst xs) ∧ xs.length < sizeLine ∧ P .non (M2.set n (p, .lst (xs ++ [y]))))
    (hbase : attributeBase a "append" X.env (eval a X.env) = eval a X.env := by rfl)
    (hfew : ((backTo pos (starEach [e] X.env)).all (fun x => !x.1) && (backToKw pos (keywordEach [] X.env)).all (fun x => x.1.isSome)
      && decide (([e] : List Expr).length + ([] : List Keyword).length + (if ([] : List Keyword).isEmpty then 0 else 1) < 30)) = true := by rfl)
    (hline : (apos.endLine == pos.line) = true := by rfl) (hs : starEach [e] X.env = (false, eval e X.env) :: starEach [] X.env := by rfl) : aE X (.Call (.Attribute a "append" apos) [e] [] pos) Γ M P := fun Hi H σ ok en Q q => by
  refine ⟨_, pe_bm PySem.F.plainAttrs_list PySem.F.slot_list_append PySem.F.type_list_append mt_append pe_we (pa_cons pe_we pa_nil hs) hbase hfew hline hs rfl, ?_⟩
  refine ha Hi H σ ok en _ fun d M1 v Hi1 H1 h1 s1 ok1 r1 => ?_
  obtain ⟨rfl, rfl⟩ := h1
  cases r1
  obtain ⟨_, o, ho, ys, rfl, ra⟩ := ok1.get hm0
  refine ⟨.inl ⟨rfl, _, SqL.of ho⟩, ?_⟩
  refine he Hi1 H1 σ ok1 (en.mono s1) _ fun y M2 w Hi2 H2 h2 s2 ok2 r2 => ?_
  obtain ⟨n, xs, hm, hl, hp⟩ := h2
  obtain ⟨_, o, ho2, zs, rfl, rz⟩ := ok2.get hm
  exact ⟨p, zs, w, rfl, rfl, ho2, by rw [← rz.length]; exact hl, q _ _ _ Hi2 _ hp (s1.trans s2) (ok2.set hm ⟨_, rfl, rz.append (.cons r2 .nil)⟩) .non⟩
/-! ### loops -/
def WI (X : Cx) (tg iter : Expr) : TI := fun σ H R => ∃ t, PI X tg iter t ∧ t σ H R
theorem pi_wi {tg iter : Expr} : PI X tg iter (WI X tg iter) := ⟨fun pins s σ H R I ⟨t, p, h⟩ => p.run pins s σ H R I h⟩
/-- n turns, the i-th gives it i; while G holds of the cells -/
def aI (X : Cx) (tg iter : Expr) (Γ : Gam) (M : Mem) (n : Nat) (it : Nat → Val) (G : Mem → Prop) (P : Mem → Prop) : Prop := ∀ Hi H σ, Ok X.K Hi M H → EnvR X.K Hi Γ σ → ∀ R : It → Hp → Prop,
  (∀ J M1 Hi1 H1, P M1 → Same Hi Hi1 → Ok X.K Hi1 M1 H1 →
    Walk J n (fun H' => ∃ Hi' M', Same Hi1 Hi' ∧ Ok X.K Hi' M' H' ∧ G M') (fun i H' v H'' => ∀ Hi' M', Same Hi1 Hi' → Ok X.K Hi' M' H' → G M' → ∃ Hi'', Same Hi' Hi'' ∧ Ok X.K Hi'' M' H'' ∧ Rep X.K Hi'' (it i) v) → R J H1) → WI X tg iter σ H R
theorem as_for {tg iter : Expr} {body : List Stmt} {n : Nat} {it : Nat → Val} {G : Mem → Prop} (I : Nat → Gam → Mem → Prop) (hp : PassesOwn (model X.prog X.w) X.A X.env X.xe) (hc : X.calm = true) (hi : aI X tg iter Γ M n it G (I 0 Γ)) (hG : ∀ i Γ M, i ≤ n → I i Γ M → G M)
    (hs : ∀ i Γ M, i < n → I i Γ M → aG X tg (it i) Γ M fun Γ2 M2 => aSs X body Γ2 M2 { k with nx := I (i + 1), ct := I (i + 1), bk := k.nx }) (hd : ∀ Γ M, I n Γ M → k.nx Γ M)
    (hf : ∀ x, foldedSetIterable iter X.env x = pure x := by intro _; rfl) : aS X (.For tg iter body [] pos) Γ M k := fun Hi H σ ok en D q => by
  refine ⟨_, ps_for hp hc pi_wi pg_wg pss_wb hf, ?_⟩
  refine hi Hi H σ ok en _ fun J M1 Hi1 H1 h1 s1 ok1 w => ?_
  refine for_it w (fun i σ' H' => ∃ Γ' M' Hi', I i Γ' M' ∧ Same Hi1 Hi' ∧ Ok X.K Hi' M' H' ∧ EnvR X.K Hi' Γ' σ') ⟨Γ, M1, Hi1, h1, Same.refl _, ok1, en.mono s1⟩ ?_ ?_ ?_
  · rintro i σ' H' hi ⟨Γ', M', Hi', h2, s2, ok2, en2⟩
    exact ⟨Hi', M', s2, ok2, hG i Γ' M' hi h2⟩
  · rintro i v σ' H' H'' hi ⟨Γ', M', Hi', h2, s2, ok2, en2⟩ hy
    obtain ⟨Hi3, s3, ok3, r3⟩ := hy Hi' M' s2 ok2 (hG i Γ' M' (Nat.le_of_lt hi) h2)
    have s13 := (s1.trans s2).trans s3
    refine hs i Γ' M' hi h2 Hi3 H'' σ' v ok3 (en2.mono s3) r3 _ fun Γ4 M4 σ4 Hi4 H4 h4 s4 ok4 en4 => ?_
    have s24 := (s2.trans s3).trans s4
    exact h4 Hi4 H4 σ4 ok4 en4 _ ⟨fun Γ5 M5 σ5 Hi5 H5 h5 s5 ok5 en5 => ⟨Γ5, M5, Hi5, h5, s24.trans s5, ok5, en5⟩, (q.up (s13.trans s4)).rt, (q.up (s13.trans s4)).nx, fun Γ5 M5 σ5 Hi5 H5 h5 s5 ok5 en5 => ⟨Γ5, M5, Hi5, h5, s24.trans s5, ok5, en5⟩⟩
  · rintro σ' H' ⟨Γ', M', Hi', h2, s2, ok2, en2⟩
    exact q.nx Γ' M' σ' Hi' H' (hd Γ' M' h2) (s1.trans s2) ok2 en2
theorem as_while {body : List Stmt} (I : Nat → Gam → Mem → Prop) (n : Nat) (hp : PassesOwn (model X.prog X.w) X.A X.env X.xe) (h0 : I n Γ M)
    (hs : ∀ n Γ M, I n Γ M → aT X c Γ M fun b M1 => (b = true → aSs X body Γ M1 { k with nx := fun Γ' M' => ∃ m, m < n ∧ I m Γ' M', ct := fun Γ' M' => ∃ m, m < n ∧ I m Γ' M', bk := k.nx }) ∧ (b = false → k.nx Γ M1)) : aS X (.While c body [] pos) Γ M k := fun Hi H σ ok en D q => by
  refine ⟨_, ps_while hp pt_wt pss_wb, ?_⟩
  refine ⟨fun m σ' H' => ∃ Γ' M' Hi', I m Γ' M' ∧ Same Hi Hi' ∧ Ok X.K Hi' M' H' ∧ EnvR X.K Hi' Γ' σ', ⟨n, Γ, M, Hi, h0, Same.refl _, ok, en⟩, ?_⟩
  rintro m σ' H' ⟨Γ', M', Hi', h2, s2, ok2, en2⟩
  refine hs m Γ' M' h2 Hi' H' σ' ok2 en2 _ fun b M3 Hi3 H3 h3 s3 ok3 => ?_
  cases b with
  | true =>
    refine iteT ⟨fun σ5 H5 => ∃ Γ5 M5 Hi5, (∃ m', m' < m ∧ I m' Γ5 M5) ∧ Same Hi3 Hi5 ∧ Ok X.K Hi5 M5 H5 ∧ EnvR X.K Hi5 Γ5 σ5, ?_, ?_⟩
    · rintro σ5 H5 ⟨Γ5, M5, Hi5, ⟨m', hl, h5⟩, s5, ok5, en5⟩
      exact ⟨m', hl, Γ5, M5, Hi5, h5, (s2.trans s3).trans s5, ok5, en5⟩
    · have q3 := q.up (s2.trans s3)
      exact h3.1 rfl Hi3 H3 σ' ok3 (en2.mono s3) _ ⟨fun Γ5 M5 σ5 Hi5 H5 h5 s5 ok5 en5 => ⟨Γ5, M5, Hi5, h5, s5, ok5, en5⟩, q3.rt, q3.nx, fun Γ5 M5 σ5 Hi5 H5 h5 s5 ok5 en5 => ⟨Γ5, M5, Hi5, h5, s5, ok5, en5⟩⟩
  | false => exact iteF (q.nx Γ' M3 σ' Hi3 H3 (h3.2 rfl) (s2.trans s3) ok3 (en2.mono s3))
/-! ### what is walked -/
theorem Sq.at {K : PySem.W.Frag} {H : Hp} {ds : List Val} {vs : List V} {i : Nat} {v : V} (r : RepA K H ds vs) (h : vs[i]? = some v) : Rep K H (ds.getD i .non) v := by
  obtain ⟨d, h1, h2⟩ := r.getV h
  rw [List.getD_eq_getElem?_getD, h1]
  exact h2
theorem ai_lst {tg : Expr} {R : Mem → Prop} {xs : List Val} (ha : aE X a Γ M fun d M' => d = .lst xs ∧ R M') : aI X tg a Γ M xs.length (fun i => xs.getD i .non) (fun _ => True) R := fun Hi H σ ok en R' q => by
  refine ⟨_, pi_list pe_we, ?_⟩
  refine ha Hi H σ ok en _ fun d M1 v Hi1 H1 h1 s1 ok1 r1 => ?_
  obtain ⟨rfl, hp⟩ := h1
  cases r1 with
  | @lst p ys _ hq ra =>
    refine ⟨p, rfl, ⟨ys, ok1.im.seq hq⟩, q _ M1 Hi1 H1 hp s1 ok1 ?_⟩
    rw [ra.length]
    refine walk_list.mono (fun H' hG => ?_) fun i H' v H'' hi hG hy Hi' M' s2 ok2 _ => ?_
    · obtain ⟨Hi', M', s2, ok2, _⟩ := hG
      exact ok2.im.seq (s2.seq hq)
    · obtain ⟨rfl, hv⟩ := hy
      exact ⟨Hi', Same.refl _, ok2, (Sq.at ra hv).mono s2⟩
theorem ai_tup {tg : Expr} {R : Mem → Prop} {xs : List Val} (ha : aE X a Γ M fun d M' => d = .tup xs ∧ R M') : aI X tg a Γ M xs.length (fun i => xs.getD i .non) (fun _ => True) R := fun Hi H σ ok en R' q => by
  refine ⟨_, pi_tup pe_we, ?_⟩
  refine ha Hi H σ ok en _ fun d M1 v Hi1 H1 h1 s1 ok1 r1 => ?_
  obtain ⟨rfl, hp⟩ := h1
  cases r1 with
  | @tup p ys _ hq ra =>
    refine ⟨p, rfl, ⟨ys, sameT ok1.im hq⟩, q _ M1 Hi1 H1 hp s1 ok1 ?_⟩
    rw [ra.length]
    refine walk_tup.mono (fun H' hG => ?_) fun i H' v H'' hi hG hy Hi' M' s2 ok2 _ => ?_
    · obtain ⟨Hi', M', s2, ok2, _⟩ := hG
      exact sameT ok2.im (sameT s2 hq)
    · obtain ⟨rfl, hv⟩ := hy
      exact ⟨Hi', Same.refl _, ok2, (Sq.at ra hv).mono s2⟩
theorem ai_range1 {tg : Expr} {R : Mem → Prop} {n : Nat} (hm : X.mg "range" = none) (ha : aE X a Γ M fun d M' => ∃ j : Int, d = .int j ∧ j.toNat = n ∧ -(2 ^ 62) ≤ j ∧ j < 2 ^ 62 ∧ R M') (hg : Gl X "range" := by rfl) (hs : starEach [a] X.env = [(false, eval a X.env)] := by rfl) :
    aI X tg (.Call (.Name "range" p1) [a] [] pos) Γ M n (fun i => .int (0 + i)) (fun _ => True) R := fun Hi H σ ok en R' q => by
  refine ⟨_, pi_range1 hg hm (pa_cons pe_we pa_nil hs) hs, ?_⟩
  refine ha Hi H σ ok en _ fun d M1 v Hi1 H1 h1 s1 ok1 r1 => ?_
  obtain ⟨j, rfl, rfl, hl, hh, hp⟩ := h1
  cases r1
  refine ⟨j, rfl, hl, hh, q _ M1 Hi1 H1 hp s1 ok1 ?_⟩
  refine walk_range.mono (fun _ _ => trivial) fun i H' v H'' hi hG hy Hi' M' s2 ok2 _ => ?_
  obtain ⟨rfl, rfl⟩ := hy
  exact ⟨Hi', Same.refl _, ok2, .int _⟩
theorem ai_range2 {tg : Expr} {R : Mem → Prop} {n : Nat} {lo : Int} (hm : X.mg "range" = none) (ha : aA X [a, b] Γ M fun ds M' => ∃ hi : Int, ds = [.int lo, .int hi] ∧ (hi - lo).toNat = n ∧ (-(2 ^ 62) ≤ lo ∧ lo < 2 ^ 62 ∧ -(2 ^ 62) ≤ hi ∧ hi < 2 ^ 62) ∧ R M') (hg : Gl X "range" := by rfl)
    (hs : starEach [a, b] X.env = [(false, eval a X.env), (false, eval b X.env)] := by rfl) (hs2 : starEach [b] X.env = [(false, eval b X.env)] := by rfl) :
    aI X tg (.Call (.Name "range" p1) [a, b] [] pos) Γ M n (fun i => .int (lo + i)) (fun _ => True) R := fun Hi H σ ok en R' q => by
  refine ⟨_, pi_range2 hg hm pa_wa hs hs2, ?_⟩
  refine ha Hi H σ ok en _ fun d M1 v Hi1 H1 h1 s1 ok1 r1 => ?_
  obtain ⟨hi, rfl, rfl, hb, hp⟩ := h1
  cases r1 with
  | cons r1 r2 =>
    cases r2 with
    | cons r2 r3 =>
      cases r3
      cases r1
      cases r2
      refine ⟨lo, hi, rfl, hb, q _ M1 Hi1 H1 hp s1 ok1 ?_⟩
      refine walk_range.mono (fun _ _ => trivial) fun i H' v H'' hi hG hy Hi' M' s2 ok2 _ => ?_
      obtain ⟨rfl, rfl⟩ := hy
      exact ⟨Hi', Same.refl _, ok2, .int _⟩
end
end Ab
namespace Ab
open PySem PySem.Spec PyProof.Rows L2
/-! ### promises -/
/-- positional arguments, cells, what follows -/
abbrev ASp := List Val → Mem → (Val → Mem → Prop) → Prop
/-- .. and the keywords' values -/
abbrev ASx := List Val → List Val → Mem → (Val → Mem → Prop) → Prop
def spA (K : PySem.W.Frag) (s : ASp) : Sp := fun vs H Q _ => ∃ Hi M ds P, RepA K Hi ds vs ∧ Ok K Hi M H ∧ s ds M P ∧ Post K Hi P Q
def spX (K : PySem.W.Frag) (s : ASx) (vs zs : List V) (H : Hp) (Q : VK) : Prop := ∃ Hi M ds es P, RepA K Hi ds vs ∧ RepA K Hi es zs ∧ Ok K Hi M H ∧ s ds es M P ∧ Post K Hi P Q
/-- the end of a def: cells of its own are forgotten, or will change no more -/
inductive Ret (P : Val → Mem → Prop) : Val → Mem → Prop
  | ok {d : Val} {M : Mem} : P d M → Ret P d M
  | drop {d : Val} {M : Mem} {c : Addr × Cell} : Ret P d M → Ret P d (c :: M)
  | frz {p : Addr} {xs : List Val} {M : Mem} : Ret P (.lst xs) M → Ret P (.ptr p) ((p, .lst xs) :: M)
  | obj {p C : Addr} {fs : List (Str × Val)} {M : Mem} : Ret P (.obj C fs) M → Ret P (.ptr p) ((p, .ins C fs) :: M)
  | tr {d : Val} {M M' : Mem} : (∀ K Hi H, Ok K Hi M H → Ok K Hi M' H) → Ret P d M' → Ret P d M
theorem Ret.post {K : PySem.W.Frag} {P : Val → Mem → Prop} {Q : VK} {d : Val} {M : Mem} (h : Ret P d M) : ∀ {Hi Hi' H' : Hp} {v : V}, Post K Hi P Q → Same Hi Hi' → Ok K Hi' M H' → Rep K Hi' d v → Q v H' := by
  induction h with
  | ok hp => exact fun q s ok r => q _ _ _ _ _ hp s ok r
  | drop _ ih => exact fun q s ok r => ih q s (Ok.tail ok) r
  | tr t _ ih => exact fun q s ok r => ih q s (t _ _ _ ok) r
  | frz _ ih =>
    intro Hi Hi' H' v q s ok r
    obtain ⟨e0, o, ho, vs, rfl, ra⟩ := ok.ce _ _ List.mem_cons_self
    cases r
    have s2 := same_upd (o := .lst vs) e0
    exact ih q (s.trans s2) (ok.freeze ho) (.lst (SqL.of upd_same) (ra.mono s2))
  | @obj p C fs M _ ih =>
    intro Hi Hi' H' v q s ok r
    obtain ⟨e0, o, ho, dx, gs, rfl, ra⟩ := ok.ce _ _ List.mem_cons_self
    cases r
    have s2 := same_upd (o := .ins C dx gs) e0
    exact ih q (s.trans s2) (ok.freeze ho) (.obj upd_same (ra.mono s2))
/-- the slots at a def's entry -/
def gam (N : List Str) (ds : List Val) : Gam := ds.map some ++ List.replicate (N.length - ds.length) none
theorem env_start {K : PySem.W.Frag} {H : Hp} {N : List Str} {ds : List Val} {vs : List V} (r : RepA K H ds vs) : EnvR K H (gam N ds) (L2.start N vs) := by
  refine ⟨by simp [gam, L2.start, r.length], fun i d h => ?_⟩
  unfold gam at h
  unfold L2.start
  by_cases hi : i < ds.length
  · rw [List.getElem?_append_left (by simpa using hi), List.getElem?_map] at h
    obtain ⟨d', h1, h2⟩ := Option.map_eq_some_iff.mp h
    cases h2
    obtain ⟨v, h3, h4⟩ := r.get h1
    refine ⟨v, ?_, h4⟩
    rw [List.getElem?_append_left (by rw [List.length_map, ← r.length]; exact hi), List.getElem?_map, h3]
    rfl
  · rw [List.getElem?_append_right (by simpa using Nat.le_of_not_lt hi)] at h
    have := List.mem_of_getElem? h
    rw [List.mem_replicate] at this
    cases this.2
abbrev kOf (P : Val → Mem → Prop) : AK := { nx := fun _ M => Ret P .non M, rt := Ret P }
/-- the context of a def's body -/
abbrev bcx (P : Program) (w : World) (K : PySem.W.Frag) (mg : Str → Option Value) (base : Heap) (N : List Str) (qual : Str) (sc : Scope) (f : Addr) (cdv : Value) (A : Around) (outer : List Env) (s : Shared) (H : Hp) (E : XK) : Cx := (cxOf CX0 P w K mg base N qual sc f cdv A outer s H E).nox
/-- room for k calls, nothing guarded -/
structure Rm (k : Nat) (A : Around) : Prop where
  room : Room k A
  gd : A.guards = some []
theorem Rm.mono {j k : Nat} {A : Around} (r : Rm k A) (h : j ≤ k) : Rm j A := ⟨r.room.mono h, r.gd⟩
theorem Rm.deeper {k : Nat} {A : Around} (r : Rm (k + 1) A) (env : Env) : Rm k (A.deeper env) := ⟨r.room.deeper env, r.gd⟩
theorem Rm.in1 {k : Nat} {A : Around} (r : Rm (k + 1) A) : Rm k A.in1 := ⟨r.room.in1, r.gd⟩
theorem Rm.make {k : Nat} {A : Around} (r : Rm (k + 1) A) (C : Addr) (us : List Value) (kw : List (Str × Value)) : Rm k (A.under (.builtin "type.__call__" ⟨.ref C :: us, kw⟩)) := ⟨r.room.make C us kw, by
  show pushGuards (Code.builtin "type.__call__" ⟨.ref C :: us, kw⟩).guards A.guards = some []
  rw [r.gd]
  first | rfl | simp [Code.guards, pushGuards]⟩
theorem Rm.u1 {k : Nat} {A : Around} (r : Rm k A) : A.units + 1 < cLine := hu_of r.room
theorem Rm.u64 {k : Nat} {A : Around} (r : Rm k A) : A.units + 64 < cLine := Nat.lt_of_le_of_lt (by omega) r.room.un
section
variable {P : Program} {w : World} {K : PySem.W.Frag} {mg : Str → Option Value} {base : Heap}
theorem body_of {N : List Str} {qual : Str} {sc : Scope} {f : Addr} {cdv : Value} {A : Around} {outer : List Env} {s : Shared} {H : Hp} {E : XK} {body : List Stmt} {s0 : ASp} {vs : List V} {Q : VK}
    (hb : ∀ ds M R, s0 ds M R → aSs (bcx P w K mg base N qual sc f cdv A outer s H E) body (gam N ds) M (kOf R)) (h : spA K s0 vs H Q E) :
    ∃ t, PSs (bcx P w K mg base N qual sc f cdv A outer s H E) body t ∧ t { nx := fun _ H' => Q .non H', rt := Q } (L2.start N vs) H := by
  obtain ⟨Hi, M, ds, R, r, ok, hs, q⟩ := h
  refine hb ds M R hs Hi H _ ok (env_start r) _ ⟨fun Γ M' σ Hi' H' h1 s1 ok1 _ => h1.post q s1 ok1 .non, fun d M' v Hi' H' h1 s1 ok1 r1 => h1.post q s1 ok1 r1, fun _ _ _ _ _ z => z.elim, fun _ _ _ _ _ z => z.elim⟩
/-- a def by its call: ks the keywords of the call -/
structure FnX (P : Program) (w : World) (K : PySem.W.Frag) (mg : Str → Option Value) (base : Heap) (k : Nat) (f : Addr) (ks : List Str) (sp : List V → List V → Hp → VK → Prop) : Prop where
  run : ∀ (A : Around) (outer : List Env) (s : Shared) (H : Hp) (us ws : List Value) (vs zs : List V) (Q : VK), Rm k A → Env0 P w K mg base A outer s H → Vals vs us → Vals zs ws → zs.length = ks.length → sp vs zs H Q →
    codeAny (model P w) A (.call (.ref f) ⟨us, ks.zip ws⟩) (CR CX0 outer P w H s Q E0) s
theorem FnX.mono {j k : Nat} {f : Addr} {ks : List Str} {sp : List V → List V → Hp → VK → Prop} (F : FnX P w K mg base j f ks sp) (h : j ≤ k) : FnX P w K mg base k f ks sp := ⟨fun A outer s H us ws vs zs Q hr => F.run A outer s H us ws vs zs Q (hr.mono h)⟩
/-- what a def's body must do, in every context in which it may be called -/
abbrev BodyOk (P : Program) (w : World) (K : PySem.W.Frag) (mg : Str → Option Value) (base : Heap) (k : Nat) (f : Addr) (N : List Str) (qual : Str) (sc : Scope) (body : List Stmt) (s0 : ASp) : Prop :=
  ∀ cdv A outer s H E, Rm k (A.deeper (envOfC qual sc s.heap.objs.size f cdv)) → ∀ ds M R, s0 ds M R → aSs (bcx P w K mg base N qual sc f cdv A outer s H E) body (gam N ds) M (kOf R)
theorem fnx_kbn {x qual : Str} {params : Arguments} {body : List Stmt} {sc : Scope} {dvs : List V} {kws : List (Str × V)} {f : Addr} {fd : FuncData} {N ps ks : List Str} {k n : Nat} {s0 : ASp} {g : List Value → List Value → List Value} {gV : List V → List V → List V} (gA : List Val → List Val → List Val)
    (F : FunD K x qual params body sc dvs kws f fd) (S : FnScope N ps sc) (b : KBn K fd ps n ks g gV)
    (hrel : ∀ H ds vs es zs, RepA K H ds vs → RepA K H es zs → ds.length = n → es.length = ks.length → RepA K H (gA ds es) (gV vs zs)) (len : ∀ ds M R, s0 ds M R → ds.length = ps.length)
    (hb : BodyOk P w K mg base k f N qual sc body s0) : FnX P w K mg base (k + 1) f ks (spX K fun ds es M R => ds.length = n ∧ s0 (gA ds es) M R) := by
  refine ⟨fun A outer s H us ws vs zs Q hr e0 r rz hz ⟨Hi, M, ds, es, R, ra, re, ok, ⟨hn, hs⟩, q⟩ => ?_⟩
  obtain ⟨oc, od, dV, kV, doc, pm, an, cdv, ct, osl, rfl, lk, hcd, _, _⟩ := F.ex
  have KX : K.In s.heap := e0.mod.kin.keeps fun b o e => (e0.bs b o e).1
  have hbt := b.to s us ws KX (by rw [← r.length, ← ra.length]; exact hn) (by rw [← rz.length]; exact hz)
  have rg := hrel Hi ds vs es zs ra re hn (re.length.trans hz)
  have hl : (gV vs zs).length = ps.length := rg.length.symm.trans (len _ _ _ hs)
  refine StX.run_bnd (CX := CX0) (E := E0) (G := fun vs' H2 => vs' = gV vs zs ∧ H2 = H) lk hcd S hr.room e0 (fun A' Ex Q' h => ?_) fun s2 H2 vs' hG hr' => ?_
  · exact hbt _ _ _ _ (h s H (gV vs zs) (g us ws) e0 Un.refl rfl (fun _ _ z => z) (b.rel r rz) hl ⟨rfl, rfl⟩)
  · obtain ⟨rfl, rfl⟩ := hG
    obtain ⟨t, p, z⟩ := body_of (hb cdv A outer s2 H2 E0 (hr.deeper _)) (Q := Q) (vs := gV vs zs) ⟨Hi, M, gA ds es, R, rg, ok, hs, q⟩
    exact ⟨t, p.nox, z⟩
theorem fun_d {x qual : Str} {st : Stmt} {f : Addr} {fd : FuncData} (F : Fun K x qual st f fd) : FunD K x qual (defArgs st) (defBody st) (defScope st) [] [] f fd := by
  obtain ⟨⟨oc, od, kV, doc, pm, an, cdv, ct, osl, rfl, lk, hcd⟩, kp⟩ := F
  exact ⟨⟨oc, od, .none, kV, doc, pm, an, cdv, ct, osl, rfl, lk, hcd, .inl ⟨rfl, rfl⟩, .inl rfl⟩, kp⟩
end
/-! ### calls -/
section
variable {X : Cx} {Γ : Gam} {M : Mem} {P : Val → Mem → Prop} {e a b c o : Expr} {es : List Expr} {kws : List Keyword} {pos p1 p2 apos kpos : Pos} {k : AK} {d d1 d2 d3 : Val} {i j : Int} {x y m : Str} {n : Nat} {f C : Addr} {ks : List Str} {sx : ASx} {nm : Option Str}
theorem run_x {pins : List (Addr × Obj)} {σ : L2.St} {H : Hp} {s : Shared} {Q : VK} {us ws : List Value} {vs zs : List V} {sp : List V → List V → Hp → VK → Prop} (F : FnX X.prog X.w X.K X.mg X.base n f ks sp) (hr : Rm n X.A)
    (I : Inv X pins σ H s) (r : Vals vs us) (rz : Vals zs ws) (l2 : zs.length = ks.length) (h : sp vs zs H Q) : wpAny (model X.prog X.w) X.A (call (.ref f) us (ks.zip ws)) (EP X pins σ Q) X.xe s := by
  refine wpAny_call (codeAny_mono (F.run X.A X.stack s H us ws vs zs Q hr I.env0 r rz l2 h) fun r s' hq => ?_)
  cases r with
  | error e => exact False.elim hq
  | ok fl =>
    cases fl with
    | ret u => exact I.after hq
    | next => exact False.elim hq
    | brk => exact False.elim hq
    | cont => exact False.elim hq
def aKw (X : Cx) (kws : List Keyword) (Γ : Gam) (M : Mem) (P : List Val → Mem → Prop) : Prop := ∀ Hi H σ, Ok X.K Hi M H → EnvR X.K Hi Γ σ → ∀ Q, PostA X.K Hi P Q → ∃ t, PK X kws t ∧ t σ H Q
def WK (X : Cx) (kws : List Keyword) : TA := fun σ H Q => ∃ t, PK X kws t ∧ t σ H Q
theorem pk_wk : PK X kws (WK X kws) := ⟨fun pos pins s σ H Q I ⟨t, p, h⟩ => p.run pos pins s σ H Q I h⟩
theorem ak_nil {P : List Val → Mem → Prop} (h : P [] M) : aKw X [] Γ M P := fun Hi H σ ok en Q q => ⟨_, pk_nil, q _ _ _ Hi H h (Same.refl _) ok .nil⟩
theorem ak_cons {P : List Val → Mem → Prop} (h : aE X e Γ M fun x M1 => aKw X kws Γ M1 fun xs M2 => P (x :: xs) M2) : aKw X (⟨nm, e, kpos⟩ :: kws) Γ M P := fun Hi H σ ok en Q q => by
  refine ⟨_, pk_cons pe_we pk_wk, ?_⟩
  refine h Hi H σ ok en _ fun x M1 v Hi1 H1 h1 s1 ok1 r1 => ?_
  exact h1 Hi1 H1 σ ok1 (en.mono s1) _ fun xs M2 vs Hi2 H2 h2 s2 ok2 r2 => q _ _ _ Hi2 H2 h2 (s1.trans s2) ok2 (.cons (r1.mono s2) r2)
/-- f(e, .., k = v, ..) -/
theorem ae_call (F : FnX X.prog X.w X.K X.mg X.base n f ks (spX X.K sx)) (hr : Rm n X.A) (hm : X.mg x = some (.ref f)) (hk : PySem.W.keepIn X.K (.ref f) = true) (h : aA X (e :: es) Γ M fun ds M1 => aKw X kws Γ M1 fun zs M2 => zs.length = ks.length ∧ sx ds zs M2 P)
    (hg : Gl X x := by rfl) (hall : (backToKw pos (keywordEach kws X.env)).all (·.1.isSome) = true := by rfl) (hks : (backToKw pos (keywordEach kws X.env)).filterMap (·.1) = ks := by rfl) (hdb : (x == ("__debug__" : Str)) = false := by decide)
    (he : starEach (e :: es) X.env = (false, eval e X.env) :: starEach es X.env := by rfl) (hpl : ((backTo pos (starEach (e :: es) X.env)).any (·.1) || (backToKw pos (keywordEach kws X.env)).any (·.1.isNone)) = false := by rfl) : aE X (.Call (.Name x p1) (e :: es) kws pos) Γ M P := fun Hi H σ ok en Q q => by
  refine ⟨fun σ H Q => WA X (e :: es) σ H fun vs H1 => WK X kws σ H1 fun zs H2 => zs.length = ks.length ∧ spX X.K sx vs zs H2 Q, ⟨fun pins s σ H Q I h => ?_⟩, ?_⟩
  · refine wpAny_Call_Name_kw (ld_glob I hg hm ?_ hdb)
    refine PySem.W.callWith_KW (h₀ := X.base) I.ok.mod.kin hk hall (thn (pa_wa.run pos pins s σ H _ I h) fun us s1 ⟨vs, H1, I1, r, q⟩ => ?_) hpl he
    refine thn (pk_wk.run pos pins s1 σ H1 _ I1 q) fun ws s2 ⟨zs, H2, I2, rz, l2, q2⟩ => ⟨I2.kIn, ?_⟩
    rw [hks]
    exact run_x F hr I2 r rz l2 q2
  · refine h Hi H σ ok en _ fun ds M1 vs Hi1 H1 h1 s1 ok1 r1 => ?_
    refine h1 Hi1 H1 σ ok1 (en.mono s1) _ fun zs M2 ws Hi2 H2 h2 s2 ok2 r2 => ?_
    exact ⟨r2.length.symm.trans h2.1, Hi2, M2, ds, zs, P, r1.mono s2, r2, ok2, h2.2, q.up (s1.trans s2)⟩
theorem ae_call0 (F : FnX X.prog X.w X.K X.mg X.base n f ks (spX X.K sx)) (hr : Rm n X.A) (hm : X.mg x = some (.ref f)) (hk : PySem.W.keepIn X.K (.ref f) = true) (h : aKw X kws Γ M fun zs M2 => zs.length = ks.length ∧ sx [] zs M2 P)
    (hg : Gl X x := by rfl) (hall : (backToKw pos (keywordEach kws X.env)).all (·.1.isSome) = true := by rfl) (hks : (backToKw pos (keywordEach kws X.env)).filterMap (·.1) = ks := by rfl) (hdb : (x == ("__debug__" : Str)) = false := by decide)
    (hpl : ((backTo pos (starEach [] X.env)).any (·.1) || (backToKw pos (keywordEach kws X.env)).any (·.1.isNone)) = false := by rfl) : aE X (.Call (.Name x p1) [] kws pos) Γ M P := fun Hi H σ ok en Q q => by
  refine ⟨fun σ H Q => WK X kws σ H fun zs H2 => zs.length = ks.length ∧ spX X.K sx [] zs H2 Q, ⟨fun pins s σ H Q I h => ?_⟩, ?_⟩
  · refine wpAny_Call_Name_kw (ld_glob I hg hm ?_ hdb)
    refine PySem.W.callWith_KW0 (h₀ := X.base) I.ok.mod.kin hk hall ?_ hpl
    refine thn (pk_wk.run pos pins s σ H _ I h) fun ws s2 ⟨zs, H2, I2, rz, l2, q2⟩ => ⟨I2.kIn, ?_⟩
    rw [hks]
    exact run_x F hr I2 .nil rz l2 q2
  · refine h Hi H σ ok en _ fun zs M2 ws Hi2 H2 h2 s2 ok2 r2 => ?_
    exact ⟨r2.length.symm.trans h2.1, Hi2, M2, [], zs, P, .nil, r2, ok2, h2.2, q.up s2⟩
/-- o.m(e, .., k = v, ..) -/
theorem ae_meth {pl : Sem Bool} {fs : List (Str × Val)} (c : Cls X.K C) (hm : Meth X.K C m f) (F : FnX X.prog X.w X.K X.mg X.base n f ks (spX X.K sx)) (hr : Rm n X.A) (ho : aV X o Γ M d) (hob : Ob M C d fs) (hl : fs.lookup m = none)
    (h : aA X (e :: es) Γ M fun ds M1 => aKw X kws Γ M1 fun zs M2 => zs.length = ks.length ∧ sx (d :: ds) zs M2 P)
    (hall : (backToKw pos (keywordEach kws X.env)).all (·.1.isSome) = true := by rfl) (hks : (backToKw pos (keywordEach kws X.env)).filterMap (·.1) = ks := by rfl)
    (he : starEach (e :: es) X.env = (false, eval e X.env) :: starEach es X.env := by rfl) (hpl : ((backTo pos (starEach (e :: es) X.env)).any (·.1) || (backToKw pos (keywordEach kws X.env)).any (·.1.isNone)) = false := by rfl)
    (ht : eval (.Call (.Attribute o m apos) (e :: es) kws pos) X.env = (do
      let ov ← eval o X.env
      standAt apos.atName
      let (f, first) ← holding [ov] (getMethod ov m pl)
      callWith pos f first (backTo pos (starEach (e :: es) X.env)) (backToKw pos (keywordEach kws X.env))) := by rfl) : aE X (.Call (.Attribute o m apos) (e :: es) kws pos) Γ M P := fun Hi H σ ok en Q q => by
  refine ⟨fun σ H Q => WE X o σ H fun x H0 => ∃ a dx fs, x = .ref a ∧ H0 a = some (.ins C dx fs) ∧ fs.lookup m = none ∧ WA X (e :: es) σ H0 fun vs H1 => WK X kws σ H1 fun zs H2 => zs.length = ks.length ∧ spX X.K sx (x :: vs) zs H2 Q, ⟨fun pins s σ H Q I h => ?_⟩, ?_⟩
  · refine PySem.W.methodCall_KW (pl := pl) (thn (pe_we.run pins s σ H _ I h) fun u s1 ⟨x, H1, I1, rx, a, dx, fs, ex, ea, l, q⟩ => ?_) ht
    subst ex
    obtain rfl : u = Value.ref a := rx
    refine getmeth_ok I1 ea c hm l ?_
    refine PySem.W.callWith_KW (first := [.ref a]) (h₀ := X.base) I.ok.mod.kin hm.kp hall (thn (pa_wa.run pos pins s1 σ H1 _ I1 q) fun us s2 ⟨vs, H2, I2, r, q2⟩ => ?_) hpl he
    refine thn (pk_wk.run pos pins s2 σ H2 _ I2 q2) fun ws s3 ⟨zs, H3, I3, rz, l2, q3⟩ => ⟨I3.kIn, ?_⟩
    rw [hks]
    exact run_x (us := .ref a :: us) (vs := .ref a :: vs) F hr I3 (.cons rfl r) rz l2 q3
  · refine ho Hi H σ ok en _ fun x M0 v0 Hi0 H0 h0 s0 ok0 r0 => ?_
    obtain ⟨rfl, rfl⟩ := h0
    obtain ⟨p, dx, gs, rfl, hp, rf⟩ := hob.rep ok0 r0
    refine ⟨p, dx, gs, rfl, hp, rf.none hl, ?_⟩
    refine h Hi0 H0 σ ok0 (en.mono s0) _ fun ds M1 vs Hi1 H1 h1 s1 ok1 r1 => ?_
    refine h1 Hi1 H1 σ ok1 (en.mono (s0.trans s1)) _ fun zs M2 ws Hi2 H2 h2 s2 ok2 r2 => ?_
    exact ⟨r2.length.symm.trans h2.1, Hi2, M2, _ :: ds, zs, P, .cons (r0.mono (s1.trans s2)) (r1.mono s2), r2, ok2, h2.2, q.up ((s0.trans s1).trans s2)⟩
theorem ae_meth0 {pl : Sem Bool} {fs : List (Str × Val)} (c : Cls X.K C) (hm : Meth X.K C m f) (F : FnX X.prog X.w X.K X.mg X.base n f ks (spX X.K sx)) (hr : Rm n X.A) (ho : aV X o Γ M d) (hob : Ob M C d fs) (hl : fs.lookup m = none)
    (h : aKw X kws Γ M fun zs M2 => zs.length = ks.length ∧ sx [d] zs M2 P)
    (hall : (backToKw pos (keywordEach kws X.env)).all (·.1.isSome) = true := by rfl) (hks : (backToKw pos (keywordEach kws X.env)).filterMap (·.1) = ks := by rfl)
    (hpl : ((backTo pos (starEach [] X.env)).any (·.1) || (backToKw pos (keywordEach kws X.env)).any (·.1.isNone)) = false := by rfl)
    (ht : eval (.Call (.Attribute o m apos) [] kws pos) X.env = (do
      let ov ← eval o X.env
      standAt apos.atName
      let (f, first) ← holding [ov] (getMethod ov m pl)
      callWith pos f first (backTo pos (starEach [] X.env)) (backToKw pos (keywordEach kws X.env))) := by rfl) : aE X (.Call (.Attribute o m apos) [] kws pos) Γ M P := fun Hi H σ ok en Q q => by
  refine ⟨fun σ H Q => WE X o σ H fun x H0 => ∃ a dx fs, x = .ref a ∧ H0 a = some (.ins C dx fs) ∧ fs.lookup m = none ∧ WK X kws σ H0 fun zs H2 => zs.length = ks.length ∧ spX X.K sx [x] zs H2 Q, ⟨fun pins s σ H Q I h => ?_⟩, ?_⟩
  · refine PySem.W.methodCall_KW (pl := pl) (thn (pe_we.run pins s σ H _ I h) fun u s1 ⟨x, H1, I1, rx, a, dx, fs, ex, ea, l, q⟩ => ?_) ht
    subst ex
    obtain rfl : u = Value.ref a := rx
    refine getmeth_ok I1 ea c hm l ?_
    refine PySem.W.callWith_KW0 (first := [.ref a]) (h₀ := X.base) I.ok.mod.kin hm.kp hall ?_ hpl
    refine thn (pk_wk.run pos pins s1 σ H1 _ I1 q) fun ws s3 ⟨zs, H3, I3, rz, l2, q3⟩ => ⟨I3.kIn, ?_⟩
    rw [hks]
    exact run_x (us := [.ref a]) (vs := [.ref a]) F hr I3 (.cons rfl .nil) rz l2 q3
  · refine ho Hi H σ ok en _ fun x M0 v0 Hi0 H0 h0 s0 ok0 r0 => ?_
    obtain ⟨rfl, rfl⟩ := h0
    obtain ⟨p, dx, gs, rfl, hp, rf⟩ := hob.rep ok0 r0
    refine ⟨p, dx, gs, rfl, hp, rf.none hl, ?_⟩
    refine h Hi0 H0 σ ok0 (en.mono s0) _ fun zs M2 ws Hi2 H2 h2 s2 ok2 r2 => ?_
    exact ⟨r2.length.symm.trans h2.1, Hi2, M2, [_], zs, P, .cons (r0.mono s2) .nil, r2, ok2, h2.2, q.up (s0.trans s2)⟩
/-- C(e, .., k = v, ..) -/
theorem run_mk {pins : List (Addr × Obj)} {σ : L2.St} {H : Hp} {s : Shared} {Q : VK} {us ws : List Value} {vs zs : List V} {sp : List V → List V → Hp → VK → Prop} (Mk_ : Mk X.K C f) (F : FnX X.prog X.w X.K X.mg X.base n f ks sp) (hr : Rm (n + 1) X.A)
    (I : Inv X pins σ H s) (r : Vals vs us) (rz : Vals zs ws) (l2 : zs.length = ks.length)
    (h : ∀ x dx, H x = none → H dx = none → dx ≠ x → sp (.ref x :: vs) zs (upd (upd H dx (.own x)) x (.ins C dx [])) (fun v H2 => v = .non ∧ Q (.ref x) H2)) :
    wpAny (model X.prog X.w) X.A (call (.ref C) us (ks.zip ws)) (EP X pins σ Q) X.xe s := by
  have hq := h (s.heap.objs.size + 1) s.heap.objs.size (I.hok.fresh (Nat.le_succ _)) (I.hok.fresh (Nat.le_refl _)) (Nat.ne_of_lt (Nat.lt_succ_self _))
  have I2 := Inv.made (C := C) I
  have r1 : Vals (V.ref (s.heap.objs.size + 1) :: vs) (Value.ref (s.heap.objs.size + 1) :: us) := .cons rfl r
  refine wpAny_call (make_map (f := f) I.kIn Mk_.makes Mk_.init (beq_iff_eq.mp Mk_.fn) (codeAny_mono (F.run _ X.stack _ _ (Value.ref (s.heap.objs.size + 1) :: us) ws _ zs _ (hr.make C us (ks.zip ws))
    (I2.env0.make C us (ks.zip ws)) r1 rz l2 hq) fun r s' hq' => ?_))
  cases r with
  | error e => exact False.elim hq'
  | ok fl =>
    cases fl with
    | ret u =>
      obtain ⟨v, H', I3, rv, ev, q3⟩ := I2.after hq'
      subst ev
      exact ⟨rv, ⟨V.ref (s.heap.objs.size + 1), H', I3, rfl, q3⟩⟩
    | next => exact False.elim hq'
    | brk => exact False.elim hq'
    | cont => exact False.elim hq'
theorem ae_make (Mk_ : Mk X.K C f) (F : FnX X.prog X.w X.K X.mg X.base n f ks (spX X.K sx)) (hr : Rm (n + 1) X.A) (hm : X.mg x = some (.ref C))
    (h : aA X (e :: es) Γ M fun ds M1 => aKw X kws Γ M1 fun zs M2 => zs.length = ks.length ∧ ∀ p, p ∉ M2.map (·.1) → sx (.ptr p :: ds) zs ((p, .ins C []) :: M2) (fun v M3 => v = .non ∧ P (.ptr p) M3))
    (hg : Gl X x := by rfl) (hall : (backToKw pos (keywordEach kws X.env)).all (·.1.isSome) = true := by rfl) (hks : (backToKw pos (keywordEach kws X.env)).filterMap (·.1) = ks := by rfl) (hdb : (x == ("__debug__" : Str)) = false := by decide)
    (he : starEach (e :: es) X.env = (false, eval e X.env) :: starEach es X.env := by rfl) (hpl : ((backTo pos (starEach (e :: es) X.env)).any (·.1) || (backToKw pos (keywordEach kws X.env)).any (·.1.isNone)) = false := by rfl) : aE X (.Call (.Name x p1) (e :: es) kws pos) Γ M P := fun Hi H σ ok en Q q => by
  refine ⟨fun σ H Q => WA X (e :: es) σ H fun vs H1 => WK X kws σ H1 fun zs H2 => zs.length = ks.length ∧ ∀ x dx, H2 x = none → H2 dx = none → dx ≠ x → spX X.K sx (.ref x :: vs) zs (upd (upd H2 dx (.own x)) x (.ins C dx [])) (fun v H3 => v = .non ∧ Q (.ref x) H3), ⟨fun pins s σ H Q I h => ?_⟩, ?_⟩
  · refine wpAny_Call_Name_kw (ld_glob I hg hm ?_ hdb)
    refine PySem.W.callWith_KW (h₀ := X.base) I.ok.mod.kin Mk_.kp hall (thn (pa_wa.run pos pins s σ H _ I h) fun us s1 ⟨vs, H1, I1, r, q⟩ => ?_) hpl he
    refine thn (pk_wk.run pos pins s1 σ H1 _ I1 q) fun ws s2 ⟨zs, H2, I2, rz, l2, q2⟩ => ⟨I2.kIn, ?_⟩
    rw [hks]
    exact run_mk Mk_ F hr I2 r rz l2 q2
  · refine h Hi H σ ok en _ fun ds M1 vs Hi1 H1 h1 s1 ok1 r1 => ?_
    refine h1 Hi1 H1 σ ok1 (en.mono s1) _ fun zs M2 ws Hi2 H2 h2 s2 ok2 r2 => ?_
    refine ⟨r2.length.symm.trans h2.1, fun x dx hx hdx hne => ?_⟩
    have s3 := same_upd (o := .own x) (ok2.none hdx)
    have ok3 : Ok X.K (upd Hi2 dx (.own x)) M2 (upd H2 dx (.own x)) := ok2.imm hdx
    have hx3 : upd H2 dx (.own x) x = none := by rw [upd_ne hne.symm]; exact hx
    refine ⟨_, (x, .ins C []) :: M2, .ptr x :: ds, zs, _, .cons (.ptr x) (r1.mono (s2.trans s3)), r2.mono s3, ok3.new hx3 ⟨dx, [], rfl, .nil⟩, h2.2 x (ok2.fresh hx), ?_⟩
    rintro d M4 v Hi4 H4 ⟨rfl, hp⟩ s4 ok4 r4
    cases r4
    exact ⟨rfl, q _ _ _ Hi4 H4 hp (((s1.trans s2).trans s3).trans s4) ok4 (.ptr x)⟩
end
end Ab
namespace Ab
open PySem PySem.Spec PyProof.Rows L2
open AutoSeq1 (wpAny_loadPart')
/-! enumerate(tuple) -/
theorem enum_newT (l : Addr) (items : Array Value) (n : Nat) (dct : Option Addr) (sl : Array (Option Value)) :
    Meets (Builtin.«enumerate.__new__» ⟨[.type "enumerate", .ref l], []⟩) (fun _ R s => s.heap.get? l = some { cls := .type "tuple", dict := dct, data := .seq items n, slots := sl } ∧
      R (.ok (.ret (.ref (s.heap.push { cls := .type "tuple_iterator", data := .fields #[.ref l, .int 0 0] }).objs.size)))
        { s with heap := (s.heap.push { cls := .type "tuple_iterator", data := .fields #[.ref l, .int 0 0] }).push { cls := .type "enumerate", data := .fields #[.none, .bool false, .ref s.heap.objs.size, rawInt 0, .none, .none] } }) :=
  .of_wp fun prog w A R s h => by
    obtain ⟨hp, g, d, tk, os⟩ := s
    obtain ⟨hl, h⟩ := h
    have hsub := sub_enumerate
    have hT : Heap.IsTuple (Shared.heap ⟨hp, g, d, tk, os⟩) l items := ⟨_, hl, rfl, n, rfl⟩
    wp_walk using wpAny_loadPart' hl
    refine wpAny_stack_any fun st => wpAny_pure ?_
    split
    · rename_i c _ _ _ _ _
      cases (c == Value.type "enumerate") <;> (wp_walk using wpAny_loadPart' hl, wpAny_pyIter_tuple hT; exact ⟨_, rfl, h⟩)
    · wp_walk using wpAny_loadPart' hl, wpAny_pyIter_tuple hT
      exact ⟨_, rfl, h⟩
section
variable {prog : Program} {w : World} {A : Around} {E : Value → Shared → Prop} {s : Shared}
theorem call_enumT {l : Addr} {items : Array Value} {Q : Value → Shared → Prop} (hL : s.heap.IsTuple l items)
    (h : ∀ h', IsEnum h' (s.heap.objs.size + 1) s.heap.objs.size 0 .none → h'.IsTupleIter s.heap.objs.size l 0 →
      (∀ b o, s.heap.get? b = some o → h'.get? b = some o) → Q (.ref (s.heap.objs.size + 1)) { s with heap := h' }) :
    wpAny (model prog w) A (call (.type "enumerate") [.ref l]) Q E s := by
  obtain ⟨⟨c, dct, dt, sl⟩, hl, hc, n, hd⟩ := hL
  obtain rfl : c = .type "tuple" := hc
  obtain rfl : dt = .seq items n := hd
  refine callType_new F.called_enumerate (by decide) (F.typeCall_enumerate_1 _) (F.newCall_enumerate_1 _) (fun obj => F.args_object_init_2 obj _) F.entry_enumerate_new (enum_newT l items n dct sl) ⟨hl, ?_⟩
  have hz : (s.heap.push { cls := .type "tuple_iterator", data := .fields #[.ref l, .int 0 0] }).objs.size = s.heap.objs.size + 1 := Heap.size_push ..
  show _ ∧ _
  rw [hz]
  have he : IsEnum ((s.heap.push { cls := .type "tuple_iterator", data := .fields #[.ref l, .int 0 0] }).push
      { cls := .type "enumerate", data := .fields #[.none, .bool false, .ref s.heap.objs.size, rawInt 0, .none, .none] }) (s.heap.objs.size + 1) s.heap.objs.size 0 .none := by
    have q := Heap.get?_push_size (s.heap.push { cls := .type "tuple_iterator", data := .fields #[.ref l, .int 0 0] })
      (o := { cls := .type "enumerate", data := .fields #[.none, .bool false, .ref s.heap.objs.size, rawInt 0, .none, .none] }) rfl
    rw [hz] at q
    exact q
  exact ⟨⟨_, he, rfl⟩, h _ he ⟨_, Heap.get?_push_of_some _ (Heap.get?_push_size _ rfl), rfl, rfl⟩ fun b o x => Heap.get?_push_of_some _ (Heap.get?_push_of_some _ x)⟩
end
/-- the tuple at a, each item in a new pair -/
def IteT (K : PySem.W.Frag) (a : Addr) : It where
  go := fun i H => ∃ (xs : List V) (x : V), SqT K H a xs ∧ xs[i]? = some x
  yld := fun i H v H' => ∃ T x, v = .ref T ∧ H T = none ∧ H' = upd H T (.tup [.int (i : Nat), x]) ∧ ∀ xs, SqT K H a xs → xs[i]? = some x
  stop := fun i H => ∃ xs : List V, SqT K H a xs ∧ xs.length = i
theorem turn_enumT {P : Program} {w : World} {K : PySem.W.Frag} {elts : List Expr} {kk : Nat} {tpos : Pos} (a e it : Addr) :
    Turn P w K (.Tuple elts kk tpos) (IteT K a) [e, it] e (fun i h => (∃ old, IsEnum h e it ((i : Nat) : Int) old) ∧ h.IsTupleIter it a i ∧ e ≠ it) where
  mem := by simp
  obj := fun i h st b hb => by
    obtain ⟨⟨old, he⟩, ⟨o, ho, hc, hd⟩, _⟩ := st
    have e' : b = e ∨ b = it := by simpa using hb
    rcases e' with z | z
    · rw [z]; exact ⟨_, he, fun v q => nomatch q⟩
    · rw [z]; exact ⟨o, ho, fun v q => by rw [hd] at q; cases q⟩
  keep := fun i h h' st k => let ⟨⟨old, he⟩, hi, hne⟩ := st; ⟨⟨old, k e (by simp) _ he⟩, hi.at fun o q => k it (by simp) o q, hne⟩
  item := by
    intro X hP hw hK hc i pins s σ H E I hf st hg
    subst hP hw hK
    obtain ⟨⟨old, he⟩, hit, hne⟩ := st
    obtain ⟨xs, x, hq, hx⟩ := hg
    obtain ⟨its, rv, p, hz⟩ := I.tuple hq
    have hl := rv.length
    have hlt : i < its.toArray.size := by
      have := (List.getElem?_eq_some_iff.mp hx).1
      simp
      omega
    have hel : e < s.heap.objs.size := Heap.lt_size he
    have hil : it < s.heap.objs.size := by obtain ⟨_, q, _⟩ := hit; exact Heap.lt_size q
    have hta : a ≠ it := fun z => by
      subst z
      obtain ⟨o1, h1, h2, _⟩ := p
      obtain ⟨o2, h3, h4, _⟩ := hit
      rw [h1] at h3
      cases h3
      rw [h2] at h4
      exact absurd h4 (by decide)
    have hte : e ≠ a := fun z => by
      subst z
      obtain ⟨o1, h1, h2, _⟩ := p
      rw [he] at h1
      cases h1
      exact absurd (show Value.type "enumerate" = Value.type "tuple" from h2) (by decide)
    refine wpAny_pyNext_enum_itemC (c := (i : Int)) (Draws.tuple (show X.A.in1.handled = none from I.ok.hd hc) it a hta its.toArray) he ⟨hit, p⟩ hlt hne (by simp [hne, hte]) fun u h' tk hu ho hst' hT hsz hk => ?_
    have ru : RelV x u := by
      obtain ⟨u', hu', ru'⟩ := rv.get hx
      have : its.toArray[i]? = some u' := by simpa using hu'
      rw [this] at hu
      cases hu
      exact ru'
    refine ⟨_, rfl, wpAny_letOwnedTupleGo_enum (s := { s with heap := h', toks := tk + 1 }) ho fun h'' he' sb => ?_⟩
    have hT2 : h''.get? s.heap.objs.size = some { cls := .type "tuple", data := .seq #[.int i tk, u] } := (sb.2 _ (Nat.ne_of_gt hel)).trans hT
    have new : ObjOk X.prog X.w (upd H s.heap.objs.size (.tup [.int (i : Nat), x])) h'' s.heap.objs.size (.tup [.int (i : Nat), x]) :=
      ⟨by show 2 ≤ sizeLine; decide, [.int i tk, u], .cons ⟨_, rfl⟩ (.cons ru .nil), ⟨_, hT2, rfl, _, rfl⟩⟩
    have I1 : Inv X pins σ (upd H s.heap.objs.size (.tup [.int (i : Nat), x])) { s with heap := h'', toks := tk + 1 } :=
      I.turnedNew (ch := [e, it]) (fun b ob hb q => (sb.2 b (fun z => hb (by simp [z]))).trans (hk b ob (fun z => hb (by simp [z])) (fun z => hb (by simp [z])) q)) hf (Nat.le_refl _) new
    refine ⟨.ref s.heap.objs.size, _, I1, rfl, ⟨_, x, rfl, I.hok.fresh (Nat.le_refl _), rfl, fun ys hy => by rw [I.tuple_inj hy hq]; exact hx⟩, ⟨⟨u, ?_⟩, hst'.1.at fun o q => (sb.2 it (Ne.symm hne)).trans q, hne⟩, fun b hb => ?_⟩
    · rw [show ((i + 1 : Nat) : Int) = (i : Int) + 1 by omega]
      exact he'
    · have hb' : b < s.heap.objs.size := by
        have e' : b = e ∨ b = it := by simpa using hb
        rcases e' with z | z
        · rw [z]; exact hel
        · rw [z]; exact hil
      rw [upd_ne (Nat.ne_of_lt hb')]
      exact (hf b hb).1
  done := by
    intro X hP hw hK hc i pins s σ H E I hf st hg
    subst hP hw hK
    obtain ⟨⟨old, he⟩, hit, hne⟩ := st
    obtain ⟨xs, hq, hx⟩ := hg
    obtain ⟨its, rv, p, hz⟩ := I.tuple hq
    obtain ⟨f0, f1, f2, f3, f4, f5⟩ := hf it (by simp)
    have hl := rv.length
    have hi : its.toArray.size = i := by
      simp
      omega
    have hta : a ≠ it := fun z => by
      subst z
      obtain ⟨o1, h1, h2, _⟩ := p
      obtain ⟨o2, h3, h4, _⟩ := hit
      rw [h1] at h3
      cases h3
      rw [h2] at h4
      exact absurd h4 (by decide)
    refine wpAny_pyNext_enum_endD (Draws.tuple (show X.A.in1.handled = none from I.ok.hd hc) it a hta its.toArray) he (by rw [hi]; exact ⟨hit, p⟩) fun h' eb => ⟨rfl, I.turned (t' := s.toks) (fun b o hb q => eb b o hb q) f0 f1 f3 f4 f5⟩
  self := fun A i s Q E st h => let ⟨⟨_, he⟩, _⟩ := st; wpAny_pyIter_enum he h
def iEnumT (K : PySem.W.Frag) (ta : TA) : TI := fun σ H R => ta σ H fun vs H1 => ∃ a xs, vs = [.ref a] ∧ SqT K H1 a xs ∧ R (IteT K a) H1
theorem pi_enumT {X : Cx} {e : Expr} {ta : TA} {p pos tpos : Pos} {elts : List Expr} {kk : Nat} (hg : Gl X "enumerate") (hm : X.mg "enumerate" = none) (ha : PA X [e] ta) (hs : starEach [e] X.env = [(false, eval e X.env)] := by rfl) :
    PI X (.Tuple elts kk tpos) (.Call (.Name "enumerate" p) [e] [] pos) (iEnumT X.K ta) := by
  refine ⟨fun pins s σ H R I h => Call_ (ld_blt I hg hm boot_enumerate (PyProof.Rows.callWith_type1 (thn (ha.run pos pins s σ H _ I h) fun us s1 ⟨vs, H1, I1, r1, q1⟩ => ?_) hs rfl))⟩
  obtain ⟨a, xs, rfl, hq, q⟩ := q1
  cases r1 with
  | cons r rr =>
    cases rr
    cases r
    obtain ⟨its, rv, p', hz⟩ := I1.tuple hq
    refine call_enumT p' fun h' he hit hk => wpAny_pyIter_enum he ?_
    have I2 : Inv X pins σ H1 { s1 with heap := h' } := I1.kept (t' := s1.toks) hk
    refine ⟨s1.heap.objs.size + 1, [s1.heap.objs.size + 1, s1.heap.objs.size], _, _, H1, rfl, I2, turn_enumT a (s1.heap.objs.size + 1) s1.heap.objs.size, ⟨⟨.none, he⟩, hit, Nat.succ_ne_self _⟩, fun b hb => ?_, q⟩
    have e' : b = s1.heap.objs.size + 1 ∨ b = s1.heap.objs.size := by simpa using hb
    have hle : s1.heap.objs.size ≤ b := by
      rcases e' with z | z
      · exact z ▸ Nat.le_succ _
      · exact z ▸ Nat.le_refl _
    exact I1.fpOk hle (I1.hok.fresh hle)
theorem walk_enumT {K : PySem.W.Frag} {a : Addr} {xs : List V} : Walk (IteT K a) xs.length (fun H => SqT K H a xs) (YPair (fun i => some (.int (i : Nat))) (fun i => xs[i]?)) := by
  refine ⟨fun i _ hi q => ⟨xs, xs[i], q, by simp [hi]⟩, fun _ q => ⟨xs, q, rfl⟩, fun i H v H' _ q y => ?_⟩
  obtain ⟨T, x, h1, h2, h3, h4⟩ := y
  exact ⟨T, .int (i : Nat), x, h1, h2, h3, rfl, h4 xs q⟩
section
variable {X : Cx} {Γ : Gam} {M : Mem} {a : Expr} {pos p1 : Pos}
theorem ai_enumT {elts : List Expr} {kk : Nat} {tpos : Pos} {R : Mem → Prop} {xs : List Val} (hm : X.mg "enumerate" = none) (ha : aE X a Γ M fun d M' => d = .tup xs ∧ R M') (hg : Gl X "enumerate" := by rfl) (hs : starEach [a] X.env = [(false, eval a X.env)] := by rfl) :
    aI X (.Tuple elts kk tpos) (.Call (.Name "enumerate" p1) [a] [] pos) Γ M xs.length (fun i => .tup [.int i, xs.getD i .non]) (fun _ => True) R := fun Hi H σ ok en R' q => by
  refine ⟨_, pi_enumT hg hm (pa_cons pe_we pa_nil hs) hs, ?_⟩
  refine ha Hi H σ ok en _ fun d M1 v Hi1 H1 h1 s1 ok1 r1 => ?_
  obtain ⟨rfl, hp⟩ := h1
  cases r1 with
  | @tup p ys _ hq ra =>
    refine ⟨p, ys, rfl, sameT ok1.im hq, q _ M1 Hi1 H1 hp s1 ok1 ?_⟩
    rw [ra.length]
    refine walk_enumT.mono (fun H' hG => ?_) fun i H' v H'' hi hG hy Hi' M' s2 ok2 _ => ?_
    · obtain ⟨Hi', M', s2, ok2, _⟩ := hG
      exact sameT ok2.im (sameT s2 hq)
    · obtain ⟨T, x, y, rfl, hT, rfl, hx, hy⟩ := hy
      cases hx
      have s3 := same_upd (o := .tup [.int (i : Nat), y]) (ok2.none hT)
      exact ⟨_, s3, ok2.imm hT, .tup (SqT.of upd_same) (.cons (.int _) (.cons ((Sq.at ra hy).mono (s2.trans s3)) .nil))⟩
end
end Ab
namespace Ab
open PySem PySem.Spec PyProof.Rows L2
/-! ### comprehensions -/
theorem wipe_set (n : Nat) (x : Option V) : ∀ (vs : List Nat) (σ : L2.St), wipe (σ.set n x) vs = if n ∈ vs then wipe σ vs else (wipe σ vs).set n x
  | [], σ => by simp [wipe]
  | v :: vs, σ => by
    unfold wipe
    rw [wipe_set n x vs σ]
    by_cases h : n ∈ vs
    · rw [if_pos h, if_pos (List.mem_cons_of_mem _ h)]
    · rw [if_neg h]
      by_cases e : n = v
      · subst e
        rw [if_pos List.mem_cons_self, List.set_set]
      · rw [if_neg (by simp [e, h]), List.set_comm _ _ e]
def wipeG (Γ : Gam) : List Nat → Gam
  | [] => Γ
  | v :: vs => (wipeG Γ vs).set v none
theorem env_none {K : PySem.W.Frag} {H : Hp} {Γ : Gam} {σ : L2.St} (n : Nat) (h : EnvR K H Γ σ) : EnvR K H (Γ.set n none) (σ.set n none) := by
  refine ⟨by rw [List.length_set, List.length_set]; exact h.1, fun j e q => ?_⟩
  by_cases hij : n = j
  · subst hij
    by_cases hl : n < Γ.length
    · rw [List.getElem?_set_self hl] at q
      cases q
    · rw [List.getElem?_eq_none_iff.mpr (by rw [List.length_set]; omega)] at q
      cases q
  · rw [List.getElem?_set_ne hij] at q
    obtain ⟨w, h1, h2⟩ := h.2 j e q
    exact ⟨w, by rw [List.getElem?_set_ne hij]; exact h1, h2⟩
theorem env_wipe {K : PySem.W.Frag} {H : Hp} {Γ : Gam} {σ : L2.St} (h : EnvR K H Γ σ) : ∀ vs : List Nat, EnvR K H (wipeG Γ vs) (wipe σ vs)
  | [] => h
  | v :: vs => env_none v (env_wipe h vs)
section
variable {X : Cx} {Γ : Gam} {M : Mem} {P : Val → Mem → Prop} {e a b c o : Expr} {es : List Expr} {kws : List Keyword} {pos p1 p2 apos kpos : Pos} {k : AK} {d d1 d2 d3 : Val} {i j : Int} {x y m : Str} {n : Nat} {f C : Addr}
/-- a target within a comprehension: slots of vs alone -/
def aGw (X : Cx) (vs : List Nat) (tg : Expr) (d : Val) (Γ : Gam) (M : Mem) (R : Gam → Mem → Prop) : Prop := ∀ Hi H σ v, Ok X.K Hi M H → EnvR X.K Hi Γ σ → Rep X.K Hi d v → ∀ Q : L2.St → Hp → Prop, (∀ Γ' M' σ' Hi' H', R Γ' M' → Same Hi Hi' → Ok X.K Hi' M' H' → EnvR X.K Hi' Γ' σ' → wipe σ' vs = wipe σ vs → Q σ' H') → WG X tg v σ H Q
theorem agw_name {vs : List Nat} {R : Gam → Mem → Prop} (n : Nat) (hN : X.N.Nodup) (h : R (Γ.set n (some d)) M) (hn : n ∈ vs := by decide) (hi : X.N[n]? = some x := by rfl) (hx : Loc X.env.scope x := by first | exact Or.inl rfl | exact Or.inr rfl) (hf : X.fn x = true ∨ X.env.scope.names.lookup x = some .local := by first | exact .inl rfl | exact .inr rfl | assumption) :
    aGw X vs (.Name x pos) d Γ M R := fun Hi H σ v ok en r Q q => ⟨_, pg_name hN hi hx hf, q _ _ _ Hi H h (Same.refl _) ok (en.set r) (by rw [wipe_set, if_pos hn])⟩
def aGws (X : Cx) (vs : List Nat) (tgs : List Expr) (ds : List Val) (Γ : Gam) (M : Mem) (R : Gam → Mem → Prop) : Prop := ∀ Hi H σ ws, Ok X.K Hi M H → EnvR X.K Hi Γ σ → RepA X.K Hi ds ws → ∀ Q : L2.St → Hp → Prop, (∀ Γ' M' σ' Hi' H', R Γ' M' → Same Hi Hi' → Ok X.K Hi' M' H' → EnvR X.K Hi' Γ' σ' → wipe σ' vs = wipe σ vs → Q σ' H') → ∃ t, PGs X tgs t ∧ t ws σ H Q
theorem agws_nil {vs : List Nat} {R : Gam → Mem → Prop} (h : R Γ M) : aGws X vs [] [] Γ M R := fun Hi H σ ws ok en r Q q => by
  cases r
  exact ⟨_, pgs_nil, rfl, q _ _ _ Hi H h (Same.refl _) ok en rfl⟩
theorem agws_cons {vs : List Nat} {R : Gam → Mem → Prop} {ds : List Val} (h : aGw X vs e d Γ M fun Γ' M' => aGws X vs es ds Γ' M' R) (hs : (assignEach (e :: es) X.env).map (·.2) = assign e X.env :: (assignEach es X.env).map (·.2) := by rfl) : aGws X vs (e :: es) (d :: ds) Γ M R := fun Hi H σ ws ok en r Q q => by
  cases r with
  | cons r1 r2 =>
    refine ⟨_, pgs_cons pg_wg pgs_wgs hs, _, _, rfl, ?_⟩
    refine h Hi H σ _ ok en r1 _ fun Γ' M' σ' Hi' H' h1 s1 ok1 en1 w1 => ?_
    exact h1 Hi' H' σ' _ ok1 en1 (r2.mono s1) Q fun Γ2 M2 σ2 Hi2 H2 h2 s2 ok2 en2 w2 => q _ _ _ Hi2 H2 h2 (s1.trans s2) ok2 en2 (w2.trans w1)
theorem agw_tup {vs : List Nat} {kk : Nat} {R : Gam → Mem → Prop} {ds : List Val} (hc : X.calm = true) (h : aGws X vs es ds Γ M R) (hl : (assignEach es X.env).length = ds.length := by rfl) (hst : (assignEach es X.env).findIdx? (·.1) = none := by rfl) : aGw X vs (.Tuple es kk pos) (.tup ds) Γ M R := fun Hi H σ v ok en r Q q => by
  cases r with
  | tup hq ra => exact ⟨_, pg_tup hc pgs_wgs rfl hst, _, _, rfl, sameT ok.im hq, ra.length.symm.trans hl.symm, h Hi H σ _ ok en ra Q q⟩
def aTs (X : Cx) (ifs : List Expr) (Γ : Gam) (M : Mem) (P : Bool → Mem → Prop) : Prop := ∀ Hi H σ, Ok X.K Hi M H → EnvR X.K Hi Γ σ → ∀ Q, PostT X.K Hi P Q → ∃ t, PTs X ifs t ∧ t σ H Q
def WTs (X : Cx) (ifs : List Expr) : TT := fun σ H Q => ∃ t, PTs X ifs t ∧ t σ H Q
theorem pts_wts {ifs : List Expr} : PTs X ifs (WTs X ifs) := ⟨fun pins s σ H Q I ⟨t, p, h⟩ => p.run pins s σ H Q I h⟩
theorem ats_nil {P : Bool → Mem → Prop} (h : P true M) : aTs X [] Γ M P := fun Hi H σ ok en Q q => ⟨_, pts_nil, q _ _ Hi H h (Same.refl _) ok⟩
theorem ats_one {P : Bool → Mem → Prop} (h : aT X c Γ M P) : aTs X [c] Γ M P := fun Hi H σ ok en Q q => ⟨_, pts_one pt_wt, h Hi H σ ok en Q q⟩
/-- a comprehension's block -/
abbrev bx (X : Cx) (scope : Scope) (s : Shared) (H : Hp) (C : Addr) (cl : List (Str × Addr)) (fp : List Addr) : Cx := X.blk s H scope (compEnvC scope cl C X.env) fp
def bE (X : Cx) (scope : Scope) (e : Expr) (Γ : Gam) (M : Mem) (P : Val → Mem → Prop) : Prop := ∀ s H C cl fp, aE (bx X scope s H C cl fp) e Γ M P
def bTs (X : Cx) (scope : Scope) (es : List Expr) (Γ : Gam) (M : Mem) (P : Bool → Mem → Prop) : Prop := ∀ s H C cl fp, aTs (bx X scope s H C cl fp) es Γ M P
def bG (X : Cx) (scope : Scope) (vs : List Nat) (tg : Expr) (d : Val) (Γ : Gam) (M : Mem) (R : Gam → Mem → Prop) : Prop := ∀ s H C cl fp, aGw (bx X scope s H C cl fp) vs tg d Γ M R
theorem lc_read {tg iter elt : Expr} {ifs : List Expr} {scope : Scope} {vs : List Nat} {n : Nat} {it : Nat → Val} {G : Mem → Prop} (J : Nat → List Val → Mem → Prop)
    (hi : aI X tg iter Γ M n it G (J 0 [])) (hG : ∀ i acc M, i ≤ n → J i acc M → G M) (hGd : ∀ c M, G M → G (c :: M))
    (hs : ∀ i acc M D, i < n → acc.length ≤ i → J i acc M → bG X scope vs tg (it i) (wipeG Γ vs) ((D, .lst acc) :: M) fun Γ2 M2 => bTs X scope ifs Γ2 M2 fun b M3 =>
      (b = true → bE X scope elt Γ2 M3 fun y M4 => ∃ M5, M4 = (D, .lst acc) :: M5 ∧ J (i + 1) (acc ++ [y]) M5) ∧ (b = false → ∃ M5, M3 = (D, .lst acc) :: M5 ∧ J (i + 1) acc M5))
    (hn : n ≤ 100000) (hd : ∀ D acc M, J n acc M → P (.ptr D) ((D, .lst acc) :: M)) {Hi H : Hp} {σ : L2.St} (ok : Ok X.K Hi M H) (en : EnvR X.K Hi Γ σ) {Q : VK} (q : Post X.K Hi P Q) :
    tLc (WI X tg iter) (fun v σ H Q => ∀ s H' C cl fp, WG (bx X scope s H' C cl fp) tg v σ H Q) (fun σ H Q => ∀ s H' C cl fp, WTs (bx X scope s H' C cl fp) ifs σ H Q) (fun σ H Q => ∀ s H' C cl fp, WE (bx X scope s H' C cl fp) elt σ H Q) vs σ H Q := by
  refine hi Hi H σ ok en _ fun J' M1 Hi1 H1 h1 s1 ok1 w => ?_
  intro D hD
  refine lc_it (g := fun v σ H Q => ∀ s H' C cl fp, WG (bx X scope s H' C cl fp) tg v σ H Q) (tt := fun σ H Q => ∀ s H' C cl fp, WTs (bx X scope s H' C cl fp) ifs σ H Q) (te := fun σ H Q => ∀ s H' C cl fp, WE (bx X scope s H' C cl fp) elt σ H Q) (vs := vs) (σ := σ) (Qd := fun H => Q (V.ref D) H)
    w (fun i H' => ∃ acc M' Hi', J i acc M' ∧ acc.length ≤ i ∧ Same Hi1 Hi' ∧ Ok X.K Hi' ((D, .lst acc) :: M') H') ⟨[], M1, Hi1, h1, Nat.le_refl _, Same.refl _, ok1.new hD ⟨[], rfl, .nil⟩⟩ ?_ ?_ ?_
  · rintro i H' hi ⟨acc, M', Hi', h2, _, s2, ok2⟩
    exact ⟨Hi', M', s2, ok2.tail, hG i acc M' hi h2⟩
  · rintro i v H' H'' hi ⟨acc, M', Hi', h2, hl, s2, ok2⟩ hy
    obtain ⟨Hi3, s3, ok3, r3⟩ := hy Hi' ((D, .lst acc) :: M') s2 ok2 (hGd _ _ (hG i acc M' (Nat.le_of_lt hi) h2))
    intro s0 H0 C0 cl0 fp0
    have s13 := s2.trans s3
    refine hs i acc M' D hi hl h2 s0 H0 C0 cl0 fp0 Hi3 H'' (wipe σ vs) v ok3 (env_wipe (en.mono (s1.trans s13)) vs) r3 _ fun Γ4 M4 σ4 Hi4 H4 h4 s4 ok4 en4 w4 => ⟨?_, ?_⟩
    · rw [w4]
      clear w4 en4
      have idem : ∀ (us : List Nat) (τ : L2.St), wipe (wipe τ us) us = wipe τ us := by
        intro us
        induction us with
        | nil => intro τ; rfl
        | cons u us ih =>
          intro τ
          show (wipe ((wipe τ us).set u none) us).set u none = (wipe τ us).set u none
          rw [wipe_set]
          by_cases hu : u ∈ us
          · rw [if_pos hu, ih]
          · rw [if_neg hu, ih, List.set_set]
      exact idem vs σ
    · intro s5 H5 C5 cl5 fp5
      refine h4 s5 H5 C5 cl5 fp5 Hi4 H4 σ4 ok4 en4 _ fun b M6 Hi6 H6 h6 s6 ok6 => ?_
      cases b with
      | true =>
        refine iteT fun s7 H7 C7 cl7 fp7 => ?_
        refine h6.1 rfl s7 H7 C7 cl7 fp7 Hi6 H6 σ4 ok6 (en4.mono s6) _ fun y M8 v8 Hi8 H8 h8 s8 ok8 r8 => ?_
        obtain ⟨M9, rfl, h9⟩ := h8
        obtain ⟨_, o, ho, xs, rfl, ra⟩ := ok8.ce D _ List.mem_cons_self
        refine ⟨xs, ho, ?_, ?_⟩
        · rw [← ra.length]
          exact Nat.lt_of_lt_of_le (Nat.lt_of_le_of_lt hl (Nat.lt_of_lt_of_le hi hn)) (by decide)
        · exact ⟨acc ++ [y], M9, Hi8, h9, by rw [List.length_append]; exact Nat.succ_le_succ hl, ((s13.trans s4).trans s6).trans s8, ok8.set (i := 0) rfl ⟨_, rfl, ra.append (.cons r8 .nil)⟩⟩
      | false =>
        obtain ⟨M9, rfl, h9⟩ := h6.2 rfl
        exact iteF ⟨acc, M9, Hi6, h9, Nat.le_succ_of_le hl, (s13.trans s4).trans s6, ok6⟩
  · rintro H' ⟨acc, M', Hi', h2, hl, s2, ok2⟩
    exact q _ _ _ Hi' H' (hd D acc M' h2) (s1.trans s2) ok2 (.ptr D)
/-- [elt for tg in iter if ..]: a new cell -/
theorem ae_lcC {tg iter elt : Expr} {ifs : List Expr} {scope : Scope} (own : List (Str × Nat)) {n : Nat} {it : Nat → Val} {G : Mem → Prop} (J : Nat → List Val → Mem → Prop) (hc : X.calm = true) (hN : X.N.Nodup) (ok : BlkOk X.N X.env.scope scope own)
    (hi : aI X tg iter Γ M n it G (J 0 [])) (hG : ∀ i acc M, i ≤ n → J i acc M → G M) (hGd : ∀ c M, G M → G (c :: M))
    (hs : ∀ i acc M D, i < n → acc.length ≤ i → J i acc M → bG X scope (own.map (·.2)) tg (it i) (wipeG Γ (own.map (·.2))) ((D, .lst acc) :: M) fun Γ2 M2 => bTs X scope ifs Γ2 M2 fun b M3 =>
      (b = true → bE X scope elt Γ2 M3 fun y M4 => ∃ M5, M4 = (D, .lst acc) :: M5 ∧ J (i + 1) (acc ++ [y]) M5) ∧ (b = false → ∃ M5, M3 = (D, .lst acc) :: M5 ∧ J (i + 1) acc M5))
    (hn : n ≤ 100000) (hd : ∀ D acc M, J n acc M → P (.ptr D) ((D, .lst acc) :: M)) (hf : ∀ x, foldedSetIterable iter X.env x = pure x := by intro _; rfl) :
    aE X (.ListComp elt [⟨tg, iter, ifs, 0⟩] scope pos) Γ M P := fun Hi H σ ok' en Q q =>
  ⟨_, pe_lc hc hN pi_wi ok (fun s H C cl fp => ⟨fun pins s' σ H v u Q I r h => pg_wg.run pins s' σ H v u Q I r (h _ _ _ _ _)⟩) (fun s H C cl fp => ⟨fun pins s' σ H Q I h => pts_wts.run pins s' σ H Q I (h _ _ _ _ _)⟩) (fun s H C cl fp => ⟨fun pins s' σ H Q I h => pe_we.run pins s' σ H Q I (h _ _ _ _ _)⟩) hf,
    lc_read J hi hG hGd hs hn hd ok' en q⟩
end
end Ab
namespace Ab
open PySem PySem.Spec PyProof.Rows L2
section
variable {X : Cx} {Γ : Gam} {M : Mem} {P : Val → Mem → Prop} {e a b c o : Expr} {es : List Expr} {kws : List Keyword} {pos p1 p2 apos kpos : Pos} {k : AK} {d d1 d2 d3 : Val} {i j : Int} {x y m : Str} {n : Nat} {f C : Addr}
/-! ### a class's own things -/
/-- o.f, f a property -/
theorem ae_prop {fl : Str} {p g : Addr} {fs : List (Str × Val)} {sx : ASx} (c : Cls X.K C) (hp : PropOf X.K C fl p g) (F : FnX X.prog X.w X.K X.mg X.base n g [] (spX X.K sx)) (hr : Rm (n + 1) X.A) (ho : aV X o Γ M d) (hob : Ob M C d fs) (h : sx [d] [] M P)
    (hb : attributeBase o fl X.env (eval o X.env) = eval o X.env := by rfl) : aE X (.Attribute o fl pos) Γ M P := fun Hi H σ ok en Q q => by
  refine ⟨fun σ H Q => WE X o σ H fun x H1 => ∃ a dx fs, x = .ref a ∧ H1 a = some (.ins C dx fs) ∧ spX X.K sx [.ref a] [] H1 Q, ⟨fun pins s σ H Q I h => ?_⟩, ?_⟩
  · refine attr_of hb (thn (pe_we.run pins s σ H _ I h) fun u s1 ⟨x, H1, I1, rx, a, dx, fs, ex, ea, q⟩ => ?_)
    subst ex
    obtain rfl : u = Value.ref a := rx
    obtain ⟨mA, O, _, _, _, _⟩ := ins_get I1.hok ea
    obtain ⟨od, J, _⟩ := O.look
    obtain ⟨rest, hrec⟩ := hp.rec_
    have I2 := I1.tok (s1.toks + 1)
    have hc : (PySem.W.clsIn X.K C).isSome = true := by
      obtain ⟨cd, hc, _⟩ := PySem.W.any_some c.hd
      rw [hc]
      rfl
    refine PySem.W.get_bind I1.kIn J (PySem.W.plainGet_of (c.get fl)).1 (PySem.W.findObj_data hc hp.at_ hp.get hp.tak) (PySem.W.plainGet_of (c.get fl)).2 (wpAny_call (PySem.W.prop_get (s := { s1 with toks := s1.toks + 1 }) I1.kIn hrec ?_))
    refine codeAny_mono (F.run X.A.in1 X.stack { s1 with toks := s1.toks + 1 } H1 [.ref a] [] [.ref a] [] Q hr.in1 I2.env0.in1 (.cons rfl .nil) .nil rfl q) fun r s' hq => ?_
    cases r with
    | error er => exact False.elim hq
    | ok fl =>
      cases fl with
      | ret u =>
        obtain ⟨v, H', I3, rv, q3⟩ := I2.after hq
        show wpAny _ _ (handedOut u) _ _ _
        rw [PySem.W.handedOut_of (handed_of rv)]
        exact wpAny_pure ⟨v, H', I3, rv, q3⟩
      | next => exact False.elim hq
      | brk => exact False.elim hq
      | cont => exact False.elim hq
  · refine ho Hi H σ ok en _ fun x M0 v0 Hi0 H0 h0 s0 ok0 r0 => ?_
    obtain ⟨rfl, rfl⟩ := h0
    obtain ⟨p, dx, gs, rfl, hp, rf⟩ := hob.rep ok0 r0
    exact ⟨p, dx, gs, rfl, hp, Hi0, _, [_], [], P, .cons r0 .nil, .nil, ok0, h, q.up s0⟩
/-- C.m is a staticmethod: its record at p, its def at g -/
structure SMet (K : PySem.W.Frag) (C : Addr) (mc : Value) (m : Str) (p g : Addr) : Prop where
  at_ : PySem.W.findCls K (.ref C) mc m = some (.get (.builtin "staticmethod.__get__") (.ref p) .none (.ref C))
  rc : ∃ rest, PySem.W.recIn K p "staticmethod" = some (.ref g :: rest)
  kp : PySem.W.keepIn K (.ref g) = true
theorem ae_smeth {mc : Value} {p g : Addr} {pl : Sem Bool} {ks : List Str} {sx : ASx} (r : ClX.CRead X.K C mc) (sm : SMet X.K C mc m p g) (F : FnX X.prog X.w X.K X.mg X.base n g ks (spX X.K sx)) (hr : Rm n X.A) (ho : aV X o Γ M (.ptr C))
    (h : aA X (e :: es) Γ M fun ds M1 => aKw X kws Γ M1 fun zs M2 => zs.length = ks.length ∧ sx ds zs M2 P)
    (hall : (backToKw pos (keywordEach kws X.env)).all (·.1.isSome) = true := by rfl) (hks : (backToKw pos (keywordEach kws X.env)).filterMap (·.1) = ks := by rfl)
    (he : starEach (e :: es) X.env = (false, eval e X.env) :: starEach es X.env := by rfl) (hpl : ((backTo pos (starEach (e :: es) X.env)).any (·.1) || (backToKw pos (keywordEach kws X.env)).any (·.1.isNone)) = false := by rfl)
    (ht : eval (.Call (.Attribute o m apos) (e :: es) kws pos) X.env = (do
      let ov ← eval o X.env
      standAt apos.atName
      let (f, first) ← holding [ov] (getMethod ov m pl)
      callWith pos f first (backTo pos (starEach (e :: es) X.env)) (backToKw pos (keywordEach kws X.env))) := by rfl) : aE X (.Call (.Attribute o m apos) (e :: es) kws pos) Γ M P := fun Hi H σ ok en Q q => by
  refine ⟨fun σ H Q => WE X o σ H fun x H0 => x = .ref C ∧ WA X (e :: es) σ H0 fun vs H1 => WK X kws σ H1 fun zs H2 => zs.length = ks.length ∧ spX X.K sx vs zs H2 Q, ⟨fun pins s σ H Q I h => ?_⟩, ?_⟩
  · refine PySem.W.methodCall_KW (pl := pl) (thn (pe_we.run pins s σ H _ I h) fun u s1 ⟨x, H1, I1, rx, ex, q⟩ => ?_) ht
    subst ex
    obtain rfl : u = Value.ref C := rx
    obtain ⟨rest, hp⟩ := sm.rc
    refine PySem.W.method_cls I1.kIn r.ga (PySem.W.cls_bind I1.kIn r.rd sm.at_ (wpAny_call (PySem.W.sm_get (s := { s1 with toks := s1.toks + 1 }) I1.kIn hp (PySem.W.handed_on rfl ?_))))
    have I2 := I1.tok (s1.toks + 1)
    refine PySem.W.callWith_KW (first := []) (h₀ := X.base) I.ok.mod.kin sm.kp hall (thn (pa_wa.run pos pins _ σ H1 _ I2 q) fun us s2 ⟨vs, H2, I3, r, q2⟩ => ?_) hpl he
    refine thn (pk_wk.run pos pins s2 σ H2 _ I3 q2) fun ws s3 ⟨zs, H3, I4, rz, l2, q3⟩ => ⟨I4.kIn, ?_⟩
    rw [hks]
    exact run_x F hr I4 r rz l2 q3
  · refine ho Hi H σ ok en _ fun x M0 v0 Hi0 H0 h0 s0 ok0 r0 => ?_
    obtain ⟨rfl, rfl⟩ := h0
    cases r0
    refine ⟨rfl, ?_⟩
    refine h Hi0 H0 σ ok0 (en.mono s0) _ fun ds M1 vs Hi1 H1 h1 s1 ok1 r1 => ?_
    refine h1 Hi1 H1 σ ok1 (en.mono (s0.trans s1)) _ fun zs M2 ws Hi2 H2 h2 s2 ok2 r2 => ?_
    exact ⟨r2.length.symm.trans h2.1, Hi2, M2, ds, zs, P, r1.mono s2, r2, ok2, h2.2, q.up ((s0.trans s1).trans s2)⟩
/-! ### isinstance -/
/-- a value's type -/
inductive TyV (K : PySem.W.Frag) (M : Mem) : Val → Value → Prop
  | non : TyV K M .non (.type "NoneType")
  | bl (b : Bool) : TyV K M (.bl b) (.type "bool")
  | int (i : Int) : TyV K M (.int i) (.type "int")
  | str (x : Str) : TyV K M (.str x) (.type "str")
  | tup (xs : List Val) : TyV K M (.tup xs) (.type "tuple")
  | lst {d : Val} {xs : List Val} : Vw M d (.lst xs) → TyV K M d (.type "list")
  | ob {C : Addr} {d : Val} {fs : List (Str × Val)} : Ob M C d fs → Cls K C → PySem.W.findIn K (.ref C) "__class__" = some (some (.builtin "object.__class__")) → PySem.W.specialIn K (.builtin "object.__class__") "__get__" = some (some (.builtin "getset_descriptor.__get__")) →
      PySem.W.takesIn K (.builtin "object.__class__") = some true → PySem.W.mroIn K C (.type "object") = some true → TyV K M d (.ref C)
theorem tyx_l {K : PySem.W.Frag} {H : Hp} {p : Addr} {xs : List V} (h : SqL K H p xs) : TyX K H (.ref p) (.type "list") := by
  rcases h with (h | ⟨o, h⟩) | h
  · exact .base (.lst h)
  · exact .base (.frz h)
  · obtain ⟨its, _, o, e, c, _⟩ := h
    exact .kList e c
theorem tyx_t {K : PySem.W.Frag} {H : Hp} {p : Addr} {xs : List V} (h : SqT K H p xs) : TyX K H (.ref p) (.type "tuple") := by
  rcases h with (h | ⟨o, h⟩) | h
  · exact .base (.tup h)
  · exact .fTuple h
  · obtain ⟨its, _, o, e, c, _⟩ := h
    exact .kTuple e c
theorem TyV.tyx {K : PySem.W.Frag} {Hi H : Hp} {t : Value} {v : V} (h : TyV K M d t) (ok : Ok K Hi M H) (r : Rep K Hi d v) : TyX K H v t := by
  cases h with
  | non => cases r; exact .base .non
  | bl b => cases r; exact .base (.bl b)
  | int b => cases r; exact .base (.int b)
  | str b => cases r; exact .base (.str b)
  | tup xs => cases r with
    | tup hq ra => exact tyx_t (sameT ok.im hq)
  | lst hv =>
    obtain ⟨p, ys, rfl, hq, _⟩ := hv.repL ok r
    exact tyx_l hq
  | ob ho c h1 h2 h3 h4 =>
    obtain ⟨p, dx, gs, rfl, hq, _⟩ := ho.rep ok r
    exact .base (.ins hq c h1 h2 h3 h4)
/-- a class as a value -/
inductive ClV : Val → Value → Prop
  | ty (n : String) : ClV (.ty n) (.type n)
  | own (C : Addr) : ClV (.ptr C) (.ref C)
theorem ae_isi {t u : Value} {bb : Bool} (hm : X.mg "isinstance" = none) (ha : aV X a Γ M d1) (hb : aV X b Γ M d2) (hc : ClV d2 u) (ht : TyV X.K M d1 t) (hk : PySem.W.kitOne X.K t u = some bb) (h : P (.bl bb) M) (hg : Gl X "isinstance" := by rfl)
    (hs : starEach [a, b] X.env = (false, eval a X.env) :: starEach [b] X.env := by rfl) (hs2 : starEach [b] X.env = (false, eval b X.env) :: starEach [] X.env := by rfl) (hpl : (backTo pos (starEach [b] X.env)).any (·.1) = false := by rfl) : aE X (.Call (.Name "isinstance" p1) [a, b] [] pos) Γ M P :=
  ae_callB call_isi hm (by decide +kernel) (aa_cons (ha.val (aa_cons (hb.val (aa_nil fun Hi H vs ok r Q q => by
    cases r with
    | cons r1 r2 =>
      cases r2 with
      | cons r2 r3 =>
        cases r3
        refine ⟨_, _, t, u, bb, rfl, ?_, ht.tyx ok r1, hk, q _ _ _ Hi H h (Same.refl _) ok (.bl _)⟩
        cases hc with
        | ty n => cases r2; exact .ty n
        | own C => cases r2; exact .own C)) hs2)) hs) hg (he := hs) (hpl := hpl)
/-- a built-in class by its name -/
theorem av_ty {T : String} (hm : X.mg x = none) (hv : bootBuiltins x = some (.type T)) (hg : Gl X x := by rfl) (hn : x ≠ "__name__" := by decide) (hd : (x == ("__debug__" : Str)) = false := by decide) : aV X (.Name x pos) Γ M (.ty T) :=
  ae_c (v := .ty T) (pe_bltn hg hm hv rfl hn hd) (fun _ _ => .ty T) ⟨rfl, rfl⟩
/-! ### all, sum, sorted, min, max -/
theorem ae_all (hm : X.mg "all" = none) (hc : X.calm = true) (ha : aE X a Γ M fun d M' => ∃ bs : List Bool, Vw M' d (.lst (bs.map .bl)) ∧ P (.bl (bs.all id)) M') (hg : Gl X "all" := by rfl) (hst : starEach [a] X.env = [(false, eval a X.env)] := by rfl) : aE X (.Call (.Name "all" p1) [a] [] pos) Γ M P :=
  ae_callB (cr_all hc) hm (by decide +kernel) (aa_cons (ha.mono fun d M' ⟨bs, hv, h⟩ => aa_nil fun Hi H vs ok r Q q => by
    cases r with
    | cons r1 r2 =>
      cases r2
      obtain ⟨p, ys, rfl, hq, ra⟩ := hv.repL ok r1
      rw [ra.bls] at hq
      exact ⟨p, bs, rfl, hq, q _ _ _ Hi H h (Same.refl _) ok (.bl _)⟩) hst) hg (he := hst) (hpl := rfl)
theorem ae_min2 (hm : X.mg "min" = none) (hc : X.calm = true) (ha : aV X a Γ M (.int i)) (hb : aV X b Γ M (.int j)) (h : P (.int (if j < i then j else i)) M) (hg : Gl X "min" := by rfl)
    (hs : starEach [a, b] X.env = (false, eval a X.env) :: starEach [b] X.env := by rfl) (hs2 : starEach [b] X.env = (false, eval b X.env) :: starEach [] X.env := by rfl) (hpl : (backTo pos (starEach [b] X.env)).any (·.1) = false := by rfl) : aE X (.Call (.Name "min" p1) [a, b] [] pos) Γ M P :=
  ae_callB (call_min2 hc) hm (by decide +kernel) (aa_cons (ha.val (aa_cons (hb.val (aa_nil fun Hi H vs ok r Q q => by
    cases r with
    | cons r1 r2 =>
      cases r2 with
      | cons r2 r3 =>
        cases r3
        cases r1
        cases r2
        exact ⟨i, j, rfl, q _ _ _ Hi H h (Same.refl _) ok (.int _)⟩)) hs2)) hs) hg (he := hs) (hpl := hpl)
theorem ae_max2 (hm : X.mg "max" = none) (hc : X.calm = true) (ha : aV X a Γ M (.int i)) (hb : aV X b Γ M (.int j)) (h : P (.int (if j > i then j else i)) M) (hg : Gl X "max" := by rfl)
    (hs : starEach [a, b] X.env = (false, eval a X.env) :: starEach [b] X.env := by rfl) (hs2 : starEach [b] X.env = (false, eval b X.env) :: starEach [] X.env := by rfl) (hpl : (backTo pos (starEach [b] X.env)).any (·.1) = false := by rfl) : aE X (.Call (.Name "max" p1) [a, b] [] pos) Γ M P :=
  ae_callB (call_max2 hc) hm (by decide +kernel) (aa_cons (ha.val (aa_cons (hb.val (aa_nil fun Hi H vs ok r Q q => by
    cases r with
    | cons r1 r2 =>
      cases r2 with
      | cons r2 r3 =>
        cases r3
        cases r1
        cases r2
        exact ⟨i, j, rfl, q _ _ _ Hi H h (Same.refl _) ok (.int _)⟩)) hs2)) hs) hg (he := hs) (hpl := hpl)
/-! ### + and * of lists and tuples -/
def rCatL (K : PySem.W.Frag) : R2 := fun x y H Q => ∃ l b xs zs, x = .ref l ∧ y = .ref b ∧ SqL K H l xs ∧ SqL K H b zs ∧ xs.length + zs.length ≤ sizeLine ∧ ∀ p, H p = none → Q (.ref p) (upd H p (.lst (xs ++ zs)))
theorem op_catL : OpR X (binaryOp .Add) (rCatL X.K) := by
  intro pins s σ H x y v u Q I rx ry h
  obtain ⟨l, b, xs, zs, rfl, rfl, hH, hB, hz, q⟩ := h
  cases rx
  cases ry
  obtain ⟨its, r, pl, z⟩ := I.list hH
  obtain ⟨its2, r2, pl2, z2⟩ := I.list hB
  have l1 := r.length
  have l2 := r2.length
  obtain ⟨⟨cl, dd, da, sl⟩, ho, hc, n, hd⟩ := pl.isList
  obtain ⟨⟨cl2, dd2, da2, sl2⟩, ho2, hc2, n2, hd2⟩ := pl2.isList
  obtain rfl : cl = .type "list" := hc
  obtain rfl : cl2 = .type "list" := hc2
  obtain rfl : da = .seq its.toArray n := hd
  obtain rfl : da2 = .seq its2.toArray n2 := hd2
  refine concat_meets ⟨_, ho, rfl⟩ ⟨_, ho2, rfl⟩ noFill_list_add seq_list_add PySem.F.slot_list_add PySem.F.entry_list_add (PySem.F.args_list_add_2 _ _) (list_addW l b its.toArray its2.toArray n n2 dd dd2 sl sl2 (by rw [List.size_toArray, List.size_toArray]; omega)) ⟨ho, ho2, ?_⟩
  rw [show its.toArray ++ its2.toArray = (its ++ its2).toArray by simp]
  exact ⟨.ref _, _, I.lnew (t' := s.toks) (r.append r2) (by rw [List.length_append]; omega), rfl, q _ I.fresh⟩
theorem rv_catL {xs ys : List Val} (h1 : Vw M d1 (.lst xs)) (h2 : Vw M d2 (.lst ys)) (hl : xs.length + ys.length ≤ sizeLine) (h : ∀ p, P (.ptr p) ((p, .lst (xs ++ ys)) :: M)) : RV X (rCatL X.K) d1 d2 M P := fun Hi H v w ok rv rw_ Q q => by
  obtain ⟨p, us, rfl, hq, ra⟩ := h1.repL ok rv
  obtain ⟨p', ws, rfl, hq', ra'⟩ := h2.repL ok rw_
  exact ⟨p, p', us, ws, rfl, rfl, hq, hq', by rw [← ra.length, ← ra'.length]; exact hl, fun l hl => q _ _ _ _ _ (h l) (Same.refl _) (ok.new hl ⟨_, rfl, ra.append ra'⟩) (.ptr l)⟩
theorem rv_catT {xs ys : List Val} (hl : xs.length + ys.length ≤ sizeLine) (h : P (.tup (xs ++ ys)) M) : RV X (rCatA X.K) (.tup xs) (.tup ys) M P := fun Hi H v w ok rv rw_ Q q => by
  cases rv with
  | @tup p us _ hq ra =>
    cases rw_ with
    | @tup p' ws _ hq' ra' =>
      refine ⟨p, p', us, ws, rfl, rfl, sameT ok.im hq, sameT ok.im hq', by rw [← ra.length, ← ra'.length]; exact hl, fun e => ?_, fun _ e => ?_, fun _ _ l hl => ?_⟩
      · subst e
        cases ra
        exact q _ _ _ Hi H h (Same.refl _) ok (.tup hq' ra')
      · subst e
        cases ra'
        rw [List.append_nil] at h
        exact q _ _ _ Hi H h (Same.refl _) ok (.tup hq ra)
      · have s2 := same_upd (o := .tup (us ++ ws)) (ok.none hl)
        exact q _ _ _ _ _ h s2 (ok.imm hl) (.tup (SqT.of upd_same) ((ra.append ra').mono s2))
end
end Ab
namespace Ab
open PySem PySem.Spec PyProof.Rows L2
section
variable {X : Cx} {Γ : Gam} {M : Mem} {P : Val → Mem → Prop} {e a b c o : Expr} {es : List Expr} {kws : List Keyword} {pos p1 p2 apos kpos : Pos} {k : AK} {d d1 d2 d3 : Val} {i j : Int} {x y m : Str} {n : Nat} {f C : Addr}
/-! ### repr of lists and tuples -/
/-! ### [x] * n -/
/-! ### dict displays -/
def aPr (X : Cx) (ps : List (Expr × Expr)) (Γ : Gam) (M : Mem) (P : List (Key × Val) → Mem → Prop) : Prop := ∀ Hi H σ, Ok X.K Hi M H → EnvR X.K Hi Γ σ → ∀ Q : List (V × V) → Hp → Prop,
  (∀ kvs M' (ws : List (Key × V)) Hi' H', P kvs M' → Same Hi Hi' → Ok X.K Hi' M' H' → RepK X.K Hi' kvs ws → Q (ws.map fun kv => (kV kv.1, kv.2)) H') → tPairs (ps.map fun p => (WE X p.1, WE X p.2)) σ H Q
theorem ap_nil {P : List (Key × Val) → Mem → Prop} (h : P [] M) : aPr X [] Γ M P := fun Hi H σ ok en Q q => q [] M [] Hi H h (Same.refl _) ok .nil
theorem ap_cons {P : List (Key × Val) → Mem → Prop} {kk : Str} {ps : List (Expr × Expr)} (hk : aV X a Γ M (.str kk)) (hv : aV X e Γ M d) (h : aPr X ps Γ M fun kvs M' => P ((.inr kk, d) :: kvs) M') : aPr X ((a, e) :: ps) Γ M P := fun Hi H σ ok en Q q => by
  refine hk Hi H σ ok en _ fun x M1 v1 Hi1 H1 h1 s1 ok1 r1 => ?_
  obtain ⟨rfl, rfl⟩ := h1
  cases r1
  refine hv Hi1 H1 σ ok1 (en.mono s1) _ fun x M2 v2 Hi2 H2 h2 s2 ok2 r2 => ?_
  obtain ⟨rfl, rfl⟩ := h2
  have s12 := s1.trans s2
  refine h Hi2 H2 σ ok2 (en.mono s12) _ fun kvs M' ws Hi' H' h3 s3 ok3 r3 => ?_
  exact q ((.inr kk, _) :: kvs) M' ((.inr kk, v2) :: ws) Hi' H' h3 (s12.trans s3) ok3 (.cons (r2.mono s3) r3)
def mergeA (kvs more : List (Key × Val)) : List (Key × Val) := more.foldl (fun acc kv => dPut acc kv.1 kv.2) kvs
theorem rep_merge {K : PySem.W.Frag} {H : Hp} : ∀ {more : List (Key × Val)} {ws : List (Key × V)} {kvs : List (Key × Val)} {gs : List (Key × V)}, RepK K H more ws → RepK K H kvs gs → RepK K H (mergeA kvs more) (mergeK gs ws)
  | [], _, _, _, .nil, r => r
  | (kk, dd) :: more, _, _, _, .cons (v := v) (gs := gs) a t, r => by
    show RepK K H (mergeA (dPut _ kk dd) more) (mergeK (putK _ kk v) gs)
    exact rep_merge t (r.put a)
theorem disp_of {ps : List (Expr × Expr)} {keys : List (Option Expr)} {values : List Expr} (hpp : PPs X pos keys values (ps.map fun p => (WE X p.1, WE X p.2))) (hall : keys.all (·.isSome) = true) (hl : keys.length = values.length) (h0 : keys ≠ []) (h15 : keys.length ≤ 15)
    (h : ∀ p, aPr X ps Γ ((p, .dk []) :: M) fun kvs M' => ∃ M2, M' = (p, .dk []) :: M2 ∧ kvs.length ≤ 15 ∧ P (.ptr p) ((p, .dk (mergeA [] kvs)) :: M2)) : aE X (.Dict keys values pos) Γ M P := fun Hi H σ ok en Q q => by
  refine ⟨_, pe_disp hpp hall hl h0 h15, fun p hp => ?_⟩
  refine h p Hi _ σ (ok.new hp ⟨[], rfl, .nil⟩) en _ fun kvs M' ws Hi' H' h1 s1 ok1 r1 => ?_
  obtain ⟨M2, rfl, h15', hP⟩ := h1
  obtain ⟨_, o, ho, gs, rfl, rk⟩ := ok1.ce p _ List.mem_cons_self
  cases rk
  exact ⟨ho, ws, rfl, by rw [← r1.length]; exact h15', q _ _ _ Hi' _ hP s1 (ok1.set (i := 0) rfl ⟨_, rfl, rep_merge r1 .nil⟩) (.ptr p)⟩
/-! ### a, b, c = e1, e2, e3 -/
theorem ps_par3 {n1 n2 n3 : Nat} {x y z : Str} {e1 e2 e3 : Expr} {ta : TA} {px py pz pt : Pos} {kt k2 pt2} (hc : X.calm = true) (hN : X.N.Nodup) (hi : X.N[n1]? = some x) (hj : X.N[n2]? = some y) (hk : X.N[n3]? = some z) (h12 : n1 ≠ n2) (h13 : n1 ≠ n3) (h23 : n2 ≠ n3)
    (hx : X.env.scope.names.lookup x = some .local) (hy : X.env.scope.names.lookup y = some .local) (hz : X.env.scope.names.lookup z = some .local) (ha : PA X [e1, e2, e3] ta)
    (hw : swappedStores [.Tuple [.Name x px, .Name y py, .Name z pz] kt pt] (.Tuple [e1, e2, e3] k2 pt2) X.env = pure (some [x, y, z]))
    (hs : swapsWithSole [.Tuple [.Name x px, .Name y py, .Name z pz] kt pt] (.Tuple [e1, e2, e3] k2 pt2) pos.line X.env = pure false) :
    PS X (.Assign [.Tuple [.Name x px, .Name y py, .Name z pz] kt pt] (.Tuple [e1, e2, e3] k2 pt2) pos) (fun D σ H => ta σ H fun vs H1 => ∃ v1 v2 v3, vs = [v1, v2, v3] ∧ D.nx (((σ.set n1 (some v1)).set n2 (some v2)).set n3 (some v3)) H1) := by
  refine ⟨fun pins s σ H D I h => ?_⟩
  rw [exec_Assign_arm, hs]
  refine wpAny_bind (wpAny_standAt (wpAny_bind (wpAny_pure ?_)))
  rw [if_neg (by decide)]
  refine wpAny_bind (Tuple_ (thn (ha.run _ pins s σ H _ I h) fun us s1 ⟨vs, H1, I1, r1, v1, v2, v3, e1, q1⟩ => ?_))
  subst e1
  obtain ⟨u1, u2, u3, rfl, ru1, ru2, ru3⟩ : ∃ u1 u2 u3, us = [u1, u2, u3] ∧ RelV v1 u1 ∧ RelV v2 u2 ∧ RelV v3 u3 := by
    cases r1 with
    | cons p q =>
      cases q with
      | cons p' q' =>
        cases q' with
        | cons p'' q'' =>
          cases q''
          exact ⟨_, _, _, rfl, p, p', p''⟩
  refine wpAny_newObj_type ?_ (by show 3 ≤ sizeLine; decide)
  have I2 : Inv X pins σ H1 { s1 with heap := s1.heap.push { cls := .type "tuple", data := .seq [u1, u2, u3].toArray } } := I1.kept (t' := s1.toks) fun b o e => Heap.get?_push_of_some _ e
  rw [hw]
  refine wpAny_bind (wpAny_pure ?_)
  show wpAny (model X.prog X.w) X.A (do rule "assign.swapped-stores"; let items ← unpackItems (.ref s1.heap.objs.size) 3 none; assignInOrder [fun v => bindName X.env z v, fun v => bindName X.env y v, fun v => bindName X.env x v] items.reverse; pure Flow.next) _ _ _
  refine wpAny_bind (wpAny_rule (wpAny_bind (unpackItems_tuple (items := #[u1, u2, u3]) (I.ok.hd hc) (IsTup.new s1.heap _) fun h' hx' => ?_)))
  have I3 := I2.kept (h' := h') (t' := s1.toks) fun b o e => hx' b o (Nat.ne_of_lt (Heap.lt_size e)) e
  show wpAny _ _ (assignInOrder [fun v => bindName X.env z v, fun v => bindName X.env y v, fun v => bindName X.env x v] [u3, u2, u1] >>= fun _ => pure Flow.next) _ _ _
  refine wpAny_bind (assignInOrder_cons (wpAny_bindName (store_ok I3 hN hk (.inl hz) ru3 (fun s2 I4 => ?_) (.inr hz))))
  refine assignInOrder_cons (wpAny_bindName (store_ok I4 hN hj (.inl hy) ru2 (fun s3 I5 => ?_) (.inr hy)))
  refine assignInOrder_cons (wpAny_bindName (store_ok I5 hN hi (.inl hx) ru1 (fun s4 I6 => assignInOrder_nil (wpAny_pure ?_)) (.inr hx)))
  have e : ((σ.set n3 (some v3)).set n2 (some v2)).set n1 (some v1) = ((σ.set n1 (some v1)).set n2 (some v2)).set n3 (some v3) := by
    rw [List.set_comm _ _ (Ne.symm h12), List.set_comm _ _ (Ne.symm h13), List.set_comm _ _ (Ne.symm h23)]
  rw [e] at I6
  exact ⟨_, H1, I6, q1⟩
theorem as_par3 {x y z : Str} {e1 e2 e3 : Expr} {px py pz pt : Pos} {kt k2 pt2} (n1 n2 n3 : Nat) (hN : X.N.Nodup) (hc : X.calm = true) (he : aA X [e1, e2, e3] Γ M fun ds M' => ∃ d1 d2 d3, ds = [d1, d2, d3] ∧ k.nx (((Γ.set n1 (some d1)).set n2 (some d2)).set n3 (some d3)) M')
    (h12 : n1 ≠ n2 := by decide) (h13 : n1 ≠ n3 := by decide) (h23 : n2 ≠ n3 := by decide) (hi : X.N[n1]? = some x := by rfl) (hj : X.N[n2]? = some y := by rfl) (hk : X.N[n3]? = some z := by rfl) (hx : X.env.scope.names.lookup x = some .local := by rfl) (hy : X.env.scope.names.lookup y = some .local := by rfl) (hz : X.env.scope.names.lookup z = some .local := by rfl)
    (hw : swappedStores [.Tuple [.Name x px, .Name y py, .Name z pz] kt pt] (.Tuple [e1, e2, e3] k2 pt2) X.env = pure (some [x, y, z]) := by rfl)
    (hs : swapsWithSole [.Tuple [.Name x px, .Name y py, .Name z pz] kt pt] (.Tuple [e1, e2, e3] k2 pt2) pos.line X.env = pure false := by rfl) : aS X (.Assign [.Tuple [.Name x px, .Name y py, .Name z pz] kt pt] (.Tuple [e1, e2, e3] k2 pt2) pos) Γ M k := fun Hi H σ ok en D q => by
  refine ⟨_, ps_par3 hc hN hi hj hk h12 h13 h23 hx hy hz pa_wa hw hs, ?_⟩
  refine he Hi H σ ok en _ fun ds M1 vs Hi1 H1 h1 s1 ok1 r1 => ?_
  obtain ⟨d1, d2, d3, rfl, h2⟩ := h1
  cases r1 with
  | cons r1 r2 =>
    cases r2 with
    | cons r2 r3 =>
      cases r3 with
      | cons r3 r4 =>
        cases r4
        exact ⟨_, _, _, rfl, q.nx _ _ _ Hi1 H1 h2 s1 ok1 ((((en.mono s1).set r1).set r2).set r3)⟩
end
/-! ### a def with a star and keyword-only parameters -/
end Ab
namespace Ab
open PySem PySem.Spec PyProof.Rows L2
/-! the end of a law: its def runs in the claim's own surroundings, where nothing is guarded -/
/-- only the script is known of -/
def hpS (a : Addr) (o : Obj) (xs : List V) : Hp := fun b => if b = a then some (.frz o (.lst xs)) else none
theorem run_law {P : Program} {w : World} {K : PySem.W.Frag} {mg mb : Str → Option Value} {k : Nat} {fa a : Addr} {sp : List V → List V → Hp → VK → Prop} {s : Shared} {vs : List Value} {ns : List Int}
    (KX : K.In s.heap) (hns : s.heap.Ns mainGlobals mg) (hbl : s.heap.Ns builtinsNs mb) (hbb : ∀ x : Str, x ≠ "__name__" → mb x = bootBuiltins x) (hlim : s.heap.NoLimit) (hg : s.gens = #[])
    (ha : s.heap.get? a = some { cls := .type "list", data := .seq vs.toArray }) (hi : IntsAre vs ns) (hl : ns.length ≤ sizeLine) (hr : Rm k callerA)
    (F : ∀ bs : Heap, K.In bs → bs.Ns mainGlobals mg → FnX P w K mg bs k fa [] sp) (hsp : ∀ H : Hp, SqL K H a (ns.map V.int) → sp [.ref a] [] H (fun v _ => v = .bl true)) :
    codeAny (model P w) callerA (.call (.ref fa) ⟨[.ref a], []⟩) (fun r s' => r = .ok (.ret (.bool true)) ∧ OldK s.heap s'.heap ∧ s'.os = s.os ∧ AllBare s'.gens) s := by
  -- H: nothing, or the script alone; frozen things come out as they went in
  have go : ∀ H : Hp, (∀ b o, H b = some o → b = a ∧ K.lookup a = none ∧ ∃ ob xs, o = .frz ob (.lst xs)) → HOk P w H s.heap → SqL K H a (ns.map V.int) →
      codeAny (model P w) callerA (.call (.ref fa) ⟨[.ref a], []⟩) (fun r s' => r = .ok (.ret (.bool true)) ∧ OldK s.heap s'.heap ∧ s'.os = s.os ∧ AllBare s'.gens) s := by
    intro H only hok hS
    have free : ∀ {b : Addr} {o : Obj} {es : Array DictEntry} {ep : Nat}, s.heap.get? b = some o → o.data = .dict es ep → H b = none := fun {b o es ep} e dd => by
      cases q : H b with
      | none => rfl
      | some u =>
        obtain ⟨rfl, _⟩ := only b u q
        rw [ha] at e
        cases e
        exact nomatch (show Data.seq vs.toArray _ = Data.dict es ep from dd)
    have nsOf : ∀ {b : Addr} {m : Str → Option Value}, s.heap.Ns b m → (hidT s.heap H).Ns b m := fun {b m} ⟨o, es, ep, e, dd, r⟩ => ⟨o, es, ep, hidT_get e (free e dd), dd, r⟩
    have kin : K.In (hidT s.heap H) := fun b o e => hidT_get (KX b o e) (by
      cases q : H b with
      | none => rfl
      | some u =>
        obtain ⟨rfl, hk, _⟩ := only b u q
        rw [hk] at e
        cases e)
    obtain ⟨mc, l1, l2⟩ := hlim
    have e0 : Env0 P w K mg (hidT s.heap H) callerA [] s H := ⟨rfl, ⟨kin, nsOf hns, ⟨mb, nsOf hbl, hbb⟩, mc, nsOf l1, l2⟩, fun b o e => of_hidT e, Nat.le_of_eq (hidT_size _ _), trivial, (fun b hb => nomatch hb), hok, .of_eq hg⟩
    refine codeAny_mono ((F _ kin (nsOf hns)).run callerA [] s H [.ref a] [] [.ref a] [] _ hr e0 (.cons rfl .nil) .nil rfl (hsp H hS)) fun r s' h => ?_
    cases r with
    | error e => exact False.elim h
    | ok fl =>
      cases fl with
      | ret u =>
        obtain ⟨v, H', os, bare, un, hok', rv, rfl⟩ := h
        obtain rfl : u = Value.bool true := rv
        refine ⟨rfl, OldK.of_keep fun b o e => ?_, os, bare⟩
        cases q : H b with
        | none => exact un.keep b o e q (fun z => nomatch z) (fun z => nomatch z)
        | some u =>
          obtain ⟨rfl, _, ob, xs, rfl⟩ := only b u q
          have e1 := (hok _ _ q).1
          rw [e] at e1
          cases e1
          exact (hok' _ _ (un.frzs _ _ _ q)).1
      | next => exact False.elim h
      | brk => exact False.elim h
      | cont => exact False.elim h
  have rv := vals_ints hi
  cases hk : K.lookup a with
  | some o =>
    have e := KX a o hk
    rw [ha] at e
    cases e
    refine go (fun _ => none) (fun _ _ z => nomatch z) (fun _ _ z => nomatch z) (.inr ⟨_, vs.toArray, _, hk, rfl, rfl, rfl, ?_, by simpa using rv⟩)
    rw [List.size_toArray, hi.length]
    exact hl
  | none =>
    refine go (hpS a { cls := .type "list", data := .seq vs.toArray } (ns.map V.int)) (fun b o z => ?_) (fun b o z => ?_) (.inl (.inr ⟨_, if_pos rfl⟩))
    · unfold hpS at z
      by_cases hb : b = a
      · rw [if_pos hb] at z
        cases z
        exact ⟨hb, hk, _, _, rfl⟩
      · rw [if_neg hb] at z
        cases z
    · unfold hpS at z
      by_cases hb : b = a
      · rw [if_pos hb] at z
        cases z
        subst hb
        exact ⟨ha, by rw [List.length_map]; exact hl, vs, _, rv, ha⟩
      · rw [if_neg hb] at z
        cases z
/-- a law's promise: the script's ints in, True out -/
def aLaw : ASx := fun ds _ M R => ∃ ns : List Int, ds = [.lst (ns.map .int)] ∧ ns.length ≤ 63 ∧ R (.bl true) M
theorem walk_x {l : PySem.W.OpenLaw} {k : Nat} {q : Program} {loose : List Str} {XP : (Str → Option Value) → Heap → Prop} {YP : World → Heap → Prop} {d : DefRec} {K : Params → PySem.W.Frag}
    (hn : l.most = some 63) (hdf : d.params.defaults = []) (hr : Room k callerA) (hY : ∀ (w : World) (h : Heap), YP w h → (K w.params).In h)
    (F : ∀ (w : World) (mg : Str → Option Value) (fa : Addr) (h : Heap), (K w.params).In h → h.Ns mainGlobals mg → mg d.name = some (.ref fa) →
        ∀ bs : Heap, (K w.params).In bs → bs.Ns mainGlobals mg → FnX l.prog w (K w.params) mg bs k fa [] (spX (K w.params) aLaw)) :
    PySem.W.WalkO q loose XP YP l.row.toRowW d [] (fun f vs => PySem.call f vs) := by
  refine Att.attach_call hn hdf fun w s₀ s₁ mg mb fa o pm cd doc a vs ns G Y ho hd hcd hmg hobj hints hlen hg => ?_
  have KX := hY w _ Y
  refine run_law KX G.T.g G.T.b G.T.builtins G.T.nolimit hg hobj hints (Nat.le_trans hlen (by decide)) ⟨hr, rfl⟩ (F w mg fa _ KX G.T.g hmg) fun H hS => ?_
  refine ⟨H, [], [.lst (ns.map .int)], [], fun d _ => d = .bl true, .cons (.lst hS (.ofInts ns)) .nil, .nil, Ok.all H, ⟨ns, rfl, hlen, rfl⟩, ?_⟩
  rintro d M' v Hi' H' rfl _ _ r
  cases r
  rfl
end Ab
namespace Ab
open PySem PySem.Spec PyProof.Rows L2
section
variable {X : Cx} {Γ : Gam} {M : Mem} {P : Val → Mem → Prop} {e a b c o : Expr} {es : List Expr} {pos p1 p2 apos kpos : Pos} {k : AK} {d d1 d2 d3 : Val} {i j : Int} {x y m : Str} {n : Nat} {f C : Addr}
theorem av_neg (h : aV X a Γ M (.int i)) : aV X (.UnaryOp .USub a pos) Γ M (.int (-i)) := fun Hi H σ ok en Q q => by
  refine ⟨_, pe_un un_neg pe_we, ?_⟩
  refine h Hi H σ ok en _ fun x M1 v Hi1 H1 h1 s1 ok1 r1 => ?_
  obtain ⟨rfl, rfl⟩ := h1
  cases r1
  exact ⟨i, rfl, q _ _ _ Hi1 H1 ⟨rfl, rfl⟩ s1 ok1 (.int _)⟩
/-- a comprehension whose items are told by their number, and that changes nothing -/
theorem ae_lcP {tg iter elt : Expr} {scope : Scope} (own : List (Str × Nat)) {n : Nat} {it : Nat → Val} (g : Nat → Val) (hc : X.calm = true) (hN : X.N.Nodup) (ok : BlkOk X.N X.env.scope scope own)
    (hi : aI X tg iter Γ M n it (fun _ => True) (fun M' => M' = M))
    (hs : ∀ i acc D, i < n → bG X scope (own.map (·.2)) tg (it i) (wipeG Γ (own.map (·.2))) ((D, .lst acc) :: M) fun Γ2 M2 => bE X scope elt Γ2 M2 fun y M4 => y = g i ∧ M4 = (D, .lst acc) :: M)
    (hn : n ≤ 100000) (hd : P (.lst ((List.range n).map g)) M) (hf : ∀ x, foldedSetIterable iter X.env x = pure x := by intro _; rfl) :
    aE X (.ListComp elt [⟨tg, iter, [], 0⟩] scope pos) Γ M P := by
  refine ae_frz (ae_lcC (it := it) own (fun i acc M' => M' = M ∧ acc = (List.range i).map g) hc hN ok ?_ (fun _ _ _ _ _ => trivial) (fun _ _ _ => trivial) ?_ hn ?_ hf)
  · intro Hi H σ ok en R q
    exact hi Hi H σ ok en R fun J M1 Hi1 H1 h1 => q J M1 Hi1 H1 ⟨h1, rfl⟩
  · rintro i acc M' D hi' _ ⟨rfl, rfl⟩ s H C cl fp
    intro Hi1 H1 σ1 v1 ok1 en1 r1 Q1 q1
    refine hs i _ D hi' s H C cl fp Hi1 H1 σ1 v1 ok1 en1 r1 Q1 fun Γ2 M2 σ2 Hi2 H2 h2 => q1 Γ2 M2 σ2 Hi2 H2 fun s' H' C' cl' fp' => ats_nil ⟨fun _ s2 H2 C2 cl2 fp2 => (h2 s2 H2 C2 cl2 fp2).mono fun y M4 hy => ?_, fun z => nomatch z⟩
    obtain ⟨rfl, rfl⟩ := hy
    exact ⟨_, rfl, rfl, by rw [List.range_succ, List.map_append]; rfl⟩
  · rintro D acc M' ⟨rfl, rfl⟩
    exact ⟨D, _, _, rfl, rfl, hd⟩
end
end Ab
namespace Ab
open PySem PySem.Spec PyProof.Rows L2
section
variable {X : Cx} {Γ : Gam} {M : Mem} {P : Val → Mem → Prop} {e a b c o : Expr} {es : List Expr} {pos p1 p2 apos kpos : Pos} {k : AK} {d d1 d2 d3 : Val} {i j : Int} {x y m : Str} {n : Nat} {f C : Addr}
/-! ### loops whose turns are known only when what they walk has been reckoned -/
def aJ (X : Cx) (tg iter : Expr) (Γ : Gam) (M : Mem) (P : Nat → (Nat → Val) → Mem → Prop) : Prop := ∀ Hi H σ, Ok X.K Hi M H → EnvR X.K Hi Γ σ → ∀ R : It → Hp → Prop,
  (∀ J n it M1 Hi1 H1, P n it M1 → Same Hi Hi1 → Ok X.K Hi1 M1 H1 →
    Walk J n (fun H' => ∃ Hi' M', Same Hi1 Hi' ∧ Ok X.K Hi' M' H') (fun i H' v H'' => ∀ Hi' M', Same Hi1 Hi' → Ok X.K Hi' M' H' → ∃ Hi'', Same Hi' Hi'' ∧ Ok X.K Hi'' M' H'' ∧ Rep X.K Hi'' (it i) v) → R J H1) → WI X tg iter σ H R
theorem aj_ai {tg iter : Expr} {n : Nat} {it : Nat → Val} {R : Mem → Prop} {P : Nat → (Nat → Val) → Mem → Prop} (h : aI X tg iter Γ M n it (fun _ => True) R) (hp : ∀ M1, R M1 → P n it M1) : aJ X tg iter Γ M P := fun Hi H σ ok en R' q =>
  h Hi H σ ok en R' fun J M1 Hi1 H1 h1 s1 ok1 w => q J n it M1 Hi1 H1 (hp M1 h1) s1 ok1 (w.mono (fun H' ⟨Hi', M', a, b⟩ => ⟨Hi', M', a, b, trivial⟩) fun i H' v H'' _ _ hy Hi' M' a b => hy Hi' M' a b trivial)
theorem aj_lst {tg : Expr} {P : Nat → (Nat → Val) → Mem → Prop} (ha : aE X a Γ M fun d M' => ∃ xs, d = .lst xs ∧ P xs.length (fun i => xs.getD i .non) M') : aJ X tg a Γ M P := fun Hi H σ ok en R' q => by
  refine ⟨_, pi_list pe_we, ?_⟩
  refine ha Hi H σ ok en _ fun d M1 v Hi1 H1 h1 s1 ok1 r1 => ?_
  obtain ⟨xs, rfl, hp⟩ := h1
  cases r1 with
  | @lst p ys _ hq ra =>
    refine ⟨p, rfl, ⟨ys, ok1.im.seq hq⟩, q _ xs.length _ M1 Hi1 H1 hp s1 ok1 ?_⟩
    rw [ra.length]
    refine walk_list.mono (fun H' hG => ?_) fun i H' v H'' hi hG hy Hi' M' s2 ok2 => ?_
    · obtain ⟨Hi', M', s2, ok2⟩ := hG
      exact ok2.im.seq (s2.seq hq)
    · obtain ⟨rfl, hv⟩ := hy
      exact ⟨Hi', Same.refl _, ok2, (Sq.at ra hv).mono s2⟩
theorem aj_range1 {tg : Expr} {P : Nat → (Nat → Val) → Mem → Prop} (hm : X.mg "range" = none) (ha : aE X a Γ M fun d M' => ∃ j : Int, d = .int j ∧ -(2 ^ 62) ≤ j ∧ j < 2 ^ 62 ∧ P j.toNat (fun i => .int (0 + i)) M') (hg : Gl X "range" := by rfl) (hs : starEach [a] X.env = [(false, eval a X.env)] := by rfl) :
    aJ X tg (.Call (.Name "range" p1) [a] [] pos) Γ M P := fun Hi H σ ok en R' q => by
  refine ⟨_, pi_range1 hg hm (pa_cons pe_we pa_nil hs) hs, ?_⟩
  refine ha Hi H σ ok en _ fun d M1 v Hi1 H1 h1 s1 ok1 r1 => ?_
  obtain ⟨j, rfl, hl, hh, hp⟩ := h1
  cases r1
  refine ⟨j, rfl, hl, hh, q _ _ _ M1 Hi1 H1 hp s1 ok1 ?_⟩
  refine walk_range.mono (fun _ _ => trivial) fun i H' v H'' hi hG hy Hi' M' s2 ok2 => ?_
  obtain ⟨rfl, rfl⟩ := hy
  exact ⟨Hi', Same.refl _, ok2, .int _⟩
theorem aj_range2 {tg : Expr} {P : Nat → (Nat → Val) → Mem → Prop} (hm : X.mg "range" = none) (ha : aA X [a, b] Γ M fun ds M' => ∃ lo hi : Int, ds = [.int lo, .int hi] ∧ (-(2 ^ 62) ≤ lo ∧ lo < 2 ^ 62 ∧ -(2 ^ 62) ≤ hi ∧ hi < 2 ^ 62) ∧ P (hi - lo).toNat (fun i => .int (lo + i)) M') (hg : Gl X "range" := by rfl)
    (hs : starEach [a, b] X.env = [(false, eval a X.env), (false, eval b X.env)] := by rfl) (hs2 : starEach [b] X.env = [(false, eval b X.env)] := by rfl) : aJ X tg (.Call (.Name "range" p1) [a, b] [] pos) Γ M P := fun Hi H σ ok en R' q => by
  refine ⟨_, pi_range2 hg hm pa_wa hs hs2, ?_⟩
  refine ha Hi H σ ok en _ fun d M1 v Hi1 H1 h1 s1 ok1 r1 => ?_
  obtain ⟨lo, hi, rfl, hb, hp⟩ := h1
  cases r1 with
  | cons r1 r2 =>
    cases r2 with
    | cons r2 r3 =>
      cases r3
      cases r1
      cases r2
      refine ⟨lo, hi, rfl, hb, q _ _ _ M1 Hi1 H1 hp s1 ok1 ?_⟩
      refine walk_range.mono (fun _ _ => trivial) fun i H' v H'' hi hG hy Hi' M' s2 ok2 => ?_
      obtain ⟨rfl, rfl⟩ := hy
      exact ⟨Hi', Same.refl _, ok2, .int _⟩
/-- a for, its invariant told behind what it walks -/
theorem as_forJ {tg iter : Expr} {body : List Stmt} (hp : PassesOwn (model X.prog X.w) X.A X.env X.xe) (hc : X.calm = true)
    (hi : aJ X tg iter Γ M fun n it M1 => ∃ I : Nat → Gam → Mem → Prop, I 0 Γ M1 ∧ (∀ i Γ M, i < n → I i Γ M → aG X tg (it i) Γ M fun Γ2 M2 => aSs X body Γ2 M2 { k with nx := I (i + 1), ct := I (i + 1), bk := k.nx }) ∧ ∀ Γ M, I n Γ M → k.nx Γ M)
    (hf : ∀ x, foldedSetIterable iter X.env x = pure x := by intro _; rfl) : aS X (.For tg iter body [] pos) Γ M k := fun Hi H σ ok en D q => by
  refine ⟨_, ps_for hp hc pi_wi pg_wg pss_wb hf, ?_⟩
  refine hi Hi H σ ok en _ fun J n it M1 Hi1 H1 h1 s1 ok1 w => ?_
  obtain ⟨I, h0, hs, hd⟩ := h1
  refine for_it w (fun i σ' H' => ∃ Γ' M' Hi', I i Γ' M' ∧ Same Hi1 Hi' ∧ Ok X.K Hi' M' H' ∧ EnvR X.K Hi' Γ' σ') ⟨Γ, M1, Hi1, h0, Same.refl _, ok1, en.mono s1⟩ ?_ ?_ ?_
  · rintro i σ' H' hi ⟨Γ', M', Hi', h2, s2, ok2, en2⟩
    exact ⟨Hi', M', s2, ok2⟩
  · rintro i v σ' H' H'' hi ⟨Γ', M', Hi', h2, s2, ok2, en2⟩ hy
    obtain ⟨Hi3, s3, ok3, r3⟩ := hy Hi' M' s2 ok2
    have s13 := (s1.trans s2).trans s3
    refine hs i Γ' M' hi h2 Hi3 H'' σ' v ok3 (en2.mono s3) r3 _ fun Γ4 M4 σ4 Hi4 H4 h4 s4 ok4 en4 => ?_
    have s24 := (s2.trans s3).trans s4
    exact h4 Hi4 H4 σ4 ok4 en4 _ ⟨fun Γ5 M5 σ5 Hi5 H5 h5 s5 ok5 en5 => ⟨Γ5, M5, Hi5, h5, s24.trans s5, ok5, en5⟩, (q.up (s13.trans s4)).rt, (q.up (s13.trans s4)).nx, fun Γ5 M5 σ5 Hi5 H5 h5 s5 ok5 en5 => ⟨Γ5, M5, Hi5, h5, s24.trans s5, ok5, en5⟩⟩
  · rintro σ' H' ⟨Γ', M', Hi', h2, s2, ok2, en2⟩
    exact q.nx Γ' M' σ' Hi' H' (hd Γ' M' h2) (s1.trans s2) ok2 en2
/-- what a comprehension must show, behind what it walks -/
abbrev LcJ (X : Cx) (scope : Scope) (vs : List Nat) (tg elt : Expr) (ifs : List Expr) (Γ : Gam) (P : Val → Mem → Prop) : Nat → (Nat → Val) → Mem → Prop := fun n it M1 => n ≤ 100000 ∧ ∃ J : Nat → List Val → Mem → Prop, J 0 [] M1 ∧
  (∀ i acc M D, i < n → acc.length ≤ i → J i acc M → bG X scope vs tg (it i) (wipeG Γ vs) ((D, .lst acc) :: M) fun Γ2 M2 => bTs X scope ifs Γ2 M2 fun b M3 =>
    (b = true → bE X scope elt Γ2 M3 fun y M4 => ∃ M5, M4 = (D, .lst acc) :: M5 ∧ J (i + 1) (acc ++ [y]) M5) ∧ (b = false → ∃ M5, M3 = (D, .lst acc) :: M5 ∧ J (i + 1) acc M5)) ∧
  ∀ D acc M, J n acc M → P (.ptr D) ((D, .lst acc) :: M)
theorem lc_readJ {tg iter elt : Expr} {ifs : List Expr} {scope : Scope} {vs : List Nat} (hi : aJ X tg iter Γ M (LcJ X scope vs tg elt ifs Γ P)) {Hi H : Hp} {σ : L2.St} (ok : Ok X.K Hi M H) (en : EnvR X.K Hi Γ σ) {Q : VK} (q : Post X.K Hi P Q) :
    tLc (WI X tg iter) (fun v σ H Q => ∀ s H' C cl fp, WG (bx X scope s H' C cl fp) tg v σ H Q) (fun σ H Q => ∀ s H' C cl fp, WTs (bx X scope s H' C cl fp) ifs σ H Q) (fun σ H Q => ∀ s H' C cl fp, WE (bx X scope s H' C cl fp) elt σ H Q) vs σ H Q := by
  refine hi Hi H σ ok en _ fun J' n it M1 Hi1 H1 h1 s1 ok1 w => ?_
  obtain ⟨hn, J, h0, hs, hd⟩ := h1
  intro D hD
  refine lc_it (g := fun v σ H Q => ∀ s H' C cl fp, WG (bx X scope s H' C cl fp) tg v σ H Q) (tt := fun σ H Q => ∀ s H' C cl fp, WTs (bx X scope s H' C cl fp) ifs σ H Q) (te := fun σ H Q => ∀ s H' C cl fp, WE (bx X scope s H' C cl fp) elt σ H Q) (vs := vs) (σ := σ) (Qd := fun H => Q (V.ref D) H)
    w (fun i H' => ∃ acc M' Hi', J i acc M' ∧ acc.length ≤ i ∧ Same Hi1 Hi' ∧ Ok X.K Hi' ((D, .lst acc) :: M') H') ⟨[], M1, Hi1, h0, Nat.le_refl _, Same.refl _, ok1.new hD ⟨[], rfl, .nil⟩⟩ ?_ ?_ ?_
  · rintro i H' hi ⟨acc, M', Hi', h2, _, s2, ok2⟩
    exact ⟨Hi', M', s2, ok2.tail⟩
  · rintro i v H' H'' hi ⟨acc, M', Hi', h2, hl, s2, ok2⟩ hy
    obtain ⟨Hi3, s3, ok3, r3⟩ := hy Hi' ((D, .lst acc) :: M') s2 ok2
    intro s0 H0 C0 cl0 fp0
    have s13 := s2.trans s3
    refine hs i acc M' D hi hl h2 s0 H0 C0 cl0 fp0 Hi3 H'' (wipe σ vs) v ok3 (env_wipe (en.mono (s1.trans s13)) vs) r3 _ fun Γ4 M4 σ4 Hi4 H4 h4 s4 ok4 en4 w4 => ⟨?_, ?_⟩
    · rw [w4]
      clear w4 en4
      have idem : ∀ (us : List Nat) (τ : L2.St), wipe (wipe τ us) us = wipe τ us := by
        intro us
        induction us with
        | nil => intro τ; rfl
        | cons u us ih =>
          intro τ
          show (wipe ((wipe τ us).set u none) us).set u none = (wipe τ us).set u none
          rw [wipe_set]
          by_cases hu : u ∈ us
          · rw [if_pos hu, ih]
          · rw [if_neg hu, ih, List.set_set]
      exact idem vs σ
    · intro s5 H5 C5 cl5 fp5
      refine h4 s5 H5 C5 cl5 fp5 Hi4 H4 σ4 ok4 en4 _ fun b M6 Hi6 H6 h6 s6 ok6 => ?_
      cases b with
      | true =>
        refine iteT fun s7 H7 C7 cl7 fp7 => ?_
        refine h6.1 rfl s7 H7 C7 cl7 fp7 Hi6 H6 σ4 ok6 (en4.mono s6) _ fun y M8 v8 Hi8 H8 h8 s8 ok8 r8 => ?_
        obtain ⟨M9, rfl, h9⟩ := h8
        obtain ⟨_, o, ho, xs, rfl, ra⟩ := ok8.ce D _ List.mem_cons_self
        refine ⟨xs, ho, ?_, ?_⟩
        · rw [← ra.length]
          exact Nat.lt_of_lt_of_le (Nat.lt_of_le_of_lt hl (Nat.lt_of_lt_of_le hi hn)) (by decide)
        · exact ⟨acc ++ [y], M9, Hi8, h9, by rw [List.length_append]; exact Nat.succ_le_succ hl, ((s13.trans s4).trans s6).trans s8, ok8.set (i := 0) rfl ⟨_, rfl, ra.append (.cons r8 .nil)⟩⟩
      | false =>
        obtain ⟨M9, rfl, h9⟩ := h6.2 rfl
        exact iteF ⟨acc, M9, Hi6, h9, Nat.le_succ_of_le hl, (s13.trans s4).trans s6, ok6⟩
  · rintro H' ⟨acc, M', Hi', h2, hl, s2, ok2⟩
    exact q _ _ _ Hi' H' (hd D acc M' h2) (s1.trans s2) ok2 (.ptr D)
theorem as_lcJ {tg iter elt : Expr} {ifs : List Expr} {scope : Scope} {py spos : Pos} (m : Nat) (own : List (Str × Nat)) (hc : X.calm = true) (hN : X.N.Nodup) (ok : BlkOk X.N X.env.scope scope own)
    (hi : aJ X tg iter Γ M (LcJ X scope (own.map (·.2)) tg elt ifs Γ fun d M' => k.nx (Γ.set m (some d)) M')) (hy : X.N[m]? = some y := by rfl) (hyl : X.env.scope.names.lookup y = some .local := by rfl)
    (hsw : swapsWith (.ListComp elt [⟨tg, iter, ifs, 0⟩] scope pos) (some (.Name y py)) spos.line X.env = pure true := by exact sw_true rfl rfl rfl (by decide +kernel))
    (hf : ∀ x, foldedSetIterable iter X.env x = pure x := by intro _; rfl) :
    aS X (.Assign [.Name y py] (.ListComp elt [⟨tg, iter, ifs, 0⟩] scope pos) spos) Γ M k := fun Hi H σ ok' en D q =>
  ⟨_, ps_setLc hc hN hy hyl hsw pi_wi ok (fun s H C cl fp => ⟨fun pins s' σ H v u Q I r h => pg_wg.run pins s' σ H v u Q I r (h _ _ _ _ _)⟩) (fun s H C cl fp => ⟨fun pins s' σ H Q I h => pts_wts.run pins s' σ H Q I (h _ _ _ _ _)⟩) (fun s H C cl fp => ⟨fun pins s' σ H Q I h => pe_we.run pins s' σ H Q I (h _ _ _ _ _)⟩) hf,
    lc_readJ hi ok' en fun d M' v Hi' H' h' s' ok2 r => q.nx _ _ _ Hi' H' h' s' ok2 ((en.mono s').set r)⟩
end
end Ab
namespace Ab
open PySem PySem.Spec PyProof.Rows L2
section
variable {X : Cx} {Γ : Gam} {M : Mem} {P : Val → Mem → Prop} {e a b c o : Expr} {es : List Expr} {pos p1 p2 apos kpos : Pos} {k : AK} {d d1 d2 d3 : Val} {i j : Int} {x y m : Str} {n : Nat} {f C : Addr}
/-! ### operands that change cells -/
def WC (X : Cx) (g : Value → Value → Sem Value) : R2 := fun x y H Q => ∃ r, OpR X g r ∧ r x y H Q
theorem op_wc {g : Value → Value → Sem Value} : OpR X g (WC X g) := fun pins s σ H x y v u Q I rx ry ⟨r, ho, h⟩ => ho pins s σ H x y v u Q I rx ry h
def BinV (X : Cx) (op : Operator) (M : Mem) (x y : Val) (P : Val → Mem → Prop) : Prop := ∃ r, OpR X (binaryOp op) r ∧ RV X r x y M P
theorem ae_bin {op : Operator} (h : aE X a Γ M fun x M1 => aE X b Γ M1 fun y M2 => BinV X op M2 x y P) : aE X (.BinOp a op b pos) Γ M P :=
  ae_op op_wc (h.mono fun x M1 h1 => h1.mono fun y M2 ⟨r, ho, hr⟩ Hi H v w ok rv rw_ Q q => ⟨r, ho, hr Hi H v w ok rv rw_ Q q⟩)
theorem bv_add (h : P (.int (i + j)) M) : BinV X .Add M (.int i) (.int j) P := ⟨_, op_add, rv_I0 (f := fun i j => .int (i + j)) (fun _ _ => .int _) h⟩
theorem bv_sub (h : P (.int (i - j)) M) : BinV X .Sub M (.int i) (.int j) P := ⟨_, op_sub, rv_I0 (f := fun i j => .int (i - j)) (fun _ _ => .int _) h⟩
theorem bv_catL {xs ys : List Val} (h1 : Vw M d1 (.lst xs)) (h2 : Vw M d2 (.lst ys)) (hl : xs.length + ys.length ≤ sizeLine) (h : ∀ p, P (.ptr p) ((p, .lst (xs ++ ys)) :: M)) : BinV X .Add M d1 d2 P := ⟨_, op_catL, rv_catL h1 h2 hl h⟩
theorem bv_catT {xs ys : List Val} (hl : xs.length + ys.length ≤ sizeLine) (h : P (.tup (xs ++ ys)) M) : BinV X .Add M (.tup xs) (.tup ys) P := ⟨_, op_catA, rv_catT hl h⟩
theorem at_cmpM {op : CmpOp} {P : Bool → Mem → Prop} (h : aE X a Γ M fun x M1 => aE X b Γ M1 fun y M2 => ∃ k, Cmp X op M2 x y k ∧ P k M2) (hm : behindInMarks op b = false := by first | exact nomark _ | rfl) : aT X (.Compare a [op] [b] pos) Γ M P := fun Hi H σ ok en Q q => by
  refine ⟨_, pt_cmpR op_wc pe_we pe_we hm, ?_⟩
  refine h Hi H σ ok en _ fun x M1 v Hi1 H1 h1 s1 ok1 r1 => ?_
  refine h1 Hi1 H1 σ ok1 (en.mono s1) _ fun y M2 w Hi2 H2 h2 s2 ok2 r2 => ?_
  obtain ⟨kk, ⟨r, ho, hr⟩, hp⟩ := h2
  refine ⟨r, ho, hr Hi2 H2 v w ok2 (r1.mono s2) r2 _ fun z M' v' Hi3 H3 h3 s3 ok3 r3 => ?_⟩
  obtain ⟨rfl, rfl⟩ := h3
  cases r3
  exact ⟨kk, rfl, q _ _ Hi3 H3 hp ((s1.trans s2).trans s3) ok3⟩
theorem ae_cmpM {op : CmpOp} (h : aE X a Γ M fun x M1 => aE X b Γ M1 fun y M2 => ∃ k, Cmp X op M2 x y k ∧ P (.bl k) M2) (hm : behindInMarks op b = false := by first | exact nomark _ | rfl) : aE X (.Compare a [op] [b] pos) Γ M P := fun Hi H σ ok en Q q => by
  refine ⟨_, pe_cmpR op_wc pe_we pe_we hm, ?_⟩
  refine h Hi H σ ok en _ fun x M1 v Hi1 H1 h1 s1 ok1 r1 => ?_
  refine h1 Hi1 H1 σ ok1 (en.mono s1) _ fun y M2 w Hi2 H2 h2 s2 ok2 r2 => ?_
  obtain ⟨kk, ⟨r, ho, hr⟩, hp⟩ := h2
  refine ⟨r, ho, hr Hi2 H2 v w ok2 (r1.mono s2) r2 _ fun z M' v' Hi3 H3 h3 s3 ok3 r3 => ?_⟩
  obtain ⟨rfl, rfl⟩ := h3
  exact q _ _ v' Hi3 H3 hp ((s1.trans s2).trans s3) ok3 r3
/-- xs[i] -/
theorem ae_ixM (h : aE X a Γ M fun x M1 => aE X b Γ M1 fun y M2 => ∃ i xs d, y = .int i ∧ Sq M2 x xs ∧ atI xs i = some d ∧ P d M2) (hs : PlainIx b := by exact fun _ _ => rfl) : aE X (.Subscript a b pos) Γ M P := fun Hi H σ ok en Q q => by
  refine ⟨_, pe_ix ix_seq pe_we pe_we hs, ?_⟩
  refine h Hi H σ ok en _ fun x M1 v Hi1 H1 h1 s1 ok1 r1 => ?_
  refine h1 Hi1 H1 σ ok1 (en.mono s1) _ fun y M2 w Hi2 H2 h2 s2 ok2 r2 => ?_
  obtain ⟨i, xs, d, rfl, hsq, hat, hp⟩ := h2
  cases r2
  obtain ⟨p, ys, rfl, hq, ra⟩ := hsq.rep ok2 (r1.mono s2)
  obtain ⟨z, hz, rz⟩ := rep_at ra hat
  have fin := q _ _ z Hi2 H2 hp (s1.trans s2) ok2 rz
  rcases hq with hq | hq
  · exact .inl ⟨p, ys, i, z, rfl, rfl, hq, hz, fin⟩
  · exact .inr (.inl ⟨p, ys, i, z, rfl, rfl, hq, hz, fin⟩)
/-- ints as data -/
theorem toDs_ints : ∀ ns : List Int, toDs (ns.map .int) = some (ns.map PyData.int)
  | [] => rfl
  | n :: ns => by
    rw [List.map_cons, List.map_cons]
    unfold toDs
    rw [toDs_ints ns]
    rfl
theorem toD_tup {xs : List Val} {ds : List PyData} (h : toDs xs = some ds) : toD (.tup xs) = some (.tuple ds) := by
  unfold toD
  rw [h]
  rfl
theorem toD_lst {xs : List Val} {ds : List PyData} (h : toDs xs = some ds) : toD (.lst xs) = some (.list ds) := by
  unfold toD
  rw [h]
  rfl
theorem lay_ints : ∀ ns : List Int, PyData.canLayAll0 (ns.map PyData.int) = true
  | [] => rfl
  | n :: ns => by
    rw [List.map_cons]
    unfold PyData.canLayAll0
    rw [lay_ints ns]
    rfl
theorem dep_ints : ∀ ns : List Int, PyData.depthAll (ns.map PyData.int) = 0
  | [] => rfl
  | n :: ns => by
    rw [List.map_cons]
    unfold PyData.depthAll
    rw [dep_ints ns]
    rfl
theorem shaped_tupI (ns : List Int) : SeqAt.shaped (.tuple (ns.map PyData.int)) = true := by
  unfold SeqAt.shaped PyData.canLay0 PyData.depth
  rw [lay_ints, dep_ints]
  rfl
theorem shaped_lstI (ns : List Int) : SeqAt.shaped (.list (ns.map PyData.int)) = true := by
  unfold SeqAt.shaped PyData.canLay0 PyData.depth
  rw [lay_ints, dep_ints]
  rfl
theorem eqv_ints : ∀ ns ms : List Int, PyData.eqvAll (ns.map PyData.int) (ms.map PyData.int) = decide (ns = ms)
  | [], [] => rfl
  | [], _ :: _ => rfl
  | _ :: _, [] => rfl
  | n :: ns, m :: ms => by
    rw [List.map_cons, List.map_cons]
    unfold PyData.eqvAll PyData.eqv
    rw [eqv_ints ns ms]
    by_cases h : n = m
    · subst h
      simp
    · simp [h]
theorem cmp_neLI {ns ms : List Int} (v1 : Vw M d1 (.lst (ns.map .int))) (v2 : Vw M d2 (.lst (ms.map .int))) (hu : X.A.units + 64 < cLine) : Cmp X .NotEq M d1 d2 (!decide (ns = ms)) := by
  have h := cmp_neD v1 v2 (toD_lst (toDs_ints ns)) (toD_lst (toDs_ints ms)) (shaped_lstI ns) (shaped_lstI ms) hu
  rw [show PyData.eqv (.list (ns.map PyData.int)) (.list (ms.map PyData.int)) = decide (ns = ms) from eqv_ints ns ms] at h
  exact h
theorem cmp_eqTI {ns ms : List Int} (hu : X.A.units + 64 < cLine) : Cmp X .Eq M (.tup (ns.map .int)) (.tup (ms.map .int)) (decide (ns = ms)) := by
  have h := cmp_eqD (X := X) (M := M) (.self (.tup (ns.map .int))) (.self (.tup (ms.map .int))) (toD_tup (toDs_ints ns)) (toD_tup (toDs_ints ms)) (shaped_tupI ns) (shaped_tupI ms) hu
  rw [show PyData.eqv (.tuple (ns.map PyData.int)) (.tuple (ms.map PyData.int)) = decide (ns = ms) from eqv_ints ns ms] at h
  exact h
theorem cmp_neTI {ns ms : List Int} (hu : X.A.units + 64 < cLine) : Cmp X .NotEq M (.tup (ns.map .int)) (.tup (ms.map .int)) (!decide (ns = ms)) := by
  have h := cmp_neD (X := X) (M := M) (.self (.tup (ns.map .int))) (.self (.tup (ms.map .int))) (toD_tup (toDs_ints ns)) (toD_tup (toDs_ints ms)) (shaped_tupI ns) (shaped_tupI ms) hu
  rw [show PyData.eqv (.tuple (ns.map PyData.int)) (.tuple (ms.map PyData.int)) = decide (ns = ms) from eqv_ints ns ms] at h
  exact h
end
end Ab
namespace Ab
open PySem PySem.Spec PyProof.Rows L2
section
variable {X : Cx} {Γ : Gam} {M : Mem} {P : Val → Mem → Prop} {e a b c o : Expr} {es : List Expr} {pos p1 p2 apos kpos : Pos} {k : AK} {d d1 d2 d3 : Val} {i j : Int} {x y m : Str} {n : Nat} {f C : Addr}
/-! ### lists that are never changed, as values -/
theorem av_lst {ds : List Val} (h : aVs X es Γ M ds) (hl : ds.length ≤ sizeLine) : aV X (.List es pos) Γ M (.lst ds) := ae_lst (h.val ⟨hl, rfl, rfl⟩)
theorem av_sliceT {xs : List Val} {elo ehi : Option Expr} {lo hi : Option Int} (ha : aV X a Γ M (.tup xs)) (hl : aO X elo Γ M lo) (hh : aO X ehi Γ M hi) : aV X (.Subscript a (.Slice elo ehi none p2) pos) Γ M (.tup (cutA xs lo hi)) :=
  ae_sliceT ha hl hh ⟨rfl, rfl⟩
theorem av_catL {xs ys : List Val} (ha : aV X a Γ M d1) (hb : aV X b Γ M d2) (h1 : Vw M d1 (.lst xs)) (h2 : Vw M d2 (.lst ys)) (hl : xs.length + ys.length ≤ sizeLine) : aV X (.BinOp a .Add b pos) Γ M (.lst (xs ++ ys)) :=
  ae_frz (ae_bin (ha.val (hb.val (bv_catL h1 h2 hl fun p => ⟨p, _, _, rfl, rfl, rfl, rfl⟩))))
theorem av_catT {xs ys : List Val} (ha : aV X a Γ M (.tup xs)) (hb : aV X b Γ M (.tup ys)) (hl : xs.length + ys.length ≤ sizeLine) : aV X (.BinOp a .Add b pos) Γ M (.tup (xs ++ ys)) :=
  ae_bin (ha.val (hb.val (bv_catT hl ⟨rfl, rfl⟩)))
theorem av_tuple {xs : List Val} (hm : X.mg "tuple" = none) (ha : aV X a Γ M d) (hs : Sq M d xs) (hg : Gl X "tuple" := by rfl) (hst : starEach [a] X.env = [(false, eval a X.env)] := by rfl) : aV X (.Call (.Name "tuple" p1) [a] [] pos) Γ M (.tup xs) :=
  ae_tuple hm (ha.val ⟨xs, hs, rfl, rfl⟩) hg hst
/-! ### slices of lists of ints -/
def cutI (g : List Int) (lo hi : Option Int) : List Int := (g.drop (HT.sIx g.length 0 lo)).take (HT.sIx g.length g.length hi - HT.sIx g.length 0 lo)
theorem cut_map {g : List Int} {lo hi : Option Int} : cutA (g.map Val.int) lo hi = (cutI g lo hi).map Val.int := by
  unfold cutA cutI
  rw [List.length_map, ← List.map_drop, ← List.map_take]
theorem cut_len {g : List Int} {lo hi : Option Int} : (cutI g lo hi).length ≤ g.length := by
  unfold cutI
  rw [List.length_take, List.length_drop]
  omega
theorem cut_hi {g : List Int} {j : Int} (h0 : 0 ≤ j) (h1 : j ≤ g.length) : cutI g none (some j) = g.take j.toNat := by
  obtain ⟨n, rfl⟩ := Int.eq_ofNat_of_zero_le h0
  unfold cutI
  rw [HT.sIx_nat, HT.sIx_none, List.drop_zero, Nat.sub_zero, Nat.min_eq_left (by omega), Int.toNat_natCast]
theorem cut_lo {g : List Int} {j : Int} (h0 : 0 ≤ j) (h1 : j ≤ g.length) : cutI g (some j) none = g.drop j.toNat := by
  obtain ⟨n, rfl⟩ := Int.eq_ofNat_of_zero_le h0
  unfold cutI
  rw [HT.sIx_nat, HT.sIx_none, Nat.min_eq_left (by omega), Int.toNat_natCast]
  exact List.take_of_length_le (by rw [List.length_drop]; omega)
end
end Ab
namespace Ab
open PySem PySem.Spec PyProof.Rows L2
section
variable {X : Cx} {Γ : Gam} {M : Mem} {P : Val → Mem → Prop} {e a b c o : Expr} {es : List Expr} {pos p1 p2 apos kpos : Pos} {k : AK} {d d1 d2 d3 : Val} {i j : Int} {x y m : Str} {n : Nat} {f C : Addr}
/-- an instance that will change no more -/
theorem ae_frzO (h : aE X e Γ M fun d M' => ∃ p C fs M'', d = .ptr p ∧ M' = (p, .ins C fs) :: M'' ∧ P (.obj C fs) M'') : aE X e Γ M P := fun Hi H σ ok en Q q => by
  refine h Hi H σ ok en _ fun d M1 v Hi1 H1 h1 s1 ok1 r1 => ?_
  obtain ⟨p, C, fs, M2, rfl, rfl, hp⟩ := h1
  obtain ⟨e0, o, ho, dx, gs, rfl, ra⟩ := ok1.ce p _ List.mem_cons_self
  cases r1
  have s2 := same_upd (o := .ins C dx gs) e0
  exact q _ _ _ _ _ hp (s1.trans s2) (ok1.freeze ho) (.obj upd_same (ra.mono s2))
/-! ### ints are shown -/
theorem log_lt {n : Nat} (h : n < 2 ^ 1920) : n.log2 < 1920 := by
  by_cases h0 : n = 0
  · subst h0
    decide
  · exact (Nat.log2_lt h0).mpr h
def showI (v : Int) : Prop := v.natAbs.log2 < 1920
end
end Ab
namespace Ab
open PySem PySem.Spec PyProof.Rows L2
/-! defs out of the head's facts -/
section
variable {P : Program} {w : World} {K : PySem.W.Frag} {mg : Str → Option Value} {base : Heap} {x qual : Str} {st : Stmt} {f : Addr} {oc : Value} {od an : Option Addr} {osl : Array (Option Value)} {kV doc pm cdv ct : Value} {fd : FuncData}
theorem fd_mk (l : K.lookup f = some ⟨oc, od, .func (PySem.W.fnOf x qual (defArgs st) (defBody st) (defScope st) .none kV doc pm an cdv ct), osl⟩)
    (c : PySem.W.codeIn K cdv qual = true) (k : PySem.W.keepIn K (.ref f) = true) : FunD K x qual (defArgs st) (defBody st) (defScope st) [] [] f (PySem.W.fnOf x qual (defArgs st) (defBody st) (defScope st) .none kV doc pm an cdv ct) :=
  fun_d (fun_mk l c k)
/-- two keyword-only defaults -/
theorem fd_kw2 {D : Addr} {k1 k2 : Str} {v1 v2 : V} {u1 u2 : Value} (l : K.lookup f = some ⟨oc, od, .func (PySem.W.fnOf x qual (defArgs st) (defBody st) (defScope st) .none (.ref D) doc pm an cdv ct), osl⟩)
    (c : PySem.W.codeIn K cdv qual = true) (k : PySem.W.keepIn K (.ref f) = true) (n1 : PySem.W.nsIn K D k1 = some (some u1)) (n2 : PySem.W.nsIn K D k2 = some (some u2)) (r1 : RelV v1 u1) (r2 : RelV v2 u2) :
    FunD K x qual (defArgs st) (defBody st) (defScope st) [] [(k1, v1), (k2, v2)] f (PySem.W.fnOf x qual (defArgs st) (defBody st) (defScope st) .none (.ref D) doc pm an cdv ct) :=
  ⟨⟨oc, od, .none, .ref D, doc, pm, an, cdv, ct, osl, rfl, l, c, .inl ⟨rfl, rfl⟩, .inr ⟨D, rfl, fun q hq => by
    rcases List.mem_cons.mp hq with e | hq
    · subst e
      exact ⟨u1, n1, r1⟩
    · rcases List.mem_cons.mp hq with e | hq
      · subst e
        exact ⟨u2, n2, r2⟩
      · cases hq⟩⟩, k⟩
/-- a def called by positions and keywords, every parameter written -/
theorem kbn_kw {params : Arguments} {body : List Stmt} {sc : Scope} {kws : List (Str × V)} {ps ks : List Str} {n : Nat} (F : FunD K x qual params body sc [] kws f fd)
    (h : ∀ (kV doc pm : Value) (an : Option Addr) (cdv ct : Value) (us ws : List Value), us.length = n → ws.length = ks.length → bindArgs (PySem.W.fnOf x qual params body sc .none kV doc pm an cdv ct) ⟨us, ks.zip ws⟩ = pure (ps.zip (us ++ ws))) :
    KBn K fd ps n ks (fun us ws => us ++ ws) (fun vs zs => vs ++ zs) := by
  obtain ⟨oc, od, dV, kV, doc, pm, an, cdv, ct, osl, rfl, lk, hcd, hD, _⟩ := F.ex
  obtain ⟨_, rfl⟩ : ([] : List V) = [] ∧ dV = .none := by
    rcases hD with h | ⟨e, _⟩
    · exact h
    · exact absurd rfl e
  exact ⟨fun s us ws _ h1 h2 => .of_eq (h kV doc pm an cdv ct us ws h1 h2), fun r1 r2 => r1.append r2⟩
/-- .. and its promise -/
theorem fnx_kw {params : Arguments} {body : List Stmt} {sc : Scope} {kws : List (Str × V)} {N ps ks : List Str} {k n : Nat} {s0 : ASp} (F : FunD K x qual params body sc [] kws f fd) (S : FnScope N ps sc)
    (h : ∀ (kV doc pm : Value) (an : Option Addr) (cdv ct : Value) (us ws : List Value), us.length = n → ws.length = ks.length → bindArgs (PySem.W.fnOf x qual params body sc .none kV doc pm an cdv ct) ⟨us, ks.zip ws⟩ = pure (ps.zip (us ++ ws)))
    (len : ∀ ds M R, s0 ds M R → ds.length = ps.length) (hb : BodyOk P w K mg base k f N qual sc body s0) : FnX P w K mg base (k + 1) f ks (spX K fun ds es M R => ds.length = n ∧ s0 (ds ++ es) M R) :=
  fnx_kbn (fun ds es => ds ++ es) F S (kbn_kw F h) (fun H ds vs es zs r1 r2 _ _ => r1.append r2) len hb
/-- .. by positions alone -/
theorem fnx_pos' {params : Arguments} {body : List Stmt} {sc : Scope} {kws : List (Str × V)} {N ps : List Str} {k : Nat} {s0 : ASp} (F : FunD K x qual params body sc [] kws f fd) (S : FnScope N ps sc)
    (h : ∀ (kV doc pm : Value) (an : Option Addr) (cdv ct : Value) (us : List Value), us.length = ps.length → bindArgs (PySem.W.fnOf x qual params body sc .none kV doc pm an cdv ct) ⟨us, []⟩ = pure (ps.zip us))
    (len : ∀ ds M R, s0 ds M R → ds.length = ps.length) (hb : BodyOk P w K mg base k f N qual sc body s0) : FnX P w K mg base (k + 1) f [] (spX K fun ds _ => s0 ds) := by
  have F1 := fnx_kbn (n := ps.length) (ks := []) (fun ds _ => ds) F S (g := fun us _ => us) (gV := fun vs _ => vs) (by
    obtain ⟨oc, od, dV, kV, doc, pm, an, cdv, ct, osl, rfl, lk, hcd, hD, _⟩ := F.ex
    obtain ⟨_, rfl⟩ : ([] : List V) = [] ∧ dV = .none := by
      rcases hD with h | ⟨e, _⟩
      · exact h
      · exact absurd rfl e
    refine ⟨fun s us ws _ h1 h2 => .of_eq ?_, fun r1 _ => r1⟩
    obtain rfl := List.length_eq_zero_iff.mp h2
    exact h kV doc pm an cdv ct us h1) (fun H ds vs es zs r _ _ _ => r) len hb
  exact ⟨fun A outer s H us ws vs zs Q hr e0 r rz hz ⟨Hi, M, ds, es, R, ra, re, ok, hs, q⟩ => F1.run A outer s H us ws vs zs Q hr e0 r rz hz ⟨Hi, M, ds, es, R, ra, re, ok, ⟨len _ _ _ hs, hs⟩, q⟩⟩
end
end Ab
namespace Ab
open PySem PySem.Spec PyProof.Rows L2 Builtin
/-! ### == and != of instances by their own __eq__ -/
section
variable {A : Around} {E : Value → Shared → Prop} {s : Shared} {K : PySem.W.Frag} {x y C f : Addr} {ox oy : Obj} {od oe : Option Obj}
/-- the builtin that a class has from object -/
theorem ifb_blt {M : Model} {name : Str} {id : String} {args : List Value} {Q : Option Value → Shared → Prop} (X : K.In s.heap) (I : PySem.W.InstAt s.heap x ox C od)
    (hs : PySem.W.findIn K (.ref C) name = some (some (.builtin id))) (hb : bindSpecial (.builtin id) (.ref x) = pure (.builtin id, [.ref x])) (h : wpAny M A (call (.builtin id) (.ref x :: args)) (fun v => Q (some v)) E s) : wpAny M A (callSpecialIfBound? (.ref x) name args) Q E s := by
  simp only [callSpecialIfBound?, bindSpecialIfBound?]
  refine wpAny_holding (wpAny_bind (wpAny_bind (wpAny_bind (I.type.here ((PySem.W.looks_findIn X hs).here ?_)))))
  have fin : wpAny M A (call (.builtin id) ([.ref x] ++ args) >>= fun v => pure (some v)) Q E s := wpAny_bind (wpAny_mono h (fun v s' h' => wpAny_pure h') fun _ _ h' => h')
  refine wpAny_bind (wpAny_askSetting (wpAny_ite ?_))
  simp only [hb]
  split
  · exact wpAny_bind (wpAny_pure (wpAny_pure fin))
  · exact wpAny_tryCatch (wpAny_bind (wpAny_pure (wpAny_pure fin)))
variable {prog : Program} {w : World}
theorem obj_ne {Q : Fin → Shared → Prop} (X : K.In s.heap) (I : PySem.W.InstAt s.heap x ox C od) (heq : PySem.W.findIn K (.ref C) "__eq__" = some (some (.ref f))) (hf : PySem.W.isFn K (.ref f) = true) (hu : A.units < cLine)
    (hcall : wpAny (model prog w) A (call (.ref f) [.ref x, .ref y]) (fun v s' => ∃ b, v = .bool b ∧ Q (.done (.ret (.bool (!b)))) s') E s) :
    wpAny (model prog w) A (Builtin.«object.__ne__» ⟨[.ref x, .ref y], []⟩) Q E s := by
  unfold Builtin.«object.__ne__»
  refine wpAny_bind (m := slotArgs "__ne__" 1 ⟨[.ref x, .ref y], []⟩) ?_
  repeat (first
    | with_reducible refine wpAny_cRoomFor hu ?_
    | (refine wpAny_bind (m := callSpecialIfBound? (.ref x) (Str.ofString "__eq__") [.ref y])
        (PySem.W.ifBound_K X I heq hf (wpAny_mono hcall (fun r s' hr => by
          obtain ⟨b, rfl, hq⟩ := hr
          repeat (first | exact hq | exact wpAny_pure hq | exact wpAny_truthy_bool hq | (refine wpAny_bind (m := truthy (.bool _)) (wpAny_truthy_bool ?_)) | wp_step)) fun _ _ e => e)))
    | wp_step)
theorem rc_ne {Q : Value → Shared → Prop} (X : K.In s.heap) (I : PySem.W.InstAt s.heap x ox C od) (J : PySem.W.InstAt s.heap y oy C oe) (hne : PySem.W.findIn K (.ref C) "__ne__" = some (some (.builtin "object.__ne__"))) (heq : PySem.W.findIn K (.ref C) "__eq__" = some (some (.ref f))) (hf : PySem.W.isFn K (.ref f) = true)
    (hob : PySem.W.subIn K (.ref C) (.type "object") = some true) (hu : A.units + 1 < cLine)
    (hcall : wpAny (model prog w) A.in1 (call (.ref f) [.ref x, .ref y]) (fun v s' => ∃ b, v = .bool b ∧ Q (.bool (!b)) s') E s) : wpAny (model prog w) A (richCompare .NotEq (.ref x) (.ref y)) Q E s := by
  have one : wpAny (model prog w) A (tryCompare (.ref x) "__ne__" (.ref y)) (fun r s' => ∃ v, r = some v ∧ Q v s') E s := by
    simp only [tryCompare]
    refine wpAny_bind (ifb_blt X I hne (F.cmp_object.ne.bind _) (wpAny_call (codeAny_call_builtin F.cmp_object.ne.plain F.cmpEntry_ne
      (@PySem.W.check_slot (model prog w) _ _ s "object.__ne__" "object" "__ne__" (.ref x) [.ref y] [] _ F.cmpKind_ne F.cmpSplit_ne (I.type.andThen (PySem.W.looks_subIn X hob)) (F.cmpArgs_ne _ _)
        (obj_ne (A := A.in1) X I heq hf hu (wpAny_mono hcall (fun v s' hv => ?_) fun _ _ e => e))))))
    obtain ⟨b, rfl, hq⟩ := hv
    first | exact ⟨b, rfl, wpAny_pure ⟨_, rfl, hq⟩⟩ | exact ⟨b, rfl, wpAny_pure (wpAny_pure ⟨_, rfl, hq⟩)⟩
  unfold richCompare
  simp only [oneThing_ref]
  refine wpAny_holding (wpAny_bind (wpAny_cRoomFor (Nat.lt_of_succ_lt hu) ?_))
  rw [cmpInfo_NotEq]
  dsimp only
  refine wpAny_bind (I.type.here (wpAny_bind (J.type.here ?_)))
  rw [show (Value.ref C != Value.ref C) = false from by simp]
  simp only [Bool.false_eq_true, if_false]
  refine wpAny_bind (wpAny_pure ?_)
  simp only [Bool.false_eq_true, if_false]
  refine wpAny_bind (wpAny_mono one (fun r s' z => ?_) fun _ _ e => e)
  obtain ⟨v, rfl, hq⟩ := z
  exact wpAny_pure hq
end
end Ab
namespace Ab
open PySem PySem.Spec PyProof.Rows L2
/-- a call somewhere below the running body -/
theorem run_at {X : Cx} {A : Around} {n : Nat} {f : Addr} {pins : List (Addr × Obj)} {σ : L2.St} {H : Hp} {s : Shared} {Q : VK} {us : List Value} {vs : List V} {sp : List V → List V → Hp → VK → Prop} (F : FnX X.prog X.w X.K X.mg X.base n f [] sp) (hr : Rm n A) (hf : A.frames = X.A.frames)
    (I : Inv X pins σ H s) (r : Vals vs us) (h : sp vs [] H Q) : wpAny (model X.prog X.w) A (call (.ref f) us) (EP X pins σ Q) X.xe s := by
  have e0 : Env0 X.prog X.w X.K X.mg X.base A X.stack s H := by
    have e := I.env0
    exact ⟨by rw [hf]; exact e.frames, e.mod, e.bs, e.bsz, e.funs, e.frf, e.hok, e.bare⟩
  refine wpAny_call (codeAny_mono (F.run A X.stack s H us [] vs [] Q hr e0 r .nil rfl h) fun r s' hq => ?_)
  cases r with
  | error e => exact False.elim hq
  | ok fl =>
    cases fl with
    | ret u => exact I.after hq
    | next => exact False.elim hq
    | brk => exact False.elim hq
    | cont => exact False.elim hq
/-- == of the class at C by the def at f: what it answers of the fields -/
structure OwnE (P : Program) (w : World) (K : PySem.W.Frag) (mg : Str → Option Value) (base : Heap) (n : Nat) (C f : Addr) (good : List (Str × Val) → Prop) (rel : List (Str × Val) → List (Str × Val) → Bool) : Prop where
  fx : FnX P w K mg base n f [] (spX K fun ds _ M R => ∃ fs gs, ds = [.obj C fs, .obj C gs] ∧ good fs ∧ good gs ∧ R (.bl (rel fs gs)) M)
  at_ : PySem.W.findIn K (.ref C) "__eq__" = some (some (.ref f))
  fn : PySem.W.isFn K (.ref f) = true
  ne : PySem.W.findIn K (.ref C) "__ne__" = some (some (.builtin "object.__ne__"))
  ob : PySem.W.subIn K (.ref C) (.type "object") = some true
section
variable {X : Cx} {n : Nat} {C f : Addr} {good : List (Str × Val) → Prop} {rel : List (Str × Val) → List (Str × Val) → Bool} {M : Mem} {fs gs : List (Str × Val)}
def rO (K : PySem.W.Frag) (C : Addr) (good : List (Str × Val) → Prop) (rel : List (Str × Val) → List (Str × Val) → Bool) (neg : Bool) : R2 := fun x y H Q => ∃ a b dx dy fs gs, x = .ref a ∧ y = .ref b ∧ H a = some (.ins C dx fs) ∧ H b = some (.ins C dy gs) ∧
  spX K (fun ds _ M R => ∃ fs gs, ds = [.obj C fs, .obj C gs] ∧ good fs ∧ good gs ∧ R (.bl (rel fs gs)) M) [x, y] [] H (fun v H' => ∃ bb, v = .bl bb ∧ Q (.bl (if neg then !bb else bb)) H')
theorem op_neO (O : OwnE X.prog X.w X.K X.mg X.base n C f good rel) (hr : Rm (n + 1) X.A) : OpR X (compareOp .NotEq) (rO X.K C good rel true) := by
  intro pins s σ H x y v u Q I rx ry h
  obtain ⟨a, b, dx, dy, fs, gs, rfl, rfl, ha, hb, hsp⟩ := h
  cases rx
  cases ry
  obtain ⟨mA, J, _⟩ := ins_get I.hok ha
  obtain ⟨mB, J', _⟩ := ins_get I.hok hb
  obtain ⟨od, J, _⟩ := J.look
  obtain ⟨od', J', _⟩ := J'.look
  show wpAny (model X.prog X.w) X.A (richCompare .NotEq (.ref a) (.ref b)) (EP X pins σ Q) X.xe s
  refine rc_ne I.kIn J J' O.ne O.at_ O.fn O.ob hr.u1 ?_
  refine wpAny_mono (run_at (A := X.A.in1) O.fx hr.in1 rfl I (vs := [.ref a, .ref b]) (.cons rfl (.cons rfl .nil)) hsp) (fun r s' z => ?_) fun _ _ x => x
  obtain ⟨v', H', I', rv, bb, rfl, q⟩ := z
  cases rv
  exact ⟨bb, rfl, .bl (!bb), H', I', rfl, q⟩
theorem rv_O {neg : Bool} (hf : good fs) (hg : good gs) : RV X (rO X.K C good rel neg) (.obj C fs) (.obj C gs) M fun z M' => z = .bl (if neg then !rel fs gs else rel fs gs) ∧ M' = M := fun Hi H v w ok rv rw_ Q q => by
  cases id rv with
  | @obj a _ dx vs _ ha ra =>
    cases id rw_ with
    | @obj b _ dy ws _ hb rb =>
      refine ⟨a, b, dx, dy, vs, ws, rfl, rfl, ok.im _ _ ha, ok.im _ _ hb, Hi, M, [.obj C fs, .obj C gs], [], fun z M' => z = .bl (rel fs gs) ∧ M' = M, .cons rv (.cons rw_ .nil), .nil, ok, ⟨fs, gs, rfl, hf, hg, rfl, rfl⟩, ?_⟩
      intro d M' v Hi' H' h s' ok' r
      obtain ⟨rfl, rfl⟩ := h
      cases r
      exact ⟨_, rfl, q _ _ _ Hi' H' ⟨rfl, rfl⟩ s' ok' (.bl _)⟩
theorem cmp_neO (O : OwnE X.prog X.w X.K X.mg X.base n C f good rel) (hr : Rm (n + 1) X.A) (hf : good fs) (hg : good gs) : Cmp X .NotEq M (.obj C fs) (.obj C gs) (!rel fs gs) := ⟨_, op_neO O hr, rv_O (neg := true) hf hg⟩
end
end Ab
namespace Ab
open PySem PySem.Spec PyProof.Rows L2
open AutoSeq1 (wpAny_loadPart')
open PySem.SeqAt MeetsSeq MeetsSeq2 MeetsSeq3 SeqRoads2
/-! ### lists whose items are equal: == and != (neg) -/
section
variable {prog : Program} {w : World} {A : Around} {R : Result → Shared → Prop} {a b : Addr} {n : Nat} {J : Nat → Shared → Prop}
/-- at each turn: the two lists, n items each; the i-th two are equal -/
def Pairs (prog : Program) (w : World) (A : Around) (E : Value → Shared → Prop) (a b : Addr) (n : Nat) (J : Nat → Shared → Prop) : Prop :=
  ∀ i s, J i s → ∃ (xs ys : Array Value) (k1 k2 : Nat) (d1 d2 : Option Addr) (l1 l2 : Array (Option Value)), s.heap.get? a = some { cls := .type "list", dict := d1, data := .seq xs k1, slots := l1 } ∧ s.heap.get? b = some { cls := .type "list", dict := d2, data := .seq ys k2, slots := l2 } ∧ xs.size = n ∧ ys.size = n ∧
    ∀ (h1 : i < xs.size) (h2 : i < ys.size), wpAny (model prog w) A.in1 (eqBool xs[i] ys[i]) (fun r s' => r = true ∧ J (i + 1) s') E s
end
/-! ### items by their own == -/
def DV (K : PySem.W.Frag) (ed : Val → Val → Prop) : Eqv := fun x y H => ∃ d e, Rep K H d x ∧ Rep K H e y ∧ ed d e
theorem DV.mono {K : PySem.W.Frag} {ed : Val → Val → Prop} {x y : V} {H H' : Hp} (s : Same H H') (h : DV K ed x y H) : DV K ed x y H' := by
  obtain ⟨d, e, r1, r2, h⟩ := h
  exact ⟨d, e, r1.mono s, r2.mono s, h⟩
end Ab
namespace Ab
open PySem PySem.Spec PyProof.Rows L2
section
variable {X : Cx} {Γ : Gam} {M : Mem} {P : Val → Mem → Prop} {e a b c o : Expr} {es : List Expr} {pos p1 p2 apos kpos : Pos} {k : AK} {d d1 d2 d3 : Val} {i j : Int} {x y m : Str} {n : Nat} {f C : Addr}
/-- a global name that holds an int -/
theorem av_gint {t : Tok} (hm : X.mg x = some (.int i t)) (hg : Gl X x := by rfl) (hd : (x == ("__debug__" : Str)) = false := by decide) : aV X (.Name x pos) Γ M (.int i) := fun Hi H σ ok en Q q =>
  ⟨fun σ H Q => Q (.int i) H, ⟨fun pins s σ H Q I h => ld_glob I hg hm ⟨.int i, H, I, ⟨t, rfl⟩, h⟩ hd⟩, q _ _ _ Hi H ⟨rfl, rfl⟩ (Same.refl _) ok (.int i)⟩
/-- max, min of a list of ints -/
theorem ae_maxL (hm : X.mg "max" = none) (hc : X.calm = true) (ha : aE X a Γ M fun d M' => ∃ ns : List Int, Vw M' d (.lst (ns.map .int)) ∧ 0 < ns.length ∧ ∀ m, m ∈ ns → (∀ y, y ∈ ns → y ≤ m) → P (.int m) M') (hg : Gl X "max" := by rfl) (hst : starEach [a] X.env = [(false, eval a X.env)] := by rfl) : aE X (.Call (.Name "max" p1) [a] [] pos) Γ M P :=
  ae_callB (cr_max hc) hm (by decide +kernel) (aa_cons (ha.mono fun d M' ⟨ns, hv, hl, h⟩ => aa_nil fun Hi H vs ok r Q q => by
    cases r with
    | cons r1 r2 =>
      cases r2
      obtain ⟨p, ys, rfl, hq, ra⟩ := hv.repL ok r1
      obtain rfl := ra.ints
      exact ⟨p, ns, rfl, hq, hl, fun m h1 h2 => q _ _ _ Hi H (h m h1 h2) (Same.refl _) ok (.int _)⟩) hst) hg (he := hst) (hpl := rfl)
/-- max of a tuple of ints -/
def rMaxT (K : PySem.W.Frag) : List V → Hp → VK → Prop := fun vs H Q => ∃ (a : Addr) (ns : List Int), vs = [V.ref a] ∧ SqT K H a (ns.map V.int) ∧ 0 < ns.length ∧ ∀ m, m ∈ ns → (∀ y, y ∈ ns → y ≤ m) → Q (.int m) H
theorem maxOf_spec : ∀ (ns : List Int) (n : Int), PySem.W.maxOf n ns ∈ n :: ns ∧ ∀ y ∈ n :: ns, y ≤ PySem.W.maxOf n ns
  | [], n => ⟨List.mem_cons_self, fun y hy => by
    have : y = n := by simpa using hy
    subst this
    exact Int.le_refl _⟩
  | m :: ns, n => by
    show PySem.W.maxOf (if PySem.W.DatumOrd.lt n m = true then m else n) ns ∈ _ ∧ _
    have e : PySem.W.maxOf n (m :: ns) = PySem.W.maxOf (if PySem.W.DatumOrd.lt n m = true then m else n) ns := rfl
    rw [e]
    have hlt : PySem.W.DatumOrd.lt n m = true ↔ n < m := by
      show decide (n < m) = true ↔ n < m
      exact decide_eq_true_iff
    by_cases h : PySem.W.DatumOrd.lt n m = true
    · rw [if_pos h]
      obtain ⟨h1, h2⟩ := maxOf_spec ns m
      have hnm := hlt.mp h
      refine ⟨List.mem_cons_of_mem _ h1, fun y hy => ?_⟩
      rcases List.mem_cons.mp hy with rfl | hy
      · exact Int.le_trans (Int.le_of_lt hnm) (h2 m List.mem_cons_self)
      · exact h2 y hy
    · rw [if_neg h]
      obtain ⟨h1, h2⟩ := maxOf_spec ns n
      have hnm : m ≤ n := by
        have : ¬ n < m := fun z => h (hlt.mpr z)
        omega
      refine ⟨?_, fun y hy => ?_⟩
      · rcases List.mem_cons.mp h1 with h1 | h1
        · rw [h1]
          exact List.mem_cons_self
        · exact List.mem_cons_of_mem _ (List.mem_cons_of_mem _ h1)
      · rcases List.mem_cons.mp hy with rfl | hy
        · exact h2 y List.mem_cons_self
        · rcases List.mem_cons.mp hy with rfl | hy
          · exact Int.le_trans hnm (h2 n List.mem_cons_self)
          · exact h2 y (List.mem_cons_of_mem _ hy)
theorem cr_maxT (hc : X.calm = true) (hu : X.A.units + 64 < cLine) : CallR X (.builtin "max") (rMaxT X.K) := by
  intro pins s σ H vs us Q I r h
  obtain ⟨a, ns, rfl, hs, hne, q⟩ := h
  obtain ⟨its, rv, hl, _⟩ := I.tuple hs
  obtain ⟨u, rfl, ru⟩ := vals1 r
  obtain rfl : u = Value.ref a := ru
  cases ns with
  | nil => simp at hne
  | cons m ns =>
    have dp : ∀ l : List Int, DpAll X.K H (l.map V.int) (l.map PyData.int) := fun l => by
      induction l with
      | nil => exact .nil
      | cons z l ih => exact .cons (.int z) ih
    obtain ⟨as, ra⟩ := Dp.readsAll I _ _ _ (dp (m :: ns)) rv
    refine PySem.W.max_tuple_datum (α := Int) (x := m) (xs := ns) (I.ok.hd hc) hl ⟨as, by rw [List.toList_toArray]; exact ra⟩ (by show X.A.units + 1 + 0 < cLine; omega) fun i v h' tk hv ho hk => ?_
    obtain ⟨bs, rd⟩ := ho
    obtain ⟨h1, h2⟩ := maxOf_spec ns m
    have e : ∃ t, v = Value.int (PySem.W.maxOf m ns) t := by
      have rd' : Reads h' v (.int (PySem.W.maxOf m ns)) bs := rd
      cases rd'
      exact ⟨_, rfl⟩
    obtain ⟨t, rfl⟩ := e
    exact ⟨.int (PySem.W.maxOf m ns), H, I.kept (h' := h') (t' := tk) hk, ⟨t, rfl⟩, q _ h1 h2⟩
theorem ae_maxT (hm : X.mg "max" = none) (hc : X.calm = true) (hu : X.A.units + 64 < cLine) (ha : aE X a Γ M fun d M' => ∃ ns : List Int, d = .tup (ns.map .int) ∧ 0 < ns.length ∧ ∀ m, m ∈ ns → (∀ y, y ∈ ns → y ≤ m) → P (.int m) M') (hg : Gl X "max" := by rfl) (hst : starEach [a] X.env = [(false, eval a X.env)] := by rfl) : aE X (.Call (.Name "max" p1) [a] [] pos) Γ M P :=
  ae_callB (cr_maxT hc hu) hm (by decide +kernel) (aa_cons (ha.mono fun d M' ⟨ns, hv, hl, h⟩ => aa_nil fun Hi H vs ok r Q q => by
    subst hv
    cases r with
    | cons r1 r2 =>
      cases r2
      cases r1 with
      | @tup p ys _ hq ra =>
        obtain rfl := ra.ints
        exact ⟨p, ns, rfl, sameT ok.im hq, hl, fun m h1 h2 => q _ _ _ Hi H (h m h1 h2) (Same.refl _) ok (.int _)⟩) hst) hg (he := hst) (hpl := rfl)
/-- t * n -/
theorem av_repT {xs : List Val} (ha : aV X a Γ M (.tup xs)) (hb : aV X b Γ M (.int j)) (hx : xs ≠ []) (h1 : 2 ≤ j) (h2 : j ≤ 1000) (hl : xs.length ≤ 1000) : aV X (.BinOp a .Mult b pos) Γ M (.tup (List.replicate j.toNat xs).flatten) :=
  av_op op_repT ha hb fun Hi H v w ok rv rw_ Q q => by
    cases rw_
    cases rv with
    | @tup p ys _ hq ra =>
      have rep : ∀ m : Nat, RepA X.K Hi (List.replicate m xs).flatten (List.replicate m ys).flatten := by
        intro m
        induction m with
        | zero => exact .nil
        | succ m ih =>
          rw [List.replicate_succ, List.replicate_succ, List.flatten_cons, List.flatten_cons]
          exact ra.append ih
      refine ⟨p, j, ys, rfl, rfl, sameT ok.im hq, fun z => hx ?_, h1, h2, by rw [← ra.length]; exact hl, fun l hl => ?_⟩
      · subst z
        cases ra
        rfl
      · have s2 := same_upd (o := .tup (List.replicate j.toNat ys).flatten) (ok.none hl)
        exact q _ _ _ _ _ ⟨rfl, rfl⟩ s2 (ok.imm hl) (.tup (SqT.of upd_same) ((rep _).mono s2))
/-- int(True), int(False) -/
theorem av_intB {bb : Bool} (hm : X.mg "int" = none) (ha : aV X a Γ M (.bl bb)) (hg : Gl X "int" := by rfl) (hst : starEach [a] X.env = [(false, eval a X.env)] := by rfl) : aV X (.Call (.Name "int" p1) [a] [] pos) Γ M (.int (if bb then 1 else 0)) :=
  ae_callTy call_int1 hm (by decide +kernel) (aa_cons (ha.val (aa_nil fun Hi H vs ok r Q q => by
    cases r with
    | cons r1 r2 =>
      cases r2
      cases r1
      exact .inr ⟨bb, rfl, q _ _ _ Hi H ⟨rfl, rfl⟩ (Same.refl _) ok (.int _)⟩)) hst) hg (he := hst) (hpl := rfl)
end
/-! ### def f( *v) -/
section
variable {P : Program} {w : World} {K : PySem.W.Frag} {mg : Str → Option Value} {base : Heap}
/-- positional defaults fill up -/
theorem fnx_dfl {x qual : Str} {params : Arguments} {body : List Stmt} {sc : Scope} {dvs : List V} {kws : List (Str × V)} {f : Addr} {fd : FuncData} {N ps : List Str} {k n : Nat} {s0 : ASp} (F : FunD K x qual params body sc dvs kws f fd) (S : FnScope N ps sc) (hd : dvs ≠ []) (dd : List Val) (hdd : ∀ H, RepA K H dd dvs)
    (h : ∀ (T : Addr) (kV doc pm : Value) (an : Option Addr) (cdv ct : Value) (us its : List Value), us.length = n → its.length = dvs.length →
      ∃ k, bindArgs (PySem.W.fnOf x qual params body sc (.ref T) kV doc pm an cdv ct) ⟨us, []⟩ = seqItems? (.ref T) >>= k ∧ k (some its.toArray) = pure (ps.zip (us ++ its)))
    (len : ∀ ds M R, s0 ds M R → ds.length = ps.length) (hb : BodyOk P w K mg base k f N qual sc body s0) : FnX P w K mg base (k + 1) f [] (spX K fun ds _ M R => ds.length = n ∧ s0 (ds ++ dd) M R) := by
  obtain ⟨oc, od, dV, kV, doc, pm, an, cdv, ct, osl, e, lk, hcd, hD, hK⟩ := F.ex
  rcases hD with ⟨e, _⟩ | ⟨_, T, o, its, m, e2, lT, oT, rT⟩
  · exact absurd e hd
  · subst e2
    subst e
    have l1 : its.length = dvs.length := rT.length.symm
    refine fnx_kbn (n := n) (ks := []) (fun ds _ => ds ++ dd) F S (g := fun us _ => us ++ its) (gV := fun vs _ => vs ++ dvs) ⟨fun s us ws X l2 h2 => ?_, fun r1 _ => r1.append rT⟩ (fun H ds vs es zs r _ _ _ => r.append (hdd H)) len hb
    obtain rfl := List.length_eq_zero_iff.mp h2
    obtain ⟨k', e1, e2⟩ := h T kV doc pm an cdv ct us its l2 l1
    refine BindsTo.of_looks fun M => ?_
    show PySem.W.Looks M s.heap (bindArgs _ ⟨us, []⟩) _
    rw [e1]
    exact looks_items X lT oT (.of_pure e2)
end
end Ab
/-! streams: a front and a loop; the normal form is one -/
namespace Sm
abbrev Stm := List Int × List Int
def lp (l : List Int) (i : Nat) : Int := l.getD (i % l.length) 0
def item (s : Stm) (i : Nat) : Int := if i < s.1.length then s.1.getD i 0 else lp s.2 (i - s.1.length)
theorem gd_eq {l : List Int} {i : Nat} (h : i < l.length) : l.getD i 0 = l[i] := by
  rw [List.getD_eq_getElem?_getD, List.getElem?_eq_getElem h]
  rfl
theorem ext_gd {l m : List Int} (hl : l.length = m.length) (h : ∀ i, i < l.length → l.getD i 0 = m.getD i 0) : l = m := by
  apply List.ext_getElem hl
  intro i h1 h2
  have := h i h1
  rwa [gd_eq h1, gd_eq h2] at this
theorem lp_add {l : List Int} (i : Nat) : lp l (i + l.length) = lp l i := by
  unfold lp
  rw [Nat.add_mod_right]
theorem lp_lt {l : List Int} {i : Nat} (h : i < l.length) : lp l i = l.getD i 0 := by
  unfold lp
  rw [Nat.mod_eq_of_lt h]
/-! ### periods -/
theorem per_mul {h : Nat → Int} {p : Nat} (hp : ∀ i, h (i + p) = h i) : ∀ (k i : Nat), h (i + p * k) = h i
  | 0, i => by rw [Nat.mul_zero, Nat.add_zero]
  | k + 1, i => by
    rw [Nat.mul_succ, ← Nat.add_assoc, hp, per_mul hp k]
theorem per_mod {h : Nat → Int} {p : Nat} (hp : ∀ i, h (i + p) = h i) (i : Nat) : h (i % p) = h i := by
  have := per_mul hp (i / p) (i % p)
  rw [Nat.mod_add_div] at this
  exact this.symm
theorem per_gcd {h : Nat → Int} (p q : Nat) (hp : ∀ i, h (i + p) = h i) (hq : ∀ i, h (i + q) = h i) : ∀ i, h (i + Nat.gcd p q) = h i := by
  induction p, q using Nat.gcd.induction with
  | H0 q => rw [Nat.gcd_zero_left]; exact hq
  | H1 m n hm ih =>
    rw [Nat.gcd_rec]
    refine ih (fun i => ?_) hp
    have e := per_mul hp (n / m) (i + n % m)
    rw [Nat.add_assoc, Nat.mod_add_div] at e
    rw [← e]
    exact hq i
/-- no smaller period that divides the length -/
def prim (l : List Int) : Prop := ∀ p, 0 < p → p < l.length → p ∣ l.length → ¬ ∀ i, lp l (i + p) = lp l i
def last0 (l : List Int) : Int := l.getD (l.length - 1) 0
structure NF (s : Stm) : Prop where
  ne : s.2 ≠ []
  pr : prim s.2
  fr : s.1 = [] ∨ last0 s.1 ≠ last0 s.2
theorem prim_per {l : List Int} (hn : l ≠ []) (hp : prim l) {d : Nat} (h0 : 0 < d) (hd : d ∣ l.length) (h : ∀ i, lp l (i + d) = lp l i) : d = l.length := by
  have hl : 0 < l.length := List.length_pos_iff.mpr hn
  have := Nat.le_of_dvd hl hd
  rcases Nat.lt_or_ge d l.length with h1 | h1
  · exact absurd h (hp d h0 h1 hd)
  · omega
theorem item_ge {s : Stm} {i : Nat} (h : s.1.length ≤ i) : item s i = lp s.2 (i - s.1.length) := by
  unfold item
  rw [if_neg (by omega)]
theorem item_lt {s : Stm} {i : Nat} (h : i < s.1.length) : item s i = s.1.getD i 0 := by
  unfold item
  rw [if_pos h]
theorem uniq_le {s t : Stm} (hs : NF s) (ht : NF t) (h : ∀ i, item s i = item t i) (hle : s.1.length ≤ t.1.length) : s = t := by
  have ps : 0 < s.2.length := List.length_pos_iff.mpr hs.ne
  have pt : 0 < t.2.length := List.length_pos_iff.mpr ht.ne
  generalize hc : t.1.length - s.1.length = c
  -- behind t's front
  have hh : ∀ i, lp s.2 (i + c) = lp t.2 i := fun i => by
    have := h (i + t.1.length)
    rw [item_ge (by omega), item_ge (by omega)] at this
    rw [show i + t.1.length - s.1.length = i + c by omega, Nat.add_sub_cancel] at this
    exact this
  have per1 : ∀ i, lp t.2 (i + s.2.length) = lp t.2 i := fun i => by
    rw [← hh, ← hh, show i + s.2.length + c = i + c + s.2.length by omega, lp_add]
  have d1 := per_gcd _ _ per1 (fun i => lp_add (l := t.2) i)
  have dpos : 0 < Nat.gcd s.2.length t.2.length := Nat.gcd_pos_of_pos_left _ ps
  have e1 := prim_per ht.ne ht.pr dpos (Nat.gcd_dvd_right _ _) d1
  have d2 : ∀ i, lp s.2 (i + Nat.gcd s.2.length t.2.length) = lp s.2 i := fun i => by
    have k : ∀ j, lp s.2 j = lp t.2 (j + s.2.length * c - c) := fun j => by
      have hc' : c ≤ s.2.length * c := Nat.le_mul_of_pos_left _ ps
      rw [← hh, show j + s.2.length * c - c + c = j + s.2.length * c by omega]
      exact (per_mul (fun i => lp_add (l := s.2) i) c j).symm
    have hc' : c ≤ s.2.length * c := Nat.le_mul_of_pos_left _ ps
    rw [k, k, show i + Nat.gcd s.2.length t.2.length + s.2.length * c - c = (i + s.2.length * c - c) + Nat.gcd s.2.length t.2.length by omega, d1]
  have e2 := prim_per hs.ne hs.pr dpos (Nat.gcd_dvd_left _ _) d2
  have hpq : s.2.length = t.2.length := e2.symm.trans e1
  have hc0 : c = 0 := by
    rcases Nat.eq_zero_or_pos c with z | z
    · exact z
    · exfalso
      have hN : 0 < t.1.length := by omega
      rcases ht.fr with q | q
      · rw [q] at hN
        exact absurd hN (by simp)
      · refine q ?_
        have a1 := h (t.1.length - 1)
        rw [item_ge (by omega), item_lt (by omega)] at a1
        have a2 := hh (t.2.length - 1)
        rw [show t.2.length - 1 + c = (c - 1) + s.2.length by omega, lp_add, lp_lt (l := t.2) (by omega)] at a2
        rw [show t.1.length - 1 - s.1.length = c - 1 by omega] at a1
        show t.1.getD (t.1.length - 1) 0 = t.2.getD (t.2.length - 1) 0
        rw [← a1, ← a2]
  have hl : s.1.length = t.1.length := by omega
  have f1 : s.1 = t.1 := ext_gd hl fun i hi => by
    have := h i
    rwa [item_lt hi, item_lt (hl ▸ hi)] at this
  have f2 : s.2 = t.2 := ext_gd hpq fun i hi => by
    have := hh i
    rw [hc0, Nat.add_zero, lp_lt hi, lp_lt (hpq ▸ hi)] at this
    exact this
  exact Prod.ext f1 f2
theorem uniq {s t : Stm} (hs : NF s) (ht : NF t) (h : ∀ i, item s i = item t i) : s = t := by
  rcases Nat.le_total s.1.length t.1.length with q | q
  · exact uniq_le hs ht h q
  · exact (uniq_le ht hs (fun i => (h i).symm) q).symm
/-! ### the program's way there -/
def cyc (t : List Int) (m : Nat) : List Int := (List.replicate m t).flatten
theorem cyc_succ (t : List Int) (m : Nat) : cyc t (m + 1) = t ++ cyc t m := by
  unfold cyc
  rw [List.replicate_succ, List.flatten_cons]
theorem cyc_len (t : List Int) : ∀ m, (cyc t m).length = m * t.length
  | 0 => by simp [cyc]
  | m + 1 => by
    rw [cyc_succ, List.length_append, cyc_len t m, Nat.succ_mul, Nat.add_comm]
theorem cyc_get (t : List Int) : ∀ (m i : Nat), i < m * t.length → (cyc t m).getD i 0 = lp t i
  | 0, i, h => by simp at h
  | m + 1, i, h => by
    rw [cyc_succ, List.getD_eq_getElem?_getD]
    by_cases hi : i < t.length
    · rw [List.getElem?_append_left hi, lp_lt hi, List.getD_eq_getElem?_getD]
    · have hi' : t.length ≤ i := by omega
      rw [List.getElem?_append_right hi', ← List.getD_eq_getElem?_getD, cyc_get t m (i - t.length) (by rw [Nat.succ_mul] at h; omega)]
      have := lp_add (l := t) (i - t.length)
      rw [Nat.sub_add_cancel hi'] at this
      exact this.symm
/-- the loop is its first p items over and over -/
def isRep (l : List Int) (p : Nat) : Bool := decide (l.length % p = 0) && decide (l = cyc (l.take p) (l.length / p))
def slFrom (l : List Int) : Nat → Nat → List Int
  | 0, _ => l
  | c + 1, p => if isRep l p = true then l.take p else slFrom l c (p + 1)
def sloop (l : List Int) : List Int := slFrom l (l.length - 1) 1
theorem take_len {l : List Int} {p : Nat} (h : p ≤ l.length) : (l.take p).length = p := by rw [List.length_take]; omega
theorem isRep_iff {l : List Int} {p : Nat} (h0 : 0 < p) (h1 : p < l.length) : isRep l p = true ↔ p ∣ l.length ∧ ∀ i, lp l (i + p) = lp l i := by
  unfold isRep
  rw [Bool.and_eq_true, decide_eq_true_iff, decide_eq_true_iff, ← Nat.dvd_iff_mod_eq_zero]
  have tl := take_len (Nat.le_of_lt h1)
  refine ⟨fun ⟨hd, he⟩ => ⟨hd, ?_⟩, fun ⟨hd, hp⟩ => ⟨hd, ?_⟩⟩
  · have hm : l.length / p * p = l.length := Nat.div_mul_cancel hd
    have g : ∀ i, i < l.length → l.getD i 0 = lp (l.take p) i := fun i hi => by
      have := cyc_get (l.take p) (l.length / p) i (by rw [tl, hm]; exact hi)
      rw [← he] at this
      exact this
    have g2 : ∀ i, lp l i = lp (l.take p) i := fun i => by
      unfold lp
      have hl : 0 < l.length := by omega
      have hi := Nat.mod_lt i hl
      have := g _ hi
      unfold lp at this
      rw [this, tl, Nat.mod_mod_of_dvd _ hd]
    intro i
    rw [g2, g2]
    have := lp_add (l := l.take p) i
    rw [tl] at this
    exact this
  · have hm : l.length / p * p = l.length := Nat.div_mul_cancel hd
    refine ext_gd (by rw [cyc_len, tl, hm]) fun i hi => ?_
    rw [cyc_get _ _ _ (by rw [tl, hm]; exact hi)]
    have := per_mod hp i
    rw [lp_lt hi, lp_lt (Nat.lt_trans (Nat.mod_lt i h0) h1)] at this
    rw [← this]
    unfold lp
    rw [tl, List.getD_eq_getElem?_getD, List.getD_eq_getElem?_getD, List.getElem?_take_of_lt (Nat.mod_lt i h0)]
theorem lp_take {l : List Int} {p : Nat} (h0 : 0 < p) (h1 : p < l.length) (hp : ∀ i, lp l (i + p) = lp l i) (i : Nat) : lp (l.take p) i = lp l i := by
  have tl := take_len (Nat.le_of_lt h1)
  have hm := Nat.mod_lt i h0
  rw [← per_mod hp i, lp_lt (Nat.lt_trans hm h1)]
  unfold lp
  rw [tl, List.getD_eq_getElem?_getD, List.getD_eq_getElem?_getD, List.getElem?_take_of_lt hm]
/-- what the search has behind it -/
theorem slFrom_spec {l : List Int} (hn : l ≠ []) : ∀ (c p : Nat), 0 < p → c + p = l.length → (∀ q, 0 < q → q < p → q ∣ l.length → ¬ ∀ i, lp l (i + q) = lp l i) →
    slFrom l c p ≠ [] ∧ prim (slFrom l c p) ∧ (∀ i, lp (slFrom l c p) i = lp l i) ∧ (slFrom l c p).length ≤ l.length ∧ ∀ v ∈ slFrom l c p, v ∈ l
  | 0, p, h0, hc, hb => by
    refine ⟨hn, fun q q0 q1 => hb q q0 ?_, fun _ => rfl, Nat.le_refl _, fun v h => h⟩
    have : slFrom l 0 p = l := rfl
    rw [this] at q1
    omega
  | c + 1, p, h0, hc, hb => by
    unfold slFrom
    have h1 : p < l.length := by omega
    by_cases hr : isRep l p = true
    · rw [if_pos hr]
      obtain ⟨hd, hp⟩ := (isRep_iff h0 h1).mp hr
      have tl := take_len (Nat.le_of_lt h1)
      refine ⟨fun z => ?_, fun q q0 q1 qd hq => ?_, lp_take h0 h1 hp, by omega, fun v hv => List.mem_of_mem_take hv⟩
      · rw [z] at tl
        simp at tl
        omega
      · rw [tl] at q1 qd
        refine hb q q0 q1 (Nat.dvd_trans qd hd) fun i => ?_
        have := hq i
        rwa [lp_take h0 h1 hp, lp_take h0 h1 hp] at this
    · rw [if_neg hr]
      refine slFrom_spec hn c (p + 1) (by omega) (by omega) fun q q0 q1 qd hq => ?_
      rcases Nat.lt_or_ge q p with z | z
      · exact hb q q0 z qd hq
      · have : q = p := by omega
        subst this
        exact hr ((isRep_iff h0 h1).mpr ⟨qd, hq⟩)
theorem sloop_spec {l : List Int} (hn : l ≠ []) : sloop l ≠ [] ∧ prim (sloop l) ∧ (∀ i, lp (sloop l) i = lp l i) ∧ (sloop l).length ≤ l.length ∧ ∀ v ∈ sloop l, v ∈ l := by
  have hl : 0 < l.length := List.length_pos_iff.mpr hn
  exact slFrom_spec hn _ _ (by decide) (by omega) fun q q0 q1 => by omega
def rotR (l : List Int) : List Int := last0 l :: l.dropLast
def nfGo : Nat → List Int → List Int → Stm
  | 0, f, l => (f, l)
  | c + 1, f, l => if f ≠ [] ∧ last0 f = last0 l then nfGo c f.dropLast (rotR l) else (f, l)
def nf (s : Stm) : Stm := nfGo s.1.length s.1 (sloop s.2)
theorem rot_len {l : List Int} (hn : l ≠ []) : (rotR l).length = l.length := by
  have hl : 0 < l.length := List.length_pos_iff.mpr hn
  unfold rotR
  rw [List.length_cons, List.length_dropLast]
  omega
theorem last_mem {l : List Int} (hn : l ≠ []) : last0 l ∈ l := by
  have hl : 0 < l.length := List.length_pos_iff.mpr hn
  unfold last0
  rw [gd_eq (by omega)]
  exact List.getElem_mem _
theorem mem_dl {l : List Int} {v : Int} (h : v ∈ l.dropLast) : v ∈ l := by
  rw [List.dropLast_eq_take] at h
  exact List.mem_of_mem_take h
theorem rot_mem {l : List Int} (hn : l ≠ []) {v : Int} (h : v ∈ rotR l) : v ∈ l := by
  rcases List.mem_cons.mp h with rfl | h
  · exact last_mem hn
  · exact mem_dl h
theorem gd_dropLast {l : List Int} {i : Nat} (h : i < l.length - 1) : l.dropLast.getD i 0 = l.getD i 0 := by
  rw [gd_eq (by rw [List.length_dropLast]; exact h), gd_eq (by omega), List.getElem_dropLast]
theorem rot_lp {l : List Int} (hn : l ≠ []) (i : Nat) : lp (rotR l) (i + 1) = lp l i := by
  have hl : 0 < l.length := List.length_pos_iff.mpr hn
  have hr := rot_len hn
  have hm := Nat.mod_lt i hl
  have k : ∀ j, j < l.length → lp (rotR l) (j + 1) = lp l j := fun j hj => by
    by_cases z : j + 1 < l.length
    · rw [lp_lt (by omega), lp_lt hj]
      show (last0 l :: l.dropLast).getD (j + 1) 0 = _
      rw [List.getD_cons_succ, gd_dropLast (by omega)]
    · have e : j = l.length - 1 := by omega
      subst e
      have : lp (rotR l) (l.length - 1 + 1) = lp (rotR l) 0 := by
        have := lp_add (l := rotR l) 0
        rw [hr] at this
        rw [show l.length - 1 + 1 = 0 + l.length by omega]
        exact this
      rw [this, lp_lt (by omega), lp_lt hj]
      rfl
  have e1 : lp l i = lp l (i % l.length) := (per_mod (fun i => lp_add (l := l) i) i).symm
  rw [e1, ← k _ hm]
  have := per_mul (h := fun j => lp (rotR l) (j + 1)) (p := l.length) (fun j => by
    have := lp_add (l := rotR l) (j + 1)
    rw [hr] at this
    show lp (rotR l) (j + l.length + 1) = _
    rw [show j + l.length + 1 = j + 1 + l.length by omega]
    exact this) (i / l.length) (i % l.length)
  rw [Nat.mod_add_div] at this
  exact this
theorem rot_prim {l : List Int} (hn : l ≠ []) (hp : prim l) : prim (rotR l) := fun q q0 q1 qd hq => by
  rw [rot_len hn] at q1 qd
  refine hp q q0 q1 qd fun i => ?_
  have := hq (i + 1)
  rw [show i + 1 + q = i + q + 1 by omega, rot_lp hn, rot_lp hn] at this
  exact this
theorem step_item {f l : List Int} (hf : f ≠ []) (hn : l ≠ []) (he : last0 f = last0 l) (i : Nat) : item (f.dropLast, rotR l) i = item (f, l) i := by
  have hl : 0 < f.length := List.length_pos_iff.mpr hf
  have h2 : 0 < l.length := List.length_pos_iff.mpr hn
  have hd : f.dropLast.length = f.length - 1 := List.length_dropLast
  by_cases h : i < f.length - 1
  · rw [item_lt (by show i < f.dropLast.length; omega), item_lt (by show i < f.length; omega)]
    exact gd_dropLast h
  · rw [item_ge (by show f.dropLast.length ≤ i; omega)]
    show lp (rotR l) (i - f.dropLast.length) = _
    rw [hd]
    by_cases z : i = f.length - 1
    · subst z
      rw [Nat.sub_self, item_lt (by show f.length - 1 < f.length; omega), lp_lt (by rw [rot_len hn]; exact h2)]
      exact he.symm
    · rw [item_ge (by show f.length ≤ i; omega), show i - (f.length - 1) = (i - f.length) + 1 by omega, rot_lp hn]
theorem nfGo_spec : ∀ (c : Nat) (f l : List Int), f.length ≤ c → l ≠ [] → prim l → NF (nfGo c f l) ∧ (∀ i, item (nfGo c f l) i = item (f, l) i) ∧ (nfGo c f l).1.length ≤ f.length ∧ (nfGo c f l).2.length = l.length ∧ (∀ v ∈ (nfGo c f l).1, v ∈ f) ∧ ∀ v ∈ (nfGo c f l).2, v ∈ l
  | 0, f, l, hc, hn, hp => by
    have e : f = [] := List.length_eq_zero_iff.mp (Nat.le_zero.mp hc)
    subst e
    exact ⟨⟨hn, hp, .inl rfl⟩, fun _ => rfl, Nat.le_refl _, rfl, fun _ h => h, fun _ h => h⟩
  | c + 1, f, l, hc, hn, hp => by
    unfold nfGo
    by_cases h : f ≠ [] ∧ last0 f = last0 l
    · rw [if_pos h]
      have hl : 0 < f.length := List.length_pos_iff.mpr h.1
      have hr : rotR l ≠ [] := fun z => by
        unfold rotR at z
        cases z
      obtain ⟨h1, h2, h3, h4, h5, h6⟩ := nfGo_spec c f.dropLast (rotR l) (by rw [List.length_dropLast]; omega) hr (rot_prim hn hp)
      exact ⟨h1, fun i => (h2 i).trans (step_item h.1 hn h.2 i), by rw [List.length_dropLast] at h3; omega, h4.trans (rot_len hn), fun v hv => mem_dl (h5 v hv), fun v hv => rot_mem hn (h6 v hv)⟩
    · rw [if_neg h]
      refine ⟨⟨hn, hp, ?_⟩, fun _ => rfl, Nat.le_refl _, rfl, fun _ h => h, fun _ h => h⟩
      by_cases z : f = []
      · exact .inl z
      · exact .inr fun e => h ⟨z, e⟩
structure NfS (s t : Stm) : Prop where
  nf : NF t
  it : ∀ i, item t i = item s i
  l1 : t.1.length ≤ s.1.length
  l2 : t.2.length ≤ s.2.length
  m1 : ∀ v ∈ t.1, v ∈ s.1
  m2 : ∀ v ∈ t.2, v ∈ s.2
theorem nf_spec {s : Stm} (hn : s.2 ≠ []) : NfS s (nf s) := by
  obtain ⟨a1, a2, a3, a4, a5⟩ := sloop_spec hn
  obtain ⟨h1, h2, h3, h4, h5, h6⟩ := nfGo_spec s.1.length s.1 (sloop s.2) (Nat.le_refl _) a1 a2
  refine ⟨h1, fun i => (h2 i).trans ?_, h3, h4 ▸ a4, h5, fun v hv => a5 v (h6 v hv)⟩
  unfold item
  by_cases z : i < s.1.length
  · rw [if_pos z, if_pos z]
  · rw [if_neg z, if_neg z]
    exact a3 _
theorem nf_of {s t : Stm} (hs : s.2 ≠ []) (ht : NF t) (h : ∀ i, item s i = item t i) : nf s = t :=
  uniq (nf_spec hs).nf ht fun i => by rw [(nf_spec hs).it, h]
theorem nf_nf {s : Stm} (h : NF s) : nf s = s := nf_of h.ne h fun _ => rfl
end Sm
namespace K54
open PySem L2 Ab
def topS (i : Nat) : Stmt := PySem.Challenge.pw_nestcount_k54_whole_goals.main.body.getD i (.Pass ⟨0, 0, 0, 0⟩)
abbrev c_InvalidSchedule___init__ : Stmt := inClass (topS 3) 0
abbrev n_InvalidSchedule___init__ : List Str := ["self", "part"]
theorem q_InvalidSchedule___init__ : FnScope n_InvalidSchedule___init__ ["self", "part"] (defScope c_InvalidSchedule___init__) := ⟨rfl, rfl, rfl, by decide +kernel, rfl, by decide +kernel, by decide +kernel⟩
abbrev c_InvalidNumber___init__ : Stmt := inClass (topS 4) 0
abbrev n_InvalidNumber___init__ : List Str := ["self", "number"]
theorem q_InvalidNumber___init__ : FnScope n_InvalidNumber___init__ ["self", "number"] (defScope c_InvalidNumber___init__) := ⟨rfl, rfl, rfl, by decide +kernel, rfl, by decide +kernel, by decide +kernel⟩
abbrev c_Frozen___init__ : Stmt := inClass (topS 8) 0
abbrev n_Frozen___init__ : List Str := ["self", "item"]
theorem q_Frozen___init__ : FnScope n_Frozen___init__ ["self", "item"] (defScope c_Frozen___init__) := ⟨rfl, rfl, rfl, by decide +kernel, rfl, by decide +kernel, by decide +kernel⟩
abbrev s_is_integer : Stmt := topS 16
abbrev n_is_integer : List Str := ["value", "low", "high"]
theorem q_is_integer : FnScope n_is_integer ["value", "low", "high"] (defScope s_is_integer) := ⟨rfl, rfl, rfl, by decide +kernel, rfl, by decide +kernel, by decide +kernel⟩
abbrev s_check_integer : Stmt := topS 18
abbrev n_check_integer : List Str := ["value", "low", "high"]
theorem q_check_integer : FnScope n_check_integer ["value", "low", "high"] (defScope s_check_integer) := ⟨rfl, rfl, rfl, by decide +kernel, rfl, by decide +kernel, by decide +kernel⟩
abbrev s_are_items : Stmt := topS 19
abbrev n_are_items : List Str := ["value", "least_size", "most_size", "item"]
theorem q_are_items : FnScope n_are_items ["value", "least_size", "most_size"] (defScope s_are_items) := ⟨rfl, rfl, rfl, by decide +kernel, rfl, by decide +kernel, by decide +kernel⟩
abbrev s_shortest_loop : Stmt := topS 20
abbrev n_shortest_loop : List Str := ["loop", "size"]
theorem q_shortest_loop : FnScope n_shortest_loop ["loop"] (defScope s_shortest_loop) := ⟨rfl, rfl, rfl, by decide +kernel, rfl, by decide +kernel, by decide +kernel⟩
abbrev s_normal_form : Stmt := topS 21
abbrev n_normal_form : List Str := ["front", "loop"]
theorem q_normal_form : FnScope n_normal_form ["front", "loop"] (defScope s_normal_form) := ⟨rfl, rfl, rfl, by decide +kernel, rfl, by decide +kernel, by decide +kernel⟩
abbrev s_stream_item : Stmt := topS 22
abbrev n_stream_item : List Str := ["stream", "index", "front", "loop"]
theorem q_stream_item : FnScope n_stream_item ["stream", "index"] (defScope s_stream_item) := ⟨rfl, rfl, rfl, by decide +kernel, rfl, by decide +kernel, by decide +kernel⟩
abbrev s_stream_without : Stmt := topS 23
abbrev n_stream_without : List Str := ["stream", "count", "front", "loop", "shift"]
theorem q_stream_without : FnScope n_stream_without ["stream", "count"] (defScope s_stream_without) := ⟨rfl, rfl, rfl, by decide +kernel, rfl, by decide +kernel, by decide +kernel⟩
abbrev s_with_front : Stmt := topS 24
abbrev n_with_front : List Str := ["stream", "size", "front", "index"]
theorem q_with_front : FnScope n_with_front ["stream", "size"] (defScope s_with_front) := ⟨rfl, rfl, rfl, by decide +kernel, rfl, by decide +kernel, by decide +kernel⟩
abbrev s_checked_stream : Stmt := topS 25
abbrev n_checked_stream : List Str := ["stream", "front", "loop"]
theorem q_checked_stream : FnScope n_checked_stream ["stream"] (defScope s_checked_stream) := ⟨rfl, rfl, rfl, by decide +kernel, rfl, by decide +kernel, by decide +kernel⟩
abbrev s_made_schedule : Stmt := topS 26
abbrev n_made_schedule : List Str := ["arity", "spine", "levels"]
theorem q_made_schedule : FnScope n_made_schedule ["arity", "spine", "levels"] (defScope s_made_schedule) := ⟨rfl, rfl, rfl, by decide +kernel, rfl, by decide +kernel, by decide +kernel⟩
abbrev s_replaced_items : Stmt := topS 27
abbrev n_replaced_items : List Str := ["stream", "changes", "front", "loop", "index", "item"]
theorem q_replaced_items : FnScope n_replaced_items ["stream", "changes"] (defScope s_replaced_items) := ⟨rfl, rfl, rfl, by decide +kernel, rfl, by decide +kernel, by decide +kernel⟩
abbrev s_keyword_index : Stmt := topS 28
abbrev n_keyword_index : List Str := ["keyword", "digits", "index"]
theorem q_keyword_index : FnScope n_keyword_index ["keyword"] (defScope s_keyword_index) := ⟨rfl, rfl, rfl, by decide +kernel, rfl, by decide +kernel, by decide +kernel⟩
abbrev c_Schedule___init__ : Stmt := inClass (topS 30) 4
abbrev n_Schedule___init__ : List Str := ["self", "arity", "spine", "levels"]
theorem q_Schedule___init__ : FnScope n_Schedule___init__ ["self", "arity", "spine", "levels"] (defScope c_Schedule___init__) := ⟨rfl, rfl, rfl, by decide +kernel, rfl, by decide +kernel, by decide +kernel⟩
abbrev c_Schedule_is_stream : Stmt := inClass (topS 30) 5
abbrev n_Schedule_is_stream : List Str := ["value"]
theorem q_Schedule_is_stream : FnScope n_Schedule_is_stream ["value"] (defScope c_Schedule_is_stream) := ⟨rfl, rfl, rfl, by decide +kernel, rfl, by decide +kernel, by decide +kernel⟩
abbrev c_Schedule_arity : Stmt := inClass (topS 30) 8
abbrev n_Schedule_arity : List Str := ["self"]
theorem q_Schedule_arity : FnScope n_Schedule_arity ["self"] (defScope c_Schedule_arity) := ⟨rfl, rfl, rfl, by decide +kernel, rfl, by decide +kernel, by decide +kernel⟩
abbrev c_Schedule_spine : Stmt := inClass (topS 30) 9
abbrev n_Schedule_spine : List Str := ["self"]
theorem q_Schedule_spine : FnScope n_Schedule_spine ["self"] (defScope c_Schedule_spine) := ⟨rfl, rfl, rfl, by decide +kernel, rfl, by decide +kernel, by decide +kernel⟩
abbrev c_Schedule_levels : Stmt := inClass (topS 30) 10
abbrev n_Schedule_levels : List Str := ["self"]
theorem q_Schedule_levels : FnScope n_Schedule_levels ["self"] (defScope c_Schedule_levels) := ⟨rfl, rfl, rfl, by decide +kernel, rfl, by decide +kernel, by decide +kernel⟩
abbrev c_Schedule_spine_at : Stmt := inClass (topS 30) 12
abbrev n_Schedule_spine_at : List Str := ["self", "index"]
theorem q_Schedule_spine_at : FnScope n_Schedule_spine_at ["self", "index"] (defScope c_Schedule_spine_at) := ⟨rfl, rfl, rfl, by decide +kernel, rfl, by decide +kernel, by decide +kernel⟩
abbrev c_Schedule_level_at : Stmt := inClass (topS 30) 13
abbrev n_Schedule_level_at : List Str := ["self", "height"]
theorem q_Schedule_level_at : FnScope n_Schedule_level_at ["self", "height"] (defScope c_Schedule_level_at) := ⟨rfl, rfl, rfl, by decide +kernel, rfl, by decide +kernel, by decide +kernel⟩
abbrev c_Schedule_replaced : Stmt := inClass (topS 30) 20
abbrev n_Schedule_replaced : List Str := ["self", "changes", "spine", "levels", "keyword", "item"]
theorem q_Schedule_replaced : FnScope n_Schedule_replaced ["self", "changes"] (defScope c_Schedule_replaced) := ⟨rfl, rfl, rfl, by decide +kernel, rfl, by decide +kernel, by decide +kernel⟩
abbrev c_Schedule___eq__ : Stmt := inClass (topS 30) 22
abbrev n_Schedule___eq__ : List Str := ["self", "other"]
theorem q_Schedule___eq__ : FnScope n_Schedule___eq__ ["self", "other"] (defScope c_Schedule___eq__) := ⟨rfl, rfl, rfl, by decide +kernel, rfl, by decide +kernel, by decide +kernel⟩
abbrev s_check_at_least : Stmt := topS 32
abbrev n_check_at_least : List Str := ["number", "least"]
theorem q_check_at_least : FnScope n_check_at_least ["number", "least"] (defScope s_check_at_least) := ⟨rfl, rfl, rfl, by decide +kernel, rfl, by decide +kernel, by decide +kernel⟩
abbrev c_Counter___init__ : Stmt := inClass (topS 33) 2
abbrev n_Counter___init__ : List Str := ["self", "schedule", "height"]
theorem q_Counter___init__ : FnScope n_Counter___init__ ["self", "schedule", "height"] (defScope c_Counter___init__) := ⟨rfl, rfl, rfl, by decide +kernel, rfl, by decide +kernel, by decide +kernel⟩
abbrev c_Counter_grow : Stmt := inClass (topS 33) 5
abbrev n_Counter_grow : List Str := ["self", "stage", "arity", "index", "size"]
theorem q_Counter_grow : FnScope n_Counter_grow ["self", "stage"] (defScope c_Counter_grow) := ⟨rfl, rfl, rfl, by decide +kernel, rfl, by decide +kernel, by decide +kernel⟩
abbrev c_Counter_first_place : Stmt := inClass (topS 33) 6
abbrev n_Counter_first_place : List Str := ["self", "before"]
theorem q_Counter_first_place : FnScope n_Counter_first_place ["self"] (defScope c_Counter_first_place) := ⟨rfl, rfl, rfl, by decide +kernel, rfl, by decide +kernel, by decide +kernel⟩
abbrev c_Counter_finished_inside : Stmt := inClass (topS 33) 7
abbrev n_Counter_finished_inside : List Str := ["self", "top", "offset", "found", "height", "own"]
theorem q_Counter_finished_inside : FnScope n_Counter_finished_inside ["self", "top", "offset"] (defScope c_Counter_finished_inside) := ⟨rfl, rfl, rfl, by decide +kernel, rfl, by decide +kernel, by decide +kernel⟩
abbrev c_Counter_count_finished : Stmt := inClass (topS 33) 8
abbrev n_Counter_count_finished : List Str := ["self", "n", "stage", "found", "offset", "size"]
theorem q_Counter_count_finished : FnScope n_Counter_count_finished ["self", "n"] (defScope c_Counter_count_finished) := ⟨rfl, rfl, rfl, by decide +kernel, rfl, by decide +kernel, by decide +kernel⟩
abbrev c_Counter_finishing : Stmt := inClass (topS 33) 9
abbrev n_Counter_finishing : List Str := ["self", "number", "height", "arity", "found", "power", "stage", "quotient", "step"]
theorem q_Counter_finishing : FnScope n_Counter_finishing ["self", "number"] (defScope c_Counter_finishing) := ⟨rfl, rfl, rfl, by decide +kernel, rfl, by decide +kernel, by decide +kernel⟩
abbrev c_Counter_value : Stmt := inClass (topS 33) 11
abbrev n_Counter_value : List Str := ["self", "n"]
theorem q_Counter_value : FnScope n_Counter_value ["self", "n"] (defScope c_Counter_value) := ⟨rfl, rfl, rfl, by decide +kernel, rfl, by decide +kernel, by decide +kernel⟩
abbrev c_Counter_place : Stmt := inClass (topS 33) 12
abbrev n_Counter_place : List Str := ["self", "number"]
theorem q_Counter_place : FnScope n_Counter_place ["self", "number"] (defScope c_Counter_place) := ⟨rfl, rfl, rfl, by decide +kernel, rfl, by decide +kernel, by decide +kernel⟩
abbrev s_is_integer_nodes : Stmt := topS 35
abbrev n_is_integer_nodes : List Str := ["value", "least"]
theorem q_is_integer_nodes : FnScope n_is_integer_nodes ["value", "least"] (defScope s_is_integer_nodes) := ⟨rfl, rfl, rfl, by decide +kernel, rfl, by decide +kernel, by decide +kernel⟩
abbrev s_need_schedule : Stmt := topS 37
abbrev n_need_schedule : List Str := ["value"]
theorem q_need_schedule : FnScope n_need_schedule ["value"] (defScope s_need_schedule) := ⟨rfl, rfl, rfl, by decide +kernel, rfl, by decide +kernel, by decide +kernel⟩
abbrev s_sizes_up_to : Stmt := topS 38
abbrev n_sizes_up_to : List Str := ["schedule", "height", "found", "at"]
theorem q_sizes_up_to : FnScope n_sizes_up_to ["schedule", "height"] (defScope s_sizes_up_to) := ⟨rfl, rfl, rfl, by decide +kernel, rfl, by decide +kernel, by decide +kernel⟩
abbrev s_end_of_stage : Stmt := topS 39
abbrev n_end_of_stage : List Str := ["schedule", "sizes", "stage", "found", "at"]
theorem q_end_of_stage : FnScope n_end_of_stage ["schedule", "sizes", "stage"] (defScope s_end_of_stage) := ⟨rfl, rfl, rfl, by decide +kernel, rfl, by decide +kernel, by decide +kernel⟩
abbrev s_need_height : Stmt := topS 46
abbrev n_need_height : List Str := ["height"]
theorem q_need_height : FnScope n_need_height ["height"] (defScope s_need_height) := ⟨rfl, rfl, rfl, by decide +kernel, rfl, by decide +kernel, by decide +kernel⟩
abbrev s_stage_end : Stmt := topS 47
abbrev n_stage_end : List Str := ["schedule", "stage"]
theorem q_stage_end : FnScope n_stage_end ["schedule", "stage"] (defScope s_stage_end) := ⟨rfl, rfl, rfl, by decide +kernel, rfl, by decide +kernel, by decide +kernel⟩
abbrev s_is_count : Stmt := topS 49
abbrev n_is_count : List Str := ["value", "least"]
theorem q_is_count : FnScope n_is_count ["value", "least"] (defScope s_is_count) := ⟨rfl, rfl, rfl, by decide +kernel, rfl, by decide +kernel, by decide +kernel⟩
abbrev s_least_value : Stmt := topS 50
abbrev n_least_value : List Str := ["item"]
theorem q_least_value : FnScope n_least_value ["item"] (defScope s_least_value) := ⟨rfl, rfl, rfl, by decide +kernel, rfl, by decide +kernel, by decide +kernel⟩
abbrev s_is_item_value : Stmt := topS 51
abbrev n_is_item_value : List Str := ["item", "value"]
theorem q_is_item_value : FnScope n_is_item_value ["item", "value"] (defScope s_is_item_value) := ⟨rfl, rfl, rfl, by decide +kernel, rfl, by decide +kernel, by decide +kernel⟩
abbrev s_power_of : Stmt := topS 52
abbrev n_power_of : List Str := ["base", "exponent", "power", "step"]
theorem q_power_of : FnScope n_power_of ["base", "exponent"] (defScope s_power_of) := ⟨rfl, rfl, rfl, by decide +kernel, rfl, by decide +kernel, by decide +kernel⟩
abbrev s_first_leaf : Stmt := topS 53
abbrev n_first_leaf : List Str := ["arity", "item", "index"]
theorem q_first_leaf : FnScope n_first_leaf ["arity", "item"] (defScope s_first_leaf) := ⟨rfl, rfl, rfl, by decide +kernel, rfl, by decide +kernel, by decide +kernel⟩
abbrev s_influence : Stmt := topS 54
abbrev n_influence : List Str := ["arity", "item", "number"]
theorem q_influence : FnScope n_influence ["arity", "item", "number"] (defScope s_influence) := ⟨rfl, rfl, rfl, by decide +kernel, rfl, by decide +kernel, by decide +kernel⟩
abbrev c_Growth___init__ : Stmt := inClass (topS 55) 1
abbrev n_Growth___init__ : List Str := ["self", "schedule", "label"]
theorem q_Growth___init__ : FnScope n_Growth___init__ ["self", "schedule", "label"] (defScope c_Growth___init__) := ⟨rfl, rfl, rfl, by decide +kernel, rfl, by decide +kernel, by decide +kernel⟩
abbrev c_Growth_is_item : Stmt := inClass (topS 55) 3
abbrev n_Growth_is_item : List Str := ["value"]
theorem q_Growth_is_item : FnScope n_Growth_is_item ["value"] (defScope c_Growth_is_item) := ⟨rfl, rfl, rfl, by decide +kernel, rfl, by decide +kernel, by decide +kernel⟩
abbrev c_Growth_schedule : Stmt := inClass (topS 55) 5
abbrev n_Growth_schedule : List Str := ["self"]
theorem q_Growth_schedule : FnScope n_Growth_schedule ["self"] (defScope c_Growth_schedule) := ⟨rfl, rfl, rfl, by decide +kernel, rfl, by decide +kernel, by decide +kernel⟩
abbrev c_Growth_change_count : Stmt := inClass (topS 55) 8
abbrev n_Growth_change_count : List Str := ["self"]
theorem q_Growth_change_count : FnScope n_Growth_change_count ["self"] (defScope c_Growth_change_count) := ⟨rfl, rfl, rfl, by decide +kernel, rfl, by decide +kernel, by decide +kernel⟩
abbrev c_Growth_state : Stmt := inClass (topS 55) 12
abbrev n_Growth_state : List Str := ["self"]
theorem q_Growth_state : FnScope n_Growth_state ["self"] (defScope c_Growth_state) := ⟨rfl, rfl, rfl, by decide +kernel, rfl, by decide +kernel, by decide +kernel⟩
abbrev c_Growth_load_state : Stmt := inClass (topS 55) 13
abbrev n_Growth_load_state : List Str := ["self", "saved"]
theorem q_Growth_load_state : FnScope n_Growth_load_state ["self", "saved"] (defScope c_Growth_load_state) := ⟨rfl, rfl, rfl, by decide +kernel, rfl, by decide +kernel, by decide +kernel⟩
abbrev c_Growth_is_frozen : Stmt := inClass (topS 55) 15
abbrev n_Growth_is_frozen : List Str := ["self", "item", "index", "begun"]
theorem q_Growth_is_frozen : FnScope n_Growth_is_frozen ["self", "item"] (defScope c_Growth_is_frozen) := ⟨rfl, rfl, rfl, by decide +kernel, rfl, by decide +kernel, by decide +kernel⟩
abbrev c_Growth_checked : Stmt := inClass (topS 55) 18
abbrev n_Growth_checked : List Str := ["self", "items", "item", "named"]
theorem q_Growth_checked : FnScope n_Growth_checked ["self", "items"] (defScope c_Growth_checked) := ⟨rfl, rfl, rfl, by decide +kernel, rfl, by decide +kernel, by decide +kernel⟩
abbrev c_Growth_make : Stmt := inClass (topS 55) 22
abbrev n_Growth_make : List Str := ["self", "name", "value"]
theorem q_Growth_make : FnScope n_Growth_make ["self", "name", "value"] (defScope c_Growth_make) := ⟨rfl, rfl, rfl, by decide +kernel, rfl, by decide +kernel, by decide +kernel⟩
abbrev c_Growth_apply : Stmt := inClass (topS 55) 23
abbrev n_Growth_apply : List Str := ["self", "changes", "index", "change", "attempt", "name", "value"]
theorem q_Growth_apply : FnScope n_Growth_apply ["self", "changes"] (defScope c_Growth_apply) := ⟨rfl, rfl, rfl, by decide +kernel, rfl, by decide +kernel, by decide +kernel⟩
abbrev c_Growth_item_for : Stmt := inClass (topS 55) 24
abbrev n_Growth_item_for : List Str := ["self", "item", "number", "place", "schedule", "index", "present", "missing", "often"]
theorem q_Growth_item_for : FnScope n_Growth_item_for ["self", "item", "number", "place"] (defScope c_Growth_item_for) := ⟨rfl, rfl, rfl, by decide +kernel, rfl, by decide +kernel, by decide +kernel⟩
abbrev c_Growth_copy : Stmt := inClass (topS 55) 28
abbrev n_Growth_copy : List Str := ["self", "growth"]
theorem q_Growth_copy : FnScope n_Growth_copy ["self"] (defScope c_Growth_copy) := ⟨rfl, rfl, rfl, by decide +kernel, rfl, by decide +kernel, by decide +kernel⟩
abbrev s__law_mixed : Stmt := topS 57
abbrev n__law_mixed : List Str := ["_law_mark", "_law_k", "_law_found"]
theorem q__law_mixed : FnScope n__law_mixed ["_law_mark", "_law_k"] (defScope s__law_mixed) := ⟨rfl, rfl, rfl, by decide +kernel, rfl, by decide +kernel, by decide +kernel⟩
abbrev s__law_state : Stmt := topS 58
abbrev n__law_state : List Str := ["_law_script", "_law_at_here", "_law_spots", "_law_k"]
theorem q__law_state : FnScope n__law_state ["_law_script", "_law_at_here"] (defScope s__law_state) := ⟨rfl, rfl, rfl, by decide +kernel, rfl, by decide +kernel, by decide +kernel⟩
abbrev s__law_draw : Stmt := topS 59
abbrev n__law_draw : List Str := ["_law_state_here", "_law_limit", "_law_found", "_law_k", "_law_pace"]
theorem q__law_draw : FnScope n__law_draw ["_law_state_here", "_law_limit"] (defScope s__law_draw) := ⟨rfl, rfl, rfl, by decide +kernel, rfl, by decide +kernel, by decide +kernel⟩
abbrev s__law_of : Stmt := topS 60
abbrev n__law_of : List Str := ["_law_state_here", "_law_items_here"]
theorem q__law_of : FnScope n__law_of ["_law_state_here", "_law_items_here"] (defScope s__law_of) := ⟨rfl, rfl, rfl, by decide +kernel, rfl, by decide +kernel, by decide +kernel⟩
abbrev s__law_big : Stmt := topS 61
abbrev n__law_big : List Str := ["_law_state_here", "_law_limit", "_law_found", "_law_k"]
theorem q__law_big : FnScope n__law_big ["_law_state_here", "_law_limit"] (defScope s__law_big) := ⟨rfl, rfl, rfl, by decide +kernel, rfl, by decide +kernel, by decide +kernel⟩
abbrev s__law_stream : Stmt := topS 62
abbrev n__law_stream : List Str := ["_law_state_here", "_law_low", "_law_front", "_law_k", "_law_loop"]
theorem q__law_stream : FnScope n__law_stream ["_law_state_here", "_law_low"] (defScope s__law_stream) := ⟨rfl, rfl, rfl, by decide +kernel, rfl, by decide +kernel, by decide +kernel⟩
abbrev s__law_parts : Stmt := topS 63
abbrev n__law_parts : List Str := ["_law_state_here"]
theorem q__law_parts : FnScope n__law_parts ["_law_state_here"] (defScope s__law_parts) := ⟨rfl, rfl, rfl, by decide +kernel, rfl, by decide +kernel, by decide +kernel⟩
abbrev s__law_at : Stmt := topS 64
abbrev n__law_at : List Str := ["_law_stream_here", "_law_spot", "_law_front", "_law_loop"]
theorem q__law_at : FnScope n__law_at ["_law_stream_here", "_law_spot"] (defScope s__law_at) := ⟨rfl, rfl, rfl, by decide +kernel, rfl, by decide +kernel, by decide +kernel⟩
abbrev s__law_schedule : Stmt := topS 65
abbrev n__law_schedule : List Str := ["_law_parts_here"]
theorem q__law_schedule : FnScope n__law_schedule ["_law_parts_here"] (defScope s__law_schedule) := ⟨rfl, rfl, rfl, by decide +kernel, rfl, by decide +kernel, by decide +kernel⟩
abbrev s__law_with : Stmt := topS 66
abbrev n__law_with : List Str := ["_law_parts_here", "_law_item", "_law_value", "_law_which", "_law_spot", "_law_stream_here", "_law_far", "_law_front", "_law_k", "_law_loop", "_law_fresh"]
theorem q__law_with : FnScope n__law_with ["_law_parts_here", "_law_item", "_law_value"] (defScope s__law_with) := ⟨rfl, rfl, rfl, by decide +kernel, rfl, by decide +kernel, by decide +kernel⟩
abbrev s__law_stage_end : Stmt := topS 67
abbrev n__law_stage_end : List Str := ["_law_parts_here", "_law_stage", "_law_size", "_law_found", "_law_k"]
theorem q__law_stage_end : FnScope n__law_stage_end ["_law_parts_here", "_law_stage"] (defScope s__law_stage_end) := ⟨rfl, rfl, rfl, by decide +kernel, rfl, by decide +kernel, by decide +kernel⟩
abbrev s__law_is_frozen : Stmt := topS 68
abbrev n__law_is_frozen : List Str := ["_law_parts_here", "_law_reached", "_law_item", "_law_spot"]
theorem q__law_is_frozen : FnScope n__law_is_frozen ["_law_parts_here", "_law_reached", "_law_item"] (defScope s__law_is_frozen) := ⟨rfl, rfl, rfl, by decide +kernel, rfl, by decide +kernel, by decide +kernel⟩
abbrev s__law_items : Stmt := topS 69
abbrev n__law_items : List Str := ["_law_k"]
theorem q__law_items : FnScope n__law_items [] (defScope s__law_items) := ⟨rfl, rfl, rfl, by decide +kernel, rfl, by decide +kernel, by decide +kernel⟩
abbrev s__law_place : Stmt := topS 70
abbrev n__law_place : List Str := ["_law_parts_here", "_law_leaf", "_law_found", "_law_power", "_law_height"]
theorem q__law_place : FnScope n__law_place ["_law_parts_here", "_law_leaf"] (defScope s__law_place) := ⟨rfl, rfl, rfl, by decide +kernel, rfl, by decide +kernel, by decide +kernel⟩
abbrev s__law_due : Stmt := topS 71
abbrev n__law_due : List Str := ["_law_parts_here", "_law_item", "_law_leaf", "_law_place_here", "_law_low", "_law_base", "_law_slope", "_law_stream_here"]
theorem q__law_due : FnScope n__law_due ["_law_parts_here", "_law_item", "_law_leaf", "_law_place_here"] (defScope s__law_due) := ⟨rfl, rfl, rfl, by decide +kernel, rfl, by decide +kernel, by decide +kernel⟩
abbrev s__law_asked : Stmt := topS 72
abbrev n__law_asked : List Str := ["_law_state_here", "_law_parts_here", "_law_item", "_law_leaf", "_law_value", "_law_place_here"]
theorem q__law_asked : FnScope n__law_asked ["_law_state_here", "_law_parts_here", "_law_item"] (defScope s__law_asked) := ⟨rfl, rfl, rfl, by decide +kernel, rfl, by decide +kernel, by decide +kernel⟩
abbrev s__law_goal_right : Stmt := topS 73
abbrev n__law_goal_right : List Str := ["_law_state_here", "_law_growth", "_law_parts_here", "_law_item", "_law_leaf", "_law_place_here", "_law_told", "_law_due_here", "_law_other"]
theorem q__law_goal_right : FnScope n__law_goal_right ["_law_state_here", "_law_growth", "_law_parts_here", "_law_item"] (defScope s__law_goal_right) := ⟨rfl, rfl, rfl, by decide +kernel, rfl, by decide +kernel, by decide +kernel⟩
abbrev s__law_is_rejected : Stmt := topS 74
abbrev n__law_is_rejected : List Str := ["_law_growth", "_law_item", "_law_caught", "e"]
theorem q__law_is_rejected : FnScope n__law_is_rejected ["_law_growth", "_law_item"] (defScope s__law_is_rejected) := ⟨rfl, rfl, rfl, by decide +kernel, rfl, by decide +kernel, by decide +kernel⟩
abbrev s_law : Stmt := topS 75
abbrev n_law : List Str := ["_law_script", "_law_at_here", "_law_state_here", "_law_parts_here", "_law_reached", "_law_growth", "_law_free", "_law_item", "_law_k", "_law_held"]
theorem q_law : FnScope n_law ["_law_script"] (defScope s_law) := ⟨rfl, rfl, rfl, by decide +kernel, rfl, by decide +kernel, by decide +kernel⟩
end K54
namespace Ab
open PySem L2
/-! ### short words -/
section
variable {X : Cx} {Γ : Gam} {M : Mem} {pos : Pos} {x : Str} {d : Val} {i : Int} {j}
theorem v_ (n : Nat) (hd : Γ[n]? = some (some d) := by rfl) (hN : X.N[n]? = some x := by rfl) (hv : Vis X.env.scope x := by first | exact Or.inl rfl | exact Or.inr (Or.inl rfl) | exact Or.inr (Or.inr rfl))
    (hdb : (x == ("__debug__" : Str)) = false := by decide) (hcd : (x == ("__classdict__" : Str)) = false := by decide) : aV X (.Name x pos) Γ M d := ae_var n hd ⟨rfl, rfl⟩ hN hv hdb hcd
theorem i_ : aV X (.Constant (.int i) j pos) Γ M (.int i) := ae_int ⟨rfl, rfl⟩
theorem s_ : aV X (.Constant (.str x) j pos) Γ M (.str x) := ae_str ⟨rfl, rfl⟩
theorem n_ : aV X (.Constant .none j pos) Γ M .non := ae_non ⟨rfl, rfl⟩
theorem nft {p : Prop} : false = true → p := fun h => nomatch h
theorem ntf {p : Prop} : true = false → p := fun h => nomatch h
theorem sz {n : Nat} (h : n ≤ 100000) : n ≤ sizeLine := Nat.le_trans h (by decide)
theorem szl {n : Nat} (h : n < 100000) : n < sizeLine := Nat.lt_of_lt_of_le h (by decide)
theorem szb {n : Nat} (h : Nat.ble n 100000 = true := by rfl) : n ≤ sizeLine := sz (Nat.le_of_ble_eq_true h)
end
def optV : Option Int → Val
  | none => .non
  | some l => .int l
def within (n : Int) (lo hi : Option Int) : Bool := (match lo with | none => true | some l => decide (l ≤ n)) && (match hi with | none => true | some h => decide (n ≤ h))
def iT (xs : List Int) : Val := .tup (xs.map .int)
def iL (xs : List Int) : Val := .lst (xs.map .int)
def at0 (g : List Int) (i : Int) : Int := g.getD i.toNat 0
theorem atI_int {g : List Int} {i : Int} (h0 : 0 ≤ i) (h1 : i < g.length) : atI (g.map Val.int) i = some (.int (at0 g i)) := by
  obtain ⟨n, rfl⟩ := Int.eq_ofNat_of_zero_le h0
  refine atI_nat ?_
  have hn : n < g.length := by omega
  rw [List.getElem?_map, List.getElem?_eq_getElem hn]
  show some (Val.int g[n]) = some (Val.int (at0 g n))
  unfold at0
  rw [Int.toNat_natCast, List.getD_eq_getElem?_getD, List.getElem?_eq_getElem hn]
  rfl
/-- the last one -/
theorem atI_last {g : List Int} (h : g ≠ []) : atI (g.map Val.int) (-1) = some (.int (g.getD (g.length - 1) 0)) := by
  have hl : 0 < g.length := List.length_pos_iff.mpr h
  unfold atI ixN
  rw [List.length_map, if_neg (by decide), if_pos (by omega), Option.bind_some, show ((-1 : Int) + (g.length : Int)).toNat = g.length - 1 by omega, List.getElem?_map, List.getElem?_eq_getElem (by omega), List.getD_eq_getElem?_getD, List.getElem?_eq_getElem (by omega)]
  rfl
theorem getD_int {g : List Int} {i : Nat} (h : i < g.length) : (g.map Val.int).getD i .non = .int g[i] := by
  rw [List.getD_eq_getElem?_getD, List.getElem?_map, List.getElem?_eq_getElem h]
  rfl
theorem cut_neg {g : List Int} (h : g ≠ []) : cutI g none (some (-1)) = g.dropLast := by
  have hl : 0 < g.length := List.length_pos_iff.mpr h
  unfold cutI
  have e : HT.sIx g.length g.length (some (-1)) = g.length - 1 := by
    show (if (-1 : Int) < 0 then ((-1 : Int) + (g.length : Int)).toNat else min (-1 : Int).toNat g.length) = _
    rw [if_pos (by decide)]
    omega
  rw [e, HT.sIx_none, List.drop_zero, Nat.sub_zero, List.dropLast_eq_take]
theorem cut_end {g : List Int} (h : g ≠ []) : cutI g (some (-1)) none = [g.getD (g.length - 1) 0] := by
  have hl : 0 < g.length := List.length_pos_iff.mpr h
  unfold cutI
  have e : HT.sIx g.length 0 (some (-1)) = g.length - 1 := by
    show (if (-1 : Int) < 0 then ((-1 : Int) + (g.length : Int)).toNat else min (-1 : Int).toNat g.length) = _
    rw [if_pos (by decide)]
    omega
  rw [e, HT.sIx_none, List.drop_eq_getElem_cons (by omega), show g.length - 1 + 1 = g.length by omega, List.drop_length, show g.length - (g.length - 1) = 1 by omega, List.getD_eq_getElem?_getD, List.getElem?_eq_getElem (by omega)]
  rfl
theorem map_cyc {g : List Int} (m : Nat) : (List.replicate m (g.map Val.int)).flatten = ((List.replicate m g).flatten).map Val.int := by
  induction m with
  | zero => rfl
  | succ m ih => rw [List.replicate_succ, List.replicate_succ, List.flatten_cons, List.flatten_cons, List.map_append, ih]
abbrev FX (P : Program) (w : World) (K : PySem.W.Frag) (mg : Str → Option Value) (base : Heap) (k : Nat) (f : Addr) (s : ASx) : Prop := FnX P w K mg base k f [] (spX K s)
/-- a def that stands under a global name -/
structure Gd (P : Program) (w : World) (K : PySem.W.Frag) (mg : Str → Option Value) (base : Heap) (k : Nat) (x : Str) (ks : List Str) (s : ASx) : Prop where
  ex : ∃ f, FnX P w K mg base k f ks (spX K s) ∧ mg x = some (.ref f) ∧ PySem.W.keepIn K (.ref f) = true
section
variable {X : Cx} {Γ : Gam} {M : Mem} {P : Val → Mem → Prop} {e : Expr} {es : List Expr} {kws : List Keyword} {pos p1 : Pos} {x : Str} {n m : Nat} {ks : List Str} {sx : ASx}
theorem ae_g (G : Gd X.prog X.w X.K X.mg X.base n x ks sx) (hr : Rm m X.A) (hnm : n ≤ m) (h : aA X (e :: es) Γ M fun ds M1 => aKw X kws Γ M1 fun zs M2 => zs.length = ks.length ∧ sx ds zs M2 P)
    (hg : Gl X x := by rfl) (hall : (backToKw pos (keywordEach kws X.env)).all (·.1.isSome) = true := by rfl) (hks : (backToKw pos (keywordEach kws X.env)).filterMap (·.1) = ks := by rfl) (hdb : (x == ("__debug__" : Str)) = false := by decide)
    (he : starEach (e :: es) X.env = (false, eval e X.env) :: starEach es X.env := by rfl) (hpl : ((backTo pos (starEach (e :: es) X.env)).any (·.1) || (backToKw pos (keywordEach kws X.env)).any (·.1.isNone)) = false := by rfl) : aE X (.Call (.Name x p1) (e :: es) kws pos) Γ M P := by
  obtain ⟨f, F, hm, hk⟩ := G.ex
  exact ae_call F (hr.mono hnm) hm hk h hg hall hks hdb he hpl
end
end Ab
namespace K54
open PySem L2 Ab Sm
section
variable {P : Program} {w : World} {K : PySem.W.Frag} {mg : Str → Option Value} {base : Heap} {k : Nat} {f C : Addr}
/-! ### is_integer, check_integer, are_items -/
def aInt : ASp := fun ds M R => ∃ n lo hi, ds = [.int n, optV lo, optV hi] ∧ R (.bl (within n lo hi)) M
theorem b_is_integer (m1 : mg "isinstance" = none) (m2 : mg "int" = none) (m3 : mg "bool" = none) : BodyOk P w K mg base k f n_is_integer "is_integer" (defScope s_is_integer) (defBody s_is_integer) aInt := by
  rintro cdv A outer s H E hr ds M R ⟨n, lo, hi, rfl, hp⟩
  refine as_cons (as_if (at_w (aw_or (at_not (at_val (ae_isi m1 (v_ 0) (av_ty (T := "int") m2 (by decide +kernel)) (.ty "int") (.int _) (kit_ty (by decide +kernel)) ⟨true, rfl, nft, fun _ => ?_⟩))))))
  refine aw_or1 (at_val (ae_isi m1 (v_ 0) (av_ty (T := "bool") m3 (by decide +kernel)) (.ty "bool") (.int _) (kit_ty (by decide +kernel)) ⟨false, rfl, nft, fun _ => ?_⟩))
  refine as_nil (as_one (as_ret ?_))
  cases lo with
  | none =>
    refine ae_and (ae_or (ae_cmp (v_ 1) n_ cmp_isN ⟨true, rfl, fun _ => ⟨true, rfl, fun _ => ?_, ntf⟩, ntf⟩))
    cases hi with
    | none => exact ae_one (ae_or (ae_cmp (v_ 2) n_ cmp_isN ⟨true, rfl, fun _ => .ok hp, ntf⟩))
    | some h => exact ae_one (ae_or (ae_cmp (v_ 2) n_ cmp_isN ⟨false, rfl, nft, fun _ => ae_one (ae_cmp (v_ 0) (v_ 2) cmp_le (.ok (by simpa [within] using hp)))⟩))
  | some l =>
    refine ae_and (ae_or (ae_cmp (v_ 1) n_ cmp_isN ⟨false, rfl, nft, fun _ => ae_one (ae_cmp (v_ 1) (v_ 0) cmp_le ⟨_, rfl, fun e => ?_, fun e => .ok (by simpa [within, e] using hp)⟩)⟩))
    cases hi with
    | none => exact ae_one (ae_or (ae_cmp (v_ 2) n_ cmp_isN ⟨true, rfl, fun _ => .ok (by simpa [within, e] using hp), ntf⟩))
    | some h => exact ae_one (ae_or (ae_cmp (v_ 2) n_ cmp_isN ⟨false, rfl, nft, fun _ => ae_one (ae_cmp (v_ 0) (v_ 2) cmp_le (.ok (by simpa [within, e] using hp)))⟩))
/-- is_integer(x, low=.., high=..) -/
abbrev GInt (P : Program) (w : World) (K : PySem.W.Frag) (mg : Str → Option Value) (base : Heap) : Prop := Gd P w K mg base 1 "is_integer_schedules" ["low", "high"] fun ds es M R => ds.length = 1 ∧ aInt (ds ++ es) M R
def aChk : ASp := fun ds M R => ∃ n lo, ds = [.int n, .int lo, .non] ∧ lo ≤ n ∧ R .non M
theorem b_check_integer (G : GInt P w K mg base) : BodyOk P w K mg base 1 f n_check_integer "check_integer" (defScope s_check_integer) (defBody s_check_integer) aChk := by
  rintro cdv A outer s H E hr ds M R ⟨n, lo, rfl, hle, hp⟩
  refine as_one (as_if (at_not (at_val (ae_g G hr (by decide) (aa_cons ((v_ 0).val (aa_nil (ak_cons ((v_ 1).val (ak_cons ((v_ 2).val (ak_nil ⟨rfl, rfl, n, some lo, none, rfl, true, ?_, nft, fun _ => as_nil (.ok hp)⟩))))))))))))
  have e : within n (some lo) none = true := by simp [within]; exact hle
  rw [e]
abbrev GChk (P : Program) (w : World) (K : PySem.W.Frag) (mg : Str → Option Value) (base : Heap) : Prop := Gd P w K mg base 2 "check_integer" [] fun ds _ M R => ds.length = 2 ∧ aChk (ds ++ [.non]) M R
def okI (v : Int) : Prop := 0 ≤ v ∧ v ≤ 1000000
theorem rep_true {M : Mem} {n : Nat} : Vw M (.lst ((List.range n).map fun _ => Val.bl true)) (.lst ((List.replicate n true).map .bl)) := by
  have e : (List.range n).map (fun _ => Val.bl true) = (List.replicate n true).map .bl := by simp [List.map_const']
  rw [e]
  exact .self _
def aItems : ASp := fun ds M R => ∃ xs a b, ds = [iT xs, .int a, .int b] ∧ a ≤ (xs.length : Int) ∧ (xs.length : Int) ≤ b ∧ b ≤ 1000 ∧ (∀ v ∈ xs, okI v) ∧ R (.bl true) M
theorem b_are_items {t : Tok} (G : GInt P w K mg base) (gl : mg "LABEL_LIMIT" = some (.int 1000000 t)) (m1 : mg "isinstance" = none) (m2 : mg "tuple" = none) (m3 : mg "len" = none) (m4 : mg "all" = none) : BodyOk P w K mg base 1 f n_are_items "are_items" (defScope s_are_items) (defBody s_are_items) aItems := by
  rintro cdv A outer s H E hr ds M R ⟨xs, a, b, rfl, h1, h2, h3, hx, hp⟩
  refine as_cons (as_if (at_w (aw_or (at_not (at_val (ae_isi m1 (v_ 0) (av_ty (T := "tuple") m2 (by decide +kernel)) (.ty "tuple") (.tup _) (kit_ty (by decide +kernel)) ⟨true, rfl, nft, fun _ => ?_⟩))))))
  refine aw_or1 (at_not (at_chain (v_ 1) (av_len m3 (v_ 0) .t) (v_ 2) cmp_le cmp_le ⟨fun h => ?_, fun _ => as_nil ?_⟩))
  · simp at h
    omega
  refine as_one (as_ret (ae_all m4 rfl (ae_lcP [("item", 3)] (fun _ => .bl true) rfl q_are_items.nd (blkOk_by (N := n_are_items) (sc := defScope s_are_items) (by decide +kernel)) (ai_tup ((v_ 0).val ⟨rfl, rfl⟩)) ?_ (by simp; omega) ⟨List.replicate _ true, rep_true, .ok ?_⟩)))
  · intro i acc D hi s H C' cl fp
    have hi' : i < xs.length := by simpa using hi
    rw [getD_int hi']
    refine agw_name 3 q_are_items.nd fun s H C' cl fp => ?_
    refine ae_g G hr (by decide) (aa_cons ((v_ 3).val (aa_nil (ak_cons (i_.val (ak_cons ((av_gint gl).val (ak_nil ⟨rfl, rfl, xs[i], some 0, some 1000000, rfl, ?_, rfl⟩))))))))
    have := hx _ (List.getElem_mem hi')
    have e : within xs[i] (some 0) (some 1000000) = true := by simp [within]; exact this
    rw [e]
  · rw [show (List.replicate (List.map Val.int xs).length true).all id = true by simp]
    exact hp
abbrev GItems (P : Program) (w : World) (K : PySem.W.Frag) (mg : Str → Option Value) (base : Heap) : Prop := Gd P w K mg base 2 "are_items" [] fun ds _ => aItems ds
/-! ### shortest_loop, normal_form, stream_item -/
def aSl : ASp := fun ds M R => ∃ l, ds = [iT l] ∧ l ≠ [] ∧ l.length ≤ 1000 ∧ R (iT (sloop l)) M
theorem b_shortest_loop (m1 : mg "range" = none) (m3 : mg "len" = none) : BodyOk P w K mg base k f n_shortest_loop "shortest_loop" (defScope s_shortest_loop) (defBody s_shortest_loop) aSl := by
  rintro cdv A outer s H E hr ds M R ⟨l, rfl, hn, hl, hp⟩
  have hu := hr.u64
  have hpos : 0 < l.length := List.length_pos_iff.mpr hn
  have len1 : ∀ {X : Cx} {Γ : Gam} {M : Mem} {e : Expr}, aV X e Γ M (.int ((l.map Val.int).length : Nat)) → aV X e Γ M (.int (l.length : Nat)) := fun h => by rw [List.length_map] at h; exact h
  refine as_cons (as_for (n := l.length - 1) (fun i Γ M' => M' = M ∧ ∃ v1, Γ = [some (iT l), v1] ∧ sloop l = slFrom l (l.length - 1 - i) (i + 1)) PassesOwn.never rfl
    (ai_range2 (lo := 1) m1 (aa_cons (i_.val (aa_cons ((len1 (av_len m3 (v_ 0) .t)).val (aa_nil ⟨_, rfl, by omega, by omega, rfl, none, rfl, rfl⟩)))))) (fun _ _ _ _ _ => trivial) ?_ ?_)
  · rintro i Γ M' hi ⟨rfl, v1, rfl, hs⟩
    refine ag_name 1 q_shortest_loop.nd ?_
    rw [show l.length - 1 - i = (l.length - 1 - (i + 1)) + 1 by omega] at hs
    have hst : slFrom l (l.length - 1 - (i + 1) + 1) (i + 1) = if isRep l (i + 1) = true then l.take (i + 1) else slFrom l (l.length - 1 - (i + 1)) (i + 1 + 1) := rfl
    rw [hst] at hs
    have e1 : (1 : Int) + (i : Int) = ((i + 1 : Nat) : Int) := by omega
    rw [e1]
    have sl : ∀ {X : Cx} {Γ : Gam} {M : Mem} {e : Expr}, aV X e Γ M (.tup (cutA (l.map Val.int) none (some ((i + 1 : Nat) : Int)))) → aV X e Γ M (iT (l.take (i + 1))) := fun h => by
      rw [cut_map, cut_hi (by omega) (by omega), Int.toNat_natCast] at h
      exact h
    have dv : ((l.length : Int) / ((i + 1 : Nat) : Int)) = ((l.length / (i + 1) : Nat) : Int) := by omega
    by_cases hm : l.length % (i + 1) = 0
    · have hge : 2 ≤ l.length / (i + 1) := by
        have h1 := Nat.div_add_mod l.length (i + 1)
        rw [hm, Nat.add_zero] at h1
        rcases Nat.lt_or_ge (l.length / (i + 1)) 2 with z | z
        · have : l.length / (i + 1) ≤ 1 := by omega
          have := Nat.mul_le_mul_left (i + 1) this
          omega
        · exact z
      have hle : l.length / (i + 1) ≤ l.length := Nat.div_le_self _ _
      have tl := take_len (l := l) (p := i + 1) (by omega)
      have tne : (l.take (i + 1)).map Val.int ≠ [] := fun z => by
        have := congrArg List.length z
        rw [List.length_map, tl] at this
        simp at this
      have cy : ∀ {X : Cx} {Γ : Gam} {M : Mem} {e : Expr}, aV X e Γ M (.tup (List.replicate ((l.length : Int) / ((i + 1 : Nat) : Int)).toNat ((l.take (i + 1)).map Val.int)).flatten) → aV X e Γ M (iT (cyc (l.take (i + 1)) (l.length / (i + 1)))) := fun h => by
        rw [dv, Int.toNat_natCast, map_cyc] at h
        exact h
      refine as_one (as_if (at_w (aw_and (at_cmp (av_mod (len1 (av_len m3 (v_ 0) .t)) (v_ 1) (by omega)) i_ cmp_eqI ⟨fun _ => ?_, fun h => ?_⟩))))
      · refine aw_and1 (at_cmp (v_ 0) (cy (av_repT (sl (av_sliceT (v_ 0) ao_none (ao_some (v_ 1)))) (av_fdiv (len1 (av_len m3 (v_ 0) .t)) (v_ 1) ⟨by omega, by omega⟩) tne (by rw [dv]; omega) (by rw [dv]; omega) (by rw [List.length_map, tl]; omega))) (cmp_eqTI hu) ⟨fun h => ?_, fun h => ?_⟩)
        · have hrp : isRep l (i + 1) = true := by
            unfold isRep
            rw [decide_eq_true hm, h]
            rfl
          rw [if_pos hrp] at hs
          refine as_one (as_ret ((sl (av_sliceT (v_ 0) ao_none (ao_some (v_ 1)))).val (.ok ?_)))
          rw [← hs]
          exact hp
        · have hrp : ¬ isRep l (i + 1) = true := by
            unfold isRep
            rw [h, Bool.and_false]
            exact Bool.false_ne_true
          rw [if_neg hrp] at hs
          exact as_nil ⟨rfl, _, rfl, hs⟩
      · exfalso
        rw [decide_eq_false_iff_not] at h
        apply h
        omega
    · have hrp : ¬ isRep l (i + 1) = true := by
        unfold isRep
        rw [decide_eq_false hm, Bool.false_and]
        exact Bool.false_ne_true
      rw [if_neg hrp] at hs
      refine as_one (as_if (at_w (aw_and (at_cmp (av_mod (len1 (av_len m3 (v_ 0) .t)) (v_ 1) (by omega)) i_ cmp_eqI ⟨fun h => ?_, fun _ => ⟨nft, fun _ => as_nil ⟨rfl, _, rfl, hs⟩⟩⟩))))
      exfalso
      rw [decide_eq_true_eq] at h
      omega
  · rintro Γ M' ⟨rfl, v1, rfl, hs⟩
    refine as_one (as_ret ((v_ 0).val (.ok ?_)))
    rw [Nat.sub_self] at hs
    have e : sloop l = l := hs
    rw [e] at hp
    exact hp
abbrev GSl (P : Program) (w : World) (K : PySem.W.Frag) (mg : Str → Option Value) (base : Heap) : Prop := Gd P w K mg base 1 "shortest_loop" [] fun ds _ => aSl ds
end
end K54
namespace K54
open PySem L2 Ab Sm
section
variable {P : Program} {w : World} {K : PySem.W.Frag} {mg : Str → Option Value} {base : Heap} {k : Nat} {f C : Addr}
/-- a stream -/
def stV (s : Stm) : Val := .tup [iT s.1, iT s.2]
def aNf : ASp := fun ds M R => ∃ s : Stm, ds = [iT s.1, iT s.2] ∧ s.2 ≠ [] ∧ s.1.length ≤ 1000 ∧ s.2.length ≤ 1000 ∧ R (stV (nf s)) M
theorem nfGo_succ {c : Nat} {f l : List Int} : nfGo (c + 1) f l = if f ≠ [] ∧ last0 f = last0 l then nfGo c f.dropLast (rotR l) else (f, l) := rfl
theorem cmp_neT {X : Cx} {M : Mem} {g : List Int} (hu : X.A.units + 64 < cLine) : Cmp X .NotEq M (iT g) (.tup []) (!decide (g = [])) := cmp_neTI (ns := g) (ms := []) hu
theorem b_normal_form (G : GSl P w K mg base) : BodyOk P w K mg base 1 f n_normal_form "normal_form" (defScope s_normal_form) (defBody s_normal_form) aNf := by
  rintro cdv A outer s H E hr ds M R ⟨⟨f0, l0⟩, rfl, hn, h1, h2, hp⟩
  have hu := hr.u64
  refine as_cons (as_set 1 q_normal_form.nd (ae_g G hr (by decide) (aa_cons ((v_ 1).val (aa_nil (ak_nil ⟨rfl, l0, rfl, hn, h2, ?_⟩))))))
  have hsl := sloop_spec hn
  refine as_cons (as_while (fun c Γ M' => M' = M ∧ ∃ f l, Γ = [some (iT f), some (iT l)] ∧ l ≠ [] ∧ f.length = c ∧ f.length ≤ 1000 ∧ l.length ≤ 1000 ∧ nf (f0, l0) = nfGo c f l) f0.length PassesOwn.never ⟨rfl, f0, sloop l0, rfl, hsl.1, rfl, h1, Nat.le_trans hsl.2.2.2.1 h2, rfl⟩ ?_)
  rintro c Γ M' ⟨rfl, g, l, rfl, hl, hc, hf, hll, hnf⟩
  have sf : g ≠ [] → ∀ {X : Cx} {Γ : Gam} {M : Mem} {e : Expr}, aV X e Γ M (.tup (cutA (g.map Val.int) none (some (-1)))) → aV X e Γ M (iT g.dropLast) := fun hne _ _ _ _ h => by
    rw [cut_map, cut_neg hne] at h
    exact h
  have s1 : ∀ {X : Cx} {Γ : Gam} {M : Mem} {e : Expr}, aV X e Γ M (.tup (cutA (l.map Val.int) none (some (-1)))) → aV X e Γ M (iT l.dropLast) := fun h => by
    rw [cut_map, cut_neg hl] at h
    exact h
  have s2 : ∀ {X : Cx} {Γ : Gam} {M : Mem} {e : Expr}, aV X e Γ M (.tup (cutA (l.map Val.int) (some (-1)) none)) → aV X e Γ M (iT [last0 l]) := fun h => by
    rw [cut_map, cut_end hl] at h
    exact h
  have fin : nf (f0, l0) = (g, l) → aSs (bcx P w K mg base n_normal_form "normal_form" (defScope s_normal_form) f cdv A outer s H E) [(defBody s_normal_form).getD 2 (.Pass ⟨0, 0, 0, 0⟩)] [some (iT g), some (iT l)] M' (kOf R) := fun e => by
    refine as_one (as_ret (aE.val (av_tup (avs_cons (v_ 0) (avs_cons (v_ 1) avs_nil)) szb) (.ok ?_)))
    rw [e] at hp
    exact hp
  by_cases hfe : g = []
  · subst hfe
    refine at_w (aw_and (at_cmp (v_ 0) (av_tup avs_nil szb) (cmp_neT hu) ⟨fun h => ?_, fun _ => ⟨nft, fun _ => fin ?_⟩⟩))
    · simp at h
    · rw [hnf, ← hc]
      rfl
  · have hfl : 0 < g.length := List.length_pos_iff.mpr hfe
    obtain ⟨c', rfl⟩ : ∃ c', c = c' + 1 := ⟨c - 1, by omega⟩
    rw [nfGo_succ] at hnf
    refine at_w (aw_and (at_cmp (v_ 0) (av_tup avs_nil szb) (cmp_neT hu) ⟨fun _ => ?_, fun h => ?_⟩))
    · refine aw_and1 (at_cmp (av_ixT (v_ 0) (av_neg i_) (atI_last hfe)) (av_ixT (v_ 1) (av_neg i_) (atI_last hl)) cmp_eqI ⟨fun h => ?_, fun h => fin ?_⟩)
      · rw [decide_eq_true_eq] at h
        rw [if_pos ⟨hfe, h⟩] at hnf
        refine as_one (as_par 0 1 q_normal_form.nd rfl (by decide) (aa_cons ((sf hfe (av_sliceT (v_ 0) ao_none (ao_some (av_neg i_)))).val (aa_cons (aE.val (av_catT (s2 (av_sliceT (v_ 1) (ao_some (av_neg i_)) ao_none)) (s1 (av_sliceT (v_ 1) ao_none (ao_some (av_neg i_)))) (sz ?_)) (aa_nil ⟨_, _, rfl, c', Nat.lt_succ_self _, rfl, g.dropLast, rotR l, rfl, ?_, ?_, ?_, ?_, hnf⟩))))))
        · simp
          omega
        · unfold rotR
          exact List.cons_ne_nil _ _
        · rw [List.length_dropLast]
          omega
        · rw [List.length_dropLast]
          omega
        · rw [rot_len hl]
          exact hll
      · rw [decide_eq_false_iff_not] at h
        rw [if_neg fun z => h z.2] at hnf
        exact hnf
    · simp [hfe] at h
abbrev GNf (P : Program) (w : World) (K : PySem.W.Frag) (mg : Str → Option Value) (base : Heap) : Prop := Gd P w K mg base 2 "normal_form" [] fun ds _ => aNf ds
/-! ### stream_item -/
def aItem : ASp := fun ds M R => ∃ (s : Stm) (i : Int), ds = [stV s, .int i] ∧ s.2 ≠ [] ∧ 0 ≤ i ∧ R (.int (item s i.toNat)) M
theorem item_lp {s : Stm} {i : Int} (hn : s.2 ≠ []) (h0 : 0 ≤ i) (h : ¬ i < (s.1.length : Int)) : item s i.toNat = at0 s.2 ((i - (s.1.length : Int)) % (s.2.length : Int)) := by
  have hl : 0 < s.2.length := List.length_pos_iff.mpr hn
  rw [item_ge (by omega)]
  unfold lp at0
  have e : i - (s.1.length : Int) = ((i.toNat - s.1.length : Nat) : Int) := by omega
  rw [e, ← Int.natCast_emod, Int.toNat_natCast]
theorem b_stream_item (m3 : mg "len" = none) : BodyOk P w K mg base k f n_stream_item "stream_item" (defScope s_stream_item) (defBody s_stream_item) aItem := by
  rintro cdv A outer s0 H E hr ds M R ⟨s, i, rfl, hn, h0, hp⟩
  have hl : 0 < s.2.length := List.length_pos_iff.mpr hn
  refine as_cons (as_asg ((v_ 0).val (ag_tup rfl (ags_cons (ag_name 2 q_stream_item.nd (ags_cons (ag_name 3 q_stream_item.nd (ags_nil ?_))))))))
  have len1 : ∀ {g : List Int} {X : Cx} {Γ : Gam} {M : Mem} {e : Expr}, aV X e Γ M (.int ((g.map Val.int).length : Nat)) → aV X e Γ M (.int (g.length : Nat)) := fun h => by rw [List.length_map] at h; exact h
  refine as_one (as_ret (ae_ifd (p := i < (s.1.length : Int)) (at_cmp (v_ 1) (len1 (av_len m3 (v_ 2) .t)) cmp_lt ⟨rfl, rfl⟩) (fun h => ?_) (fun h => ?_)))
  · refine aE.val (av_ixT (v_ 2) (v_ 1) (atI_int h0 h)) (.ok ?_)
    have e : item s i.toNat = at0 s.1 i := item_lt (by omega)
    rw [e] at hp
    exact hp
  · refine aE.val (av_ixT (v_ 3) (av_mod (av_sub (v_ 1) (len1 (av_len m3 (v_ 2) .t))) (len1 (av_len m3 (v_ 3) .t)) (by omega)) (atI_int (Int.emod_nonneg _ (by omega)) (Int.emod_lt_of_pos _ (by omega)))) (.ok ?_)
    rw [item_lp hn h0 h] at hp
    exact hp
abbrev GItem (P : Program) (w : World) (K : PySem.W.Frag) (mg : Str → Option Value) (base : Heap) : Prop := Gd P w K mg base 1 "stream_item" [] fun ds _ => aItem ds
end
end K54
namespace Sm
/-! ### streams without their first items, with other ones -/
def rotL (l : List Int) (k : Nat) : List Int := l.drop k ++ l.take k
theorem rotL_len {l : List Int} {k : Nat} (h : k ≤ l.length) : (rotL l k).length = l.length := by
  unfold rotL
  rw [List.length_append, List.length_drop, List.length_take]
  omega
theorem rotL_mem {l : List Int} {k : Nat} {v : Int} (h : v ∈ rotL l k) : v ∈ l := by
  rcases List.mem_append.mp h with h | h
  · exact List.mem_of_mem_drop h
  · exact List.mem_of_mem_take h
theorem rotL_lp {l : List Int} {k : Nat} (hk : k < l.length) (i : Nat) : lp (rotL l k) i = lp l (i + k) := by
  have hl := rotL_len (l := l) (k := k) (by omega)
  have hm := Nat.mod_lt i (show 0 < l.length by omega)
  have key : ∀ j, j < l.length → (rotL l k).getD j 0 = lp l (j + k) := fun j hj => by
    unfold rotL
    rw [List.getD_eq_getElem?_getD]
    by_cases h : j < l.length - k
    · rw [List.getElem?_append_left (by rw [List.length_drop]; exact h), List.getElem?_drop, lp_lt (by omega), List.getD_eq_getElem?_getD, Nat.add_comm]
    · rw [List.getElem?_append_right (by rw [List.length_drop]; omega), List.length_drop, List.getElem?_take_of_lt (by omega), ← List.getD_eq_getElem?_getD]
      have := lp_add (l := l) (j - (l.length - k))
      rw [show j - (l.length - k) + l.length = j + k by omega] at this
      rw [this, lp_lt (by omega)]
  have e1 : lp (rotL l k) i = lp (rotL l k) (i % l.length) := by
    have := per_mod (h := fun i => lp (rotL l k) i) (p := l.length) (fun i => by rw [← hl]; exact lp_add i) i
    exact this.symm
  rw [e1, lp_lt (by omega), key _ hm]
  have := per_mod (h := fun i => lp l (i + k)) (p := l.length) (fun i => by
    show lp l (i + l.length + k) = lp l (i + k)
    rw [show i + l.length + k = i + k + l.length by omega, lp_add]) i
  exact this
def swo (s : Stm) (c : Nat) : Stm := if c ≤ s.1.length then (s.1.drop c, s.2) else ([], rotL s.2 ((c - s.1.length) % s.2.length))
theorem swo_item {s : Stm} (hn : s.2 ≠ []) (c i : Nat) : item (swo s c) i = item s (i + c) := by
  have hl : 0 < s.2.length := List.length_pos_iff.mpr hn
  unfold swo
  by_cases h : c ≤ s.1.length
  · rw [if_pos h]
    by_cases hi : i + c < s.1.length
    · rw [item_lt hi, item_lt (by show i < (s.1.drop c).length; rw [List.length_drop]; omega)]
      show (s.1.drop c).getD i 0 = _
      rw [List.getD_eq_getElem?_getD, List.getElem?_drop, List.getD_eq_getElem?_getD, Nat.add_comm]
    · rw [item_ge (s := s) (by omega), item_ge (by show (s.1.drop c).length ≤ i; rw [List.length_drop]; omega)]
      show lp s.2 (i - (s.1.drop c).length) = _
      rw [List.length_drop, show i - (s.1.length - c) = i + c - s.1.length by omega]
  · rw [if_neg h, item_ge (s := s) (by omega), item_ge (by exact Nat.zero_le _)]
    show lp (rotL s.2 _) (i - 0) = _
    rw [Nat.sub_zero, rotL_lp (Nat.mod_lt _ hl)]
    have := per_mod (h := fun j => lp s.2 (i + j)) (p := s.2.length) (fun j => by
      show lp s.2 (i + (j + s.2.length)) = lp s.2 (i + j)
      rw [← Nat.add_assoc, lp_add]) (c - s.1.length)
    rw [this, show i + (c - s.1.length) = i + c - s.1.length by omega]
theorem swo_ne {s : Stm} (hn : s.2 ≠ []) (c : Nat) : (swo s c).2 ≠ [] ∧ (swo s c).2.length = s.2.length ∧ ∀ v ∈ (swo s c).2, v ∈ s.2 := by
  have hl : 0 < s.2.length := List.length_pos_iff.mpr hn
  unfold swo
  by_cases h : c ≤ s.1.length
  · rw [if_pos h]
    exact ⟨hn, rfl, fun _ h => h⟩
  · rw [if_neg h]
    have e := rotL_len (l := s.2) (k := (c - s.1.length) % s.2.length) (Nat.le_of_lt (Nat.mod_lt _ hl))
    refine ⟨fun z => ?_, e, fun v hv => rotL_mem hv⟩
    have z' : rotL s.2 ((c - s.1.length) % s.2.length) = [] := z
    rw [z'] at e
    simp at e
    omega
theorem swo_nil {s : Stm} {c : Nat} (h : s.1.length ≤ c) : (swo s c).1 = [] := by
  unfold swo
  by_cases h2 : c ≤ s.1.length
  · rw [if_pos h2]
    exact List.drop_of_length_le h
  · rw [if_neg h2]
/-- a longer front -/
def wf (s : Stm) (m : Nat) : Stm := ((List.range m).map (item s), (swo s m).2)
theorem wf_item {s : Stm} (hn : s.2 ≠ []) {m : Nat} (hm : s.1.length ≤ m) (i : Nat) : item (wf s m) i = item s i := by
  have hl : ((List.range m).map (item s)).length = m := by simp
  by_cases h : i < m
  · rw [item_lt (by show i < ((List.range m).map (item s)).length; rw [hl]; exact h)]
    show ((List.range m).map (item s)).getD i 0 = _
    rw [gd_eq (by rw [hl]; exact h)]
    simp
  · rw [item_ge (by show ((List.range m).map (item s)).length ≤ i; rw [hl]; omega)]
    show lp (swo s m).2 (i - ((List.range m).map (item s)).length) = _
    rw [hl]
    have := swo_item hn m (i - m)
    rw [Nat.sub_add_cancel (by omega), item_ge (by rw [swo_nil hm]; exact Nat.zero_le _), swo_nil hm] at this
    exact this
/-! ### streams item by item -/
def minL : List Int → Int
  | [] => 0
  | x :: xs => xs.foldl (fun a b => if b < a then b else a) x
def maxL : List Int → Int
  | [] => 0
  | x :: xs => xs.foldl (fun a b => if b > a then b else a) x
theorem minL_spec : ∀ (xs : List Int) (x : Int), minL (x :: xs) ∈ x :: xs ∧ ∀ y ∈ x :: xs, minL (x :: xs) ≤ y
  | [], x => ⟨List.mem_cons_self, fun y hy => by
    have : y = x := by simpa using hy
    subst this
    exact Int.le_refl _⟩
  | b :: xs, x => by
    have e : minL (x :: b :: xs) = minL ((if b < x then b else x) :: xs) := rfl
    obtain ⟨h1, h2⟩ := minL_spec xs (if b < x then b else x)
    rw [e]
    have h0 := h2 _ List.mem_cons_self
    refine ⟨?_, fun y hy => ?_⟩
    · rcases List.mem_cons.mp h1 with z | z
      · rw [z]
        split
        · exact List.mem_cons_of_mem _ List.mem_cons_self
        · exact List.mem_cons_self
      · exact List.mem_cons_of_mem _ (List.mem_cons_of_mem _ z)
    · rcases List.mem_cons.mp hy with rfl | hy
      · refine Int.le_trans h0 ?_
        split <;> omega
      · rcases List.mem_cons.mp hy with rfl | hy
        · refine Int.le_trans h0 ?_
          split <;> omega
        · exact h2 y (List.mem_cons_of_mem _ hy)
theorem maxL_spec : ∀ (xs : List Int) (x : Int), maxL (x :: xs) ∈ x :: xs ∧ ∀ y ∈ x :: xs, y ≤ maxL (x :: xs)
  | [], x => ⟨List.mem_cons_self, fun y hy => by
    have : y = x := by simpa using hy
    subst this
    exact Int.le_refl _⟩
  | b :: xs, x => by
    have e : maxL (x :: b :: xs) = maxL ((if b > x then b else x) :: xs) := rfl
    obtain ⟨h1, h2⟩ := maxL_spec xs (if b > x then b else x)
    rw [e]
    have h0 := h2 _ List.mem_cons_self
    refine ⟨?_, fun y hy => ?_⟩
    · rcases List.mem_cons.mp h1 with z | z
      · rw [z]
        split
        · exact List.mem_cons_of_mem _ List.mem_cons_self
        · exact List.mem_cons_self
      · exact List.mem_cons_of_mem _ (List.mem_cons_of_mem _ z)
    · rcases List.mem_cons.mp hy with rfl | hy
      · refine Int.le_trans ?_ h0
        split <;> omega
      · rcases List.mem_cons.mp hy with rfl | hy
        · refine Int.le_trans ?_ h0
          split <;> omega
        · exact h2 y (List.mem_cons_of_mem _ hy)
theorem min_is {ns : List Int} {m : Int} (h1 : m ∈ ns) (h2 : ∀ y ∈ ns, m ≤ y) : m = minL ns := by
  cases ns with
  | nil => cases h1
  | cons x xs =>
    obtain ⟨a, b⟩ := minL_spec xs x
    exact Int.le_antisymm (h2 _ a) (b _ h1)
theorem max_is {ns : List Int} {m : Int} (h1 : m ∈ ns) (h2 : ∀ y ∈ ns, y ≤ m) : m = maxL ns := by
  cases ns with
  | nil => cases h1
  | cons x xs =>
    obtain ⟨a, b⟩ := maxL_spec xs x
    exact Int.le_antisymm (b _ h1) (h2 _ a)
/-! ### the least common multiple, step by step -/
end Sm
namespace Ab
open PySem PySem.Spec PyProof.Rows L2
section
variable {X : Cx} {Γ : Gam} {M : Mem} {k : AK} {sts : List Stmt} {pos : Pos} {y : Str} {n : Nat}
/-- y = [.. for ..], items told by their number, never changed behind it -/
theorem as_lcP {tg iter elt : Expr} {scope : Scope} {py spos : Pos} (m : Nat) (own : List (Str × Nat)) {it : Nat → Val} (g : Nat → Val) (hc : X.calm = true) (hN : X.N.Nodup) (ok : BlkOk X.N X.env.scope scope own)
    (hi : aI X tg iter Γ M n it (fun _ => True) (fun M' => M' = M))
    (hs : ∀ i acc D, i < n → bG X scope (own.map (·.2)) tg (it i) (wipeG Γ (own.map (·.2))) ((D, .lst acc) :: M) fun Γ2 M2 => bE X scope elt Γ2 M2 fun y M4 => y = g i ∧ M4 = (D, .lst acc) :: M)
    (hn : n ≤ 100000) (h : aSs X sts (Γ.set m (some (.lst ((List.range n).map g)))) M k) (hm : m < Γ.length := by exact Nat.le_of_ble_eq_true rfl) (hy : X.N[m]? = some y := by rfl) (hyl : X.env.scope.names.lookup y = some .local := by rfl)
    (hsw : swapsWith (.ListComp elt [⟨tg, iter, [], 0⟩] scope pos) (some (.Name y py)) spos.line X.env = pure true := by exact sw_true rfl rfl rfl (by decide +kernel))
    (hf : ∀ x, foldedSetIterable iter X.env x = pure x := by intro _; rfl) :
    aSs X (.Assign [.Name y py] (.ListComp elt [⟨tg, iter, [], 0⟩] scope pos) spos :: sts) Γ M k := by
  refine as_cons (as_lcJ m own hc hN ok (aj_ai hi fun M1 e => ?_) hy hyl hsw hf)
  subst e
  refine ⟨hn, fun i acc M' => M' = M1 ∧ acc = (List.range i).map g, ⟨rfl, rfl⟩, ?_, ?_⟩
  · rintro i acc M' D hi' _ ⟨rfl, rfl⟩ s H C cl fp
    intro Hi1 H1 σ1 v1 ok1 en1 r1 Q1 q1
    refine hs i _ D hi' s H C cl fp Hi1 H1 σ1 v1 ok1 en1 r1 Q1 fun Γ2 M2 σ2 Hi2 H2 h2 => q1 Γ2 M2 σ2 Hi2 H2 fun s' H' C' cl' fp' => ats_nil ⟨fun _ s2 H2 C2 cl2 fp2 => (h2 s2 H2 C2 cl2 fp2).mono fun y M4 hy => ?_, fun z => nomatch z⟩
    obtain ⟨rfl, rfl⟩ := hy
    exact ⟨_, rfl, rfl, by rw [List.range_succ, List.map_append]; rfl⟩
  · rintro D acc M' ⟨rfl, rfl⟩
    refine as_frz m (by rw [List.getElem?_set_self hm]) ?_
    rw [List.set_set]
    exact h
end
end Ab
namespace K54
open PySem L2 Ab Sm
theorem len_ {g : List Int} {X : Cx} {Γ : Gam} {M : Mem} {e : Expr} (h : aV X e Γ M (.int ((g.map Val.int).length : Nat))) : aV X e Γ M (.int (g.length : Nat)) := by
  rw [List.length_map] at h
  exact h
theorem cut_loN {g : List Int} {j : Int} (h0 : 0 ≤ j) : cutI g (some j) none = g.drop j.toNat := by
  by_cases h : j ≤ g.length
  · exact cut_lo h0 h
  · obtain ⟨n, rfl⟩ := Int.eq_ofNat_of_zero_le h0
    unfold cutI
    rw [HT.sIx_nat, HT.sIx_none, Nat.min_eq_right (by omega), Int.toNat_natCast, List.drop_of_length_le (Nat.le_refl _), List.drop_of_length_le (by omega), List.take_nil]
section
variable {P : Program} {w : World} {K : PySem.W.Frag} {mg : Str → Option Value} {base : Heap} {k : Nat} {f C : Addr}
/-! ### stream_without, with_front, with_first -/
def aSwo : ASp := fun ds M R => ∃ (s : Stm) (c : Nat), ds = [stV s, .int (c : Int)] ∧ s.2 ≠ [] ∧ s.2.length ≤ 1000 ∧ R (stV (swo s c)) M
theorem b_stream_without (m3 : mg "len" = none) : BodyOk P w K mg base k f n_stream_without "stream_without" (defScope s_stream_without) (defBody s_stream_without) aSwo := by
  rintro cdv A outer s0 H E hr ds M R ⟨s, c, rfl, hn, hl2, hp⟩
  have hl : 0 < s.2.length := List.length_pos_iff.mpr hn
  refine as_cons (as_asg ((v_ 0).val (ag_tup rfl (ags_cons (ag_name 2 q_stream_without.nd (ags_cons (ag_name 3 q_stream_without.nd (ags_nil ?_))))))))
  refine as_cons (as_ifd (p := (c : Int) ≤ (s.1.length : Int)) (at_cmp (v_ 1) (len_ (av_len m3 (v_ 2) .t)) cmp_le ⟨rfl, rfl⟩) (fun h => ?_) (fun h => as_nil ?_))
  · have hs : swo s c = (s.1.drop c, s.2) := if_pos (by omega)
    rw [hs] at hp
    refine as_one (as_ret (ae_tup (aa_cons (aE.val (av_sliceT (v_ 2) (ao_some (v_ 1)) ao_none) (aa_cons ((v_ 3).val (aa_nil ⟨szb, .ok ?_⟩)))))))
    rw [cut_map, cut_loN (by omega), Int.toNat_natCast]
    exact hp
  · have hs : swo s c = ([], rotL s.2 ((c - s.1.length) % s.2.length)) := if_neg (by omega)
    rw [hs] at hp
    have hk : ((c : Int) - (s.1.length : Int)) % (s.2.length : Int) = (((c - s.1.length) % s.2.length : Nat) : Int) := by
      have e : (c : Int) - (s.1.length : Int) = ((c - s.1.length : Nat) : Int) := by omega
      rw [e, Int.natCast_emod]
    have hm := Nat.mod_lt (c - s.1.length) hl
    refine as_cons (as_set 4 q_stream_without.nd (aE.val (av_mod (av_sub (v_ 1) (len_ (av_len m3 (v_ 2) .t))) (len_ (av_len m3 (v_ 3) .t)) (by omega)) ?_))
    rw [hk]
    refine as_one (as_ret (ae_tup (aa_cons (aE.val (av_tup avs_nil szb) (aa_cons (aE.val (av_catT (av_sliceT (v_ 3) (ao_some (v_ 4)) ao_none) (av_sliceT (v_ 3) ao_none (ao_some (v_ 4))) ?_) (aa_nil ⟨szb, .ok ?_⟩)))))))
    · rw [cut_map, cut_map, List.length_map, List.length_map]
      have := cut_len (g := s.2) (lo := some (((c - s.1.length) % s.2.length : Nat) : Int)) (hi := none)
      have := cut_len (g := s.2) (lo := none) (hi := some (((c - s.1.length) % s.2.length : Nat) : Int))
      exact sz (by omega)
    · rw [cut_map, cut_map, cut_loN (by omega), cut_hi (by omega) (by omega), Int.toNat_natCast, ← List.map_append]
      exact hp
abbrev GSwo (P : Program) (w : World) (K : PySem.W.Frag) (mg : Str → Option Value) (base : Heap) : Prop := Gd P w K mg base 1 "stream_without" [] fun ds _ => aSwo ds
def aWf : ASp := fun ds M R => ∃ (s : Stm) (n : Nat), ds = [stV s, .int (n : Int)] ∧ s.2 ≠ [] ∧ s.1.length ≤ 1000 ∧ s.2.length ≤ 1000 ∧ n ≤ 1000 ∧ R (stV (wf s (max n s.1.length))) M
theorem b_with_front (G1 : GItem P w K mg base) (G2 : GSwo P w K mg base) (m1 : mg "range" = none) (m2 : mg "tuple" = none) (m3 : mg "len" = none) (m4 : mg "max" = none) : BodyOk P w K mg base 1 f n_with_front "with_front" (defScope s_with_front) (defBody s_with_front) aWf := by
  rintro cdv A outer s0 H E hr ds M R ⟨s, n, rfl, hn, h1, h2, h3, hp⟩
  have em : (if (s.1.length : Int) > (n : Int) then (s.1.length : Int) else (n : Int)) = ((max n s.1.length : Nat) : Int) := by
    split <;> omega
  refine as_lcP 2 [("index", 3)] (fun i => .int (item s i)) rfl q_with_front.nd (blkOk_by (N := n_with_front) (sc := defScope s_with_front) (by decide +kernel)) (n := max n s.1.length)
    (ai_range1 m1 (ae_max2 m4 rfl (v_ 1) (len_ (av_len m3 (av_ixT (v_ 0) i_ rfl) .t)) ⟨_, rfl, by rw [em, Int.toNat_natCast], by rw [em]; omega, by rw [em]; omega, rfl⟩)) ?_ (by omega) ?_
  · intro i acc D hi s H C' cl fp
    refine agw_name 3 q_with_front.nd fun s H C' cl fp => ?_
    refine ae_g G1 hr (by decide) (aa_cons ((v_ 0).val (aa_cons ((v_ 3).val (aa_nil (ak_nil ⟨rfl, _, _, rfl, hn, by omega, ?_⟩))))))
    rw [show ((0 : Int) + (i : Int)).toNat = i by omega]
    exact ⟨rfl, rfl⟩
  have er : (List.range (max n s.1.length)).map (fun i => Val.int (item s i)) = ((List.range (max n s.1.length)).map (item s)).map Val.int := by rw [List.map_map]; rfl
  rw [er]
  refine as_one (as_ret (ae_tup (aa_cons (aE.val (av_tuple m2 (v_ 2) (.l (.self _))) (aa_cons (ae_ixM (ae_g G2 hr (by decide) (aa_cons ((v_ 0).val (aa_cons ((len_ (av_len m3 (v_ 2) (.l (.self _)))).val (aa_nil (ak_nil ⟨rfl, s, _, rfl, hn, h2, i_.val ⟨1, _, _, rfl, .t, rfl, aa_nil ⟨szb, .ok ?_⟩⟩⟩)))))))))))))
  have el : ((List.range (max n s.1.length)).map (item s)).length = max n s.1.length := by simp
  rw [el]
  exact hp
abbrev GWf (P : Program) (w : World) (K : PySem.W.Frag) (mg : Str → Option Value) (base : Heap) : Prop := Gd P w K mg base 2 "with_front" [] fun ds _ => aWf ds
/-! ### common_multiple -/
def nL (ns : List Nat) : List Int := ns.map fun (n : Nat) => (n : Int)
end
end K54
namespace K54
open PySem L2 Ab Sm
inductive Wd where
  | sum | least | greatest
def Wd.str : Wd → Str
  | .sum => "sum"
  | .least => "least"
  | .greatest => "greatest"
def opV : Wd → List Int → Int
  | .sum, ns => ns.sum
  | .least, ns => minL ns
  | .greatest, ns => maxL ns
end K54
namespace K54
open PySem L2 Ab Sm
/-! ### schedules -/
structure Lim (s : Stm) : Prop where
  l1 : s.1.length ≤ 12
  l2 : s.2.length ≤ 6
  ne : s.2 ≠ []
  a1 : ∀ v ∈ s.1, okI v
  a2 : ∀ v ∈ s.2, okI v
structure Sc where
  a : Int
  sp : Stm
  lv : Stm
def schF (S : Sc) : List (Str × Val) := [("own_arity", .int S.a), ("own_spine", stV S.sp), ("own_levels", stV S.lv)]
def scV (C : Addr) (S : Sc) : Val := .obj C (schF S)
structure GoodS (S : Sc) : Prop where
  a2 : 2 ≤ S.a
  a9 : S.a ≤ 9
  ns : NF S.sp
  ls : Lim S.sp
  nl : NF S.lv
  ll : Lim S.lv
  lf : item S.lv 0 ≠ 0
theorem item_mem {s : Stm} (hn : s.2 ≠ []) (i : Nat) : item s i ∈ s.1 ∨ item s i ∈ s.2 := by
  have hl : 0 < s.2.length := List.length_pos_iff.mpr hn
  by_cases h : i < s.1.length
  · left
    rw [item_lt h, gd_eq h]
    exact List.getElem_mem h
  · right
    rw [item_ge (by omega)]
    unfold lp
    rw [gd_eq (Nat.mod_lt _ hl)]
    exact List.getElem_mem _
theorem Lim.item {s : Stm} (h : Lim s) (i : Nat) : okI (item s i) := by
  rcases item_mem h.ne i with z | z
  · exact h.a1 _ z
  · exact h.a2 _ z
theorem GoodS.ext {S T : Sc} (hS : GoodS S) (hT : GoodS T) (ha : S.a = T.a) (h1 : ∀ i, item S.sp i = item T.sp i) (h2 : ∀ i, item S.lv i = item T.lv i) : S = T := by
  cases S
  cases T
  have e1 := uniq hS.ns hT.ns h1
  have e2 := uniq hS.nl hT.nl h2
  subst ha e1 e2
  rfl
structure Rs (K : PySem.W.Frag) (mg : Str → Option Value) (C : Addr) : Prop where
  cl : Cls K C
  nA : NoAttr K C "own_arity"
  nS : NoAttr K C "own_spine"
  nL : NoAttr K C "own_levels"
  gC : mg "Schedule" = some (.ref C)
structure Lm (mg : Str → Option Value) (t1 t2 t3 t4 : Tok) : Prop where
  f : mg "FRONT_LIMIT" = some (.int 12 t1)
  l : mg "LOOP_LIMIT" = some (.int 6 t2)
  b : mg "LABEL_LIMIT" = some (.int 1000000 t3)
  a : mg "ARITY_LIMIT" = some (.int 9 t4)
theorem look_a {S : Sc} : (schF S).lookup ("own_arity" : Str) = some (.int S.a) := by rfl
theorem look_s {S : Sc} : (schF S).lookup ("own_spine" : Str) = some (stV S.sp) := by rfl
theorem look_l {S : Sc} : (schF S).lookup ("own_levels" : Str) = some (stV S.lv) := by rfl
section
variable {P : Program} {w : World} {K : PySem.W.Frag} {mg : Str → Option Value} {base : Heap} {k : Nat} {f C : Addr} {t1 t2 t3 t4 : Tok}
/-! ### checked_stream -/
def aCs : ASp := fun ds M R => ∃ s : Stm, ds = [stV s] ∧ s.2 ≠ [] ∧ s.1.length ≤ 1000 ∧ s.2.length ≤ 1000 ∧ (nf s).1.length ≤ 12 ∧ (nf s).2.length ≤ 6 ∧ (∀ v ∈ (nf s).1 ++ (nf s).2, v ≤ 1000000) ∧ R (stV (nf s)) M
theorem b_checked_stream (L : Lm mg t1 t2 t3 t4) (G : GNf P w K mg base) (m3 : mg "len" = none) (m4 : mg "max" = none) : BodyOk P w K mg base 2 f n_checked_stream "checked_stream" (defScope s_checked_stream) (defBody s_checked_stream) aCs := by
  rintro cdv A outer s0 H E hr ds M R ⟨s, rfl, hn, h1, h2, h3, h4, h5, hp⟩
  have hu := hr.u64
  have hne := (nf_spec hn).nf.ne
  have hpos : 0 < (nf s).2.length := List.length_pos_iff.mpr hne
  refine as_cons (as_asg (ae_g G hr (by decide) (aa_cons ((av_ixT (v_ 0) i_ rfl).val (aa_cons ((av_ixT (v_ 0) i_ rfl).val (aa_nil (ak_nil ⟨rfl, s, rfl, hn, h1, h2, ag_tup rfl (ags_cons (ag_name 1 q_checked_stream.nd (ags_cons (ag_name 2 q_checked_stream.nd (ags_nil ?_)))))⟩))))))))
  refine as_cons (as_if (at_cmp (len_ (av_len m3 (v_ 1) .t)) (av_gint L.f) cmp_gt ⟨fun h => ?_, fun _ => as_nil ?_⟩))
  · rw [decide_eq_true_eq] at h
    omega
  refine as_cons (as_if (at_cmp (len_ (av_len m3 (v_ 2) .t)) (av_gint L.l) cmp_gt ⟨fun h => ?_, fun _ => as_nil ?_⟩))
  · rw [decide_eq_true_eq] at h
    omega
  refine as_cons (as_if (at_cmpM (ae_maxT m4 rfl hu (aE.val (av_catT (v_ 1) (v_ 2) (sz (by rw [List.length_map, List.length_map]; omega))) ⟨(nf s).1 ++ (nf s).2, by rw [List.map_append], by rw [List.length_append]; omega, fun m hm _ => (av_gint L.b).val ⟨_, cmp_gt, fun h => ?_, fun _ => as_nil ?_⟩⟩))))
  · rw [decide_eq_true_eq] at h
    have := h5 m hm
    omega
  exact as_one (as_ret (aE.val (av_tup (avs_cons (v_ 1) (avs_cons (v_ 2) avs_nil)) szb) (.ok hp)))
abbrev GCs (P : Program) (w : World) (K : PySem.W.Frag) (mg : Str → Option Value) (base : Heap) : Prop := Gd P w K mg base 3 "checked_stream" [] fun ds _ => aCs ds
/-! ### Schedule.is_stream, __init__ -/
def aIss : ASp := fun ds M R => ∃ s : Stm, ds = [stV s] ∧ Lim s ∧ R (.bl true) M
theorem b_is_stream (L : Lm mg t1 t2 t3 t4) (G : GItems P w K mg base) (m1 : mg "isinstance" = none) (m2 : mg "tuple" = none) (m3 : mg "len" = none) : BodyOk P w K mg base 2 f n_Schedule_is_stream "Schedule.is_stream" (defScope c_Schedule_is_stream) (defBody c_Schedule_is_stream) aIss := by
  rintro cdv A outer s0 H E hr ds M R ⟨s, rfl, hs, hp⟩
  have hpos : 0 < s.2.length := List.length_pos_iff.mpr hs.ne
  have q1 := hs.l1
  have q2 := hs.l2
  refine as_cons (as_if (at_w (aw_or (at_not (at_val (ae_isi m1 (v_ 0) (av_ty (T := "tuple") m2 (by decide +kernel)) (.ty "tuple") (.tup _) (kit_ty (by decide +kernel)) ⟨true, rfl, nft, fun _ => ?_⟩))))))
  refine aw_or1 (at_cmp (av_len m3 (v_ 0) .t) i_ cmp_neI ⟨nft, fun _ => as_nil ?_⟩)
  refine as_one (as_ret (ae_and (ae_g G hr (by decide) (aa_cons ((av_ixT (v_ 0) i_ rfl).val (aa_cons (i_.val (aa_cons ((av_gint L.f).val (aa_nil (ak_nil ⟨rfl, s.1, 0, 12, rfl, by omega, by omega, by decide, hs.a1, true, rfl, fun _ => ?_, ntf⟩)))))))))))
  exact ae_one (ae_g G hr (by decide) (aa_cons ((av_ixT (v_ 0) i_ rfl).val (aa_cons (i_.val (aa_cons ((av_gint L.l).val (aa_nil (ak_nil ⟨rfl, s.2, 1, 6, rfl, by omega, by omega, by decide, hs.a2, .ok hp⟩)))))))))
structure Cs (P : Program) (w : World) (K : PySem.W.Frag) (mg : Str → Option Value) (base : Heap) (C p g : Addr) : Prop where
  rd : ClX.CRead K C (.type "type")
  sm : SMet K C (.type "type") "is_stream" p g
  fx : FX P w K mg base 3 g fun ds _ => aIss ds
def aInitS (C : Addr) : ASp := fun ds M R => ∃ (p : Addr) (a : Int) (sp lv : Stm) (M0 : Mem), ds = [.ptr p, .int a, stV sp, stV lv] ∧ M = (p, .ins C []) :: M0 ∧ 2 ≤ a ∧ a ≤ 9 ∧ Lim sp ∧ Lim lv ∧ item lv 0 ≠ 0 ∧ R .non ((p, .ins C (schF ⟨a, nf sp, nf lv⟩)) :: M0)
theorem b_init {pS gS : Addr} (T : Rs K mg C) (L : Lm mg t1 t2 t3 t4) (G1 : GInt P w K mg base) (G2 : Cs P w K mg base C pS gS) (G3 : GItem P w K mg base) (G4 : GNf P w K mg base) :
    BodyOk P w K mg base 3 f n_Schedule___init__ "Schedule.__init__" (defScope c_Schedule___init__) (defBody c_Schedule___init__) (aInitS C) := by
  rintro cdv A outer s0 H E hr ds M R ⟨p, a, sp, lv, M0, rfl, rfl, ha2, ha9, hs, hl, h0, hp⟩
  have q1 := hs.l1
  have q2 := hs.l2
  have q3 := hl.l1
  have q4 := hl.l2
  refine as_cons (as_if (at_not (at_val (ae_g G1 hr (by decide) (aa_cons ((v_ 1).val (aa_nil (ak_cons (i_.val (ak_cons ((av_gint L.a).val (ak_nil ⟨rfl, rfl, a, some 2, some 9, rfl, true, ?_, nft, fun _ => as_nil ?_⟩))))))))))))
  · have e : within a (some 2) (some 9) = true := by simp [within]; omega
    rw [e]
  refine as_cons (as_if (at_not (at_val (ae_smeth G2.rd G2.sm G2.fx hr (ae_glob T.gC ⟨rfl, rfl⟩) (aa_cons ((v_ 2).val (aa_nil (ak_nil ⟨rfl, sp, rfl, hs, true, rfl, nft, fun _ => as_nil ?_⟩))))))))
  refine as_cons (as_if (at_not (at_val (ae_smeth G2.rd G2.sm G2.fx hr (ae_glob T.gC ⟨rfl, rfl⟩) (aa_cons ((v_ 3).val (aa_nil (ak_nil ⟨rfl, lv, rfl, hl, true, rfl, nft, fun _ => as_nil ?_⟩))))))))
  refine as_cons (as_if (at_cmpM (ae_g G3 hr (by decide) (aa_cons ((v_ 3).val (aa_cons (i_.val (aa_nil (ak_nil ⟨rfl, lv, 0, rfl, hl.ne, by decide, i_.val ⟨_, cmp_eqI, fun h => ?_, fun _ => as_nil ?_⟩⟩)))))))))
  · rw [decide_eq_true_eq] at h
    exact absurd h h0
  refine as_cons (as_fld T.cl T.nA ((v_ 1).val ((v_ 0).val ⟨0, p, _, rfl, rfl, Nat.le_of_ble_eq_true rfl, ?_⟩)))
  refine as_cons (as_fld T.cl T.nS (ae_g G4 hr (by decide) (aa_cons ((av_ixT (v_ 2) i_ rfl).val (aa_cons ((av_ixT (v_ 2) i_ rfl).val (aa_nil (ak_nil ⟨rfl, sp, rfl, hs.ne, by omega, by omega, (v_ 0).val ⟨0, p, _, rfl, rfl, Nat.le_of_ble_eq_true rfl, ?_⟩⟩))))))))
  refine as_one (as_fld T.cl T.nL (ae_g G4 hr (by decide) (aa_cons ((av_ixT (v_ 3) i_ rfl).val (aa_cons ((av_ixT (v_ 3) i_ rfl).val (aa_nil (ak_nil ⟨rfl, lv, rfl, hl.ne, by omega, by omega, (v_ 0).val ⟨0, p, _, rfl, rfl, Nat.le_of_ble_eq_true rfl, .ok ?_⟩⟩))))))))
  exact hp
structure Mks (P : Program) (w : World) (K : PySem.W.Frag) (mg : Str → Option Value) (base : Heap) (C : Addr) : Prop where
  ex : ∃ fi, Mk K C fi ∧ FnX P w K mg base 4 fi ["spine", "levels"] (spX K fun ds es M R => ds.length = 2 ∧ aInitS C (ds ++ es) M R)
/-- Schedule(a, spine=s, levels=l) -/
theorem ae_sch {X : Cx} {Γ : Gam} {M : Mem} {R : Val → Mem → Prop} {e e1 e2 : Expr} {p1 p2 p3 pos : Pos} {m : Nat} (T : Rs X.K X.mg C) (I : Mks X.prog X.w X.K X.mg X.base C) (hr : Rm m X.A) (hm : 5 ≤ m)
    (h : aE X e Γ M fun x M1 => aE X e1 Γ M1 fun y M2 => aE X e2 Γ M2 fun z M3 => ∃ a sp lv, x = .int a ∧ y = stV sp ∧ z = stV lv ∧ 2 ≤ a ∧ a ≤ 9 ∧ Lim sp ∧ Lim lv ∧ item lv 0 ≠ 0 ∧ R (scV C ⟨a, nf sp, nf lv⟩) M3)
    (hg : Gl X "Schedule" := by rfl) (he : starEach [e] X.env = (false, eval e X.env) :: starEach [] X.env := by rfl) : aE X (.Call (.Name "Schedule" p1) [e] [⟨some "spine", e1, p2⟩, ⟨some "levels", e2, p3⟩] pos) Γ M R := by
  obtain ⟨fi, mk, F⟩ := I.ex
  refine ae_frzO (ae_make mk F (hr.mono hm) T.gC (aa_cons (h.mono fun x M1 h1 => aa_nil (ak_cons (h1.mono fun y M2 h2 => ak_cons (h2.mono fun z M3 h3 => ak_nil ⟨rfl, fun p hn => ⟨rfl, ?_⟩⟩)))) he) hg rfl rfl (by decide) he (by rw [he]; rfl))
  obtain ⟨a, sp, lv, rfl, rfl, rfl, a2, a9, hs, hl, h0, hR⟩ := h3
  exact ⟨p, a, sp, lv, M3, rfl, rfl, a2, a9, hs, hl, h0, rfl, p, C, _, _, rfl, rfl, hR⟩
/-! ### made_schedule -/
def aMd (C : Addr) : ASp := fun ds M R => ∃ (a : Int) (s l : Stm), ds = [.int a, stV s, stV l] ∧ 2 ≤ a ∧ a ≤ 9 ∧ s.2 ≠ [] ∧ s.1.length ≤ 1000 ∧ s.2.length ≤ 1000 ∧ l.2 ≠ [] ∧ l.1.length ≤ 1000 ∧ l.2.length ≤ 1000 ∧ Lim (nf s) ∧ Lim (nf l) ∧ item l 0 ≠ 0 ∧ R (scV C ⟨a, nf s, nf l⟩) M
theorem Lim.top {s : Stm} (h : Lim s) : ∀ v ∈ s.1 ++ s.2, v ≤ 1000000 := fun v hv => by
  rcases List.mem_append.mp hv with z | z
  · exact (h.a1 v z).2
  · exact (h.a2 v z).2
theorem b_made_schedule (T : Rs K mg C) (I : Mks P w K mg base C) (G : GCs P w K mg base) : BodyOk P w K mg base 5 f n_made_schedule "made_schedule" (defScope s_made_schedule) (defBody s_made_schedule) (aMd C) := by
  rintro cdv A outer s0 H E hr ds M R ⟨a, s, l, rfl, a2, a9, h1, h2, h3, h4, h5, h6, ls, ll, h0, hp⟩
  have ns := nf_spec h1
  have nl := nf_spec h4
  refine as_cons (as_set 1 q_made_schedule.nd (ae_g G hr (by decide) (aa_cons ((v_ 1).val (aa_nil (ak_nil ⟨rfl, s, rfl, h1, h2, h3, ls.l1, ls.l2, ls.top, ?_⟩))))))
  refine as_one (as_ret (ae_sch T I hr (by decide) ((v_ 0).val ((v_ 1).val (ae_g G hr (by decide) (aa_cons ((v_ 2).val (aa_nil (ak_nil ⟨rfl, l, rfl, h4, h5, h6, ll.l1, ll.l2, ll.top, a, nf s, nf l, rfl, rfl, rfl, a2, a9, ls, ll, by rw [nl.it]; exact h0, .ok ?_⟩)))))))))
  rw [nf_nf ns.nf, nf_nf nl.nf]
  exact hp
abbrev GMd (P : Program) (w : World) (K : PySem.W.Frag) (mg : Str → Option Value) (base : Heap) (C : Addr) : Prop := Gd P w K mg base 6 "made_schedule" [] fun ds _ => aMd C ds
end
end K54
namespace K54
open PySem L2 Ab Sm
/-- a made schedule is good -/
theorem good_nf {a : Int} {s l : Stm} (a2 : 2 ≤ a) (a9 : a ≤ 9) (h1 : s.2 ≠ []) (h2 : l.2 ≠ []) (ls : Lim (nf s)) (ll : Lim (nf l)) (h0 : item l 0 ≠ 0) : GoodS ⟨a, nf s, nf l⟩ :=
  ⟨a2, a9, (nf_spec h1).nf, ls, (nf_spec h2).nf, ll, by rw [(nf_spec h2).it]; exact h0⟩
theorem lim_nf {s : Stm} (hn : s.2 ≠ []) (h1 : s.1.length ≤ 12) (h2 : s.2.length ≤ 6) (h3 : ∀ v ∈ s.1, okI v) (h4 : ∀ v ∈ s.2, okI v) : Lim (nf s) :=
  have q := nf_spec hn
  ⟨Nat.le_trans q.l1 h1, Nat.le_trans q.l2 h2, q.nf.ne, fun v hv => h3 v (q.m1 v hv), fun v hv => h4 v (q.m2 v hv)⟩
section
variable {P : Program} {w : World} {K : PySem.W.Frag} {mg : Str → Option Value} {base : Heap} {k : Nat} {f C : Addr} {t1 t2 t3 t4 : Tok}
theorem av_a {X : Cx} {Γ : Gam} {M : Mem} {e : Expr} {S : Sc} {pos : Pos} (T : Rs X.K X.mg C) (h : aV X e Γ M (scV C S)) (hb : attributeBase e "own_arity" X.env (eval e X.env) = eval e X.env := by rfl) : aV X (.Attribute e "own_arity" pos) Γ M (.int S.a) := av_fld T.cl T.nA h (.im _) look_a hb
theorem av_s {X : Cx} {Γ : Gam} {M : Mem} {e : Expr} {S : Sc} {pos : Pos} (T : Rs X.K X.mg C) (h : aV X e Γ M (scV C S)) (hb : attributeBase e "own_spine" X.env (eval e X.env) = eval e X.env := by rfl) : aV X (.Attribute e "own_spine" pos) Γ M (stV S.sp) := av_fld T.cl T.nS h (.im _) look_s hb
theorem av_l {X : Cx} {Γ : Gam} {M : Mem} {e : Expr} {S : Sc} {pos : Pos} (T : Rs X.K X.mg C) (h : aV X e Γ M (scV C S)) (hb : attributeBase e "own_levels" X.env (eval e X.env) = eval e X.env := by rfl) : aV X (.Attribute e "own_levels" pos) Γ M (stV S.lv) := av_fld T.cl T.nL h (.im _) look_l hb
/-! ### spine_at, level_at, arity -/
def aSat (C : Addr) : ASp := fun ds M R => ∃ (S : Sc) (i : Int), ds = [scV C S, .int i] ∧ GoodS S ∧ 0 ≤ i ∧ R (.int (item S.sp i.toNat)) M
def aLat (C : Addr) : ASp := fun ds M R => ∃ (S : Sc) (i : Int), ds = [scV C S, .int i] ∧ GoodS S ∧ 0 ≤ i ∧ R (.int (item S.lv i.toNat)) M
theorem b_spine_at (T : Rs K mg C) (G1 : GChk P w K mg base) (G2 : GItem P w K mg base) : BodyOk P w K mg base 2 f n_Schedule_spine_at "Schedule.spine_at" (defScope c_Schedule_spine_at) (defBody c_Schedule_spine_at) (aSat C) := by
  rintro cdv A outer s0 H E hr ds M R ⟨S, i, rfl, hS, h0, hp⟩
  refine as_cons (as_expr (ae_g G1 hr (by decide) (aa_cons ((v_ 1).val (aa_cons (i_.val (aa_nil (ak_nil ⟨rfl, rfl, i, 0, rfl, h0, ?_⟩))))))))
  exact as_one (as_ret (ae_g G2 hr (by decide) (aa_cons ((av_s T (v_ 0)).val (aa_cons ((v_ 1).val (aa_nil (ak_nil ⟨rfl, S.sp, i, rfl, hS.ns.ne, h0, .ok hp⟩))))))))
theorem b_level_at (T : Rs K mg C) (G1 : GChk P w K mg base) (G2 : GItem P w K mg base) : BodyOk P w K mg base 2 f n_Schedule_level_at "Schedule.level_at" (defScope c_Schedule_level_at) (defBody c_Schedule_level_at) (aLat C) := by
  rintro cdv A outer s0 H E hr ds M R ⟨S, i, rfl, hS, h0, hp⟩
  refine as_cons (as_expr (ae_g G1 hr (by decide) (aa_cons ((v_ 1).val (aa_cons (i_.val (aa_nil (ak_nil ⟨rfl, rfl, i, 0, rfl, h0, ?_⟩))))))))
  exact as_one (as_ret (ae_g G2 hr (by decide) (aa_cons ((av_l T (v_ 0)).val (aa_cons ((v_ 1).val (aa_nil (ak_nil ⟨rfl, S.lv, i, rfl, hS.nl.ne, h0, .ok hp⟩))))))))
def aAri (C : Addr) : ASp := fun ds M R => ∃ (S : Sc), ds = [scV C S] ∧ R (.int S.a) M
theorem b_arity (T : Rs K mg C) : BodyOk P w K mg base k f n_Schedule_arity "Schedule.arity" (defScope c_Schedule_arity) (defBody c_Schedule_arity) (aAri C) := by
  rintro cdv A outer s0 H E hr ds M R ⟨S, rfl, hp⟩
  exact as_one (as_ret ((av_a T (v_ 0)).val (.ok hp)))
/-! ### delayed, times -/
end
end K54
namespace K54
open PySem L2 Ab Sm
/-! ### == of schedules -/
theorem toD_st (s : Stm) : toD (stV s) = some (.tuple [.tuple (s.1.map PyData.int), .tuple (s.2.map PyData.int)]) := by
  refine toD_tup ?_
  unfold toDs
  rw [show toD (iT s.1) = some (.tuple (s.1.map PyData.int)) from toD_tup (toDs_ints s.1)]
  show ((toDs [iT s.2]).map fun ds => PyData.tuple (s.1.map PyData.int) :: ds) = _
  unfold toDs
  rw [show toD (iT s.2) = some (.tuple (s.2.map PyData.int)) from toD_tup (toDs_ints s.2)]
  rfl
theorem shaped_st (s : Stm) : SeqAt.shaped (.tuple [.tuple (s.1.map PyData.int), .tuple (s.2.map PyData.int)]) = true := by
  simp [SeqAt.shaped, PyData.canLay0, PyData.canLayAll0, PyData.depth, PyData.depthAll, lay_ints, dep_ints]
theorem eqv_st (s t : Stm) : PyData.eqv (.tuple [.tuple (s.1.map PyData.int), .tuple (s.2.map PyData.int)]) (.tuple [.tuple (t.1.map PyData.int), .tuple (t.2.map PyData.int)]) = decide (s = t) := by
  simp only [PyData.eqv, PyData.eqvAll, eqv_ints, Bool.and_true]
  obtain ⟨a, b⟩ := s
  obtain ⟨c, d⟩ := t
  simp [Prod.mk.injEq]
theorem cmp_eqST {X : Cx} {M : Mem} {s t : Stm} (hu : X.A.units + 64 < cLine) : Cmp X .Eq M (stV s) (stV t) (decide (s = t)) := by
  have h := cmp_eqD (X := X) (M := M) (.self (stV s)) (.self (stV t)) (toD_st s) (toD_st t) (shaped_st s) (shaped_st t) hu
  rw [eqv_st] at h
  exact h
noncomputable def relS (fs gs : List (Str × Val)) : Bool := @decide (fs = gs) (Classical.propDecidable _)
def goodF (fs : List (Str × Val)) : Prop := ∃ S : Sc, fs = schF S ∧ GoodS S
theorem iT_inj {xs ys : List Int} (h : iT xs = iT ys) : xs = ys := by
  unfold iT at h
  have h2 : xs.map Val.int = ys.map Val.int := by injection h
  exact List.map_inj_right (fun a b e => by injection e) |>.mp h2
theorem stV_inj {s t : Stm} (h : stV s = stV t) : s = t := by
  unfold stV at h
  have h2 : [iT s.1, iT s.2] = [iT t.1, iT t.2] := by injection h
  have h3 := (List.cons.inj h2).1
  have h4 := (List.cons.inj (List.cons.inj h2).2).1
  exact Prod.ext (iT_inj h3) (iT_inj h4)
theorem schF_inj {S T : Sc} (h : schF S = schF T) : S = T := by
  unfold schF at h
  have h1 := (List.cons.inj h).1
  have h2 := (List.cons.inj (List.cons.inj h).2).1
  have h3 := (List.cons.inj (List.cons.inj (List.cons.inj h).2).2).1
  have e1 : Val.int S.a = Val.int T.a := (Prod.mk.inj h1).2
  have e2 := stV_inj (Prod.mk.inj h2).2
  have e3 := stV_inj (Prod.mk.inj h3).2
  cases S
  cases T
  cases e1
  simp only at e2 e3
  subst e2 e3
  rfl
theorem rel_eq {S T : Sc} (h : S = T) : relS (schF S) (schF T) = true := by
  unfold relS
  exact @decide_eq_true _ (Classical.propDecidable _) (by rw [h])
theorem rel_ne {S T : Sc} (h : S ≠ T) : relS (schF S) (schF T) = false := by
  unfold relS
  exact @decide_eq_false _ (Classical.propDecidable _) fun z => h (schF_inj z)
/-- what isinstance asks of the class -/
structure Isi (K : PySem.W.Frag) (C : Addr) : Prop where
  c1 : PySem.W.findIn K (.ref C) "__class__" = some (some (.builtin "object.__class__"))
  c2 : PySem.W.specialIn K (.builtin "object.__class__") "__get__" = some (some (.builtin "getset_descriptor.__get__"))
  c3 : PySem.W.takesIn K (.builtin "object.__class__") = some true
  c4 : PySem.W.mroIn K C (.type "object") = some true
  c5 : PySem.W.kitOne K (.ref C) (.ref C) = some true
section
variable {P : Program} {w : World} {K : PySem.W.Frag} {mg : Str → Option Value} {base : Heap} {k : Nat} {f C : Addr} {t1 t2 t3 t4 : Tok}
theorem ty_sc {M : Mem} {S : Sc} (T : Rs K mg C) (I : Isi K C) : TyV K M (scV C S) (.ref C) := .ob (.im _) T.cl I.c1 I.c2 I.c3 I.c4
def aEqS (C : Addr) : ASp := fun ds M R => ∃ fs gs, ds = [.obj C fs, .obj C gs] ∧ goodF fs ∧ goodF gs ∧ R (.bl (relS fs gs)) M
theorem b_eq (T : Rs K mg C) (I : Isi K C) (m1 : mg "isinstance" = none) : BodyOk P w K mg base k f n_Schedule___eq__ "Schedule.__eq__" (defScope c_Schedule___eq__) (defBody c_Schedule___eq__) (aEqS C) := by
  rintro cdv A outer s0 H E hr ds M R ⟨fs, gs, rfl, ⟨S, rfl, hS⟩, ⟨S', rfl, hS'⟩, hp⟩
  have hu := hr.u64
  refine as_cons (as_if (at_w (aw_or (at_not (at_val (ae_isi m1 (d1 := scV C S') (v_ 1) (ae_glob T.gC ⟨rfl, rfl⟩) (.own C) (ty_sc T I) I.c5 ⟨true, rfl, nft, fun _ => ?_⟩))))))
  have v0 : ∀ {X : Cx} {Γ : Gam} {M : Mem} {e : Expr}, aV X e Γ M (.obj C (schF S)) → aV X e Γ M (scV C S) := fun h => h
  have v1 : ∀ {X : Cx} {Γ : Gam} {M : Mem} {e : Expr}, aV X e Γ M (.obj C (schF S')) → aV X e Γ M (scV C S') := fun h => h
  by_cases ha : S.a = S'.a
  · refine aw_or1 (at_cmp (av_a T (v0 (v_ 0))) (av_a T (v1 (v_ 1))) cmp_neI ⟨fun h => ?_, fun _ => as_nil ?_⟩)
    · rw [decide_eq_true ha] at h
      exact absurd h (by decide)
    refine as_one (as_ret (ae_and (ae_cmp (av_s T (v0 (v_ 0))) (av_s T (v1 (v_ 1))) (cmp_eqST hu) ⟨_, rfl, fun h => ?_, fun h => .ok ?_⟩)))
    · rw [decide_eq_true_eq] at h
      refine ae_one (ae_cmp (av_l T (v0 (v_ 0))) (av_l T (v1 (v_ 1))) (cmp_eqST hu) (.ok ?_))
      by_cases hl : S.lv = S'.lv
      · rw [decide_eq_true hl]
        have e : S = S' := by
          cases S
          cases S'
          simp only at ha h hl
          subst ha h hl
          rfl
        rw [rel_eq e] at hp
        exact hp
      · rw [decide_eq_false hl]
        rw [rel_ne (S := S) (T := S') fun z => hl (by rw [z])] at hp
        exact hp
    · rw [decide_eq_false_iff_not] at h
      rw [rel_ne (S := S) (T := S') fun z => h (by rw [z])] at hp
      exact hp
  · refine aw_or1 (at_cmp (av_a T (v0 (v_ 0))) (av_a T (v1 (v_ 1))) cmp_neI ⟨fun _ => ?_, fun h => ?_⟩)
    · refine as_one (as_ret (ae_bl (.ok ?_)))
      rw [rel_ne (S := S) (T := S') fun z => ha (by rw [z])] at hp
      exact hp
    · rw [decide_eq_false ha] at h
      exact absurd h (by decide)
/-! ### combined_schedules -/
end
/-- six items on, from the twelfth -/
def P6 (s : Stm) : Prop := ∀ i, 12 ≤ i → item s (i + 6) = item s i
end K54
namespace Ab
open PySem PySem.Spec PyProof.Rows L2
end Ab
namespace Ab
open PySem PySem.Spec PyProof.Rows L2
/-! ### tests by a plain Prop -/
section
variable {X : Cx} {Γ : Gam} {M : Mem} {P : Val → Mem → Prop} {e a b c o : Expr} {es : List Expr} {pos p1 p2 apos kpos : Pos} {k : AK} {d d1 d2 d3 : Val} {i j l : Int} {x y m : Str} {n : Nat} {f C : Addr} {p q : Prop}
def TP (X : Cx) (c : Expr) (Γ : Gam) (M : Mem) (p : Prop) : Prop := ∃ b : Bool, aB X c Γ M b ∧ (b = true ↔ p)
def WP (X : Cx) (c : Expr) (Γ : Gam) (M : Mem) (p : Prop) : Prop := ∃ b : Bool, (aW X c Γ M fun x M' => x = b ∧ M' = M) ∧ (b = true ↔ p)
def VP (X : Cx) (c : Expr) (Γ : Gam) (M : Mem) (p : Prop) : Prop := ∃ b : Bool, aV X c Γ M (.bl b) ∧ (b = true ↔ p)
def CP (X : Cx) (op : CmpOp) (M : Mem) (x y : Val) (p : Prop) : Prop := ∃ b : Bool, Cmp X op M x y b ∧ (b = true ↔ p)
theorem cp_lt : CP X .Lt M (.int i) (.int j) (i < j) := ⟨_, cmp_lt, decide_eq_true_iff⟩
theorem cp_le : CP X .LtE M (.int i) (.int j) (i ≤ j) := ⟨_, cmp_le, decide_eq_true_iff⟩
theorem cp_gt : CP X .Gt M (.int i) (.int j) (j < i) := ⟨_, cmp_gt, decide_eq_true_iff⟩
theorem cp_ge : CP X .GtE M (.int i) (.int j) (j ≤ i) := ⟨_, cmp_ge, decide_eq_true_iff⟩
theorem cp_eq : CP X .Eq M (.int i) (.int j) (i = j) := ⟨_, cmp_eqI, decide_eq_true_iff⟩
theorem cp_ne : CP X .NotEq M (.int i) (.int j) (i ≠ j) := ⟨_, cmp_neI, by simp⟩
theorem cp_eqS {x y : Str} : CP X .Eq M (.str x) (.str y) (x = y) := ⟨_, cmp_eqS, decide_eq_true_iff⟩
theorem cp_neS {x y : Str} : CP X .NotEq M (.str x) (.str y) (x ≠ y) := ⟨_, cmp_neS, by simp⟩
theorem cp_isN : CP X .Is M d .non (d.isN = true) := ⟨_, cmp_isN, Iff.rfl⟩
theorem cp_neL {ns ms : List Int} (v1 : Vw M d1 (.lst (ns.map .int))) (v2 : Vw M d2 (.lst (ms.map .int))) (hu : X.A.units + 64 < cLine) : CP X .NotEq M d1 d2 (ns ≠ ms) := ⟨_, cmp_neLI v1 v2 hu, by simp⟩
theorem tp_cmp {op : CmpOp} (ha : aV X a Γ M d1) (hb : aV X b Γ M d2) (hc : CP X op M d1 d2 p) (hm : behindInMarks op b = false := by first | exact nomark _ | rfl) : TP X (.Compare a [op] [b] pos) Γ M p := by
  obtain ⟨k, h, i⟩ := hc
  exact ⟨k, at_cmp ha hb h ⟨rfl, rfl⟩ hm, i⟩
theorem vp_cmp {op : CmpOp} (ha : aV X a Γ M d1) (hb : aV X b Γ M d2) (hc : CP X op M d1 d2 p) (hm : behindInMarks op b = false := by first | exact nomark _ | rfl) : VP X (.Compare a [op] [b] pos) Γ M p := by
  obtain ⟨k, h, i⟩ := hc
  exact ⟨k, ae_cmp ha hb h ⟨rfl, rfl⟩ hm, i⟩
theorem tp_chain {op op' : CmpOp} (ha : aV X a Γ M d1) (hb : aV X b Γ M d2) (hc : aV X c Γ M d3) (h1 : CP X op M d1 d2 p) (h2 : CP X op' M d2 d3 q) (hm : lastMarks [op, op'] [b, c] = false := by with_unfolding_all rfl) : TP X (.Compare a [op, op'] [b, c] pos) Γ M (p ∧ q) := by
  obtain ⟨k1, h1, i1⟩ := h1
  obtain ⟨k2, h2, i2⟩ := h2
  exact ⟨k1 && k2, at_chain ha hb hc h1 h2 ⟨rfl, rfl⟩ hm, by rw [Bool.and_eq_true, i1, i2]⟩
theorem tp_not (h : TP X a Γ M p) : TP X (.UnaryOp .Not a pos) Γ M (¬ p) := by
  obtain ⟨b, h, i⟩ := h
  exact ⟨!b, at_not (h.val ⟨rfl, rfl⟩), by rw [← i]; cases b <;> simp⟩
theorem tp_w (h : WP X e Γ M p) : TP X e Γ M p := by
  obtain ⟨k, h, i⟩ := h
  exact ⟨k, at_w h, i⟩
theorem wp_or1 (h : TP X a Γ M p) : WP X (.BoolOp .Or [a] pos) Γ M p := by
  obtain ⟨k, h, i⟩ := h
  exact ⟨k, aw_or1 h, i⟩
theorem wp_or {rest : List Expr} (h : TP X a Γ M p) (h2 : ¬ p → WP X (.BoolOp .Or (b :: rest) pos) Γ M q) : WP X (.BoolOp .Or (a :: b :: rest) pos) Γ M (p ∨ q) := by
  obtain ⟨k, h, i⟩ := h
  cases k with
  | false =>
    have np : ¬ p := fun z => Bool.false_ne_true (i.mpr z)
    obtain ⟨k2, h2, i2⟩ := h2 np
    exact ⟨k2, aw_or (h.val ⟨(fun z => nomatch z), fun _ => h2⟩), by rw [i2]; exact ⟨.inr, fun z => z.resolve_left np⟩⟩
  | true => exact ⟨true, aw_or (h.val ⟨fun _ => ⟨rfl, rfl⟩, fun z => nomatch z⟩), ⟨fun _ => .inl (i.mp rfl), fun _ => rfl⟩⟩
theorem TP.iff {q : Prop} (h : TP X c Γ M p) (e : p ↔ q) : TP X c Γ M q := by
  obtain ⟨k, h, i⟩ := h
  exact ⟨k, h, i.trans e⟩
theorem VP.out [Decidable p] (h : VP X c Γ M p) : aV X c Γ M (.bl (decide p)) := by
  obtain ⟨k, h, i⟩ := h
  have e : k = decide p := by
    cases k with
    | true => exact (decide_eq_true (i.mp rfl)).symm
    | false => exact (decide_eq_false fun z => Bool.false_ne_true (i.mpr z)).symm
  rw [← e]
  exact h
theorem as_ifp {s1 s2 : List Stmt} (h : TP X c Γ M p) (h1 : p → aSs X s1 Γ M k) (h2 : ¬ p → aSs X s2 Γ M k) : aS X (.If c s1 s2 pos) Γ M k := by
  obtain ⟨b, h, i⟩ := h
  exact as_if (h.val ⟨fun z => h1 (i.mp z), fun z => h2 fun y => by rw [i.mpr y] at z; cases z⟩)
theorem ae_ifp (h : TP X c Γ M p) (h1 : p → aE X a Γ M P) (h2 : ¬ p → aE X b Γ M P) : aE X (.IfExp c a b pos) Γ M P := by
  obtain ⟨b, h, i⟩ := h
  exact ae_if (h.val ⟨fun z => h1 (i.mp z), fun z => h2 fun y => by rw [i.mpr y] at z; cases z⟩)
theorem av_ifI [Decidable p] (h : TP X c Γ M p) (h1 : p → aV X a Γ M (.int i)) (h2 : ¬ p → aV X b Γ M (.int j)) : aV X (.IfExp c a b pos) Γ M (.int (if p then i else j)) := by
  refine ae_ifp h (fun z => ?_) fun z => ?_
  · rw [if_pos z]
    exact h1 z
  · rw [if_neg z]
    exact h2 z
/-! ### slots forgotten -/
def Le : Gam → Gam → Prop
  | [], [] => True
  | none :: a, _ :: b => Le a b
  | some d :: a, e :: b => e = some d ∧ Le a b
  | _, _ => False
theorem Le.spec : ∀ {A B : Gam}, Le A B → A.length = B.length ∧ ∀ (i : Nat) (d : Val), A[i]? = some (some d) → B[i]? = some (some d)
  | [], [], _ => ⟨rfl, fun i d h => by simp at h⟩
  | none :: a, x :: b, h => by
    obtain ⟨h1, h2⟩ := Le.spec (A := a) (B := b) h
    refine ⟨by simp [h1], fun i d q => ?_⟩
    cases i with
    | zero => simp at q
    | succ i => exact h2 i d (by simpa using q)
  | some d :: a, e :: b, h => by
    obtain ⟨rfl, h⟩ := h
    obtain ⟨h1, h2⟩ := Le.spec (A := a) (B := b) h
    refine ⟨by simp [h1], fun i d' q => ?_⟩
    cases i with
    | zero => simpa using q
    | succ i => exact h2 i d' (by simpa using q)
  | [], _ :: _, h => h.elim
  | none :: _, [], h => h.elim
  | some _ :: _, [], h => h.elim
theorem Le.env {K : PySem.W.Frag} {H : Hp} {Γ Γ' : Gam} {σ : L2.St} (h : Le Γ' Γ) (en : EnvR K H Γ σ) : EnvR K H Γ' σ := en.drop h.spec.1 h.spec.2
theorem Le.refl : ∀ {Γ : Gam}, Le Γ Γ
  | [] => trivial
  | none :: a => Le.refl (Γ := a)
  | some d :: a => ⟨rfl, Le.refl (Γ := a)⟩
theorem as_le {Γ' : Gam} {s : List Stmt} (l : Le Γ' Γ) (h : aSs X s Γ' M k) : aSs X s Γ M k := fun Hi H σ ok en D q => h Hi H σ ok (l.env en) D q
/-- cells forgotten -/
theorem as_sub {M' : Mem} {s : List Stmt} (l : M'.Sublist M) (h : aSs X s Γ M' k) : aSs X s Γ M k := fun Hi H σ ok en D q => h Hi H σ (ok.sub l) en D q
theorem as_wk {Γ' : Gam} {M' : Mem} {s : List Stmt} (l : Le Γ' Γ) (l2 : M'.Sublist M) (h : aSs X s Γ' M' k) : aSs X s Γ M k := as_le l (as_sub l2 h)
theorem Le.trans : ∀ {A B C : Gam}, Le A B → Le B C → Le A C
  | [], [], C, _, h => h
  | none :: a, x :: b, [], _, h => by cases x <;> exact h.elim
  | none :: a, none :: b, y :: c, h1, h2 => Le.trans (A := a) (B := b) (C := c) h1 h2
  | none :: a, some x :: b, y :: c, h1, h2 => Le.trans (A := a) (B := b) (C := c) h1 h2.2
  | some d :: a, e :: b, [], h1, h2 => by cases e <;> exact h2.elim
  | some d :: a, e :: b, y :: c, h1, h2 => by
    obtain ⟨rfl, h1⟩ := h1
    exact ⟨h2.1, Le.trans (A := a) (B := b) (C := c) h1 h2.2⟩
  | [], _ :: _, _, h, _ => h.elim
  | none :: _, [], _, h, _ => h.elim
  | some _ :: _, [], _, h, _ => h.elim
/-- a loop whose invariant forgets slots and cells -/
abbrev Wk (I : Gam → Mem → Prop) : Gam → Mem → Prop := fun Γ M => ∃ Γ' M', I Γ' M' ∧ Le Γ' Γ ∧ M'.Sublist M
theorem Wk.mono {I : Gam → Mem → Prop} {Γ Γ' : Gam} {M M' : Mem} (l : Le Γ' Γ) (l2 : M'.Sublist M) (h : Wk I Γ' M') : Wk I Γ M := by
  obtain ⟨Γ0, M0, h, a, b⟩ := h
  exact ⟨Γ0, M0, h, a.trans l, b.trans l2⟩
theorem le_nil : Le [] [] := trivial
theorem le_skip {a b : Gam} {x : Option Val} (h : Le a b) : Le (none :: a) (x :: b) := h
theorem le_keep {a b : Gam} {d d' : Val} (e : d' = d) (h : Le a b) : Le (some d :: a) (some d' :: b) := ⟨congrArg some e, h⟩
theorem as_forW {tg iter : Expr} {body : List Stmt} (hp : PassesOwn (model X.prog X.w) X.A X.env X.xe) (hc : X.calm = true)
    (hi : aJ X tg iter Γ M fun n it M1 => ∃ I : Nat → Gam → Mem → Prop, Wk (I 0) Γ M1 ∧ (∀ i Γ M, i < n → I i Γ M → aG X tg (it i) Γ M fun Γ2 M2 => aSs X body Γ2 M2 { k with nx := Wk (I (i + 1)), ct := Wk (I (i + 1)), bk := k.nx }) ∧ ∀ Γ M, I n Γ M → k.nx Γ M)
    (hk : ∀ Γ Γ' M M', Le Γ' Γ → M'.Sublist M → k.nx Γ' M' → k.nx Γ M := by intro _ _ _ _ l l2 h; first | exact as_wk l l2 h | exact Wk.mono l l2 h)
    (hf : ∀ x, foldedSetIterable iter X.env x = pure x := by intro _; rfl) : aS X (.For tg iter body [] pos) Γ M k :=
  as_forJ hp hc (fun Hi H σ ok en R' q => hi Hi H σ ok en R' fun J n it M1 Hi1 H1 ⟨I, h0, hs, hd⟩ => q J n it M1 Hi1 H1 ⟨fun i => Wk (I i), h0, fun i Γ' M' hi' ⟨Γ0, M0, h, l, l2⟩ => fun Hi H σ v ok en r Q q => hs i Γ0 M0 hi' h Hi H σ v (ok.sub l2) (l.env en) r Q q, fun Γ' M' ⟨Γ0, M0, h, l, l2⟩ => hk _ _ _ _ l l2 (hd Γ0 M0 h)⟩) hf
theorem as_whileW {body : List Stmt} (I : Nat → Gam → Mem → Prop) (n : Nat) (hp : PassesOwn (model X.prog X.w) X.A X.env X.xe) (h0 : Wk (I n) Γ M)
    (hs : ∀ n Γ M, I n Γ M → ∃ p, TP X c Γ M p ∧ (p → aSs X body Γ M { k with nx := Wk fun Γ' M' => ∃ m, m < n ∧ I m Γ' M', ct := Wk fun Γ' M' => ∃ m, m < n ∧ I m Γ' M', bk := k.nx }) ∧ (¬ p → k.nx Γ M))
    (hk : ∀ Γ Γ' M M', Le Γ' Γ → M'.Sublist M → k.nx Γ' M' → k.nx Γ M := by intro _ _ _ _ l l2 h; first | exact as_wk l l2 h | exact Wk.mono l l2 h) : aS X (.While c body [] pos) Γ M k :=
  as_while (fun n => Wk (I n)) n hp h0 fun n Γ' M' ⟨Γ0, M0, h, l, l2⟩ => by
    obtain ⟨p, ⟨b, hb, i⟩, h1, h2⟩ := hs n Γ0 M0 h
    intro Hi H σ ok en Q q
    refine hb Hi H σ (ok.sub l2) (l.env en) Q fun b' M1 Hi' H' hh => ?_
    obtain ⟨rfl, rfl⟩ := hh
    refine q _ _ Hi' H' ⟨fun z => ?_, fun z => hk _ _ _ _ l (List.Sublist.refl _) (h2 fun y => by rw [i.mpr y] at z; cases z)⟩
    refine as_le l ((h1 (i.mp z)).mono ?_ (fun _ _ h => h) (fun _ _ h => h) ?_)
    · rintro Γ5 M5 ⟨Γ6, M6, ⟨m, hm, h6⟩, l6, l7⟩
      exact ⟨m, hm, Γ6, M6, h6, l6, l7⟩
    · rintro Γ5 M5 ⟨Γ6, M6, ⟨m, hm, h6⟩, l6, l7⟩
      exact ⟨m, hm, Γ6, M6, h6, l6, l7⟩
/-! ### lengths, items -/
inductive LenIs (M : Mem) : Val → Nat → Prop
  | iT (xs : List Int) : LenIs M (iT xs) xs.length
  | iL (xs : List Int) : LenIs M (iL xs) xs.length
  | mT {α : Type} (xs : List α) (g : α → Val) : LenIs M (.tup (xs.map g)) xs.length
  | mL {α : Type} (xs : List α) (g : α → Val) : LenIs M (.lst (xs.map g)) xs.length
  | t (xs : List Val) : LenIs M (.tup xs) xs.length
  | l (xs : List Val) : LenIs M (.lst xs) xs.length
  | cm (n : Nat) {α : Type} {p : Addr} {xs : List α} {g : α → Val} : M[n]? = some (p, .lst (xs.map g)) → LenIs M (.ptr p) xs.length
  | c (n : Nat) {p : Addr} {xs : List Val} : M[n]? = some (p, .lst xs) → LenIs M (.ptr p) xs.length
theorem av_lenN {n : Nat} (hm : X.mg "len" = none) (ha : aV X a Γ M d) (hs : LenIs M d n) (hg : Gl X "len" := by rfl) (hst : starEach [a] X.env = [(false, eval a X.env)] := by rfl) : aV X (.Call (.Name "len" p1) [a] [] pos) Γ M (.int n) := by
  cases hs with
  | iT xs => have h := av_len hm ha .t hg hst (pos := pos) (p1 := p1); rw [List.length_map] at h; exact h
  | iL xs => have h := av_len hm ha (.l (.self _)) hg hst (pos := pos) (p1 := p1); rw [List.length_map] at h; exact h
  | mT xs g => have h := av_len hm ha .t hg hst (pos := pos) (p1 := p1); rw [List.length_map] at h; exact h
  | mL xs g => have h := av_len hm ha (.l (.self _)) hg hst (pos := pos) (p1 := p1); rw [List.length_map] at h; exact h
  | t xs => exact av_len hm ha .t hg hst
  | l xs => exact av_len hm ha (.l (.self _)) hg hst
  | cm n h0 => have h := av_len hm ha (.l (.lst n h0)) hg hst (pos := pos) (p1 := p1); rw [List.length_map] at h; exact h
  | c n h0 => exact av_len hm ha (.l (.lst n h0)) hg hst
/-- d[i] -/
inductive IxIs (M : Mem) : Val → Int → Val → Prop
  | iT {xs : List Int} {i : Int} : 0 ≤ i → i < xs.length → IxIs M (iT xs) i (.int (at0 xs i))
  | iL {xs : List Int} {i : Int} : 0 ≤ i → i < xs.length → IxIs M (iL xs) i (.int (at0 xs i))
  | ci (n : Nat) {p : Addr} {xs : List Int} {i : Int} : M[n]? = some (p, .lst (xs.map .int)) → 0 ≤ i → i < xs.length → IxIs M (.ptr p) i (.int (at0 xs i))
  | t {xs : List Val} {i : Int} {d : Val} : atI xs i = some d → IxIs M (.tup xs) i d
  | l {xs : List Val} {i : Int} {d : Val} : atI xs i = some d → IxIs M (.lst xs) i d
  | c (n : Nat) {p : Addr} {xs : List Val} {i : Int} {d : Val} : M[n]? = some (p, .lst xs) → atI xs i = some d → IxIs M (.ptr p) i d
theorem av_ix {i : Int} (ha : aV X a Γ M d1) (hb : aV X b Γ M (.int i)) (h : IxIs M d1 i d) (hs : PlainIx b := by exact fun _ _ => rfl) : aV X (.Subscript a b pos) Γ M d := by
  cases h with
  | iT h0 h1 => exact av_ixT ha hb (atI_int h0 h1) hs
  | iL h0 h1 => exact av_ixL ha hb (.self _) (atI_int h0 h1) hs
  | ci n hm h0 h1 => exact av_ixL ha hb (.lst n hm) (atI_int h0 h1) hs
  | t h => exact av_ixT ha hb h hs
  | l h => exact av_ixL ha hb (.self _) h hs
  | c n hm h => exact av_ixL ha hb (.lst n hm) h hs
theorem av_max2 (hm : X.mg "max" = none) (hc : X.calm = true) (ha : aV X a Γ M (.int i)) (hb : aV X b Γ M (.int j)) (hg : Gl X "max" := by rfl)
    (hs : starEach [a, b] X.env = (false, eval a X.env) :: starEach [b] X.env := by rfl) (hs2 : starEach [b] X.env = (false, eval b X.env) :: starEach [] X.env := by rfl) (hpl : (backTo pos (starEach [b] X.env)).any (·.1) = false := by rfl) : aV X (.Call (.Name "max" p1) [a, b] [] pos) Γ M (.int (max i j)) := by
  refine ae_max2 hm hc ha hb ⟨?_, rfl⟩ hg hs hs2 hpl
  congr 1
  split <;> omega
theorem av_min2 (hm : X.mg "min" = none) (hc : X.calm = true) (ha : aV X a Γ M (.int i)) (hb : aV X b Γ M (.int j)) (hg : Gl X "min" := by rfl)
    (hs : starEach [a, b] X.env = (false, eval a X.env) :: starEach [b] X.env := by rfl) (hs2 : starEach [b] X.env = (false, eval b X.env) :: starEach [] X.env := by rfl) (hpl : (backTo pos (starEach [b] X.env)).any (·.1) = false := by rfl) : aV X (.Call (.Name "min" p1) [a, b] [] pos) Γ M (.int (min i j)) := by
  refine ae_min2 hm hc ha hb ⟨?_, rfl⟩ hg hs hs2 hpl
  congr 1
  split <;> omega
theorem as_setv {ps : Pos} (n : Nat) (hN : X.N.Nodup) (he : aV X e Γ M d) (h : k.nx (Γ.set n (some d)) M) (hi : X.N[n]? = some x := by rfl) (hx : Loc X.env.scope x := by first | exact Or.inl rfl | exact Or.inr rfl)
    (hs : swapsWith e (some (.Name x ps)) pos.line X.env = pure false := by rfl) (hf : X.fn x = true ∨ X.env.scope.names.lookup x = some .local := by first | exact .inl rfl | exact .inr rfl | assumption) : aS X (.Assign [.Name x ps] e pos) Γ M k := as_set n hN (he.val h) hi hx hs hf
theorem as_retv (he : aV X e Γ M d) (h : k.rt d M) : aS X (.Return (some e) pos) Γ M k := as_ret (he.val h)
end
end Ab
namespace Ab
open PySem PySem.Spec PyProof.Rows L2
/-- what is still the built-in -/
structure Bt (mg : Str → Option Value) : Prop where
  isinstance : mg "isinstance" = none
  int : mg "int" = none
  bool : mg "bool" = none
  tuple : mg "tuple" = none
  len : mg "len" = none
  enumerate : mg "enumerate" = none
  range : mg "range" = none
  all : mg "all" = none
  list : mg "list" = none
  min : mg "min" = none
  max : mg "max" = none
  sum : mg "sum" = none
section
variable {X : Cx} {Γ : Gam} {M : Mem} {P : Val → Mem → Prop} {e a b c o : Expr} {es : List Expr} {pos p1 p2 apos kpos : Pos} {k : AK} {d d1 d2 d3 : Val} {i j l : Int} {x y m : Str} {n : Nat} {f C : Addr} {p q : Prop}
def CDivU (i j : Int) : Prop := CDiv i j ∨ CDivW i j
def CMulU (i j : Int) : Prop := CMul i j ∨ CMulX i j
theorem bv_mulU (hc : CMulU i j) (h : P (.int (i * j)) M) : BinV X .Mult M (.int i) (.int j) P := by
  rcases hc with hc | hc
  · exact ⟨_, op_mul, rv_I (f := fun i j => .int (i * j)) hc (fun _ _ => .int _) h⟩
  · exact ⟨_, op_mulX, rv_I (f := fun i j => .int (i * j)) hc (fun _ _ => .int _) h⟩
theorem bv_fdivU (hc : CDivU i j) (h : P (.int (i / j)) M) : BinV X .FloorDiv M (.int i) (.int j) P := by
  rcases hc with hc | hc
  · exact ⟨_, op_fdiv, rv_I (f := fun i j => .int (i / j)) hc (fun _ _ => .int _) h⟩
  · exact ⟨_, op_fdivW, rv_I (f := fun i j => .int (i / j)) hc (fun _ _ => .int _) h⟩
theorem bv_mod (hc : 0 < j) (h : P (.int (i % j)) M) : BinV X .Mod M (.int i) (.int j) P := ⟨_, op_mod, rv_I (f := fun i j => .int (i % j)) hc (fun _ _ => .int _) h⟩
theorem av_mulU (ha : aV X a Γ M (.int i)) (hb : aV X b Γ M (.int j)) (hc : CMulU i j) : aV X (.BinOp a .Mult b pos) Γ M (.int (i * j)) := ae_bin (ha.val (hb.val (bv_mulU hc ⟨rfl, rfl⟩)))
theorem av_fdivU (ha : aV X a Γ M (.int i)) (hb : aV X b Γ M (.int j)) (hc : CDivU i j) : aV X (.BinOp a .FloorDiv b pos) Γ M (.int (i / j)) := ae_bin (ha.val (hb.val (bv_fdivU hc ⟨rfl, rfl⟩)))
theorem cdw {i j : Int} (h : 0 < j) (hb : j.natAbs < 2 ^ 8000) : CDivU i j := .inr (wide_div h hb (by decide) (by decide))
theorem cp_neL0 {ns : List Int} (v1 : Vw M d1 (.lst (ns.map .int))) (hu : X.A.units + 64 < cLine) : CP X .NotEq M d1 (.lst []) (ns ≠ []) := cp_neL (ms := []) v1 (.self _) hu
end
end Ab
namespace K54
open PySem L2 Ab Sm
/-! ### the law's draws -/
def stC (x t y : Int) : Cell := .lst [.int x, .int t, .int y]
/-- the state's cell stands at place i; its count is at most N -/
def St (M : Mem) (i : Nat) (a : Addr) (N : Nat) : Prop := ∃ x t y, M[i]? = some (a, stC x t y) ∧ 0 ≤ t ∧ t ≤ (N : Int)
/-- nothing but the state has changed, by c draws at most -/
def Dw (i : Nat) (a : Addr) (c : Nat) (M M' : Mem) : Prop := ∃ x t y x' t' y', M[i]? = some (a, stC x t y) ∧ M' = M.set i (a, stC x' t' y') ∧ (0 ≤ t → 0 ≤ t') ∧ t' ≤ t + (c : Int)
theorem stC_inj {x t y x' t' y' : Int} (h : stC x t y = stC x' t' y') : x = x' ∧ t = t' ∧ y = y' := by
  unfold stC at h
  injection h with h
  injection h with h
  injection h with h1 h
  injection h with h2 h
  injection h with h3 _
  injection h1 with h1
  injection h2 with h2
  injection h3 with h3
  exact ⟨h1, h2, h3⟩
theorem Dw.trans {M M' M'' : Mem} {i : Nat} {a : Addr} {c e : Nat} (d : Dw i a c M M') (d' : Dw i a e M' M'') : Dw i a (c + e) M M'' := by
  obtain ⟨x1, t1, y1, x2, t2, y2, hm1, rfl, g0, g1⟩ := d
  obtain ⟨x3, t3, y3, x4, t4, y4, hm3, rfl, g2, g3⟩ := d'
  rw [List.getElem?_set_self (List.getElem?_eq_some_iff.mp hm1).1] at hm3
  obtain ⟨_, rfl, _⟩ := stC_inj (Prod.mk.inj (Option.some.inj hm3)).2
  exact ⟨x1, t1, y1, x4, t4, y4, hm1, by rw [List.set_set], fun h => g2 (g0 h), by omega⟩
theorem Dw.mono {M M' : Mem} {i : Nat} {a : Addr} {c e : Nat} (d : Dw i a c M M') (h : c ≤ e) : Dw i a e M M' := by
  obtain ⟨x1, t1, y1, x2, t2, y2, hm1, e1, g0, g1⟩ := d
  exact ⟨x1, t1, y1, x2, t2, y2, hm1, e1, g0, by omega⟩
theorem St.refl {M : Mem} {i : Nat} {a : Addr} {N : Nat} (h : St M i a N) : Dw i a 0 M M := by
  obtain ⟨x, t, y, h, h0, h1⟩ := h
  refine ⟨x, t, y, x, t, y, h, ?_, fun h => h, by omega⟩
  apply List.ext_getElem?
  intro j
  by_cases hij : i = j
  · subst hij
    rw [List.getElem?_set_self (List.getElem?_eq_some_iff.mp h).1, h]
  · rw [List.getElem?_set_ne hij]
theorem St.cons {M : Mem} {i : Nat} {a : Addr} {N : Nat} {c : Addr × Cell} (h : St M i a N) : St (c :: M) (i + 1) a N := h
theorem Dw.cons {M M' : Mem} {i : Nat} {a : Addr} {e : Nat} {c : Addr × Cell} (h : Dw (i + 1) a e (c :: M) M') : ∃ M'', M' = c :: M'' ∧ Dw i a e M M'' := by
  obtain ⟨x1, t1, y1, x2, t2, y2, hm1, rfl, g⟩ := h
  exact ⟨_, rfl, x1, t1, y1, x2, t2, y2, hm1, rfl, g⟩
end K54
namespace K54
open PySem L2 Ab Sm
def sm (v : Int) : Prop := 0 ≤ v ∧ v < 100000
section
variable {P : Program} {w : World} {K : PySem.W.Frag} {mg : Str → Option Value} {base : Heap} {k : Nat} {f C : Addr}
/-! ### _law_sequence -/
structure Seq (lo : Int) (s : Stm) : Prop where
  l1 : s.1.length ≤ 5
  l2 : s.2.length ∣ 6
  ne : s.2 ≠ []
  a1 : ∀ v ∈ s.1, sm v
  a2 : ∀ v ∈ s.2, sm v
  lo : lo ≤ item s 0
/-! ### _law_indices -/
end
end K54
namespace K54
open PySem L2 Ab Sm
/-! ### what combinations keep -/
structure Bs (b : Int) (S : Sc) : Prop where
  g : GoodS S
  p1 : P6 S.sp
  p2 : P6 S.lv
  b1 : ∀ i, item S.sp i ≤ b
  b2 : ∀ i, item S.lv i ≤ b
theorem Bs.n1 {b : Int} {S : Sc} (h : Bs b S) (i : Nat) : 0 ≤ item S.sp i := (h.g.ls.item i).1
theorem Bs.n2 {b : Int} {S : Sc} (h : Bs b S) (i : Nat) : 0 ≤ item S.lv i := (h.g.ll.item i).1
theorem Bs.mono {b c : Int} {S : Sc} (h : Bs b S) (hc : b ≤ c) : Bs c S := ⟨h.g, h.p1, h.p2, fun i => Int.le_trans (h.b1 i) hc, fun i => Int.le_trans (h.b2 i) hc⟩
/-! ### the methods, as the law calls them -/
section
variable {P : Program} {w : World} {K : PySem.W.Frag} {mg : Str → Option Value} {base : Heap} {k : Nat} {f C : Addr}
/-! ### _law_columns, _law_items_right -/
/-- the three combinations of Ss -/
structure Three (Ss : List Sc) (A L H : Sc) : Prop where
  ne : Ss ≠ []
  ln : Ss.length ≤ 4
  bs : ∀ S ∈ Ss, Bs 99999 S
  ar : ∀ S ∈ Ss, ∀ S' ∈ Ss, S.a = S'.a
  gA : GoodS A
  gL : GoodS L
  gH : GoodS H
  aA : ∀ S ∈ Ss, A.a = S.a
  aL : ∀ S ∈ Ss, L.a = S.a
  aH : ∀ S ∈ Ss, H.a = S.a
  sA : ∀ i, item A.sp i = (Ss.map fun S => item S.sp i).sum
  lA : ∀ i, item A.lv i = (Ss.map fun S => item S.lv i).sum
  sL : ∀ i, item L.sp i = minL (Ss.map fun S => item S.sp i)
  lL : ∀ i, item L.lv i = minL (Ss.map fun S => item S.lv i)
  sH : ∀ i, item H.sp i = maxL (Ss.map fun S => item S.sp i)
  lH : ∀ i, item H.lv i = maxL (Ss.map fun S => item S.lv i)
end
end K54
namespace K54
open PySem L2 Ab Sm
theorem sum_app {xs : List Int} {x : Int} : (xs ++ [x]).sum = xs.sum + x := by simp
theorem op_rot {wd : Wd} {x : Int} {xs : List Int} : opV wd (x :: xs) = opV wd (xs ++ [x]) := by
  cases wd with
  | sum =>
    show (x :: xs).sum = (xs ++ [x]).sum
    rw [sum_app, List.sum_cons]
    omega
  | least =>
    obtain ⟨a1, a2⟩ := minL_spec xs x
    refine min_is (ns := xs ++ [x]) ?_ fun z hz => a2 z ?_
    · rcases List.mem_cons.mp a1 with q | q
      · exact List.mem_append_right _ (List.mem_singleton.mpr q)
      · exact List.mem_append_left _ q
    · rcases List.mem_append.mp hz with q | q
      · exact List.mem_cons_of_mem _ q
      · rw [List.mem_singleton.mp q]
        exact List.mem_cons_self
  | greatest =>
    obtain ⟨a1, a2⟩ := maxL_spec xs x
    refine max_is (ns := xs ++ [x]) ?_ fun z hz => a2 z ?_
    · rcases List.mem_cons.mp a1 with q | q
      · exact List.mem_append_right _ (List.mem_singleton.mpr q)
      · exact List.mem_append_left _ q
    · rcases List.mem_append.mp hz with q | q
      · exact List.mem_cons_of_mem _ q
      · rw [List.mem_singleton.mp q]
        exact List.mem_cons_self
/-- two combinations of the same schedules, in another order -/
theorem Three.same {Ss : List Sc} {T : Sc} {A L H A' L' H' : Sc} (h : Three (Ss ++ [T]) A L H) (h' : Three (T :: Ss) A' L' H') : A = A' ∧ L = L' ∧ H = H' := by
  have m1 : T ∈ Ss ++ [T] := List.mem_append_right _ List.mem_cons_self
  have m2 : T ∈ T :: Ss := List.mem_cons_self
  refine ⟨h.gA.ext h'.gA ((h.aA T m1).trans (h'.aA T m2).symm) (fun i => ?_) fun i => ?_, h.gL.ext h'.gL ((h.aL T m1).trans (h'.aL T m2).symm) (fun i => ?_) fun i => ?_, h.gH.ext h'.gH ((h.aH T m1).trans (h'.aH T m2).symm) (fun i => ?_) fun i => ?_⟩
  · rw [h.sA, h'.sA, List.map_append]
    exact (op_rot (wd := .sum)).symm
  · rw [h.lA, h'.lA, List.map_append]
    exact (op_rot (wd := .sum)).symm
  · rw [h.sL, h'.sL, List.map_append]
    exact (op_rot (wd := .least)).symm
  · rw [h.lL, h'.lL, List.map_append]
    exact (op_rot (wd := .least)).symm
  · rw [h.sH, h'.sH, List.map_append]
    exact (op_rot (wd := .greatest)).symm
  · rw [h.lH, h'.lH, List.map_append]
    exact (op_rot (wd := .greatest)).symm
theorem Three.one {S : Sc} (h : Bs 99999 S) : Three [S] S S S := by
  have ar : ∀ T ∈ [S], ∀ T' ∈ [S], T.a = T'.a := fun T hT T' hT' => by rw [List.mem_singleton.mp hT, List.mem_singleton.mp hT']
  have a1 : ∀ T ∈ [S], S.a = T.a := fun T hT => by rw [List.mem_singleton.mp hT]
  exact ⟨List.cons_ne_nil _ _, by simp, fun T hT => by rw [List.mem_singleton.mp hT]; exact h, ar, h.g, h.g, h.g, a1, a1, a1, fun i => by simp, fun i => by simp, fun i => rfl, fun i => rfl, fun i => rfl, fun i => rfl⟩
section
variable {P : Program} {w : World} {K : PySem.W.Frag} {mg : Str → Option Value} {base : Heap} {k : Nat} {f C : Addr}
abbrev OwnS (P : Program) (w : World) (K : PySem.W.Frag) (mg : Str → Option Value) (base : Heap) (C fq : Addr) : Prop := OwnE P w K mg base 1 C fq goodF relS
end
end K54
namespace Sm
/-! ### the place of a leaf: b leaves stand before it -/
def smN (f : Nat → Int) : Nat → Int
  | 0 => 0
  | n + 1 => smN f n + f n
theorem smN_congr {f g : Nat → Int} {n : Nat} (h : ∀ j, j < n → f j = g j) : smN f n = smN g n := by
  induction n with
  | zero => rfl
  | succ n ih => rw [smN, smN, ih fun j hj => h j (by omega), h n (by omega)]
theorem smN_add {f g : Nat → Int} {n : Nat} : smN (fun j => f j + g j) n = smN f n + smN g n := by
  induction n with
  | zero => rfl
  | succ n ih => rw [smN, smN, smN, ih]; omega
theorem smN_le {f g : Nat → Int} {n : Nat} (h : ∀ j, j < n → f j ≤ g j) : smN f n ≤ smN g n := by
  induction n with
  | zero => exact Int.le_refl _
  | succ n ih =>
    have h1 := ih fun j hj => h j (by omega)
    have h2 := h n (by omega)
    rw [smN, smN]
    omega
theorem smN_ext {f : Nat → Int} {n m : Nat} (hm : n ≤ m) (h : ∀ j, n ≤ j → f j = 0) : smN f m = smN f n := by
  induction m with
  | zero =>
    have : n = 0 := by omega
    rw [this]
  | succ m ih =>
    rcases Nat.lt_or_ge m n with z | z
    · have : n = m + 1 := by omega
      rw [this]
    · rw [smN, ih z, h m z, Int.add_zero]
theorem smN_head {f : Nat → Int} {n : Nat} : smN f (n + 1) = f 0 + smN (fun j => f (j + 1)) n := by
  induction n with
  | zero => simp [smN]
  | succ n ih => rw [smN, ih, smN]; omega
def plT (k : Nat) (s l : Nat → Int) (b h : Nat) : Int := (if k ^ h ≤ b then s (h + 1) else 0) + l (h + 1) * ((b / k ^ (h + 1) : Nat) : Int)
def place (k : Nat) (s l : Nat → Int) (b : Nat) : Int := s 0 + (b : Int) * l 0 + smN (plT k s l b) b
theorem lt_pow {k : Nat} (hk : 2 ≤ k) (b : Nat) : b < k ^ b := Nat.lt_of_lt_of_le Nat.lt_two_pow_self (Nat.pow_le_pow_left hk b)
theorem plT_zero {k : Nat} {s l : Nat → Int} {b h : Nat} (hb : b < k ^ h) (hk : 2 ≤ k) : plT k s l b h = 0 := by
  have h2 : b < k ^ (h + 1) := Nat.lt_of_lt_of_le hb (Nat.pow_le_pow_right (by omega) (by omega))
  rw [plT, if_neg (by omega), Nat.div_eq_of_lt h2]
  simp
theorem place_N {k : Nat} {s l : Nat → Int} {b N : Nat} (hk : 2 ≤ k) (hN : b < k ^ N) : place k s l b = s 0 + (b : Int) * l 0 + smN (plT k s l b) N := by
  have key : ∀ m, b < k ^ m → ∀ j, m ≤ j → plT k s l b j = 0 := fun m hm j hj => plT_zero (Nat.lt_of_lt_of_le hm (Nat.pow_le_pow_right (by omega) hj)) hk
  rw [place]
  congr 1
  rcases Nat.le_total N b with z | z
  · exact smN_ext z (key N hN)
  · exact (smN_ext z (key b (lt_pow hk b))).symm
theorem place_zero {k : Nat} {s l : Nat → Int} : place k s l 0 = s 0 := by simp [place, smN]
/-! ### leaf by leaf -/
end Sm
namespace K54
open PySem L2 Ab Sm
section
variable {P : Program} {w : World} {K : PySem.W.Frag} {mg : Str → Option Value} {base : Heap} {k : Nat} {f C : Addr}
/-! ### properties -/
def aSpi (C : Addr) : ASp := fun ds M R => ∃ (S : Sc), ds = [scV C S] ∧ R (stV S.sp) M
def aLev (C : Addr) : ASp := fun ds M R => ∃ (S : Sc), ds = [scV C S] ∧ R (stV S.lv) M
theorem b_spine (T : Rs K mg C) : BodyOk P w K mg base k f n_Schedule_spine "Schedule.spine" (defScope c_Schedule_spine) (defBody c_Schedule_spine) (aSpi C) := by
  rintro cdv A outer s0 H E hr ds M R ⟨S, rfl, hp⟩
  exact as_one (as_ret ((av_s T (v_ 0)).val (.ok hp)))
theorem b_levels (T : Rs K mg C) : BodyOk P w K mg base k f n_Schedule_levels "Schedule.levels" (defScope c_Schedule_levels) (defBody c_Schedule_levels) (aLev C) := by
  rintro cdv A outer s0 H E hr ds M R ⟨S, rfl, hp⟩
  exact as_one (as_ret ((av_l T (v_ 0)).val (.ok hp)))
structure PrA (P : Program) (w : World) (K : PySem.W.Frag) (mg : Str → Option Value) (base : Heap) (C : Addr) : Prop where
  ex : ∃ p g, PropOf K C "arity" p g ∧ FX P w K mg base 1 g fun ds _ => aAri C ds
structure PrS (P : Program) (w : World) (K : PySem.W.Frag) (mg : Str → Option Value) (base : Heap) (C : Addr) : Prop where
  ex : ∃ p g, PropOf K C "spine" p g ∧ FX P w K mg base 1 g fun ds _ => aSpi C ds
structure PrL (P : Program) (w : World) (K : PySem.W.Frag) (mg : Str → Option Value) (base : Heap) (C : Addr) : Prop where
  ex : ∃ p g, PropOf K C "levels" p g ∧ FX P w K mg base 1 g fun ds _ => aLev C ds
theorem av_arity {X : Cx} {Γ : Gam} {M : Mem} {o : Expr} {pos : Pos} {m : Nat} {S : Sc} (T : Rs X.K X.mg C) (Q : PrA X.prog X.w X.K X.mg X.base C) (hr : Rm m X.A) (hm : 2 ≤ m) (ho : aV X o Γ M (scV C S)) (hb : attributeBase o "arity" X.env (eval o X.env) = eval o X.env := by rfl) : aV X (.Attribute o "arity" pos) Γ M (.int S.a) := by
  obtain ⟨p, g, hp, F⟩ := Q.ex
  exact ae_prop T.cl hp F (hr.mono hm) ho (.im _) ⟨S, rfl, rfl, rfl⟩ hb
/-! ### is_prunable, pruned -/
structure LmE (mg : Str → Option Value) : Prop where
  FRONT_LIMIT : ∃ t, mg "FRONT_LIMIT" = some (.int 12 t)
  LOOP_LIMIT : ∃ t, mg "LOOP_LIMIT" = some (.int 6 t)
  LABEL_LIMIT : ∃ t, mg "LABEL_LIMIT" = some (.int 1000000 t)
  ARITY_LIMIT : ∃ t, mg "ARITY_LIMIT" = some (.int 9 t)
end
end K54
namespace K54
open PySem L2 Ab Sm
theorem Seq.lim {lo : Int} {s : Stm} (h : Seq lo s) : Lim s := ⟨by have := h.l1; omega, Nat.le_of_dvd (by decide) h.l2, h.ne, fun v hv => ⟨(h.a1 v hv).1, by have := (h.a1 v hv).2; omega⟩, fun v hv => ⟨(h.a2 v hv).1, by have := (h.a2 v hv).2; omega⟩⟩
end K54
namespace Ab
open PySem PySem.Spec PyProof.Rows L2
section
variable {X : Cx} {Γ : Gam} {M : Mem} {P : Val → Mem → Prop} {e a b c o : Expr} {es : List Expr} {pos p1 p2 apos kpos : Pos} {k : AK} {d d1 d2 d3 : Val} {i j l : Int} {x y m f : Str} {n : Nat} {C : Addr} {p q : Prop}
/-- loops at a def's end: slots are forgotten, cells are not -/
abbrev Wl (I : Gam → Mem → Prop) : Gam → Mem → Prop := fun Γ M => ∃ Γ', I Γ' M ∧ Le Γ' Γ
theorem as_whileL {body : List Stmt} (I : Nat → Gam → Mem → Prop) (n : Nat) (hp : PassesOwn (model X.prog X.w) X.A X.env X.xe) (h0 : Wl (I n) Γ M)
    (hs : ∀ n Γ M, I n Γ M → ∃ p, TP X c Γ M p ∧ (p → aSs X body Γ M { k with nx := Wl fun Γ' M' => ∃ m, m < n ∧ I m Γ' M', ct := Wl fun Γ' M' => ∃ m, m < n ∧ I m Γ' M', bk := k.nx }) ∧ (¬ p → k.nx Γ M))
    (hk : ∀ Γ Γ' M, Le Γ' Γ → k.nx Γ' M → k.nx Γ M := by intro _ _ _ l h; first | exact h | exact as_le l h) : aS X (.While c body [] pos) Γ M k :=
  as_while (fun n => Wl (I n)) n hp h0 fun n Γ' M' ⟨Γ0, h, l⟩ => by
    obtain ⟨p, ⟨b, hb, i⟩, h1, h2⟩ := hs n Γ0 M' h
    intro Hi H σ ok en Q q
    refine hb Hi H σ ok (l.env en) Q fun b' M1 Hi' H' hh => ?_
    obtain ⟨rfl, rfl⟩ := hh
    refine q _ _ Hi' H' ⟨fun z => ?_, fun z => hk _ _ _ l (h2 fun y => by rw [i.mpr y] at z; cases z)⟩
    refine as_le l ((h1 (i.mp z)).mono ?_ (fun _ _ h => h) (fun _ _ h => h) ?_)
    · rintro Γ5 M5 ⟨Γ6, ⟨m, hm, h6⟩, l6⟩
      exact ⟨m, hm, Γ6, h6, l6⟩
    · rintro Γ5 M5 ⟨Γ6, ⟨m, hm, h6⟩, l6⟩
      exact ⟨m, hm, Γ6, h6, l6⟩
/-- o.m(), o.m(e), o.m(e, e2) by a promise that hides the address -/
theorem ae_mt0 {n q : Nat} {C : Addr} {m : Str} {s : ASp} {fs : List (Str × Val)} {pl : Sem Bool} (c : Cls X.K C) (F : ∃ f, Meth X.K C m f ∧ FX X.prog X.w X.K X.mg X.base n f fun ds _ => s ds) (hr : Rm q X.A) (hq : n ≤ q) (ho : aV X o Γ M d) (hob : Ob M C d fs) (h : s [d] M P) (hl : fs.lookup m = none := by rfl)
    (ht : eval (.Call (.Attribute o m apos) [] [] pos) X.env = (do
      let ov ← eval o X.env
      standAt apos.atName
      let (f, first) ← holding [ov] (getMethod ov m pl)
      callWith pos f first (backTo pos (starEach [] X.env)) (backToKw pos (keywordEach [] X.env))) := by rfl) : aE X (.Call (.Attribute o m apos) [] [] pos) Γ M P := by
  obtain ⟨f, mt, F⟩ := F
  exact ae_meth0 c mt F (hr.mono hq) ho hob hl (ak_nil ⟨rfl, h⟩) rfl rfl rfl ht
theorem ae_mt1 {n q : Nat} {C : Addr} {m : Str} {s : ASp} {fs : List (Str × Val)} {pl : Sem Bool} (c : Cls X.K C) (F : ∃ f, Meth X.K C m f ∧ FX X.prog X.w X.K X.mg X.base n f fun ds _ => s ds) (hr : Rm q X.A) (hq : n ≤ q) (ho : aV X o Γ M d) (hob : Ob M C d fs) (h : aE X e Γ M fun x M1 => s [d, x] M1 P) (hl : fs.lookup m = none := by rfl)
    (hst : starEach [e] X.env = (false, eval e X.env) :: starEach [] X.env := by rfl)
    (ht : eval (.Call (.Attribute o m apos) [e] [] pos) X.env = (do
      let ov ← eval o X.env
      standAt apos.atName
      let (f, first) ← holding [ov] (getMethod ov m pl)
      callWith pos f first (backTo pos (starEach [e] X.env)) (backToKw pos (keywordEach [] X.env))) := by rfl) : aE X (.Call (.Attribute o m apos) [e] [] pos) Γ M P := by
  obtain ⟨f, mt, F⟩ := F
  exact ae_meth c mt F (hr.mono hq) ho hob hl (aa_cons (h.mono fun x M1 hx => aa_nil (ak_nil ⟨rfl, hx⟩)) hst) rfl rfl hst (by rw [hst]; rfl) ht
theorem ae_mt2 {n q : Nat} {C : Addr} {m : Str} {s : ASp} {fs : List (Str × Val)} {pl : Sem Bool} (c : Cls X.K C) (F : ∃ f, Meth X.K C m f ∧ FX X.prog X.w X.K X.mg X.base n f fun ds _ => s ds) (hr : Rm q X.A) (hq : n ≤ q) (ho : aV X o Γ M d) (hob : Ob M C d fs) (h : aE X e Γ M fun x M1 => aE X b Γ M1 fun y M2 => s [d, x, y] M2 P) (hl : fs.lookup m = none := by rfl)
    (hst : starEach [e, b] X.env = (false, eval e X.env) :: starEach [b] X.env := by rfl) (hst2 : starEach [b] X.env = (false, eval b X.env) :: starEach [] X.env := by rfl)
    (ht : eval (.Call (.Attribute o m apos) [e, b] [] pos) X.env = (do
      let ov ← eval o X.env
      standAt apos.atName
      let (f, first) ← holding [ov] (getMethod ov m pl)
      callWith pos f first (backTo pos (starEach [e, b] X.env)) (backToKw pos (keywordEach [] X.env))) := by rfl) : aE X (.Call (.Attribute o m apos) [e, b] [] pos) Γ M P := by
  obtain ⟨f, mt, F⟩ := F
  exact ae_meth c mt F (hr.mono hq) ho hob hl (aa_cons (h.mono fun x M1 hx => aa_cons (hx.mono fun y M2 hy => aa_nil (ak_nil ⟨rfl, hy⟩)) hst2) hst) rfl rfl hst (by rw [hst, hst2]; rfl) ht
/-- x = y = e -/
theorem as_asg2 {t1 t2 : Expr} (he : aV X e Γ M d) (h : aG X t1 d Γ M fun Γ1 M1 => aG X t2 d Γ1 M1 k.nx) (ha : (assignEach [t1, t2] X.env).map (·.2) = [assign t1 X.env, assign t2 X.env] := by rfl) (hw : swappedStores [t1, t2] e X.env = pure none := by rfl) : aS X (.Assign [t1, t2] e pos) Γ M k := fun Hi H σ ok en D q => by
  refine ⟨_, ps_asg2 pe_we pg_wg pg_wg ha hw, ?_⟩
  refine he Hi H σ ok en _ fun x M1 v Hi1 H1 h1 s1 ok1 r1 => ?_
  obtain ⟨rfl, rfl⟩ := h1
  refine h Hi1 H1 σ v ok1 (en.mono s1) r1 _ fun Γ2 M2 σ2 Hi2 H2 h2 s2 ok2 en2 => ?_
  exact h2 Hi2 H2 σ2 v ok2 en2 (r1.mono s2) _ fun Γ3 M3 σ3 Hi3 H3 h3 s3 ok3 en3 => q.nx _ _ _ Hi3 H3 h3 ((s1.trans s2).trans s3) ok3 en3
/-- cells in another order -/
theorem as_perm {M' : Mem} {s : List Stmt} (l : M'.Perm M) (h : aSs X s Γ M' k) : aSs X s Γ M k := fun Hi H σ ok en D q => h Hi H σ (ok.perm l) en D q
theorem aj_tup {tg : Expr} {P : Nat → (Nat → Val) → Mem → Prop} (ha : aE X a Γ M fun d M' => ∃ xs, d = .tup xs ∧ P xs.length (fun i => xs.getD i .non) M') : aJ X tg a Γ M P := fun Hi H σ ok en R' q => by
  refine ⟨_, pi_tup pe_we, ?_⟩
  refine ha Hi H σ ok en _ fun d M1 v Hi1 H1 h1 s1 ok1 r1 => ?_
  obtain ⟨xs, rfl, hp⟩ := h1
  cases r1 with
  | @tup p ys _ hq ra =>
    refine ⟨p, rfl, ⟨ys, sameT ok1.im hq⟩, q _ xs.length _ M1 Hi1 H1 hp s1 ok1 ?_⟩
    rw [ra.length]
    refine walk_tup.mono (fun H' hG => ?_) fun i H' v H'' hi hG hy Hi' M' s2 ok2 => ?_
    · obtain ⟨Hi', M', s2, ok2⟩ := hG
      exact sameT ok2.im (sameT s2 hq)
    · obtain ⟨rfl, hv⟩ := hy
      exact ⟨Hi', Same.refl _, ok2, (Sq.at ra hv).mono s2⟩
/-- o.NAME, a constant of o's class -/
theorem av_con {u : Value} {v : V} {fs : List (Str × Val)} (c : Cls X.K C) (hc : Con X.K C f v u) (ha : aV X a Γ M d) (ho : Ob M C d fs) (hl : fs.lookup f = none) (rep : ∀ H, Rep X.K H d1 v) (hb : attributeBase a f X.env (eval a X.env) = eval a X.env := by rfl) : aV X (.Attribute a f pos) Γ M d1 := fun Hi H σ ok en Q q => by
  refine ⟨_, pe_con pe_we hb, ?_⟩
  refine ha Hi H σ ok en _ fun x M1 w Hi1 H1 h1 s1 ok1 r1 => ?_
  obtain ⟨rfl, rfl⟩ := h1
  obtain ⟨p, dx, gs, rfl, hq, ra⟩ := ho.rep ok1 r1
  exact ⟨p, C, dx, gs, v, u, rfl, hq, c, hc, ra.none hl, q _ _ v Hi1 H1 ⟨rfl, rfl⟩ s1 ok1 (rep _)⟩
end
/-- the last of a list of ints -/
theorem atI_lastE {g : List Int} {n : Nat} {v : Int} (h : g.length = n + 1) (hv : g.getD n 0 = v) : atI (g.map Val.int) (-1) = some (.int v) := by
  have hne : g ≠ [] := fun z => by rw [z] at h; simp at h
  rw [atI_last hne, h, Nat.add_sub_cancel, hv]
section
open PySem
variable {K : PySem.W.Frag} {x qual : Str} {st : Stmt} {f : Addr} {oc : Value} {od an : Option Addr} {doc pm cdv ct : Value} {osl : Array (Option Value)}
theorem fd_kw1 {D : Addr} {k1 : Str} {v1 : V} {u1 : Value} (l : K.lookup f = some ⟨oc, od, .func (PySem.W.fnOf x qual (defArgs st) (defBody st) (defScope st) .none (.ref D) doc pm an cdv ct), osl⟩)
    (c : PySem.W.codeIn K cdv qual = true) (k : PySem.W.keepIn K (.ref f) = true) (n1 : PySem.W.nsIn K D k1 = some (some u1)) (r1 : RelV v1 u1) :
    FunD K x qual (defArgs st) (defBody st) (defScope st) [] [(k1, v1)] f (PySem.W.fnOf x qual (defArgs st) (defBody st) (defScope st) .none (.ref D) doc pm an cdv ct) :=
  ⟨⟨oc, od, .none, .ref D, doc, pm, an, cdv, ct, osl, rfl, l, c, .inl ⟨rfl, rfl⟩, .inr ⟨D, rfl, fun q hq => by
    rcases List.mem_cons.mp hq with e | hq
    · subst e
      exact ⟨u1, n1, r1⟩
    · cases hq⟩⟩, k⟩
end
end Ab
namespace Sm
/-! ### counting nodes of one height: la 0 is the size of the whole subtree below such a node, la j (j > 0) the labels of a node j higher; sp j the spine items above; own the node's own labels; a0 the first place; eh the end of the stage of the spine node -/
structure Ct where
  k : Nat
  la : Nat → Int
  sp : Nat → Int
  own : Int
  a0 : Int
  eh : Int
structure CtOk (c : Ct) : Prop where
  k2 : 2 ≤ c.k
  la : ∀ j, 0 ≤ c.la j
  l0 : 0 < c.la 0
  sp : ∀ j, 0 ≤ c.sp j
  o0 : 0 ≤ c.own
  o1 : c.own ≤ c.la 0
  a0 : 0 ≤ c.a0
  ae : c.a0 ≤ c.eh
def zz (c : Ct) : Nat → Int
  | 0 => c.la 0
  | t + 1 => c.la (t + 1) + c.k * zz c t
def en (c : Ct) : Nat → Int
  | 0 => c.eh
  | t + 1 => en c t + c.sp t + (c.k - 1) * zz c t
/-- quotients up to t -/
def fq (c : Ct) (t i : Nat) : Int := smN (fun j => c.la j * ((i / c.k ^ j : Nat) : Int)) (t + 1)
def qq (c : Ct) (t i : Nat) : Int := c.own + smN (fun j => c.la (j + 1)) t + fq c t i
/-- the place of the node with b nodes before it -/
def pp (c : Ct) (b : Nat) : Int := if b = 0 then c.a0 else c.eh - c.la 0 + c.own + smN (fun j => if c.k ^ j ≤ b then c.sp j else 0) b + fq c b b
section
variable {c : Ct}
theorem zz_pos (h : CtOk c) : ∀ t, 0 < zz c t
  | 0 => h.l0
  | t + 1 => by
    have h1 := zz_pos h t
    have h2 := h.la (t + 1)
    have h3 : (0 : Int) < c.k * zz c t := Int.mul_pos (by have := h.k2; omega) h1
    rw [zz]
    omega
theorem fq_digit (h : CtOk c) {t d i : Nat} (hi : i < c.k ^ t) : fq c t (d * c.k ^ t + i) = d * zz c t + fq c t i := by
  have hk := h.k2
  have key : ∀ s, s ≤ t → smN (fun j => c.la j * (((d * c.k ^ t + i) / c.k ^ j : Nat) : Int)) (s + 1) = d * (c.k : Int) ^ (t - s) * zz c s + smN (fun j => c.la j * ((i / c.k ^ j : Nat) : Int)) (s + 1) := by
    intro s
    induction s with
    | zero =>
      intro _
      simp only [smN, zz, Nat.pow_zero, Nat.div_one, Nat.sub_zero]
      rw [Int.natCast_add, Int.natCast_mul, Int.natCast_pow, Int.mul_add, Int.mul_comm (c.la 0) ((d : Int) * _)]
      omega
    | succ s ih =>
      intro hs
      rw [smN, ih (by omega), smN.eq_def _ (s + 1 + 1)]
      simp only
      have e1 : (d * c.k ^ t + i) / c.k ^ (s + 1) = d * c.k ^ (t - (s + 1)) + i / c.k ^ (s + 1) := by
        have : d * c.k ^ t = c.k ^ (s + 1) * (d * c.k ^ (t - (s + 1))) := by
          rw [Nat.mul_left_comm, ← Nat.pow_add, show s + 1 + (t - (s + 1)) = t by omega]
        rw [this, Nat.mul_add_div (Nat.pow_pos (by omega))]
      have e2 : (c.k : Int) ^ (t - s) = c.k ^ (t - (s + 1)) * c.k := by
        rw [show t - s = t - (s + 1) + 1 by omega, Int.pow_succ]
      rw [e1, zz, e2, Int.natCast_add, Int.natCast_mul, Int.natCast_pow]
      generalize (c.k : Int) ^ (t - (s + 1)) = K
      generalize ((i / c.k ^ (s + 1) : Nat) : Int) = I
      generalize smN (fun j => c.la j * ((i / c.k ^ j : Nat) : Int)) (s + 1) = Z
      rw [Int.mul_add, Int.mul_add, ← Int.mul_assoc (d : Int) K (c.k : Int), Int.mul_assoc ((d : Int) * K) (c.k : Int) (zz c s), Int.mul_comm (c.la (s + 1)) ((d : Int) * K)]
      omega
  have := key t (Nat.le_refl _)
  rw [Nat.sub_self, Int.pow_zero, Int.mul_one] at this
  exact this
theorem fq_succ {t i : Nat} (hi : i < c.k ^ (t + 1)) : fq c (t + 1) i = fq c t i := by
  unfold fq
  rw [smN, Nat.div_eq_of_lt hi]
  simp
theorem qq_digit (h : CtOk c) {t d i : Nat} (hd : d < c.k) (hi : i < c.k ^ t) : qq c (t + 1) (d * c.k ^ t + i) = c.la (t + 1) + d * zz c t + qq c t i := by
  have hlt : d * c.k ^ t + i < c.k ^ (t + 1) := by
    rw [Nat.pow_succ, Nat.mul_comm (c.k ^ t)]
    have : (d + 1) * c.k ^ t ≤ c.k * c.k ^ t := Nat.mul_le_mul_right _ hd
    rw [Nat.succ_mul] at this
    omega
  unfold qq
  rw [fq_succ hlt, fq_digit h hi, smN]
  omega
theorem fq_nn (h : CtOk c) (t i : Nat) : 0 ≤ fq c t i := by
  have : smN (fun _ => 0) (t + 1) ≤ fq c t i := smN_le fun j _ => Int.mul_nonneg (h.la j) (Int.natCast_nonneg _)
  have e : ∀ n, smN (fun _ => 0) n = 0 := fun n => by
    induction n with
    | zero => rfl
    | succ n ih => rw [smN, ih]; rfl
  rw [e] at this
  exact this
theorem sm_nn {f : Nat → Int} (h : ∀ j, 0 ≤ f j) : ∀ n, 0 ≤ smN f n
  | 0 => Int.le_refl _
  | n + 1 => by
    have := sm_nn h n
    have := h n
    rw [smN]
    omega
theorem qq_nn (h : CtOk c) (t i : Nat) : 0 ≤ qq c t i := by
  have h1 := h.o0
  have h2 := fq_nn h t i
  have h3 := sm_nn (f := fun j => c.la (j + 1)) (fun j => h.la _) t
  unfold qq
  omega
theorem qq_le (h : CtOk c) : ∀ (t i : Nat), i < c.k ^ t → qq c t i ≤ zz c t
  | 0, i, hi => by
    have : i = 0 := by simpa using hi
    subst this
    have := h.o1
    simp [qq, fq, smN, zz]
    omega
  | t + 1, i, hi => by
    have hp : 0 < c.k ^ t := Nat.pow_pos (by have := h.k2; omega)
    have e : i = (i / c.k ^ t) * c.k ^ t + i % c.k ^ t := by rw [Nat.mul_comm]; exact (Nat.div_add_mod i _).symm
    have hd : i / c.k ^ t < c.k := Nat.div_lt_of_lt_mul (by rw [← Nat.pow_succ]; exact hi)
    have hm : i % c.k ^ t < c.k ^ t := Nat.mod_lt _ hp
    have ih := qq_le h t _ hm
    rw [e, qq_digit h hd hm, zz]
    have hz := zz_pos h t
    have : ((i / c.k ^ t : Nat) : Int) * zz c t ≤ (c.k - 1) * zz c t := Int.mul_le_mul_of_nonneg_right (by omega) (by omega)
    have e2 : ((c.k : Int) - 1) * zz c t = c.k * zz c t - zz c t := by rw [Int.sub_mul]; omega
    omega
/-- the search inside a whole tree of t steps -/
def ins (c : Ct) : Nat → Int → Int
  | 0, off => if c.own ≤ off then 1 else 0
  | t + 1, off => if off < c.la (t + 1) then 0 else (off - c.la (t + 1)) / zz c t * ((c.k ^ t : Nat) : Int) + ins c t ((off - c.la (t + 1)) % zz c t)
/-- q whole parts and one with v -/
theorem digit_count {k q i d N : Nat} {Z r Q : Int} {v : Int} (hN : 0 < N) (hi : i < N) (hZ : 0 < Z) (r0 : 0 ≤ r) (r1 : r < Z) (Q0 : 0 ≤ Q) (Q1 : Q ≤ Z) (v0 : 0 ≤ v) (v1 : v ≤ N) (hv : (i : Int) < v ↔ Q ≤ r) :
    (((d * N + i : Nat) : Int) < (q : Int) * (N : Int) + v ↔ (d : Int) * Z + Q ≤ (q : Int) * Z + r) := by
  rw [Int.natCast_add, Int.natCast_mul]
  rcases Nat.lt_trichotomy d q with hlt | heq | hgt
  · have e1 : ((d : Int) + 1) * (N : Int) ≤ (q : Int) * (N : Int) := Int.mul_le_mul_of_nonneg_right (by omega) (by omega)
    have e2 : ((d : Int) + 1) * Z ≤ (q : Int) * Z := Int.mul_le_mul_of_nonneg_right (by omega) (by omega)
    rw [Int.add_mul] at e1 e2
    constructor
    · intro _; omega
    · intro _; omega
  · subst heq
    constructor
    · intro h1
      have := hv.mp (by omega)
      omega
    · intro h1
      have := hv.mpr (by omega)
      omega
  · have e1 : ((q : Int) + 1) * (N : Int) ≤ (d : Int) * (N : Int) := Int.mul_le_mul_of_nonneg_right (by omega) (by omega)
    have e2 : ((q : Int) + 1) * Z ≤ (d : Int) * Z := Int.mul_le_mul_of_nonneg_right (by omega) (by omega)
    rw [Int.add_mul] at e1 e2
    constructor
    · intro _; omega
    · intro _; omega
theorem ins_spec (h : CtOk c) : ∀ (t : Nat) (off : Int), 0 ≤ off → off < zz c t → 0 ≤ ins c t off ∧ ins c t off ≤ ((c.k ^ t : Nat) : Int) ∧ ∀ i, i < c.k ^ t → ((i : Int) < ins c t off ↔ qq c t i ≤ off)
  | 0, off, h0, h1 => by
    unfold ins
    refine ⟨by split <;> omega, by rw [Nat.pow_zero]; split <;> omega, fun i hi => ?_⟩
    have : i = 0 := by simpa using hi
    subst this
    have e : qq c 0 0 = c.own := by simp [qq, fq, smN]
    rw [e]
    split <;> omega
  | t + 1, off, h0, h1 => by
    have hk := h.k2
    have hz := zz_pos h t
    have hp : 0 < c.k ^ t := Nat.pow_pos (by omega)
    unfold ins
    by_cases hc : off < c.la (t + 1)
    · rw [if_pos hc]
      refine ⟨by omega, by omega, fun i hi => ?_⟩
      have e : i = (i / c.k ^ t) * c.k ^ t + i % c.k ^ t := by rw [Nat.mul_comm]; exact (Nat.div_add_mod i _).symm
      have hd : i / c.k ^ t < c.k := Nat.div_lt_of_lt_mul (by rw [← Nat.pow_succ]; exact hi)
      have hm : i % c.k ^ t < c.k ^ t := Nat.mod_lt _ hp
      have q0 := qq_nn h t (i % c.k ^ t)
      have : 0 ≤ ((i / c.k ^ t : Nat) : Int) * zz c t := Int.mul_nonneg (Int.natCast_nonneg _) (by omega)
      constructor
      · intro z; omega
      · intro z
        rw [e, qq_digit h hd hm] at z
        omega
    · rw [if_neg hc]
      have o0 : 0 ≤ off - c.la (t + 1) := by omega
      rw [zz] at h1
      have ho : off - c.la (t + 1) < c.k * zz c t := by omega
      have hoff : off = off - c.la (t + 1) + c.la (t + 1) := by omega
      generalize off - c.la (t + 1) = o at *
      have r0 := Int.emod_nonneg o (show zz c t ≠ 0 by omega)
      have r1 := Int.emod_lt_of_pos o hz
      have eo := Int.mul_ediv_add_emod o (zz c t)
      have q0 : 0 ≤ o / zz c t := Int.ediv_nonneg o0 (by omega)
      have q1 : o / zz c t < c.k := Int.ediv_lt_of_lt_mul hz ho
      obtain ⟨q, hq⟩ := Int.eq_ofNat_of_zero_le q0
      rw [hq] at eo q1 ⊢
      obtain ⟨i0, i1, i2⟩ := ins_spec h t (o % zz c t) r0 r1
      refine ⟨?_, ?_, fun i hi => ?_⟩
      · have : 0 ≤ (q : Int) * ((c.k ^ t : Nat) : Int) := Int.mul_nonneg (by omega) (by omega)
        omega
      · have e1 : ((q : Int) + 1) * ((c.k ^ t : Nat) : Int) ≤ (c.k : Int) * ((c.k ^ t : Nat) : Int) := Int.mul_le_mul_of_nonneg_right (by omega) (by omega)
        rw [Int.add_mul] at e1
        rw [Nat.pow_succ, Nat.mul_comm, Int.natCast_mul]
        omega
      · have e : i = (i / c.k ^ t) * c.k ^ t + i % c.k ^ t := by rw [Nat.mul_comm]; exact (Nat.div_add_mod i _).symm
        have hd : i / c.k ^ t < c.k := Nat.div_lt_of_lt_mul (by rw [← Nat.pow_succ]; exact hi)
        have hm : i % c.k ^ t < c.k ^ t := Nat.mod_lt _ hp
        have dc := digit_count (k := c.k) (q := q) (i := i % c.k ^ t) (d := i / c.k ^ t) hp hm hz r0 r1 (qq_nn h t _) (qq_le h t _ hm) i0 i1 (i2 _ hm)
        rw [← e] at dc
        rw [dc]
        have e3 := qq_digit h hd hm
        rw [← e] at e3
        rw [e3, Int.mul_comm (zz c t)] at *
        omega
/-- ends against sizes -/
theorem en_zz (h : CtOk c) : ∀ t, c.eh - c.la 0 + smN c.sp t + zz c t = en c t + smN (fun j => c.la (j + 1)) t
  | 0 => by simp [smN, zz, en]
  | t + 1 => by
    have ih := en_zz h t
    rw [smN, smN, zz, en]
    have : ((c.k : Int) - 1) * zz c t = c.k * zz c t - zz c t := by rw [Int.sub_mul]; omega
    omega
/-- a place by its stage -/
theorem pp_stage (h : CtOk c) {t d i : Nat} (d1 : 1 ≤ d) (hd : d < c.k) (hi : i < c.k ^ t) : pp c (d * c.k ^ t + i) = en c t + c.sp t + ((d : Int) - 1) * zz c t + qq c t i := by
  have hk := h.k2
  have hp : 0 < c.k ^ t := Nat.pow_pos (by omega)
  have hge : c.k ^ t ≤ d * c.k ^ t := Nat.le_mul_of_pos_left _ d1
  have hlt : d * c.k ^ t + i < c.k ^ (t + 1) := by
    rw [Nat.pow_succ, Nat.mul_comm (c.k ^ t)]
    have : (d + 1) * c.k ^ t ≤ c.k * c.k ^ t := Nat.mul_le_mul_right _ hd
    rw [Nat.succ_mul] at this
    omega
  have hb := lt_pow hk (d * c.k ^ t + i)
  unfold pp
  rw [if_neg (by omega)]
  have ht : t < d * c.k ^ t + i := Nat.lt_of_lt_of_le (lt_pow hk t) (by omega)
  have e1 : smN (fun j => if c.k ^ j ≤ d * c.k ^ t + i then c.sp j else 0) (d * c.k ^ t + i) = smN c.sp (t + 1) := by
    rw [smN_ext (n := t + 1) (by omega) fun j hj => if_neg (by
      have := Nat.pow_le_pow_right (n := c.k) (by omega) hj
      omega)]
    exact smN_congr fun j hj => if_pos (Nat.le_trans (Nat.pow_le_pow_right (by omega) (by omega)) (Nat.le_trans hge (by omega)))
  have e2 : fq c (d * c.k ^ t + i) (d * c.k ^ t + i) = fq c t (d * c.k ^ t + i) := by
    unfold fq
    refine smN_ext (by omega) fun j hj => ?_
    have := Nat.pow_le_pow_right (n := c.k) (by omega) hj
    rw [Nat.div_eq_of_lt (by omega)]
    simp
  rw [e1, e2, fq_digit h hi]
  have e3 := en_zz h t
  have e4 : ((d : Int) - 1) * zz c t = d * zz c t - zz c t := by rw [Int.sub_mul]; omega
  rw [smN]
  unfold qq
  omega
theorem en_mono (h : CtOk c) {t u : Nat} (hu : t ≤ u) : en c t ≤ en c u := by
  induction u with
  | zero =>
    have : t = 0 := by omega
    rw [this]
    exact Int.le_refl _
  | succ u ih =>
    rcases Nat.lt_or_ge u t with z | z
    · have : t = u + 1 := by omega
      rw [this]
      exact Int.le_refl _
    · have := ih z
      have h1 := h.sp u
      have h2 : 0 ≤ ((c.k : Int) - 1) * zz c u := Int.mul_nonneg (by have := h.k2; omega) (by have := zz_pos h u; omega)
      rw [en]
      omega
/-- the stage of a node -/
theorem stage_of {k : Nat} (hk : 2 ≤ k) : ∀ {b : Nat}, 0 < b → ∃ t d i, b = d * k ^ t + i ∧ 1 ≤ d ∧ d < k ∧ i < k ^ t := by
  intro b hb
  have : ∃ t, b < k ^ (t + 1) := ⟨b, Nat.lt_of_lt_of_le (lt_pow hk b) (Nat.pow_le_pow_right (by omega) (by omega))⟩
  have key : ∀ N, (b < k ^ (N + 1)) → ∃ t, k ^ t ≤ b ∧ b < k ^ (t + 1) := by
    intro N
    induction N with
    | zero => exact fun h => ⟨0, by rw [Nat.pow_zero]; exact hb, h⟩
    | succ N ih =>
      intro h
      rcases Nat.lt_or_ge b (k ^ (N + 1)) with z | z
      · exact ih z
      · exact ⟨N + 1, z, h⟩
  obtain ⟨N, hN⟩ := this
  obtain ⟨t, h1, h2⟩ := key N hN
  have hp : 0 < k ^ t := Nat.pow_pos (by omega)
  refine ⟨t, b / k ^ t, b % k ^ t, by rw [Nat.mul_comm]; exact (Nat.div_add_mod b _).symm, Nat.div_pos h1 hp, Nat.div_lt_of_lt_mul (by rw [← Nat.pow_succ]; exact h2), Nat.mod_lt _ hp⟩
theorem pp_ge (h : CtOk c) {t d i : Nat} (d1 : 1 ≤ d) (hd : d < c.k) (hi : i < c.k ^ t) : en c t ≤ pp c (d * c.k ^ t + i) ∧ pp c (d * c.k ^ t + i) ≤ en c (t + 1) := by
  rw [pp_stage h d1 hd hi, en]
  have h1 := h.sp t
  have hz := zz_pos h t
  have q0 := qq_nn h t i
  have q1 := qq_le h t i hi
  have e1 : 0 ≤ ((d : Int) - 1) * zz c t := Int.mul_nonneg (by omega) (by omega)
  have e2 : (d : Int) * zz c t ≤ ((c.k : Int) - 1) * zz c t := Int.mul_le_mul_of_nonneg_right (by omega) (by omega)
  have e4 : ((d : Int) - 1) * zz c t = d * zz c t - zz c t := by rw [Int.sub_mul]; omega
  omega
/-- the search as the program does it: t is the least stage with n < en t -/
def cnt (c : Ct) (n : Int) (t : Nat) : Int :=
  if n < c.a0 then 0 else if t = 0 then 1 else if n - en c (t - 1) - c.sp (t - 1) < 0 then ((c.k ^ (t - 1) : Nat) : Int)
  else ((c.k ^ (t - 1) : Nat) : Int) * (1 + (n - en c (t - 1) - c.sp (t - 1)) / zz c (t - 1)) + ins c (t - 1) ((n - en c (t - 1) - c.sp (t - 1)) % zz c (t - 1))
theorem cnt_spec (h : CtOk c) {n : Int} {t : Nat} (h1 : n < en c t) (h0 : t = 0 ∨ en c (t - 1) ≤ n) (b : Nat) : ((b : Int) < cnt c n t ↔ pp c b ≤ n) := by
  have hk := h.k2
  unfold cnt
  have hmin : ∀ b, c.a0 ≤ pp c b := fun b => by
    rcases Nat.eq_zero_or_pos b with z | z
    · rw [z]
      exact Int.le_refl _
    · obtain ⟨u, d, i, rfl, d1, hd, hi⟩ := stage_of hk z
      have := (pp_ge h d1 hd hi).1
      have h2 := en_mono h (Nat.zero_le u)
      have h3 := h.ae
      have : en c 0 = c.eh := rfl
      omega
  by_cases hn : n < c.a0
  · rw [if_pos hn]
    have := hmin b
    constructor
    · intro z; omega
    · intro z; omega
  rw [if_neg hn]
  by_cases ht : t = 0
  · subst ht
    rw [if_pos rfl]
    rcases Nat.eq_zero_or_pos b with z | z
    · subst z
      have : pp c 0 = c.a0 := rfl
      constructor
      · intro _; omega
      · intro _; omega
    · obtain ⟨u, d, i, rfl, d1, hd, hi⟩ := stage_of hk z
      have h2 := (pp_ge h d1 hd hi).1
      have h3 := en_mono h (Nat.zero_le u)
      constructor
      · intro z; omega
      · intro z; omega
  rw [if_neg ht]
  obtain ⟨s, rfl⟩ : ∃ s, t = s + 1 := ⟨t - 1, by omega⟩
  rw [Nat.add_sub_cancel] at *
  have hes : en c s ≤ n := by
    rcases h0 with z | z
    · omega
    · exact z
  have hp : 0 < c.k ^ s := Nat.pow_pos (by omega)
  have hz := zz_pos h s
  -- the answer lies in the stage
  have main : ∀ (v : Int), ((c.k ^ s : Nat) : Int) ≤ v → v ≤ ((c.k ^ (s + 1) : Nat) : Int) → (∀ d i, 1 ≤ d → d < c.k → i < c.k ^ s → (((d * c.k ^ s + i : Nat) : Int) < v ↔ pp c (d * c.k ^ s + i) ≤ n)) → ((b : Int) < v ↔ pp c b ≤ n) := by
    intro v v0 v1 hv
    rcases Nat.eq_zero_or_pos b with z | z
    · subst z
      have : pp c 0 = c.a0 := rfl
      constructor
      · intro _; omega
      · intro _; omega
    · obtain ⟨u, d, i, rfl, d1, hd, hi⟩ := stage_of hk z
      obtain ⟨p1, p2⟩ := pp_ge h d1 hd hi
      have hge : c.k ^ u ≤ d * c.k ^ u := Nat.le_mul_of_pos_left _ d1
      have hlt : d * c.k ^ u + i < c.k ^ (u + 1) := by
        rw [Nat.pow_succ, Nat.mul_comm (c.k ^ u)]
        have : (d + 1) * c.k ^ u ≤ c.k * c.k ^ u := Nat.mul_le_mul_right _ hd
        rw [Nat.succ_mul] at this
        omega
      rcases Nat.lt_trichotomy u s with hlt2 | heq | hgt
      · have e1 := en_mono h (show u + 1 ≤ s by omega)
        have e2 : c.k ^ (u + 1) ≤ c.k ^ s := Nat.pow_le_pow_right (by omega) (by omega)
        constructor
        · intro _; omega
        · intro _; omega
      · subst heq
        exact hv d i d1 hd hi
      · have e1 := en_mono h (show s + 1 ≤ u by omega)
        have e2 : c.k ^ (s + 1) ≤ c.k ^ u := Nat.pow_le_pow_right (by omega) (by omega)
        constructor
        · intro _; omega
        · intro _; omega
  by_cases ho : n - en c s - c.sp s < 0
  · rw [if_pos ho]
    refine main _ (Int.le_refl _) (Int.ofNat_le.mpr (Nat.pow_le_pow_right (by omega) (by omega))) fun d i d1 hd hi => ?_
    have hge : c.k ^ s ≤ d * c.k ^ s := Nat.le_mul_of_pos_left _ d1
    rw [pp_stage h d1 hd hi]
    have q0 := qq_nn h s i
    have e1 : 0 ≤ ((d : Int) - 1) * zz c s := Int.mul_nonneg (by omega) (by omega)
    constructor
    · intro _; omega
    · intro _; omega
  · rw [if_neg ho]
    have eoff : n - en c s - c.sp s < ((c.k : Int) - 1) * zz c s := by
      rw [en] at h1
      omega
    have hoe : n = n - en c s - c.sp s + en c s + c.sp s := by omega
    generalize n - en c s - c.sp s = o at *
    have o0 : 0 ≤ o := by omega
    have r0 := Int.emod_nonneg o (show zz c s ≠ 0 by omega)
    have r1 := Int.emod_lt_of_pos o hz
    have eo := Int.mul_ediv_add_emod o (zz c s)
    have q0 : 0 ≤ o / zz c s := Int.ediv_nonneg o0 (by omega)
    have q1 : o / zz c s < (c.k : Int) - 1 := Int.ediv_lt_of_lt_mul hz eoff
    obtain ⟨q, hq⟩ := Int.eq_ofNat_of_zero_le q0
    rw [hq] at eo q1 ⊢
    obtain ⟨i0, i1, i2⟩ := ins_spec h s (o % zz c s) r0 r1
    have ev : ((c.k ^ s : Nat) : Int) * (1 + (q : Int)) + ins c s (o % zz c s) = ((q + 1 : Nat) : Int) * ((c.k ^ s : Nat) : Int) + ins c s (o % zz c s) := by
      rw [Int.mul_comm, Int.natCast_add]
      congr 1
      rw [Int.add_comm]
      rfl
    rw [ev]
    refine main _ ?_ ?_ fun d i d1 hd hi => ?_
    · have : 0 ≤ (q : Int) * ((c.k ^ s : Nat) : Int) := Int.mul_nonneg (by omega) (by omega)
      rw [Int.natCast_add, Int.add_mul]
      omega
    · have e1 : ((q : Int) + 2) * ((c.k ^ s : Nat) : Int) ≤ (c.k : Int) * ((c.k ^ s : Nat) : Int) := Int.mul_le_mul_of_nonneg_right (by omega) (by omega)
      rw [Int.add_mul] at e1
      rw [Nat.pow_succ, Nat.mul_comm, Int.natCast_mul, Int.natCast_add, Int.add_mul]
      omega
    · have dc := digit_count (k := c.k) (q := q + 1) (i := i) (d := d) hp hi hz r0 r1 (qq_nn h s _) (qq_le h s _ hi) i0 i1 (i2 _ hi)
      rw [dc, pp_stage h d1 hd hi]
      rw [Int.natCast_add, Int.add_mul, Int.sub_mul, Int.mul_comm (zz c s)] at *
      omega
end
end Sm
namespace Sm
/-! ### sizes and ends of a tree; the counter of a height -/
def siz (k : Nat) (l : Nat → Int) : Nat → Int
  | 0 => l 0
  | j + 1 => l (j + 1) + k * siz k l j
def ed (k : Nat) (s l : Nat → Int) : Nat → Int
  | 0 => s 0
  | j + 1 => ed k s l j + s (j + 1) + (k - 1) * siz k l j
def fp (k : Nat) (s l : Nat → Int) (h : Nat) : Int := (if h = 0 then 0 else ed k s l (h - 1)) + s h
def ctO (k : Nat) (s l : Nat → Int) (h : Nat) : Ct := ⟨k, fun j => if j = 0 then siz k l h else l (h + j), fun j => s (h + 1 + j), l h, fp k s l h, ed k s l h⟩
/-- the place of a node of height h with b such nodes before it -/
def pl (k : Nat) (s l : Nat → Int) (h b : Nat) : Int := pp (ctO k s l h) b
section
variable {k : Nat} {s l : Nat → Int}
theorem sz_pos (hk : 2 ≤ k) (hl : ∀ j, 0 ≤ l j) (h0 : 0 < l 0) : ∀ j, 0 < siz k l j
  | 0 => h0
  | j + 1 => by
    have h1 := sz_pos hk hl h0 j
    have h2 := hl (j + 1)
    have h3 : (0 : Int) < k * siz k l j := Int.mul_pos (by omega) h1
    rw [siz]
    omega
theorem sz_ge (hk : 2 ≤ k) (hl : ∀ j, 0 ≤ l j) (h0 : 0 < l 0) (j : Nat) : l j ≤ siz k l j := by
  cases j with
  | zero => exact Int.le_refl _
  | succ j =>
    have := sz_pos hk hl h0 j
    have h3 : (0 : Int) < k * siz k l j := Int.mul_pos (by omega) this
    rw [siz]
    omega
theorem ed_nn (hk : 2 ≤ k) (hs : ∀ j, 0 ≤ s j) (hl : ∀ j, 0 ≤ l j) (h0 : 0 < l 0) : ∀ j, 0 ≤ ed k s l j
  | 0 => hs 0
  | j + 1 => by
    have h1 := ed_nn hk hs hl h0 j
    have h2 := hs (j + 1)
    have h3 : 0 ≤ ((k : Int) - 1) * siz k l j := Int.mul_nonneg (by omega) (by have := sz_pos hk hl h0 j; omega)
    rw [ed]
    omega
theorem ct_ok (hk : 2 ≤ k) (hs : ∀ j, 0 ≤ s j) (hl : ∀ j, 0 ≤ l j) (h0 : 0 < l 0) (h : Nat) : CtOk (ctO k s l h) where
  k2 := hk
  la := fun j => by
    show 0 ≤ if j = 0 then siz k l h else l (h + j)
    split
    · have := sz_pos hk hl h0 h
      omega
    · exact hl _
  l0 := sz_pos hk hl h0 h
  sp := fun j => hs _
  o0 := hl h
  o1 := sz_ge hk hl h0 h
  a0 := by
    show 0 ≤ fp k s l h
    unfold fp
    have h1 := hs h
    split
    · omega
    · have := ed_nn hk hs hl h0 (h - 1)
      omega
  ae := by
    show fp k s l h ≤ ed k s l h
    unfold fp
    cases h with
    | zero =>
      show 0 + s 0 ≤ s 0
      omega
    | succ h =>
      rw [if_neg (by omega), Nat.add_sub_cancel, ed]
      have h3 : 0 ≤ ((k : Int) - 1) * siz k l h := Int.mul_nonneg (by omega) (by have := sz_pos hk hl h0 h; omega)
      omega
theorem zz_sz (h : Nat) : ∀ t, zz (ctO k s l h) t = siz k l (h + t)
  | 0 => rfl
  | t + 1 => by
    rw [zz, zz_sz h t]
    show (if t + 1 = 0 then siz k l h else l (h + (t + 1))) + (k : Int) * siz k l (h + t) = siz k l (h + t + 1)
    rw [if_neg (by omega), siz]
    rfl
theorem en_ed (h : Nat) : ∀ t, en (ctO k s l h) t = ed k s l (h + t)
  | 0 => rfl
  | t + 1 => by
    rw [en, en_ed h t, zz_sz]
    show ed k s l (h + t) + s (h + 1 + t) + ((k : Int) - 1) * siz k l (h + t) = ed k s l (h + t + 1)
    rw [ed, show h + 1 + t = h + t + 1 by omega]
/-- as finishing reckons it -/
theorem pl_form {h b : Nat} (hb : 0 < b) {N N' : Nat} (hN : b < k ^ N) (hN' : b < k ^ (N' + 1)) (hk : 2 ≤ k) : pl k s l h b = ed k s l h + ((b : Int) - 1) * siz k l h + l h + smN (fun j => if k ^ j ≤ b then s (h + 1 + j) else 0) N + smN (fun j => ((b / k ^ (j + 1) : Nat) : Int) * l (h + (j + 1))) N' := by
  unfold pl pp
  rw [if_neg (by omega)]
  have e1 : smN (fun j => if (ctO k s l h).k ^ j ≤ b then (ctO k s l h).sp j else 0) b = smN (fun j => if k ^ j ≤ b then s (h + 1 + j) else 0) N := by
    show smN (fun j => if k ^ j ≤ b then s (h + 1 + j) else 0) b = _
    have key : ∀ m, b < k ^ m → ∀ j, m ≤ j → (if k ^ j ≤ b then s (h + 1 + j) else 0) = 0 := fun m hm j hj => if_neg (by
      have := Nat.pow_le_pow_right (n := k) (by omega) hj
      omega)
    rcases Nat.le_total N b with z | z
    · exact smN_ext z (key N hN)
    · exact (smN_ext z (key b (lt_pow hk b))).symm
  have e2 : fq (ctO k s l h) b b = (b : Int) * siz k l h + smN (fun j => ((b / k ^ (j + 1) : Nat) : Int) * l (h + (j + 1))) N' := by
    unfold fq
    rw [smN_head]
    show (if (0 : Nat) = 0 then siz k l h else l (h + 0)) * ((b / k ^ 0 : Nat) : Int) + smN (fun j => (if j + 1 = 0 then siz k l h else l (h + (j + 1))) * ((b / k ^ (j + 1) : Nat) : Int)) b = _
    rw [if_pos rfl, Nat.pow_zero, Nat.div_one, Int.mul_comm]
    congr 1
    have e3 : smN (fun j => (if j + 1 = 0 then siz k l h else l (h + (j + 1))) * ((b / k ^ (j + 1) : Nat) : Int)) b = smN (fun j => ((b / k ^ (j + 1) : Nat) : Int) * l (h + (j + 1))) b := smN_congr fun j _ => by rw [if_neg (by omega), Int.mul_comm]
    rw [e3]
    have key : ∀ m, b < k ^ (m + 1) → ∀ j, m ≤ j → ((b / k ^ (j + 1) : Nat) : Int) * l (h + (j + 1)) = 0 := fun m hm j hj => by
      have := Nat.pow_le_pow_right (n := k) (by omega) (show m + 1 ≤ j + 1 by omega)
      rw [Nat.div_eq_of_lt (by omega)]
      simp
    rcases Nat.le_total N' b with z | z
    · exact smN_ext z (key N' hN')
    · exact (smN_ext z (key b (Nat.lt_of_lt_of_le (lt_pow hk b) (Nat.pow_le_pow_right (by omega) (by omega))))).symm
  rw [e1, e2]
  show ed k s l h - siz k l h + l h + _ + _ = _
  rw [Int.sub_mul]
  omega
theorem pl_zero {h : Nat} : pl k s l h 0 = fp k s l h := rfl
/-! ### linear -/
variable {s1 l1 s2 l2 : Nat → Int}
variable {m : Int}
theorem pl_nn (hk : 2 ≤ k) (hs : ∀ j, 0 ≤ s j) (hl : ∀ j, 0 ≤ l j) (h0 : 0 < l 0) (h b : Nat) : 0 ≤ pl k s l h b := by
  have ok := ct_ok hk hs hl h0 h
  rcases Nat.eq_zero_or_pos b with z | z
  · subst z
    exact ok.a0
  · obtain ⟨u, d, i, rfl, d1, hd, hi⟩ := stage_of hk z
    have h1 : en (ctO k s l h) u ≤ pp (ctO k s l h) (d * k ^ u + i) := (pp_ge ok d1 hd hi).1
    have h2 := en_mono ok (Nat.zero_le u)
    have h3 := ok.ae
    have h4 := ok.a0
    have : en (ctO k s l h) 0 = (ctO k s l h).eh := rfl
    show 0 ≤ pp (ctO k s l h) _
    omega
/-- how many nodes of height h are finished by n -/
def Cnt (k : Nat) (s l : Nat → Int) (h : Nat) (n v : Int) : Prop := 0 ≤ v ∧ ∀ b : Nat, (b : Int) < v ↔ pl k s l h b ≤ n
theorem cnt_zero (hk : 2 ≤ k) (hs : ∀ j, 0 ≤ s j) (hl : ∀ j, 0 ≤ l j) (h0 : 0 < l 0) {h : Nat} {n : Int} (hn : n < (ctO k s l h).a0) : Cnt k s l h n 0 := by
  have ok := ct_ok hk hs hl h0 h
  refine ⟨Int.le_refl _, fun b => ?_⟩
  have : (ctO k s l h).a0 ≤ pl k s l h b := by
    rcases Nat.eq_zero_or_pos b with z | z
    · subst z
      exact Int.le_refl _
    · obtain ⟨u, d, i, rfl, d1, hd, hi⟩ := stage_of hk z
      have h1 : en (ctO k s l h) u ≤ pp (ctO k s l h) (d * k ^ u + i) := (pp_ge ok d1 hd hi).1
      have h2 := en_mono ok (Nat.zero_le u)
      have h3 := ok.ae
      have : en (ctO k s l h) 0 = (ctO k s l h).eh := rfl
      show _ ≤ pp (ctO k s l h) _
      omega
  constructor
  · intro z; omega
  · intro z; omega
theorem cnt_is (hk : 2 ≤ k) (hs : ∀ j, 0 ≤ s j) (hl : ∀ j, 0 ≤ l j) (h0 : 0 < l 0) {h t : Nat} {n : Int} (h1 : n < ed k s l (h + t)) (h2 : t = 0 ∨ ed k s l (h + (t - 1)) ≤ n) : Cnt k s l h n (cnt (ctO k s l h) n t) := by
  have ok := ct_ok hk hs hl h0 h
  refine ⟨?_, fun b => cnt_spec ok (by rw [en_ed]; exact h1) (by rw [en_ed]; exact h2) b⟩
  unfold cnt
  split
  · exact Int.le_refl _
  · split
    · decide
    · rename_i ht
      split
      · exact Int.natCast_nonneg _
      · rename_i ho
        have hz := zz_pos ok (t - 1)
        have i0 := (ins_spec ok (t - 1) _ (Int.emod_nonneg (n - en (ctO k s l h) (t - 1) - (ctO k s l h).sp (t - 1)) (show zz (ctO k s l h) (t - 1) ≠ 0 by omega)) (Int.emod_lt_of_pos _ hz)).1
        have q0 : 0 ≤ (n - en (ctO k s l h) (t - 1) - (ctO k s l h).sp (t - 1)) / zz (ctO k s l h) (t - 1) := Int.ediv_nonneg (by omega) (by omega)
        have : 0 ≤ (((ctO k s l h).k ^ (t - 1) : Nat) : Int) * (1 + (n - en (ctO k s l h) (t - 1) - (ctO k s l h).sp (t - 1)) / zz (ctO k s l h) (t - 1)) := Int.mul_nonneg (Int.natCast_nonneg _) (by omega)
        omega
end
end Sm
namespace K54
open PySem L2 Ab Sm
/-! ### counters: the cells -/
def szS (S : Sc) (j : Nat) : Int := siz S.a.toNat (item S.lv) j
def edS (S : Sc) (j : Nat) : Int := ed S.a.toNat (item S.sp) (item S.lv) j
def pwS (S : Sc) (j : Nat) : Int := ((S.a.toNat ^ j : Nat) : Int)
def ctS (S : Sc) (h : Nat) : Ct := ctO S.a.toNat (item S.sp) (item S.lv) h
def upL (g : Nat → Int) (n : Nat) : List Int := (List.range (n + 1)).map g
theorem up_len {g : Nat → Int} {n : Nat} : (upL g n).length = n + 1 := by simp [upL]
theorem up_at {g : Nat → Int} {n : Nat} {i : Int} (h0 : 0 ≤ i) (h1 : i ≤ n) : at0 (upL g n) i = g i.toNat := by
  unfold at0 upL
  rw [List.getD_eq_getElem?_getD, List.getElem?_map, List.getElem?_range (by omega)]
  rfl
theorem up_last {g : Nat → Int} {n : Nat} : atI ((upL g n).map Val.int) (-1) = some (.int (g n)) := atI_lastE up_len (by
  unfold upL
  rw [List.getD_eq_getElem?_getD, List.getElem?_map, List.getElem?_range (by omega)]
  rfl)
theorem up_succ {g : Nat → Int} {n : Nat} : (upL g n).map Val.int ++ [Val.int (g (n + 1))] = (upL g (n + 1)).map Val.int := by
  unfold upL
  rw [List.range_succ (n := n + 1), List.map_append, List.map_append]
  rfl
def cF (C : Addr) (S : Sc) (h : Nat) (p1 p2 p3 : Addr) : List (Str × Val) := [("own_schedule", scV C S), ("own_height", .int (h : Int)), ("sizes", .ptr p1), ("ends", .ptr p2), ("powers", .ptr p3)]
structure Cn (C C2 : Addr) (M : Mem) (i : Nat) (c p1 p2 p3 : Addr) (S : Sc) (h n : Nat) : Prop where
  c0 : M[i]? = some (c, .ins C2 (cF C S h p1 p2 p3))
  c1 : M[i + 1]? = some (p1, .lst ((upL (szS S) n).map .int))
  c2 : M[i + 2]? = some (p2, .lst ((upL (edS S) n).map .int))
  c3 : M[i + 3]? = some (p3, .lst ((upL (pwS S) n).map .int))
def grown (M : Mem) (i : Nat) (p1 p2 p3 : Addr) (S : Sc) (n : Nat) : Mem := ((M.set (i + 1) (p1, .lst ((upL (szS S) n).map .int))).set (i + 2) (p2, .lst ((upL (edS S) n).map .int))).set (i + 3) (p3, .lst ((upL (pwS S) n).map .int))
section
variable {C C2 : Addr} {M : Mem} {i : Nat} {c p1 p2 p3 : Addr} {S : Sc} {h n m : Nat}
theorem Cn.len (q : Cn C C2 M i c p1 p2 p3 S h n) : i + 3 < M.length := (List.getElem?_eq_some_iff.mp q.c3).1
theorem Cn.grow (q : Cn C C2 M i c p1 p2 p3 S h n) : Cn C C2 (grown M i p1 p2 p3 S m) i c p1 p2 p3 S h m := by
  have hl := q.len
  unfold grown
  refine ⟨?_, ?_, ?_, ?_⟩
  · rw [List.getElem?_set_ne (by omega), List.getElem?_set_ne (by omega), List.getElem?_set_ne (by omega)]
    exact q.c0
  · rw [List.getElem?_set_ne (by omega), List.getElem?_set_ne (by omega), List.getElem?_set_self (by omega)]
  · rw [List.getElem?_set_ne (by omega), List.getElem?_set_self (by rw [List.length_set]; omega)]
  · rw [List.getElem?_set_self (by rw [List.length_set, List.length_set]; omega)]
theorem set_id {α : Type} {l : List α} {j : Nat} {x : α} (h : l[j]? = some x) : l.set j x = l := by
  apply List.ext_getElem?
  intro z
  by_cases e : j = z
  · subst e
    rw [List.getElem?_set_self (List.getElem?_eq_some_iff.mp h).1, h]
  · rw [List.getElem?_set_ne e]
theorem Cn.self (q : Cn C C2 M i c p1 p2 p3 S h n) : grown M i p1 p2 p3 S n = M := by
  unfold grown
  rw [set_id q.c1, set_id q.c2, set_id q.c3]
theorem grown_set {M : Mem} {a1 a2 a3 b1 b2 b3 : Addr × Cell} : ((((M.set (i + 1) a1).set (i + 2) a2).set (i + 3) a3).set (i + 1) b1 |>.set (i + 2) b2 |>.set (i + 3) b3) = ((M.set (i + 1) b1).set (i + 2) b2).set (i + 3) b3 := by
  rw [List.set_comm _ _ (show i + 3 ≠ i + 1 by omega), List.set_comm _ _ (show i + 2 ≠ i + 1 by omega), List.set_set, List.set_comm _ _ (show i + 3 ≠ i + 2 by omega), List.set_set, List.set_set]
theorem grown_grown : grown (grown M i p1 p2 p3 S n) i p1 p2 p3 S m = grown M i p1 p2 p3 S m := grown_set
end
structure Cr (K : PySem.W.Frag) (mg : Str → Option Value) (C2 : Addr) : Prop where
  cl : Cls K C2
  n0 : NoAttr K C2 "own_schedule"
  n1 : NoAttr K C2 "own_height"
  n2 : NoAttr K C2 "sizes"
  n3 : NoAttr K C2 "ends"
  n4 : NoAttr K C2 "powers"
  mh : ∃ u, Con K C2 "MAX_HEIGHT" (.int 3000) u
/-- spine_at, level_at, arity, as counters use them -/
structure Sm2 (P : Program) (w : World) (K : PySem.W.Frag) (mg : Str → Option Value) (base : Heap) (C : Addr) : Prop where
  sat : ∃ f, Meth K C "spine_at" f ∧ FX P w K mg base 3 f fun ds _ => aSat C ds
  lat : ∃ f, Meth K C "level_at" f ∧ FX P w K mg base 3 f fun ds _ => aLat C ds
section
variable {P : Program} {w : World} {K : PySem.W.Frag} {mg : Str → Option Value} {base : Heap} {k : Nat} {f C C2 : Addr}
theorem av_sa {X : Cx} {Γ : Gam} {M : Mem} {o e : Expr} {pos apos : Pos} {m : Nat} {S : Sc} {i : Int} {pl : Sem Bool} (T : Rs X.K X.mg C) (Q : Sm2 X.prog X.w X.K X.mg X.base C) (hr : Rm m X.A) (hm : 3 ≤ m) (ho : aV X o Γ M (scV C S)) (he : aV X e Γ M (.int i)) (hS : GoodS S) (h0 : 0 ≤ i) (hst : starEach [e] X.env = (false, eval e X.env) :: starEach [] X.env := by rfl)
    (ht : eval (.Call (.Attribute o "spine_at" apos) [e] [] pos) X.env = (do
      let ov ← eval o X.env
      standAt apos.atName
      let (f, first) ← holding [ov] (getMethod ov "spine_at" pl)
      callWith pos f first (backTo pos (starEach [e] X.env)) (backToKw pos (keywordEach [] X.env))) := by rfl) : aV X (.Call (.Attribute o "spine_at" apos) [e] [] pos) Γ M (.int (item S.sp i.toNat)) := by
  obtain ⟨f, mt, F⟩ := Q.sat
  exact ae_meth T.cl mt F (hr.mono hm) ho (.im _) rfl (aa_cons (he.val (aa_nil (ak_nil ⟨rfl, S, i, rfl, hS, h0, rfl, rfl⟩))) hst) rfl rfl hst (by rw [hst]; rfl) ht
theorem av_la {X : Cx} {Γ : Gam} {M : Mem} {o e : Expr} {pos apos : Pos} {m : Nat} {S : Sc} {i : Int} {pl : Sem Bool} (T : Rs X.K X.mg C) (Q : Sm2 X.prog X.w X.K X.mg X.base C) (hr : Rm m X.A) (hm : 3 ≤ m) (ho : aV X o Γ M (scV C S)) (he : aV X e Γ M (.int i)) (hS : GoodS S) (h0 : 0 ≤ i) (hst : starEach [e] X.env = (false, eval e X.env) :: starEach [] X.env := by rfl)
    (ht : eval (.Call (.Attribute o "level_at" apos) [e] [] pos) X.env = (do
      let ov ← eval o X.env
      standAt apos.atName
      let (f, first) ← holding [ov] (getMethod ov "level_at" pl)
      callWith pos f first (backTo pos (starEach [e] X.env)) (backToKw pos (keywordEach [] X.env))) := by rfl) : aV X (.Call (.Attribute o "level_at" apos) [e] [] pos) Γ M (.int (item S.lv i.toNat)) := by
  obtain ⟨f, mt, F⟩ := Q.lat
  exact ae_meth T.cl mt F (hr.mono hm) ho (.im _) rfl (aa_cons (he.val (aa_nil (ak_nil ⟨rfl, S, i, rfl, hS, h0, rfl, rfl⟩))) hst) rfl rfl hst (by rw [hst]; rfl) ht
/-! ### check_at_least -/
def aCal : ASp := fun ds M R => ∃ n lo, ds = [.int n, .int lo] ∧ lo ≤ n ∧ R .non M
theorem b_check_at_least (B : Bt mg) : BodyOk P w K mg base k f n_check_at_least "check_at_least" (defScope s_check_at_least) (defBody s_check_at_least) aCal := by
  rintro cdv A outer s H E hr ds M R ⟨n, lo, rfl, hle, hp⟩
  refine as_one (as_if (at_w (aw_or (at_not (at_val (ae_isi B.isinstance (v_ 0) (av_ty (T := "int") B.int (by decide +kernel)) (.ty "int") (.int _) (kit_ty (by decide +kernel)) ⟨true, rfl, nft, fun _ => ?_⟩))))))
  refine aw_or (at_val (ae_isi B.isinstance (v_ 0) (av_ty (T := "bool") B.bool (by decide +kernel)) (.ty "bool") (.int _) (kit_ty (by decide +kernel)) ⟨false, rfl, nft, fun _ => ?_⟩))
  refine aw_or1 (at_cmp (v_ 0) (v_ 1) cmp_lt ⟨fun h => ?_, fun _ => as_nil (.ok hp)⟩)
  rw [decide_eq_true_eq] at h
  omega
abbrev GCal (P : Program) (w : World) (K : PySem.W.Frag) (mg : Str → Option Value) (base : Heap) : Prop := Gd P w K mg base 1 "check_at_least" [] fun ds _ => aCal ds
/-! ### grow -/
def aGrw (C C2 : Addr) : ASp := fun ds M R => ∃ (i : Nat) (c p1 p2 p3 : Addr) (S : Sc) (h n st : Nat), ds = [.ptr c, .int (st : Int)] ∧ Cn C C2 M i c p1 p2 p3 S h n ∧ GoodS S ∧ n ≤ 9000 ∧ st ≤ 9000 ∧ R .non (grown M i p1 p2 p3 S (max n st))
theorem pw_mul {S : Sc} {j : Nat} (h : 0 ≤ S.a) : pwS S j * S.a = pwS S (j + 1) := by
  unfold pwS
  rw [Nat.pow_succ, Int.natCast_mul, Int.toNat_of_nonneg h]
theorem b_grow (B : Bt mg) (T : Rs K mg C) (Z : Cr K mg C2) (Q : Sm2 P w K mg base C) (PA : PrA P w K mg base C) : BodyOk P w K mg base 3 f n_Counter_grow "Counter.grow" (defScope c_Counter_grow) (defBody c_Counter_grow) (aGrw C C2) := by
  rintro cdv A outer s0 H E hr ds M R ⟨i, c, p1, p2, p3, S, h, n, st, rfl, hc, hS, hn, hst, hp⟩
  have a2 := hS.a2
  have a9 := hS.a9
  have hO : Ob M C2 (.ptr c) _ := .ce i hc.c0
  refine as_cons (as_setv 2 q_Counter_grow.nd (av_arity T PA hr (by decide) (av_fld Z.cl Z.n0 (v_ 0) hO rfl)) ?_)
  refine as_one (as_whileL (fun z Γ M' => ∃ m, z = 20000 - m ∧ n ≤ m ∧ m ≤ max n st ∧ M' = grown M i p1 p2 p3 S m ∧ Γ = [some (.ptr c), some (.int (st : Int)), some (.int S.a), none, none]) (20000 - n) PassesOwn.never ⟨_, ⟨n, rfl, Nat.le_refl _, by omega, hc.self.symm, rfl⟩, (by repeat' first | exact le_nil | refine le_skip ?_ | refine le_keep rfl ?_)⟩ ?_)
  · rintro z Γ M' ⟨m, rfl, hm1, hm2, rfl, rfl⟩
    have hg : Cn C C2 (grown M i p1 p2 p3 S m) i c p1 p2 p3 S h m := hc.grow
    have hO : Ob (grown M i p1 p2 p3 S m) C2 (.ptr c) _ := .ce i hg.c0
    have g1 := hg.c1
    have g2 := hg.c2
    have g3 := hg.c3
    have hl1 := up_len (g := szS S) (n := m)
    have hl2 := up_len (g := edS S) (n := m)
    have hl3 := up_len (g := pwS S) (n := m)
    refine ⟨_, (tp_cmp (av_lenN B.len (av_fld Z.cl Z.n2 (v_ 0) hO rfl) (by first | exact .iT _ | exact .iL _ | exact .mT _ _ | exact .mL _ _ | exact .cm 0 rfl | exact .cm 1 rfl | exact .cm 2 rfl | exact .c 0 rfl | exact .c 1 rfl | exact .t _ | exact .l _ | exact .cm _ (by assumption))) (v_ 1) cp_le), fun hcd => ?_, fun hcd => ?_⟩
    · have i1 : IxIs (grown M i p1 p2 p3 S m) (.ptr p1) (-1) (.int (szS S m)) := .c _ g1 up_last
      have i2 : IxIs (grown M i p1 p2 p3 S m) (.ptr p2) (-1) (.int (edS S m)) := .c _ g2 up_last
      have hil := hg.len
      refine as_cons (as_par 3 4 q_Counter_grow.nd rfl (by decide) (aA.val (avs_cons (av_lenN B.len (av_fld Z.cl Z.n2 (v_ 0) hO rfl) (by first | exact .iT _ | exact .iL _ | exact .mT _ _ | exact .mL _ _ | exact .cm 0 rfl | exact .cm 1 rfl | exact .cm 2 rfl | exact .c 0 rfl | exact .c 1 rfl | exact .t _ | exact .l _ | exact .cm _ (by assumption))) (avs_cons (av_ix (av_fld Z.cl Z.n2 (v_ 0) hO rfl) (av_neg i_) (by first | exact .iT (by omega) (by omega) | exact .iL (by omega) (by omega) | exact .ci 0 rfl (by omega) (by omega) | exact .ci 1 rfl (by omega) (by omega) | exact .t rfl | exact .l rfl | exact .c 0 rfl rfl | exact .c 1 rfl rfl | assumption | exact .ci _ (by assumption) (by omega) (by omega))) avs_nil)) ⟨_, _, rfl, ?_⟩))
      rw [hl1]
      refine as_cons (as_expr (ae_append (n0 := i + 2) (av_fld Z.cl Z.n3 (v_ 0) hO rfl) g2 (aE.val (av_add (av_add (av_ix (av_fld Z.cl Z.n3 (v_ 0) hO rfl) (av_neg i_) (by first | exact .iT (by omega) (by omega) | exact .iL (by omega) (by omega) | exact .ci 0 rfl (by omega) (by omega) | exact .ci 1 rfl (by omega) (by omega) | exact .t rfl | exact .l rfl | exact .c 0 rfl rfl | exact .c 1 rfl rfl | assumption | exact .ci _ (by assumption) (by omega) (by omega))) (av_sa T Q hr (by decide) (av_fld Z.cl Z.n0 (v_ 0) hO rfl) (v_ 3) (by assumption) (by omega))) (av_mulU (av_sub (v_ 2) i_) (v_ 4) (by first | exact .inl (.inl ⟨by omega, by omega⟩) | exact .inl (.inr ⟨by omega, by omega⟩) | assumption))) ⟨i + 2, _, g2, (szl (by rw [List.length_map, hl2]; omega)), ?_⟩)))
      have e1 : edS S m + item S.sp (((m + 1 : Nat) : Int)).toNat + (S.a - 1) * szS S m = edS S (m + 1) := by
        unfold edS szS
        rw [ed, Int.toNat_natCast, Int.toNat_of_nonneg (by omega)]
      have e2 : item S.lv (((m + 1 : Nat) : Int)).toNat + S.a * szS S m = szS S (m + 1) := by
        unfold szS
        rw [siz, Int.toNat_natCast, Int.toNat_of_nonneg (by omega)]
      rw [e1, up_succ]
      obtain ⟨M2, hM2⟩ : ∃ M2, M2 = (grown M i p1 p2 p3 S m).set (i + 2) (p2, .lst ((upL (edS S) (m + 1)).map .int)) := ⟨_, rfl⟩
      have k0 : M2[i]? = some (c, .ins C2 (cF C S h p1 p2 p3)) := by rw [hM2, List.getElem?_set_ne (by omega)]; exact hg.c0
      have k1 : M2[i + 1]? = some (p1, .lst ((upL (szS S) m).map .int)) := by rw [hM2, List.getElem?_set_ne (by omega)]; exact g1
      have k3 : M2[i + 3]? = some (p3, .lst ((upL (pwS S) m).map .int)) := by rw [hM2, List.getElem?_set_ne (by omega)]; exact g3
      show aSs _ _ _ ((grown M i p1 p2 p3 S m).set (i + 2) (p2, .lst ((upL (edS S) (m + 1)).map .int))) _
      rw [← hM2]
      have hO : Ob M2 C2 (.ptr c) _ := .ce i k0
      refine as_cons (as_expr (ae_append (n0 := i + 1) (av_fld Z.cl Z.n2 (v_ 0) hO rfl) k1 (aE.val (av_add (av_la T Q hr (by decide) (av_fld Z.cl Z.n0 (v_ 0) hO rfl) (v_ 3) (by assumption) (by omega)) (av_mulU (v_ 2) (v_ 4) (by first | exact .inl (.inl ⟨by omega, by omega⟩) | exact .inl (.inr ⟨by omega, by omega⟩) | assumption))) ⟨i + 1, _, k1, (szl (by rw [List.length_map, hl1]; omega)), ?_⟩)))
      rw [e2, up_succ]
      obtain ⟨M3, hM3⟩ : ∃ M3, M3 = M2.set (i + 1) (p1, .lst ((upL (szS S) (m + 1)).map .int)) := ⟨_, rfl⟩
      have m0 : M3[i]? = some (c, .ins C2 (cF C S h p1 p2 p3)) := by rw [hM3, List.getElem?_set_ne (by omega)]; exact k0
      have m3 : M3[i + 3]? = some (p3, .lst ((upL (pwS S) m).map .int)) := by rw [hM3, List.getElem?_set_ne (by omega)]; exact k3
      show aSs _ _ _ (M2.set (i + 1) (p1, .lst ((upL (szS S) (m + 1)).map .int))) _
      rw [← hM3]
      have hO : Ob M3 C2 (.ptr c) _ := .ce i m0
      have i3 : IxIs M3 (.ptr p3) (-1) (.int (pwS S m)) := .c _ m3 up_last
      refine as_one (as_expr (ae_append (n0 := i + 3) (av_fld Z.cl Z.n4 (v_ 0) hO rfl) m3 (aE.val (av_mulU (av_ix (av_fld Z.cl Z.n4 (v_ 0) hO rfl) (av_neg i_) (by first | exact .iT (by omega) (by omega) | exact .iL (by omega) (by omega) | exact .ci 0 rfl (by omega) (by omega) | exact .ci 1 rfl (by omega) (by omega) | exact .t rfl | exact .l rfl | exact .c 0 rfl rfl | exact .c 1 rfl rfl | assumption | exact .ci _ (by assumption) (by omega) (by omega))) (v_ 2) (by first | exact .inl (.inl ⟨by omega, by omega⟩) | exact .inl (.inr ⟨by omega, by omega⟩) | assumption)) ⟨i + 3, _, m3, (szl (by rw [List.length_map, hl3]; omega)), ?_⟩)))
      rw [pw_mul (by omega), up_succ]
      refine ⟨_, ⟨20000 - (m + 1), by omega, m + 1, rfl, by omega, by omega, ?_, rfl⟩, (by repeat' first | exact le_nil | refine le_skip ?_ | refine le_keep rfl ?_)⟩
      rw [hM3, hM2, List.set_comm _ _ (show i + 2 ≠ i + 1 by omega)]
      exact grown_grown
    · rw [hl1] at hcd
      have : m = max n st := by omega
      rw [← this] at hp
      exact .ok hp
end
end K54
namespace K54
open PySem L2 Ab Sm
section
variable {S : Sc}
theorem GoodS.k2 (g : GoodS S) : 2 ≤ S.a.toNat := by have := g.a2; omega
theorem GoodS.k9 (g : GoodS S) : S.a.toNat ≤ 9 := by have := g.a9; omega
theorem GoodS.s0 (g : GoodS S) (j : Nat) : 0 ≤ item S.sp j := (g.ls.item j).1
theorem GoodS.l0 (g : GoodS S) (j : Nat) : 0 ≤ item S.lv j := (g.ll.item j).1
theorem GoodS.lp (g : GoodS S) : 0 < item S.lv 0 := by have := g.l0 0; have := g.lf; omega
theorem GoodS.ct (g : GoodS S) (h : Nat) : CtOk (ctS S h) := ct_ok g.k2 g.s0 g.l0 g.lp h
theorem szS_pos (g : GoodS S) (j : Nat) : 0 < szS S j := sz_pos g.k2 g.l0 g.lp j
theorem szS_mono (g : GoodS S) {i j : Nat} (h : i ≤ j) : szS S i ≤ szS S j := by
  induction j with
  | zero => rw [show i = 0 by omega]; exact Int.le_refl _
  | succ j ih =>
    rcases Nat.lt_or_ge j i with z | z
    · rw [show i = j + 1 by omega]; exact Int.le_refl _
    · have h1 := ih z
      have h2 := g.l0 (j + 1)
      have h3 := szS_pos g j
      have h4 : szS S j * 1 ≤ szS S j * (S.a.toNat : Int) := Int.mul_le_mul_of_nonneg_left (by have := g.k2; omega) (by omega)
      have e : szS S (j + 1) = item S.lv (j + 1) + (S.a.toNat : Int) * szS S j := rfl
      rw [e, Int.mul_comm]
      omega
theorem szS_top (g : GoodS S) : ∀ j, szS S j ≤ 1000000 * ((10 ^ j : Nat) : Int)
  | 0 => by
    have := (g.ll.item 0).2
    show item S.lv 0 ≤ _
    simpa using this
  | j + 1 => by
    have ih := szS_top g j
    have h2 := (g.ll.item (j + 1)).2
    have h3 := szS_pos g j
    have e : szS S (j + 1) = item S.lv (j + 1) + (S.a.toNat : Int) * szS S j := rfl
    have h4 : (S.a.toNat : Int) * szS S j ≤ 9 * szS S j := Int.mul_le_mul_of_nonneg_right (by have := g.k9; omega) (by omega)
    have h5 : 1 ≤ 10 ^ j := Nat.pow_pos (by decide)
    rw [e, Nat.pow_succ, Int.natCast_mul]
    omega
/-- ends grow as powers do -/
theorem edS_ge (g : GoodS S) : ∀ t h, ((S.a.toNat ^ t : Nat) : Int) ≤ edS S (h + t) + 1 ∧ ((S.a.toNat ^ t : Nat) : Int) ≤ szS S (h + t)
  | 0, h => by
    have h1 := ed_nn g.k2 g.s0 g.l0 g.lp h
    have h2 := szS_pos g h
    have h1' : 0 ≤ edS S h := h1
    simp
    omega
  | t + 1, h => by
    obtain ⟨h1, h2⟩ := edS_ge g t h
    have e1 : edS S (h + (t + 1)) = edS S (h + t) + item S.sp (h + t + 1) + ((S.a.toNat : Int) - 1) * szS S (h + t) := rfl
    have e2 : szS S (h + (t + 1)) = item S.lv (h + t + 1) + (S.a.toNat : Int) * szS S (h + t) := rfl
    have k2 := g.k2
    have h3 := g.s0 (h + t + 1)
    have h4 := g.l0 (h + t + 1)
    have h5 : ((S.a.toNat : Int) - 1) * ((S.a.toNat ^ t : Nat) : Int) ≤ ((S.a.toNat : Int) - 1) * szS S (h + t) := Int.mul_le_mul_of_nonneg_left h2 (by omega)
    have h6 : (S.a.toNat : Int) * ((S.a.toNat ^ t : Nat) : Int) ≤ (S.a.toNat : Int) * szS S (h + t) := Int.mul_le_mul_of_nonneg_left h2 (by omega)
    have e3 : ((S.a.toNat ^ (t + 1) : Nat) : Int) = (S.a.toNat : Int) * ((S.a.toNat ^ t : Nat) : Int) := by rw [Nat.pow_succ, Nat.mul_comm, Int.natCast_mul]
    rw [Int.sub_mul] at h5
    rw [e1, e2, e3]
    omega
theorem edS_succ (g : GoodS S) (j : Nat) : szS S j ≤ edS S (j + 1) := by
  have e1 : edS S (j + 1) = edS S j + item S.sp (j + 1) + ((S.a.toNat : Int) - 1) * szS S j := rfl
  have h1 : 0 ≤ edS S j := ed_nn g.k2 g.s0 g.l0 g.lp j
  have h3 := g.s0 (j + 1)
  have h4 := szS_pos g j
  have h5 : 1 * szS S j ≤ ((S.a.toNat : Int) - 1) * szS S j := Int.mul_le_mul_of_nonneg_right (by have := g.k2; omega) (by omega)
  rw [e1]
  omega
theorem szS_small (g : GoodS S) {h : Nat} (hh : h ≤ 3000) : szS S h < 2 ^ 10000 := by
  have h1 := szS_top g h
  have h2 : (10 : Nat) ^ h ≤ 10 ^ 3000 := Nat.pow_le_pow_right (by decide) hh
  have e : (1000000 : Int) * ((10 ^ 3000 : Nat) : Int) < 2 ^ 10000 := by decide +kernel
  have h3 : (1000000 : Int) * ((10 ^ h : Nat) : Int) ≤ 1000000 * ((10 ^ 3000 : Nat) : Int) := Int.mul_le_mul_of_nonneg_left (Int.ofNat_le.mpr h2) (by decide)
  omega
end
theorem mulX {i j : Int} (h1 : 0 ≤ i) (h2 : i < 2 ^ 3000) (h3 : 0 ≤ j) (h4 : j < 2 ^ 3000) : CMulU i j := by
  have e : (2 : Int) ^ 3000 = ((2 ^ 3000 : Nat) : Int) := by rw [Int.natCast_pow]; rfl
  rw [e] at h2 h4
  exact .inr (mulx_ok (a := 3000) (b := 3000) (by omega) (by omega) (by decide))
theorem mulX2 {i j : Int} (h1 : 0 ≤ i) (h2 : i < 2 ^ 3000) (h3 : 0 ≤ j) (h4 : j < 2 ^ 10000) : CMulU i j := by
  have e : (2 : Int) ^ 3000 = ((2 ^ 3000 : Nat) : Int) := by rw [Int.natCast_pow]; rfl
  have e2 : (2 : Int) ^ 10000 = ((2 ^ 10000 : Nat) : Int) := by rw [Int.natCast_pow]; rfl
  rw [e] at h2
  rw [e2] at h4
  exact .inr (mulx_ok (a := 3000) (b := 10000) (by omega) (by omega) (by decide))
theorem divX {i j : Int} (h3 : 0 < j) (h4 : j < 2 ^ 3000) : CDivU i j := by
  have e : (2 : Int) ^ 3000 = ((2 ^ 3000 : Nat) : Int) := by rw [Int.natCast_pow]; rfl
  rw [e] at h4
  have e2 : (2 : Nat) ^ 3000 ≤ 2 ^ 8000 := Nat.pow_le_pow_right (by decide) (by decide)
  exact cdw h3 (Nat.lt_of_lt_of_le (by omega) e2)
section
variable {P : Program} {w : World} {K : PySem.W.Frag} {mg : Str → Option Value} {base : Heap} {k : Nat} {f C C2 : Addr}
/-! ### first_place -/
def aFp (C C2 : Addr) : ASp := fun ds M R => ∃ (i : Nat) (c p1 p2 p3 : Addr) (S : Sc) (h n : Nat), ds = [.ptr c] ∧ Cn C C2 M i c p1 p2 p3 S h n ∧ GoodS S ∧ h ≤ n ∧ R (.int (ctS S h).a0) M
theorem b_first_place (T : Rs K mg C) (Z : Cr K mg C2) (Q : Sm2 P w K mg base C) : BodyOk P w K mg base 3 f n_Counter_first_place "Counter.first_place" (defScope c_Counter_first_place) (defBody c_Counter_first_place) (aFp C C2) := by
  rintro cdv A outer s0 H E hr ds M R ⟨i, c, p1, p2, p3, S, h, n, rfl, hc, hS, hn, hp⟩
  have hO : Ob M C2 (.ptr c) _ := .ce i hc.c0
  have g2 := hc.c2
  have hl2 := up_len (g := edS S) (n := n)
  refine as_cons (as_setv 1 q_Counter_first_place.nd (av_ifI (tp_cmp (av_fld Z.cl Z.n1 (v_ 0) hO rfl) i_ cp_gt) (fun _ => (av_ix (av_fld Z.cl Z.n3 (v_ 0) hO rfl) (av_sub (av_fld Z.cl Z.n1 (v_ 0) hO rfl) i_) (by first | exact .iT (by omega) (by omega) | exact .iL (by omega) (by omega) | exact .ci 0 rfl (by omega) (by omega) | exact .ci 1 rfl (by omega) (by omega) | exact .t rfl | exact .l rfl | exact .c 0 rfl rfl | exact .c 1 rfl rfl | assumption | exact .ci _ (by assumption) (by omega) (by omega)))) (fun _ => i_)) ?_)
  have e1 : (if (0 : Int) < (h : Int) then at0 (upL (edS S) n) ((h : Int) - 1) else 0) = (if h = 0 then 0 else edS S (h - 1)) := by
    by_cases z : h = 0
    · rw [if_neg (by omega), if_pos z]
    · rw [if_pos (by omega), if_neg z, up_at (by omega) (by omega)]
      congr 1
      omega
  rw [e1]
  refine as_one (as_retv (av_add (v_ 1) (av_sa T Q hr (by decide) (av_fld Z.cl Z.n0 (v_ 0) hO rfl) (av_fld Z.cl Z.n1 (v_ 0) hO rfl) (by assumption) (by omega))) ?_)
  rw [Int.toNat_natCast]
  exact .ok hp
/-! ### finished_inside -/
def aIns (C C2 : Addr) : ASp := fun ds M R => ∃ (i : Nat) (c p1 p2 p3 : Addr) (S : Sc) (h n t : Nat) (off : Int), ds = [.ptr c, .int ((h + t : Nat) : Int), .int off] ∧ Cn C C2 M i c p1 p2 p3 S h n ∧ GoodS S ∧ h + t ≤ n + 1 ∧ 0 ≤ off ∧ off < 2 ^ 2900 ∧ szS S (h + t) < 2 ^ 2900 ∧ R (.int (ins (ctS S h) t off)) M
theorem b_finished_inside (B : Bt mg) (T : Rs K mg C) (Z : Cr K mg C2) (Q : Sm2 P w K mg base C) : BodyOk P w K mg base 3 f n_Counter_finished_inside "Counter.finished_inside" (defScope c_Counter_finished_inside) (defBody c_Counter_finished_inside) (aIns C C2) := by
  rintro cdv A outer s0 H E hr ds M R ⟨i, c, p1, p2, p3, S, h, n, t, off, rfl, hc, hS, hn, o0, o1, hz, hp⟩
  have hO : Ob M C2 (.ptr c) _ := .ce i hc.c0
  have g1 := hc.c1
  have g3 := hc.c3
  have hl1 := up_len (g := szS S) (n := n)
  have hl3 := up_len (g := pwS S) (n := n)
  refine as_cons (as_par 3 4 q_Counter_finished_inside.nd rfl (by decide) (aA.val (avs_cons i_ (avs_cons (v_ 1) avs_nil)) ⟨_, _, rfl, ?_⟩))
  refine as_cons (as_whileW (fun z Γ M' => ∃ (of acc : Int), z ≤ t ∧ 0 ≤ of ∧ of < 2 ^ 2900 ∧ acc + ins (ctS S h) z of = ins (ctS S h) t off ∧ M' = M ∧ Γ = [some (.ptr c), none, some (.int of), some (.int acc), some (.int ((h + z : Nat) : Int)), none]) t PassesOwn.never ⟨_, _, ⟨off, 0, Nat.le_refl _, o0, o1, by omega, rfl, rfl⟩, (by repeat' first | exact le_nil | refine le_skip ?_ | refine le_keep rfl ?_), (by repeat' first | exact List.Sublist.refl _ | exact List.sublist_append_right _ _ | apply List.Sublist.cons₂ | apply List.Sublist.cons)⟩ ?_)
  rintro u Γ M' ⟨of, acc, hu, f0, f1, hacc, rfl, rfl⟩
  refine ⟨_, (tp_cmp (v_ 4) (av_fld Z.cl Z.n1 (v_ 0) hO rfl) cp_gt), fun hcd => ?_, fun hcd => ?_⟩
  · obtain ⟨v, rfl⟩ : ∃ v, u = v + 1 := ⟨u - 1, by omega⟩
    refine as_cons (as_setv 5 q_Counter_finished_inside.nd (av_la T Q hr (by decide) (av_fld Z.cl Z.n0 (v_ 0) hO rfl) (v_ 4) (by assumption) (by omega)) ?_)
    rw [Int.toNat_natCast]
    have hown := hS.l0 (h + (v + 1))
    rw [ins] at hacc
    have ela : (ctS S h).la (v + 1) = item S.lv (h + (v + 1)) := by
      show (if v + 1 = 0 then siz S.a.toNat (item S.lv) h else item S.lv (h + (v + 1))) = _
      rw [if_neg (Nat.succ_ne_zero v)]
    rw [ela] at hacc
    refine as_cons (as_ifp (tp_cmp (v_ 2) (v_ 5) cp_lt) (fun cnd => ?_) (fun cnd => ?_))
    · rw [if_pos cnd, Int.add_zero] at hacc
      refine as_one (as_retv (v_ 3) ?_)
      rw [hacc]
      exact .ok hp
    · rw [if_neg cnd] at hacc
      refine as_nil ?_
      have ez : at0 (upL (szS S) n) (((h + (v + 1) : Nat) : Int) - 1) = szS S (h + v) := by
        rw [up_at (by omega) (by omega)]
        congr 1
        omega
      have ew : at0 (upL (pwS S) n) (((h + (v + 1) : Nat) : Int) - 1 - (h : Int)) = pwS S v := by
        rw [up_at (by omega) (by omega)]
        congr 1
        omega
      have zp := szS_pos hS (h + v)
      have zt : szS S (h + v) < 2 ^ 2900 := Int.lt_of_le_of_lt (szS_mono hS (by omega)) hz
      have pt : pwS S v < 2 ^ 2900 := Int.lt_of_le_of_lt (edS_ge hS v h).2 zt
      have e2900 : (2 : Int) ^ 2900 ≤ 2 ^ 3000 := by decide +kernel
      have p0 : 0 ≤ pwS S v := by unfold pwS; omega
      have hdiv : ∀ x, CDivU x (at0 (upL (szS S) n) (((h + (v + 1) : Nat) : Int) - 1)) := fun x => by
        rw [ez]
        exact divX zp (by omega)
      have q0 : 0 ≤ (of - item S.lv (h + (v + 1))) / szS S (h + v) := Int.ediv_nonneg (by omega) (by omega)
      have q1 : (of - item S.lv (h + (v + 1))) / szS S (h + v) ≤ of - item S.lv (h + (v + 1)) := Int.ediv_le_self _ (by omega)
      have hmul : CMulU ((of - item S.lv (h + (v + 1))) / at0 (upL (szS S) n) (((h + (v + 1) : Nat) : Int) - 1)) (at0 (upL (pwS S) n) (((h + (v + 1) : Nat) : Int) - 1 - (h : Int))) := by
        rw [ez, ew]
        exact mulX q0 (by omega) p0 (by omega)
      have hmod : 0 < at0 (upL (szS S) n) (((h + (v + 1) : Nat) : Int) - 1) := by rw [ez]; exact zp
      refine as_cons (as_augI 3 q_Counter_finished_inside.nd ip_add rfl (aE.val (av_mulU (av_fdivU (av_sub (v_ 2) (v_ 5)) (av_ix (av_fld Z.cl Z.n2 (v_ 0) hO rfl) (av_sub (v_ 4) i_) (by first | exact .iT (by omega) (by omega) | exact .iL (by omega) (by omega) | exact .ci 0 rfl (by omega) (by omega) | exact .ci 1 rfl (by omega) (by omega) | exact .t rfl | exact .l rfl | exact .c 0 rfl rfl | exact .c 1 rfl rfl | assumption | exact .ci _ (by assumption) (by omega) (by omega))) (by first | exact .inl ⟨by omega, by omega⟩ | assumption | exact hdiv _)) (av_ix (av_fld Z.cl Z.n4 (v_ 0) hO rfl) (av_sub (av_sub (v_ 4) i_) (av_fld Z.cl Z.n1 (v_ 0) hO rfl)) (by first | exact .iT (by omega) (by omega) | exact .iL (by omega) (by omega) | exact .ci 0 rfl (by omega) (by omega) | exact .ci 1 rfl (by omega) (by omega) | exact .t rfl | exact .l rfl | exact .c 0 rfl rfl | exact .c 1 rfl rfl | assumption | exact .ci _ (by assumption) (by omega) (by omega))) (by first | exact .inl (.inl ⟨by omega, by omega⟩) | exact .inl (.inr ⟨by omega, by omega⟩) | assumption)) ⟨_, rfl, ?_⟩))
      refine as_cons (as_setv 2 q_Counter_finished_inside.nd (av_mod (av_sub (v_ 2) (v_ 5)) (av_ix (av_fld Z.cl Z.n2 (v_ 0) hO rfl) (av_sub (v_ 4) i_) (by first | exact .iT (by omega) (by omega) | exact .iL (by omega) (by omega) | exact .ci 0 rfl (by omega) (by omega) | exact .ci 1 rfl (by omega) (by omega) | exact .t rfl | exact .l rfl | exact .c 0 rfl rfl | exact .c 1 rfl rfl | assumption | exact .ci _ (by assumption) (by omega) (by omega))) (by first | omega | assumption)) ?_)
      rw [ez, ew]
      refine as_one (as_augI 4 q_Counter_finished_inside.nd ip_sub rfl (aE.val i_ ⟨_, rfl, ?_⟩))
      have r0 := Int.emod_nonneg (of - item S.lv (h + (v + 1))) (show szS S (h + v) ≠ 0 by omega)
      have r1 := Int.emod_lt_of_pos (of - item S.lv (h + (v + 1))) zp
      have ezz : zz (ctS S h) v = szS S (h + v) := zz_sz h v
      rw [ezz] at hacc
      rw [show ((h + (v + 1) : Nat) : Int) - 1 = ((h + v : Nat) : Int) by omega]
      refine ⟨_, _, ⟨v, by omega, (of - item S.lv (h + (v + 1))) % szS S (h + v), _, by omega, r0, by omega, ?_, rfl, rfl⟩, (by repeat' first | exact le_nil | refine le_skip ?_ | refine le_keep rfl ?_), (by repeat' first | exact List.Sublist.refl _ | exact List.sublist_append_right _ _ | apply List.Sublist.cons₂ | apply List.Sublist.cons)⟩
      rw [← hacc, Int.add_assoc]
      rfl
  · have hu0 : u = 0 := by omega
    subst hu0
    refine as_one (as_retv (av_add (v_ 3) (av_intB B.int (VP.out (vp_cmp (v_ 2) (av_la T Q hr (by decide) (av_fld Z.cl Z.n0 (v_ 0) hO rfl) (v_ 4) (by assumption) (by omega)) cp_ge)))) ?_)
    rw [Int.toNat_natCast]
    rw [ins] at hacc
    have e : acc + (if decide (item S.lv (h + 0) ≤ of) = true then 1 else 0) = ins (ctS S h) t off := by
      rw [← hacc]
      show _ = acc + if item S.lv h ≤ of then 1 else 0
      rw [Nat.add_zero]
      by_cases hh : item S.lv h ≤ of
      · rw [if_pos hh, decide_eq_true hh]; rfl
      · rw [if_neg hh, decide_eq_false hh]; rfl
    rw [e]
    exact .ok hp
end
end K54
namespace K54
open PySem L2 Ab Sm
def CntS (S : Sc) (h : Nat) (n v : Int) : Prop := Cnt S.a.toNat (item S.sp) (item S.lv) h n v
def plN (S : Sc) (h b : Nat) : Int := pl S.a.toNat (item S.sp) (item S.lv) h b
theorem two_pow_le {k t : Nat} (hk : 2 ≤ k) (h : ((k ^ t : Nat) : Int) ≤ 2 ^ 2000) : t ≤ 2000 := by
  have h1 : 2 ^ t ≤ k ^ t := Nat.pow_le_pow_left hk t
  have e : (2 : Int) ^ 2000 = ((2 ^ 2000 : Nat) : Int) := by rw [Int.natCast_pow]; rfl
  rw [e] at h
  have h2 : 2 ^ t ≤ 2 ^ 2000 := Nat.le_trans h1 (Int.ofNat_le.mp h)
  exact (Nat.pow_le_pow_iff_right (by decide)).mp h2
/-- what the methods of a counter promise one another -/
structure Cfn (P : Program) (w : World) (K : PySem.W.Frag) (mg : Str → Option Value) (base : Heap) (C C2 : Addr) : Prop where
  fp : ∃ f, Meth K C2 "first_place" f ∧ FX P w K mg base 4 f fun ds _ => aFp C C2 ds
  gr : ∃ f, Meth K C2 "grow" f ∧ FX P w K mg base 4 f fun ds _ => aGrw C C2 ds
  fi : ∃ f, Meth K C2 "finished_inside" f ∧ FX P w K mg base 4 f fun ds _ => aIns C C2 ds
section
variable {P : Program} {w : World} {K : PySem.W.Frag} {mg : Str → Option Value} {base : Heap} {k : Nat} {f C C2 : Addr}
/-! ### count_finished -/
def aCf (C C2 : Addr) : ASp := fun ds M R => ∃ (i : Nat) (c p1 p2 p3 : Addr) (S : Sc) (h n : Nat) (x : Int), ds = [.ptr c, .int x] ∧ Cn C C2 M i c p1 p2 p3 S h n ∧ GoodS S ∧ h ≤ n ∧ h ≤ 3000 ∧ n ≤ 8000 ∧ 0 ≤ x ∧ x < 2 ^ 2000 ∧ ∀ v m, CntS S h x v → n ≤ m → m ≤ 8000 → R (.int v) (grown M i p1 p2 p3 S m)
theorem b_count_finished (B : Bt mg) (T : Rs K mg C) (Z : Cr K mg C2) (Q : Sm2 P w K mg base C) (N : Cfn P w K mg base C C2) : BodyOk P w K mg base 4 f n_Counter_count_finished "Counter.count_finished" (defScope c_Counter_count_finished) (defBody c_Counter_count_finished) (aCf C C2) := by
  rintro cdv A outer s0 H E hr ds M R ⟨i, c, p1, p2, p3, S, h, n, x, rfl, hc, hS, hn, h60, n8, x0, x1, hp⟩
  have hO : Ob M C2 (.ptr c) _ := .ce i hc.c0
  have e9 : (2 : Int) ^ 2000 < 2 ^ 2900 := by decide +kernel
  have e10 : (2 : Int) ^ 2900 < 2 ^ 3000 := by decide +kernel
  have e11 : (2 : Int) ^ 2000 * 9 + 1000000 < 2 ^ 2900 := by decide +kernel
  refine as_cons (as_if (at_cmpM ((v_ 1).val (ae_mt0 Z.cl N.fp hr (by decide) (v_ 0) hO ⟨i, c, p1, p2, p3, S, h, n, rfl, hc, hS, hn, ⟨_, cmp_lt, fun hlt => ?_, fun hge => as_nil ?_⟩⟩))))
  · rw [decide_eq_true_eq] at hlt
    refine as_one (as_retv i_ ?_)
    have := hp 0 n (cnt_zero hS.k2 hS.s0 hS.l0 hS.lp hlt) (Nat.le_refl _) n8
    rw [hc.self] at this
    exact .ok this
  rw [decide_eq_false_iff_not] at hge
  refine as_cons (as_setv 2 q_Counter_count_finished.nd (av_fld Z.cl Z.n1 (v_ 0) hO rfl) ?_)
  refine as_cons (as_whileW (fun z Γ M' => ∃ t m : Nat, z = 4000 - t ∧ t ≤ 2001 ∧ n ≤ m ∧ m ≤ 8000 ∧ h + t ≤ m ∧ (t = 0 ∨ edS S (h + (t - 1)) ≤ x) ∧ M' = grown M i p1 p2 p3 S m ∧ Γ = [some (.ptr c), some (.int x), some (.int ((h + t : Nat) : Int)), none, none, none]) 4000 PassesOwn.never ⟨_, _, ⟨0, n, rfl, by omega, Nat.le_refl _, n8, by omega, .inl rfl, hc.self.symm, rfl⟩, (by repeat' first | exact le_nil | refine le_skip ?_ | refine le_keep rfl ?_), (by repeat' first | exact List.Sublist.refl _ | exact List.sublist_append_right _ _ | apply List.Sublist.cons₂ | apply List.Sublist.cons)⟩ ?_)
  rintro z Γ M' ⟨t, m, rfl, ht, hm1, hm2, hm3, hte, rfl, rfl⟩
  have hg : Cn C C2 (grown M i p1 p2 p3 S m) i c p1 p2 p3 S h m := hc.grow
  have hO : Ob (grown M i p1 p2 p3 S m) C2 (.ptr c) _ := .ce i hg.c0
  have g1 := hg.c1
  have g2 := hg.c2
  have g3 := hg.c3
  have hl1 := up_len (g := szS S) (n := m)
  have hl2 := up_len (g := edS S) (n := m)
  have hl3 := up_len (g := pwS S) (n := m)
  have ee : at0 (upL (edS S) m) ((h + t : Nat) : Int) = edS S (h + t) := by rw [up_at (by omega) (by omega), Int.toNat_natCast]
  refine ⟨edS S (h + t) ≤ x, TP.iff (tp_cmp (av_ix (av_fld Z.cl Z.n3 (v_ 0) hO rfl) (v_ 2) (by first | exact .iT (by omega) (by omega) | exact .iL (by omega) (by omega) | exact .ci 0 rfl (by omega) (by omega) | exact .ci 1 rfl (by omega) (by omega) | exact .t rfl | exact .l rfl | exact .c 0 rfl rfl | exact .c 1 rfl rfl | assumption | exact .ci _ (by assumption) (by omega) (by omega))) (v_ 1) cp_le) (by rw [ee]), fun hcd => ?_, fun hcd => ?_⟩
  · have hlt : t ≤ 2000 := two_pow_le hS.k2 (by have := (edS_ge hS t h).1; omega)
    refine as_cons (as_augI 2 q_Counter_count_finished.nd ip_add rfl (aE.val i_ ⟨_, rfl, ?_⟩))
    rw [show ((h + t : Nat) : Int) + 1 = ((h + (t + 1) : Nat) : Int) by omega]
    refine as_one (as_expr (ae_mt1 Z.cl N.gr hr (by decide) (v_ 0) hO (aE.val (v_ 2) ⟨i, c, p1, p2, p3, S, h, m, h + (t + 1), rfl, hg, hS, by omega, by omega, ?_⟩)))
    rw [grown_grown]
    exact ⟨_, _, ⟨4000 - (t + 1), by omega, t + 1, max m (h + (t + 1)), rfl, by omega, by omega, by omega, by omega, .inr (by rw [Nat.add_sub_cancel]; exact hcd), rfl, rfl⟩, (by repeat' first | exact le_nil | refine le_skip ?_ | refine le_keep rfl ?_), (by repeat' first | exact List.Sublist.refl _ | exact List.sublist_append_right _ _ | apply List.Sublist.cons₂ | apply List.Sublist.cons)⟩
  have hcnt : CntS S h x (cnt (ctS S h) x t) := cnt_is hS.k2 hS.s0 hS.l0 hS.lp (by show x < edS S (h + t); omega) hte
  have hp := hp _ m hcnt hm1 hm2
  unfold cnt at hp
  rw [if_neg hge] at hp
  refine as_cons (as_ifp (tp_cmp (v_ 2) (av_fld Z.cl Z.n1 (v_ 0) hO rfl) cp_eq) (fun cnd => ?_) (fun cnd => as_nil ?_))
  · rw [if_pos (by omega)] at hp
    refine as_one (as_retv i_ ?_)
    exact .ok hp
  · obtain ⟨u, rfl⟩ : ∃ u, t = u + 1 := ⟨t - 1, by omega⟩
    rw [if_neg (by omega), Nat.add_sub_cancel] at hp
    have hte : edS S (h + u) ≤ x := by
      rcases hte with z | z
      · omega
      · exact z
    have ew : at0 (upL (pwS S) m) (((h + (u + 1) : Nat) : Int) - 1 - (h : Int)) = pwS S u := by
      rw [up_at (by omega) (by omega)]
      congr 1
      omega
    have ez : at0 (upL (szS S) m) (((h + (u + 1) : Nat) : Int) - 1) = szS S (h + u) := by
      rw [up_at (by omega) (by omega)]
      congr 1
      omega
    have ed' : at0 (upL (edS S) m) (((h + (u + 1) : Nat) : Int) - 1) = edS S (h + u) := by
      rw [up_at (by omega) (by omega)]
      congr 1
      omega
    refine as_cons (as_setv 3 q_Counter_count_finished.nd (av_ix (av_fld Z.cl Z.n4 (v_ 0) hO rfl) (av_sub (av_sub (v_ 2) i_) (av_fld Z.cl Z.n1 (v_ 0) hO rfl)) (by first | exact .iT (by omega) (by omega) | exact .iL (by omega) (by omega) | exact .ci 0 rfl (by omega) (by omega) | exact .ci 1 rfl (by omega) (by omega) | exact .t rfl | exact .l rfl | exact .c 0 rfl rfl | exact .c 1 rfl rfl | assumption | exact .ci _ (by assumption) (by omega) (by omega))) ?_)
    rw [ew]
    refine as_cons (as_setv 4 q_Counter_count_finished.nd (av_sub (av_sub (v_ 1) (av_ix (av_fld Z.cl Z.n3 (v_ 0) hO rfl) (av_sub (v_ 2) i_) (by first | exact .iT (by omega) (by omega) | exact .iL (by omega) (by omega) | exact .ci 0 rfl (by omega) (by omega) | exact .ci 1 rfl (by omega) (by omega) | exact .t rfl | exact .l rfl | exact .c 0 rfl rfl | exact .c 1 rfl rfl | assumption | exact .ci _ (by assumption) (by omega) (by omega)))) (av_sa T Q hr (by decide) (av_fld Z.cl Z.n0 (v_ 0) hO rfl) (v_ 2) (by assumption) (by omega))) ?_)
    rw [ed', Int.toNat_natCast]
    have een : en (ctS S h) u = edS S (h + u) := en_ed h u
    have esp : (ctS S h).sp u = item S.sp (h + (u + 1)) := by
      show item S.sp (h + 1 + u) = _
      congr 1
      omega
    have ezz : zz (ctS S h) u = szS S (h + u) := zz_sz h u
    rw [een, esp, ezz] at hp
    have hs0 := hS.s0 (h + (u + 1))
    have he0 : 0 ≤ edS S (h + u) := ed_nn hS.k2 hS.s0 hS.l0 hS.lp (h + u)
    have hox : x - edS S (h + u) - item S.sp (h + (u + 1)) ≤ x := by omega
    refine as_cons (as_ifp (tp_cmp (v_ 4) i_ cp_lt) (fun cnd => ?_) (fun cnd => ?_))
    · rw [if_pos cnd] at hp
      refine as_one (as_retv (v_ 3) ?_)
      exact .ok hp
    · rw [if_neg cnd] at hp
      refine as_nil ?_
      generalize x - edS S (h + u) - item S.sp (h + (u + 1)) = o at *
      have zp := szS_pos hS (h + u)
      have zt : szS S (h + u) < 2 ^ 2900 := by
        have h5 : edS S (h + u) ≤ x := hte
        generalize h + u = w at h5 ⊢
        cases w with
        | zero =>
          have := (hS.ll.item 0).2
          show item S.lv 0 < _
          omega
        | succ w =>
          have h1 := edS_succ hS w
          have e : szS S (w + 1) = item S.lv (w + 1) + (S.a.toNat : Int) * szS S w := rfl
          have h2 := (hS.ll.item (w + 1)).2
          have h3 := szS_pos hS w
          have h4 : (S.a.toNat : Int) * szS S w ≤ 9 * szS S w := Int.mul_le_mul_of_nonneg_right (by have := hS.k9; omega) (by omega)
          rw [e]
          omega
      have pt : pwS S u < 2 ^ 2900 := Int.lt_of_le_of_lt (edS_ge hS u h).2 zt
      have p0 : 0 ≤ pwS S u := by unfold pwS; omega
      refine as_cons (as_setv 5 q_Counter_count_finished.nd (av_ix (av_fld Z.cl Z.n2 (v_ 0) hO rfl) (av_sub (v_ 2) i_) (by first | exact .iT (by omega) (by omega) | exact .iL (by omega) (by omega) | exact .ci 0 rfl (by omega) (by omega) | exact .ci 1 rfl (by omega) (by omega) | exact .t rfl | exact .l rfl | exact .c 0 rfl rfl | exact .c 1 rfl rfl | assumption | exact .ci _ (by assumption) (by omega) (by omega))) ?_)
      rw [ez]
      have hdiv : ∀ y, CDivU y (szS S (h + u)) := fun y => divX zp (by omega)
      have q0 : 0 ≤ o / szS S (h + u) := Int.ediv_nonneg (by omega) (by omega)
      have q1 : o / szS S (h + u) ≤ o := Int.ediv_le_self _ (by omega)
      have r0 := Int.emod_nonneg o (show szS S (h + u) ≠ 0 by omega)
      have r1 := Int.emod_lt_of_pos o zp
      have hmul : CMulU (pwS S u) (1 + o / szS S (h + u)) := mulX p0 (by omega) (by omega) (by omega)
      refine as_one (as_ret (ae_bin (aE.val (av_mulU (v_ 3) (av_add i_ (av_fdivU (v_ 4) (v_ 5) (by first | exact .inl ⟨by omega, by omega⟩ | assumption | exact hdiv _))) (by first | exact .inl (.inl ⟨by omega, by omega⟩) | exact .inl (.inr ⟨by omega, by omega⟩) | assumption)) (ae_mt2 Z.cl N.fi hr (by decide) (v_ 0) hO (aE.val (av_sub (v_ 2) i_) (aE.val (av_mod (v_ 4) (v_ 5) (by first | omega | assumption)) ⟨i, c, p1, p2, p3, S, h, m, u, _, ?_, hg, hS, by omega, r0, by omega, zt, bv_add (.ok hp)⟩))))))
      rw [show ((h + (u + 1) : Nat) : Int) - 1 = ((h + u : Nat) : Int) by omega]
/-! ### finishing -/
def aFin (C C2 : Addr) : ASp := fun ds M R => ∃ (i : Nat) (c p1 p2 p3 : Addr) (S : Sc) (h n b : Nat) (x : Int), ds = [.ptr c, .int x] ∧ x = (b : Int) + 1 ∧ Cn C C2 M i c p1 p2 p3 S h n ∧ GoodS S ∧ h ≤ n ∧ h ≤ 3000 ∧ b < 2 ^ 2000 ∧ R (.int (plN S h b)) M
theorem cm_okr {i j : Int} (h : okI j) : CMul i j := .inr ⟨by have := h.1; omega, by have := h.2; omega⟩
theorem b_finishing (B : Bt mg) (T : Rs K mg C) (Z : Cr K mg C2) (Q : Sm2 P w K mg base C) (PA : PrA P w K mg base C) (N : Cfn P w K mg base C C2) : BodyOk P w K mg base 4 f n_Counter_finishing "Counter.finishing" (defScope c_Counter_finishing) (defBody c_Counter_finishing) (aFin C C2) := by
  rintro cdv A outer s0 H E hr ds M R ⟨i, c, p1, p2, p3, S, h, n, b, x, rfl, rfl, hc, hS, hn, h60, hb, hp⟩
  have hO : Ob M C2 (.ptr c) _ := .ce i hc.c0
  have g1 := hc.c1
  have g2 := hc.c2
  have hl1 := up_len (g := szS S) (n := n)
  have hl2 := up_len (g := edS S) (n := n)
  have a2 := hS.a2
  have a9 := hS.a9
  have hk2 := hS.k2
  have hbI : (b : Int) < 2 ^ 2000 := by
    have e : (2 : Int) ^ 2000 = ((2 ^ 2000 : Nat) : Int) := by rw [Int.natCast_pow]; rfl
    rw [e]
    omega
  have e9 : (2 : Int) ^ 2000 < 2 ^ 3000 := by decide +kernel
  refine as_cons (as_par 2 3 q_Counter_finishing.nd rfl (by decide) (aA.val (avs_cons (av_fld Z.cl Z.n1 (v_ 0) hO rfl) (avs_cons (av_arity T PA hr (by decide) (av_fld Z.cl Z.n0 (v_ 0) hO rfl)) avs_nil)) ⟨_, _, rfl, ?_⟩))
  refine as_cons (as_ifp (tp_cmp (v_ 1) i_ cp_eq) (fun cnd => ?_) (fun cnd => as_nil ?_))
  · have : b = 0 := by omega
    subst this
    exact as_one (as_ret (ae_mt0 Z.cl N.fp hr (by decide) (v_ 0) hO ⟨i, c, p1, p2, p3, S, h, n, rfl, hc, hS, hn, .ok hp⟩))
  have hb0 : 0 < b := by omega
  have ez : at0 (upL (szS S) n) (h : Int) = szS S h := by rw [up_at (by omega) (by omega), Int.toNat_natCast]
  have ee : at0 (upL (edS S) n) (h : Int) = edS S h := by rw [up_at (by omega) (by omega), Int.toNat_natCast]
  have zp := szS_pos hS h
  have zt := szS_small hS h60
  have hmul : CMulU ((b : Int) + 1 - 2) (at0 (upL (szS S) n) (h : Int)) := by
    rw [ez]
    exact mulX2 (by omega) (by omega) (by omega) zt
  refine as_cons (as_setv 4 q_Counter_finishing.nd (av_add (av_add (av_ix (av_fld Z.cl Z.n3 (v_ 0) hO rfl) (v_ 2) (by first | exact .iT (by omega) (by omega) | exact .iL (by omega) (by omega) | exact .ci 0 rfl (by omega) (by omega) | exact .ci 1 rfl (by omega) (by omega) | exact .t rfl | exact .l rfl | exact .c 0 rfl rfl | exact .c 1 rfl rfl | assumption | exact .ci _ (by assumption) (by omega) (by omega))) (av_mulU (av_sub (v_ 1) i_) (av_ix (av_fld Z.cl Z.n2 (v_ 0) hO rfl) (v_ 2) (by first | exact .iT (by omega) (by omega) | exact .iL (by omega) (by omega) | exact .ci 0 rfl (by omega) (by omega) | exact .ci 1 rfl (by omega) (by omega) | exact .t rfl | exact .l rfl | exact .c 0 rfl rfl | exact .c 1 rfl rfl | assumption | exact .ci _ (by assumption) (by omega) (by omega))) (by first | exact .inl (.inl ⟨by omega, by omega⟩) | exact .inl (.inr ⟨by omega, by omega⟩) | assumption | exact .inl (cm_okr (hS.ll.item _))))) (av_la T Q hr (by decide) (av_fld Z.cl Z.n0 (v_ 0) hO rfl) (v_ 2) (by assumption) (by omega))) ?_)
  rw [ez, ee, Int.toNat_natCast, show (b : Int) + 1 - 2 = (b : Int) - 1 by omega]
  refine as_cons (as_asg2 i_ (ag_name 5 q_Counter_finishing.nd (ag_name 6 q_Counter_finishing.nd ?_)))
  refine as_cons (as_whileW (fun z Γ M' => ∃ t, z = b + 1 - t ∧ M' = M ∧ Γ = [some (.ptr c), some (.int ((b : Int) + 1)), some (.int (h : Int)), some (.int S.a), some (.int (edS S h + ((b : Int) - 1) * szS S h + item S.lv h + smN (fun j => if S.a.toNat ^ j ≤ b then item S.sp (h + 1 + j) else 0) t)), some (.int ((S.a.toNat ^ t : Nat) : Int)), some (.int ((t : Int) + 1)), none, none]) (b + 1) PassesOwn.never ⟨_, _, ⟨0, rfl, rfl, rfl⟩, ?_, (by repeat' first | exact List.Sublist.refl _ | exact List.sublist_append_right _ _ | apply List.Sublist.cons₂ | apply List.Sublist.cons)⟩ ?_)
  · repeat' first | exact le_nil | refine le_skip ?_ | refine le_keep rfl ?_ | refine le_keep ?_ ?_
    show Val.int _ = Val.int (_ + 0)
    rw [Int.add_zero]
  rintro z Γ M' ⟨t, rfl, rfl, rfl⟩
  refine ⟨_, (tp_cmp (v_ 5) (v_ 1) cp_lt), fun hcd => ?_, fun hcd => ?_⟩
  · have hc' : S.a.toNat ^ t ≤ b := by omega
    have hlt := lt_pow hk2 t
    refine as_cons (as_augI 4 q_Counter_finishing.nd ip_add rfl (aE.val (av_sa T Q hr (by decide) (av_fld Z.cl Z.n0 (v_ 0) hO rfl) (av_add (v_ 2) (v_ 6)) (by assumption) (by omega)) ⟨_, rfl, ?_⟩))
    refine as_one (as_par 5 6 q_Counter_finishing.nd rfl (by decide) (aA.val (avs_cons (av_mulU (v_ 5) (v_ 3) (by first | exact .inl (.inl ⟨by omega, by omega⟩) | exact .inl (.inr ⟨by omega, by omega⟩) | assumption | exact .inl (cm_okr (hS.ll.item _)))) (avs_cons (av_add (v_ 6) i_) avs_nil)) ⟨_, _, rfl, ?_⟩))
    rw [show ((S.a.toNat ^ t : Nat) : Int) * S.a = ((S.a.toNat ^ (t + 1) : Nat) : Int) by rw [Nat.pow_succ, Int.natCast_mul, Int.toNat_of_nonneg (by omega)], show (t : Int) + 1 + 1 = ((t + 1 : Nat) : Int) + 1 by omega]
    refine ⟨_, _, ⟨b + 1 - (t + 1), by omega, t + 1, rfl, rfl, rfl⟩, ?_, (by repeat' first | exact List.Sublist.refl _ | exact List.sublist_append_right _ _ | apply List.Sublist.cons₂ | apply List.Sublist.cons)⟩
    repeat' first | exact le_nil | refine le_skip ?_ | refine le_keep rfl ?_ | refine le_keep ?_ ?_
    show Val.int (_ + _) = Val.int (_ + (_ + if S.a.toNat ^ t ≤ b then item S.sp (h + 1 + t) else 0))
    rw [if_pos hc', show ((h : Int) + ((t : Int) + 1)).toNat = h + 1 + t by omega, Int.add_assoc]
  have hc1 : b < S.a.toNat ^ t := by omega
  have hdv : CDivU ((b : Int) + 1 - 1) S.a := .inl ⟨by omega, by omega⟩
  refine as_cons (as_par 7 8 q_Counter_finishing.nd rfl (by decide) (aA.val (avs_cons (av_fdivU (av_sub (v_ 1) i_) (v_ 3) (by first | exact .inl ⟨by omega, by omega⟩ | assumption)) (avs_cons i_ avs_nil)) ⟨_, _, rfl, ?_⟩))
  refine as_cons (as_whileW (fun z Γ M2 => ∃ u, z = b + 1 - u ∧ M2 = M' ∧ Γ = [some (.ptr c), none, some (.int (h : Int)), some (.int S.a), some (.int (edS S h + ((b : Int) - 1) * szS S h + item S.lv h + smN (fun j => if S.a.toNat ^ j ≤ b then item S.sp (h + 1 + j) else 0) t + smN (fun j => ((b / S.a.toNat ^ (j + 1) : Nat) : Int) * item S.lv (h + (j + 1))) u)), none, none, some (.int ((b / S.a.toNat ^ (u + 1) : Nat) : Int)), some (.int ((u : Int) + 1))]) (b + 1) PassesOwn.never ⟨_, _, ⟨0, rfl, rfl, rfl⟩, ?_, (by repeat' first | exact List.Sublist.refl _ | exact List.sublist_append_right _ _ | apply List.Sublist.cons₂ | apply List.Sublist.cons)⟩ ?_)
  · repeat' first | exact le_nil | refine le_skip ?_ | refine le_keep rfl ?_ | refine le_keep ?_ ?_
    · show Val.int _ = Val.int (_ + 0)
      rw [Int.add_zero]
    · rw [show (b : Int) + 1 - 1 = (b : Int) by omega, Nat.zero_add, Nat.pow_one, Int.natCast_ediv, Int.toNat_of_nonneg (by omega)]
  rintro z Γ M2 ⟨u, rfl, rfl, rfl⟩
  refine ⟨_, (tp_cmp (v_ 7) i_ cp_gt), fun hcd => ?_, fun hcd => ?_⟩
  · have hq : S.a.toNat ^ (u + 1) ≤ b := by
      rcases Nat.lt_or_ge b (S.a.toNat ^ (u + 1)) with z | z
      · rw [Nat.div_eq_of_lt z] at hcd
        simp at hcd
      · exact z
    have hlt := lt_pow hk2 (u + 1)
    refine as_cons (as_augI 4 q_Counter_finishing.nd ip_add rfl (aE.val (av_mulU (v_ 7) (av_la T Q hr (by decide) (av_fld Z.cl Z.n0 (v_ 0) hO rfl) (av_add (v_ 2) (v_ 8)) (by assumption) (by omega)) (by first | exact .inl (.inl ⟨by omega, by omega⟩) | exact .inl (.inr ⟨by omega, by omega⟩) | assumption | exact .inl (cm_okr (hS.ll.item _)))) ⟨_, rfl, ?_⟩))
    refine as_one (as_par 7 8 q_Counter_finishing.nd rfl (by decide) (aA.val (avs_cons (av_fdivU (v_ 7) (v_ 3) (by first | exact .inl ⟨by omega, by omega⟩ | assumption)) (avs_cons (av_add (v_ 8) i_) avs_nil)) ⟨_, _, rfl, ?_⟩))
    rw [show ((b / S.a.toNat ^ (u + 1) : Nat) : Int) / S.a = ((b / S.a.toNat ^ (u + 1 + 1) : Nat) : Int) by rw [Nat.pow_succ S.a.toNat (u + 1), ← Nat.div_div_eq_div_mul, Int.natCast_ediv (b / S.a.toNat ^ (u + 1)), Int.toNat_of_nonneg (by omega)], show (u : Int) + 1 + 1 = ((u + 1 : Nat) : Int) + 1 by omega]
    refine ⟨_, _, ⟨b + 1 - (u + 1), by omega, u + 1, rfl, rfl, rfl⟩, ?_, (by repeat' first | exact List.Sublist.refl _ | exact List.sublist_append_right _ _ | apply List.Sublist.cons₂ | apply List.Sublist.cons)⟩
    repeat' first | exact le_nil | refine le_skip ?_ | refine le_keep rfl ?_ | refine le_keep ?_ ?_
    show Val.int (_ + _) = Val.int (_ + (_ + ((b / S.a.toNat ^ (u + 1) : Nat) : Int) * item S.lv (h + (u + 1))))
    rw [show ((h : Int) + ((u : Int) + 1)).toNat = h + (u + 1) by omega, Int.add_assoc]
  have hc2 : b < S.a.toNat ^ (u + 1) := by
    rcases Nat.lt_or_ge b (S.a.toNat ^ (u + 1)) with z | z
    · exact z
    · have := Nat.div_pos z (Nat.pow_pos (by omega))
      omega
  refine as_one (as_retv (v_ 4) ?_)
  have e := pl_form (k := S.a.toNat) (s := item S.sp) (l := item S.lv) (h := h) hb0 hc1 hc2 hk2
  unfold plN at hp
  rw [e] at hp
  exact .ok hp
/-! ### value, place -/
structure Cfm (P : Program) (w : World) (K : PySem.W.Frag) (mg : Str → Option Value) (base : Heap) (C C2 : Addr) : Prop where
  cf : ∃ f, Meth K C2 "count_finished" f ∧ FX P w K mg base 5 f fun ds _ => aCf C C2 ds
  fg : ∃ f, Meth K C2 "finishing" f ∧ FX P w K mg base 5 f fun ds _ => aFin C C2 ds
theorem b_value (Z : Cr K mg C2) (g_check_at_least : GCal P w K mg base) (N : Cfm P w K mg base C C2) : BodyOk P w K mg base 5 f n_Counter_value "Counter.value" (defScope c_Counter_value) (defBody c_Counter_value) (aCf C C2) := by
  rintro cdv A outer s0 H E hr ds M R ⟨i, c, p1, p2, p3, S, h, n, x, rfl, hc, hS, hn, h60, n8, x0, x1, hp⟩
  have hO : Ob M C2 (.ptr c) _ := .ce i hc.c0
  refine as_cons (as_expr (aE.val (ae_g g_check_at_least hr (by decide) (aa_cons (aE.val (v_ 1) (aa_cons (aE.val i_ (aa_nil (ak_nil ⟨rfl, _, _, rfl, (by omega), rfl, rfl⟩))))))) ?_))
  exact as_one (as_ret (ae_mt1 Z.cl N.cf hr (by decide) (v_ 0) hO (aE.val (v_ 1) ⟨i, c, p1, p2, p3, S, h, n, x, rfl, hc, hS, hn, h60, n8, x0, x1, fun v m h1 h2 h3 => .ok (hp v m h1 h2 h3)⟩)))
theorem b_place (Z : Cr K mg C2) (g_check_at_least : GCal P w K mg base) (N : Cfm P w K mg base C C2) : BodyOk P w K mg base 5 f n_Counter_place "Counter.place" (defScope c_Counter_place) (defBody c_Counter_place) (aFin C C2) := by
  rintro cdv A outer s0 H E hr ds M R ⟨i, c, p1, p2, p3, S, h, n, b, x, rfl, rfl, hc, hS, hn, h60, hb, hp⟩
  have hO : Ob M C2 (.ptr c) _ := .ce i hc.c0
  refine as_cons (as_expr (aE.val (ae_g g_check_at_least hr (by decide) (aa_cons (aE.val (v_ 1) (aa_cons (aE.val i_ (aa_nil (ak_nil ⟨rfl, _, _, rfl, (by omega), rfl, rfl⟩))))))) ?_))
  exact as_one (as_ret (ae_mt1 Z.cl N.fg hr (by decide) (v_ 0) hO (aE.val (v_ 1) ⟨i, c, p1, p2, p3, S, h, n, b, _, rfl, rfl, hc, hS, hn, h60, hb, .ok hp⟩)))
end
end K54
namespace K54
open PySem L2 Ab Sm
/-- a counter's cells, in front of others -/
def cnM (C C2 c p1 p2 p3 : Addr) (S : Sc) (h n : Nat) (M : Mem) : Mem := (c, .ins C2 (cF C S h p1 p2 p3)) :: (p1, .lst ((upL (szS S) n).map .int)) :: (p2, .lst ((upL (edS S) n).map .int)) :: (p3, .lst ((upL (pwS S) n).map .int)) :: M
theorem cnM_cn {C C2 c p1 p2 p3 : Addr} {S : Sc} {h n : Nat} {M : Mem} : Cn C C2 (cnM C C2 c p1 p2 p3 S h n M) 0 c p1 p2 p3 S h n := ⟨rfl, rfl, rfl, rfl⟩
theorem cnM_grow {C C2 c p1 p2 p3 : Addr} {S : Sc} {h n m : Nat} {M : Mem} : grown (cnM C C2 c p1 p2 p3 S h n M) 0 p1 p2 p3 S m = cnM C C2 c p1 p2 p3 S h m M := rfl
theorem Cn.cons {C C2 : Addr} {M : Mem} {i : Nat} {c p1 p2 p3 : Addr} {S : Sc} {h n : Nat} {x : Addr × Cell} (q : Cn C C2 M i c p1 p2 p3 S h n) : Cn C C2 (x :: M) (i + 1) c p1 p2 p3 S h n := ⟨q.c0, q.c1, q.c2, q.c3⟩
section
variable {P : Program} {w : World} {K : PySem.W.Frag} {mg : Str → Option Value} {base : Heap} {k : Nat} {f C C2 : Addr}
def aCin (C C2 : Addr) : ASp := fun ds M R => ∃ (p : Addr) (S : Sc) (h : Nat) (M0 : Mem), ds = [.ptr p, scV C S, .int (h : Int)] ∧ M = (p, .ins C2 []) :: M0 ∧ GoodS S ∧ h ≤ 3000 ∧ ∀ p1 p2 p3, R .non (cnM C C2 p p1 p2 p3 S h h M0)
theorem b_cinit (B : Bt mg) (T : Rs K mg C) (IS : Isi K C) (Z : Cr K mg C2) (Q : Sm2 P w K mg base C) (g_check_at_least : GCal P w K mg base) (N : ∃ f, Meth K C2 "grow" f ∧ FX P w K mg base 4 f fun ds _ => aGrw C C2 ds) : BodyOk P w K mg base 4 f n_Counter___init__ "Counter.__init__" (defScope c_Counter___init__) (defBody c_Counter___init__) (aCin C C2) := by
  rintro cdv A outer s0 H E hr ds M R ⟨p, S, h, M0, rfl, rfl, hS, h60, hp⟩
  obtain ⟨uc, hcon⟩ := Z.mh
  refine as_cons (as_if (at_not (at_val (ae_isi B.isinstance (v_ 1) (ae_glob T.gC ⟨rfl, rfl⟩) (.own C) (ty_sc T IS) IS.c5 ⟨true, rfl, nft, fun _ => as_nil ?_⟩))))
  refine as_cons (as_expr (aE.val (ae_g g_check_at_least hr (by decide) (aa_cons (aE.val (v_ 2) (aa_cons (aE.val i_ (aa_nil (ak_nil ⟨rfl, _, _, rfl, (by omega), rfl, rfl⟩))))))) ?_))
  refine as_cons (as_ifp (tp_cmp (v_ 2) (av_con Z.cl hcon (v_ 0) (.ce 0 rfl) rfl (fun _ => .int 3000)) cp_gt) (fun cnd => absurd cnd (by omega)) (fun cnd => as_nil ?_))
  refine as_cons (as_fld Z.cl Z.n0 ((v_ 1).val ((v_ 0).val ⟨0, p, _, rfl, rfl, Nat.le_of_ble_eq_true rfl, ?_⟩)))
  refine as_cons (as_fld Z.cl Z.n1 ((v_ 2).val ((v_ 0).val ⟨0, p, _, rfl, rfl, Nat.le_of_ble_eq_true rfl, ?_⟩)))
  refine as_cons (as_fld Z.cl Z.n2 (ae_lstC (aA.val (avs_cons (av_la T Q hr (by decide) (v_ 1) i_ (by assumption) (by omega)) avs_nil) ⟨szb, fun p1 => (v_ 0).val ⟨1, p, _, rfl, rfl, Nat.le_of_ble_eq_true rfl, ?_⟩⟩)))
  refine as_cons (as_fld Z.cl Z.n3 (ae_lstC (aA.val (avs_cons (av_sa T Q hr (by decide) (v_ 1) i_ (by assumption) (by omega)) avs_nil) ⟨szb, fun p2 => (v_ 0).val ⟨2, p, _, rfl, rfl, Nat.le_of_ble_eq_true rfl, ?_⟩⟩)))
  refine as_cons (as_fld Z.cl Z.n4 (ae_lstC (aA.val (avs_cons i_ avs_nil) ⟨szb, fun p3 => (v_ 0).val ⟨3, p, _, rfl, rfl, Nat.le_of_ble_eq_true rfl, ?_⟩⟩)))
  have hpm : (cnM C C2 p p1 p2 p3 S h 0 M0).Perm ((p3, .lst [.int 1]) :: (p2, .lst [.int (item S.sp 0)]) :: (p1, .lst [.int (item S.lv 0)]) :: (p, .ins C2 (cF C S h p1 p2 p3)) :: M0) := by
    have e : ∀ (a b c d : Addr × Cell) (l : Mem), (a :: b :: c :: d :: l).Perm (d :: c :: b :: a :: l) := fun a b c d l => by
      have h1 := List.reverse_perm [a, b, c, d]
      exact (h1.symm.append_right l)
    exact e _ _ _ _ _
  show aSs _ _ _ ((p3, .lst [.int 1]) :: (p2, .lst [.int (item S.sp 0)]) :: (p1, .lst [.int (item S.lv 0)]) :: (p, .ins C2 (cF C S h p1 p2 p3)) :: M0) _
  refine as_perm hpm ?_
  refine as_one (as_expr (ae_mt1 Z.cl N hr (by decide) (v_ 0) (.ce 0 rfl) (aE.val (v_ 2) ⟨0, p, p1, p2, p3, S, h, 0, h, rfl, cnM_cn, hS, by omega, by omega, ?_⟩)))
  rw [cnM_grow, Nat.zero_max]
  exact .ok (hp p1 p2 p3)
structure Mkc (P : Program) (w : World) (K : PySem.W.Frag) (mg : Str → Option Value) (base : Heap) (C C2 : Addr) : Prop where
  ex : ∃ fi, Mk K C2 fi ∧ FnX P w K mg base 5 fi ["height"] (spX K fun ds es M R => ds.length = 2 ∧ aCin C C2 (ds ++ es) M R) ∧ FnX P w K mg base 5 fi [] (spX K fun ds _ M R => ds.length = 2 ∧ aCin C C2 (ds ++ [.int 0]) M R)
/-- Counter(e) -/
theorem ae_counter {x : Str} {X : Cx} {Γ : Gam} {M : Mem} {R : Val → Mem → Prop} {e : Expr} {p1 pos : Pos} {m : Nat} (Z : Cr X.K X.mg C2) (gx : X.mg x = some (.ref C2)) (I : Mkc X.prog X.w X.K X.mg X.base C C2) (hr : Rm m X.A) (hm : 6 ≤ m)
    (h : aE X e Γ M fun x M1 => ∃ S, x = scV C S ∧ GoodS S ∧ ∀ c p1 p2 p3, c ∉ M1.map (·.1) → R (.ptr c) (cnM C C2 c p1 p2 p3 S 0 0 M1))
    (hg : Gl X x := by rfl) (hdb : (x == ("__debug__" : Str)) = false := by decide) (he : starEach [e] X.env = (false, eval e X.env) :: starEach [] X.env := by rfl) : aE X (.Call (.Name x p1) [e] [] pos) Γ M R := by
  obtain ⟨fi, mk, _, F⟩ := I.ex
  refine ae_make mk F (hr.mono hm) gx (aa_cons (h.mono fun x M1 h1 => aa_nil (ak_nil ⟨rfl, fun p hn => ⟨rfl, ?_⟩⟩)) he) hg rfl rfl hdb he (by rw [he]; rfl)
  obtain ⟨S, rfl, hS, hR⟩ := h1
  exact ⟨p, S, 0, M1, rfl, rfl, hS, by decide, fun a b c => ⟨rfl, hR p a b c hn⟩⟩
structure Cvp (P : Program) (w : World) (K : PySem.W.Frag) (mg : Str → Option Value) (base : Heap) (C C2 : Addr) : Prop where
  va : ∃ f, Meth K C2 "value" f ∧ FX P w K mg base 6 f fun ds _ => aCf C C2 ds
  pl : ∃ f, Meth K C2 "place" f ∧ FX P w K mg base 6 f fun ds _ => aFin C C2 ds
end
end K54
namespace K54
open PySem L2 Ab Sm
/-! ### the law's streams of draws: a dict -/
def stD (cs : List Int) (t y : Int) : Cell := .dk [(.inr "cells", .lst (cs.map .int)), (.inr "at", .int t), (.inr "left", .int y)]
theorem stD_inj {cs cs' : List Int} {t y t' y' : Int} (h : stD cs t y = stD cs' t' y') : t = t' := by
  unfold stD at h
  injection h with h
  injection h with h
  injection h with h1 h
  injection h with h2 h
  have := congrArg Prod.snd h2
  simpa using this
/-- the stream's cell stands at place i; its count is at most N -/
def SD (M : Mem) (i : Nat) (a : Addr) (N : Nat) : Prop := ∃ cs t y, M[i]? = some (a, stD cs t y) ∧ cs ≠ [] ∧ cs.length ≤ 1000 ∧ 0 ≤ t ∧ t ≤ (N : Int)
def Dq (i : Nat) (a : Addr) (c : Nat) (M M' : Mem) : Prop := ∃ cs t y cs' t' y', M[i]? = some (a, stD cs t y) ∧ M' = M.set i (a, stD cs' t' y') ∧ (cs ≠ [] → cs' ≠ []) ∧ (cs.length ≤ 1000 → cs'.length ≤ 1000) ∧ (0 ≤ t → 0 ≤ t') ∧ t' ≤ t + (c : Int)
theorem Dq.trans {M M' M'' : Mem} {i : Nat} {a : Addr} {c e : Nat} (d : Dq i a c M M') (d' : Dq i a e M' M'') : Dq i a (c + e) M M'' := by
  obtain ⟨cs1, t1, y1, cs2, t2, y2, hm1, rfl, f1, f2, g0, g1⟩ := d
  obtain ⟨cs3, t3, y3, cs4, t4, y4, hm3, rfl, f3, f4, g2, g3⟩ := d'
  rw [List.getElem?_set_self (List.getElem?_eq_some_iff.mp hm1).1] at hm3
  have e := (Prod.mk.inj (Option.some.inj hm3)).2
  have et := stD_inj e
  have ec : cs2 = cs3 := by
    unfold stD at e
    injection e with e
    injection e with e
    injection e with e1 e
    have e2 := congrArg Prod.snd e1
    have e3 : cs2.map Val.int = cs3.map Val.int := by simpa using e2
    exact (List.map_inj_right (fun a b h => by injection h)).mp e3
  subst et ec
  exact ⟨cs1, t1, y1, cs4, t4, y4, hm1, by rw [List.set_set], fun h => f3 (f1 h), fun h => f4 (f2 h), fun h => g2 (g0 h), by omega⟩
theorem Dq.mono {M M' : Mem} {i : Nat} {a : Addr} {c e : Nat} (d : Dq i a c M M') (h : c ≤ e) : Dq i a e M M' := by
  obtain ⟨cs1, t1, y1, cs2, t2, y2, hm1, e1, f1, f2, g0, g1⟩ := d
  exact ⟨cs1, t1, y1, cs2, t2, y2, hm1, e1, f1, f2, g0, by omega⟩
theorem SD.refl {M : Mem} {i : Nat} {a : Addr} {N : Nat} (h : SD M i a N) : Dq i a 0 M M := by
  obtain ⟨cs, t, y, h, _⟩ := h
  exact ⟨cs, t, y, cs, t, y, h, (set_id h).symm, fun h => h, fun h => h, fun h => h, by omega⟩
theorem SD.cons {M : Mem} {i : Nat} {a : Addr} {N : Nat} {c : Addr × Cell} (h : SD M i a N) : SD (c :: M) (i + 1) a N := h
theorem Dq.cons {M M' : Mem} {i : Nat} {a : Addr} {e : Nat} {c : Addr × Cell} (h : Dq (i + 1) a e (c :: M) M') : ∃ M'', M' = c :: M'' ∧ Dq i a e M M'' := by
  obtain ⟨x1, t1, y1, x2, t2, y2, hm1, rfl, g⟩ := h
  exact ⟨_, rfl, x1, t1, y1, x2, t2, y2, hm1, rfl, g⟩
end K54
namespace Ab
open PySem PySem.Spec PyProof.Rows L2
end Ab
namespace Ab
open PySem PySem.Spec PyProof.Rows L2
/-! ### t[::-1] of a tuple -/
end Ab
/-! boxes: opened, closed; promises over boxes -/
namespace Ab
open PySem PySem.Spec PyProof.Rows L2
section
variable {X : Cx} {Γ : Gam} {M M' : Mem} {P : Val → Mem → Prop} {e : Expr} {sts : List Stmt} {k : AK} {p : Addr} {φ φ' : Mem0 → Prop} {B : Mem0} {i : Nat}
/-- cells into a box, behind an expression -/
theorem ae_close (h : aE X e Γ M fun d M1 => ∃ φ B M2 p, M1 = bs B ++ M2 ∧ φ B ∧ p ∈ B.map (·.1) ∧ P d ((p, .box φ) :: M2)) : aE X e Γ M P := fun Hi H σ ok en Q q => h Hi H σ ok en Q fun d M1 v Hi1 H1 h1 s1 ok1 r1 => by
  obtain ⟨φ, B, M2, p, rfl, hφ, hp, hP⟩ := h1
  exact q d _ v Hi1 H1 hP s1 (ok1.cls hφ hp) r1
end
section
variable {P : Program} {w : World} {K : PySem.W.Frag} {mg : Str → Option Value} {base : Heap} {k : Nat} {f : Addr} {ks : List Str} {sp sp' : List V → List V → Hp → VK → Prop} {sx sx' : ASx}
theorem FnX.weak (F : FnX P w K mg base k f ks sp) (h : ∀ vs zs H Q, sp' vs zs H Q → sp vs zs H Q) : FnX P w K mg base k f ks sp' :=
  ⟨fun A outer s H us ws vs zs Q a b c d e g => F.run A outer s H us ws vs zs Q a b c d e (h vs zs H Q g)⟩
/-- a promise by another one -/
theorem FnX.imp (F : FnX P w K mg base k f ks (spX K sx)) (h : ∀ ds es M R, sx' ds es M R → sx ds es M R) : FnX P w K mg base k f ks (spX K sx') :=
  F.weak fun vs zs H Q ⟨Hi, M, ds, es, R, r1, r2, ok, hs, q⟩ => ⟨Hi, M, ds, es, R, r1, r2, ok, h ds es M R hs, q⟩
theorem set_at {α : Type} {M : List α} {i : Nat} {x : α} (h : M[i]? = some x) : M.set i x = M := by
  induction M generalizing i with
  | nil => rfl
  | cons y M ih =>
    cases i with
    | zero => cases h; rfl
    | succ i => rw [List.set_cons_succ, ih h]
/-- a promise over cells, told over their box -/
theorem FnX.box (F : FnX P w K mg base k f ks (spX K sx)) (h : ∀ ds es M R, sx' ds es M R → ∃ (i : Nat) (p : Addr) (φ : Mem0 → Prop), M[i]? = some (p, .box φ) ∧
    ∀ B, φ B → p ∈ B.map (·.1) → sx ds es (bs B ++ M.eraseIdx i) fun d M' => ∃ B' φ', M' = bs B' ++ M.eraseIdx i ∧ φ' B' ∧ p ∈ B'.map (·.1) ∧ R d (M.set i (p, .box φ'))) : FnX P w K mg base k f ks (spX K sx') :=
  F.weak fun vs zs H Q ⟨Hi, M, ds, es, R, r1, r2, ok, hs, q⟩ => by
    obtain ⟨i, p, φ, hi, hb⟩ := h ds es M R hs
    obtain ⟨B, h1, h2, ok'⟩ := ok.opn hi
    refine ⟨Hi, _, ds, es, _, r1, r2, ok', hb B h1 h2, fun d M' v Hi' H' hd s' ok2 r => ?_⟩
    obtain ⟨B', φ', rfl, h3, h4, h5⟩ := hd
    exact q d _ v Hi' H' h5 s' (ok2.clsAt hi h3 h4) r
end
end Ab
/-! repr of data of any depth; memories read otherwise -/
namespace Ab
open PySem PySem.Spec PyProof.Rows L2
mutual
def dpV : Val → Nat
  | .non => 0
  | .bl _ => 0
  | .int _ => 0
  | .str _ => 0
  | .lst xs => dpVs xs + 1
  | .tup xs => dpVs xs + 1
  | .ty _ => 0
  | .ptr _ => 0
  | .obj _ _ => 0
  | .exc _ _ => 0
  | .lam _ _ => 0
def dpVs : List Val → Nat
  | [] => 0
  | x :: xs => max (dpV x) (dpVs xs)
end
section
variable {P : Val → Mem → Prop} {d : Val} {M M' : Mem} {B : Mem0} {p : Addr} {φ : Mem0 → Prop} {x : Cell} {i : Nat}
/-- a def's end: the cells go back into their box -/
theorem Ret.clsAt (hi : M[i]? = some (p, x)) (h : φ B) (hp : p ∈ B.map (·.1)) (hr : Ret P d (M.set i (p, .box φ))) : Ret P d (bs B ++ M.eraseIdx i) := .tr (fun _ _ _ ok => ok.clsAt hi h hp) hr
theorem Ret.cls (h : φ B) (hp : p ∈ B.map (·.1)) (hr : Ret P d ((p, .box φ) :: M)) : Ret P d (bs B ++ M) := .tr (fun _ _ _ ok => ok.cls h hp) hr
end
end Ab
/-! comparisons whose outcome is known; data compared -/
namespace Ab
open PySem PySem.Spec PyProof.Rows L2
mutual
def dtV : Val → Prop
  | .non => True
  | .bl _ => True
  | .int _ => True
  | .str x => PyData.strOk x = true
  | .lst xs => dtVs xs
  | .tup xs => dtVs xs
  | .ty _ => False
  | .ptr _ => False
  | .obj _ _ => False
  | .exc _ _ => False
  | .lam _ _ => False
def dtVs : List Val → Prop
  | [] => True
  | x :: xs => dtV x ∧ dtVs xs
end
structure DtD (v : Val) (p : PyData) : Prop where
  td : toD v = some p
  cl : p.canLay0 = true
  dp : p.depth ≤ dpV v
structure DtDs (v : List Val) (p : List PyData) : Prop where
  td : toDs v = some p
  cl : PyData.canLayAll0 p = true
  dp : PyData.depthAll p ≤ dpVs v
mutual
theorem dtd : ∀ (v : Val), dtV v → ∃ p, DtD v p
  | .non, _ => ⟨.none, by unfold toD; rfl, rfl, by simp [PyData.depth]⟩
  | .bl b, _ => ⟨.bool b, by unfold toD; rfl, rfl, by simp [PyData.depth]⟩
  | .int i, h => ⟨.int i, by unfold toD; rfl, rfl, by simp [PyData.depth]⟩
  | .str x, h => ⟨.str x, by unfold toD; rfl, by unfold dtV at h; unfold PyData.canLay0; exact h, by simp [PyData.depth]⟩
  | .lst xs, h => by
    unfold dtV at h
    obtain ⟨ps, q⟩ := dtds xs h
    exact ⟨.list ps, by unfold toD; rw [q.td]; rfl, by unfold PyData.canLay0; exact q.cl, by unfold PyData.depth dpV; have := q.dp; omega⟩
  | .tup xs, h => by
    unfold dtV at h
    obtain ⟨ps, q⟩ := dtds xs h
    exact ⟨.tuple ps, by unfold toD; rw [q.td]; rfl, by unfold PyData.canLay0; exact q.cl, by unfold PyData.depth dpV; have := q.dp; omega⟩
  | .ty _, h => h.elim
  | .ptr _, h => h.elim
  | .obj _ _, h => h.elim
  | .exc _ _, h => h.elim
  | .lam _ _, h => h.elim
theorem dtds : ∀ (v : List Val), dtVs v → ∃ p, DtDs v p
  | [], _ => ⟨[], rfl, rfl, by simp [PyData.depthAll]⟩
  | x :: xs, h => by
    unfold dtVs at h
    obtain ⟨p, q⟩ := dtd x h.1
    obtain ⟨ps, qs⟩ := dtds xs h.2
    exact ⟨p :: ps, by unfold toDs; rw [q.td, qs.td]; rfl, by unfold PyData.canLayAll0; rw [q.cl, qs.cl]; rfl, by unfold PyData.depthAll dpVs; have := q.dp; have := qs.dp; omega⟩
end
section
variable {X : Cx} {Γ : Gam} {M M' : Mem} {P : Val → Mem → Prop} {e a b c o : Expr} {pos p1 : Pos} {sts : List Stmt} {k : AK} {d d1 d2 v w : Val} {n : Nat} {i j : Int}
theorem cmp_neT (h : i ≠ j) : Cmp X .NotEq M (.int i) (.int j) true := cmp_neI.eq (by simp [h])
theorem cmp_gtF (h : i ≤ j) : Cmp X .Gt M (.int i) (.int j) false := cmp_gt.eq (by simp; omega)
theorem cmp_eqST {x y : Str} (h : x = y) : Cmp X .Eq M (.str x) (.str y) true := cmp_eqS.eq (by simp [h])
theorem ae_g0 {x : Str} {m : Nat} {ks : List Str} {sx : ASx} {kws : List Keyword} (G : Gd X.prog X.w X.K X.mg X.base n x ks sx) (hr : Rm m X.A) (hnm : n ≤ m) (h : aKw X kws Γ M fun zs M2 => zs.length = ks.length ∧ sx [] zs M2 P)
    (hg : Gl X x := by rfl) (hall : (backToKw pos (keywordEach kws X.env)).all (·.1.isSome) = true := by rfl) (hks : (backToKw pos (keywordEach kws X.env)).filterMap (·.1) = ks := by rfl) (hdb : (x == ("__debug__" : Str)) = false := by decide)
    (hpl : ((backTo pos (starEach [] X.env)).any (·.1) || (backToKw pos (keywordEach kws X.env)).any (·.1.isNone)) = false := by rfl) : aE X (.Call (.Name x p1) [] kws pos) Γ M P := by
  obtain ⟨f, F, hm, hk⟩ := G.ex
  exact ae_call0 F (hr.mono hnm) hm hk h hg hall hks hdb hpl
theorem av_powC {v : Int} (ha : aV X a Γ M (.int i)) (hb : aV X b Γ M (.int j)) (hc : CPow i j) (h : i ^ j.toNat = v) : aV X (.BinOp a .Pow b pos) Γ M (.int v) := by
  rw [← h]
  exact av_pow ha hb hc
end
end Ab
namespace Ab
open PySem PySem.Spec PyProof.Rows L2
section
variable {P : Program} {w : World} {K : PySem.W.Frag} {mg : Str → Option Value} {base : Heap}
/-- a def with defaults, called by positions and keywords in any way -/
theorem fnx_dflG {x qual : Str} {params : Arguments} {body : List Stmt} {sc : Scope} {dvs : List V} {kws : List (Str × V)} {f : Addr} {fd : FuncData} {N ps ks : List Str} {k n : Nat} {s0 : ASp} (g : {α : Type} → List α → List α → List α → List α) (F : FunD K x qual params body sc dvs kws f fd) (S : FnScope N ps sc) (hd : dvs ≠ []) (dd : List Val) (hdd : ∀ H, RepA K H dd dvs)
    (h : ∀ (T : Addr) (kV doc pm : Value) (an : Option Addr) (cdv ct : Value) (us ws its : List Value), us.length = n → ws.length = ks.length → its.length = dvs.length →
      ∃ k, bindArgs (PySem.W.fnOf x qual params body sc (.ref T) kV doc pm an cdv ct) ⟨us, ks.zip ws⟩ = seqItems? (.ref T) >>= k ∧ k (some its.toArray) = pure (ps.zip (g us ws its)))
    (hv : ∀ {vs zs ys : List V} {us ws its : List Value}, Vals vs us → Vals zs ws → Vals ys its → Vals (g vs zs ys) (g us ws its))
    (hr : ∀ {H : Hp} {ds es fs : List Val} {vs zs ys : List V}, RepA K H ds vs → RepA K H es zs → RepA K H fs ys → RepA K H (g ds es fs) (g vs zs ys))
    (len : ∀ ds M R, s0 ds M R → ds.length = ps.length) (hb : BodyOk P w K mg base k f N qual sc body s0) : FnX P w K mg base (k + 1) f ks (spX K fun ds es M R => ds.length = n ∧ s0 (g ds es dd) M R) := by
  obtain ⟨oc, od, dV, kV, doc, pm, an, cdv, ct, osl, e, lk, hcd, hD, hK⟩ := F.ex
  rcases hD with ⟨e, _⟩ | ⟨_, T, o, its, m, e2, lT, oT, rT⟩
  · exact absurd e hd
  · subst e2
    subst e
    have l1 : its.length = dvs.length := rT.length.symm
    refine fnx_kbn (n := n) (ks := ks) (fun ds es => g ds es dd) F S (g := fun us ws => g us ws its) (gV := fun vs zs => g vs zs dvs) ⟨fun s us ws X l2 h2 => ?_, fun r1 r2 => hv r1 r2 rT⟩ (fun H ds vs es zs r1 r2 _ _ => hr r1 r2 (hdd H)) len hb
    obtain ⟨k', e1, e2⟩ := h T kV doc pm an cdv ct us ws its l2 h2 l1
    refine BindsTo.of_looks fun M => ?_
    show PySem.W.Looks M s.heap (bindArgs _ ⟨us, ks.zip ws⟩) _
    rw [e1]
    exact looks_items X lT oT (.of_pure e2)
/-- a written tuple -/
theorem rep_wt {H : Hp} {a : Addr} {c : Value} {od : Option Addr} {its : List Value} {n : Nat} {sl : Array (Option Value)} {vs : List V} {ds : List Val} (l : K.lookup a = some ⟨c, od, .seq its.toArray n, sl⟩) (hc : c = .type "tuple") (hz : its.length ≤ sizeLine) (hv : Vals vs its) (r : RepA K H ds vs) : Rep K H (.tup ds) (.ref a) :=
  .tup (.inr ⟨_, _, _, l, hc, rfl, by simpa using hz, by simpa using hv⟩) r
end
end Ab
namespace K54
open PySem L2 Ab Sm
/-- a short stream -/
structure Sq3 (lo : Int) (s : Stm) : Prop where
  sq : Seq lo s
  a1 : ∀ v ∈ s.1, v ≤ 3
  a2 : ∀ v ∈ s.2, v ≤ 3
  l3 : s.1.length ≤ 3
theorem Sq3.it {lo : Int} {s : Stm} (h : Sq3 lo s) (i : Nat) : item s i ≤ 3 := by
  rcases item_mem h.sq.ne i with z | z
  · exact h.a1 _ z
  · exact h.a2 _ z
end K54
namespace Sm
/-! ### the value of a sequence of levels, as a limit -/
def ff (k : Int) (w : Nat → Int) : Nat → Int
  | 0 => 0
  | n + 1 => ff k w n * k + w n
structure Vl (k : Int) (w : Nat → Int) (x b : Int) : Prop where
  b0 : 0 < b
  bd : ∃ c : Int, ∀ n, -c ≤ x * k ^ n - b * ff k w n ∧ x * k ^ n - b * ff k w n ≤ c
/-! ### lowest terms -/
end Sm
/-! the mean gap as a fraction; blocks of leaves -/
namespace Sm
/-- a / b is k times the value of the levels w -/
structure Gq (k : Int) (w : Nat → Int) (a b : Nat) : Prop where
  b0 : 0 < b
  ex : ∃ x y, Vl k w x y ∧ 0 ≤ x ∧ (a : Int) * y = x * k * b
variable {k : Int} {w w1 w2 : Nat → Int} {a b a' b' a1 b1 a2 b2 : Nat} {x y : Int}
theorem Gq.of (hk : 2 ≤ k) (h : Vl k w x y) (h0 : 0 ≤ x) : Gq k w (x * k).toNat y.toNat := by
  have y0 := h.b0
  have xk : 0 ≤ x * k := Int.mul_nonneg h0 (by omega)
  exact ⟨by omega, x, y, h, h0, by rw [Int.toNat_of_nonneg xk, Int.toNat_of_nonneg (by omega)]⟩
/-! ### the place of a leaf, by counting and by the sum -/
theorem pl0_place {k : Nat} {s l : Nat → Int} {b : Nat} (hk : 2 ≤ k) : pl k s l 0 b = place k s l b := by
  rcases Nat.eq_zero_or_pos b with h | h
  · subst h
    rw [pl_zero, place_zero]
    simp [fp]
  · rw [pl_form h (lt_pow hk b) (Nat.lt_trans (lt_pow hk b) (Nat.pow_lt_pow_right (by omega) (Nat.lt_succ_self b))) hk]
    unfold place plT
    rw [smN_add, show ed k s l 0 = s 0 from rfl, show siz k l 0 = l 0 from rfl]
    have e1 : smN (fun j => if k ^ j ≤ b then s (0 + 1 + j) else 0) b = smN (fun j => if k ^ j ≤ b then s (j + 1) else 0) b := smN_congr fun j _ => by rw [show 0 + 1 + j = j + 1 by omega]
    have e2 : smN (fun j => ((b / k ^ (j + 1) : Nat) : Int) * l (0 + (j + 1))) b = smN (fun j => l (j + 1) * ((b / k ^ (j + 1) : Nat) : Int)) b := smN_congr fun j _ => by rw [Int.mul_comm, Nat.zero_add]
    rw [e1, e2, Int.sub_mul]
    omega
end Sm
namespace K54
open PySem L2 Ab Sm
/-! ### the draws of stage 4: a dict in a box -/
section
variable {P : Program} {w : World} {K : PySem.W.Frag} {mg : Str → Option Value} {base : Heap} {k : Nat} {f C C2 : Addr}
def sm4 (v : Int) : Prop := 0 ≤ v ∧ v ≤ 29
/-- a small stream of draws -/
structure Sg4 (s : Stm) : Prop where
  l1 : s.1.length ≤ 4
  l2 : s.2.length ≤ 3
  ne : s.2 ≠ []
  a1 : ∀ v ∈ s.1, sm4 v
  a2 : ∀ v ∈ s.2, sm4 v
theorem Sg4.lim {s : Stm} (h : Sg4 s) : Lim s := ⟨by have := h.l1; omega, by have := h.l2; omega, h.ne, fun v hv => ⟨(h.a1 v hv).1, by have := (h.a1 v hv).2; omega⟩, fun v hv => ⟨(h.a2 v hv).1, by have := (h.a2 v hv).2; omega⟩⟩
theorem Sg4.item {s : Stm} (h : Sg4 s) (i : Nat) : sm4 (item s i) := by
  rcases item_mem h.ne i with z | z
  · exact h.a1 _ z
  · exact h.a2 _ z
/-! ### _law_item -/
end
end K54
namespace K54
open PySem L2 Ab Sm
section
variable {P : Program} {w : World} {K : PySem.W.Frag} {mg : Str → Option Value} {base : Heap} {k : Nat} {f C C2 : Addr}
/-! ### _law_lowest -/
/-! ### check_integer with both limits, grafted -/
def aChk3 : ASp := fun ds M R => ∃ n lo hi, ds = [.int n, .int lo, .int hi] ∧ lo ≤ n ∧ n ≤ hi ∧ R .non M
theorem b_check_integer3 (G : GInt P w K mg base) : BodyOk P w K mg base 1 f n_check_integer "check_integer" (defScope s_check_integer) (defBody s_check_integer) aChk3 := by
  rintro cdv A outer s H E hr ds M R ⟨n, lo, hi, rfl, hle, hhi, hp⟩
  refine as_one (as_if (at_not (at_val (ae_g G hr (by decide) (aa_cons ((v_ 0).val (aa_nil (ak_cons ((v_ 1).val (ak_cons ((v_ 2).val (ak_nil ⟨rfl, rfl, n, some lo, some hi, rfl, true, ?_, nft, fun _ => as_nil (.ok hp)⟩))))))))))))
  have e : within n (some lo) (some hi) = true := by simp [within]; exact ⟨hle, hhi⟩
  rw [e]
abbrev GChk3 (P : Program) (w : World) (K : PySem.W.Frag) (mg : Str → Option Value) (base : Heap) : Prop := Gd P w K mg base 2 "check_integer" [] fun ds _ => aChk3 ds
/-! ### Schedule(a), Schedule(a, levels=l), Schedule(a, spine=s) -/
/-- a method by its name -/
abbrev Mt (P : Program) (w : World) (K : PySem.W.Frag) (mg : Str → Option Value) (base : Heap) (C : Addr) (n : Nat) (m : Str) (s : ASp) : Prop := ∃ f, Meth K C m f ∧ FX P w K mg base n f fun ds _ => s ds
end
end K54
/-! S22: texts of schedules: words read one by one, the machine that says which word is wrong -/
namespace Tx
open PySem TL Sm
def iS (i : Int) : Str := toString i
def dgs (w : Str) : Bool := (tl w).all fun c => decide (48 ≤ c) && decide (c ≤ 57)
/-- the number that a word denotes -/
def num? (w : Str) : Option Int :=
  if (tl w).length = 0 ∨ 7 < (tl w).length ∨ dgs w = false then none else if (tl w).head? = some 48 ∧ tl w ≠ [48] then none else some ((NumText.digitsVal (tl w) : Nat) : Int)
def rd (w : Str) (lo hi : Int) : Option Int := match num? w with
  | none => none
  | some n => if lo ≤ n ∧ n ≤ hi then some n else none
/-! ### the machine -/
inductive Pt
  | ar | b1 | f1 | l1 | b2 | f2 | l2 | en
  deriving DecidableEq
def Pt.str : Pt → Str
  | .ar => "arity" | .b1 => "bar" | .f1 => "front" | .l1 => "loop" | .b2 => "bars" | .f2 => "fronts" | .l2 => "loops" | .en => "end"
abbrev St := Pt × Nat × Int
def nm (w : Str) : Int := (num? w).getD (-1)
def step (st : St) (w : Str) : Option St :=
  if st.1 = .ar ∧ 2 ≤ nm w ∧ nm w ≤ 9 then some (.b1, st.2.1, 0)
  else if (st.1 = .b1 ∨ st.1 = .b2) ∧ w = "|" then some (if st.1 = .b2 then .f2 else .f1, 0, if st.1 = .b2 then 1 else 0)
  else if (st.1 = .f1 ∨ st.1 = .f2) ∧ (st.2.2 ≤ nm w ∧ nm w ≤ 1000000) ∧ 0 ≤ nm w ∧ st.2.1 < 12 then some (st.1, st.2.1 + 1, 0)
  else if (st.1 = .f1 ∨ st.1 = .f2) ∧ w = "(" then some (if st.1 = .f2 then .l2 else .l1, 0, st.2.2)
  else if (st.1 = .l1 ∨ st.1 = .l2) ∧ (st.2.2 ≤ nm w ∧ nm w ≤ 1000000) ∧ 0 ≤ nm w ∧ st.2.1 < 6 then some (st.1, st.2.1 + 1, 0)
  else if (st.1 = .l1 ∨ st.1 = .l2) ∧ w = ")" ∧ 0 < st.2.1 then some (if st.1 = .l2 then .en else .b2, st.2.1, st.2.2)
  else none
def exT {α : Type} : Except Nat α → Nat
  | .error k => k
  | .ok _ => 0
def fP (x : Bool) : Pt := if x then .f2 else .f1
theorem step_item (x : Bool) {m : Nat} {lw n : Int} {w : Str} (hn : nm w = n) (h1 : lw ≤ n) (h2 : n ≤ 1000000) (h0 : 0 ≤ n) (hm : m < 12) : step (fP x, m, lw) w = some (fP x, m + 1, 0) := by
  cases x <;> (unfold step; simp [fP, hn, h1, h2, h0, hm])
/-! ### what is read -/
/-! ### texts read back -/
/-! ### the text of a schedule is its words joined -/
end Tx
/-! defs that say super(): judgements at the def's own code -/
namespace Ab
open PySem PySem.Spec PyProof.Rows L2 NdefX
structure ZR (X : Cx) (pins : List (Addr × Obj)) (Hi : Hp) (k : AK) (Φ : Flow → Shared → Prop) : Prop where
  nx : ∀ Γ M σ Hi' H' s', k.nx Γ M → Same Hi Hi' → Ok X.K Hi' M H' → EnvR X.K Hi' Γ σ → Inv X pins σ H' s' → Φ .next s'
  rt : ∀ d M v u σ Hi' H' s', k.rt d M → Same Hi Hi' → Ok X.K Hi' M H' → Rep X.K Hi' d v → Inv X pins σ H' s' → RelV v u → Φ (.ret u) s'
  bk : ∀ Γ M σ Hi' H' s', k.bk Γ M → Same Hi Hi' → Ok X.K Hi' M H' → EnvR X.K Hi' Γ σ → Inv X pins σ H' s' → Φ .brk s'
  ct : ∀ Γ M σ Hi' H' s', k.ct Γ M → Same Hi Hi' → Ok X.K Hi' M H' → EnvR X.K Hi' Γ σ → Inv X pins σ H' s' → Φ .cont s'
theorem ZR.up {X : Cx} {pins : List (Addr × Obj)} {Hi Hi1 : Hp} {k : AK} {Φ : Flow → Shared → Prop} (h : ZR X pins Hi k Φ) (e : Same Hi Hi1) : ZR X pins Hi1 k Φ :=
  ⟨fun Γ M σ Hi' H' s' p q => h.nx Γ M σ Hi' H' s' p (e.trans q), fun d M v u σ Hi' H' s' p q => h.rt d M v u σ Hi' H' s' p (e.trans q), fun Γ M σ Hi' H' s' p q => h.bk Γ M σ Hi' H' s' p (e.trans q), fun Γ M σ Hi' H' s' p q => h.ct Γ M σ Hi' H' s' p (e.trans q)⟩
end Ab
/-! methods of instances that stand in boxes -/
namespace Ab
open PySem PySem.Spec PyProof.Rows L2
/-- d is an instance of the class at C without an attribute m of its own -/
def ObM (M : Mem) (C : Addr) (d : Val) (m : Str) : Prop := ∀ K Hi H v, Ok K Hi M H → Rep K Hi d v → ∃ p dx gs, v = .ref p ∧ H p = some (.ins C dx gs) ∧ gs.lookup m = none
theorem Ob.obM {M : Mem} {C : Addr} {d : Val} {fs : List (Str × Val)} {m : Str} (h : Ob M C d fs) (hl : fs.lookup m = none) : ObM M C d m := fun K Hi H v ok r => by
  obtain ⟨p, dx, gs, h1, h2, h3⟩ := h.rep ok r
  exact ⟨p, dx, gs, h1, h2, h3.none hl⟩
theorem obm_box {M : Mem} {i : Nat} {c C : Addr} {m : Str} {φ : Mem0 → Prop} (hi : M[i]? = some (c, .box φ)) (hφ : ∀ B, φ B → ∃ fs, (c, Cell0.ins C fs) ∈ B ∧ fs.lookup m = none) : ObM M C (.ptr c) m := fun K Hi H v ok r => by
  obtain ⟨B, h1, _, ok'⟩ := ok.opn hi
  obtain ⟨fs, h3, h4⟩ := hφ B h1
  have hm : (c, Cell.b (.ins C fs)) ∈ bs B ++ M.eraseIdx i := List.mem_append_left _ (List.mem_map.mpr ⟨_, h3, rfl⟩)
  obtain ⟨_, o, ho, dx, gs, rfl, rf⟩ := ok'.ce c _ hm
  cases r
  exact ⟨c, dx, gs, rfl, ho, rf.none h4⟩
section
variable {X : Cx} {Γ : Gam} {M : Mem} {P : Val → Mem → Prop} {e a b c o : Expr} {es : List Expr} {kws : List Keyword} {pos p1 p2 apos kpos : Pos} {k : AK} {d d1 d2 d3 : Val} {i j : Int} {x y m : Str} {n : Nat} {f C : Addr} {ks : List Str} {sx : ASx}
theorem ae_methG {pl : Sem Bool} (c : Cls X.K C) (hm : Meth X.K C m f) (F : FnX X.prog X.w X.K X.mg X.base n f ks (spX X.K sx)) (hr : Rm n X.A)
    (h : aE X o Γ M fun d M0 => ObM M0 C d m ∧ aA X (e :: es) Γ M0 fun ds M1 => aKw X kws Γ M1 fun zs M2 => zs.length = ks.length ∧ sx (d :: ds) zs M2 P)
    (hall : (backToKw pos (keywordEach kws X.env)).all (·.1.isSome) = true := by rfl) (hks : (backToKw pos (keywordEach kws X.env)).filterMap (·.1) = ks := by rfl)
    (he : starEach (e :: es) X.env = (false, eval e X.env) :: starEach es X.env := by rfl) (hpl : ((backTo pos (starEach (e :: es) X.env)).any (·.1) || (backToKw pos (keywordEach kws X.env)).any (·.1.isNone)) = false := by rfl)
    (ht : eval (.Call (.Attribute o m apos) (e :: es) kws pos) X.env = (do
      let ov ← eval o X.env
      standAt apos.atName
      let (f, first) ← holding [ov] (getMethod ov m pl)
      callWith pos f first (backTo pos (starEach (e :: es) X.env)) (backToKw pos (keywordEach kws X.env))) := by rfl) : aE X (.Call (.Attribute o m apos) (e :: es) kws pos) Γ M P := fun Hi H σ ok en Q q => by
  refine ⟨fun σ H Q => WE X o σ H fun x H0 => ∃ a dx fs, x = .ref a ∧ H0 a = some (.ins C dx fs) ∧ fs.lookup m = none ∧ WA X (e :: es) σ H0 fun vs H1 => WK X kws σ H1 fun zs H2 => zs.length = ks.length ∧ spX X.K sx (x :: vs) zs H2 Q, ⟨fun pins s σ H Q I h => ?_⟩, ?_⟩
  · refine PySem.W.methodCall_KW (pl := pl) (thn (pe_we.run pins s σ H _ I h) fun u s1 ⟨x, H1, I1, rx, a, dx, fs, ex, ea, l, q⟩ => ?_) ht
    subst ex
    obtain rfl : u = Value.ref a := rx
    refine getmeth_ok I1 ea c hm l ?_
    refine PySem.W.callWith_KW (first := [.ref a]) (h₀ := X.base) I.ok.mod.kin hm.kp hall (thn (pa_wa.run pos pins s1 σ H1 _ I1 q) fun us s2 ⟨vs, H2, I2, r, q2⟩ => ?_) hpl he
    refine thn (pk_wk.run pos pins s2 σ H2 _ I2 q2) fun ws s3 ⟨zs, H3, I3, rz, l2, q3⟩ => ⟨I3.kIn, ?_⟩
    rw [hks]
    exact run_x (us := .ref a :: us) (vs := .ref a :: vs) F hr I3 (.cons rfl r) rz l2 q3
  · refine h Hi H σ ok en _ fun x M0 v0 Hi0 H0 h0 s0 ok0 r0 => ?_
    obtain ⟨hob, h0⟩ := h0
    obtain ⟨p, dx, gs, rfl, hp, hn⟩ := hob _ _ _ _ ok0 r0
    refine ⟨p, dx, gs, rfl, hp, hn, ?_⟩
    refine h0 Hi0 H0 σ ok0 (en.mono s0) _ fun ds M1 vs Hi1 H1 h1 s1 ok1 r1 => ?_
    refine h1 Hi1 H1 σ ok1 (en.mono (s0.trans s1)) _ fun zs M2 ws Hi2 H2 h2 s2 ok2 r2 => ?_
    exact ⟨r2.length.symm.trans h2.1, Hi2, M2, _ :: ds, zs, P, .cons (r0.mono (s1.trans s2)) (r1.mono s2), r2, ok2, h2.2, q.up ((s0.trans s1).trans s2)⟩
theorem ae_methG0 {pl : Sem Bool} (c : Cls X.K C) (hm : Meth X.K C m f) (F : FnX X.prog X.w X.K X.mg X.base n f ks (spX X.K sx)) (hr : Rm n X.A)
    (h : aE X o Γ M fun d M0 => ObM M0 C d m ∧ aKw X kws Γ M0 fun zs M2 => zs.length = ks.length ∧ sx [d] zs M2 P)
    (hall : (backToKw pos (keywordEach kws X.env)).all (·.1.isSome) = true := by rfl) (hks : (backToKw pos (keywordEach kws X.env)).filterMap (·.1) = ks := by rfl)
    (hpl : ((backTo pos (starEach [] X.env)).any (·.1) || (backToKw pos (keywordEach kws X.env)).any (·.1.isNone)) = false := by rfl)
    (ht : eval (.Call (.Attribute o m apos) [] kws pos) X.env = (do
      let ov ← eval o X.env
      standAt apos.atName
      let (f, first) ← holding [ov] (getMethod ov m pl)
      callWith pos f first (backTo pos (starEach [] X.env)) (backToKw pos (keywordEach kws X.env))) := by rfl) : aE X (.Call (.Attribute o m apos) [] kws pos) Γ M P := fun Hi H σ ok en Q q => by
  refine ⟨fun σ H Q => WE X o σ H fun x H0 => ∃ a dx fs, x = .ref a ∧ H0 a = some (.ins C dx fs) ∧ fs.lookup m = none ∧ WK X kws σ H0 fun zs H2 => zs.length = ks.length ∧ spX X.K sx [x] zs H2 Q, ⟨fun pins s σ H Q I h => ?_⟩, ?_⟩
  · refine PySem.W.methodCall_KW (pl := pl) (thn (pe_we.run pins s σ H _ I h) fun u s1 ⟨x, H1, I1, rx, a, dx, fs, ex, ea, l, q⟩ => ?_) ht
    subst ex
    obtain rfl : u = Value.ref a := rx
    refine getmeth_ok I1 ea c hm l ?_
    refine PySem.W.callWith_KW0 (first := [.ref a]) (h₀ := X.base) I.ok.mod.kin hm.kp hall ?_ hpl
    refine thn (pk_wk.run pos pins s1 σ H1 _ I1 q) fun ws s3 ⟨zs, H3, I3, rz, l2, q3⟩ => ⟨I3.kIn, ?_⟩
    rw [hks]
    exact run_x (us := [.ref a]) (vs := [.ref a]) F hr I3 (.cons rfl .nil) rz l2 q3
  · refine h Hi H σ ok en _ fun x M0 v0 Hi0 H0 h0 s0 ok0 r0 => ?_
    obtain ⟨hob, h0⟩ := h0
    obtain ⟨p, dx, gs, rfl, hp, hn⟩ := hob _ _ _ _ ok0 r0
    refine ⟨p, dx, gs, rfl, hp, hn, ?_⟩
    refine h0 Hi0 H0 σ ok0 (en.mono s0) _ fun zs M2 ws Hi2 H2 h2 s2 ok2 r2 => ?_
    exact ⟨r2.length.symm.trans h2.1, Hi2, M2, [_], zs, P, .cons (r0.mono s2) .nil, r2, ok2, h2.2, q.up (s0.trans s2)⟩
/-- o.m(), o.m(e), o.m(e, b), o.m(k = e), by a promise that hides the address -/
theorem ae_m0 {n q : Nat} {s : ASp} {pl : Sem Bool} (c : Cls X.K C) (F : ∃ f, Meth X.K C m f ∧ FX X.prog X.w X.K X.mg X.base n f fun ds _ => s ds) (hr : Rm q X.A) (hq : n ≤ q) (h : aE X o Γ M fun d M0 => ObM M0 C d m ∧ s [d] M0 P)
    (ht : eval (.Call (.Attribute o m apos) [] [] pos) X.env = (do
      let ov ← eval o X.env
      standAt apos.atName
      let (f, first) ← holding [ov] (getMethod ov m pl)
      callWith pos f first (backTo pos (starEach [] X.env)) (backToKw pos (keywordEach [] X.env))) := by rfl) : aE X (.Call (.Attribute o m apos) [] [] pos) Γ M P := by
  obtain ⟨f, mt, F⟩ := F
  exact ae_methG0 c mt F (hr.mono hq) (h.mono fun d M0 ⟨h1, h2⟩ => ⟨h1, ak_nil ⟨rfl, h2⟩⟩) rfl rfl rfl ht
theorem ae_m1 {n q : Nat} {s : ASp} {pl : Sem Bool} (c : Cls X.K C) (F : ∃ f, Meth X.K C m f ∧ FX X.prog X.w X.K X.mg X.base n f fun ds _ => s ds) (hr : Rm q X.A) (hq : n ≤ q) (h : aE X o Γ M fun d M0 => ObM M0 C d m ∧ aE X e Γ M0 fun x M1 => s [d, x] M1 P)
    (hst : starEach [e] X.env = (false, eval e X.env) :: starEach [] X.env := by rfl)
    (ht : eval (.Call (.Attribute o m apos) [e] [] pos) X.env = (do
      let ov ← eval o X.env
      standAt apos.atName
      let (f, first) ← holding [ov] (getMethod ov m pl)
      callWith pos f first (backTo pos (starEach [e] X.env)) (backToKw pos (keywordEach [] X.env))) := by rfl) : aE X (.Call (.Attribute o m apos) [e] [] pos) Γ M P := by
  obtain ⟨f, mt, F⟩ := F
  exact ae_methG c mt F (hr.mono hq) (h.mono fun d M0 ⟨h1, h2⟩ => ⟨h1, aa_cons (h2.mono fun x M1 hx => aa_nil (ak_nil ⟨rfl, hx⟩)) hst⟩) rfl rfl hst (by rw [hst]; rfl) ht
theorem ae_m2 {n q : Nat} {s : ASp} {pl : Sem Bool} (c : Cls X.K C) (F : ∃ f, Meth X.K C m f ∧ FX X.prog X.w X.K X.mg X.base n f fun ds _ => s ds) (hr : Rm q X.A) (hq : n ≤ q) (h : aE X o Γ M fun d M0 => ObM M0 C d m ∧ aE X e Γ M0 fun x M1 => aE X b Γ M1 fun y M2 => s [d, x, y] M2 P)
    (hst : starEach [e, b] X.env = (false, eval e X.env) :: starEach [b] X.env := by rfl) (hst2 : starEach [b] X.env = (false, eval b X.env) :: starEach [] X.env := by rfl)
    (ht : eval (.Call (.Attribute o m apos) [e, b] [] pos) X.env = (do
      let ov ← eval o X.env
      standAt apos.atName
      let (f, first) ← holding [ov] (getMethod ov m pl)
      callWith pos f first (backTo pos (starEach [e, b] X.env)) (backToKw pos (keywordEach [] X.env))) := by rfl) : aE X (.Call (.Attribute o m apos) [e, b] [] pos) Γ M P := by
  obtain ⟨f, mt, F⟩ := F
  exact ae_methG c mt F (hr.mono hq) (h.mono fun d M0 ⟨h1, h2⟩ => ⟨h1, aa_cons (h2.mono fun x M1 hx => aa_cons (hx.mono fun y M2 hy => aa_nil (ak_nil ⟨rfl, hy⟩)) hst2) hst⟩) rfl rfl hst (by rw [hst, hst2]; rfl) ht
/-- max(a, b), min(a, b), their parts changing cells -/
theorem ae_maxM (hm : X.mg "max" = none) (hc : X.calm = true) (h : aE X a Γ M fun x M1 => aE X b Γ M1 fun y M2 => ∃ i j, x = .int i ∧ y = .int j ∧ P (.int (max i j)) M2) (hg : Gl X "max" := by rfl)
    (hs : starEach [a, b] X.env = (false, eval a X.env) :: starEach [b] X.env := by rfl) (hs2 : starEach [b] X.env = (false, eval b X.env) :: starEach [] X.env := by rfl) (hpl : (backTo pos (starEach [b] X.env)).any (·.1) = false := by rfl) : aE X (.Call (.Name "max" p1) [a, b] [] pos) Γ M P := by
  refine ae_callB (call_max2 hc) hm boot_max (aa_cons (h.mono fun x M1 h1 => aa_cons (h1.mono fun y M2 h2 => aa_nil ?_) hs2) hs) hg (he := hs) (hpl := hpl)
  obtain ⟨i, j, rfl, rfl, hp⟩ := h2
  intro Hi H vs ok r Q q
  cases r with
  | cons r1 r =>
    cases r with
    | cons r2 r =>
      cases r
      cases r1
      cases r2
      refine ⟨i, j, rfl, q _ _ _ Hi H hp (Same.refl _) ok ?_⟩
      have : (if j > i then j else i) = max i j := by split <;> omega
      rw [this]
      exact .int _
end
end Ab
/-! two keywords in the other order -/
namespace Ab
open PySem PySem.Spec PyProof.Rows L2
end Ab
/-! list.extend -/
namespace Ab
open PySem PySem.Spec PyProof.Rows L2
end Ab
/-! Ab35: statements that end in more than one way are joined; boxes are weakened. -/
namespace Ab
open PySem PySem.Spec PyProof.Rows L2
section
variable {X : Cx} {Γ Γ1 : Gam} {M : Mem} {k : AK} {st : Stmt} {sts : List Stmt} {p : Addr} {φ φ' : Mem0 → Prop}
theorem aS.mono {k' : AK} (h : aS X st Γ M k) (f1 : ∀ Γ M, k.nx Γ M → k'.nx Γ M) (f2 : ∀ d M, k.rt d M → k'.rt d M) (f3 : ∀ Γ M, k.bk Γ M → k'.bk Γ M) (f4 : ∀ Γ M, k.ct Γ M → k'.ct Γ M) : aS X st Γ M k' := fun Hi H σ ok en D q =>
  h Hi H σ ok en D ⟨fun Γ M σ Hi' H' p => q.nx Γ M σ Hi' H' (f1 Γ M p), fun d M v Hi' H' p => q.rt d M v Hi' H' (f2 d M p), fun Γ M σ Hi' H' p => q.bk Γ M σ Hi' H' (f3 Γ M p), fun Γ M σ Hi' H' p => q.ct Γ M σ Hi' H' (f4 Γ M p)⟩
end
end Ab
/-! Ab36: own exception classes over any built-in base: made by an own __init__ that calls the base's and stores fields. -/
namespace Ab
open PySem PySem.Spec PyProof.Rows L2
structure XCl (K : PySem.W.Frag) (C : Addr) (B newId initId : String) (tl : List Value) : Prop where
  fb : ExcBaseFacts B newId initId tl
  sf : StoreFacts B tl "object.__setattr__" "object"
  ini : PySem.W.excInitIn K C tl newId = true
  ovr : PySem.W.excOver K C tl = true
  hd : PySem.W.hasDictIn K C = true
  sa : PySem.W.findIn K (.ref C) "__setattr__" = some (some (.builtin "object.__setattr__"))
  exC : PySem.W.subIn K (.ref C) (.type "BaseException") = some true
  tyC : PySem.W.typeIn K (.ref C) = some (.type "type")
  kC : PySem.W.keepIn K (.ref C) = true
section
open Builtin.ObjectAttr
variable {prog : Program} {w : World} {A : Around} {E : Value → Shared → Prop} {R : Result → Shared → Prop} {hp : Heap} {g : Array GenState} {d : Drawn} {t : Nat} {os : OsState}
variable {K : PySem.W.Frag} {C : Addr} {B newId initId : String} {tl : List Value}
theorem XCl.cd (T : XCl K C B newId initId tl) : ∃ cd, PySem.W.clsIn K C = some cd ∧ cd.hasDict = true := by
  have h0 := T.hd
  unfold PySem.W.hasDictIn at h0
  cases e : PySem.W.clsIn K C with
  | none => simp [e] at h0
  | some c0 => exact ⟨c0, rfl, by simpa [e] using h0⟩
/-- the first field -/
theorem xo_new {nm : Str} {tk : Tok} {v : Value} {x : Addr} {fv : Array Value} (T : XCl K C B newId initId tl) (KX : K.In hp) (hx : hp.get? x = some { cls := .ref C, data := .fields fv }) (ha : PySem.W.findIn K (.ref C) nm = some none)
    (hq : ∀ h' tk' dx, (∀ b o, b ≠ x → hp.get? b = some o → h'.get? b = some o) → hp.objs.size ≤ dx → dx ≠ x → h'.get? x = some { cls := .ref C, dict := some dx, data := .fields fv } → h'.Ns1 dx (fun y => if y = nm then some v else none) → R (.ok (.ret .none)) ⟨h', g, d, tk', os⟩) :
    codeAny (model prog w) A (.call (.builtin "object.__setattr__") ⟨[.ref x, .str nm tk, v], []⟩) R ⟨hp, g, d, t, os⟩ := by
  obtain ⟨cd, hcd, hdd⟩ := T.cd
  have hxs : x ≠ hp.objs.size := Nat.ne_of_lt (Heap.lt_size hx)
  have Lc : PySem.W.Looks (model prog w) hp (classData C) cd := PySem.W.looks_clsIn KX hcd
  refine PySem.W.osa_openX (od := none) T.sf KX (⟨hx, rfl, rfl, trivial⟩ : PySem.W.InstAt hp x { cls := .ref C, data := .fields fv } C none) T.ovr (r := none) (by unfold PySem.W.takerIn; rw [ha]; rfl) fun b0 => ?_
  show wpAny _ _ (storeInOwnDict (.ref x) (.ref C) (.str nm tk) nm v b0) _ _ _
  obtain ⟨n0, b1, b2, b3, b4, b5, b6, b7, b8, b9, b10⟩ := cd
  dsimp only at hdd
  subst hdd
  unfold storeInOwnDict ownDictForStores
  repeat (first | with_reducible refine PySem.HandSPX.store_in_new ?_ ?_ | with_reducible refine wpAny_loadPart_at hx ?_ | with_reducible refine Lc.at ?_ | wp_step)
  · exact ⟨_, #[], _, (Heap.get?_update_ne _ _ _ _ hxs.symm).trans (Heap.get?_push_at rfl rfl), rfl, fun z1 z2 => absurd z2 (by simp), fun _ => rfl⟩
  · intro h' tk' hn' hs
    have hx1 : (hp.push { cls := .type "dict", data := .dict #[] }).get? x = some { cls := .ref C, data := .fields fv } := Heap.get?_push_of_some _ hx
    refine hq h' tk' hp.objs.size (fun b1 o1 z1 z2 => ?_) (Nat.le_refl _) hxs.symm ?_ hn'
    · exact (hs.2 b1 (Nat.ne_of_lt (Heap.lt_size z2))).trans ((Heap.get?_update_ne _ _ _ _ z1).trans (Heap.get?_push_of_some _ z2))
    · exact (hs.2 x hxs).trans (Heap.get?_update_self _ hx1 rfl)
/-- a further field -/
theorem xo_old {nm : Str} {tk : Tok} {v : Value} {x dx : Addr} {fv : Array Value} {m0 : Str → Option Value} {nl : List Str} (T : XCl K C B newId initId tl) (KX : K.In hp) (hx : hp.get? x = some { cls := .ref C, dict := some dx, data := .fields fv }) (hns : hp.Ns1 dx m0) (hw : Within m0 nl) (hz : nl.length ≤ 1000) (ha : PySem.W.findIn K (.ref C) nm = some none)
    (hq : ∀ h' tk', (∀ b o, b ≠ dx → hp.get? b = some o → h'.get? b = some o) → h'.Ns1 dx (fun y => if y = nm then some v else m0 y) → R (.ok (.ret .none)) ⟨h', g, d, tk', os⟩) :
    codeAny (model prog w) A (.call (.builtin "object.__setattr__") ⟨[.ref x, .str nm tk, v], []⟩) R ⟨hp, g, d, t, os⟩ := by
  obtain ⟨cd, hcd, hdd⟩ := T.cd
  obtain ⟨o2, _, _, ho2, _, _⟩ := hns.count hw
  have Lc : PySem.W.Looks (model prog w) hp (classData C) cd := PySem.W.looks_clsIn KX hcd
  refine PySem.W.osa_openX (od := some o2) T.sf KX (⟨hx, rfl, rfl, ho2⟩ : PySem.W.InstAt hp x { cls := .ref C, dict := some dx, data := .fields fv } C (some o2)) T.ovr (r := none) (by unfold PySem.W.takerIn; rw [ha]; rfl) fun b0 => ?_
  show wpAny _ _ (storeInOwnDict (.ref x) (.ref C) (.str nm tk) nm v b0) _ _ _
  obtain ⟨n0, b1, b2, b3, b4, b5, b6, b7, b8, b9, b10⟩ := cd
  dsimp only at hdd
  subst hdd
  unfold storeInOwnDict ownDictForStores
  repeat (first | with_reducible refine PySem.OEX.store_in_old hns hw hz ?_ | with_reducible refine wpAny_loadPart_at hx ?_ | with_reducible refine Lc.at ?_ | wp_step)
  intro h' tk' hn' hs
  exact hq h' tk' (fun b1 o1 z1 z2 => (hs.2 b1 z1).trans z2) hn'
end
section
variable {X : Cx} {pins : List (Addr × Obj)} {σ : L2.St} {H : Hp} {s : Shared} {a C dx : Addr} {f : Str} {y : V} {u : Value} {fs : List (Str × V)} {E : Value → Shared → Prop} {A : Around} {B newId initId : String} {tl : List Value}
/-- Base.__init__(self, ..): nothing of it is told -/
theorem x_init {us : List Value} {Q : Value → Shared → Prop} (T : XCl X.K C B newId initId tl) (I : Inv X pins σ H s) (e : H a = some (exo a C none)) (hl : us.length ≤ sizeLine) (h : ∀ s', Inv X pins σ H s' → Q .none s') :
    wpAny (model X.prog X.w) A (call (.builtin initId) (.ref a :: us)) Q E s := by
  obtain ⟨t1, w1⟩ := exo_at I.hok e
  obtain ⟨n1, n2, n3, n4, bm, n5, n6, n7, n8, n9, n10, n11, n12, n13, n14, n15, hC, hT⟩ := PySem.W.excInit_of I.kIn T.ini
  obtain ⟨hp, g, d, t, os⟩ := s
  refine wpAny_call (PySem.HandSPX.init_base T.fb hT hC w1 hl fun h' t2 k1 w2 => ?_)
  have J := Inv.write (t' := t) (x := a) (o := exo a C none) I (by rw [e]; exact True.intro) (.inl rfl) k1 ⟨_, w2⟩ (exo_ok w2)
  rw [show upd H a (exo a C none) = H from funext fun b => by
    by_cases hb : b = a
    · subst hb; rw [upd_same, e]
    · exact upd_ne hb] at J
  exact h _ J
/-- self.f = y, the first field -/
theorem x_new {Q : Unit → Shared → Prop} (T : XCl X.K C B newId initId tl) (I : Inv X pins σ H s) (e : H a = some (exo a C none)) (hno : PySem.W.findIn X.K (.ref C) f = some none) (ry : RelV y u)
    (h : ∀ dx s', H dx = none → dx ≠ a → Inv X pins σ (upd (upd H dx (exd dx [(f, y)])) a (exo a C (some dx))) s' → Q () s') : wpAny (model X.prog X.w) A (setAttr (.ref a) f u) Q E s := by
  obtain ⟨t1, w1⟩ := exo_at I.hok e
  obtain ⟨hp, g, d, t, os⟩ := s
  refine PySem.W.set_plain I.kIn (od := none) (ox := { cls := .ref C, dict := none, data := .fields #[.ref t1, .none, .none, .none, .bool false, .none] }) ⟨w1, rfl, rfl, trivial⟩ T.sa ?_
  refine xo_new T I.kIn w1 hno (fun h' tk' dx k1 dn dne w2 hn => ?_)
  have hnd : H dx = none := I.hok.fresh dn
  have nd : ∀ {b : Addr} {o : Obj}, hp.get? b = some o → b ≠ dx := fun {b o} z => Nat.ne_of_lt (Nat.lt_of_lt_of_le (Heap.lt_size z) dn)
  have na : ∀ {b : Addr}, H b = none → b ≠ a := fun {b} z1 z2 => by
    subst z2
    rw [e] at z1
    cases z1
  refine h dx _ hnd dne (I.un (t' := tk') ⟨fun b o z z2 _ _ => k1 b o (na z2) z, fun b o z z2 _ _ => ⟨o.slots, k1 b o (na z2) z⟩, fun b o z z2 _ => by rw [upd_ne (na z2), upd_ne (nd z)]; exact z2, fun b o z _ => ?_, fun b xs z => ?_, fun b o v z => ?_, fun b ps z => ?_⟩ fun b o z => ?_)
  · by_cases hb : b = a
    · subst hb
      exact ⟨_, w2⟩
    · exact ⟨o, k1 b o hb z⟩
  · rw [upd_ne (at_ne e z exo_tup), upd_ne (ne_of_none z hnd)]
    exact z
  · rw [upd_ne (at_ne e z exo_frz), upd_ne (ne_of_none z hnd)]
    exact z
  · refine ⟨#[], ?_⟩
    rw [upd_ne (at_ne e z exo_tbl), upd_ne (ne_of_none z hnd), z]
    simp
  · by_cases hb : b = a
    · subst hb
      rw [upd_same] at z
      cases z
      exact exo_ok w2
    · rw [upd_ne hb] at z
      by_cases hd : b = dx
      · subst hd
        rw [upd_same] at z
        cases z
        exact exd_ok hn (relO_put (fs := []) ry fun _ => True.intro)
      · rw [upd_ne hd] at z
        refine (I.hok b o z).stay (fun c v hc z2 => k1 c v ?_ z2) (fun c hc => ?_) (fun c xs hc => ?_)
        · rcases hc with z3 | z3
          · rw [z3]; exact hb
          · exact at_ne e z3 exo_own
        · rw [upd_ne (at_ne e hc exo_own), upd_ne (ne_of_none hc hnd)]
          exact hc
        · rw [upd_ne (at_ne e hc exo_tup), upd_ne (ne_of_none hc hnd)]
          exact hc
/-- self.f = y, a further field -/
theorem x_old {Q : Unit → Shared → Prop} (T : XCl X.K C B newId initId tl) (I : Inv X pins σ H s) (e : H a = some (exo a C (some dx))) (ed : H dx = some (exd dx fs)) (hl : fs.length ≤ 900) (hno : PySem.W.findIn X.K (.ref C) f = some none) (ry : RelV y u)
    (h : ∀ s', Inv X pins σ (upd H dx (exd dx ((f, y) :: fs))) s' → Q () s') : wpAny (model X.prog X.w) A (setAttr (.ref a) f u) Q E s := by
  obtain ⟨t1, w1⟩ := exo_at I.hok e
  obtain ⟨mA, hns, rel⟩ := exd_at I.hok ed
  obtain ⟨o2, _, _, ho2, _, _⟩ := hns.count (within_of rel)
  obtain ⟨hp, g, d, t, os⟩ := s
  refine PySem.W.set_plain I.kIn (od := some o2) (ox := { cls := .ref C, dict := some dx, data := .fields #[.ref t1, .none, .none, .none, .bool false, .none] }) ⟨w1, rfl, rfl, ho2⟩ T.sa ?_
  refine xo_old T I.kIn w1 hns (within_of rel) (by rw [List.length_map]; omega) hno (fun h' tk' k1 hn => ?_)
  refine h _ (Inv.write (t' := tk') (x := dx) (e := dx) (o := exd dx ((f, y) :: fs)) I (by rw [ed]; exact True.intro) (.inl rfl) k1 ?_ (exd_ok hn (relO_put ry rel)))
  obtain ⟨o3, _, _, w3, _⟩ := hn
  exact ⟨o3, w3⟩
end
end Ab
/-! Ab37: the __init__ of an own exception class; C(..) makes an exception. -/
namespace Ab
open PySem PySem.Spec PyProof.Rows L2
section
variable {X : Cx} {B newId initId : String} {tl : List Value} {o e : Expr} {es : List Expr} {to te : TE} {ta : TA} {f : Str} {p p' p1 p2 pos : Pos}
/-- Base.__init__(self, ..), Base an own class -/
theorem px_init {C0 : Addr} {xb : Str} {pl : Sem Bool} (hh : PySem.W.handedIn (.builtin initId) = true) (r : ClX.CRead X.K C0 (.type "type")) (fv : PySem.W.findCls X.K (.ref C0) (.type "type") "__init__" = some (.val (.builtin initId))) (hg : Gl X xb) (hm : X.mg xb = some (.ref C0)) (ha : PA X (e :: es) ta)
    (hc : eval (.Call (.Attribute (.Name xb p1) "__init__" p2) (e :: es) [] pos) X.env = (do
      let v0 ← eval (.Name xb p1) X.env
      standAt p2.atName
      let (f0, first) ← holding [v0] (getMethod v0 "__init__" pl)
      callWith pos f0 first (backTo pos (starEach (e :: es) X.env)) (backToKw pos (keywordEach [] X.env))) := by rfl)
    (he : starEach (e :: es) X.env = (false, eval e X.env) :: starEach es X.env := by rfl) (hpl : (backTo pos (starEach es X.env)).any (·.1) = false := by rfl) (hdb : (xb == ("__debug__" : Str)) = false := by decide) :
    PE X (.Call (.Attribute (.Name xb p1) "__init__" p2) (e :: es) [] pos) (fun σ H Q => ta σ H fun vs H1 => ∃ (a C : Addr) (ws : List V), vs = .ref a :: ws ∧ ws.length ≤ 1000 ∧ XCl X.K C B newId initId tl ∧ H1 a = some (exo a C none) ∧ Q .non H1) := by
  refine ⟨fun pins s σ H Q I h => PySem.W.methodCall_KW (pl := pl) (ld_glob I hg hm ?_ hdb) hc⟩
  refine PySem.W.method_cls I.kIn r.ga (PySem.W.cls_value I.kIn r.rd fv hh ?_)
  show wpAny _ _ (callWith pos (Value.builtin initId) [] (backTo pos (starEach (e :: es) X.env)) []) _ _ _
  refine PyProof.Rows.callWith_method1 (thn (ha.run pos pins _ σ H _ (I.tok _) h) fun us s1 ⟨vs, H1, I1, r1, a, C, ws, ev, hl, T, ea, q⟩ => ?_) he hpl
  subst ev
  cases r1 with
  | @cons _ u0 _ ur ra rr =>
    obtain rfl : u0 = Value.ref a := ra
    exact x_init T I1 ea (by rw [← Paired.length rr, sizeLine_eq]; omega) fun s' J => ⟨.non, H1, J, rfl, q⟩
/-- self.f = e -/
theorem qx_set (ho : PE X o to) (he : PE X e te) (hs : swapsWith e (some (.Attribute o f p')) pos.line X.env = pure false := by rfl) :
    PS X (.Assign [.Attribute o f p'] e pos) (fun D σ H => te σ H fun y H1 => to σ H1 fun x H2 => ∃ a C : Addr, x = .ref a ∧ XCl X.K C B newId initId tl ∧ PySem.W.findIn X.K (.ref C) f = some none ∧
      ((H2 a = some (exo a C none) ∧ ∀ dx, H2 dx = none → dx ≠ a → D.nx σ (upd (upd H2 dx (exd dx [(f, y)])) a (exo a C (some dx)))) ∨
        ∃ (dx : Addr) (fs : List (Str × V)), H2 a = some (exo a C (some dx)) ∧ H2 dx = some (exd dx fs) ∧ fs.length ≤ 900 ∧ D.nx σ (upd H2 dx (exd dx ((f, y) :: fs))))) := by
  refine ⟨fun pins s σ H D I h => plainObj_wpAny_Assign_Attribute (thn (he.run pins s σ H _ I h) fun v s1 ⟨y, H1, I1, r1, q1⟩ => thn (ho.run pins s1 σ H1 _ I1 q1) fun u s2 ⟨x, H2, I2, r2, a, C, ex, T, hno, q⟩ => ?_) hs⟩
  subst ex
  obtain rfl : u = Value.ref a := r2
  rcases q with ⟨ea, q⟩ | ⟨dx, fs, ea, ed, hl, q⟩
  · exact x_new T I2 ea hno r1 fun dx s' n1 n2 J => ⟨σ, _, J, q dx n1 n2⟩
  · exact x_old T I2 ea ed hl hno r1 fun s' J => ⟨σ, _, J, q⟩
end
/-! ### a def told by readings -/
section
variable {P : Program} {w : World} {K : PySem.W.Frag} {mg : Str → Option Value} {base : Heap} {x qual : Str} {f : Addr} {fd : FuncData}
theorem fnx_raw {params : Arguments} {body : List Stmt} {sc : Scope} {kws : List (Str × V)} {N ps : List Str} {k : Nat} {sp : List V → Hp → VK → Prop} (F : FunD K x qual params body sc [] kws f fd) (S : FnScope N ps sc)
    (h : ∀ (kV doc pm : Value) (an : Option Addr) (cdv ct : Value) (us : List Value), us.length = ps.length → bindArgs (PySem.W.fnOf x qual params body sc .none kV doc pm an cdv ct) ⟨us, []⟩ = pure (ps.zip us))
    (hb : ∀ cdv A outer s H, Rm k (A.deeper (envOfC qual sc s.heap.objs.size f cdv)) → Mod K mg base → ∀ vs Q, sp vs H Q → ∃ t, PSs (cxOf CX0 P w K mg base N qual sc f cdv A outer s H E0) body t ∧ t { nx := fun _ H' => Q .non H', rt := Q } (L2.start N vs) H) :
    FnX P w K mg base (k + 1) f [] fun vs _ H Q => vs.length = ps.length ∧ sp vs H Q := by
  refine ⟨fun A outer s H us ws vs zs Q hr e0 r rz hz ⟨hl, hs⟩ => ?_⟩
  obtain ⟨oc, od, dV, kV, doc, pm, an, cdv, ct, osl, rfl, lk, hcd, hD, _⟩ := F.ex
  obtain ⟨_, rfl⟩ : ([] : List V) = [] ∧ dV = .none := by
    rcases hD with h | ⟨e, _⟩
    · exact h
    · exact absurd rfl e
  obtain rfl : ws = [] := by
    have : zs = [] := List.length_eq_zero_iff.mp hz
    subst this
    cases rz
    rfl
  refine StX.run_bnd (CX := CX0) (E := E0) (G := fun vs' H2 => vs' = vs ∧ H2 = H) lk hcd S hr.room e0 (fun A' Ex Q' h' => ?_) fun s2 H2 vs' hG hr' => ?_
  · exact BindsTo.of_eq (h kV doc pm an cdv ct us (by rw [← r.length]; exact hl)) _ _ _ _ (h' s H vs us e0 Un.refl rfl (fun _ _ z => z) r hl ⟨rfl, rfl⟩)
  · obtain ⟨rfl, rfl⟩ := hG
    exact hb cdv A outer s2 H2 (hr.deeper _) e0.mod vs' Q hs
end
/-! ### C(e, ..) -/
/-- what C(..) wants and gives: fs the fields, the last one first -/
abbrev SpI (C : Addr) (g : List V → List (Str × V)) (n : Nat) : List V → List V → Hp → VK → Prop := fun vs _ H Q => ∃ a ws, vs = .ref a :: ws ∧ ws.length = n ∧ H a = some (exo a C none) ∧ ∀ dx, H dx = none → dx ≠ a → Q .non (upd (upd H dx (exd dx (g ws))) a (exo a C (some dx)))
section
variable {X : Cx} {B newId initId : String} {tl : List Value} {x : Str} {C fI : Addr} {k n : Nat} {g : List V → List (Str × V)} {e : Expr} {es : List Expr} {p pos : Pos}
theorem pmk_x (T : XCl X.K C B newId initId tl) (iC : PySem.W.findIn X.K (.ref C) "__init__" = some (some (.ref fI))) (tI : PySem.W.typeIn X.K (.ref fI) = some (.type "function"))
    (F : FnX X.prog X.w X.K X.mg X.base k fI [] (SpI C g n)) (hr : Rm (k + 1) X.A) (hg : Gl X x) (hm : X.mg x = some (.ref C)) (hn : n ≤ 900)
    (hdb : (x == ("__debug__" : Str)) = false := by decide) (he : starEach (e :: es) X.env = (false, eval e X.env) :: starEach es X.env := by rfl) (hpl : (backTo pos (starEach es X.env)).any (·.1) = false := by rfl) :
    PMk X (.Call (.Name x p) (e :: es) [] pos) (fun σ H Q => WA X (e :: es) σ H fun vs H1 => vs.length = n ∧ ∀ d, H1 d = none → Q (.ref C) (some d) (upd H1 d (.xd (g vs)))) := by
  intro pins s σ H Q I h
  obtain ⟨n1, n2, n3, n4, bm, n5, n6, n7, n8, n9, n10, n11, n12, n13, n14, n15, hC, hT⟩ := PySem.W.excInit_of I.kIn T.ini
  refine wpAny_Call_Name_kw (ld_glob I hg hm ?_ hdb)
  refine PySem.W.callWith_K (h₀ := X.base) I.ok.mod.kin T.kC (thn (pa_wa.run pos pins s σ H _ I h) fun us s1 ⟨vs, H1, I1, r1, hz, q1⟩ => ⟨I1.kIn, ?_⟩) he hpl
  show wpAny _ _ (call (.ref C) us) _ _ _
  obtain ⟨m1, m2, m3, m4, bm', m5, m6, m7, m8, m9, m10, m11, m12, m13, m14, m15, hC1, hT1⟩ := PySem.W.excInit_of I1.kIn T.ini
  obtain ⟨hp, g0, dr, tk, os⟩ := s1
  have hsz : hp.objs.size ≤ hp.objs.size + 1 := Nat.le_succ _
  have hnA : H1 (hp.objs.size + 1) = none := I1.hok.fresh hsz
  have kk : ∀ b u, hp.get? b = some u → ((hp.push (PySem.W.kdv_tup us)).push (PySem.HandSPX.excO C hp.objs.size)).get? b = some u := fun b u z => Heap.get?_push_of_some _ (Heap.get?_push_of_some _ z)
  have hgt : ((hp.push (PySem.W.kdv_tup us)).push (PySem.HandSPX.excO C hp.objs.size)).get? (hp.objs.size + 1) = some (PySem.HandSPX.excO C hp.objs.size) := by heap_get
  have I2 : Inv X pins σ (upd H1 (hp.objs.size + 1) (exo (hp.objs.size + 1) C none)) ⟨(hp.push (PySem.W.kdv_tup us)).push (PySem.HandSPX.excO C hp.objs.size), g0, dr, tk, os⟩ :=
    Inv.laid (t' := tk) I1 kk hsz (exo_ok hgt)
  have r2 : Vals (V.ref (hp.objs.size + 1) :: vs) (Value.ref (hp.objs.size + 1) :: us) := .cons rfl r1
  have hus : us.length ≤ sizeLine := by
    rw [← Paired.length r1, sizeLine_eq, hz]
    omega
  have hq : SpI C g n (V.ref (hp.objs.size + 1) :: vs) [] (upd H1 (hp.objs.size + 1) (exo (hp.objs.size + 1) C none)) (fun v H2 => v = .non ∧ ∃ (d : Addr) (fs : List (Str × V)), H2 (hp.objs.size + 1) = some (exo (hp.objs.size + 1) C (some d)) ∧ H2 d = some (exd d fs) ∧ H1 d = none ∧ Q (.ref C) (some d) (upd (del H2 (hp.objs.size + 1)) d (.xd fs))) := by
    refine ⟨_, vs, rfl, hz, upd_same, fun d hd hda => ⟨rfl, d, g vs, upd_same, ?_, ?_, ?_⟩⟩
    · rw [upd_ne hda, upd_same]
    · rw [upd_ne hda] at hd
      exact hd
    · rw [upd_ne hda] at hd
      have ee : upd (del (upd (upd (upd H1 (hp.objs.size + 1) (exo (hp.objs.size + 1) C none)) d (exd d (g vs))) (hp.objs.size + 1) (exo (hp.objs.size + 1) C (some d))) (hp.objs.size + 1)) d (.xd (g vs)) = upd H1 d (.xd (g vs)) := funext fun b => by
        by_cases h1 : b = d
        · rw [h1, upd_same, upd_same]
        · rw [upd_ne h1, upd_ne h1]
          by_cases h2 : b = hp.objs.size + 1
          · rw [h2, del_same, hnA]
          · rw [del_ne h2, upd_ne h2, upd_ne h1, upd_ne h2]
      rw [ee]
      exact q1 d hd
  refine wpAny_call (PySem.HandSPX.call_own T.fb hT1 hC1 (PySem.W.looks_findIn I1.kIn iC) (fun self => PySem.W.bind_fn I1.kIn self tI) hus
    (codeAny_mono (F.run _ X.stack _ _ (Value.ref (hp.objs.size + 1) :: us) [] _ [] _ (hr.make C us []) (I2.env0.make C us []) r2 .nil rfl hq) fun r s' hq' => ?_))
  cases r with
  | error er => exact False.elim hq'
  | ok fl =>
    cases fl with
    | ret u =>
      obtain ⟨v, H2, os2, bare2, un2, hok2, rv, ev, d, fs, ea, ed, hd1, q2⟩ := hq'
      subst ev
      obtain ⟨h2, g2, d2, t2, os'⟩ := s'
      exact ⟨rv, mk_end (raises_own T.exC T.tyC) I1 hsz kk un2 hok2 os2 bare2 ea ed hd1 q2⟩
    | next => exact False.elim hq'
    | brk => exact False.elim hq'
    | cont => exact False.elim hq'
end
end Ab
/-! Ab38: pieces that may raise: yE, yS, ySs; raise; calls of defs that may raise; the promise of such a def. -/
namespace Ab
open PySem PySem.Spec PyProof.Rows L2
def XRep (K : PySem.W.Frag) (H : Hp) (cls : Value) (d : Option Addr) (C : Addr) (fs : List (Str × Val)) : Prop := cls = .ref C ∧ ((d = none ∧ fs = []) ∨ ∃ dd gs, d = some dd ∧ H dd = some (.xd gs) ∧ RepF K H fs gs)
theorem XRep.mono {K : PySem.W.Frag} {H H' : Hp} {cls : Value} {d : Option Addr} {C : Addr} {fs : List (Str × Val)} (e : Same H H') (h : XRep K H cls d C fs) : XRep K H' cls d C fs := by
  obtain ⟨h1, h2 | ⟨dd, gs, h2, h3, h4⟩⟩ := h
  · exact ⟨h1, .inl h2⟩
  · exact ⟨h1, .inr ⟨dd, gs, h2, e _ _ h3, h4.mono e⟩⟩
/-- an exception's class, fields, the memory -/
abbrev XP := Addr → List (Str × Val) → Mem → Prop
abbrev XG := Gam → XP
def XPost (K : PySem.W.Frag) (Hi : Hp) (PE : XP) (E : XK) : Prop := ∀ C fs M' Hi' H' cls d, PE C fs M' → Same Hi Hi' → Ok K Hi' M' H' → XRep K Hi' cls d C fs → E cls d H'
theorem XPost.up {K : PySem.W.Frag} {Hi Hi1 : Hp} {PE : XP} {E : XK} (h : XPost K Hi PE E) (e : Same Hi Hi1) : XPost K Hi1 PE E := fun C fs M' Hi' H' cls d p s => h C fs M' Hi' H' cls d p (e.trans s)
def XReal (K : PySem.W.Frag) (Hi : Hp) (ex : XG) (W : WX) : Prop := ∀ Γ C fs M' σ Hi' H' cls d, ex Γ C fs M' → Same Hi Hi' → Ok K Hi' M' H' → EnvR K Hi' Γ σ → XRep K Hi' cls d C fs → W cls d σ H'
theorem XReal.up {K : PySem.W.Frag} {Hi Hi1 : Hp} {ex : XG} {W : WX} (h : XReal K Hi ex W) (e : Same Hi Hi1) : XReal K Hi1 ex W := fun Γ C fs M' σ Hi' H' cls d p s => h Γ C fs M' σ Hi' H' cls d p (e.trans s)
theorem XReal.at {K : PySem.W.Frag} {Hi : Hp} {ex : XG} {W : WX} {Γ : Gam} {σ : L2.St} (h : XReal K Hi ex W) (en : EnvR K Hi Γ σ) : XPost K Hi (ex Γ) fun cls d H => W cls d σ H := fun C fs M' Hi' H' cls d p s ok => h Γ C fs M' σ Hi' H' cls d p s ok (en.mono s)
abbrev Po (X : Cx) : Prop := PassesOwn (model X.prog X.w) X.A X.env X.xe
def yE (X : Cx) (e : Expr) (Γ : Gam) (M : Mem) (P : Val → Mem → Prop) (PE : XP) : Prop := ∀ W, Takes X W → Po X → ∀ Hi H σ, Ok X.K Hi M H → EnvR X.K Hi Γ σ → ∀ Q : VK, Post X.K Hi P Q → XPost X.K Hi PE (fun cls d H' => W cls d σ H') → WE X e σ H Q
def yS (X : Cx) (s : Stmt) (Γ : Gam) (M : Mem) (k : AK) (ex : XG) : Prop := ∀ W, Takes X W → Po X → ∀ Hi H σ, Ok X.K Hi M H → EnvR X.K Hi Γ σ → ∀ D, Real X.K Hi k D → XReal X.K Hi ex W → WS X s D σ H
def ySs (X : Cx) (s : List Stmt) (Γ : Gam) (M : Mem) (k : AK) (ex : XG) : Prop := ∀ W, Takes X W → Po X → ∀ Hi H σ, Ok X.K Hi M H → EnvR X.K Hi Γ σ → ∀ D, Real X.K Hi k D → XReal X.K Hi ex W → WB X s D σ H
/-- a block that ends by an exception -/
abbrev k0 : AK := { nx := fun _ _ => False, rt := fun _ _ => False }
section
variable {X : Cx} {Γ : Gam} {M : Mem} {P : Val → Mem → Prop} {PE : XP} {ex : XG} {e c : Expr} {es : List Expr} {pos p1 : Pos} {k : AK} {st : Stmt} {sts s1 s2 : List Stmt} {x : Str} {n : Nat}
theorem ys_of (h : aS X st Γ M k) : yS X st Γ M k ex := fun _ _ _ Hi H σ ok en D q _ => h Hi H σ ok en D q
theorem yss_of (h : aSs X sts Γ M k) : ySs X sts Γ M k ex := fun _ _ _ Hi H σ ok en D q _ => h Hi H σ ok en D q
theorem ys_nil (h : k.nx Γ M) : ySs X [] Γ M k ex := yss_of (as_nil h)
theorem ys_cons (h : yS X st Γ M { k with nx := fun Γ' M' => ySs X sts Γ' M' k ex } ex) : ySs X (st :: sts) Γ M k ex := fun W tk po Hi H σ ok en D q y =>
  ⟨_, pss_cons ps_ws pss_wb, h W tk po Hi H σ ok en { D with nx := WB X sts D } ⟨fun Γ' M' σ' Hi' H' hn s ok' en' => hn W tk po Hi' H' σ' ok' en' D (q.up s) (y.up s), q.rt, q.bk, q.ct⟩ y⟩
theorem ys_one (h : yS X st Γ M k ex) : ySs X [st] Γ M k ex := fun W tk po Hi H σ ok en D q y => ⟨_, pss_one ps_ws, h W tk po Hi H σ ok en D q y⟩
theorem ys_expr (h : yE X e Γ M (fun _ M' => k.nx Γ M') (ex Γ)) (hs : swapsWith e none pos.line X.env = pure false := by rfl) : yS X (.Expr e pos) Γ M k ex := fun W tk po Hi H σ ok en D q y =>
  ⟨_, ps_expr pe_we hs, h W tk po Hi H σ ok en _ (fun d M1 v Hi1 H1 h1 s1 ok1 r1 => q.nx _ _ _ Hi1 H1 h1 s1 ok1 (en.mono s1)) (y.at en)⟩
theorem ys_if (h : aT X c Γ M fun b M' => (b = true → ySs X s1 Γ M' k ex) ∧ (b = false → ySs X s2 Γ M' k ex)) : yS X (.If c s1 s2 pos) Γ M k ex := fun W tk po Hi H σ ok en D q y => by
  refine ⟨_, ps_if pt_wt pss_wb pss_wb, h Hi H σ ok en _ fun b M1 Hi1 H1 h1 z1 ok1 => ?_⟩
  cases b with
  | true => exact iteT (h1.1 rfl W tk po Hi1 H1 σ ok1 (en.mono z1) D (q.up z1) (y.up z1))
  | false => exact iteF (h1.2 rfl W tk po Hi1 H1 σ ok1 (en.mono z1) D (q.up z1) (y.up z1))
theorem ys_ifp {p : Prop} (h : TP X c Γ M p) (h1 : p → ySs X s1 Γ M k ex) (h2 : ¬ p → ySs X s2 Γ M k ex) : yS X (.If c s1 s2 pos) Γ M k ex := by
  obtain ⟨b, hb, hi⟩ := h
  exact ys_if (hb.val ⟨fun z => h1 (hi.mp z), fun z => h2 fun y => by rw [hi.mpr y] at z; cases z⟩)
theorem yE.mono {P' : Val → Mem → Prop} {PE' : XP} (h : yE X e Γ M P PE) (f : ∀ d M', P d M' → P' d M') (f2 : ∀ C fs M', PE C fs M' → PE' C fs M') : yE X e Γ M P' PE' := fun W tk po Hi H σ ok en Q q y => h W tk po Hi H σ ok en Q (fun d M1 v Hi1 H1 p => q d M1 v Hi1 H1 (f d M1 p)) fun C fs M' Hi' H' cls d p => y C fs M' Hi' H' cls d (f2 C fs M' p)
end
/-! ### raise C(e, ..) -/
/-- an exception class as its name says: n arguments, their fields g -/
structure XMk (P : Program) (w : World) (K : PySem.W.Frag) (mg : Str → Option Value) (base : Heap) (x : Str) (C : Addr) (n : Nat) (g : List Val → List (Str × Val)) : Prop where
  ex : ∃ B newId initId tl fI gV, XCl K C B newId initId tl ∧ PySem.W.findIn K (.ref C) "__init__" = some (some (.ref fI)) ∧ PySem.W.typeIn K (.ref fI) = some (.type "function") ∧ FnX P w K mg base 1 fI [] (SpI C gV n) ∧ mg x = some (.ref C) ∧ ∀ H ds vs, RepA K H ds vs → ds.length = n → RepF K H (g ds) (gV vs)
  n9 : n ≤ 900
section
variable {X : Cx} {Γ : Gam} {M : Mem} {ex : XG} {e : Expr} {es : List Expr} {pos p1 pos' : Pos} {k : AK} {x : Str} {n m : Nat} {C : Addr} {g : List Val → List (Str × Val)}
theorem ys_raise (T : XMk X.prog X.w X.K X.mg X.base x C n g) (hr : Rm m X.A) (hm : 2 ≤ m) (hc : X.calm = true) (h : aA X (e :: es) Γ M fun ds M1 => ds.length = n ∧ ex Γ C (g ds) M1) (hg : Gl X x := by rfl)
    (hdb : (x == ("__debug__" : Str)) = false := by decide) (he : starEach (e :: es) X.env = (false, eval e X.env) :: starEach es X.env := by rfl) (hpl : (backTo pos (starEach es X.env)).any (·.1) = false := by rfl) :
    yS X (.Raise (some (.Call (.Name x p1) (e :: es) [] pos)) none pos') Γ M k ex := fun W tk po Hi H σ ok en D q y => by
  obtain ⟨B, newId, initId, tl, fI, gV, T1, iC, tI, F, mx, rel⟩ := T.ex
  refine ⟨_, ps_raise hc tk (pmk_x T1 iC tI F (hr.mono hm) hg mx T.n9 hdb he hpl), ?_⟩
  refine h Hi H σ ok en _ fun ds M1 vs Hi1 H1 h1 z1 ok1 r1 => ⟨r1.length.symm.trans h1.1, fun d hd => ?_⟩
  have z2 := same_upd (o := .xd (gV vs)) (Ok.none ok1 hd)
  exact y Γ C (g ds) M1 σ (upd Hi1 d (.xd (gV vs))) _ _ _ h1.2 (z1.trans z2) (ok1.imm hd) ((en.mono z1).mono z2) ⟨rfl, .inr ⟨d, gV vs, rfl, upd_same, (rel Hi1 ds vs r1 h1.1).mono z2⟩⟩
end
end Ab
/-! Ab39: calls of defs that may raise, their promises. -/
namespace Ab
open PySem PySem.Spec PyProof.Rows L2
abbrev ASe := List Val → Mem → (Val → Mem → Prop) → XP → Prop
abbrev ASxe := List Val → List Val → Mem → (Val → Mem → Prop) → XP → Prop
def spE (K : PySem.W.Frag) (s : ASxe) (vs zs : List V) (H : Hp) (Q : VK) (E : XK) : Prop := ∃ Hi M ds es P PE, RepA K Hi ds vs ∧ RepA K Hi es zs ∧ Ok K Hi M H ∧ s ds es M P PE ∧ Post K Hi P Q ∧ XPost K Hi PE E
structure FnE (P : Program) (w : World) (K : PySem.W.Frag) (mg : Str → Option Value) (base : Heap) (k : Nat) (f : Addr) (ks : List Str) (sp : List V → List V → Hp → VK → XK → Prop) : Prop where
  run : ∀ (A : Around) (outer : List Env) (s : Shared) (H : Hp) (us ws : List Value) (vs zs : List V) (Q : VK) (E : XK), Rm k A → Env0 P w K mg base A outer s H → Vals vs us → Vals zs ws → zs.length = ks.length → sp vs zs H Q E →
    codeAny (model P w) A (.call (.ref f) ⟨us, ks.zip ws⟩) (CR (L2.CX P w) outer P w H s Q E) s
/-- the cells of a def may be dropped when it raises -/
inductive RetX (PE : XP) : XP
  | ok {C : Addr} {fs : List (Str × Val)} {M : Mem} : PE C fs M → RetX PE C fs M
  | drop {C : Addr} {fs : List (Str × Val)} {c : Addr × Cell} {M : Mem} : RetX PE C fs M → RetX PE C fs (c :: M)
theorem RetX.post {K : PySem.W.Frag} {PE : XP} {E : XK} {Hi : Hp} (q : XPost K Hi PE E) {C : Addr} {fs : List (Str × Val)} {M : Mem} (h : RetX PE C fs M) : ∀ {Hi' H' : Hp} {cls : Value} {d : Option Addr}, Same Hi Hi' → Ok K Hi' M H' → XRep K Hi' cls d C fs → E cls d H' := by
  induction h with
  | ok p => exact fun s ok r => q _ _ _ _ _ _ _ p s ok r
  | drop _ ih => exact fun s ok r => ih s ok.tail r
abbrev ecx (P : Program) (w : World) (K : PySem.W.Frag) (mg : Str → Option Value) (base : Heap) (N : List Str) (qual : Str) (sc : Scope) (f : Addr) (cdv : Value) (A : Around) (outer : List Env) (s : Shared) (H : Hp) (E : XK) : Cx := cxOf (L2.CX P w) P w K mg base N qual sc f cdv A outer s H E
abbrev BodyE (P : Program) (w : World) (K : PySem.W.Frag) (mg : Str → Option Value) (base : Heap) (k : Nat) (f : Addr) (N : List Str) (qual : Str) (sc : Scope) (body : List Stmt) (s0 : ASe) : Prop :=
  ∀ cdv A outer s H E, Rm k (A.deeper (envOfC qual sc s.heap.objs.size f cdv)) → Po (ecx P w K mg base N qual sc f cdv A outer s H E) → ∀ ds M R PE, s0 ds M R PE → ySs (ecx P w K mg base N qual sc f cdv A outer s H E) body (gam N ds) M (kOf R) fun _ => RetX PE
section
variable {P : Program} {w : World} {K : PySem.W.Frag} {mg : Str → Option Value} {base : Heap} {x qual : Str} {f : Addr} {fd : FuncData}
theorem fne_kbn {params : Arguments} {body : List Stmt} {sc : Scope} {dvs : List V} {kws : List (Str × V)} {N ps ks : List Str} {k n : Nat} {s0 : ASe} {g : List Value → List Value → List Value} {gV : List V → List V → List V} (gA : List Val → List Val → List Val)
    (F : FunD K x qual params body sc dvs kws f fd) (S : FnScope N ps sc) (b : KBn K fd ps n ks g gV)
    (hrel : ∀ H ds vs es zs, RepA K H ds vs → RepA K H es zs → ds.length = n → es.length = ks.length → RepA K H (gA ds es) (gV vs zs)) (len : ∀ ds M R PE, s0 ds M R PE → ds.length = ps.length)
    (hb : BodyE P w K mg base k f N qual sc body s0) : FnE P w K mg base (k + 1) f ks (spE K fun ds es M R PE => ds.length = n ∧ s0 (gA ds es) M R PE) := by
  refine ⟨fun A outer s H us ws vs zs Q E hr e0 r rz hz ⟨Hi, M, ds, es, R, PE, ra, re, ok, ⟨hn, hs⟩, q, qx⟩ => ?_⟩
  obtain ⟨oc, od, dV, kV, doc, pm, an, cdv, ct, osl, rfl, lk, hcd, _, _⟩ := F.ex
  have KX : K.In s.heap := e0.mod.kin.keeps fun b1 o1 z1 => (e0.bs b1 o1 z1).1
  have hbt := b.to s us ws KX (by rw [← r.length, ← ra.length]; exact hn) (by rw [← rz.length]; exact hz)
  have rg := hrel Hi ds vs es zs ra re hn (re.length.trans hz)
  have hl : (gV vs zs).length = ps.length := rg.length.symm.trans (len _ _ _ _ hs)
  refine StX.run_bnd (CX := L2.CX P w) (E := E) (G := fun vs' H2 => vs' = gV vs zs ∧ H2 = H) lk hcd S hr.room e0 (fun A' Ex Q' h => ?_) fun s2 H2 vs' hG hr' => ?_
  · exact hbt _ _ _ _ (h s H (gV vs zs) (g us ws) e0 Un.refl rfl (fun _ _ z => z) (b.rel r rz) hl ⟨rfl, rfl⟩)
  · obtain ⟨rfl, rfl⟩ := hG
    obtain ⟨t, p, z⟩ := hb cdv A outer s2 H2 E (hr.deeper _) (passes_of (K := fun e s'' => L2.CX P w outer H2 s2 E e s'') (E₁ := _) rfl) (gA ds es) M R PE hs (fun cls d _ H => E cls d H) (takes_of rfl rfl rfl rfl) (passes_of (K := fun e s'' => L2.CX P w outer H2 s2 E e s'') (E₁ := _) rfl) Hi H2 _ ok (env_start rg)
      { nx := fun _ H' => Q .non H', rt := Q } ⟨fun Γ M' σ Hi' H' h1 s1 ok1 _ => h1.post q s1 ok1 .non, fun d M' v Hi' H' h1 s1 ok1 r1 => h1.post q s1 ok1 r1, fun _ _ _ _ _ z => z.elim, fun _ _ _ _ _ z => z.elim⟩
      (fun Γ C fs M' σ Hi' H' cls d h1 s1 ok1 _ r1 => h1.post qx s1 ok1 r1)
    exact ⟨t, p, z⟩
theorem fne_pos {params : Arguments} {body : List Stmt} {sc : Scope} {kws : List (Str × V)} {N ps : List Str} {k : Nat} {s0 : ASe} (F : FunD K x qual params body sc [] kws f fd) (S : FnScope N ps sc)
    (h : ∀ (kV doc pm : Value) (an : Option Addr) (cdv ct : Value) (us : List Value), us.length = ps.length → bindArgs (PySem.W.fnOf x qual params body sc .none kV doc pm an cdv ct) ⟨us, []⟩ = pure (ps.zip us))
    (len : ∀ ds M R PE, s0 ds M R PE → ds.length = ps.length) (hb : BodyE P w K mg base k f N qual sc body s0) : FnE P w K mg base (k + 1) f [] (spE K fun ds _ => s0 ds) := by
  have F1 := fne_kbn (n := ps.length) (ks := []) (fun ds _ => ds) F S (g := fun us _ => us) (gV := fun vs _ => vs) (by
    obtain ⟨oc, od, dV, kV, doc, pm, an, cdv, ct, osl, rfl, lk, hcd, hD, _⟩ := F.ex
    obtain ⟨_, rfl⟩ : ([] : List V) = [] ∧ dV = .none := by
      rcases hD with z | ⟨z, _⟩
      · exact z
      · exact absurd rfl z
    refine ⟨fun s us ws _ h1 h2 => .of_eq ?_, fun r1 _ => r1⟩
    obtain rfl := List.length_eq_zero_iff.mp h2
    exact h kV doc pm an cdv ct us h1) (fun H ds vs es zs r _ _ _ => r) len hb
  exact ⟨fun A outer s H us ws vs zs Q E hr e0 r rz hz ⟨Hi, M, ds, es, R, PE, ra, re, ok, hs, q, qx⟩ => F1.run A outer s H us ws vs zs Q E hr e0 r rz hz ⟨Hi, M, ds, es, R, PE, ra, re, ok, ⟨len _ _ _ _ hs, hs⟩, q, qx⟩⟩
theorem FnE.weak {k : Nat} {ks : List Str} {sp sp' : List V → List V → Hp → VK → XK → Prop} (F : FnE P w K mg base k f ks sp) (h : ∀ vs zs H Q E, sp' vs zs H Q E → sp vs zs H Q E) : FnE P w K mg base k f ks sp' :=
  ⟨fun A outer s H us ws vs zs Q E hr e0 r rz hz hs => F.run A outer s H us ws vs zs Q E hr e0 r rz hz (h _ _ _ _ _ hs)⟩
theorem FnE.imp {k : Nat} {ks : List Str} {sx sx' : ASxe} (F : FnE P w K mg base k f ks (spE K sx)) (h : ∀ ds es M R PE, sx' ds es M R PE → sx ds es M R PE) : FnE P w K mg base k f ks (spE K sx') :=
  F.weak fun vs zs H Q E ⟨Hi, M, ds, es, R, PE, r1, r2, ok, hs, q⟩ => ⟨Hi, M, ds, es, R, PE, r1, r2, ok, h _ _ _ _ _ hs, q⟩
theorem FnE.mono {j k : Nat} {ks : List Str} {sp : List V → List V → Hp → VK → XK → Prop} (F : FnE P w K mg base j f ks sp) (h : j ≤ k) : FnE P w K mg base k f ks sp := ⟨fun A outer s H us ws vs zs Q E hr => F.run A outer s H us ws vs zs Q E (hr.mono h)⟩
end
/-- a global def that may raise -/
structure GdE (P : Program) (w : World) (K : PySem.W.Frag) (mg : Str → Option Value) (base : Heap) (k : Nat) (x : Str) (ks : List Str) (s : ASxe) : Prop where
  ex : ∃ f, FnE P w K mg base k f ks (spE K s) ∧ mg x = some (.ref f) ∧ PySem.W.keepIn K (.ref f) = true
/-- a method that may raise -/
abbrev MtE (P : Program) (w : World) (K : PySem.W.Frag) (mg : Str → Option Value) (base : Heap) (C : Addr) (n : Nat) (m : Str) (ks : List Str) (s : ASxe) : Prop := ∃ f, Meth K C m f ∧ FnE P w K mg base n f ks (spE K s)
section
variable {X : Cx} {Γ : Gam} {M : Mem} {P : Val → Mem → Prop} {PE : XP} {e o : Expr} {es : List Expr} {kws : List Keyword} {pos p1 apos : Pos} {x m : Str} {n q : Nat} {f C : Addr} {ks : List Str} {sx : ASxe} {W : WX}
theorem run_e {pins : List (Addr × Obj)} {σ : L2.St} {H : Hp} {s : Shared} {Q : VK} {us ws : List Value} {vs zs : List V} {sp : List V → List V → Hp → VK → XK → Prop} (tk : Takes X W) (F : FnE X.prog X.w X.K X.mg X.base n f ks sp) (hr : Rm n X.A)
    (I : Inv X pins σ H s) (r : Vals vs us) (rz : Vals zs ws) (l2 : zs.length = ks.length) (h : sp vs zs H Q fun cls d H' => W cls d σ H') : wpAny (model X.prog X.w) X.A (call (.ref f) us (ks.zip ws)) (EP X pins σ Q) X.xe s := by
  refine wpAny_call (codeAny_mono (F.run X.A X.stack s H us ws vs zs Q _ hr I.env0 r rz l2 h) fun r s' hq => ?_)
  cases r with
  | error e => exact tk e s' (XE.of_call I (fun _ _ _ z => z) hq)
  | ok fl =>
    cases fl with
    | ret u => exact I.after hq
    | next => exact False.elim hq
    | brk => exact False.elim hq
    | cont => exact False.elim hq
/-- f(e, .., k = v, ..) -/
theorem ye_g (G : GdE X.prog X.w X.K X.mg X.base n x ks sx) (hr : Rm q X.A) (hq : n ≤ q) (h : aA X (e :: es) Γ M fun ds M1 => aKw X kws Γ M1 fun zs M2 => zs.length = ks.length ∧ sx ds zs M2 P PE)
    (hg : Gl X x := by rfl) (hall : (backToKw pos (keywordEach kws X.env)).all (·.1.isSome) = true := by rfl) (hks : (backToKw pos (keywordEach kws X.env)).filterMap (·.1) = ks := by rfl) (hdb : (x == ("__debug__" : Str)) = false := by decide)
    (he : starEach (e :: es) X.env = (false, eval e X.env) :: starEach es X.env := by rfl) (hpl : ((backTo pos (starEach (e :: es) X.env)).any (·.1) || (backToKw pos (keywordEach kws X.env)).any (·.1.isNone)) = false := by rfl) :
    yE X (.Call (.Name x p1) (e :: es) kws pos) Γ M P PE := fun W tk po Hi H σ ok en Q q1 y1 => by
  obtain ⟨f, F, hm, hk⟩ := G.ex
  refine ⟨fun σ H Q => WA X (e :: es) σ H fun vs H1 => WK X kws σ H1 fun zs H2 => zs.length = ks.length ∧ spE X.K sx vs zs H2 Q fun cls d H' => W cls d σ H', ⟨fun pins s σ H Q I h => ?_⟩, ?_⟩
  · refine wpAny_Call_Name_kw (ld_glob I hg hm ?_ hdb)
    refine PySem.W.callWith_KW (first := []) (h₀ := X.base) I.ok.mod.kin hk hall (thn (pa_wa.run pos pins s σ H _ I h) fun us s1 ⟨vs, H1, I1, r, z1⟩ => ?_) hpl he
    refine thn (pk_wk.run pos pins s1 σ H1 _ I1 z1) fun ws s2 ⟨zs, H2, I2, rz, l2, z2⟩ => ⟨I2.kIn, ?_⟩
    rw [hks]
    exact run_e tk (F.mono hq) hr I2 r rz l2 z2
  · refine h Hi H σ ok en _ fun ds M1 vs Hi1 H1 h1 s1 ok1 r1 => ?_
    refine h1 Hi1 H1 σ ok1 (en.mono s1) _ fun zs M2 ws Hi2 H2 h2 s2 ok2 r2 => ?_
    exact ⟨r2.length.symm.trans h2.1, Hi2, M2, ds, zs, P, PE, r1.mono s2, r2, ok2, h2.2, q1.up (s1.trans s2), y1.up (s1.trans s2)⟩
/-- o.m(e, .., k = v, ..) -/
theorem ye_m {pl : Sem Bool} (c : Cls X.K C) (F : MtE X.prog X.w X.K X.mg X.base C n m ks sx) (hr : Rm q X.A) (hq : n ≤ q)
    (h : aE X o Γ M fun d M0 => ObM M0 C d m ∧ aA X (e :: es) Γ M0 fun ds M1 => aKw X kws Γ M1 fun zs M2 => zs.length = ks.length ∧ sx (d :: ds) zs M2 P PE)
    (hall : (backToKw pos (keywordEach kws X.env)).all (·.1.isSome) = true := by rfl) (hks : (backToKw pos (keywordEach kws X.env)).filterMap (·.1) = ks := by rfl)
    (he : starEach (e :: es) X.env = (false, eval e X.env) :: starEach es X.env := by rfl) (hpl : ((backTo pos (starEach (e :: es) X.env)).any (·.1) || (backToKw pos (keywordEach kws X.env)).any (·.1.isNone)) = false := by rfl)
    (ht : eval (.Call (.Attribute o m apos) (e :: es) kws pos) X.env = (do
      let ov ← eval o X.env
      standAt apos.atName
      let (f, first) ← holding [ov] (getMethod ov m pl)
      callWith pos f first (backTo pos (starEach (e :: es) X.env)) (backToKw pos (keywordEach kws X.env))) := by rfl) : yE X (.Call (.Attribute o m apos) (e :: es) kws pos) Γ M P PE := fun W tk po Hi H σ ok en Q q1 y1 => by
  obtain ⟨f, hm, F⟩ := F
  refine ⟨fun σ H Q => WE X o σ H fun x H0 => ∃ a dx fs, x = .ref a ∧ H0 a = some (.ins C dx fs) ∧ fs.lookup m = none ∧ WA X (e :: es) σ H0 fun vs H1 => WK X kws σ H1 fun zs H2 => zs.length = ks.length ∧ spE X.K sx (x :: vs) zs H2 Q fun cls d H' => W cls d σ H', ⟨fun pins s σ H Q I h => ?_⟩, ?_⟩
  · refine PySem.W.methodCall_KW (pl := pl) (thn (pe_we.run pins s σ H _ I h) fun u s1 ⟨x, H1, I1, rx, a, dx, fs, ex, ea, l, z⟩ => ?_) ht
    subst ex
    obtain rfl : u = Value.ref a := rx
    refine getmeth_ok I1 ea c hm l ?_
    refine PySem.W.callWith_KW (first := [.ref a]) (h₀ := X.base) I.ok.mod.kin hm.kp hall (thn (pa_wa.run pos pins s1 σ H1 _ I1 z) fun us s2 ⟨vs, H2, I2, r, z2⟩ => ?_) hpl he
    refine thn (pk_wk.run pos pins s2 σ H2 _ I2 z2) fun ws s3 ⟨zs, H3, I3, rz, l2, z3⟩ => ⟨I3.kIn, ?_⟩
    rw [hks]
    exact run_e (us := .ref a :: us) (vs := .ref a :: vs) tk (F.mono hq) hr I3 (.cons rfl r) rz l2 z3
  · refine h Hi H σ ok en _ fun x M0 v0 Hi0 H0 h0 s0 ok0 r0 => ?_
    obtain ⟨hob, h0⟩ := h0
    obtain ⟨p, dx, gs, rfl, hp, hn⟩ := hob _ _ _ _ ok0 r0
    refine ⟨p, dx, gs, rfl, hp, hn, ?_⟩
    refine h0 Hi0 H0 σ ok0 (en.mono s0) _ fun ds M1 vs Hi1 H1 h1 s1 ok1 r1 => ?_
    refine h1 Hi1 H1 σ ok1 (en.mono (s0.trans s1)) _ fun zs M2 ws Hi2 H2 h2 s2 ok2 r2 => ?_
    exact ⟨r2.length.symm.trans h2.1, Hi2, M2, _ :: ds, zs, P, PE, .cons (r0.mono (s1.trans s2)) (r1.mono s2), r2, ok2, h2.2, q1.up ((s0.trans s1).trans s2), y1.up ((s0.trans s1).trans s2)⟩
end
end Ab
/-! Ab40: try: .. except C as n: ..; the caught exception is a value from then on. -/
namespace Ab
open PySem PySem.Spec PyProof.Rows L2
theorem exH_ok {P : Program} {w : World} {H : Hp} {h : Heap} {a C : Addr} {d : Option Addr} {oe : Obj} {vs : Array Value} (e : h.get? a = some oe) (z : Zc (.ref C) d oe) (hd : oe.data = .fields vs) : ObjOk P w H h a (exH a C d) :=
  ⟨⟨oe, vs, e, z, hd⟩, ⟨oe, e⟩, fun _ _ ⟨o, v, q, r⟩ k => ⟨o, v, k o q, r⟩⟩
section
variable {X : Cx} {pins : List (Addr × Obj)} {σ : L2.St} {H : Hp} {sI s s' : Shared} {B : Heap} {a C : Addr} {d : Option Addr} {oe : Obj} {vs : Array Value}
/-- landed, and the exception tracked -/
theorem Inv_landV (I : Inv X pins σ H sI) (nb : ∀ b o, sI.heap.get? b = some o → b ∉ frs X.stack → B.get? b = some o) (st : B.StaysIn s'.heap) (up : sI.heap.UpToSlots s'.heap) (os : s'.os = sI.os) (ag : AllBare s'.gens)
    (ha : s'.heap.get? a = some oe) (hz : Zc (.ref C) d oe) (hd : oe.data = .fields vs) (na : H a = none) (sn : sI.heap.get? a = none) : Inv X pins σ (upd H a (exH a C d)) s' := by
  have nf : ∀ b ∈ frs X.stack, ∀ o, sI.heap.get? b = some o → ∃ sl, s'.heap.get? b = some { o with slots := sl } := fun b hb o z => by
    obtain ⟨_, o', z1, z2⟩ := I.stack.mem hb
    rw [z] at z1
    cases z1
    exact up b o z z2
  have ne : ∀ b o, sI.heap.get? b = some o → b ≠ a := fun b o z1 z2 => by
    rw [z2, sn] at z1
    cases z1
  have ok0 : HOk X.prog X.w H s'.heap := (I.inGround nb).kept st
  refine Inv.call' (ch := []) I os ⟨fun b o z _ hb _ => st b o (nb b o z hb), fun b o z _ hb _ => nf b hb o z, fun b o z z2 _ => by rw [upd_ne (ne b o z)]; exact z2, fun b o z _ => ?_, fun b xs z => by rw [upd_ne (ne_of_none z na)]; exact z, fun b o u z => by rw [upd_ne (ne_of_none z na)]; exact z, fun b ps z => ⟨#[], by rw [upd_ne (ne_of_none z na), z]; simp⟩⟩ (fun b o z => ?_) ag (fun _ z => nomatch z)
  · by_cases hb : b ∈ frs X.stack
    · obtain ⟨sl, q⟩ := nf b hb o z
      exact ⟨_, q⟩
    · exact ⟨o, st b o (nb b o z hb)⟩
  · by_cases hb : b = a
    · subst hb
      rw [upd_same] at z
      cases z
      exact exH_ok ha hz hd
    · rw [upd_ne hb] at z
      exact (ok0 b o z).stay (fun _ _ _ q => q) (fun c q => by rw [upd_ne (ne_of_none q na)]; exact q) fun c xs q => by rw [upd_ne (ne_of_none q na)]; exact q
theorem Inv_inS (I : Inv X pins σ H s) (a : Addr) : Inv (X.suite a (X.pn ++ pins)) [] σ H s :=
  ⟨I.ok.suite _ _, I.os, I.bare, I.base, I.loc, I.cell, I.free, I.freeC, fun p hp => I.pin p (by rw [List.append_nil] at hp; exact hp), I.hok, I.len⟩
theorem Inv_outS {pn' : List (Addr × Obj)} (I : Inv (X.suite a (X.pn ++ pins)) pn' σ H s) (ok : X.Ok) : Inv X pins σ H s :=
  ⟨ok, I.os, I.bare, I.base, I.loc, I.cell, I.free, I.freeC, fun p hp => I.pin p (List.mem_append_left _ hp), I.hok, I.len⟩
end
/-- what a clause wishes of an exception of the body -/
def wV (K : PySem.W.Frag) (c : Value) (i : Nat) (ts : Addr → Addr → Option Addr → TS) (Wout : WX) (D : Ends) : WX := fun cls d σ H => ∃ C b, cls = .ref C ∧ PySem.W.exmOne K cls c = some b ∧
  (b = true → ∀ a, H a = none → ts a C d { nx := fun σ' H' => D.nx (σ'.set i none) H', rt := D.rt, bk := fun σ' H' => D.bk (σ'.set i none) H', ct := fun σ' H' => D.ct (σ'.set i none) H' } (σ.set i (some (.ref a))) (upd H a (exH a C d))) ∧ (b = false → Wout cls d σ H)
section
variable {X : Cx} {x n : Str} {c : Value} {i : Nat} {body suite : List Stmt} {b0 : Stmt} {np pos pos' : Pos} {tb : WX → TS} {ts : Addr → Addr → Option Addr → TS} {Wout : WX}
theorem ps_try_v (hs : X.stack = X.env :: X.outer) (hf : X.env.frame = some X.env.locals) (hN : X.N.Nodup) (hi : X.N[i]? = some n) (hln : X.env.kindOf n = some .local) (hc : Names X x c) (tk : Takes X Wout)
    (hb : ∀ (W : WX) (pn : List (Addr × Obj)) (xe : Value → Shared → Prop), Takes (X.tr pn xe) W → PassesOwn (model X.prog X.w) X.A X.env xe → PSs (X.tr pn xe) body (tb W))
    (hsu : ∀ (a C : Addr) (d : Option Addr) (pn : List (Addr × Obj)), PSs (X.suite a pn) (b0 :: suite) (ts a C d)) :
    PS X (.Try body [.ExceptHandler (some (.Name x np)) (some n) (b0 :: suite) pos'] [] [] pos) (fun D σ H => tb (wV X.K c i ts Wout D) D σ H) := by
  refine ⟨fun pins s σ H D I h => wpAny_Try_except ?_⟩
  have ok := I.ok
  have hfr : X.A.frames = some (X.env :: X.outer) := by rw [ok.frames, hs]
  have hloc : Loc X.env.scope n := .inl hln
  refine wpAny_mono ((hb (wV X.K c i ts Wout D) (X.pn ++ pins) (fun e z1 => wpAny (model X.prog X.w) X.A (noteFrame e X.env) (fun _ z2 => wpAny (model X.prog X.w) X.A (setFlight e none) (fun _ z3 =>
    wpAny (model X.prog X.w) X.A (handleBy e X.env [.ExceptHandler (some (.Name x np)) (some n) (b0 :: suite) pos']) (SP X pins D) X.xe z3) X.xe z2) X.xe z1) (fun u s' xx => ?_) PassesOwn.looking).run [] s σ H D (I.toTry _) h) (fun f s1 hsp => ?_) (fun _ _ z => z)
  · obtain ⟨a, B, sI, pins', σ1, H1, cls, d, rfl, J', nb, up, sky, na, os, ag, C, b, rfl, hb1, hyes, hno⟩ := xx
    have J : Inv X pins σ1 H1 sI := J'.ofTry ok
    show wpAny (model X.prog X.w) X.A (noteFrame (.ref a) X.env) _ _ _
    refine Sky.land Zc.steady hfr hf (show Sky B (X.env :: X.outer) a (Zc (.ref C) d) X.env.locals s'.heap by rw [← hs]; exact sky) fun h3 fl3 up3 => ?_
    have J3 : Inv X pins σ1 H1 { s' with heap := h3 } := J.landed nb fl3.1 (up.trans up3) os ag
    obtain ⟨oe3, vs3, he3, hz3, hd3⟩ := fl3.there
    have nfr : a ∉ frs (X.env :: X.outer) := fun hm => by
      obtain ⟨_, o', z1, z2⟩ := fl3.2.2.1.mem hm
      rw [he3] at z1
      cases z1
      exact z2 _ hd3
    have sn : sI.heap.get? a = none := by
      cases z : sI.heap.get? a with
      | none => rfl
      | some o =>
        have y := nb a o z (by rw [hs]; exact nfr)
        rw [fl3.2.1] at y
        cases y
    have nL : a ≠ X.env.locals := fun z => nfr (List.mem_filterMap.mpr ⟨X.env, List.mem_cons_self, by rw [hf, z]⟩)
    have nF : a ∉ X.fs := fun hm => by
      obtain ⟨e, z1, z2⟩ := List.mem_filterMap.mp hm
      exact nfr (List.mem_filterMap.mpr ⟨e, List.mem_cons_of_mem _ z1, z2⟩)
    have S3 := J3.suite he3 hd3 na nL nF
    refine wpAny_handleBy_cons (codeAny_handlers_test ?_) (by intro q; cases q)
    have LT : PySem.W.Looks (model X.prog X.w) h3 (typeOf (.ref a)) (.ref C) := fun A Q E s k q => wpAny_typeOf_ref (k _ _ he3) (by rw [hz3.1]; exact q)
    have test : ∀ {Q : Value → Shared → Prop} {E : Value → Shared → Prop}, Q c { s' with heap := h3 } → wpAny (model X.prog X.w) (X.A.mark (some (.ref a))) (eval (.Name x np) X.env) Q E { s' with heap := h3 } := fun {Q E} q => by
      obtain ⟨hg, hdbg, hm | ⟨hm, hv, hnn⟩⟩ := hc
      · exact ld_glob (X := X.suite a ((a, oe3) :: (X.pn ++ pins))) S3 hg hm q hdbg
      · exact ld_blt (X := X.suite a ((a, oe3) :: (X.pn ++ pins))) S3 hg hm hv q hnn hdbg
    refine test ((PySem.W.exm_one (M := model X.prog X.w) J3.kIn LT hb1).here ?_)
    cases b with
    | true =>
      refine codeAny_handlers_suite_as (HandSPX.lands_againZ fl3 fun h4 fl4 up4 => ?_)
      obtain ⟨oe4, vs4, he4, hz4, hd4⟩ := fl4.there
      have J4 : Inv X pins σ1 (upd H1 a (exH a C d)) { s' with heap := h4 } := Inv_landV (s' := { s' with heap := h4 }) J nb fl4.1 ((up.trans up3).trans up4) os ag he4 hz4 hd4 na sn
      refine store_ok (X := X.suite a (X.pn ++ pins)) (v := .ref a) (Inv_inS J4 a) hN hi hloc rfl (fun s5 S5 => ?_) (.inr hln)
      refine wpAny_mono ((hsu a C d (X.pn ++ pins)).run [] s5 _ _ _ S5 (hyes rfl a na)) (fun f s6 hsp => ?_) (fun _ _ z => False.elim z)
      have fin : ∀ {σ6 : L2.St} {H6 : Hp} {Q : Shared → Prop}, Inv (X.suite a (X.pn ++ pins)) [] σ6 H6 s6 → (∀ s7, Inv X pins (σ6.set i none) H6 s7 → Q s7) →
          wpAny (model X.prog X.w) X.A (do bindName X.env n .none; unbindBehindTheSuite X.env n pos') (fun _ s7 => Q s7) X.xe s6 := fun {σ6 H6 Q} S6 hq => gone_ok (Inv_outS S6 ok) hN hi hln hq
      cases f with
      | next =>
        obtain ⟨σ6, H6, S6, q6⟩ := hsp
        exact fin S6 fun s7 J7 => ⟨_, _, J7, q6⟩
      | brk =>
        obtain ⟨σ6, H6, S6, q6⟩ := hsp
        exact fin S6 fun s7 J7 => ⟨_, _, J7, q6⟩
      | cont =>
        obtain ⟨σ6, H6, S6, q6⟩ := hsp
        exact fin S6 fun s7 J7 => ⟨_, _, J7, q6⟩
      | ret u =>
        obtain ⟨v6, σ6, H6, S6, r6, q6⟩ := hsp
        exact fin S6 fun s7 J7 => ⟨_, _, _, J7, r6, q6⟩
    | false =>
      show wpAny _ X.A (handleBy (.ref a) X.env []) _ _ _
      refine wpAny_handleBy_nil ?_
      obtain ⟨k1, k2, k3, oe, vs, T, oT, t2, w1, w2, w3, w4, w5⟩ := id fl3
      unfold PySem.passOn
      refine wpAny_bind (wpAny_field w1 w3 w4 ?_)
      rw [if_neg (show ¬ ((Value.ref T == Value.none) = true) from by simp)]
      have fin : wpAny (model X.prog X.w) X.A (setFlight (.ref a) X.env.frame) (fun _ s4 => wpAny (model X.prog X.w) X.A (throw (.ref a) : Sem Flow) (SP X pins D) X.xe s4) X.xe { s' with heap := h3 } := by
        rw [hf]
        refine HandSPX.setFlight_upZ fl3 fun h4 hh4 up4 => wpAny_throw (tk _ _ ?_)
        exact ⟨a, B, sI, pins, σ1, H1, .ref C, d, rfl, J, nb, (up.trans up3).trans up4, .inr (.inr (by rw [hs]; exact hh4)), na, os, ag, hno rfl⟩
      first
        | exact wpAny_bind (wpAny_pure (wpAny_bind fin))
        | exact wpAny_bind fin
  · cases f with
    | next =>
      obtain ⟨σ1, H1, J', q⟩ := hsp
      exact wpAny_execs_nil ⟨σ1, H1, J'.ofTry ok, q⟩
    | brk =>
      obtain ⟨σ1, H1, J', q⟩ := hsp
      exact ⟨σ1, H1, J'.ofTry ok, q⟩
    | cont =>
      obtain ⟨σ1, H1, J', q⟩ := hsp
      exact ⟨σ1, H1, J'.ofTry ok, q⟩
    | ret u =>
      obtain ⟨v, σ1, H1, J', r, q⟩ := hsp
      exact ⟨v, σ1, H1, J'.ofTry ok, r, q⟩
end
/-! ### the same over values -/
/-- what the try wishes of the body's exceptions: the clause's suite, or it goes on -/
def exT (X : Cx) (c : Value) (i : Nat) (suite : List Stmt) (k : AK) (ex : XG) : XG := fun Γ C fs M => ∃ b, PySem.W.exmOne X.K (.ref C) c = some b ∧
  (b = true → ∀ a pn, aSs (X.suite a pn) suite (Γ.set i (some (.exc C fs))) M { nx := fun Γ' M' => k.nx (Γ'.set i none) M', rt := k.rt, bk := fun Γ' M' => k.bk (Γ'.set i none) M', ct := fun Γ' M' => k.ct (Γ'.set i none) M' }) ∧ (b = false → ex Γ C fs M)
section
variable {X : Cx} {Γ : Gam} {M : Mem} {k : AK} {ex : XG} {x n : Str} {c : Value} {body suite : List Stmt} {b0 : Stmt} {np pos pos' : Pos}
theorem xrep_rep {K : PySem.W.Frag} {Hi : Hp} {a C : Addr} {cls : Value} {d : Option Addr} {fs : List (Str × Val)} (h : XRep K Hi cls d C fs) (na : Hi a = none) : Rep K (upd Hi a (exH a C d)) (.exc C fs) (.ref a) := by
  obtain ⟨_, ⟨rfl, rfl⟩ | ⟨dd, gs, rfl, h1, h2⟩⟩ := h
  · exact .exc0 upd_same
  · exact .exc upd_same (by rw [upd_ne (ne_of_none h1 na)]; exact h1) (h2.mono (same_upd na))
theorem try_core (i : Nat) (hN : X.N.Nodup) (hc : Names X x c) {W : WX} (tk : Takes X W)
    (hb : ∀ pn xe, Po (X.tr pn xe) → ySs (X.tr pn xe) body Γ M k (exT X c i (b0 :: suite) k ex)) {Hi H : Hp} {σ : L2.St} (ok : Ok X.K Hi M H) (en : EnvR X.K Hi Γ σ) {D : Ends} (q : Real X.K Hi k D) (y : XReal X.K Hi ex W)
    (hs : X.stack = X.env :: X.outer) (hf : X.env.frame = some X.env.locals) (hi : X.N[i]? = some n) (hln : X.env.kindOf n = some .local) :
    WS X (.Try body [.ExceptHandler (some (.Name x np)) (some n) (b0 :: suite) pos'] [] [] pos) D σ H := by
  refine ⟨_, ps_try_v (tb := fun W1 D1 σ1 H1 => ∀ pn xe, Takes (X.tr pn xe) W1 → PassesOwn (model X.prog X.w) X.A X.env xe → WB (X.tr pn xe) body D1 σ1 H1) (ts := fun a C d D1 σ1 H1 => ∀ pn, WB (X.suite a pn) (b0 :: suite) D1 σ1 H1) hs hf hN hi hln hc tk (fun W1 pn xe t1 p1 => ⟨fun pins s σ1 H1 D1 I1 h1 => pss_wb.run pins s σ1 H1 D1 I1 (h1 pn xe t1 p1)⟩) (fun a C d pn => ⟨fun pins s σ1 H1 D1 I1 h1 => pss_wb.run pins s σ1 H1 D1 I1 (h1 pn)⟩), fun pn xe t1 p1 => ?_⟩
  refine hb pn xe p1 _ t1 p1 Hi H σ ok en D q fun Γ1 C fs M1 σ1 Hi1 H1 cls d h1 s1 ok1 en1 r1 => ?_
  obtain ⟨b, hb1, hyes, hno⟩ := h1
  have ec := r1.1
  subst ec
  refine ⟨C, b, rfl, hb1, fun hbt a na pn2 => ?_, fun hbf => y Γ1 C fs M1 σ1 Hi1 H1 _ d (hno hbf) s1 ok1 en1 r1⟩
  have ni : Hi1 a = none := Ok.none ok1 na
  have s2 := same_upd (o := exH a C d) ni
  have q2 := q.up (s1.trans s2)
  refine hyes hbt a pn2 (upd Hi1 a (exH a C d)) _ _ (ok1.imm na) ((en1.mono s2).set (xrep_rep r1 ni)) _ ⟨fun Γ3 M3 σ3 Hi3 H3 h3 s3 ok3 en3 => ?_, fun d3 M3 v3 Hi3 H3 h3 s3 ok3 r3 => ?_, fun Γ3 M3 σ3 Hi3 H3 h3 s3 ok3 en3 => ?_, fun Γ3 M3 σ3 Hi3 H3 h3 s3 ok3 en3 => ?_⟩
  · exact q2.nx _ _ _ Hi3 H3 h3 s3 ok3 (env_none i en3)
  · exact q2.rt _ _ _ Hi3 H3 h3 s3 ok3 r3
  · exact q2.bk _ _ _ Hi3 H3 h3 s3 ok3 (env_none i en3)
  · exact q2.ct _ _ _ Hi3 H3 h3 s3 ok3 (env_none i en3)
/-- try: body except x as n: suite; nothing else leaves -/
theorem as_try (i : Nat) (hN : X.N.Nodup) (hc : Names X x c) (hb : ∀ pn xe, Po (X.tr pn xe) → ySs (X.tr pn xe) body Γ M k (exT X c i (b0 :: suite) k fun _ _ _ _ => False))
    (hs : X.stack = X.env :: X.outer := by rfl) (hf : X.env.frame = some X.env.locals := by rfl) (hi : X.N[i]? = some n := by rfl) (hln : X.env.kindOf n = some .local := by rfl) :
    aS X (.Try body [.ExceptHandler (some (.Name x np)) (some n) (b0 :: suite) pos'] [] [] pos) Γ M k := fun Hi H σ ok en D q =>
  try_core i hN hc takes_none5 hb ok en q (fun _ _ _ _ _ _ _ _ _ z => z.elim) hs hf hi hln
end
end Ab
/-! Ab41: a caught exception's fields, its class. -/
namespace Ab
open PySem PySem.Spec PyProof.Rows L2
section
variable {X : Cx} {Γ : Gam} {M : Mem} {P : Val → Mem → Prop} {a b : Expr} {pos p1 : Pos} {C : Addr} {f : Str} {d2 : Val} {fs : List (Str × Val)}
/-- e.f, e a caught exception -/
theorem ae_xf (T : XfC X.K C) (hno : PySem.W.findIn X.K (.ref C) f = some none) (ha : aE X a Γ M fun d M' => ∃ fs v, d = .exc C fs ∧ fs.lookup f = some v ∧ P v M') (hb : attributeBase a f X.env (eval a X.env) = eval a X.env := by rfl) : aE X (.Attribute a f pos) Γ M P := fun Hi H σ ok en Q q => by
  refine ⟨fun σ H Q => WE X a σ H fun x H1 => ∃ (p dd : Addr) (gs : List (Str × V)) (v : V), x = .ref p ∧ H1 p = some (exH p C (some dd)) ∧ H1 dd = some (.xd gs) ∧ gs.lookup f = some v ∧ Q v H1, ⟨fun pins s σ H Q I h => attr_of hb (thn (pe_we.run pins s σ H _ I h) fun u s1 hh => ?_)⟩, ?_⟩
  · obtain ⟨x, H1, I1, rx, p, dd, gs, v, rfl, ep, ed, l, q1⟩ := hh
    obtain rfl : u = Value.ref p := rx
    have y1 : ObjOk X.prog X.w H1 s1.heap p (exH p C (some dd)) := I1.hok p _ ep
    obtain ⟨⟨oe, vs, z1, z2, z3⟩, _⟩ := y1
    have y2 : ObjOk X.prog X.w H1 s1.heap dd (.xd gs) := I1.hok dd _ ed
    obtain ⟨mA, hns, hr⟩ := y2
    obtain ⟨od, ho, hl⟩ := lookIn_ns hns
    obtain ⟨u, hu, ru⟩ := RelO.some_of (v := v) (o := mA f) (by rw [← l]; exact hr f)
    have J : PySem.W.InstAt s1.heap p oe C (some od) := ⟨z1, z2.1, by unfold PySem.W.notCls; rw [z3] <;> rfl, by rw [z2.2]; exact ho⟩
    exact HandSPX.exc_get I1.kIn J T.ga T.gg T.exC (PySem.W.findObj_own T.hdC hno rfl (by rw [hl, hu])) (handed_of ru) ⟨v, H1, I1.tok _, ru, q1⟩
  · refine ha Hi H σ ok en _ fun x M1 v Hi1 H1 h1 s1 ok1 r1 => ?_
    obtain ⟨fs, w, rfl, hl, hp⟩ := h1
    cases r1 with
    | exc e1 e2 rf =>
      obtain ⟨v, hv, rv⟩ := rf.lookup hl
      exact ⟨_, _, _, v, rfl, ok1.im _ _ e1, ok1.im _ _ e2, hv, q _ _ _ Hi1 H1 hp s1 ok1 rv⟩
    | exc0 e1 => cases hl
end
end Ab
/-! Ab42: loops whose body may raise; slots and cells forgotten. -/
namespace Ab
open PySem PySem.Spec PyProof.Rows L2
section
variable {X : Cx} {Γ : Gam} {M : Mem} {k : AK} {ex : XG} {c : Expr} {pos : Pos} {sts : List Stmt} {st : Stmt}
/-! slots and cells may be forgotten -/
theorem ySs.mono {k' : AK} (h : ySs X sts Γ M k ex) (f1 : ∀ Γ M, k.nx Γ M → k'.nx Γ M) (f2 : ∀ d M, k.rt d M → k'.rt d M) (f3 : ∀ Γ M, k.bk Γ M → k'.bk Γ M) (f4 : ∀ Γ M, k.ct Γ M → k'.ct Γ M) : ySs X sts Γ M k' ex := fun W tk po Hi H σ ok en D q y =>
  h W tk po Hi H σ ok en D ⟨fun Γ M σ Hi' H' p => q.nx Γ M σ Hi' H' (f1 Γ M p), fun d M v Hi' H' p => q.rt d M v Hi' H' (f2 d M p), fun Γ M σ Hi' H' p => q.bk Γ M σ Hi' H' (f3 Γ M p), fun Γ M σ Hi' H' p => q.ct Γ M σ Hi' H' (f4 Γ M p)⟩ y
end
end Ab
/-! Ab74: try with several clauses `except C as n` -/
namespace Ab
open PySem PySem.Spec PyProof.Rows L2
/-- a clause: its class, the slot of its name, its suite -/
structure Cls3 where
  c : Value
  i : Nat
  suite : List Stmt
abbrev TSx := Addr → Addr → Option Addr → TS
inductive HdsV (X : Cx) : List ExceptHandler → List (Cls3 × TSx) → Prop
  | nil : HdsV X [] []
  | cons {x n : Str} {c : Cls3} {ts : TSx} {b0 : Stmt} {suite : List Stmt} {np pos' : Pos} {hds : List ExceptHandler} {l : List (Cls3 × TSx)} (hc : Names X x c.c) (hi : X.N[c.i]? = some n) (hln : X.env.kindOf n = some .local)
      (hsu : ∀ (a C : Addr) (d : Option Addr) (pn : List (Addr × Obj)), PSs (X.suite a pn) (b0 :: suite) (ts a C d)) (r : HdsV X hds l) :
      HdsV X (.ExceptHandler (some (.Name x np)) (some n) (b0 :: suite) pos' :: hds) ((c, ts) :: l)
/-! ### the same over values -/
inductive HdsW (X : Cx) : List ExceptHandler → List Cls3 → Prop
  | nil : HdsW X [] []
  | cons {x n : Str} {c : Value} {i : Nat} {b0 : Stmt} {suite : List Stmt} {np pos' : Pos} {hds : List ExceptHandler} {l : List Cls3} (hc : Names X x c) (hi : X.N[i]? = some n) (hln : X.env.kindOf n = some .local) (r : HdsW X hds l) :
      HdsW X (.ExceptHandler (some (.Name x np)) (some n) (b0 :: suite) pos' :: hds) (⟨c, i, b0 :: suite⟩ :: l)
abbrev tsV (X : Cx) (c : Cls3) : TSx := fun a C d D1 σ1 H1 => ∀ pn, WB (X.suite a pn) c.suite D1 σ1 H1
theorem HdsW.v {X : Cx} {hds : List ExceptHandler} {l : List Cls3} (h : HdsW X hds l) : HdsV X hds (l.map fun c => (c, tsV X c)) := by
  induction h with
  | nil => exact .nil
  | cons hc hi hln r ih => exact .cons hc hi hln (fun a C d pn => ⟨fun pins s σ1 H1 D1 I1 h1 => pss_wb.run pins s σ1 H1 D1 I1 (h1 pn)⟩) ih
end Ab
/-! Ab43: defs that may raise, with defaults or keywords. -/
namespace Ab
open PySem PySem.Spec PyProof.Rows L2
section
variable {P : Program} {w : World} {K : PySem.W.Frag} {mg : Str → Option Value} {base : Heap} {x qual : Str} {f : Addr} {fd : FuncData}
theorem fne_dflG {params : Arguments} {body : List Stmt} {sc : Scope} {dvs : List V} {kws : List (Str × V)} {N ps ks : List Str} {k n : Nat} {s0 : ASe} (g : {α : Type} → List α → List α → List α → List α) (F : FunD K x qual params body sc dvs kws f fd) (S : FnScope N ps sc) (hd : dvs ≠ []) (dd : List Val) (hdd : ∀ H, RepA K H dd dvs)
    (h : ∀ (T : Addr) (kV doc pm : Value) (an : Option Addr) (cdv ct : Value) (us ws its : List Value), us.length = n → ws.length = ks.length → its.length = dvs.length →
      ∃ k, bindArgs (PySem.W.fnOf x qual params body sc (.ref T) kV doc pm an cdv ct) ⟨us, ks.zip ws⟩ = seqItems? (.ref T) >>= k ∧ k (some its.toArray) = pure (ps.zip (g us ws its)))
    (hv : ∀ {vs zs ys : List V} {us ws its : List Value}, Vals vs us → Vals zs ws → Vals ys its → Vals (g vs zs ys) (g us ws its))
    (hr : ∀ {H : Hp} {ds es fs : List Val} {vs zs ys : List V}, RepA K H ds vs → RepA K H es zs → RepA K H fs ys → RepA K H (g ds es fs) (g vs zs ys))
    (len : ∀ ds M R PE, s0 ds M R PE → ds.length = ps.length) (hb : BodyE P w K mg base k f N qual sc body s0) : FnE P w K mg base (k + 1) f ks (spE K fun ds es M R PE => ds.length = n ∧ s0 (g ds es dd) M R PE) := by
  obtain ⟨oc, od, dV, kV, doc, pm, an, cdv, ct, osl, e, lk, hcd, hD, hK⟩ := F.ex
  rcases hD with ⟨z, _⟩ | ⟨_, T, o, its, m, e2, lT, oT, rT⟩
  · exact absurd z hd
  · subst e2
    subst e
    refine fne_kbn (n := n) (ks := ks) (fun ds es => g ds es dd) F S (g := fun us ws => g us ws its) (gV := fun vs zs => g vs zs dvs) ⟨fun s us ws X l2 h2 => ?_, fun r1 r2 => hv r1 r2 rT⟩ (fun H ds vs es zs r1 r2 _ _ => hr r1 r2 (hdd H)) len hb
    obtain ⟨k', w1, w2⟩ := h T kV doc pm an cdv ct us ws its l2 h2 rT.length.symm
    refine BindsTo.of_looks fun M => ?_
    show PySem.W.Looks M s.heap (bindArgs _ ⟨us, ks.zip ws⟩) _
    rw [w1]
    exact looks_items X lT oT (.of_pure w2)
end
end Ab
/-! Ab44: repr of a number, a truth value, None, a text -/
namespace Ab
open PySem PySem.Spec PyProof.Rows L2
def scS : V → Option Str
  | .int i => if i.natAbs.log2 < 1920 then some (toString i) else none
  | .bl b => some (if b then "True" else "False")
  | .non => some "None"
  | .str x => if (reprText x).length ≤ sizeLine then some (reprText x) else none
  | _ => none
/-- its text by repr, if it is such a value -/
def rprS : Val → Option Str
  | .int i => if i.natAbs.log2 < 1920 then some (toString i) else none
  | .bl b => some (if b then "True" else "False")
  | .non => some "None"
  | .str x => if (reprText x).length ≤ sizeLine then some (reprText x) else none
  | _ => none
section
variable {X : Cx} {Γ : Gam} {M M' : Mem} {P : Val → Mem → Prop} {e a b c o : Expr} {pos p1 : Pos} {d v : Val} {t : Str} {n : Nat}
theorem call_reprS : CallR X (.builtin "repr") (fun xs H Q => ∃ x t, xs = [x] ∧ scS x = some t ∧ Q (.str t) H) := by
  intro pins s σ H xs us Q I r h
  obtain ⟨x, t, rfl, hx, q⟩ := h
  obtain ⟨u, rfl, r1⟩ := vals1 r
  cases x with
  | int i =>
    obtain ⟨t', rfl⟩ := r1
    have hy : (if i.natAbs.log2 < 1920 then some (Str.ofString (toString i)) else none) = some t := hx
    by_cases c : i.natAbs.log2 < 1920
    · rw [if_pos c] at hy
      cases hy
      exact PySem.P.repr_of_int c ⟨.str _, H, I.tok _, ⟨_, rfl⟩, q⟩
    · rw [if_neg c] at hy
      cases hy
  | bl b =>
    cases hx
    cases r1
    exact PySem.P.repr_of_bool ⟨.str _, H, I.tok _, ⟨_, rfl⟩, q⟩
  | non =>
    cases hx
    cases r1
    exact PySem.P.repr_of_none ⟨.str _, H, I.tok _, ⟨_, rfl⟩, q⟩
  | str y =>
    obtain ⟨t', rfl⟩ := r1
    have hy : (if (reprText y).length ≤ sizeLine then some (reprText y) else none) = some t := hx
    by_cases c : (reprText y).length ≤ sizeLine
    · rw [if_pos c] at hy
      cases hy
      exact PySem.P.repr_of_str ⟨.str _, H, I.tok _, ⟨_, rfl⟩, q⟩ c
    · rw [if_neg c] at hy
      cases hy
  | byt y => exact nomatch hx
  | flt y => exact nomatch hx
  | ref y => exact nomatch hx
  | ty y => exact nomatch hx
theorem av_reprS (hm : X.mg "repr" = none) (ha : aV X a Γ M d) (h : rprS d = some t)
    (hg : Gl X "repr" := by rfl) (hst : starEach [a] X.env = [(false, eval a X.env)] := by rfl) : aV X (.Call (.Name "repr" p1) [a] [] pos) Γ M (.str t) :=
  ae_callB call_reprS hm (by decide +kernel) (aa_cons (ha.val (aa_nil fun Hi H vs ok r Q q => by
    cases r with
    | cons r1 r2 =>
      cases r2
      cases d with
      | int i => cases r1; exact ⟨_, t, rfl, h, q _ _ _ Hi H ⟨rfl, rfl⟩ (Same.refl _) ok (.str _)⟩
      | bl i => cases r1; exact ⟨_, t, rfl, h, q _ _ _ Hi H ⟨rfl, rfl⟩ (Same.refl _) ok (.str _)⟩
      | non => cases r1; exact ⟨_, t, rfl, h, q _ _ _ Hi H ⟨rfl, rfl⟩ (Same.refl _) ok (.str _)⟩
      | str i => cases r1; exact ⟨_, t, rfl, h, q _ _ _ Hi H ⟨rfl, rfl⟩ (Same.refl _) ok (.str _)⟩
      | lst i => exact nomatch h
      | tup i => exact nomatch h
      | ty i => exact nomatch h
      | ptr i => exact nomatch h
      | obj i j => exact nomatch h
      | exc i j => exact nomatch h
      | lam i j => exact nomatch h)) hst) hg (he := hst) (hpl := rfl)
end
end Ab
/-! Ab45: classmethods (with keywords), making an instance through a local name, zip, not in, isinstance of several classes, constants of a class -/
namespace Ab
open PySem PySem.Spec PyProof.Rows L2
/-! ### classmethods -/
section
variable {X : Cx} {Γ : Gam} {M : Mem} {P : Val → Mem → Prop} {o e a b : Expr} {es : List Expr} {pos p1 apos : Pos} {kws : List Keyword} {n q : Nat} {m x : Str} {C : Addr} {ks : List Str} {sx : ASx} {d d1 d2 : Val}
/-- C.f, a constant of the class -/
theorem av_cval {mc u : Value} {f : Str} {v : V} (r : ClX.CRead X.K C mc) (k : ClX.CVal X.K C mc f v u) (ha : aV X a Γ M (.ptr C)) (rep : ∀ H, Rep X.K H d v) (hb : attributeBase a f X.env (eval a X.env) = eval a X.env := by rfl) : aV X (.Attribute a f pos) Γ M d := fun Hi H σ ok en Q q => by
  refine ⟨_, ClX.pe_cval pe_we hb, ?_⟩
  refine ha Hi H σ ok en _ fun x M1 w Hi1 H1 h1 s1 ok1 r1 => ?_
  obtain ⟨rfl, rfl⟩ := h1
  cases r1
  exact ⟨C, mc, v, u, rfl, r, k, q _ _ v Hi1 H1 ⟨rfl, rfl⟩ s1 ok1 (rep _)⟩
/-! ### zip of two tuples -/
/-! ### i not in (j, ..) -/
end
end Ab
/-! Ab75: x(*y, k=e) where x is a local name that holds a class; t * 1; tuple(range(a, b)); a def that may raise but does not -/
namespace Ab
open PySem PySem.Spec PyProof.Rows L2
section
variable {P : Program} {w : World} {K : PySem.W.Frag} {mg : Str → Option Value} {base : Heap} {f : Addr}
theorem FnE.toX {k : Nat} {ks : List Str} {sx : ASxe} (F : FnE P w K mg base k f ks (spE K sx)) : FnX P w K mg base k f ks (spX K fun ds es M R => sx ds es M R fun _ _ _ => False) :=
  ⟨fun A outer s H us ws vs zs Q hr e0 r rz hz ⟨Hi, M, ds, es, R, ra, re, ok, h, q⟩ => codeAny_mono (F.run A outer s H us ws vs zs Q (fun _ _ _ => False) hr e0 r rz hz ⟨Hi, M, ds, es, R, fun _ _ _ => False, ra, re, ok, h, q, fun _ _ _ _ _ _ _ z => z.elim⟩) fun r s' h => by
    cases r with
    | error e =>
      obtain ⟨a, B, H', cls, d, ea, fl, hok, ub, na, os, ag, he⟩ := h
      exact he.elim
    | ok fl =>
      cases fl <;> exact h⟩
theorem FnE.impL {k : Nat} {ks : List Str} {sx sx' : ASxe} (F : FnE P w K mg base k f ks (spE K sx)) (h : ∀ ds es M R PE, es.length = ks.length → sx' ds es M R PE → sx ds es M R PE) : FnE P w K mg base k f ks (spE K sx') :=
  ⟨fun A outer s H us ws vs zs Q E hr e0 r rz hz ⟨Hi, M, ds, es, R, PE, ra, re, ok, hs, q, qx⟩ => F.run A outer s H us ws vs zs Q E hr e0 r rz hz ⟨Hi, M, ds, es, R, PE, ra, re, ok, h _ _ _ _ _ (re.length.trans hz) hs, q, qx⟩⟩
theorem FnX.impL {k : Nat} {ks : List Str} {sx sx' : ASx} (F : FnX P w K mg base k f ks (spX K sx)) (h : ∀ ds es M R, es.length = ks.length → sx' ds es M R → sx ds es M R) : FnX P w K mg base k f ks (spX K sx') :=
  ⟨fun A outer s H us ws vs zs Q hr e0 r rz hz ⟨Hi, M, ds, es, R, ra, re, ok, hs, q⟩ => F.run A outer s H us ws vs zs Q hr e0 r rz hz ⟨Hi, M, ds, es, R, ra, re, ok, h _ _ _ _ (re.length.trans hz) hs, q⟩⟩
end
/-! ### t * 1 -/
end Ab
/-! Ab76: == and != of instances that stand in boxes; Name(*y, k=e); a box behind which new cells are left -/
namespace Ab
open PySem PySem.Spec PyProof.Rows L2
end Ab
/-! Ab46: isinstance(x, (C1, C2)) -/
namespace Ab
open PySem PySem.Spec PyProof.Rows L2
end Ab
/-! repr of great ints (up to 12900 binary digits), alone and within lists and tuples -/
namespace Ab
open PySem PySem.Spec PyProof.Rows L2 PySem.Builtin
section
variable {prog : Program} {w : World} {A : Around} {E : Value → Shared → Prop} {s : Shared} {h₀ : Heap}
def Tells (prog : Program) (w : World) (h₀ : Heap) (v : Value) (p : PyData) : Prop := ∃ bs, ReadAtMost h₀ p.depth bs ∧ ReprK prog w bs h₀ p.depth v p.shown
theorem Tells.of {v : Value} {p : PyData} (h : ReprK prog w [] h₀ p.depth v p.shown) : Tells prog w h₀ v p := ⟨[], (fun _ z => nomatch z), h⟩
end
/-! ### on values -/
end Ab
/-! a run that cannot wake the generators that slept when it began leaves them as they are -/
namespace Ab
open PySem PySem.Spec PyProof.Rows L2 GenW
/-- what stands at a place of the two tables: in the run whose sleepers cannot be woken, in the run itself -/
inductive Tw : GenState → GenState → Prop
  | same {x : GenState} (h : ∀ k l c p fs cl, x = .suspended k l c p fs cl → splitAtGen fs = none) : Tw x x
  | slept {k : Resume → Sem PySem.Fin} {l : List Value} {c : Code} {p : Pos} {fs : List Frame} {cl : Bool} : Tw (.suspended (fun _ => .unsupported "slept") l c p fs cl) (.suspended k l c p fs cl)
def GTw (a b : Array GenState) : Prop := a.size = b.size ∧ ∀ (i : Nat) x y, a[i]? = some x → b[i]? = some y → Tw x y
def Sl (x : GenState) : Prop := ∃ l c p fs cl, x = .suspended (fun _ => .unsupported "slept") l c p fs cl
def Stay (a b a' b' : Array GenState) : Prop := ∀ (i : Nat) x, a[i]? = some x → Sl x → a'[i]? = some x ∧ b'[i]? = b[i]?
theorem Stay.refl (a b : Array GenState) : Stay a b a b := fun i x h _ => ⟨h, rfl⟩
theorem Stay.trans {a b a1 b1 a2 b2 : Array GenState} (h : Stay a b a1 b1) (h2 : Stay a1 b1 a2 b2) : Stay a b a2 b2 := fun i x e z => by
  obtain ⟨e1, e2⟩ := h i x e z
  obtain ⟨e3, e4⟩ := h2 i x e1 z
  exact ⟨e3, e4.trans e2⟩
theorem Tw.seen {x y : GenState} (h : Tw x y) : x.seen = y.seen := by
  cases h with
  | same => rfl
  | slept => rfl
theorem Tw.bare {x y : GenState} (h : Tw x y) : x.bare = y.bare := by
  cases h with
  | same => rfl
  | slept => rfl
theorem GTw.get {a b : Array GenState} (h : GTw a b) {i : Nat} {x : GenState} (e : a[i]? = some x) : ∃ y, b[i]? = some y ∧ Tw x y := by
  obtain ⟨hi, _⟩ := Array.getElem?_eq_some_iff.mp e
  have hi' : i < b.size := h.1 ▸ hi
  exact ⟨b[i], Array.getElem?_eq_getElem hi', h.2 i x _ e (Array.getElem?_eq_getElem hi')⟩
theorem GTw.set {a b : Array GenState} (h : GTw a b) (g : Nat) {x : GenState} (hx : ∀ k l c p fs cl, x = .suspended k l c p fs cl → splitAtGen fs = none) : GTw (a.setIfInBounds g x) (b.setIfInBounds g x) := by
  refine ⟨by rw [Array.size_setIfInBounds, Array.size_setIfInBounds]; exact h.1, fun i u v hu hv => ?_⟩
  rw [Array.getElem?_setIfInBounds] at hu hv
  by_cases e : g = i
  · subst e
    rw [if_pos rfl] at hu hv
    by_cases hl : g < a.size
    · rw [if_pos hl] at hu
      rw [if_pos (h.1 ▸ hl)] at hv
      cases hu
      cases hv
      exact .same hx
    · rw [if_neg hl] at hu
      cases hu
  · rw [if_neg e] at hu hv
    exact h.2 i u v hu hv
theorem GTw.push {a b : Array GenState} (h : GTw a b) (c : Code) : GTw (a.push (.fresh c)) (b.push (.fresh c)) := by
  refine ⟨by rw [Array.size_push, Array.size_push, h.1], fun i u v hu hv => ?_⟩
  rw [Array.getElem?_push] at hu hv
  by_cases e : i = a.size
  · rw [if_pos e] at hu
    rw [if_pos (e.trans h.1)] at hv
    cases hu
    cases hv
    exact .same fun _ _ _ _ _ _ z => nomatch z
  · rw [if_neg e] at hu
    rw [if_neg (fun z => e (z.trans h.1.symm))] at hv
    exact h.2 i u v hu hv
end Ab
/-! generators: the heap cut, objects that stand by while one sleeps -/
namespace Ab
open PySem PySem.Spec PyProof.Rows L2 GenW
/-- the first B objects -/
def cutH (B : Nat) (h : Heap) : Heap := ⟨(h.objs.toList.take B).toArray, h.life⟩
def cutS (B : Nat) (s : Shared) : Shared := { s with heap := cutH B s.heap }
/-! ### what stands by -/
abbrev Own := List (Addr × Obj)
section
variable {ow : Own} {H H' Hi Hi' : Hp} {b : Addr} {o : Obj} {x : HO}
/-- a raw thing is no exception -/
theorem raw_exc {C : Addr} {d : Option Addr} {o : Obj} : rawH b o ≠ exH b C d := fun e => by
  unfold rawH exH at e
  have e1 := HO.ext.inj e
  let o1 : Obj := { cls := .ref C, dict := d, data := .fields #[], slots := #[] }
  let o2 : Obj := { cls := .ref C, dict := d, data := .fields #[.none], slots := #[] }
  have go : ∀ (u : Obj) (vs : Array Value), u.data = .fields vs → Zc (.ref C) d u → u = o := fun u vs hd hz => by
    have hp : ∃ h : Heap, h.get? b = some u := by
      refine ⟨⟨Array.replicate (b + 1) u, {}⟩, ?_⟩
      unfold Heap.get?
      simp only [Array.getElem?_replicate, Nat.lt_succ_self, if_true]
      obtain ⟨c, dd, dt, sl⟩ := u
      have hd : dt = .fields vs := hd
      subst hd
      rfl
    obtain ⟨h, hh⟩ := hp
    have := congrFun e1 h
    have h2 : h.get? b = some o := this.mpr ⟨u, vs, hh, hz, hd⟩
    rw [hh] at h2
    cases h2
    rfl
  have e2 := go o1 #[] rfl ⟨rfl, rfl⟩
  have e3 := go o2 #[.none] rfl ⟨rfl, rfl⟩
  have e4 : o1 = o2 := e2.trans e3.symm
  have e5 := congrArg Obj.data e4
  cases e5
/-- nor a code object -/
theorem raw_code {q : Str} {o : Obj} : rawH b o ≠ LamX.CodeO b q := fun e => by
  unfold rawH LamX.CodeO at e
  have e1 := HO.ext.inj e
  let o1 : Obj := { cls := .none, dict := none, data := .fields #[.none, .str q 0], slots := #[] }
  let o2 : Obj := { cls := .none, dict := none, data := .fields #[.none, .str q 1], slots := #[] }
  have go : ∀ (u : Obj) (vs : Array Value) (tk : Tok), u.data = .fields vs → vs[1]? = some (.str q tk) → u = o := fun u vs tk hd hz => by
    have hp : ∃ h : Heap, h.get? b = some u := by
      refine ⟨⟨Array.replicate (b + 1) u, {}⟩, ?_⟩
      unfold Heap.get?
      simp only [Array.getElem?_replicate, Nat.lt_succ_self, if_true]
      obtain ⟨c, dd, dt, sl⟩ := u
      have hd : dt = .fields vs := hd
      subst hd
      rfl
    obtain ⟨h, hh⟩ := hp
    have := congrFun e1 h
    have h2 : h.get? b = some o := this.mpr ⟨u, vs, tk, hh, hd, hz⟩
    rw [hh] at h2
    cases h2
    rfl
  have e2 := go o1 #[.none, .str q 0] 0 rfl rfl
  have e3 := go o2 #[.none, .str q 1] 1 rfl rfl
  have e4 : o1 = o2 := e2.trans e3.symm
  have e5 := congrArg Obj.data e4
  simp [o1, o2] at e5
theorem Kp.sqL {K : PySem.W.Frag} {a : Addr} {xs : List V} (e : Kp H H') (h : SqL K H a xs) : SqL K H' a xs := by
  rcases h with (h | ⟨o, h⟩) | h
  · exact .inl (.inl (e _ _ h fun o z => by cases z))
  · exact .inl (.inr ⟨o, e _ _ h fun o z => by cases z⟩)
  · exact .inr h
theorem Kp.sqT {K : PySem.W.Frag} {a : Addr} {xs : List V} (e : Kp H H') (h : SqT K H a xs) : SqT K H' a xs := by
  rcases h with (h | ⟨o, h⟩) | h
  · exact .inl (.inl (e _ _ h fun o z => by cases z))
  · exact .inl (.inr ⟨o, e _ _ h fun o z => by cases z⟩)
  · exact .inr h
end
mutual
theorem Rep.kp {K : PySem.W.Frag} {H H' : Hp} (e : Kp H H') : ∀ {d : Val} {v : V}, Rep K H d v → Rep K H' d v
  | _, _, .non => .non
  | _, _, .bl b => .bl b
  | _, _, .int i => .int i
  | _, _, .str x => .str x
  | _, _, .ty n => .ty n
  | _, _, .ptr a => .ptr a
  | _, _, .lst h r => .lst (e.sqL h) (RepA.kp e r)
  | _, _, .tup h r => .tup (e.sqT h) (RepA.kp e r)
  | _, _, .obj h r => .obj (e _ _ h fun o z => by cases z) (RepF.kp e r)
  | _, _, .exc h d r => .exc (e _ _ h fun o z => raw_exc z.symm) (e _ _ d fun o z => by cases z) (RepF.kp e r)
  | _, _, .exc0 h => .exc0 (e _ _ h fun o z => raw_exc z.symm)
  | _, _, .lam h => .lam (h.trans e)
theorem RepA.kp {K : PySem.W.Frag} {H H' : Hp} (e : Kp H H') : ∀ {ds : List Val} {vs : List V}, RepA K H ds vs → RepA K H' ds vs
  | _, _, .nil => .nil
  | _, _, .cons a r => .cons (Rep.kp e a) (RepA.kp e r)
theorem RepF.kp {K : PySem.W.Frag} {H H' : Hp} (e : Kp H H') : ∀ {ds : List (Str × Val)} {vs : List (Str × V)}, RepF K H ds vs → RepF K H' ds vs
  | _, _, .nil => .nil
  | _, _, .cons a r => .cons (Rep.kp e a) (RepF.kp e r)
end
theorem RepK.kp {K : PySem.W.Frag} {H H' : Hp} (e : Kp H H') : ∀ {ds : List (Key × Val)} {vs : List (Key × V)}, RepK K H ds vs → RepK K H' ds vs
  | _, _, .nil => .nil
  | _, _, .cons a r => .cons (a.kp e) (RepK.kp e r)
theorem RepC.kp {K : PySem.W.Frag} {H H' : Hp} (e : Kp H H') : ∀ {c : Cell0} {o : HO}, RepC K H c o → RepC K H' c o
  | .lst _, _, ⟨xs, h, r⟩ => ⟨xs, h, r.kp e⟩
  | .dk _, _, ⟨kvs, h, r⟩ => ⟨kvs, h, r.kp e⟩
  | .ins _ _, _, ⟨dx, fs, h, r⟩ => ⟨dx, fs, h, r.kp e⟩
  | .fz _ _ _, _, ⟨h, r⟩ => ⟨h, r.kp e⟩
  | .tb _, _, ⟨ps, h, t, r⟩ => ⟨ps, h, t, fun pos cv hc => let ⟨c, h1, h2⟩ := r pos cv hc; ⟨c, h1, e _ _ h2 fun o z => raw_code z.symm⟩⟩
theorem EnvR.kp {K : PySem.W.Frag} {H H' : Hp} {Γ : Gam} {σ : L2.St} (e : Kp H H') (h : EnvR K H Γ σ) : EnvR K H' Γ σ := ⟨h.1, fun i d q => let ⟨v, h1, h2⟩ := h.2 i d q; ⟨v, h1, h2.kp e⟩⟩
end Ab
/-! generators: the contract, statements of a generator's body -/
namespace Ab
open PySem PySem.Spec PyProof.Rows L2 GenW
/-- what is wanted of a wake: an item and where the generator then stands, or its end; the cells then -/
abbrev Hnd (τ : Type) := Option (Val × τ) → Mem → Prop
/-- a wake: where the generator stands, the abstract heap and the cells then, what is wanted, what must stay as it is -/
structure Wkg (τ : Type) where
  x : τ
  Hi : Hp
  H : Hp
  M : Mem
  R : Hnd τ
  pn : List (Addr × Obj)
/-- a generator: Tr: what a wake does; Th: when its consumer wakes it -/
structure GX (τ : Type) where
  P : Program
  w : World
  K : PySem.W.Frag
  mg : Str → Option Value
  base : Heap
  N : List Str
  qual : Str
  sc : Scope
  f : Addr
  cdv : Value
  A : Around
  outer : List Env
  B : Nat
  gp : Addr × Obj
  Tr : τ → Mem → Hnd τ → Prop
  Th : Nat → Wkg τ → Shared → Prop
/-- the context of a generator's body since a wake -/
abbrev gcx (P : Program) (w : World) (K : PySem.W.Frag) (mg : Str → Option Value) (base : Heap) (N : List Str) (qual : Str) (sc : Scope) (f : Addr) (cdv : Value) (A : Around) (outer : List Env) (B : Nat) (pn : List (Addr × Obj)) (H : Hp) (s : Shared) : Cx :=
  { prog := P, w := w, K := K, mg := mg, base := base, A := A.deeper (envOfC qual sc B f cdv), N := N, s_0 := cutS B s, H_0 := H, env := envOfC qual sc B f cdv, outer := outer, stack := envOfC qual sc B f cdv :: outer,
    ex := [], fn := fun _ => true, calm := true, pn := pn, xe := fun _ _ => False }
section
variable {τ : Type}
abbrev GX.env (G : GX τ) : Env := envOfC G.qual G.sc G.B G.f G.cdv
abbrev GX.cx (G : GX τ) (H : Hp) (s : Shared) (pn : List (Addr × Obj)) : Cx := gcx G.P G.w G.K G.mg G.base G.N G.qual G.sc G.f G.cdv G.A G.outer G.B (G.gp :: pn) H s
/-- what is true of it through its life -/
structure GOk (G : GX τ) : Prop where
  mod : Mod G.K G.mg G.base
  kind : G.sc.kind = .function
  co : G.sc.isCoroutine = false
  inj : ∀ x y c, G.env.cells.lookup x = some c → G.env.cells.lookup y = some c → x = y
  has : ∀ x, (G.env.kindOf x = some .cell ∨ G.env.kindOf x = some .free) → ∃ c, G.env.cells.lookup x = some c
  cab : ∀ x c, G.env.cells.lookup x = some c → G.B < c
  hd : G.A.handled = none
  frames : G.A.frames = some G.outer
  bsz : G.base.objs.size ≤ G.B
  sml : ∀ b ∈ frs G.outer, b < G.B
  gpB : G.B < G.gp.1
  gpd : ∀ v, G.gp.2.data ≠ .cell v
  gpc : ∀ x c, G.env.cells.lookup x = some c → c ≠ G.gp.1
structure PinOk (G : GX τ) (H : Hp) (s : Shared) (p : Addr × Obj) : Prop where
  at_ : s.heap.get? p.1 = some p.2
  no : H p.1 = none
  loc : p.1 ≠ G.B
  fr : p.1 ∉ frs G.outer
  nc : ∀ v, p.2.data ≠ .cell v
/-- the state at a wake -/
structure Woke (G : GX τ) (n : Nat) (W : Wkg τ) (s : Shared) : Prop where
  th : G.Th n W s
  pos : 0 < n
  tr : G.Tr W.x W.M W.R
  ok : Ok G.K W.Hi W.M W.H
  le : G.B ≤ s.heap.objs.size
  bs : ∀ b o, G.base.get? b = some o → s.heap.get? b = some o ∧ W.H b = none
  funs : s.heap.FunFrames G.base G.outer
  frf : ∀ b ∈ frs G.outer, W.H b = none
  hok : HOk G.P G.w W.H s.heap
  bare : AllBare s.gens
  pn : ∀ p ∈ W.pn, PinOk G W.H s p
/-- what a run since a wake leaves -/
structure Seen (G : GX τ) (W : Wkg τ) (s₀ : Shared) (Hi H : Hp) (M : Mem) (s : Shared) : Prop where
  os : s.os = s₀.os
  bare : AllBare s.gens
  un : Un (frs G.outer) [] W.H H (cutH G.B s₀.heap) s.heap
  hok : HOk G.P G.w H s.heap
  pn : ∀ p ∈ G.gp :: W.pn, s.heap.get? p.1 = some p.2 ∧ H p.1 = none
  sm : Same W.Hi Hi
  ok : Ok G.K Hi M H
/-- what stands by -/
structure OwOk (G : GX τ) (ow : Own) (H : Hp) (s : Shared) : Prop where
  at_ : ∀ p ∈ ow, s.heap.get? p.1 = some p.2
  no : ∀ p ∈ ow, H p.1 = none
  ab : ∀ p ∈ ow, G.B ≤ p.1
  gp : G.gp ∈ ow
/-- the protocol -/
def YG (G : GX τ) : Protocol := fun n s₀ v s kap => ∃ (W : Wkg τ) (d : Val) (x' : τ) (vv : V) (M : Mem) (Hi H : Hp) (ow : Own), G.Th (n + 1) W s₀ ∧ W.R (some (d, x')) M ∧ RelV vv v ∧ Rep G.K Hi d vv ∧ Seen G W s₀ Hi H M s ∧ OwOk G ow H s ∧ (∀ p ∈ W.pn, ∀ q ∈ ow, p.1 ≠ q.1) ∧
  ∀ (W' : Wkg τ) (s' : Shared), Woke G n W' s' → W'.x = x' → Same Hi W'.Hi → OwOk G ow W'.H s' → (∀ p ∈ W'.pn, ∀ q ∈ ow, p.1 ≠ q.1) → kap (.send .none) s'
def EG (G : GX τ) (n : Nat) (s₀ s : Shared) : Prop := ∃ (W : Wkg τ) (M : Mem) (Hi H : Hp), G.Th n W s₀ ∧ W.R none M ∧ Seen G W s₀ Hi H M s
abbrev RG (G : GX τ) : GenEnd := fun n s₀ r s => ((r = .ok (.ret .none) ∨ r = .ok .next) ∧ EG G n s₀ s) ∨ ∃ e, r = .error e ∧ False
/-- what is wanted behind a statement of a generator: the wakes left, the wish, slots, cells -/
structure KG (τ : Type) where
  nx : Nat → Hnd τ → Gam → Mem → Prop
  rt : Nat → Hnd τ → Val → Mem → Prop
  bk : Nat → Hnd τ → Gam → Mem → Prop := fun _ _ _ _ => False
  ct : Nat → Hnd τ → Gam → Mem → Prop := fun _ _ _ _ => False
def KG.at (k : KG τ) (n : Nat) (R : Hnd τ) : AK := { nx := k.nx n R, rt := k.rt n R, bk := k.bk n R, ct := k.ct n R }
/-- where the generator's code stands -/
structure GCt (G : GX τ) (ip : List (Addr × Obj)) (c : Code) (fs : List Frame) (gd : Bool → Bool) : Prop where
  over : G.A.over c fs = G.A.deeper G.env
  split : splitAtGen fs = none
  guard : fs.any Frame.guarded = false
  gd : gd false = false
  ip : ∀ p ∈ ip, G.B ≤ p.1
abbrev SegG (G : GX τ) (n : Nat) (s₀ : Shared) (c : Code) (t : Sem PySem.Fin) (fs : List Frame) (s : Shared) : Prop := Seg (model G.P G.w) G.A (RG G) (YG G) n s₀ c t fs s
/-- the state amid a run since a wake -/
structure GIv (G : GX τ) (ip : List (Addr × Obj)) (n : Nat) (W : Wkg τ) (s₀ s : Shared) (σ : L2.St) (H Hi : Hp) (M : Mem) : Prop where
  th : G.Th n W s₀
  sm : Same W.Hi Hi
  inv : Inv (G.cx W.H s₀ W.pn) ip σ H s
  ok : Ok G.K Hi M H
  ap : ∀ p ∈ W.pn, ∀ q ∈ ip, p.1 ≠ q.1
  le : G.B ≤ s₀.heap.objs.size
  gpn : ∀ p ∈ W.pn, p.1 ≠ G.gp.1
structure GKo (G : GX τ) (ip : List (Addr × Obj)) (Hi0 : Hp) (c : Code) (fs : List Frame) (Kc : Flow → Sem PySem.Fin) (k : KG τ) : Prop where
  nx : ∀ n W s₀ s σ H Hi Γ M, GIv G ip n W s₀ s σ H Hi M → Same Hi0 Hi → EnvR G.K Hi Γ σ → k.nx n W.R Γ M → SegG G n s₀ c (Kc .next) fs s
  bk : ∀ n W s₀ s σ H Hi Γ M, GIv G ip n W s₀ s σ H Hi M → Same Hi0 Hi → EnvR G.K Hi Γ σ → k.bk n W.R Γ M → SegG G n s₀ c (Kc .brk) fs s
  ct : ∀ n W s₀ s σ H Hi Γ M, GIv G ip n W s₀ s σ H Hi M → Same Hi0 Hi → EnvR G.K Hi Γ σ → k.ct n W.R Γ M → SegG G n s₀ c (Kc .cont) fs s
  rt : ∀ n W s₀ s σ H Hi d v u M, GIv G ip n W s₀ s σ H Hi M → Same Hi0 Hi → Rep G.K Hi d v → RelV v u → k.rt n W.R d M → SegG G n s₀ c (Kc (.ret u)) fs s
def gS (G : GX τ) (st : Stmt) (n : Nat) (R : Hnd τ) (Γ : Gam) (M : Mem) (k : KG τ) : Prop := GOk G → ∀ ip W s₀ c fs Kc Jc gd lv s σ H Hi, GCt G ip c fs gd → GIv G ip n W s₀ s σ H Hi M → W.R = R → EnvR G.K Hi Γ σ →
  GKo G ip Hi c fs Kc k → SegG G n s₀ c ((exec st G.env).wrap Kc Jc gd lv) fs s
def gSs (G : GX τ) (st : List Stmt) (n : Nat) (R : Hnd τ) (Γ : Gam) (M : Mem) (k : KG τ) : Prop := GOk G → ∀ ip W s₀ c fs Kc Jc gd lv s σ H Hi, GCt G ip c fs gd → GIv G ip n W s₀ s σ H Hi M → W.R = R → EnvR G.K Hi Γ σ →
  GKo G ip Hi c fs Kc k → SegG G n s₀ c ((execs st G.env).wrap Kc Jc gd lv) fs s
end
section
variable {τ : Type} {G : GX τ} {st : Stmt} {sts rest : List Stmt} {n : Nat} {R : Hnd τ} {Γ : Gam} {M : Mem} {k : KG τ}
/-- what a plain piece leaves -/
def gD (K : PySem.W.Frag) (Hi : Hp) (k : AK) : Ends where
  nx := fun σ' H' => ∃ Γ' M' Hi', k.nx Γ' M' ∧ Same Hi Hi' ∧ Ok K Hi' M' H' ∧ EnvR K Hi' Γ' σ'
  rt := fun v H' => ∃ d M' Hi', k.rt d M' ∧ Same Hi Hi' ∧ Ok K Hi' M' H' ∧ Rep K Hi' d v
  bk := fun σ' H' => ∃ Γ' M' Hi', k.bk Γ' M' ∧ Same Hi Hi' ∧ Ok K Hi' M' H' ∧ EnvR K Hi' Γ' σ'
  ct := fun σ' H' => ∃ Γ' M' Hi', k.ct Γ' M' ∧ Same Hi Hi' ∧ Ok K Hi' M' H' ∧ EnvR K Hi' Γ' σ'
theorem gD_real {K : PySem.W.Frag} {Hi : Hp} {k : AK} : Real K Hi k (gD K Hi k) :=
  ⟨fun Γ' M' σ' Hi' H' h s o e => ⟨Γ', M', Hi', h, s, o, e⟩, fun d M' v Hi' H' h s o e => ⟨d, M', Hi', h, s, o, e⟩, fun Γ' M' σ' Hi' H' h s o e => ⟨Γ', M', Hi', h, s, o, e⟩, fun Γ' M' σ' Hi' H' h s o e => ⟨Γ', M', Hi', h, s, o, e⟩⟩
section
variable {ip : List (Addr × Obj)} {W : Wkg τ} {s₀ s : Shared} {σ : L2.St} {H Hi : Hp}
theorem GKo.up {Hi' : Hp} {c : Code} {fs : List Frame} {Kc : Flow → Sem PySem.Fin} (kk : GKo G ip Hi c fs Kc k) (sm : Same Hi Hi') : GKo G ip Hi' c fs Kc k :=
  ⟨fun n W s₀ s σ H Hi2 Γ M v s2 => kk.nx n W s₀ s σ H Hi2 Γ M v (sm.trans s2), fun n W s₀ s σ H Hi2 Γ M v s2 => kk.bk n W s₀ s σ H Hi2 Γ M v (sm.trans s2), fun n W s₀ s σ H Hi2 Γ M v s2 => kk.ct n W s₀ s σ H Hi2 Γ M v (sm.trans s2), fun n W s₀ s σ H Hi2 d v u M g s2 => kk.rt n W s₀ s σ H Hi2 d v u M g (sm.trans s2)⟩
theorem GIv.to (v : GIv G ip n W s₀ s σ H Hi M) {s' : Shared} {σ' : L2.St} {H' Hi' : Hp} {M' : Mem} (I : Inv (G.cx W.H s₀ W.pn) ip σ' H' s') (sm : Same Hi Hi') (ok : Ok G.K Hi' M' H') : GIv G ip n W s₀ s' σ' H' Hi' M' := ⟨v.th, v.sm.trans sm, I, ok, v.ap, v.le, v.gpn⟩
end
/-! ### while -/
end
end Ab
/-! generator defs: the call -/
namespace Ab
open PySem PySem.Spec PyProof.Rows L2 GenW
/-- a generator that has not begun; it stands at x -/
def GNew (P : Program) (w : World) (K : PySem.W.Frag) (mg : Str → Option Value) (base : Heap) (k : Nat) (outer : List Env) (B : Nat) {τ : Type} (Tr : τ → Mem → Hnd τ → Prop) (H Hi : Hp) (x : τ) (u : Value) (s : Shared) : Prop :=
  ∃ (N : List Str) (qual : Str) (sc : Scope) (f : Addr) (cdv : Value) (gp : Addr × Obj) (g : Nat) (c : Code) (ow : Own) (nm qn : Value),
    u = .ref gp.1 ∧ gp.2.cls = .type "generator" ∧ gp.2.data = .fields #[.int g 0, nm, qn] ∧ gp.2.slots = #[] ∧ s.gens[g]? = some (.fresh c) ∧
    (∀ p ∈ ow, s.heap.get? p.1 = some p.2 ∧ H p.1 = none ∧ B ≤ p.1) ∧ gp ∈ ow ∧
    ∀ (A : Around) (Th : Nat → Wkg τ → Shared → Prop), Rm k A → A.frames = some outer → GOk (GX.mk P w K mg base N qual sc f cdv A outer B gp Tr Th) ∧
      ∀ (n : Nat) (W : Wkg τ) (s2 : Shared), Woke (GX.mk P w K mg base N qual sc f cdv A outer B gp Tr Th) n W s2 → W.x = x → Same Hi W.Hi → OwOk (GX.mk P w K mg base N qual sc f cdv A outer B gp Tr Th) ow W.H s2 → (∀ p ∈ W.pn, ∀ q ∈ ow, p.1 ≠ q.1) →
        SegG (GX.mk P w K mg base N qual sc f cdv A outer B gp Tr Th) n s2 c ((model P w).den c) [] s2
/-- a generator def by its call -/
structure GnX (P : Program) (w : World) (K : PySem.W.Frag) (mg : Str → Option Value) (base : Heap) (k : Nat) (f : Addr) (ks : List Str) {τ : Type} (Tr : τ → Mem → Hnd τ → Prop) (s0 : List Val → List Val → τ → Prop) : Prop where
  run : ∀ (A : Around) (outer : List Env) (s : Shared) (H Hi : Hp) (us ws : List Value) (vs zs : List V) (ds es : List Val) (x : τ), Rm k A → Env0 P w K mg base A outer s H → Vals vs us → Vals zs ws → zs.length = ks.length → RepA K Hi ds vs → RepA K Hi es zs → s0 ds es x →
    codeAny (model P w) A (.call (.ref f) ⟨us, ks.zip ws⟩) (fun r s' => match r with
      | .ok (.ret u) => GNew P w K mg base k outer s.heap.objs.size Tr H Hi x u s' ∧ s'.os = s.os ∧ AllBare s'.gens ∧ ∀ b o, s.heap.get? b = some o → s'.heap.get? b = some o
      | _ => False) s
end Ab
/-! a for over a generator -/
namespace Ab
open PySem PySem.Spec PyProof.Rows L2 GenW
open Sem (wp)
section
variable {X : Cx} {Γ : Gam} {M : Mem} {k : AK} {pos : Pos}
theorem ws_of {st : Stmt} {D : Ends} {σ : L2.St} {H : Hp} (h : ∀ pins s, Inv X pins σ H s → wpAny (model X.prog X.w) X.A (exec st X.env) (SP X pins D) X.xe s) : WS X st D σ H :=
  ⟨fun D σ H => ∀ pins s, Inv X pins σ H s → wpAny (model X.prog X.w) X.A (exec st X.env) (SP X pins D) X.xe s, ⟨fun pins s σ H D I h => h pins s I⟩, h⟩
end
end Ab
/-! calls of generator defs -/
namespace Ab
open PySem PySem.Spec PyProof.Rows L2 GenW
section
variable {X : Cx} {Γ : Gam} {M : Mem} {e o : Expr} {es : List Expr} {kws : List Keyword} {pos p1 apos : Pos} {x m : Str} {n : Nat} {f C : Addr} {ks : List Str} {τ : Type} {Tr : τ → Mem → Hnd τ → Prop} {s0 : List Val → List Val → τ → Prop} {P : τ → Mem → Prop}
theorem GnX.mono {P : Program} {w : World} {K : PySem.W.Frag} {mg : Str → Option Value} {base : Heap} {j k : Nat} (F : GnX P w K mg base j f ks Tr s0) (h : j ≤ k) : GnX P w K mg base k f ks Tr s0 := ⟨fun A outer s H Hi us ws vs zs ds es x hr e0 r rz l rd re hs =>
  codeAny_mono (F.run A outer s H Hi us ws vs zs ds es x (hr.mono h) e0 r rz l rd re hs) fun r s' hq => by
    cases r with
    | error e => exact hq
    | ok fl =>
      cases fl with
      | ret u =>
        obtain ⟨⟨N, qual, sc, f, cdv, gp, g, c, ow, nm, qn, h1, h2, h3, h4, h5, h6, h7, h8⟩, h9⟩ := hq
        exact ⟨⟨N, qual, sc, f, cdv, gp, g, c, ow, nm, qn, h1, h2, h3, h4, h5, h6, h7, fun A Th hr => h8 A Th (hr.mono h)⟩, h9⟩
      | next => exact hq
      | brk => exact hq
      | cont => exact hq⟩
end
end Ab
/-! a for within a generator's body -/
namespace Ab
open PySem PySem.Spec PyProof.Rows L2 GenW
end Ab
/-! dicts: keys that are ints or texts, get, locking, walking -/
namespace Ab
open PySem PySem.Spec PyProof.Rows L2
def kD : Key → Val
  | .inl i => .int i
  | .inr x => .str x
theorem kD_rep {K : PySem.W.Frag} {H : Hp} {k : Key} : Rep K H (kD k) (kV k) := by
  cases k with
  | inl i => exact .int i
  | inr x => exact .str x
theorem rep_kD {K : PySem.W.Frag} {H : Hp} {k : Key} {v : V} (r : Rep K H (kD k) v) : v = kV k := by
  cases k with
  | inl i => cases r; rfl
  | inr x => cases r; rfl
/-- a dict at p, locked or not -/
def DkAt (M : Mem) (p : Addr) (ds : List (Key × Val)) : Prop := ∃ n : Nat, M[n]? = some (p, .dk ds) ∨ ∃ od kvs, M[n]? = some (p, .b (.fz od kvs ds))
theorem DkAt.dk {M : Mem} {p : Addr} {ds : List (Key × Val)} (n : Nat) (h : M[n]? = some (p, .dk ds)) : DkAt M p ds := ⟨n, .inl h⟩
theorem DkAt.fz {M : Mem} {p : Addr} {ds : List (Key × Val)} {od : Obj} {kvs : List (Key × V)} (n : Nat) (h : M[n]? = some (p, .b (.fz od kvs ds))) : DkAt M p ds := ⟨n, .inr ⟨od, kvs, h⟩⟩
theorem DkAt.rd {K : PySem.W.Frag} {M : Mem} {p : Addr} {ds : List (Key × Val)} {Hi H : Hp} (h : DkAt M p ds) (ok : Ok K Hi M H) : ∃ kvs, Rd H p (.dK kvs) ∧ RepK K Hi ds kvs := by
  obtain ⟨n, h | ⟨od, kvs, h⟩⟩ := h
  · obtain ⟨_, o, ho, ks, rfl, rk⟩ := ok.get h
    exact ⟨ks, .inl ho, rk⟩
  · obtain ⟨_, o, ho, rfl, rk⟩ := ok.get h
    exact ⟨kvs, .inr ⟨od, ho⟩, rk⟩
section
variable {X : Cx} {Γ : Gam} {M : Mem} {P : Val → Mem → Prop} {e a b c o : Expr} {pos p1 apos ppos : Pos} {k : AK} {d d1 : Val} {kk : Key} {p : Addr} {ds : List (Key × Val)}
theorem ae_dgetK (hu : X.A.units + 1 < cLine) (h : aE X a Γ M fun x M1 => aE X b Γ M1 fun y M2 => ∃ p kk ds d, x = .ptr p ∧ y = kD kk ∧ DkAt M2 p ds ∧ dGet ds kk = some d ∧ P d M2) (hs : NoSl b := by exact fun _ _ => rfl) : aE X (.Subscript a b pos) Γ M P := fun Hi H σ ok en Q q => by
  refine ⟨_, pe_dget hu pe_we pe_we hs, ?_⟩
  refine h Hi H σ ok en _ fun x M1 v Hi1 H1 h1 s1 ok1 r1 => ?_
  refine h1 Hi1 H1 σ ok1 (en.mono s1) _ fun y M2 w Hi2 H2 h2 s2 ok2 r2 => ?_
  obtain ⟨p, kk, ds, d, rfl, rfl, hd, hg, hp⟩ := h2
  cases r1
  obtain rfl := rep_kD r2
  obtain ⟨ks, rd, rk⟩ := hd.rd ok2
  obtain ⟨z, hz, rz⟩ := rk.get hg
  exact ⟨p, z, rfl, .inl ⟨ks, kk, rd, rfl, hz.symm⟩, q _ _ z Hi2 H2 hp (s1.trans s2) ok2 rz⟩
theorem av_dgetK (hu : X.A.units + 1 < cLine) (ha : aV X a Γ M (.ptr p)) (hb : aV X b Γ M (kD kk)) (hm : DkAt M p ds) (hd : dGet ds kk = some d) (hs : NoSl b := by exact fun _ _ => rfl) : aV X (.Subscript a b pos) Γ M d :=
  ae_dgetK hu (ha.val (hb.val ⟨p, kk, ds, d, rfl, rfl, hm, hd, rfl, rfl⟩)) hs
/-- d.get(k, x) -/
theorem av_dgetD (hu : X.A.units + 1 < cLine) (ha : aV X a Γ M (.ptr p)) (hb : aV X b Γ M (kD kk)) (hc : aV X c Γ M d1) (hm : DkAt M p ds) (hbase : attributeBase a "get" X.env (eval a X.env) = eval a X.env := by rfl)
    (hfew : ((backTo pos (starEach [b, c] X.env)).all (fun x => !x.1) && (backToKw pos (keywordEach [] X.env)).all (fun x => x.1.isSome) && decide (([b, c] : List Expr).length + ([] : List Keyword).length + (if ([] : List Keyword).isEmpty then 0 else 1) < 30)) = true := by rfl)
    (hline : (apos.endLine == pos.line) = true := by rfl) (htr : backTo pos (starEach [b, c] X.env) = [(false, eval b X.env), (false, eval c X.env)] := by rfl) : aV X (.Call (.Attribute a "get" apos) [b, c] [] pos) Γ M ((dGet ds kk).getD d1) := fun Hi H σ ok en Q q => by
  refine ⟨_, pe_dget2 hu pe_we pe_we pe_we ⟨hbase, hfew, hline, htr⟩, ?_⟩
  refine ha Hi H σ ok en _ fun x M1 v Hi1 H1 h1 s1 ok1 r1 => ?_
  obtain ⟨rfl, rfl⟩ := h1
  cases r1
  obtain ⟨ks, rd, rk⟩ := hm.rd ok1
  refine ⟨p, rfl, .inl ⟨ks, rd⟩, ?_⟩
  refine hb Hi1 H1 σ ok1 (en.mono s1) _ fun y M2 w Hi2 H2 h2 s2 ok2 r2 => ?_
  obtain ⟨rfl, rfl⟩ := h2
  obtain rfl := rep_kD r2
  refine hc Hi2 H2 σ ok2 (en.mono (s1.trans s2)) _ fun z M3 u Hi3 H3 h3 s3 ok3 r3 => ?_
  obtain ⟨rfl, rfl⟩ := h3
  obtain ⟨ks3, rd3, rk3⟩ := hm.rd ok3
  refine ⟨valV ks3 kk, .inl ⟨ks3, kk, rd3, rfl, rfl⟩, q _ _ _ Hi3 H3 ⟨rfl, rfl⟩ ((s1.trans s2).trans s3) ok3 ?_⟩
  cases hg : dGet ds kk with
  | none =>
    rw [rk3.noKey hg]
    exact r3
  | some d2 =>
    obtain ⟨z2, hz, rz⟩ := rk3.get hg
    rw [hz]
    exact rz
/-- d[k] = e -/
theorem as_dputK {n : Nat} (hu : X.A.units + 1 < cLine) (h : aE X e Γ M fun d M1 => aV X a Γ M1 (.ptr p) ∧ aV X b Γ M1 (kD kk) ∧ ∃ ds, M1[n]? = some (p, .dk ds) ∧ ds.length < sizeLine ∧ k.nx Γ (M1.set n (p, .dk (dPut ds kk d))))
    (hs : swapsWith e (some (.Subscript a b ppos)) pos.line X.env = pure false := by rfl) : aS X (.Assign [.Subscript a b ppos] e pos) Γ M k := fun Hi H σ ok en D q => by
  refine ⟨_, ps_dput hu pe_we pe_we pe_we hs, ?_⟩
  refine h Hi H σ ok en _ fun x0 M0 v0 Hi0 H0 h0 s0 ok0 r0 => ?_
  obtain ⟨ha, hb, ds, hm, hl, hn⟩ := h0
  refine ha Hi0 H0 σ ok0 (en.mono s0) _ fun x M1 v Hi1 H1 h1 s1 ok1 r1 => ?_
  obtain ⟨rfl, rfl⟩ := h1
  refine hb Hi1 H1 σ ok1 (en.mono (s0.trans s1)) _ fun y M2 w Hi2 H2 h2 s2 ok2 r2 => ?_
  obtain ⟨rfl, rfl⟩ := h2
  cases r1
  obtain rfl := rep_kD r2
  obtain ⟨_, o, ho, ks, rfl, rk⟩ := ok2.get hm
  have s02 := (s0.trans s1).trans s2
  exact ⟨p, _, rfl, .inl ⟨ks, kk, ho, rfl, by rw [← rk.length]; exact hl, rfl⟩, q.nx _ _ σ Hi2 _ hn s02 (ok2.set hm ⟨_, rfl, rk.put (r0.mono (s1.trans s2))⟩) (en.mono s02)⟩
/-- .. a statement -/
theorem as_lock {n : Nat} {st : Stmt} (hm : M[n]? = some (p, .dk ds)) (h : ∀ od kvs, aS X st Γ (M.set n (p, .b (.fz od kvs ds)))
    { nx := fun Γ' M' => ∃ i : Nat, M'[i]? = some (p, .b (.fz od kvs ds)) ∧ k.nx Γ' (M'.set i (p, .dk ds)), rt := fun d M' => ∃ i : Nat, M'[i]? = some (p, .b (.fz od kvs ds)) ∧ k.rt d (M'.set i (p, .dk ds)),
      bk := fun Γ' M' => ∃ i : Nat, M'[i]? = some (p, .b (.fz od kvs ds)) ∧ k.bk Γ' (M'.set i (p, .dk ds)), ct := fun Γ' M' => ∃ i : Nat, M'[i]? = some (p, .b (.fz od kvs ds)) ∧ k.ct Γ' (M'.set i (p, .dk ds)) }) : aS X st Γ M k := fun Hi H σ ok en D q => by
  refine ws_of fun pins s I => ?_
  obtain ⟨_, o, ho, kvs, rfl, rk⟩ := ok.get hm
  have hn := I.nofrz ho trivial
  obtain ⟨od, I1⟩ := I.lock ho trivial
  have ok1 : Ok X.K Hi (M.set n (p, .b (.fz od kvs ds))) (upd H p (.frz od (.dK kvs))) := ok.set hm ⟨rfl, rk⟩
  obtain ⟨t, pe, ht⟩ := h od kvs Hi _ σ ok1 en _ gD_real
  refine thn (pe.run pins s σ _ _ I1 ht) fun f s2 hs => ?_
  cases f with
  | next =>
    obtain ⟨σ2, H2, I2, Γ', M', Hi', ⟨i, h1, h2⟩, s1, o1, e1⟩ := hs
    obtain ⟨_, o2, ho2, rfl, rk2⟩ := o1.get h1
    exact ⟨σ2, upd H2 p (.dK kvs), I2.unlock ho2 hn, q.nx Γ' _ σ2 Hi' _ h2 s1 (o1.set h1 ⟨kvs, rfl, rk2⟩) e1⟩
  | brk =>
    obtain ⟨σ2, H2, I2, Γ', M', Hi', ⟨i, h1, h2⟩, s1, o1, e1⟩ := hs
    obtain ⟨_, o2, ho2, rfl, rk2⟩ := o1.get h1
    exact ⟨σ2, upd H2 p (.dK kvs), I2.unlock ho2 hn, q.bk Γ' _ σ2 Hi' _ h2 s1 (o1.set h1 ⟨kvs, rfl, rk2⟩) e1⟩
  | cont =>
    obtain ⟨σ2, H2, I2, Γ', M', Hi', ⟨i, h1, h2⟩, s1, o1, e1⟩ := hs
    obtain ⟨_, o2, ho2, rfl, rk2⟩ := o1.get h1
    exact ⟨σ2, upd H2 p (.dK kvs), I2.unlock ho2 hn, q.ct Γ' _ σ2 Hi' _ h2 s1 (o1.set h1 ⟨kvs, rfl, rk2⟩) e1⟩
  | ret u =>
    obtain ⟨v, σ2, H2, I2, rv, d, M', Hi', ⟨i, h1, h2⟩, s1, o1, r1⟩ := hs
    obtain ⟨_, o2, ho2, rfl, rk2⟩ := o1.get h1
    exact ⟨v, σ2, upd H2 p (.dK kvs), I2.unlock ho2 hn, rv, q.rt d _ v Hi' _ h2 s1 (o1.set h1 ⟨kvs, rfl, rk2⟩) r1⟩
/-- while G: the locked dict is there -/
def Lk (p : Addr) (od : Obj) (kvs : List (Key × V)) (ds : List (Key × Val)) (M : Mem) : Prop := ∃ n : Nat, M[n]? = some (p, .b (.fz od kvs ds))
theorem Lk.rd {K : PySem.W.Frag} {od : Obj} {kvs : List (Key × V)} {Hi H : Hp} (h : Lk p od kvs ds M) (ok : Ok K Hi M H) : H p = some (.frz od (.dK kvs)) ∧ RepK K Hi ds kvs := by
  obtain ⟨n, h⟩ := h
  obtain ⟨_, o, ho, rfl, rk⟩ := ok.get h
  exact ⟨ho, rk⟩
theorem repk_at {K : PySem.W.Frag} {H : Hp} : ∀ {ds : List (Key × Val)} {kvs : List (Key × V)} {i : Nat} {k : Key} {v : V}, RepK K H ds kvs → kvs[i]? = some (k, v) → ∃ d, ds[i]? = some (k, d) ∧ Rep K H d v
  | _, _, i, k, v, .nil, e => by simp at e
  | _, _, 0, k, v, .cons (f := f) (d := d) a r, e => by
    simp at e
    obtain ⟨rfl, rfl⟩ := e
    exact ⟨d, rfl, a⟩
  | _, _, i + 1, k, v, .cons a r, e => by
    obtain ⟨d, h1, h2⟩ := repk_at (i := i) r (by simpa using e)
    exact ⟨d, by simpa using h1, h2⟩
/-- the keys -/
theorem ai_keysZ {tg : Expr} {od : Obj} {kvs : List (Key × V)} {R : Mem → Prop} (ha : aE X a Γ M fun x M1 => x = .ptr p ∧ Lk p od kvs ds M1 ∧ R M1) : aI X tg a Γ M ds.length (fun i => (ds.map fun kv => kD kv.1).getD i .non) (Lk p od kvs ds) R := fun Hi H σ ok en R' q => by
  refine ⟨_, pi_keys pe_we, ?_⟩
  refine ha Hi H σ ok en _ fun x M1 v Hi1 H1 h1 s1 ok1 r1 => ?_
  obtain ⟨rfl, hl, hr⟩ := h1
  cases r1
  obtain ⟨ho, rk⟩ := hl.rd ok1
  refine ⟨p, od, rfl, .inl ⟨kvs, ho, ?_⟩⟩
  refine q (Itk p od kvs) M1 Hi1 H1 hr s1 ok1 ⟨?_, ?_, ?_⟩
  · rintro i H' hi ⟨Hi', M', s2, ok2, hg⟩
    exact ⟨(hg.rd ok2).1, by rw [← rk.length]; exact hi⟩
  · rintro H' ⟨Hi', M', s2, ok2, hg⟩
    exact ⟨(hg.rd ok2).1, by rw [← rk.length]; exact Nat.le_refl _⟩
  · rintro i H' v H'' hi _ ⟨rfl, kk, u, hk, rfl⟩ Hi' M' s2 ok2 hg
    refine ⟨Hi', Same.refl _, ok2, ?_⟩
    obtain ⟨d, hd, _⟩ := repk_at rk hk
    have : (ds.map fun kv => kD kv.1).getD i .non = kD kk := by
      rw [List.getD_eq_getElem?_getD, List.getElem?_map, hd]
      rfl
    show Rep X.K Hi' ((ds.map fun kv => kD kv.1).getD i .non) _
    rw [this]
    exact kD_rep
/-- the pairs -/
theorem ai_itemsZ {elts : List Expr} {kq : Nat} {tpos : Pos} {od : Obj} {kvs : List (Key × V)} {R : Mem → Prop} (ha : aE X a Γ M fun x M1 => x = .ptr p ∧ Lk p od kvs ds M1 ∧ R M1) (hbase : attributeBase a "items" X.env (eval a X.env) = eval a X.env := by rfl) (hline : (apos.endLine == pos.line) = true := by rfl) :
    aI X (.Tuple elts kq tpos) (.Call (.Attribute a "items" apos) [] [] pos) Γ M ds.length (fun i => (ds.map fun kv => Val.tup [kD kv.1, kv.2]).getD i .non) (Lk p od kvs ds) R := fun Hi H σ ok en R' q => by
  refine ⟨_, pi_items pe_we hbase hline, ?_⟩
  refine ha Hi H σ ok en _ fun x M1 v Hi1 H1 h1 s1 ok1 r1 => ?_
  obtain ⟨rfl, hl, hr⟩ := h1
  cases r1
  obtain ⟨ho, rk⟩ := hl.rd ok1
  refine ⟨p, od, kvs, rfl, ho, ?_⟩
  refine q (Iti p od kvs) M1 Hi1 H1 hr s1 ok1 ⟨?_, ?_, ?_⟩
  · rintro i H' hi ⟨Hi', M', s2, ok2, hg⟩
    exact ⟨(hg.rd ok2).1, by rw [← rk.length]; exact hi⟩
  · rintro H' ⟨Hi', M', s2, ok2, hg⟩
    exact ⟨(hg.rd ok2).1, by rw [← rk.length]; exact Nat.le_refl _⟩
  · rintro i H' v H'' hi _ ⟨T, kk, u, hk, rfl, hT, rfl⟩ Hi' M' s2 ok2 hg
    obtain ⟨d, hd, rd⟩ := repk_at (hg.rd ok2).2 hk
    refine ⟨upd Hi' T (.tup [kV kk, u]), same_upd (ok2.none hT), ok2.imm hT, ?_⟩
    have : (ds.map fun kv => Val.tup [kD kv.1, kv.2]).getD i .non = .tup [kD kk, d] := by
      rw [List.getD_eq_getElem?_getD, List.getElem?_map, hd]
      rfl
    show Rep X.K _ ((ds.map fun kv => Val.tup [kD kv.1, kv.2]).getD i .non) _
    rw [this]
    exact .tup (.inl (.inl upd_same)) (.cons kD_rep (.cons (rd.mono (same_upd (ok2.none hT))) .nil))
end
end Ab
/-! generators: loops that forget slots; keywords in the other order -/
namespace Ab
open PySem PySem.Spec PyProof.Rows L2 GenW
section
variable {τ : Type} {G : GX τ} {st : Stmt} {sts : List Stmt} {n : Nat} {R : Hnd τ} {Γ Γ' : Gam} {M : Mem} {k k' : KG τ}
theorem gko_mono {ip : List (Addr × Obj)} {Hi : Hp} {c : Code} {fs : List Frame} {Kc : Flow → Sem PySem.Fin} (kk : GKo G ip Hi c fs Kc k') (f1 : ∀ n R Γ M, k.nx n R Γ M → k'.nx n R Γ M) (f2 : ∀ n R d M, k.rt n R d M → k'.rt n R d M) (f3 : ∀ n R Γ M, k.bk n R Γ M → k'.bk n R Γ M) (f4 : ∀ n R Γ M, k.ct n R Γ M → k'.ct n R Γ M) : GKo G ip Hi c fs Kc k :=
  ⟨fun n W s₀ s σ H Hi Γ M v sm en h => kk.nx n W s₀ s σ H Hi Γ M v sm en (f1 _ _ _ _ h), fun n W s₀ s σ H Hi Γ M v sm en h => kk.bk n W s₀ s σ H Hi Γ M v sm en (f3 _ _ _ _ h), fun n W s₀ s σ H Hi Γ M v sm en h => kk.ct n W s₀ s σ H Hi Γ M v sm en (f4 _ _ _ _ h), fun n W s₀ s σ H Hi d v u M g sm r rv h => kk.rt n W s₀ s σ H Hi d v u M g sm r rv (f2 _ _ _ _ h)⟩
theorem gS.mono (h : gS G st n R Γ M k) (f1 : ∀ n R Γ M, k.nx n R Γ M → k'.nx n R Γ M) (f2 : ∀ n R d M, k.rt n R d M → k'.rt n R d M := by intro _ _ _ _ h; exact h) (f3 : ∀ n R Γ M, k.bk n R Γ M → k'.bk n R Γ M := by intro _ _ _ _ h; exact h) (f4 : ∀ n R Γ M, k.ct n R Γ M → k'.ct n R Γ M := by intro _ _ _ _ h; exact h) : gS G st n R Γ M k' :=
  fun go ip W s₀ c fs Kc Jc gd lv s σ H Hi g v hR en kk => h go ip W s₀ c fs Kc Jc gd lv s σ H Hi g v hR en (gko_mono kk f1 f2 f3 f4)
theorem gSs.mono (h : gSs G sts n R Γ M k) (f1 : ∀ n R Γ M, k.nx n R Γ M → k'.nx n R Γ M) (f2 : ∀ n R d M, k.rt n R d M → k'.rt n R d M := by intro _ _ _ _ h; exact h) (f3 : ∀ n R Γ M, k.bk n R Γ M → k'.bk n R Γ M := by intro _ _ _ _ h; exact h) (f4 : ∀ n R Γ M, k.ct n R Γ M → k'.ct n R Γ M := by intro _ _ _ _ h; exact h) : gSs G sts n R Γ M k' :=
  fun go ip W s₀ c fs Kc Jc gd lv s σ H Hi g v hR en kk => h go ip W s₀ c fs Kc Jc gd lv s σ H Hi g v hR en (gko_mono kk f1 f2 f3 f4)
end
section
variable {P : Program} {w : World} {K : PySem.W.Frag} {mg : Str → Option Value} {base : Heap}
/-- a weaker promise -/
theorem GnX.imp {τ : Type} {Tr : τ → Mem → Hnd τ → Prop} {s0 s1 : List Val → List Val → τ → Prop} {f : Addr} {ks : List Str} {k : Nat} (F : GnX P w K mg base k f ks Tr s0) (h : ∀ ds es x, s1 ds es x → s0 ds es x) : GnX P w K mg base k f ks Tr s1 :=
  ⟨fun A outer s H Hi us ws vs zs ds es x hr e0 r rz l rd re hs => F.run A outer s H Hi us ws vs zs ds es x hr e0 r rz l rd re (h ds es x hs)⟩
end
theorem ae_dict0 {X : Cx} {Γ : Gam} {M : Mem} {P : Val → Mem → Prop} {pos : Pos} (h : ∀ p, P (.ptr p) ((p, .dk []) :: M)) : aE X (.Dict [] [] pos) Γ M P := fun Hi H σ ok en Q q =>
  ⟨_, pe_dnewK, fun p hp => q _ _ _ Hi _ (h p) (Same.refl _) (ok.new hp ⟨[], rfl, .nil⟩) (.ptr p)⟩
end Ab
/-! generators: tests that change cells; boxes over defs that raise -/
namespace Ab
open PySem PySem.Spec PyProof.Rows L2 GenW
section
variable {P : Program} {w : World} {K : PySem.W.Frag} {mg : Str → Option Value} {base : Heap} {k : Nat} {f : Addr} {ks : List Str}
theorem FnE.box {sx sx' : ASxe} (F : FnE P w K mg base k f ks (spE K sx)) (h : ∀ ds es M R PE, sx' ds es M R PE → ∃ (i : Nat) (p : Addr) (φ : Mem0 → Prop), M[i]? = some (p, .box φ) ∧
    ∀ B, φ B → p ∈ B.map (·.1) → sx ds es (bs B ++ M.eraseIdx i) (fun d M' => ∃ B' φ', M' = bs B' ++ M.eraseIdx i ∧ φ' B' ∧ p ∈ B'.map (·.1) ∧ R d (M.set i (p, .box φ')))
      (fun C fs M' => ∃ B' φ', M' = bs B' ++ M.eraseIdx i ∧ φ' B' ∧ p ∈ B'.map (·.1) ∧ PE C fs (M.set i (p, .box φ')))) : FnE P w K mg base k f ks (spE K sx') :=
  F.weak fun vs zs H Q E ⟨Hi, M, ds, es, R, PE, r1, r2, ok, hs, q, qe⟩ => by
    obtain ⟨i, p, φ, hi, hb⟩ := h ds es M R PE hs
    obtain ⟨B, h1, h2, ok'⟩ := ok.opn hi
    refine ⟨Hi, _, ds, es, _, _, r1, r2, ok', hb B h1 h2, fun d M' v Hi' H' hd s' ok2 r => ?_, fun C fs M' Hi' H' cls d hd s' ok2 r => ?_⟩
    · obtain ⟨B', φ', rfl, h3, h4, h5⟩ := hd
      exact q d _ v Hi' H' h5 s' (ok2.clsAt hi h3 h4) r
    · obtain ⟨B', φ', rfl, h3, h4, h5⟩ := hd
      exact qe C fs _ Hi' H' cls d h5 s' (ok2.clsAt hi h3 h4) r
end
end Ab
/-! Ab77: a box opened around an expression and closed as another box -/
namespace Ab
open PySem PySem.Spec PyProof.Rows L2
end Ab
/-! Ab78: the dict of a def's ** parameter, told of the heap alone -/
namespace Ab
open PySem PySem.Spec PyProof.Rows L2
section
variable {prog : Program} {w : World} {A : Around} {E : Value → Shared → Prop} {d : Addr}
theorem kw_set {s : Shared} {es : List DictEntry} {n : Nat} {k : Str} {v : Value} {Q : Unit → Shared → Prop} (D : s.heap.get? d = some (PySem.W.dictOf es n))
    (hs : ∀ e ∈ es, e.key.isStr k = false) (hr : ∀ e ∈ es, e.refKey = false)
    (h : ∀ h' : Heap, h'.get? d = some (PySem.W.dictOf (es ++ [⟨PyData.keyHash w.params k, .str k s.toks, v⟩]) (n + 1)) → (∀ b o, b ≠ d → s.heap.get? b = some o → h'.get? b = some o) → h'.objs.size = s.heap.objs.size → Q () { s with heap := h', toks := s.toks + 1 }) :
    wpAny (model prog w) A (nsSet d k v) Q E s := by
  have e1 : es.any (·.key.isStr k) = false := by
    cases q : es.any (·.key.isStr k) with
    | false => rfl
    | true => obtain ⟨e, he, z⟩ := List.any_eq_true.mp q; rw [hs e he] at z; cases z
  have e2 : es.any (·.refKey) = false := by
    cases q : es.any (·.refKey) with
    | false => rfl
    | true => obtain ⟨e, he, z⟩ := List.any_eq_true.mp q; rw [hr e he] at z; cases z
  have e : Obj.putName k (PyData.keyHash w.params k) (.str k s.toks) v (PySem.W.dictOf es n) = PySem.W.dictOf (es ++ [⟨PyData.keyHash w.params k, .str k s.toks, v⟩]) (n + 1) := by
    rw [PySem.W.putName_dict, PySem.W.putL_new hs]
    show PySem.W.dictOf _ (if es.any (·.key.isStr k) then n else n + 1) = _
    rw [e1, if_neg Bool.false_ne_true]
  have c : aRefKeyMayBeTheName k es.toArray = false := by
    rw [aRefKeyMayBeTheName_at, ← Array.any_toList, ← Array.any_toList]
    show (!es.any (·.key.isStr k) && es.any (·.refKey)) = false
    rw [e2, Bool.and_false]
  unfold nsSet
  refine wpAny_bind (wpAny_bind (wpAny_askSetting (wpAny_pure (wpAny_bind (wpAny_mkText (wpAny_bind (wpAny_loadPart D ?_)))))))
  dsimp only
  rw [c]
  refine wpAny_updatePart D (h _ ?_ (fun b o hb q => (Heap.get?_update_ne _ _ _ _ hb).trans q) ?_)
  · rw [← e]
    exact Heap.get?_update_self _ D (by show (Obj.putName k (PyData.keyHash w.params k) (.str k s.toks) v (PySem.W.dictOf es n)).isFreed = false; rw [e]; rfl)
  · simp [Heap.update]
theorem kw_fill {Q : PUnit → Shared → Prop} : ∀ (ex : List (Str × Value)) (s : Shared) (es : List DictEntry) (n : Nat), s.heap.get? d = some (PySem.W.dictOf es n) →
    (∀ e ∈ es, ∀ x ∈ ex, e.key.isStr x.1 = false) → (∀ e ∈ es, e.refKey = false) → (ex.map (·.1)).Nodup →
    (∀ h' : Heap, h'.get? d = some (PySem.W.dictOf (es ++ PySem.W.kwEs w.params s.toks ex) (n + ex.length)) → (∀ b o, b ≠ d → s.heap.get? b = some o → h'.get? b = some o) → h'.objs.size = s.heap.objs.size → Q ⟨⟩ { s with heap := h', toks := s.toks + ex.length }) →
    wpAny (model prog w) A (forIn ex PUnit.unit fun x _ => (nsSet d x.1 x.2 >>= fun _ => pure (ForInStep.yield PUnit.unit))) Q E s
  | [], s, es, n, D, _, _, _, h => by
    rw [List.forIn_nil]
    refine wpAny_pure (h s.heap ?_ (fun _ _ _ q => q) rfl)
    show s.heap.get? d = some (PySem.W.dictOf (es ++ []) n)
    rw [List.append_nil]
    exact D
  | x :: r, s, es, n, D, hs, hr, hn, h => by
    obtain ⟨hn1, hn2⟩ := List.nodup_cons.mp (show (x.1 :: r.map (·.1)).Nodup from hn)
    rw [List.forIn_cons]
    refine wpAny_bind (wpAny_bind (kw_set D (fun e he => hs e he x (.head _)) hr fun h' D' k' z' => wpAny_pure ?_))
    show wpAny (model prog w) A (forIn r PUnit.unit fun x _ => (nsSet d x.1 x.2 >>= fun _ => pure (ForInStep.yield PUnit.unit))) Q E { s with heap := h', toks := s.toks + 1 }
    refine kw_fill r { s with heap := h', toks := s.toks + 1 } _ _ D' (fun e he y hy => ?_) (fun e he => ?_) hn2 fun h'' D'' k'' z'' => ?_
    · rcases List.mem_append.mp he with he | he
      · exact hs e he y (.tail _ hy)
      · obtain rfl := List.mem_singleton.mp he
        show (x.1 == y.1) = false
        exact beq_eq_false_iff_ne.mpr fun q => hn1 (by rw [q]; exact List.mem_map_of_mem hy)
    · rcases List.mem_append.mp he with he | he
      · exact hr e he
      · obtain rfl := List.mem_singleton.mp he
        rfl
    · have t1 : s.toks + 1 + r.length = s.toks + (r.length + 1) := by omega
      have t2 : n + 1 + r.length = n + (r.length + 1) := by omega
      show Q ⟨⟩ { s with heap := h'', toks := s.toks + 1 + r.length }
      rw [t1]
      refine h h'' ?_ (fun b o hb q => k'' b o hb (k' b o hb q)) (z''.trans z')
      rw [t2, List.append_assoc] at D''
      exact D''
/-- a new dict filled with keywords -/
theorem kw_new {α : Type} {gg : Addr → α} {s : Shared} {ex : List (Str × Value)} {Q : α → Shared → Prop} (hn : (ex.map (·.1)).Nodup)
    (h : ∀ h' : Heap, h'.get? s.heap.objs.size = some (PySem.W.dictOf (PySem.W.kwEs w.params s.toks ex) ex.length) → (∀ b o, s.heap.get? b = some o → h'.get? b = some o) → h'.objs.size = s.heap.objs.size + 1 → Q (gg s.heap.objs.size) { s with heap := h', toks := s.toks + ex.length }) :
    wpAny (model prog w) A ((alloc ({ cls := .type "dict", data := .dict #[] } : Obj) : Sem Addr) >>= fun d => (forIn ex PUnit.unit fun x _ => (nsSet d x.1 x.2 >>= fun _ => pure (ForInStep.yield PUnit.unit))) >>= fun _ => pure (gg d)) Q E s := by
  refine wpAny_bind (wpAny_alloc (wpAny_bind (kw_fill ex _ [] 0 (Heap.get?_push_size _ rfl) (fun _ z => nomatch z) (fun _ z => nomatch z) hn fun h' D k z => wpAny_pure (h h' ?_ (fun b o q => k b o (Nat.ne_of_lt (Heap.lt_size q)) (Heap.get?_push_of_some _ q)) ?_))))
  · rw [List.nil_append, Nat.zero_add] at D
    exact D
  · rw [z]
    exact Heap.size_push _ _
end
section
variable {P : Program} {w : World} {K : PySem.W.Frag} {mg : Str → Option Value} {base : Heap}
abbrev kwK {α : Type} (ex : List (Str × α)) : List (Key × α) := ex.map fun q => (.inr q.1, q.2)
theorem kw_pairs {prog : Program} : ∀ (ex : List (Str × Value)) (t : Tok), PySem.Pairs (mixKind prog w) (PySem.W.kwEs w.params t ex) (kwK ex)
  | [], _ => PySem.Pairs.nil
  | x :: r, t => PySem.Pairs.cons (mixKind_str prog w x.1 t) rfl (kw_pairs r (t + 1))
theorem kw_isDict {prog : Program} {ex : List (Str × Value)} (t : Tok) (n : Nat) (hn : (ex.map (·.1)).Nodup) : (PySem.W.dictOf (PySem.W.kwEs w.params t ex) n).IsDictOf (mixKind prog w) (kwK ex) :=
  ⟨(PySem.W.kwEs w.params t ex).toArray, n, ⟨rfl, rfl, rfl⟩, rfl, fun e he => by
    obtain ⟨k, u, hk, hh⟩ := PySem.W.kwEs_key ex t e (List.mem_toArray.mp he)
    exact ⟨.inr k, by rw [hk]; exact mixKind_str prog w k u, hh.trans rfl⟩, kw_pairs ex t, by
      rw [List.map_map]
      have e : ((fun x : Key × Value => x.1) ∘ fun q : Str × Value => ((.inr q.1 : Key), q.2)) = (Sum.inr : Str → Key) ∘ fun q => q.1 := rfl
      rw [e, ← List.map_map]
      exact List.Pairwise.map _ (fun a b h h2 => h (Sum.inr.inj h2)) hn⟩
theorem kv_zip : ∀ {ks : List Str} {zs : List V} {ws : List Value}, Vals zs ws → KV (kwK (ks.zip zs)) (kwK (ks.zip ws))
  | [], _, _, _ => .nil
  | _ :: _, _, _, .nil => .nil
  | k :: ks, _, _, .cons a r => .cons ⟨rfl, a⟩ (kv_zip r)
theorem repk_zip {H : Hp} : ∀ {ks : List Str} {es : List Val} {zs : List V}, RepA K H es zs → RepK K H (kwK (ks.zip es)) (kwK (ks.zip zs))
  | [], _, _, _ => .nil
  | _ :: _, _, _, .nil => .nil
  | k :: ks, _, _, .cons a r => .cons a (repk_zip r)
end
end Ab
/-! Ab79: {k: v for .. in ..} -/
namespace Ab
open PySem PySem.Spec PyProof.Rows L2
end Ab
/-! Ab80: data compared with either answer; == and != of an instance with a value of another kind; list(d.items()); dicts compared with {} -/
namespace Ab
open PySem PySem.Spec PyProof.Rows L2 Builtin
mutual
/-- data without truth values -/
def nbV : Val → Prop
  | .non => True
  | .bl _ => False
  | .int _ => True
  | .str x => PyData.strOk x = true
  | .lst xs => nbVs xs
  | .tup xs => nbVs xs
  | .ty _ => False
  | .ptr _ => False
  | .obj _ _ => False
  | .exc _ _ => False
  | .lam _ _ => False
def nbVs : List Val → Prop
  | [] => True
  | x :: xs => nbV x ∧ nbVs xs
end
mutual
theorem nb_dt : ∀ (v : Val), nbV v → dtV v
  | .non, _ => trivial
  | .int i, _ => trivial
  | .str x, h => h
  | .lst xs, h => nb_dts xs h
  | .tup xs, h => nb_dts xs h
  | .bl _, h => h.elim
  | .ty _, h => h.elim
  | .ptr _, h => h.elim
  | .obj _ _, h => h.elim
  | .exc _ _, h => h.elim
  | .lam _ _, h => h.elim
theorem nb_dts : ∀ (v : List Val), nbVs v → dtVs v
  | [], _ => trivial
  | x :: xs, h => ⟨nb_dt x h.1, nb_dts xs h.2⟩
end
mutual
theorem nb_eqv : ∀ (v w : Val) {p q : PyData}, nbV v → nbV w → toD v = some p → toD w = some q → (PyData.eqv p q = true ↔ v = w)
  | .non, w, p, q, hv, hw, h1, h2 => by
    cases h1
    cases w <;> first | exact hw.elim | (unfold toD at h2; cases h2; simp [PyData.eqv]; done) | (unfold toD at h2; obtain ⟨ds, _, rfl⟩ := Option.map_eq_some_iff.mp h2; simp [PyData.eqv])
  | .int i, w, p, q, hv, hw, h1, h2 => by
    cases h1
    cases w <;> first | exact hw.elim | (unfold toD at h2; cases h2; simp [PyData.eqv]; done) | (unfold toD at h2; obtain ⟨ds, _, rfl⟩ := Option.map_eq_some_iff.mp h2; simp [PyData.eqv])
  | .str x, w, p, q, hv, hw, h1, h2 => by
    cases h1
    cases w <;> first | exact hw.elim | (unfold toD at h2; cases h2; simp [PyData.eqv]; done) | (unfold toD at h2; obtain ⟨ds, _, rfl⟩ := Option.map_eq_some_iff.mp h2; simp [PyData.eqv])
  | .lst xs, w, p, q, hv, hw, h1, h2 => by
    unfold toD at h1
    obtain ⟨ds, e1, rfl⟩ := Option.map_eq_some_iff.mp h1
    cases w with
    | lst ys =>
      unfold toD at h2
      obtain ⟨es, e2, rfl⟩ := Option.map_eq_some_iff.mp h2
      have := nb_eqvs xs ys hv hw e1 e2
      unfold PyData.eqv
      rw [this]
      exact ⟨fun e => congrArg _ e, fun e => by cases e; rfl⟩
    | tup ys =>
      unfold toD at h2
      obtain ⟨es, e2, rfl⟩ := Option.map_eq_some_iff.mp h2
      simp [PyData.eqv]
    | _ => first | exact hw.elim | (unfold toD at h2; cases h2; simp [PyData.eqv]; done)
  | .tup xs, w, p, q, hv, hw, h1, h2 => by
    unfold toD at h1
    obtain ⟨ds, e1, rfl⟩ := Option.map_eq_some_iff.mp h1
    cases w with
    | tup ys =>
      unfold toD at h2
      obtain ⟨es, e2, rfl⟩ := Option.map_eq_some_iff.mp h2
      have := nb_eqvs xs ys hv hw e1 e2
      unfold PyData.eqv
      rw [this]
      exact ⟨fun e => congrArg _ e, fun e => by cases e; rfl⟩
    | lst ys =>
      unfold toD at h2
      obtain ⟨es, e2, rfl⟩ := Option.map_eq_some_iff.mp h2
      simp [PyData.eqv]
    | _ => first | exact hw.elim | (unfold toD at h2; cases h2; simp [PyData.eqv]; done)
  | .bl _, _, _, _, h, _, _, _ => h.elim
  | .ty _, _, _, _, h, _, _, _ => h.elim
  | .ptr _, _, _, _, h, _, _, _ => h.elim
  | .obj _ _, _, _, _, h, _, _, _ => h.elim
  | .exc _ _, _, _, _, h, _, _, _ => h.elim
  | .lam _ _, _, _, _, h, _, _, _ => h.elim
theorem nb_eqvs : ∀ (v w : List Val) {p q : List PyData}, nbVs v → nbVs w → toDs v = some p → toDs w = some q → (PyData.eqvAll p q = true ↔ v = w)
  | [], [], p, q, hv, hw, h1, h2 => by
    cases h1
    cases h2
    simp [PyData.eqvAll]
  | [], y :: ys, p, q, hv, hw, h1, h2 => by
    cases h1
    unfold toDs at h2
    obtain ⟨d, _, h2⟩ := Option.bind_eq_some_iff.mp h2
    obtain ⟨ds, _, rfl⟩ := Option.map_eq_some_iff.mp h2
    simp [PyData.eqvAll]
  | x :: xs, [], p, q, hv, hw, h1, h2 => by
    cases h2
    unfold toDs at h1
    obtain ⟨d, _, h1⟩ := Option.bind_eq_some_iff.mp h1
    obtain ⟨ds, _, rfl⟩ := Option.map_eq_some_iff.mp h1
    simp [PyData.eqvAll]
  | x :: xs, y :: ys, p, q, hv, hw, h1, h2 => by
    unfold toDs at h1 h2
    obtain ⟨d, e1, h1⟩ := Option.bind_eq_some_iff.mp h1
    obtain ⟨ds, e2, rfl⟩ := Option.map_eq_some_iff.mp h1
    obtain ⟨f, e3, h2⟩ := Option.bind_eq_some_iff.mp h2
    obtain ⟨fs, e4, rfl⟩ := Option.map_eq_some_iff.mp h2
    have a := nb_eqv x y hv.1 hw.1 e1 e3
    have b := nb_eqvs xs ys hv.2 hw.2 e2 e4
    unfold PyData.eqvAll
    rw [Bool.and_eq_true, a, b, List.cons.injEq]
end
section
variable {X : Cx} {M : Mem} {d1 d2 v w : Val}
theorem nb_shaped {v : Val} (h : nbV v) (hp : dpV v ≤ 60) : ∃ p, toD v = some p ∧ SeqAt.shaped p = true := by
  obtain ⟨p, q⟩ := dtd v (nb_dt v h)
  exact ⟨p, q.td, Bool.and_eq_true_iff.mpr ⟨q.cl, decide_eq_true (by have := q.dp; omega)⟩⟩
theorem cp_neW (h1 : Vw M d1 v) (h2 : Vw M d2 w) (n1 : nbV v) (n2 : nbV w) (p1 : dpV v ≤ 60) (p2 : dpV w ≤ 60) (hu : X.A.units + 64 < cLine) : CP X .NotEq M d1 d2 (v ≠ w) := by
  obtain ⟨p, a1, a2⟩ := nb_shaped n1 p1
  obtain ⟨q, b1, b2⟩ := nb_shaped n2 p2
  refine ⟨_, cmp_neD h1 h2 a1 b1 a2 b2 hu, ?_⟩
  have := nb_eqv v w n1 n2 a1 b1
  rw [Bool.not_eq_true', ← Bool.not_eq_true, this]
theorem CP.is {op : CmpOp} {x y : Val} {p : Prop} [Decidable p] (h : CP X op M x y p) : Cmp X op M x y (decide p) := by
  obtain ⟨b, h1, h2⟩ := h
  have : b = decide p := by
    cases b with
    | true => exact (decide_eq_true (h2.mp rfl)).symm
    | false => exact (decide_eq_false fun z => nomatch h2.mpr z).symm
  rw [← this]
  exact h1
end
/-! ### an instance against a value of another kind -/
/-! ### dicts against the empty one -/
/-! ### list(d.items()) -/
end Ab
/-! Ab81: data in a tuple or list of data -/
namespace Ab
open PySem PySem.Spec PyProof.Rows L2 Builtin
theorem Rm.u65 {k : Nat} {A : Around} (r : Rm k A) : A.units + 65 < cLine := Nat.lt_of_le_of_lt (by omega) r.room.un
theorem nb_any {v : Val} {p : PyData} (hv : nbV v) (h1 : toD v = some p) : ∀ {ws : List Val} {qs : List PyData}, nbVs ws → toDs ws = some qs → ((qs.any fun z => PyData.eqv z p) = true ↔ v ∈ ws)
  | [], qs, _, h => by
    cases h
    simp
  | x :: xs, qs, hw, h => by
    unfold toDs at h
    obtain ⟨d, e1, h⟩ := Option.bind_eq_some_iff.mp h
    obtain ⟨ds, e2, rfl⟩ := Option.map_eq_some_iff.mp h
    rw [List.any_cons, Bool.or_eq_true, nb_eqv x v hw.1 hv e1 h1, nb_any hv h1 hw.2 e2, List.mem_cons, eq_comm]
section
variable {X : Cx} {M : Mem} {d1 d2 v w : Val} {ws : List Val}
def rInT (K : PySem.W.Frag) : R2 := fun x y H Q => ∃ d ds, Dp K H x d ∧ Dp K H y (.tuple ds) ∧ SeqAt.shaped d = true ∧ SeqAt.shaped (.tuple ds) = true ∧ Q (.bl (ds.any fun z => PyData.eqv z d)) H
def rNotInT (K : PySem.W.Frag) : R2 := fun x y H Q => ∃ d ds, Dp K H x d ∧ Dp K H y (.tuple ds) ∧ SeqAt.shaped d = true ∧ SeqAt.shaped (.tuple ds) = true ∧ Q (.bl (!ds.any fun z => PyData.eqv z d)) H
theorem op_inTD (hu : X.A.units + 65 < cLine) : OpR X (compareOp .In) (rInT X.K) := by
  intro pins s σ H x y v u Q I rx ry h
  obtain ⟨d, ds, hd, he, sd, se, q⟩ := h
  obtain ⟨as, r1⟩ := Dp.reads I d x v hd rx
  obtain ⟨bs, r2⟩ := Dp.reads I (.tuple ds) y u he ry
  exact SeqAt.in_tuple_reads r2 r1 (SeqAt.canLay_of_shaped se) (SeqAt.canLay_of_shaped sd) (room_in_shaped sd hu) ⟨.bl _, H, I, rfl, q⟩
theorem op_notInTD (hu : X.A.units + 65 < cLine) : OpR X (compareOp .NotIn) (rNotInT X.K) := by
  intro pins s σ H x y v u Q I rx ry h
  obtain ⟨d, ds, hd, he, sd, se, q⟩ := h
  obtain ⟨as, r1⟩ := Dp.reads I d x v hd rx
  obtain ⟨bs, r2⟩ := Dp.reads I (.tuple ds) y u he ry
  exact SeqAt.notIn_tuple_reads r2 r1 (SeqAt.canLay_of_shaped se) (SeqAt.canLay_of_shaped sd) (room_in_shaped sd hu) ⟨.bl _, H, I, rfl, q⟩
theorem cp_inT (h1 : Vw M d1 v) (h2 : Vw M d2 (.tup ws)) (n1 : nbV v) (n2 : nbVs ws) (p1 : dpV v ≤ 60) (p2 : dpV (.tup ws) ≤ 60) (hu : X.A.units + 65 < cLine) : CP X .In M d1 d2 (v ∈ ws) := by
  obtain ⟨p, a1, a2⟩ := nb_shaped n1 p1
  obtain ⟨q, b1, b2⟩ := nb_shaped (v := .tup ws) n2 p2
  have b1' := b1
  unfold toD at b1
  obtain ⟨qs, c1, rfl⟩ := Option.map_eq_some_iff.mp b1
  exact ⟨_, ⟨_, op_inTD hu, fun Hi H v w ok rv rw_ Q post => ⟨p, qs, rep_dp _ (h1.rep ok rv) a1, rep_dp _ (h2.rep ok rw_) b1', a2, b2, post _ M _ Hi H ⟨rfl, rfl⟩ (Same.refl _) ok (.bl _)⟩⟩, nb_any n1 a1 n2 c1⟩
theorem cp_notInT (h1 : Vw M d1 v) (h2 : Vw M d2 (.tup ws)) (n1 : nbV v) (n2 : nbVs ws) (p1 : dpV v ≤ 60) (p2 : dpV (.tup ws) ≤ 60) (hu : X.A.units + 65 < cLine) : CP X .NotIn M d1 d2 (v ∉ ws) := by
  obtain ⟨p, a1, a2⟩ := nb_shaped n1 p1
  obtain ⟨q, b1, b2⟩ := nb_shaped (v := .tup ws) n2 p2
  have b1' := b1
  unfold toD at b1
  obtain ⟨qs, c1, rfl⟩ := Option.map_eq_some_iff.mp b1
  refine ⟨_, ⟨_, op_notInTD hu, fun Hi H v w ok rv rw_ Q post => ⟨p, qs, rep_dp _ (h1.rep ok rv) a1, rep_dp _ (h2.rep ok rw_) b1', a2, b2, post _ M _ Hi H ⟨rfl, rfl⟩ (Same.refl _) ok (.bl _)⟩⟩, ?_⟩
  have := nb_any n1 a1 n2 c1
  rw [Bool.not_eq_true', ← Bool.not_eq_true, this]
theorem cp_notInL (h1 : Vw M d1 v) (h2 : Vw M d2 (.lst ws)) (n1 : nbV v) (n2 : nbVs ws) (p1 : dpV v ≤ 60) (p2 : dpV (.lst ws) ≤ 60) (hu : X.A.units + 65 < cLine) : CP X .NotIn M d1 d2 (v ∉ ws) := by
  obtain ⟨p, a1, a2⟩ := nb_shaped n1 p1
  obtain ⟨q, b1, b2⟩ := nb_shaped (v := .lst ws) n2 p2
  have b1' := b1
  unfold toD at b1
  obtain ⟨qs, c1, rfl⟩ := Option.map_eq_some_iff.mp b1
  refine ⟨_, ⟨_, op_notInD hu, fun Hi H v w ok rv rw_ Q post => ⟨p, qs, rep_dp _ (h1.rep ok rv) a1, rep_dp _ (h2.rep ok rw_) b1', a2, b2, post _ M _ Hi H ⟨rfl, rfl⟩ (Same.refl _) ok (.bl _)⟩⟩, ?_⟩
  have := nb_any n1 a1 n2 c1
  rw [Bool.not_eq_true', ← Bool.not_eq_true, this]
end
end Ab
/-! Ab82: classmethods by keywords alone; classmethods that may raise -/
namespace Ab
open PySem PySem.Spec PyProof.Rows L2
end Ab
/-! Ab83: a property of any expression that gives an instance, boxed or not -/
namespace Ab
open PySem PySem.Spec PyProof.Rows L2
/-- o.f, f a property, o any expression that gives an instance, boxed or not -/
theorem ae_propM {X : Cx} {Γ : Gam} {M : Mem} {P : Val → Mem → Prop} {o : Expr} {pos : Pos} {n : Nat} {C : Addr} {m : Str} {fl : Str} {p g : Addr} {sx : ASx} (c : Cls X.K C) (hp : PropOf X.K C fl p g) (F : FnX X.prog X.w X.K X.mg X.base n g [] (spX X.K sx)) (hr : Rm (n + 1) X.A) (h : aE X o Γ M fun d M1 => ObM M1 C d m ∧ sx [d] [] M1 P)
    (hb : attributeBase o fl X.env (eval o X.env) = eval o X.env := by rfl) : aE X (.Attribute o fl pos) Γ M P := fun Hi H σ ok en Q q => by
  refine ⟨fun σ H Q => WE X o σ H fun x H1 => ∃ a dx fs, x = .ref a ∧ H1 a = some (.ins C dx fs) ∧ spX X.K sx [.ref a] [] H1 Q, ⟨fun pins s σ H Q I h => ?_⟩, ?_⟩
  · refine attr_of hb (thn (pe_we.run pins s σ H _ I h) fun u s1 ⟨x, H1, I1, rx, a, dx, fs, ex, ea, q⟩ => ?_)
    subst ex
    obtain rfl : u = Value.ref a := rx
    obtain ⟨mA, O, _, _, _, _⟩ := ins_get I1.hok ea
    obtain ⟨od, J, _⟩ := O.look
    obtain ⟨rest, hrec⟩ := hp.rec_
    have I2 := I1.tok (s1.toks + 1)
    have hc : (PySem.W.clsIn X.K C).isSome = true := by
      obtain ⟨cd, hc, _⟩ := PySem.W.any_some c.hd
      rw [hc]
      rfl
    refine PySem.W.get_bind I1.kIn J (PySem.W.plainGet_of (c.get fl)).1 (PySem.W.findObj_data hc hp.at_ hp.get hp.tak) (PySem.W.plainGet_of (c.get fl)).2 (wpAny_call (PySem.W.prop_get (s := { s1 with toks := s1.toks + 1 }) I1.kIn hrec ?_))
    refine codeAny_mono (F.run X.A.in1 X.stack { s1 with toks := s1.toks + 1 } H1 [.ref a] [] [.ref a] [] Q hr.in1 I2.env0.in1 (.cons rfl .nil) .nil rfl q) fun r s' hq => ?_
    cases r with
    | error er => exact False.elim hq
    | ok fl =>
      cases fl with
      | ret u =>
        obtain ⟨v, H', I3, rv, q3⟩ := I2.after hq
        show wpAny _ _ (handedOut u) _ _ _
        rw [PySem.W.handedOut_of (handed_of rv)]
        exact wpAny_pure ⟨v, H', I3, rv, q3⟩
      | next => exact False.elim hq
      | brk => exact False.elim hq
      | cont => exact False.elim hq
  · refine h Hi H σ ok en _ fun d M1 v Hi1 H1 h1 s1 ok1 r1 => ?_
    obtain ⟨hob, hs⟩ := h1
    obtain ⟨a, dx, gs, rfl, ha, _⟩ := hob _ _ _ _ ok1 r1
    exact ⟨a, dx, gs, rfl, ha, Hi1, M1, [d], [], P, .cons r1 .nil, .nil, ok1, hs, q.up s1⟩
end Ab
/-! g(lambda: e): a lambda handed to a def that calls it -/
namespace Ab
open PySem PySem.Spec PyProof.Rows L2 LamX
/-! ### the lambda called -/
abbrev LSb := Mem → (Val → Mem → Prop) → XP → Prop
/-! ### a def that gets a lambda -/
/-- from what the lambda does: cells, what follows -/
abbrev LSp := LSb → Mem → (Val → Mem → Prop) → Prop
section
variable {P : Program} {w : World} {K : PySem.W.Frag} {mg : Str → Option Value} {base : Heap}
/-- what its body must do: the lambda stands in the slot of a -/
abbrev BodyL (P : Program) (w : World) (K : PySem.W.Frag) (mg : Str → Option Value) (base : Heap) (k : Nat) (g : Addr) (N : List Str) (q : Str) (sc : Scope) (body : List Stmt) (a : Str) (sL : LSp) : Prop :=
  ∀ cdv A outer s H E, Rm k (A.deeper (envOfC q sc s.heap.objs.size g cdv)) → ∀ (f : Addr) (Hf : Hp) (bsp : LSb),
    (∀ (pn : List (Addr × Obj)) (xe : Value → Shared → Prop) (i : Nat) (Γ : Gam) (M : Mem) (R : Val → Mem → Prop) (PE : XP) (p1 p2 : Pos), N[i]? = some a → Γ[i]? = some (some (Val.lam f Hf)) → bsp M R PE → yE ((cxOf CX0 P w K mg base N q sc g cdv A outer s H E).tr pn xe) (.Call (.Name a p1) [] [] p2) Γ M R PE) →
    ∀ M R, sL bsp M R → aSs (bcx P w K mg base N q sc g cdv A outer s H E) body (gam N [Val.lam f Hf]) M (kOf R)
structure LGd (P : Program) (w : World) (K : PySem.W.Frag) (mg : Str → Option Value) (base : Heap) (k : Nat) (x : Str) (sL : LSp) : Prop where
  ex : ∃ (g : Addr) (q : Str) (pg : Arguments) (body : List Stmt) (sc : Scope) (N : List Str) (a : Str) (fd : FuncData), FunD K x q pg body sc [] [] g fd ∧ FnScope N [a] sc ∧ Vis sc a ∧ N[0]? = some a ∧
    (∀ (kV doc pm : Value) (an : Option Addr) (cdv ct : Value) (u : Value), bindArgs (PySem.W.fnOf x q pg body sc .none kV doc pm an cdv ct) ⟨[u], []⟩ = pure [(a, u)]) ∧
    (a == ("__debug__" : Str)) = false ∧ (a == ("__classdict__" : Str)) = false ∧ mg x = some (.ref g) ∧ PySem.W.keepIn K (.ref g) = true ∧ BodyL P w K mg base k g N q sc body a sL
end
end Ab
/-! Ab84: t * n for any n from 0 on -/
namespace Ab
open PySem PySem.Spec PyProof.Rows L2
theorem LGd.mono {P : Program} {w : World} {K : PySem.W.Frag} {mg : Str → Option Value} {base : Heap} {k k' : Nat} {x : Str} {sL : LSp} (G : LGd P w K mg base k x sL) (h : k ≤ k') : LGd P w K mg base k' x sL := by
  obtain ⟨g, q, pg, body, sc, N, a, fd, h1, h2, h3, h4, h5, h6, h7, h8, h9, hB⟩ := G.ex
  exact ⟨g, q, pg, body, sc, N, a, fd, h1, h2, h3, h4, h5, h6, h7, h8, h9, fun cdv A outer s H E hr => hB cdv A outer s H E (hr.mono h)⟩
end Ab
namespace Ab
open PySem PySem.Spec PyProof.Rows L2
end Ab
/-! arguments in any order; a def with one positional parameter and a star -/
namespace Ab
open PySem L2 GenW
end Ab
/-! slices of lists of ints, sums, comparisons of two texts -/
namespace Ab
open PySem L2
/-! ### repr(a) against repr(b) -/
end Ab
/-! texts: str(i), int(s), +, join, split, find, count, places, slices, signs walked, f-strings -/
namespace Ab
open PySem PySem.Spec PyProof.Rows L2
section
variable {X : Cx} {Γ : Gam} {M : Mem} {P : Val → Mem → Prop} {e a b c o : Expr} {es : List Expr} {pos p1 p2 apos : Pos} {d : Val} {i j : Int} {x y z : Str}
theorem av_strI (hm : X.mg "str" = none) (ha : aV X a Γ M (.int i)) (hi : showI i) (hg : Gl X "str" := by rfl) (hst : starEach [a] X.env = [(false, eval a X.env)] := by rfl) : aV X (.Call (.Name "str" p1) [a] [] pos) Γ M (.str (toString i)) :=
  ae_callTy call_str_int hm (by decide +kernel) (aa_cons (ha.mono fun d M' ⟨e1, e2⟩ => aa_nil fun Hi H vs ok r Q q => by
    subst e1; subst e2
    cases r with
    | cons r1 r2 =>
      cases r2
      cases r1
      exact ⟨i, rfl, hi, q _ _ _ _ _ ⟨rfl, rfl⟩ (Same.refl _) ok (.str _)⟩) hst) hg (he := hst) (hpl := rfl)
/-- int(text) -/
theorem av_intS {n : Int} (hm : X.mg "int" = none) (ha : aV X a Γ M (.str x)) (hi : PySem.intText? x = some n) (hl : x.length ≤ 640) (hg : Gl X "int" := by rfl) (hst : starEach [a] X.env = [(false, eval a X.env)] := by rfl) : aV X (.Call (.Name "int" p1) [a] [] pos) Γ M (.int n) :=
  ae_callTy call_int_str hm (by decide +kernel) (aa_cons (ha.mono fun d M' ⟨e1, e2⟩ => aa_nil fun Hi H vs ok r Q q => by
    subst e1; subst e2
    cases r with
    | cons r1 r2 =>
      cases r2
      cases r1
      exact ⟨x, n, rfl, hi, hl, q _ _ _ _ _ ⟨rfl, rfl⟩ (Same.refl _) ok (.int _)⟩) hst) hg (he := hst) (hpl := rfl)
/-- s + t -/
theorem bv_addS (hl : x.length + y.length ≤ sizeLine) (h : P (.str (x ++ y)) M) : BinV X .Add M (.str x) (.str y) P :=
  ⟨_, op_add_str, fun Hi H v w ok r1 r2 Q q => by
    cases r1
    cases r2
    exact ⟨x, y, rfl, rfl, hl, q _ _ _ _ _ h (Same.refl _) ok (.str _)⟩⟩
theorem av_addS (ha : aV X a Γ M (.str x)) (hb : aV X b Γ M (.str y)) (hl : x.length + y.length ≤ sizeLine) : aV X (.BinOp a .Add b pos) Γ M (.str (x ++ y)) :=
  ae_bin (ha.val (hb.val (bv_addS hl ⟨rfl, rfl⟩)))
/-- s[i] -/
theorem av_ixS {cc : Nat} (ha : aV X a Γ M (.str x)) (hb : aV X b Γ M (.int i)) (hl : x.length ≤ sizeLine) (hc : atI x.cps.toList i = some cc) (hs : PlainIx b := by exact fun _ _ => rfl) : aV X (.Subscript a b pos) Γ M (.str ⟨#[cc]⟩) := fun Hi H σ ok en Q q => by
  refine ⟨_, pe_ix ix_str pe_we pe_we hs, ?_⟩
  refine ha Hi H σ ok en _ fun d M1 v Hi1 H1 h1 s1 ok1 r1 => ?_
  obtain ⟨rfl, rfl⟩ := h1
  cases r1
  refine hb Hi1 H1 σ ok1 (en.mono s1) _ fun d M2 w Hi2 H2 h2 s2 ok2 r2 => ?_
  obtain ⟨rfl, rfl⟩ := h2
  cases r2
  exact ⟨x, i, cc, rfl, rfl, hl, hc, q _ _ _ Hi2 _ ⟨rfl, rfl⟩ (s1.trans s2) ok2 (.str _)⟩
/-- s[i:j] -/
theorem av_sliceS {elo ehi : Option Expr} {lo hi : Option Int} (ha : aV X a Γ M (.str x)) (hl : aO X elo Γ M lo) (hh : aO X ehi Γ M hi) (hx : x.length ≤ sizeLine) : aV X (.Subscript a (.Slice elo ehi none p2) pos) Γ M (.str (L2.cutS x lo hi)) := fun Hi H σ ok en Q q => by
  refine ⟨_, pe_slice sl_str pe_we po_wo po_wo, ?_⟩
  refine ha Hi H σ ok en _ fun d M1 v Hi1 H1 h1 s1 ok1 r1 => ?_
  obtain ⟨rfl, rfl⟩ := h1
  cases r1
  refine hl Hi1 H1 σ ok1 (en.mono s1) _ fun Hi2 H2 s2 ok2 => ?_
  refine hh Hi2 H2 σ ok2 (en.mono (s1.trans s2)) _ fun Hi3 H3 s3 ok3 => ?_
  exact ⟨x, rfl, hx, q _ _ _ Hi3 _ ⟨rfl, rfl⟩ ((s1.trans s2).trans s3) ok3 (.str _)⟩
/-! ### f-strings -/
end
end Ab
/-! Ab85: str(o) of an own instance -/
namespace Ab
open PySem PySem.Spec PyProof.Rows L2
end Ab
namespace K54
open PySem L2 Ab Sm
/-! ### exceptions of one field -/
abbrev g1V (f : Str) (ws : List V) : List (Str × V) := [(f, ws.getD 0 .non)]
abbrev g1 (f : Str) (ds : List Val) : List (Str × Val) := [(f, ds.getD 0 .non)]
theorem g1_rel {K : PySem.W.Frag} {f : Str} : ∀ H ds vs, RepA K H ds vs → ds.length = 1 → RepF K H (g1 f ds) (g1V f vs)
  | H, [d], _, .cons r .nil, _ => .cons r .nil
/-- what stands behind a class for its base's __init__ -/
structure XBase (K : PySem.W.Frag) (mg : Str → Option Value) (xb : Str) (initId : String) : Prop where
  ex : ∃ C0, ClX.CRead K C0 (.type "type") ∧ PySem.W.findCls K (.ref C0) (.type "type") "__init__" = some (.val (.builtin initId)) ∧ mg xb = some (.ref C0)
  hh : PySem.W.handedIn (.builtin initId) = true
section
variable {P : Program} {w : World} {K : PySem.W.Frag} {mg : Str → Option Value} {base : Heap} {k : Nat} {f C : Addr} {fd : FuncData} {B newId initId : String} {tl : List Value}
theorem xi_InvalidSchedule {kws : List (Str × V)} (F : FunD K "__init__" "InvalidSchedule.__init__" (defArgs c_InvalidSchedule___init__) (defBody c_InvalidSchedule___init__) (defScope c_InvalidSchedule___init__) [] kws f fd) (T : XCl K C B newId initId tl) (XB : XBase K mg "ScheduleError" initId) (hno : PySem.W.findIn K (.ref C) "part" = some none) : FnX P w K mg base 1 f [] (SpI C (g1V "part") 1) := by
  obtain ⟨C0, r, fv, mx⟩ := XB.ex
  refine (fnx_raw (sp := fun vs H Q => SpI C (g1V "part") 1 vs [] H Q) F q_InvalidSchedule___init__ (fun _ _ _ _ _ _ us hl => match us, hl with | [_, _], _ => rfl) fun cdv A outer s H hr mod vs Q h => ?_).weak fun vs zs H Q h => ⟨?_, h⟩
  · obtain ⟨a, ws, rfl, hl, ha, hq⟩ := h
    obtain ⟨y, rfl⟩ : ∃ y, ws = [y] := by
      match ws, hl with
      | [y], _ => exact ⟨y, rfl⟩
    refine ⟨_, pss_cons (ps_expr (px_init (B := B) (newId := newId) (initId := initId) (tl := tl) XB.hh r fv rfl mx (pa_cons (pv 0) (pa_cons pe_str pa_nil)))) (pss_one (qx_set (B := B) (newId := newId) (initId := initId) (tl := tl) (pv 0) (pv 1))), ?_⟩
    exact ⟨.ref a, rfl, a, C, _, rfl, by decide, T, ha, y, rfl, .ref a, rfl, a, C, rfl, T, hno, .inl ⟨ha, fun dx h1 h2 => hq dx h1 h2⟩⟩
  · obtain ⟨a, ws, rfl, hl, _⟩ := h
    show ws.length + 1 = 2
    omega
theorem xi_InvalidNumber {kws : List (Str × V)} (F : FunD K "__init__" "InvalidNumber.__init__" (defArgs c_InvalidNumber___init__) (defBody c_InvalidNumber___init__) (defScope c_InvalidNumber___init__) [] kws f fd) (T : XCl K C B newId initId tl) (XB : XBase K mg "ScheduleError" initId) (hno : PySem.W.findIn K (.ref C) "number" = some none) : FnX P w K mg base 1 f [] (SpI C (g1V "number") 1) := by
  obtain ⟨C0, r, fv, mx⟩ := XB.ex
  refine (fnx_raw (sp := fun vs H Q => SpI C (g1V "number") 1 vs [] H Q) F q_InvalidNumber___init__ (fun _ _ _ _ _ _ us hl => match us, hl with | [_, _], _ => rfl) fun cdv A outer s H hr mod vs Q h => ?_).weak fun vs zs H Q h => ⟨?_, h⟩
  · obtain ⟨a, ws, rfl, hl, ha, hq⟩ := h
    obtain ⟨y, rfl⟩ : ∃ y, ws = [y] := by
      match ws, hl with
      | [y], _ => exact ⟨y, rfl⟩
    refine ⟨_, pss_cons (ps_expr (px_init (B := B) (newId := newId) (initId := initId) (tl := tl) XB.hh r fv rfl mx (pa_cons (pv 0) (pa_cons pe_str pa_nil)))) (pss_one (qx_set (B := B) (newId := newId) (initId := initId) (tl := tl) (pv 0) (pv 1))), ?_⟩
    exact ⟨.ref a, rfl, a, C, _, rfl, by decide, T, ha, y, rfl, .ref a, rfl, a, C, rfl, T, hno, .inl ⟨ha, fun dx h1 h2 => hq dx h1 h2⟩⟩
  · obtain ⟨a, ws, rfl, hl, _⟩ := h
    show ws.length + 1 = 2
    omega
theorem xi_Frozen {kws : List (Str × V)} (F : FunD K "__init__" "Frozen.__init__" (defArgs c_Frozen___init__) (defBody c_Frozen___init__) (defScope c_Frozen___init__) [] kws f fd) (T : XCl K C B newId initId tl) (XB : XBase K mg "StateError" initId) (hno : PySem.W.findIn K (.ref C) "item" = some none) : FnX P w K mg base 1 f [] (SpI C (g1V "item") 1) := by
  obtain ⟨C0, r, fv, mx⟩ := XB.ex
  refine (fnx_raw (sp := fun vs H Q => SpI C (g1V "item") 1 vs [] H Q) F q_Frozen___init__ (fun _ _ _ _ _ _ us hl => match us, hl with | [_, _], _ => rfl) fun cdv A outer s H hr mod vs Q h => ?_).weak fun vs zs H Q h => ⟨?_, h⟩
  · obtain ⟨a, ws, rfl, hl, ha, hq⟩ := h
    obtain ⟨y, rfl⟩ : ∃ y, ws = [y] := by
      match ws, hl with
      | [y], _ => exact ⟨y, rfl⟩
    refine ⟨_, pss_cons (ps_expr (px_init (B := B) (newId := newId) (initId := initId) (tl := tl) XB.hh r fv rfl mx (pa_cons (pv 0) (pa_cons pe_str pa_nil)))) (pss_one (qx_set (B := B) (newId := newId) (initId := initId) (tl := tl) (pv 0) (pv 1))), ?_⟩
    exact ⟨.ref a, rfl, a, C, _, rfl, by decide, T, ha, y, rfl, .ref a, rfl, a, C, rfl, T, hno, .inl ⟨ha, fun dx h1 h2 => hq dx h1 h2⟩⟩
  · obtain ⟨a, ws, rfl, hl, _⟩ := h
    show ws.length + 1 = 2
    omega
end
end K54
/-! distances of places -/
namespace Sm
variable {k : Nat} {s l : Nat → Int}
/-! ### nodes of one height follow one another -/
theorem fq_step {c : Ct} (h : CtOk c) (t i : Nat) : fq c t i + c.la 0 ≤ fq c t (i + 1) := by
  unfold fq
  rw [smN_head, smN_head, Nat.pow_zero, Nat.div_one, Nat.div_one]
  have h1 : smN (fun j => c.la (j + 1) * ((i / c.k ^ (j + 1) : Nat) : Int)) t ≤ smN (fun j => c.la (j + 1) * (((i + 1) / c.k ^ (j + 1) : Nat) : Int)) t := smN_le fun j _ => Int.mul_le_mul_of_nonneg_left (Int.ofNat_le.mpr (Nat.div_le_div_right (Nat.le_succ i))) (h.la _)
  have h2 : c.la 0 * ((i + 1 : Nat) : Int) = c.la 0 * (i : Int) + c.la 0 := by rw [Int.natCast_add, Int.mul_add]; simp
  omega
theorem fq_ext {c : Ct} (h : CtOk c) {t u i : Nat} (hu : t ≤ u) (hi : i < c.k ^ (t + 1)) : fq c u i = fq c t i := by
  unfold fq
  refine smN_ext (by omega) fun j hj => ?_
  have : i < c.k ^ j := Nat.lt_of_lt_of_le hi (Nat.pow_le_pow_right (by have := h.k2; omega) hj)
  rw [Nat.div_eq_of_lt this]
  simp
end Sm
namespace Sm
theorem pp_step2 {c : Ct} (h : CtOk c) {b : Nat} (hb : 0 < b) : pp c b + c.la 0 ≤ pp c (b + 1) := by
  unfold pp
  rw [if_neg (Nat.succ_ne_zero b), if_neg (by omega)]
  have hk := h.k2
  have e1 : smN (fun j => if c.k ^ j ≤ b then c.sp j else 0) b ≤ smN (fun j => if c.k ^ j ≤ b + 1 then c.sp j else 0) (b + 1) := by
    have h1 : smN (fun j => if c.k ^ j ≤ b then c.sp j else 0) b ≤ smN (fun j => if c.k ^ j ≤ b + 1 then c.sp j else 0) b := smN_le fun j _ => by
      have := h.sp j
      split
      · rw [if_pos (by omega)]
        exact Int.le_refl _
      · split
        · exact this
        · exact Int.le_refl _
    have h2 : 0 ≤ if c.k ^ b ≤ b + 1 then c.sp b else 0 := by
      split
      · exact h.sp b
      · exact Int.le_refl _
    rw [smN]
    omega
  have e2 : fq c b b + c.la 0 ≤ fq c (b + 1) (b + 1) := by
    have h3 := fq_step h (b + 1) b
    rw [fq_ext h (Nat.le_succ b) (Nat.lt_trans (lt_pow hk b) (Nat.pow_lt_pow_right (by omega) (Nat.lt_succ_self b)))] at h3
    exact h3
  omega
theorem pl_ge {k : Nat} {s l : Nat → Int} (hk : 2 ≤ k) (hs : ∀ j, 0 ≤ s j) (hl : ∀ j, 0 ≤ l j) (h0 : 0 < l 0) (h b : Nat) : (b : Int) ≤ pl k s l h b + 1 := by
  induction b with
  | zero =>
    have := pl_nn hk hs hl h0 h 0
    omega
  | succ b ih =>
    rcases Nat.eq_zero_or_pos b with z | z
    · subst z
      have := pl_nn hk hs hl h0 h 1
      show ((0 + 1 : Nat) : Int) ≤ pl k s l h 1 + 1
      omega
    · have h1 := pp_step2 (ct_ok hk hs hl h0 h) z
      have h2 : 0 < (ctO k s l h).la 0 := (ct_ok hk hs hl h0 h).l0
      have h3 : pl k s l h b + (ctO k s l h).la 0 ≤ pl k s l h (b + 1) := h1
      omega
theorem Cnt.le {k : Nat} {s l : Nat → Int} (hk : 2 ≤ k) (hs : ∀ j, 0 ≤ s j) (hl : ∀ j, 0 ≤ l j) (h0 : 0 < l 0) {h : Nat} {n v : Int} (n0 : 0 ≤ n) (hv : Cnt k s l h n v) : v ≤ n + 2 := by
  rcases Int.lt_or_le (n + 2) v with z | z
  · have h1 := (hv.2 (n + 2).toNat).mp (by omega)
    have h2 := pl_ge hk hs hl h0 h (n + 2).toNat
    omega
  · exact z
end Sm
namespace K54
open PySem L2 Ab Sm
/-! ### counters in boxes -/
def ctB (C C2 c : Addr) (S : Sc) (h : Nat) (B : Mem0) : Prop := ∃ (p1 p2 p3 : Addr) (n : Nat), h ≤ n ∧ n ≤ 8000 ∧ B = [(c, .ins C2 (cF C S h p1 p2 p3)), (p1, .lst ((upL (szS S) n).map .int)), (p2, .lst ((upL (edS S) n).map .int)), (p3, .lst ((upL (pwS S) n).map .int))]
def ctr (C C2 : Addr) (S : Sc) (h : Nat) (c : Addr) : Cell := .box (ctB C C2 c S h)
theorem ctB_mem {C C2 c p1 p2 p3 : Addr} {S : Sc} {h n : Nat} : c ∈ ([(c, Cell0.ins C2 (cF C S h p1 p2 p3)), (p1, .lst ((upL (szS S) n).map .int)), (p2, .lst ((upL (edS S) n).map .int)), (p3, .lst ((upL (pwS S) n).map .int))] : Mem0).map (·.1) := List.mem_cons_self
section
variable {P : Program} {w : World} {K : PySem.W.Frag} {mg : Str → Option Value} {base : Heap} {k : Nat} {f C C2 C3 : Addr}
/-- a promise over a counter's cells, told over its box -/
theorem fx_boxC {n : Nat} {s s' : ASp} (F : FX P w K mg base n f fun ds _ => s ds)
    (h : ∀ ds M R, s' ds M R → ∃ (i : Nat) (c : Addr) (S : Sc) (h : Nat), M[i]? = some (c, ctr C C2 S h c) ∧ ∀ M1 p1 p2 p3 n, Cn C C2 M1 0 c p1 p2 p3 S h n → h ≤ n → n ≤ 8000 → s ds M1 fun d M' => ∃ m, h ≤ m ∧ m ≤ 8000 ∧ M' = grown M1 0 p1 p2 p3 S m ∧ R d M) : FX P w K mg base n f fun ds _ => s' ds := by
  refine F.weak fun vs zs H Q ⟨Hi, M, ds, es, R, r1, r2, ok, hs, q⟩ => ?_
  obtain ⟨i, c, S, h, hi, hr⟩ := h ds M R hs
  obtain ⟨B, ⟨p1, p2, p3, n, h1, h2, rfl⟩, _, ok'⟩ := ok.opn hi
  refine ⟨Hi, _, ds, es, _, r1, r2, ok', hr _ p1 p2 p3 n ⟨rfl, rfl, rfl, rfl⟩ h1 h2, fun d M' v Hi' H' hd s' ok2 r => ?_⟩
  obtain ⟨m, h3, h4, rfl, hR⟩ := hd
  have ok3 := Ok.clsAt (B := [(c, .ins C2 (cF C S h p1 p2 p3)), (p1, .lst ((upL (szS S) m).map .int)), (p2, .lst ((upL (edS S) m).map .int)), (p3, .lst ((upL (pwS S) m).map .int))]) (φ := ctB C C2 c S h) ok2 hi ⟨p1, p2, p3, m, h3, h4, rfl⟩ ctB_mem
  rw [show M.set i (c, .box (ctB C C2 c S h)) = M from set_at hi] at ok3
  exact q d _ v Hi' H' hR s' ok3 r
theorem mt_boxC {n : Nat} {m : Str} {s s' : ASp} (F : Mt P w K mg base C2 n m s)
    (h : ∀ ds M R, s' ds M R → ∃ (i : Nat) (c : Addr) (S : Sc) (h : Nat), M[i]? = some (c, ctr C C2 S h c) ∧ ∀ M1 p1 p2 p3 n, Cn C C2 M1 0 c p1 p2 p3 S h n → h ≤ n → n ≤ 8000 → s ds M1 fun d M' => ∃ m, h ≤ m ∧ m ≤ 8000 ∧ M' = grown M1 0 p1 p2 p3 S m ∧ R d M) : Mt P w K mg base C2 n m s' := by
  obtain ⟨f, hm, F⟩ := F
  exact ⟨f, hm, fx_boxC F h⟩
def aVaB (C C2 : Addr) : ASp := fun ds M R => ∃ (i : Nat) (c : Addr) (S : Sc) (h : Nat) (x : Int), ds = [.ptr c, .int x] ∧ M[i]? = some (c, ctr C C2 S h c) ∧ GoodS S ∧ h ≤ 3000 ∧ 0 ≤ x ∧ x < 2 ^ 2000 ∧ ∀ v, CntS S h x v → R (.int v) M
def aPlB (C C2 : Addr) : ASp := fun ds M R => ∃ (i : Nat) (c : Addr) (S : Sc) (h b : Nat) (x : Int), ds = [.ptr c, .int x] ∧ x = (b : Int) + 1 ∧ M[i]? = some (c, ctr C C2 S h c) ∧ GoodS S ∧ h ≤ 3000 ∧ b < 2 ^ 2000 ∧ R (.int (plN S h b)) M
theorem va_box (F : Mt P w K mg base C2 6 "value" (aCf C C2)) : Mt P w K mg base C2 6 "value" (aVaB C C2) := mt_boxC (C := C) F fun ds M R ⟨i, c, S, h, x, e, hi, hS, h6, x0, x1, hp⟩ => ⟨i, c, S, h, hi, fun M1 p1 p2 p3 n hc h1 h2 => ⟨0, c, p1, p2, p3, S, h, n, x, e, hc, hS, h1, h6, h2, x0, x1, fun v m hv h3 h4 => ⟨m, by omega, h4, rfl, hp v hv⟩⟩⟩
theorem pl_box (F : Mt P w K mg base C2 6 "place" (aFin C C2)) : Mt P w K mg base C2 6 "place" (aPlB C C2) := mt_boxC (C := C) F fun ds M R ⟨i, c, S, h, b, x, e, ex, hi, hS, h6, hb, hp⟩ => ⟨i, c, S, h, hi, fun M1 p1 p2 p3 n hc h1 h2 => ⟨0, c, p1, p2, p3, S, h, n, b, x, e, ex, hc, hS, h1, h6, hb, n, h1, h2, hc.self.symm, hp⟩⟩
/-- Counter(e), Counter(e, height=e2): a new box -/
theorem ae_ctr {x : Str} {X : Cx} {Γ : Gam} {M : Mem} {R : Val → Mem → Prop} {e : Expr} {p1 pos : Pos} {m : Nat} (Z : Cr X.K X.mg C2) (gx : X.mg x = some (.ref C2)) (I : Mkc X.prog X.w X.K X.mg X.base C C2) (hr : Rm m X.A) (hm : 6 ≤ m)
    (h : aE X e Γ M fun x M1 => ∃ S, x = scV C S ∧ GoodS S ∧ ∀ c, R (.ptr c) ((c, ctr C C2 S 0 c) :: M1))
    (hg : Gl X x := by rfl) (hdb : (x == ("__debug__" : Str)) = false := by decide) (he : starEach [e] X.env = (false, eval e X.env) :: starEach [] X.env := by rfl) : aE X (.Call (.Name x p1) [e] [] pos) Γ M R :=
  ae_close (ae_counter Z gx I hr hm (h.mono fun d M1 ⟨S, e1, hS, hR⟩ => ⟨S, e1, hS, fun c q1 q2 q3 _ => ⟨ctB C C2 c S 0, [(c, .ins C2 (cF C S 0 q1 q2 q3)), (q1, .lst ((upL (szS S) 0).map .int)), (q2, .lst ((upL (edS S) 0).map .int)), (q3, .lst ((upL (pwS S) 0).map .int))], M1, c, rfl, ⟨q1, q2, q3, 0, by omega, by omega, rfl⟩, ctB_mem, hR c⟩⟩) hg hdb he)
theorem obm_ctr {M : Mem} {i : Nat} {c : Addr} {S : Sc} {h : Nat} {m : Str} (hi : M[i]? = some (c, ctr C C2 S h c)) (hl : ∀ p1 p2 p3, (cF C S h p1 p2 p3).lookup m = none := by intros; rfl) : ObM M C2 (.ptr c) m := obm_box hi fun B ⟨p1, p2, p3, n, _, _, e⟩ => by
  subst e
  exact ⟨_, List.mem_cons_self, hl p1 p2 p3⟩
/-! ### labels_of, has_number, frequency -/
/-! ### StartCounter -/
theorem CntS.le {S : Sc} (hS : GoodS S) {h : Nat} {x v : Int} (x0 : 0 ≤ x) (hv : CntS S h x v) : v ≤ x + 2 := Cnt.le hS.k2 hS.s0 hS.l0 hS.lp x0 hv
end
end K54
/-! sums over powers and quotients; bounds of places -/
namespace Sm
def psum (k : Nat) (f : Nat → Int) (b sh : Nat) : Int := smN (fun j => if k ^ j ≤ b then f (sh + j) else 0) b
def lsum (k : Nat) (f : Nat → Int) (b sh : Nat) : Int := smN (fun j => ((b / k ^ (j + 1) : Nat) : Int) * f (sh + j)) b
theorem smN_same {f : Nat → Int} {n m : Nat} (h1 : ∀ j, n ≤ j → f j = 0) (h2 : ∀ j, m ≤ j → f j = 0) : smN f n = smN f m := by
  have a := smN_ext (f := f) (n := n) (m := n + m) (by omega) h1
  have b := smN_ext (f := f) (n := m) (m := n + m) (by omega) h2
  rw [← a, b]
theorem psum_is {k : Nat} (hk : 2 ≤ k) {f : Nat → Int} {b sh t : Nat} (ht : b < k ^ t) : smN (fun j => if k ^ j ≤ b then f (sh + j) else 0) t = psum k f b sh := by
  refine smN_same (fun j hj => if_neg ?_) fun j hj => if_neg ?_
  · have := Nat.pow_le_pow_right (n := k) (by omega) hj
    omega
  · have := lt_pow hk j
    omega
theorem lsum_is {k : Nat} (hk : 2 ≤ k) {f : Nat → Int} {b sh t : Nat} (ht : b < k ^ (t + 1)) : smN (fun j => ((b / k ^ (j + 1) : Nat) : Int) * f (sh + j)) t = lsum k f b sh := by
  refine smN_same (fun j hj => ?_) fun j hj => ?_
  · have : b < k ^ (j + 1) := Nat.lt_of_lt_of_le ht (Nat.pow_le_pow_right (by omega) (by omega))
    rw [Nat.div_eq_of_lt this]
    simp
  · have : b < k ^ (j + 1) := Nat.lt_trans (Nat.lt_of_le_of_lt hj (lt_pow hk j)) (Nat.pow_lt_pow_right (by omega) (Nat.lt_succ_self j))
    rw [Nat.div_eq_of_lt this]
    simp
variable {k : Nat} {s l : Nat → Int}
theorem pl_sums (hk : 2 ≤ k) {h b : Nat} (hb : 0 < b) : pl k s l h b = ed k s l h + l h + ((b : Int) - 1) * siz k l h + lsum k l b (h + 1) + psum k s b (h + 1) := by
  rw [pl_form hb (lt_pow hk b) (Nat.lt_trans (lt_pow hk b) (Nat.pow_lt_pow_right (by omega) (Nat.lt_succ_self b))) hk]
  unfold psum lsum
  have e : smN (fun j => ((b / k ^ (j + 1) : Nat) : Int) * l (h + (j + 1))) b = smN (fun j => ((b / k ^ (j + 1) : Nat) : Int) * l (h + 1 + j)) b := smN_congr fun j _ => by rw [show h + (j + 1) = h + 1 + j by omega]
  rw [e]
  omega
theorem pl_leaf (hk : 2 ≤ k) {b : Nat} : pl k s l 0 b = s 0 + (b : Int) * l 0 + lsum k l b 1 + psum k s b 1 := by
  rcases Nat.eq_zero_or_pos b with z | z
  · subst z
    rw [pl_zero]
    simp [fp, lsum, psum, smN]
  · rw [pl_sums hk z, Nat.zero_add, show ed k s l 0 = s 0 from rfl, show siz k l 0 = l 0 from rfl, Int.sub_mul]
    omega
/-! ### bounds -/
theorem siz_nn (l0 : ∀ j, 0 ≤ l j) : ∀ h, 0 ≤ siz k l h
  | 0 => l0 0
  | h + 1 => by
    have h1 := siz_nn l0 h
    have h2 := l0 (h + 1)
    have h3 := Int.mul_nonneg (show (0 : Int) ≤ k by omega) h1
    rw [siz]
    omega
theorem siz_le9 (hk9 : k ≤ 9) (l0 : ∀ j, 0 ≤ l j) (l6 : ∀ j, l j ≤ 1000000) : ∀ h, siz k l h + 1000000 ≤ 2000000 * ((9 ^ h : Nat) : Int)
  | 0 => by
    have := l6 0
    show l 0 + 1000000 ≤ 2000000 * ((1 : Nat) : Int)
    omega
  | h + 1 => by
    have h1 := siz_le9 hk9 l0 l6 h
    have h2 := l6 (h + 1)
    have h3 := siz_nn (k := k) l0 h
    have h4 : (k : Int) * siz k l h ≤ 9 * siz k l h := Int.mul_le_mul_of_nonneg_right (by omega) h3
    rw [siz, Nat.pow_succ, Int.natCast_mul]
    omega
end Sm
/-! pruning: the labels of height 0 taken away -/
namespace Sm
section
variable {k : Nat} {s l : Nat → Int}
theorem Cnt.mono {h : Nat} {n m v u : Int} (a : Cnt k s l h n v) (b : Cnt k s l h m u) (hn : n ≤ m) : v ≤ u := by
  rcases (show v ≤ u ∨ u < v by omega) with z | z
  · exact z
  · have u0 := b.1
    have h1 := (a.2 u.toNat).mp (by omega)
    have h2 := (b.2 u.toNat).mpr (by omega)
    omega
end
end Sm
/-! the labels of all heights make up all labels -/
namespace Sm
/-- the part of the labels a+1 .. a+w that lies up to n -/
def cl (n a w : Int) : Int := max 0 (min (n - a) w)
end Sm
/-! labels by number; another arity; greater schedules -/
namespace Sm
/-! ### another arity -/
section
variable {k e : Nat} {s l s2 l2 : Nat → Int}
theorem leaf_full (hk : 2 ≤ k) {b N : Nat} (hb : b < k ^ N) : pl k s l 0 b = s 0 + smN (fun i => ((b / k ^ i : Nat) : Int) * l i) (N + 1) + smN (fun j => if k ^ j ≤ b then s (1 + j) else 0) N := by
  rw [pl_leaf hk, ← psum_is hk hb, ← lsum_is hk (t := N) (Nat.lt_trans hb (Nat.pow_lt_pow_right (by omega) (Nat.lt_succ_self N))), smN_head, Nat.pow_zero, Nat.div_one]
  have : smN (fun j => ((b / k ^ (j + 1) : Nat) : Int) * l (1 + j)) N = smN (fun j => ((b / k ^ (j + 1) : Nat) : Int) * l (j + 1)) N := smN_congr fun j _ => by rw [Nat.add_comm 1 j]
  rw [this]
  omega
/-! ### greater schedules -/
end
end Sm
/-! items with zeros between them -/
namespace Sm
end Sm
namespace K54
open PySem L2 Ab Sm
section
variable {P : Program} {w : World} {K : PySem.W.Frag} {mg : Str → Option Value} {base : Heap} {k : Nat} {f C CN : Addr}
/-! ### is_integer, check_integer of anything -/
/-- no integer, or a truth value -/
def NInt (K : PySem.W.Frag) (M : Mem) (d : Val) : Prop := (∃ T, TyV K M d T ∧ PySem.W.kitOne K T (.type "int") = some false) ∨ ∃ b, d = .bl b
theorem NInt.non {M : Mem} : NInt K M .non := .inl ⟨_, .non, kit_ty (by decide +kernel)⟩
theorem NInt.str {M : Mem} {s : Str} : NInt K M (.str s) := .inl ⟨_, .str s, kit_ty (by decide +kernel)⟩
theorem NInt.bl {M : Mem} {b : Bool} : NInt K M (.bl b) := .inr ⟨b, rfl⟩
theorem NInt.tup {M : Mem} {xs : List Val} : NInt K M (.tup xs) := .inl ⟨_, .tup xs, kit_ty (by decide +kernel)⟩
def aIntN (K : PySem.W.Frag) : ASp := fun ds M R => ∃ d lo hi, ds = [d, lo, hi] ∧ NInt K M d ∧ R (.bl false) M
theorem b_is_integerN (B : Bt mg) : BodyOk P w K mg base k f n_is_integer "is_integer" (defScope s_is_integer) (defBody s_is_integer) (aIntN K) := by
  rintro cdv A outer s H E hr ds M R ⟨d, lo, hi, rfl, ⟨T, hT, hk⟩ | ⟨b, rfl⟩, hp⟩
  · exact as_cons (as_if (at_w (aw_or (at_not (at_val (ae_isi B.isinstance (v_ 0) (av_ty (T := "int") B.int (by decide +kernel)) (.ty "int") hT hk ⟨false, rfl, fun _ => ⟨fun _ => as_one (as_ret (ae_bl (.ok hp))), ntf⟩, ntf⟩))))))
  · refine as_cons (as_if (at_w (aw_or (at_not (at_val (ae_isi B.isinstance (v_ 0) (av_ty (T := "int") B.int (by decide +kernel)) (.ty "int") (.bl b) (kit_ty (by decide +kernel)) ⟨true, rfl, nft, fun _ => ?_⟩))))))
    exact aw_or1 (at_val (ae_isi B.isinstance (v_ 0) (av_ty (T := "bool") B.bool (by decide +kernel)) (.ty "bool") (.bl b) (kit_ty (by decide +kernel)) ⟨true, rfl, fun _ => as_one (as_ret (ae_bl (.ok hp))), ntf⟩))
abbrev GIntN (P : Program) (w : World) (K : PySem.W.Frag) (mg : Str → Option Value) (base : Heap) : Prop := Gd P w K mg base 1 "is_integer_schedules" ["low", "high"] fun ds es M R => ds.length = 1 ∧ aIntN K (ds ++ es) M R
/-- what check_integer refuses -/
def Bad (K : PySem.W.Frag) (M : Mem) (d : Val) (lo : Int) (hi : Option Int) : Prop := NInt K M d ∨ ∃ n, d = .int n ∧ within n (some lo) hi = false
def aChkX (K : PySem.W.Frag) (CN : Addr) : ASe := fun ds M R PE => ∃ d lo hi, ds = [d, .int lo, optV hi] ∧ Bad K M d lo hi ∧ PE CN [("number", d)] M
theorem e_check_integer (GI : GInt P w K mg base) (GN : GIntN P w K mg base) (XN : XMk P w K mg base "InvalidNumber" CN 1 (g1 "number")) : BodyE P w K mg base 2 f n_check_integer "check_integer" (defScope s_check_integer) (defBody s_check_integer) (aChkX K CN) := by
  rintro cdv A outer s0 H E hr po ds M R PE ⟨d, lo, hi, rfl, h | ⟨n, rfl, hn⟩, hp⟩
  · exact ys_one (ys_if (at_not (at_val (ae_g GN hr (by decide) (aa_cons ((v_ 0).val (aa_nil (ak_cons ((v_ 1).val (ak_cons ((v_ 2).val (ak_nil ⟨rfl, rfl, d, _, _, rfl, h, false, rfl, fun _ => ys_one (ys_raise XN hr (by decide) rfl (aa_cons ((v_ 0).val (aa_nil ⟨rfl, .ok hp⟩)))), ntf⟩))))))))))))
  · exact ys_one (ys_if (at_not (at_val (ae_g GI hr (by decide) (aa_cons ((v_ 0).val (aa_nil (ak_cons ((v_ 1).val (ak_cons ((v_ 2).val (ak_nil ⟨rfl, rfl, n, some lo, hi, rfl, false, by rw [hn], fun _ => ys_one (ys_raise XN hr (by decide) rfl (aa_cons ((v_ 0).val (aa_nil ⟨rfl, .ok hp⟩)))), ntf⟩))))))))))))
abbrev GChkX (P : Program) (w : World) (K : PySem.W.Frag) (mg : Str → Option Value) (base : Heap) (CN : Addr) : Prop := GdE P w K mg base 3 "check_integer" [] fun ds _ M R PE => ds.length = 2 ∧ aChkX K CN (ds ++ [.non]) M R PE
/-! ### in_arity refuses -/
end
end K54
/-! S24: changes of items by index; the dict that holds them -/
namespace Ab
open PySem PySem.Spec L2 Sm
abbrev kN (n : Nat) : Key := .inl (n : Int)
def dI (cs : List (Nat × Int)) : List (Key × Val) := cs.map fun q => (kN q.1, .int q.2)
def cPut (cs : List (Nat × Int)) (n : Nat) (v : Int) : List (Nat × Int) := if (cs.any fun q => decide (q.1 = n)) = true then cs.map (fun q => if q.1 = n then (q.1, v) else q) else cs ++ [(n, v)]
def cGet : List (Nat × Int) → Nat → Option Int
  | [], _ => none
  | (m, v) :: r, n => if m = n then some v else cGet r n
theorem kN_iff {m n : Nat} : kN m = kN n ↔ m = n := ⟨fun h => by have := Sum.inl.inj h; omega, fun h => by rw [h]⟩
theorem dI_put {cs : List (Nat × Int)} {n : Nat} {v : Int} : dPut (dI cs) (kN n) (.int v) = dI (cPut cs n v) := by
  have e : ((dI cs).any fun kv => decide (kv.1 = kN n)) = cs.any fun q => decide (q.1 = n) := by
    unfold dI
    rw [List.any_map]
    congr 1
    funext q
    exact decide_eq_decide.mpr kN_iff
  unfold dPut cPut
  rw [e]
  split
  · unfold dI
    rw [List.map_map, List.map_map]
    congr 1
    funext q
    show (if kN q.1 = kN n then (kN q.1, Val.int v) else (kN q.1, Val.int q.2)) = _
    by_cases h : q.1 = n
    · rw [if_pos (kN_iff.mpr h)]
      show _ = (fun q : Nat × Int => (kN q.1, Val.int q.2)) (if q.1 = n then (q.1, v) else q)
      rw [if_pos h]
    · rw [if_neg fun z => h (kN_iff.mp z)]
      show _ = (fun q : Nat × Int => (kN q.1, Val.int q.2)) (if q.1 = n then (q.1, v) else q)
      rw [if_neg h]
  · unfold dI
    rw [List.map_append]
    rfl
theorem dI_get : ∀ {cs : List (Nat × Int)} {n : Nat}, dGet (dI cs) (kN n) = (cGet cs n).map .int
  | [], _ => rfl
  | (m, v) :: r, n => by
    show (if kN m = kN n then some (Val.int v) else dGet (dI r) (kN n)) = (if m = n then some v else cGet r n).map .int
    by_cases h : m = n
    · rw [if_pos h, if_pos (kN_iff.mpr h)]
      rfl
    · rw [if_neg h, if_neg fun z => h (kN_iff.mp z)]
      exact dI_get
theorem cPut_mem {cs : List (Nat × Int)} {n : Nat} {v : Int} {q : Nat × Int} (h : q ∈ cPut cs n v) : q = (n, v) ∨ q ∈ cs := by
  unfold cPut at h
  split at h
  · obtain ⟨r, hr, e⟩ := List.mem_map.mp h
    by_cases z : r.1 = n
    · rw [if_pos z] at e
      exact .inl (by rw [← e, z])
    · rw [if_neg z] at e
      exact .inr (by rw [← e]; exact hr)
  · rcases List.mem_append.mp h with z | z
    · exact .inr z
    · exact .inl (List.mem_singleton.mp z)
theorem cPut_len {cs : List (Nat × Int)} {n : Nat} {v : Int} : (cPut cs n v).length ≤ cs.length + 1 := by
  unfold cPut
  split
  · rw [List.length_map]
    omega
  · rw [List.length_append]
    exact Nat.le_refl _
theorem cGet_mem : ∀ {cs : List (Nat × Int)} {n : Nat} {v : Int}, cGet cs n = some v → (n, v) ∈ cs
  | (m, u) :: r, n, v, h => by
    have h : (if m = n then some u else cGet r n) = some v := h
    by_cases z : m = n
    · rw [if_pos z] at h
      cases h
      rw [z]
      exact List.mem_cons_self
    · rw [if_neg z] at h
      exact List.mem_cons_of_mem _ (cGet_mem h)
theorem cGet_none : ∀ {cs : List (Nat × Int)} {n : Nat}, (∀ q ∈ cs, q.1 ≠ n) → cGet cs n = none
  | [], _, _ => rfl
  | (m, u) :: r, n, h => by
    show (if m = n then some u else cGet r n) = none
    rw [if_neg (h _ List.mem_cons_self)]
    exact cGet_none fun q hq => h q (List.mem_cons_of_mem _ hq)
end Ab
namespace Sm
theorem item_all {s : Stm} (hn : s.2 ≠ []) {p : Int → Prop} (h : ∀ i, p (item s i)) : (∀ v ∈ s.1, p v) ∧ ∀ v ∈ s.2, p v := by
  have hl : 0 < s.2.length := List.length_pos_iff.mpr hn
  constructor
  · intro v hv
    obtain ⟨i, hi, rfl⟩ := List.getElem_of_mem hv
    have := h i
    rw [item_lt hi, List.getD_eq_getElem?_getD, List.getElem?_eq_getElem hi] at this
    exact this
  · intro v hv
    obtain ⟨i, hi, rfl⟩ := List.getElem_of_mem hv
    have := h (s.1.length + i)
    rw [item_ge (by omega), show s.1.length + i - s.1.length = i by omega] at this
    unfold lp at this
    rw [Nat.mod_eq_of_lt hi, List.getD_eq_getElem?_getD, List.getElem?_eq_getElem hi] at this
    exact this
/-- the stream with a longer front and changed items -/
def rps (s : Stm) (cs : List (Nat × Int)) (m : Nat) : Stm := ((List.range m).map fun i => (Ab.cGet cs i).getD (item s i), (swo s m).2)
theorem rps_item {s : Stm} (hn : s.2 ≠ []) {m : Nat} (hm : s.1.length ≤ m) {cs : List (Nat × Int)} (hc : ∀ q ∈ cs, q.1 < m) (i : Nat) : item (rps s cs m) i = (Ab.cGet cs i).getD (item s i) := by
  have hl : ((List.range m).map fun i => (Ab.cGet cs i).getD (item s i)).length = m := by simp
  by_cases h : i < m
  · have : item (rps s cs m) i = (rps s cs m).1.getD i 0 := item_lt (by show i < ((List.range m).map _).length; rw [hl]; exact h)
    rw [this]
    show ((List.range m).map fun i => (Ab.cGet cs i).getD (item s i)).getD i 0 = _
    rw [List.getD_eq_getElem?_getD, List.getElem?_map, List.getElem?_range h]
    rfl
  · have e1 : item (rps s cs m) i = lp (swo s m).2 (i - m) := by
      have : item (rps s cs m) i = lp (rps s cs m).2 (i - (rps s cs m).1.length) := item_ge (by show ((List.range m).map _).length ≤ i; rw [hl]; omega)
      rw [this]
      show lp _ (i - ((List.range m).map _).length) = _
      rw [hl]
      rfl
    have e2 : item (wf s m) i = lp (swo s m).2 (i - m) := by
      have h2 : ((List.range m).map (item s)).length = m := by simp
      have : item (wf s m) i = lp (wf s m).2 (i - (wf s m).1.length) := item_ge (by show ((List.range m).map _).length ≤ i; rw [h2]; omega)
      rw [this]
      show lp _ (i - ((List.range m).map _).length) = _
      rw [h2]
      rfl
    rw [e1, ← e2, wf_item hn hm, Ab.cGet_none fun q hq z => by have := hc q hq; omega]
    rfl
end Sm
/-! Ab88: a dict locked while a statement that may raise runs; list(d); d == {}; a def f(a, .., **d) that may raise -/
namespace Ab
open PySem PySem.Spec PyProof.Rows L2 Builtin
section
variable {X : Cx} {Γ : Gam} {M : Mem} {P : Val → Mem → Prop} {PE : XP} {ex : XG} {e a b c o : Expr} {pos p1 apos ppos : Pos} {k : AK} {d d1 : Val} {kk : Key} {p q : Addr} {ds : List (Key × Val)}
theorem ys_lock {n : Nat} {st : Stmt} (hm : M[n]? = some (p, .dk ds)) (h : ∀ od kvs, yS X st Γ (M.set n (p, .b (.fz od kvs ds)))
    { nx := fun Γ' M' => ∃ i : Nat, M'[i]? = some (p, .b (.fz od kvs ds)) ∧ k.nx Γ' (M'.set i (p, .dk ds)), rt := fun d M' => ∃ i : Nat, M'[i]? = some (p, .b (.fz od kvs ds)) ∧ k.rt d (M'.set i (p, .dk ds)),
      bk := fun Γ' M' => ∃ i : Nat, M'[i]? = some (p, .b (.fz od kvs ds)) ∧ k.bk Γ' (M'.set i (p, .dk ds)), ct := fun Γ' M' => ∃ i : Nat, M'[i]? = some (p, .b (.fz od kvs ds)) ∧ k.ct Γ' (M'.set i (p, .dk ds)) } ex) : yS X st Γ M k ex := fun W tk po Hi H σ ok en D q y => by
  refine ws_of fun pins s I => ?_
  obtain ⟨_, o, ho, kvs, rfl, rk⟩ := ok.get hm
  have hn := I.nofrz ho trivial
  obtain ⟨od, I1⟩ := I.lock ho trivial
  have ok1 : Ok X.K Hi (M.set n (p, .b (.fz od kvs ds))) (upd H p (.frz od (.dK kvs))) := ok.set hm ⟨rfl, rk⟩
  obtain ⟨t, pe, ht⟩ := h od kvs W tk po Hi _ σ ok1 en _ gD_real y
  refine thn (pe.run pins s σ _ _ I1 ht) fun f s2 hs => ?_
  cases f with
  | next =>
    obtain ⟨σ2, H2, I2, Γ', M', Hi', ⟨i, h1, h2⟩, s1, o1, e1⟩ := hs
    obtain ⟨_, o2, ho2, rfl, rk2⟩ := o1.get h1
    exact ⟨σ2, upd H2 p (.dK kvs), I2.unlock ho2 hn, q.nx Γ' _ σ2 Hi' _ h2 s1 (o1.set h1 ⟨kvs, rfl, rk2⟩) e1⟩
  | brk =>
    obtain ⟨σ2, H2, I2, Γ', M', Hi', ⟨i, h1, h2⟩, s1, o1, e1⟩ := hs
    obtain ⟨_, o2, ho2, rfl, rk2⟩ := o1.get h1
    exact ⟨σ2, upd H2 p (.dK kvs), I2.unlock ho2 hn, q.bk Γ' _ σ2 Hi' _ h2 s1 (o1.set h1 ⟨kvs, rfl, rk2⟩) e1⟩
  | cont =>
    obtain ⟨σ2, H2, I2, Γ', M', Hi', ⟨i, h1, h2⟩, s1, o1, e1⟩ := hs
    obtain ⟨_, o2, ho2, rfl, rk2⟩ := o1.get h1
    exact ⟨σ2, upd H2 p (.dK kvs), I2.unlock ho2 hn, q.ct Γ' _ σ2 Hi' _ h2 s1 (o1.set h1 ⟨kvs, rfl, rk2⟩) e1⟩
  | ret u =>
    obtain ⟨v, σ2, H2, I2, rv, d, M', Hi', ⟨i, h1, h2⟩, s1, o1, r1⟩ := hs
    obtain ⟨_, o2, ho2, rfl, rk2⟩ := o1.get h1
    exact ⟨v, σ2, upd H2 p (.dK kvs), I2.unlock ho2 hn, rv, q.rt d _ v Hi' _ h2 s1 (o1.set h1 ⟨kvs, rfl, rk2⟩) r1⟩
/-- list(d): a new cell with the keys -/
theorem repa_keys {K : PySem.W.Frag} {H : Hp} : ∀ {ds : List (Key × Val)} {kvs : List (Key × V)}, RepK K H ds kvs → RepA K H (ds.map fun kv => kD kv.1) (kvs.map fun kv => kV kv.1)
  | _, _, .nil => .nil
  | _, _, .cons _ r => .cons kD_rep (repa_keys r)
theorem ae_listD (hm : X.mg "list" = none) (ha : aE X a Γ M fun x M' => ∃ p ds, x = .ptr p ∧ DkAt M' p ds ∧ ∀ q, P (.ptr q) ((q, .lst (ds.map fun kv => kD kv.1)) :: M')) (hc : X.calm = true := by rfl) (hg : Gl X "list" := by rfl) (hst : starEach [a] X.env = [(false, eval a X.env)] := by rfl) : aE X (.Call (.Name "list" p1) [a] [] pos) Γ M P :=
  ae_callTy (call_listD hc) hm (by decide +kernel) (aa_cons (ha.mono fun d M' ⟨p, ds, e, hd, h⟩ => aa_nil fun Hi H vs ok r Q q => by
    subst e
    cases r with
    | cons r1 r2 =>
      cases r2
      cases r1
      obtain ⟨kvs, hr, rk⟩ := hd.rd ok
      exact ⟨p, kvs, rfl, hr, fun l hl => q _ _ _ _ _ (h l) (Same.refl _) (ok.new hl ⟨_, rfl, repa_keys rk⟩) (.ptr l)⟩) hst) hg (he := hst) (hpl := rfl)
/-- d == {} -/
theorem op_eq_d0 (hu : X.A.units < cLine) : OpR X (compareOp .Eq) fun x y H Q => ∃ a b ks, x = .ref a ∧ y = .ref b ∧ H a = some (.dK ks) ∧ H b = some (.dK []) ∧ Q (.bl (ks.length == 0)) H := by
  intro pins s σ H x y v u Q I rx ry h
  obtain ⟨a, b, ks, rfl, rfl, ea, eb, q⟩ := h
  obtain rfl : v = Value.ref a := rx
  obtain rfl : u = Value.ref b := ry
  obtain ⟨_, ya, va, ra, da⟩ := (show ObjOk X.prog X.w H s.heap a (.dK ks) from I.hok a _ ea)
  obtain ⟨_, yb, vb, rb, db⟩ := (show ObjOk X.prog X.w H s.heap b (.dK []) from I.hok b _ eb)
  have hb0 : vb.length = 0 := rb.length.symm
  refine PySem.W.keq_eq (knd := mixKind X.prog X.w) (r := true) ya yb da db hu (fun hl => ?_) (fin_bl I q (by rw [← ra.length, hb0]; simp))
  have : ks = [] := List.length_eq_zero_iff.mp (by rw [ra.length, hl, hb0])
  subst this
  exact hits_all rb ra (fun _ z => nomatch z)
theorem cmp_eqD0 {i j : Nat} (hi : M[i]? = some (p, .dk ds)) (hj : M[j]? = some (q, .dk [])) (hu : X.A.units + 64 < cLine) : Cmp X .Eq M (.ptr p) (.ptr q) (ds.length == 0) := ⟨_, op_eq_d0 (by omega), fun Hi H v w ok rv rw_ Q qq => by
  cases rv
  cases rw_
  obtain ⟨_, o, ho, kvs, rfl, rk⟩ := ok.get hi
  obtain ⟨_, o2, ho2, kvs2, rfl, rk2⟩ := ok.get hj
  cases rk2
  have e : (ds.length == 0) = (kvs.length == 0) := by rw [rk.length]
  exact ⟨p, q, kvs, rfl, rfl, ho, ho2, qq _ _ _ Hi H ⟨by rw [e], rfl⟩ (Same.refl _) ok (.bl _)⟩⟩
end
section
variable {P : Program} {w : World} {K : PySem.W.Frag} {mg : Str → Option Value} {base : Heap}
theorem ub_laid {fs : List Addr} {H H' : Hp} {h h2 B h' : Heap} {p : Addr} {o : HO} (kp : ∀ b x, h.get? b = some x → h2.get? b = some x) (hp : h.objs.size ≤ p) (hn : H p = none) (u : UB fs (upd H p o) H' h2 B h') : UB fs H H' h B h' where
  keep := fun b x q n f => u.keep b x (kp b x q) (by rw [upd_ne (Nat.ne_of_lt (Nat.lt_of_lt_of_le (Heap.lt_size q) hp))]; exact n) f
  slot := fun b x q f => u.slot b x (kp b x q) f
  free := fun b x q n => u.free b x (kp b x q) (by rw [upd_ne (Nat.ne_of_lt (Nat.lt_of_lt_of_le (Heap.lt_size q) hp))]; exact n)
  there := fun b x q f => u.there b x (kp b x q) f
  tups := fun b xs q => u.tups b xs (by rw [upd_ne (ne_of_none q hn)]; exact q)
  frzs := fun b x xs q => u.frzs b x xs (by rw [upd_ne (ne_of_none q hn)]; exact q)
  tbls := fun b ps q => u.tbls b ps (by rw [upd_ne (ne_of_none q hn)]; exact q)
/-- def f(a, .., **d) that may raise, called with keywords that are no parameters -/
theorem fne_kwd {x qual : Str} {params : Arguments} {body : List Stmt} {sc : Scope} {kws : List (Str × V)} {f : Addr} {fd : FuncData} {N ps ks : List Str} {pd : Str} {k : Nat} {s0 : ASe} (F : FunD K x qual params body sc [] kws f fd) (S : FnScope N (ps ++ [pd]) sc) (hks : ks.Nodup) (hkl : ks.length ≤ 1000)
    (h : ∀ (kV doc pm : Value) (an : Option Addr) (cdv ct : Value) (us ws : List Value), us.length = ps.length → ws.length = ks.length → bindArgs (PySem.W.fnOf x qual params body sc .none kV doc pm an cdv ct) ⟨us, ks.zip ws⟩ =
      ((alloc ({ cls := .type "dict", data := .dict #[] } : Obj) : Sem Addr) >>= fun d => (forIn (ks.zip ws) PUnit.unit fun x _ => (nsSet d x.1 x.2 >>= fun _ => pure (ForInStep.yield PUnit.unit))) >>= fun _ => pure (ps.zip us ++ [(pd, Value.ref d)])))
    (hb : BodyE P w K mg base k f N qual sc body s0) : FnE P w K mg base (k + 1) f ks (spE K fun ds es M R PE => ds.length = ps.length ∧ ∀ p, p ∉ M.map (·.1) → s0 (ds ++ [.ptr p]) ((p, .dk (kwK (ks.zip es))) :: M) R PE) := by
  refine ⟨fun A outer s H us ws vs zs Q E hr e0 r rz hz ⟨Hi, M, ds, es, R, PE, ra, re, ok, ⟨hl, hs⟩, q, qx⟩ => ?_⟩
  obtain ⟨oc, od, dV, kV, doc, pm, an, cdv, ct, osl, rfl, lk, hcd, hD, _⟩ := F.ex
  obtain ⟨_, rfl⟩ : ([] : List V) = [] ∧ dV = .none := by
    rcases hD with h | ⟨e, _⟩
    · exact h
    · exact absurd rfl e
  have hlv : vs.length = ps.length := ra.length.symm.trans hl
  have hlu : us.length = ps.length := r.length.symm.trans hlv
  have hlw : ws.length = ks.length := rz.length.symm.trans hz
  have hn : H s.heap.objs.size = Option.none := e0.hok.fresh (Nat.le_refl _)
  have hnd : ((ks.zip ws).map (·.1)).Nodup := by
    rw [List.map_fst_zip (by omega)]
    exact hks
  refine StX.run_bnd (CX := L2.CX P w) (E := E) (G := fun vs' H2 => ∃ p, H p = none ∧ vs' = vs ++ [V.ref p] ∧ H2 = upd H p (.dK (kwK (ks.zip zs)))) lk hcd S hr.room e0 (fun A' Ex Q' hh => ?_) fun s2 H2 vs' hG hr' => ?_
  · rw [h kV doc pm an cdv ct us ws hlu hlw]
    refine kw_new (gg := fun d => ps.zip us ++ [(pd, Value.ref d)]) hnd fun h' D kp sz' => ?_
    have new : ObjOk P w (upd H s.heap.objs.size (.dK (kwK (ks.zip zs)))) h' s.heap.objs.size (.dK (kwK (ks.zip zs))) := ⟨by
      rw [List.length_map, List.length_zip]
      exact sz (by omega), beq_eq_false_iff_ne.mpr (Ne.symm (Nat.ne_of_lt (StX.env0_big e0))), _, kv_zip rz, Heap.dictOf_iff.mpr ⟨_, D, kw_isDict _ _ hnd⟩⟩
    have e1 : Env0 P w K mg base A outer { s with heap := h', toks := s.toks + (ks.zip ws).length } (upd H s.heap.objs.size (.dK (kwK (ks.zip zs)))) := by
      refine ⟨e0.frames, e0.mod, fun b x e => ⟨kp b x (e0.bs b x e).1, ?_⟩, ?_, Heap.FunFrames.of_keeps (fun b x e _ => ⟨x, kp b x e, rfl⟩) e0.funs, fun b hb => ?_, e0.hok.laid kp (Nat.le_refl _) new, e0.bare⟩
      · rw [upd_ne (Nat.ne_of_lt (Heap.lt_size (e0.bs b x e).1))]
        exact (e0.bs b x e).2
      · show base.objs.size ≤ h'.objs.size
        rw [sz']
        exact Nat.le_succ_of_le e0.bsz
      · obtain ⟨_, x, hx, _⟩ := e0.funs.mem hb
        rw [upd_ne (Nat.ne_of_lt (Heap.lt_size hx))]
        exact e0.frf b hb
    have un : Un (frs outer) [] H (upd H s.heap.objs.size (.dK (kwK (ks.zip zs)))) s.heap h' := Un.laid kp (Nat.le_refl _) hn
    have z := hh _ _ (vs ++ [V.ref s.heap.objs.size]) (us ++ [Value.ref s.heap.objs.size]) e1 un rfl (fun _ _ ⟨a, B, H', cls, d, ea, fl, hok, ub, na, os, ag, he⟩ => ⟨a, B, H', cls, d, ea, fl, hok, ub_laid kp (Nat.le_refl _) hn ub, na, os, ag, he⟩) (r.append (.cons rfl .nil)) (by rw [List.length_append, List.length_append, hlv]; rfl) ⟨_, hn, rfl, rfl⟩
    rw [List.zip_append hlu.symm] at z
    exact z
  · obtain ⟨p, hp, rfl, rfl⟩ := hG
    obtain ⟨t, pp, z⟩ := hb cdv A outer s2 _ E (hr.deeper _) (passes_of (K := fun e s'' => L2.CX P w outer (upd H p (.dK (kwK (ks.zip zs)))) s2 E e s'') (E₁ := _) rfl) (ds ++ [.ptr p]) ((p, .dk (kwK (ks.zip es))) :: M) R PE (hs p (ok.fresh hp)) (fun cls d _ H => E cls d H) (takes_of rfl rfl rfl rfl) (passes_of (K := fun e s'' => L2.CX P w outer (upd H p (.dK (kwK (ks.zip zs)))) s2 E e s'') (E₁ := _) rfl) Hi (upd H p (.dK (kwK (ks.zip zs)))) _ (ok.new hp ⟨_, rfl, repk_zip re⟩) (env_start (ra.append (.cons (.ptr p) .nil)))
      { nx := fun _ H' => Q .non H', rt := Q } ⟨fun Γ M' σ Hi' H' h1 s1 ok1 _ => h1.post q s1 ok1 .non, fun d M' v Hi' H' h1 s1 ok1 r1 => h1.post q s1 ok1 r1, fun _ _ _ _ _ z => z.elim, fun _ _ _ _ _ z => z.elim⟩
      (fun Γ C fs M' σ Hi' H' cls d h1 s1 ok1 _ r1 => h1.post qx s1 ok1 r1)
    exact ⟨t, pp, z⟩
end
end Ab
/-! Ab89: a for that may raise over what must stay (a locked dict) -/
namespace Ab
open PySem PySem.Spec PyProof.Rows L2
section
variable {X : Cx} {Γ : Gam} {M : Mem} {k : AK} {ex : XG} {pos : Pos}
theorem ys_forG {tg iter : Expr} {body : List Stmt} {n : Nat} {it : Nat → Val} {G R : Mem → Prop} (I : Nat → Gam → Mem → Prop) (hc : X.calm = true) (hi : aI X tg iter Γ M n it G R) (h0 : ∀ M1, R M1 → I 0 Γ M1)
    (hs : ∀ i Γ M, i < n → I i Γ M → aG X tg (it i) Γ M fun Γ2 M2 => ySs X body Γ2 M2 { k with nx := I (i + 1), ct := I (i + 1), bk := k.nx } ex) (hg : ∀ i Γ M, I i Γ M → G M) (hd : ∀ Γ M, I n Γ M → k.nx Γ M)
    (hf : ∀ x, foldedSetIterable iter X.env x = pure x := by intro _; rfl) : yS X (.For tg iter body [] pos) Γ M k ex := fun W tk po Hi H σ ok en D q y => by
  refine ⟨_, ps_for po hc pi_wi pg_wg pss_wb hf, hi Hi H σ ok en _ fun J M1 Hi1 H1 h1 s1 ok1 w => ?_⟩
  refine for_it w (fun i σ' H' => ∃ Γ' M' Hi', I i Γ' M' ∧ Same Hi1 Hi' ∧ Ok X.K Hi' M' H' ∧ EnvR X.K Hi' Γ' σ') ⟨Γ, M1, Hi1, h0 M1 h1, Same.refl _, ok1, en.mono s1⟩ ?_ ?_ ?_
  · rintro i σ' H' hi ⟨Γ', M', Hi', h2, s2, ok2, en2⟩
    exact ⟨Hi', M', s2, ok2, hg _ _ _ h2⟩
  · rintro i v σ' H' H'' hi ⟨Γ', M', Hi', h2, s2, ok2, en2⟩ hy
    obtain ⟨Hi3, s3, ok3, r3⟩ := hy Hi' M' s2 ok2 (hg _ _ _ h2)
    refine hs i Γ' M' hi h2 Hi3 H'' σ' v ok3 (en2.mono s3) r3 _ fun Γ4 M4 σ4 Hi4 H4 h4 s4 ok4 en4 => ?_
    have sA := (s2.trans s3).trans s4
    have sB := s1.trans sA
    exact h4 W tk po Hi4 H4 σ4 ok4 en4 _ ⟨fun Γ5 M5 σ5 Hi5 H5 h5 s5 ok5 en5 => ⟨Γ5, M5, Hi5, h5, sA.trans s5, ok5, en5⟩, (q.up sB).rt, (q.up sB).nx, fun Γ5 M5 σ5 Hi5 H5 h5 s5 ok5 en5 => ⟨Γ5, M5, Hi5, h5, sA.trans s5, ok5, en5⟩⟩ (y.up sB)
  · rintro σ' H' ⟨Γ', M', Hi', h2, s2, ok2, en2⟩
    exact q.nx Γ' M' σ' Hi' H' (hd Γ' M' h2) (s1.trans s2) ok2 en2
end
end Ab
/-! Ab91: sum and min of tuples of ints -/
namespace Ab
open PySem PySem.Spec PyProof.Rows L2
theorem aKw.mono {X : Cx} {kws : List Keyword} {Γ : Gam} {M : Mem} {P P' : List Val → Mem → Prop} (h : aKw X kws Γ M P) (f : ∀ d M', P d M' → P' d M') : aKw X kws Γ M P' :=
  fun Hi H σ ok en Q q => h Hi H σ ok en Q fun d M' v Hi' H' hp => q d M' v Hi' H' (f _ _ hp)
end Ab
namespace K54
open PySem L2 Ab Sm Tx
/-! ### keyword_index -/
/-- a keyword with its letter (d: true) and its number -/
structure KwI (x : Str) (b : Bool) (n : Nat) : Prop where
  f : cutS x none (some 1) = (if b then "d" else "w")
  r : cutS x (some 1) none = iS n
  n12 : n < 12
  c0 : ∃ cc, atI x.cps.toList 0 = some cc ∧ (⟨#[cc]⟩ : Str) = (if b then "d" else "w")
  len : x.length ≤ 100
  w0 : b = false → n = 0 → x = "w0"
/-- a keyword that is refused -/
structure KwN (x : Str) : Prop where
  no : (cutS x none (some 1) ≠ "d" ∧ cutS x none (some 1) ≠ "w") ∨ ∀ n < 12, cutS x (some 1) none ≠ iS (n : Nat)
  len : x.length ≤ 100
  o1 : PyData.strOk (cutS x none (some 1)) = true
  o2 : PyData.strOk (cutS x (some 1) none) = true
theorem int12 : ∀ n < 12, PySem.intText? (iS (n : Nat)) = some (n : Int) := by decide +kernel
theorem ok12 : ∀ n < 12, PyData.strOk (iS (n : Nat)) = true ∧ (iS (n : Nat)).length ≤ 2 := by decide +kernel
def dgV : List Val := (List.range 12).map fun (n : Nat) => .str (iS n)
theorem dgV_nb : nbVs dgV := ⟨(ok12 0 (by decide)).1, (ok12 1 (by decide)).1, (ok12 2 (by decide)).1, (ok12 3 (by decide)).1, (ok12 4 (by decide)).1, (ok12 5 (by decide)).1, (ok12 6 (by decide)).1, (ok12 7 (by decide)).1, (ok12 8 (by decide)).1, (ok12 9 (by decide)).1, (ok12 10 (by decide)).1, (ok12 11 (by decide)).1, trivial⟩
theorem dw_nb : nbVs [Val.str "d", Val.str "w"] := ⟨(by decide +kernel : PyData.strOk "d" = true), (by decide +kernel : PyData.strOk "w" = true), trivial⟩
theorem dgV_mem {x : Str} : Val.str x ∈ dgV ↔ ∃ n < 12, x = iS (n : Nat) := by
  unfold dgV
  rw [List.mem_map]
  constructor
  · rintro ⟨n, hn, e⟩
    injection e with e
    exact ⟨n, List.mem_range.mp hn, e.symm⟩
  · rintro ⟨n, hn, rfl⟩
    exact ⟨n, List.mem_range.mpr hn, rfl⟩
theorem dw_mem {x : Str} : Val.str x ∈ [Val.str "d", Val.str "w"] ↔ x = "d" ∨ x = "w" := by
  constructor
  · intro h
    rcases List.mem_cons.mp h with h | h
    · injection h with h
      exact .inl h
    · injection List.mem_singleton.mp h with h
      exact .inr h
  · rintro (rfl | rfl)
    · exact List.mem_cons_self
    · exact List.mem_cons_of_mem _ List.mem_cons_self
section
variable {P : Program} {w : World} {K : PySem.W.Frag} {mg : Str → Option Value} {base : Heap} {k : Nat} {f C CN CP : Addr}
def aKix : ASp := fun ds M R => ∃ x : Str, ds = [.str x] ∧ ((∃ b n, KwI x b n ∧ R (.int (n : Nat)) M) ∨ (KwN x ∧ R .non M))
theorem b_keyword_index (B : Bt mg) (hs : mg "str" = none) {t1 t2 t3 t4 : Tok} (L : Lm mg t1 t2 t3 t4) : BodyOk P w K mg base k f n_keyword_index "keyword_index" (defScope s_keyword_index) (defBody s_keyword_index) aKix := by
  rintro cdv A outer0 s0 H E hr ds M R ⟨x, rfl, h⟩
  have hu := hr.u65
  have hlen : x.length ≤ 100 := by
    rcases h with ⟨b, n, h, _⟩ | ⟨h, _⟩
    · exact h.len
    · exact h.len
  have o1 : PyData.strOk (cutS x none (some 1)) = true := by
    rcases h with ⟨b, n, h, _⟩ | ⟨h, _⟩
    · rw [h.f]
      cases b <;> decide +kernel
    · exact h.o1
  have o2 : PyData.strOk (cutS x (some 1) none) = true := by
    rcases h with ⟨b, n, h, _⟩ | ⟨h, _⟩
    · rw [h.r]
      exact (ok12 n h.n12).1
    · exact h.o2
  refine as_cons (as_setv 1 q_keyword_index.nd (av_sliceS (v_ 0) (ao_some i_) ao_none (sz (by omega))) ?_)
  refine as_cons (as_ifp (tp_w (wp_or (tp_cmp (av_sliceS (v_ 0) ao_none (ao_some i_) (sz (by omega))) (av_tup (avs_cons s_ (avs_cons s_ avs_nil)) szb) (cp_notInT (.self _) (.self _) (show nbV (.str _) from o1) dw_nb (Nat.le_of_ble_eq_true rfl) (Nat.le_of_ble_eq_true rfl) hu)) fun h1 => wp_or1 (tp_cmp (v_ 1) (d2 := .lst dgV) ?_ (cp_notInL (.self _) (.self _) (show nbV (.str _) from o2) dgV_nb (Nat.le_of_ble_eq_true rfl) (Nat.le_of_ble_eq_true rfl) hu)))) (fun c => ?_) (fun c => as_nil ?_))
  · refine ae_lcP [("index", 2)] (fun j => .str (iS (j : Nat))) rfl q_keyword_index.nd (blkOk_by (N := n_keyword_index) (sc := defScope s_keyword_index) (by decide +kernel)) (ai_range1 B.range ((av_gint L.f).val ⟨12, rfl, rfl, by decide, by decide, rfl⟩)) ?_ (by decide) ⟨rfl, rfl⟩
    intro i acc D hi s1 H1 C1 cl fp
    have hi : i < 12 := by simpa using hi
    simp only [Int.zero_add]
    refine agw_name 2 q_keyword_index.nd fun s1 H1 C1 cl fp => ?_
    exact (av_strI hs (v_ 2) (log_lt (Nat.lt_of_lt_of_le (show ((i : Int)).natAbs < 2 ^ 20 by omega) (Nat.pow_le_pow_right (by decide) (by decide))))).val ⟨rfl, rfl⟩
  · rcases h with ⟨b, n, h, hp⟩ | ⟨h, hp⟩
    · exfalso
      rcases c with c | c
      · refine c (dw_mem.mpr ?_)
        rw [h.f]
        cases b
        · exact .inr rfl
        · exact .inl rfl
      · exact c (dgV_mem.mpr ⟨n, h.n12, h.r⟩)
    · exact as_one (as_retv n_ (.ok hp))
  · rcases h with ⟨b, n, h, hp⟩ | ⟨h, hp⟩
    · refine as_one (as_retv (av_intS (n := (n : Int)) B.int (v_ 1) ?_ ?_) (.ok hp))
      · rw [h.r]
        exact int12 n h.n12
      · rw [h.r]
        have := (ok12 n h.n12).2
        omega
    · exfalso
      rcases h.no with ⟨z1, z2⟩ | z
      · refine c (.inl fun m => ?_)
        rcases dw_mem.mp m with m | m
        · exact z1 m
        · exact z2 m
      · refine c (.inr fun m => ?_)
        obtain ⟨n, hn, e⟩ := dgV_mem.mp m
        exact z n hn e
abbrev GKix (P : Program) (w : World) (K : PySem.W.Frag) (mg : Str → Option Value) (base : Heap) : Prop := Gd P w K mg base 1 "keyword_index" [] fun ds _ => aKix ds
/-! ### replaced_items -/
def aRit : ASp := fun ds M R => ∃ (s : Stm) (p : Addr) (i : Nat) (cs : List (Nat × Int)), ds = [stV s, .ptr p] ∧ M[i]? = some (p, .dk (dI cs)) ∧ s.2 ≠ [] ∧ s.1.length ≤ 12 ∧ s.2.length ≤ 6 ∧ (∀ q ∈ cs, q.1 < 12) ∧ cs.length ≤ 100 ∧
  ∀ s' : Stm, s'.2 ≠ [] → s'.1.length ≤ 12 → s'.2.length ≤ 6 → (∀ i, item s' i = (cGet cs i).getD (item s i)) → R (stV s') M
theorem dI_keys (cs : List (Nat × Int)) : (dI cs).map (fun kv => kD kv.1) = (cs.map fun q => (q.1 : Int)).map Val.int := by
  unfold dI
  rw [List.map_map, List.map_map]
  rfl
theorem b_replaced_items (B : Bt mg) (GW : GWf P w K mg base) : BodyOk P w K mg base 2 f n_replaced_items "replaced_items" (defScope s_replaced_items) (defBody s_replaced_items) aRit := by
  rintro cdv A outer0 s0 H E hr ds M R ⟨s, p, i, cs, rfl, hi, hn, h1, h2, hk, hl, hp⟩
  have hu := hr.u64
  by_cases hc : cs = []
  · subst hc
    refine as_cons (as_if (at_cmpM ((v_ 1).val (ae_dict0 fun q => ⟨_, cmp_eqD0 (i := i + 1) (j := 0) hi rfl hu, fun _ => ?_, fun h => absurd h (by decide)⟩))))
    exact as_one (as_retv (v_ 0) (.drop (.ok (hp s hn h1 h2 fun i => rfl))))
  · have hlen : 0 < cs.length := List.length_pos_iff.mpr hc
    refine as_cons (as_if (at_cmpM ((v_ 1).val (ae_dict0 fun q => ⟨_, cmp_eqD0 (i := i + 1) (j := 0) hi rfl hu, fun h => ?_, fun _ => as_nil ?_⟩))))
    · exact absurd h (by unfold dI; rw [List.length_map]; simp; exact hc)
    have hd : DkAt ((q, .dk []) :: M) p (dI cs) := .dk (i + 1) hi
    refine as_cons (as_asg (ae_g GW hr (by decide) (aa_cons ((v_ 0).val (aa_cons (ae_bin (ae_maxL B.max rfl (ae_frz (ae_listD B.list ((v_ 1).val ⟨p, dI cs, rfl, hd, fun l => ⟨_, _, _, rfl, rfl, cs.map fun q => (q.1 : Int), by rw [dI_keys]; exact .self _, by rw [List.length_map]; exact hlen, fun m hm hmax => i_.val (bv_add ?_)⟩⟩))))))))))
    obtain ⟨qm, hqm, rfl⟩ := List.mem_map.mp hm
    have hq12 := hk qm hqm
    have hall : ∀ q ∈ cs, q.1 < qm.1 + 1 := fun q hq => by
      have := hmax _ (List.mem_map_of_mem (f := fun q : Nat × Int => (q.1 : Int)) hq)
      have : (q.1 : Int) ≤ (qm.1 : Int) := this
      omega
    refine aa_nil (ak_nil ⟨rfl, s, qm.1 + 1, rfl, hn, by omega, by omega, by omega, ?_⟩)
    have hmx : max (qm.1 + 1) s.1.length ≤ 12 := by omega
    have hms : s.1.length ≤ max (qm.1 + 1) s.1.length := by omega
    have hms2 : qm.1 + 1 ≤ max (qm.1 + 1) s.1.length := by omega
    generalize max (qm.1 + 1) s.1.length = m at *
    have hw := swo_ne hn m
    have hwl : (wf s m).1.length = m := by
      show ((List.range m).map _).length = m
      simp
    have hwa : ((wf s m).1.map Val.int).length = m := by rw [List.length_map, hwl]
    refine ag_tup rfl (ags_cons (ag_name 2 q_replaced_items.nd (ags_cons (ag_name 3 q_replaced_items.nd (ags_nil ?_)))))
    have hr1 := hp (rps s cs m) hw.1 (by show ((List.range m).map _).length ≤ 12; simp; exact hmx) (by show (swo s m).2.length ≤ 6; rw [hw.2.1]; exact h2) (rps_item hn hms fun q hq => by have := hall q hq; omega)
    refine as_one (as_ret (ae_tup (aa_cons (ae_tuple B.tuple (ae_lcP [("index", 4), ("item", 5)] (fun j => .int ((cGet cs j).getD (item s j))) rfl q_replaced_items.nd (blkOk_by (N := n_replaced_items) (sc := defScope s_replaced_items) (by decide +kernel)) (ai_enumT B.enumerate ((v_ 2).val ⟨rfl, rfl⟩)) ?_ ?_ ⟨_, .l (.self _), ?_⟩)))))
    · intro j acc D hj s1 H1 C1 cl fp
      rw [hwa] at hj
      have ej : ((wf s m).1.map Val.int).getD j .non = .int (item s j) := by
        rw [List.getD_eq_getElem?_getD, List.getElem?_map]
        show (Option.map Val.int ((List.range m).map (item s))[j]?).getD .non = _
        rw [List.getElem?_map, List.getElem?_range hj]
        rfl
      rw [ej]
      refine agw_tup rfl (agws_cons (agw_name 4 q_replaced_items.nd (agws_cons (agw_name 5 q_replaced_items.nd (agws_nil fun s1 H1 C1 cl fp => ?_)))))
      refine (av_dgetD (kk := kN j) (Nat.lt_of_le_of_lt (Nat.add_le_add_left (show 1 ≤ 64 by decide) _) hu) (v_ 1) (v_ 4) (v_ 5) (.dk (i + 2) hi)).val ⟨?_, rfl⟩
      rw [dI_get]
      cases cGet cs j <;> rfl
    · rw [hwa]
      omega
    · refine aa_cons ((v_ 3).val (aa_nil ⟨szb, .drop (.ok ?_)⟩))
      have e : (List.range ((wf s m).1.map Val.int).length).map (fun j => Val.int ((cGet cs j).getD (item s j))) = (rps s cs m).1.map Val.int := by
        rw [hwa]
        show _ = ((List.range m).map _).map Val.int
        rw [List.map_map]
        rfl
      rw [e]
      exact hr1
abbrev GRit (P : Program) (w : World) (K : PySem.W.Frag) (mg : Str → Option Value) (base : Heap) : Prop := Gd P w K mg base 3 "replaced_items" [] fun ds _ => aRit ds
/-! ### check_integer of three refuses -/
abbrev GChkX3 (P : Program) (w : World) (K : PySem.W.Frag) (mg : Str → Option Value) (base : Heap) (CN : Addr) : Prop := GdE P w K mg base 3 "check_integer" [] fun ds _ => aChkX K CN ds
/-! ### Schedule.replaced -/
/-- a change: the keyword, its letter, its number, the new item -/
structure Chg where
  x : Str
  b : Bool
  n : Nat
  v : Int
structure Chg.Ok (c : Chg) : Prop where
  kw : KwI c.x c.b c.n
  v0 : (if c.x = "w0" then 1 else 0) ≤ c.v
  v1 : c.v ≤ 1000000
/-- the dict of one letter -/
def csB (b : Bool) (cs : List Chg) : List (Nat × Int) := cs.foldl (fun acc c => if c.b = b then cPut acc c.n c.v else acc) []
theorem csB_app {b : Bool} {cs : List Chg} {c : Chg} : csB b (cs ++ [c]) = if c.b = b then cPut (csB b cs) c.n c.v else csB b cs := by
  unfold csB
  rw [List.foldl_append]
  rfl
theorem csB_aux {b : Bool} : ∀ (cs : List Chg) (acc : List (Nat × Int)), (∀ c ∈ cs, c.Ok) → (∀ q ∈ acc, q.1 < 12 ∧ 0 ≤ q.2 ∧ q.2 ≤ 1000000) →
    (∀ q ∈ cs.foldl (fun acc c => if c.b = b then cPut acc c.n c.v else acc) acc, q.1 < 12 ∧ 0 ≤ q.2 ∧ q.2 ≤ 1000000) ∧ (cs.foldl (fun acc c => if c.b = b then cPut acc c.n c.v else acc) acc).length ≤ acc.length + cs.length
  | [], acc, _, ha => ⟨ha, Nat.le_refl _⟩
  | c :: cs, acc, h, ha => by
    have hc := h c List.mem_cons_self
    have hv : 0 ≤ c.v := by
      have := hc.v0
      split at this <;> omega
    rw [List.foldl_cons, List.length_cons]
    by_cases z : c.b = b
    · rw [if_pos z]
      have ha2 : ∀ q ∈ cPut acc c.n c.v, q.1 < 12 ∧ 0 ≤ q.2 ∧ q.2 ≤ 1000000 := fun q hq => by
        rcases cPut_mem hq with z | z
        · rw [z]
          exact ⟨hc.kw.n12, hv, hc.v1⟩
        · exact ha q z
      obtain ⟨i1, i2⟩ := csB_aux (b := b) cs (cPut acc c.n c.v) (fun c hc => h c (List.mem_cons_of_mem _ hc)) ha2
      have := cPut_len (cs := acc) (n := c.n) (v := c.v)
      exact ⟨i1, by omega⟩
    · rw [if_neg z]
      obtain ⟨i1, i2⟩ := csB_aux (b := b) cs acc (fun c hc => h c (List.mem_cons_of_mem _ hc)) ha
      exact ⟨i1, by omega⟩
theorem csB_mem {b : Bool} (cs : List Chg) (h : ∀ c ∈ cs, c.Ok) : (∀ q ∈ csB b cs, q.1 < 12 ∧ 0 ≤ q.2 ∧ q.2 ≤ 1000000) ∧ (csB b cs).length ≤ cs.length := by
  obtain ⟨h1, h2⟩ := csB_aux (b := b) cs [] h (fun _ z => nomatch z)
  exact ⟨h1, by simpa [csB] using h2⟩
theorem csB_pos_aux : ∀ (cs : List Chg) (acc : List (Nat × Int)), (∀ c ∈ cs, c.Ok) → (∀ q ∈ acc, q.1 = 0 → 1 ≤ q.2) →
    ∀ q ∈ cs.foldl (fun acc c => if c.b = false then cPut acc c.n c.v else acc) acc, q.1 = 0 → 1 ≤ q.2
  | [], acc, _, ha => ha
  | c :: cs, acc, h, ha => by
    have hc := h c List.mem_cons_self
    rw [List.foldl_cons]
    by_cases z : c.b = false
    · rw [if_pos z]
      refine csB_pos_aux cs _ (fun c hc => h c (List.mem_cons_of_mem _ hc)) fun q hq e => ?_
      rcases cPut_mem hq with y | y
      · subst y
        have := hc.v0
        rw [if_pos (hc.kw.w0 z e)] at this
        exact this
      · exact ha q y e
    · rw [if_neg z]
      exact csB_pos_aux cs acc (fun c hc => h c (List.mem_cons_of_mem _ hc)) ha
theorem csB_pos (cs : List Chg) (h : ∀ c ∈ cs, c.Ok) : ∀ q ∈ csB false cs, q.1 = 0 → 1 ≤ q.2 := csB_pos_aux cs [] h fun _ z => nomatch z
def chD (cs : List Chg) : List (Str × Val) := cs.map fun c => (c.x, .int c.v)
/-- what comes behind the good changes -/
def aRpl (K : PySem.W.Frag) (C CN CP : Addr) : ASe := fun ds M R PE => ∃ (S : Sc) (p : Addr) (ch : List (Str × Val)) (M0 : Mem), ds = [scV C S, .ptr p] ∧ M = (p, .dk (kwK ch)) :: M0 ∧ GoodS S ∧ ch.length ≤ 100 ∧
  ((∃ (j : Nat) (x : Str) (d : Val), ch[j]? = some (x, d) ∧ KwN x ∧ (∀ i y e, i < j → ch[i]? = some (y, e) → ∃ b n, KwI y b n) ∧ PE CP [("part", .str x)] M0) ∨
   (∃ (cs : List Chg) (x : Str) (b : Bool) (n : Nat) (d : Val) (r : List (Str × Val)), ch = chD cs ++ (x, d) :: r ∧ (∀ c ∈ cs, c.Ok) ∧ KwI x b n ∧ (∀ q ∈ r, ∃ b n, KwI q.1 b n) ∧ (∀ M, Bad K M d (if x = "w0" then 1 else 0) (some 1000000)) ∧ PE CN [("number", d)] M0) ∨
   ∃ cs : List Chg, ch = chD cs ∧ (∀ c ∈ cs, c.Ok) ∧ ∀ S' : Sc, GoodS S' → S'.a = S.a → (∀ i, item S'.sp i = (cGet (csB true cs) i).getD (item S.sp i)) → (∀ i, item S'.lv i = (cGet (csB false cs) i).getD (item S.lv i)) → R (scV C S') M0)
theorem kwK_at {ch : List (Str × Val)} {i : Nat} {x : Str} {d : Val} (h : ch[i]? = some (x, d)) : ((kwK ch).map fun kv => kD kv.1).getD i .non = .str x ∧ ((kwK ch).map fun kv => Val.tup [kD kv.1, kv.2]).getD i .non = .tup [.str x, d] := by
  unfold kwK
  rw [List.map_map, List.map_map, List.getD_eq_getElem?_getD, List.getD_eq_getElem?_getD, List.getElem?_map, List.getElem?_map, h]
  exact ⟨rfl, rfl⟩
theorem b_replaced (T : Rs K mg C) {t1 t2 t3 t4 : Tok} (L : Lm mg t1 t2 t3 t4) (GK : GKix P w K mg base) (GB3 : GChk3 P w K mg base) (GX3 : GChkX3 P w K mg base CN) (GR : GRit P w K mg base) (GM : GMd P w K mg base C) (XP : XMk P w K mg base "InvalidSchedule" CP 1 (g1 "part")) : BodyE P w K mg base 6 f n_Schedule_replaced "Schedule.replaced" (defScope c_Schedule_replaced) (defBody c_Schedule_replaced) (aRpl K C CN CP) := by
  rintro cdv A outer0 s0 H E hr po ds M R PE ⟨S, p, ch, M0, rfl, rfl, hS, hl, h⟩
  have hu := hr.u64
  have hkl : (kwK ch).length = ch.length := List.length_map ..
  refine ys_cons (ys_of (as_par 2 3 q_Schedule_replaced.nd rfl (by decide) (aa_cons (ae_dict0 fun q1 => aa_cons (ae_dict0 fun q2 => aa_nil ⟨_, _, rfl, ?_⟩)))))
  obtain ⟨j, hj0, hjg, hj⟩ : ∃ j, j ≤ ch.length ∧ (∀ i y e, i < j → ch[i]? = some (y, e) → ∃ b n, KwI y b n) ∧ ((∃ x d, ch[j]? = some (x, d) ∧ KwN x ∧ PE CP [("part", .str x)] M0) ∨
      (j = ch.length ∧ ∃ (cs : List Chg) (r0 : List (Str × Val)), ch = chD cs ++ r0 ∧ (∀ c ∈ cs, c.Ok) ∧ ((∃ (x : Str) (b : Bool) (n : Nat) (d : Val) (r : List (Str × Val)), r0 = (x, d) :: r ∧ KwI x b n ∧ (∀ M, Bad K M d (if x = "w0" then 1 else 0) (some 1000000)) ∧ PE CN [("number", d)] M0) ∨
        (r0 = [] ∧ ∀ S' : Sc, GoodS S' → S'.a = S.a → (∀ i, item S'.sp i = (cGet (csB true cs) i).getD (item S.sp i)) → (∀ i, item S'.lv i = (cGet (csB false cs) i).getD (item S.lv i)) → R (scV C S') M0)))) := by
    rcases h with ⟨j, x, d, h1, h2, h3, h4⟩ | ⟨cs, x, b, n, d, r, rfl, h1, h2, h3, h4, h5⟩ | ⟨cs, rfl, h1, h2⟩
    · exact ⟨j, Nat.le_of_lt (List.getElem?_eq_some_iff.mp h1).1, h3, .inl ⟨x, d, h1, h2, h4⟩⟩
    · refine ⟨_, Nat.le_refl _, fun i y e _ hi => ?_, .inr ⟨rfl, cs, _, rfl, h1, .inl ⟨x, b, n, d, r, rfl, h2, h4, h5⟩⟩⟩
      have hm := List.mem_of_getElem? hi
      rcases List.mem_append.mp hm with z | z
      · obtain ⟨c, hc, e⟩ := List.mem_map.mp z
        cases e
        exact ⟨_, _, (h1 c hc).kw⟩
      · rcases List.mem_cons.mp z with z | z
        · cases z
          exact ⟨_, _, h2⟩
        · exact h3 _ z
    · refine ⟨_, Nat.le_refl _, fun i y e _ hi => ?_, .inr ⟨rfl, cs, [], (List.append_nil _).symm, h1, .inr ⟨rfl, h2⟩⟩⟩
      obtain ⟨c, hc, e⟩ := List.mem_map.mp (List.mem_of_getElem? hi)
      cases e
      exact ⟨_, _, (h1 c hc).kw⟩
  clear h
  refine ys_cons (ys_lock (n := 2) rfl fun od kvs => ys_forG (G := Lk p od kvs (kwK ch)) (R := fun M' => M' = (q2, .dk []) :: (q1, .dk []) :: (p, .b (.fz od kvs (kwK ch))) :: M0) (fun i Γ M' => i ≤ j ∧ M' = (q2, .dk []) :: (q1, .dk []) :: (p, .b (.fz od kvs (kwK ch))) :: M0 ∧ ∃ o, Γ = [some (scV C S), some (.ptr p), some (.ptr q1), some (.ptr q2), o, none]) rfl (ai_keysZ ((v_ 1).val ⟨rfl, ⟨2, rfl⟩, rfl⟩)) (fun M1 e => ⟨Nat.zero_le _, e, none, rfl⟩) ?_ (fun i Γ M' ⟨_, e, _⟩ => by subst e; exact ⟨2, rfl⟩) ?_)
  · rintro i Γ M' hi ⟨hij, rfl, o, rfl⟩
    rw [hkl] at hi
    obtain ⟨⟨y, e⟩, hye⟩ : ∃ q, ch[i]? = some q := ⟨_, List.getElem?_eq_getElem hi⟩
    rw [(kwK_at hye).1]
    refine ag_name 4 q_Schedule_replaced.nd ?_
    rcases Nat.lt_or_ge i j with z | z
    · obtain ⟨b, n, hk⟩ := hjg i y e z hye
      exact ys_one (ys_if (at_cmpM (ae_g GK hr (by decide) (aa_cons ((v_ 4).val (aa_nil (ak_nil ⟨rfl, y, rfl, .inl ⟨b, n, hk, n_.val ⟨false, cmp_isN, nft, fun _ => ys_nil ⟨z, rfl, _, rfl⟩⟩⟩⟩)))))))
    · obtain rfl : i = j := by omega
      rcases hj with ⟨x, d, h1, h2, h3⟩ | ⟨h1, _⟩
      · rw [hye] at h1
        cases h1
        refine ys_one (ys_if (at_cmpM (ae_g GK hr (by decide) (aa_cons ((v_ 4).val (aa_nil (ak_nil ⟨rfl, y, rfl, .inr ⟨h2, n_.val ⟨true, cmp_isN, fun _ => ?_, ntf⟩⟩⟩)))))))
        exact ys_one (ys_raise XP hr (by decide) rfl (aa_cons ((v_ 4).val (aa_nil ⟨rfl, .drop (.drop (.drop (.ok h3)))⟩))))
      · omega
  rintro Γ M' ⟨hn, rfl, o, rfl⟩
  rw [hkl] at hn
  refine ⟨2, rfl, ?_⟩
  rcases hj with ⟨x, d, h1, _⟩ | ⟨_, cs, r0, rfl, hc, hj⟩
  · have := (List.getElem?_eq_some_iff.mp h1).1
    omega
  have hcl : (chD cs).length = cs.length := List.length_map ..
  have hcn : cs.length ≤ 100 := by rw [List.length_append, hcl] at hl; omega
  refine ys_cons (ys_lock (n := 2) rfl fun od kvs => ys_forG (G := Lk p od kvs (kwK (chD cs ++ r0))) (R := fun M' => M' = (q2, .dk []) :: (q1, .dk []) :: (p, .b (.fz od kvs (kwK (chD cs ++ r0)))) :: M0) (fun i Γ M' => i ≤ cs.length ∧ M' = (q2, .dk (dI (csB false (cs.take i)))) :: (q1, .dk (dI (csB true (cs.take i)))) :: (p, .b (.fz od kvs (kwK (chD cs ++ r0)))) :: M0 ∧ ∃ o o2, Γ = [some (scV C S), some (.ptr p), some (.ptr q1), some (.ptr q2), o, o2]) rfl (ai_itemsZ ((v_ 1).val ⟨rfl, ⟨2, rfl⟩, rfl⟩)) (fun M1 e => ⟨Nat.zero_le _, e, _, _, rfl⟩) ?_ (fun i Γ M' ⟨_, e, _⟩ => by subst e; exact ⟨2, rfl⟩) ?_)
  · rintro i Γ M' hi ⟨hij, rfl, o, o2, rfl⟩
    rw [hkl] at hi
    rcases Nat.lt_or_ge i cs.length with z | z
    · have hye : (chD cs ++ r0)[i]? = some (cs[i].x, .int cs[i].v) := by
        rw [List.getElem?_append_left (by rw [hcl]; exact z)]
        unfold chD
        rw [List.getElem?_map, List.getElem?_eq_getElem z]
        rfl
      rw [(kwK_at hye).2]
      have hck := hc _ (List.getElem_mem z)
      have ht : cs.take (i + 1) = cs.take i ++ [cs[i]] := (List.take_append_getElem z).symm
      obtain ⟨m1, m2⟩ := csB_mem (b := true) (cs.take i) fun c h => hc c (List.mem_of_mem_take h)
      obtain ⟨n1, n2⟩ := csB_mem (b := false) (cs.take i) fun c h => hc c (List.mem_of_mem_take h)
      have hti : (cs.take i).length ≤ 100 := by rw [List.length_take]; omega
      generalize cs[i] = c at *
      have hkw := hck.kw
      obtain ⟨cc, hat, hcc⟩ := hkw.c0
      refine ag_tup rfl (ags_cons (ag_name 4 q_Schedule_replaced.nd (ags_cons (ag_name 5 q_Schedule_replaced.nd (ags_nil ?_)))))
      refine ys_cons (ys_of (as_expr (ae_g GB3 hr (by decide) (aa_cons ((v_ 5).val (aa_cons ((av_ifI (tp_cmp (v_ 4) s_ cp_eqS) (fun _ => i_) fun _ => i_).val (aa_cons ((av_gint L.b).val (aa_nil (ak_nil ⟨rfl, c.v, _, 1000000, rfl, hck.v0, hck.v1, ?_⟩)))))))))))
      refine ys_one (ys_ifp (tp_cmp (av_ixS (v_ 4) i_ (sz (by have := hkw.len; omega)) hat) s_ cp_eqS) (fun h => ?_) (fun h => ?_))
      · have hb : c.b = true := by
          cases e : c.b with
          | true => rfl
          | false =>
            rw [e] at hcc
            rw [hcc] at h
            exact absurd h (by decide +kernel)
        refine ys_one (ys_of (as_dputK (n := 1) (kk := kN c.n) (Nat.lt_of_le_of_lt (Nat.add_le_add_left (show 1 ≤ 64 by decide) _) hu) ((v_ 5).val ⟨v_ 2, ae_g GK hr (by decide) (aa_cons ((v_ 4).val (aa_nil (ak_nil ⟨rfl, c.x, rfl, .inl ⟨c.b, c.n, hkw, rfl, rfl⟩⟩)))), _, rfl, szl (by unfold dI; rw [List.length_map]; omega), ?_⟩)))
        refine ⟨z, ?_, _, _, rfl⟩
        rw [ht, csB_app, csB_app, hb, if_pos rfl, if_neg (by decide), ← dI_put]
        rfl
      · have hb : c.b = false := by
          cases e : c.b with
          | false => rfl
          | true =>
            rw [e] at hcc
            exact absurd hcc h
        refine ys_one (ys_of (as_dputK (n := 0) (kk := kN c.n) (Nat.lt_of_le_of_lt (Nat.add_le_add_left (show 1 ≤ 64 by decide) _) hu) ((v_ 5).val ⟨v_ 3, ae_g GK hr (by decide) (aa_cons ((v_ 4).val (aa_nil (ak_nil ⟨rfl, c.x, rfl, .inl ⟨c.b, c.n, hkw, rfl, rfl⟩⟩)))), _, rfl, szl (by unfold dI; rw [List.length_map]; omega), ?_⟩)))
        refine ⟨z, ?_, _, _, rfl⟩
        rw [ht, csB_app, csB_app, hb, if_pos rfl, if_neg (by decide), ← dI_put]
        rfl
    · obtain rfl : i = cs.length := by omega
      rcases hj with ⟨x, b, n, d, r, rfl, hkw, hbad, hpe⟩ | ⟨rfl, _⟩
      · have hye : (chD cs ++ (x, d) :: r)[cs.length]? = some (x, d) := by
          rw [List.getElem?_append_right (by rw [hcl]; exact Nat.le_refl _), hcl, Nat.sub_self]
          rfl
        rw [(kwK_at hye).2]
        refine ag_tup rfl (ags_cons (ag_name 4 q_Schedule_replaced.nd (ags_cons (ag_name 5 q_Schedule_replaced.nd (ags_nil ?_)))))
        exact ys_cons (ys_expr (ye_g GX3 hr (by decide) (aa_cons ((v_ 5).val (aa_cons ((av_ifI (tp_cmp (v_ 4) s_ cp_eqS) (fun _ => i_) fun _ => i_).val (aa_cons ((av_gint L.b).val (aa_nil (ak_nil ⟨rfl, d, _, some 1000000, rfl, hbad _, .drop (.drop (.drop (.ok hpe)))⟩))))))))))
      · rw [List.append_nil, hcl] at hi
        omega
  rintro Γ M' ⟨hn2, rfl, o, o2, rfl⟩
  rw [hkl, List.length_append, hcl] at hn2
  rcases hj with ⟨x, b, n, d, r, rfl, _⟩ | ⟨rfl, hp⟩
  · exfalso
    rw [List.length_cons] at hn2
    omega
  refine ⟨2, rfl, ?_⟩
  rw [hkl, List.append_nil, hcl, List.take_length]
  obtain ⟨m1, m2⟩ := csB_mem (b := true) cs hc
  obtain ⟨n1, n2⟩ := csB_mem (b := false) cs hc
  have key : ∀ {s s' : Stm} {g : List (Nat × Int)}, Lim s → (∀ q ∈ g, q.1 < 12 ∧ 0 ≤ q.2 ∧ q.2 ≤ 1000000) → s'.2 ≠ [] → (∀ i, item s' i = (cGet g i).getD (item s i)) → (∀ v ∈ s'.1, okI v) ∧ ∀ v ∈ s'.2, okI v := fun {s s' g} hs hg hn hi => item_all hn fun i => by
    rw [hi]
    cases e : cGet g i with
    | none => exact hs.item i
    | some v => exact (hg _ (cGet_mem e)).2
  refine ys_cons (ys_of (as_par 2 3 q_Schedule_replaced.nd rfl (by decide) (aa_cons (ae_g GR hr (by decide) (aa_cons ((av_s T (v_ 0)).val (aa_cons ((v_ 2).val (aa_nil (ak_nil ⟨rfl, S.sp, q1, 1, csB true cs, rfl, rfl, hS.ls.ne, hS.ls.l1, hS.ls.l2, fun q hq => (m1 q hq).1, by omega, fun s' sn s1 s2 si => aa_cons (ae_g GR hr (by decide) (aa_cons ((av_l T (v_ 0)).val (aa_cons ((v_ 3).val (aa_nil (ak_nil ⟨rfl, S.lv, q2, 0, csB false cs, rfl, rfl, hS.ll.ne, hS.ll.l1, hS.ll.l2, fun q hq => (n1 q hq).1, by omega, fun t' tn t1' t2' ti => aa_nil ⟨_, _, rfl, ?_⟩⟩)))))))⟩))))))))))
  obtain ⟨ks1, ks2⟩ := key hS.ls m1 sn si
  obtain ⟨kl1, kl2⟩ := key hS.ll n1 tn ti
  have Ls := lim_nf sn s1 s2 ks1 ks2
  have Ll := lim_nf tn t1' t2' kl1 kl2
  have h0 : item t' 0 ≠ 0 := by
    rw [ti]
    cases e : cGet (csB false cs) 0 with
    | none => exact hS.lf
    | some v =>
      have := csB_pos cs hc _ (cGet_mem e) rfl
      show v ≠ 0
      have : (1 : Int) ≤ v := this
      omega
  have hG : GoodS ⟨S.a, nf s', nf t'⟩ := good_nf hS.a2 hS.a9 sn tn Ls Ll h0
  refine ys_one (ys_of (as_ret (ae_g GM hr (by decide) (aa_cons ((av_a T (v_ 0)).val (aa_cons ((v_ 2).val (aa_cons ((v_ 3).val (aa_nil (ak_nil ⟨rfl, S.a, s', t', rfl, hS.a2, hS.a9, sn, by omega, by omega, tn, by omega, by omega, Ls, Ll, h0, .drop (.drop (.drop (.ok (hp ⟨S.a, nf s', nf t'⟩ hG rfl (fun i => ?_) fun i => ?_))))⟩)))))))))))
  · exact ((nf_spec sn).it i).trans (si i)
  · exact ((nf_spec tn).it i).trans (ti i)
end
/-! ### the keywords of the law -/
def kwB (x : Str) (b : Bool) (n : Nat) : Bool := decide (cutS x none (some 1) = (if b then "d" else "w")) && decide (cutS x (some 1) none = iS n) && decide (n < 12) &&
  (match atI x.cps.toList 0 with | some cc => decide ((⟨#[cc]⟩ : Str) = (if b then "d" else "w")) | none => false) && decide (x.length ≤ 100) && (b || decide (n ≠ 0) || decide (x = "w0"))
theorem kwI_of {x : Str} {b : Bool} {n : Nat} (h : kwB x b n = true) : KwI x b n := by
  unfold kwB at h
  simp only [Bool.and_eq_true, decide_eq_true_eq, Bool.or_eq_true] at h
  obtain ⟨⟨⟨⟨⟨h1, h2⟩, h3⟩, h4⟩, h5⟩, h6⟩ := h
  refine ⟨h1, h2, h3, ?_, h5, fun e1 e2 => ?_⟩
  · cases e : atI x.cps.toList 0 with
    | none =>
      rw [e] at h4
      cases h4
    | some cc =>
      rw [e] at h4
      exact ⟨cc, rfl, of_decide_eq_true h4⟩
  · subst e1
    rcases h6 with (z | z) | z
    · cases z
    · exact absurd e2 z
    · exact z
/-! ### replaced, its promise by the keywords -/
/-- replaced by good changes -/
structure Rp (S S' : Sc) (cs : List Chg) : Prop where
  g : GoodS S'
  a : S'.a = S.a
  sp : ∀ i, item S'.sp i = (cGet (csB true cs) i).getD (item S.sp i)
  lv : ∀ i, item S'.lv i = (cGet (csB false cs) i).getD (item S.lv i)
theorem Rp.eq {S S' S1 S2 : Sc} {cs cs' : List Chg} (h : Rp S S1 cs) (h' : Rp S' S2 cs') (ha : S.a = S'.a) (e1 : ∀ i, (cGet (csB true cs) i).getD (item S.sp i) = (cGet (csB true cs') i).getD (item S'.sp i))
    (e2 : ∀ i, (cGet (csB false cs) i).getD (item S.lv i) = (cGet (csB false cs') i).getD (item S'.lv i)) : S1 = S2 :=
  GoodS.ext h.g h'.g (by rw [h.a, h'.a, ha]) (fun i => by rw [h.sp, h'.sp, e1]) fun i => by rw [h.lv, h'.lv, e2]
theorem Rp.nil {S S' : Sc} (hS : GoodS S) (h : Rp S S' []) : S' = S := GoodS.ext h.g hS h.a (fun i => h.sp i) fun i => h.lv i
/-- one change -/
theorem Rp.one {S S' : Sc} {c : Chg} (h : Rp S S' [c]) : (∀ i, item S'.sp i = if c.b = true ∧ i = c.n then c.v else item S.sp i) ∧ ∀ i, item S'.lv i = if c.b = false ∧ i = c.n then c.v else item S.lv i := by
  have key : ∀ (b : Bool) (i : Nat) (d : Int), (cGet (csB b [c]) i).getD d = if c.b = b ∧ i = c.n then c.v else d := fun b i d => by
    show (cGet (if c.b = b then cPut [] c.n c.v else []) i).getD d = _
    by_cases hb : c.b = b
    · rw [if_pos hb]
      show (if c.n = i then some c.v else none).getD d = _
      by_cases hi : c.n = i
      · rw [if_pos hi, if_pos ⟨hb, hi.symm⟩]
        rfl
      · rw [if_neg hi, if_neg fun z => hi z.2.symm]
        rfl
    · rw [if_neg hb, if_neg fun z => hb z.1]
      rfl
  exact ⟨fun i => by rw [h.sp, key], fun i => by rw [h.lv, key]⟩
end K54
namespace K54
open PySem L2 Ab Sm
section
variable {P : Program} {w : World} {K : PySem.W.Frag} {mg : Str → Option Value} {base : Heap} {k : Nat} {f C CN : Addr}
/-! ### is_integer of nodes.py, need_schedule -/
def aInn : ASp := fun ds M R => ∃ n lo : Int, ds = [.int n, .int lo] ∧ R (.bl (decide (lo ≤ n))) M
theorem b_is_integer_nodes (B : Bt mg) : BodyOk P w K mg base k f n_is_integer_nodes "is_integer" (defScope s_is_integer_nodes) (defBody s_is_integer_nodes) aInn := by
  rintro cdv A outer s H E hr ds M R ⟨n, lo, rfl, hp⟩
  refine as_one (as_ret (ae_and (ae_isi B.isinstance (v_ 0) (av_ty (T := "int") B.int (by decide +kernel)) (.ty "int") (.int _) (kit_ty (by decide +kernel)) ⟨true, rfl, fun _ => ?_, ntf⟩)))
  refine ae_and (ae_not (ae_isi B.isinstance (v_ 0) (av_ty (T := "bool") B.bool (by decide +kernel)) (.ty "bool") (.int _) (kit_ty (by decide +kernel)) ⟨false, rfl, true, rfl, fun _ => ?_, ntf⟩))
  exact ae_one (ae_cmp (v_ 0) (v_ 1) cmp_ge (.ok hp))
abbrev GInn (P : Program) (w : World) (K : PySem.W.Frag) (mg : Str → Option Value) (base : Heap) : Prop := Gd P w K mg base 1 "is_integer_nodes" [] fun ds _ => aInn ds
def aNsc (C : Addr) : ASp := fun ds M R => ∃ S : Sc, ds = [scV C S] ∧ R .non M
theorem b_need_schedule (B : Bt mg) (T : Rs K mg C) (IS : Isi K C) : BodyOk P w K mg base k f n_need_schedule "need_schedule" (defScope s_need_schedule) (defBody s_need_schedule) (aNsc C) := by
  rintro cdv A outer s0 H E hr ds M R ⟨S, rfl, hp⟩
  exact as_one (as_if (at_not (at_val (ae_isi B.isinstance (v_ 0) (ae_glob T.gC ⟨rfl, rfl⟩) (.own C) (ty_sc T IS) IS.c5 ⟨true, rfl, nft, fun _ => as_nil (.ok hp)⟩))))
abbrev GNsc (P : Program) (w : World) (K : PySem.W.Frag) (mg : Str → Option Value) (base : Heap) (C : Addr) : Prop := Gd P w K mg base 1 "need_schedule" [] fun ds _ => aNsc C ds
/-! ### sizes_up_to, end_of_stage -/
theorem szS_succ {S : Sc} (hS : GoodS S) (t : Nat) : item S.lv (t + 1) + S.a * szS S t = szS S (t + 1) := by
  have := hS.a2
  unfold szS
  rw [siz, Int.toNat_of_nonneg (by omega)]
theorem edS_step {S : Sc} (hS : GoodS S) (t : Nat) : edS S t + item S.sp (t + 1) + (S.a - 1) * szS S t = edS S (t + 1) := by
  have := hS.a2
  unfold edS szS
  rw [ed, Int.toNat_of_nonneg (by omega)]
def aSzu (C : Addr) : ASp := fun ds M R => ∃ (S : Sc) (h : Nat), ds = [scV C S, .int (h : Int)] ∧ GoodS S ∧ h ≤ 8000 ∧ R (.lst ((upL (szS S) h).map .int)) M
theorem b_sizes_up_to (B : Bt mg) (T : Rs K mg C) (Q : Sm2 P w K mg base C) (PA : PrA P w K mg base C) : BodyOk P w K mg base 3 f n_sizes_up_to "sizes_up_to" (defScope s_sizes_up_to) (defBody s_sizes_up_to) (aSzu C) := by
  rintro cdv A outer s0 H E hr ds M R ⟨S, h, rfl, hS, h30, hp⟩
  have a2 := hS.a2
  have a9 := hS.a9
  refine as_cons (as_set 2 q_sizes_up_to.nd (ae_lstC (aa_cons (aE.val (av_la T Q hr (by decide) (v_ 0) i_ (by assumption) (by omega)) (aa_nil ⟨szb, fun q => ?_⟩)))))
  refine as_cons (as_forW PassesOwn.never rfl (aj_range2 B.range (aA.val (avs_cons i_ (avs_cons (av_add (v_ 1) i_) avs_nil)) ⟨_, _, rfl, ⟨by omega, by omega, by omega, by omega⟩, ?_⟩)))
  refine ⟨fun t Γ M' => M' = (q, .lst ((upL (szS S) t).map .int)) :: M ∧ Γ = [some (scV C S), some (.int (h : Int)), some (.ptr q), none], ⟨_, _, ⟨rfl, rfl⟩, (by repeat' first | exact le_nil | refine le_skip ?_ | refine le_keep rfl ?_), (by repeat' first | exact List.Sublist.refl _ | exact List.sublist_append_right _ _ | apply List.Sublist.cons₂ | apply List.Sublist.cons)⟩, ?_, ?_⟩
  · rintro t Γ M' ht ⟨rfl, rfl⟩
    have hl := up_len (g := szS S) (n := t)
    refine ag_name 3 q_sizes_up_to.nd ?_
    refine as_one (as_expr (ae_append (n0 := 0) (v_ 2) rfl (aE.val (av_add (av_la T Q hr (by decide) (v_ 0) (v_ 3) (by assumption) (by omega)) (av_mulU (av_arity T PA hr (by decide) (v_ 0)) (av_ix (v_ 2) (av_sub (v_ 3) i_) (by first | exact .iT (by omega) (by omega) | exact .iL (by omega) (by omega) | exact .ci 0 rfl (by omega) (by omega) | exact .ci 1 rfl (by omega) (by omega) | exact .t rfl | exact .l rfl | exact .c 0 rfl rfl | exact .c 1 rfl rfl | assumption | exact .ci _ (by assumption) (by omega) (by omega))) (by first | exact .inl (.inl ⟨by omega, by omega⟩) | exact .inl (.inr ⟨by omega, by omega⟩) | assumption))) ⟨0, _, rfl, (szl (by rw [List.length_map, hl]; omega)), ?_⟩)))
    have e2 : item S.lv (1 + (t : Int)).toNat + S.a * at0 (upL (szS S) t) (1 + (t : Int) - 1) = szS S (t + 1) := by
      rw [up_at (by omega) (by omega), show (1 + (t : Int)).toNat = t + 1 by omega, show (1 + (t : Int) - 1).toNat = t by omega]
      exact szS_succ hS t
    rw [e2, up_succ]
    exact ⟨_, _, ⟨rfl, rfl⟩, (by repeat' first | exact le_nil | refine le_skip ?_ | refine le_keep rfl ?_), (by repeat' first | exact List.Sublist.refl _ | exact List.sublist_append_right _ _ | apply List.Sublist.cons₂ | apply List.Sublist.cons)⟩
  · rintro Γ M' ⟨rfl, rfl⟩
    rw [show ((h : Int) + 1 - 1).toNat = h by omega]
    exact as_one (as_ret ((v_ 2).val (.frz (.ok hp))))
abbrev GSzu (P : Program) (w : World) (K : PySem.W.Frag) (mg : Str → Option Value) (base : Heap) (C : Addr) : Prop := Gd P w K mg base 4 "sizes_up_to" [] fun ds _ => aSzu C ds
def aEos (C : Addr) : ASp := fun ds M R => ∃ (S : Sc) (n st : Nat), ds = [scV C S, .lst ((upL (szS S) n).map .int), .int (st : Int)] ∧ GoodS S ∧ st ≤ 8000 ∧ st ≤ n + 1 ∧ R (.int (edS S st)) M
theorem b_end_of_stage (B : Bt mg) (T : Rs K mg C) (Q : Sm2 P w K mg base C) (PA : PrA P w K mg base C) : BodyOk P w K mg base 3 f n_end_of_stage "end_of_stage" (defScope s_end_of_stage) (defBody s_end_of_stage) (aEos C) := by
  rintro cdv A outer s0 H E hr ds M R ⟨S, n, st, rfl, hS, h30, hst, hp⟩
  have a2 := hS.a2
  have a9 := hS.a9
  have hl := up_len (g := szS S) (n := n)
  refine as_cons (as_setv 3 q_end_of_stage.nd (av_sa T Q hr (by decide) (v_ 0) i_ (by assumption) (by omega)) ?_)
  refine as_cons (as_forW PassesOwn.never rfl (aj_range2 B.range (aA.val (avs_cons i_ (avs_cons (av_add (v_ 2) i_) avs_nil)) ⟨_, _, rfl, ⟨by omega, by omega, by omega, by omega⟩, ?_⟩)))
  refine ⟨fun t Γ M' => M' = M ∧ Γ = [some (scV C S), some (.lst ((upL (szS S) n).map .int)), some (.int (st : Int)), some (.int (edS S t)), none], ⟨_, _, ⟨rfl, rfl⟩, (by repeat' first | exact le_nil | refine le_skip ?_ | refine le_keep rfl ?_), (by repeat' first | exact List.Sublist.refl _ | exact List.sublist_append_right _ _ | apply List.Sublist.cons₂ | apply List.Sublist.cons)⟩, ?_, ?_⟩
  · rintro t Γ M' ht ⟨rfl, rfl⟩
    refine ag_name 4 q_end_of_stage.nd ?_
    refine as_one (as_setv 3 q_end_of_stage.nd (av_add (av_add (v_ 3) (av_sa T Q hr (by decide) (v_ 0) (v_ 4) (by assumption) (by omega))) (av_mulU (av_sub (av_arity T PA hr (by decide) (v_ 0)) i_) (av_ix (v_ 1) (av_sub (v_ 4) i_) (by first | exact .iT (by omega) (by omega) | exact .iL (by omega) (by omega) | exact .ci 0 rfl (by omega) (by omega) | exact .ci 1 rfl (by omega) (by omega) | exact .t rfl | exact .l rfl | exact .c 0 rfl rfl | exact .c 1 rfl rfl | assumption | exact .ci _ (by assumption) (by omega) (by omega))) (by first | exact .inl (.inl ⟨by omega, by omega⟩) | exact .inl (.inr ⟨by omega, by omega⟩) | assumption))) ?_)
    have e2 : edS S t + item S.sp (1 + (t : Int)).toNat + (S.a - 1) * at0 (upL (szS S) n) (1 + (t : Int) - 1) = edS S (t + 1) := by
      rw [up_at (by omega) (by omega), show (1 + (t : Int)).toNat = t + 1 by omega, show (1 + (t : Int) - 1).toNat = t by omega]
      exact edS_step hS t
    rw [e2]
    exact ⟨_, _, ⟨rfl, rfl⟩, (by repeat' first | exact le_nil | refine le_skip ?_ | refine le_keep rfl ?_), (by repeat' first | exact List.Sublist.refl _ | exact List.sublist_append_right _ _ | apply List.Sublist.cons₂ | apply List.Sublist.cons)⟩
  · rintro Γ M' ⟨rfl, rfl⟩
    rw [show ((st : Int) + 1 - 1).toNat = st by omega]
    exact as_one (as_retv (v_ 3) (.ok hp))
abbrev GEos (P : Program) (w : World) (K : PySem.W.Frag) (mg : Str → Option Value) (base : Heap) (C : Addr) : Prop := Gd P w K mg base 4 "end_of_stage" [] fun ds _ => aEos C ds
/-! ### need_height, branch_size, stage_end -/
structure NdC (K : PySem.W.Frag) (mg : Str → Option Value) (CN : Addr) : Prop where
  gN : mg "Node" = some (.ref CN)
  rd : ClX.CRead K CN (.type "type")
  mh : ∃ t, ClX.CVal K CN (.type "type") "MAX_HEIGHT" (.int 3000) (.int 3000 t)
theorem av_mh {X : Cx} {Γ : Gam} {M : Mem} {p1 pos : Pos} (N : NdC X.K X.mg CN) (hg : Gl X "Node" := by rfl) (hb : attributeBase (.Name "Node" p1) "MAX_HEIGHT" X.env (eval (.Name "Node" p1) X.env) = eval (.Name "Node" p1) X.env := by rfl) : aV X (.Attribute (.Name "Node" p1) "MAX_HEIGHT" pos) Γ M (.int 3000) := by
  obtain ⟨t, v⟩ := N.mh
  exact av_cval N.rd v (ae_glob N.gN ⟨rfl, rfl⟩ hg) (fun _ => .int 3000) hb
def aNht : ASp := fun ds M R => ∃ h : Int, ds = [.int h] ∧ 0 ≤ h ∧ h ≤ 3000 ∧ R .non M
theorem b_need_height (N : NdC K mg CN) (GI : GInn P w K mg base) : BodyOk P w K mg base 1 f n_need_height "need_height" (defScope s_need_height) (defBody s_need_height) aNht := by
  rintro cdv A outer s0 H E hr ds M R ⟨h, rfl, h0, h1, hp⟩
  refine as_one (as_if (at_w (aw_or (at_not (at_val (ae_g GI hr (by decide) (aa_cons ((v_ 0).val (aa_cons (i_.val (aa_nil (ak_nil ⟨rfl, h, 0, rfl, true, ?_, nft, fun _ => ?_⟩)))))))))))) 
  · rw [decide_eq_true h0]
  · exact aw_or1 (at_cmp (v_ 0) (av_mh N) (cmp_gtF h1) ⟨nft, fun _ => as_nil (.ok hp)⟩)
abbrev GNht (P : Program) (w : World) (K : PySem.W.Frag) (mg : Str → Option Value) (base : Heap) : Prop := Gd P w K mg base 2 "need_height" [] fun ds _ => aNht ds
def aSte (C : Addr) : ASp := fun ds M R => ∃ (S : Sc) (h : Nat), ds = [scV C S, .int (h : Int)] ∧ GoodS S ∧ h ≤ 3000 ∧ R (.int (edS S h)) M
theorem b_stage_end (g_need_schedule : GNsc P w K mg base C) (g_need_height : GNht P w K mg base) (G : GSzu P w K mg base C) (GE : GEos P w K mg base C) : BodyOk P w K mg base 4 f n_stage_end "stage_end" (defScope s_stage_end) (defBody s_stage_end) (aSte C) := by
  rintro cdv A outer s0 H E hr ds M R ⟨S, h, rfl, hS, h30, hp⟩
  refine as_cons (as_expr (aE.val (ae_g g_need_schedule hr (by decide) (aa_cons (aE.val (v_ 0) (aa_nil (ak_nil ⟨rfl, _, rfl, rfl, rfl⟩))))) ?_))
  refine as_cons (as_expr (aE.val (ae_g g_need_height hr (by decide) (aa_cons (aE.val (v_ 1) (aa_nil (ak_nil ⟨rfl, _, rfl, (by omega), (by omega), rfl, rfl⟩))))) ?_))
  exact as_one (as_ret (ae_g GE hr (by decide) (aa_cons ((v_ 0).val (aa_cons (ae_g G hr (by decide) (aa_cons ((v_ 0).val (aa_cons ((v_ 1).val (aa_nil (ak_nil ⟨rfl, S, h, rfl, hS, by omega, aa_cons ((v_ 1).val (aa_nil (ak_nil ⟨rfl, S, h, h, rfl, hS, by omega, by omega, .ok hp⟩)))⟩))))))))))))
abbrev GSte (P : Program) (w : World) (K : PySem.W.Frag) (mg : Str → Option Value) (base : Heap) (C : Addr) : Prop := Gd P w K mg base 5 "stage_end" [] fun ds _ => aSte C ds
end
end K54
/-! Ab102: x //= e, x *= e; enumerate of a list that is a cell (ints) -/
namespace Ab
open PySem PySem.Spec PyProof.Rows L2
section
variable {X : Cx} {Γ : Gam} {M : Mem} {e : Expr} {pos : Pos} {k : AK} {i : Int} {x : Str}
theorem as_augMu {ps : Pos} (n : Nat) (hN : X.N.Nodup) (hΓ : Γ[n]? = some (some (.int i))) (he : aE X e Γ M fun d M' => ∃ j, d = .int j ∧ CMul i j ∧ k.nx (Γ.set n (some (.int (i * j)))) M') (hi : X.N[n]? = some x := by rfl) (hx : Loc X.env.scope x := by first | exact Or.inl rfl | exact Or.inr rfl)
    (hf : X.fn x = true ∨ X.env.scope.names.lookup x = some .local := by first | exact .inl rfl | exact .inr rfl | assumption) : aS X (.AugAssign (.Name x ps) .Mult e pos) Γ M k := fun Hi H σ ok en D q => by
  refine ⟨_, ps_aug hN hi hx pe_we iop_mul hf, ?_⟩
  obtain ⟨v, hv, rv⟩ := en.2 n _ hΓ
  cases rv
  refine ⟨_, hv, ?_⟩
  refine he Hi H σ ok en _ fun x M1 v Hi1 H1 h1 s1 ok1 r1 => ?_
  obtain ⟨j, rfl, hj, h2⟩ := h1
  cases r1
  exact ⟨i, j, rfl, rfl, hj, q.nx _ _ _ Hi1 H1 h2 s1 ok1 ((en.mono s1).set (.int _))⟩
end
end Ab
/-! Ab103: sequences of ints: tuples, frozen lists, cells -/
namespace Ab
open PySem PySem.Spec PyProof.Rows L2
inductive Sv (M : Mem) : Val → List Int → Prop
  | t {ns : List Int} : Sv M (.tup (ns.map .int)) ns
  | l {ns : List Int} : Sv M (.lst (ns.map .int)) ns
  | c (n : Nat) {p : Addr} {ns : List Int} : M[n]? = some (p, .lst (ns.map .int)) → Sv M (.ptr p) ns
theorem Sv.sq {M : Mem} {d : Val} {ns : List Int} (h : Sv M d ns) : Sq M d (ns.map .int) := by
  cases h with
  | t => exact .t
  | l => exact .l (.self _)
  | c n h => exact .l (.lst n h)
theorem Sv.ix {M : Mem} {d : Val} {ns : List Int} {i : Int} (h : Sv M d ns) (h0 : 0 ≤ i) (h1 : i < ns.length) : IxIs M d i (.int (at0 ns i)) := by
  cases h with
  | t => exact .iT h0 h1
  | l => exact .iL h0 h1
  | c n h => exact .ci n h h0 h1
section
variable {X : Cx} {Γ : Gam} {M : Mem} {a b : Expr} {d : Val} {ns : List Int} {pos p1 : Pos}
theorem av_lenSv (hm : X.mg "len" = none) (ha : aV X a Γ M d) (h : Sv M d ns) (hg : Gl X "len" := by rfl) (hst : starEach [a] X.env = [(false, eval a X.env)] := by rfl) : aV X (.Call (.Name "len" p1) [a] [] pos) Γ M (.int (ns.length : Int)) := by
  have := av_len (pos := pos) (p1 := p1) hm ha h.sq hg hst
  rw [List.length_map] at this
  exact this
theorem av_tupSv (hm : X.mg "tuple" = none) (ha : aV X a Γ M d) (h : Sv M d ns) (hg : Gl X "tuple" := by rfl) (hst : starEach [a] X.env = [(false, eval a X.env)] := by rfl) : aV X (.Call (.Name "tuple" p1) [a] [] pos) Γ M (.tup (ns.map .int)) := av_tuple hm ha h.sq hg hst
theorem av_ixSv {i : Int} (ha : aV X a Γ M d) (hb : aV X b Γ M (.int i)) (h : Sv M d ns) (h0 : 0 ≤ i) (h1 : i < ns.length) (hs : PlainIx b := by exact fun _ _ => rfl) : aV X (.Subscript a b pos) Γ M (.int (at0 ns i)) := av_ix ha hb (h.ix h0 h1) hs
end
end Ab
/-! Ab93: repr(o) of an own instance -/
namespace Ab
open PySem PySem.Spec PyProof.Rows L2
end Ab
/-! Ab94: super().m(..) as a statement; (a, b) < (c, d) of ints -/
namespace Ab
open PySem PySem.Spec PyProof.Rows L2 PySem.W
end Ab
/-! Ab104: a list of a generator frozen; if not super().m(..) -/
namespace Ab
open PySem PySem.Spec PyProof.Rows L2 PySem.W GenW
end Ab
/-! Ab105: a dict display whose values make cells -/
namespace Ab
open PySem PySem.Spec PyProof.Rows L2
end Ab
/-! Ab132: a dict written with four entries -/
namespace Ab
open PySem L2
theorem ae_dict4 {X : Cx} {Γ : Gam} {M : Mem} {P : Val → Mem → Prop} {pos : Pos} {a1 a2 a3 a4 e1 e2 e3 e4 : Expr} (h : ∀ p, aPr X [(a1, e1), (a2, e2), (a3, e3), (a4, e4)] Γ ((p, .dk []) :: M) fun kvs M' => ∃ M2, M' = (p, .dk []) :: M2 ∧ kvs.length ≤ 15 ∧ P (.ptr p) ((p, .dk (mergeA [] kvs)) :: M2)) : aE X (.Dict [some a1, some a2, some a3, some a4] [e1, e2, e3, e4] pos) Γ M P :=
  disp_of (pps_cons pe_we pe_we (pps_cons pe_we pe_we (pps_cons pe_we pe_we (pps_cons pe_we pe_we pps_nil)))) rfl rfl (fun z => nomatch z) (Nat.le_of_ble_eq_true rfl) h
end Ab
/-! Ab95: isinstance of a subclass -/
namespace Ab
open PySem PySem.Spec PyProof.Rows L2
/-! ### t == () -/
end Ab
/-! Ab96: a comprehension with one test, pure items -/
namespace Ab
open PySem PySem.Spec PyProof.Rows L2
section
variable {X : Cx} {Γ : Gam} {M : Mem} {P : Val → Mem → Prop} {pos : Pos}
theorem ae_lcF {tg iter elt c : Expr} {scope : Scope} (own : List (Str × Nat)) {n : Nat} {it : Nat → Val} (g : Nat → Val) (p : Nat → Bool) (hc : X.calm = true) (hN : X.N.Nodup) (ok : BlkOk X.N X.env.scope scope own)
    (hi : aI X tg iter Γ M n it (fun _ => True) (fun M' => M' = M))
    (hs : ∀ i acc D, i < n → bG X scope (own.map (·.2)) tg (it i) (wipeG Γ (own.map (·.2))) ((D, .lst acc) :: M) fun Γ2 M2 => ∀ s H C cl fp, aT (bx X scope s H C cl fp) c Γ2 M2 (fun b M3 => b = p i ∧ M3 = (D, .lst acc) :: M) ∧ (p i = true → aE (bx X scope s H C cl fp) elt Γ2 ((D, .lst acc) :: M) fun y M4 => y = g i ∧ M4 = (D, .lst acc) :: M))
    (hn : n ≤ 100000) (hd : P (.lst (((List.range n).filter p).map g)) M) (hf : ∀ x, foldedSetIterable iter X.env x = pure x := by intro _; rfl) :
    aE X (.ListComp elt [⟨tg, iter, [c], 0⟩] scope pos) Γ M P := by
  refine ae_frz (ae_lcC (it := it) own (fun i acc M' => M' = M ∧ acc = ((List.range i).filter p).map g) hc hN ok ?_ (fun _ _ _ _ _ => trivial) (fun _ _ _ => trivial) ?_ hn ?_ hf)
  · intro Hi H σ ok en R q
    exact hi Hi H σ ok en R fun J M1 Hi1 H1 h1 => q J M1 Hi1 H1 ⟨h1, rfl⟩
  · rintro i acc M' D hi' _ ⟨rfl, rfl⟩ s H C cl fp
    intro Hi1 H1 σ1 v1 ok1 en1 r1 Q1 q1
    refine hs i _ D hi' s H C cl fp Hi1 H1 σ1 v1 ok1 en1 r1 Q1 fun Γ2 M2 σ2 Hi2 H2 h2 => q1 Γ2 M2 σ2 Hi2 H2 fun s' H' C' cl' fp' => ats_one ((h2 s' H' C' cl' fp').1.mono fun b M3 hb => ?_)
    obtain ⟨rfl, rfl⟩ := hb
    refine ⟨fun z s2 H2 C2 cl2 fp2 => ((h2 s2 H2 C2 cl2 fp2).2 z).mono fun y M4 hy => ?_, fun z => ?_⟩
    · obtain ⟨rfl, rfl⟩ := hy
      exact ⟨_, rfl, rfl, by rw [List.range_succ, List.filter_append, List.map_append, List.filter_cons, if_pos z]; rfl⟩
    · exact ⟨_, rfl, rfl, by rw [List.range_succ, List.filter_append, List.filter_cons, if_neg (by rw [z]; decide)]; simp⟩
  · rintro D acc M' ⟨rfl, rfl⟩
    exact ⟨D, _, _, rfl, rfl, hd⟩
end
end Ab
/-! S43: named items of a schedule, frozen and free; the horizon (stage 7) -/
namespace Sm
/-- the leaf (from 0) from which on an item counts -/
def fli (k : Nat) (b : Bool) (i : Nat) : Nat := if b = true then (if i = 0 then 0 else k ^ (i - 1)) else k ^ i
section
variable {k v : Nat} {s l s' l' : Nat → Int}
theorem siz_congr {n : Nat} (h : ∀ i, i ≤ n → l i = l' i) : siz k l n = siz k l' n := by
  induction n with
  | zero => exact h 0 (Nat.le_refl _)
  | succ n ih =>
    rw [siz, siz, h (n + 1) (Nat.le_refl _), ih fun i hi => h i (by omega)]
theorem ed_congr {n : Nat} (h : ∀ i, i ≤ n → s i = s' i) (h2 : ∀ i, i < n → l i = l' i) : ed k s l n = ed k s' l' n := by
  induction n with
  | zero => exact h 0 (Nat.le_refl _)
  | succ n ih =>
    rw [ed, ed, h (n + 1) (Nat.le_refl _), ih (fun i hi => h i (by omega)) (fun i hi => h2 i (by omega)), siz_congr fun i hi => h2 i (by omega)]
end
/-! ### frozen and free -/
/-- whether a named item is frozen -/
def frz (k : Nat) (s l : Nat → Int) (n : Int) (b : Bool) (i : Nat) : Bool := if b = true then decide (i = 0 ∨ ed k s l (i - 1) < n) else decide (ed k s l i + s (i + 1) < n)
def Fre (k : Nat) (s l : Nat → Int) (n : Int) (b : Bool) (i : Nat) : Prop := i < 12 ∧ frz k s l n b i = false
/-- what a schedule's rows keep -/
structure Rws (k : Nat) (s l : Nat → Int) : Prop where
  k2 : 2 ≤ k
  rs : ∀ j, 0 ≤ s j
  rl : ∀ j, 0 ≤ l j
  p : 0 < l 0
end Sm
namespace K54
open PySem L2 Ab Sm Tx
/-! ### the draws of stage 7: a dict in a box without a state -/
def d7 (y : Int) (cs : List Int) (pc t : Int) : List (Key × Val) := [(.inr "left", .int y), (.inr "cells", .lst (cs.map .int)), (.inr "pace", .int pc), (.inr "turn", .int t)]
def st7 (p : Addr) : Cell := .box fun B => ∃ (y : Int) (cs : List Int) (pc t : Int), B = [(p, .dk (d7 y cs pc t))] ∧ cs.length = 9
section
variable {P : Program} {w : World} {K : PySem.W.Frag} {mg : Str → Option Value} {base : Heap} {k : Nat} {f C : Addr}
theorem dg71 {y pc t : Int} {cs : List Int} : dGet (d7 y cs pc t) (.inr ("left" : Str)) = some (.int y) := by rfl
theorem dg72 {y pc t : Int} {cs : List Int} : dGet (d7 y cs pc t) (.inr ("cells" : Str)) = some (.lst (cs.map .int)) := by rfl
theorem dg73 {y pc t : Int} {cs : List Int} : dGet (d7 y cs pc t) (.inr ("pace" : Str)) = some (.int pc) := by rfl
theorem dg74 {y pc t : Int} {cs : List Int} : dGet (d7 y cs pc t) (.inr ("turn" : Str)) = some (.int t) := by rfl
theorem dp71 {y pc t v : Int} {cs : List Int} : dPut (d7 y cs pc t) (.inr ("left" : Str)) (.int v) = d7 v cs pc t := by rfl
theorem dp73 {y pc t v : Int} {cs : List Int} : dPut (d7 y cs pc t) (.inr ("pace" : Str)) (.int v) = d7 y cs v t := by rfl
theorem dp74 {y pc t v : Int} {cs : List Int} : dPut (d7 y cs pc t) (.inr ("turn" : Str)) (.int v) = d7 y cs pc v := by rfl
def aMix7 : ASp := fun ds M R => ∃ a q : Int, ds = [.int a, .int q] ∧ 0 ≤ q ∧ q < 64 ∧ ∀ r, 0 ≤ r → R (.int r) M
theorem b__law_mixed7 : BodyOk P w K mg base k f n__law_mixed "_law_mixed" (defScope s__law_mixed) (defBody s__law_mixed) aMix7 := by
  rintro cdv A outer0 s H E hr ds M R ⟨a, q, rfl, q0, q1, hp⟩
  have a0 := Int.emod_nonneg a (show (2147483629 : Int) ≠ 0 by decide)
  have a1 := Int.emod_lt_of_pos a (show (0 : Int) < 2147483629 by decide)
  refine as_cons (as_setv 2 q__law_mixed.nd (av_mod (av_mulU (av_add (av_add (av_add (av_mod (v_ 0) i_ (by first | omega | assumption)) (av_mulU (av_mulU i_ (v_ 1) (by first | exact .inl (.inl ⟨by omega, by omega⟩) | exact .inl (.inr ⟨by omega, by omega⟩) | assumption)) (v_ 1) (by first | exact .inl (.inl ⟨by omega, by omega⟩) | exact .inl (.inr ⟨by omega, by omega⟩) | assumption))) (av_mulU i_ (v_ 1) (by first | exact .inl (.inl ⟨by omega, by omega⟩) | exact .inl (.inr ⟨by omega, by omega⟩) | assumption))) i_) i_ (by first | exact .inl (.inl ⟨by omega, by omega⟩) | exact .inl (.inr ⟨by omega, by omega⟩) | assumption)) i_ (by first | omega | assumption)) ?_)
  have b0 := Int.emod_nonneg ((a % 2147483629 + 7919 * q * q + 104729 * q + 17) * 48271) (show (2147483647 : Int) ≠ 0 by decide)
  have b1 := Int.emod_lt_of_pos ((a % 2147483629 + 7919 * q * q + 104729 * q + 17) * 48271) (show (0 : Int) < 2147483647 by decide)
  generalize (a % 2147483629 + 7919 * q * q + 104729 * q + 17) * 48271 % 2147483647 = b at *
  refine as_one (as_retv (av_fdivU (av_mod (av_mulU (v_ 2) (av_add (av_add (v_ 2) (av_mulU i_ (v_ 1) (by first | exact .inl (.inl ⟨by omega, by omega⟩) | exact .inl (.inr ⟨by omega, by omega⟩) | assumption))) i_) (by first | exact .inl (.inl ⟨by omega, by omega⟩) | exact .inl (.inr ⟨by omega, by omega⟩) | assumption)) i_ (by first | omega | assumption)) i_ (by first | exact .inl ⟨by omega, by omega⟩ | assumption)) ?_)
  refine .ok (hp _ (Int.ediv_nonneg (Int.emod_nonneg _ (by decide)) (by decide)))
abbrev GMix7 (P : Program) (w : World) (K : PySem.W.Frag) (mg : Str → Option Value) (base : Heap) : Prop := Gd P w K mg base 1 "_law_mixed" [] fun ds _ => aMix7 ds
def aDrC7 : ASp := fun ds M R => ∃ (p : Addr) (y : Int) (cs : List Int) (pc t n : Int) (M0 : Mem), ds = [.ptr p, .int n] ∧ M = (p, .dk (d7 y cs pc t)) :: M0 ∧ cs.length = 9 ∧ 0 < n ∧ n < 1073741824 ∧ ∀ v y' pc' t', 0 ≤ v → v < n → R (.int v) ((p, .dk (d7 y' cs pc' t')) :: M0)
theorem b__law_draw7 (GM : GMix7 P w K mg base) : BodyOk P w K mg base 1 f n__law_draw "_law_draw" (defScope s__law_draw) (defBody s__law_draw) aDrC7 := by
  rintro cdv A outer0 s H E hr ds M R ⟨p, y, cs, pc, t, n, M0, rfl, rfl, hc, hn, hn2, hp⟩
  have hu := hr.u1
  refine as_cons (as_ifd (p := 0 < y) (at_cmp (av_dget hu (v_ 0) s_ (n := 0) rfl dg71) i_ cmp_gt ⟨rfl, rfl⟩) (fun hx => ?_) (fun hx => as_nil ?_))
  · refine as_cons (as_setv 2 q__law_draw.nd (av_mod (av_dget hu (v_ 0) s_ (n := 0) rfl dg71) (v_ 1) hn) ?_)
    refine as_cons (as_dput hu (v_ 0) s_ (av_fdiv (av_dget hu (v_ 0) s_ (n := 0) rfl dg71) (v_ 1) ⟨hn, hn2⟩) (n := 0) rfl (szl (Nat.le_of_ble_eq_true rfl)) ?_)
    rw [dp71]
    exact as_one (as_retv (v_ 2) (.ok (hp _ _ _ _ (Int.emod_nonneg _ (by omega)) (Int.emod_lt_of_pos _ hn))))
  · refine as_cons (as_setv 3 q__law_draw.nd (av_dget hu (v_ 0) s_ (n := 0) rfl dg74) ?_)
    refine as_cons (as_dput hu (v_ 0) s_ (av_add (v_ 3) i_) (n := 0) rfl (szl (Nat.le_of_ble_eq_true rfl)) ?_)
    rw [dp74]
    have k0 := Int.emod_nonneg t (show (9 : Int) ≠ 0 by decide)
    have k1 := Int.emod_lt_of_pos t (show (0 : Int) < 9 by decide)
    have l0 := Int.emod_nonneg (t + 3) (show (9 : Int) ≠ 0 by decide)
    have l1 := Int.emod_lt_of_pos (t + 3) (show (0 : Int) < 9 by decide)
    refine as_cons (as_setv 4 q__law_draw.nd (av_add (av_add (av_mul (av_dget hu (v_ 0) s_ (n := 0) rfl dg73) i_ (.inr ⟨by decide, by decide⟩)) (av_ix (av_dget hu (v_ 0) s_ (n := 0) rfl dg72) (av_mod (v_ 3) i_ (by decide)) (.iL k0 (by omega)))) (v_ 3)) ?_)
    refine as_cons (as_dput hu (v_ 0) s_ (av_mod (v_ 4) i_ (by decide)) (n := 0) rfl (szl (Nat.le_of_ble_eq_true rfl)) ?_)
    rw [dp73]
    refine as_one (as_ret (ae_bin (ae_g GM hr (by decide) (aa_cons (ae_g GM hr (by decide) (aa_cons ((av_dget hu (v_ 0) s_ (n := 0) rfl dg73).val (aa_cons ((av_mod (v_ 3) i_ (by decide)).val (aa_nil (ak_nil ⟨rfl, _, _, rfl, Int.emod_nonneg _ (by decide), Int.emod_lt_of_pos _ (by decide), fun r r0 => ?_⟩)))))))))))
    refine aa_cons ((av_mod (av_ix (av_dget hu (v_ 0) s_ (n := 0) rfl dg72) (av_mod (av_add (v_ 3) i_) i_ (by decide)) (.iL l0 (by omega))) i_ (by decide)).val (aa_nil (ak_nil ⟨rfl, r, _, rfl, Int.emod_nonneg _ (by decide), Int.emod_lt_of_pos _ (by decide), fun r2 r20 => ?_⟩)))
    exact (v_ 1).val (bv_mod hn (.ok (hp _ _ _ _ (Int.emod_nonneg _ (by omega)) (Int.emod_lt_of_pos _ hn))))
def aDr7 : ASp := fun ds M R => ∃ (p : Addr) (i : Nat) (n : Int), ds = [.ptr p, .int n] ∧ M[i]? = some (p, st7 p) ∧ 0 < n ∧ n < 1073741824 ∧ ∀ v, 0 ≤ v → v < n → R (.int v) M
abbrev GDr7 (P : Program) (w : World) (K : PySem.W.Frag) (mg : Str → Option Value) (base : Heap) : Prop := Gd P w K mg base 2 "_law_draw" [] fun ds _ => aDr7 ds
theorem dr7 (G : Gd P w K mg base 2 "_law_draw" [] fun ds _ => aDrC7 ds) : GDr7 P w K mg base := by
  obtain ⟨f, F, m, k⟩ := G.ex
  refine ⟨⟨f, FnX.box (sx' := fun ds _ => aDr7 ds) F (fun ds es M R ⟨p, i, n, e, hi, h0, h1, hp⟩ => ⟨i, p, (fun B => ∃ (y : Int) (cs : List Int) (pc t : Int), B = [(p, .dk (d7 y cs pc t))] ∧ cs.length = 9), hi, fun B ⟨y, cs, pc, t, eB, hc⟩ _ => ⟨p, y, cs, pc, t, n, M.eraseIdx i, e, by rw [eB]; rfl, hc, h0, h1, fun v y' pc' t' v0 v1 =>
    ⟨[(p, .dk (d7 y' cs pc' t'))], (fun B => ∃ (y : Int) (cs : List Int) (pc t : Int), B = [(p, .dk (d7 y cs pc t))] ∧ cs.length = 9), rfl, ⟨y', cs, pc', t', rfl, hc⟩, List.mem_cons_self, by rw [show M.set i (p, Cell.box fun B => ∃ (y : Int) (cs : List Int) (pc t : Int), B = [(p, .dk (d7 y cs pc t))] ∧ cs.length = 9) = M from set_at hi]; exact hp v v0 v1⟩⟩⟩), m, k⟩⟩
theorem ae_dr7 {X : Cx} {Γ : Gam} {M : Mem} {R : Val → Mem → Prop} {a b : Expr} {p1 pos : Pos} {n : Int} {p : Addr} {j m : Nat} (D : GDr7 X.prog X.w X.K X.mg X.base) (hr : Rm m X.A) (hm : 2 ≤ m) (ha : aV X a Γ M (.ptr p)) (hb : aV X b Γ M (.int n)) (hs : M[j]? = some (p, st7 p)) (h0 : 0 < n) (h1 : n < 1073741824)
    (h : ∀ v, 0 ≤ v → v < n → R (.int v) M) (hg : Gl X "_law_draw" := by rfl)
    (he : starEach [a, b] X.env = [(false, eval a X.env), (false, eval b X.env)] := by rfl) (he2 : starEach [b] X.env = [(false, eval b X.env)] := by rfl) : aE X (.Call (.Name "_law_draw" p1) [a, b] [] pos) Γ M R :=
  ae_g D hr hm (aa_cons (ha.val (aa_cons (hb.val (aa_nil (ak_nil ⟨rfl, p, j, n, rfl, hs, h0, h1, h⟩))) (by rw [he2]; rfl))) (by rw [he, he2])) hg rfl rfl (he := by rw [he, he2]) (hpl := by rw [he]; rfl)
theorem atI_mem7 {xs : List Val} {i : Int} (h0 : 0 ≤ i) (h1 : i < xs.length) : ∃ d, d ∈ xs ∧ atI xs i = some d := by
  obtain ⟨n, rfl⟩ : ∃ n : Nat, i = n := ⟨i.toNat, by omega⟩
  have hn : n < xs.length := by omega
  exact ⟨xs[n], List.getElem_mem hn, atI_nat (List.getElem?_eq_getElem hn)⟩
def aOf7 : ASp := fun ds M R => ∃ (p : Addr) (i : Nat) (xs : List Val), ds = [.ptr p, .lst xs] ∧ M[i]? = some (p, st7 p) ∧ 0 < xs.length ∧ xs.length ≤ 1000 ∧ ∀ v, v ∈ xs → R v M
theorem b__law_of7 (B : Bt mg) (GD : GDr7 P w K mg base) : BodyOk P w K mg base 2 f n__law_of "_law_of" (defScope s__law_of) (defBody s__law_of) aOf7 := by
  rintro cdv A outer s0 H E hr ds M R ⟨p, i, xs, rfl, hi, x0, x1, hp⟩
  refine as_one (as_ret (ae_ixM ((v_ 1).val (ae_dr7 GD hr (by decide) (v_ 0) (av_len B.len (v_ 1) (.l (.self _))) hi (by omega) (by omega) fun v v0 v1 => ?_))))
  obtain ⟨d, hm, ha⟩ := atI_mem7 v0 v1
  exact ⟨v, _, _, rfl, .l (.self _), ha, .ok (hp _ hm)⟩
abbrev GOf7 (P : Program) (w : World) (K : PySem.W.Frag) (mg : Str → Option Value) (base : Heap) : Prop := Gd P w K mg base 3 "_law_of" [] fun ds _ => aOf7 ds
def aBig7 : ASp := fun ds M R => ∃ (p : Addr) (i : Nat) (n : Int), ds = [.ptr p, .int n] ∧ M[i]? = some (p, st7 p) ∧ 0 < n ∧ ∀ v, 0 ≤ v → v < n → R (.int v) M
theorem b__law_big7 (B : Bt mg) (GD : GDr7 P w K mg base) : BodyOk P w K mg base 2 f n__law_big "_law_big" (defScope s__law_big) (defBody s__law_big) aBig7 := by
  rintro cdv A outer s0 H E hr ds M R ⟨p, i, n, rfl, hi, n0, hp⟩
  have p9 : ∀ {X : Cx} {Γ : Gam} {M : Mem} {a b : Expr} {pos : Pos}, aV X a Γ M (.int 10) → aV X b Γ M (.int 9) → aV X (.BinOp a .Pow b pos) Γ M (.int 1000000000) := fun ha hb => av_powC ha hb ⟨by decide, by decide, by decide⟩ (by decide)
  refine as_cons (as_setv 2 q__law_big.nd i_ ?_)
  refine as_cons (as_forW PassesOwn.never rfl (aj_range1 B.range (i_.val ⟨_, rfl, by decide, by decide, ?_⟩)))
  refine ⟨fun t Γ M' => ∃ v : Int, M' = M ∧ Γ = [some (.ptr p), some (.int n), some (.int v), none], ⟨_, _, ⟨0, rfl, rfl⟩, (by repeat' first | exact le_nil | refine le_skip ?_ | refine le_keep rfl ?_), (by repeat' first | exact List.Sublist.refl _ | exact List.sublist_append_right _ _ | apply List.Sublist.cons₂ | apply List.Sublist.cons)⟩, ?_, ?_⟩
  · rintro t Γ M' ht ⟨v, rfl, rfl⟩
    refine ag_name 3 q__law_big.nd ?_
    exact as_one (as_set 2 q__law_big.nd (ae_bin ((av_mulU (v_ 2) (p9 i_ i_) (.inl (.inr ⟨by omega, by omega⟩))).val (ae_dr7 GD hr (by decide) (v_ 0) (p9 i_ i_) hi (by decide) (by decide) fun u u0 u1 => bv_add ⟨_, _, ⟨_, rfl, rfl⟩, (by repeat' first | exact le_nil | refine le_skip ?_ | refine le_keep rfl ?_), (by repeat' first | exact List.Sublist.refl _ | exact List.sublist_append_right _ _ | apply List.Sublist.cons₂ | apply List.Sublist.cons)⟩))))
  · rintro Γ M' ⟨v, rfl, rfl⟩
    exact as_one (as_retv (av_mod (v_ 2) (v_ 1) n0) (.ok (hp _ (Int.emod_nonneg _ (by omega)) (Int.emod_lt_of_pos _ n0))))
abbrev GBig7 (P : Program) (w : World) (K : PySem.W.Frag) (mg : Str → Option Value) (base : Heap) : Prop := Gd P w K mg base 3 "_law_big" [] fun ds _ => aBig7 ds
/-! ### _law_state -/
def aSta7 : ASp := fun ds M R => ∃ (ns : List Int) (a : Nat), ds = [.lst (ns.map .int), .int (a : Int)] ∧ a ≤ 1000 ∧ ns.length ≤ 1000 ∧ ∀ p, R (.ptr p) ((p, st7 p) :: M)
theorem b__law_state7 (B : Bt mg) : BodyOk P w K mg base k f n__law_state "_law_state" (defScope s__law_state) (defBody s__law_state) aSta7 := by
  rintro cdv A outer s0 H E hr ds M R ⟨ns, a, rfl, ha, hl, hp⟩
  have e9 : (((a : Int) + 9) - (a : Int)).toNat = 9 := by omega
  refine as_cons (as_lcJ 2 [("_law_k", 3)] rfl q__law_state.nd (blkOk_by (N := n__law_state) (sc := defScope s__law_state) (by decide +kernel)) (aj_range2 B.range (aA.val (avs_cons (v_ 1) (avs_cons (av_add (v_ 1) i_) avs_nil)) ⟨_, _, rfl, ⟨by omega, by omega, by omega, by omega⟩, ?_⟩)))
  rw [e9]
  refine ⟨by decide, fun t acc M' => ∃ cs : List Int, acc = cs.map .int ∧ cs.length = t ∧ M' = M, ⟨[], rfl, rfl, rfl⟩, ?_, ?_⟩
  · rintro t acc M' DD ht hlen ⟨cs, rfl, hc, rfl⟩ s H C' cl fp
    refine agw_name 3 q__law_state.nd fun s H C' cl fp => ats_nil ⟨fun _ s H C' cl fp => ?_, ntf⟩
    have fin : ∀ v : Int, ∃ M5, ((DD, Cell.lst (cs.map Val.int)) :: M') = (DD, Cell.lst (cs.map Val.int)) :: M5 ∧ ∃ cs' : List Int, cs.map Val.int ++ [Val.int v] = cs'.map .int ∧ cs'.length = t + 1 ∧ M5 = M' := fun v => ⟨M', rfl, cs ++ [v], by rw [List.map_append]; rfl, by rw [List.length_append, hc]; rfl, rfl⟩
    exact ae_ifp (tp_cmp (v_ 3) (av_lenSv B.len (v_ 0) .l) cp_lt) (fun c => (av_ixSv (v_ 0) (v_ 3) .l (by omega) (by omega)).val (fin _)) (fun c => (v_ 3).val (fin _))
  rintro q acc M3 ⟨cs, rfl, hc9, rfl⟩
  refine as_frz 2 rfl ?_
  show aSs _ _ [some (.lst (ns.map .int)), some (.int (a : Int)), some (.lst (cs.map .int)), none] _ _
  refine as_one (as_ret (ae_dict4 fun p => ap_cons s_ (d := .int (if (10 : Int) ^ (18 : Int).toNat ≤ at0 cs 0 then at0 cs 0 else 0)) ?_ (ap_cons s_ (v_ 2) (ap_cons s_ (av_add i_ (v_ 1)) (ap_cons s_ i_ (ap_nil ⟨_, rfl, Nat.le_of_ble_eq_true rfl, ?_⟩))))))
  · by_cases z : (10 : Int) ^ (18 : Int).toNat ≤ at0 cs 0
    · rw [if_pos z]
      exact ae_ifp (tp_cmp (av_ixSv (v_ 2) i_ .l (by decide) (by omega)) (av_pow i_ i_ ⟨by decide, by decide, by decide⟩) cp_ge) (fun _ => (av_ixSv (v_ 2) i_ .l (by decide) (by omega)).val ⟨rfl, rfl⟩) (fun c => absurd z c)
    · rw [if_neg z]
      exact ae_ifp (tp_cmp (av_ixSv (v_ 2) i_ .l (by decide) (by omega)) (av_pow i_ i_ ⟨by decide, by decide, by decide⟩) cp_ge) (fun c => absurd c z) (fun _ => i_.val ⟨rfl, rfl⟩)
  · exact Ret.cls (B := [(p, .dk (d7 (if (10 : Int) ^ (18 : Int).toNat ≤ at0 cs 0 then at0 cs 0 else 0) cs (7 + (a : Int)) 0))]) ⟨_, cs, _, _, rfl, hc9⟩ List.mem_cons_self (.ok (hp p))
abbrev GSta7 (P : Program) (w : World) (K : PySem.W.Frag) (mg : Str → Option Value) (base : Heap) : Prop := Gd P w K mg base 1 "_law_state" [] fun ds _ => aSta7 ds
end
end K54
/-! S44: a stream with one item replaced, written as the law of stage 7 does -/
namespace Sm
theorem item_turn {s : Stm} {far m : Nat} (hf : s.1.length ≤ far) : item s (far + m % s.2.length) = item s (far + m) := by
  rw [item_ge (by omega), item_ge (by omega)]
  unfold lp
  congr 1
  rw [show far + m % s.2.length - s.1.length = (far - s.1.length) + m % s.2.length by omega, show far + m - s.1.length = (far - s.1.length) + m by omega, Nat.add_mod_mod]
theorem with_item {s : Stm} {far n : Nat} {v : Int} (hf : s.1.length ≤ far) (hn : n < far) (ne : s.2 ≠ []) (i : Nat) : item (((List.range far).map (item s)).set n v, (List.range s.2.length).map fun j => item s (far + j)) i = if i = n then v else item s i := by
  have hL : 0 < s.2.length := List.length_pos_iff.mpr ne
  have l1 : (((List.range far).map (item s)).set n v).length = far := by rw [List.length_set, List.length_map, List.length_range]
  have l2 : ((List.range s.2.length).map fun j => item s (far + j)).length = s.2.length := by rw [List.length_map, List.length_range]
  rcases Nat.lt_or_ge i far with z | z
  · rw [item_lt (by show i < (((List.range far).map (item s)).set n v).length; rw [l1]; exact z)]
    show (((List.range far).map (item s)).set n v).getD i 0 = _
    rw [List.getD_eq_getElem?_getD, List.getElem?_set]
    by_cases e : n = i
    · subst e
      rw [if_pos rfl, if_pos (by rw [List.length_map, List.length_range]; exact z), if_pos rfl]
      rfl
    · rw [if_neg e, if_neg (fun h => e h.symm), List.getElem?_map, List.getElem?_range z]
      rfl
  · rw [item_ge (by show (((List.range far).map (item s)).set n v).length ≤ i; rw [l1]; exact z), if_neg (by omega)]
    show lp ((List.range s.2.length).map fun j => item s (far + j)) (i - (((List.range far).map (item s)).set n v).length) = _
    rw [l1]
    unfold lp
    rw [l2, List.getD_eq_getElem?_getD, List.getElem?_map, List.getElem?_range (Nat.mod_lt _ hL)]
    show item s (far + (i - far) % s.2.length) = _
    rw [item_turn hf, show far + (i - far) = i by omega]
end Sm
namespace K54
open PySem L2 Ab Sm Tx
/-! ### the names of the items -/
def jb (j : Nat) : Bool := decide (j < 12)
def ji (j : Nat) : Nat := if j < 12 then j else j - 12
def nm (j : Nat) : Str := if j < 12 then ("d" : Str) ++ iS (j : Nat) else ("w" : Str) ++ iS ((j - 12 : Nat) : Int)
def nmL (js : List Nat) : List Val := js.map fun j => .str (nm j)
theorem kw24 {j : Nat} (h : j < 24) : KwI (nm j) (jb j) (ji j) := kwI_of ((by decide +kernel : ∀ j < 24, kwB (nm j) (jb j) (ji j) = true) j h)
theorem nm_w0 {j : Nat} (h : j < 24) : nm j = "w0" ↔ j = 12 := (by decide +kernel : ∀ j < 24, nm j = "w0" ↔ j = 12) j h
theorem nm_d0 {j : Nat} (h : j < 24) : nm j = "d0" ↔ j = 0 := (by decide +kernel : ∀ j < 24, nm j = "d0" ↔ j = 0) j h
theorem nm_inj {i j : Nat} (hi : i < 24) (hj : j < 24) (h : nm i = nm j) : i = j := (by decide +kernel : ∀ i < 24, ∀ j < 24, nm i = nm j → i = j) i hi j hj h
theorem dw_d {b : Bool} : (if b = true then ("d" : Str) else "w") = "d" ↔ b = true := by cases b <;> decide
theorem dw_w {b : Bool} : (if b = true then ("d" : Str) else "w") = "w" ↔ b = false := by cases b <;> decide
section
variable {X : Cx} {Γ : Gam} {M : Mem} {a : Expr} {p1 p2 pos pos2 q : Pos} {j : Nat} {x : Str} {b : Bool} {n : Nat}
theorem av_kw0 (hk : KwI x b n) (ha : aV X a Γ M (.str x)) : aV X (.Subscript a (.Constant (.int 0) j q) pos) Γ M (.str (if b = true then "d" else "w")) := by
  obtain ⟨cc, h1, h2⟩ := hk.c0
  have h3 : (if b = true then ("d" : Str) else "w") = ⟨#[cc]⟩ := by rw [h2]; cases b <;> rfl
  rw [h3]
  have := hk.len
  exact av_ixS ha (i_ (i := 0)) (Ab.sz (by omega)) h1
theorem av_kwN (hk : KwI x b n) (hm : X.mg "int" = none) (ha : aV X a Γ M (.str x)) (hg : Gl X "int" := by rfl) (hst : starEach [.Subscript a (.Slice (some (.Constant (.int 1) j q)) none none p2) pos2] X.env = [(false, eval (.Subscript a (.Slice (some (.Constant (.int 1) j q)) none none p2) pos2) X.env)] := by rfl) : aV X (.Call (.Name "int" p1) [.Subscript a (.Slice (some (.Constant (.int 1) j q)) none none p2) pos2] [] pos) Γ M (.int (n : Nat)) := by
  have h1 := av_sliceS (p2 := p2) (pos := pos2) ha (ao_some (i_ (i := 1) (j := j) (pos := q))) ao_none (Ab.sz (by have := hk.len; omega))
  refine av_intS hm h1 ?_ ?_ hg hst
  · rw [hk.r]
    exact int12 n hk.n12
  · rw [hk.r]
    have := (ok12 n hk.n12).2
    omega
end
section
variable {P : Program} {w : World} {K : PySem.W.Frag} {mg : Str → Option Value} {base : Heap} {k : Nat} {f C : Addr}
theorem ae_of7 {X : Cx} {Γ : Gam} {M : Mem} {R : Val → Mem → Prop} {a b : Expr} {p1 pos : Pos} {xs : List Val} {p : Addr} {j m : Nat} (G : GOf7 X.prog X.w X.K X.mg X.base) (hr : Rm m X.A) (hm : 3 ≤ m) (ha : aV X a Γ M (.ptr p)) (hb : aV X b Γ M (.lst xs)) (hs : M[j]? = some (p, st7 p)) (x0 : 0 < xs.length) (x1 : xs.length ≤ 1000)
    (h : ∀ v, v ∈ xs → R v M) (hg : Gl X "_law_of" := by rfl)
    (he : starEach [a, b] X.env = [(false, eval a X.env), (false, eval b X.env)] := by rfl) (he2 : starEach [b] X.env = [(false, eval b X.env)] := by rfl) : aE X (.Call (.Name "_law_of" p1) [a, b] [] pos) Γ M R :=
  ae_g G hr hm (aa_cons (ha.val (aa_cons (hb.val (aa_nil (ak_nil ⟨rfl, p, j, xs, rfl, hs, x0, x1, h⟩))) (by rw [he2]; rfl))) (by rw [he, he2])) hg rfl rfl (he := by rw [he, he2]) (hpl := by rw [he]; rfl)
/-! ### _law_stream, _law_parts -/
structure Sr7 (lo : Int) (s : Stm) : Prop where
  lim : Lim s
  lo : lo ≤ item s 0
def aSr7 : ASp := fun ds M R => ∃ (p : Addr) (i : Nat) (lo : Int), ds = [.ptr p, .int lo] ∧ M[i]? = some (p, st7 p) ∧ 0 ≤ lo ∧ lo ≤ 1 ∧ ∀ s, Sr7 lo s → R (stV s) M
theorem setI7 {xs : List Int} {j : Nat} {v : Int} : (xs.map Val.int).set j (.int v) = (xs.set j v).map .int := by rw [List.map_set]
theorem at00 {xs : List Int} (h : 0 < xs.length) : at0 xs 0 = xs[0] := by
  show xs.getD 0 0 = _
  rw [List.getD_eq_getElem?_getD, List.getElem?_eq_getElem h]
  rfl
theorem b__law_stream7 (B : Bt mg) (D : GDr7 P w K mg base) (GO : GOf7 P w K mg base) : BodyOk P w K mg base 3 f n__law_stream "_law_stream" (defScope s__law_stream) (defBody s__law_stream) aSr7 := by
  rintro cdv A outer s0 H E hr ds M R ⟨p, i, lo, rfl, hi, h0, h1, hp⟩
  have hu := hr.u64
  have m7 : ∀ v : Int, v ∈ ([0, 0, 1, 1, 2, 3, 7] : List Int) → 0 ≤ v ∧ v ≤ 7 := by decide
  have m5 : ∀ v : Int, v ∈ ([0, 1, 1, 2, 5] : List Int) → 0 ≤ v ∧ v ≤ 7 := by decide
  refine as_cons (as_lcJ 2 [("_law_k", 3)] rfl q__law_stream.nd (blkOk_by (N := n__law_stream) (sc := defScope s__law_stream) (by decide +kernel)) (aj_range1 B.range (ae_dr7 D hr (by decide) (v_ 0) i_ hi (by decide) (by decide) fun c c0 c1 => ⟨_, rfl, by omega, by omega, ?_⟩)))
  refine ⟨by omega, fun t acc M' => ∃ xs : List Int, acc = xs.map .int ∧ xs.length = t ∧ (∀ v ∈ xs, 0 ≤ v ∧ v ≤ 7) ∧ M' = M, ⟨[], rfl, rfl, (fun _ h => nomatch h), rfl⟩, ?_, ?_⟩
  · rintro t acc M' D' ht hl ⟨xs, rfl, hxl, hx, rfl⟩ s H C' cl fp
    refine agw_name 3 q__law_stream.nd fun s H C' cl fp => ats_nil ⟨fun _ s H C' cl fp => ?_, ntf⟩
    refine ae_of7 GO hr (by decide) (v_ 0) (xs := ([0, 0, 1, 1, 2, 3, 7] : List Int).map .int) (j := i + 1) (av_lst (avs_cons i_ (avs_cons i_ (avs_cons i_ (avs_cons i_ (avs_cons i_ (avs_cons i_ (avs_cons i_ avs_nil))))))) szb) (by rw [List.getElem?_cons_succ]; exact hi) (by decide) (by decide) fun v hv => ?_
    obtain ⟨v, hv2, rfl⟩ := List.mem_map.mp hv
    refine ⟨M', rfl, xs ++ [v], by rw [List.map_append]; rfl, by rw [List.length_append, hxl]; rfl, fun u hu => ?_, rfl⟩
    rcases List.mem_append.mp hu with z | z
    · exact hx u z
    · rw [List.mem_singleton.mp z]
      exact m7 v hv2
  rintro q acc M3 ⟨xs, rfl, hxl, hx, rfl⟩
  refine as_cons (as_lcJ 4 [("_law_k", 3)] rfl q__law_stream.nd (blkOk_by (N := n__law_stream) (sc := defScope s__law_stream) (by decide +kernel)) (aj_range1 B.range (ae_bin (i_.val (ae_dr7 D hr (by decide) (v_ 0) i_ (j := i + 1) hi (by decide) (by decide) fun e e0 e1 => bv_add ⟨_, rfl, by omega, by omega, ?_⟩)))))
  refine ⟨by omega, fun t acc M' => ∃ ys : List Int, acc = ys.map .int ∧ ys.length = t ∧ (∀ v ∈ ys, 0 ≤ v ∧ v ≤ 7) ∧ M' = (q, .lst (xs.map .int)) :: M3, ⟨[], rfl, rfl, (fun _ h => nomatch h), rfl⟩, ?_, ?_⟩
  · rintro t acc M' D' ht hl ⟨ys, rfl, hyl, hy, rfl⟩ s H C' cl fp
    refine agw_name 3 q__law_stream.nd fun s H C' cl fp => ats_nil ⟨fun _ s H C' cl fp => ?_, ntf⟩
    refine ae_of7 GO hr (by decide) (v_ 0) (xs := ([0, 1, 1, 2, 5] : List Int).map .int) (j := i + 2) (av_lst (avs_cons i_ (avs_cons i_ (avs_cons i_ (avs_cons i_ (avs_cons i_ avs_nil))))) szb) (by rw [List.getElem?_cons_succ, List.getElem?_cons_succ]; exact hi) (by decide) (by decide) fun v hv => ?_
    obtain ⟨v, hv2, rfl⟩ := List.mem_map.mp hv
    refine ⟨_, rfl, ys ++ [v], by rw [List.map_append]; rfl, by rw [List.length_append, hyl]; rfl, fun u hu => ?_, rfl⟩
    rcases List.mem_append.mp hu with z | z
    · exact hy u z
    · rw [List.mem_singleton.mp z]
      exact m5 v hv2
  rintro q2 acc M4 ⟨ys, rfl, hyl, hy, rfl⟩
  have ylen : 0 < ys.length := by omega
  have yne : ys ≠ [] := List.length_pos_iff.mp ylen
  have fin : ∀ (us vs : List Int) {Γ : Gam}, Sr7 lo (us, vs) → Γ[2]? = some (some (.ptr q)) → Γ[4]? = some (some (.ptr q2)) → aSs (bcx P w K mg base n__law_stream "_law_stream" (defScope s__law_stream) f cdv A outer s0 H E) [(defBody s__law_stream).getD 3 (.Pass ⟨0, 0, 0, 0⟩)] Γ ((q2, .lst (vs.map .int)) :: (q, .lst (us.map .int)) :: M3) (kOf R) := fun us vs {Γ} hs g1 g2 => by
    exact as_one (as_ret (aE.val (av_tup (avs_cons (av_tupSv B.tuple (v_ 2 g1) (.c 1 rfl)) (avs_cons (av_tupSv B.tuple (v_ 4 g2) (.c 0 rfl)) avs_nil)) szb) (.drop (.drop (.ok (hp (us, vs) hs))))))
  have lim : ∀ {us vs : List Int}, (∀ v ∈ us, 0 ≤ v ∧ v ≤ 7) → (∀ v ∈ vs, 0 ≤ v ∧ v ≤ 7) → us.length ≤ 12 → vs.length ≤ 6 → vs ≠ [] → Lim (us, vs) := fun h1 h2 l1 l2 ne => ⟨l1, l2, ne, fun v hv => ⟨(h1 v hv).1, by have := (h1 v hv).2; omega⟩, fun v hv => ⟨(h2 v hv).1, by have := (h2 v hv).2; omega⟩⟩
  have st : ∀ (zs : List Int) (w : Int), (∀ v ∈ zs, 0 ≤ v ∧ v ≤ 7) → 0 ≤ w → w ≤ 7 → ∀ v ∈ zs.set 0 w, 0 ≤ v ∧ v ≤ 7 := fun zs w h w0 w1 v hv => by
    rcases List.mem_or_eq_of_mem_set hv with z | rfl
    · exact h v z
    · exact ⟨w0, w1⟩
  by_cases z : xs = []
  · refine as_cons (as_ifp (tp_cmp (v_ 2) (av_lst avs_nil szb) (cp_neL (ns := xs) (ms := []) (.lst 1 rfl) (.self _) hu)) (fun c => absurd z c) (fun _ => ?_))
    refine as_one (as_asg ((av_max2 B.max rfl (av_ixSv (v_ 4) i_ (.c 0 rfl) (by decide) (by omega)) (v_ 1)).val (ag_sub (n := 0) (jj := 0) (v_ 4) i_ rfl (by rw [List.length_map]; unfold ixN; rw [if_pos (by decide), if_pos (by omega)]; rfl) ?_)))
    show aSs _ _ _ ((q2, .lst ((ys.map Val.int).set 0 _)) :: _) _
    rw [setI7, at00 ylen]
    have b := hy ys[0] (List.getElem_mem _)
    refine fin xs _ ⟨lim hx (st ys _ hy (by omega) (by omega)) (by omega) (by rw [List.length_set]; omega) (by rw [Ne, ← List.length_eq_zero_iff, List.length_set]; omega), ?_⟩ rfl rfl
    subst z
    show lo ≤ item ([], ys.set 0 _) 0
    rw [item_ge (by exact Nat.le_refl _)]
    show lo ≤ lp (ys.set 0 _) 0
    rw [lp_lt (by rw [List.length_set]; omega), gd_eq (by rw [List.length_set]; omega), List.getElem_set_self]
    omega
  · have hx1 : 0 < xs.length := List.length_pos_iff.mpr z
    refine as_cons (as_ifp (tp_cmp (v_ 2) (av_lst avs_nil szb) (cp_neL (ns := xs) (ms := []) (.lst 1 rfl) (.self _) hu)) (fun _ => ?_) (fun c => absurd z c))
    refine as_one (as_asg ((av_max2 B.max rfl (av_ixSv (v_ 2) i_ (.c 1 rfl) (by decide) (by omega)) (v_ 1)).val (ag_sub (n := 1) (jj := 0) (v_ 2) i_ rfl (by rw [List.length_map]; unfold ixN; rw [if_pos (by decide), if_pos (by omega)]; rfl) ?_)))
    show aSs _ _ _ ((q2, .lst (ys.map .int)) :: (q, .lst ((xs.map Val.int).set 0 _)) :: _) _
    rw [setI7, at00 hx1]
    have b := hx xs[0] (List.getElem_mem _)
    refine fin _ ys ⟨lim (st xs _ hx (by omega) (by omega)) hy (by rw [List.length_set]; omega) (by omega) yne, ?_⟩ rfl rfl
    rw [item_lt (by show 0 < (xs.set 0 _).length; rw [List.length_set]; exact hx1)]
    show lo ≤ (xs.set 0 _).getD 0 0
    rw [gd_eq (by rw [List.length_set]; exact hx1), List.getElem_set_self]
    omega
abbrev GSr7 (P : Program) (w : World) (K : PySem.W.Frag) (mg : Str → Option Value) (base : Heap) : Prop := Gd P w K mg base 4 "_law_stream" [] fun ds _ => aSr7 ds
/-- the parts of a schedule -/
def ptV (a : Int) (s l : Stm) : Val := .tup [.int a, stV s, stV l]
structure Pt7 (a : Int) (s l : Stm) : Prop where
  a2 : 2 ≤ a
  a9 : a ≤ 9
  fs : Lim s
  fl : Lim l
  p : 0 < item l 0
def aPrt7 : ASp := fun ds M R => ∃ (p : Addr) (i : Nat), ds = [.ptr p] ∧ M[i]? = some (p, st7 p) ∧ ∀ a s l, Pt7 a s l → R (ptV a s l) M
theorem b__law_parts7 (GO : GOf7 P w K mg base) (GS : GSr7 P w K mg base) : BodyOk P w K mg base 4 f n__law_parts "_law_parts" (defScope s__law_parts) (defBody s__law_parts) aPrt7 := by
  rintro cdv A outer s0 H E hr ds M R ⟨p, i, rfl, hi, hp⟩
  have ma : ∀ v : Val, v ∈ (([2, 2, 3, 4, 9] : List Int).map .int) → ∃ a : Int, v = .int a ∧ 2 ≤ a ∧ a ≤ 9 := fun v hv => by
    obtain ⟨u, hu, rfl⟩ := List.mem_map.mp hv
    exact ⟨u, rfl, (by decide : ∀ u ∈ ([2, 2, 3, 4, 9] : List Int), 2 ≤ u ∧ u ≤ 9) u hu⟩
  refine as_one (as_ret (ae_tup (aa_cons (ae_g GO hr (by decide) (aa_cons ((v_ 0).val (aa_cons ((av_lst (ds := ([2, 2, 3, 4, 9] : List Int).map .int) (avs_cons i_ (avs_cons i_ (avs_cons i_ (avs_cons i_ (avs_cons i_ avs_nil))))) szb).val (aa_nil (ak_nil ⟨rfl, p, i, _, rfl, hi, by decide, by decide, fun v hv => ?_⟩))))))))) )
  obtain ⟨a, rfl, a2, a9⟩ := ma v hv
  exact aa_cons (ae_g GS hr (by decide) (aa_cons ((v_ 0).val (aa_cons (i_.val (aa_nil (ak_nil ⟨rfl, p, i, 0, rfl, hi, by decide, by decide, fun s hs => aa_cons (ae_g GS hr (by decide) (aa_cons ((v_ 0).val (aa_cons (i_.val (aa_nil (ak_nil ⟨rfl, p, i, 1, rfl, hi, by decide, by decide, fun l hl => aa_nil ⟨szb, .ok (hp a s l ⟨a2, a9, hs.lim, hl.lim, by have := hl.lo; omega⟩)⟩⟩)))))))⟩)))))))
abbrev GPrt7 (P : Program) (w : World) (K : PySem.W.Frag) (mg : Str → Option Value) (base : Heap) : Prop := Gd P w K mg base 5 "_law_parts" [] fun ds _ => aPrt7 ds
/-! ### _law_at, _law_schedule, _law_with -/
def aAt7 : ASp := fun ds M R => ∃ (s : Stm) (i : Int), ds = [stV s, .int i] ∧ s.2 ≠ [] ∧ 0 ≤ i ∧ R (.int (item s i.toNat)) M
theorem b__law_at7 (B : Bt mg) : BodyOk P w K mg base k f n__law_at "_law_at" (defScope s__law_at) (defBody s__law_at) aAt7 := by
  rintro cdv A outer s0 H E hr ds M R ⟨s, i, rfl, hn, h0, hp⟩
  have hl : 0 < s.2.length := List.length_pos_iff.mpr hn
  refine as_cons (as_asg (aE.val (v_ 0) (ag_tup rfl (ags_cons (ag_name 2 q__law_at.nd (ags_cons (ag_name 3 q__law_at.nd (ags_nil ?_))))))))
  have m0 := Int.emod_nonneg (i - s.1.length) (show (s.2.length : Int) ≠ 0 by omega)
  have m1 := Int.emod_lt_of_pos (i - s.1.length) (show (0 : Int) < s.2.length by omega)
  refine as_one (as_ret (ae_ifp (tp_cmp (v_ 1) (av_lenN B.len (v_ 2) (by first | exact .iT _ | exact .iL _ | exact .mT _ _ | exact .mL _ _ | exact .cm 0 rfl | exact .cm 1 rfl | exact .cm 2 rfl | exact .c 0 rfl | exact .c 1 rfl | exact .t _ | exact .l _ | exact .cm _ (by assumption))) cp_lt) (fun c => aE.val (av_ix (v_ 2) (v_ 1) (by first | exact .iT (by omega) (by omega) | exact .iL (by omega) (by omega) | exact .ci 0 rfl (by omega) (by omega) | exact .ci 1 rfl (by omega) (by omega) | exact .t rfl | exact .l rfl | exact .c 0 rfl rfl | exact .c 1 rfl rfl | assumption | exact .ci _ (by assumption) (by omega) (by omega))) (.ok ?_)) (fun c => aE.val (av_ix (v_ 3) (av_mod (av_sub (v_ 1) (av_lenN B.len (v_ 2) (by first | exact .iT _ | exact .iL _ | exact .mT _ _ | exact .mL _ _ | exact .cm 0 rfl | exact .cm 1 rfl | exact .cm 2 rfl | exact .c 0 rfl | exact .c 1 rfl | exact .t _ | exact .l _ | exact .cm _ (by assumption)))) (av_lenN B.len (v_ 3) (by first | exact .iT _ | exact .iL _ | exact .mT _ _ | exact .mL _ _ | exact .cm 0 rfl | exact .cm 1 rfl | exact .cm 2 rfl | exact .c 0 rfl | exact .c 1 rfl | exact .t _ | exact .l _ | exact .cm _ (by assumption))) (by first | omega | assumption)) (by first | exact .iT (by omega) (by omega) | exact .iL (by omega) (by omega) | exact .ci 0 rfl (by omega) (by omega) | exact .ci 1 rfl (by omega) (by omega) | exact .t rfl | exact .l rfl | exact .c 0 rfl rfl | exact .c 1 rfl rfl | assumption | exact .ci _ (by assumption) (by omega) (by omega))) (.ok ?_))))
  · have e : item s i.toNat = at0 s.1 i := by rw [item_lt (by omega)]; rfl
    rw [← e]
    exact hp
  · rw [← item_lp hn h0 c]
    exact hp
abbrev GAt7 (P : Program) (w : World) (K : PySem.W.Frag) (mg : Str → Option Value) (base : Heap) : Prop := Gd P w K mg base 1 "_law_at" [] fun ds _ => aAt7 ds
theorem av_at7 {X : Cx} {Γ : Gam} {M : Mem} {a b : Expr} {p1 pos : Pos} {s : Stm} {i : Int} {m : Nat} (G : GAt7 X.prog X.w X.K X.mg X.base) (hr : Rm m X.A) (hm : 1 ≤ m) (ha : aV X a Γ M (stV s)) (hb : aV X b Γ M (.int i)) (ne : s.2 ≠ []) (h0 : 0 ≤ i) (hg : Gl X "_law_at" := by rfl)
    (he : starEach [a, b] X.env = [(false, eval a X.env), (false, eval b X.env)] := by rfl) (he2 : starEach [b] X.env = [(false, eval b X.env)] := by rfl) : aV X (.Call (.Name "_law_at" p1) [a, b] [] pos) Γ M (.int (item s i.toNat)) :=
  ae_g G hr hm (aa_cons (ha.val (aa_cons (hb.val (aa_nil (ak_nil ⟨rfl, s, i, rfl, ne, h0, rfl, rfl⟩))) (by rw [he2]; rfl))) (by rw [he, he2])) hg rfl rfl (he := by rw [he, he2]) (hpl := by rw [he]; rfl)
def aSch7 (C : Addr) : ASp := fun ds M R => ∃ (a : Int) (s l : Stm), ds = [ptV a s l] ∧ Pt7 a s l ∧ R (scV C ⟨a, nf s, nf l⟩) M
theorem b__law_schedule7 (T : Rs K mg C) (I : Mks P w K mg base C) : BodyOk P w K mg base 5 f n__law_schedule "_law_schedule" (defScope s__law_schedule) (defBody s__law_schedule) (aSch7 C) := by
  rintro cdv A outer s0 H E hr ds M R ⟨a, s, l, rfl, hp7, hp⟩
  exact as_one (as_ret (ae_sch T I hr (by decide) ((av_ixT (v_ 0) i_ rfl).val ((av_ixT (v_ 0) i_ rfl).val ((av_ixT (v_ 0) i_ rfl).val ⟨a, s, l, rfl, rfl, rfl, hp7.a2, hp7.a9, hp7.fs, hp7.fl, by have := hp7.p; omega, .ok hp⟩)))))
abbrev GSch7 (P : Program) (w : World) (K : PySem.W.Frag) (mg : Str → Option Value) (base : Heap) (C : Addr) : Prop := Gd P w K mg base 6 "_law_schedule" [] fun ds _ => aSch7 C ds
theorem lim_of {us vs : List Int} (h : ∀ i, okI (item (us, vs) i)) (l1 : us.length ≤ 12) (l2 : vs.length ≤ 6) (ne : vs ≠ []) : Lim (us, vs) := by
  refine ⟨l1, l2, ne, fun v hv => ?_, fun v hv => ?_⟩
  · obtain ⟨i, hi, rfl⟩ := List.mem_iff_getElem.mp hv
    have := h i
    rw [item_lt (by exact hi), gd_eq (by exact hi)] at this
    exact this
  · obtain ⟨i, hi, rfl⟩ := List.mem_iff_getElem.mp hv
    have := h (us.length + i)
    rw [item_ge (by show us.length ≤ _; omega)] at this
    have e : us.length + i - us.length = i := by omega
    have this : okI (lp vs (us.length + i - us.length)) := this
    rw [e, lp_lt hi, gd_eq hi] at this
    exact this
end
end K54
namespace K54
open PySem L2 Ab Sm Tx
theorem gm7 {i j : Int} (ha : i.natAbs < 2 ^ 1000) (hb : j.natAbs < 2 ^ 1000) : CMulU i j :=
  .inr (mulx_ok (Nat.lt_of_lt_of_le ha (Nat.pow_le_pow_right (by decide) (by decide : 1000 ≤ 2100))) (Nat.lt_of_lt_of_le hb (Nat.pow_le_pow_right (by decide) (by decide : 1000 ≤ 2100))) (by decide))
theorem gs7 {i : Int} (h0 : 0 ≤ i) (h : i ≤ 1000000) : i.natAbs < 2 ^ 1000 := Nat.lt_of_le_of_lt (show i.natAbs ≤ 1000000 by omega) (by decide +kernel)
theorem li7 {s : Stm} (h : Lim s) (i : Nat) : 0 ≤ item s i ∧ item s i ≤ 1000000 := h.item i
section
variable {P : Program} {w : World} {K : PySem.W.Frag} {mg : Str → Option Value} {base : Heap} {k : Nat} {f C : Addr}
/-! ### _law_stage_end, _law_is_frozen -/
theorem siz_7 {a : Int} {l : Stm} (a2 : 2 ≤ a) (a9 : a ≤ 9) (hl : Lim l) {t : Nat} (ht : t ≤ 100) : (siz a.toNat (item l) t).natAbs < 2 ^ 1000 := by
  have h1 := siz_le9 (k := a.toNat) (by omega) (fun j => (li7 hl j).1) (fun j => (li7 hl j).2) t
  have h2 := siz_nn (k := a.toNat) (fun j => (li7 hl j).1) t
  have h3 : 9 ^ t ≤ 9 ^ 100 := Nat.pow_le_pow_right (by decide) ht
  have h4 : 4000000 * 9 ^ 100 < 2 ^ 1000 := by decide +kernel
  have h5 : ((9 ^ t : Nat) : Int) ≤ ((9 ^ 100 : Nat) : Int) := by exact_mod_cast h3
  omega
def aSte7 : ASp := fun ds M R => ∃ (a : Int) (s l : Stm) (t : Nat), ds = [ptV a s l, .int (t : Int)] ∧ 2 ≤ a ∧ a ≤ 9 ∧ Lim s ∧ Lim l ∧ t ≤ 99 ∧ R (.int (ed a.toNat (item s) (item l) t)) M
theorem b__law_stage_end7 (B : Bt mg) (GA : GAt7 P w K mg base) : BodyOk P w K mg base 1 f n__law_stage_end "_law_stage_end" (defScope s__law_stage_end) (defBody s__law_stage_end) aSte7 := by
  rintro cdv A outer s0 H E hr ds M R ⟨a, s, l, u, rfl, a2, a9, hs, hl, hu, hp⟩
  have ka := Int.toNat_of_nonneg (show 0 ≤ a by omega)
  have m1 : (a - 1).natAbs < 2 ^ 1000 := Nat.lt_of_le_of_lt (show (a - 1).natAbs ≤ 9 by omega) (by decide +kernel)
  have m2 : a.natAbs < 2 ^ 1000 := Nat.lt_of_le_of_lt (show a.natAbs ≤ 9 by omega) (by decide +kernel)
  refine as_cons (as_par 2 3 q__law_stage_end.nd rfl (by decide) (aA.val (avs_cons (av_at7 GA hr (by decide) (av_ixT (v_ 0) i_ rfl) i_ hl.ne (by decide)) (avs_cons (av_at7 GA hr (by decide) (av_ixT (v_ 0) i_ rfl) i_ hs.ne (by decide)) avs_nil)) ⟨_, _, rfl, ?_⟩))
  refine as_cons (as_forW PassesOwn.never rfl (aj_range2 B.range (aA.val (avs_cons i_ (avs_cons (av_add (v_ 1) i_) avs_nil)) ⟨_, _, rfl, ⟨by omega, by omega, by omega, by omega⟩, ?_⟩)))
  refine ⟨fun t Γ M' => M' = M ∧ Γ = [some (ptV a s l), some (.int (u : Int)), some (.int (siz a.toNat (item l) t)), some (.int (ed a.toNat (item s) (item l) t)), none], ⟨_, _, ⟨rfl, rfl⟩, (by repeat' first | exact le_nil | refine le_skip ?_ | refine le_keep rfl ?_), (by repeat' first | exact List.Sublist.refl _ | exact List.sublist_append_right _ _ | apply List.Sublist.cons₂ | apply List.Sublist.cons)⟩, ?_, ?_⟩
  · rintro t Γ M' ht ⟨rfl, rfl⟩
    have ht2 : t < u := by omega
    have hz := siz_7 a2 a9 hl (t := t) (by omega)
    refine ag_name 4 q__law_stage_end.nd ?_
    refine as_cons (as_setv (d := .int (ed a.toNat (item s) (item l) (t + 1))) 3 q__law_stage_end.nd ?_ ?_)
    · have e : ed a.toNat (item s) (item l) (t + 1) = ed a.toNat (item s) (item l) t + item s (1 + (t : Int)).toNat + (a - 1) * siz a.toNat (item l) t := by
        rw [ed, ka, show (1 + (t : Int)).toNat = t + 1 by omega]
      rw [e]
      exact av_add (av_add (v_ 3) (av_at7 GA hr (by decide) (av_ixT (v_ 0) i_ rfl) (v_ 4) hs.ne (by omega))) (av_mulU (av_sub (av_ixT (v_ 0) i_ rfl) i_) (v_ 2) (gm7 m1 hz))
    refine as_one (as_setv (d := .int (siz a.toNat (item l) (t + 1))) 2 q__law_stage_end.nd ?_ ?_)
    · have e : siz a.toNat (item l) (t + 1) = item l (1 + (t : Int)).toNat + a * siz a.toNat (item l) t := by
        rw [siz, ka, show (1 + (t : Int)).toNat = t + 1 by omega]
      rw [e]
      exact av_add (av_at7 GA hr (by decide) (av_ixT (v_ 0) i_ rfl) (v_ 4) hl.ne (by omega)) (av_mulU (av_ixT (v_ 0) i_ rfl) (v_ 2) (gm7 m2 hz))
    exact ⟨_, _, ⟨rfl, rfl⟩, (by repeat' first | exact le_nil | refine le_skip ?_ | refine le_keep rfl ?_), (by repeat' first | exact List.Sublist.refl _ | exact List.sublist_append_right _ _ | apply List.Sublist.cons₂ | apply List.Sublist.cons)⟩
  · rintro Γ M' ⟨rfl, rfl⟩
    rw [show ((u : Int) + 1 - 1).toNat = u by omega]
    exact as_one (as_retv (v_ 3) (.ok hp))
abbrev GSte7 (P : Program) (w : World) (K : PySem.W.Frag) (mg : Str → Option Value) (base : Heap) : Prop := Gd P w K mg base 2 "_law_stage_end" [] fun ds _ => aSte7 ds
def aFrz7 : ASp := fun ds M R => ∃ (a : Int) (s l : Stm) (n : Int) (x : Str) (b : Bool) (i : Nat), ds = [ptV a s l, .int n, .str x] ∧ 2 ≤ a ∧ a ≤ 9 ∧ Lim s ∧ Lim l ∧ KwI x b i ∧ R (.bl (frz a.toNat (item s) (item l) n b i)) M
theorem b__law_is_frozen7 (B : Bt mg) (GA : GAt7 P w K mg base) (GE : GSte7 P w K mg base) : BodyOk P w K mg base 2 f n__law_is_frozen "_law_is_frozen" (defScope s__law_is_frozen) (defBody s__law_is_frozen) aFrz7 := by
  rintro cdv A outer s0 H E hr ds M R ⟨a, s, l, n, x, b, i, rfl, a2, a9, hs, hl, hk, hp⟩
  have n12 := hk.n12
  refine as_cons (as_setv (d := .int (i : Int)) 3 q__law_is_frozen.nd (av_kwN hk B.int (v_ 2)) ?_)
  cases b with
  | true =>
    refine as_cons (as_ifp (tp_cmp (av_kw0 hk (v_ 2)) s_ cp_eqS) (fun _ => ?_) (fun c => absurd rfl c))
    refine as_one (as_ret (ae_or (ae_cmp (v_ 3) i_ cmp_eqI ⟨_, rfl, fun z => ?_, fun z => ae_one ?_⟩)))
    · have z2 : (i : Int) = 0 := of_decide_eq_true z
      refine .ok ?_
      have e : frz a.toNat (item s) (item l) n true i = true := by
        unfold frz
        rw [if_pos rfl]
        exact decide_eq_true (.inl (by omega))
      rw [← e]
      exact hp
    · have z2 : ¬ (i : Int) = 0 := of_decide_eq_false z
      refine ae_cmpM (ae_g GE hr (by decide) (aa_cons ((v_ 0).val (aa_cons ((av_sub (v_ 3) i_).val (aa_nil (ak_nil ⟨rfl, a, s, l, i - 1, by rw [show (i : Int) - 1 = ((i - 1 : Nat) : Int) by omega], a2, a9, hs, hl, by omega, (v_ 1).val ⟨_, cmp_lt, .ok ?_⟩⟩)))))))
      have e : frz a.toNat (item s) (item l) n true i = decide (ed a.toNat (item s) (item l) (i - 1) < n) := by
        unfold frz
        rw [if_pos rfl]
        exact decide_eq_decide.mpr ⟨fun h => h.resolve_left (by omega), .inr⟩
      rw [← e]
      exact hp
  | false =>
    refine as_cons (as_ifp (tp_cmp (av_kw0 hk (v_ 2)) s_ cp_eqS) (fun c => absurd (dw_d.mp c) Bool.false_ne_true) (fun _ => as_nil ?_))
    refine as_one (as_ret (ae_cmpM (ae_bin (ae_g GE hr (by decide) (aa_cons ((v_ 0).val (aa_cons ((v_ 3).val (aa_nil (ak_nil ⟨rfl, a, s, l, i, rfl, a2, a9, hs, hl, by omega, (av_at7 GA hr (by decide) (av_ixT (v_ 0) i_ rfl) (av_add (v_ 3) i_) hs.ne (by omega)).val (bv_add ((v_ 1).val ⟨_, cmp_lt, .ok ?_⟩))⟩))))))))) )
    exact hp
abbrev GFrz7 (P : Program) (w : World) (K : PySem.W.Frag) (mg : Str → Option Value) (base : Heap) : Prop := Gd P w K mg base 3 "_law_is_frozen" [] fun ds _ => aFrz7 ds
/-! ### _law_items -/
def aIts7 : ASp := fun ds M R => ds = [] ∧ R (.lst (nmL (List.range 24))) M
theorem its7 : nmL (List.range 24) = ((List.range 12).map fun (t : Nat) => Val.str (("d" : Str) ++ iS (t : Int))) ++ (List.range 12).map fun (t : Nat) => Val.str (("w" : Str) ++ iS (t : Int)) := rfl
theorem b__law_items7 (B : Bt mg) (hs : mg "str" = none) : BodyOk P w K mg base k f n__law_items "_law_items" (defScope s__law_items) (defBody s__law_items) aIts7 := by
  rintro cdv A outer s0 H E hr ds M R ⟨rfl, hp⟩
  have d1 : ∀ (c : Str) (t : Nat), t < 12 → c.length ≤ 1 → c.length + (toString (t : Int) : Str).length ≤ sizeLine := fun c t ht hc => by
    have : (toString (t : Int) : Str).length ≤ 2 := (ok12 t ht).2
    exact Ab.sz (by omega)
  refine as_one (as_ret ((av_catL (xs := (List.range 12).map fun (t : Nat) => Val.str (("d" : Str) ++ iS (t : Int))) (ys := (List.range 12).map fun (t : Nat) => Val.str (("w" : Str) ++ iS (t : Int))) (ae_lcP [("_law_k", 0)] (fun (t : Nat) => Val.str (("d" : Str) ++ iS (t : Int))) rfl q__law_items.nd (blkOk_by (N := n__law_items) (sc := defScope s__law_items) (by decide +kernel)) (ai_range1 (n := 12) B.range (i_.val ⟨_, rfl, by decide, by decide, by decide, rfl⟩)) ?_ (by decide) ⟨rfl, rfl⟩) (ae_lcP [("_law_k", 0)] (fun (t : Nat) => Val.str (("w" : Str) ++ iS (t : Int))) rfl q__law_items.nd (blkOk_by (N := n__law_items) (sc := defScope s__law_items) (by decide +kernel)) (ai_range1 (n := 12) B.range (i_.val ⟨_, rfl, by decide, by decide, by decide, rfl⟩)) ?_ (by decide) ⟨rfl, rfl⟩) (.self _) (.self _) (by decide)).val (.ok ?_)))
  · intro t acc D ht s1 H1 C1 cl fp
    refine agw_name 0 q__law_items.nd fun s1 H1 C1 cl fp => ?_
    rw [Int.zero_add]
    exact (av_addS s_ (av_strI hs (v_ 0) (log_lt (Nat.lt_of_lt_of_le (show ((t : Int)).natAbs < 2 ^ 20 by omega) (Nat.pow_le_pow_right (by decide) (by decide))))) (d1 _ t ht (by decide))).val ⟨rfl, rfl⟩
  · intro t acc D ht s1 H1 C1 cl fp
    refine agw_name 0 q__law_items.nd fun s1 H1 C1 cl fp => ?_
    rw [Int.zero_add]
    exact (av_addS s_ (av_strI hs (v_ 0) (log_lt (Nat.lt_of_lt_of_le (show ((t : Int)).natAbs < 2 ^ 20 by omega) (Nat.pow_le_pow_right (by decide) (by decide))))) (d1 _ t ht (by decide))).val ⟨rfl, rfl⟩
  · rw [← its7]
    exact hp
abbrev GIts7 (P : Program) (w : World) (K : PySem.W.Frag) (mg : Str → Option Value) (base : Heap) : Prop := Gd P w K mg base 1 "_law_items" [] fun ds _ => aIts7 ds
end
end K54
namespace K54
open PySem L2 Ab Sm Tx
section
variable {P : Program} {w : World} {K : PySem.W.Frag} {mg : Str → Option Value} {base : Heap} {k : Nat} {f C : Addr}
/-! ### _law_place, _law_power, _law_first -/
def aPow7 : ASp := fun ds M R => ∃ (a e : Nat), ds = [.int (a : Int), .int (e : Int)] ∧ a ≤ 9 ∧ e ≤ 99 ∧ R (.int ((a ^ e : Nat) : Int)) M
end
end K54
namespace K54
open PySem L2 Ab Sm Tx
/-! ### rows with the free items set -/
def itB (b : Bool) (s l : Stm) (i : Nat) : Int := if b = true then item s i else item l i
def lv0 (j : Nat) : Int := if j = 12 then 1 else 0
def FF (k j : Nat) : Nat := fli k (jb j) (ji j)
theorem jj_inj {i j : Nat} (hi : i < 24) (hj : j < 24) (h1 : jb i = jb j) (h2 : ji i = ji j) : i = j := (by decide +kernel : ∀ i < 24, ∀ j < 24, jb i = jb j → ji i = ji j → i = j) i hi j hj h1 h2
theorem ji_lt {j : Nat} (h : j < 24) : ji j < 12 := (by decide +kernel : ∀ j < 24, ji j < 12) j h
theorem j_of (b : Bool) {i : Nat} (h : i < 12) : ∃ j, j < 24 ∧ jb j = b ∧ ji j = i := by
  cases b with
  | true => exact ⟨i, by omega, by unfold jb; simp [h], by unfold ji; rw [if_pos h]⟩
  | false => exact ⟨i + 12, by omega, by unfold jb; simp, by unfold ji; rw [if_neg (by omega)]; omega⟩
theorem lv_t {j : Nat} (h : jb j = true) : lv0 j = 0 := by
  unfold jb at h
  have := of_decide_eq_true h
  unfold lv0
  rw [if_neg (by omega)]
theorem lv_f {j : Nat} (hj : j < 24) (h : jb j = false) : lv0 j = if ji j = 0 then 1 else 0 := by
  unfold jb at h
  have := of_decide_eq_false h
  unfold lv0 ji
  rw [if_neg (show ¬ j < 12 by omega)]
  by_cases z : j = 12
  · rw [if_pos z, if_pos (by omega)]
  · rw [if_neg z, if_neg (by omega)]
theorem lv_b (j : Nat) : 0 ≤ lv0 j ∧ lv0 j ≤ 1 := by
  unfold lv0
  split <;> omega
structure Up (V : Nat → Int → Prop) (js : List Nat) (s l s' l' : Stm) : Prop where
  ls : Lim s'
  ll : Lim l'
  up : ∀ j ∈ js, V j (itB (jb j) s' l' (ji j))
  off : ∀ b i, (∀ j ∈ js, ¬ (jb j = b ∧ ji j = i)) → itB b s' l' i = itB b s l i
theorem Up.nil {V : Nat → Int → Prop} {s l : Stm} (hs : Lim s) (hl : Lim l) : Up V [] s l s l := ⟨hs, hl, (fun _ h => nomatch h), fun _ _ _ => rfl⟩
/-- rows whose free items are at their least values -/
def lsS (k : Nat) (s l : Nat → Int) (n : Int) (i : Nat) : Int := if i < 12 ∧ frz k s l n true i = false then 0 else s i
def lsL (k : Nat) (s l : Nat → Int) (n : Int) (i : Nat) : Int := if i < 12 ∧ frz k s l n false i = false then (if i = 0 then 1 else 0) else l i
/-- the free items, by their numbers -/
structure Fr7 (k : Nat) (s l : Nat → Int) (n : Int) (js : List Nat) : Prop where
  lt : ∀ j ∈ js, j < 24
  mem : ∀ j, j < 24 → (j ∈ js ↔ frz k s l n (jb j) (ji j) = false)
  len : js.length ≤ 24
section
variable {k v : Nat} {s l : Nat → Int} {n : Int} {js : List Nat}
theorem Fr7.of : Fr7 k s l n ((List.range 24).filter fun j => !frz k s l n (jb j) (ji j)) := by
  refine ⟨fun j h => List.mem_range.mp (List.mem_filter.mp h).1, fun j hj => ?_, Nat.le_trans (List.length_filter_le _ _) (by rw [List.length_range]; exact Nat.le_refl _)⟩
  rw [List.mem_filter, Bool.not_eq_true']
  exact ⟨fun h => h.2, fun h => ⟨List.mem_range.mpr hj, h⟩⟩
theorem Fr7.ne (F : Fr7 k s l n js) : ∀ j ∈ js, ¬ (jb j = true ∧ ji j = 0) := fun j hj ⟨h1, h2⟩ => by
  have := (F.mem j (F.lt j hj)).mp hj
  rw [h1, h2] at this
  unfold frz at this
  rw [if_pos rfl] at this
  exact of_decide_eq_false this (.inl rfl)
theorem Fr7.fre (F : Fr7 k s l n js) {j : Nat} (hj : j ∈ js) : Fre k s l n (jb j) (ji j) := ⟨ji_lt (F.lt j hj), (F.mem j (F.lt j hj)).mp hj⟩
theorem Fr7.of_fre (F : Fr7 k s l n js) {b : Bool} {i : Nat} (h : Fre k s l n b i) : ∃ j, j ∈ js ∧ jb j = b ∧ ji j = i := by
  obtain ⟨j, h1, rfl, rfl⟩ := j_of b h.1
  exact ⟨j, (F.mem j h1).mpr h.2, rfl, rfl⟩
theorem ls_rws (r : Rws k s l) : Rws k (lsS k s l n) (lsL k s l n) := by
  refine ⟨r.k2, fun j => ?_, fun j => ?_, ?_⟩
  · unfold lsS
    split
    · exact Int.le_refl _
    · exact r.rs j
  · unfold lsL
    split
    · split <;> omega
    · exact r.rl j
  · unfold lsL
    split
    · rw [if_pos rfl]; omega
    · exact r.p
end
section
variable {V : Nat → Int → Prop} {k : Nat} {s l s' l' : Stm} {n : Int} {js : List Nat}
theorem Up.fre (h : Up V js s l s' l') (F : Fr7 k (item s) (item l) n js) {b : Bool} {i : Nat} (hf : Fre k (item s) (item l) n b i) : ∃ j, j < 24 ∧ jb j = b ∧ ji j = i ∧ V j (itB b s' l' i) := by
  obtain ⟨j, hj, rfl, rfl⟩ := F.of_fre hf
  exact ⟨j, F.lt j hj, rfl, rfl, h.up j hj⟩
theorem Up.frz (h : Up V js s l s' l') (F : Fr7 k (item s) (item l) n js) {b : Bool} {i : Nat} (hf : ¬ Fre k (item s) (item l) n b i) : itB b s' l' i = itB b s l i :=
  h.off b i fun j hj ⟨e1, e2⟩ => hf (by rw [← e1, ← e2]; exact F.fre hj)
theorem Up.ge (h : Up (fun j x => lv0 j ≤ x) js s l s' l') (F : Fr7 k (item s) (item l) n js) : (∀ i, lsS k (item s) (item l) n i ≤ item s' i) ∧ ∀ i, lsL k (item s) (item l) n i ≤ item l' i := by
  refine ⟨fun i => ?_, fun i => ?_⟩
  · unfold lsS
    split
    · exact (li7 h.ls i).1
    · next c => exact Int.le_of_eq (h.frz F (b := true) c).symm
  · unfold lsL
    split
    · next c =>
      obtain ⟨j, j1, j2, j3, e⟩ := h.fre F (b := false) c
      rw [lv_f j1 j2, j3] at e
      exact e
    · next c => exact Int.le_of_eq (h.frz F (b := false) c).symm
theorem Up.rws (h : Up (fun j x => lv0 j ≤ x) js s l s' l') (F : Fr7 k (item s) (item l) n js) (r : Rws k (item s) (item l)) : Rws k (item s') (item l') :=
  ⟨r.k2, fun j => (li7 h.ls j).1, fun j => (li7 h.ll j).1, Int.lt_of_lt_of_le (ls_rws (n := n) r).p ((h.ge F).2 0)⟩
theorem Up.pt {a : Int} (h : Up (fun j x => lv0 j ≤ x) js s l s' l') (F : Fr7 k (item s) (item l) n js) (r : Rws k (item s) (item l)) (hp : Pt7 a s l) : Pt7 a s' l' := ⟨hp.a2, hp.a9, h.ls, h.ll, (h.rws F r).p⟩
theorem Up.weak {W : Nat → Int → Prop} (h : Up V js s l s' l') (hw : ∀ j x, V j x → W j x) : Up W js s l s' l' := ⟨h.ls, h.ll, fun j hj => hw _ _ (h.up j hj), h.off⟩
end
end K54
/-! Ab115: y = [.. for .. if c], pure items, never changed behind it -/
namespace Ab
open PySem PySem.Spec PyProof.Rows L2
section
variable {X : Cx} {Γ : Gam} {M : Mem} {k : AK} {sts : List Stmt} {pos : Pos} {y : Str} {n : Nat}
theorem as_lcF {tg iter elt c : Expr} {scope : Scope} {py spos : Pos} (m : Nat) (own : List (Str × Nat)) {it : Nat → Val} (g : Nat → Val) (p : Nat → Bool) (hc : X.calm = true) (hN : X.N.Nodup) (ok : BlkOk X.N X.env.scope scope own)
    (hi : aI X tg iter Γ M n it (fun _ => True) (fun M' => M' = M))
    (hs : ∀ i acc D, i < n → bG X scope (own.map (·.2)) tg (it i) (wipeG Γ (own.map (·.2))) ((D, .lst acc) :: M) fun Γ2 M2 => ∀ s H C cl fp, aT (bx X scope s H C cl fp) c Γ2 M2 (fun b M3 => b = p i ∧ M3 = (D, .lst acc) :: M) ∧ (p i = true → aE (bx X scope s H C cl fp) elt Γ2 ((D, .lst acc) :: M) fun y M4 => y = g i ∧ M4 = (D, .lst acc) :: M))
    (hn : n ≤ 100000) (h : aSs X sts (Γ.set m (some (.lst (((List.range n).filter p).map g)))) M k) (hm : m < Γ.length := by exact Nat.le_of_ble_eq_true rfl) (hy : X.N[m]? = some y := by rfl) (hyl : X.env.scope.names.lookup y = some .local := by rfl)
    (hsw : swapsWith (.ListComp elt [⟨tg, iter, [c], 0⟩] scope pos) (some (.Name y py)) spos.line X.env = pure true := by exact sw_true rfl rfl rfl (by decide +kernel))
    (hf : ∀ x, foldedSetIterable iter X.env x = pure x := by intro _; rfl) :
    aSs X (.Assign [.Name y py] (.ListComp elt [⟨tg, iter, [c], 0⟩] scope pos) spos :: sts) Γ M k := by
  refine as_cons (as_lcJ m own hc hN ok (aj_ai hi fun M1 e => ?_) hy hyl hsw hf)
  subst e
  refine ⟨hn, fun i acc M' => M' = M1 ∧ acc = ((List.range i).filter p).map g, ⟨rfl, rfl⟩, ?_, ?_⟩
  · rintro i acc M' D hi' _ ⟨rfl, rfl⟩ s H C cl fp
    intro Hi1 H1 σ1 v1 ok1 en1 r1 Q1 q1
    refine hs i _ D hi' s H C cl fp Hi1 H1 σ1 v1 ok1 en1 r1 Q1 fun Γ2 M2 σ2 Hi2 H2 h2 => q1 Γ2 M2 σ2 Hi2 H2 fun s' H' C' cl' fp' => ats_one ((h2 s' H' C' cl' fp').1.mono fun b M3 hb => ?_)
    obtain ⟨rfl, rfl⟩ := hb
    refine ⟨fun z s2 H2 C2 cl2 fp2 => ((h2 s2 H2 C2 cl2 fp2).2 z).mono fun y M4 hy => ?_, fun z => ?_⟩
    · obtain ⟨rfl, rfl⟩ := hy
      exact ⟨_, rfl, rfl, by rw [List.range_succ, List.filter_append, List.map_append, List.filter_cons, if_pos z]; rfl⟩
    · exact ⟨_, rfl, rfl, by rw [List.range_succ, List.filter_append, List.filter_cons, if_neg (by rw [z]; decide)]; simp⟩
  · rintro D acc M' ⟨rfl, rfl⟩
    refine as_frz m (by rw [List.getElem?_set_self hm]) ?_
    rw [List.set_set]
    exact h
end
end Ab
namespace K54
open PySem L2 Ab Sm Tx
section
variable {P : Program} {w : World} {K : PySem.W.Frag} {mg : Str → Option Value} {base : Heap} {k : Nat} {f C C2 : Addr}
theorem nmL_len {js : List Nat} : (nmL js).length = js.length := List.length_map ..
theorem nmL_get {js : List Nat} {t : Nat} (h : t < js.length) : (nmL js).getD t .non = .str (nm (js.getD t 0)) := by
  unfold nmL
  rw [List.getD_eq_getElem?_getD, List.getElem?_map, List.getD_eq_getElem?_getD, List.getElem?_eq_getElem h]
  rfl
theorem js_get {js : List Nat} {t : Nat} (h : t < js.length) : js.getD t 0 ∈ js := by
  rw [List.getD_eq_getElem?_getD, List.getElem?_eq_getElem h]
  exact List.getElem_mem h
/-! ### _law_horizon -/
/-! ### _law_drawn -/
end
end K54
namespace K54
open PySem L2 Ab Sm Tx
theorem ga7 {a : Int} {s l : Stm} (h : Pt7 a s l) : GoodS ⟨a, nf s, nf l⟩ := good_nf h.a2 h.a9 h.fs.ne h.fl.ne (lim_nf h.fs.ne h.fs.l1 h.fs.l2 h.fs.a1 h.fs.a2) (lim_nf h.fl.ne h.fl.l1 h.fl.l2 h.fl.a1 h.fl.a2) (by have := h.p; omega)
theorem in7 {s : Stm} (h : Lim s) : item (nf s) = item s := funext fun i => (nf_spec h.ne).it i
end K54
namespace Ab
open PySem PySem.Spec PyProof.Rows L2
section
variable {prog : Program} {w : World} {A : Around} {E : Value → Shared → Prop}
theorem forIn_rng {M : Model} {b : Nat → PUnit → Sem (ForInStep PUnit)} (J : Nat → Shared → Prop) : ∀ (k j : Nat) {s : Shared} {Q : PUnit → Shared → Prop}, J j s → (∀ i s, j ≤ i → i < j + k → J i s → wpAny M A (b i ⟨⟩) (fun r s' => r = .yield ⟨⟩ ∧ J (i + 1) s') E s) → (∀ s, J (j + k) s → Q ⟨⟩ s) →
    wpAny M A (forIn (List.range' j k) PUnit.unit b) Q E s
  | 0, j, s, Q, h0, _, hd => by
    show wpAny M A (forIn ([] : List Nat) PUnit.unit b) Q E s
    rw [List.forIn_nil]
    exact wpAny_pure (hd s h0)
  | k + 1, j, s, Q, h0, hs, hd => by
    rw [List.range'_succ, List.forIn_cons]
    refine wpAny_bind (wpAny_mono (hs j s (Nat.le_refl _) (by omega) h0) (fun r s' h => ?_) fun _ _ h => h)
    obtain ⟨rfl, h⟩ := h
    exact forIn_rng J k (j + 1) h (fun i s a b => hs i s (by omega) (by omega)) (fun s h => hd s (by rw [show j + (k + 1) = j + 1 + k by omega]; exact h))
theorem of_isStrOf {x y : Str} {t : Tok} (h : Value.isStrOf x (.str y t) = true) : x = y := by
  unfold Value.isStrOf at h
  exact (eq_of_beq h).symm
/-- an entry with a text for its key -/
abbrev stE (w : World) (q : Str × Tok × Value) : DictEntry := ⟨PyData.keyHash w.params q.1, .str q.1 q.2.1, q.2.2⟩
theorem ss_keys {kvs : List (Str × Value)} : ∀ {es : List DictEntry} {k : List (Str × Value)}, (∀ e ∈ es, ∃ k, (mixKind prog w).is k e.key = true ∧ e.hash = (mixKind prog w).hash k) → PySem.Pairs (mixKind prog w) es (kwK k) → ∃ qs : List (Str × Tok × Value), es = qs.map (stE w) ∧ k = qs.map fun q => (q.1, q.2.2)
  | [], [], _, _ => ⟨[], rfl, rfl⟩
  | [], _ :: _, _, h => nomatch h
  | _ :: _, [], _, h => nomatch h
  | e :: es, x :: k, he, .cons h1 h2 h3 => by
    obtain ⟨qs, r1, r2⟩ := ss_keys (kvs := kvs) (fun e h => he e (List.mem_cons_of_mem _ h)) h3
    obtain ⟨kk, i1, i2⟩ := he e List.mem_cons_self
    obtain rfl : kk = .inr x.1 := (mixKind prog w).inj _ _ _ i1 h1
    obtain ⟨hs, ky, vl⟩ := e
    cases ky with
    | str y t =>
      have e1 : x.1 = y := by
        have h1 : Value.isStrOf x.1 (.str y t) = true := h1
        exact of_isStrOf h1
      refine ⟨(x.1, t, vl) :: qs, ?_, ?_⟩
      · rw [List.map_cons, ← r1, e1]
        have i2 : hs = _ := i2
        rw [i2, e1]
        rfl
      · have h2 : vl = x.2 := h2
        rw [List.map_cons, ← r2, h2]
    | _ => exact nomatch h1
theorem forIn_skip {β : Type} {f : β → PUnit → Sem (ForInStep PUnit)} : ∀ {l : List β}, (∀ x ∈ l, f x ⟨⟩ = pure (.yield ⟨⟩)) → forIn l PUnit.unit f = (pure ⟨⟩ : Sem PUnit)
  | [], _ => by rw [List.forIn_nil]
  | x :: l, h => by
    rw [List.forIn_cons, h x List.mem_cons_self]
    exact forIn_skip (l := l) fun y hy => h y (List.mem_cons_of_mem _ hy)
theorem mm_copy {s : Shared} {d a : Addr} {oa : Obj} {qs : List (Str × Tok × Value)} {ep n0 : Nat} {Q : Unit → Shared → Prop} (hda : a ≠ d) (hsys : (a == sysModules) = false) (D : s.heap.get? d = some (PySem.W.dictOf [] n0)) (Aa : s.heap.get? a = some oa) (ex : oa.ExactDict) (da : oa.data = .dict (qs.map (stE w)).toArray ep) (hn : (qs.map (·.1)).Nodup) (hl : qs.length ≤ 1000)
    (h : ∀ h' : Heap, h'.get? d = some (PySem.W.dictOf (qs.map (stE w)) (n0 + qs.length)) → (∀ b o, b ≠ d → s.heap.get? b = some o → h'.get? b = some o) → h'.objs.size = s.heap.objs.size → Q () { s with heap := h' }) : wpAny (model prog w) A (mergeMapping d (.ref a) true) Q E s := by
  have hT : s.TypeIs (.ref a) "dict" := ⟨oa, Aa, ex.1⟩
  unfold mergeMapping
  refine wpAny_bind (wpAny_isInstance (T := "dict") (b := true) hT (by rfl) ?_)
  rw [if_pos rfl]
  refine wpAny_bind (wpAny_specialOf hT F.slot_dict_iter.lookup ?_)
  rw [show (some (Value.builtin "dict.__iter__") == some (Value.builtin "dict.__iter__")) = true by decide]
  refine wpAny_bind (wpAny_pure ?_)
  dsimp only
  rw [hsys]
  rw [if_neg Bool.false_ne_true]
  refine wpAny_bind (wpAny_dictEntries D rfl ?_)
  rw [if_pos (by rfl)]
  refine wpAny_bind (wpAny_dictEntries Aa da ?_)
  rw [List.forIn_toArray, forIn_skip (fun x hx => by
    obtain ⟨q, _, rfl⟩ := List.mem_map.mp hx
    rfl)]
  refine wpAny_bind (wpAny_pure ?_)
  refine wpAny_bind (wpAny_dictEntries Aa da ?_)
  refine wpAny_bind (wpAny_dictEpoch Aa da ?_)
  rw [List.size_toArray, List.length_map, List.range_eq_range']
  refine wpAny_bind (forIn_rng (fun j s' => ∃ h' : Heap, s' = { s with heap := h' } ∧ h'.get? d = some (PySem.W.dictOf ((qs.take j).map (stE w)) (n0 + j)) ∧ (∀ b o, b ≠ d → s.heap.get? b = some o → h'.get? b = some o) ∧ h'.objs.size = s.heap.objs.size) qs.length 0 ⟨s.heap, rfl, D, fun _ _ _ e => e, rfl⟩ (fun i s' _ hi => ?_) fun s' => ?_)
  · rintro ⟨h', rfl, D', kp, sz⟩
    have hi : i < qs.length := by omega
    have Aa' : h'.get? a = some oa := kp a _ hda Aa
    refine wpAny_bind (wpAny_dictEntries (s := { s with heap := h' }) Aa' da ?_)
    rw [List.getElem?_toArray, List.getElem?_map, List.getElem?_eq_getElem hi]
    dsimp only [Option.map]
    rw [if_pos rfl]
    refine wpAny_bind (wpAny_holding ?_)
    have fnd : ∀ {Q : Option Nat → Shared → Prop}, Q none { s with heap := h' } → wpAny (model prog w) A (dictFind d (.str (qs[i]).1 (qs[i]).2.1) (PyData.keyHash w.params (qs[i]).1)) Q E { s with heap := h' } := fun hQ => by
      refine KTD.kt_dictFind_strs (s := { s with heap := h' }) D' rfl ?_ ?_
      · rw [← Array.all_toList, List.all_eq_true]
        intro e he
        obtain ⟨q, _, rfl⟩ := List.mem_map.mp he
        rfl
      · rw [show (Array.findIdx? (fun e : DictEntry => e.key.isStr (qs[i]).1) ((qs.take i).map (stE w)).toArray) = none from ?_]
        · exact hQ
        · rw [List.findIdx?_toArray, List.findIdx?_eq_none_iff]
          intro e he
          obtain ⟨q, hq, rfl⟩ := List.mem_map.mp he
          show (q.1 == (qs[i]).1) = false
          refine beq_eq_false_iff_ne.mpr fun z => ?_
          have e2 : qs.map (·.1) = (qs.take i).map (·.1) ++ (qs[i]).1 :: (qs.drop (i + 1)).map (·.1) := by
            conv => lhs; rw [← List.take_append_drop i qs, List.drop_eq_getElem_cons hi]
            rw [List.map_append, List.map_cons]
          rw [e2] at hn
          exact (List.nodup_append.mp hn).2.2 _ (List.mem_map_of_mem hq) _ List.mem_cons_self z
    refine wpAny_bind (fnd ?_)
    rw [if_neg (by simp)]
    unfold dictPut
    refine wpAny_bind (fnd ?_)
    dsimp only
    refine wpAny_updateDictKeys (s := { s with heap := h' }) D' rfl ?_ ?_ ?_
    · have U := Heap.get?_update_self (Obj.mapDictKeys fun x => x.push (stE w qs[i])) D' rfl
      refine wpAny_bind (wpAny_dictEpoch (s := { s with heap := _ }) ((Heap.get?_update_other _ _ (Ne.symm hda)).trans Aa') da ?_)
      rw [if_neg (by simp)]
      refine wpAny_pure ⟨rfl, _, rfl, ?_, fun b o hb e => (Heap.get?_update_other _ _ (Ne.symm hb)).trans (kp b o hb e), ?_⟩
      · rw [List.take_succ_eq_append_getElem hi, List.map_append]
        refine U.trans ?_
        simp [Obj.mapDictKeys, Nat.add_assoc]
      · simp [Heap.update, sz]
    · rw [List.size_toArray, List.length_map, List.length_take, PySem.sizeLine_eq]
      omega
    · rw [Array.size_push]
      exact Nat.le_refl _
  · rintro ⟨h', rfl, D', kp, sz⟩
    rw [Nat.zero_add, List.take_length] at D'
    exact wpAny_pure (h h' D' kp sz)
theorem forIn_kws {es : List DictEntry} {f : DictEntry → List (Str × Value) → Sem (ForInStep (List (Str × Value)))} : ∀ {qs : List (Str × Tok × Value)} (acc : List (Str × Value)), (∀ q ∈ qs, ∀ acc, f (stE w q) acc = pure (.yield (acc ++ [(q.1, q.2.2)]))) → forIn (qs.map (stE w)) acc f = (pure (acc ++ qs.map fun q => (q.1, q.2.2)) : Sem (List (Str × Value)))
  | [], acc, _ => by rw [List.map_nil, List.forIn_nil, List.map_nil, List.append_nil]
  | q :: qs, acc, h => by
    rw [List.map_cons, List.forIn_cons, h q List.mem_cons_self]
    refine (forIn_kws (es := es) (qs := qs) (acc ++ [(q.1, q.2.2)]) fun q hq => h q (List.mem_cons_of_mem _ hq)).trans ?_
    rw [List.append_assoc]
    rfl
abbrev qsK (qs : List (Str × Tok × Value)) : List (Str × Value) := qs.map fun q => (q.1, q.2.2)
end
theorem kv_keys : ∀ {ex : List (Str × V)} {kvs : List (Key × Value)}, KV (kwK ex) kvs → ∃ ev : List (Str × Value), kvs = kwK ev ∧ ev.map (·.1) = ex.map (·.1) ∧ Vals (ex.map (·.2)) (ev.map (·.2))
  | [], _, .nil => ⟨[], rfl, rfl, .nil⟩
  | x :: ex, _, .cons (b := (kk, vv)) ⟨h1, h2⟩ h => by
    obtain ⟨ev, rfl, e1, e2⟩ := kv_keys (ex := ex) h
    have h1 : Sum.inr x.1 = kk := h1
    subst h1
    exact ⟨(x.1, vv) :: ev, rfl, by rw [List.map_cons, List.map_cons, e1], .cons h2 e2⟩
theorem zip_fs {α β : Type} : ∀ (ev : List (α × β)), (ev.map (·.1)).zip (ev.map (·.2)) = ev
  | [] => rfl
  | x :: ev => by rw [List.map_cons, List.map_cons, List.zip_cons_cons, zip_fs ev]
theorem repk_keys {K : PySem.W.Frag} {H : Hp} : ∀ {ex : List (Str × Val)} {gs : List (Key × V)}, RepK K H (kwK ex) gs → ∃ ev : List (Str × V), gs = kwK ev ∧ ev.map (·.1) = ex.map (·.1) ∧ RepA K H (ex.map (·.2)) (ev.map (·.2))
  | [], _, .nil => ⟨[], rfl, rfl, .nil⟩
  | x :: ex, _, .cons r h => by
    obtain ⟨ev, rfl, e1, e2⟩ := repk_keys (ex := ex) h
    exact ⟨(x.1, _) :: ev, rfl, by rw [List.map_cons, List.map_cons, e1], .cons r e2⟩
/-- a method by keywords whatever they are -/
structure MtS (P : Program) (w : World) (K : PySem.W.Frag) (mg : Str → Option Value) (base : Heap) (C : Addr) (n : Nat) (m : Str) (s : List Str → ASxe) : Prop where
  ex : ∃ f, Meth K C m f ∧ (∃ oc od fd sl, K.lookup f = some ⟨oc, od, .func fd, sl⟩) ∧ ∀ ks : List Str, ks.Nodup → ks.length ≤ 1000 → (∀ q ∈ ks, q ≠ ("self" : Str)) → FnE P w K mg base n f ks (spE K (s ks))
/-- .. where none raises -/
structure MtSX (P : Program) (w : World) (K : PySem.W.Frag) (mg : Str → Option Value) (base : Heap) (C : Addr) (n : Nat) (m : Str) (s : List Str → ASx) : Prop where
  ex : ∃ f, Meth K C m f ∧ (∃ oc od fd sl, K.lookup f = some ⟨oc, od, .func fd, sl⟩) ∧ ∀ ks : List Str, ks.Nodup → ks.length ≤ 1000 → (∀ q ∈ ks, q ≠ ("self" : Str)) → FnX P w K mg base n f ks (spX K (s ks))
theorem MtS.toX {P : Program} {w : World} {K : PySem.W.Frag} {mg : Str → Option Value} {base : Heap} {C : Addr} {n : Nat} {m : Str} {s : List Str → ASxe} (h : MtS P w K mg base C n m s) : MtSX P w K mg base C n m fun ks ds es M R => s ks ds es M R fun _ _ _ => False := by
  obtain ⟨f, a, b, F⟩ := h.ex
  exact ⟨f, a, b, fun ks h1 h2 h3 => (F ks h1 h2 h3).toX⟩
end Ab
/-! Ab131: def f(self, **d) by keywords whatever they are -/
namespace Ab
open PySem PySem.Spec PyProof.Rows L2
theorem forIn_ext {σ : Type} {f : Str × Value → σ × List (Str × Value) → Sem (ForInStep (σ × List (Str × Value)))} {sl : σ} : ∀ {kv : List (Str × Value)} (ex : List (Str × Value)), (∀ q ∈ kv, ∀ ex, f q (sl, ex) = pure (.yield (sl, ex ++ [q]))) → forIn kv (sl, ex) f = (pure (sl, ex ++ kv) : Sem (σ × List (Str × Value)))
  | [], ex, _ => by rw [List.forIn_nil, List.append_nil]
  | q :: kv, ex, h => by
    rw [List.forIn_cons, h q List.mem_cons_self]
    refine (forIn_ext (kv := kv) (ex ++ [q]) fun q hq => h q (List.mem_cons_of_mem _ hq)).trans ?_
    rw [List.append_assoc]
    rfl
theorem bind_self {x qual : Str} {params : Arguments} {body : List Stmt} {sc : Scope} {kV doc pm cdv ct : Value} {an : Option Addr} {pd : Str} (h1 : params.posonlyargs.map (·.arg) = []) (h2 : params.args.map (·.arg) = [("self" : Str)]) (h3 : params.kwonlyargs.map (·.arg) = []) (h4 : params.vararg = none) (h5 : params.kwarg.map (·.arg) = some pd)
    {kv : List (Str × Value)} (hk : ∀ q ∈ kv, q.1 ≠ "self") (hl : kv.length ≤ 1000) (u : Value) : bindArgs (PySem.W.fnOf x qual params body sc .none kV doc pm an cdv ct) ⟨[u], kv⟩ =
      ((alloc ({ cls := .type "dict", data := .dict #[] } : Obj) : Sem Addr) >>= fun d => (forIn kv PUnit.unit fun x _ => (nsSet d x.1 x.2 >>= fun _ => pure (ForInStep.yield PUnit.unit))) >>= fun _ => pure ([(("self" : Str), u)] ++ [(pd, Value.ref d)])) := by
  obtain ⟨po, ar, va, ko, kd, kw, df⟩ := params
  dsimp only at h1 h2 h3 h4 h5
  have e1 : po = [] := List.map_eq_nil_iff.mp h1
  have e3 : ko = [] := List.map_eq_nil_iff.mp h3
  subst e1 e3 h4
  cases kw with
  | none => exact nomatch h5
  | some ka =>
  cases ar with
  | nil => exact nomatch h2
  | cons a ar =>
  obtain ⟨e2, e4⟩ := List.cons.inj h2
  obtain rfl : ar = [] := List.map_eq_nil_iff.mp e4
  have e5 : ka.arg = pd := Option.some.inj h5
  cases a with
  | mk nm a2 a3 =>
  have e2 : nm = ("self" : Str) := e2
  subst e2
  subst e5
  have hnl : ¬ ([] ++ kv).length > sizeLine + 1 := by
    rw [List.nil_append, PySem.sizeLine_eq]
    omega
  unfold bindArgs
  dsimp only [List.map, List.zip, List.zipWith, List.append]
  rw [forIn_ext (kv := kv) [] (fun q hq ex => by
    have hn : ([("self" : Str)].contains q.1 || ([] : List Str).contains q.1) = false := by
      have := hk q hq
      simp [this]
    exact (if_neg (by rw [hn]; exact Bool.false_ne_true)).trans rfl)]
  refine Eq.trans (b := if ([] ++ kv).length > sizeLine + 1 then ((unsupported "dict:memory" : Sem Unit) >>= fun _ => ((alloc ({ cls := .type "dict", data := .dict #[] } : Obj) : Sem Addr) >>= fun d => (forIn kv PUnit.unit fun x _ => (nsSet d x.1 x.2 >>= fun _ => pure (ForInStep.yield PUnit.unit))) >>= fun _ => pure ([(("self" : Str), u)] ++ [(ka.arg, Value.ref d)]))) else _) ?_ (if_neg hnl)
  rfl
section
variable {P : Program} {w : World} {K : PySem.W.Frag} {mg : Str → Option Value} {base : Heap}
theorem mts_kwd {x qual : Str} {params : Arguments} {body : List Stmt} {sc : Scope} {f C : Addr} {fd : FuncData} {N : List Str} {pd m : Str} {k : Nat} {s0 : ASe} (F : FunD K x qual params body sc [] [] f fd) (S : FnScope N ([("self" : Str)] ++ [pd]) sc) (hm : Meth K C m f) (lk : ∃ oc od fd sl, K.lookup f = some ⟨oc, od, .func fd, sl⟩)
    (h1 : params.posonlyargs.map (·.arg) = []) (h2 : params.args.map (·.arg) = [("self" : Str)]) (h3 : params.kwonlyargs.map (·.arg) = []) (h4 : params.vararg = none) (h5 : params.kwarg.map (·.arg) = some pd) (hb : BodyE P w K mg base k f N qual sc body s0) :
    MtS P w K mg base C (k + 1) m fun ks ds es M R PE => ds.length = 1 ∧ ∀ p, p ∉ M.map (·.1) → s0 (ds ++ [.ptr p]) ((p, .dk (kwK (ks.zip es))) :: M) R PE :=
  ⟨f, hm, lk, fun ks hn hl hns => fne_kwd (ps := [("self" : Str)]) (pd := pd) (ks := ks) F S hn hl (fun kV doc pm an cdv ct us ws e1 e2 => match us, e1 with
    | [u], _ => bind_self h1 h2 h3 h4 h5 (kv := ks.zip ws) (fun q hq => hns _ (List.of_mem_zip hq).1) (by rw [List.length_zip]; omega) u) hb⟩
end
end Ab
namespace K54
open PySem L2 Ab Sm Tx
/-! ### what the changes of a schedule leave -/
theorem cGet_map7 {n i : Nat} {v : Int} : ∀ cs : List (Nat × Int), cGet (cs.map fun q => if q.1 = n then (q.1, v) else q) i = if i = n then (cGet cs i).map (fun _ => v) else cGet cs i
  | [] => by
    show none = if i = n then none else none
    split <;> rfl
  | (m, u) :: r => by
    have ih := cGet_map7 (n := n) (i := i) (v := v) r
    rw [List.map_cons]
    by_cases h : m = n
    · rw [if_pos h]
      show (if m = i then some v else cGet (r.map _) i) = if i = n then (if m = i then some u else cGet r i).map (fun _ => v) else (if m = i then some u else cGet r i)
      rw [ih]
      by_cases q : m = i
      · rw [if_pos q, if_pos (show i = n by omega), if_pos q]
        rfl
      · rw [if_neg q, if_neg (show ¬ i = n by omega), if_neg (show ¬ i = n by omega), if_neg q]
    · rw [if_neg h]
      show (if m = i then some u else cGet (r.map _) i) = if i = n then (if m = i then some u else cGet r i).map (fun _ => v) else (if m = i then some u else cGet r i)
      rw [ih]
      by_cases q : m = i
      · rw [if_pos q, if_neg (show ¬ i = n by omega), if_pos q]
      · rw [if_neg q, if_neg q]
theorem cGet_app7 {n i : Nat} {v : Int} : ∀ cs : List (Nat × Int), cGet (cs ++ [(n, v)]) i = match cGet cs i with | some u => some u | none => if n = i then some v else none
  | [] => rfl
  | (m, u) :: r => by
    show (if m = i then some u else cGet (r ++ [(n, v)]) i) = match (if m = i then some u else cGet r i) with | some u => some u | none => if n = i then some v else none
    by_cases q : m = i
    · rw [if_pos q, if_pos q]
    · rw [if_neg q, if_neg q]
      exact cGet_app7 r
theorem cGet_put7 {n i : Nat} {v : Int} {cs : List (Nat × Int)} : cGet (cPut cs n v) i = if i = n then some v else cGet cs i := by
  unfold cPut
  split
  · next h =>
    rw [cGet_map7]
    by_cases q : i = n
    · rw [if_pos q, if_pos q]
      obtain ⟨x, hx, e⟩ := List.any_eq_true.mp h
      have e := of_decide_eq_true e
      have : ∀ r : List (Nat × Int), x ∈ r → ∃ u, cGet r i = some u := fun r => by
        induction r with
        | nil => exact fun h => nomatch h
        | cons y r ih =>
          intro hy
          show ∃ u, (if y.1 = i then some y.2 else cGet r i) = some u
          by_cases z : y.1 = i
          · rw [if_pos z]
            exact ⟨_, rfl⟩
          · rw [if_neg z]
            rcases List.mem_cons.mp hy with rfl | hy
            · exact absurd (e.trans q.symm) z
            · exact ih hy
      obtain ⟨u, hu⟩ := this cs hx
      rw [hu]
      rfl
    · rw [if_neg q, if_neg q]
  · next h =>
    have hn : cGet cs n = none := cGet_none fun q hq e => h (List.any_eq_true.mpr ⟨q, hq, decide_eq_true e⟩)
    rw [cGet_app7]
    by_cases q : i = n
    · rw [if_pos q, q, hn]
      exact if_pos rfl
    · rw [if_neg q]
      cases cGet cs i with
      | none => exact if_neg fun e => q e.symm
      | some u => rfl
def freL (k : Nat) (s l : Nat → Int) (n : Int) : List Nat := (List.range 24).filter fun j => !frz k s l n (jb j) (ji j)
theorem freL_fr {k : Nat} {s l : Nat → Int} {n : Int} : Fr7 k s l n (freL k s l n) := Fr7.of
theorem nm_ok {j : Nat} (h : j < 24) : PyData.strOk (nm j) = true := (by decide +kernel : ∀ j < 24, PyData.strOk (nm j) = true) j h
theorem nmL_nb : ∀ {js : List Nat}, (∀ j ∈ js, j < 24) → nbVs (nmL js) ∧ dpVs (nmL js) = 0
  | [], _ => ⟨trivial, rfl⟩
  | j :: js, h => by
    obtain ⟨h1, h2⟩ := nmL_nb (js := js) fun i hi => h i (List.mem_cons_of_mem _ hi)
    refine ⟨⟨nm_ok (h j List.mem_cons_self), h1⟩, ?_⟩
    show max (dpV (.str (nm j))) (dpVs (nmL js)) = 0
    rw [h2]
    rfl
end K54
namespace K54
open PySem L2 Ab Sm Tx
/-! ### growth.py: small defs -/
section
variable {P : Program} {w : World} {K : PySem.W.Frag} {mg : Str → Option Value} {base : Heap} {k : Nat} {f C C2 CG : Addr}
def aIct : ASp := fun ds M R => ∃ n lo : Int, ds = [.int n, .int lo] ∧ R (.bl (decide (lo ≤ n))) M
theorem b_is_count (B : Bt mg) : BodyOk P w K mg base k f n_is_count "is_count" (defScope s_is_count) (defBody s_is_count) aIct := by
  rintro cdv A outer s H E hr ds M R ⟨n, lo, rfl, hp⟩
  refine as_one (as_ret (ae_and (ae_isi B.isinstance (v_ 0) (av_ty (T := "int") B.int (by decide +kernel)) (.ty "int") (.int _) (kit_ty (by decide +kernel)) ⟨true, rfl, fun _ => ?_, ntf⟩)))
  refine ae_and (ae_not (ae_isi B.isinstance (v_ 0) (av_ty (T := "bool") B.bool (by decide +kernel)) (.ty "bool") (.int _) (kit_ty (by decide +kernel)) ⟨false, rfl, true, rfl, fun _ => ?_, ntf⟩))
  exact ae_one (ae_cmp (v_ 0) (v_ 1) cmp_ge (.ok hp))
def aIc1 : ASp := fun ds M R => ∃ n : Int, ds = [.int n] ∧ R (.bl (decide (0 ≤ n))) M
abbrev GIct (P : Program) (w : World) (K : PySem.W.Frag) (mg : Str → Option Value) (base : Heap) : Prop := Gd P w K mg base 1 "is_count" [] fun ds _ => aIc1 ds
def aLsv : ASp := fun ds M R => ∃ j : Nat, ds = [.str (nm j)] ∧ j < 24 ∧ R (.int (lv0 j)) M
theorem b_least_value : BodyOk P w K mg base k f n_least_value "least_value" (defScope s_least_value) (defBody s_least_value) aLsv := by
  rintro cdv A outer s H E hr ds M R ⟨j, rfl, hj, hp⟩
  refine as_one (as_ret (ae_ifp (tp_cmp (v_ 0) s_ cp_eqS) (fun c => i_.val (.ok ?_)) (fun c => i_.val (.ok ?_))))
  · have e : lv0 j = 1 := if_pos ((nm_w0 hj).mp c)
    rw [← e]
    exact hp
  · have e : lv0 j = 0 := if_neg fun z => c ((nm_w0 hj).mpr z)
    rw [← e]
    exact hp
abbrev GLsv (P : Program) (w : World) (K : PySem.W.Frag) (mg : Str → Option Value) (base : Heap) : Prop := Gd P w K mg base 1 "least_value" [] fun ds _ => aLsv ds
theorem b_power_of (B : Bt mg) : BodyOk P w K mg base k f n_power_of "power_of" (defScope s_power_of) (defBody s_power_of) aPow7 := by
  rintro cdv A outer s0 H E hr ds M R ⟨a, e, rfl, a9, he, hp⟩
  refine as_cons (as_setv 2 q_power_of.nd i_ ?_)
  refine as_cons (as_forW PassesOwn.never rfl (aj_range1 B.range ((v_ 1).val ⟨_, rfl, by omega, by omega, ?_⟩)))
  rw [Int.toNat_natCast]
  refine ⟨fun t Γ M' => M' = M ∧ Γ = [some (.int (a : Int)), some (.int (e : Int)), some (.int ((a ^ t : Nat) : Int)), none], ⟨_, _, ⟨rfl, rfl⟩, (by repeat' first | exact le_nil | refine le_skip ?_ | refine le_keep rfl ?_), (by repeat' first | exact List.Sublist.refl _ | exact List.sublist_append_right _ _ | apply List.Sublist.cons₂ | apply List.Sublist.cons)⟩, ?_, ?_⟩
  · rintro t Γ M' ht ⟨rfl, rfl⟩
    refine ag_name 3 q_power_of.nd (as_one (as_augMu 2 q_power_of.nd rfl ((v_ 0).val ⟨_, rfl, .inr ⟨by omega, by omega⟩, ?_⟩)))
    rw [show ((a ^ t : Nat) : Int) * (a : Int) = ((a ^ (t + 1) : Nat) : Int) by rw [Nat.pow_succ, Int.natCast_mul]]
    exact ⟨_, _, ⟨rfl, rfl⟩, (by repeat' first | exact le_nil | refine le_skip ?_ | refine le_keep rfl ?_), (by repeat' first | exact List.Sublist.refl _ | exact List.sublist_append_right _ _ | apply List.Sublist.cons₂ | apply List.Sublist.cons)⟩
  · rintro Γ M' ⟨rfl, rfl⟩
    exact as_one (as_retv (v_ 2) (.ok hp))
abbrev GPof (P : Program) (w : World) (K : PySem.W.Frag) (mg : Str → Option Value) (base : Heap) : Prop := Gd P w K mg base 1 "power_of" [] fun ds _ => aPow7 ds
def aFlf : ASp := fun ds M R => ∃ (a : Nat) (j : Nat), ds = [.int (a : Int), .str (nm j)] ∧ a ≤ 9 ∧ j < 24 ∧ R (.int ((FF a j : Nat) + 1 : Int)) M
theorem b_first_leaf (B : Bt mg) (GP : GPof P w K mg base) : BodyOk P w K mg base 1 f n_first_leaf "first_leaf" (defScope s_first_leaf) (defBody s_first_leaf) aFlf := by
  rintro cdv A outer s0 H E hr ds M R ⟨a, j, rfl, a9, hj, hp⟩
  have hk := kw24 hj
  have n12 := hk.n12
  refine as_cons (as_setv (d := .int (ji j : Int)) 2 q_first_leaf.nd (av_kwN hk B.int (v_ 1)) ?_)
  refine as_cons (as_ifp (tp_cmp (v_ 1) s_ cp_eqS) (fun c => ?_) (fun c => as_nil ?_))
  · obtain rfl := (nm_d0 hj).mp c
    exact as_one (as_ret (i_.val (.ok hp)))
  have hz : ¬ (jb j = true ∧ ji j = 0) := fun ⟨h1, h2⟩ => c ((nm_d0 hj).mpr (jj_inj hj (by decide) h1 h2))
  generalize hb : jb j = b at *
  generalize hi : ji j = i at *
  have eF : FF a j = fli a b i := by unfold FF; rw [hb, hi]
  rw [eF] at hp
  cases b with
  | true =>
    have i0 : i ≠ 0 := fun z => hz ⟨rfl, z⟩
    refine as_one (as_ret (ae_bin (ae_g GP hr (by decide) (aa_cons ((v_ 0).val (aa_cons (ae_ifp (tp_cmp (av_kw0 hk (v_ 1)) s_ cp_eqS) (fun c => absurd (dw_w.mp c) (by decide)) (fun _ => (av_sub (v_ 2) i_).val (aa_nil (ak_nil ⟨rfl, a, i - 1, by rw [show (i : Int) - 1 = ((i - 1 : Nat) : Int) by omega], a9, by omega, i_.val (bv_add (.ok ?_))⟩))))))))))
    have e : fli a true i = a ^ (i - 1) := by unfold fli; rw [if_pos rfl, if_neg i0]
    rw [← e]
    exact hp
  | false =>
    refine as_one (as_ret (ae_bin (ae_g GP hr (by decide) (aa_cons ((v_ 0).val (aa_cons (ae_ifp (tp_cmp (av_kw0 hk (v_ 1)) s_ cp_eqS) (fun _ => (v_ 2).val (aa_nil (ak_nil ⟨rfl, a, i, rfl, a9, by omega, i_.val (bv_add (.ok hp))⟩))) (fun c => absurd rfl c))))))))
abbrev GFlf (P : Program) (w : World) (K : PySem.W.Frag) (mg : Str → Option Value) (base : Heap) : Prop := Gd P w K mg base 2 "first_leaf" [] fun ds _ => aFlf ds
/-! ### Growth: the readers -/
def grF (C : Addr) (S : Sc) (x y : Int) (q : Addr) : List (Str × Val) := [("current_schedule", scV C S), ("current_label", .int x), ("reached_label", .int y), ("history", .ptr q)]
structure GrX (K : PySem.W.Frag) (mg : Str → Option Value) (CG : Addr) : Prop where
  cl : Cls K CG
  n0 : NoAttr K CG "current_schedule"
  n1 : NoAttr K CG "current_label"
  n2 : NoAttr K CG "reached_label"
  n3 : NoAttr K CG "history"
  gG : mg "Growth" = some (.ref CG)
  rd : ClX.CRead K CG (.type "type")
  it : ∃ v u, ClX.CVal K CG (.type "type") "ITEMS" v u ∧ ∀ H, Rep K H (.tup (nmL (List.range 24))) v
theorem nm24 : nmL (List.range 24) = [.str "d0", .str "d1", .str "d2", .str "d3", .str "d4", .str "d5", .str "d6", .str "d7", .str "d8", .str "d9", .str "d10", .str "d11", .str "w0", .str "w1", .str "w2", .str "w3", .str "w4", .str "w5", .str "w6", .str "w7", .str "w8", .str "w9", .str "w10", .str "w11"] := by
  have h : (List.range 24).map nm = (["d0", "d1", "d2", "d3", "d4", "d5", "d6", "d7", "d8", "d9", "d10", "d11", "w0", "w1", "w2", "w3", "w4", "w5", "w6", "w7", "w8", "w9", "w10", "w11"] : List Str) := by decide +kernel
  exact (List.map_map ..).symm.trans (congrArg (List.map Val.str) h)
theorem av_items {X : Cx} {Γ : Gam} {M : Mem} {p1 pos : Pos} (G : GrX X.K X.mg CG) (hg : Gl X "Growth" := by rfl) (hb : attributeBase (.Name "Growth" p1) "ITEMS" X.env (eval (.Name "Growth" p1) X.env) = eval (.Name "Growth" p1) X.env := by rfl) : aV X (.Attribute (.Name "Growth" p1) "ITEMS" pos) Γ M (.tup (nmL (List.range 24))) := by
  obtain ⟨v, u, h, r⟩ := G.it
  exact av_cval G.rd h (ae_glob G.gG ⟨rfl, rfl⟩ hg) r hb
def aIfz (C CG : Addr) : ASp := fun ds M R => ∃ (i : Nat) (g q : Addr) (S : Sc) (x y : Int) (j : Nat), ds = [.ptr g, .str (nm j)] ∧ M[i]? = some (g, .ins CG (grF C S x y q)) ∧ GoodS S ∧ j < 24 ∧ R (.bl (frz S.a.toNat (item S.sp) (item S.lv) y (jb j) (ji j))) M
theorem b_gfrozen (B : Bt mg) (T : Rs K mg C) (Q : Sm2 P w K mg base C) (G : GrX K mg CG) (GE : GSte P w K mg base C) : BodyOk P w K mg base 5 f n_Growth_is_frozen "Growth.is_frozen" (defScope c_Growth_is_frozen) (defBody c_Growth_is_frozen) (aIfz C CG) := by
  rintro cdv A outer s0 H E hr ds M R ⟨i, g, q, S, x, y, j, rfl, hi, hS, hj, hp⟩
  have hk := kw24 hj
  have n12 := hk.n12
  have hO : Ob M CG (.ptr g) (grF C S x y q) := .ce i hi
  refine as_cons (as_setv (d := .int (ji j : Int)) 2 q_Growth_is_frozen.nd (av_kwN hk B.int (v_ 1)) ?_)
  refine as_cons (as_ifp (tp_cmp (v_ 1) s_ cp_eqS) (fun c => ?_) (fun c => as_nil ?_))
  · obtain rfl := (nm_d0 hj).mp c
    refine as_one (as_ret (ae_bl (.ok ?_)))
    have e : frz S.a.toNat (item S.sp) (item S.lv) y (jb 0) (ji 0) = true := by
      rw [show jb 0 = true from rfl, show ji 0 = 0 from rfl]
      unfold frz
      rw [if_pos rfl]
      exact decide_eq_true (.inl rfl)
    rw [← e]
    exact hp
  have hz : ¬ (jb j = true ∧ ji j = 0) := fun ⟨h1, h2⟩ => c ((nm_d0 hj).mpr (jj_inj hj (by decide) h1 h2))
  generalize hb : jb j = b at *
  generalize hn : ji j = n at *
  cases b with
  | true =>
    have i0 : n ≠ 0 := fun z => hz ⟨rfl, z⟩
    refine as_cons (as_ifp (tp_cmp (av_kw0 hk (v_ 1)) s_ cp_eqS) (fun _ => ?_) (fun c => absurd rfl c))
    refine as_one (as_ret (ae_cmpM (ae_g GE hr (by decide) (aa_cons ((av_fld G.cl G.n0 (v_ 0) hO rfl).val (aa_cons ((av_sub (v_ 2) i_).val (aa_nil (ak_nil ⟨rfl, S, n - 1, by rw [show (n : Int) - 1 = ((n - 1 : Nat) : Int) by omega], hS, by omega, (av_fld G.cl G.n2 (v_ 0) hO rfl).val ⟨_, cmp_lt, .ok ?_⟩⟩)))))))) )
    have e : frz S.a.toNat (item S.sp) (item S.lv) y true n = decide (edS S (n - 1) < y) := by
      unfold frz
      rw [if_pos rfl]
      exact decide_eq_decide.mpr ⟨fun h => h.resolve_left i0, .inr⟩
    rw [← e]
    exact hp
  | false =>
    refine as_cons (as_ifp (tp_cmp (av_kw0 hk (v_ 1)) s_ cp_eqS) (fun c => absurd (dw_d.mp c) Bool.false_ne_true) (fun _ => as_nil ?_))
    refine as_cons (as_set 3 q_Growth_is_frozen.nd (ae_bin (ae_g GE hr (by decide) (aa_cons ((av_fld G.cl G.n0 (v_ 0) hO rfl).val (aa_cons ((v_ 2).val (aa_nil (ak_nil ⟨rfl, S, n, rfl, hS, by omega, (av_sa T Q hr (by decide) (av_fld G.cl G.n0 (v_ 0) hO rfl) (av_add (v_ 2) i_) hS (by omega)).val (bv_add ?_)⟩)))))))))
    exact as_one (as_ret (ae_cmp (v_ 3) (av_fld G.cl G.n2 (v_ 0) hO rfl) cmp_lt (.ok hp)))
end
end K54
/-! Ab133: name = {k: v for .. in ..} -/
namespace Ab
open PySem PySem.Spec PyProof.Rows L2
end Ab
/-! Ab134: o.m(**d): the method is bound first -/
namespace Ab
open PySem PySem.Spec PyProof.Rows L2
structure BdM (K : PySem.W.Frag) (f : Addr) : Prop where
  get : PySem.W.specialIn K (.ref f) "__get__" = some (some (.builtin "function.__get__"))
  tk : PySem.W.takesIn K (.ref f) = some false
section
variable {X : Cx} {pins : List (Addr × Obj)} {σ : L2.St} {H : Hp} {s : Shared} {a C g dx : Addr} {m : Str} {fs : List (Str × V)} {A : Around} {E : Value → Shared → Prop}
theorem getbound_ok {b : Bool} {Q : Value → Shared → Prop} (I : Inv X pins σ H s) (e : H a = some (.ins C dx fs)) (c : Cls X.K C) (k : Meth X.K C m g) (bd : BdM X.K g) (cp : PySem.W.copiedNames.contains m = false) (l : fs.lookup m = none)
    (h : ∀ s', Inv X ((s.heap.objs.size, PySem.W.methodObj (.ref g) (.ref a)) :: pins) σ H s' → Q (.ref s.heap.objs.size) s') : wpAny (model X.prog X.w) A (getAttr (.ref a) m b) Q E s := by
  obtain ⟨mA, O, r, _, _, _⟩ := ins_get I.hok e
  have hn : mA m = none := RelO.none_of (by rw [← l]; exact r m)
  obtain ⟨od, J, hl⟩ := O.look
  refine PySem.W.get_bind I.kIn J (PySem.W.plainGet_of (c.get m)).1 (PySem.W.findObj_fn c.hd k.at_ bd.get bd.tk cp (by rw [hl, hn])) (PySem.W.plainGet_of (c.get m)).2 ?_
  refine wpAny_call (PySem.W.fn_get (s := { s with toks := s.toks + 1 }) I.kIn (beq_iff_eq.mp k.fn) (PySem.W.handed_on rfl ?_))
  exact h _ (ClX.met_new I)
end
section
variable {prog : Program} {w : World} {A : Around} {E : Value → Shared → Prop}
theorem cw_sb {s : Shared} {f g : Addr} {x0 : Value} {e : Expr} {env : Env} {pos kpos : Pos} {Q : Value → Shared → Prop}
    (he : wpAny (model prog w) A (eval e env) (fun v s1 => ∃ (a : Addr) (oa : Obj) (qs : List (Str × Tok × Value)) (ep : Nat) (oc : Value) (od : Option Addr) (fd : FuncData) (sl : Array (Option Value)) (k0 : Nat), v = .ref a ∧ a ≠ s.heap.objs.size ∧ f ≠ s.heap.objs.size ∧ (a == sysModules) = false ∧ s1.heap.get? s.heap.objs.size = some (PySem.W.dictOf [] k0) ∧ s1.heap.get? a = some oa ∧ oa.ExactDict ∧ oa.data = .dict (qs.map (stE w)).toArray ep ∧ (qs.map (·.1)).Nodup ∧ qs.length ≤ 1000 ∧ s1.heap.get? f = some (PySem.W.methodObj (.ref g) x0) ∧ g ≠ s.heap.objs.size ∧ s1.heap.get? g = some ⟨oc, od, .func fd, sl⟩ ∧
      ∀ h' : Heap, h'.get? s.heap.objs.size = some (PySem.W.dictOf (qs.map (stE w)) (k0 + qs.length)) → (∀ b o, b ≠ s.heap.objs.size → s1.heap.get? b = some o → h'.get? b = some o) → h'.objs.size = s1.heap.objs.size → wpAny (model prog w) A (call (.ref f) [] (qsK qs)) Q E { s1 with heap := h' }) E { s with heap := s.heap.push ({ cls := .type "dict", data := .dict #[] } : Obj) }) :
    wpAny (model prog w) A (callWith pos (.ref f) [] (backTo pos (starEach [] env)) (backToKw pos (keywordEach [⟨none, e, kpos⟩] env))) Q E s := by
  unfold callWith
  refine wpAny_bind (wpAny_holding ?_)
  unfold evalArgs
  show wpAny _ _ (spliced [] >>= _) _ _ _
  refine wpAny_bind (wpAny_pure ?_)
  refine wpAny_bind (wpAny_pure ?_)
  dsimp only
  refine wpAny_holding ?_
  rw [if_neg (by intro h; exact nomatch h)]
  unfold mergedKeywords
  refine wpAny_bind (wpAny_bind (wpAny_alloc (wpAny_bind (wpAny_holding ?_))))
  dsimp only
  rw [show backToKw pos (keywordEach [⟨none, e, kpos⟩] env) = [((none : Option Str), (do let v ← eval e env; standAt pos; pure v))] from rfl, List.forIn_cons]
  refine wpAny_bind (wpAny_bind (wpAny_bind (wpAny_pure (wpAny_bind (wpAny_bind (wpAny_mono he (fun v s1 h => ?_) fun _ _ h => h))))))
  obtain ⟨a, oa, qs, ep, oc, od, fd, sl, k0, rfl, hne, hfne, hsys, D, Aa, ex, da, hn, hl, hf, hgne, hg, hk⟩ := h
  refine wpAny_bind (wpAny_standAt (wpAny_pure ?_))
  refine wpAny_bind (wpAny_onRaise (wpAny_holding (wpAny_tryCatch (wpAny_onRaise (mm_copy hne hsys D Aa ex da hn hl fun h' D' kp sz => ?_)))))
  refine wpAny_pure ?_
  dsimp only
  rw [List.forIn_nil]
  refine wpAny_pure (wpAny_pure (wpAny_pure ?_))
  refine wpAny_bind (wpAny_pure (wpAny_bind (wpAny_holding ?_)))
  unfold keywordsIn
  refine wpAny_bind (wpAny_dictEntries (s := { s1 with heap := h' }) D' rfl ?_)
  rw [List.forIn_toArray, forIn_kws (es := []) [] (fun q _ acc => rfl)]
  refine wpAny_bind (wpAny_pure (wpAny_pure (wpAny_pure ?_)))
  refine wpAny_bind (wpAny_standAt ?_)
  refine wpAny_bind (m := keeperOf (.ref f)) ?_
  unfold keeperOf
  refine wpAny_bind (wpAny_load (s := { s1 with heap := h' }) (kp f _ hfne hf) ?_)
  refine wpAny_bind (wpAny_load (s := { s1 with heap := h' }) (kp g _ hgne hg) (wpAny_pure ?_))
  show wpAny _ _ (operate _ (call (Value.ref f) ([] ++ []) ([] ++ qsK qs)) >>= _) _ _ _
  rw [List.append_nil, List.nil_append] at *
  refine wpAny_bind (PyProof.Rows.wpAny_operate' (wpAny_mono (hk h' D' kp sz) (fun r s2 h => ?_) fun _ _ h => h))
  exact wpAny_bind (wpAny_holding (wpAny_point (wpAny_pure h)))
end
/-- a method by keywords whatever they are, bound first -/
structure MtSB (P : Program) (w : World) (K : PySem.W.Frag) (mg : Str → Option Value) (base : Heap) (C : Addr) (n : Nat) (m : Str) (s : List Str → ASx) : Prop where
  ex : ∃ f, Meth K C m f ∧ BdM K f ∧ (∃ oc od fd sl, K.lookup f = some ⟨oc, od, .func fd, sl⟩) ∧ ∀ ks : List Str, ks.Nodup → ks.length ≤ 1000 → (∀ q ∈ ks, q ≠ ("self" : Str)) → FnX P w K mg base n f ks (spX K (s ks))
section
variable {X : Cx} {Γ : Gam} {M : Mem} {P : Val → Mem → Prop} {o e : Expr} {apos pos kpos : Pos} {n q : Nat} {m : Str} {C : Addr} {sx : List Str → ASx}
theorem ae_mSB (c : Cls X.K C) (F : MtSB X.prog X.w X.K X.mg X.base C n m sx) (cp : PySem.W.copiedNames.contains m = false) (hr : Rm q X.A) (hq : n ≤ q)
    (h : aE X o Γ M fun d M0 => ObM M0 C d m ∧ ∀ n0, n0 ∉ M0.map (·.1) → aE X e Γ ((n0, .dk []) :: M0) fun x M1 => ∃ (M2 : Mem) (p : Addr) (i : Nat) (ex : List (Str × Val)), M1 = (n0, .dk []) :: M2 ∧ x = .ptr p ∧ M2[i]? = some (p, .dk (kwK ex)) ∧ ex.length ≤ 1000 ∧ (∀ q ∈ ex.map (·.1), q ≠ ("self" : Str)) ∧ sx (ex.map (·.1)) [d] (ex.map (·.2)) M2 P)
    (ht : eval (.Call (.Attribute o m apos) [] [⟨none, e, kpos⟩] pos) X.env = (do
      let ov ← eval o X.env
      standAt apos.atName
      let (f, first) ← holding [ov] (do pure (← getAttr ov m true, []))
      callWith pos f first (backTo pos (starEach [] X.env)) (backToKw pos (keywordEach [⟨none, e, kpos⟩] X.env))) := by rfl) : aE X (.Call (.Attribute o m apos) [] [⟨none, e, kpos⟩] pos) Γ M P := fun Hi H σ ok en Q q1 => by
  obtain ⟨f, hm, bd, ⟨oc, od, fd, sl, lk⟩, F⟩ := F.ex
  refine ⟨fun σ H Q => WE X o σ H fun x H0 => ∃ a dx fs, x = .ref a ∧ H0 a = some (.ins C dx fs) ∧ fs.lookup m = none ∧ ∀ n0, H0 n0 = none → WE X e σ (upd H0 n0 (.dK [])) fun y H1 => ∃ (b : Addr) (ev : List (Str × V)), y = .ref b ∧ b ≠ n0 ∧ H1 n0 = some (.dK []) ∧ H1 b = some (.dK (kwK ev)) ∧ ev.length ≤ 1000 ∧ (∀ q ∈ ev.map (·.1), q ≠ ("self" : Str)) ∧
    spX X.K (sx (ev.map (·.1))) [x] (ev.map (·.2)) (upd H1 n0 (.dK (kwK ev))) Q, ⟨fun pins s σ H Q I h => ?_⟩, ?_⟩
  · rw [ht]
    refine wpAny_bind (thn (pe_we.run pins s σ H _ I h) fun u s0 ⟨x, H1, I0, rx, a, dx, fs, ex, ea, l, z⟩ => ?_)
    subst ex
    obtain rfl : u = Value.ref a := rx
    refine wpAny_bind (wpAny_standAt (wpAny_bind (wpAny_holding (wpAny_bind (getbound_ok I0 ea c hm bd cp l fun s1 I1 => wpAny_pure ?_)))))
    show wpAny _ _ (callWith pos (.ref s0.heap.objs.size) [] _ _) _ _ _
    have hb1 := ClX.pin_at I1
    dsimp only at hb1
    refine thn (Q := EP X ((s0.heap.objs.size, PySem.W.methodObj (.ref f) (.ref a)) :: pins) σ Q) ?_ fun _ _ y => ClX.unpinE y
    have hfree : H1 s1.heap.objs.size = none := I1.fresh
    have new : ObjOk X.prog X.w (upd H1 s1.heap.objs.size (.dK [])) (s1.heap.push ({ cls := .type "dict", data := .dict #[] } : Obj)) s1.heap.objs.size (.dK []) := ⟨by decide, beq_eq_false_iff_ne.mpr (Ne.symm (Nat.ne_of_lt (StX.env0_big I1.env0))), [], .nil, Heap.dictOf_iff.mpr ⟨_, Heap.get?_push_size _ rfl, kw_isDict (ex := []) 0 0 List.nodup_nil⟩⟩
    have I1' := I1.laid (t' := s1.toks) (fun b u e => Heap.get?_push_of_some _ e) (Nat.le_refl _) new
    refine cw_sb (g := f) (x0 := .ref a) (thn (pe_we.run _ _ σ _ _ I1' (z _ hfree)) fun u s2 ⟨y, H2, I2, ry, b, ev, ey, hbn, hn0, hb, hl, hns, zz⟩ => ?_)
    subst ey
    obtain rfl : u = Value.ref b := ry
    obtain ⟨hsz, hsys, kvs, hkv, hd⟩ := I2.hok b _ hb
    obtain ⟨ew, rfl, e1, e2⟩ := kv_keys hkv
    obtain ⟨oa, hoa, es, ep, exa, da, ko, pr, nd⟩ := Heap.dictOf_iff.mp hd
    obtain ⟨qs, q1, q2⟩ := ss_keys (kvs := []) (es := es.toList) (k := ew) (fun e he => ko e (Array.mem_toList_iff.mp he)) pr
    have ees : es = (qs.map (stE X.w)).toArray := by rw [← q1]
    have k1 : qs.map (·.1) = ew.map (·.1) := by rw [q2, List.map_map]; rfl
    have l1 : qs.length = ev.length := by
      have a1 := congrArg List.length k1
      have a2 := congrArg List.length e1
      rw [List.length_map, List.length_map] at a1 a2
      omega
    have ndq : (qs.map (·.1)).Nodup := by
      rw [k1]
      have e : (kwK ew).map (·.1) = (ew.map (·.1)).map (Sum.inr : Str → Key) := by rw [List.map_map, List.map_map]; rfl
      rw [e] at nd
      exact List.Pairwise.of_map _ (fun a b h z => h (congrArg _ z)) nd
    have hfin : s2.heap.get? f = some ⟨oc, od, .func fd, sl⟩ := I2.kIn f _ lk
    have hf1 : s1.heap.get? f = some ⟨oc, od, .func fd, sl⟩ := I1.kIn f _ lk
    obtain ⟨_, hs0, kv0, hkv0, hd0⟩ := I2.hok _ _ hn0
    cases hkv0
    obtain ⟨⟨c0, d0, dt0, sl0⟩, ho0, es0, ep0, ⟨x1, x2, x3⟩, x4, _, pr0, _⟩ := Heap.dictOf_iff.mp hd0
    dsimp only at x1 x2 x3 x4
    subst x1 x2 x3 x4
    have e0 : es0 = #[] := by
      have : es0.toList = [] := by cases h : es0.toList with
        | nil => rfl
        | cons _ _ => rw [h] at pr0; cases pr0
      exact Array.toList_eq_nil_iff.mp this
    subst e0
    refine ⟨b, oa, qs, ep, oc, od, fd, sl, ep0, rfl, hbn, Nat.ne_of_lt (Heap.lt_size hb1), hsys, ho0, hoa, exa, by rw [da, ees], ndq, by omega, ClX.pin_at I2, Nat.ne_of_lt (Heap.lt_size hf1), hfin, fun h' D' kp sz => ?_⟩
    have nw : ObjOk X.prog X.w (upd H2 s1.heap.objs.size (.dK (kwK ev))) h' s1.heap.objs.size (.dK (kwK ev)) := ⟨hsz, hs0, kwK ew, hkv, Heap.dictOf_iff.mpr ⟨_, D', (qs.map (stE X.w)).toArray, _, ⟨rfl, rfl, rfl⟩, rfl, fun e he => ko e (ees ▸ he), by rw [q1] at pr; exact pr, nd⟩⟩
    have I3 := I2.write (t' := s2.toks) (by rw [hn0]; exact trivial) (.inl rfl) kp ⟨_, D'⟩ nw
    have e5 : qsK qs = (ev.map (·.1)).zip (ew.map (·.2)) := by
      rw [← e1, zip_fs, q2]
    rw [e5]
    have l2 : (ev.map (·.2)).length = (ev.map (·.1)).length := by rw [List.length_map, List.length_map]
    have nd3 : (ev.map (·.1)).Nodup := by rw [← e1, ← k1]; exact ndq
    refine wpAny_call (PySem.W.method_call (ClX.pin_at I3) (codeAny_mono (((F _ nd3 (by rw [List.length_map]; omega) hns).mono hq).run X.A X.stack _ _ [.ref a] _ [.ref a] _ Q hr I3.env0 (.cons rfl .nil) e2 l2 zz) fun r s' hq2 => ?_))
    cases r with
    | error e => exact False.elim hq2
    | ok fl =>
      cases fl with
      | ret u => exact I3.after hq2
      | next => exact False.elim hq2
      | brk => exact False.elim hq2
      | cont => exact False.elim hq2
  · refine h Hi H σ ok en _ fun x M0 v0 Hi0 H0 h0 s0 ok0 r0 => ?_
    obtain ⟨hob, h0⟩ := h0
    obtain ⟨p, dx, gs, rfl, hp, hn⟩ := hob _ _ _ _ ok0 r0
    refine ⟨p, dx, gs, rfl, hp, hn, fun n0 hn0 => ?_⟩
    refine h0 n0 (ok0.fresh hn0) Hi0 (upd H0 n0 (.dK [])) σ (ok0.new hn0 ⟨[], rfl, .nil⟩) (en.mono s0) _ fun y M1 v1 Hi1 H1 h1 s1 ok1 r1 => ?_
    obtain ⟨M2, b, i, ex, rfl, rfl, hi, hl, hns, hsx⟩ := h1
    cases r1
    obtain ⟨_, o1, ho1, gs1, rfl, rk1⟩ := ok1.get (i := 0) rfl
    obtain ⟨hib, o2, ho2, gs2, rfl, rk2⟩ := ok1.get (i := i + 1) hi
    cases rk1
    obtain ⟨ev, rfl, e1, ra⟩ := repk_keys rk2
    have okT := ok1.tail
    have hbn : b ≠ n0 := fun z => by
      subst z
      obtain ⟨F, fl, k0⟩ := ok1
      cases fl with
      | cons o r =>
        cases o
        obtain ⟨B', o', hs⟩ := r.mem (List.mem_of_getElem? hi)
        cases o'
        exact (List.nodup_cons.mp k0.nd).1 (List.mem_map.mpr ⟨_, hs.subset (List.mem_singleton.mpr rfl), rfl⟩)
    have lev : ev.length = ex.length := by
      have := congrArg List.length e1
      rw [List.length_map, List.length_map] at this
      exact this
    refine ⟨b, ev, rfl, hbn, ho1, ho2, by omega, by rw [e1]; exact hns, ?_⟩
    rw [e1]
    have okS := (Ok.set (i := 0) (c' := .dk (kwK ex)) ok1 rfl ⟨_, rfl, rk2⟩).tail
    exact ⟨Hi1, M2, [x], ex.map (·.2), P, .cons (r0.mono s1) .nil, ra, okS, hsx, q1.up (s0.trans s1)⟩
end
theorem MtS.toB {P : Program} {w : World} {K : PySem.W.Frag} {mg : Str → Option Value} {base : Heap} {C f0 : Addr} {n : Nat} {m : Str} {s : List Str → ASxe} (h : MtS P w K mg base C n m s) (m0 : Meth K C m f0) (bd : BdM K f0) : MtSB P w K mg base C n m fun ks ds es M R => s ks ds es M R fun _ _ _ => False := by
  obtain ⟨f, a, b, F⟩ := h.ex
  have e : f = f0 := by
    have := a.at_.symm.trans m0.at_
    injection this with this
    injection this with this
    injection this
  subst e
  exact ⟨f, a, bd, b, fun ks h1 h2 h3 => (F ks h1 h2 h3).toX⟩
end Ab
/-! Ab114: o.f as a target among others -/
namespace Ab
open PySem PySem.Spec PyProof.Rows L2
def gFld (K : PySem.W.Frag) (ta : TE) (f : Str) : TG := fun y σ H Q => ta σ H fun x H2 => ∃ a C dx fs, x = .ref a ∧ H2 a = some (.ins C dx fs) ∧ Cls K C ∧ NoAttr K C f ∧ fs.length < 1000 ∧ Q σ (upd H2 a (.ins C dx (putF f y fs)))
section
variable {X : Cx} {Γ : Gam} {M : Mem} {o : Expr} {f : Str} {pos : Pos} {d : Val}
theorem pg_fld {ta : TE} (ho : PE X o ta) (ha : ∀ v, assign (.Attribute o f pos) X.env v = (do
      let ov ← holding [v] (eval o X.env)
      standAt pos.atName
      holding [v, ov] (setAttr ov f v)
      release [v, ov] []) := by intro _; rfl) : PG X (.Attribute o f pos) (gFld X.K ta f) := by
  refine ⟨fun pins s σ H v u Q I r h => ?_⟩
  rw [ha]
  refine wpAny_bind (wpAny_holding (thn (ho.run pins s σ H _ I h) fun ov s1 ⟨x, H1, I1, r1, a, C, dx, fs, ex, ea, c, n, l, q⟩ => ?_))
  subst ex
  obtain rfl : ov = Value.ref a := r1
  refine wpAny_bind (wpAny_standAt (wpAny_bind (wpAny_holding (setattr_ok I1 ea c n l r fun s3 I3 => ?_))))
  exact wpAny_release ⟨σ, _, I3, q⟩
theorem ag_fld {C : Addr} {R : Gam → Mem → Prop} (c : Cls X.K C) (na : NoAttr X.K C f) (h : aE X o Γ M fun x M2 => ∃ n p fs, x = .ptr p ∧ M2[n]? = some (p, .ins C fs) ∧ fs.length < 1000 ∧ R Γ (M2.set n (p, .ins C (putV f d fs))))
    (ha : ∀ v, assign (.Attribute o f pos) X.env v = (do
      let ov ← holding [v] (eval o X.env)
      standAt pos.atName
      holding [v, ov] (setAttr ov f v)
      release [v, ov] []) := by intro _; rfl) : aG X (.Attribute o f pos) d Γ M R := fun Hi H σ v ok en r Q q => by
  refine ⟨_, pg_fld pe_we ha, ?_⟩
  refine h Hi H σ ok en _ fun x M2 w Hi2 H2 h2 s2 ok2 r2 => ?_
  obtain ⟨n, p, fs, rfl, hm, hl, hk⟩ := h2
  cases r2
  obtain ⟨_, oo, ho, dx, gs, rfl, rf⟩ := ok2.get hm
  exact ⟨p, C, dx, gs, rfl, ho, c, na, by rw [← rf.length]; exact hl, q _ _ _ Hi2 _ hk s2 (ok2.set hm ⟨dx, _, rfl, rf.put (r.mono s2)⟩) (en.mono s2)⟩
end
end Ab
namespace K54
open PySem L2 Ab Sm Tx
section
variable {P : Program} {w : World} {K : PySem.W.Frag} {mg : Str → Option Value} {base : Heap} {k : Nat} {f C C2 CG CN CP : Addr}
/-- replaced by any keywords -/
abbrev RplS (P : Program) (w : World) (K : PySem.W.Frag) (mg : Str → Option Value) (base : Heap) (C CN CP : Addr) : Prop := MtSB P w K mg base C 7 "replaced" fun ks ds es M R => ds.length = 1 ∧ ∀ p, p ∉ M.map (·.1) → aRpl K C CN CP (ds ++ [.ptr p]) ((p, .dk (kwK (ks.zip es))) :: M) R fun _ _ _ => False
/-! ### Growth: the changes -/
def aStt (C CG : Addr) : ASp := fun ds M R => ∃ (i : Nat) (g q : Addr) (S : Sc) (x y : Int), ds = [.ptr g] ∧ M[i]? = some (g, .ins CG (grF C S x y q)) ∧ R (.tup [scV C S, .int x, .int y]) M
theorem b_gstate (G : GrX K mg CG) : BodyOk P w K mg base k f n_Growth_state "Growth.state" (defScope c_Growth_state) (defBody c_Growth_state) (aStt C CG) := by
  rintro cdv A outer s0 H E hr ds M R ⟨i, g, q, S, x, y, rfl, hi, hp⟩
  exact as_one (as_retv (av_tup (avs_cons (av_fld G.cl G.n0 (v_ 0) (.ce i hi) rfl) (avs_cons (av_fld G.cl G.n1 (v_ 0) (.ce i hi) rfl) (avs_cons (av_fld G.cl G.n2 (v_ 0) (.ce i hi) rfl) avs_nil))) szb) (.ok hp))
def aGri (C CG : Addr) : ASp := fun ds M R => ∃ (p : Addr) (S : Sc) (n : Int) (M0 : Mem), ds = [.ptr p, scV C S, .int n] ∧ M = (p, .ins CG []) :: M0 ∧ 0 ≤ n ∧ ∀ q, R .non ((q, .lst []) :: (p, .ins CG (grF C S n n q)) :: M0)
theorem b_ginit (B : Bt mg) (T : Rs K mg C) (IS : Isi K C) (G : GrX K mg CG) (GC : GIct P w K mg base) : BodyOk P w K mg base 1 f n_Growth___init__ "Growth.__init__" (defScope c_Growth___init__) (defBody c_Growth___init__) (aGri C CG) := by
  rintro cdv A outer s0 H E hr ds M R ⟨p, S, n, M0, rfl, rfl, n0, hp⟩
  refine as_cons (as_if (at_not (at_val (ae_isi B.isinstance (v_ 1) (ae_glob T.gC ⟨rfl, rfl⟩) (.own C) (ty_sc T IS) IS.c5 ⟨true, rfl, nft, fun _ => as_nil ?_⟩))))
  refine as_cons (as_if (at_not (at_val (ae_g GC hr (by decide) (aa_cons ((v_ 2).val (aa_nil (ak_nil ⟨rfl, n, rfl, true, ?_, nft, fun _ => as_nil ?_⟩))))))))
  · rw [decide_eq_true n0]
  refine as_cons (as_asg ((av_tup (avs_cons (v_ 1) (avs_cons (v_ 2) (avs_cons (v_ 2) avs_nil))) szb).val (ag_tup rfl (ags_cons (ag_fld G.cl G.n0 ((v_ 0).val ⟨0, p, _, rfl, rfl, Nat.le_of_ble_eq_true rfl, ags_cons (ag_fld G.cl G.n1 ((v_ 0).val ⟨0, p, _, rfl, rfl, Nat.le_of_ble_eq_true rfl, ags_cons (ag_fld G.cl G.n2 ((v_ 0).val ⟨0, p, _, rfl, rfl, Nat.le_of_ble_eq_true rfl, ags_nil ?_⟩))⟩))⟩))))))
  exact as_one (as_fld G.cl G.n3 (ae_lstC (aa_nil ⟨szb, fun q => (v_ 0).val ⟨1, p, _, rfl, rfl, Nat.le_of_ble_eq_true rfl, .ok (hp q)⟩⟩)))
structure Mkg (P : Program) (w : World) (K : PySem.W.Frag) (mg : Str → Option Value) (base : Heap) (C CG : Addr) : Prop where
  ex : ∃ fi, Mk K CG fi ∧ FnX P w K mg base 2 fi ["label"] (spX K fun ds es M R => ds.length = 2 ∧ aGri C CG (ds ++ es) M R)
/-- Growth(e, label=e2) -/
theorem ae_growthL {X : Cx} {Γ : Gam} {M : Mem} {R : Val → Mem → Prop} {e e2 : Expr} {p1 p2 pos : Pos} {m : Nat} (G : GrX X.K X.mg CG) (I : Mkg X.prog X.w X.K X.mg X.base C CG) (hr : Rm m X.A) (hm : 3 ≤ m)
    (h : aE X e Γ M fun x M1 => aE X e2 Γ M1 fun y M2 => ∃ (S : Sc) (n : Int), x = scV C S ∧ y = .int n ∧ 0 ≤ n ∧ ∀ g q, R (.ptr g) ((q, .lst []) :: (g, .ins CG (grF C S n n q)) :: M2))
    (hg : Gl X "Growth" := by rfl) (he : starEach [e] X.env = (false, eval e X.env) :: starEach [] X.env := by rfl) : aE X (.Call (.Name "Growth" p1) [e] [⟨some "label", e2, p2⟩] pos) Γ M R := by
  obtain ⟨fi, mk, F⟩ := I.ex
  refine ae_make mk F (hr.mono hm) G.gG (aa_cons (h.mono fun x M1 h1 => aa_nil (ak_cons (h1.mono fun y M2 h2 => ak_nil ⟨rfl, fun p hn => ⟨rfl, ?_⟩⟩))) he) hg rfl rfl (by decide) he (by rw [he]; rfl)
  obtain ⟨S, n, rfl, rfl, n0, hR⟩ := h2
  exact ⟨p, S, n, M2, rfl, rfl, n0, fun q => ⟨rfl, hR p q⟩⟩
end
end K54
/-! Ab135: key in dict -/
namespace Ab
open PySem PySem.Spec PyProof.Rows L2
section
variable {X : Cx} {M : Mem} {kk : Key} {p : Addr} {ds : List (Key × Val)}
def rDIn : R2 := fun x y H Q => ∃ a o, y = .ref a ∧ DGet H a x o ∧ Q (.bl o.isSome) H
theorem op_dIn (hu : X.A.units + 1 < cLine) : OpR X (compareOp .In) rDIn := by
  intro pins s σ H x y v u Q I rx ry h
  obtain ⟨a, o, rfl, g, q⟩ := h
  obtain rfl : u = Value.ref a := ry
  exact d_in hu I g rx fun s3 I3 => ⟨.bl o.isSome, H, I3, rfl, q⟩
theorem RepK.some_is {K : PySem.W.Frag} {H : Hp} {k : Key} {fs : List (Key × Val)} {gs : List (Key × V)} (r : RepK K H fs gs) : (valV gs k).isSome = (dGet fs k).isSome := by
  cases h : dGet fs k with
  | none => rw [r.noKey h]; rfl
  | some d =>
    obtain ⟨v, e, _⟩ := r.get h
    rw [e]; rfl
theorem cmp_inDk (hm : DkAt M p ds) (hu : X.A.units + 1 < cLine) : Cmp X .In M (kD kk) (.ptr p) (dGet ds kk).isSome := ⟨_, op_dIn hu, fun Hi H v w ok rv rw_ Q q => by
  cases rw_
  obtain rfl := rep_kD rv
  obtain ⟨ks, rd, rk⟩ := hm.rd ok
  refine ⟨p, _, rfl, .inl ⟨ks, kk, rd, rfl, rfl⟩, ?_⟩
  rw [rk.some_is]
  exact q _ M _ Hi H ⟨rfl, rfl⟩ (Same.refl _) ok (.bl _)⟩
end
end Ab
/-! a def that may raise: called by keywords alone; keywords in the order backwards -/
namespace Ab
open PySem L2
end Ab
/-! Ab106: xs.clear() -/
namespace Ab
open PySem PySem.Spec PyProof.Rows L2 PyProof
end Ab
/-! Ab107: a for over a generator whose suite may raise -/
namespace Ab
open PySem PySem.Spec PyProof.Rows L2 GenW
open Sem (wp)
end Ab
/-! Ab121: generators that raise at their first wake -/
namespace Ab
open PySem PySem.Spec PyProof.Rows L2 GenW
/-- no such exception ends an iterator -/
abbrev NSt (K : PySem.W.Frag) (PE : XP) : Prop := ∀ C fs M, PE C fs M → PySem.W.subIn K (.ref C) (.type "StopIteration") = some false
def noSt (K : PySem.W.Frag) (E : XK) : XK := fun cls d H => E cls d H ∧ PySem.W.subIn K cls (.type "StopIteration") = some false
/-- the end of its run: an exception leaves it -/
abbrev RZ (P : Program) (w : World) (K : PySem.W.Frag) (outer : List Env) (H : Hp) (s : Shared) (E : XK) (a : Addr) (g : Nat) : GenEnd := fun n s₀ r s1 => ((r = .ok (.ret .none) ∨ r = .ok .next) ∧ False) ∨ ∃ e, r = .error e ∧ (L2.CX P w outer H s (noSt K E) e s1 ∧ s1.heap.IsGen a g)
abbrev YZ : Protocol := fun _ _ _ _ _ => False
/-- what its call gives -/
def GRz (P : Program) (w : World) (K : PySem.W.Frag) (k : Nat) (outer : List Env) (H : Hp) (s : Shared) (E : XK) (u : Value) (s' : Shared) : Prop :=
  ∃ (a : Addr) (g : Nat) (c : Code), u = .ref a ∧ s'.heap.IsGen a g ∧ s'.gens[g]? = some (.fresh c) ∧ s'.os = s.os ∧ AllBare s'.gens ∧ s'.heap.NoLimit ∧ (∀ b o, s.heap.get? b = some o → s'.heap.get? b = some o) ∧
    ∀ (A : Around) (s2 : Shared), Rm k A → A.frames = some outer → (∀ b o, s'.heap.get? b = some o → s2.heap.get? b = some o) → s2.os = s.os → AllBare s2.gens →
      Seg (model P w) A (RZ P w K outer H s E a g) YZ 1 s2 c ((model P w).den c) [] s2
/-- what it is called with, the exception -/
abbrev ASz := List Val → List Val → Mem → XP → Prop
def spZ (K : PySem.W.Frag) (sx : ASz) (vs zs : List V) (H : Hp) (E : XK) : Prop := ∃ Hi M ds es PE, RepA K Hi ds vs ∧ RepA K Hi es zs ∧ Ok K Hi M H ∧ sx ds es M PE ∧ XPost K Hi PE E ∧ NSt K PE
/-- a generator def whose first wake raises -/
structure FnZ (P : Program) (w : World) (K : PySem.W.Frag) (mg : Str → Option Value) (base : Heap) (k : Nat) (f : Addr) (ks : List Str) (sx : ASz) : Prop where
  run : ∀ (A : Around) (outer : List Env) (s : Shared) (H : Hp) (us ws : List Value) (vs zs : List V) (E : XK), Rm k A → Env0 P w K mg base A outer s H → Vals vs us → Vals zs ws → zs.length = ks.length → spZ K sx vs zs H E →
    codeAny (model P w) A (.call (.ref f) ⟨us, ks.zip ws⟩) (fun r s' => match r with
      | .ok (.ret u) => GRz P w K k outer H s E u s'
      | _ => False) s
section
variable {P : Program} {w : World} {K : PySem.W.Frag} {mg : Str → Option Value} {base : Heap} {x qual : Str} {params : Arguments} {body : List Stmt} {sc : Scope} {dvs : List V} {kws : List (Str × V)} {f : Addr} {fd : FuncData} {N ps ks : List Str} {k n : Nat} {s0 : List Val → Mem → XP → Prop}
theorem FnZ.mono {j : Nat} {sx : ASz} (F : FnZ P w K mg base j f ks sx) (h : j ≤ k) : FnZ P w K mg base k f ks sx := ⟨fun A outer s H us ws vs zs E hr e0 r rz l hs =>
  codeAny_mono (F.run A outer s H us ws vs zs E (hr.mono h) e0 r rz l hs) fun r s' hq => by
    cases r with
    | error e => exact hq
    | ok fl =>
      cases fl with
      | ret u =>
        obtain ⟨a, g, c, h1, h2, h3, h4, h5, h6, h7, h8⟩ := hq
        exact ⟨a, g, c, h1, h2, h3, h4, h5, h6, h7, fun A s2 hr => h8 A s2 (hr.mono h)⟩
      | next => exact hq
      | brk => exact hq
      | cont => exact hq⟩
end
end Ab
/-! Ab118: xs.index(e) of data; C(k=e) -/
namespace Ab
open PySem PySem.Spec PyProof.Rows L2 Builtin
end Ab
/-! Ab100: arguments that may raise; calls with such arguments -/
namespace Ab
open PySem PySem.Spec PyProof.Rows L2
end Ab
/-! Ab108: C(..) whose __init__ may raise -/
namespace Ab
open PySem PySem.Spec PyProof.Rows L2
end Ab
/-! Ab122: a def (a, *v, k) that may raise; C(k = e) whose __init__ may raise -/
namespace Ab
open PySem PySem.Spec PyProof.Rows L2
end Ab
/-! Ab123: dicts of one key, their values data, told alike -/
namespace Ab
open PySem PySem.Spec PyProof.Rows L2
end Ab
/-! S45: the place of a leaf is linear in a named item -/
namespace Sm
theorem smN_put {f g : Nat → Int} {i : Nat} (h : ∀ j, j ≠ i → g j = f j) : ∀ {n : Nat}, i < n → smN g n = smN f n + (g i - f i)
  | 0, hi => absurd hi (Nat.not_lt_zero _)
  | n + 1, hi => by
    show smN g n + g n = smN f n + f n + (g i - f i)
    by_cases z : i = n
    · subst z
      rw [smN_congr (g := f) fun j hj => h j (by omega)]
      omega
    · rw [smN_put h (show i < n by omega), h n fun q => z q.symm]
      omega
/-- how often the labels of a named item come before the end of leaf b (from 0) -/
def oft (k b : Nat) (d : Bool) (i : Nat) : Int := if d = true then (if k ^ (i - 1) ≤ b then 1 else 0) else ((b / k ^ i : Nat) : Int)
section
variable {k b : Nat} {s l s' l' : Nat → Int}
theorem lt_pow_up (hk : 2 ≤ k) (b m : Nat) : b < k ^ (b + m) := Nat.lt_of_lt_of_le (lt_pow hk b) (Nat.pow_le_pow_right (by omega) (Nat.le_add_right b m))
theorem pl_put_s (hk : 2 ≤ k) {j : Nat} (h : ∀ i, i ≠ 1 + j → s' i = s i) : pl k s' l 0 b = pl k s l 0 b + (s' (1 + j) - s (1 + j)) * (if k ^ j ≤ b then 1 else 0) := by
  have hb := lt_pow_up hk b (j + 1)
  rw [leaf_full hk hb, leaf_full hk hb, h 0 (by omega), smN_put (f := fun m => if k ^ m ≤ b then s (1 + m) else 0) (g := fun m => if k ^ m ≤ b then s' (1 + m) else 0) (i := j) (fun m hm => by rw [h (1 + m) (by omega)]) (show j < b + (j + 1) by omega)]
  split
  · rw [Int.mul_one]; omega
  · rw [Int.mul_zero]; omega
theorem pl_put_l (hk : 2 ≤ k) {i : Nat} (h : ∀ j, j ≠ i → l' j = l j) : pl k s l' 0 b = pl k s l 0 b + (l' i - l i) * ((b / k ^ i : Nat) : Int) := by
  have hb := lt_pow_up hk b (i + 1)
  rw [leaf_full hk hb, leaf_full hk hb, smN_put (f := fun m => ((b / k ^ m : Nat) : Int) * l m) (g := fun m => ((b / k ^ m : Nat) : Int) * l' m) (i := i) (fun m hm => by rw [h m hm]) (show i < b + (i + 1) + 1 by omega)]
  have e : ((b / k ^ i : Nat) : Int) * l' i - ((b / k ^ i : Nat) : Int) * l i = (l' i - l i) * ((b / k ^ i : Nat) : Int) := by rw [← Int.mul_sub, Int.mul_comm]
  rw [← e]
  omega
theorem oft_nn (d : Bool) (i : Nat) : 0 ≤ oft k b d i := by
  unfold oft
  split
  · split <;> omega
  · exact Int.natCast_nonneg _
theorem oft_le (d : Bool) (i : Nat) : oft k b d i ≤ (b : Int) + 1 := by
  unfold oft
  split
  · split <;> omega
  · have := Int.ofNat_le.mpr (Nat.div_le_self b (k ^ i))
    exact Int.le_trans this (by omega)
end
/-- what item_for tells: the present value, what is missing, how often, the least value -/
def itA (pres m o lo : Int) : Option Int := if o = 0 then (if m = 0 then some pres else none) else if m % o = 0 ∧ lo ≤ pres + m / o ∧ pres + m / o ≤ 1000000 then some (pres + m / o) else none
/-- .. from another value of the item -/
theorem itA_from {pres m o lo c : Int} (o0 : o ≠ 0) : itA pres m o lo = if (m + (pres - c) * o) % o = 0 ∧ 0 ≤ (m + (pres - c) * o) / o + (c - lo) ∧ (m + (pres - c) * o) / o ≤ 1000000 - c then some (c + (m + (pres - c) * o) / o) else none := by
  unfold itA
  rw [if_neg o0, Int.add_mul_emod_self_right, Int.add_mul_ediv_right _ _ o0]
  by_cases z : m % o = 0 ∧ lo ≤ pres + m / o ∧ pres + m / o ≤ 1000000
  · rw [if_pos z, if_pos ⟨z.1, by omega, by omega⟩]
    congr 1
    omega
  · rw [if_neg z, if_neg fun q => z ⟨q.1, by omega, by omega⟩]
/-- the value that is told gives the place -/
theorem itA_hit {pres m o lo v : Int} (h : itA pres m o lo = some v) : m = (v - pres) * o ∧ (v = pres ∨ lo ≤ v ∧ v ≤ 1000000) := by
  unfold itA at h
  split at h
  · next c =>
    split at h
    · next z =>
      injection h with h
      subst h
      rw [c, z]
      exact ⟨by omega, .inl rfl⟩
    · exact nomatch h
  · next c =>
    split at h
    · next z =>
      injection h with h
      subst h
      refine ⟨?_, .inr ⟨z.2.1, z.2.2⟩⟩
      have := Int.emod_add_mul_ediv m o
      rw [z.1] at this
      rw [show pres + m / o - pres = m / o by omega, Int.mul_comm]
      omega
    · exact nomatch h
theorem itA_back {pres o lo v : Int} (hv : itA pres ((v - pres) * o) o lo = some v) : itA v 0 o lo = some v := by
  unfold itA at hv ⊢
  by_cases z : o = 0
  · rw [if_pos z, if_pos rfl]
  · rw [if_neg z, Int.mul_emod_left, Int.mul_ediv_cancel _ z] at hv
    rw [if_neg z, Int.zero_emod, Int.zero_ediv]
    split at hv
    · next q => rw [if_pos ⟨rfl, by omega, by omega⟩]; simp
    · exact nomatch hv
end Sm
namespace K54
open PySem L2 Ab Sm Tx
/-! ### growth.py: items by name, item_for -/
theorem nm_mem {j : Nat} (hj : j < 24) : Val.str (nm j) ∈ nmL (List.range 24) := List.mem_map.mpr ⟨j, List.mem_range.mpr hj, rfl⟩
theorem cmp_nmIn {X : Cx} {M : Mem} {j : Nat} (hj : j < 24) (hu : X.A.units + 65 < cLine) : Cmp X .In M (.str (nm j)) (.tup (nmL (List.range 24))) true := by
  obtain ⟨h1, h2⟩ := nmL_nb (js := List.range 24) fun i hi => List.mem_range.mp hi
  obtain ⟨b, c, e⟩ := cp_inT (X := X) (M := M) (.self (.str (nm j))) (.self (.tup (nmL (List.range 24)))) (show nbV (.str (nm j)) from nm_ok hj) h1 (Nat.zero_le _) (show dpVs (nmL (List.range 24)) + 1 ≤ 60 by rw [h2]; decide) hu
  rw [e.mpr (nm_mem hj)] at c
  exact c
section
variable {P : Program} {w : World} {K : PySem.W.Frag} {mg : Str → Option Value} {base : Heap} {k : Nat} {f C C2 CG CZ : Addr}
def aIsi7 : ASp := fun ds M R => ∃ j : Nat, ds = [.str (nm j)] ∧ j < 24 ∧ R (.bl true) M
theorem b_gis_item (B : Bt mg) (hs : mg "str" = none) (G : GrX K mg CG) : BodyOk P w K mg base k f n_Growth_is_item "Growth.is_item" (defScope c_Growth_is_item) (defBody c_Growth_is_item) aIsi7 := by
  rintro cdv A outer s0 H E hr ds M R ⟨j, rfl, hj, hp⟩
  exact as_one (as_ret (ae_and (ae_isi B.isinstance (v_ 0) (av_ty (T := "str") hs (by decide +kernel)) (.ty "str") (.str _) (kit_ty (by decide +kernel)) ⟨true, rfl, fun _ => ae_one (ae_cmp (v_ 0) (av_items G) (cmp_nmIn hj hr.u65) (.ok hp)), ntf⟩)))
structure SIsi (P : Program) (w : World) (K : PySem.W.Frag) (mg : Str → Option Value) (base : Heap) (CG : Addr) : Prop where
  ex : ∃ p g, SMet K CG (.type "type") "is_item" p g ∧ FnX P w K mg base 1 g [] (spX K fun ds _ => aIsi7 ds)
/-- the constant MAX_LABELS of Schedule -/
structure MxL (K : PySem.W.Frag) (C : Addr) : Prop where
  rd : ClX.CRead K C (.type "type")
  l : ∃ t, ClX.CVal K C (.type "type") "MAX_LABELS" (.int 1000000) (.int 1000000 t)
abbrev GIc2 (P : Program) (w : World) (K : PySem.W.Frag) (mg : Str → Option Value) (base : Heap) : Prop := Gd P w K mg base 1 "is_count" [] fun ds _ => aIct ds
def aIiv : ASp := fun ds M R => ∃ (j : Nat) (v : Int), ds = [.str (nm j), .int v] ∧ j < 24 ∧ R (.bl (decide (lv0 j ≤ v ∧ v ≤ 1000000))) M
theorem b_is_item_value (T : Rs K mg C) (ML : MxL K C) (GC : GIc2 P w K mg base) (GL : GLsv P w K mg base) : BodyOk P w K mg base 1 f n_is_item_value "is_item_value" (defScope s_is_item_value) (defBody s_is_item_value) aIiv := by
  rintro cdv A outer s0 H E hr ds M R ⟨j, v, rfl, hj, hp⟩
  obtain ⟨t, hl⟩ := ML.l
  refine as_one (as_ret (ae_and (ae_g GC hr (by decide) (aa_cons ((v_ 1).val (aa_cons (ae_g GL hr (by decide) (aa_cons ((v_ 0).val (aa_nil (ak_nil ⟨rfl, j, rfl, hj, aa_nil (ak_nil ⟨rfl, v, lv0 j, rfl, _, rfl, fun z => ?_, fun z => .ok ?_⟩)⟩)))))))))))
  · have z := of_decide_eq_true z
    refine ae_one (ae_cmp (v_ 1) (av_cval ML.rd hl (ae_glob T.gC ⟨rfl, rfl⟩) fun _ => .int _) cmp_le (.ok ?_))
    rw [show decide (v ≤ 1000000) = decide (lv0 j ≤ v ∧ v ≤ 1000000) from decide_eq_decide.mpr ⟨fun q => ⟨z, q⟩, fun q => q.2⟩]
    exact hp
  · have z := of_decide_eq_false z
    rw [← show decide (lv0 j ≤ v ∧ v ≤ 1000000) = false from decide_eq_false fun q => z q.1]
    exact hp
abbrev GIiv (P : Program) (w : World) (K : PySem.W.Frag) (mg : Str → Option Value) (base : Heap) : Prop := Gd P w K mg base 2 "is_item_value" [] fun ds _ => aIiv ds
def aInf7 : ASp := fun ds M R => ∃ a j b : Nat, ds = [.int (a : Int), .str (nm j), .int ((b : Int) + 1)] ∧ 2 ≤ a ∧ a ≤ 9 ∧ j < 24 ∧ j ≠ 0 ∧ R (.int (oft a b (jb j) (ji j))) M
theorem b_influence (B : Bt mg) (GP : GPof P w K mg base) (GF : GFlf P w K mg base) : BodyOk P w K mg base 2 f n_influence "influence" (defScope s_influence) (defBody s_influence) aInf7 := by
  rintro cdv A outer s0 H E hr ds M R ⟨a, j, b, rfl, a2, a9, hj, j0, hp⟩
  have hk := kw24 hj
  have n12 := hk.n12
  have hz : ¬ (jb j = true ∧ ji j = 0) := fun ⟨h1, h2⟩ => j0 (jj_inj hj (by decide) h1 h2)
  have eb : (b : Int) + 1 - 1 = b := by omega
  cases hb : jb j with
  | false =>
    rw [hb] at hk hp
    refine as_cons (as_ifp (tp_cmp (av_kw0 hk (v_ 1)) s_ cp_eqS) (fun _ => ?_) (fun c => absurd rfl c))
    have q9 : 9 ^ 99 < 2 ^ 8000 := by decide +kernel
    have p9 : a ^ ji j ≤ 9 ^ 99 := Nat.le_trans (Nat.pow_le_pow_left a9 _) (Nat.pow_le_pow_right (by decide) (by omega))
    have p0 : 0 < a ^ ji j := Nat.pow_pos (by omega)
    refine as_one (as_ret (ae_bin ((av_sub (v_ 2) i_).val (ae_g GP hr (by decide) (aa_cons ((v_ 0).val (aa_cons ((av_kwN hk B.int (v_ 1)).val (aa_nil (ak_nil ⟨rfl, a, ji j, rfl, a9, by omega, bv_fdivU (cdw (by omega) (by rw [Int.natAbs_natCast]; omega)) (.ok ?_)⟩))))))))))
    rw [eb, ← Int.natCast_ediv]
    exact hp
  | true =>
    have hk' := hk
    rw [hb] at hk' hp
    refine as_cons (as_ifp (tp_cmp (av_kw0 hk' (v_ 1)) s_ cp_eqS) (fun c => absurd (dw_w.mp c) (by decide)) (fun _ => as_nil ?_))
    refine as_one (as_ret ((av_intB B.int (ae_cmpM ((v_ 2).val (ae_g GF hr (by decide) (aa_cons ((v_ 0).val (aa_cons ((v_ 1).val (aa_nil (ak_nil ⟨rfl, a, j, rfl, a9, hj, _, cmp_ge, rfl, rfl⟩)))))))))).val (.ok ?_)))
    have e : (if decide (((FF a j : Nat) : Int) + 1 ≤ (b : Int) + 1) = true then (1 : Int) else 0) = oft a b true (ji j) := by
      unfold oft FF fli
      rw [hb, if_pos rfl, if_pos rfl, if_neg fun z => hz ⟨hb, z⟩]
      by_cases z : a ^ (ji j - 1) ≤ b
      · rw [if_pos z, if_pos (decide_eq_true (by omega))]
      · rw [if_neg z, if_neg (by rw [decide_eq_false (by omega)]; decide)]
    rw [e]
    exact hp
abbrev GInf7 (P : Program) (w : World) (K : PySem.W.Frag) (mg : Str → Option Value) (base : Heap) : Prop := Gd P w K mg base 3 "influence" [] fun ds _ => aInf7 ds
/-- the item that a name says -/
def itI (s l : Nat → Int) (j : Nat) : Int := if jb j = true then s (ji j) else l (ji j)
def oV : Option Int → Val
  | some v => .int v
  | none => .non
def aIfo (C CG : Addr) : ASp := fun ds M R => ∃ (i : Nat) (g q : Addr) (S : Sc) (x y : Int) (j b : Nat) (pv : Int), ds = [.ptr g, .str (nm j), .int ((b : Int) + 1), .int pv] ∧ M[i]? = some (g, .ins CG (grF C S x y q)) ∧ GoodS S ∧ j < 24 ∧ frz S.a.toNat (item S.sp) (item S.lv) y (jb j) (ji j) = false ∧ b < 2 ^ 900 ∧ 0 ≤ pv ∧
  R (oV (itA (itI (item S.sp) (item S.lv) j) (pv - pl S.a.toNat (item S.sp) (item S.lv) 0 b) (oft S.a.toNat b (jb j) (ji j)) (lv0 j))) M
theorem frz_j0 {a : Nat} {s l : Nat → Int} {y : Int} {j : Nat} (h : frz a s l y (jb j) (ji j) = false) : j ≠ 0 := fun z => by
  subst z
  rw [show jb 0 = true from rfl, show ji 0 = 0 from rfl] at h
  unfold frz at h
  rw [if_pos rfl] at h
  exact of_decide_eq_false h (.inl rfl)
theorem b_gitem_for (B : Bt mg) (T : Rs K mg C) (PA : PrA P w K mg base C) (Q : Sm2 P w K mg base C) (G : GrX K mg CG) (Z : Cr K mg C2) (g2 : mg "Counter" = some (.ref C2)) (I : Mkc P w K mg base C C2) (XP : Mt P w K mg base C2 6 "place" (aPlB C C2)) (SI : SIsi P w K mg base CG) (XF : Mt P w K mg base CG 6 "is_frozen" (aIfz C CG)) (GC : GIct P w K mg base) (GC2 : GIc2 P w K mg base) (GV : GIiv P w K mg base) (GI : GInf7 P w K mg base) : BodyOk P w K mg base 7 f n_Growth_item_for "Growth.item_for" (defScope c_Growth_item_for) (defBody c_Growth_item_for) (aIfo C CG) := by
  rintro cdv A outer s0 H E hr ds M R ⟨i, g, q, S, x, y, j, b, pv, rfl, hi, hS, hj, hf, hb, hpv, hp⟩
  obtain ⟨p1, f1, sm, F1⟩ := SI.ex
  have hk := kw24 hj
  have n12 := hk.n12
  have a2 := hS.a2
  have a9 := hS.a9
  have j0 := frz_j0 hf
  have hO : Ob M CG (.ptr g) (grF C S x y q) := .ce i hi
  refine as_cons (as_if (at_not (at_val (ae_smeth G.rd sm F1 (hr.mono (by decide)) (ae_glob G.gG ⟨rfl, rfl⟩) (aa_cons ((v_ 1).val (aa_nil (ak_nil ⟨rfl, j, rfl, hj, true, rfl, nft, fun _ => as_nil ?_⟩))))))))
  refine as_cons (as_if (at_val (ae_m1 G.cl XF hr (by decide) ((v_ 0).val ⟨hO.obM rfl, (v_ 1).val ⟨i, g, q, S, x, y, j, rfl, hi, hS, hj, _, rfl, fun z => ?_, fun _ => as_nil ?_⟩⟩))))
  · rw [hf] at z
    exact Bool.noConfusion z
  refine as_cons (as_if (at_not (at_val (ae_g GC2 hr (by decide) (aa_cons ((v_ 2).val (aa_cons (i_.val (aa_nil (ak_nil ⟨rfl, _, 1, rfl, true, ?_, nft, fun _ => as_nil ?_⟩))))))))))
  · rw [decide_eq_true (show (1 : Int) ≤ (b : Int) + 1 by omega)]
  refine as_cons (as_if (at_not (at_val (ae_g GC hr (by decide) (aa_cons ((v_ 3).val (aa_nil (ak_nil ⟨rfl, _, rfl, true, ?_, nft, fun _ => as_nil ?_⟩))))))))
  · rw [decide_eq_true hpv]
  refine as_cons (as_par 4 5 q_Growth_item_for.nd rfl (by decide) (aA.val (avs_cons (av_fld G.cl G.n0 (v_ 0) hO rfl) (avs_cons (av_kwN hk B.int (v_ 1)) avs_nil)) ⟨_, _, rfl, ?_⟩))
  have eI : itI (item S.sp) (item S.lv) j = if jb j = true then item S.sp (ji j) else item S.lv (ji j) := rfl
  generalize hpr : itI (item S.sp) (item S.lv) j = pres at *
  refine as_cons (as_setv (d := .int pres) 6 q_Growth_item_for.nd ?_ ?_)
  · cases hjb : jb j with
    | true =>
      have hk' := hk
      rw [hjb] at hk' eI
      rw [if_pos rfl] at eI
      rw [eI]
      exact ae_ifp (tp_cmp (av_kw0 hk' (v_ 1)) s_ cp_eqS) (fun _ => (av_sa T Q hr (by decide) (v_ 4) (v_ 5) hS (by omega)).val ⟨rfl, rfl⟩) (fun c => absurd rfl c)
    | false =>
      have hk' := hk
      rw [hjb] at hk' eI
      rw [if_neg Bool.false_ne_true] at eI
      rw [eI]
      exact ae_ifp (tp_cmp (av_kw0 hk' (v_ 1)) s_ cp_eqS) (fun c => absurd (dw_d.mp c) Bool.false_ne_true) (fun _ => (av_la T Q hr (by decide) (v_ 4) (v_ 5) hS (by omega)).val ⟨rfl, rfl⟩)
  have hb2 : b < 2 ^ 2000 := Nat.lt_trans hb (Nat.pow_lt_pow_right (by decide) (by decide))
  refine as_cons (as_par 7 8 q_Growth_item_for.nd rfl (by decide) (aa_cons (ae_bin ((v_ 3).val (ae_m1 Z.cl XP hr (by decide) (ae_ctr Z g2 I hr (by decide) ((v_ 4).val ⟨S, rfl, hS, fun c2 => ⟨obm_ctr (i := 0) rfl, (v_ 2).val ⟨0, c2, S, 0, b, _, rfl, rfl, rfl, hS, by decide, hb2, bv_sub (aa_cons (ae_g GI hr (by decide) (aa_cons ((av_arity T PA hr (by decide) (v_ 4)).val (aa_cons ((v_ 1).val (aa_cons ((v_ 2).val (aa_nil (ak_nil ⟨rfl, S.a.toNat, j, b, by rw [Int.toNat_of_nonneg (by omega)], by omega, by omega, hj, j0, aa_nil ⟨_, _, rfl, ?_⟩⟩))))))))))⟩⟩⟩)))))))
  have ep : plN S 0 b = pl S.a.toNat (item S.sp) (item S.lv) 0 b := rfl
  rw [ep]
  have o0 := oft_nn (k := S.a.toNat) (b := b) (jb j) (ji j)
  have o1 := oft_le (k := S.a.toNat) (b := b) (jb j) (ji j)
  generalize oft S.a.toNat b (jb j) (ji j) = o at *
  generalize pv - pl S.a.toNat (item S.sp) (item S.lv) 0 b = m at *
  unfold itA at hp
  refine as_cons (as_ifp (tp_cmp (v_ 8) i_ cp_eq) (fun c => ?_) (fun c => as_nil ?_))
  · rw [if_pos c] at hp
    refine as_one (as_ret (ae_ifp (tp_cmp (v_ 7) i_ cp_eq) (fun c2 => (v_ 6).val (.drop (.ok ?_))) (fun c2 => n_.val (.drop (.ok ?_)))))
    · rw [if_pos c2] at hp
      exact hp
    · rw [if_neg c2] at hp
      exact hp
  rw [if_neg c] at hp
  have op : 0 < o := by omega
  have w8 : (2 : Nat) ^ 900 + 1 < 2 ^ 8000 := by decide +kernel
  have dv : CDivU m o := cdw op (by omega)
  refine as_cons (as_if (at_w (aw_or (at_cmp (av_mod (v_ 7) (v_ 8) op) i_ cmp_neI ⟨fun z => ?_, fun z => ?_⟩))))
  · have z : ¬ m % o = 0 := of_decide_eq_false ((Bool.not_eq_true' _).mp z)
    refine ⟨fun _ => as_one (as_retv n_ (.drop (.ok ?_))), ntf⟩
    rw [if_neg fun q => z q.1] at hp
    exact hp
  have z : m % o = 0 := of_decide_eq_true ((Bool.not_eq_false' _).mp z)
  refine aw_or1 (at_not (at_val (ae_g GV hr (by decide) (aa_cons ((v_ 1).val (aa_cons ((av_add (v_ 6) (av_fdivU (v_ 7) (v_ 8) dv)).val (aa_nil (ak_nil ⟨rfl, j, pres + m / o, rfl, hj, _, rfl, fun z2 => ?_, fun z2 => as_nil ?_⟩)))))))))
  · have z2 : ¬ (lv0 j ≤ pres + m / o ∧ pres + m / o ≤ 1000000) := of_decide_eq_false ((Bool.not_eq_true' _).mp z2)
    rw [if_neg fun q => z2 q.2] at hp
    exact as_one (as_retv n_ (.drop (.ok hp)))
  · have z2 : lv0 j ≤ pres + m / o ∧ pres + m / o ≤ 1000000 := of_decide_eq_true ((Bool.not_eq_false' _).mp z2)
    rw [if_pos ⟨z, z2⟩] at hp
    exact as_one (as_retv (av_add (v_ 6) (av_fdivU (v_ 7) (v_ 8) dv)) (.drop (.ok hp)))
def aIfoX (C CG CZ : Addr) : ASe := fun ds M R PE => ∃ (i : Nat) (g q : Addr) (S : Sc) (x y : Int) (j : Nat) (u v : Val), ds = [.ptr g, .str (nm j), u, v] ∧ M[i]? = some (g, .ins CG (grF C S x y q)) ∧ GoodS S ∧ j < 24 ∧ frz S.a.toNat (item S.sp) (item S.lv) y (jb j) (ji j) = true ∧ PE CZ [("item", .str (nm j))] M
theorem e_gitem_for (G : GrX K mg CG) (XZ : XMk P w K mg base "Frozen" CZ 1 (g1 "item")) (SI : SIsi P w K mg base CG) (XF : Mt P w K mg base CG 6 "is_frozen" (aIfz C CG)) : BodyE P w K mg base 7 f n_Growth_item_for "Growth.item_for" (defScope c_Growth_item_for) (defBody c_Growth_item_for) (aIfoX C CG CZ) := by
  rintro cdv A outer s0 H E hr po ds M R PE ⟨i, g, q, S, x, y, j, u, v, rfl, hi, hS, hj, hf, hp⟩
  obtain ⟨p1, f1, sm, F1⟩ := SI.ex
  have hO : Ob M CG (.ptr g) (grF C S x y q) := .ce i hi
  refine ys_cons (ys_of (as_if (at_not (at_val (ae_smeth G.rd sm F1 (hr.mono (by decide)) (ae_glob G.gG ⟨rfl, rfl⟩) (aa_cons ((v_ 1).val (aa_nil (ak_nil ⟨rfl, j, rfl, hj, true, rfl, nft, fun _ => as_nil ?_⟩)))))))))
  refine ys_cons (ys_if (at_val (ae_m1 G.cl XF hr (by decide) ((v_ 0).val ⟨hO.obM rfl, (v_ 1).val ⟨i, g, q, S, x, y, j, rfl, hi, hS, hj, _, rfl, fun _ => ?_, fun z => ?_⟩⟩))))
  · exact ys_one (ys_raise XZ hr (by decide) rfl (aa_cons ((v_ 1).val (aa_nil ⟨rfl, .ok hp⟩))))
  · rw [hf] at z
    exact Bool.noConfusion z
end
end K54
/-! Ab136: a def with a star, by positions -/
namespace Ab
open PySem PySem.Spec PyProof.Rows L2
section
variable {P : Program} {w : World} {K : PySem.W.Frag} {mg : Str → Option Value} {base : Heap}
/-- def f(a, *v): called f(x, ..) -/
theorem fnx_starP {x qual : Str} {params : Arguments} {body : List Stmt} {sc : Scope} {kws : List (Str × V)} {f : Addr} {fd : FuncData} {N : List Str} {pa pv : Str} {k : Nat} {s0 : ASp} (F : FunD K x qual params body sc [] kws f fd) (S : FnScope N [pa, pv] sc)
    (hb : ∀ (kV doc pm : Value) (an : Option Addr) (cdv ct u : Value) (us : List Value), bindArgs (PySem.W.fnOf x qual params body sc .none kV doc pm an cdv ct) ⟨u :: us, []⟩ = (newTuple us >>= fun t => pure [(pa, u), (pv, t)]))
    (hbody : BodyOk P w K mg base k f N qual sc body s0) : FnX P w K mg base (k + 1) f [] (spX K fun ds es M R => ∃ d ds', ds = d :: ds' ∧ es = [] ∧ ds'.length ≤ sizeLine ∧ s0 [d, .tup ds'] M R) := by
  refine ⟨fun A outer s H us ws vs zs Q hr e0 r rz hz hsp => ?_⟩
  obtain ⟨Hi, M, ds, es, R, ra, re, ok, ⟨d, ds', e1, e2, hl, hs⟩, q⟩ := hsp
  subst e1 e2
  obtain ⟨oc, od, dV, kV, doc, pm, an, cdv, ct, osl, rfl, lk, hcd, hD, _⟩ := F.ex
  obtain ⟨_, rfl⟩ : ([] : List V) = [] ∧ dV = .none := by
    rcases hD with h | ⟨e, _⟩
    · exact h
    · exact absurd rfl e
  cases ra with
  | @cons _ v0 _ vs' r0 ra =>
  cases re
  cases r with
  | @cons _ u0 _ us' ru0 r =>
  cases rz
  have hn : H s.heap.objs.size = none := e0.hok.fresh (Nat.le_refl _)
  have hl2 : us'.length ≤ sizeLine := by rw [← r.length, ← ra.length]; exact hl
  refine StX.run_bnd (CX := CX0) (E := E0) (G := fun xs H2 => ∃ p, H p = none ∧ xs = [v0, .ref p] ∧ H2 = upd H p (.tup vs')) lk hcd S hr.room e0 (fun A' Ex Q' h => ?_) fun s2 H2 xs hG hr' => ?_
  · show wpAny (model P w) A' (bindArgs _ ⟨u0 :: us', []⟩) Q' Ex s
    rw [hb]
    refine wpAny_bind (wpAny_newTuple (wpAny_pure ?_) hl2)
    have new : ObjOk P w (upd H s.heap.objs.size (.tup vs')) (s.heap.push ({ cls := .type "tuple", data := .seq us'.toArray } : Obj)) s.heap.objs.size (.tup vs') := ⟨by rw [← ra.length]; exact hl, us', r, ⟨_, Heap.get?_push_size _ rfl, rfl, _, rfl⟩⟩
    have un := StX.un_laid (fs := frs outer) (s := s) (o := ({ cls := .type "tuple", data := .seq us'.toArray } : Obj)) (u := .tup vs') hn
    exact h _ _ [v0, .ref s.heap.objs.size] [u0, .ref s.heap.objs.size] (StX.env0_laid e0 new) un rfl (fun _ _ z => z) (.cons ru0 (.cons rfl .nil)) rfl ⟨_, hn, rfl, rfl⟩
  · obtain ⟨p, hp, rfl, rfl⟩ := hG
    have s2' := same_upd (o := .tup vs') (ok.none hp)
    obtain ⟨t, pp, z⟩ := body_of (hbody cdv A outer s2 _ E0 (hr.deeper _)) (Q := Q) (vs := [v0, .ref p]) ⟨_, M, [d, .tup ds'], R, .cons (r0.mono s2') (.cons (.tup (SqT.of upd_same) (ra.mono s2')) .nil), ok.imm hp, hs, q.up s2'⟩
    exact ⟨t, pp.nox, z⟩
end
end Ab
/-! Ab124: a tuple repeated often; {k: e} -/
namespace Ab
open PySem PySem.Spec PyProof.Rows L2
section
variable {X : Cx} {Γ : Gam} {M : Mem} {P : Val → Mem → Prop} {a b : Expr} {pos : Pos} {j : Int}
theorem ae_dict1 {a1 e1 : Expr} (h : ∀ p, aPr X [(a1, e1)] Γ ((p, .dk []) :: M) fun kvs M' => ∃ M2, M' = (p, .dk []) :: M2 ∧ kvs.length ≤ 15 ∧ P (.ptr p) ((p, .dk (mergeA [] kvs)) :: M2)) : aE X (.Dict [some a1] [e1] pos) Γ M P :=
  disp_of (pps_cons pe_we pe_we pps_nil) rfl rfl (fun z => nomatch z) (Nat.le_of_ble_eq_true rfl) h
end
end Ab
namespace K54
open PySem L2 Ab Sm Tx
/-! ### growth.py: checked, make, copy, apply -/
/-- one named item replaced -/
structure Put7 (S S' : Sc) (j : Nat) (v : Int) : Prop where
  g : GoodS S'
  a : S'.a = S.a
  s : ∀ i, item S'.sp i = if jb j = true ∧ ji j = i then v else item S.sp i
  l : ∀ i, item S'.lv i = if jb j = false ∧ ji j = i then v else item S.lv i
theorem put_c {j i : Nat} {v : Int} {d : Bool} : cGet (csB d [⟨nm j, jb j, ji j, v⟩]) i = if jb j = d ∧ ji j = i then some v else none := by
  show cGet (if jb j = d then cPut [] (ji j) v else []) i = _
  by_cases h : jb j = d
  · rw [if_pos h, cGet_put7]
    by_cases z : i = ji j
    · rw [if_pos z, if_pos ⟨h, z.symm⟩]
    · rw [if_neg z, if_neg fun q => z q.2.symm]
      rfl
  · rw [if_neg h, if_neg fun q => h q.1]
    rfl
theorem put_d {j i : Nat} {u v : Int} {d : Bool} : (cGet (csB d [⟨nm j, jb j, ji j, v⟩]) i).getD u = if jb j = d ∧ ji j = i then v else u := by
  rw [put_c]
  split <;> rfl
theorem flt_j {j : Nat} (hj : j < 24) : ((List.range 24).filter fun t => decide (t = j)) = [j] := (by decide +kernel : ∀ j < 24, ((List.range 24).filter fun t => decide (t = j)) = [j]) j hj
theorem nm_lab {j : Nat} (hj : j < 24) : nm j ≠ ("label" : Str) := (by decide +kernel : ∀ j < 24, nm j ≠ ("label" : Str)) j hj
theorem nm_self {j : Nat} (hj : j < 24) : nm j ≠ ("self" : Str) := (by decide +kernel : ∀ j < 24, nm j ≠ ("self" : Str)) j hj
theorem chg_ok {j : Nat} {v : Int} (hj : j < 24) (v0 : lv0 j ≤ v) (v1 : v ≤ 1000000) : (⟨nm j, jb j, ji j, v⟩ : Chg).Ok := by
  refine ⟨kw24 hj, ?_, v1⟩
  show (if nm j = "w0" then 1 else 0) ≤ v
  unfold lv0 at v0
  by_cases z : j = 12
  · rw [if_pos z] at v0
    rw [if_pos ((nm_w0 hj).mpr z)]
    exact v0
  · rw [if_neg z] at v0
    rw [if_neg fun p => z ((nm_w0 hj).mp p)]
    exact v0
section
variable {P : Program} {w : World} {K : PySem.W.Frag} {mg : Str → Option Value} {base : Heap} {k : Nat} {f C C2 CG CN CP CZ : Addr}
def aCkd (C CG : Addr) : ASp := fun ds M R => ∃ (i : Nat) (g q D : Addr) (S : Sc) (x y : Int) (j : Nat) (v : Int) (M0 : Mem), ds = [.ptr g, .ptr D] ∧ M = (D, .dk [(.inr (nm j), .int v)]) :: M0 ∧ M0[i]? = some (g, .ins CG (grF C S x y q)) ∧ GoodS S ∧ j < 24 ∧ frz S.a.toNat (item S.sp) (item S.lv) y (jb j) (ji j) = false ∧ lv0 j ≤ v ∧ v ≤ 1000000 ∧ ∀ S' : Sc, Put7 S S' j v → R (scV C S') M0
theorem b_gchecked (B : Bt mg) (T : Rs K mg C) (G : GrX K mg CG) (SI : SIsi P w K mg base CG) (XF : Mt P w K mg base CG 6 "is_frozen" (aIfz C CG)) (GV : GIiv P w K mg base) (XR : RplS P w K mg base C CN CP) : BodyOk P w K mg base 7 f n_Growth_checked "Growth.checked" (defScope c_Growth_checked) (defBody c_Growth_checked) (aCkd C CG) := by
  rintro cdv A outer s0 H E hr ds M R ⟨i, g, q, D, S, x, y, j, v, M0, rfl, rfl, hi, hS, hj, hf, v0, v1, hp⟩
  obtain ⟨p1, f1, sm, F1⟩ := SI.ex
  have hu := hr.u64
  have l24 : (nmL (List.range 24)).length = 24 := by rw [nmL_len, List.length_range]
  have g24 : ∀ t, t < 24 → (List.range 24).getD t 0 = t := fun t ht => by rw [List.getD_eq_getElem?_getD, List.getElem?_range ht]; rfl
  refine as_cons (as_lock (n := 0) rfl fun od kvs => as_for (G := Lk D od kvs [(.inr (nm j), .int v)]) (fun t Γ M' => M' = (D, .b (.fz od kvs [(.inr (nm j), .int v)])) :: M0 ∧ ∃ o, Γ = [some (.ptr g), some (.ptr D), o, none]) PassesOwn.never rfl (ai_keysZ ((v_ 1).val ⟨rfl, ⟨0, rfl⟩, rfl, _, rfl⟩)) (fun t Γ M' _ h => by obtain ⟨rfl, _⟩ := h; exact ⟨0, rfl⟩) ?_ ?_)
  · rintro t Γ M' ht ⟨rfl, o, rfl⟩
    have t0 : t = 0 := by
      have : t < 1 := ht
      omega
    subst t0
    show aG _ _ (Val.str (nm j)) _ _ _
    refine ag_name 2 q_Growth_checked.nd (as_one (as_if (at_not (at_val (ae_smeth G.rd sm F1 (hr.mono (by decide)) (ae_glob G.gG ⟨rfl, rfl⟩) (aa_cons ((v_ 2).val (aa_nil (ak_nil ⟨rfl, j, rfl, hj, true, rfl, nft, fun _ => as_nil ⟨rfl, _, rfl⟩⟩)))))))))
  rintro Γ M' ⟨rfl, o, rfl⟩
  refine ⟨0, rfl, ?_⟩
  show aSs _ _ _ ((D, .dk [(.inr (nm j), .int v)]) :: M0) _
  refine as_lcF 3 [("item", 2)] (fun t => .str (nm t)) (fun t => decide (t = j)) rfl q_Growth_checked.nd (blkOk_by (N := n_Growth_checked) (sc := defScope c_Growth_checked) (by decide +kernel)) (ai_tup (xs := nmL (List.range 24)) ((av_items G).val ⟨rfl, rfl⟩)) ?_ (by omega) ?_
  · intro t acc L ht s1 H1 C1 cl fp
    rw [l24] at ht
    rw [nmL_get (by rw [List.length_range]; exact ht), g24 t ht]
    refine agw_name 2 q_Growth_checked.nd fun s1 H1 C1 cl fp => ⟨at_cmp (v_ 2) (v_ 1) (cmp_inDk (kk := .inr (nm t)) (DkAt.dk 1 rfl) hr.u1) ⟨?_, rfl⟩, fun _ => (v_ 2).val ⟨rfl, rfl⟩⟩
    show (if (Sum.inr (nm j) : Key) = Sum.inr (nm t) then some (Val.int v) else none).isSome = decide (t = j)
    by_cases z : t = j
    · rw [z, if_pos rfl, decide_eq_true rfl]
      rfl
    · rw [if_neg fun e => z (nm_inj ht hj (by injection e with e; exact e.symm)), decide_eq_false z]
      rfl
  rw [l24, flt_j hj]
  refine as_cons (as_forW PassesOwn.never rfl (aj_lst ((v_ 3).val ⟨_, rfl, ?_⟩)))
  refine ⟨fun t Γ M' => M' = (D, .dk [(.inr (nm j), .int v)]) :: M0 ∧ Γ = [some (.ptr g), some (.ptr D), none, some (.lst [.str (nm j)])], ⟨_, _, ⟨rfl, rfl⟩, (by repeat' first | exact le_nil | refine le_skip ?_ | refine le_keep rfl ?_), (by repeat' first | exact List.Sublist.refl _ | exact List.sublist_append_right _ _ | apply List.Sublist.cons₂ | apply List.Sublist.cons)⟩, ?_, ?_⟩
  · rintro t Γ M' ht ⟨rfl, rfl⟩
    have t0 : t = 0 := by
      have : t < 1 := ht
      omega
    subst t0
    show aG _ _ (Val.str (nm j)) _ _ _
    refine ag_name 2 q_Growth_checked.nd (as_one (as_if (at_val (ae_m1 G.cl XF hr (by decide) ((v_ 0).val ⟨(Ob.ce (i + 1) hi).obM rfl, (v_ 2).val ⟨i + 1, g, q, S, x, y, j, rfl, hi, hS, hj, _, rfl, fun z => ?_, fun _ => as_nil ⟨_, _, ⟨rfl, rfl⟩, (by repeat' first | exact le_nil | refine le_skip ?_ | refine le_keep rfl ?_), (by repeat' first | exact List.Sublist.refl _ | exact List.sublist_append_right _ _ | apply List.Sublist.cons₂ | apply List.Sublist.cons)⟩⟩⟩)))))
    rw [hf] at z
    exact Bool.noConfusion z
  rintro Γ M' ⟨rfl, rfl⟩
  refine as_cons (as_forW PassesOwn.never rfl (aj_lst ((v_ 3).val ⟨_, rfl, ?_⟩)))
  refine ⟨fun t Γ M' => M' = (D, .dk [(.inr (nm j), .int v)]) :: M0 ∧ Γ = [some (.ptr g), some (.ptr D), none, some (.lst [.str (nm j)])], ⟨_, _, ⟨rfl, rfl⟩, (by repeat' first | exact le_nil | refine le_skip ?_ | refine le_keep rfl ?_), (by repeat' first | exact List.Sublist.refl _ | exact List.sublist_append_right _ _ | apply List.Sublist.cons₂ | apply List.Sublist.cons)⟩, ?_, ?_⟩
  · rintro t Γ M' ht ⟨rfl, rfl⟩
    have t0 : t = 0 := by
      have : t < 1 := ht
      omega
    subst t0
    show aG _ _ (Val.str (nm j)) _ _ _
    refine ag_name 2 q_Growth_checked.nd (as_one (as_if (at_not (at_val (ae_g GV hr (by decide) (aa_cons ((v_ 2).val (aa_cons ((av_dgetK (kk := .inr (nm j)) hr.u1 (v_ 1) (v_ 2) (DkAt.dk 0 rfl) (show dGet [(.inr (nm j), .int v)] (.inr (nm j)) = some (.int v) from if_pos rfl)).val (aa_nil (ak_nil ⟨rfl, j, v, rfl, hj, true, ?_, nft, fun _ => as_nil ⟨_, _, ⟨rfl, rfl⟩, (by repeat' first | exact le_nil | refine le_skip ?_ | refine le_keep rfl ?_), (by repeat' first | exact List.Sublist.refl _ | exact List.sublist_append_right _ _ | apply List.Sublist.cons₂ | apply List.Sublist.cons)⟩⟩)))))))))))
    rw [decide_eq_true ⟨v0, v1⟩]
  rintro Γ M' ⟨rfl, rfl⟩
  refine as_one (as_ret (ae_mSB T.cl XR (by decide +kernel) hr (by decide) ((av_fld G.cl G.n0 (v_ 0) (.ce (i + 1) hi) rfl).val ⟨(Ob.im _).obM rfl, fun n0 hn0 => (v_ 1).val ⟨_, D, 0, [(nm j, .int v)], rfl, rfl, rfl, Nat.le_of_ble_eq_true rfl, fun z hz => ?_, rfl, fun p hp2 => ?_⟩⟩)))
  · rw [List.mem_singleton.mp hz]
    exact nm_self hj
  · rw [zip_fs]
    exact ⟨S, p, [(nm j, .int v)], _, rfl, rfl, hS, Nat.le_of_ble_eq_true rfl, .inr (.inr ⟨[⟨nm j, jb j, ji j, v⟩], rfl, fun c hc => by rw [List.mem_singleton.mp hc]; exact chg_ok hj v0 v1, fun S' gS aS e1 e2 => .drop (.ok (hp S' ⟨gS, aS, fun i => (e1 i).trans put_d, fun i => (e2 i).trans put_d⟩))⟩)⟩
def aMke (C CG : Addr) : ASp := fun ds M R => ∃ (i : Nat) (g q : Addr) (S : Sc) (x y : Int) (j : Nat) (v : Int), ds = [.ptr g, .str (nm j), .int v] ∧ M[i]? = some (g, .ins CG (grF C S x y q)) ∧ GoodS S ∧ j < 24 ∧ frz S.a.toNat (item S.sp) (item S.lv) y (jb j) (ji j) = false ∧ lv0 j ≤ v ∧ v ≤ 1000000 ∧ ∀ S' : Sc, Put7 S S' j v → R .non (M.set i (g, .ins CG (grF C S' x y q)))
theorem b_gmake (G : GrX K mg CG) (XC : Mt P w K mg base CG 8 "checked" (aCkd C CG)) : BodyOk P w K mg base 8 f n_Growth_make "Growth.make" (defScope c_Growth_make) (defBody c_Growth_make) (aMke C CG) := by
  rintro cdv A outer s0 H E hr ds M R ⟨i, g, q, S, x, y, j, v, rfl, hi, hS, hj, hf, v0, v1, hp⟩
  refine as_one (as_ifp (tp_cmp (v_ 1) s_ cp_neS) (fun _ => ?_) (fun c => absurd (nm_lab hj) c))
  refine as_one (as_fld G.cl G.n0 (ae_m1 G.cl XC hr (by decide) ((v_ 0).val ⟨(Ob.ce i hi).obM rfl, ae_dict1 fun D => ap_cons (v_ 1) (v_ 2) (ap_nil ⟨_, rfl, Nat.le_of_ble_eq_true rfl, i, g, q, D, S, x, y, j, v, M, rfl, rfl, hi, hS, hj, hf, v0, v1, fun S' hS' => (v_ 0).val ⟨i, g, _, rfl, hi, Nat.le_of_ble_eq_true rfl, .ok (hp S' hS')⟩⟩)⟩)))
def aLds (C CG : Addr) : ASp := fun ds M R => ∃ (i : Nat) (g q : Addr) (S : Sc) (x y : Int) (S' : Sc) (x' y' : Int), ds = [.ptr g, .tup [scV C S', .int x', .int y']] ∧ M[i]? = some (g, .ins CG (grF C S x y q)) ∧ R .non (M.set i (g, .ins CG (grF C S' x' y' q)))
theorem b_gload (G : GrX K mg CG) : BodyOk P w K mg base k f n_Growth_load_state "Growth.load_state" (defScope c_Growth_load_state) (defBody c_Growth_load_state) (aLds C CG) := by
  rintro cdv A outer s0 H E hr ds M R ⟨i, g, q, S, x, y, S', x', y', rfl, hi, hp⟩
  have hl := (List.getElem?_eq_some_iff.mp hi).1
  have h2 : ∀ c : Addr × Cell, (M.set i c)[i]? = some c := fun c => List.getElem?_set_self hl
  refine as_one (as_asg ((v_ 1).val (ag_tup rfl (ags_cons (ag_fld G.cl G.n0 ((v_ 0).val ⟨i, g, _, rfl, hi, Nat.le_of_ble_eq_true rfl, ags_cons (ag_fld G.cl G.n1 ((v_ 0).val ⟨i, g, _, rfl, h2 _, Nat.le_of_ble_eq_true rfl, ags_cons (ag_fld G.cl G.n2 ((v_ 0).val ⟨i, g, _, rfl, by rw [List.set_set]; exact h2 _, Nat.le_of_ble_eq_true rfl, ags_nil ?_⟩))⟩))⟩))))))
  rw [List.set_set, List.set_set]
  exact .ok hp
def aCpy (C CG : Addr) : ASp := fun ds M R => ∃ (i i2 : Nat) (g q : Addr) (S : Sc) (x y : Int) (hs : List Val), ds = [.ptr g] ∧ M[i]? = some (g, .ins CG (grF C S x y q)) ∧ M[i2]? = some (q, .lst hs) ∧ 0 ≤ x ∧ ∀ g2 q2, R (.ptr g2) ((q2, .lst hs) :: (g2, .ins CG (grF C S x y q2)) :: M)
theorem b_gcopy (B : Bt mg) (G : GrX K mg CG) (MG : Mkg P w K mg base C CG) (XS : Mt P w K mg base CG 1 "state" (aStt C CG)) (XL : Mt P w K mg base CG 1 "load_state" (aLds C CG)) : BodyOk P w K mg base 3 f n_Growth_copy "Growth.copy" (defScope c_Growth_copy) (defBody c_Growth_copy) (aCpy C CG) := by
  rintro cdv A outer s0 H E hr ds M R ⟨i, i2, g, q, S, x, y, hs, rfl, hi, hi2, x0, hp⟩
  have hO : Ob M CG (.ptr g) (grF C S x y q) := .ce i hi
  refine as_cons (as_set 1 q_Growth_copy.nd (ae_growthL G MG hr (by decide) ((av_fld G.cl G.n0 (v_ 0) hO rfl).val ((av_fld G.cl G.n1 (v_ 0) hO rfl).val ⟨S, x, rfl, rfl, x0, fun g2 q1 => ?_⟩))))
  refine as_cons (as_expr (ae_m1 G.cl XL hr (by decide) ((v_ 1).val ⟨(Ob.ce 1 rfl).obM rfl, ae_m0 G.cl XS hr (by decide) ((v_ 0).val ⟨(Ob.ce (i + 2) hi).obM rfl, i + 2, g, q, S, x, y, rfl, hi, 1, g2, q1, S, x, x, S, x, y, rfl, rfl, ?_⟩)⟩)))
  show aSs _ _ _ ((q1, .lst []) :: (g2, .ins CG (grF C S x y q1)) :: M) _
  refine as_cons (as_fld G.cl G.n3 (ae_list B.list ((av_fld G.cl G.n3 (v_ 0) (.ce (i + 2) hi) rfl).val ⟨hs, .l (.lst (i2 + 2) hi2), fun q2 => (v_ 1).val ⟨2, g2, _, rfl, rfl, Nat.le_of_ble_eq_true rfl, ?_⟩⟩)))
  show aSs _ _ _ ((q2, .lst hs) :: (q1, .lst []) :: (g2, .ins CG (grF C S x y q2)) :: M) _
  refine as_perm (M' := (q1, .lst []) :: (q2, .lst hs) :: (g2, .ins CG (grF C S x y q2)) :: M) (List.Perm.swap ..) ?_
  exact as_one (as_retv (v_ 1) (.drop (.ok (hp g2 q2))))
def aApl (C CG : Addr) : ASp := fun ds M R => ∃ (g q : Addr) (S : Sc) (x y : Int) (hs : List Val) (j : Nat) (v : Int) (M0 : Mem), ds = [.ptr g, .tup [.tup [.str (nm j), .int v]]] ∧ M = (q, .lst hs) :: (g, .ins CG (grF C S x y q)) :: M0 ∧ GoodS S ∧ 0 ≤ x ∧ hs.length ≤ 1000 ∧ j < 24 ∧ frz S.a.toNat (item S.sp) (item S.lv) y (jb j) (ji j) = false ∧ lv0 j ≤ v ∧ v ≤ 1000000 ∧ ∀ S' : Sc, Put7 S S' j v → R (.int 1) ((q, .lst (hs ++ [.tup [scV C S, .int x, .int y]])) :: (g, .ins CG (grF C S' x y q)) :: M0)
theorem b_gapply (B : Bt mg) (G : GrX K mg CG) (SI : SIsi P w K mg base CG) (XS : Mt P w K mg base CG 1 "state" (aStt C CG)) (XL : Mt P w K mg base CG 1 "load_state" (aLds C CG)) (XY : Mt P w K mg base CG 4 "copy" (aCpy C CG)) (XK : Mt P w K mg base CG 9 "make" (aMke C CG)) : BodyOk P w K mg base 9 f n_Growth_apply "Growth.apply" (defScope c_Growth_apply) (defBody c_Growth_apply) (aApl C CG) := by
  rintro cdv A outer s0 H E hr ds M R ⟨g, q, S, x, y, hs, j, v, M0, rfl, rfl, hS, x0, hl, hj, hf, v0, v1, hp⟩
  obtain ⟨p1, f1, sm, F1⟩ := SI.ex
  refine as_cons (as_forW PassesOwn.never rfl (aj_ai (R := fun M1 => M1 = (q, .lst hs) :: (g, .ins CG (grF C S x y q)) :: M0) (ai_enumT (xs := [.tup [.str (nm j), .int v]]) B.enumerate ((v_ 1).val ⟨rfl, rfl⟩)) fun M1 e => ?_))
  subst e
  refine ⟨fun c Γ M' => M' = (q, .lst hs) :: (g, .ins CG (grF C S x y q)) :: M0 ∧ Γ = [some (.ptr g), some (.tup [.tup [.str (nm j), .int v]]), none, none, none, none, none], ⟨_, _, ⟨rfl, rfl⟩, (by repeat' first | exact le_nil | refine le_skip ?_ | refine le_keep rfl ?_), (by repeat' first | exact List.Sublist.refl _ | exact List.sublist_append_right _ _ | apply List.Sublist.cons₂ | apply List.Sublist.cons)⟩, ?_, ?_⟩
  · rintro c Γ M' hc ⟨rfl, rfl⟩
    have c0 : c = 0 := by
      have : c < 1 := hc
      omega
    subst c0
    show aG _ _ (Val.tup [Val.int ((0 : Nat) : Int), .tup [.str (nm j), .int v]]) _ _ _
    refine ag_tup rfl (ags_cons (ag_name 2 q_Growth_apply.nd (ags_cons (ag_name 3 q_Growth_apply.nd (ags_nil ?_)))))
    refine as_cons (as_if (at_w (aw_or (at_not (at_val (ae_isi B.isinstance (v_ 3) (av_ty (T := "tuple") B.tuple (by decide +kernel)) (.ty "tuple") (.tup _) (kit_ty (by decide +kernel)) ⟨true, rfl, nft, fun _ => ?_⟩))))))
    refine aw_or1 (at_cmp (av_len B.len (v_ 3) .t) i_ cmp_neI ⟨fun h => absurd h (by simp), fun _ => as_nil ?_⟩)
    refine as_one (as_if (at_w (aw_and (at_not (at_val (ae_smeth G.rd sm F1 (hr.mono (by decide)) (ae_glob G.gG ⟨rfl, rfl⟩) (aa_cons ((av_ixT (v_ 3) i_ rfl).val (aa_nil (ak_nil ⟨rfl, j, rfl, hj, true, rfl, nft, fun _ => ⟨nft, fun _ => as_nil ⟨_, _, ⟨rfl, rfl⟩, (by repeat' first | exact le_nil | refine le_skip ?_ | refine le_keep rfl ?_), (by repeat' first | exact List.Sublist.refl _ | exact List.sublist_append_right _ _ | apply List.Sublist.cons₂ | apply List.Sublist.cons)⟩⟩⟩))))))))))
  rintro Γ M' ⟨rfl, rfl⟩
  refine as_cons (as_set 4 q_Growth_apply.nd (ae_m0 G.cl XY hr (by decide) ((v_ 0).val ⟨(Ob.ce 1 rfl).obM rfl, 1, 0, g, q, S, x, y, hs, rfl, rfl, rfl, x0, fun g2 q2 => ?_⟩)))
  refine as_cons (as_forW PassesOwn.never rfl (aj_tup ((v_ 1).val ⟨_, rfl, ?_⟩)))
  refine ⟨fun c Γ M' => ∃ S' : Sc, (c = 0 → S' = S) ∧ (c = 1 → Put7 S S' j v) ∧ M' = (q2, .lst hs) :: (g2, .ins CG (grF C S' x y q2)) :: (q, .lst hs) :: (g, .ins CG (grF C S x y q)) :: M0 ∧ Γ = [some (.ptr g), some (.tup [.tup [.str (nm j), .int v]]), none, none, some (.ptr g2), none, none], ⟨_, _, ⟨S, fun _ => rfl, fun h => absurd h (by decide), rfl, rfl⟩, (by repeat' first | exact le_nil | refine le_skip ?_ | refine le_keep rfl ?_), (by repeat' first | exact List.Sublist.refl _ | exact List.sublist_append_right _ _ | apply List.Sublist.cons₂ | apply List.Sublist.cons)⟩, ?_, ?_⟩
  · rintro c Γ M' hc ⟨S1, e1, _, rfl, rfl⟩
    have c0 : c = 0 := by
      have : c < 1 := hc
      omega
    subst c0
    obtain rfl := e1 rfl
    show aG _ _ (Val.tup [.str (nm j), .int v]) _ _ _
    refine ag_tup rfl (ags_cons (ag_name 5 q_Growth_apply.nd (ags_cons (ag_name 6 q_Growth_apply.nd (ags_nil ?_)))))
    exact as_one (as_expr (ae_m2 G.cl XK hr (by decide) ((v_ 4).val ⟨(Ob.ce 1 rfl).obM rfl, (v_ 5).val ((v_ 6).val ⟨1, g2, q2, S1, x, y, j, v, rfl, rfl, hS, hj, hf, v0, v1, fun S' h => ⟨_, _, ⟨S', fun z => absurd z (by decide), fun _ => h, rfl, rfl⟩, (by repeat' first | exact le_nil | refine le_skip ?_ | refine le_keep rfl ?_), (by repeat' first | exact List.Sublist.refl _ | exact List.sublist_append_right _ _ | apply List.Sublist.cons₂ | apply List.Sublist.cons)⟩⟩)⟩)))
  rintro Γ M' ⟨S', _, e2, rfl, rfl⟩
  have e2 := e2 rfl
  refine as_cons (as_expr (ae_append (n0 := 2) (av_fld G.cl G.n3 (v_ 0) (.ce 3 rfl) rfl) rfl (ae_m0 G.cl XS hr (by decide) ((v_ 0).val ⟨(Ob.ce 3 rfl).obM rfl, 3, g, q, S, x, y, rfl, rfl, 2, hs, rfl, szl (by omega), ?_⟩))))
  refine as_cons (as_expr (ae_m1 G.cl XL hr (by decide) ((v_ 0).val ⟨(Ob.ce 3 rfl).obM rfl, ae_m0 G.cl XS hr (by decide) ((v_ 4).val ⟨(Ob.ce 1 rfl).obM rfl, 1, g2, q2, S', x, y, rfl, rfl, 3, g, q, S, x, y, S', x, y, rfl, rfl, ?_⟩)⟩)))
  refine as_one (as_retv (av_len B.len (v_ 1) .t) (.drop (.drop (.ok ?_))))
  exact hp S' e2
/-! ### Growth: properties -/
def aGsc (C CG : Addr) : ASp := fun ds M R => ∃ (i : Nat) (g q : Addr) (S : Sc) (x y : Int), ds = [.ptr g] ∧ M[i]? = some (g, .ins CG (grF C S x y q)) ∧ R (scV C S) M
theorem b_gschedule (G : GrX K mg CG) : BodyOk P w K mg base k f n_Growth_schedule "Growth.schedule" (defScope c_Growth_schedule) (defBody c_Growth_schedule) (aGsc C CG) := by
  rintro cdv A outer s0 H E hr ds M R ⟨i, g, q, S, x, y, rfl, hi, hp⟩
  exact as_one (as_retv (av_fld G.cl G.n0 (v_ 0) (.ce i hi) rfl) (.ok hp))
def aGcc (C CG : Addr) : ASp := fun ds M R => ∃ (i i2 : Nat) (g q : Addr) (S : Sc) (x y : Int) (hs : List Val), ds = [.ptr g] ∧ M[i]? = some (g, .ins CG (grF C S x y q)) ∧ M[i2]? = some (q, .lst hs) ∧ R (.int (hs.length : Nat)) M
theorem b_gchange_count (B : Bt mg) (G : GrX K mg CG) : BodyOk P w K mg base k f n_Growth_change_count "Growth.change_count" (defScope c_Growth_change_count) (defBody c_Growth_change_count) (aGcc C CG) := by
  rintro cdv A outer s0 H E hr ds M R ⟨i, i2, g, q, S, x, y, hs, rfl, hi, hi2, hp⟩
  exact as_one (as_retv (av_len B.len (av_fld G.cl G.n3 (v_ 0) (.ce i hi) rfl) (.l (.lst i2 hi2))) (.ok hp))
/-- a property of Growth -/
abbrev GPr (P : Program) (w : World) (K : PySem.W.Frag) (mg : Str → Option Value) (base : Heap) (CG : Addr) (fl : Str) (n : Nat) (sp : ASp) : Prop := ∃ p g, PropOf K CG fl p g ∧ FX P w K mg base n g fun ds _ => sp ds
end
end K54
namespace K54
open PySem L2 Ab Sm Tx
/-- streams with items up to 1000001 -/
structure Lix (s : Stm) : Prop where
  l1 : s.1.length ≤ 12
  l2 : s.2.length ≤ 6
  ne : s.2 ≠ []
  it : ∀ i, 0 ≤ item s i ∧ item s i ≤ 1000001
theorem Lix.of {s : Stm} (h : Lim s) : Lix s := ⟨h.l1, h.l2, h.ne, fun i => ⟨(li7 h i).1, by have := (li7 h i).2; omega⟩⟩
theorem gs8 {i : Int} (h0 : 0 ≤ i) (h : i ≤ 1000001) : i.natAbs < 2 ^ 1000 := Nat.lt_of_le_of_lt (show i.natAbs ≤ 1000001 by omega) (by decide +kernel)
section
variable {P : Program} {w : World} {K : PySem.W.Frag} {mg : Str → Option Value} {base : Heap} {k : Nat} {f C C2 CG : Addr}
/-- one item of a stream replaced -/
structure Wi8 (s s' : Stm) (n : Nat) (v : Int) : Prop where
  lim : Lix s'
  lm : v ≤ 1000000 → Lim s'
  it : ∀ i, item s' i = if i = n then v else item s i
theorem wi8_of {s : Stm} {far n : Nat} {v : Int} (hs : Lim s) (hf : s.1.length ≤ far) (hn : n < far) (h12 : far ≤ 12) (v0 : 0 ≤ v) (v1 : v ≤ 1000001) : Wi8 s (((List.range far).map (item s)).set n v, (List.range s.2.length).map fun j => item s (far + j)) n v := by
  have it := with_item (v := v) hf hn hs.ne
  have l1 : (((List.range far).map (item s)).set n v).length ≤ 12 := by rw [List.length_set, List.length_map, List.length_range]; exact h12
  have l2 : ((List.range s.2.length).map fun j => item s (far + j)).length ≤ 6 := by rw [List.length_map, List.length_range]; exact hs.l2
  have ne : ((List.range s.2.length).map fun j => item s (far + j)) ≠ [] := by
    have := List.length_pos_iff.mpr hs.ne
    rw [Ne, ← List.length_eq_zero_iff, List.length_map, List.length_range]
    omega
  refine ⟨⟨l1, l2, ne, fun i => ?_⟩, fun v2 => lim_of (fun i => ?_) l1 l2 ne, it⟩
  · rw [it]
    split
    · exact ⟨v0, v1⟩
    · have := li7 hs i
      omega
  · rw [it]
    split
    · exact ⟨v0, v2⟩
    · exact hs.item i
def aWth8 : ASp := fun ds M R => ∃ (a : Int) (s l : Stm) (x : Str) (b : Bool) (n : Nat) (v : Int), ds = [ptV a s l, .str x, .int v] ∧ KwI x b n ∧ Lim s ∧ Lim l ∧ 0 ≤ v ∧ v ≤ 1000001 ∧ (b = true → ∀ s', Wi8 s s' n v → R (ptV a s' l) M) ∧ (b = false → ∀ l', Wi8 l l' n v → R (ptV a s l') M)
theorem b__law_with8 (B : Bt mg) (GA : GAt7 P w K mg base) : BodyOk P w K mg base 1 f n__law_with "_law_with" (defScope s__law_with) (defBody s__law_with) aWth8 := by
  rintro cdv A outer s0 H E hr ds M R ⟨a, s, l, x, b, n, v, rfl, hk, hs, hl, v0, v1, hpt, hpf⟩
  have hu := hr.u64
  have n12 := hk.n12
  have rest : ∀ (wh : Int) (u : Stm), Lim u → atI [Val.int a, stV s, stV l] wh = some (stV u) → (wh = 1 → ∀ u', Wi8 u u' n v → R (ptV a u' l) M) → (wh ≠ 1 → ∀ u', Wi8 u u' n v → R (ptV a s u') M) → aSs (bcx P w K mg base n__law_with "_law_with" (defScope s__law_with) f cdv A outer s0 H E) ((defBody s__law_with).drop 1) [some (ptV a s l), some (.str x), some (.int v), some (.int wh), some (.int (n : Nat)), none, none, none, none, none, none] M (kOf R) := fun wh u hul hat h1 h2 => by
    have l12 := hul.l1
    have l26 := hul.l2
    have une := List.length_pos_iff.mpr hul.ne
    obtain ⟨far, hfar⟩ : ∃ far : Nat, far = max (n + 1) u.1.length := ⟨_, rfl⟩
    have f1 : u.1.length ≤ far := by omega
    have f2 : n < far := by omega
    have f12 : far ≤ 12 := by omega
    have e : (far : Int) = max ((n : Int) + 1) ((u.1.map Val.int).length : Int) := by rw [List.length_map]; omega
    refine as_cons (as_setv (d := stV u) 5 q__law_with.nd (av_ixT (v_ 0) (v_ 3) hat) ?_)
    refine as_cons (as_setv (d := .int (far : Int)) 6 q__law_with.nd ?_ ?_)
    · rw [e]
      exact av_max2 B.max rfl (av_add (v_ 4) i_) (av_len B.len (av_ixT (v_ 5) i_ rfl) .t)
    refine as_cons (as_lcJ 7 [("_law_k", 8)] rfl q__law_with.nd (blkOk_by (N := n__law_with) (sc := defScope s__law_with) (by decide +kernel)) (aj_range1 B.range ((v_ 6).val ⟨_, rfl, by omega, by omega, ?_⟩)))
    rw [Int.toNat_natCast]
    refine ⟨by omega, fun t acc M' => acc = ((List.range t).map (item u)).map .int ∧ M' = M, ⟨rfl, rfl⟩, ?_, ?_⟩
    · rintro t acc M' D' ht hlen ⟨rfl, rfl⟩ s H C' cl fp
      refine agw_name 8 q__law_with.nd fun s H C' cl fp => ats_nil ⟨fun _ s H C' cl fp => ?_, ntf⟩
      refine (av_at7 GA hr (by decide) (v_ 5) (v_ 8) hul.ne (by omega)).val ⟨M', rfl, ?_, rfl⟩
      rw [Int.zero_add, Int.toNat_natCast, List.range_succ, List.map_append, List.map_append]
      rfl
    rintro q acc M3 ⟨rfl, rfl⟩
    refine as_cons (as_asg ((v_ 2).val (ag_sub (n := 0) (jj := n) (v_ 7) (v_ 4) rfl ?_ ?_)))
    · rw [List.length_map, List.length_map, List.length_range]
      unfold ixN
      rw [if_pos (by omega), if_pos (by omega)]
      rfl
    show aSs _ _ _ ((q, .lst ((((List.range far).map (item u)).map Val.int).set n (.int v))) :: M3) _
    rw [setI7]
    refine as_cons (as_set 9 q__law_with.nd (ae_tuple B.tuple (ae_lcP [("_law_k", 8)] (fun t => .int (item u (far + t))) rfl q__law_with.nd (blkOk_by (N := n__law_with) (sc := defScope s__law_with) (by decide +kernel)) (ai_range1 (n := u.2.length) B.range ((av_len B.len (av_ixT (v_ 5) i_ rfl) .t).val ⟨_, rfl, by rw [List.length_map, Int.toNat_natCast], by omega, by rw [List.length_map]; omega, rfl⟩)) ?_ (by omega) ⟨_, .l (.self _), ?_⟩)))
    · intro t acc D ht s1 H1 C1 cl fp
      refine agw_name 8 q__law_with.nd fun s1 H1 C1 cl fp => ?_
      refine (av_at7 GA hr (by decide) (v_ 5) (av_add (v_ 6) (v_ 8)) hul.ne (by omega)).val ⟨?_, rfl⟩
      rw [show ((far : Int) + (0 + (t : Int))).toNat = far + t by omega]
    obtain ⟨u', hu'⟩ : ∃ u' : Stm, u' = (((List.range far).map (item u)).set n v, (List.range u.2.length).map fun j => item u (far + j)) := ⟨_, rfl⟩
    have hw : Wi8 u u' n v := by rw [hu']; exact wi8_of hul f1 f2 f12 v0 v1
    have eu : Val.tup [.tup ((((List.range far).map (item u)).set n v).map .int), .tup ((List.range u.2.length).map fun t => Val.int (item u (far + t)))] = stV u' := by
      rw [hu']
      show _ = Val.tup [.tup _, .tup (((List.range u.2.length).map fun j => item u (far + j)).map .int)]
      rw [List.map_map]
      rfl
    refine as_cons (as_setv (d := stV u') 10 q__law_with.nd ?_ ?_)
    · rw [← eu]
      exact av_tup (avs_cons (av_tupSv B.tuple (v_ 7) (.c 0 rfl)) (avs_cons (v_ 9) avs_nil)) szb
    refine as_one (as_ret (ae_ifp (tp_cmp (v_ 3) i_ cp_eq) (fun c => aE.val (av_tup (avs_cons (av_ixT (v_ 0) i_ rfl) (avs_cons (v_ 10) (avs_cons (av_ixT (v_ 0) i_ rfl) avs_nil))) szb) (.drop (.ok (h1 c u' hw)))) (fun c => aE.val (av_tup (avs_cons (av_ixT (v_ 0) i_ rfl) (avs_cons (av_ixT (v_ 0) i_ rfl) (avs_cons (v_ 10) avs_nil))) szb) (.drop (.ok (h2 c u' hw))))))
  cases b with
  | true =>
    refine as_cons (as_par 3 4 q__law_with.nd rfl (by decide) (aa_cons (ae_ifp (tp_cmp (av_kw0 hk (v_ 1)) s_ cp_eqS) (fun _ => i_.val ?_) (fun c => absurd rfl c))))
    refine aa_cons ((av_kwN hk B.int (v_ 1)).val (aa_nil ⟨_, _, rfl, ?_⟩))
    exact rest 1 s hs rfl (fun _ u' h => hpt rfl u' h) (fun c => absurd rfl c)
  | false =>
    refine as_cons (as_par 3 4 q__law_with.nd rfl (by decide) (aa_cons (ae_ifp (tp_cmp (av_kw0 hk (v_ 1)) s_ cp_eqS) (fun c => absurd (dw_d.mp c) Bool.false_ne_true) (fun _ => i_.val ?_))))
    refine aa_cons ((av_kwN hk B.int (v_ 1)).val (aa_nil ⟨_, _, rfl, ?_⟩))
    exact rest 2 l hl rfl (fun c => absurd c (by decide)) (fun _ u' h => hpf rfl u' h)
abbrev GWth8 (P : Program) (w : World) (K : PySem.W.Frag) (mg : Str → Option Value) (base : Heap) : Prop := Gd P w K mg base 2 "_law_with" [] fun ds _ => aWth8 ds
def aPla8 : ASp := fun ds M R => ∃ (a : Int) (s l : Stm) (b : Nat), ds = [ptV a s l, .int ((b : Int) + 1)] ∧ 2 ≤ a ∧ a ≤ 9 ∧ Lix s ∧ Lix l ∧ b < 2 ^ 900 ∧ R (.int (pl a.toNat (item s) (item l) 0 b)) M
theorem b__law_place8 (GA : GAt7 P w K mg base) : BodyOk P w K mg base 1 f n__law_place "_law_place" (defScope s__law_place) (defBody s__law_place) aPla8 := by
  rintro cdv A outer s0 H E hr ds M R ⟨a, s, l, b, rfl, a2, a9, hs, hl, hb, hp⟩
  have ha : ((a.toNat : Nat) : Int) = a := Int.toNat_of_nonneg (by omega)
  have hk : 2 ≤ a.toNat := by omega
  have eb : (b : Int) + 1 - 1 = b := by omega
  have b1 : ((b : Int)).natAbs < 2 ^ 1000 := Nat.lt_trans (by rw [Int.natAbs_natCast]; exact hb) (Nat.pow_lt_pow_right (by decide) (by decide))
  have q1 : CMulU ((b : Int) + 1 - 1) (item l (0 : Int).toNat) := by
    rw [eb]
    exact gm7 b1 (gs8 (hl.it _).1 (hl.it _).2)
  refine as_cons (as_par3 2 3 4 q__law_place.nd rfl (aA.val (avs_cons (av_add (av_at7 GA hr (by decide) (av_ixT (v_ 0) i_ rfl) i_ hs.ne (by decide)) (av_mulU (av_sub (v_ 1) i_) (av_at7 GA hr (by decide) (av_ixT (v_ 0) i_ rfl) i_ hl.ne (by decide)) q1)) (avs_cons i_ (avs_cons i_ avs_nil))) ⟨_, _, _, rfl, ?_⟩))
  have z0 : item s (0 : Int).toNat + ((b : Int) + 1 - 1) * item l (0 : Int).toNat = item s 0 + (b : Int) * item l 0 + smN (plT a.toNat (item s) (item l) b) 0 := by
    show item s 0 + ((b : Int) + 1 - 1) * item l 0 = _ + 0
    rw [eb, Int.add_zero]
  rw [z0]
  refine as_cons (as_whileW (fun z Γ M' => ∃ h : Nat, z = b + 1 - h ∧ M' = M ∧ Γ = [some (ptV a s l), some (.int ((b : Int) + 1)), some (.int (item s 0 + (b : Int) * item l 0 + smN (plT a.toNat (item s) (item l) b) h)), some (.int ((a.toNat ^ h : Nat) : Int)), some (.int (h : Int))]) (b + 1) PassesOwn.never ⟨_, _, ⟨0, rfl, rfl, rfl⟩, (by repeat' first | exact le_nil | refine le_skip ?_ | refine le_keep rfl ?_), (by repeat' first | exact List.Sublist.refl _ | exact List.sublist_append_right _ _ | apply List.Sublist.cons₂ | apply List.Sublist.cons)⟩ ?_)
  rintro z Γ M' ⟨h, rfl, rfl, rfl⟩
  refine ⟨_, tp_cmp (v_ 3) (av_sub (v_ 1) i_) cp_le, fun hc => ?_, fun hc => ?_⟩
  · have hc' : a.toNat ^ h ≤ b := by
      have : ((a.toNat ^ h : Nat) : Int) ≤ (b : Int) + 1 - 1 := hc
      omega
    have hlt := lt_pow hk h
    have hP : a.toNat ^ (h + 1) = a.toNat ^ h * a.toNat := Nat.pow_succ ..
    have hp1 : 0 < a.toNat ^ (h + 1) := Nat.pow_pos (by omega)
    have hp2 : a.toNat ^ (h + 1) ≤ 9 * b := by
      rw [hP]
      exact Nat.le_trans (Nat.mul_le_mul hc' (show a.toNat ≤ 9 by omega)) (by omega)
    have eP : ((a.toNat ^ h : Nat) : Int) * a = ((a.toNat ^ (h + 1) : Nat) : Int) := by rw [hP, Int.natCast_mul, ha]
    have w1 : (2 : Nat) ^ 900 * 16 < 2 ^ 1000 := by decide +kernel
    have q2 : CMulU ((a.toNat ^ h : Nat) : Int) a := gm7 (show ((a.toNat ^ h : Nat) : Int).natAbs < 2 ^ 1000 by rw [Int.natAbs_natCast]; omega) (gs7 (by omega) (by omega))
    have w2 : (2 : Nat) ^ 1000 < 2 ^ 8000 := Nat.pow_lt_pow_right (by decide) (by decide)
    have d1 : CDivU ((b : Int) + 1 - 1) ((a.toNat ^ (h + 1) : Nat) : Int) := cdw (by omega) (by rw [Int.natAbs_natCast]; omega)
    have q3 : CMulU (item l (h + 1)) (((b : Int) + 1 - 1) / ((a.toNat ^ (h + 1) : Nat) : Int)) := by
      rw [eb, ← Int.natCast_ediv]
      exact gm7 (gs8 (hl.it _).1 (hl.it _).2) (show (((b / a.toNat ^ (h + 1) : Nat) : Int)).natAbs < 2 ^ 1000 from Nat.lt_of_le_of_lt (by rw [Int.natAbs_natCast]; exact Nat.div_le_self b _) (by omega))
    have eh : ((h : Int) + 1).toNat = h + 1 := by omega
    refine as_cons (as_setv 2 q__law_place.nd (av_add (v_ 2) (av_at7 GA hr (by decide) (av_ixT (v_ 0) i_ rfl) (av_add (v_ 4) i_) hs.ne (by omega))) ?_)
    rw [eh]
    refine as_cons (as_par 4 3 q__law_place.nd rfl (by decide) (aA.val (avs_cons (av_add (v_ 4) i_) (avs_cons (av_mulU (v_ 3) (av_ixT (v_ 0) i_ rfl) q2) avs_nil)) ⟨_, _, rfl, ?_⟩))
    rw [eP, show (h : Int) + 1 = ((h + 1 : Nat) : Int) by omega]
    refine as_one (as_setv 2 q__law_place.nd (av_add (v_ 2) (av_mulU (av_at7 (i := ((h + 1 : Nat) : Int)) GA hr (by decide) (av_ixT (v_ 0) i_ rfl) (v_ 4) hl.ne (by omega)) (av_fdivU (av_sub (v_ 1) i_) (v_ 3) d1) (by rw [Int.toNat_natCast]; exact q3))) ?_)
    refine ⟨_, _, ⟨_, by omega, h + 1, rfl, rfl, rfl⟩, ?_, (by repeat' first | exact List.Sublist.refl _ | exact List.sublist_append_right _ _ | apply List.Sublist.cons₂ | apply List.Sublist.cons)⟩
    repeat' first | exact le_nil | refine le_skip ?_ | refine le_keep rfl ?_ | refine le_keep ?_ ?_
    refine congrArg Val.int ?_
    show _ = _ + (smN (plT a.toNat (item s) (item l) b) h + plT a.toNat (item s) (item l) b h)
    unfold plT
    rw [if_pos hc', eb, Int.natCast_ediv]
    show item s 0 + (b : Int) * item l 0 + _ + item s (h + 1) + item l (h + 1) * _ = _
    omega
  · have hc' : b < a.toNat ^ h := by
      have : ¬ ((a.toNat ^ h : Nat) : Int) ≤ (b : Int) + 1 - 1 := hc
      omega
    refine as_one (as_retv (v_ 2) ?_)
    rw [← place_N hk hc', ← pl0_place hk]
    exact .ok hp
abbrev GPla8 (P : Program) (w : World) (K : PySem.W.Frag) (mg : Str → Option Value) (base : Heap) : Prop := Gd P w K mg base 2 "_law_place" [] fun ds _ => aPla8 ds
end
end K54
namespace K54
open PySem L2 Ab Sm Tx
/-! ### a named item replaced: the place -/
theorem pl_w8s {a : Nat} {s s' l : Stm} {j b : Nat} {v : Int} (hk : 2 ≤ a) (hb : jb j = true) (hz : ji j ≠ 0) (h : Wi8 s s' (ji j) v) : pl a (item s') (item l) 0 b = pl a (item s) (item l) 0 b + (v - itI (item s) (item l) j) * oft a b (jb j) (ji j) := by
  obtain ⟨t, ht⟩ : ∃ t, ji j = 1 + t := ⟨ji j - 1, by omega⟩
  unfold itI oft
  rw [if_pos hb, if_pos hb, ht, pl_put_s hk (s := item s) (j := t) fun i hi => by rw [h.it, ht, if_neg hi], h.it, ht, if_pos rfl, Nat.add_sub_cancel_left]
theorem pl_w8l {a : Nat} {s l l' : Stm} {j b : Nat} {v : Int} (hk : 2 ≤ a) (hb : jb j = false) (h : Wi8 l l' (ji j) v) : pl a (item s) (item l') 0 b = pl a (item s) (item l) 0 b + (v - itI (item s) (item l) j) * oft a b (jb j) (ji j) := by
  have nb : ¬ jb j = true := by rw [hb]; exact Bool.false_ne_true
  unfold itI oft
  rw [if_neg nb, if_neg nb, pl_put_l hk (l := item l) (i := ji j) fun i hi => by rw [h.it, if_neg hi], h.it, if_pos rfl]
theorem ji_0 {j : Nat} (hj : j < 24) (j0 : j ≠ 0) (hb : jb j = true) : ji j ≠ 0 := fun z => j0 (jj_inj hj (by decide) hb z)
theorem lv_8 (j : Nat) : 0 ≤ lv0 j ∧ lv0 j + 1 ≤ 1000001 := by have := lv_b j; omega
theorem itI_b {a : Int} {s l : Stm} (h : Pt7 a s l) (j : Nat) : lv0 j ≤ itI (item s) (item l) j ∧ itI (item s) (item l) j ≤ 1000000 := by
  unfold itI
  cases hb : jb j with
  | true =>
    rw [if_pos rfl, lv_t hb]
    exact li7 h.fs _
  | false =>
    rw [if_neg Bool.false_ne_true]
    have := li7 h.fl (ji j)
    refine ⟨?_, this.2⟩
    unfold lv0
    split
    · next c =>
      subst c
      have := h.p
      exact this
    · exact this.1
theorem rpr_oV {o : Option Int} (h : ∀ v, o = some v → 0 ≤ v ∧ v ≤ 1000000) : ∃ t, rprS (oV o) = some t := by
  cases o with
  | none => exact ⟨_, rfl⟩
  | some v =>
    obtain ⟨h0, h1⟩ := h v rfl
    refine ⟨_, if_pos (log_lt (Nat.lt_of_lt_of_le (show v.natAbs < 2 ^ 20 by omega) (Nat.pow_le_pow_right (by decide) (by decide))))⟩
/-- frozen or not: the item itself does not matter -/
theorem frz_put {S S' : Sc} {j : Nat} {v y : Int} (hj : j < 24) (h : Put7 S S' j v) : frz S'.a.toNat (item S'.sp) (item S'.lv) y (jb j) (ji j) = frz S.a.toNat (item S.sp) (item S.lv) y (jb j) (ji j) := by
  rw [h.a]
  unfold frz
  cases hb : jb j with
  | true =>
    rw [if_pos rfl, if_pos rfl]
    by_cases z : ji j = 0
    · rw [decide_eq_true (.inl z), decide_eq_true (.inl z)]
    · rw [ed_congr (s' := item S.sp) (l' := item S.lv) (fun i hi => by rw [h.s, if_neg fun q => by have := q.2; omega]) fun i hi => by rw [h.l, if_neg fun q => by rw [hb] at q; exact Bool.noConfusion q.1]]
  | false =>
    rw [if_neg Bool.false_ne_true, if_neg Bool.false_ne_true]
    have e1 : item S'.sp = item S.sp := funext fun i => by rw [h.s, if_neg fun q => by rw [hb] at q; exact Bool.noConfusion q.1]
    rw [e1, ed_congr (s := item S.sp) (s' := item S.sp) (l' := item S.lv) (fun i hi => rfl) fun i hi => by rw [h.l, if_neg fun q => by have := q.2; omega]]
theorem put_it {S S' : Sc} {j : Nat} {v : Int} (h : Put7 S S' j v) : itI (item S'.sp) (item S'.lv) j = v := by
  unfold itI
  cases hb : jb j with
  | true => rw [if_pos rfl, h.s, if_pos ⟨hb, rfl⟩]
  | false => rw [if_neg Bool.false_ne_true, h.l, if_pos ⟨hb, rfl⟩]
theorem put_pl {S S' : Sc} {j b : Nat} {v : Int} (hk : 2 ≤ S.a.toNat) (hj : j < 24) (j0 : j ≠ 0) (h : Put7 S S' j v) : pl S'.a.toNat (item S'.sp) (item S'.lv) 0 b = pl S.a.toNat (item S.sp) (item S.lv) 0 b + (v - itI (item S.sp) (item S.lv) j) * oft S.a.toNat b (jb j) (ji j) := by
  rw [h.a]
  cases hb : jb j with
  | true =>
    obtain ⟨t, ht⟩ : ∃ t, ji j = 1 + t := ⟨ji j - 1, by have := ji_0 hj j0 hb; omega⟩
    have e1 : item S'.lv = item S.lv := funext fun i => by rw [h.l, if_neg fun q => by rw [hb] at q; exact Bool.noConfusion q.1]
    unfold itI oft
    rw [e1, if_pos hb, if_pos rfl, ht, pl_put_s hk (s := item S.sp) (j := t) fun i hi => by rw [h.s, ht, if_neg fun q => hi q.2.symm], h.s, ht, if_pos ⟨hb, rfl⟩, Nat.add_sub_cancel_left]
  | false =>
    have nb : ¬ jb j = true := by rw [hb]; exact Bool.false_ne_true
    have e1 : item S'.sp = item S.sp := funext fun i => by rw [h.s, if_neg fun q => nb q.1]
    unfold itI oft
    rw [e1, if_neg nb, if_neg Bool.false_ne_true, pl_put_l hk (l := item S.lv) (i := ji j) fun i hi => by rw [h.l, if_neg fun q => hi q.2.symm], h.l, if_pos ⟨hb, rfl⟩]
section
variable {P : Program} {w : World} {K : PySem.W.Frag} {mg : Str → Option Value} {base : Heap} {k : Nat} {f C C2 CG CZ : Addr}
theorem av_eq8 {X : Cx} {Γ : Gam} {M : Mem} {e : Expr} {d d' : Val} (h : d' = d) (ha : aV X e Γ M d') : aV X e Γ M d := h ▸ ha
/-- _law_place(_law_with(P, I, V), L) -/
theorem av_plw {X : Cx} {Γ : Gam} {M : Mem} {e1 e2 e3 e4 : Expr} {p1 p2 pos pos2 : Pos} {a : Int} {s l : Stm} {j b m : Nat} {v : Int} (GP : GPla8 X.prog X.w X.K X.mg X.base) (GW : GWth8 X.prog X.w X.K X.mg X.base) (hr : Rm m X.A) (hm : 2 ≤ m) (h1 : aV X e1 Γ M (ptV a s l)) (h2 : aV X e2 Γ M (.str (nm j))) (h3 : aV X e3 Γ M (.int v)) (h4 : aV X e4 Γ M (.int ((b : Int) + 1))) (hp7 : Pt7 a s l) (hj : j < 24) (j0 : j ≠ 0) (v0 : 0 ≤ v) (v1 : v ≤ 1000001) (hb : b < 2 ^ 900)
    (hg1 : Gl X "_law_place" := by rfl) (hg2 : Gl X "_law_with" := by rfl)
    (he1 : starEach [.Call (.Name "_law_with" p2) [e1, e2, e3] [] pos2, e4] X.env = [(false, eval (.Call (.Name "_law_with" p2) [e1, e2, e3] [] pos2) X.env), (false, eval e4 X.env)] := by rfl) (he2 : starEach [e4] X.env = [(false, eval e4 X.env)] := by rfl)
    (he3 : starEach [e1, e2, e3] X.env = [(false, eval e1 X.env), (false, eval e2 X.env), (false, eval e3 X.env)] := by rfl) (he4 : starEach [e2, e3] X.env = [(false, eval e2 X.env), (false, eval e3 X.env)] := by rfl) (he5 : starEach [e3] X.env = [(false, eval e3 X.env)] := by rfl) :
    aV X (.Call (.Name "_law_place" p1) [.Call (.Name "_law_with" p2) [e1, e2, e3] [] pos2, e4] [] pos) Γ M (.int (pl a.toNat (item s) (item l) 0 b + (v - itI (item s) (item l) j) * oft a.toNat b (jb j) (ji j))) := by
  have a2 := hp7.a2
  have a9 := hp7.a9
  refine ae_g GP hr (by omega) (aa_cons (ae_g GW hr (by omega) (aa_cons (h1.val (aa_cons (h2.val (aa_cons (h3.val (aa_nil (ak_nil ⟨rfl, a, s, l, nm j, jb j, ji j, v, rfl, kw24 hj, hp7.fs, hp7.fl, v0, v1, fun c s' hw => ?_, fun c l' hw => ?_⟩))) (by rw [he5]; rfl))) (by rw [he4, he5]))) (by rw [he3, he4])) hg2 rfl rfl (he := by rw [he3, he4]) (hpl := by rw [he3]; rfl)) (by rw [he1, he2])) hg1 rfl rfl (he := by rw [he1, he2]) (hpl := by rw [he1]; rfl)
  · refine aa_cons (h4.val (aa_nil (ak_nil ⟨rfl, a, s', l, b, rfl, a2, a9, hw.lim, Lix.of hp7.fl, hb, ?_, rfl⟩))) (by rw [he2]; rfl)
    rw [pl_w8s (by omega) c (ji_0 hj j0 c) hw]
  · refine aa_cons (h4.val (aa_nil (ak_nil ⟨rfl, a, s, l', b, rfl, a2, a9, Lix.of hp7.fs, hw.lim, hb, ?_, rfl⟩))) (by rw [he2]; rfl)
    rw [pl_w8l (by omega) c hw]
def aDue8 : ASp := fun ds M R => ∃ (a : Int) (s l : Stm) (j b : Nat) (pv : Int), ds = [ptV a s l, .str (nm j), .int ((b : Int) + 1), .int pv] ∧ Pt7 a s l ∧ j < 24 ∧ j ≠ 0 ∧ b < 2 ^ 900 ∧ R (oV (itA (itI (item s) (item l) j) (pv - pl a.toNat (item s) (item l) 0 b) (oft a.toNat b (jb j) (ji j)) (lv0 j))) M
theorem b__law_due8 (B : Bt mg) (GA : GAt7 P w K mg base) (GP : GPla8 P w K mg base) (GW : GWth8 P w K mg base) : BodyOk P w K mg base 2 f n__law_due "_law_due" (defScope s__law_due) (defBody s__law_due) aDue8 := by
  rintro cdv A outer s0 H E hr ds M R ⟨a, s, l, j, b, pv, rfl, hp7, hj, j0, hb, hp⟩
  have hk := kw24 hj
  have n12 := hk.n12
  obtain ⟨l0, l1⟩ := lv_8 j
  have elo : (if decide (nm j = ("w0" : Str)) = true then (1 : Int) else 0) = lv0 j := by
    unfold lv0
    by_cases z : j = 12
    · rw [if_pos z, if_pos (decide_eq_true ((nm_w0 hj).mpr z))]
    · rw [if_neg z, if_neg fun q => z ((nm_w0 hj).mp (of_decide_eq_true q))]
  refine as_cons (as_setv (d := .int (lv0 j)) 4 q__law_due.nd ?_ ?_)
  · rw [← elo]
    exact av_intB B.int (ae_cmp (v_ 1) s_ cmp_eqS ⟨rfl, rfl⟩)
  have o0 := oft_nn (k := a.toNat) (b := b) (jb j) (ji j)
  have o1 := oft_le (k := a.toNat) (b := b) (jb j) (ji j)
  have cur : itI (item s) (item l) j = if jb j = true then item s (ji j) else item l (ji j) := rfl
  refine as_cons (as_setv 5 q__law_due.nd (av_plw GP GW hr (by decide) (v_ 0) (v_ 1) (v_ 4) (v_ 2) hp7 hj j0 l0 (by omega) hb) ?_)
  refine as_cons (as_setv (d := .int (oft a.toNat b (jb j) (ji j))) 6 q__law_due.nd ?_ ?_)
  · have e : oft a.toNat b (jb j) (ji j) = (pl a.toNat (item s) (item l) 0 b + (lv0 j + 1 - itI (item s) (item l) j) * oft a.toNat b (jb j) (ji j)) - (pl a.toNat (item s) (item l) 0 b + (lv0 j - itI (item s) (item l) j) * oft a.toNat b (jb j) (ji j)) := by
      rw [show lv0 j + 1 - itI (item s) (item l) j = lv0 j - itI (item s) (item l) j + 1 by omega, Int.add_mul, Int.one_mul]
      omega
    exact av_eq8 (congrArg Val.int e.symm) (av_sub (av_plw GP GW hr (by decide) (v_ 0) (v_ 1) (av_add (v_ 4) i_) (v_ 2) hp7 hj j0 (show 0 ≤ lv0 j + 1 by omega) l1 hb) (v_ 5))
  obtain ⟨o, ho⟩ : ∃ o, o = oft a.toNat b (jb j) (ji j) := ⟨_, rfl⟩
  rw [← ho] at o0 o1 hp ⊢
  have eM : pv - (pl a.toNat (item s) (item l) 0 b + (lv0 j - itI (item s) (item l) j) * o) = pv - pl a.toNat (item s) (item l) 0 b + (itI (item s) (item l) j - lv0 j) * o := by
    rw [Int.sub_mul, Int.sub_mul]
    omega
  by_cases oz : o = 0
  · refine as_cons (as_ifp (tp_cmp (v_ 6) i_ cp_eq) (fun _ => ?_) (fun c => absurd oz c))
    obtain ⟨u, hu, ne, e1⟩ : ∃ u : Stm, u = (if jb j = true then s else l) ∧ u.2 ≠ [] ∧ itI (item s) (item l) j = item u (ji j) := by
      refine ⟨_, rfl, ?_⟩
      unfold itI
      cases jb j with
      | true => exact ⟨hp7.fs.ne, rfl⟩
      | false => exact ⟨hp7.fl.ne, rfl⟩
    refine as_cons (as_setv (d := stV u) 7 q__law_due.nd ?_ ?_)
    · cases hjb : jb j with
      | true =>
        have hk' := hk
        rw [hjb] at hk' hu
        rw [hu, if_pos rfl]
        exact ae_ifp (tp_cmp (av_kw0 hk' (v_ 1)) s_ cp_eqS) (fun _ => (av_ixT (v_ 0) i_ rfl).val ⟨rfl, rfl⟩) (fun c => absurd rfl c)
      | false =>
        have hk' := hk
        rw [hjb] at hk' hu
        rw [hu, if_neg Bool.false_ne_true]
        exact ae_ifp (tp_cmp (av_kw0 hk' (v_ 1)) s_ cp_eqS) (fun c => absurd (dw_d.mp c) Bool.false_ne_true) (fun _ => (av_ixT (v_ 0) i_ rfl).val ⟨rfl, rfl⟩)
    unfold itA at hp
    rw [if_pos oz] at hp
    refine as_one (as_ret (ae_ifp (tp_cmp (v_ 3) (v_ 5) cp_eq) (fun c => ?_) (fun c => n_.val (.ok ?_))))
    · rw [oz, Int.mul_zero, Int.add_zero] at c
      rw [if_pos (by omega), e1] at hp
      exact (av_at7 GA hr (by decide) (v_ 7) (av_kwN hk B.int (v_ 1)) ne (by omega)).val (.ok hp)
    · rw [oz, Int.mul_zero, Int.add_zero] at c
      rw [if_neg (by omega)] at hp
      exact hp
  rw [itA_from (c := lv0 j) oz, ← eM] at hp
  have op : 0 < o := by omega
  have w8 : (2 : Nat) ^ 900 + 1 < 2 ^ 8000 := by decide +kernel
  have dv : ∀ m : Int, CDivU m o := fun m => cdw op (by omega)
  generalize pl a.toNat (item s) (item l) 0 b + (lv0 j - itI (item s) (item l) j) * o = bs at *
  refine as_cons (as_ifp (tp_cmp (v_ 6) i_ cp_eq) (fun c => absurd c oz) (fun _ => as_nil ?_))
  refine as_cons (as_ifp (tp_w (wp_or (tp_cmp (av_mod (av_sub (v_ 3) (v_ 5)) (v_ 6) op) i_ cp_ne) (fun _ => wp_or1 (tp_not (tp_chain i_ (av_fdivU (av_sub (v_ 3) (v_ 5)) (v_ 6) (dv _)) (av_sub (av_powC (v := 1000000) i_ i_ ⟨by decide, by decide, by decide⟩ (by decide)) (v_ 4)) cp_le cp_le))))) (fun c => ?_) (fun c => as_nil ?_))
  · have c2 : ¬ ((pv - bs) % o = 0 ∧ 0 ≤ (pv - bs) / o + (lv0 j - lv0 j) ∧ (pv - bs) / o ≤ 1000000 - lv0 j) := fun q => by
      rcases c with c | c
      · exact c q.1
      · exact c ⟨by omega, q.2.2⟩
    rw [if_neg c2] at hp
    exact as_one (as_retv n_ (.ok hp))
  · have c2 : (pv - bs) % o = 0 ∧ 0 ≤ (pv - bs) / o + (lv0 j - lv0 j) ∧ (pv - bs) / o ≤ 1000000 - lv0 j := by
      have h2 := Classical.byContradiction fun z => c (.inr z)
      exact ⟨Classical.byContradiction fun z => c (.inl z), by omega, h2.2⟩
    rw [if_pos c2] at hp
    exact as_one (as_retv (av_add (v_ 4) (av_fdivU (av_sub (v_ 3) (v_ 5)) (v_ 6) (dv _))) (.ok hp))
abbrev GDue8 (P : Program) (w : World) (K : PySem.W.Frag) (mg : Str → Option Value) (base : Heap) : Prop := Gd P w K mg base 3 "_law_due" [] fun ds _ => aDue8 ds
end
end K54
namespace K54
open PySem L2 Ab Sm Tx
section
variable {P : Program} {w : World} {K : PySem.W.Frag} {mg : Str → Option Value} {base : Heap} {k : Nat} {f C C2 CG CZ : Addr}
/-! ### _law_asked -/
def aAsk8 : ASp := fun ds M R => ∃ (p : Addr) (i : Nat) (a : Int) (s l : Stm) (j : Nat), ds = [.ptr p, ptV a s l, .str (nm j)] ∧ M[i]? = some (p, st7 p) ∧ Pt7 a s l ∧ j < 24 ∧ j ≠ 0 ∧ ∀ (b : Nat) (pv : Int), b < 2 ^ 900 → 0 ≤ pv → R (.tup [.int ((b : Int) + 1), .int pv]) M
theorem b__law_asked8 (B : Bt mg) (GD : GDr7 P w K mg base) (GO : GOf7 P w K mg base) (GB : GBig7 P w K mg base) (GP : GPla8 P w K mg base) (GW : GWth8 P w K mg base) : BodyOk P w K mg base 3 f n__law_asked "_law_asked" (defScope s__law_asked) (defBody s__law_asked) aAsk8 := by
  rintro cdv A outer s0 H E hr ds M R ⟨p, i, a, s, l, j, rfl, hi, hp7, hj, j0, hp⟩
  refine as_cons (as_set 3 q__law_asked.nd (ae_bin (i_.val (ae_g GO hr (by decide) (aa_cons ((v_ 0).val (aa_cons (ae_lst (aa_cons (ae_dr7 GD hr (by decide) (v_ 0) i_ hi (by decide) (by decide) fun x x0 x1 => aa_cons (ae_dr7 GD hr (by decide) (v_ 0) i_ hi (by decide) (by decide) fun y y0 y1 => aa_cons (ae_g GB hr (by decide) (aa_cons ((v_ 0).val (aa_cons ((av_powC (v := 10 ^ 30) i_ i_ ⟨by decide, by decide, by decide⟩ (by decide +kernel)).val (aa_nil (ak_nil ⟨rfl, p, i, _, rfl, hi, by decide +kernel, fun z z0 z1 => aa_nil ⟨szb, aa_nil (ak_nil ⟨rfl, p, i, _, rfl, hi, Nat.le_of_ble_eq_true rfl, Nat.le_of_ble_eq_true rfl, fun d hd => ?_⟩)⟩⟩))))))))))))))))))
  have w30 : (10 : Int) ^ 30 = 1000000000000000000000000000000 := by decide +kernel
  obtain ⟨b, rfl, hb⟩ : ∃ b : Nat, d = .int (b : Int) ∧ b < 1000000000000000000000000000000 := by
    rw [w30] at z1
    rcases List.mem_cons.mp hd with rfl | hd
    · exact ⟨x.toNat, by rw [Int.toNat_of_nonneg x0], by omega⟩
    rcases List.mem_cons.mp hd with rfl | hd
    · exact ⟨y.toNat, by rw [Int.toNat_of_nonneg y0], by omega⟩
    rw [List.mem_singleton.mp hd]
    exact ⟨z.toNat, by rw [Int.toNat_of_nonneg z0], by omega⟩
  have hb2 : b < 2 ^ 900 := Nat.lt_trans hb (by decide +kernel)
  refine bv_add ?_
  rw [Int.add_comm]
  refine as_cons (as_set 4 q__law_asked.nd (ae_g GO hr (by decide) (aa_cons ((v_ 0).val (aa_cons (ae_lst (aa_cons (i_.val (aa_cons (ae_bin (ae_dr7 GD hr (by decide) (v_ 0) i_ hi (by decide) (by decide) fun u u0 u1 => i_.val (bv_add (aa_cons ((av_powC (v := 1000000) i_ i_ ⟨by decide, by decide, by decide⟩ (by decide)).val (aa_cons ((av_add (av_powC (v := 1000000) i_ i_ ⟨by decide, by decide, by decide⟩ (by decide)) i_).val (aa_nil ⟨szb, aa_nil (ak_nil ⟨rfl, p, i, _, rfl, hi, Nat.le_of_ble_eq_true rfl, Nat.le_of_ble_eq_true rfl, fun d hd => ?_⟩)⟩)))))))))))))))))
  obtain ⟨v, rfl, v0, v1⟩ : ∃ v : Int, d = .int v ∧ 0 ≤ v ∧ v ≤ 1000001 := by
    rcases List.mem_cons.mp hd with rfl | hd
    · exact ⟨1, rfl, by decide, by decide⟩
    rcases List.mem_cons.mp hd with rfl | hd
    · exact ⟨u + 1, rfl, by omega, by omega⟩
    rcases List.mem_cons.mp hd with rfl | hd
    · exact ⟨1000000, rfl, by decide, by decide⟩
    rw [List.mem_singleton.mp hd]
    exact ⟨1000001, rfl, by decide, by decide⟩
  refine as_cons (as_setv 5 q__law_asked.nd (av_plw GP GW hr (by decide) (v_ 1) (v_ 2) (v_ 4) (v_ 3) hp7 hj j0 v0 v1 hb2) ?_)
  generalize pl a.toNat (item s) (item l) 0 b + (v - itI (item s) (item l) j) * oft a.toNat b (jb j) (ji j) = q
  refine as_one (as_ret (ae_tup (aa_cons ((v_ 3).val (aa_cons (ae_maxM B.max rfl (i_.val (ae_bin ((v_ 5).val (ae_g GO hr (by decide) (aa_cons ((v_ 0).val (aa_cons ((av_lst (ds := ([0, 0, 0, 1, -1, 0 - q] : List Int).map .int) (avs_cons i_ (avs_cons i_ (avs_cons i_ (avs_cons i_ (avs_cons (av_neg i_) (avs_cons (av_sub i_ (v_ 5)) avs_nil)))))) szb).val (aa_nil (ak_nil ⟨rfl, p, i, _, rfl, hi, Nat.le_of_ble_eq_true rfl, Nat.le_of_ble_eq_true rfl, fun d hd => ?_⟩))))))))))))))))
  obtain ⟨t, ht, rfl⟩ := List.mem_map.mp hd
  exact bv_add ⟨_, _, rfl, rfl, aa_nil ⟨szb, .ok (hp b _ hb2 (Int.le_max_left ..))⟩⟩
abbrev GAsk8 (P : Program) (w : World) (K : PySem.W.Frag) (mg : Str → Option Value) (base : Heap) : Prop := Gd P w K mg base 4 "_law_asked" [] fun ds _ => aAsk8 ds
/-! ### _law_is_rejected -/
structure XE2 (K : PySem.W.Frag) (mg : Str → Option Value) (x f : Str) (C : Addr) : Prop where
  nm : mg x = some (.ref C)
  ex : PySem.W.exmOne K (.ref C) (.ref C) = some true
  xf : XfC K C
  no : PySem.W.findIn K (.ref C) f = some none
def aRej8 (C CG : Addr) : ASp := fun ds M R => ∃ (i : Nat) (g q : Addr) (S : Sc) (x y : Int) (j : Nat), ds = [.ptr g, .str (nm j)] ∧ M[i]? = some (g, .ins CG (grF C S x y q)) ∧ GoodS S ∧ j < 24 ∧ frz S.a.toNat (item S.sp) (item S.lv) y (jb j) (ji j) = true ∧ R (.bl true) M
theorem b__law_is_rejected8 (G : GrX K mg CG) (XZ : XE2 K mg "Frozen" "item" CZ) (XE : MtE P w K mg base CG 8 "item_for" [] fun ds _ => aIfoX C CG CZ ds) : BodyOk P w K mg base 8 f n__law_is_rejected "_law_is_rejected" (defScope s__law_is_rejected) (defBody s__law_is_rejected) (aRej8 C CG) := by
  rintro cdv A outer s0 H E hr ds M R ⟨i, g, q, S, x, y, j, rfl, hi, hS, hj, hf, hp⟩
  have hO : Ob M CG (.ptr g) (grF C S x y q) := .ce i hi
  refine as_cons (as_setv 2 q__law_is_rejected.nd n_ ?_)
  refine as_cons (as_try 3 q__law_is_rejected.nd ⟨rfl, by decide, .inl XZ.nm⟩ fun pn xe po => ys_one (ys_expr (ye_m G.cl XE hr (by decide) ((v_ 0).val ⟨hO.obM rfl, aa_cons ((v_ 1).val (aa_cons (i_.val (aa_cons (i_.val (aa_nil (ak_nil ⟨rfl, i, g, q, S, x, y, j, _, _, rfl, hi, hS, hj, hf, true, XZ.ex, fun _ a pn2 => ?_, ntf⟩)))))))⟩))))
  refine as_one (as_set 2 q__law_is_rejected.nd ((v_ 3).val ?_))
  refine as_one (as_ret (ae_and (ae_cmp (v_ 2) n_ cmp_notN ⟨_, rfl, fun _ => ae_one (ae_cmpM (ae_xf XZ.xf XZ.no ((v_ 2).val ⟨_, _, rfl, rfl, (v_ 1).val ⟨true, Cmp.eq (b' := true) cmp_eqS (decide_eq_true rfl), .ok hp⟩⟩))), fun z => ?_⟩)))
  exact Bool.noConfusion (show true = false from z)
abbrev GRej8 (P : Program) (w : World) (K : PySem.W.Frag) (mg : Str → Option Value) (base : Heap) (C CG : Addr) : Prop := Gd P w K mg base 9 "_law_is_rejected" [] fun ds _ => aRej8 C CG ds
end
end K54
/-! Ab97: xs[a:e], the upper bound changing cells -/
namespace Ab
open PySem PySem.Spec PyProof.Rows L2
end Ab
/-! Ab98: range(a, b, c) with a step of at least 1, walked and listed -/
namespace Ab
open PySem PySem.Spec PyProof.Rows L2
/-- how many numbers range(i, j, c) has -/
def rgN (i j c : Int) : Nat := if i < j then ((j - i - 1) / c + 1).toNat else 0
theorem rgN_size {i j c : Int} (c1 : 1 ≤ c) : Builtin.Range.rangeSize i j c = (rgN i j c : Int) := by
  unfold Builtin.Range.rangeSize rgN
  rw [if_pos (by omega)]
  split
  · have : 0 ≤ (j - i - 1) / c := Int.ediv_nonneg (by omega) (by omega)
    omega
  · rfl
theorem rgN_le {i j c : Int} (c1 : 1 ≤ c) : (rgN i j c : Int) ≤ max 0 (j - i) := by
  unfold rgN
  split
  · have h0 : 0 ≤ (j - i - 1) / c := Int.ediv_nonneg (by omega) (by omega)
    have h1 : (j - i - 1) / c ≤ j - i - 1 := Int.ediv_le_self _ (by omega)
    omega
  · omega
/-- the numbers of the range lie below the bound -/
theorem rgN_lt {i j c : Int} {t : Nat} (c1 : 1 ≤ c) (h : t < rgN i j c) : i + (t : Int) * c < j := by
  unfold rgN at h
  split at h
  · have h0 : 0 ≤ (j - i - 1) / c := Int.ediv_nonneg (by omega) (by omega)
    have h1 : (t : Int) ≤ (j - i - 1) / c := by omega
    have h2 : (t : Int) * c ≤ (j - i - 1) / c * c := Int.mul_le_mul_of_nonneg_right h1 (by omega)
    have h3 := Int.ediv_mul_le (j - i - 1) (show c ≠ 0 by omega)
    omega
  · omega
def RgB (i j c : Int) : Prop := -(2 ^ 61) ≤ i ∧ i < 2 ^ 61 ∧ -(2 ^ 61) ≤ j ∧ j < 2 ^ 61 ∧ 1 ≤ c ∧ c < 1073741824
theorem RgB.small {i j c : Int} (h : RgB i j c) : Builtin.Range.small i j c = true := by
  obtain ⟨h1, h2, h3, h4, h5, h6⟩ := h
  have h7 := rgN_le (i := i) (j := j) h5
  unfold Builtin.Range.small
  rw [rgN_size h5]
  simp only [Builtin.Range.rangeFitsLong, Bool.and_eq_true, Bool.or_eq_true, decide_eq_true_eq, beq_iff_eq, show c > 0 by omega, if_true]
  omega
theorem RgB.rgc {i j c : Int} (h : RgB i j c) : RgC i j c (rgN i j c) := by
  have h' := h
  obtain ⟨h1, h2, h3, h4, h5, h6⟩ := h'
  exact ⟨by omega, by omega, h.small, rgN_size h5⟩
section
variable {X : Cx} {Γ : Gam} {M : Mem} {a b c : Expr} {pos p1 p2 : Pos}
theorem aj_range3 {tg : Expr} {P : Nat → (Nat → Val) → Mem → Prop} (hm : X.mg "range" = none) (ha : aA X [a, b, c] Γ M fun ds M' => ∃ lo hi st : Int, ds = [.int lo, .int hi, .int st] ∧ RgB lo hi st ∧ P (rgN lo hi st) (fun i => .int (lo + (i : Nat) * st)) M') (hg : Gl X "range" := by rfl)
    (hs : starEach [a, b, c] X.env = (false, eval a X.env) :: starEach [b, c] X.env := by rfl) (hpl : (backTo pos (starEach [b, c] X.env)).any (·.1) = false := by rfl) : aJ X tg (.Call (.Name "range" p1) [a, b, c] [] pos) Γ M P := fun Hi H σ ok en R' q => by
  refine ⟨_, pi_range3 hg hm pa_wa hs hpl, ?_⟩
  refine ha Hi H σ ok en _ fun ds M1 v Hi1 H1 h1 s1 ok1 r1 => ?_
  obtain ⟨lo, hi, st, rfl, hb, hp⟩ := h1
  cases r1 with
  | cons r1 r2 =>
    cases r2 with
    | cons r2 r3 =>
      cases r3 with
      | cons r3 r4 =>
        cases r4
        cases r1
        cases r2
        cases r3
        refine ⟨lo, hi, st, _, rfl, hb.rgc, q _ _ _ M1 Hi1 H1 hp s1 ok1 ?_⟩
        refine walk_rangeC.mono (fun _ _ => trivial) fun i H' v H'' hi hG hy Hi' M' s2 ok2 => ?_
        obtain ⟨rfl, rfl⟩ := hy
        exact ⟨Hi', Same.refl _, ok2, .int _⟩
/-! ### list(range(a, b, c)) -/
end
end Ab
namespace K54
open PySem L2 Ab Sm Tx
theorem ne_same8 {X : Cx} {M : Mem} {C fq : Addr} {S T : Sc} {m : Nat} (O : OwnS X.prog X.w X.K X.mg X.base C fq) (hr : Rm m X.A) (hm : 2 ≤ m) (g1 : GoodS S) (g2 : GoodS T) (h : S = T) : Cmp X .NotEq M (scV C S) (scV C T) false := by
  have := cmp_neO (M := M) O (hr.mono hm) (fs := schF S) (gs := schF T) ⟨S, rfl, g1⟩ ⟨T, rfl, g2⟩
  rw [rel_eq h] at this
  exact this
section
variable {P : Program} {w : World} {K : PySem.W.Frag} {mg : Str → Option Value} {base : Heap} {k : Nat} {f C C2 CG CZ : Addr}
abbrev aAplS (C CG : Addr) : ASp := fun ds M R => ∃ d ds', ds = d :: ds' ∧ ds'.length ≤ sizeLine ∧ aApl C CG [d, .tup ds'] M R
def aGl8 (C CG : Addr) : ASp := fun ds M R => ∃ (p g q : Addr) (i u u2 : Nat) (a : Int) (s l : Stm) (S : Sc) (x y : Int) (j : Nat), ds = [.ptr p, .ptr g, ptV a s l, .str (nm j)] ∧ S = ⟨a, nf s, nf l⟩ ∧ M[i]? = some (p, st7 p) ∧ M[u]? = some (g, .ins CG (grF C S x y q)) ∧ M[u2]? = some (q, .lst []) ∧ Pt7 a s l ∧ 0 ≤ x ∧ j < 24 ∧ frz a.toNat (item s) (item l) y (jb j) (ji j) = false ∧ R (.bl true) M
theorem b__law_goal_right8 {fq : Addr} (B : Bt mg) (hrp : mg "repr" = none) (O : OwnS P w K mg base C fq) (G : GrX K mg CG) (Z : Cr K mg C2) (gc : mg "Counter" = some (.ref C2)) (I : Mkc P w K mg base C C2) (XP : Mt P w K mg base C2 6 "place" (aPlB C C2)) (XI : Mt P w K mg base CG 8 "item_for" (aIfo C CG)) (XY : Mt P w K mg base CG 4 "copy" (aCpy C CG)) (XA : Mt P w K mg base CG 10 "apply" (aAplS C CG)) (PS : GPr P w K mg base CG "schedule" 1 (aGsc C CG)) (PC : GPr P w K mg base CG "change_count" 1 (aGcc C CG)) (GS : GSch7 P w K mg base C) (GA : GAsk8 P w K mg base) (GD : GDue8 P w K mg base) (GW : GWth8 P w K mg base) : BodyOk P w K mg base 10 f n__law_goal_right "_law_goal_right" (defScope s__law_goal_right) (defBody s__law_goal_right) (aGl8 C CG) := by
  rintro cdv A outer s0 H E hr ds M R ⟨p, g, q, i, u, u2, a, s, l, S, x, y, j, rfl, hS, hi, hu, hu2, hp7, x0, hj, hf, hp⟩
  have j0 := frz_j0 hf
  have gS : GoodS S := by rw [hS]; exact ga7 hp7
  have sa : S.a = a := by rw [hS]
  have ss : item S.sp = item s := by rw [hS]; exact in7 hp7.fs
  have sl : item S.lv = item l := by rw [hS]; exact in7 hp7.fl
  have hf' : frz S.a.toNat (item S.sp) (item S.lv) y (jb j) (ji j) = false := by rw [sa, ss, sl]; exact hf
  have a2 := hp7.a2
  have hO : Ob M CG (.ptr g) (grF C S x y q) := .ce u hu
  obtain ⟨fi, mi, Fi⟩ := XI
  obtain ⟨pp, fp, hpr, FP⟩ := PS
  obtain ⟨pc, fc, hpc, FC⟩ := PC
  refine as_cons (as_asg (ae_g GA hr (by decide) (aa_cons ((v_ 0).val (aa_cons ((v_ 2).val (aa_cons ((v_ 3).val (aa_nil (ak_nil ⟨rfl, p, i, a, s, l, j, rfl, hi, hp7, hj, j0, fun b pv hb h0 => ?_⟩))))))))))
  refine ag_tup rfl (ags_cons (ag_name 4 q__law_goal_right.nd (ags_cons (ag_name 5 q__law_goal_right.nd (ags_nil ?_)))))
  have hb2 : b < 2 ^ 2000 := Nat.lt_trans hb (Nat.pow_lt_pow_right (by decide) (by decide))
  refine as_cons (as_par 6 7 q__law_goal_right.nd rfl (by decide) (aa_cons (ae_methG G.cl mi Fi (hr.mono (by decide)) ((v_ 1).val ⟨hO.obM rfl, aa_cons ((v_ 3).val (aa_cons ((v_ 4).val (aa_cons ((v_ 5).val (aa_nil (ak_nil ⟨rfl, u, g, q, S, x, y, j, b, pv, rfl, hu, gS, hj, hf', hb, h0, ?_⟩)))))))⟩))))
  refine aa_cons (ae_g GD hr (by decide) (aa_cons ((v_ 2).val (aa_cons ((v_ 3).val (aa_cons ((v_ 4).val (aa_cons ((v_ 5).val (aa_nil (ak_nil ⟨rfl, a, s, l, j, b, pv, rfl, hp7, hj, j0, hb, aa_nil ⟨_, _, rfl, ?_⟩⟩)))))))))))
  rw [sa, ss, sl]
  have ib := itI_b hp7 j
  obtain ⟨ov, hov⟩ : ∃ ov, ov = itA (itI (item s) (item l) j) (pv - pl a.toNat (item s) (item l) 0 b) (oft a.toNat b (jb j) (ji j)) (lv0 j) := ⟨_, rfl⟩
  rw [← hov]
  have vb : ∀ v, ov = some v → lv0 j ≤ v ∧ v ≤ 1000000 := fun v hv => by
    rw [hov] at hv
    rcases (itA_hit hv).2 with z | z
    · rw [z]; exact ib
    · exact z
  have l0 := (lv_b j).1
  obtain ⟨t, ht⟩ := rpr_oV (o := ov) fun v hv => ⟨by have := vb v hv; omega, (vb v hv).2⟩
  refine as_cons (as_if (at_w (aw_or (at_cmp (av_reprS hrp (v_ 6) ht) (av_reprS hrp (v_ 7) ht) (Cmp.eq (b' := false) cmp_neS (by simp)) ⟨nft, fun _ => ?_⟩))))
  refine aw_or (at_cmpM (ae_propM (m := "schedule") G.cl hpr FP (hr.mono (by decide)) ((v_ 1).val ⟨hO.obM rfl, u, g, q, S, x, y, rfl, hu, ae_g GS hr (by decide) (aa_cons ((v_ 2).val (aa_nil (ak_nil ⟨rfl, a, s, l, rfl, hp7, false, ne_same8 O hr (by decide) gS (ga7 hp7) hS, nft, fun _ => ?_⟩))))⟩)))
  refine aw_or1 (at_cmpM (ae_propM (m := "change_count") G.cl hpc FC (hr.mono (by decide)) ((v_ 1).val ⟨hO.obM rfl, u, u2, g, q, S, x, y, [], rfl, hu, hu2, i_.val ⟨false, Cmp.eq (b' := false) cmp_neI (by simp), nft, fun _ => as_nil ?_⟩⟩)))
  cases ov with
  | none => exact as_cons (as_ifp (tp_cmp (v_ 6) n_ cp_isN) (fun _ => as_one (as_ret (ae_bl (.ok hp)))) (fun c => absurd rfl c))
  | some v =>
    obtain ⟨vl, vh⟩ := vb v rfl
    obtain ⟨eM, _⟩ := itA_hit hov.symm
    refine as_cons (as_ifp (tp_cmp (v_ 6) n_ cp_isN) (fun c => ?no) (fun _ => as_nil ?_))
    case no => exact absurd (show false = true from c) (by decide)
    refine as_cons (as_set 8 q__law_goal_right.nd (ae_m0 G.cl XY hr (by decide) ((v_ 1).val ⟨hO.obM rfl, u, u2, g, q, S, x, y, [], rfl, hu, hu2, x0, fun g2 q2 => ?_⟩)))
    refine as_cons (as_expr (ae_methG G.cl mi Fi (hr.mono (by decide)) ((v_ 8).val ⟨(Ob.ce 1 rfl).obM rfl, aa_cons ((v_ 3).val (aa_cons ((v_ 4).val (aa_cons ((v_ 5).val (aa_nil (ak_nil ⟨rfl, 1, g2, q2, S, x, y, j, b, pv, rfl, rfl, gS, hj, hf', hb, h0, ?_⟩)))))))⟩)))
    refine as_cons (as_expr (ae_m1 G.cl XA hr (by decide) ((v_ 8).val ⟨(Ob.ce 1 rfl).obM rfl, (av_tup (ds := [.str (nm j), .int v]) (avs_cons (v_ 3) (avs_cons (v_ 6) avs_nil)) (Nat.le_of_ble_eq_true rfl)).val ⟨_, _, rfl, Nat.le_of_ble_eq_true rfl, g2, q2, S, x, y, [], j, v, M, rfl, rfl, gS, x0, Nat.zero_le _, hj, hf', vl, vh, fun S1 h1 => ?_⟩⟩)))
    have eP : pl S1.a.toNat (item S1.sp) (item S1.lv) 0 b = pv := by
      rw [put_pl (by rw [sa]; omega) hj j0 h1, sa, ss, sl]
      omega
    have eA : itA (itI (item S1.sp) (item S1.lv) j) (pv - pl S1.a.toNat (item S1.sp) (item S1.lv) 0 b) (oft S1.a.toNat b (jb j) (ji j)) (lv0 j) = some v := by
      rw [put_it h1, eP, h1.a, sa, Int.sub_self]
      rw [eM] at hov
      exact itA_back hov.symm
    have fin : aSs (bcx P w K mg base n__law_goal_right "_law_goal_right" (defScope s__law_goal_right) f cdv A outer s0 H E) [(defBody s__law_goal_right).getD 8 (.Pass ⟨0, 0, 0, 0⟩)] [some (.ptr p), some (.ptr g), some (ptV a s l), some (.str (nm j)), some (.int ((b : Int) + 1)), some (.int pv), some (.int v), some (.int v), some (.ptr g2)] ((q2, .lst [.tup [scV C S, .int x, .int y]]) :: (g2, .ins CG (grF C S1 x y q2)) :: M) (kOf R) := by
      refine as_one (as_ret (ae_and (ae_cmpM (ae_m1 Z.cl XP hr (by decide) (ae_ctr Z gc I hr (by decide) (ae_propM (m := "schedule") G.cl hpr FP (hr.mono (by decide)) ((v_ 8).val ⟨(Ob.ce 1 rfl).obM rfl, 1, g2, q2, S1, x, y, rfl, rfl, S1, rfl, h1.g, fun c2 => ⟨obm_ctr (i := 0) rfl, (v_ 4).val ⟨0, c2, S1, 0, b, _, rfl, rfl, rfl, h1.g, by decide, hb2, (v_ 5).val ⟨_, cmp_eqI, _, rfl, fun _ => ?_, fun z => ?_⟩⟩⟩⟩)))))))
      · exact ae_one (ae_cmpM (ae_propM (m := "change_count") G.cl hpc FC (hr.mono (by decide)) ((v_ 8).val ⟨(Ob.ce 2 rfl).obM rfl, 2, 1, g2, q2, S1, x, y, _, rfl, rfl, rfl, i_.val ⟨true, Cmp.eq (b' := true) cmp_eqI (by simp), .drop (.drop (.drop (.ok hp)))⟩⟩)))
      · exact absurd (show plN S1 0 b = pv from eP) (of_decide_eq_false z)
    refine as_cons (as_if (at_w (aw_or (at_cmpM (ae_methG G.cl mi Fi (hr.mono (by decide)) ((v_ 8).val ⟨(Ob.ce 1 rfl).obM rfl, aa_cons ((v_ 3).val (aa_cons ((v_ 4).val (aa_cons ((v_ 5).val (aa_nil (ak_nil ⟨rfl, 1, g2, q2, S1, x, y, j, b, pv, rfl, rfl, h1.g, hj, by rw [frz_put hj h1]; exact hf', hb, h0, ?_⟩)))))))⟩))))))
    rw [eA]
    refine (v_ 6).val ⟨false, Cmp.eq (b' := false) (cmp_neI (i := v) (j := v)) (by simp), nft, fun _ => ?_⟩
    refine aw_or1 (at_cmpM (ae_propM (m := "schedule") G.cl hpr FP (hr.mono (by decide)) ((v_ 8).val ⟨(Ob.ce 1 rfl).obM rfl, 1, g2, q2, S1, x, y, rfl, rfl, ae_g GS hr (by decide) (aa_cons (ae_g GW hr (by decide) (aa_cons ((v_ 2).val (aa_cons ((v_ 3).val (aa_cons ((v_ 6).val (aa_nil (ak_nil ⟨rfl, a, s, l, nm j, jb j, ji j, v, rfl, kw24 hj, hp7.fs, hp7.fl, by omega, by omega, fun c s' hw => aa_nil (ak_nil ⟨rfl, a, s', l, rfl, ?_, false, ne_same8 O hr (by decide) h1.g (ga7 ?_) ?_, nft, fun _ => as_nil fin⟩), fun c l' hw => aa_nil (ak_nil ⟨rfl, a, s, l', rfl, ?_, false, ne_same8 O hr (by decide) h1.g (ga7 ?_) ?_, nft, fun _ => as_nil fin⟩)⟩))))))))))⟩)))
    · exact ⟨hp7.a2, hp7.a9, hw.lm vh, hp7.fl, hp7.p⟩
    · exact ⟨hp7.a2, hp7.a9, hw.lm vh, hp7.fl, hp7.p⟩
    · have pt : Pt7 a s' l := ⟨hp7.a2, hp7.a9, hw.lm vh, hp7.fl, hp7.p⟩
      refine GoodS.ext h1.g (ga7 pt) (h1.a.trans sa) (fun i => ?_) fun i => ?_
      · show _ = item (nf s') i
        rw [in7 pt.fs, hw.it, h1.s, ss]
        by_cases z : ji j = i
        · rw [if_pos ⟨c, z⟩, if_pos z.symm]
        · rw [if_neg fun q => z q.2, if_neg fun q => z q.symm]
      · show _ = item (nf l) i
        rw [in7 pt.fl, h1.l, sl, if_neg fun q => by rw [c] at q; exact Bool.noConfusion q.1]
    all_goals
      have lp : 0 < item l' 0 := by
        rw [hw.it]
        split
        · next z =>
          have e12 : j = 12 := jj_inj hj (by decide) c z.symm
          rw [e12] at vl
          exact vl
        · exact hp7.p
      have pt : Pt7 a s l' := ⟨hp7.a2, hp7.a9, hp7.fs, hw.lm vh, lp⟩
    · exact pt
    · exact pt
    · refine GoodS.ext h1.g (ga7 pt) (h1.a.trans sa) (fun i => ?_) fun i => ?_
      · show _ = item (nf s) i
        rw [in7 pt.fs, h1.s, ss, if_neg fun q => by rw [c] at q; exact Bool.noConfusion q.1]
      · show _ = item (nf l') i
        rw [in7 pt.fl, hw.it, h1.l, sl]
        by_cases z : ji j = i
        · rw [if_pos ⟨c, z⟩, if_pos z.symm]
        · rw [if_neg fun q => z q.2, if_neg fun q => z q.symm]
abbrev GGl8 (P : Program) (w : World) (K : PySem.W.Frag) (mg : Str → Option Value) (base : Heap) (C CG : Addr) : Prop := Gd P w K mg base 11 "_law_goal_right" [] fun ds _ => aGl8 C CG ds
/-! ### law -/
theorem cmp_nmE {X : Cx} {M : Mem} {js : List Nat} (h : ∀ j ∈ js, j < 24) (hu : X.A.units + 64 < cLine) : CP X .NotEq M (.lst (nmL js)) (.lst []) (js ≠ []) := by
  obtain ⟨h1, h2⟩ := nmL_nb h
  obtain ⟨b, c, e⟩ := cp_neW (X := X) (M := M) (.self (.lst (nmL js))) (.self (.lst [])) (show nbV (.lst (nmL js)) from h1) (show nbV (.lst []) from trivial) (show dpVs (nmL js) + 1 ≤ 60 by omega) (by decide) hu
  refine ⟨b, c, e.trans ⟨fun q z => q (by rw [z]; rfl), fun q z => q ?_⟩⟩
  have z : nmL js = [] := by injection z
  exact List.map_eq_nil_iff.mp z
theorem cmp_nmN {X : Cx} {M : Mem} {js : List Nat} {t : Nat} {b : Bool} (ht : t < 24) (h : ∀ j ∈ js, j < 24) (hb : t ∈ js ↔ b = false) (hu : X.A.units + 65 < cLine) : Cmp X .NotIn M (.str (nm t)) (.lst (nmL js)) b := by
  obtain ⟨h1, h2⟩ := nmL_nb h
  obtain ⟨c, hc, e⟩ := cp_notInL (X := X) (M := M) (.self (.str (nm t))) (.self (.lst (nmL js))) (show nbV (.str (nm t)) from nm_ok ht) h1 (Nat.zero_le _) (show dpVs (nmL js) + 1 ≤ 60 by omega) hu
  have m : Val.str (nm t) ∈ nmL js ↔ t ∈ js := by
    unfold nmL
    rw [List.mem_map]
    refine ⟨fun ⟨j, hj, q⟩ => ?_, fun hj => ⟨t, hj, rfl⟩⟩
    injection q with q
    rw [← nm_inj (h j hj) ht q]
    exact hj
  rw [m, hb] at e
  have : c = b := by
    cases b with
    | true => exact e.mpr (by decide)
    | false =>
      cases c with
      | true => exact absurd rfl (e.mp rfl)
      | false => rfl
  rw [← this]
  exact hc
theorem cmp_nil0 {X : Cx} {M : Mem} (hu : X.A.units + 64 < cLine) : Cmp X .NotEq M (.lst []) (.lst []) false := by
  obtain ⟨b, c, e⟩ := cp_neL0 (X := X) (M := M) (ns := []) (.self (.lst [])) hu
  cases b with
  | true => exact absurd rfl (e.mp rfl)
  | false => exact c
def aLaw8 : ASp := fun ds M R => ∃ ns : List Int, ds = [.lst (ns.map .int)] ∧ ns.length ≤ 63 ∧ R (.bl true) M
theorem b_law (B : Bt mg) (G : GrX K mg CG) (MG : Mkg P w K mg base C CG) (GST : GSta7 P w K mg base) (GPR : GPrt7 P w K mg base) (GO : GOf7 P w K mg base) (GD : GDr7 P w K mg base) (GS : GSch7 P w K mg base C) (GI : GIts7 P w K mg base) (GF : GFrz7 P w K mg base) (GL : GGl8 P w K mg base C CG) (GR : GRej8 P w K mg base C CG) : BodyOk P w K mg base 11 f n_law "law" (defScope s_law) (defBody s_law) aLaw8 := by
  rintro cdv A outer s0 H E hr ds M R ⟨ns, rfl, hl, hp⟩
  have hu := hr.u64
  refine as_cons (as_forW PassesOwn.never rfl (aj_range3 B.range (aA.val (avs_cons i_ (avs_cons (av_max2 B.max rfl i_ (av_min2 B.min rfl (av_lenSv B.len (v_ 0) .l) i_)) (avs_cons i_ avs_nil))) ⟨_, _, _, rfl, ⟨by decide, by decide, by omega, by omega, by omega, by omega⟩, ?_⟩)))
  refine ⟨fun t Γ M' => M' = M ∧ Γ = [some (.lst (ns.map .int)), none, none, none, none, none, none, none, none, none], ⟨_, _, ⟨rfl, rfl⟩, (by repeat' first | exact le_nil | refine le_skip ?_ | refine le_keep rfl ?_), (by repeat' first | exact List.Sublist.refl _ | exact List.sublist_append_right _ _ | apply List.Sublist.cons₂ | apply List.Sublist.cons)⟩, ?_, ?_⟩
  · rintro t Γ M' ht ⟨rfl, rfl⟩
    have ht2 := rgN_lt (by decide) ht
    dsimp only
    rw [show (0 : Int) + (t : Int) * 9 = ((t * 9 : Nat) : Int) by omega]
    refine ag_name 1 q_law.nd ?_
    refine as_cons (as_set 2 q_law.nd (ae_g GST hr (by decide) (aa_cons ((v_ 0).val (aa_cons ((v_ 1).val (aa_nil (ak_nil ⟨rfl, ns, t * 9, rfl, by omega, by omega, fun p => ?_⟩))))))))
    refine as_cons (as_set 3 q_law.nd (ae_g GPR hr (by decide) (aa_cons ((v_ 2).val (aa_nil (ak_nil ⟨rfl, p, 0, rfl, rfl, fun a s l hp7 => ?_⟩))))))
    refine as_cons (as_set 4 q_law.nd (ae_g GO hr (by decide) (aa_cons ((v_ 2).val (aa_cons (ae_lst (aa_cons (i_.val (aa_cons (i_.val (aa_cons (ae_dr7 GD hr (by decide) (v_ 2) i_ (j := 0) rfl (by decide) (by decide) fun x x0 x1 => aa_cons (ae_dr7 GD hr (by decide) (v_ 2) i_ (j := 0) rfl (by decide) (by decide) fun y y0 y1 => aa_nil ⟨szb, aa_nil (ak_nil ⟨rfl, p, 0, _, rfl, rfl, Nat.le_of_ble_eq_true rfl, Nat.le_of_ble_eq_true rfl, fun d hd => ?_⟩)⟩)))))))))))))
    obtain ⟨n, rfl, n0, n9⟩ : ∃ n : Int, d = .int n ∧ 0 ≤ n ∧ n ≤ 1000000000 := by
      rcases List.mem_cons.mp hd with rfl | hd
      · exact ⟨0, rfl, by decide, by decide⟩
      rcases List.mem_cons.mp hd with rfl | hd
      · exact ⟨1, rfl, by decide, by decide⟩
      rcases List.mem_cons.mp hd with rfl | hd
      · exact ⟨x, rfl, x0, by omega⟩
      rw [List.mem_singleton.mp hd]
      exact ⟨y, rfl, y0, by omega⟩
    have a2 := hp7.a2
    have a9 := hp7.a9
    obtain ⟨S, hS⟩ : ∃ S : Sc, S = ⟨a, nf s, nf l⟩ := ⟨_, rfl⟩
    have gS : GoodS S := by rw [hS]; exact ga7 hp7
    have sa : S.a = a := by rw [hS]
    have ss : item S.sp = item s := by rw [hS]; exact in7 hp7.fs
    have sl : item S.lv = item l := by rw [hS]; exact in7 hp7.fl
    refine as_cons (as_set 5 q_law.nd (ae_growthL G MG hr (by decide) (ae_g GS hr (by decide) (aa_cons ((v_ 3).val (aa_nil (ak_nil ⟨rfl, a, s, l, rfl, hp7, (v_ 4).val ⟨S, n, by rw [hS], rfl, n0, fun g q => ?_⟩⟩)))))))
    obtain ⟨js, hjs⟩ : ∃ js, js = freL a.toNat (item s) (item l) n := ⟨_, rfl⟩
    have F := freL_fr (k := a.toNat) (s := item s) (l := item l) (n := n)
    rw [← hjs] at F
    have l24 : (nmL (List.range 24)).length = 24 := by rw [nmL_len, List.length_range]
    have g24 : ∀ t, t < 24 → (List.range 24).getD t 0 = t := fun t ht => by rw [List.getD_eq_getElem?_getD, List.getElem?_range ht]; rfl
    refine as_cons (as_set 6 q_law.nd (ae_lcF [("_law_item", 7)] (fun t => .str (nm t)) (fun t => !frz a.toNat (item s) (item l) n (jb t) (ji t)) rfl q_law.nd (blkOk_by (N := n_law) (sc := defScope s_law) (by decide +kernel)) (ai_lst (xs := nmL (List.range 24)) (ae_g0 GI hr (by decide) (ak_nil ⟨rfl, rfl, rfl, rfl⟩))) ?_ (by omega) ?_))
    · intro t acc D ht s1 H1 C1 cl fp
      rw [l24] at ht
      rw [nmL_get (by rw [List.length_range]; exact ht), g24 t ht]
      refine agw_name 7 q_law.nd fun s1 H1 C1 cl fp => ⟨at_not (at_val (ae_g GF hr (by decide) (aa_cons ((v_ 3).val (aa_cons ((v_ 4).val (aa_cons ((v_ 7).val (aa_nil (ak_nil ⟨rfl, a, s, l, n, nm t, jb t, ji t, rfl, a2, a9, hp7.fs, hp7.fl, kw24 ht, _, rfl, rfl, rfl⟩)))))))))), fun _ => (v_ 7).val ⟨rfl, rfl⟩⟩
    rw [l24]
    have ej : (((List.range 24).filter fun t => !frz a.toNat (item s) (item l) n (jb t) (ji t)).map fun t => Val.str (nm t)) = nmL js := by rw [hjs]; rfl
    rw [ej]
    change aSs _ _ (List.set _ _ (some (Val.lst (nmL js)))) ((q, .lst []) :: (g, .ins CG (grF C S n n q)) :: (p, st7 p) :: M') _
    refine as_cons (as_forW PassesOwn.never rfl (aj_range1 B.range (i_.val ⟨_, rfl, by decide, by decide, ?_⟩)))
    refine ⟨fun u Γ M2 => M2 = (q, .lst []) :: (g, .ins CG (grF C S n n q)) :: (p, st7 p) :: M' ∧ Γ = [some (.lst (ns.map .int)), some (.int ((t * 9 : Nat) : Int)), some (.ptr p), some (ptV a s l), some (.int n), some (.ptr g), some (.lst (nmL js)), none, none, none], ⟨_, _, ⟨rfl, rfl⟩, (by repeat' first | exact le_nil | refine le_skip ?_ | refine le_keep rfl ?_), (by repeat' first | exact List.Sublist.refl _ | exact List.sublist_append_right _ _ | apply List.Sublist.cons₂ | apply List.Sublist.cons)⟩, ?_, ?_⟩
    · rintro u Γ M2 hu2 ⟨rfl, rfl⟩
      refine ag_name 8 q_law.nd ?_
      refine as_cons (as_set 7 q_law.nd (ae_ifp (tp_cmp (v_ 6) (av_lst avs_nil szb) (cmp_nmE F.lt hu)) (fun c => ?_) (fun c => n_.val ?_)))
      · have jp : 0 < js.length := List.length_pos_iff.mpr c
        refine ae_g GO hr (by decide) (aa_cons ((v_ 2).val (aa_cons ((v_ 6).val (aa_nil (ak_nil ⟨rfl, p, 2, _, rfl, rfl, by rw [nmL_len]; exact jp, by rw [nmL_len]; have := F.len; omega, fun d hd => ?_⟩))))))
        obtain ⟨j, hj, rfl⟩ := List.mem_map.mp hd
        have h24 := F.lt j hj
        refine as_one (as_if (at_w (aw_and (at_cmp (v_ 7) n_ cmp_notN ⟨fun _ => aw_and1 (at_not (at_val (ae_g GL hr (by decide) (aa_cons ((v_ 2).val (aa_cons ((v_ 5).val (aa_cons ((v_ 3).val (aa_cons ((v_ 7).val (aa_nil (ak_nil ⟨rfl, p, g, q, 2, 1, 0, a, s, l, S, n, n, j, rfl, hS, rfl, rfl, rfl, hp7, n0, h24, (F.mem j h24).mp hj, true, rfl, nft, fun _ => as_nil ⟨_, _, ⟨rfl, rfl⟩, (by repeat' first | exact le_nil | refine le_skip ?_ | refine le_keep rfl ?_), (by repeat' first | exact List.Sublist.refl _ | exact List.sublist_append_right _ _ | apply List.Sublist.cons₂ | apply List.Sublist.cons)⟩⟩))))))))))))), fun z => ?_⟩))))
        exact Bool.noConfusion (show true = false from z)
      · refine as_one (as_if (at_w (aw_and (at_cmp (v_ 7) n_ cmp_notN ⟨fun z => ?_, fun _ => ⟨nft, fun _ => as_nil ⟨_, _, ⟨rfl, rfl⟩, (by repeat' first | exact le_nil | refine le_skip ?_ | refine le_keep rfl ?_), (by repeat' first | exact List.Sublist.refl _ | exact List.sublist_append_right _ _ | apply List.Sublist.cons₂ | apply List.Sublist.cons)⟩⟩⟩))))
        exact Bool.noConfusion (show false = true from z)
    rintro Γ M2 ⟨rfl, rfl⟩
    obtain ⟨hs, hhs⟩ : ∃ hs, hs = (List.range 24).filter fun t => frz a.toNat (item s) (item l) n (jb t) (ji t) := ⟨_, rfl⟩
    have hlen : hs.length ≤ 24 := by
      rw [hhs]
      refine Nat.le_trans (List.length_filter_le _ _) ?_
      rw [List.length_range]
      exact Nat.le_refl _
    refine as_lcF 9 [("_law_item", 7)] (fun t => .str (nm t)) (fun t => frz a.toNat (item s) (item l) n (jb t) (ji t)) rfl q_law.nd (blkOk_by (N := n_law) (sc := defScope s_law) (by decide +kernel)) (ai_lst (xs := nmL (List.range 24)) (ae_g0 GI hr (by decide) (ak_nil ⟨rfl, rfl, rfl, rfl⟩))) ?_ (by omega) ?_
    · intro t acc D ht s1 H1 C1 cl fp
      rw [l24] at ht
      rw [nmL_get (by rw [List.length_range]; exact ht), g24 t ht]
      refine agw_name 7 q_law.nd fun s1 H1 C1 cl fp => ⟨at_cmp (v_ 7) (v_ 6) (cmp_nmN ht F.lt (F.mem t ht) hr.u65) ⟨rfl, rfl⟩, fun _ => (v_ 7).val ⟨rfl, rfl⟩⟩
    rw [l24]
    have eh : (((List.range 24).filter fun t => frz a.toNat (item s) (item l) n (jb t) (ji t)).map fun t => Val.str (nm t)) = nmL hs := by rw [hhs]; rfl
    rw [eh]
    change aSs _ _ (List.set _ _ (some (Val.lst (nmL hs)))) ((q, .lst []) :: (g, .ins CG (grF C S n n q)) :: (p, st7 p) :: M') _
    refine as_one (as_if (at_cmpM (ae_lcF [("_law_item", 7)] (fun t => .str (nm (hs.getD t 0))) (fun _ => false) rfl q_law.nd (blkOk_by (N := n_law) (sc := defScope s_law) (by decide +kernel)) (ai_lst (xs := nmL hs) ((v_ 9).val ⟨rfl, rfl⟩)) ?_ (by rw [nmL_len]; omega) ?_)))
    · intro t acc D ht s1 H1 C1 cl fp
      rw [nmL_len] at ht
      rw [nmL_get ht]
      have hm : hs.getD t 0 ∈ hs := js_get ht
      generalize hs.getD t 0 = j at *
      rw [hhs] at hm
      obtain ⟨hm1, hm2⟩ := List.mem_filter.mp hm
      exact agw_name 7 q_law.nd fun s1 H1 C1 cl fp => ⟨at_not (at_val (ae_g GR hr (by decide) (aa_cons ((v_ 5).val (aa_cons ((v_ 7).val (aa_nil (ak_nil ⟨rfl, 2, g, q, S, n, n, j, rfl, rfl, gS, List.mem_range.mp hm1, by rw [sa, ss, sl]; exact hm2, true, rfl, rfl, rfl⟩)))))))), fun z => Bool.noConfusion z⟩
    · rw [show ((List.range (nmL hs).length).filter fun _ => false) = [] from List.filter_eq_nil_iff.mpr fun _ _ => Bool.false_ne_true]
      exact (av_lst avs_nil szb).val ⟨false, cmp_nil0 hu, nft, fun _ => as_nil ⟨_, _, ⟨rfl, rfl⟩, (by repeat' first | exact le_nil | refine le_skip ?_ | refine le_keep rfl ?_), (by repeat' first | exact List.Sublist.refl _ | exact List.sublist_append_right _ _ | apply List.Sublist.cons₂ | apply List.Sublist.cons)⟩⟩
  · rintro Γ M' ⟨rfl, rfl⟩
    exact as_one (as_ret (ae_bl (.ok hp)))
end
end K54
namespace K54
open PySem L2 Ab Sm
theorem gd_pos {P : Program} {w : World} {K : PySem.W.Frag} {mg : Str → Option Value} {base : Heap} {x x' qual : Str} {params : Arguments} {body : List Stmt} {sc : Scope} {kws : List (Str × V)} {N ps : List Str} {k : Nat} {s0 : ASp} {f : Addr} {fd : FuncData} (F : FunD K x qual params body sc [] kws f fd) (S : FnScope N ps sc)
    (h : ∀ (kV doc pm : Value) (an : Option Addr) (cdv ct : Value) (us : List Value), us.length = ps.length → bindArgs (PySem.W.fnOf x qual params body sc .none kV doc pm an cdv ct) ⟨us, []⟩ = pure (ps.zip us))
    (len : ∀ ds M R, s0 ds M R → ds.length = ps.length) (hb : BodyOk P w K mg base k f N qual sc body s0) (hm : mg x' = some (.ref f)) : Gd P w K mg base (k + 1) x' [] (fun ds _ => s0 ds) := ⟨⟨f, fnx_pos' F S h len hb, hm, F.kp⟩⟩
theorem allX {l : PySem.W.OpenLaw} {w : World} {K : PySem.W.Frag} {h : Heap} {mg : Str → Option Value} {fa : Addr} (X : K.In h) (G : h.Ns mainGlobals mg) (hfa : mg "law" = some (.ref fa))
    {tt0 : Tok}
    {tt1 : Tok}
    {tt2 : Tok}
    {tt3 : Tok}
    {C : Addr}
    {D0 : Addr} {w1 w2 : Value}
    {fx1 : Addr} {odx1 anx1 : Option Addr} {slx1 : Array (Option Value)} {ocx1 dcx1 pmx1 cdx1 ctx1 : Value}
    {T2 : Addr} {tc2 : Value} {td2 : Option Addr} {tsl2 : Array (Option Value)} {k02 : Nat}
    {fx2 : Addr} {odx2 anx2 : Option Addr} {slx2 : Array (Option Value)} {ocx2 kVx2 dcx2 pmx2 cdx2 ctx2 : Value}
    {fx3 : Addr} {odx3 anx3 : Option Addr} {slx3 : Array (Option Value)} {ocx3 kVx3 dcx3 pmx3 cdx3 ctx3 : Value}
    {fx4 : Addr} {odx4 anx4 : Option Addr} {slx4 : Array (Option Value)} {ocx4 kVx4 dcx4 pmx4 cdx4 ctx4 : Value}
    {fx5 : Addr} {odx5 anx5 : Option Addr} {slx5 : Array (Option Value)} {ocx5 kVx5 dcx5 pmx5 cdx5 ctx5 : Value}
    {fx6 : Addr} {odx6 anx6 : Option Addr} {slx6 : Array (Option Value)} {ocx6 kVx6 dcx6 pmx6 cdx6 ctx6 : Value}
    {fx7 : Addr} {odx7 anx7 : Option Addr} {slx7 : Array (Option Value)} {ocx7 kVx7 dcx7 pmx7 cdx7 ctx7 : Value}
    {fx8 : Addr} {odx8 anx8 : Option Addr} {slx8 : Array (Option Value)} {ocx8 kVx8 dcx8 pmx8 cdx8 ctx8 : Value}
    {fx9 : Addr} {odx9 anx9 : Option Addr} {slx9 : Array (Option Value)} {ocx9 kVx9 dcx9 pmx9 cdx9 ctx9 : Value}
    {fx10 : Addr} {odx10 anx10 : Option Addr} {slx10 : Array (Option Value)} {ocx10 kVx10 dcx10 pmx10 cdx10 ctx10 : Value}
    {pSx10 : Addr} {rSx10 : List Value}
    {fx11 : Addr} {odx11 anx11 : Option Addr} {slx11 : Array (Option Value)} {ocx11 kVx11 dcx11 pmx11 cdx11 ctx11 : Value}
    {fx12 : Addr} {odx12 anx12 : Option Addr} {slx12 : Array (Option Value)} {ocx12 kVx12 dcx12 pmx12 cdx12 ctx12 : Value}
    {fx13 : Addr} {odx13 anx13 : Option Addr} {slx13 : Array (Option Value)} {ocx13 kVx13 dcx13 pmx13 cdx13 ctx13 : Value}
    {fx14 : Addr} {odx14 anx14 : Option Addr} {slx14 : Array (Option Value)} {ocx14 kVx14 dcx14 pmx14 cdx14 ctx14 : Value}
    {fx15 : Addr} {odx15 anx15 : Option Addr} {slx15 : Array (Option Value)} {ocx15 kVx15 dcx15 pmx15 cdx15 ctx15 : Value}
    {fx16 : Addr} {odx16 anx16 : Option Addr} {slx16 : Array (Option Value)} {ocx16 kVx16 dcx16 pmx16 cdx16 ctx16 : Value}
    {pNx16 : Addr} {rNx16 : List Value}
    {fx17 : Addr} {odx17 anx17 : Option Addr} {slx17 : Array (Option Value)} {ocx17 kVx17 dcx17 pmx17 cdx17 ctx17 : Value}
    {pNx17 : Addr} {rNx17 : List Value}
    {fx18 : Addr} {odx18 anx18 : Option Addr} {slx18 : Array (Option Value)} {ocx18 kVx18 dcx18 pmx18 cdx18 ctx18 : Value}
    {pNx18 : Addr} {rNx18 : List Value}
    {BScheduleError : Addr}
    {EInvalidNumber : Addr}
    {fx19 : Addr} {odx19 anx19 : Option Addr} {slx19 : Array (Option Value)} {ocx19 kVx19 dcx19 pmx19 cdx19 ctx19 : Value}
    {EInvalidSchedule : Addr}
    {fx20 : Addr} {odx20 anx20 : Option Addr} {slx20 : Array (Option Value)} {ocx20 kVx20 dcx20 pmx20 cdx20 ctx20 : Value}
    {fx21 : Addr} {odx21 anx21 : Option Addr} {slx21 : Array (Option Value)} {ocx21 kVx21 dcx21 pmx21 cdx21 ctx21 : Value}
    {fx22 : Addr} {odx22 anx22 : Option Addr} {slx22 : Array (Option Value)} {ocx22 kVx22 dcx22 pmx22 cdx22 ctx22 : Value}
    {fx23 : Addr} {odx23 anx23 : Option Addr} {slx23 : Array (Option Value)} {ocx23 kVx23 dcx23 pmx23 cdx23 ctx23 : Value}
    {C2 : Addr}
    {tkmxC2 : Tok}
    {fx24 : Addr} {odx24 anx24 : Option Addr} {slx24 : Array (Option Value)} {ocx24 kVx24 dcx24 pmx24 cdx24 ctx24 : Value}
    {fx25 : Addr} {odx25 anx25 : Option Addr} {slx25 : Array (Option Value)} {ocx25 kVx25 dcx25 pmx25 cdx25 ctx25 : Value}
    {fx26 : Addr} {odx26 anx26 : Option Addr} {slx26 : Array (Option Value)} {ocx26 kVx26 dcx26 pmx26 cdx26 ctx26 : Value}
    {fx27 : Addr} {odx27 anx27 : Option Addr} {slx27 : Array (Option Value)} {ocx27 kVx27 dcx27 pmx27 cdx27 ctx27 : Value}
    {fx28 : Addr} {odx28 anx28 : Option Addr} {slx28 : Array (Option Value)} {ocx28 kVx28 dcx28 pmx28 cdx28 ctx28 : Value}
    {fx29 : Addr} {odx29 anx29 : Option Addr} {slx29 : Array (Option Value)} {ocx29 kVx29 dcx29 pmx29 cdx29 ctx29 : Value}
    {fx30 : Addr} {odx30 anx30 : Option Addr} {slx30 : Array (Option Value)} {ocx30 kVx30 dcx30 pmx30 cdx30 ctx30 : Value}
    {fx31 : Addr} {odx31 anx31 : Option Addr} {slx31 : Array (Option Value)} {ocx31 kVx31 dcx31 pmx31 cdx31 ctx31 : Value}
    {Dc : Addr} {w3 : Value}
    {fx32 : Addr} {odx32 anx32 : Option Addr} {slx32 : Array (Option Value)} {ocx32 dcx32 pmx32 cdx32 ctx32 : Value}
    {CN : Addr} {tmN : Tok}
    {fx33 : Addr} {odx33 anx33 : Option Addr} {slx33 : Array (Option Value)} {ocx33 kVx33 dcx33 pmx33 cdx33 ctx33 : Value}
    {fx34 : Addr} {odx34 anx34 : Option Addr} {slx34 : Array (Option Value)} {ocx34 kVx34 dcx34 pmx34 cdx34 ctx34 : Value}
    {fx35 : Addr} {odx35 anx35 : Option Addr} {slx35 : Array (Option Value)} {ocx35 kVx35 dcx35 pmx35 cdx35 ctx35 : Value}
    {fx36 : Addr} {odx36 anx36 : Option Addr} {slx36 : Array (Option Value)} {ocx36 kVx36 dcx36 pmx36 cdx36 ctx36 : Value}
    {fx37 : Addr} {odx37 anx37 : Option Addr} {slx37 : Array (Option Value)} {ocx37 kVx37 dcx37 pmx37 cdx37 ctx37 : Value}
    {fx38 : Addr} {odx38 anx38 : Option Addr} {slx38 : Array (Option Value)} {ocx38 kVx38 dcx38 pmx38 cdx38 ctx38 : Value}
    {T39 : Addr} {tc39 : Value} {td39 : Option Addr} {tsl39 : Array (Option Value)} {k039 : Nat} {tk39 : Tok}
    {fx39 : Addr} {odx39 anx39 : Option Addr} {slx39 : Array (Option Value)} {ocx39 kVx39 dcx39 pmx39 cdx39 ctx39 : Value}
    {fx40 : Addr} {odx40 anx40 : Option Addr} {slx40 : Array (Option Value)} {ocx40 kVx40 dcx40 pmx40 cdx40 ctx40 : Value}
    {fx41 : Addr} {odx41 anx41 : Option Addr} {slx41 : Array (Option Value)} {ocx41 kVx41 dcx41 pmx41 cdx41 ctx41 : Value}
    {fx42 : Addr} {odx42 anx42 : Option Addr} {slx42 : Array (Option Value)} {ocx42 kVx42 dcx42 pmx42 cdx42 ctx42 : Value}
    {CG : Addr}
    {wT1 : Addr} {wo1 : Option Addr} {wn1 : Nat} {ws1 : Array (Option Value)} {ik0 ik1 ik2 ik3 ik4 ik5 ik6 ik7 ik8 ik9 ik10 ik11 ik12 ik13 ik14 ik15 ik16 ik17 ik18 ik19 ik20 ik21 ik22 ik23 : Tok}
    {fx43 : Addr} {odx43 anx43 : Option Addr} {slx43 : Array (Option Value)} {ocx43 kVx43 dcx43 pmx43 cdx43 ctx43 : Value}
    {fx44 : Addr} {odx44 anx44 : Option Addr} {slx44 : Array (Option Value)} {ocx44 kVx44 dcx44 pmx44 cdx44 ctx44 : Value}
    {Dg : Addr} {wg : Value}
    {fx45 : Addr} {odx45 anx45 : Option Addr} {slx45 : Array (Option Value)} {ocx45 dcx45 pmx45 cdx45 ctx45 : Value}
    {tmL : Tok}
    {fx46 : Addr} {odx46 anx46 : Option Addr} {slx46 : Array (Option Value)} {ocx46 kVx46 dcx46 pmx46 cdx46 ctx46 : Value}
    {fx47 : Addr} {odx47 anx47 : Option Addr} {slx47 : Array (Option Value)} {ocx47 kVx47 dcx47 pmx47 cdx47 ctx47 : Value}
    {fx48 : Addr} {odx48 anx48 : Option Addr} {slx48 : Array (Option Value)} {ocx48 kVx48 dcx48 pmx48 cdx48 ctx48 : Value}
    {pSx48 : Addr} {rSx48 : List Value}
    {fx49 : Addr} {odx49 anx49 : Option Addr} {slx49 : Array (Option Value)} {ocx49 kVx49 dcx49 pmx49 cdx49 ctx49 : Value}
    {BStateError : Addr}
    {EFrozen : Addr}
    {fx50 : Addr} {odx50 anx50 : Option Addr} {slx50 : Array (Option Value)} {ocx50 kVx50 dcx50 pmx50 cdx50 ctx50 : Value}
    {fx51 : Addr} {odx51 anx51 : Option Addr} {slx51 : Array (Option Value)} {ocx51 kVx51 dcx51 pmx51 cdx51 ctx51 : Value}
    {fx52 : Addr} {odx52 anx52 : Option Addr} {slx52 : Array (Option Value)} {ocx52 kVx52 dcx52 pmx52 cdx52 ctx52 : Value}
    {fx53 : Addr} {odx53 anx53 : Option Addr} {slx53 : Array (Option Value)} {ocx53 kVx53 dcx53 pmx53 cdx53 ctx53 : Value}
    {fx54 : Addr} {odx54 anx54 : Option Addr} {slx54 : Array (Option Value)} {ocx54 kVx54 dcx54 pmx54 cdx54 ctx54 : Value}
    {fx55 : Addr} {odx55 anx55 : Option Addr} {slx55 : Array (Option Value)} {ocx55 kVx55 dcx55 pmx55 cdx55 ctx55 : Value}
    {fx56 : Addr} {odx56 anx56 : Option Addr} {slx56 : Array (Option Value)} {ocx56 kVx56 dcx56 pmx56 cdx56 ctx56 : Value}
    {pNx56 : Addr} {rNx56 : List Value}
    {fx57 : Addr} {odx57 anx57 : Option Addr} {slx57 : Array (Option Value)} {ocx57 kVx57 dcx57 pmx57 cdx57 ctx57 : Value}
    {pNx57 : Addr} {rNx57 : List Value}
    {fx58 : Addr} {odx58 anx58 : Option Addr} {slx58 : Array (Option Value)} {ocx58 kVx58 dcx58 pmx58 cdx58 ctx58 : Value}
    {fx59 : Addr} {odx59 anx59 : Option Addr} {slx59 : Array (Option Value)} {ocx59 kVx59 dcx59 pmx59 cdx59 ctx59 : Value}
    {fx60 : Addr} {odx60 anx60 : Option Addr} {slx60 : Array (Option Value)} {ocx60 kVx60 dcx60 pmx60 cdx60 ctx60 : Value}
    {fx61 : Addr} {odx61 anx61 : Option Addr} {slx61 : Array (Option Value)} {ocx61 kVx61 dcx61 pmx61 cdx61 ctx61 : Value}
    {fx62 : Addr} {odx62 anx62 : Option Addr} {slx62 : Array (Option Value)} {ocx62 kVx62 dcx62 pmx62 cdx62 ctx62 : Value}
    {fx63 : Addr} {odx63 anx63 : Option Addr} {slx63 : Array (Option Value)} {ocx63 kVx63 dcx63 pmx63 cdx63 ctx63 : Value}
    {fx64 : Addr} {odx64 anx64 : Option Addr} {slx64 : Array (Option Value)} {ocx64 kVx64 dcx64 pmx64 cdx64 ctx64 : Value}
    {fx65 : Addr} {odx65 anx65 : Option Addr} {slx65 : Array (Option Value)} {ocx65 kVx65 dcx65 pmx65 cdx65 ctx65 : Value}
    {fx66 : Addr} {odx66 anx66 : Option Addr} {slx66 : Array (Option Value)} {ocx66 kVx66 dcx66 pmx66 cdx66 ctx66 : Value}
    {fx67 : Addr} {odx67 anx67 : Option Addr} {slx67 : Array (Option Value)} {ocx67 kVx67 dcx67 pmx67 cdx67 ctx67 : Value}
    {fx68 : Addr} {odx68 anx68 : Option Addr} {slx68 : Array (Option Value)} {ocx68 kVx68 dcx68 pmx68 cdx68 ctx68 : Value}
    {fx69 : Addr} {odx69 anx69 : Option Addr} {slx69 : Array (Option Value)} {ocx69 kVx69 dcx69 pmx69 cdx69 ctx69 : Value}
    {fx70 : Addr} {odx70 anx70 : Option Addr} {slx70 : Array (Option Value)} {ocx70 kVx70 dcx70 pmx70 cdx70 ctx70 : Value}
    {fx71 : Addr} {odx71 anx71 : Option Addr} {slx71 : Array (Option Value)} {ocx71 kVx71 dcx71 pmx71 cdx71 ctx71 : Value}
    {fx72 : Addr} {odx72 anx72 : Option Addr} {slx72 : Array (Option Value)} {ocx72 kVx72 dcx72 pmx72 cdx72 ctx72 : Value}
    {fx73 : Addr} {odx73 anx73 : Option Addr} {slx73 : Array (Option Value)} {ocx73 kVx73 dcx73 pmx73 cdx73 ctx73 : Value}
    {fx74 : Addr} {odx74 anx74 : Option Addr} {slx74 : Array (Option Value)} {ocx74 kVx74 dcx74 pmx74 cdx74 ctx74 : Value}
    {fx75 : Addr} {odx75 anx75 : Option Addr} {slx75 : Array (Option Value)} {ocx75 kVx75 dcx75 pmx75 cdx75 ctx75 : Value}
    {fx76 : Addr} {odx76 anx76 : Option Addr} {slx76 : Array (Option Value)} {ocx76 kVx76 dcx76 pmx76 cdx76 ctx76 : Value}
    (u0 : PySem.W.nsIn K mainGlobals "FRONT_LIMIT" = some (some (.int 12 tt0)))
    (u1 : PySem.W.nsIn K mainGlobals "LOOP_LIMIT" = some (some (.int 6 tt1)))
    (u2 : PySem.W.nsIn K mainGlobals "LABEL_LIMIT" = some (some (.int 1000000 tt2)))
    (u3 : PySem.W.nsIn K mainGlobals "ARITY_LIMIT" = some (some (.int 9 tt3)))
    (aC : PySem.W.nsIn K mainGlobals "Schedule" = some (some (.ref C)))
    (pgC : PySem.W.plainGet K C Str.empty = true)
    (hdC : PySem.W.hasDictIn K C = true)
    (poC : PySem.W.plainOver K C = true)
    (saC : PySem.W.findIn K (.ref C) "__setattr__" = some (some (.builtin "object.__setattr__")))
    (mkC : PySem.W.makesIn K C = true)
    (kcC : PySem.W.keepIn K (.ref C) = true)
    (nC0 : PySem.W.findIn K (.ref C) "own_arity" = some none)
    (nC1 : PySem.W.findIn K (.ref C) "own_spine" = some none)
    (nC2 : PySem.W.findIn K (.ref C) "own_levels" = some none)
    (e1C : PySem.W.findIn K (.ref C) "__class__" = some (some (.builtin "object.__class__")))
    (e2C : PySem.W.specialIn K (.builtin "object.__class__") "__get__" = some (some (.builtin "getset_descriptor.__get__")))
    (e3C : PySem.W.takesIn K (.builtin "object.__class__") = some true)
    (e4C : PySem.W.mroIn K C (.type "object") = some true)
    (e6C : PySem.W.findIn K (.ref C) "__ne__" = some (some (.builtin "object.__ne__")))
    (e7C : PySem.W.subIn K (.ref C) (.type "object") = some true)
    (ax1 : PySem.W.nsIn K mainGlobals "is_integer_schedules" = some (some (.ref fx1)))
    (lx1 : K.lookup fx1 = some ⟨ocx1, odx1, .func (PySem.W.fnOf "is_integer" "is_integer" (defArgs s_is_integer) (defBody s_is_integer) (defScope s_is_integer) .none (.ref D0) dcx1 pmx1 anx1 cdx1 ctx1), slx1⟩)
    (cx1 : PySem.W.codeIn K cdx1 "is_integer" = true)
    (kx1 : PySem.W.keepIn K (.ref fx1) = true)
    (d1 : PySem.W.nsIn K D0 "low" = some (some w1))
    (d2 : PySem.W.nsIn K D0 "high" = some (some w2))
    (ax2 : PySem.W.nsIn K mainGlobals "check_integer" = some (some (.ref fx2)))
    (lx2 : K.lookup fx2 = some ⟨ocx2, odx2, .func (PySem.W.fnOf "check_integer" "check_integer" (defArgs s_check_integer) (defBody s_check_integer) (defScope s_check_integer) (.ref T2) kVx2 dcx2 pmx2 anx2 cdx2 ctx2), slx2⟩)
    (cx2 : PySem.W.codeIn K cdx2 "check_integer" = true)
    (kx2 : PySem.W.keepIn K (.ref fx2) = true)
    (dx2 : K.lookup T2 = some ⟨tc2, td2, .seq #[.none] k02, tsl2⟩)
    (ax3 : PySem.W.nsIn K mainGlobals "are_items" = some (some (.ref fx3)))
    (lx3 : K.lookup fx3 = some ⟨ocx3, odx3, .func (PySem.W.fnOf "are_items" "are_items" (defArgs s_are_items) (defBody s_are_items) (defScope s_are_items) .none kVx3 dcx3 pmx3 anx3 cdx3 ctx3), slx3⟩)
    (cx3 : PySem.W.codeIn K cdx3 "are_items" = true)
    (kx3 : PySem.W.keepIn K (.ref fx3) = true)
    (ax4 : PySem.W.nsIn K mainGlobals "shortest_loop" = some (some (.ref fx4)))
    (lx4 : K.lookup fx4 = some ⟨ocx4, odx4, .func (PySem.W.fnOf "shortest_loop" "shortest_loop" (defArgs s_shortest_loop) (defBody s_shortest_loop) (defScope s_shortest_loop) .none kVx4 dcx4 pmx4 anx4 cdx4 ctx4), slx4⟩)
    (cx4 : PySem.W.codeIn K cdx4 "shortest_loop" = true)
    (kx4 : PySem.W.keepIn K (.ref fx4) = true)
    (ax5 : PySem.W.nsIn K mainGlobals "normal_form" = some (some (.ref fx5)))
    (lx5 : K.lookup fx5 = some ⟨ocx5, odx5, .func (PySem.W.fnOf "normal_form" "normal_form" (defArgs s_normal_form) (defBody s_normal_form) (defScope s_normal_form) .none kVx5 dcx5 pmx5 anx5 cdx5 ctx5), slx5⟩)
    (cx5 : PySem.W.codeIn K cdx5 "normal_form" = true)
    (kx5 : PySem.W.keepIn K (.ref fx5) = true)
    (ax6 : PySem.W.nsIn K mainGlobals "stream_item" = some (some (.ref fx6)))
    (lx6 : K.lookup fx6 = some ⟨ocx6, odx6, .func (PySem.W.fnOf "stream_item" "stream_item" (defArgs s_stream_item) (defBody s_stream_item) (defScope s_stream_item) .none kVx6 dcx6 pmx6 anx6 cdx6 ctx6), slx6⟩)
    (cx6 : PySem.W.codeIn K cdx6 "stream_item" = true)
    (kx6 : PySem.W.keepIn K (.ref fx6) = true)
    (ax7 : PySem.W.nsIn K mainGlobals "stream_without" = some (some (.ref fx7)))
    (lx7 : K.lookup fx7 = some ⟨ocx7, odx7, .func (PySem.W.fnOf "stream_without" "stream_without" (defArgs s_stream_without) (defBody s_stream_without) (defScope s_stream_without) .none kVx7 dcx7 pmx7 anx7 cdx7 ctx7), slx7⟩)
    (cx7 : PySem.W.codeIn K cdx7 "stream_without" = true)
    (kx7 : PySem.W.keepIn K (.ref fx7) = true)
    (ax8 : PySem.W.nsIn K mainGlobals "with_front" = some (some (.ref fx8)))
    (lx8 : K.lookup fx8 = some ⟨ocx8, odx8, .func (PySem.W.fnOf "with_front" "with_front" (defArgs s_with_front) (defBody s_with_front) (defScope s_with_front) .none kVx8 dcx8 pmx8 anx8 cdx8 ctx8), slx8⟩)
    (cx8 : PySem.W.codeIn K cdx8 "with_front" = true)
    (kx8 : PySem.W.keepIn K (.ref fx8) = true)
    (ax9 : PySem.W.nsIn K mainGlobals "checked_stream" = some (some (.ref fx9)))
    (lx9 : K.lookup fx9 = some ⟨ocx9, odx9, .func (PySem.W.fnOf "checked_stream" "checked_stream" (defArgs s_checked_stream) (defBody s_checked_stream) (defScope s_checked_stream) .none kVx9 dcx9 pmx9 anx9 cdx9 ctx9), slx9⟩)
    (cx9 : PySem.W.codeIn K cdx9 "checked_stream" = true)
    (kx9 : PySem.W.keepIn K (.ref fx9) = true)
    (rd : PySem.W.readsIn K C (.type "type") = true)
    (ga : PySem.W.specialIn K (.ref C) "__getattribute__" = some (some (.builtin "type.__getattribute__")))
    (ax10 : PySem.W.findCls K (.ref C) (.type "type") "is_stream" = some (.get (.builtin "staticmethod.__get__") (.ref pSx10) .none (.ref C)))
    (bx10 : PySem.W.recIn K pSx10 "staticmethod" = some (.ref fx10 :: rSx10))
    (lx10 : K.lookup fx10 = some ⟨ocx10, odx10, .func (PySem.W.fnOf "is_stream" "Schedule.is_stream" (defArgs c_Schedule_is_stream) (defBody c_Schedule_is_stream) (defScope c_Schedule_is_stream) .none kVx10 dcx10 pmx10 anx10 cdx10 ctx10), slx10⟩)
    (cx10 : PySem.W.codeIn K cdx10 "Schedule.is_stream" = true)
    (kx10 : PySem.W.keepIn K (.ref fx10) = true)
    (ax11 : PySem.W.findIn K (.ref C) "__init__" = some (some (.ref fx11)))
    (ix11 : PySem.W.isFn K (.ref fx11) = true)
    (lx11 : K.lookup fx11 = some ⟨ocx11, odx11, .func (PySem.W.fnOf "__init__" "Schedule.__init__" (defArgs c_Schedule___init__) (defBody c_Schedule___init__) (defScope c_Schedule___init__) .none kVx11 dcx11 pmx11 anx11 cdx11 ctx11), slx11⟩)
    (cx11 : PySem.W.codeIn K cdx11 "Schedule.__init__" = true)
    (kx11 : PySem.W.keepIn K (.ref fx11) = true)
    (ax12 : PySem.W.nsIn K mainGlobals "made_schedule" = some (some (.ref fx12)))
    (lx12 : K.lookup fx12 = some ⟨ocx12, odx12, .func (PySem.W.fnOf "made_schedule" "made_schedule" (defArgs s_made_schedule) (defBody s_made_schedule) (defScope s_made_schedule) .none kVx12 dcx12 pmx12 anx12 cdx12 ctx12), slx12⟩)
    (cx12 : PySem.W.codeIn K cdx12 "made_schedule" = true)
    (kx12 : PySem.W.keepIn K (.ref fx12) = true)
    (ax13 : PySem.W.findIn K (.ref C) "spine_at" = some (some (.ref fx13)))
    (ix13 : PySem.W.isFn K (.ref fx13) = true)
    (lx13 : K.lookup fx13 = some ⟨ocx13, odx13, .func (PySem.W.fnOf "spine_at" "Schedule.spine_at" (defArgs c_Schedule_spine_at) (defBody c_Schedule_spine_at) (defScope c_Schedule_spine_at) .none kVx13 dcx13 pmx13 anx13 cdx13 ctx13), slx13⟩)
    (cx13 : PySem.W.codeIn K cdx13 "Schedule.spine_at" = true)
    (kx13 : PySem.W.keepIn K (.ref fx13) = true)
    (ax14 : PySem.W.findIn K (.ref C) "level_at" = some (some (.ref fx14)))
    (ix14 : PySem.W.isFn K (.ref fx14) = true)
    (lx14 : K.lookup fx14 = some ⟨ocx14, odx14, .func (PySem.W.fnOf "level_at" "Schedule.level_at" (defArgs c_Schedule_level_at) (defBody c_Schedule_level_at) (defScope c_Schedule_level_at) .none kVx14 dcx14 pmx14 anx14 cdx14 ctx14), slx14⟩)
    (cx14 : PySem.W.codeIn K cdx14 "Schedule.level_at" = true)
    (kx14 : PySem.W.keepIn K (.ref fx14) = true)
    (ax15 : PySem.W.findIn K (.ref C) "__eq__" = some (some (.ref fx15)))
    (ix15 : PySem.W.isFn K (.ref fx15) = true)
    (lx15 : K.lookup fx15 = some ⟨ocx15, odx15, .func (PySem.W.fnOf "__eq__" "Schedule.__eq__" (defArgs c_Schedule___eq__) (defBody c_Schedule___eq__) (defScope c_Schedule___eq__) .none kVx15 dcx15 pmx15 anx15 cdx15 ctx15), slx15⟩)
    (cx15 : PySem.W.codeIn K cdx15 "Schedule.__eq__" = true)
    (kx15 : PySem.W.keepIn K (.ref fx15) = true)
    (ax16 : PySem.W.findIn K (.ref C) "arity" = some (some (.ref pNx16)))
    (gx16 : PySem.W.specialIn K (.ref pNx16) "__get__" = some (some (.builtin "property.__get__")))
    (tx16 : PySem.W.takesIn K (.ref pNx16) = some true)
    (bx16 : PySem.W.recIn K pNx16 "property" = some (.ref fx16 :: rNx16))
    (lx16 : K.lookup fx16 = some ⟨ocx16, odx16, .func (PySem.W.fnOf "arity" "Schedule.arity" (defArgs c_Schedule_arity) (defBody c_Schedule_arity) (defScope c_Schedule_arity) .none kVx16 dcx16 pmx16 anx16 cdx16 ctx16), slx16⟩)
    (cx16 : PySem.W.codeIn K cdx16 "Schedule.arity" = true)
    (kx16 : PySem.W.keepIn K (.ref fx16) = true)
    (ax17 : PySem.W.findIn K (.ref C) "spine" = some (some (.ref pNx17)))
    (gx17 : PySem.W.specialIn K (.ref pNx17) "__get__" = some (some (.builtin "property.__get__")))
    (tx17 : PySem.W.takesIn K (.ref pNx17) = some true)
    (bx17 : PySem.W.recIn K pNx17 "property" = some (.ref fx17 :: rNx17))
    (lx17 : K.lookup fx17 = some ⟨ocx17, odx17, .func (PySem.W.fnOf "spine" "Schedule.spine" (defArgs c_Schedule_spine) (defBody c_Schedule_spine) (defScope c_Schedule_spine) .none kVx17 dcx17 pmx17 anx17 cdx17 ctx17), slx17⟩)
    (cx17 : PySem.W.codeIn K cdx17 "Schedule.spine" = true)
    (kx17 : PySem.W.keepIn K (.ref fx17) = true)
    (ax18 : PySem.W.findIn K (.ref C) "levels" = some (some (.ref pNx18)))
    (gx18 : PySem.W.specialIn K (.ref pNx18) "__get__" = some (some (.builtin "property.__get__")))
    (tx18 : PySem.W.takesIn K (.ref pNx18) = some true)
    (bx18 : PySem.W.recIn K pNx18 "property" = some (.ref fx18 :: rNx18))
    (lx18 : K.lookup fx18 = some ⟨ocx18, odx18, .func (PySem.W.fnOf "levels" "Schedule.levels" (defArgs c_Schedule_levels) (defBody c_Schedule_levels) (defScope c_Schedule_levels) .none kVx18 dcx18 pmx18 anx18 cdx18 ctx18), slx18⟩)
    (cx18 : PySem.W.codeIn K cdx18 "Schedule.levels" = true)
    (kx18 : PySem.W.keepIn K (.ref fx18) = true)
    (aBScheduleError : PySem.W.nsIn K mainGlobals "ScheduleError" = some (some (.ref BScheduleError)))
    (rBScheduleError : PySem.W.readsIn K BScheduleError (.type "type") = true)
    (gBScheduleError : PySem.W.specialIn K (.ref BScheduleError) "__getattribute__" = some (some (.builtin "type.__getattribute__")))
    (vBScheduleError : PySem.W.findCls K (.ref BScheduleError) (.type "type") "__init__" = some (.val (.builtin "ValueError.__init__")))
    (sBScheduleError : PySem.W.subIn K (.ref BScheduleError) (.type "BaseException") = some true)
    (hBScheduleError : PySem.W.hasDictIn K BScheduleError = true)
    (tBScheduleError : PySem.W.typeIn K (.ref BScheduleError) = some (.type "type"))
    (xo1 : PySem.W.specialIn K (.builtin "object.__class__") "__get__" = some (some (.builtin "getset_descriptor.__get__")))
    (xo2 : PySem.W.takesIn K (.builtin "object.__class__") = some true)
    (aEInvalidNumber : PySem.W.nsIn K mainGlobals "InvalidNumber" = some (some (.ref EInvalidNumber)))
    (iEInvalidNumber : PySem.W.excInitIn K EInvalidNumber [.type "ValueError", .type "Exception", .type "BaseException", .type "object"] "ValueError.__new__" = true)
    (oEInvalidNumber : PySem.W.excOver K EInvalidNumber [.type "ValueError", .type "Exception", .type "BaseException", .type "object"] = true)
    (hEInvalidNumber : PySem.W.hasDictIn K EInvalidNumber = true)
    (sEInvalidNumber : PySem.W.findIn K (.ref EInvalidNumber) "__setattr__" = some (some (.builtin "object.__setattr__")))
    (xEInvalidNumber : PySem.W.subIn K (.ref EInvalidNumber) (.type "BaseException") = some true)
    (tEInvalidNumber : PySem.W.typeIn K (.ref EInvalidNumber) = some (.type "type"))
    (kEInvalidNumber : PySem.W.keepIn K (.ref EInvalidNumber) = true)
    (nEInvalidNumber : PySem.W.findIn K (.ref EInvalidNumber) "number" = some none)
    (gEInvalidNumber : PySem.W.findIn K (.ref EInvalidNumber) "__getattribute__" = some (some (.builtin "BaseException.__getattribute__")))
    (qEInvalidNumber : PySem.W.findIn K (.ref EInvalidNumber) "__getattr__" = some none)
    (cEInvalidNumber : PySem.W.findIn K (.ref EInvalidNumber) "__class__" = some (some (.builtin "object.__class__")))
    (mEInvalidNumber : PySem.W.mroIn K EInvalidNumber (.type "object") = some true)
    (ax19 : PySem.W.findIn K (.ref EInvalidNumber) "__init__" = some (some (.ref fx19)))
    (ix19 : PySem.W.isFn K (.ref fx19) = true)
    (lx19 : K.lookup fx19 = some ⟨ocx19, odx19, .func (PySem.W.fnOf "__init__" "InvalidNumber.__init__" (defArgs c_InvalidNumber___init__) (defBody c_InvalidNumber___init__) (defScope c_InvalidNumber___init__) .none kVx19 dcx19 pmx19 anx19 cdx19 ctx19), slx19⟩)
    (cx19 : PySem.W.codeIn K cdx19 "InvalidNumber.__init__" = true)
    (kx19 : PySem.W.keepIn K (.ref fx19) = true)
    (tyEInvalidNumber : PySem.W.typeIn K (.ref fx19) = some (.type "function"))
    (aEInvalidSchedule : PySem.W.nsIn K mainGlobals "InvalidSchedule" = some (some (.ref EInvalidSchedule)))
    (iEInvalidSchedule : PySem.W.excInitIn K EInvalidSchedule [.type "ValueError", .type "Exception", .type "BaseException", .type "object"] "ValueError.__new__" = true)
    (oEInvalidSchedule : PySem.W.excOver K EInvalidSchedule [.type "ValueError", .type "Exception", .type "BaseException", .type "object"] = true)
    (hEInvalidSchedule : PySem.W.hasDictIn K EInvalidSchedule = true)
    (sEInvalidSchedule : PySem.W.findIn K (.ref EInvalidSchedule) "__setattr__" = some (some (.builtin "object.__setattr__")))
    (xEInvalidSchedule : PySem.W.subIn K (.ref EInvalidSchedule) (.type "BaseException") = some true)
    (tEInvalidSchedule : PySem.W.typeIn K (.ref EInvalidSchedule) = some (.type "type"))
    (kEInvalidSchedule : PySem.W.keepIn K (.ref EInvalidSchedule) = true)
    (nEInvalidSchedule : PySem.W.findIn K (.ref EInvalidSchedule) "part" = some none)
    (gEInvalidSchedule : PySem.W.findIn K (.ref EInvalidSchedule) "__getattribute__" = some (some (.builtin "BaseException.__getattribute__")))
    (qEInvalidSchedule : PySem.W.findIn K (.ref EInvalidSchedule) "__getattr__" = some none)
    (cEInvalidSchedule : PySem.W.findIn K (.ref EInvalidSchedule) "__class__" = some (some (.builtin "object.__class__")))
    (mEInvalidSchedule : PySem.W.mroIn K EInvalidSchedule (.type "object") = some true)
    (ax20 : PySem.W.findIn K (.ref EInvalidSchedule) "__init__" = some (some (.ref fx20)))
    (ix20 : PySem.W.isFn K (.ref fx20) = true)
    (lx20 : K.lookup fx20 = some ⟨ocx20, odx20, .func (PySem.W.fnOf "__init__" "InvalidSchedule.__init__" (defArgs c_InvalidSchedule___init__) (defBody c_InvalidSchedule___init__) (defScope c_InvalidSchedule___init__) .none kVx20 dcx20 pmx20 anx20 cdx20 ctx20), slx20⟩)
    (cx20 : PySem.W.codeIn K cdx20 "InvalidSchedule.__init__" = true)
    (kx20 : PySem.W.keepIn K (.ref fx20) = true)
    (tyEInvalidSchedule : PySem.W.typeIn K (.ref fx20) = some (.type "function"))
    (ax21 : PySem.W.nsIn K mainGlobals "keyword_index" = some (some (.ref fx21)))
    (lx21 : K.lookup fx21 = some ⟨ocx21, odx21, .func (PySem.W.fnOf "keyword_index" "keyword_index" (defArgs s_keyword_index) (defBody s_keyword_index) (defScope s_keyword_index) .none kVx21 dcx21 pmx21 anx21 cdx21 ctx21), slx21⟩)
    (cx21 : PySem.W.codeIn K cdx21 "keyword_index" = true)
    (kx21 : PySem.W.keepIn K (.ref fx21) = true)
    (ax22 : PySem.W.nsIn K mainGlobals "replaced_items" = some (some (.ref fx22)))
    (lx22 : K.lookup fx22 = some ⟨ocx22, odx22, .func (PySem.W.fnOf "replaced_items" "replaced_items" (defArgs s_replaced_items) (defBody s_replaced_items) (defScope s_replaced_items) .none kVx22 dcx22 pmx22 anx22 cdx22 ctx22), slx22⟩)
    (cx22 : PySem.W.codeIn K cdx22 "replaced_items" = true)
    (kx22 : PySem.W.keepIn K (.ref fx22) = true)
    (ax23 : PySem.W.findIn K (.ref C) "replaced" = some (some (.ref fx23)))
    (ix23 : PySem.W.isFn K (.ref fx23) = true)
    (lx23 : K.lookup fx23 = some ⟨ocx23, odx23, .func (PySem.W.fnOf "replaced" "Schedule.replaced" (defArgs c_Schedule_replaced) (defBody c_Schedule_replaced) (defScope c_Schedule_replaced) .none kVx23 dcx23 pmx23 anx23 cdx23 ctx23), slx23⟩)
    (cx23 : PySem.W.codeIn K cdx23 "Schedule.replaced" = true)
    (kx23 : PySem.W.keepIn K (.ref fx23) = true)
    (aC2 : PySem.W.nsIn K mainGlobals "Counter" = some (some (.ref C2)))
    (pgC2 : PySem.W.plainGet K C2 Str.empty = true)
    (hdC2 : PySem.W.hasDictIn K C2 = true)
    (poC2 : PySem.W.plainOver K C2 = true)
    (saC2 : PySem.W.findIn K (.ref C2) "__setattr__" = some (some (.builtin "object.__setattr__")))
    (mkC2 : PySem.W.makesIn K C2 = true)
    (kcC2 : PySem.W.keepIn K (.ref C2) = true)
    (nC20 : PySem.W.findIn K (.ref C2) "own_schedule" = some none)
    (nC21 : PySem.W.findIn K (.ref C2) "own_height" = some none)
    (nC22 : PySem.W.findIn K (.ref C2) "sizes" = some none)
    (nC23 : PySem.W.findIn K (.ref C2) "ends" = some none)
    (nC24 : PySem.W.findIn K (.ref C2) "powers" = some none)
    (e1C2 : PySem.W.findIn K (.ref C2) "__class__" = some (some (.builtin "object.__class__")))
    (e2C2 : PySem.W.specialIn K (.builtin "object.__class__") "__get__" = some (some (.builtin "getset_descriptor.__get__")))
    (e3C2 : PySem.W.takesIn K (.builtin "object.__class__") = some true)
    (e4C2 : PySem.W.mroIn K C2 (.type "object") = some true)
    (mxC2 : PySem.W.findIn K (.ref C2) "MAX_HEIGHT" = some (some (.int 3000 tkmxC2)))
    (mgC2 : PySem.W.specialIn K (.int 3000 tkmxC2) "__get__" = some none)
    (ax24 : PySem.W.nsIn K mainGlobals "check_at_least" = some (some (.ref fx24)))
    (lx24 : K.lookup fx24 = some ⟨ocx24, odx24, .func (PySem.W.fnOf "check_at_least" "check_at_least" (defArgs s_check_at_least) (defBody s_check_at_least) (defScope s_check_at_least) .none kVx24 dcx24 pmx24 anx24 cdx24 ctx24), slx24⟩)
    (cx24 : PySem.W.codeIn K cdx24 "check_at_least" = true)
    (kx24 : PySem.W.keepIn K (.ref fx24) = true)
    (ax25 : PySem.W.findIn K (.ref C2) "grow" = some (some (.ref fx25)))
    (ix25 : PySem.W.isFn K (.ref fx25) = true)
    (lx25 : K.lookup fx25 = some ⟨ocx25, odx25, .func (PySem.W.fnOf "grow" "Counter.grow" (defArgs c_Counter_grow) (defBody c_Counter_grow) (defScope c_Counter_grow) .none kVx25 dcx25 pmx25 anx25 cdx25 ctx25), slx25⟩)
    (cx25 : PySem.W.codeIn K cdx25 "Counter.grow" = true)
    (kx25 : PySem.W.keepIn K (.ref fx25) = true)
    (ax26 : PySem.W.findIn K (.ref C2) "first_place" = some (some (.ref fx26)))
    (ix26 : PySem.W.isFn K (.ref fx26) = true)
    (lx26 : K.lookup fx26 = some ⟨ocx26, odx26, .func (PySem.W.fnOf "first_place" "Counter.first_place" (defArgs c_Counter_first_place) (defBody c_Counter_first_place) (defScope c_Counter_first_place) .none kVx26 dcx26 pmx26 anx26 cdx26 ctx26), slx26⟩)
    (cx26 : PySem.W.codeIn K cdx26 "Counter.first_place" = true)
    (kx26 : PySem.W.keepIn K (.ref fx26) = true)
    (ax27 : PySem.W.findIn K (.ref C2) "finished_inside" = some (some (.ref fx27)))
    (ix27 : PySem.W.isFn K (.ref fx27) = true)
    (lx27 : K.lookup fx27 = some ⟨ocx27, odx27, .func (PySem.W.fnOf "finished_inside" "Counter.finished_inside" (defArgs c_Counter_finished_inside) (defBody c_Counter_finished_inside) (defScope c_Counter_finished_inside) .none kVx27 dcx27 pmx27 anx27 cdx27 ctx27), slx27⟩)
    (cx27 : PySem.W.codeIn K cdx27 "Counter.finished_inside" = true)
    (kx27 : PySem.W.keepIn K (.ref fx27) = true)
    (ax28 : PySem.W.findIn K (.ref C2) "count_finished" = some (some (.ref fx28)))
    (ix28 : PySem.W.isFn K (.ref fx28) = true)
    (lx28 : K.lookup fx28 = some ⟨ocx28, odx28, .func (PySem.W.fnOf "count_finished" "Counter.count_finished" (defArgs c_Counter_count_finished) (defBody c_Counter_count_finished) (defScope c_Counter_count_finished) .none kVx28 dcx28 pmx28 anx28 cdx28 ctx28), slx28⟩)
    (cx28 : PySem.W.codeIn K cdx28 "Counter.count_finished" = true)
    (kx28 : PySem.W.keepIn K (.ref fx28) = true)
    (ax29 : PySem.W.findIn K (.ref C2) "finishing" = some (some (.ref fx29)))
    (ix29 : PySem.W.isFn K (.ref fx29) = true)
    (lx29 : K.lookup fx29 = some ⟨ocx29, odx29, .func (PySem.W.fnOf "finishing" "Counter.finishing" (defArgs c_Counter_finishing) (defBody c_Counter_finishing) (defScope c_Counter_finishing) .none kVx29 dcx29 pmx29 anx29 cdx29 ctx29), slx29⟩)
    (cx29 : PySem.W.codeIn K cdx29 "Counter.finishing" = true)
    (kx29 : PySem.W.keepIn K (.ref fx29) = true)
    (ax30 : PySem.W.findIn K (.ref C2) "value" = some (some (.ref fx30)))
    (ix30 : PySem.W.isFn K (.ref fx30) = true)
    (lx30 : K.lookup fx30 = some ⟨ocx30, odx30, .func (PySem.W.fnOf "value" "Counter.value" (defArgs c_Counter_value) (defBody c_Counter_value) (defScope c_Counter_value) .none kVx30 dcx30 pmx30 anx30 cdx30 ctx30), slx30⟩)
    (cx30 : PySem.W.codeIn K cdx30 "Counter.value" = true)
    (kx30 : PySem.W.keepIn K (.ref fx30) = true)
    (ax31 : PySem.W.findIn K (.ref C2) "place" = some (some (.ref fx31)))
    (ix31 : PySem.W.isFn K (.ref fx31) = true)
    (lx31 : K.lookup fx31 = some ⟨ocx31, odx31, .func (PySem.W.fnOf "place" "Counter.place" (defArgs c_Counter_place) (defBody c_Counter_place) (defScope c_Counter_place) .none kVx31 dcx31 pmx31 anx31 cdx31 ctx31), slx31⟩)
    (cx31 : PySem.W.codeIn K cdx31 "Counter.place" = true)
    (kx31 : PySem.W.keepIn K (.ref fx31) = true)
    (ax32 : PySem.W.findIn K (.ref C2) "__init__" = some (some (.ref fx32)))
    (ix32 : PySem.W.isFn K (.ref fx32) = true)
    (lx32 : K.lookup fx32 = some ⟨ocx32, odx32, .func (PySem.W.fnOf "__init__" "Counter.__init__" (defArgs c_Counter___init__) (defBody c_Counter___init__) (defScope c_Counter___init__) .none (.ref Dc) dcx32 pmx32 anx32 cdx32 ctx32), slx32⟩)
    (cx32 : PySem.W.codeIn K cdx32 "Counter.__init__" = true)
    (kx32 : PySem.W.keepIn K (.ref fx32) = true)
    (dkx32 : PySem.W.nsIn K Dc "height" = some (some w3))
    (aCN : PySem.W.nsIn K mainGlobals "Node" = some (some (.ref CN)))
    (rCN : PySem.W.readsIn K CN (.type "type") = true)
    (gCN : PySem.W.specialIn K (.ref CN) "__getattribute__" = some (some (.builtin "type.__getattribute__")))
    (vCN : PySem.W.findCls K (.ref CN) (.type "type") "MAX_HEIGHT" = some (.val (.int 3000 tmN)))
    (ax33 : PySem.W.nsIn K mainGlobals "is_integer_nodes" = some (some (.ref fx33)))
    (lx33 : K.lookup fx33 = some ⟨ocx33, odx33, .func (PySem.W.fnOf "is_integer" "is_integer" (defArgs s_is_integer_nodes) (defBody s_is_integer_nodes) (defScope s_is_integer_nodes) .none kVx33 dcx33 pmx33 anx33 cdx33 ctx33), slx33⟩)
    (cx33 : PySem.W.codeIn K cdx33 "is_integer" = true)
    (kx33 : PySem.W.keepIn K (.ref fx33) = true)
    (ax34 : PySem.W.nsIn K mainGlobals "need_schedule" = some (some (.ref fx34)))
    (lx34 : K.lookup fx34 = some ⟨ocx34, odx34, .func (PySem.W.fnOf "need_schedule" "need_schedule" (defArgs s_need_schedule) (defBody s_need_schedule) (defScope s_need_schedule) .none kVx34 dcx34 pmx34 anx34 cdx34 ctx34), slx34⟩)
    (cx34 : PySem.W.codeIn K cdx34 "need_schedule" = true)
    (kx34 : PySem.W.keepIn K (.ref fx34) = true)
    (ax35 : PySem.W.nsIn K mainGlobals "sizes_up_to" = some (some (.ref fx35)))
    (lx35 : K.lookup fx35 = some ⟨ocx35, odx35, .func (PySem.W.fnOf "sizes_up_to" "sizes_up_to" (defArgs s_sizes_up_to) (defBody s_sizes_up_to) (defScope s_sizes_up_to) .none kVx35 dcx35 pmx35 anx35 cdx35 ctx35), slx35⟩)
    (cx35 : PySem.W.codeIn K cdx35 "sizes_up_to" = true)
    (kx35 : PySem.W.keepIn K (.ref fx35) = true)
    (ax36 : PySem.W.nsIn K mainGlobals "end_of_stage" = some (some (.ref fx36)))
    (lx36 : K.lookup fx36 = some ⟨ocx36, odx36, .func (PySem.W.fnOf "end_of_stage" "end_of_stage" (defArgs s_end_of_stage) (defBody s_end_of_stage) (defScope s_end_of_stage) .none kVx36 dcx36 pmx36 anx36 cdx36 ctx36), slx36⟩)
    (cx36 : PySem.W.codeIn K cdx36 "end_of_stage" = true)
    (kx36 : PySem.W.keepIn K (.ref fx36) = true)
    (ax37 : PySem.W.nsIn K mainGlobals "need_height" = some (some (.ref fx37)))
    (lx37 : K.lookup fx37 = some ⟨ocx37, odx37, .func (PySem.W.fnOf "need_height" "need_height" (defArgs s_need_height) (defBody s_need_height) (defScope s_need_height) .none kVx37 dcx37 pmx37 anx37 cdx37 ctx37), slx37⟩)
    (cx37 : PySem.W.codeIn K cdx37 "need_height" = true)
    (kx37 : PySem.W.keepIn K (.ref fx37) = true)
    (ax38 : PySem.W.nsIn K mainGlobals "stage_end" = some (some (.ref fx38)))
    (lx38 : K.lookup fx38 = some ⟨ocx38, odx38, .func (PySem.W.fnOf "stage_end" "stage_end" (defArgs s_stage_end) (defBody s_stage_end) (defScope s_stage_end) .none kVx38 dcx38 pmx38 anx38 cdx38 ctx38), slx38⟩)
    (cx38 : PySem.W.codeIn K cdx38 "stage_end" = true)
    (kx38 : PySem.W.keepIn K (.ref fx38) = true)
    (bgx23 : PySem.W.specialIn K (.ref fx23) "__get__" = some (some (.builtin "function.__get__")))
    (btx23 : PySem.W.takesIn K (.ref fx23) = some false)
    (ax39 : PySem.W.nsIn K mainGlobals "is_count" = some (some (.ref fx39)))
    (lx39 : K.lookup fx39 = some ⟨ocx39, odx39, .func (PySem.W.fnOf "is_count" "is_count" (defArgs s_is_count) (defBody s_is_count) (defScope s_is_count) (.ref T39) kVx39 dcx39 pmx39 anx39 cdx39 ctx39), slx39⟩)
    (cx39 : PySem.W.codeIn K cdx39 "is_count" = true)
    (kx39 : PySem.W.keepIn K (.ref fx39) = true)
    (dx39 : K.lookup T39 = some ⟨tc39, td39, .seq #[.int 0 tk39] k039, tsl39⟩)
    (ax40 : PySem.W.nsIn K mainGlobals "least_value" = some (some (.ref fx40)))
    (lx40 : K.lookup fx40 = some ⟨ocx40, odx40, .func (PySem.W.fnOf "least_value" "least_value" (defArgs s_least_value) (defBody s_least_value) (defScope s_least_value) .none kVx40 dcx40 pmx40 anx40 cdx40 ctx40), slx40⟩)
    (cx40 : PySem.W.codeIn K cdx40 "least_value" = true)
    (kx40 : PySem.W.keepIn K (.ref fx40) = true)
    (ax41 : PySem.W.nsIn K mainGlobals "power_of" = some (some (.ref fx41)))
    (lx41 : K.lookup fx41 = some ⟨ocx41, odx41, .func (PySem.W.fnOf "power_of" "power_of" (defArgs s_power_of) (defBody s_power_of) (defScope s_power_of) .none kVx41 dcx41 pmx41 anx41 cdx41 ctx41), slx41⟩)
    (cx41 : PySem.W.codeIn K cdx41 "power_of" = true)
    (kx41 : PySem.W.keepIn K (.ref fx41) = true)
    (ax42 : PySem.W.nsIn K mainGlobals "first_leaf" = some (some (.ref fx42)))
    (lx42 : K.lookup fx42 = some ⟨ocx42, odx42, .func (PySem.W.fnOf "first_leaf" "first_leaf" (defArgs s_first_leaf) (defBody s_first_leaf) (defScope s_first_leaf) .none kVx42 dcx42 pmx42 anx42 cdx42 ctx42), slx42⟩)
    (cx42 : PySem.W.codeIn K cdx42 "first_leaf" = true)
    (kx42 : PySem.W.keepIn K (.ref fx42) = true)
    (aCG : PySem.W.nsIn K mainGlobals "Growth" = some (some (.ref CG)))
    (pgCG : PySem.W.plainGet K CG Str.empty = true)
    (hdCG : PySem.W.hasDictIn K CG = true)
    (poCG : PySem.W.plainOver K CG = true)
    (saCG : PySem.W.findIn K (.ref CG) "__setattr__" = some (some (.builtin "object.__setattr__")))
    (mkCG : PySem.W.makesIn K CG = true)
    (kcCG : PySem.W.keepIn K (.ref CG) = true)
    (nCG0 : PySem.W.findIn K (.ref CG) "current_schedule" = some none)
    (nCG1 : PySem.W.findIn K (.ref CG) "current_label" = some none)
    (nCG2 : PySem.W.findIn K (.ref CG) "reached_label" = some none)
    (nCG3 : PySem.W.findIn K (.ref CG) "history" = some none)
    (e1CG : PySem.W.findIn K (.ref CG) "__class__" = some (some (.builtin "object.__class__")))
    (e2CG : PySem.W.specialIn K (.builtin "object.__class__") "__get__" = some (some (.builtin "getset_descriptor.__get__")))
    (e3CG : PySem.W.takesIn K (.builtin "object.__class__") = some true)
    (e4CG : PySem.W.mroIn K CG (.type "object") = some true)
    (rCG : PySem.W.readsIn K CG (.type "type") = true)
    (gCG : PySem.W.specialIn K (.ref CG) "__getattribute__" = some (some (.builtin "type.__getattribute__")))
    (vCG : PySem.W.findCls K (.ref CG) (.type "type") "ITEMS" = some (.val (.ref wT1)))
    (wl1 : K.lookup wT1 = some ⟨.type "tuple", wo1, .seq (List.toArray [.str "d0" ik0, .str "d1" ik1, .str "d2" ik2, .str "d3" ik3, .str "d4" ik4, .str "d5" ik5, .str "d6" ik6, .str "d7" ik7, .str "d8" ik8, .str "d9" ik9, .str "d10" ik10, .str "d11" ik11, .str "w0" ik12, .str "w1" ik13, .str "w2" ik14, .str "w3" ik15, .str "w4" ik16, .str "w5" ik17, .str "w6" ik18, .str "w7" ik19, .str "w8" ik20, .str "w9" ik21, .str "w10" ik22, .str "w11" ik23]) wn1, ws1⟩)
    (ax43 : PySem.W.findIn K (.ref CG) "is_frozen" = some (some (.ref fx43)))
    (ix43 : PySem.W.isFn K (.ref fx43) = true)
    (lx43 : K.lookup fx43 = some ⟨ocx43, odx43, .func (PySem.W.fnOf "is_frozen" "Growth.is_frozen" (defArgs c_Growth_is_frozen) (defBody c_Growth_is_frozen) (defScope c_Growth_is_frozen) .none kVx43 dcx43 pmx43 anx43 cdx43 ctx43), slx43⟩)
    (cx43 : PySem.W.codeIn K cdx43 "Growth.is_frozen" = true)
    (kx43 : PySem.W.keepIn K (.ref fx43) = true)
    (ax44 : PySem.W.findIn K (.ref CG) "state" = some (some (.ref fx44)))
    (ix44 : PySem.W.isFn K (.ref fx44) = true)
    (lx44 : K.lookup fx44 = some ⟨ocx44, odx44, .func (PySem.W.fnOf "state" "Growth.state" (defArgs c_Growth_state) (defBody c_Growth_state) (defScope c_Growth_state) .none kVx44 dcx44 pmx44 anx44 cdx44 ctx44), slx44⟩)
    (cx44 : PySem.W.codeIn K cdx44 "Growth.state" = true)
    (kx44 : PySem.W.keepIn K (.ref fx44) = true)
    (ax45 : PySem.W.findIn K (.ref CG) "__init__" = some (some (.ref fx45)))
    (ix45 : PySem.W.isFn K (.ref fx45) = true)
    (lx45 : K.lookup fx45 = some ⟨ocx45, odx45, .func (PySem.W.fnOf "__init__" "Growth.__init__" (defArgs c_Growth___init__) (defBody c_Growth___init__) (defScope c_Growth___init__) .none (.ref Dg) dcx45 pmx45 anx45 cdx45 ctx45), slx45⟩)
    (cx45 : PySem.W.codeIn K cdx45 "Growth.__init__" = true)
    (kx45 : PySem.W.keepIn K (.ref fx45) = true)
    (dkx45 : PySem.W.nsIn K Dg "label" = some (some wg))
    (vmL : PySem.W.findCls K (.ref C) (.type "type") "MAX_LABELS" = some (.val (.int 1000000 tmL)))
    (ax46 : PySem.W.nsIn K mainGlobals "is_item_value" = some (some (.ref fx46)))
    (lx46 : K.lookup fx46 = some ⟨ocx46, odx46, .func (PySem.W.fnOf "is_item_value" "is_item_value" (defArgs s_is_item_value) (defBody s_is_item_value) (defScope s_is_item_value) .none kVx46 dcx46 pmx46 anx46 cdx46 ctx46), slx46⟩)
    (cx46 : PySem.W.codeIn K cdx46 "is_item_value" = true)
    (kx46 : PySem.W.keepIn K (.ref fx46) = true)
    (ax47 : PySem.W.nsIn K mainGlobals "influence" = some (some (.ref fx47)))
    (lx47 : K.lookup fx47 = some ⟨ocx47, odx47, .func (PySem.W.fnOf "influence" "influence" (defArgs s_influence) (defBody s_influence) (defScope s_influence) .none kVx47 dcx47 pmx47 anx47 cdx47 ctx47), slx47⟩)
    (cx47 : PySem.W.codeIn K cdx47 "influence" = true)
    (kx47 : PySem.W.keepIn K (.ref fx47) = true)
    (ax48 : PySem.W.findCls K (.ref CG) (.type "type") "is_item" = some (.get (.builtin "staticmethod.__get__") (.ref pSx48) .none (.ref CG)))
    (bx48 : PySem.W.recIn K pSx48 "staticmethod" = some (.ref fx48 :: rSx48))
    (lx48 : K.lookup fx48 = some ⟨ocx48, odx48, .func (PySem.W.fnOf "is_item" "Growth.is_item" (defArgs c_Growth_is_item) (defBody c_Growth_is_item) (defScope c_Growth_is_item) .none kVx48 dcx48 pmx48 anx48 cdx48 ctx48), slx48⟩)
    (cx48 : PySem.W.codeIn K cdx48 "Growth.is_item" = true)
    (kx48 : PySem.W.keepIn K (.ref fx48) = true)
    (ax49 : PySem.W.findIn K (.ref CG) "item_for" = some (some (.ref fx49)))
    (ix49 : PySem.W.isFn K (.ref fx49) = true)
    (lx49 : K.lookup fx49 = some ⟨ocx49, odx49, .func (PySem.W.fnOf "item_for" "Growth.item_for" (defArgs c_Growth_item_for) (defBody c_Growth_item_for) (defScope c_Growth_item_for) .none kVx49 dcx49 pmx49 anx49 cdx49 ctx49), slx49⟩)
    (cx49 : PySem.W.codeIn K cdx49 "Growth.item_for" = true)
    (kx49 : PySem.W.keepIn K (.ref fx49) = true)
    (aBStateError : PySem.W.nsIn K mainGlobals "StateError" = some (some (.ref BStateError)))
    (rBStateError : PySem.W.readsIn K BStateError (.type "type") = true)
    (gBStateError : PySem.W.specialIn K (.ref BStateError) "__getattribute__" = some (some (.builtin "type.__getattribute__")))
    (vBStateError : PySem.W.findCls K (.ref BStateError) (.type "type") "__init__" = some (.val (.builtin "RuntimeError.__init__")))
    (sBStateError : PySem.W.subIn K (.ref BStateError) (.type "BaseException") = some true)
    (hBStateError : PySem.W.hasDictIn K BStateError = true)
    (tBStateError : PySem.W.typeIn K (.ref BStateError) = some (.type "type"))
    (aEFrozen : PySem.W.nsIn K mainGlobals "Frozen" = some (some (.ref EFrozen)))
    (iEFrozen : PySem.W.excInitIn K EFrozen [.type "RuntimeError", .type "Exception", .type "BaseException", .type "object"] "RuntimeError.__new__" = true)
    (oEFrozen : PySem.W.excOver K EFrozen [.type "RuntimeError", .type "Exception", .type "BaseException", .type "object"] = true)
    (hEFrozen : PySem.W.hasDictIn K EFrozen = true)
    (sEFrozen : PySem.W.findIn K (.ref EFrozen) "__setattr__" = some (some (.builtin "object.__setattr__")))
    (xEFrozen : PySem.W.subIn K (.ref EFrozen) (.type "BaseException") = some true)
    (tEFrozen : PySem.W.typeIn K (.ref EFrozen) = some (.type "type"))
    (kEFrozen : PySem.W.keepIn K (.ref EFrozen) = true)
    (nEFrozen : PySem.W.findIn K (.ref EFrozen) "item" = some none)
    (gEFrozen : PySem.W.findIn K (.ref EFrozen) "__getattribute__" = some (some (.builtin "BaseException.__getattribute__")))
    (qEFrozen : PySem.W.findIn K (.ref EFrozen) "__getattr__" = some none)
    (cEFrozen : PySem.W.findIn K (.ref EFrozen) "__class__" = some (some (.builtin "object.__class__")))
    (mEFrozen : PySem.W.mroIn K EFrozen (.type "object") = some true)
    (ax50 : PySem.W.findIn K (.ref EFrozen) "__init__" = some (some (.ref fx50)))
    (ix50 : PySem.W.isFn K (.ref fx50) = true)
    (lx50 : K.lookup fx50 = some ⟨ocx50, odx50, .func (PySem.W.fnOf "__init__" "Frozen.__init__" (defArgs c_Frozen___init__) (defBody c_Frozen___init__) (defScope c_Frozen___init__) .none kVx50 dcx50 pmx50 anx50 cdx50 ctx50), slx50⟩)
    (cx50 : PySem.W.codeIn K cdx50 "Frozen.__init__" = true)
    (kx50 : PySem.W.keepIn K (.ref fx50) = true)
    (tyEFrozen : PySem.W.typeIn K (.ref fx50) = some (.type "function"))
    (zEFrozenEFrozen : PySem.W.subIn K (.ref EFrozen) (.ref EFrozen) = some true)
    (ax51 : PySem.W.findIn K (.ref CG) "checked" = some (some (.ref fx51)))
    (ix51 : PySem.W.isFn K (.ref fx51) = true)
    (lx51 : K.lookup fx51 = some ⟨ocx51, odx51, .func (PySem.W.fnOf "checked" "Growth.checked" (defArgs c_Growth_checked) (defBody c_Growth_checked) (defScope c_Growth_checked) .none kVx51 dcx51 pmx51 anx51 cdx51 ctx51), slx51⟩)
    (cx51 : PySem.W.codeIn K cdx51 "Growth.checked" = true)
    (kx51 : PySem.W.keepIn K (.ref fx51) = true)
    (ax52 : PySem.W.findIn K (.ref CG) "make" = some (some (.ref fx52)))
    (ix52 : PySem.W.isFn K (.ref fx52) = true)
    (lx52 : K.lookup fx52 = some ⟨ocx52, odx52, .func (PySem.W.fnOf "make" "Growth.make" (defArgs c_Growth_make) (defBody c_Growth_make) (defScope c_Growth_make) .none kVx52 dcx52 pmx52 anx52 cdx52 ctx52), slx52⟩)
    (cx52 : PySem.W.codeIn K cdx52 "Growth.make" = true)
    (kx52 : PySem.W.keepIn K (.ref fx52) = true)
    (ax53 : PySem.W.findIn K (.ref CG) "load_state" = some (some (.ref fx53)))
    (ix53 : PySem.W.isFn K (.ref fx53) = true)
    (lx53 : K.lookup fx53 = some ⟨ocx53, odx53, .func (PySem.W.fnOf "load_state" "Growth.load_state" (defArgs c_Growth_load_state) (defBody c_Growth_load_state) (defScope c_Growth_load_state) .none kVx53 dcx53 pmx53 anx53 cdx53 ctx53), slx53⟩)
    (cx53 : PySem.W.codeIn K cdx53 "Growth.load_state" = true)
    (kx53 : PySem.W.keepIn K (.ref fx53) = true)
    (ax54 : PySem.W.findIn K (.ref CG) "copy" = some (some (.ref fx54)))
    (ix54 : PySem.W.isFn K (.ref fx54) = true)
    (lx54 : K.lookup fx54 = some ⟨ocx54, odx54, .func (PySem.W.fnOf "copy" "Growth.copy" (defArgs c_Growth_copy) (defBody c_Growth_copy) (defScope c_Growth_copy) .none kVx54 dcx54 pmx54 anx54 cdx54 ctx54), slx54⟩)
    (cx54 : PySem.W.codeIn K cdx54 "Growth.copy" = true)
    (kx54 : PySem.W.keepIn K (.ref fx54) = true)
    (ax55 : PySem.W.findIn K (.ref CG) "apply" = some (some (.ref fx55)))
    (ix55 : PySem.W.isFn K (.ref fx55) = true)
    (lx55 : K.lookup fx55 = some ⟨ocx55, odx55, .func (PySem.W.fnOf "apply" "Growth.apply" (defArgs c_Growth_apply) (defBody c_Growth_apply) (defScope c_Growth_apply) .none kVx55 dcx55 pmx55 anx55 cdx55 ctx55), slx55⟩)
    (cx55 : PySem.W.codeIn K cdx55 "Growth.apply" = true)
    (kx55 : PySem.W.keepIn K (.ref fx55) = true)
    (ax56 : PySem.W.findIn K (.ref CG) "schedule" = some (some (.ref pNx56)))
    (gx56 : PySem.W.specialIn K (.ref pNx56) "__get__" = some (some (.builtin "property.__get__")))
    (tx56 : PySem.W.takesIn K (.ref pNx56) = some true)
    (bx56 : PySem.W.recIn K pNx56 "property" = some (.ref fx56 :: rNx56))
    (lx56 : K.lookup fx56 = some ⟨ocx56, odx56, .func (PySem.W.fnOf "schedule" "Growth.schedule" (defArgs c_Growth_schedule) (defBody c_Growth_schedule) (defScope c_Growth_schedule) .none kVx56 dcx56 pmx56 anx56 cdx56 ctx56), slx56⟩)
    (cx56 : PySem.W.codeIn K cdx56 "Growth.schedule" = true)
    (kx56 : PySem.W.keepIn K (.ref fx56) = true)
    (ax57 : PySem.W.findIn K (.ref CG) "change_count" = some (some (.ref pNx57)))
    (gx57 : PySem.W.specialIn K (.ref pNx57) "__get__" = some (some (.builtin "property.__get__")))
    (tx57 : PySem.W.takesIn K (.ref pNx57) = some true)
    (bx57 : PySem.W.recIn K pNx57 "property" = some (.ref fx57 :: rNx57))
    (lx57 : K.lookup fx57 = some ⟨ocx57, odx57, .func (PySem.W.fnOf "change_count" "Growth.change_count" (defArgs c_Growth_change_count) (defBody c_Growth_change_count) (defScope c_Growth_change_count) .none kVx57 dcx57 pmx57 anx57 cdx57 ctx57), slx57⟩)
    (cx57 : PySem.W.codeIn K cdx57 "Growth.change_count" = true)
    (kx57 : PySem.W.keepIn K (.ref fx57) = true)
    (ax58 : PySem.W.nsIn K mainGlobals "_law_mixed" = some (some (.ref fx58)))
    (lx58 : K.lookup fx58 = some ⟨ocx58, odx58, .func (PySem.W.fnOf "_law_mixed" "_law_mixed" (defArgs s__law_mixed) (defBody s__law_mixed) (defScope s__law_mixed) .none kVx58 dcx58 pmx58 anx58 cdx58 ctx58), slx58⟩)
    (cx58 : PySem.W.codeIn K cdx58 "_law_mixed" = true)
    (kx58 : PySem.W.keepIn K (.ref fx58) = true)
    (ax59 : PySem.W.nsIn K mainGlobals "_law_draw" = some (some (.ref fx59)))
    (lx59 : K.lookup fx59 = some ⟨ocx59, odx59, .func (PySem.W.fnOf "_law_draw" "_law_draw" (defArgs s__law_draw) (defBody s__law_draw) (defScope s__law_draw) .none kVx59 dcx59 pmx59 anx59 cdx59 ctx59), slx59⟩)
    (cx59 : PySem.W.codeIn K cdx59 "_law_draw" = true)
    (kx59 : PySem.W.keepIn K (.ref fx59) = true)
    (ax60 : PySem.W.nsIn K mainGlobals "_law_of" = some (some (.ref fx60)))
    (lx60 : K.lookup fx60 = some ⟨ocx60, odx60, .func (PySem.W.fnOf "_law_of" "_law_of" (defArgs s__law_of) (defBody s__law_of) (defScope s__law_of) .none kVx60 dcx60 pmx60 anx60 cdx60 ctx60), slx60⟩)
    (cx60 : PySem.W.codeIn K cdx60 "_law_of" = true)
    (kx60 : PySem.W.keepIn K (.ref fx60) = true)
    (ax61 : PySem.W.nsIn K mainGlobals "_law_big" = some (some (.ref fx61)))
    (lx61 : K.lookup fx61 = some ⟨ocx61, odx61, .func (PySem.W.fnOf "_law_big" "_law_big" (defArgs s__law_big) (defBody s__law_big) (defScope s__law_big) .none kVx61 dcx61 pmx61 anx61 cdx61 ctx61), slx61⟩)
    (cx61 : PySem.W.codeIn K cdx61 "_law_big" = true)
    (kx61 : PySem.W.keepIn K (.ref fx61) = true)
    (ax62 : PySem.W.nsIn K mainGlobals "_law_state" = some (some (.ref fx62)))
    (lx62 : K.lookup fx62 = some ⟨ocx62, odx62, .func (PySem.W.fnOf "_law_state" "_law_state" (defArgs s__law_state) (defBody s__law_state) (defScope s__law_state) .none kVx62 dcx62 pmx62 anx62 cdx62 ctx62), slx62⟩)
    (cx62 : PySem.W.codeIn K cdx62 "_law_state" = true)
    (kx62 : PySem.W.keepIn K (.ref fx62) = true)
    (ax63 : PySem.W.nsIn K mainGlobals "_law_stream" = some (some (.ref fx63)))
    (lx63 : K.lookup fx63 = some ⟨ocx63, odx63, .func (PySem.W.fnOf "_law_stream" "_law_stream" (defArgs s__law_stream) (defBody s__law_stream) (defScope s__law_stream) .none kVx63 dcx63 pmx63 anx63 cdx63 ctx63), slx63⟩)
    (cx63 : PySem.W.codeIn K cdx63 "_law_stream" = true)
    (kx63 : PySem.W.keepIn K (.ref fx63) = true)
    (ax64 : PySem.W.nsIn K mainGlobals "_law_parts" = some (some (.ref fx64)))
    (lx64 : K.lookup fx64 = some ⟨ocx64, odx64, .func (PySem.W.fnOf "_law_parts" "_law_parts" (defArgs s__law_parts) (defBody s__law_parts) (defScope s__law_parts) .none kVx64 dcx64 pmx64 anx64 cdx64 ctx64), slx64⟩)
    (cx64 : PySem.W.codeIn K cdx64 "_law_parts" = true)
    (kx64 : PySem.W.keepIn K (.ref fx64) = true)
    (ax65 : PySem.W.nsIn K mainGlobals "_law_at" = some (some (.ref fx65)))
    (lx65 : K.lookup fx65 = some ⟨ocx65, odx65, .func (PySem.W.fnOf "_law_at" "_law_at" (defArgs s__law_at) (defBody s__law_at) (defScope s__law_at) .none kVx65 dcx65 pmx65 anx65 cdx65 ctx65), slx65⟩)
    (cx65 : PySem.W.codeIn K cdx65 "_law_at" = true)
    (kx65 : PySem.W.keepIn K (.ref fx65) = true)
    (ax66 : PySem.W.nsIn K mainGlobals "_law_schedule" = some (some (.ref fx66)))
    (lx66 : K.lookup fx66 = some ⟨ocx66, odx66, .func (PySem.W.fnOf "_law_schedule" "_law_schedule" (defArgs s__law_schedule) (defBody s__law_schedule) (defScope s__law_schedule) .none kVx66 dcx66 pmx66 anx66 cdx66 ctx66), slx66⟩)
    (cx66 : PySem.W.codeIn K cdx66 "_law_schedule" = true)
    (kx66 : PySem.W.keepIn K (.ref fx66) = true)
    (ax67 : PySem.W.nsIn K mainGlobals "_law_with" = some (some (.ref fx67)))
    (lx67 : K.lookup fx67 = some ⟨ocx67, odx67, .func (PySem.W.fnOf "_law_with" "_law_with" (defArgs s__law_with) (defBody s__law_with) (defScope s__law_with) .none kVx67 dcx67 pmx67 anx67 cdx67 ctx67), slx67⟩)
    (cx67 : PySem.W.codeIn K cdx67 "_law_with" = true)
    (kx67 : PySem.W.keepIn K (.ref fx67) = true)
    (ax68 : PySem.W.nsIn K mainGlobals "_law_stage_end" = some (some (.ref fx68)))
    (lx68 : K.lookup fx68 = some ⟨ocx68, odx68, .func (PySem.W.fnOf "_law_stage_end" "_law_stage_end" (defArgs s__law_stage_end) (defBody s__law_stage_end) (defScope s__law_stage_end) .none kVx68 dcx68 pmx68 anx68 cdx68 ctx68), slx68⟩)
    (cx68 : PySem.W.codeIn K cdx68 "_law_stage_end" = true)
    (kx68 : PySem.W.keepIn K (.ref fx68) = true)
    (ax69 : PySem.W.nsIn K mainGlobals "_law_is_frozen" = some (some (.ref fx69)))
    (lx69 : K.lookup fx69 = some ⟨ocx69, odx69, .func (PySem.W.fnOf "_law_is_frozen" "_law_is_frozen" (defArgs s__law_is_frozen) (defBody s__law_is_frozen) (defScope s__law_is_frozen) .none kVx69 dcx69 pmx69 anx69 cdx69 ctx69), slx69⟩)
    (cx69 : PySem.W.codeIn K cdx69 "_law_is_frozen" = true)
    (kx69 : PySem.W.keepIn K (.ref fx69) = true)
    (ax70 : PySem.W.nsIn K mainGlobals "_law_items" = some (some (.ref fx70)))
    (lx70 : K.lookup fx70 = some ⟨ocx70, odx70, .func (PySem.W.fnOf "_law_items" "_law_items" (defArgs s__law_items) (defBody s__law_items) (defScope s__law_items) .none kVx70 dcx70 pmx70 anx70 cdx70 ctx70), slx70⟩)
    (cx70 : PySem.W.codeIn K cdx70 "_law_items" = true)
    (kx70 : PySem.W.keepIn K (.ref fx70) = true)
    (ax71 : PySem.W.nsIn K mainGlobals "_law_place" = some (some (.ref fx71)))
    (lx71 : K.lookup fx71 = some ⟨ocx71, odx71, .func (PySem.W.fnOf "_law_place" "_law_place" (defArgs s__law_place) (defBody s__law_place) (defScope s__law_place) .none kVx71 dcx71 pmx71 anx71 cdx71 ctx71), slx71⟩)
    (cx71 : PySem.W.codeIn K cdx71 "_law_place" = true)
    (kx71 : PySem.W.keepIn K (.ref fx71) = true)
    (ax72 : PySem.W.nsIn K mainGlobals "_law_due" = some (some (.ref fx72)))
    (lx72 : K.lookup fx72 = some ⟨ocx72, odx72, .func (PySem.W.fnOf "_law_due" "_law_due" (defArgs s__law_due) (defBody s__law_due) (defScope s__law_due) .none kVx72 dcx72 pmx72 anx72 cdx72 ctx72), slx72⟩)
    (cx72 : PySem.W.codeIn K cdx72 "_law_due" = true)
    (kx72 : PySem.W.keepIn K (.ref fx72) = true)
    (ax73 : PySem.W.nsIn K mainGlobals "_law_asked" = some (some (.ref fx73)))
    (lx73 : K.lookup fx73 = some ⟨ocx73, odx73, .func (PySem.W.fnOf "_law_asked" "_law_asked" (defArgs s__law_asked) (defBody s__law_asked) (defScope s__law_asked) .none kVx73 dcx73 pmx73 anx73 cdx73 ctx73), slx73⟩)
    (cx73 : PySem.W.codeIn K cdx73 "_law_asked" = true)
    (kx73 : PySem.W.keepIn K (.ref fx73) = true)
    (ax74 : PySem.W.nsIn K mainGlobals "_law_goal_right" = some (some (.ref fx74)))
    (lx74 : K.lookup fx74 = some ⟨ocx74, odx74, .func (PySem.W.fnOf "_law_goal_right" "_law_goal_right" (defArgs s__law_goal_right) (defBody s__law_goal_right) (defScope s__law_goal_right) .none kVx74 dcx74 pmx74 anx74 cdx74 ctx74), slx74⟩)
    (cx74 : PySem.W.codeIn K cdx74 "_law_goal_right" = true)
    (kx74 : PySem.W.keepIn K (.ref fx74) = true)
    (ax75 : PySem.W.nsIn K mainGlobals "_law_is_rejected" = some (some (.ref fx75)))
    (lx75 : K.lookup fx75 = some ⟨ocx75, odx75, .func (PySem.W.fnOf "_law_is_rejected" "_law_is_rejected" (defArgs s__law_is_rejected) (defBody s__law_is_rejected) (defScope s__law_is_rejected) .none kVx75 dcx75 pmx75 anx75 cdx75 ctx75), slx75⟩)
    (cx75 : PySem.W.codeIn K cdx75 "_law_is_rejected" = true)
    (kx75 : PySem.W.keepIn K (.ref fx75) = true)
    (ax76 : PySem.W.nsIn K mainGlobals "law" = some (some (.ref fx76)))
    (lx76 : K.lookup fx76 = some ⟨ocx76, odx76, .func (PySem.W.fnOf "law" "law" (defArgs s_law) (defBody s_law) (defScope s_law) .none kVx76 dcx76 pmx76 anx76 cdx76 ctx76), slx76⟩)
    (cx76 : PySem.W.codeIn K cdx76 "law" = true)
    (kx76 : PySem.W.keepIn K (.ref fx76) = true)
    (z0 : PySem.W.nsIn K mainGlobals "isinstance" = some none)
    (z1 : PySem.W.nsIn K mainGlobals "int" = some none)
    (z2 : PySem.W.nsIn K mainGlobals "bool" = some none)
    (z3 : PySem.W.nsIn K mainGlobals "tuple" = some none)
    (z4 : PySem.W.nsIn K mainGlobals "len" = some none)
    (z5 : PySem.W.nsIn K mainGlobals "enumerate" = some none)
    (z6 : PySem.W.nsIn K mainGlobals "range" = some none)
    (z7 : PySem.W.nsIn K mainGlobals "all" = some none)
    (z8 : PySem.W.nsIn K mainGlobals "list" = some none)
    (z9 : PySem.W.nsIn K mainGlobals "min" = some none)
    (z10 : PySem.W.nsIn K mainGlobals "max" = some none)
    (z11 : PySem.W.nsIn K mainGlobals "sum" = some none)
    (z12 : PySem.W.nsIn K mainGlobals "str" = some none)
    (z13 : PySem.W.nsIn K mainGlobals "repr" = some none)
    (y1 : RelV .non w1)
    (y2 : RelV .non w2)
    (y3 : RelV (.int 0) w3)
    (yg : RelV (.int 0) wg)
    : ∀ base : Heap, K.In base → base.Ns mainGlobals mg → FnX l.prog w K mg base 12 fa [] (spX K aLaw) := by
  intro base _ _
  have B : Bt mg := ⟨(PySem.W.mg_none_of X G z0), (PySem.W.mg_none_of X G z1), (PySem.W.mg_none_of X G z2), (PySem.W.mg_none_of X G z3), (PySem.W.mg_none_of X G z4), (PySem.W.mg_none_of X G z5), (PySem.W.mg_none_of X G z6), (PySem.W.mg_none_of X G z7), (PySem.W.mg_none_of X G z8), (PySem.W.mg_none_of X G z9), (PySem.W.mg_none_of X G z10), (PySem.W.mg_none_of X G z11)⟩
  have T : Rs K mg C := ⟨⟨pgC, hdC, poC, saC⟩, nC0, nC1, nC2, PySem.W.mg_of X G aC⟩
  have L : Lm mg tt0 tt1 tt2 tt3 := ⟨PySem.W.mg_of X G u0, PySem.W.mg_of X G u1, PySem.W.mg_of X G u2, PySem.W.mg_of X G u3⟩
  have LE_ : LmE mg := ⟨⟨_, PySem.W.mg_of X G u0⟩, ⟨_, PySem.W.mg_of X G u1⟩, ⟨_, PySem.W.mg_of X G u2⟩, ⟨_, PySem.W.mg_of X G u3⟩⟩
  have e5 : PySem.W.kitOne K (.ref C) (.ref C) = some true := if_pos (by simp)
  have IS : Isi K C := ⟨e1C, e2C, e3C, e4C, e5⟩
  have Fx1 := fd_kw2 (st := s_is_integer) lx1 cx1 kx1 d1 d2 y1 y2
  have GA : GInt l.prog w K mg base := by
    obtain ⟨mv, kb⟩ := FunD.kbinds0 (ps := ["value", "low", "high"]) Fx1 1 ["low", "high"] [] (fun us _ ws => us ++ ws) (by simp) (fun _ h => nomatch h) (fun r1 _ r2 => r1.append r2)
      (fun D doc pm an cdv ct us mv ws h1 h2 h3 => match us, mv, ws, h1, h2, h3 with | [_], [], [_, _], _, _, _ => rfl)
    exact ⟨⟨fx1, fnx_kbn (k := 0) (fun ds es => ds ++ es) Fx1 q_is_integer kb (fun H ds vs es zs r1 r2 _ _ => r1.append r2) (fun ds M R ⟨n, lo, hi, e, _⟩ => by rw [e]; rfl) (b_is_integer (PySem.W.mg_none_of X G z0) (PySem.W.mg_none_of X G z1) (PySem.W.mg_none_of X G z2)), (PySem.W.mg_of X G ax1), kx1⟩⟩
  have Fx2 : FunD K "check_integer" "check_integer" (defArgs s_check_integer) (defBody s_check_integer) (defScope s_check_integer) [.non] [] fx2 _ := ⟨⟨ocx2, odx2, .ref T2, kVx2, dcx2, pmx2, anx2, cdx2, ctx2, slx2, rfl, lx2, cx2, .inr ⟨List.cons_ne_nil _ _, T2, _, [.none], k02, rfl, dx2, rfl, .cons rfl .nil⟩, .inl rfl⟩, kx2⟩
  have GB3 : GChk3 l.prog w K mg base := ⟨⟨fx2, (fnx_dflG (n := 3) (ks := []) (fun us _ _ => us) Fx2 q_check_integer (List.cons_ne_nil _ _) [.non] (fun H => .cons .non .nil) (fun T' kV doc pm an cdv ct us ws its h1 h2 h3 => match us, ws, its, h1, h2, h3 with | [_, _, _], [], [_], _, _, _ => ⟨_, rfl, rfl⟩) (fun r1 _ _ => r1) (fun r1 _ _ => r1) (fun ds M R h => by obtain ⟨n, lo, hi, rfl, _⟩ := h; rfl) (b_check_integer3 GA)).imp (fun ds es M R h => ⟨by obtain ⟨n, lo, hi, rfl, _⟩ := h; rfl, h⟩), (PySem.W.mg_of X G ax2), kx2⟩⟩
  have GB : GChk l.prog w K mg base := ⟨⟨fx2, fnx_dfl (n := 2) (dd := [.non]) Fx2 q_check_integer (List.cons_ne_nil _ _) (fun H => .cons .non .nil) (fun T' kV doc pm an cdv ct us its h1 h2 => match us, its, h1, h2 with | [_, _], [_], _, _ => ⟨_, rfl, rfl⟩) (fun ds M R h => by obtain ⟨n, lo, rfl, _⟩ := h; rfl) (b_check_integer GA), (PySem.W.mg_of X G ax2), kx2⟩⟩
  have Fx3 := fd_mk (st := s_are_items) lx3 cx3 kx3
  have GC : GItems l.prog w K mg base := gd_pos Fx3 q_are_items (fun _ _ _ _ _ _ us hl => match us, hl with | [_, _, _], _ => rfl) (fun ds M R h => by obtain ⟨x, a, b, rfl, _⟩ := h <;> rfl) (b_are_items GA L.b (PySem.W.mg_none_of X G z0) (PySem.W.mg_none_of X G z3) (PySem.W.mg_none_of X G z4) (PySem.W.mg_none_of X G z7)) (PySem.W.mg_of X G ax3)
  have Fx4 := fd_mk (st := s_shortest_loop) lx4 cx4 kx4
  have GD : GSl l.prog w K mg base := gd_pos Fx4 q_shortest_loop (fun _ _ _ _ _ _ us hl => match us, hl with | [_], _ => rfl) (fun ds M R h => by obtain ⟨x, rfl, _⟩ := h <;> rfl) (b_shortest_loop (PySem.W.mg_none_of X G z6) (PySem.W.mg_none_of X G z4)) (PySem.W.mg_of X G ax4)
  have Fx5 := fd_mk (st := s_normal_form) lx5 cx5 kx5
  have GE : GNf l.prog w K mg base := gd_pos Fx5 q_normal_form (fun _ _ _ _ _ _ us hl => match us, hl with | [_, _], _ => rfl) (fun ds M R h => by obtain ⟨x, rfl, _⟩ := h <;> rfl) (b_normal_form GD) (PySem.W.mg_of X G ax5)
  have Fx6 := fd_mk (st := s_stream_item) lx6 cx6 kx6
  have GF : GItem l.prog w K mg base := gd_pos Fx6 q_stream_item (fun _ _ _ _ _ _ us hl => match us, hl with | [_, _], _ => rfl) (fun ds M R h => by obtain ⟨x, i, rfl, _⟩ := h <;> rfl) (b_stream_item (PySem.W.mg_none_of X G z4)) (PySem.W.mg_of X G ax6)
  have Fx7 := fd_mk (st := s_stream_without) lx7 cx7 kx7
  have GG : GSwo l.prog w K mg base := gd_pos Fx7 q_stream_without (fun _ _ _ _ _ _ us hl => match us, hl with | [_, _], _ => rfl) (fun ds M R h => by obtain ⟨x, i, rfl, _⟩ := h <;> rfl) (b_stream_without (PySem.W.mg_none_of X G z4)) (PySem.W.mg_of X G ax7)
  have Fx8 := fd_mk (st := s_with_front) lx8 cx8 kx8
  have GH : GWf l.prog w K mg base := gd_pos Fx8 q_with_front (fun _ _ _ _ _ _ us hl => match us, hl with | [_, _], _ => rfl) (fun ds M R h => by obtain ⟨x, i, rfl, _⟩ := h <;> rfl) (b_with_front GF GG (PySem.W.mg_none_of X G z6) (PySem.W.mg_none_of X G z3) (PySem.W.mg_none_of X G z4) (PySem.W.mg_none_of X G z10)) (PySem.W.mg_of X G ax8)
  have Fx9 := fd_mk (st := s_checked_stream) lx9 cx9 kx9
  have GL : GCs l.prog w K mg base := gd_pos Fx9 q_checked_stream (fun _ _ _ _ _ _ us hl => match us, hl with | [_], _ => rfl) (fun ds M R h => by obtain ⟨x, rfl, _⟩ := h <;> rfl) (b_checked_stream L GE (PySem.W.mg_none_of X G z4) (PySem.W.mg_none_of X G z10)) (PySem.W.mg_of X G ax9)
  have Fx10 := fd_mk (st := c_Schedule_is_stream) lx10 cx10 kx10
  have XJ : FX l.prog w K mg base 3 fx10 fun ds _ => aIss ds := fnx_pos' Fx10 q_Schedule_is_stream (fun _ _ _ _ _ _ us hl => match us, hl with | [_], _ => rfl) (fun ds M R h => by obtain ⟨x, rfl, _⟩ := h; rfl) (b_is_stream L GC (PySem.W.mg_none_of X G z0) (PySem.W.mg_none_of X G z3) (PySem.W.mg_none_of X G z4))
  have CS : Cs l.prog w K mg base C pSx10 fx10 := ⟨⟨rd, ga⟩, ⟨ax10, ⟨_, bx10⟩, kx10⟩, XJ⟩
  have Fx11 := fd_mk (st := c_Schedule___init__) lx11 cx11 kx11
  have MK : Mks l.prog w K mg base C := ⟨⟨fx11, ⟨mkC, ax11, ix11, kcC⟩, fnx_kw Fx11 q_Schedule___init__ (fun _ _ _ _ _ _ us ws h1 h2 => match us, ws, h1, h2 with | [_, _], [_, _], _, _ => rfl) (fun ds M R h => by obtain ⟨p, a, sp, lv, M0, rfl, _⟩ := h; rfl) (b_init T L GA CS GF GE)⟩⟩
  have Fx12 := fd_mk (st := s_made_schedule) lx12 cx12 kx12
  have GM : GMd l.prog w K mg base C := gd_pos Fx12 q_made_schedule (fun _ _ _ _ _ _ us hl => match us, hl with | [_, _, _], _ => rfl) (fun ds M R h => by obtain ⟨a, s, x, rfl, _⟩ := h <;> rfl) (b_made_schedule T MK GL) (PySem.W.mg_of X G ax12)
  have Fx13 := fd_mk (st := c_Schedule_spine_at) lx13 cx13 kx13
  have XE : FX l.prog w K mg base 3 fx13 fun ds _ => aSat C ds := fnx_pos' Fx13 q_Schedule_spine_at (fun _ _ _ _ _ _ us hl => match us, hl with | [_, _], _ => rfl) (fun ds M R h => by obtain ⟨x, i, rfl, _⟩ := h; rfl) (b_spine_at T GB GF)
  have Fx14 := fd_mk (st := c_Schedule_level_at) lx14 cx14 kx14
  have XF : FX l.prog w K mg base 3 fx14 fun ds _ => aLat C ds := fnx_pos' Fx14 q_Schedule_level_at (fun _ _ _ _ _ _ us hl => match us, hl with | [_, _], _ => rfl) (fun ds M R h => by obtain ⟨x, i, rfl, _⟩ := h; rfl) (b_level_at T GB GF)
  have SM : Sm2 l.prog w K mg base C := ⟨⟨fx13, ⟨ax13, ix13, kx13⟩, XE⟩, ⟨fx14, ⟨ax14, ix14, kx14⟩, XF⟩⟩
  have Fx15 := fd_mk (st := c_Schedule___eq__) lx15 cx15 kx15
  have XI : FX l.prog w K mg base 1 fx15 fun ds _ => aEqS C ds := fnx_pos' Fx15 q_Schedule___eq__ (fun _ _ _ _ _ _ us hl => match us, hl with | [_, _], _ => rfl) (fun ds M R h => by obtain ⟨x, i, rfl, _⟩ := h; rfl) (b_eq T IS (PySem.W.mg_none_of X G z0))
  have OS : OwnS l.prog w K mg base C fx15 := ⟨XI, ax15, ix15, e6C, e7C⟩
  have Fx16 := fd_mk (st := c_Schedule_arity) lx16 cx16 kx16
  have YPA : FX l.prog w K mg base 1 fx16 fun ds _ => aAri C ds := fnx_pos' Fx16 q_Schedule_arity (fun _ _ _ _ _ _ us hl => match us, hl with | [_], _ => rfl) (fun ds M R h => by obtain ⟨x, rfl, _⟩ := h; rfl) (b_arity T)
  have PA : PrA l.prog w K mg base C := ⟨⟨pNx16, fx16, ⟨ax16, gx16, tx16, _, bx16⟩, YPA⟩⟩
  have Fx17 := fd_mk (st := c_Schedule_spine) lx17 cx17 kx17
  have YPS_ : FX l.prog w K mg base 1 fx17 fun ds _ => aSpi C ds := fnx_pos' Fx17 q_Schedule_spine (fun _ _ _ _ _ _ us hl => match us, hl with | [_], _ => rfl) (fun ds M R h => by obtain ⟨x, rfl, _⟩ := h; rfl) (b_spine T)
  have PS_ : PrS l.prog w K mg base C := ⟨⟨pNx17, fx17, ⟨ax17, gx17, tx17, _, bx17⟩, YPS_⟩⟩
  have Fx18 := fd_mk (st := c_Schedule_levels) lx18 cx18 kx18
  have YPL_ : FX l.prog w K mg base 1 fx18 fun ds _ => aLev C ds := fnx_pos' Fx18 q_Schedule_levels (fun _ _ _ _ _ _ us hl => match us, hl with | [_], _ => rfl) (fun ds M R h => by obtain ⟨x, rfl, _⟩ := h; rfl) (b_levels T)
  have PL_ : PrL l.prog w K mg base C := ⟨⟨pNx18, fx18, ⟨ax18, gx18, tx18, _, bx18⟩, YPL_⟩⟩
  have XBScheduleError : XBase K mg "ScheduleError" "ValueError.__init__" := ⟨⟨BScheduleError, ⟨rBScheduleError, gBScheduleError⟩, vBScheduleError, PySem.W.mg_of X G aBScheduleError⟩, by decide +kernel⟩
  have Fx19 := fd_mk (st := c_InvalidNumber___init__) lx19 cx19 kx19
  have TEInvalidNumber : XCl K EInvalidNumber "ValueError" "ValueError.__new__" "ValueError.__init__" [.type "ValueError", .type "Exception", .type "BaseException", .type "object"] := ⟨PySem.F.excBase_ValueError, PySem.F.store_ValueError, iEInvalidNumber, oEInvalidNumber, hEInvalidNumber, sEInvalidNumber, xEInvalidNumber, tEInvalidNumber, kEInvalidNumber⟩
  have XKInvalidNumber : XMk l.prog w K mg base "InvalidNumber" EInvalidNumber 1 (g1 "number") := ⟨⟨_, _, _, _, _, g1V "number", TEInvalidNumber, ax19, tyEInvalidNumber, xi_InvalidNumber Fx19 TEInvalidNumber XBScheduleError nEInvalidNumber, PySem.W.mg_of X G aEInvalidNumber, g1_rel⟩, by decide⟩
  have ECInvalidNumber : L2.ExcC K EInvalidNumber := ⟨gEInvalidNumber, qEInvalidNumber, xEInvalidNumber, hEInvalidNumber, cEInvalidNumber, xo1, xo2, mEInvalidNumber⟩
  have XFInvalidNumber : XfC K EInvalidNumber := ⟨gEInvalidNumber, qEInvalidNumber, xEInvalidNumber, hEInvalidNumber⟩
  have ITInvalidNumber : PySem.W.kitOne K (.ref EInvalidNumber) (.ref EInvalidNumber) = some true := if_pos (by simp)
  have Fx20 := fd_mk (st := c_InvalidSchedule___init__) lx20 cx20 kx20
  have TEInvalidSchedule : XCl K EInvalidSchedule "ValueError" "ValueError.__new__" "ValueError.__init__" [.type "ValueError", .type "Exception", .type "BaseException", .type "object"] := ⟨PySem.F.excBase_ValueError, PySem.F.store_ValueError, iEInvalidSchedule, oEInvalidSchedule, hEInvalidSchedule, sEInvalidSchedule, xEInvalidSchedule, tEInvalidSchedule, kEInvalidSchedule⟩
  have XKInvalidSchedule : XMk l.prog w K mg base "InvalidSchedule" EInvalidSchedule 1 (g1 "part") := ⟨⟨_, _, _, _, _, g1V "part", TEInvalidSchedule, ax20, tyEInvalidSchedule, xi_InvalidSchedule Fx20 TEInvalidSchedule XBScheduleError nEInvalidSchedule, PySem.W.mg_of X G aEInvalidSchedule, g1_rel⟩, by decide⟩
  have ECInvalidSchedule : L2.ExcC K EInvalidSchedule := ⟨gEInvalidSchedule, qEInvalidSchedule, xEInvalidSchedule, hEInvalidSchedule, cEInvalidSchedule, xo1, xo2, mEInvalidSchedule⟩
  have XFInvalidSchedule : XfC K EInvalidSchedule := ⟨gEInvalidSchedule, qEInvalidSchedule, xEInvalidSchedule, hEInvalidSchedule⟩
  have ITInvalidSchedule : PySem.W.kitOne K (.ref EInvalidSchedule) (.ref EInvalidSchedule) = some true := if_pos (by simp)
  have GAN : GIntN l.prog w K mg base := by
    obtain ⟨mv, kb⟩ := FunD.kbinds0 (ps := ["value", "low", "high"]) Fx1 1 ["low", "high"] [] (fun us _ ws => us ++ ws) (by simp) (fun _ h => nomatch h) (fun r1 _ r2 => r1.append r2)
      (fun D doc pm an cdv ct us mv ws h1 h2 h3 => match us, mv, ws, h1, h2, h3 with | [_], [], [_, _], _, _, _ => rfl)
    exact ⟨⟨fx1, fnx_kbn (k := 0) (fun ds es => ds ++ es) Fx1 q_is_integer kb (fun H ds vs es zs r1 r2 _ _ => r1.append r2) (fun ds M R ⟨n, lo, hi, e, _⟩ => by rw [e]; rfl) (b_is_integerN B), (PySem.W.mg_of X G ax1), kx1⟩⟩
  have GCX : GChkX l.prog w K mg base EInvalidNumber := ⟨⟨fx2, fne_dflG (n := 2) (ks := []) (fun us _ its => us ++ its) Fx2 q_check_integer (List.cons_ne_nil _ _) [.non] (fun H => .cons .non .nil) (fun T' kV doc pm an cdv ct us ws its h1 h2 h3 => match us, ws, its, h1, h2, h3 with | [_, _], [], [_], _, _, _ => ⟨_, rfl, rfl⟩) (fun r1 _ r2 => r1.append r2) (fun r1 _ r2 => r1.append r2) (fun ds M R PE h => by obtain ⟨d, lo, hi, rfl, _⟩ := h; rfl) (e_check_integer GA GAN XKInvalidNumber), (PySem.W.mg_of X G ax2), kx2⟩⟩
  have GX3 : GChkX3 l.prog w K mg base EInvalidNumber := ⟨⟨fx2, (fne_dflG (n := 3) (ks := []) (fun us _ _ => us) Fx2 q_check_integer (List.cons_ne_nil _ _) [.non] (fun H => .cons .non .nil) (fun T' kV doc pm an cdv ct us ws its h1 h2 h3 => match us, ws, its, h1, h2, h3 with | [_, _, _], [], [_], _, _, _ => ⟨_, rfl, rfl⟩) (fun r1 _ _ => r1) (fun r1 _ _ => r1) (fun ds M R PE h => by obtain ⟨d, lo, hi, rfl, _⟩ := h; rfl) (e_check_integer GA GAN XKInvalidNumber)).imp (fun ds es M R PE h => ⟨by obtain ⟨d, lo, hi, rfl, _⟩ := h; rfl, h⟩), (PySem.W.mg_of X G ax2), kx2⟩⟩
  have Fx21 := fd_mk (st := s_keyword_index) lx21 cx21 kx21
  have GKi : GKix l.prog w K mg base := gd_pos Fx21 q_keyword_index (fun _ _ _ _ _ _ us hl => match us, hl with | [_], _ => rfl) (fun ds M R h => by obtain ⟨x, rfl, _⟩ := h <;> rfl) (b_keyword_index (k := 0) B (PySem.W.mg_none_of X G z12) L) (PySem.W.mg_of X G ax21)
  have Fx22 := fd_mk (st := s_replaced_items) lx22 cx22 kx22
  have GRi : GRit l.prog w K mg base := gd_pos Fx22 q_replaced_items (fun _ _ _ _ _ _ us hl => match us, hl with | [_, _], _ => rfl) (fun ds M R h => by obtain ⟨s, p, i, cs, rfl, _⟩ := h <;> rfl) (b_replaced_items B GH) (PySem.W.mg_of X G ax22)
  have Fx23 := fd_mk (st := c_Schedule_replaced) lx23 cx23 kx23
  have ZC2 : Cr K mg C2 := ⟨⟨pgC2, hdC2, poC2, saC2⟩, nC20, nC21, nC22, nC23, nC24, ⟨_, ⟨mxC2, ⟨_, rfl⟩, mgC2, by decide⟩⟩⟩
  have gC2 : mg "Counter" = some (.ref C2) := PySem.W.mg_of X G aC2
  have Fx24 := fd_mk (st := s_check_at_least) lx24 cx24 kx24
  have GCL : GCal l.prog w K mg base := gd_pos Fx24 q_check_at_least (fun _ _ _ _ _ _ us hl => match us, hl with | [_, _], _ => rfl) (fun ds M R h => by obtain ⟨n, lo, rfl, _⟩ := h <;> rfl) (b_check_at_least B) (PySem.W.mg_of X G ax24)
  have Fx25 := fd_mk (st := c_Counter_grow) lx25 cx25 kx25
  have QCGrC2 : FX l.prog w K mg base 4 fx25 fun ds _ => aGrw C C2 ds := fnx_pos' Fx25 q_Counter_grow (fun _ _ _ _ _ _ us hl => match us, hl with | [_, _], _ => rfl) (fun ds M R h => by obtain ⟨i, c, p1, p2, p3, S, h, n, st, rfl, _⟩ := h; rfl) (b_grow B T ZC2 SM PA)
  have CGrC2 : ∃ f, Meth K C2 "grow" f ∧ FX l.prog w K mg base 4 f fun ds _ => aGrw C C2 ds := ⟨fx25, ⟨ax25, ix25, kx25⟩, QCGrC2⟩
  have Fx26 := fd_mk (st := c_Counter_first_place) lx26 cx26 kx26
  have QCFpC2 : FX l.prog w K mg base 4 fx26 fun ds _ => aFp C C2 ds := fnx_pos' Fx26 q_Counter_first_place (fun _ _ _ _ _ _ us hl => match us, hl with | [_], _ => rfl) (fun ds M R h => by obtain ⟨i, c, p1, p2, p3, S, h, n, rfl, _⟩ := h; rfl) (b_first_place T ZC2 SM)
  have CFpC2 : ∃ f, Meth K C2 "first_place" f ∧ FX l.prog w K mg base 4 f fun ds _ => aFp C C2 ds := ⟨fx26, ⟨ax26, ix26, kx26⟩, QCFpC2⟩
  have Fx27 := fd_mk (st := c_Counter_finished_inside) lx27 cx27 kx27
  have QCFiC2 : FX l.prog w K mg base 4 fx27 fun ds _ => aIns C C2 ds := fnx_pos' Fx27 q_Counter_finished_inside (fun _ _ _ _ _ _ us hl => match us, hl with | [_, _, _], _ => rfl) (fun ds M R h => by obtain ⟨i, c, p1, p2, p3, S, h, n, t, off, rfl, _⟩ := h; rfl) (b_finished_inside B T ZC2 SM)
  have CFiC2 : ∃ f, Meth K C2 "finished_inside" f ∧ FX l.prog w K mg base 4 f fun ds _ => aIns C C2 ds := ⟨fx27, ⟨ax27, ix27, kx27⟩, QCFiC2⟩
  have CNC2 : Cfn l.prog w K mg base C C2 := ⟨CFpC2, CGrC2, CFiC2⟩
  have Fx28 := fd_mk (st := c_Counter_count_finished) lx28 cx28 kx28
  have QCCfC2 : FX l.prog w K mg base 5 fx28 fun ds _ => aCf C C2 ds := fnx_pos' Fx28 q_Counter_count_finished (fun _ _ _ _ _ _ us hl => match us, hl with | [_, _], _ => rfl) (fun ds M R h => by obtain ⟨i, c, p1, p2, p3, S, h, n, x, rfl, _⟩ := h; rfl) (b_count_finished B T ZC2 SM CNC2)
  have CCfC2 : ∃ f, Meth K C2 "count_finished" f ∧ FX l.prog w K mg base 5 f fun ds _ => aCf C C2 ds := ⟨fx28, ⟨ax28, ix28, kx28⟩, QCCfC2⟩
  have Fx29 := fd_mk (st := c_Counter_finishing) lx29 cx29 kx29
  have QCFgC2 : FX l.prog w K mg base 5 fx29 fun ds _ => aFin C C2 ds := fnx_pos' Fx29 q_Counter_finishing (fun _ _ _ _ _ _ us hl => match us, hl with | [_, _], _ => rfl) (fun ds M R h => by obtain ⟨i, c, p1, p2, p3, S, h, n, b, x, rfl, _⟩ := h; rfl) (b_finishing B T ZC2 SM PA CNC2)
  have CFgC2 : ∃ f, Meth K C2 "finishing" f ∧ FX l.prog w K mg base 5 f fun ds _ => aFin C C2 ds := ⟨fx29, ⟨ax29, ix29, kx29⟩, QCFgC2⟩
  have CMC2 : Cfm l.prog w K mg base C C2 := ⟨CCfC2, CFgC2⟩
  have Fx30 := fd_mk (st := c_Counter_value) lx30 cx30 kx30
  have QCVaC2 : FX l.prog w K mg base 6 fx30 fun ds _ => aCf C C2 ds := fnx_pos' Fx30 q_Counter_value (fun _ _ _ _ _ _ us hl => match us, hl with | [_, _], _ => rfl) (fun ds M R h => by obtain ⟨i, c, p1, p2, p3, S, h, n, x, rfl, _⟩ := h; rfl) (b_value ZC2 GCL CMC2)
  have CVaC2 : ∃ f, Meth K C2 "value" f ∧ FX l.prog w K mg base 6 f fun ds _ => aCf C C2 ds := ⟨fx30, ⟨ax30, ix30, kx30⟩, QCVaC2⟩
  have Fx31 := fd_mk (st := c_Counter_place) lx31 cx31 kx31
  have QCPlC2 : FX l.prog w K mg base 6 fx31 fun ds _ => aFin C C2 ds := fnx_pos' Fx31 q_Counter_place (fun _ _ _ _ _ _ us hl => match us, hl with | [_, _], _ => rfl) (fun ds M R h => by obtain ⟨i, c, p1, p2, p3, S, h, n, b, x, rfl, _⟩ := h; rfl) (b_place ZC2 GCL CMC2)
  have CPlC2 : ∃ f, Meth K C2 "place" f ∧ FX l.prog w K mg base 6 f fun ds _ => aFin C C2 ds := ⟨fx31, ⟨ax31, ix31, kx31⟩, QCPlC2⟩
  have CV : Cvp l.prog w K mg base C C2 := ⟨CVaC2, CPlC2⟩
  have Fx32 := fd_kw1 (st := c_Counter___init__) lx32 cx32 kx32 dkx32 y3
  have IBC2 := b_cinit (f := fx32) B T IS ZC2 SM GCL CGrC2
  have I1C2 : FnX l.prog w K mg base 5 fx32 ["height"] (spX K fun ds es M R => ds.length = 2 ∧ aCin C C2 (ds ++ es) M R) := by
    obtain ⟨mv, kb⟩ := FunD.kbinds0 (ps := ["self", "schedule", "height"]) Fx32 2 ["height"] [] (fun us _ ws => us ++ ws) (by simp) (fun _ h => nomatch h) (fun r1 _ r2 => r1.append r2)
      (fun D doc pm an cdv ct us mv ws h1 h2 h3 => match us, mv, ws, h1, h2, h3 with | [_, _], [], [_], _, _, _ => rfl)
    exact fnx_kbn (k := 4) (fun ds es => ds ++ es) Fx32 q_Counter___init__ kb (fun H ds vs es zs r1 r2 _ _ => r1.append r2) (fun ds M R h => by obtain ⟨p, S, h, M0, rfl, _⟩ := h; rfl) IBC2
  have I2C2 : FnX l.prog w K mg base 5 fx32 [] (spX K fun ds _ M R => ds.length = 2 ∧ aCin C C2 (ds ++ [.int 0]) M R) := by
    obtain ⟨mv, kb⟩ := FunD.kbinds0 (ps := ["self", "schedule", "height"]) Fx32 2 [] [("height", .int 0)] (fun us mv _ => us ++ mv) (by simp) (fun q hq => hq) (fun r1 r2 _ => r1.append r2)
      (fun D doc pm an cdv ct us mv ws h1 h2 h3 => match us, mv, ws, h1, h2, h3 with | [_, _], [_], [], _, _, _ => ⟨_, _, _, _, _, _, rfl, rfl, rfl⟩)
    exact fnx_kbn (k := 4) (fun ds _ => ds ++ [.int 0]) Fx32 q_Counter___init__ kb (fun H ds vs es zs r1 r2 _ _ => r1.append (.cons (.int 0) .nil)) (fun ds M R h => by obtain ⟨p, S, h, M0, rfl, _⟩ := h; rfl) IBC2
  have MKCC2 : Mkc l.prog w K mg base C C2 := ⟨⟨fx32, ⟨mkC2, ax32, ix32, kcC2⟩, I1C2, I2C2⟩⟩
  have NC : NdC K mg CN := ⟨PySem.W.mg_of X G aCN, ⟨rCN, gCN⟩, ⟨_, vCN, ⟨_, rfl⟩⟩⟩
  have Fx33 := fd_mk (st := s_is_integer_nodes) lx33 cx33 kx33
  have NI : GInn l.prog w K mg base := gd_pos Fx33 q_is_integer_nodes (fun _ _ _ _ _ _ us hl => match us, hl with | [_, _], _ => rfl) (fun ds M R h => by obtain ⟨n, lo, rfl, _⟩ := h <;> rfl) (b_is_integer_nodes (k := 0) B) (PySem.W.mg_of X G ax33)
  have Fx34 := fd_mk (st := s_need_schedule) lx34 cx34 kx34
  have NS : GNsc l.prog w K mg base C := gd_pos Fx34 q_need_schedule (fun _ _ _ _ _ _ us hl => match us, hl with | [_], _ => rfl) (fun ds M R h => by obtain ⟨S, rfl, _⟩ := h <;> rfl) (b_need_schedule (k := 0) B T IS) (PySem.W.mg_of X G ax34)
  have Fx35 := fd_mk (st := s_sizes_up_to) lx35 cx35 kx35
  have SZ : GSzu l.prog w K mg base C := gd_pos Fx35 q_sizes_up_to (fun _ _ _ _ _ _ us hl => match us, hl with | [_, _], _ => rfl) (fun ds M R h => by obtain ⟨S, h, rfl, _⟩ := h <;> rfl) (b_sizes_up_to B T SM PA) (PySem.W.mg_of X G ax35)
  have Fx36 := fd_mk (st := s_end_of_stage) lx36 cx36 kx36
  have EO : GEos l.prog w K mg base C := gd_pos Fx36 q_end_of_stage (fun _ _ _ _ _ _ us hl => match us, hl with | [_, _, _], _ => rfl) (fun ds M R h => by obtain ⟨S, n, st, rfl, _⟩ := h <;> rfl) (b_end_of_stage B T SM PA) (PySem.W.mg_of X G ax36)
  have Fx37 := fd_mk (st := s_need_height) lx37 cx37 kx37
  have NH : GNht l.prog w K mg base := gd_pos Fx37 q_need_height (fun _ _ _ _ _ _ us hl => match us, hl with | [_], _ => rfl) (fun ds M R h => by obtain ⟨h, rfl, _⟩ := h <;> rfl) (b_need_height NC NI) (PySem.W.mg_of X G ax37)
  have Fx38 := fd_mk (st := s_stage_end) lx38 cx38 kx38
  have SE : GSte l.prog w K mg base C := gd_pos Fx38 q_stage_end (fun _ _ _ _ _ _ us hl => match us, hl with | [_, _], _ => rfl) (fun ds M R h => by obtain ⟨S, h, rfl, _⟩ := h <;> rfl) (b_stage_end NS NH SZ EO) (PySem.W.mg_of X G ax38)
  have XVB := va_box (C := C) CVaC2
  have XPB := pl_box (C := C) CPlC2
  have XRS : RplS l.prog w K mg base C EInvalidNumber EInvalidSchedule := (mts_kwd (pd := "changes") Fx23 q_Schedule_replaced ⟨ax23, ix23, kx23⟩ ⟨_, _, _, _, lx23⟩ rfl rfl rfl rfl rfl (b_replaced T L GKi GB3 GX3 GRi GM XKInvalidSchedule)).toB ⟨ax23, ix23, kx23⟩ ⟨bgx23, btx23⟩
  have Fx39 : FunD K "is_count" "is_count" (defArgs s_is_count) (defBody s_is_count) (defScope s_is_count) [.int 0] [] fx39 _ := ⟨⟨ocx39, odx39, .ref T39, kVx39, dcx39, pmx39, anx39, cdx39, ctx39, slx39, rfl, lx39, cx39, .inr ⟨List.cons_ne_nil _ _, T39, _, [.int 0 tk39], k039, rfl, dx39, rfl, .cons ⟨_, rfl⟩ .nil⟩, .inl rfl⟩, kx39⟩
  have GIC : GIct l.prog w K mg base := ⟨⟨fx39, (fnx_dfl (n := 1) (dd := [.int 0]) Fx39 q_is_count (List.cons_ne_nil _ _) (fun H => .cons (.int 0) .nil) (fun T' kV doc pm an cdv ct us its h1 h2 => match us, its, h1, h2 with | [_], [_], _, _ => ⟨_, rfl, rfl⟩) (fun ds M R h => by obtain ⟨n, lo, rfl, _⟩ := h; rfl) (b_is_count (k := 0) B)).imp (fun ds es M R ⟨n, e, hp⟩ => ⟨by subst e; rfl, n, 0, by subst e; rfl, hp⟩), (PySem.W.mg_of X G ax39), kx39⟩⟩
  have GIC2 : GIc2 l.prog w K mg base := ⟨⟨fx39, (fnx_dflG (n := 2) (ks := []) (fun us _ _ => us) Fx39 q_is_count (List.cons_ne_nil _ _) [.int 0] (fun H => .cons (.int 0) .nil) (fun T' kV doc pm an cdv ct us ws its h1 h2 h3 => match us, ws, its, h1, h2, h3 with | [_, _], [], [_], _, _, _ => ⟨_, rfl, rfl⟩) (fun r1 _ _ => r1) (fun r1 _ _ => r1) (fun ds M R h => by obtain ⟨n, lo, rfl, _⟩ := h; rfl) (b_is_count (k := 0) B)).imp (fun ds es M R h => ⟨by obtain ⟨n, lo, rfl, _⟩ := h; rfl, h⟩), (PySem.W.mg_of X G ax39), kx39⟩⟩
  have Fx40 := fd_mk (st := s_least_value) lx40 cx40 kx40
  have GLS : GLsv l.prog w K mg base := gd_pos Fx40 q_least_value (fun _ _ _ _ _ _ us hl => match us, hl with | [_], _ => rfl) (fun ds M R h => by obtain ⟨j, rfl, _⟩ := h <;> rfl) (b_least_value (k := 0)) (PySem.W.mg_of X G ax40)
  have Fx41 := fd_mk (st := s_power_of) lx41 cx41 kx41
  have GPO : GPof l.prog w K mg base := gd_pos Fx41 q_power_of (fun _ _ _ _ _ _ us hl => match us, hl with | [_, _], _ => rfl) (fun ds M R h => by obtain ⟨a, e, rfl, _⟩ := h <;> rfl) (b_power_of (k := 0) B) (PySem.W.mg_of X G ax41)
  have Fx42 := fd_mk (st := s_first_leaf) lx42 cx42 kx42
  have GFL : GFlf l.prog w K mg base := gd_pos Fx42 q_first_leaf (fun _ _ _ _ _ _ us hl => match us, hl with | [_, _], _ => rfl) (fun ds M R h => by obtain ⟨a, j, rfl, _⟩ := h <;> rfl) (b_first_leaf B GPO) (PySem.W.mg_of X G ax42)
  have IR : ∀ H, Rep K H (.tup (nmL (List.range 24))) (.ref wT1) := fun H => by
    rw [nm24]
    exact rep_wt (vs := [.str "d0", .str "d1", .str "d2", .str "d3", .str "d4", .str "d5", .str "d6", .str "d7", .str "d8", .str "d9", .str "d10", .str "d11", .str "w0", .str "w1", .str "w2", .str "w3", .str "w4", .str "w5", .str "w6", .str "w7", .str "w8", .str "w9", .str "w10", .str "w11"]) wl1 rfl (Nat.le_of_ble_eq_true rfl) (.cons ⟨_, rfl⟩ (.cons ⟨_, rfl⟩ (.cons ⟨_, rfl⟩ (.cons ⟨_, rfl⟩ (.cons ⟨_, rfl⟩ (.cons ⟨_, rfl⟩ (.cons ⟨_, rfl⟩ (.cons ⟨_, rfl⟩ (.cons ⟨_, rfl⟩ (.cons ⟨_, rfl⟩ (.cons ⟨_, rfl⟩ (.cons ⟨_, rfl⟩ (.cons ⟨_, rfl⟩ (.cons ⟨_, rfl⟩ (.cons ⟨_, rfl⟩ (.cons ⟨_, rfl⟩ (.cons ⟨_, rfl⟩ (.cons ⟨_, rfl⟩ (.cons ⟨_, rfl⟩ (.cons ⟨_, rfl⟩ (.cons ⟨_, rfl⟩ (.cons ⟨_, rfl⟩ (.cons ⟨_, rfl⟩ (.cons ⟨_, rfl⟩ .nil)))))))))))))))))))))))) (.cons (.str "d0") (.cons (.str "d1") (.cons (.str "d2") (.cons (.str "d3") (.cons (.str "d4") (.cons (.str "d5") (.cons (.str "d6") (.cons (.str "d7") (.cons (.str "d8") (.cons (.str "d9") (.cons (.str "d10") (.cons (.str "d11") (.cons (.str "w0") (.cons (.str "w1") (.cons (.str "w2") (.cons (.str "w3") (.cons (.str "w4") (.cons (.str "w5") (.cons (.str "w6") (.cons (.str "w7") (.cons (.str "w8") (.cons (.str "w9") (.cons (.str "w10") (.cons (.str "w11") .nil))))))))))))))))))))))))
  have G_ : GrX K mg CG := ⟨⟨pgCG, hdCG, poCG, saCG⟩, nCG0, nCG1, nCG2, nCG3, PySem.W.mg_of X G aCG, ⟨rCG, gCG⟩, ⟨.ref wT1, .ref wT1, ⟨vCG, rfl⟩, IR⟩⟩
  have Fx43 := fd_mk (st := c_Growth_is_frozen) lx43 cx43 kx43
  have YXIF : FX l.prog w K mg base 6 fx43 fun ds _ => aIfz C CG ds := fnx_pos' Fx43 q_Growth_is_frozen (fun _ _ _ _ _ _ us hl => match us, hl with | [_, _], _ => rfl) (fun ds M R h => by obtain ⟨i, g, q, S, x, y, j, rfl, _⟩ := h; rfl) (b_gfrozen B T SM G_ SE)
  have XIF : Mt l.prog w K mg base CG 6 "is_frozen" (aIfz C CG) := ⟨fx43, ⟨ax43, ix43, kx43⟩, YXIF⟩
  have Fx44 := fd_mk (st := c_Growth_state) lx44 cx44 kx44
  have YXST : FX l.prog w K mg base 1 fx44 fun ds _ => aStt C CG ds := fnx_pos' Fx44 q_Growth_state (fun _ _ _ _ _ _ us hl => match us, hl with | [_], _ => rfl) (fun ds M R h => by obtain ⟨i, g, q, S, x, y, rfl, _⟩ := h; rfl) (b_gstate (k := 0) G_)
  have XST : Mt l.prog w K mg base CG 1 "state" (aStt C CG) := ⟨fx44, ⟨ax44, ix44, kx44⟩, YXST⟩
  have Fx45 := fd_kw1 (st := c_Growth___init__) lx45 cx45 kx45 dkx45 yg
  have IBG := b_ginit (f := fx45) B T IS G_ GIC
  have MKG : Mkg l.prog w K mg base C CG := by
    refine ⟨⟨fx45, ⟨mkCG, ax45, ix45, kcCG⟩, ?_⟩⟩
    obtain ⟨mv, kb⟩ := FunD.kbinds0 (ps := ["self", "schedule", "label"]) Fx45 2 ["label"] [] (fun us _ ws => us ++ ws) (by simp) (fun _ h => nomatch h) (fun r1 _ r2 => r1.append r2)
      (fun D doc pm an cdv ct us mv ws h1 h2 h3 => match us, mv, ws, h1, h2, h3 with | [_, _], [], [_], _, _, _ => rfl)
    exact fnx_kbn (k := 1) (fun ds es => ds ++ es) Fx45 q_Growth___init__ kb (fun H ds vs es zs r1 r2 _ _ => r1.append r2) (fun ds M R h => by obtain ⟨p, S, n, M0, rfl, _⟩ := h; rfl) IBG
  have ML : MxL K C := ⟨⟨rd, ga⟩, ⟨_, ⟨vmL, ⟨_, rfl⟩⟩⟩⟩
  have Fx46 := fd_mk (st := s_is_item_value) lx46 cx46 kx46
  have GIV : GIiv l.prog w K mg base := gd_pos Fx46 q_is_item_value (fun _ _ _ _ _ _ us hl => match us, hl with | [_, _], _ => rfl) (fun ds M R h => by obtain ⟨j, v, rfl, _⟩ := h <;> rfl) (b_is_item_value T ML GIC2 GLS) (PySem.W.mg_of X G ax46)
  have Fx47 := fd_mk (st := s_influence) lx47 cx47 kx47
  have GIN : GInf7 l.prog w K mg base := gd_pos Fx47 q_influence (fun _ _ _ _ _ _ us hl => match us, hl with | [_, _, _], _ => rfl) (fun ds M R h => by obtain ⟨a, j, b, rfl, _⟩ := h <;> rfl) (b_influence B GPO GFL) (PySem.W.mg_of X G ax47)
  have Fx48 := fd_mk (st := c_Growth_is_item) lx48 cx48 kx48
  have YIT : FX l.prog w K mg base 1 fx48 fun ds _ => aIsi7 ds := fnx_pos' Fx48 q_Growth_is_item (fun _ _ _ _ _ _ us hl => match us, hl with | [_], _ => rfl) (fun ds M R h => by obtain ⟨j, rfl, _⟩ := h; rfl) (b_gis_item (k := 0) B (PySem.W.mg_none_of X G z12) G_)
  have SI_ : SIsi l.prog w K mg base CG := ⟨⟨pSx48, fx48, ⟨ax48, ⟨_, bx48⟩, kx48⟩, YIT⟩⟩
  have Fx49 := fd_mk (st := c_Growth_item_for) lx49 cx49 kx49
  have YXIO : FX l.prog w K mg base 8 fx49 fun ds _ => aIfo C CG ds := fnx_pos' Fx49 q_Growth_item_for (fun _ _ _ _ _ _ us hl => match us, hl with | [_, _, _, _], _ => rfl) (fun ds M R h => by obtain ⟨i, g, q, S, x, y, j, b, pv, rfl, _⟩ := h; rfl) (b_gitem_for B T PA SM G_ ZC2 gC2 MKCC2 XPB SI_ XIF GIC GIC2 GIV GIN)
  have XIO : Mt l.prog w K mg base CG 8 "item_for" (aIfo C CG) := ⟨fx49, ⟨ax49, ix49, kx49⟩, YXIO⟩
  have XBStateError : XBase K mg "StateError" "RuntimeError.__init__" := ⟨⟨BStateError, ⟨rBStateError, gBStateError⟩, vBStateError, PySem.W.mg_of X G aBStateError⟩, by decide +kernel⟩
  have Fx50 := fd_mk (st := c_Frozen___init__) lx50 cx50 kx50
  have TEFrozen : XCl K EFrozen "RuntimeError" "RuntimeError.__new__" "RuntimeError.__init__" [.type "RuntimeError", .type "Exception", .type "BaseException", .type "object"] := ⟨PySem.F.excBase_RuntimeError, PySem.F.store_RuntimeError, iEFrozen, oEFrozen, hEFrozen, sEFrozen, xEFrozen, tEFrozen, kEFrozen⟩
  have XKFrozen : XMk l.prog w K mg base "Frozen" EFrozen 1 (g1 "item") := ⟨⟨_, _, _, _, _, g1V "item", TEFrozen, ax50, tyEFrozen, xi_Frozen Fx50 TEFrozen XBStateError nEFrozen, PySem.W.mg_of X G aEFrozen, g1_rel⟩, by decide⟩
  have ECFrozen : L2.ExcC K EFrozen := ⟨gEFrozen, qEFrozen, xEFrozen, hEFrozen, cEFrozen, xo1, xo2, mEFrozen⟩
  have XFFrozen : XfC K EFrozen := ⟨gEFrozen, qEFrozen, xEFrozen, hEFrozen⟩
  have ITFrozen : PySem.W.kitOne K (.ref EFrozen) (.ref EFrozen) = some true := if_pos (by simp)
  have EXM : PySem.W.exmOne K (.ref EFrozen) (.ref EFrozen) = some true := PySem.W.exm_ref xEFrozen hEFrozen tEFrozen zEFrozenEFrozen
  have XIE : MtE l.prog w K mg base CG 8 "item_for" [] (fun ds _ => aIfoX C CG EFrozen ds) := ⟨fx49, ⟨ax49, ix49, kx49⟩, fne_pos Fx49 q_Growth_item_for (fun _ _ _ _ _ _ us hl => match us, hl with | [_, _, _, _], _ => rfl) (fun ds M R PE h => by obtain ⟨i, g, q, S, x, y, j, u, v, rfl, _⟩ := h; rfl) (e_gitem_for G_ XKFrozen SI_ XIF)⟩
  have XZ_ : XE2 K mg "Frozen" "item" EFrozen := ⟨PySem.W.mg_of X G aEFrozen, EXM, XFFrozen, nEFrozen⟩
  have Fx51 := fd_mk (st := c_Growth_checked) lx51 cx51 kx51
  have YXCK : FX l.prog w K mg base 8 fx51 fun ds _ => aCkd C CG ds := fnx_pos' Fx51 q_Growth_checked (fun _ _ _ _ _ _ us hl => match us, hl with | [_, _], _ => rfl) (fun ds M R h => by obtain ⟨i, g, q, D, S, x, y, j, v, M0, rfl, _⟩ := h; rfl) (b_gchecked B T G_ SI_ XIF GIV XRS)
  have XCK : Mt l.prog w K mg base CG 8 "checked" (aCkd C CG) := ⟨fx51, ⟨ax51, ix51, kx51⟩, YXCK⟩
  have Fx52 := fd_mk (st := c_Growth_make) lx52 cx52 kx52
  have YXMK : FX l.prog w K mg base 9 fx52 fun ds _ => aMke C CG ds := fnx_pos' Fx52 q_Growth_make (fun _ _ _ _ _ _ us hl => match us, hl with | [_, _, _], _ => rfl) (fun ds M R h => by obtain ⟨i, g, q, S, x, y, j, v, rfl, _⟩ := h; rfl) (b_gmake G_ XCK)
  have XMK : Mt l.prog w K mg base CG 9 "make" (aMke C CG) := ⟨fx52, ⟨ax52, ix52, kx52⟩, YXMK⟩
  have Fx53 := fd_mk (st := c_Growth_load_state) lx53 cx53 kx53
  have YXLD : FX l.prog w K mg base 1 fx53 fun ds _ => aLds C CG ds := fnx_pos' Fx53 q_Growth_load_state (fun _ _ _ _ _ _ us hl => match us, hl with | [_, _], _ => rfl) (fun ds M R h => by obtain ⟨i, g, q, S, x, y, S', x', y', rfl, _⟩ := h; rfl) (b_gload (k := 0) G_)
  have XLD : Mt l.prog w K mg base CG 1 "load_state" (aLds C CG) := ⟨fx53, ⟨ax53, ix53, kx53⟩, YXLD⟩
  have Fx54 := fd_mk (st := c_Growth_copy) lx54 cx54 kx54
  have YXCY : FX l.prog w K mg base 4 fx54 fun ds _ => aCpy C CG ds := fnx_pos' Fx54 q_Growth_copy (fun _ _ _ _ _ _ us hl => match us, hl with | [_], _ => rfl) (fun ds M R h => by obtain ⟨i, i2, g, q, S, x, y, hs, rfl, _⟩ := h; rfl) (b_gcopy B G_ MKG XST XLD)
  have XCY : Mt l.prog w K mg base CG 4 "copy" (aCpy C CG) := ⟨fx54, ⟨ax54, ix54, kx54⟩, YXCY⟩
  have Fx55 := fd_mk (st := c_Growth_apply) lx55 cx55 kx55
  have XAP : Mt l.prog w K mg base CG 10 "apply" (aAplS C CG) := ⟨fx55, ⟨ax55, ix55, kx55⟩, (fnx_starP (pa := "self") (pv := "changes") Fx55 q_Growth_apply (fun kV doc pm an cdv ct u us => by cases us <;> rfl) (b_gapply B G_ SI_ XST XLD XCY XMK)).impL (fun ds es M R el ⟨d, ds', h⟩ => ⟨d, ds', h.1, List.length_eq_zero_iff.mp el, h.2⟩)⟩
  have Fx56 := fd_mk (st := c_Growth_schedule) lx56 cx56 kx56
  have YPSC : FX l.prog w K mg base 1 fx56 fun ds _ => aGsc C CG ds := fnx_pos' Fx56 q_Growth_schedule (fun _ _ _ _ _ _ us hl => match us, hl with | [_], _ => rfl) (fun ds M R h => by obtain ⟨i, g, q, S, x, y, rfl, _⟩ := h; rfl) (b_gschedule (k := 0) G_)
  have PSC : GPr l.prog w K mg base CG "schedule" 1 (aGsc C CG) := ⟨pNx56, fx56, ⟨ax56, gx56, tx56, _, bx56⟩, YPSC⟩
  have Fx57 := fd_mk (st := c_Growth_change_count) lx57 cx57 kx57
  have YPCC : FX l.prog w K mg base 1 fx57 fun ds _ => aGcc C CG ds := fnx_pos' Fx57 q_Growth_change_count (fun _ _ _ _ _ _ us hl => match us, hl with | [_], _ => rfl) (fun ds M R h => by obtain ⟨i, i2, g, q, S, x, y, hs, rfl, _⟩ := h; rfl) (b_gchange_count (k := 0) B G_)
  have PCC : GPr l.prog w K mg base CG "change_count" 1 (aGcc C CG) := ⟨pNx57, fx57, ⟨ax57, gx57, tx57, _, bx57⟩, YPCC⟩
  have Fx58 := fd_mk (st := s__law_mixed) lx58 cx58 kx58
  have HMX : GMix7 l.prog w K mg base := gd_pos Fx58 q__law_mixed (fun _ _ _ _ _ _ us hl => match us, hl with | [_, _], _ => rfl) (fun ds M R h => by obtain ⟨a, q, rfl, _⟩ := h <;> rfl) (b__law_mixed7 (k := 0)) (PySem.W.mg_of X G ax58)
  have Fx59 := fd_mk (st := s__law_draw) lx59 cx59 kx59
  have HDC : Gd l.prog w K mg base 2 "_law_draw" [] fun ds _ => aDrC7 ds := gd_pos Fx59 q__law_draw (fun _ _ _ _ _ _ us hl => match us, hl with | [_, _], _ => rfl) (fun ds M R h => by obtain ⟨p, y, cs, pc, t, n, M0, rfl, _⟩ := h <;> rfl) (b__law_draw7 HMX) (PySem.W.mg_of X G ax59)
  have HD := dr7 HDC
  have Fx60 := fd_mk (st := s__law_of) lx60 cx60 kx60
  have HO : GOf7 l.prog w K mg base := gd_pos Fx60 q__law_of (fun _ _ _ _ _ _ us hl => match us, hl with | [_, _], _ => rfl) (fun ds M R h => by obtain ⟨p, i, xs, rfl, _⟩ := h <;> rfl) (b__law_of7 B HD) (PySem.W.mg_of X G ax60)
  have Fx61 := fd_mk (st := s__law_big) lx61 cx61 kx61
  have HB : GBig7 l.prog w K mg base := gd_pos Fx61 q__law_big (fun _ _ _ _ _ _ us hl => match us, hl with | [_, _], _ => rfl) (fun ds M R h => by obtain ⟨p, i, n, rfl, _⟩ := h <;> rfl) (b__law_big7 B HD) (PySem.W.mg_of X G ax61)
  have Fx62 := fd_mk (st := s__law_state) lx62 cx62 kx62
  have HST : GSta7 l.prog w K mg base := gd_pos Fx62 q__law_state (fun _ _ _ _ _ _ us hl => match us, hl with | [_, _], _ => rfl) (fun ds M R h => by obtain ⟨ns, a, rfl, _⟩ := h <;> rfl) (b__law_state7 (k := 0) B) (PySem.W.mg_of X G ax62)
  have Fx63 := fd_mk (st := s__law_stream) lx63 cx63 kx63
  have HSR : GSr7 l.prog w K mg base := gd_pos Fx63 q__law_stream (fun _ _ _ _ _ _ us hl => match us, hl with | [_, _], _ => rfl) (fun ds M R h => by obtain ⟨p, i, lo, rfl, _⟩ := h <;> rfl) (b__law_stream7 B HD HO) (PySem.W.mg_of X G ax63)
  have Fx64 := fd_mk (st := s__law_parts) lx64 cx64 kx64
  have HPR : GPrt7 l.prog w K mg base := gd_pos Fx64 q__law_parts (fun _ _ _ _ _ _ us hl => match us, hl with | [_], _ => rfl) (fun ds M R h => by obtain ⟨p, i, rfl, _⟩ := h <;> rfl) (b__law_parts7 HO HSR) (PySem.W.mg_of X G ax64)
  have Fx65 := fd_mk (st := s__law_at) lx65 cx65 kx65
  have HAT : GAt7 l.prog w K mg base := gd_pos Fx65 q__law_at (fun _ _ _ _ _ _ us hl => match us, hl with | [_, _], _ => rfl) (fun ds M R h => by obtain ⟨s, i, rfl, _⟩ := h <;> rfl) (b__law_at7 (k := 0) B) (PySem.W.mg_of X G ax65)
  have Fx66 := fd_mk (st := s__law_schedule) lx66 cx66 kx66
  have HSC : GSch7 l.prog w K mg base C := gd_pos Fx66 q__law_schedule (fun _ _ _ _ _ _ us hl => match us, hl with | [_], _ => rfl) (fun ds M R h => by obtain ⟨a, s, l, rfl, _⟩ := h <;> rfl) (b__law_schedule7 T MK) (PySem.W.mg_of X G ax66)
  have Fx67 := fd_mk (st := s__law_with) lx67 cx67 kx67
  have HWI : GWth8 l.prog w K mg base := gd_pos Fx67 q__law_with (fun _ _ _ _ _ _ us hl => match us, hl with | [_, _, _], _ => rfl) (fun ds M R h => by obtain ⟨a, s, l, x, b, n, v, rfl, _⟩ := h <;> rfl) (b__law_with8 B HAT) (PySem.W.mg_of X G ax67)
  have Fx68 := fd_mk (st := s__law_stage_end) lx68 cx68 kx68
  have HSE : GSte7 l.prog w K mg base := gd_pos Fx68 q__law_stage_end (fun _ _ _ _ _ _ us hl => match us, hl with | [_, _], _ => rfl) (fun ds M R h => by obtain ⟨a, s, l, u, rfl, _⟩ := h <;> rfl) (b__law_stage_end7 B HAT) (PySem.W.mg_of X G ax68)
  have Fx69 := fd_mk (st := s__law_is_frozen) lx69 cx69 kx69
  have HFZ : GFrz7 l.prog w K mg base := gd_pos Fx69 q__law_is_frozen (fun _ _ _ _ _ _ us hl => match us, hl with | [_, _, _], _ => rfl) (fun ds M R h => by obtain ⟨a, s, l, n, x, b, i, rfl, _⟩ := h <;> rfl) (b__law_is_frozen7 B HAT HSE) (PySem.W.mg_of X G ax69)
  have Fx70 := fd_mk (st := s__law_items) lx70 cx70 kx70
  have HIT : GIts7 l.prog w K mg base := gd_pos Fx70 q__law_items (fun _ _ _ _ _ _ us hl => match us, hl with | [], _ => rfl) (fun ds M R h => by obtain ⟨rfl, _⟩ := h <;> rfl) (b__law_items7 (k := 0) B (PySem.W.mg_none_of X G z12)) (PySem.W.mg_of X G ax70)
  have Fx71 := fd_mk (st := s__law_place) lx71 cx71 kx71
  have HPL : GPla8 l.prog w K mg base := gd_pos Fx71 q__law_place (fun _ _ _ _ _ _ us hl => match us, hl with | [_, _], _ => rfl) (fun ds M R h => by obtain ⟨a, s, l, b, rfl, _⟩ := h <;> rfl) (b__law_place8 HAT) (PySem.W.mg_of X G ax71)
  have Fx72 := fd_mk (st := s__law_due) lx72 cx72 kx72
  have HDU : GDue8 l.prog w K mg base := gd_pos Fx72 q__law_due (fun _ _ _ _ _ _ us hl => match us, hl with | [_, _, _, _], _ => rfl) (fun ds M R h => by obtain ⟨a, s, l, j, b, pv, rfl, _⟩ := h <;> rfl) (b__law_due8 B HAT HPL HWI) (PySem.W.mg_of X G ax72)
  have Fx73 := fd_mk (st := s__law_asked) lx73 cx73 kx73
  have HAS : GAsk8 l.prog w K mg base := gd_pos Fx73 q__law_asked (fun _ _ _ _ _ _ us hl => match us, hl with | [_, _, _], _ => rfl) (fun ds M R h => by obtain ⟨p, i, a, s, l, j, rfl, _⟩ := h <;> rfl) (b__law_asked8 B HD HO HB HPL HWI) (PySem.W.mg_of X G ax73)
  have Fx74 := fd_mk (st := s__law_goal_right) lx74 cx74 kx74
  have HGR : GGl8 l.prog w K mg base C CG := gd_pos Fx74 q__law_goal_right (fun _ _ _ _ _ _ us hl => match us, hl with | [_, _, _, _], _ => rfl) (fun ds M R h => by obtain ⟨p, g, q, i, u, u2, a, s, l, S, x, y, j, rfl, _⟩ := h <;> rfl) (b__law_goal_right8 B (PySem.W.mg_none_of X G z13) OS G_ ZC2 gC2 MKCC2 XPB XIO XCY XAP PSC PCC HSC HAS HDU HWI) (PySem.W.mg_of X G ax74)
  have Fx75 := fd_mk (st := s__law_is_rejected) lx75 cx75 kx75
  have HRJ : GRej8 l.prog w K mg base C CG := gd_pos Fx75 q__law_is_rejected (fun _ _ _ _ _ _ us hl => match us, hl with | [_, _], _ => rfl) (fun ds M R h => by obtain ⟨i, g, q, S, x, y, j, rfl, _⟩ := h <;> rfl) (b__law_is_rejected8 G_ XZ_ XIE) (PySem.W.mg_of X G ax75)
  have Fx76 := fd_mk (st := s_law) lx76 cx76 kx76
  have e := hfa.symm.trans (PySem.W.mg_of X G ax76)
  cases e
  exact fnx_pos' (s0 := aLaw8) Fx76 q_law (fun _ _ _ _ _ _ us hl => match us, hl with | [_], _ => rfl) (fun ds M R h => by obtain ⟨ns, rfl, _⟩ := h; rfl) (b_law B G_ MKG HST HPR HO HD HSC HIT HFZ HGR HRJ)
end K54
/-! Ab113: the head by one kernel run, where tables of code objects are looked at as well -/
open PySem PySem.W PyProof.Rows in
set_option maxHeartbeats 0 in
theorem PySem.Challenge.cw_nestcount_k54_whole_goals_holds : PySem.Challenge.rw_nestcount_k54_whole_goals.Holds := by
  refine HDTOP ?_
  k_fill
  refine Ab.walk_x (l := PySem.Challenge.rw_nestcount_k54_whole_goals) (k := 12) rfl rfl ⟨rfl, by decide, by decide⟩ (fun w h Y => PySem.W.kIn_of Y) ?F
  case F =>
    intro w mg fa h KX G hmg
    refine' K54.allX KX G hmg ?u0 ?u1 ?u2 ?u3 ?aC ?pgC ?hdC ?poC ?saC ?mkC ?kcC ?nC0 ?nC1 ?nC2 ?e1C ?e2C ?e3C ?e4C ?e6C ?e7C ?ax1 ?lx1 ?cx1 ?kx1 ?d1 ?d2 ?ax2 ?lx2 ?cx2 ?kx2 ?dx2 ?ax3 ?lx3 ?cx3 ?kx3 ?ax4 ?lx4 ?cx4 ?kx4 ?ax5 ?lx5 ?cx5 ?kx5 ?ax6 ?lx6 ?cx6 ?kx6 ?ax7 ?lx7 ?cx7 ?kx7 ?ax8 ?lx8 ?cx8 ?kx8 ?ax9 ?lx9 ?cx9 ?kx9 ?rd ?ga ?ax10 ?bx10 ?lx10 ?cx10 ?kx10 ?ax11 ?ix11 ?lx11 ?cx11 ?kx11 ?ax12 ?lx12 ?cx12 ?kx12 ?ax13 ?ix13 ?lx13 ?cx13 ?kx13 ?ax14 ?ix14 ?lx14 ?cx14 ?kx14 ?ax15 ?ix15 ?lx15 ?cx15 ?kx15 ?ax16 ?gx16 ?tx16 ?bx16 ?lx16 ?cx16 ?kx16 ?ax17 ?gx17 ?tx17 ?bx17 ?lx17 ?cx17 ?kx17 ?ax18 ?gx18 ?tx18 ?bx18 ?lx18 ?cx18 ?kx18 ?aBScheduleError ?rBScheduleError ?gBScheduleError ?vBScheduleError ?sBScheduleError ?hBScheduleError ?tBScheduleError ?xo1 ?xo2 ?aEInvalidNumber ?iEInvalidNumber ?oEInvalidNumber ?hEInvalidNumber ?sEInvalidNumber ?xEInvalidNumber ?tEInvalidNumber ?kEInvalidNumber ?nEInvalidNumber ?gEInvalidNumber ?qEInvalidNumber ?cEInvalidNumber ?mEInvalidNumber ?ax19 ?ix19 ?lx19 ?cx19 ?kx19 ?tyEInvalidNumber ?aEInvalidSchedule ?iEInvalidSchedule ?oEInvalidSchedule ?hEInvalidSchedule ?sEInvalidSchedule ?xEInvalidSchedule ?tEInvalidSchedule ?kEInvalidSchedule ?nEInvalidSchedule ?gEInvalidSchedule ?qEInvalidSchedule ?cEInvalidSchedule ?mEInvalidSchedule ?ax20 ?ix20 ?lx20 ?cx20 ?kx20 ?tyEInvalidSchedule ?ax21 ?lx21 ?cx21 ?kx21 ?ax22 ?lx22 ?cx22 ?kx22 ?ax23 ?ix23 ?lx23 ?cx23 ?kx23 ?aC2 ?pgC2 ?hdC2 ?poC2 ?saC2 ?mkC2 ?kcC2 ?nC20 ?nC21 ?nC22 ?nC23 ?nC24 ?e1C2 ?e2C2 ?e3C2 ?e4C2 ?mxC2 ?mgC2 ?ax24 ?lx24 ?cx24 ?kx24 ?ax25 ?ix25 ?lx25 ?cx25 ?kx25 ?ax26 ?ix26 ?lx26 ?cx26 ?kx26 ?ax27 ?ix27 ?lx27 ?cx27 ?kx27 ?ax28 ?ix28 ?lx28 ?cx28 ?kx28 ?ax29 ?ix29 ?lx29 ?cx29 ?kx29 ?ax30 ?ix30 ?lx30 ?cx30 ?kx30 ?ax31 ?ix31 ?lx31 ?cx31 ?kx31 ?ax32 ?ix32 ?lx32 ?cx32 ?kx32 ?dkx32 ?aCN ?rCN ?gCN ?vCN ?ax33 ?lx33 ?cx33 ?kx33 ?ax34 ?lx34 ?cx34 ?kx34 ?ax35 ?lx35 ?cx35 ?kx35 ?ax36 ?lx36 ?cx36 ?kx36 ?ax37 ?lx37 ?cx37 ?kx37 ?ax38 ?lx38 ?cx38 ?kx38 ?bgx23 ?btx23 ?ax39 ?lx39 ?cx39 ?kx39 ?dx39 ?ax40 ?lx40 ?cx40 ?kx40 ?ax41 ?lx41 ?cx41 ?kx41 ?ax42 ?lx42 ?cx42 ?kx42 ?aCG ?pgCG ?hdCG ?poCG ?saCG ?mkCG ?kcCG ?nCG0 ?nCG1 ?nCG2 ?nCG3 ?e1CG ?e2CG ?e3CG ?e4CG ?rCG ?gCG ?vCG ?wl1 ?ax43 ?ix43 ?lx43 ?cx43 ?kx43 ?ax44 ?ix44 ?lx44 ?cx44 ?kx44 ?ax45 ?ix45 ?lx45 ?cx45 ?kx45 ?dkx45 ?vmL ?ax46 ?lx46 ?cx46 ?kx46 ?ax47 ?lx47 ?cx47 ?kx47 ?ax48 ?bx48 ?lx48 ?cx48 ?kx48 ?ax49 ?ix49 ?lx49 ?cx49 ?kx49 ?aBStateError ?rBStateError ?gBStateError ?vBStateError ?sBStateError ?hBStateError ?tBStateError ?aEFrozen ?iEFrozen ?oEFrozen ?hEFrozen ?sEFrozen ?xEFrozen ?tEFrozen ?kEFrozen ?nEFrozen ?gEFrozen ?qEFrozen ?cEFrozen ?mEFrozen ?ax50 ?ix50 ?lx50 ?cx50 ?kx50 ?tyEFrozen ?zEFrozenEFrozen ?ax51 ?ix51 ?lx51 ?cx51 ?kx51 ?ax52 ?ix52 ?lx52 ?cx52 ?kx52 ?ax53 ?ix53 ?lx53 ?cx53 ?kx53 ?ax54 ?ix54 ?lx54 ?cx54 ?kx54 ?ax55 ?ix55 ?lx55 ?cx55 ?kx55 ?ax56 ?gx56 ?tx56 ?bx56 ?lx56 ?cx56 ?kx56 ?ax57 ?gx57 ?tx57 ?bx57 ?lx57 ?cx57 ?kx57 ?ax58 ?lx58 ?cx58 ?kx58 ?ax59 ?lx59 ?cx59 ?kx59 ?ax60 ?lx60 ?cx60 ?kx60 ?ax61 ?lx61 ?cx61 ?kx61 ?ax62 ?lx62 ?cx62 ?kx62 ?ax63 ?lx63 ?cx63 ?kx63 ?ax64 ?lx64 ?cx64 ?kx64 ?ax65 ?lx65 ?cx65 ?kx65 ?ax66 ?lx66 ?cx66 ?kx66 ?ax67 ?lx67 ?cx67 ?kx67 ?ax68 ?lx68 ?cx68 ?kx68 ?ax69 ?lx69 ?cx69 ?kx69 ?ax70 ?lx70 ?cx70 ?kx70 ?ax71 ?lx71 ?cx71 ?kx71 ?ax72 ?lx72 ?cx72 ?kx72 ?ax73 ?lx73 ?cx73 ?kx73 ?ax74 ?lx74 ?cx74 ?kx74 ?ax75 ?lx75 ?cx75 ?kx75 ?ax76 ?lx76 ?cx76 ?kx76 ?z0 ?z1 ?z2 ?z3 ?z4 ?z5 ?z6 ?z7 ?z8 ?z9 ?z10 ?z11 ?z12 ?z13 ?y1 ?y2 ?y3 ?yg
    (case u0 => k_is)
    (case u1 => k_is)
    (case u2 => k_is)
    (case u3 => k_is)
    (case aC => k_is)
    (case pgC => k_is)
    (case hdC => k_is)
    (case poC => k_is)
    (case saC => k_is)
    (case mkC => k_is)
    (case kcC => k_is)
    (case nC0 => k_is)
    (case nC1 => k_is)
    (case nC2 => k_is)
    (case e1C => k_is)
    (case e2C => k_is)
    (case e3C => k_is)
    (case e4C => k_is)
    (case e6C => k_is)
    (case e7C => k_is)
    (case ax1 => k_is)
    (case lx1 => k_is)
    (case cx1 => k_is)
    (case kx1 => k_is)
    (case d1 => k_is)
    (case d2 => k_is)
    (case ax2 => k_is)
    (case lx2 => k_is)
    (case cx2 => k_is)
    (case kx2 => k_is)
    (case dx2 => k_is)
    (case ax3 => k_is)
    (case lx3 => k_is)
    (case cx3 => k_is)
    (case kx3 => k_is)
    (case ax4 => k_is)
    (case lx4 => k_is)
    (case cx4 => k_is)
    (case kx4 => k_is)
    (case ax5 => k_is)
    (case lx5 => k_is)
    (case cx5 => k_is)
    (case kx5 => k_is)
    (case ax6 => k_is)
    (case lx6 => k_is)
    (case cx6 => k_is)
    (case kx6 => k_is)
    (case ax7 => k_is)
    (case lx7 => k_is)
    (case cx7 => k_is)
    (case kx7 => k_is)
    (case ax8 => k_is)
    (case lx8 => k_is)
    (case cx8 => k_is)
    (case kx8 => k_is)
    (case ax9 => k_is)
    (case lx9 => k_is)
    (case cx9 => k_is)
    (case kx9 => k_is)
    (case rd => k_is)
    (case ga => k_is)
    (case ax10 => k_is)
    (case bx10 => k_is)
    (case lx10 => k_is)
    (case cx10 => k_is)
    (case kx10 => k_is)
    (case ax11 => k_is)
    (case ix11 => k_is)
    (case lx11 => k_is)
    (case cx11 => k_is)
    (case kx11 => k_is)
    (case ax12 => k_is)
    (case lx12 => k_is)
    (case cx12 => k_is)
    (case kx12 => k_is)
    (case ax13 => k_is)
    (case ix13 => k_is)
    (case lx13 => k_is)
    (case cx13 => k_is)
    (case kx13 => k_is)
    (case ax14 => k_is)
    (case ix14 => k_is)
    (case lx14 => k_is)
    (case cx14 => k_is)
    (case kx14 => k_is)
    (case ax15 => k_is)
    (case ix15 => k_is)
    (case lx15 => k_is)
    (case cx15 => k_is)
    (case kx15 => k_is)
    (case ax16 => k_is)
    (case gx16 => k_is)
    (case tx16 => k_is)
    (case bx16 => k_is)
    (case lx16 => k_is)
    (case cx16 => k_is)
    (case kx16 => k_is)
    (case ax17 => k_is)
    (case gx17 => k_is)
    (case tx17 => k_is)
    (case bx17 => k_is)
    (case lx17 => k_is)
    (case cx17 => k_is)
    (case kx17 => k_is)
    (case ax18 => k_is)
    (case gx18 => k_is)
    (case tx18 => k_is)
    (case bx18 => k_is)
    (case lx18 => k_is)
    (case cx18 => k_is)
    (case kx18 => k_is)
    (case aBScheduleError => k_is)
    (case rBScheduleError => k_is)
    (case gBScheduleError => k_is)
    (case vBScheduleError => k_is)
    (case sBScheduleError => k_is)
    (case hBScheduleError => k_is)
    (case tBScheduleError => k_is)
    (case xo1 => k_is)
    (case xo2 => k_is)
    (case aEInvalidNumber => k_is)
    (case iEInvalidNumber => kx_is)
    (case oEInvalidNumber => kx_is)
    (case hEInvalidNumber => k_is)
    (case sEInvalidNumber => k_is)
    (case xEInvalidNumber => k_is)
    (case tEInvalidNumber => k_is)
    (case kEInvalidNumber => k_is)
    (case nEInvalidNumber => k_is)
    (case gEInvalidNumber => k_is)
    (case qEInvalidNumber => k_is)
    (case cEInvalidNumber => k_is)
    (case mEInvalidNumber => k_is)
    (case ax19 => k_is)
    (case ix19 => k_is)
    (case lx19 => k_is)
    (case cx19 => k_is)
    (case kx19 => k_is)
    (case tyEInvalidNumber => k_is)
    (case aEInvalidSchedule => k_is)
    (case iEInvalidSchedule => kx_is)
    (case oEInvalidSchedule => kx_is)
    (case hEInvalidSchedule => k_is)
    (case sEInvalidSchedule => k_is)
    (case xEInvalidSchedule => k_is)
    (case tEInvalidSchedule => k_is)
    (case kEInvalidSchedule => k_is)
    (case nEInvalidSchedule => k_is)
    (case gEInvalidSchedule => k_is)
    (case qEInvalidSchedule => k_is)
    (case cEInvalidSchedule => k_is)
    (case mEInvalidSchedule => k_is)
    (case ax20 => k_is)
    (case ix20 => k_is)
    (case lx20 => k_is)
    (case cx20 => k_is)
    (case kx20 => k_is)
    (case tyEInvalidSchedule => k_is)
    (case ax21 => k_is)
    (case lx21 => k_is)
    (case cx21 => k_is)
    (case kx21 => k_is)
    (case ax22 => k_is)
    (case lx22 => k_is)
    (case cx22 => k_is)
    (case kx22 => k_is)
    (case ax23 => k_is)
    (case ix23 => k_is)
    (case lx23 => k_is)
    (case cx23 => k_is)
    (case kx23 => k_is)
    (case aC2 => k_is)
    (case pgC2 => k_is)
    (case hdC2 => k_is)
    (case poC2 => k_is)
    (case saC2 => k_is)
    (case mkC2 => k_is)
    (case kcC2 => k_is)
    (case nC20 => k_is)
    (case nC21 => k_is)
    (case nC22 => k_is)
    (case nC23 => k_is)
    (case nC24 => k_is)
    (case e1C2 => k_is)
    (case e2C2 => k_is)
    (case e3C2 => k_is)
    (case e4C2 => k_is)
    (case mxC2 => k_is)
    (case mgC2 => k_is)
    (case ax24 => k_is)
    (case lx24 => k_is)
    (case cx24 => k_is)
    (case kx24 => k_is)
    (case ax25 => k_is)
    (case ix25 => k_is)
    (case lx25 => k_is)
    (case cx25 => k_is)
    (case kx25 => k_is)
    (case ax26 => k_is)
    (case ix26 => k_is)
    (case lx26 => k_is)
    (case cx26 => k_is)
    (case kx26 => k_is)
    (case ax27 => k_is)
    (case ix27 => k_is)
    (case lx27 => k_is)
    (case cx27 => k_is)
    (case kx27 => k_is)
    (case ax28 => k_is)
    (case ix28 => k_is)
    (case lx28 => k_is)
    (case cx28 => k_is)
    (case kx28 => k_is)
    (case ax29 => k_is)
    (case ix29 => k_is)
    (case lx29 => k_is)
    (case cx29 => k_is)
    (case kx29 => k_is)
    (case ax30 => k_is)
    (case ix30 => k_is)
    (case lx30 => k_is)
    (case cx30 => k_is)
    (case kx30 => k_is)
    (case ax31 => k_is)
    (case ix31 => k_is)
    (case lx31 => k_is)
    (case cx31 => k_is)
    (case kx31 => k_is)
    (case ax32 => k_is)
    (case ix32 => k_is)
    (case lx32 => k_is)
    (case cx32 => k_is)
    (case kx32 => k_is)
    (case dkx32 => k_is)
    (case aCN => k_is)
    (case rCN => k_is)
    (case gCN => k_is)
    (case vCN => k_is)
    (case ax33 => k_is)
    (case lx33 => k_is)
    (case cx33 => k_is)
    (case kx33 => k_is)
    (case ax34 => k_is)
    (case lx34 => k_is)
    (case cx34 => k_is)
    (case kx34 => k_is)
    (case ax35 => k_is)
    (case lx35 => k_is)
    (case cx35 => k_is)
    (case kx35 => k_is)
    (case ax36 => k_is)
    (case lx36 => k_is)
    (case cx36 => k_is)
    (case kx36 => k_is)
    (case ax37 => k_is)
    (case lx37 => k_is)
    (case cx37 => k_is)
    (case kx37 => k_is)
    (case ax38 => k_is)
    (case lx38 => k_is)
    (case cx38 => k_is)
    (case kx38 => k_is)
    (case bgx23 => k_is)
    (case btx23 => k_is)
    (case ax39 => k_is)
    (case lx39 => k_is)
    (case cx39 => k_is)
    (case kx39 => k_is)
    (case dx39 => k_is)
    (case ax40 => k_is)
    (case lx40 => k_is)
    (case cx40 => k_is)
    (case kx40 => k_is)
    (case ax41 => k_is)
    (case lx41 => k_is)
    (case cx41 => k_is)
    (case kx41 => k_is)
    (case ax42 => k_is)
    (case lx42 => k_is)
    (case cx42 => k_is)
    (case kx42 => k_is)
    (case aCG => k_is)
    (case pgCG => k_is)
    (case hdCG => k_is)
    (case poCG => k_is)
    (case saCG => k_is)
    (case mkCG => k_is)
    (case kcCG => k_is)
    (case nCG0 => k_is)
    (case nCG1 => k_is)
    (case nCG2 => k_is)
    (case nCG3 => k_is)
    (case e1CG => k_is)
    (case e2CG => k_is)
    (case e3CG => k_is)
    (case e4CG => k_is)
    (case rCG => k_is)
    (case gCG => k_is)
    (case vCG => k_is)
    (case wl1 => k_is)
    (case ax43 => k_is)
    (case ix43 => k_is)
    (case lx43 => k_is)
    (case cx43 => k_is)
    (case kx43 => k_is)
    (case ax44 => k_is)
    (case ix44 => k_is)
    (case lx44 => k_is)
    (case cx44 => k_is)
    (case kx44 => k_is)
    (case ax45 => k_is)
    (case ix45 => k_is)
    (case lx45 => k_is)
    (case cx45 => k_is)
    (case kx45 => k_is)
    (case dkx45 => k_is)
    (case vmL => k_is)
    (case ax46 => k_is)
    (case lx46 => k_is)
    (case cx46 => k_is)
    (case kx46 => k_is)
    (case ax47 => k_is)
    (case lx47 => k_is)
    (case cx47 => k_is)
    (case kx47 => k_is)
    (case ax48 => k_is)
    (case bx48 => k_is)
    (case lx48 => k_is)
    (case cx48 => k_is)
    (case kx48 => k_is)
    (case ax49 => k_is)
    (case ix49 => k_is)
    (case lx49 => k_is)
    (case cx49 => k_is)
    (case kx49 => k_is)
    (case aBStateError => k_is)
    (case rBStateError => k_is)
    (case gBStateError => k_is)
    (case vBStateError => k_is)
    (case sBStateError => k_is)
    (case hBStateError => k_is)
    (case tBStateError => k_is)
    (case aEFrozen => k_is)
    (case iEFrozen => kx_is)
    (case oEFrozen => kx_is)
    (case hEFrozen => k_is)
    (case sEFrozen => k_is)
    (case xEFrozen => k_is)
    (case tEFrozen => k_is)
    (case kEFrozen => k_is)
    (case nEFrozen => k_is)
    (case gEFrozen => k_is)
    (case qEFrozen => k_is)
    (case cEFrozen => k_is)
    (case mEFrozen => k_is)
    (case ax50 => k_is)
    (case ix50 => k_is)
    (case lx50 => k_is)
    (case cx50 => k_is)
    (case kx50 => k_is)
    (case tyEFrozen => k_is)
    (case zEFrozenEFrozen => k_is)
    (case ax51 => k_is)
    (case ix51 => k_is)
    (case lx51 => k_is)
    (case cx51 => k_is)
    (case kx51 => k_is)
    (case ax52 => k_is)
    (case ix52 => k_is)
    (case lx52 => k_is)
    (case cx52 => k_is)
    (case kx52 => k_is)
    (case ax53 => k_is)
    (case ix53 => k_is)
    (case lx53 => k_is)
    (case cx53 => k_is)
    (case kx53 => k_is)
    (case ax54 => k_is)
    (case ix54 => k_is)
    (case lx54 => k_is)
    (case cx54 => k_is)
    (case kx54 => k_is)
    (case ax55 => k_is)
    (case ix55 => k_is)
    (case lx55 => k_is)
    (case cx55 => k_is)
    (case kx55 => k_is)
    (case ax56 => k_is)
    (case gx56 => k_is)
    (case tx56 => k_is)
    (case bx56 => k_is)
    (case lx56 => k_is)
    (case cx56 => k_is)
    (case kx56 => k_is)
    (case ax57 => k_is)
    (case gx57 => k_is)
    (case tx57 => k_is)
    (case bx57 => k_is)
    (case lx57 => k_is)
    (case cx57 => k_is)
    (case kx57 => k_is)
    (case ax58 => k_is)
    (case lx58 => k_is)
    (case cx58 => k_is)
    (case kx58 => k_is)
    (case ax59 => k_is)
    (case lx59 => k_is)
    (case cx59 => k_is)
    (case kx59 => k_is)
    (case ax60 => k_is)
    (case lx60 => k_is)
    (case cx60 => k_is)
    (case kx60 => k_is)
    (case ax61 => k_is)
    (case lx61 => k_is)
    (case cx61 => k_is)
    (case kx61 => k_is)
    (case ax62 => k_is)
    (case lx62 => k_is)
    (case cx62 => k_is)
    (case kx62 => k_is)
    (case ax63 => k_is)
    (case lx63 => k_is)
    (case cx63 => k_is)
    (case kx63 => k_is)
    (case ax64 => k_is)
    (case lx64 => k_is)
    (case cx64 => k_is)
    (case kx64 => k_is)
    (case ax65 => k_is)
    (case lx65 => k_is)
    (case cx65 => k_is)
    (case kx65 => k_is)
    (case ax66 => k_is)
    (case lx66 => k_is)
    (case cx66 => k_is)
    (case kx66 => k_is)
    (case ax67 => k_is)
    (case lx67 => k_is)
    (case cx67 => k_is)
    (case kx67 => k_is)
    (case ax68 => k_is)
    (case lx68 => k_is)
    (case cx68 => k_is)
    (case kx68 => k_is)
    (case ax69 => k_is)
    (case lx69 => k_is)
    (case cx69 => k_is)
    (case kx69 => k_is)
    (case ax70 => k_is)
    (case lx70 => k_is)
    (case cx70 => k_is)
    (case kx70 => k_is)
    (case ax71 => k_is)
    (case lx71 => k_is)
    (case cx71 => k_is)
    (case kx71 => k_is)
    (case ax72 => k_is)
    (case lx72 => k_is)
    (case cx72 => k_is)
    (case kx72 => k_is)
    (case ax73 => k_is)
    (case lx73 => k_is)
    (case cx73 => k_is)
    (case kx73 => k_is)
    (case ax74 => k_is)
    (case lx74 => k_is)
    (case cx74 => k_is)
    (case kx74 => k_is)
    (case ax75 => k_is)
    (case lx75 => k_is)
    (case cx75 => k_is)
    (case kx75 => k_is)
    (case ax76 => k_is)
    (case lx76 => k_is)
    (case cx76 => k_is)
    (case kx76 => k_is)
    (case z0 => k_is)
    (case z1 => k_is)
    (case z2 => k_is)
    (case z3 => k_is)
    (case z4 => k_is)
    (case z5 => k_is)
    (case z6 => k_is)
    (case z7 => k_is)
    (case z8 => k_is)
    (case z9 => k_is)
    (case z10 => k_is)
    (case z11 => k_is)
    (case z12 => k_is)
    (case z13 => k_is)
    (case y1 => exact rfl)
    (case y2 => exact rfl)
    (case y3 => exact ⟨_, rfl⟩)
    (case yg => exact ⟨_, rfl⟩)
