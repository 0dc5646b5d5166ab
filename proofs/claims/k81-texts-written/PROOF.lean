import PyProof.Rows.All
import Wide.All
import OpenK.AllK
import Wide.FinOn
import HandS.ForMost
import HandS.ForExc
import HandS.Flow
import HandS.Walk
import HandS.Wide
import HandS.TupAny
import HandS.TupMul
import HandS.Style
import HandS.Conv
import HandS.IsInst
import HandS.Rev
import HandS.Zip
import HandS.Codes
import HandS.More
import HandS.Lambda
import HandS.EndTab
import KE.GoesEnum
import HandS.RevRange
import HandS.Deep
import HandS.Strs
import HandS.ExcInit
import KE.KExcInit
import KE.KExcIs
import KE.KExcLine
import HandS.TryMany
import HandS.ExcField
import HandS.ExcIs
import PyProof.TupleOfSeq
import PyProof.Rows.SortShellAny
import KE.KTupSum
import HandS.Dict
import HandS.DictComp
import HandS.ExcValue
import HandS.SetFor
import HandS.Text
import PySem.Challenge.RW_slotfall_k81_texts_written

set_option Elab.async false
set_option linter.all false
set_option maxRecDepth 100000
set_option maxHeartbeats 4000000
namespace G
open PySem PySem.Spec L2
open PyProof.Rows hiding St

/-! ### values, the heap -/
inductive Val where
  | non | bl (b : Bool) | int (i : Int) | str (x : Str) | tup (xs : List Val) | ref (a : Addr) | ty (n : String) | scr (ns : List Int)
  /-- a caught exception: its class's name, its fields -/
  | exc (n : Str) (fs : List Str) (vs : List Val)
  /-- a class of the program, by its name -/
  | cls (n : Str)
inductive Ob where
  | lst (xs : List Val)
  | pen (n : Nat)
  /-- an instance of the class n, its fields in order -/
  | ins (n : Str) (fs : List (Str × Val))
  /-- a dict whose keys are ints and texts -/
  | dct (kvs : List (Key × Val))
  /-- a dict whose keys are tuples of ints -/
  | dtt (kvs : List (List Int × Val))
  /-- the table of the code objects that the def x makes -/
  | tbl (x : Str)
  /-- a code object with this qualified name -/
  | cod (q : Str)
abbrev Hg := Addr → Option Ob
/-- the name of the lambdas that the def x makes -/
def lamQ (x : Str) : Str := x ++ ".<locals>." ++ "<lambda>"
def put (h : Hg) (a : Addr) (o : Ob) : Hg := fun b => if b = a then some o else h b
theorem put_same {h : Hg} {a : Addr} {o : Ob} : put h a o a = some o := if_pos rfl
theorem put_ne {h : Hg} {a b : Addr} {o : Ob} (n : b ≠ a) : put h a o b = h b := if_neg n
theorem put_put {h : Hg} {a : Addr} {o u : Ob} : put (put h a o) a u = put h a u := by
  funext b; unfold put; split <;> rfl
theorem ne_none {h : Hg} {a b : Addr} {o : Ob} (e : h a = some o) (n : h b = none) : a ≠ b := by
  intro q; rw [q, n] at e; cases e

def SqF (K : PySem.W.Frag) (H : L2.Hp) (a : Addr) (ws : List V) : Prop :=
  (∃ o, H a = some (.frz o (.lst ws))) ∨
    ∃ (o : Obj) (its : Array Value) (n : Nat), K.lookup a = some o ∧ o.cls = .type "list" ∧ o.dict = none ∧ o.data = .seq its n ∧ its.size ≤ sizeLine ∧ Vals ws its.toList
theorem SqF.sql {K : PySem.W.Frag} {H : L2.Hp} {a : Addr} {ws : List V} (h : SqF K H a ws) : SqL K H a ws := by
  rcases h with ⟨o, h⟩ | h
  · exact .inl (.inr ⟨o, h⟩)
  · exact .inr h

/-- any object that stands as it is -/
def xo : HO := .ext fun _ => True
/-- the fields of a caught exception, in its dict -/
def FldAt (H : L2.Hp) (d : Option Addr) (fs : List Str) (ws : List V) : Prop :=
  (d = none ∧ fs = [] ∧ ws = []) ∨ ∃ (dx : Addr) (od : Obj) (xs : List (Str × V)), d = some dx ∧ H dx = some (.frz od (.xd xs)) ∧ fs.length = ws.length ∧ ∀ (i : Nat) f w, fs[i]? = some f → ws[i]? = some w → xs.lookup f = some w
mutual
inductive Rep (K : PySem.W.Frag) (H : L2.Hp) : Val → V → Prop
  | non : Rep K H .non .non
  | bl (b : Bool) : Rep K H (.bl b) (.bl b)
  | int (i : Int) : Rep K H (.int i) (.int i)
  | str (x : Str) : Rep K H (.str x) (.str x)
  | ref (a : Addr) : Rep K H (.ref a) (.ref a)
  | ty (n : String) : Rep K H (.ty n) (.ty n)
  | tup {a : Addr} {o : Obj} {xs : List Val} {ws : List V} : H a = some (.frz o (.tup ws)) → o.dict = none → RepL K H xs ws → Rep K H (.tup xs) (.ref a)
  | scr {a : Addr} {ns : List Int} : SqF K H a (ns.map V.int) → Rep K H (.scr ns) (.ref a)
  | cls {n : Str} {C : Addr} : PySem.W.nsIn K mainGlobals n = some (some (.ref C)) → Rep K H (.cls n) (.ref C)
  | exc {a C : Addr} {oe : Obj} {l : Array Value} {n : Str} {fs : List Str} {vs : List Val} {ws : List V} : PySem.W.nsIn K mainGlobals n = some (some (.ref C)) → H a = some (.frz oe xo) → oe.cls = .ref C → oe.data = .fields l → FldAt H oe.dict fs ws → RepL K H vs ws → Rep K H (.exc n fs vs) (.ref a)
inductive RepL (K : PySem.W.Frag) (H : L2.Hp) : List Val → List V → Prop
  | nil : RepL K H [] []
  | cons {v : Val} {w : V} {vs : List Val} {ws : List V} : Rep K H v w → RepL K H vs ws → RepL K H (v :: vs) (w :: ws)
end

structure TExt (H H' : L2.Hp) : Prop where
  frz : ∀ a o u, H a = some (.frz o u) → H' a = some (.frz o u)
  ext : ∀ a q, H a = some (LamX.CodeO a q) → H' a = some (LamX.CodeO a q)
theorem TExt.refl (H : L2.Hp) : TExt H H := ⟨fun _ _ _ e => e, fun _ _ e => e⟩
theorem TExt.trans {H H1 H2 : L2.Hp} (a : TExt H H1) (b : TExt H1 H2) : TExt H H2 := ⟨fun c o u e => b.frz c o u (a.frz c o u e), fun c p e => b.ext c p (a.ext c p e)⟩
theorem TExt.new {H : L2.Hp} {p : Addr} {o : HO} (n : H p = none) : TExt H (upd H p o) :=
  ⟨fun a o u e => by rw [upd_ne (ne_of_none e n)]; exact e, fun a q e => by rw [upd_ne (ne_of_none e n)]; exact e⟩
theorem TExt.lst {H : L2.Hp} {p : Addr} {ws : List V} {o : HO} (e : H p = some (.lst ws)) : TExt H (upd H p o) :=
  ⟨fun a ob u q => by rw [upd_ne (fun z => by rw [z, e] at q; cases q)]; exact q, fun a u q => by rw [upd_ne (fun z => by rw [z, e] at q; unfold LamX.CodeO at q; cases q)]; exact q⟩
/-- what is frozen stays -/
def FExt (H H' : L2.Hp) : Prop := ∀ a o u, H a = some (.frz o u) → H' a = some (.frz o u)
theorem SqF.monoF {K : PySem.W.Frag} {H H' : L2.Hp} {a : Addr} {ws : List V} (t : FExt H H') (h : SqF K H a ws) : SqF K H' a ws := by
  rcases h with ⟨o, h⟩ | h
  · exact .inl ⟨o, t _ _ _ h⟩
  · exact .inr h
theorem SqF.mono {K : PySem.W.Frag} {H H' : L2.Hp} {a : Addr} {ws : List V} (t : TExt H H') (h : SqF K H a ws) : SqF K H' a ws := h.monoF t.frz
theorem FldAt.monoF {H H' : L2.Hp} {d : Option Addr} {fs : List Str} {ws : List V} (t : FExt H H') (h : FldAt H d fs ws) : FldAt H' d fs ws := by
  rcases h with h | ⟨dx, od, xs, e, h, r⟩
  · exact .inl h
  · exact .inr ⟨dx, od, xs, e, t _ _ _ h, r⟩
section
variable {K : PySem.W.Frag} {H H' : L2.Hp}
mutual
theorem Rep.monoF (t : FExt H H') : ∀ (v : Val) (w : V), Rep K H v w → Rep K H' v w
  | _, _, .non => .non
  | _, _, .bl b => .bl b
  | _, _, .int i => .int i
  | _, _, .str x => .str x
  | _, _, .ref a => .ref a
  | _, _, .ty n => .ty n
  | _, _, .tup e d r => .tup (t _ _ _ e) d (RepL.monoF t _ _ r)
  | _, _, .scr e => .scr (e.monoF t)
  | _, _, .cls g => .cls g
  | _, _, .exc g e c d f r => .exc g (t _ _ _ e) c d (f.monoF t) (RepL.monoF t _ _ r)
theorem RepL.monoF (t : FExt H H') : ∀ (vs : List Val) (ws : List V), RepL K H vs ws → RepL K H' vs ws
  | _, _, .nil => .nil
  | _, _, .cons r q => .cons (Rep.monoF t _ _ r) (RepL.monoF t _ _ q)
end
theorem Rep.up {v : Val} {w : V} (r : Rep K H v w) (t : TExt H H') : Rep K H' v w := Rep.monoF t.frz v w r
theorem RepL.up {v : List Val} {w : List V} (r : RepL K H v w) (t : TExt H H') : RepL K H' v w := RepL.monoF t.frz v w r
theorem RepL.length : ∀ {vs : List Val} {ws : List V}, RepL K H vs ws → vs.length = ws.length
  | _, _, .nil => rfl
  | _, _, .cons _ q => by rw [List.length_cons, List.length_cons, RepL.length q]
theorem RepL.get : ∀ {vs : List Val} {ws : List V} {i : Nat} {v : Val}, RepL K H vs ws → vs[i]? = some v → ∃ w, ws[i]? = some w ∧ Rep K H v w
  | _, _, i, _, .nil, e => by simp at e
  | _, _, 0, _, .cons r _, e => by simp at e; subst e; exact ⟨_, rfl, r⟩
  | _, _, i + 1, v, .cons _ q, e => by
    obtain ⟨w, h1, h2⟩ := RepL.get (i := i) (v := v) q (by simpa using e)
    exact ⟨w, by simpa using h1, h2⟩
theorem RepL.getW : ∀ {vs : List Val} {ws : List V} {i : Nat} {w : V}, RepL K H vs ws → ws[i]? = some w → ∃ v, vs[i]? = some v ∧ Rep K H v w
  | _, _, i, _, .nil, e => by simp at e
  | _, _, 0, _, .cons r _, e => by simp at e; subst e; exact ⟨_, rfl, r⟩
  | _, _, i + 1, w, .cons _ q, e => by
    obtain ⟨v, h1, h2⟩ := RepL.getW (i := i) (w := w) q (by simpa using e)
    exact ⟨v, by simpa using h1, h2⟩
theorem RepL.append : ∀ {vs : List Val} {ws : List V} {xs : List Val} {ys : List V}, RepL K H vs ws → RepL K H xs ys → RepL K H (vs ++ xs) (ws ++ ys)
  | _, _, _, _, .nil, s => s
  | _, _, _, _, .cons r q, s => .cons r (RepL.append q s)
theorem RepL.take : ∀ {vs : List Val} {ws : List V} (n : Nat), RepL K H vs ws → RepL K H (vs.take n) (ws.take n)
  | _, _, 0, _ => .nil
  | _, _, _ + 1, .nil => .nil
  | _, _, n + 1, .cons r q => .cons r (RepL.take n q)
theorem RepL.drop : ∀ {vs : List Val} {ws : List V} (n : Nat), RepL K H vs ws → RepL K H (vs.drop n) (ws.drop n)
  | _, _, 0, r => r
  | _, _, _ + 1, .nil => .nil
  | _, _, n + 1, .cons _ q => RepL.drop n q
theorem RepL.set : ∀ {vs : List Val} {ws : List V} {v : Val} {w : V} (n : Nat), RepL K H vs ws → Rep K H v w → RepL K H (vs.set n v) (ws.set n w)
  | _, _, _, _, _, .nil, _ => .nil
  | _, _, _, _, 0, .cons r q, s => .cons s q
  | _, _, _, _, n + 1, .cons r q, s => .cons r (RepL.set n q s)
theorem RepL.rev : ∀ {vs : List Val} {ws : List V}, RepL K H vs ws → RepL K H vs.reverse ws.reverse
  | _, _, .nil => .nil
  | _, _, .cons r q => by rw [List.reverse_cons, List.reverse_cons]; exact RepL.append (RepL.rev q) (.cons r .nil)
theorem RepL.ints : ∀ {ns : List Int} {ws : List V}, RepL K H (ns.map Val.int) ws → ws = ns.map V.int
  | [], _, r => by cases r; rfl
  | n :: ns, _, r => by
    cases r with
    | cons r q => cases r; rw [RepL.ints q]; rfl
theorem RepL.ofInts : ∀ {ns : List Int}, RepL K H (ns.map Val.int) (ns.map V.int)
  | [] => .nil
  | _ :: _ => .cons (.int _) RepL.ofInts
theorem RepL.one {v : Val} {ws : List V} (r : RepL K H [v] ws) : ∃ w, ws = [w] ∧ Rep K H v w := by
  cases r with
  | cons r q => cases q; exact ⟨_, rfl, r⟩
theorem RepL.two {v u : Val} {ws : List V} (r : RepL K H [v, u] ws) : ∃ w x, ws = [w, x] ∧ Rep K H v w ∧ Rep K H u x := by
  cases r with
  | cons r q =>
    obtain ⟨x, rfl, s⟩ := q.one
    exact ⟨_, x, rfl, r, s⟩
end

/-- the pen of a law's draws: n more draws may be made -/
def PenOk (n : Nat) (xs : List Val) : Prop := ∃ (ns : List Int) (t w : Int), xs = [.scr ns, .int t, .int w] ∧ ns.length ≤ 63 ∧ 0 ≤ t ∧ t + n ≤ 1048576 ∧ 0 ≤ w
/-- fields, one by one -/
def RepF (K : PySem.W.Frag) (H : L2.Hp) (fs : List (Str × Val)) (ws : List (Str × V)) : Prop := fs.map (·.1) = ws.map (·.1) ∧ RepL K H (fs.map (·.2)) (ws.map (·.2))
def RepD (K : PySem.W.Frag) (H : L2.Hp) (kvs : List (Key × Val)) (ws : List (Key × V)) : Prop := kvs.map (·.1) = ws.map (·.1) ∧ RepL K H (kvs.map (·.2)) (ws.map (·.2))
/-- an entry of a dict whose key is a tuple of ints -/
def tkE (x : List Int × Addr × Value) : DictEntry := ⟨reduceHash (Builtin.Tuple.tupleHashOf (x.1.map hashInt)), .ref x.2.1, x.2.2⟩
/-- the object of such a dict -/
def rawT (a : Addr) (xs : List (List Int × Addr × Value)) : HO := .ext fun h => (a == sysModules) = false ∧ xs.length ≤ sizeLine ∧ (xs.map (·.1)).Nodup ∧ ∃ o es ep, h.get? a = some o ∧ o.ExactDict ∧ o.data = .dict es ep ∧ es.toList = xs.map tkE
def RepT (K : PySem.W.Frag) (H : L2.Hp) : List (List Int × Val) → List (List Int × Addr × Value) → Prop := Paired fun p q => p.1 = q.1 ∧ (∃ o, H q.2.1 = some (.frz o (.tup (p.1.map V.int)))) ∧ ∃ w, Rep K H p.2 w ∧ RelV w q.2.2
theorem RepT.up {K : PySem.W.Frag} {H H' : L2.Hp} {kvs : List (List Int × Val)} {xs : List (List Int × Addr × Value)} (r : RepT K H kvs xs) (t : TExt H H') : RepT K H' kvs xs :=
  Paired.mapP r fun _ _ ⟨a, ⟨o, b⟩, w, c, d⟩ => ⟨a, ⟨o, t.frz _ _ _ b⟩, w, c.up t, d⟩
def RepO (K : PySem.W.Frag) (H : L2.Hp) (a : Addr) : Ob → Prop
  | .lst xs => ∃ ws, H a = some (.lst ws) ∧ RepL K H xs ws
  | .pen n => ∃ ws, H a = some (.lst ws) ∧ ∃ xs, PenOk n xs ∧ RepL K H xs ws
  | .ins n fs => ∃ (C dx : Addr) (ws : List (Str × V)), PySem.W.nsIn K mainGlobals n = some (some (.ref C)) ∧ H a = some (.ins C dx ws) ∧ RepF K H fs ws
  | .dct kvs => ∃ ws, H a = some (.dK ws) ∧ RepD K H kvs ws
  | .dtt kvs => ∃ xs, H a = some (rawT a xs) ∧ RepT K H kvs xs
  | .tbl x => (∃ c, PySem.W.tabIn K x = some (c, a)) ∧ LamX.TabS H a (lamQ x)
  | .cod q => H a = some (LamX.CodeO a q)
def RepH (K : PySem.W.Frag) (H : L2.Hp) (h : Hg) : Prop := ∀ a o, h a = some o → RepO K H a o
section
variable {K : PySem.W.Frag} {H H' : L2.Hp} {h h' : Hg} {a : Addr}
theorem RepO.there {o : Ob} (r : RepO K H a o) : H a ≠ none := by
  cases o with
  | lst xs => obtain ⟨ws, q, _⟩ := r; rw [q]; simp
  | pen n => obtain ⟨ws, q, _⟩ := r; rw [q]; simp
  | ins n fs => obtain ⟨C, dx, ws, _, q, _⟩ := r; rw [q]; simp
  | dct kvs => obtain ⟨ws, q, _⟩ := r; rw [q]; simp
  | dtt kvs => obtain ⟨ws, q, _⟩ := r; rw [q]; simp
  | tbl x => obtain ⟨_, ps, q, _⟩ := r; rw [q]; simp
  | cod q => rw [show H a = some (LamX.CodeO a q) from r]; simp
theorem RepO.up {o : Ob} (r : RepO K H a o) (t : TExt H H') (k : H' a = H a) : RepO K H' a o := by
  cases o with
  | lst xs => obtain ⟨ws, q, s⟩ := r; exact ⟨ws, k.trans q, s.up t⟩
  | pen n => obtain ⟨ws, q, xs, p, s⟩ := r; exact ⟨ws, k.trans q, xs, p, s.up t⟩
  | ins n fs => obtain ⟨C, dx, ws, g, q, e, s⟩ := r; exact ⟨C, dx, ws, g, k.trans q, e, s.up t⟩
  | dct kvs => obtain ⟨ws, q, e, s⟩ := r; exact ⟨ws, k.trans q, e, s.up t⟩
  | dtt kvs => obtain ⟨ws, q, s⟩ := r; exact ⟨ws, k.trans q, RepT.up s t⟩
  | tbl x => obtain ⟨c, ps, h1, h2, h3⟩ := r; exact ⟨c, ps, k.trans h1, h2, fun pos cv hc => let ⟨c, e1, e2⟩ := h3 pos cv hc; ⟨c, e1, t.ext _ _ e2⟩⟩
  | cod q => exact k.trans r
theorem RepH.free (r : RepH K H h) {p : Addr} (n : H p = none) : h p = none := by
  cases e : h p with
  | none => rfl
  | some o => exact absurd n (r p o e).there
theorem RepH.lst (r : RepH K H h) {xs : List Val} (e : h a = some (.lst xs)) : ∃ ws, H a = some (.lst ws) ∧ RepL K H xs ws := r a _ e
/-- a new object that is not told of (a tuple) -/
theorem RepH.new (r : RepH K H h) {p : Addr} {o : HO} (n : H p = none) : RepH K (upd H p o) h := fun b u e =>
  (r b u e).up (TExt.new n) (upd_ne fun z => (r b u e).there (by rw [z]; exact n))
/-- a new list -/
theorem RepH.newL (r : RepH K H h) {p : Addr} {xs : List Val} {ws : List V} (n : H p = none) (s : RepL K H xs ws) : RepH K (upd H p (.lst ws)) (put h p (.lst xs)) := fun b u e => by
  by_cases q : b = p
  · subst q; rw [put_same] at e; cases e
    exact ⟨ws, upd_same, s.up (TExt.new n)⟩
  · rw [put_ne q] at e
    exact r.new n b u e
/-- a list written -/
theorem RepH.setL (r : RepH K H h) {p : Addr} {xs : List Val} {us ws : List V} (e0 : H p = some (.lst us)) (s : RepL K H xs ws) : RepH K (upd H p (.lst ws)) (put h p (.lst xs)) := fun b u e => by
  by_cases q : b = p
  · subst q; rw [put_same] at e; cases e
    exact ⟨ws, upd_same, s.up (TExt.lst e0)⟩
  · rw [put_ne q] at e
    exact (r b u e).up (TExt.lst e0) (upd_ne q)
/-- the list at an address -/
def lstAt (h : Hg) (a : Addr) : Option (List Val) := match h a with
  | some (.lst xs) => some xs
  | _ => none
theorem lstAt_eq {xs : List Val} (e : lstAt h a = some xs) : h a = some (.lst xs) := by
  unfold lstAt at e
  split at e
  · rename_i z q; cases e; exact q
  · cases e
theorem lstAt_of {xs : List Val} (e : h a = some (.lst xs)) : lstAt h a = some xs := by
  unfold lstAt; rw [e]
end

/-- a new tuple, known to its object -/
abbrev tupO (us : List Value) : Obj := { cls := .type "tuple", data := .seq us.toArray }
theorem newTup {X : Cx} {pins : List (Addr × Obj)} {σ : L2.St} {H : L2.Hp} {s : Shared} {xs : List V} {us : List Value} (I : Inv X pins σ H s) (r : Vals xs us) (hz : xs.length ≤ sizeLine) :
    Inv X pins σ (upd H s.heap.objs.size (.frz (tupO us) (.tup xs))) { s with heap := s.heap.push (tupO us) } :=
  I.laid (t' := s.toks) (o := .frz (tupO us) (.tup xs)) (fun b ob q => Heap.get?_push_of_some _ q) (Nat.le_refl _) ⟨Heap.get?_push_size _ rfl, hz, us, r, IsTup.new _ _⟩
theorem repTup {K : PySem.W.Frag} {H : L2.Hp} {a : Addr} {us : List Value} {vs : List Val} {xs : List V} (n : H a = none) (l : RepL K H vs xs) : Rep K (upd H a (.frz (tupO us) (.tup xs))) (.tup vs) (.ref a) :=
  .tup upd_same rfl (l.up (.new n))

/-- a bool, an int -/
def onBl (v : Val) (k : Bool → Prop) : Prop := match v with
  | .bl b => k b
  | _ => False
def onInt (v : Val) (k : Int → Prop) : Prop := match v with
  | .int i => k i
  | _ => False
/-! ### slots -/
abbrev Env' := List (Option Val)
def RelE (K : PySem.W.Frag) (H : L2.Hp) (env : Env') (σ : L2.St) : Prop := env.length = σ.length ∧ ∀ (i : Nat) v, env[i]? = some (some v) → ∃ w, σ[i]? = some (some w) ∧ Rep K H v w
section
variable {K : PySem.W.Frag} {H H' : L2.Hp} {env : Env'} {σ : L2.St}
theorem RelE.upF (r : RelE K H env σ) (t : FExt H H') : RelE K H' env σ := ⟨r.1, fun i v e => let ⟨w, a, b⟩ := r.2 i v e; ⟨w, a, Rep.monoF t v w b⟩⟩
theorem RelE.up (r : RelE K H env σ) (t : TExt H H') : RelE K H' env σ := r.upF t.frz
theorem RelE.set (r : RelE K H env σ) (i : Nat) {v : Val} {w : V} (q : Rep K H v w) : RelE K H (env.set i (some v)) (σ.set i (some w)) := by
  refine ⟨by rw [List.length_set, List.length_set, r.1], fun j u e => ?_⟩
  by_cases z : i = j
  · subst z
    by_cases hl : i < env.length
    · rw [List.getElem?_set_self hl] at e
      cases e
      exact ⟨w, List.getElem?_set_self (by rw [← r.1]; exact hl), q⟩
    · rw [List.getElem?_eq_none (by rw [List.length_set]; omega)] at e; cases e
  · rw [List.getElem?_set_ne z] at e
    obtain ⟨x, e1, e2⟩ := r.2 j u e
    exact ⟨x, by rw [List.getElem?_set_ne z]; exact e1, e2⟩
theorem RelE.unset (r : RelE K H env σ) (i : Nat) : RelE K H (env.set i none) (σ.set i none) := by
  refine ⟨by rw [List.length_set, List.length_set, r.1], fun j u e => ?_⟩
  by_cases z : i = j
  · subst z
    by_cases hl : i < env.length
    · rw [List.getElem?_set_self hl] at e; cases e
    · rw [List.getElem?_eq_none (by rw [List.length_set]; omega)] at e; cases e
  · rw [List.getElem?_set_ne z] at e
    obtain ⟨x, e1, e2⟩ := r.2 j u e
    exact ⟨x, by rw [List.getElem?_set_ne z]; exact e1, e2⟩
end

/-! ### what may be forgotten -/
theorem PenOk.le {m n : Nat} {xs : List Val} (k : PenOk n xs) (h : m ≤ n) : PenOk m xs := let ⟨ns, t, w, e, l, t0, t1, w0⟩ := k; ⟨ns, t, w, e, l, t0, by omega, w0⟩
/-- an object weakened -/
inductive SubO : Ob → Ob → Prop
  | refl (o : Ob) : SubO o o
  | pen {m n : Nat} (h : m ≤ n) : SubO (.pen m) (.pen n)
  | mk {m : Nat} {xs : List Val} (h : PenOk m xs) : SubO (.pen m) (.lst xs)
theorem SubO.rep {a b : Ob} {K : PySem.W.Frag} {H : L2.Hp} {p : Addr} (s : SubO a b) (r : RepO K H p b) : RepO K H p a := by
  cases s with
  | refl => exact r
  | pen h => obtain ⟨ws, q, xs, k, s⟩ := r; exact ⟨ws, q, xs, k.le h, s⟩
  | mk h => obtain ⟨ws, q, s⟩ := r; exact ⟨ws, q, _, h, s⟩
theorem SubO.trans {a b c : Ob} (x : SubO a b) (y : SubO b c) : SubO a c := by
  cases x with
  | refl => exact y
  | pen h => cases y with
    | refl => exact .pen h
    | pen h2 => exact .pen (Nat.le_trans h h2)
    | mk h2 => exact .mk (h2.le h)
  | mk h => cases y with
    | refl => exact .mk h
def Sub (h' h : Hg) : Prop := ∀ a o', h' a = some o' → ∃ o, h a = some o ∧ SubO o' o
theorem Sub.refl (h : Hg) : Sub h h := fun _ o e => ⟨o, e, .refl o⟩
theorem Sub.trans {a b c : Hg} (x : Sub a b) (y : Sub b c) : Sub a c := fun p o e =>
  let ⟨u, e2, w⟩ := x p o e
  let ⟨v, e3, z⟩ := y p u e2
  ⟨v, e3, w.trans z⟩
theorem Sub.put {h' h : Hg} (s : Sub h' h) (p : Addr) {o u : Ob} (w : SubO o u) : Sub (put h' p o) (put h p u) := fun a v e => by
  by_cases q : a = p
  · subst q; rw [put_same] at e; cases e; exact ⟨u, put_same, w⟩
  · rw [put_ne q] at e; rw [put_ne q]; exact s a v e
theorem Sub.over {h' h : Hg} (s : Sub h' h) {p : Addr} (o : Ob) (n : h' p = none) : Sub h' (G.put h p o) := fun a u e => by
  have z : a ≠ p := fun q => by rw [q, n] at e; cases e
  rw [put_ne z]; exact s a u e
theorem Sub.same {h' h : Hg} (s : ∀ a, h' a = h a) : Sub h' h := fun a o e => ⟨o, (s a) ▸ e, .refl o⟩
theorem RepH.sub {K : PySem.W.Frag} {H : L2.Hp} {h' h : Hg} (r : RepH K H h) (s : Sub h' h) : RepH K H h' := fun a o' e =>
  let ⟨o, e2, w⟩ := s a o' e
  w.rep (r a o e2)
/-- one draw gone -/
def tickO : Ob → Ob
  | .pen n => .pen (n - 1)
  | o => o
def tick (h : Hg) : Hg := fun a => (h a).map tickO
theorem SubO.tick {a b : Ob} (x : SubO a b) : SubO (tickO a) (tickO b) := by
  cases x with
  | refl => exact .refl _
  | pen h => exact .pen (Nat.sub_le_sub_right h 1)
  | mk h => exact .mk (h.le (Nat.sub_le _ _))
theorem Sub.tick1 {h' h : Hg} (s : Sub h' h) : Sub (G.tick h') (G.tick h) := fun a o e => by
  obtain ⟨u, eu, rfl⟩ := Option.map_eq_some_iff.mp e
  obtain ⟨v, ev, w⟩ := s a u eu
  exact ⟨tickO v, by unfold G.tick; rw [ev]; rfl, w.tick⟩
def ticks : Nat → Hg → Hg
  | 0, h => h
  | n + 1, h => tick (ticks n h)
/-- the pen opened -/
theorem pen_open {K : PySem.W.Frag} {H : L2.Hp} {h : Hg} {p : Addr} {n : Nat} (r : RepH K H h) (e : h p = some (.pen n)) : ∃ xs, PenOk n xs ∧ RepH K H (put h p (.lst xs)) := by
  obtain ⟨ws, q, xs, ok, s⟩ := r p _ e
  refine ⟨xs, ok, fun b u z => ?_⟩
  by_cases hb : b = p
  · subst hb; rw [put_same] at z; cases z; exact ⟨ws, q, s⟩
  · rw [put_ne hb] at z; exact r b u z
/-- what may be taken for granted of a heap that stands -/
def Entry (h : Hg) (P : Hg → Prop) : Prop := ∀ K H, RepH K H h → ∃ h', RepH K H h' ∧ P h'
theorem Entry.self {h : Hg} {P : Hg → Prop} (p : P h) : Entry h P := fun _ _ r => ⟨h, r, p⟩
theorem Entry.pen {h : Hg} {P : Hg → Prop} {p : Addr} {n : Nat} (e : h p = some (.pen n)) (k : ∀ (ns : List Int) (t w : Int), ns.length ≤ 63 → 0 ≤ t → t + n ≤ 1048576 → 0 ≤ w → P (put h p (.lst [.scr ns, .int t, .int w]))) : Entry h P := fun K H r => by
  obtain ⟨xs, ⟨ns, t, w, rfl, l, t0, t1, w0⟩, r2⟩ := pen_open r e
  exact ⟨_, r2, k ns t w l t0 t1 w0⟩
def SubE (e' e : Env') : Prop := e'.length = e.length ∧ ∀ (i : Nat) v, e'[i]? = some (some v) → e[i]? = some (some v)
theorem SubE.refl (e : Env') : SubE e e := ⟨rfl, fun _ _ z => z⟩
def subEb : List (Option Val) → List (Option Val) → Prop
  | [], [] => True
  | none :: r, _ :: r' => subEb r r'
  | some v :: r, some v' :: r' => v = v' ∧ subEb r r'
  | _, _ => False
theorem SubE.of : ∀ {e' e : Env'}, subEb e' e → SubE e' e
  | [], [], _ => .refl _
  | none :: r, y :: r', h => by
    obtain ⟨a, b⟩ := SubE.of (e' := r) (e := r') h
    refine ⟨by rw [List.length_cons, List.length_cons, a], fun i v z => ?_⟩
    cases i with
    | zero => cases z
    | succ i => exact b i v z
  | some v :: r, some v' :: r', h => by
    obtain ⟨a, b⟩ := SubE.of (e' := r) (e := r') h.2
    refine ⟨by rw [List.length_cons, List.length_cons, a], fun i u z => ?_⟩
    cases i with
    | zero => cases z; rw [h.1]; rfl
    | succ i => exact b i u z
  | [], _ :: _, h => h.elim
  | some _ :: _, [], h => h.elim
  | some _ :: _, none :: _, h => h.elim
  | none :: _, [], h => h.elim
theorem RelE.sub {K : PySem.W.Frag} {H : L2.Hp} {e' e : Env'} {σ : L2.St} (r : RelE K H e σ) (s : SubE e' e) : RelE K H e' σ := ⟨s.1.trans r.1, fun i v z => r.2 i v (s.2 i v z)⟩
/-- up to what may be forgotten -/
def Clo (P : Env' → Hg → Prop) (e : Env') (h : Hg) : Prop := ∃ e' h', SubE e' e ∧ Sub h' h ∧ P e' h'
def CloH (P : Hg → Prop) (h : Hg) : Prop := ∃ h', Sub h' h ∧ P h'

/-! ### exceptions -/
structure Exn where
  cls : Str
  fs : List Str
  vs : List Val
/-- an exception in the air: its class, its fields in its dict -/
def RepX (K : PySem.W.Frag) (H : L2.Hp) (x : Exn) (cls : Value) (d : Option Addr) : Prop :=
  ∃ (C : Addr) (ws : List V), PySem.W.nsIn K mainGlobals x.cls = some (some (.ref C)) ∧ cls = .ref C ∧ RepL K H x.vs ws ∧
    ((d = none ∧ x.fs = [] ∧ ws = []) ∨ ∃ (dx : Addr) (xs : List (Str × V)), d = some dx ∧ H dx = some (.xd xs) ∧ x.fs.length = ws.length ∧ ∀ (i : Nat) f w, x.fs[i]? = some f → ws[i]? = some w → xs.lookup f = some w)

/-! ### what is wanted -/
abbrev KV := Val → Hg → Prop
abbrev KX := Exn → Hg → Prop
abbrev WE := Env' → Hg → KV → KX → Prop
abbrev WA := Env' → Hg → (List Val → Hg → Prop) → KX → Prop
abbrev WT := Env' → Hg → (Bool → Hg → Prop) → KX → Prop
structure Dn where
  nx : Env' → Hg → Prop
  rt : KV
  ex : Exn → Env' → Hg → Prop
  bk : Env' → Hg → Prop := fun _ _ => False
  ct : Env' → Hg → Prop := fun _ _ => False
abbrev WS := Dn → Env' → Hg → Prop

def XW (K : PySem.W.Frag) (H : L2.Hp) (σ : L2.St) (E : KX) : WX := fun cls d σ' H' => σ' = σ ∧ ∃ x h', TExt H H' ∧ RepH K H' h' ∧ RepX K H' x cls d ∧ E x h'
def XWs (K : PySem.W.Frag) (H : L2.Hp) (ex : Exn → Env' → Hg → Prop) : WX := fun cls d σ' H' => ∃ x env' h', TExt H H' ∧ RelE K H' env' σ' ∧ RepH K H' h' ∧ RepX K H' x cls d ∧ ex x env' h'
def ContE (K : PySem.W.Frag) (H : L2.Hp) (q : KV) (Q : VK) : Prop := ∀ v w h' H', TExt H H' → RepH K H' h' → Rep K H' v w → q v h' → Q w H'
def ContT (K : PySem.W.Frag) (H : L2.Hp) (q : Bool → Hg → Prop) (Q : Bool → L2.Hp → Prop) : Prop := ∀ b h' H', TExt H H' → RepH K H' h' → q b h' → Q b H'
def ContA (K : PySem.W.Frag) (H : L2.Hp) (q : List Val → Hg → Prop) (Q : List V → L2.Hp → Prop) : Prop := ∀ v w h' H', TExt H H' → RepH K H' h' → RepL K H' v w → q v h' → Q w H'
def ContN (K : PySem.W.Frag) (H : L2.Hp) (q : Env' → Hg → Prop) (Q : L2.St → L2.Hp → Prop) : Prop := ∀ env' h' σ' H', TExt H H' → RelE K H' env' σ' → RepH K H' h' → q env' h' → Q σ' H'

def tG (X : Cx) (W : WE) : TE := fun σ H Q => ∃ env h q E, RelE X.K H env σ ∧ RepH X.K H h ∧ Takes X (XW X.K H σ E) ∧ W env h q E ∧ ContE X.K H q Q
def tGT (X : Cx) (W : WT) : TT := fun σ H Q => ∃ env h q E, RelE X.K H env σ ∧ RepH X.K H h ∧ Takes X (XW X.K H σ E) ∧ W env h q E ∧ ContT X.K H q Q
def tGA (X : Cx) (W : WA) : TA := fun σ H Q => ∃ env h q E, RelE X.K H env σ ∧ RepH X.K H h ∧ Takes X (XW X.K H σ E) ∧ W env h q E ∧ ContA X.K H q Q
def tGS (X : Cx) (W : WS) : TS := fun D σ H => ∃ env h d, RelE X.K H env σ ∧ RepH X.K H h ∧ Takes X (XWs X.K H d.ex) ∧ W d env h ∧ ContN X.K H d.nx D.nx ∧ ContE X.K H d.rt D.rt ∧ ContN X.K H d.bk D.bk ∧ ContN X.K H d.ct D.ct
structure GE (X : Cx) (e : Expr) (W : WE) : Prop where
  pe : PE X e (tG X W)
structure GT (X : Cx) (e : Expr) (W : WT) : Prop where
  pt : PT X e (tGT X W)
structure GA (X : Cx) (es : List Expr) (W : WA) : Prop where
  pa : PA X es (tGA X W)
structure GS (X : Cx) (st : Stmt) (W : WS) : Prop where
  ps : PS X st (tGS X W)
structure GSs (X : Cx) (st : List Stmt) (W : WS) : Prop where
  ps : PSs X st (tGS X W)

theorem PEimp {X : Cx} {e : Expr} {t t' : TE} (h : PE X e t) (i : ∀ σ H Q, t' σ H Q → t σ H Q) : PE X e t' := ⟨fun pins s σ H Q I q => h.run pins s σ H Q I (i σ H Q q)⟩
theorem PTimp {X : Cx} {e : Expr} {t t' : TT} (h : PT X e t) (i : ∀ σ H Q, t' σ H Q → t σ H Q) : PT X e t' := ⟨fun pins s σ H Q I q => h.run pins s σ H Q I (i σ H Q q)⟩
theorem PAimp {X : Cx} {e : List Expr} {t t' : TA} (h : PA X e t) (i : ∀ σ H Q, t' σ H Q → t σ H Q) : PA X e t' := ⟨fun pos pins s σ H Q I q => h.run pos pins s σ H Q I (i σ H Q q)⟩
theorem PSimp {X : Cx} {e : Stmt} {t t' : TS} (h : PS X e t) (i : ∀ D σ H, t' D σ H → t D σ H) : PS X e t' := ⟨fun pins s σ H D I q => h.run pins s σ H D I (i D σ H q)⟩
theorem PSsimp {X : Cx} {e : List Stmt} {t t' : TS} (h : PSs X e t) (i : ∀ D σ H, t' D σ H → t D σ H) : PSs X e t' := ⟨fun pins s σ H D I q => h.run pins s σ H D I (i D σ H q)⟩

section
variable {X : Cx} {K : PySem.W.Frag} {H H' : L2.Hp} {σ : L2.St}
theorem takesUp {E : KX} (t : TExt H H') (k : Takes X (XW K H σ E)) : Takes X (XW K H' σ E) := k.imp fun _ _ _ _ ⟨e, x, h', a, b, c, d⟩ => ⟨e, x, h', t.trans a, b, c, d⟩
theorem takesUpS {E : Exn → Env' → Hg → Prop} (t : TExt H H') (k : Takes X (XWs K H E)) : Takes X (XWs K H' E) := k.imp fun _ _ _ _ ⟨x, env', h', a, b, c, d⟩ => ⟨x, env', h', t.trans a, b, c, d⟩
/-- from a statement's wish to an expression's -/
theorem takesE {ex : Exn → Env' → Hg → Prop} {env : Env'} (r : RelE K H env σ) (k : Takes X (XWs K H ex)) : Takes X (XW K H σ fun x h => ex x env h) := k.imp fun _ _ _ _ ⟨e, x, h', a, b, c, d⟩ => by subst e; exact ⟨x, env, h', a, r.up a, b, c, d⟩
theorem ContE.up {q : KV} {Q : VK} (t : TExt H H') (c : ContE K H q Q) : ContE K H' q Q := fun v w h' H2 a b r z => c v w h' H2 (t.trans a) b r z
theorem ContT.up {q : Bool → Hg → Prop} {Q : Bool → L2.Hp → Prop} (t : TExt H H') (c : ContT K H q Q) : ContT K H' q Q := fun b h' H2 a r z => c b h' H2 (t.trans a) r z
theorem ContA.up {q : List Val → Hg → Prop} {Q : List V → L2.Hp → Prop} (t : TExt H H') (c : ContA K H q Q) : ContA K H' q Q := fun v w h' H2 a b r z => c v w h' H2 (t.trans a) b r z
theorem ContN.up {q : Env' → Hg → Prop} {Q : L2.St → L2.Hp → Prop} (t : TExt H H') (c : ContN K H q Q) : ContN K H' q Q := fun e h' s H2 a b r z => c e h' s H2 (t.trans a) b r z
end

/-! ### the context of a body -/
def visB (sc : Scope) (x : Str) : Bool := match sc.names.lookup x with
  | some .local => true | some .cell => true | some .free => true | _ => false
def ownB (sc : Scope) (x : Str) : Bool := match sc.names.lookup x with
  | some .local => true | some .cell => true | _ => false
def glbB (sc : Scope) (x : Str) : Bool := match sc.names.lookup x with
  | some .globalImplicit => true | _ => false
/-- sc: the scope for reading; ow: the names that may be stored -/
structure Cn (X : Cx) (N : List Str) (sc ow : Scope) : Prop where
  hN : X.N = N
  nd : N.Nodup
  hs : X.env.scope = sc
  calm : X.calm = true
  guards : X.A.guards = some []
  units : X.A.units + 64 < cLine
  pas : PassesOwn (model X.prog X.w) X.A X.env X.xe
  st : ∀ x, ownB ow x = true → Loc X.env.scope x ∧ (X.fn x = true ∨ X.env.scope.names.lookup x = some .local)
theorem vis_of {sc : Scope} {x : Str} (h : visB sc x = true) : Vis sc x := by
  unfold visB at h
  split at h
  · exact .inl (by assumption)
  · exact .inr (.inl (by assumption))
  · exact .inr (.inr (by assumption))
  · cases h
theorem own_of {sc : Scope} {x : Str} (h : ownB sc x = true) : Loc sc x := by
  unfold ownB at h
  split at h
  · exact .inl (by assumption)
  · exact .inr (by assumption)
  · cases h
theorem Cn.gl {X : Cx} {N : List Str} {sc ow : Scope} (C : Cn X N sc ow) {x : Str} (h : glbB sc x = true) : Gl X x := by
  unfold glbB at h
  show X.env.kindOf x = _
  show X.env.scope.names.lookup x = _
  rw [C.hs]
  split at h
  · assumption
  · cases h

/-! ### names, constants -/
section
variable {X : Cx} {N : List Str} {sc ow : Scope} {e a b c : Expr} {pos : Pos} {Wa Wb Wc : WE}
def wVar (i : Nat) : WE := fun env h Q _ => match env[i]? with
  | some (some v) => Q v h
  | _ => False
def wC (v : Val) : WE := fun _ h Q _ => Q v h
theorem ge_var (C : Cn X N sc ow) (i : Nat) {x : Str} (hN : N[i]? = some x := by decide +kernel) (hv : visB sc x = true := by decide +kernel) (hd : ((x == ("__debug__" : Str)) || (x == ("__classdict__" : Str))) = false := by decide +kernel) : GE X (.Name x pos) (wVar i) := by
  rw [Bool.or_eq_false_iff] at hd
  refine ⟨PEimp (pe_var (by rw [C.hN]; exact hN) (by rw [C.hs]; exact vis_of hv) hd.1 hd.2) ?_⟩
  rintro σ H Q ⟨env, h, q, E, re, rh, tk, w, k⟩
  unfold wVar at w
  split at w
  · rename_i v e
    obtain ⟨u, e1, r⟩ := re.2 i v e
    exact ⟨u, e1, k v u h H (.refl H) rh r w⟩
  · exact w.elim
theorem ge_int {i j pos} : GE X (.Constant (.int i) j pos) (wC (.int i)) := by
  refine ⟨PEimp pe_int ?_⟩
  rintro σ H Q ⟨env, h, q, E, re, rh, tk, w, k⟩
  exact k _ _ h H (.refl H) rh (.int i) w
theorem ge_bl {i j pos} : GE X (.Constant (.bool i) j pos) (wC (.bl i)) := by
  refine ⟨PEimp pe_bl ?_⟩
  rintro σ H Q ⟨env, h, q, E, re, rh, tk, w, k⟩
  exact k _ _ h H (.refl H) rh (.bl i) w
theorem ge_non {j pos} : GE X (.Constant .none j pos) (wC .non) := by
  refine ⟨PEimp pe_non ?_⟩
  rintro σ H Q ⟨env, h, q, E, re, rh, tk, w, k⟩
  exact k _ _ h H (.refl H) rh .non w
theorem ge_str {i j pos} : GE X (.Constant (.str i) j pos) (wC (.str i)) := by
  refine ⟨PEimp pe_str ?_⟩
  rintro σ H Q ⟨env, h, q, E, re, rh, tk, w, k⟩
  exact k _ _ h H (.refl H) rh (.str i) w
/-- a module's constant -/
def RelC (v : Val) (u : Value) : Prop := match v with
  | .int i => ∃ t, u = .int i t
  | .str x => ∃ t, u = .str x t
  | .ref a => u = .ref a
  | _ => False
theorem ge_glob (C : Cn X N sc ow) {x : Str} {v : Val} {u : Value} (hm : X.mg x = some u) (r : RelC v u) (hg : glbB sc x = true := by decide +kernel) (hd : (x == ("__debug__" : Str)) = false := by decide +kernel) : GE X (.Name x pos) (wC v) := by
  have key : ∃ w : V, RelV w u ∧ ∀ K H, Rep K H v w := by
    cases v with
    | int i => exact ⟨.int i, r, fun _ _ => .int i⟩
    | str i => exact ⟨.str i, r, fun _ _ => .str i⟩
    | ref i => exact ⟨.ref i, r, fun _ _ => .ref i⟩
    | _ => exact (show False from r).elim
  obtain ⟨w, r1, r2⟩ := key
  refine ⟨PEimp (pe_glob (C.gl hg) hm r1 hd) ?_⟩
  rintro σ H Q ⟨env, h, q, E, re, rh, tk, w, k⟩
  exact k _ _ h H (.refl H) rh (r2 _ _) w

/-! ### operators -/
abbrev W2 := Val → Val → Hg → KV → Prop
def rG (K : PySem.W.Frag) (o : W2) : R2 := fun x y H Q => ∃ vx vy h q, Rep K H vx x ∧ Rep K H vy y ∧ RepH K H h ∧ o vx vy h q ∧ ContE K H q Q
def wOp (o : W2) (Wa Wb : WE) : WE := fun env h Q E => Wa env h (fun va h1 => Wb env h1 (fun vb h2 => o va vb h2 Q) E) E
theorem opImp {o : W2} (ha : GE X a Wa) (hb : GE X b Wb) : ∀ σ H Q, tG X (wOp o Wa Wb) σ H Q → tOp (rG X.K o) (tG X Wa) (tG X Wb) σ H Q := by
  rintro σ H Q ⟨env, h, q, E, re, rh, tk, w, k⟩
  refine ⟨env, h, _, E, re, rh, tk, w, fun va wa h1 H1 t1 rh1 ra w1 => ?_⟩
  refine ⟨env, h1, _, E, re.up t1, rh1, takesUp t1 tk, w1, fun vb wb h2 H2 t2 rh2 rb w2 => ?_⟩
  exact ⟨va, vb, h2, q, ra.up t2, rb, rh2, w2, k.up (t1.trans t2)⟩
theorem ge_bin {op : Operator} {o : W2} (ho : OpR X (binaryOp op) (rG X.K o)) (ha : GE X a Wa) (hb : GE X b Wb) : GE X (.BinOp a op b pos) (wOp o Wa Wb) := ⟨PEimp (pe_op ho ha.pe hb.pe) (opImp ha hb)⟩
theorem ge_cmp {op : CmpOp} {o : W2} (ho : OpR X (compareOp op) (rG X.K o)) (ha : GE X a Wa) (hb : GE X b Wb) (hm : behindInMarks op b = false := by first | exact nomark _ | rfl) : GE X (.Compare a [op] [b] pos) (wOp o Wa Wb) := ⟨PEimp (pe_cmpR ho ha.pe hb.pe hm) (opImp ha hb)⟩
/-- the sequence that a value is -/
def seqOf (h : Hg) : Val → Option (List Val)
  | .tup xs => some xs
  | .scr ns => some (ns.map Val.int)
  | .ref a => lstAt h a
  | _ => none
def MulOk (i j : Int) : Prop := CMul i j ∨ CMulW i j
def DivOk (j : Int) : Prop := 0 < j ∧ (j < 1073741824 ∨ j.natAbs.log2 < 9000)
end
end G

set_option Elab.async false
set_option linter.all false
set_option maxRecDepth 100000
set_option maxHeartbeats 4000000
namespace G
open PySem PySem.Spec L2
open PyProof.Rows hiding St

/-! ### sequences read -/
section
variable {X : Cx} {pins : List (Addr × Obj)} {σ : L2.St} {H : L2.Hp} {s : Shared} {h : Hg} {K : PySem.W.Frag}
/-- a value that is a sequence stands as a list or a tuple -/
theorem seq_of (rh : RepH K H h) {v : Val} {w : V} {xs : List Val} (r : Rep K H v w) (e : seqOf h v = some xs) :
    ∃ a ws, w = .ref a ∧ RepL K H xs ws ∧ ((SqL K H a ws ∧ ∀ ys, v ≠ .tup ys) ∨ (SqT K H a ws ∧ v = .tup xs)) := by
  cases r with
  | tup h1 _ h2 => cases e; exact ⟨_, _, rfl, h2, .inr ⟨.inl (.inr ⟨_, h1⟩), rfl⟩⟩
  | scr h1 => cases e; exact ⟨_, _, rfl, RepL.ofInts, .inl ⟨h1.sql, fun _ z => by cases z⟩⟩
  | ref a =>
    obtain ⟨ws, h1, h2⟩ := rh.lst (lstAt_eq (show lstAt h a = some xs from e))
    exact ⟨a, ws, rfl, h2, .inl ⟨SqL.of h1, fun _ z => by cases z⟩⟩
  | _ => cases e
theorem lst_of (rh : RepH K H h) {a : Addr} {w : V} {xs : List Val} (r : Rep K H (.ref a) w) (e : h a = some (.lst xs)) : ∃ ws, w = .ref a ∧ H a = some (.lst ws) ∧ RepL K H xs ws := by
  cases r
  obtain ⟨ws, h1, h2⟩ := rh.lst e
  exact ⟨ws, rfl, h1, h2⟩
end

/-! ### binary operators by values -/
theorem tuple_mulSame (l : Addr) (items : Array Value) (n : Nat) (dd : Option Addr) (sl : Array (Option Value)) (x : Int) (u : Tok) (c0 : (decide (x < -(2 ^ 63)) || decide (x ≥ 2 ^ 63)) = false) (c1 : (items.isEmpty || x == 1) = true) :
    Meets (Builtin.«tuple.__mul__» ⟨[.ref l, .int x u], []⟩) (fun _ R s => s.heap.get? l = some { cls := .type "tuple", dict := dd, data := .seq items n, slots := sl } ∧ R (.ok (.ret (Value.ref l))) s) :=
  .of_wp fun prog w A R s h => by
    obtain ⟨hp, g, d, tk, os⟩ := s
    obtain ⟨hl, h⟩ := h
    have f1 := AutoSeq1.idx_int
    wp_walk using wpAny_loadPart' hl
    repeat (first
      | (refine wpAny_ite_false (decide_eq_false (by rw [c0]; exact Bool.false_ne_true)) ?_; wp_walk using wpAny_loadPart' hl)
      | (refine wpAny_ite_true (decide_eq_true c1) ?_; wp_walk using wpAny_loadPart' hl))
    exact ⟨_, rfl, h⟩
theorem tuple_mulNone (l : Addr) (items : Array Value) (n : Nat) (dd : Option Addr) (sl : Array (Option Value)) (x : Int) (u : Tok) (c0 : (decide (x < -(2 ^ 63)) || decide (x ≥ 2 ^ 63)) = false) (c1 : (items.isEmpty || x == 1) = false) (c2 : (decide (x ≤ 0) || items.isEmpty) = true) :
    Meets (Builtin.«tuple.__mul__» ⟨[.ref l, .int x u], []⟩) (fun _ R s => s.heap.get? l = some { cls := .type "tuple", dict := dd, data := .seq items n, slots := sl } ∧
      R (.ok (.ret (Value.ref s.heap.objs.size))) { s with heap := s.heap.push { cls := Value.type "tuple", data := Data.seq #[] }, toks := s.toks }) :=
  .of_wp fun prog w A R s h => by
    obtain ⟨hp, g, d, tk, os⟩ := s
    obtain ⟨hl, h⟩ := h
    have f1 := AutoSeq1.idx_int
    wp_walk using wpAny_loadPart' hl
    repeat (first
      | (refine wpAny_ite_false (decide_eq_false (by rw [c0]; exact Bool.false_ne_true)) ?_; wp_walk using wpAny_loadPart' hl)
      | (refine wpAny_ite_false (decide_eq_false (by rw [c1]; exact Bool.false_ne_true)) ?_; wp_walk using wpAny_loadPart' hl)
      | (refine wpAny_ite_true (decide_eq_true c2) ?_; wp_walk using wpAny_loadPart' hl))
    exact ⟨_, rfl, h⟩
def rTupK (K : PySem.W.Frag) : R2 := fun x y H Q => ∃ l o ws k, x = .ref l ∧ y = .int k ∧ H l = some (.frz o (.tup ws)) ∧ -(2 ^ 63) ≤ k ∧ k ≤ 1000 ∧ ws.length ≤ 1000 ∧ ((List.replicate k.toNat ws).flatten = ws → Q (.ref l) H) ∧
  ∀ p us, H p = none → Q (.ref p) (upd H p (.frz (tupO us) (.tup (List.replicate k.toNat ws).flatten)))
section
variable {X : Cx}
/-- a tuple, several times -/
theorem op_tupK : OpR X (binaryOp .Mult) (rTupK X.K) := by
  intro pins s σ H x y v u Q I rx ry h
  obtain ⟨l, o, xs, k, rfl, rfl, hT, k0, k1, hz, q0, q⟩ := h
  cases rx
  obtain ⟨t, rfl⟩ := ry
  obtain ⟨its, r, ⟨⟨cls, dd, data, sl⟩, ho, hc, n, hd⟩, hs⟩ := I.tuple (.inl (.inr ⟨_, hT⟩))
  simp only at hc hd
  subst hc hd
  have hle : its.length = xs.length := r.length.symm
  have hsz0 : its.toArray.size = xs.length := by rw [List.size_toArray, hle]
  have c0 : (decide (k < -(2 ^ 63)) || decide (k ≥ 2 ^ 63)) = false := by
    rw [decide_eq_false (by omega), decide_eq_false (by omega)] <;> rfl
  have key : wpAny (model X.prog X.w) X.A (call (.builtin "tuple.__mul__") [.ref l, .int k t]) (EP X pins σ Q) X.xe s := by
    by_cases c1 : (its.toArray.isEmpty || k == 1) = true
    · refine call_meets F.slot_tuple_mul ⟨_, ho, rfl⟩ F.entry_tuple_mul (F.args_tuple_mul_2 _ _) (tuple_mulSame l its.toArray n dd sl k t c0 c1) ⟨ho, ?_⟩
      refine ⟨.ref l, H, I, rfl, q0 ?_⟩
      rw [Bool.or_eq_true] at c1
      rcases c1 with c1 | c1
      · have : its = [] := by simpa using c1
        subst this
        have : xs = [] := List.eq_nil_of_length_eq_zero hle.symm
        subst this
        simp
      · have : k = 1 := by simpa using c1
        subst this
        show ([xs] : List (List V)).flatten = xs
        simp
    · have c1 : (its.toArray.isEmpty || k == 1) = false := by simpa using c1
      have hn : its ≠ [] := fun e => by rw [e] at c1; simp at c1
      have hi : its.toArray.isEmpty = false := by
        cases its with
        | nil => exact absurd rfl hn
        | cons a b => rfl
      by_cases c2 : k ≤ 0
      · refine call_meets F.slot_tuple_mul ⟨_, ho, rfl⟩ F.entry_tuple_mul (F.args_tuple_mul_2 _ _) (tuple_mulNone l its.toArray n dd sl k t c0 c1 (by rw [decide_eq_true c2]; rfl)) ⟨ho, ?_⟩
        have e : (List.replicate k.toNat xs).flatten = [] := by rw [show k.toNat = 0 by omega]; rfl
        have := q s.heap.objs.size [] (I.hok.fresh (Nat.le_refl _))
        rw [e] at this
        exact ⟨.ref s.heap.objs.size, _, newTup I .nil (Nat.zero_le _), rfl, this⟩
      · have hm : ((its.toArray.size : Nat) : Int) * k ≤ 1000000 := by
          rw [hsz0]
          have a1 : ((xs.length : Nat) : Int) * k ≤ 1000 * k := Int.mul_le_mul_of_nonneg_right (by omega) (by omega)
          omega
        have flen : (List.replicate k.toNat its).flatten.length ≤ sizeLine := by
          rw [PyProof.Rows.lm_len_rep_flat, hle, sizeLine_eq]
          have a1 : k.toNat * xs.length ≤ 1000 * 1000 := Nat.mul_le_mul (by omega) hz
          omega
        have c2 : (decide (k ≤ 0) || its.toArray.isEmpty) = false := by
          rw [hi, Bool.or_false]
          exact decide_eq_false (by omega)
        have c4 : Builtin.Tuple.tupleTooMany (((its.toArray.size : Nat) : Int) * k) = false := by
          unfold Builtin.Tuple.tupleTooMany
          rw [sizeLine_eq]
          exact decide_eq_false (by omega)
        refine call_meets F.slot_tuple_mul ⟨_, ho, rfl⟩ F.entry_tuple_mul (F.args_tuple_mul_2 _ _) (tuple_mulW l its.toArray n dd sl k t c0 c1 c2 (by omega) c4 (by rw [size_rep, List.size_toArray]; exact flen)) ⟨ho, ?_⟩
        rw [size_rep]
        exact ⟨.ref s.heap.objs.size, _, newTup I (r.rep k.toNat) (by rw [PyProof.Rows.lm_len_rep_flat, sizeLine_eq]; have a1 : k.toNat * xs.length ≤ 1000 * 1000 := Nat.mul_le_mul (by omega) hz; omega), rfl, q _ _ (I.hok.fresh (Nat.le_refl _))⟩
  exact wpAny_binaryOp_repeat_ref (T := "tuple") (U := "int") (by decide) ⟨_, ho, rfl⟩ (fun s' => typeIs_int s' k t) noFill_tuple_mul F.fills_int_mul F.slot_int_rmul repeat_tuple F.slot_int_index.lookup
    (call_meets F.slot_int_rmul (typeIs_int s k t) F.entry_int_rmul (F.args_int_rmul_2 _ _) (int_rmul_tuple k t l its.toArray n dd sl)
      ⟨ho, rfl, ⟨_, ho, rfl⟩, key⟩)
end
def oAdd : W2 := fun x y h Q => match x, y with
  | .int i, .int j => Q (.int (i + j)) h
  | .str i, .str j => i.length + j.length ≤ sizeLine ∧ Q (.str (i ++ j)) h
  | .tup xs, .tup ys => xs.length + ys.length ≤ sizeLine ∧ Q (.tup (xs ++ ys)) h
  | .ref a, .ref b => match h a, h b with
    | some (.lst xs), some (.lst ys) => xs.length + ys.length ≤ sizeLine ∧ ∀ p, h p = none → Q (.ref p) (put h p (.lst (xs ++ ys)))
    | _, _ => False
  | _, _ => False
def oSub : W2 := fun x y h Q => match x, y with
  | .int i, .int j => Q (.int (i - j)) h
  | _, _ => False
def oMul : W2 := fun x y h Q => match x, y with
  | .int i, .int j => MulOk i j ∧ Q (.int (i * j)) h
  | .tup xs, .int k => (-(2 ^ 63) ≤ k ∧ k ≤ 1000 ∧ xs.length ≤ 1000) ∧ Q (.tup (List.replicate k.toNat xs).flatten) h
  | .ref a, .int k => match h a with
    | some (.lst xs) => (-(2 ^ 63) ≤ k ∧ k < 2 ^ 63 ∧ xs.length * k.toNat ≤ sizeLine) ∧ ∀ p, h p = none → Q (.ref p) (put h p (.lst (List.replicate k.toNat xs).flatten))
    | _ => False
  | _, _ => False
def oFdiv : W2 := fun x y h Q => match x, y with
  | .int i, .int j => DivOk j ∧ Q (.int (i / j)) h
  | _, _ => False
def oMod : W2 := fun x y h Q => match x, y with
  | .int i, .int j => 0 < j ∧ Q (.int (i % j)) h
  | _, _ => False
def oPow : W2 := fun x y h Q => match x, y with
  | .int i, .int j => CPow i j ∧ Q (.int (i ^ j.toNat)) h
  | _, _ => False

section
variable {X : Cx}
theorem sAdd : OpR X (binaryOp .Add) (rG X.K oAdd) := by
  rintro pins s σ H x y v u Q I rx ry ⟨vx, vy, h, q, r1, r2, rh, w, k⟩
  cases vx <;> cases vy <;> first | exact (show False from w).elim | skip
  case int.int i j => cases r1; cases r2; exact op_add pins s σ H _ _ v u Q I rx ry ⟨i, j, rfl, rfl, k _ _ h H (.refl H) rh (.int _) w⟩
  case str.str i j => cases r1; cases r2; exact op_add_str pins s σ H _ _ v u Q I rx ry ⟨i, j, rfl, rfl, w.1, k _ _ h H (.refl H) rh (.str _) w.2⟩
  case tup.tup xs ys =>
    cases r1 with
    | @tup a _ _ ws1 e1 d1 l1 =>
      cases r2 with
      | @tup b _ _ ws2 e2 d2 l2 =>
        have n1 := l1.length
        have n2 := l2.length
        cases rx
        cases ry
        obtain ⟨its, s1, p1, _⟩ := I.tuple (.inl (.inr ⟨_, e1⟩))
        obtain ⟨its2, s2, p2, _⟩ := I.tuple (.inl (.inr ⟨_, e2⟩))
        by_cases hx : its = []
        · subst hx
          cases s1
          cases l1
          exact cat_tup0 p1 p2 ⟨.ref b, H, I, rfl, k _ _ h H (.refl H) rh (.tup e2 d2 l2) w.2⟩
        · refine HT.cat_tup p1 p2 hx (fun z => ?_) (fun z => ?_) (by rw [← s1.length, ← s2.length, ← n1, ← n2]; exact w.1)
          · subst z
            cases s2
            cases l2
            have w2 := w.2
            rw [List.append_nil] at w2
            exact ⟨.ref a, H, I, rfl, k _ _ h H (.refl H) rh (.tup e1 d1 l1) w2⟩
          · have np := I.hok.fresh (Nat.le_refl _)
            exact ⟨.ref s.heap.objs.size, _, newTup I (s1.append s2) (by rw [List.length_append, ← n1, ← n2]; exact w.1), rfl, k _ _ h _ (.new np) (rh.new np) (repTup np (l1.append l2)) w.2⟩
  case ref.ref a b =>
    have w' : (match h a, h b with
      | some (.lst xs), some (.lst ys) => xs.length + ys.length ≤ sizeLine ∧ ∀ p, h p = none → q (.ref p) (put h p (.lst (xs ++ ys)))
      | _, _ => False) := w
    split at w'
    · rename_i xs ys e1 e2
      obtain ⟨ws1, rfl, h1, l1⟩ := lst_of rh r1 e1
      obtain ⟨ws2, rfl, h2, l2⟩ := lst_of rh r2 e2
      have n1 := l1.length
      have n2 := l2.length
      exact op_cat pins s σ H _ _ v u Q I rx ry ⟨a, b, ws1, ws2, rfl, rfl, h1, h2, by rw [← n1, ← n2]; exact w'.1, fun p np => k _ _ _ _ (.new np) (rh.newL np (l1.append l2)) (.ref p) (w'.2 p (rh.free np))⟩
    · exact w'.elim
theorem sSub : OpR X (binaryOp .Sub) (rG X.K oSub) := by
  rintro pins s σ H x y v u Q I rx ry ⟨vx, vy, h, q, r1, r2, rh, w, k⟩
  cases vx <;> cases vy <;> first | exact (show False from w).elim | skip
  case int.int i j => cases r1; cases r2; exact op_sub pins s σ H _ _ v u Q I rx ry ⟨i, j, rfl, rfl, k _ _ h H (.refl H) rh (.int _) w⟩
theorem RepL.repl {K : PySem.W.Frag} {H : L2.Hp} {xs : List Val} {ws : List V} (l : RepL K H xs ws) : ∀ n : Nat, RepL K H (List.replicate n xs).flatten (List.replicate n ws).flatten
  | 0 => .nil
  | n + 1 => by
    rw [List.replicate_succ, List.replicate_succ, List.flatten_cons, List.flatten_cons]
    exact l.append (RepL.repl l n)
theorem sMul : OpR X (binaryOp .Mult) (rG X.K oMul) := by
  rintro pins s σ H x y v u Q I rx ry ⟨vx, vy, h, q, r1, r2, rh, w, k⟩
  cases vx <;> cases vy <;> first | exact (show False from w).elim | skip
  case int.int i j =>
    cases r1
    cases r2
    obtain ⟨w1, w2⟩ := (show MulOk i j ∧ q (.int (i * j)) h from w)
    rcases w1 with w1 | w1
    · exact op_mul pins s σ H _ _ v u Q I rx ry ⟨i, j, rfl, rfl, w1, k _ _ h H (.refl H) rh (.int _) w2⟩
    · exact op_mulW pins s σ H _ _ v u Q I rx ry ⟨i, j, rfl, rfl, w1, k _ _ h H (.refl H) rh (.int _) w2⟩
  case tup.int xs kk =>
    cases r1 with
    | @tup a o _ ws e1 d1 l1 =>
      cases r2
      have n1 := l1.length
      obtain ⟨w1, w2⟩ := (show (-(2 ^ 63) ≤ kk ∧ kk ≤ 1000 ∧ xs.length ≤ 1000) ∧ q (.tup (List.replicate kk.toNat xs).flatten) h from w)
      exact op_tupK pins s σ H _ _ v u Q I rx ry ⟨a, o, ws, kk, rfl, rfl, e1, w1.1, w1.2.1, by rw [← n1]; exact w1.2.2, fun e => k _ _ h H (.refl H) rh (.tup e1 d1 (by have := l1.repl kk.toNat; rw [e] at this; exact this)) w2, fun p us np => k _ _ h _ (.new np) (rh.new np) (repTup np (l1.repl _)) w2⟩
  case ref.int a kk =>
    have w' : (match h a with
      | some (.lst xs) => (-(2 ^ 63) ≤ kk ∧ kk < 2 ^ 63 ∧ xs.length * kk.toNat ≤ sizeLine) ∧ ∀ p, h p = none → q (.ref p) (put h p (.lst (List.replicate kk.toNat xs).flatten))
      | _ => False) := w
    split at w'
    · rename_i xs e1
      obtain ⟨ws1, rfl, h1, l1⟩ := lst_of rh r1 e1
      cases r2
      have n1 := l1.length
      exact op_rep pins s σ H _ _ v u Q I rx ry ⟨a, kk, ws1, rfl, rfl, h1, w'.1.1, w'.1.2.1, by rw [← n1]; exact w'.1.2.2, fun p np => k _ _ _ _ (.new np) (rh.newL np (l1.repl _)) (.ref p) (w'.2 p (rh.free np))⟩
    · exact w'.elim
theorem sFdiv : OpR X (binaryOp .FloorDiv) (rG X.K oFdiv) := by
  rintro pins s σ H x y v u Q I rx ry ⟨vx, vy, h, q, r1, r2, rh, w, k⟩
  cases vx <;> cases vy <;> first | exact (show False from w).elim | skip
  case int.int i j =>
    cases r1
    cases r2
    obtain ⟨⟨w0, w1⟩, w2⟩ := (show DivOk j ∧ q (.int (i / j)) h from w)
    rcases w1 with w1 | w1
    · exact op_fdiv pins s σ H _ _ v u Q I rx ry ⟨i, j, rfl, rfl, ⟨w0, w1⟩, k _ _ h H (.refl H) rh (.int _) w2⟩
    · exact op_fdivW pins s σ H _ _ v u Q I rx ry ⟨i, j, rfl, rfl, ⟨w0, w1⟩, k _ _ h H (.refl H) rh (.int _) w2⟩
theorem sMod : OpR X (binaryOp .Mod) (rG X.K oMod) := by
  rintro pins s σ H x y v u Q I rx ry ⟨vx, vy, h, q, r1, r2, rh, w, k⟩
  cases vx <;> cases vy <;> first | exact (show False from w).elim | skip
  case int.int i j => cases r1; cases r2; exact op_mod pins s σ H _ _ v u Q I rx ry ⟨i, j, rfl, rfl, w.1, k _ _ h H (.refl H) rh (.int _) w.2⟩
theorem sPow : OpR X (binaryOp .Pow) (rG X.K oPow) := by
  rintro pins s σ H x y v u Q I rx ry ⟨vx, vy, h, q, r1, r2, rh, w, k⟩
  cases vx <;> cases vy <;> first | exact (show False from w).elim | skip
  case int.int i j => cases r1; cases r2; exact op_pow pins s σ H _ _ v u Q I rx ry ⟨i, j, rfl, rfl, w.1, k _ _ h H (.refl H) rh (.int _) w.2⟩
end

/-! ### data -/
mutual
inductive Dat (h : Hg) : Val → PyData → Prop
  | non : Dat h .non .none
  | bl (b : Bool) : Dat h (.bl b) (.bool b)
  | int (i : Int) : Dat h (.int i) (.int i)
  | str (x : Str) : Dat h (.str x) (.str x)
  | tup {xs : List Val} {ds : List PyData} : DatL h xs ds → Dat h (.tup xs) (.tuple ds)
  | lst {a : Addr} {xs : List Val} {ds : List PyData} : h a = some (.lst xs) → DatL h xs ds → Dat h (.ref a) (.list ds)
  | scr (ns : List Int) : Dat h (.scr ns) (.list (ns.map PyData.int))
inductive DatL (h : Hg) : List Val → List PyData → Prop
  | nil : DatL h [] []
  | cons {v : Val} {vs : List Val} {d : PyData} {ds : List PyData} : Dat h v d → DatL h vs ds → DatL h (v :: vs) (d :: ds)
end
section
variable {K : PySem.W.Frag} {H : L2.Hp} {h : Hg}
theorem dpInts : ∀ ns : List Int, DpAll K H (ns.map V.int) (ns.map PyData.int)
  | [] => .nil
  | n :: ns => .cons (.int n) (dpInts ns)
mutual
theorem Dat.dp (rh : RepH K H h) : ∀ (v : Val) (d : PyData) (w : V), Dat h v d → Rep K H v w → Dp K H w d
  | _, _, _, .non, r => by cases r; exact .non
  | _, _, _, .bl b, r => by cases r; exact .bl b
  | _, _, _, .int i, r => by cases r; exact .int i
  | _, _, _, .str x, r => by cases r; exact .str x
  | _, _, _, .tup l, r => by
    cases r with
    | tup e _ r => exact .tup (.inl (.inr ⟨_, e⟩)) (DatL.dp rh _ _ _ l r)
  | _, _, _, .lst e l, r => by
    cases r
    obtain ⟨ws, h1, h2⟩ := rh.lst e
    exact .lst (SqL.of h1) (DatL.dp rh _ _ _ l h2)
  | _, _, _, .scr ns, r => by
    cases r with
    | scr e => exact .lst e.sql (dpInts ns)
theorem DatL.dp (rh : RepH K H h) : ∀ (vs : List Val) (ds : List PyData) (ws : List V), DatL h vs ds → RepL K H vs ws → DpAll K H ws ds
  | _, _, _, .nil, r => by cases r; exact .nil
  | _, _, _, .cons a l, r => by
    cases r with
    | cons r q => exact .cons (Dat.dp rh _ _ _ a r) (DatL.dp rh _ _ _ l q)
end
end

/-! ### comparisons by values -/
/-- scalars -/
def eqS : Val → Val → Option Bool
  | .int i, .int j => some (decide (i = j))
  | .str i, .str j => some (decide (i = j))
  | .bl i, .bl j => some (decide (i = j))
  | .non, .non => some true
  | .non, .int _ => some false
  | .int _, .non => some false
  | .non, .str _ => some false
  | .str _, .non => some false
  | .int _, .str _ => some false
  | .str _, .int _ => some false
  | _, _ => none
def EqD (h : Hg) (x y : Val) (k : Bool → Prop) : Prop := match eqS x y with
  | some b => k b
  | none => ∃ d e, Dat h x d ∧ Dat h y e ∧ SeqAt.shaped d = true ∧ SeqAt.shaped e = true ∧ k (PyData.eqv d e)
def oEq : W2 := fun x y h Q => EqD h x y fun b => Q (.bl b) h
def oNe : W2 := fun x y h Q => EqD h x y fun b => Q (.bl (!b)) h
def oCmp (p : Int → Int → Bool) : W2 := fun x y h Q => match x, y with
  | .int i, .int j => Q (.bl (p i j)) h
  | _, _ => False
abbrev oLt : W2 := oCmp fun i j => decide (i < j)
abbrev oLe : W2 := oCmp fun i j => decide (i ≤ j)
abbrev oGt : W2 := oCmp fun i j => decide (j < i)
abbrev oGe : W2 := oCmp fun i j => decide (j ≤ i)
def isNon : Val → Bool
  | .non => true
  | _ => false
def oIs : W2 := fun x y h Q => match y with
  | .non => Q (.bl (isNon x)) h
  | .bl b => match x with
    | .bl a => Q (.bl (decide (a = b))) h
    | _ => False
  | _ => False
def oIsNot : W2 := fun x y h Q => match y with
  | .non => Q (.bl (!isNon x)) h
  | .bl b => match x with
    | .bl a => Q (.bl (!decide (a = b))) h
    | _ => False
  | _ => False
def flatG : Val → Bool
  | .non => true | .bl _ => true | .int _ => true | .str _ => true | _ => false
def eqG : Val → Val → Bool
  | .non, .non => true
  | .bl a, .bl b => a == b
  | .bl a, .int b => (if a then 1 else 0) == b
  | .int a, .bl b => a == (if b then 1 else 0)
  | .int a, .int b => a == b
  | .str a, .str b => a == b
  | _, _ => false
def inG (x : Val) (ys : List Val) : Bool := ys.any fun y => eqG y x
def InD (h : Hg) (x y : Val) (k : Bool → Prop) : Prop := match x, y with
  | .str i, .str j => k (!(Builtin.Str.occurrences j i 0 j.length 1).isEmpty)
  | _, _ => match seqOf h y with
    | some ys => flatG x = true ∧ ys.all flatG = true ∧ k (inG x ys)
    | none => False
def oIn : W2 := fun x y h Q => InD h x y fun b => Q (.bl b) h
def oNotIn : W2 := fun x y h Q => InD h x y fun b => Q (.bl (!b)) h
section
variable {X : Cx}
theorem rep_flat {K : PySem.W.Frag} {H : L2.Hp} {v : Val} {w : V} (r : Rep K H v w) (f : flatG v = true) : flatV w = true := by
  cases r <;> first | rfl | cases f
theorem repL_flat {K : PySem.W.Frag} {H : L2.Hp} : ∀ {vs : List Val} {ws : List V}, RepL K H vs ws → vs.all flatG = true → ws.all flatV = true
  | _, _, .nil, _ => rfl
  | _, _, .cons r q, f => by
    rw [List.all_cons, Bool.and_eq_true] at f ⊢
    exact ⟨rep_flat r f.1, repL_flat q f.2⟩
theorem rep_eq {K : PySem.W.Frag} {H : L2.Hp} {v u : Val} {w x : V} (r : Rep K H v w) (s : Rep K H u x) (f : flatG v = true) (g : flatG u = true) : eqV w x = eqG v u := by
  cases r <;> cases s <;> first | rfl | cases f | cases g
theorem repL_in {K : PySem.W.Frag} {H : L2.Hp} {u : Val} {x : V} (s : Rep K H u x) (g : flatG u = true) : ∀ {vs : List Val} {ws : List V}, RepL K H vs ws → vs.all flatG = true → inV x ws = inG u vs
  | _, _, .nil, _ => rfl
  | _, _, .cons (v := v) (w := w) (vs := vs) (ws := ws) r q, f => by
    rw [List.all_cons, Bool.and_eq_true] at f
    show (eqV w x || inV x ws) = (eqG v u || inG u vs)
    rw [rep_eq r s f.1 g, repL_in s g q f.2]
theorem sEqs {b : Bool} {vx vy : Val} {x y : V} {K : PySem.W.Frag} {H : L2.Hp} (r1 : Rep K H vx x) (r2 : Rep K H vy y) (e : eqS vx vy = some b) : scal x y = true ∧ decide (x = y) = b := by
  cases r1 <;> cases r2 <;> first | (cases e; done) | skip
  all_goals (cases e; exact ⟨rfl, by simp⟩)
theorem sEq (hu : X.A.units + 64 < cLine) : OpR X (compareOp .Eq) (rG X.K oEq) := by
  rintro pins s σ H x y v u Q I rx ry ⟨vx, vy, h, q, r1, r2, rh, w, k⟩
  have w' : EqD h vx vy fun b => q (.bl b) h := w
  unfold EqD at w'
  split at w'
  · rename_i b e
    obtain ⟨s1, s2⟩ := sEqs r1 r2 e
    exact op_eq pins s σ H x y v u Q I rx ry ⟨s1, by rw [s2]; exact k _ _ h H (.refl H) rh (.bl _) w'⟩
  · obtain ⟨d, e, h1, h2, h3, h4, z⟩ := w'
    exact op_eqD hu pins s σ H x y v u Q I rx ry ⟨d, e, h1.dp rh _ _ _ r1, h2.dp rh _ _ _ r2, h3, h4, k _ _ h H (.refl H) rh (.bl _) z⟩
theorem sNe (hu : X.A.units + 64 < cLine) : OpR X (compareOp .NotEq) (rG X.K oNe) := by
  rintro pins s σ H x y v u Q I rx ry ⟨vx, vy, h, q, r1, r2, rh, w, k⟩
  have w' : EqD h vx vy fun b => q (.bl (!b)) h := w
  unfold EqD at w'
  split at w'
  · rename_i b e
    obtain ⟨s1, s2⟩ := sEqs r1 r2 e
    exact op_ne pins s σ H x y v u Q I rx ry ⟨s1, by rw [s2]; exact k _ _ h H (.refl H) rh (.bl _) w'⟩
  · obtain ⟨d, e, h1, h2, h3, h4, z⟩ := w'
    exact op_neD hu pins s σ H x y v u Q I rx ry ⟨d, e, h1.dp rh _ _ _ r1, h2.dp rh _ _ _ r2, h3, h4, k _ _ h H (.refl H) rh (.bl _) z⟩
theorem sCmp {op : CmpOp} {p : Int → Int → Bool} (ho : OpR X (compareOp op) (rI0 fun i j => .bl (p i j))) : OpR X (compareOp op) (rG X.K (oCmp p)) := by
  rintro pins s σ H x y v u Q I rx ry ⟨vx, vy, h, q, r1, r2, rh, w, k⟩
  cases vx <;> cases vy <;> first | exact (show False from w).elim | skip
  case int.int i j => cases r1; cases r2; exact ho pins s σ H _ _ v u Q I rx ry ⟨i, j, rfl, rfl, k _ _ h H (.refl H) rh (.bl _) w⟩
theorem sLt : OpR X (compareOp .Lt) (rG X.K oLt) := sCmp op_lt
theorem sLe : OpR X (compareOp .LtE) (rG X.K oLe) := sCmp op_le
theorem sGt : OpR X (compareOp .Gt) (rG X.K oGt) := sCmp op_gt
theorem sGe : OpR X (compareOp .GtE) (rG X.K oGe) := sCmp op_ge
theorem rep_non {K : PySem.W.Frag} {H : L2.Hp} {v : Val} {w : V} (r : Rep K H v w) : decide (w = .non) = isNon v := by
  cases r <;> simp [isNon]
theorem sIs : OpR X (compareOp .Is) (rG X.K oIs) := by
  rintro pins s σ H x y v u Q I rx ry ⟨vx, vy, h, q, r1, r2, rh, w, k⟩
  cases vy <;> first | exact (show False from w).elim | skip
  case non => cases r2; exact op_isN pins s σ H _ _ v u Q I rx ry ⟨rfl, by rw [rep_non r1]; exact k _ _ h H (.refl H) rh (.bl _) w⟩
  case bl b =>
    cases vx <;> first | exact (show False from w).elim | skip
    case bl a => cases r1; cases r2; exact op_isBl pins s σ H _ _ v u Q I rx ry ⟨a, b, rfl, rfl, k _ _ h H (.refl H) rh (.bl _) w⟩
theorem sIsNot : OpR X (compareOp .IsNot) (rG X.K oIsNot) := by
  rintro pins s σ H x y v u Q I rx ry ⟨vx, vy, h, q, r1, r2, rh, w, k⟩
  cases vy <;> first | exact (show False from w).elim | skip
  case non => cases r2; exact op_notN pins s σ H _ _ v u Q I rx ry ⟨rfl, by rw [rep_non r1]; exact k _ _ h H (.refl H) rh (.bl _) w⟩
  case bl b =>
    cases vx <;> first | exact (show False from w).elim | skip
    case bl a => cases r1; cases r2; exact op_notBl pins s σ H _ _ v u Q I rx ry ⟨a, b, rfl, rfl, k _ _ h H (.refl H) rh (.bl _) w⟩
theorem InD_cases {h : Hg} {x y : Val} {k : Bool → Prop} (w : InD h x y k) :
    (∃ i j, x = .str i ∧ y = .str j ∧ k (!(Builtin.Str.occurrences j i 0 j.length 1).isEmpty)) ∨ ∃ ys, seqOf h y = some ys ∧ flatG x = true ∧ ys.all flatG = true ∧ k (inG x ys) := by
  unfold InD at w
  split at w
  · exact .inl ⟨_, _, rfl, rfl, w⟩
  · split at w
    · rename_i ys e
      exact .inr ⟨ys, e, w⟩
    · exact w.elim
theorem sIn : OpR X (compareOp .In) (rG X.K oIn) := by
  rintro pins s σ H x y v u Q I rx ry ⟨vx, vy, h, q, r1, r2, rh, w, k⟩
  rcases InD_cases w with ⟨i, j, rfl, rfl, w⟩ | ⟨ys, e, f, fs, w⟩
  · cases r1; cases r2
    exact op_in_str pins s σ H _ _ v u Q I rx ry ⟨i, j, rfl, rfl, k _ _ h H (.refl H) rh (.bl _) w⟩
  · obtain ⟨a, ws, rfl, l, z⟩ := seq_of rh r2 e
    refine op_in_seq pins s σ H _ _ v u Q I rx ry ⟨a, ws, rfl, z.elim (fun z => .inl z.1) (fun z => .inr z.1), rep_flat r1 f, repL_flat l fs, ?_⟩
    rw [if_neg Bool.false_ne_true, repL_in r1 f l fs]
    exact k _ _ h H (.refl H) rh (.bl _) w
theorem sNotIn : OpR X (compareOp .NotIn) (rG X.K oNotIn) := by
  rintro pins s σ H x y v u Q I rx ry ⟨vx, vy, h, q, r1, r2, rh, w, k⟩
  rcases InD_cases w with ⟨i, j, rfl, rfl, w⟩ | ⟨ys, e, f, fs, w⟩
  · cases r1; cases r2
    exact L2.op_notin_str pins s σ H _ _ v u Q I rx ry ⟨i, j, rfl, rfl, k _ _ h H (.refl H) rh (.bl _) w⟩
  · obtain ⟨a, ws, rfl, l, z⟩ := seq_of rh r2 e
    refine op_notIn_seq pins s σ H _ _ v u Q I rx ry ⟨a, ws, rfl, z.elim (fun z => .inl z.1) (fun z => .inr z.1), rep_flat r1 f, repL_flat l fs, ?_⟩
    rw [if_pos rfl, repL_in r1 f l fs]
    exact k _ _ h H (.refl H) rh (.bl _) w
end

/-! ### truth, tests -/
def truB (h : Hg) : Val → Option Bool
  | .non => some false
  | .bl b => some b
  | .int i => some (i != 0)
  | .str x => if x.length ≤ sizeLine then some ((x.length : Int) != 0) else none
  | .tup xs => some (!xs.isEmpty)
  | .scr ns => some (!ns.isEmpty)
  | .ref a => (lstAt h a).map fun xs => !xs.isEmpty
  | .ty _ => none
  | .exc _ _ _ => none
  | .cls _ => none
def onTru (h : Hg) (v : Val) (k : Bool → Prop) : Prop := match truB h v with
  | some b => k b
  | none => False
theorem onTru_of {h : Hg} {v : Val} {k : Bool → Prop} (w : onTru h v k) : ∃ b, truB h v = some b ∧ k b := by
  unfold onTru at w
  split at w
  · exact ⟨_, by assumption, w⟩
  · exact w.elim
theorem isEmpty_rep {K : PySem.W.Frag} {H : L2.Hp} {xs : List Val} {ws : List V} (l : RepL K H xs ws) : xs.isEmpty = ws.isEmpty := by
  cases l <;> rfl
theorem tru_rep {K : PySem.W.Frag} {H : L2.Hp} {h : Hg} {v : Val} {w : V} {b : Bool} (rh : RepH K H h) (r : Rep K H v w) (e : truB h v = some b) : TruV K w H b := by
  cases r with
  | non => cases e; rfl
  | bl b => cases e; rfl
  | int i => cases e; rfl
  | str x =>
    have e' : (if x.length ≤ sizeLine then some ((x.length : Int) != 0) else none) = some b := e
    split at e'
    · rename_i hx
      cases e'
      exact ⟨hx, rfl⟩
    · cases e'
  | tup h1 _ l => cases e; exact .inr (.inl ⟨_, .inl (.inr ⟨_, h1⟩), by rw [isEmpty_rep l]⟩)
  | scr h1 => cases e; exact .inl ⟨_, h1.sql, by rw [List.isEmpty_map]⟩
  | ref a =>
    obtain ⟨xs, q, e2⟩ := Option.map_eq_some_iff.mp (show (lstAt h a).map (fun xs => !xs.isEmpty) = some b from e)
    cases e2
    obtain ⟨ws, h1, h2⟩ := rh.lst (lstAt_eq q)
    exact .inl ⟨ws, SqL.of h1, by rw [isEmpty_rep h2]⟩
  | exc => cases e
  | cls => cases e
  | ty n => cases e

section
variable {X : Cx} {N : List Str} {sc ow : Scope} {e a b c : Expr} {rest : List Expr} {pos : Pos} {Wa Wb Wc : WE} {Ta Tb : WT}
/-- a value as a test -/
def wTru (W : WE) : WT := fun env h Q E => W env h (fun v h' => onTru h' v fun b => Q b h') E
def wTst (W : WE) : WT := fun env h Q E => W env h (fun v h' => onBl v fun b => Q b h') E
def wTand (A B : WT) : WT := fun env h Q E => A env h (fun b h1 => if b = true then B env h1 Q E else Q false h1) E
def wTor (A B : WT) : WT := fun env h Q E => A env h (fun b h1 => if b = true then Q true h1 else B env h1 Q E) E
def wTnot (A : WT) : WT := fun env h Q E => A env h (fun b h1 => Q (!b) h1) E
theorem gt_e (ha : GE X a Wa) (he : ∀ whole, isTrue a X.env whole = (do let v ← whole; standAt a.pos; holding [v] (truthy v)) := by intro _; rfl) : GT X a (wTru Wa) := by
  refine ⟨PTimp (pt_truth ha.pe he) ?_⟩
  rintro σ H Q ⟨env, h, q, E, re, rh, tk, w, k⟩
  refine ⟨env, h, _, E, re, rh, tk, w, fun v u h1 H1 t1 rh1 r1 w1 => ?_⟩
  obtain ⟨b, e, z⟩ := onTru_of w1
  exact ⟨b, tru_rep rh1 r1 e, k b h1 H1 t1 rh1 z⟩
theorem tst_imp {t : TE} {W : WE} (hi : ∀ σ H Q, tG X W σ H Q → t σ H Q) : ∀ σ H Q, tGT X (wTst W) σ H Q → tTest t σ H Q := by
  rintro σ H Q ⟨env, h, q, E, re, rh, tk, w, k⟩
  refine hi σ H _ ⟨env, h, _, E, re, rh, tk, w, fun v u h1 H1 t1 rh1 r1 w1 => ?_⟩
  cases v <;> first | exact (show False from w1).elim | skip
  cases r1
  exact ⟨_, rfl, k _ h1 H1 t1 rh1 w1⟩
theorem gt_cmp {op : CmpOp} {o : W2} (ho : OpR X (compareOp op) (rG X.K o)) (ha : GE X a Wa) (hb : GE X b Wb) (hm : behindInMarks op b = false := by first | exact nomark _ | rfl) : GT X (.Compare a [op] [b] pos) (wTst (wOp o Wa Wb)) :=
  ⟨PTimp (pt_cmpR ho ha.pe hb.pe hm) (tst_imp (opImp ha hb))⟩
/-- chains -/
def wChain (o o' : W2) (Wa Wb Wc : WE) : WE := fun env h Q E => Wa env h (fun va h1 => Wb env h1 (fun vb h2 => o va vb h2 fun z h3 => onBl z fun b => if b = true then Wc env h3 (fun vc h4 => o' vb vc h4 Q) E else Q (.bl false) h3) E) E
theorem chainImp {o o' : W2} (ha : GE X a Wa) (hb : GE X b Wb) (hc : GE X c Wc) : ∀ σ H Q, tG X (wChain o o' Wa Wb Wc) σ H Q → tChain (rG X.K o) (rG X.K o') (tG X Wa) (tG X Wb) (tG X Wc) σ H Q := by
  rintro σ H Q ⟨env, h, q, E, re, rh, tk, w, k⟩
  refine ⟨env, h, _, E, re, rh, tk, w, fun va wa h1 H1 t1 rh1 ra w1 => ?_⟩
  refine ⟨env, h1, _, E, re.up t1, rh1, takesUp t1 tk, w1, fun vb wb h2 H2 t2 rh2 rb w2 => ?_⟩
  refine ⟨va, vb, h2, _, ra.up t2, rb, rh2, w2, fun z zw h3 H3 t3 rh3 rz w3 => ?_⟩
  cases z <;> first | exact (show False from w3).elim | skip
  rename_i d
  cases rz
  refine ⟨d, rfl, ?_⟩
  have t03 := t1.trans (t2.trans t3)
  cases d with
  | false => exact k _ _ h3 H3 t03 rh3 (.bl _) w3
  | true => exact ⟨env, h3, _, E, re.up t03, rh3, takesUp t03 tk, w3, fun vc wc h4 H4 t4 rh4 rc w4 => ⟨vb, vc, h4, q, rb.up (t3.trans t4), rc, rh4, w4, k.up (t03.trans t4)⟩⟩
theorem ge_chain {op op' : CmpOp} {o o' : W2} (ho : OpR X (compareOp op) (rG X.K o)) (ho' : OpR X (compareOp op') (rG X.K o')) (ha : GE X a Wa) (hb : GE X b Wb) (hc : GE X c Wc)
    (hm : lastMarks [op, op'] [b, c] = false := by with_unfolding_all rfl) : GE X (.Compare a [op, op'] [b, c] pos) (wChain o o' Wa Wb Wc) := ⟨PEimp (pe_chain ho ho' ha.pe hb.pe hc.pe hm) (chainImp ha hb hc)⟩
theorem gt_chain {op op' : CmpOp} {o o' : W2} (ho : OpR X (compareOp op) (rG X.K o)) (ho' : OpR X (compareOp op') (rG X.K o')) (ha : GE X a Wa) (hb : GE X b Wb) (hc : GE X c Wc)
    (hm : lastMarks [op, op'] [b, c] = false := by with_unfolding_all rfl) : GT X (.Compare a [op, op'] [b, c] pos) (wTst (wChain o o' Wa Wb Wc)) := ⟨PTimp (pt_chain ho ho' ha.pe hb.pe hc.pe hm) (tst_imp (chainImp ha hb hc))⟩
structure GW (X : Cx) (e : Expr) (W : WT) : Prop where
  pw : PW X e (tGT X W)
theorem PWimp {e : Expr} {t t' : TT} (h : PW X e t) (i : ∀ σ H Q, t' σ H Q → t σ H Q) : PW X e t' := ⟨fun wh pins s σ H Q I q => h.run wh pins s σ H Q I (i σ H Q q)⟩
theorem GW.gt (h : GW X e Ta) : GT X e Ta := ⟨h.pw.pt⟩
theorem gw_and1 (ha : GT X a Ta) : GW X (.BoolOp .And [a] pos) Ta := ⟨pw_and1 ha.pt⟩
theorem gw_or1 (ha : GT X a Ta) : GW X (.BoolOp .Or [a] pos) Ta := ⟨pw_or1 ha.pt⟩
theorem gw_and (ha : GT X a Ta) (hb : GW X (.BoolOp .And (b :: rest) pos) Tb) : GW X (.BoolOp .And (a :: b :: rest) pos) (wTand Ta Tb) := by
  refine ⟨PWimp (pw_and ha.pt hb.pw) ?_⟩
  rintro σ H Q ⟨env, h, q, E, re, rh, tk, w, k⟩
  refine ⟨env, h, _, E, re, rh, tk, w, fun b h1 H1 t1 rh1 w1 => ?_⟩
  cases b with
  | true => exact ⟨env, h1, q, E, re.up t1, rh1, takesUp t1 tk, w1, k.up t1⟩
  | false => exact k _ h1 H1 t1 rh1 w1
theorem gw_or (ha : GT X a Ta) (hb : GW X (.BoolOp .Or (b :: rest) pos) Tb) : GW X (.BoolOp .Or (a :: b :: rest) pos) (wTor Ta Tb) := by
  refine ⟨PWimp (pw_or ha.pt hb.pw) ?_⟩
  rintro σ H Q ⟨env, h, q, E, re, rh, tk, w, k⟩
  refine ⟨env, h, _, E, re, rh, tk, w, fun b h1 H1 t1 rh1 w1 => ?_⟩
  cases b with
  | true => exact k _ h1 H1 t1 rh1 w1
  | false => exact ⟨env, h1, q, E, re.up t1, rh1, takesUp t1 tk, w1, k.up t1⟩
theorem gt_not (ha : GT X a Ta) : GT X (.UnaryOp .Not a pos) (wTnot Ta) := by
  refine ⟨PTimp (pt_not ha.pt) ?_⟩
  rintro σ H Q ⟨env, h, q, E, re, rh, tk, w, k⟩
  exact ⟨env, h, _, E, re, rh, tk, w, fun b h1 H1 t1 rh1 w1 => k _ h1 H1 t1 rh1 w1⟩
/-! as values -/
def wAnd (A B : WE) : WE := fun env h Q E => A env h (fun v h1 => onTru h1 v fun b => if b = true then B env h1 Q E else Q v h1) E
def wOr (A B : WE) : WE := fun env h Q E => A env h (fun v h1 => onTru h1 v fun b => if b = true then Q v h1 else B env h1 Q E) E
def wNot (A : WE) : WE := fun env h Q E => A env h (fun v h1 => onTru h1 v fun b => Q (.bl (!b)) h1) E
def wIfe (T : WT) (A B : WE) : WE := fun env h Q E => T env h (fun b h1 => if b = true then A env h1 Q E else B env h1 Q E) E
theorem ge_one {op} (h : GE X a Wa) : GE X (.BoolOp op [a] pos) Wa := ⟨pe_one h.pe⟩
theorem ge_and (ha : GE X a Wa) (hb : GE X (.BoolOp .And (b :: rest) pos) Wb) : GE X (.BoolOp .And (a :: b :: rest) pos) (wAnd Wa Wb) := by
  refine ⟨PEimp (pe_andT ha.pe hb.pe) ?_⟩
  rintro σ H Q ⟨env, h, q, E, re, rh, tk, w, k⟩
  refine ⟨env, h, _, E, re, rh, tk, w, fun v u h1 H1 t1 rh1 r1 w1 => ?_⟩
  obtain ⟨c, e, z⟩ := onTru_of w1
  refine ⟨c, tru_rep rh1 r1 e, ?_⟩
  cases c with
  | true => exact ⟨env, h1, q, E, re.up t1, rh1, takesUp t1 tk, z, k.up t1⟩
  | false => exact k _ _ h1 H1 t1 rh1 r1 z
theorem ge_or (ha : GE X a Wa) (hb : GE X (.BoolOp .Or (b :: rest) pos) Wb) : GE X (.BoolOp .Or (a :: b :: rest) pos) (wOr Wa Wb) := by
  refine ⟨PEimp (pe_orT ha.pe hb.pe) ?_⟩
  rintro σ H Q ⟨env, h, q, E, re, rh, tk, w, k⟩
  refine ⟨env, h, _, E, re, rh, tk, w, fun v u h1 H1 t1 rh1 r1 w1 => ?_⟩
  obtain ⟨c, e, z⟩ := onTru_of w1
  refine ⟨c, tru_rep rh1 r1 e, ?_⟩
  cases c with
  | true => exact k _ _ h1 H1 t1 rh1 r1 z
  | false => exact ⟨env, h1, q, E, re.up t1, rh1, takesUp t1 tk, z, k.up t1⟩
theorem ge_not (ha : GE X a Wa) : GE X (.UnaryOp .Not a pos) (wNot Wa) := by
  refine ⟨PEimp (pe_notT ha.pe) ?_⟩
  rintro σ H Q ⟨env, h, q, E, re, rh, tk, w, k⟩
  refine ⟨env, h, _, E, re, rh, tk, w, fun v u h1 H1 t1 rh1 r1 w1 => ?_⟩
  obtain ⟨c, e, z⟩ := onTru_of w1
  exact ⟨c, tru_rep rh1 r1 e, k _ _ h1 H1 t1 rh1 (.bl _) z⟩
theorem ge_ife (hc : GT X c Ta) (ha : GE X a Wa) (hb : GE X b Wb) : GE X (.IfExp c a b pos) (wIfe Ta Wa Wb) := by
  refine ⟨PEimp (pe_ifExp hc.pt ha.pe hb.pe) ?_⟩
  rintro σ H Q ⟨env, h, q, E, re, rh, tk, w, k⟩
  refine ⟨env, h, _, E, re, rh, tk, w, fun d h1 H1 t1 rh1 w1 => ?_⟩
  cases d with
  | true => exact ⟨env, h1, q, E, re.up t1, rh1, takesUp t1 tk, w1, k.up t1⟩
  | false => exact ⟨env, h1, q, E, re.up t1, rh1, takesUp t1 tk, w1, k.up t1⟩
def wNeg (A : WE) : WE := fun env h Q E => A env h (fun v h1 => onInt v fun i => Q (.int (-i)) h1) E
theorem ge_neg (ha : GE X a Wa) : GE X (.UnaryOp .USub a pos) (wNeg Wa) := by
  refine ⟨PEimp (pe_un un_neg ha.pe) ?_⟩
  rintro σ H Q ⟨env, h, q, E, re, rh, tk, w, k⟩
  refine ⟨env, h, _, E, re, rh, tk, w, fun v u h1 H1 t1 rh1 r1 w1 => ?_⟩
  cases v <;> first | exact (show False from w1).elim | skip
  cases r1
  exact ⟨_, rfl, k _ _ h1 H1 t1 rh1 (.int _) w1⟩
end
end G

set_option Elab.async false
set_option linter.all false
set_option maxRecDepth 100000
set_option maxHeartbeats 4000000
namespace G
open PySem PySem.Spec L2
open PyProof.Rows hiding St
/-! ### t[::-1] of a tuple -/
section
variable {prog : Program} {w : World} {A : Around} {E : Value → Shared → Prop} {s : Shared}
theorem sliceApplied_rev {sl : Addr} {vs : Value} {n : Nat} {Q : Int × Int × Nat → Shared → Prop} (hs : s.heap.IsSliceOf sl .none .none vs) (ps : IsPart vs (some (-1)))
    (h : Q ((n : Int) - 1, -1, n) s) : wpAny (model prog w) A (Builtin.Slice.sliceApplied (.ref sl) (pure (n : Int))) Q E s := by
  obtain ⟨os, hos, hcs, hds⟩ := id hs
  unfold Builtin.Slice.sliceApplied Builtin.Slice.sliceFields
  refine wpAny_bind (wpAny_bind (wpAny_field hos hds (x := .none) rfl (wpAny_bind (wpAny_field hos hds (x := .none) rfl (wpAny_bind (wpAny_field hos hds (x := vs) rfl (wpAny_pure ?_)))))))
  refine wpAny_bind (HT.slicePart_ ps ?_)
  show wpAny _ _ (if ((-1 : Int) == 0) = true then _ else _) _ _ s
  rw [if_neg (by decide)]
  refine wpAny_bind (HT.slicePart_ .none (wpAny_bind (HT.slicePart_ .none (wpAny_bind (wpAny_pure ?_)))))
  show wpAny _ _ (match Builtin.Slice.sliceAdjust none none (-1) (n : Int) with | (lo, hi) => pure (lo, (-1 : Int), Builtin.Slice.slicePlaces lo hi (-1))) _ _ s
  have ea : Builtin.Slice.sliceAdjust none none (-1) (n : Int) = ((n : Int) - 1, -1) := by
    unfold Builtin.Slice.sliceAdjust
    simp
  have ep : Builtin.Slice.slicePlaces ((n : Int) - 1) (-1) (-1) = n := by
    unfold Builtin.Slice.slicePlaces
    have h1 : ¬ ((-1 : Int) > 0) := by omega
    simp only [h1, if_false]
    rw [show (- -1 : Int) = 1 by decide, Int.ediv_one]
    split <;> omega
  rw [ea]
  show wpAny _ _ (pure ((n : Int) - 1, (-1 : Int), Builtin.Slice.slicePlaces ((n : Int) - 1) (-1) (-1))) _ _ s
  rw [ep]
  exact wpAny_pure h
theorem fm_congr {α β : Type} {f g : α → Option β} : ∀ {l : List α}, (∀ x ∈ l, f x = g x) → l.filterMap f = l.filterMap g
  | [], _ => rfl
  | a :: l, h => by
    rw [List.filterMap_cons, List.filterMap_cons, h a List.mem_cons_self, fm_congr fun x hx => h x (List.mem_cons_of_mem _ hx)]
theorem pick_rev (xs : List Value) : ((List.range xs.toArray.size).filterMap fun (m : Nat) => xs.toArray[(((xs.toArray.size : Nat) : Int) - 1 + (m : Int) * (-1)).toNat]?).toArray = xs.reverse.toArray := by
  have k := PySem.W.krv_all xs.reverse.toArray
  rw [List.size_toArray, List.length_reverse] at k
  rw [List.size_toArray]
  congr 1
  refine Eq.trans ?_ k
  refine fm_congr fun m hm => ?_
  have hm := List.mem_range.mp hm
  rw [show ((((xs.length : Nat) : Int) - 1 + (m : Int) * (-1)).toNat) = xs.length - 1 - m by omega]
  simp only [List.getElem?_toArray]
  rw [List.getElem?_reverse hm]
theorem getItem_tuple_rev {t sl : Addr} {xs : List Value} {vs : Value} {Q : Value → Shared → Prop} (ht : IsTup s.heap t xs.toArray) (hs : s.heap.IsSliceOf sl .none .none vs) (ps : IsPart vs (some (-1)))
    (h : Q (.ref s.heap.objs.size) { s with heap := s.heap.push { cls := .type "tuple", data := .seq xs.reverse.toArray } })
    (hsz : xs.length ≤ sizeLine) : wpAny (model prog w) A (getItem (.ref t) (.ref sl)) Q E s := by
  have htake : sizeOk (.seq xs.reverse.toArray) := by
    show xs.reverse.toArray.size ≤ sizeLine
    rw [List.size_toArray, List.length_reverse]
    exact hsz
  obtain ⟨os, hos, hcs, hds⟩ := id hs
  have hTs : s.TypeIs (.ref sl) "slice" := ⟨os, hos, hcs⟩
  unfold getItem
  try with_reducible refine wpAny_holding ?_
  first | refine wpAny_bind (wpAny_pure ?_) | skip
  refine wpAny_bind (wpAny_sequenceKey ht.typeIs (by decide) ?_)
  refine wpAny_bind (wpAny_callSpecial?_slot (name := Str.ofString "__getitem__") ht.typeIs PyProof.Rows.slot_tuple_getitem
    (wpAny_call_entry PyProof.Rows.slot_tuple_getitem ht.typeIs entry_tuple_getitem ?_ (args_tuple_getitem _ _)))
  show wpAny _ _ (Builtin.Tuple.tupleItemsOf (.ref t) >>= _) _ _ s
  refine wpAny_bind (tupleItemsOf_ ht ?_)
  refine wpAny_bind (wpAny_typeOf hTs ?_)
  rw [if_pos (by decide)]
  refine wpAny_bind (sliceApplied_rev hs ps ?_)
  have hno : ¬ ((((xs.toArray.size : Nat) : Int) - 1 == 0 && (-1 : Int) == 1 && xs.toArray.size == xs.toArray.size) = true) := by
    rw [show ((-1 : Int) == 1) = false from by decide]
    simp
  show wpAny _ _ (if (((xs.toArray.size : Nat) : Int) - 1 == 0 && (-1 : Int) == 1 && xs.toArray.size == xs.toArray.size) = true then _ else _) _ _ s
  rw [if_neg hno, pick_rev]
  first
    | exact wpAny_bind (m := Builtin.Tuple.tupleExact _) (wpAny_newObj_type (wpAny_pure ⟨_, rfl, wpAny_pure h⟩) htake)
    | exact wpAny_bind (m := Builtin.Tuple.tupleExact _) (wpAny_newObj_type (wpAny_bind (wpAny_pure (wpAny_pure ⟨_, rfl, wpAny_pure h⟩))) htake)
    | exact wpAny_bind (wpAny_bind (m := Builtin.Tuple.tupleExact _) (wpAny_newObj_type (wpAny_pure (wpAny_pure ⟨_, rfl, wpAny_pure h⟩)) htake))
    | exact wpAny_bind (wpAny_bind (m := Builtin.Tuple.tupleExact _) (wpAny_newObj_type (wpAny_pure ⟨_, rfl, wpAny_pure h⟩) htake))
end

/-! ### argument lists, displays -/
section
variable {X : Cx} {N : List Str} {sc ow : Scope} {e a b c : Expr} {es : List Expr} {pos p2 : Pos} {We Wa Wb : WE} {Wr : WA}
def wNil : WA := fun _ h Q _ => Q [] h
def wCons (We : WE) (Wr : WA) : WA := fun env h Q E => We env h (fun v h1 => Wr env h1 (fun vs h2 => Q (v :: vs) h2) E) E
theorem ga_nil : GA X [] wNil := by
  refine ⟨PAimp pa_nil ?_⟩
  rintro σ H Q ⟨env, h, q, E, re, rh, tk, w, k⟩
  exact k _ _ h H (.refl H) rh .nil w
theorem ga_cons (ha : GE X e We) (hr : GA X es Wr) (hs : starEach (e :: es) X.env = (false, eval e X.env) :: starEach es X.env := by rfl) : GA X (e :: es) (wCons We Wr) := by
  refine ⟨PAimp (pa_cons ha.pe hr.pa hs) ?_⟩
  rintro σ H Q ⟨env, h, q, E, re, rh, tk, w, k⟩
  refine ⟨env, h, _, E, re, rh, tk, w, fun v u h1 H1 t1 rh1 r1 w1 => ?_⟩
  exact ⟨env, h1, _, E, re.up t1, rh1, takesUp t1 tk, w1, fun vs us h2 H2 t2 rh2 r2 w2 => k _ _ h2 H2 (t1.trans t2) rh2 (.cons (r1.up t2) r2) w2⟩
def wTup (Wr : WA) : WE := fun env h Q E => Wr env h (fun vs h1 => vs.length ≤ sizeLine ∧ Q (.tup vs) h1) E
def wLst (Wr : WA) : WE := fun env h Q E => Wr env h (fun vs h1 => vs.length ≤ sizeLine ∧ ∀ p, h1 p = none → Q (.ref p) (put h1 p (.lst vs))) E
theorem ge_tup {x1} (hr : GA X es Wr) : GE X (.Tuple es x1 pos) (wTup Wr) := by
  refine ⟨⟨fun pins s σ H Q I hq => ?_⟩⟩
  obtain ⟨env, h, q, E, re, rh, tk, w, k⟩ := hq
  refine wpAny_Tuple_spliced (thn (hr.pa.run pos pins s σ H (fun us H1 => ∃ vs h1, TExt H H1 ∧ RepH X.K H1 h1 ∧ RepL X.K H1 vs us ∧ vs.length ≤ sizeLine ∧ q (.tup vs) h1) I ⟨env, h, _, E, re, rh, tk, w, fun vs us h1 H1 t1 rh1 r1 w1 => ⟨vs, h1, t1, rh1, r1, w1⟩⟩) ?_)
  rintro us s1 ⟨xs, H1, I1, r, vs, h1, t1, rh1, r1, hz, w1⟩
  have hz' : xs.length ≤ sizeLine := by rw [← r1.length]; exact hz
  have np := I1.hok.fresh (Nat.le_refl _)
  exact ⟨by rw [← r.length]; exact hz', .ref s1.heap.objs.size, _, newTup I1 r hz', rfl, k _ _ h1 _ (t1.trans (.new np)) (rh1.new np) (repTup np r1) w1⟩
theorem ge_lst (hr : GA X es Wr) : GE X (.List es pos) (wLst Wr) := by
  refine ⟨PEimp (pe_lst hr.pa) ?_⟩
  rintro σ H Q ⟨env, h, q, E, re, rh, tk, w, k⟩
  refine ⟨env, h, _, E, re, rh, tk, w, fun vs us h1 H1 t1 rh1 r1 w1 => ?_⟩
  exact ⟨by rw [← r1.length]; exact w1.1, fun p np => k _ _ _ _ (t1.trans (.new np)) (rh1.newL np r1) (.ref p) (w1.2 p (rh1.free np))⟩

/-! ### subscripts -/
theorem atI_rep {K : PySem.W.Frag} {H : L2.Hp} {xs : List Val} {ws : List V} (l : RepL K H xs ws) {i : Int} {v : Val} (e : atI xs i = some v) : ∃ w, atI ws i = some w ∧ Rep K H v w := by
  unfold atI at e ⊢
  rw [← l.length]
  cases q : ixN xs.length i with
  | none => rw [q] at e; cases e
  | some j =>
    rw [q] at e
    exact l.get (i := j) e
def onSeq (h : Hg) (v : Val) (k : List Val → Prop) : Prop := match seqOf h v with
  | some xs => k xs
  | none => False
theorem onSeq_of {h : Hg} {v : Val} {k : List Val → Prop} (w : onSeq h v k) : ∃ xs, seqOf h v = some xs ∧ k xs := by
  unfold onSeq at w
  split at w
  · exact ⟨_, by assumption, w⟩
  · exact w.elim
def onSome {α : Type} (o : Option α) (k : α → Prop) : Prop := match o with
  | some a => k a
  | none => False
theorem onSome_of {α : Type} {o : Option α} {k : α → Prop} (w : onSome o k) : ∃ a, o = some a ∧ k a := by
  cases o with
  | some a => exact ⟨a, rfl, w⟩
  | none => exact (show False from w).elim
def oIx : W2 := fun x y h Q => match y with
  | .int i => match x with
    | .str z => z.length ≤ sizeLine ∧ onSome (atI z.cps.toList i) fun c => Q (.str ⟨#[c]⟩) h
    | _ => onSeq h x fun xs => onSome (atI xs i) fun v => Q v h
  | _ => False
theorem sIx : IxR X (rG X.K oIx) := by
  rintro value slice pins s σ H x y v u Q I rx ry ⟨vx, vy, h, q, r1, r2, rh, w, k⟩ hs
  cases vy <;> first | exact (show False from w).elim | skip
  rename_i i
  cases r2
  have gen : (onSeq h vx fun xs => onSome (atI xs i) fun v => q v h) → wpAny (model X.prog X.w) X.A (subscriptTail value slice v u) (EP X pins σ Q) X.xe s := fun w => by
    obtain ⟨xs, e, w⟩ := onSeq_of w
    obtain ⟨z, e2, w⟩ := onSome_of w
    obtain ⟨a, ws, rfl, l, c⟩ := seq_of rh r1 e
    obtain ⟨zw, e3, rz⟩ := atI_rep l e2
    rcases c with c | c
    · exact ix_list value slice pins s σ H _ _ v u Q I rx ry ⟨a, ws, i, zw, rfl, rfl, c.1, e3, k _ _ h H (.refl H) rh rz w⟩ hs
    · exact ix_tup value slice pins s σ H _ _ v u Q I rx ry ⟨a, ws, i, zw, rfl, rfl, c.1, e3, k _ _ h H (.refl H) rh rz w⟩ hs
  cases vx
  case str z =>
    cases r1
    obtain ⟨w1, w2⟩ := (show z.length ≤ sizeLine ∧ onSome (atI z.cps.toList i) (fun c => q (.str ⟨#[c]⟩) h) from w)
    obtain ⟨c, e2, w⟩ := onSome_of w2
    exact ix_str value slice pins s σ H _ _ v u Q I rx ry ⟨z, i, c, rfl, rfl, w1, e2, k _ _ h H (.refl H) rh (.str _) w⟩ hs
  all_goals exact gen w
theorem ge_ix (ha : GE X a Wa) (hb : GE X b Wb) (hs : PlainIx b := by intro _ _; rfl) : GE X (.Subscript a b pos) (wOp oIx Wa Wb) := ⟨PEimp (pe_ix sIx ha.pe hb.pe hs) (opImp ha hb)⟩

/-! ### slices -/
abbrev WO := Env' → Hg → (Option Int → Hg → Prop) → KX → Prop
def ContO (K : PySem.W.Frag) (H : L2.Hp) (q : Option Int → Hg → Prop) (Q : Option Int → L2.Hp → Prop) : Prop := ∀ b h' H', TExt H H' → RepH K H' h' → q b h' → Q b H'
def tGO (X : Cx) (W : WO) : TO := fun σ H Q => ∃ env h q E, RelE X.K H env σ ∧ RepH X.K H h ∧ Takes X (XW X.K H σ E) ∧ W env h q E ∧ ContO X.K H q Q
structure GO (X : Cx) (e : Option Expr) (W : WO) : Prop where
  po : PO X e (tGO X W)
def wNoPart : WO := fun _ h Q _ => Q none h
def wPart (W : WE) : WO := fun env h Q E => W env h (fun v h1 => onInt v fun i => Q (some i) h1) E
theorem go_none : GO X none wNoPart := ⟨⟨fun pins s σ H Q I hq => po_none.run pins s σ H Q I (by
  obtain ⟨env, h, q, E, re, rh, tk, w, k⟩ := hq
  exact k _ h H (.refl H) rh w)⟩⟩
theorem go_some (h : GE X e We) : GO X (some e) (wPart We) := ⟨⟨fun pins s σ H Q I hq => (po_some h.pe).run pins s σ H Q I (by
  obtain ⟨env, h, q, E, re, rh, tk, w, k⟩ := hq
  refine ⟨env, h, _, E, re, rh, tk, w, fun v u h1 H1 t1 rh1 r1 w1 => ?_⟩
  cases v <;> first | exact (show False from w1).elim | skip
  cases r1
  exact ⟨_, rfl, k _ h1 H1 t1 rh1 w1⟩)⟩⟩
def cutG (xs : List Val) (lo hi : Option Int) : List Val := (xs.drop (HT.sIx xs.length 0 lo)).take (HT.sIx xs.length xs.length hi - HT.sIx xs.length 0 lo)
theorem cutG_rep {K : PySem.W.Frag} {H : L2.Hp} {xs : List Val} {ws : List V} (l : RepL K H xs ws) (lo hi : Option Int) : RepL K H (cutG xs lo hi) (cutV ws lo hi) := by
  unfold cutG cutV
  rw [← l.length]
  exact (l.drop _).take _
theorem cutG_length (xs : List Val) (lo hi : Option Int) : (cutG xs lo hi).length ≤ xs.length := by
  unfold cutG
  rw [List.length_take, List.length_drop]
  omega
def oSl (x : Val) (lo hi : Option Int) (h : Hg) (Q : KV) : Prop := match x with
  | .tup xs => Q (.tup (cutG xs lo hi)) h
  | .str z => z.length ≤ sizeLine ∧ Q (.str (cutS z lo hi)) h
  | v => onSeq h v fun xs => ∀ p, h p = none → Q (.ref p) (put h p (.lst (cutG xs lo hi)))
def rSG (K : PySem.W.Frag) (o : Val → Option Int → Option Int → Hg → KV → Prop) : V → Option Int → Option Int → L2.Hp → VK → Prop := fun x lo hi H Q => ∃ vx h q, Rep K H vx x ∧ RepH K H h ∧ o vx lo hi h q ∧ ContE K H q Q
theorem sSl : SlR X (rSG X.K oSl) := by
  rintro pins s σ H x v vl vu lo hi sl Q I rx hs pl pu ⟨vx, h, q, r1, rh, w, k⟩
  have gen : (onSeq h vx fun xs => ∀ p, h p = none → q (.ref p) (put h p (.lst (cutG xs lo hi)))) → (∀ ys, vx ≠ .tup ys) → ∃ T id, typeLookup (.type T) "__getitem__" = pure (some (.builtin id)) ∧ s.TypeIs v T ∧ wpAny (model X.prog X.w) X.A (getItem v (.ref sl)) (EP X pins σ Q) X.xe s := fun w nt => by
    obtain ⟨xs, e, w⟩ := onSeq_of w
    obtain ⟨a, ws, rfl, l, c⟩ := seq_of rh r1 e
    rcases c with c | c
    · exact sl_list pins s σ H _ v vl vu lo hi sl Q I rx hs pl pu ⟨a, ws, rfl, c.1, fun p np => k _ _ _ _ (.new np) (rh.newL np (cutG_rep l lo hi)) (.ref p) (w p (rh.free np))⟩
    · exact absurd c.2 (nt _)
  cases vx
  case tup xs =>
    have w : q (.tup (cutG xs lo hi)) h := w
    cases r1 with
    | @tup a o _ ws e1 d1 l =>
      cases rx
      obtain ⟨its, r, ht, hz⟩ := I.tuple (.inl (.inr ⟨_, e1⟩))
      have hlen : its.toArray.size = ws.length := by rw [List.size_toArray]; exact r.length.symm
      refine ⟨"tuple", _, PyProof.Rows.slot_tuple_getitem.lookup, ht.typeIs, ?_⟩
      by_cases hw : HT.sIx ws.length 0 lo = 0 ∧ HT.sIx ws.length ws.length hi = ws.length
      · refine getItem_tuple_whole ht hs pl pu (by rw [hlen]; exact hw) ⟨.ref a, H, I, rfl, k _ _ h H (.refl H) rh (.tup e1 d1 l) ?_⟩
        have ec : cutG xs lo hi = xs := by
          unfold cutG
          rw [l.length, hw.1, hw.2, List.drop_zero, Nat.sub_zero, ← l.length, List.take_length]
        rw [ec] at w
        exact w
      · refine HT.getItem_tuple_cut ht hs pl pu (by rw [hlen]; exact hw) ?_ (by rw [hlen]; exact hz)
        rw [hlen]
        have np := I.hok.fresh (Nat.le_refl _)
        exact ⟨.ref s.heap.objs.size, _, newTup I ((r.drop (HT.sIx ws.length 0 lo)).take (HT.sIx ws.length ws.length hi - HT.sIx ws.length 0 lo)) (Nat.le_trans (cutV_length ws lo hi) hz), rfl, k _ _ h _ (.new np) (rh.new np) (repTup np (cutG_rep l lo hi)) w⟩
  case str z =>
    cases r1
    exact sl_str pins s σ H _ v vl vu lo hi sl Q I rx hs pl pu ⟨z, rfl, w.1, k _ _ h H (.refl H) rh (.str _) w.2⟩
  all_goals exact gen w (fun _ z => by cases z)
def wSl (We : WE) (Wl Wh : WO) : WE := fun env h Q E => We env h (fun v h1 => Wl env h1 (fun l h2 => Wh env h2 (fun u h3 => oSl v l u h3 Q) E) E) E
theorem ge_slice {lo hi : Option Expr} {Wl Wh : WO} (he : GE X e We) (hl : GO X lo Wl) (hu : GO X hi Wh) : GE X (.Subscript e (.Slice lo hi none p2) pos) (wSl We Wl Wh) := by
  refine ⟨PEimp (pe_slice sSl he.pe hl.po hu.po) ?_⟩
  rintro σ H Q ⟨env, h, q, E, re, rh, tk, w, k⟩
  refine ⟨env, h, _, E, re, rh, tk, w, fun v u h1 H1 t1 rh1 r1 w1 => ?_⟩
  refine ⟨env, h1, _, E, re.up t1, rh1, takesUp t1 tk, w1, fun l h2 H2 t2 rh2 w2 => ?_⟩
  refine ⟨env, h2, _, E, re.up (t1.trans t2), rh2, takesUp (t1.trans t2) tk, w2, fun l' h3 H3 t3 rh3 w3 => ?_⟩
  exact ⟨v, h3, q, r1.up (t2.trans t3), rh3, w3, k.up (t1.trans (t2.trans t3))⟩
/-- xs[::-1] of a list or a tuple -/
def oRev (x : Val) (h : Hg) (Q : KV) : Prop := match x with
  | .ref a => onSeq h (.ref a) fun xs => ∀ p, h p = none → Q (.ref p) (put h p (.lst xs.reverse))
  | .tup xs => Q (.tup xs.reverse) h
  | _ => False
def wRev (We : WE) : WE := fun env h Q E => We env h (fun v h1 => oRev v h1 Q) E
def tRevA (K : PySem.W.Frag) (te : TE) : TE := fun σ H Q => te σ H fun x H1 => ∃ a xs, x = .ref a ∧ ((SqL K H1 a xs ∧ ∀ p, H1 p = none → Q (.ref p) (upd H1 p (.lst xs.reverse))) ∨ (SqT K H1 a xs ∧ ∀ p us, H1 p = none → Q (.ref p) (upd H1 p (.frz (tupO us) (.tup xs.reverse)))))
theorem pe_revA {te : TE} {k : Nat} {p1 p3 : Pos} (he : PE X e te) : PE X (.Subscript e (.Slice none none (some (.UnaryOp .USub (.Constant (.int 1) k p1) p2)) p3) pos) (tRevA X.K te) := by
  refine ⟨fun pins s σ H Q I h => ?_⟩
  refine Subscript_ (thn (he.run pins s σ H _ I h) fun v s1 ⟨x, H1, I1, r1, q1⟩ => ?_)
  obtain ⟨a, xs, ex, q⟩ := q1
  subst ex
  cases r1
  have hst : PO X (some (.UnaryOp .USub (.Constant (.int 1) k p1) p2)) (tPart (tUn (rU fun i => .int (-i)) (tC (.int 1)))) := po_some (pe_un un_neg pe_int)
  refine wpAny_Slice (thn (po_none.run pins s1 σ H1 (fun o H2 => o = none ∧ H2 = H1) I1 ⟨rfl, rfl⟩) fun vl s2 ⟨l, H2, I2, pl, el, e2⟩ => ?_)
  subst el e2
  refine thn (po_none.run pins s2 σ H2 (fun o H3 => o = none ∧ H3 = H2) I2 ⟨rfl, rfl⟩) fun vu s3 ⟨u, H3, I3, pu, eu, e3⟩ => ?_
  subst eu e3
  refine thn (hst.run pins s3 σ H3 (fun o H4 => o = some (-1) ∧ H4 = H3) I3 ⟨1, rfl, -1, rfl, rfl, rfl⟩) fun vs s4 ⟨o, H4, I4, ps, eo, e4⟩ => ?_
  subst eo e4
  cases pl
  cases pu
  have I5 : Inv X pins σ H4 { s4 with heap := s4.heap.push { cls := .type "slice", data := .fields #[.none, .none, vs] } } := I4.kept (t' := s4.toks) fun b ob q => Heap.get?_push_of_some _ q
  show wpAny (model X.prog X.w) X.A (subscriptTail e (.Slice none none (some (.UnaryOp .USub (.Constant (.int 1) k p1) p2)) p3) (.ref a) (.ref s4.heap.objs.size)) (EP X pins σ Q) X.xe { s4 with heap := s4.heap.push { cls := .type "slice", data := .fields #[.none, .none, vs] } }
  rcases q with ⟨hx, q⟩ | ⟨hx, q⟩
  · obtain ⟨its, r, ht, hz⟩ := I5.list hx
    have hlen := r.length
    refine tail_any (ops := [.ref a, .ref s4.heap.objs.size]) ht.isList.typeIs (PySem.slot_list_getitem.lookup) ?_ (by with_unfolding_all rfl)
    refine wpAny_getItem_list_slice ht.isList (Heap.IsSliceOf.new _ .none .none vs) .none .none ps (by decide) ?_ (by rw [List.size_toArray]; omega)
    rw [PySem.W.krv_pick]
    refine ⟨.ref _, _, I5.laid (t' := s4.toks) (o := .lst xs.reverse) (fun b ob q => Heap.get?_push_of_some _ q) (Nat.le_refl _) ?_, rfl, q _ (I5.hok.fresh (Nat.le_refl _))⟩
    exact ⟨by rw [List.length_reverse]; exact hz, _, 0, r.reverse, Heap.get?_push_size _ rfl⟩
  · obtain ⟨its, r, ht, hz⟩ := I5.tuple hx
    have hlen := r.length
    refine tail_any (ops := [.ref a, .ref s4.heap.objs.size]) ht.typeIs (PyProof.Rows.slot_tuple_getitem.lookup) ?_ (by with_unfolding_all rfl)
    refine getItem_tuple_rev ht (Heap.IsSliceOf.new _ .none .none vs) ps ?_ (by omega)
    exact ⟨.ref _, _, newTup I5 r.reverse (by rw [List.length_reverse]; exact hz), rfl, q _ _ (I5.hok.fresh (Nat.le_refl _))⟩
theorem ge_rev {kk : Nat} {p1 p3 : Pos} (he : GE X e We) : GE X (.Subscript e (.Slice none none (some (.UnaryOp .USub (.Constant (.int 1) kk p1) p2)) p3) pos) (wRev We) := by
  refine ⟨PEimp (pe_revA he.pe) ?_⟩
  rintro σ H Q ⟨env, h, q, E, re, rh, tk, w, k⟩
  refine ⟨env, h, _, E, re, rh, tk, w, fun v u h1 H1 t1 rh1 r1 w1 => ?_⟩
  cases v <;> first | exact (show False from w1).elim | skip
  case tup xs =>
    cases r1 with
    | @tup a o _ ws e1 d1 l => exact ⟨a, ws, rfl, .inr ⟨.inl (.inr ⟨_, e1⟩), fun p us np => k _ _ _ _ (t1.trans (.new np)) (rh1.new np) (repTup np l.rev) w1⟩⟩
  case ref b =>
    obtain ⟨xs, e, w2⟩ := onSeq_of w1
    obtain ⟨a, ws, rfl, l, c⟩ := seq_of rh1 r1 e
    rcases c with c | c
    · exact ⟨a, ws, rfl, .inl ⟨c.1, fun p np => k _ _ _ _ (t1.trans (.new np)) (rh1.newL np l.rev) (.ref p) (w2 p (rh1.free np))⟩⟩
    · exact absurd c.2 (by intro z; cases z)

/-! ### built-in functions by values -/
abbrev WF := List Val → Hg → KV → Prop
def rCG (K : PySem.W.Frag) (o : WF) : List V → L2.Hp → VK → Prop := fun xs H Q => ∃ vs h q, RepL K H vs xs ∧ RepH K H h ∧ o vs h q ∧ ContE K H q Q
def wCB (o : WF) (Wr : WA) : WE := fun env h Q E => Wr env h (fun vs h1 => o vs h1 Q) E
theorem cbImp {o : WF} (hr : GA X es Wr) : ∀ σ H Q, tG X (wCB o Wr) σ H Q → tCB (rCG X.K o) (tGA X Wr) σ H Q := by
  rintro σ H Q ⟨env, h, q, E, re, rh, tk, w, k⟩
  exact ⟨env, h, _, E, re, rh, tk, w, fun vs us h1 H1 t1 rh1 r1 w1 => ⟨vs, h1, q, r1, rh1, w1, k.up t1⟩⟩
theorem ge_callB {x : Str} {p : Pos} {id : String} {o : WF} (C : Cn X N sc ow) (hc : CallR X (.builtin id) (rCG X.K o)) (hm : X.mg x = none) (ha : GA X (e :: es) Wr) (hv : bootBuiltins x = some (.builtin id) := by decide +kernel) (hg : glbB sc x = true := by decide +kernel) (hn : x ≠ "__name__" := by decide +kernel) (hdb : (x == ("__debug__" : Str)) = false := by decide +kernel)
    (he : starEach (e :: es) X.env = (false, eval e X.env) :: starEach es X.env := by rfl) (hpl : (backTo pos (starEach es X.env)).any (·.1) = false := by rfl) : GE X (.Call (.Name x p) (e :: es) [] pos) (wCB o Wr) :=
  ⟨PEimp (pe_callB hc (C.gl hg) hm hv ha.pa hn hdb he hpl) (cbImp ha)⟩
theorem ge_callT {x : Str} {p : Pos} {T : String} {o : WF} (C : Cn X N sc ow) (hc : CallR X (.type T) (rCG X.K o)) (hm : X.mg x = none) (ha : GA X (e :: es) Wr) (hv : bootBuiltins x = some (.type T) := by decide +kernel) (hg : glbB sc x = true := by decide +kernel) (hn : x ≠ "__name__" := by decide +kernel) (hdb : (x == ("__debug__" : Str)) = false := by decide +kernel)
    (he : starEach (e :: es) X.env = (false, eval e X.env) :: starEach es X.env := by rfl) (hpl : (backTo pos (starEach es X.env)).any (·.1) = false := by rfl) : GE X (.Call (.Name x p) (e :: es) [] pos) (wCB o Wr) :=
  ⟨PEimp (pe_callTy hc (C.gl hg) hm hv ha.pa hn hdb he hpl) (cbImp ha)⟩

def fLen : WF := fun vs h Q => match vs with
  | [.str z] => z.length ≤ sizeLine ∧ Q (.int z.length) h
  | [v] => onSeq h v fun xs => Q (.int xs.length) h
  | _ => False
theorem cLen : CallR X (.builtin "len") (rCG X.K fLen) := by
  rintro pins s σ H xs us Q I rv ⟨vs, h, q, r, rh, w, k⟩
  unfold fLen at w
  split at w
  · obtain ⟨u, rfl, r1⟩ := r.one
    cases r1
    exact call_len pins s σ H _ us Q I rv ⟨_, _, rfl, ⟨w.1, rfl⟩, k _ _ h H (.refl H) rh (.int _) w.2⟩
  · rename_i v _
    obtain ⟨u, rfl, r1⟩ := r.one
    obtain ⟨ys, e, w⟩ := onSeq_of w
    obtain ⟨a, ws, rfl, l, c⟩ := seq_of rh r1 e
    refine call_len_seq pins s σ H _ us Q I rv ⟨a, ws, rfl, c.elim (fun z => .inl z.1) (fun z => .inr z.1), ?_⟩
    rw [← l.length]
    exact k _ _ h H (.refl H) rh (.int _) w
  · exact w.elim
def fAbs : WF := fun vs h Q => match vs with
  | [.int i] => Q (.int (if i < 0 then -i else i)) h
  | _ => False
theorem cAbs : CallR X (.builtin "abs") (rCG X.K fAbs) := by
  rintro pins s σ H xs us Q I rv ⟨vs, h, q, r, rh, w, k⟩
  unfold fAbs at w
  split at w
  · obtain ⟨u, rfl, r1⟩ := r.one
    cases r1
    exact call_abs pins s σ H _ us Q I rv ⟨_, rfl, k _ _ h H (.refl H) rh (.int _) w⟩
  · exact w.elim
def fMax2 : WF := fun vs h Q => match vs with
  | [.int i, .int j] => Q (.int (if j > i then j else i)) h
  | _ => False
def fMin2 : WF := fun vs h Q => match vs with
  | [.int i, .int j] => Q (.int (if j < i then j else i)) h
  | _ => False
theorem cMax2 (hc : X.calm = true) : CallR X (.builtin "max") (rCG X.K fMax2) := by
  rintro pins s σ H xs us Q I rv ⟨vs, h, q, r, rh, w, k⟩
  unfold fMax2 at w
  split at w
  · obtain ⟨u, x, rfl, r1, r2⟩ := r.two
    cases r1; cases r2
    exact call_max2 hc pins s σ H _ us Q I rv ⟨_, _, rfl, k _ _ h H (.refl H) rh (.int _) w⟩
  · exact w.elim
theorem cMin2 (hc : X.calm = true) : CallR X (.builtin "min") (rCG X.K fMin2) := by
  rintro pins s σ H xs us Q I rv ⟨vs, h, q, r, rh, w, k⟩
  unfold fMin2 at w
  split at w
  · obtain ⟨u, x, rfl, r1, r2⟩ := r.two
    cases r1; cases r2
    exact call_min2 hc pins s σ H _ us Q I rv ⟨_, _, rfl, k _ _ h H (.refl H) rh (.int _) w⟩
  · exact w.elim
def fInt : WF := fun vs h Q => match vs with
  | [.int i] => Q (.int i) h
  | [.bl b] => Q (.int (if b then 1 else 0)) h
  | _ => False
theorem cInt : CallR X (.type "int") (rCG X.K fInt) := by
  rintro pins s σ H xs us Q I rv ⟨vs, h, q, r, rh, w, k⟩
  unfold fInt at w
  split at w
  · obtain ⟨u, rfl, r1⟩ := r.one
    cases r1
    exact call_int1 pins s σ H _ us Q I rv (.inl ⟨_, rfl, k _ _ h H (.refl H) rh (.int _) w⟩)
  · obtain ⟨u, rfl, r1⟩ := r.one
    cases r1
    exact call_int1 pins s σ H _ us Q I rv (.inr ⟨_, rfl, k _ _ h H (.refl H) rh (.int _) w⟩)
  · exact w.elim
def fList : WF := fun vs h Q => match vs with
  | [v] => onSeq h v fun xs => ∀ p, h p = none → Q (.ref p) (put h p (.lst xs))
  | _ => False
theorem cList : CallR X (.type "list") (rCG X.K fList) := by
  rintro pins s σ H xs us Q I rv ⟨vs, h, q, r, rh, w, k⟩
  unfold fList at w
  split at w
  · obtain ⟨u, rfl, r1⟩ := r.one
    obtain ⟨ys, e, w⟩ := onSeq_of w
    obtain ⟨a, ws, rfl, l, c⟩ := seq_of rh r1 e
    exact call_list_of pins s σ H _ us Q I rv ⟨a, ws, rfl, c.elim (fun z => .inl z.1) (fun z => .inr z.1), fun p np => k _ _ _ _ (.new np) (rh.newL np l) (.ref p) (w p (rh.free np))⟩
  · exact w.elim
def fTuple : WF := fun vs h Q => match vs with
  | [v] => onSeq h v fun xs => Q (.tup xs) h
  | _ => False
theorem cTuple : CallR X (.type "tuple") (rCG X.K fTuple) := by
  rintro pins s σ H xs us Q I rv ⟨vs, h, q, r, rh, w, k⟩
  unfold fTuple at w
  split at w
  · obtain ⟨u, rfl, r1⟩ := r.one
    obtain ⟨ys, e, w⟩ := onSeq_of w
    obtain ⟨a, ws, rfl, l, c⟩ := seq_of rh r1 e
    obtain ⟨u1, rfl, rx⟩ := vals1 rv
    cases rx
    rcases c with c | c
    · obtain ⟨its, r', pl, hz⟩ := I.list c.1
      have hlen := r'.length
      refine call_tuple_list pl.isList (fun h' kp => ?_) (by simp only [List.size_toArray] <;> omega)
      have I1 : Inv X pins σ H { s with heap := h' } := I.kept (t' := s.toks) kp
      have np := I1.hok.fresh (Nat.le_refl _)
      exact ⟨.ref h'.objs.size, _, newTup I1 r' hz, rfl, k _ _ h _ (.new np) (rh.new np) (repTup np l) w⟩
    · obtain ⟨c1, rfl⟩ := c
      obtain ⟨its, r', pl, hz⟩ := I.tuple c1
      exact call_tuple_same pl ⟨.ref a, H, I, rfl, k _ _ h H (.refl H) rh r1 w⟩
  · exact w.elim
/-- lists of ints, of bools -/
def intsOf : List Val → Option (List Int)
  | [] => some []
  | .int i :: r => (intsOf r).map (i :: ·)
  | _ => none
def bolsOf : List Val → Option (List Bool)
  | [] => some []
  | .bl i :: r => (bolsOf r).map (i :: ·)
  | _ => none
theorem intsOf_eq : ∀ {xs : List Val} {ns : List Int}, intsOf xs = some ns → xs = ns.map Val.int
  | [], _, e => by cases e; rfl
  | x :: r, ns, e => by
    cases x <;> first | (cases e; done) | skip
    rename_i i
    have e' : (intsOf r).map (i :: ·) = some ns := e
    cases q : intsOf r with
    | none => rw [q] at e'; cases e'
    | some ms =>
      rw [q] at e'
      cases e'
      rw [intsOf_eq q]
      rfl
theorem bolsOf_eq : ∀ {xs : List Val} {ns : List Bool}, bolsOf xs = some ns → xs = ns.map Val.bl
  | [], _, e => by cases e; rfl
  | x :: r, ns, e => by
    cases x <;> first | (cases e; done) | skip
    rename_i i
    have e' : (bolsOf r).map (i :: ·) = some ns := e
    cases q : bolsOf r with
    | none => rw [q] at e'; cases e'
    | some ms =>
      rw [q] at e'
      cases e'
      rw [bolsOf_eq q]
      rfl
theorem intsOf_map : ∀ ns : List Int, intsOf (ns.map Val.int) = some ns
  | [] => rfl
  | n :: ns => by
    show (intsOf (ns.map Val.int)).map (n :: ·) = _
    rw [intsOf_map ns]; rfl
theorem bolsOf_map : ∀ ns : List Bool, bolsOf (ns.map Val.bl) = some ns
  | [] => rfl
  | n :: ns => by
    show (bolsOf (ns.map Val.bl)).map (n :: ·) = _
    rw [bolsOf_map ns]; rfl
theorem repBols {K : PySem.W.Frag} {H : L2.Hp} : ∀ {ns : List Bool} {ws : List V}, RepL K H (ns.map Val.bl) ws → ws = ns.map V.bl
  | [], _, r => by cases r; rfl
  | n :: ns, _, r => by
    cases r with
    | cons r q => cases r; rw [repBols q]; rfl
def isRefS : Val → Bool
  | .ref _ => true
  | .scr _ => true
  | _ => false
theorem seq_lst {K : PySem.W.Frag} {H : L2.Hp} {h : Hg} (rh : RepH K H h) {v : Val} {w : V} {xs : List Val} (r : Rep K H v w) (e : seqOf h v = some xs) (n : isRefS v = true) : ∃ a ws, w = .ref a ∧ RepL K H xs ws ∧ SqL K H a ws := by
  obtain ⟨a, ws, h1, h2, h3⟩ := seq_of rh r e
  rcases h3 with h3 | ⟨_, rfl⟩
  · exact ⟨a, ws, h1, h2, h3.1⟩
  · cases n
def fInts (k : List Int → Hg → KV → Prop) : WF := fun vs h Q => match vs with
  | [v] => isRefS v = true ∧ onSeq h v fun xs => onSome (intsOf xs) fun ns => k ns h Q
  | _ => False
theorem fInts_of {K : PySem.W.Frag} {H : L2.Hp} {h : Hg} {kk : List Int → Hg → KV → Prop} {vs : List Val} {xs : List V} {q : KV} (rh : RepH K H h) (r : RepL K H vs xs) (w : fInts kk vs h q) : ∃ a ns, xs = [.ref a] ∧ SqL K H a (ns.map V.int) ∧ kk ns h q := by
  unfold fInts at w
  split at w
  · obtain ⟨u, rfl, r1⟩ := r.one
    obtain ⟨w0, w⟩ := w
    obtain ⟨ys, e, w⟩ := onSeq_of w
    obtain ⟨ns, e2, w⟩ := onSome_of w
    obtain ⟨a, ws, rfl, l, c⟩ := seq_lst rh r1 e w0
    rw [intsOf_eq e2] at l
    rw [l.ints] at c
    exact ⟨a, ns, rfl, c, w⟩
  · exact w.elim
def fSum : WF := fInts fun ns h Q => Q (.int ns.sum) h
def fMax : WF := fInts fun ns h Q => 0 < ns.length ∧ ∀ m, m ∈ ns → (∀ y, y ∈ ns → y ≤ m) → Q (.int m) h
def fMin : WF := fInts fun ns h Q => 0 < ns.length ∧ ∀ m, m ∈ ns → (∀ y, y ∈ ns → m ≤ y) → Q (.int m) h
def fSorted : WF := fInts fun ns h Q => ns.length < 64 ∧ ∀ (ms : List Int) (p : Addr), ms.Perm ns → ms.Pairwise (· ≤ ·) → h p = none → Q (.ref p) (put h p (.lst (ms.map Val.int)))
theorem cSum (hc : X.calm = true) : CallR X (.builtin "sum") (rCG X.K fSum) := by
  rintro pins s σ H xs us Q I rv ⟨vs, h, q, r, rh, w, k⟩
  obtain ⟨a, ns, rfl, hq, w⟩ := fInts_of rh r w
  exact cr_sum hc pins s σ H _ us Q I rv ⟨a, ns, rfl, hq, k _ _ h H (.refl H) rh (.int _) w⟩
theorem cMax (hc : X.calm = true) : CallR X (.builtin "max") (rCG X.K fMax) := by
  rintro pins s σ H xs us Q I rv ⟨vs, h, q, r, rh, w, k⟩
  obtain ⟨a, ns, rfl, hq, w⟩ := fInts_of rh r w
  exact cr_max hc pins s σ H _ us Q I rv ⟨a, ns, rfl, hq, w.1, fun m h1 h2 => k _ _ h H (.refl H) rh (.int _) (w.2 m h1 h2)⟩
theorem cMin (hc : X.calm = true) : CallR X (.builtin "min") (rCG X.K fMin) := by
  rintro pins s σ H xs us Q I rv ⟨vs, h, q, r, rh, w, k⟩
  obtain ⟨a, ns, rfl, hq, w⟩ := fInts_of rh r w
  exact cr_min hc pins s σ H _ us Q I rv ⟨a, ns, rfl, hq, w.1, fun m h1 h2 => k _ _ h H (.refl H) rh (.int _) (w.2 m h1 h2)⟩
theorem cSorted : CallR X (.builtin "sorted") (rCG X.K fSorted) := by
  rintro pins s σ H xs us Q I rv ⟨vs, h, q, r, rh, w, k⟩
  obtain ⟨a, ns, rfl, hq, w⟩ := fInts_of rh r w
  exact cr_sorted pins s σ H _ us Q I rv ⟨a, ns, rfl, hq, w.1, fun ms p h1 h2 np => k _ _ _ _ (.new np) (rh.newL np RepL.ofInts) (.ref p) (w.2 ms p h1 h2 (rh.free np))⟩
def fBols (k : List Bool → Hg → KV → Prop) : WF := fun vs h Q => match vs with
  | [v] => isRefS v = true ∧ onSeq h v fun xs => onSome (bolsOf xs) fun ns => k ns h Q
  | _ => False
def fAll : WF := fBols fun bs h Q => Q (.bl (bs.all id)) h
def fAny : WF := fBols fun bs h Q => Q (.bl (bs.any id)) h
theorem fBols_of {K : PySem.W.Frag} {H : L2.Hp} {h : Hg} {kk : List Bool → Hg → KV → Prop} {vs : List Val} {xs : List V} {q : KV} (rh : RepH K H h) (r : RepL K H vs xs) (w : fBols kk vs h q) : ∃ a ns, xs = [.ref a] ∧ SqL K H a (ns.map V.bl) ∧ kk ns h q := by
  unfold fBols at w
  split at w
  · obtain ⟨u, rfl, r1⟩ := r.one
    obtain ⟨w0, w⟩ := w
    obtain ⟨ys, e, w⟩ := onSeq_of w
    obtain ⟨ns, e2, w⟩ := onSome_of w
    obtain ⟨a, ws, rfl, l, c⟩ := seq_lst rh r1 e w0
    rw [bolsOf_eq e2] at l
    rw [repBols l] at c
    exact ⟨a, ns, rfl, c, w⟩
  · exact w.elim
theorem cAll (hc : X.calm = true) : CallR X (.builtin "all") (rCG X.K fAll) := by
  rintro pins s σ H xs us Q I rv ⟨vs, h, q, r, rh, w, k⟩
  obtain ⟨a, ns, rfl, hq, w⟩ := fBols_of rh r w
  exact cr_all hc pins s σ H _ us Q I rv ⟨a, ns, rfl, hq, k _ _ h H (.refl H) rh (.bl _) w⟩
theorem cAny (hc : X.calm = true) : CallR X (.builtin "any") (rCG X.K fAny) := by
  rintro pins s σ H xs us Q I rv ⟨vs, h, q, r, rh, w, k⟩
  obtain ⟨a, ns, rfl, hq, w⟩ := fBols_of rh r w
  exact cr_any hc pins s σ H _ us Q I rv ⟨a, ns, rfl, hq, k _ _ h H (.refl H) rh (.bl _) w⟩
/-- repr of data -/
def fRepr : WF := fun vs h Q => match vs with
  | [v] => ∃ d, Dat h v d ∧ d.showable = true ∧ d.hasDict = false ∧ d.depth ≤ 60 ∧ d.shown.length ≤ sizeLine ∧ Q (.str d.shown) h
  | _ => False
theorem cRepr (hg : X.A.guards = some []) (hu : X.A.units + 64 < cLine) : CallR X (.builtin "repr") (rCG X.K fRepr) := by
  rintro pins s σ H xs us Q I rv ⟨vs, h, q, r, rh, w, k⟩
  unfold fRepr at w
  split at w
  · obtain ⟨x, rfl, r1⟩ := r.one
    obtain ⟨u, rfl, rx⟩ := vals1 rv
    obtain ⟨d, hd, hs, hn, hdp, hz, w⟩ := w
    have dp := hd.dp rh _ _ _ r1
    have fin : ∀ s', Inv X pins σ H s' → ∀ t, EP X pins σ Q (.str d.shown t) s' := fun s' I' t => ⟨.str d.shown, H, I', ⟨t, rfl⟩, k _ _ h H (.refl H) rh (.str _) w⟩
    cases dp with
    | non => cases rx; exact PySem.P.repr_of_none (fin _ (I.tok _) _)
    | bl b => cases rx; exact PySem.P.repr_of_bool (fin _ (I.tok _) _)
    | int i =>
      obtain ⟨t, rfl⟩ := rx
      exact PySem.P.repr_of_int (by simpa [PyData.showable] using hs) (fin _ (I.tok _) _)
    | str z =>
      obtain ⟨t, rfl⟩ := rx
      exact PySem.P.repr_of_str (fin _ (I.tok _) _) hz
    | lst h1 h2 =>
      obtain ⟨as, rd⟩ := Dp.reads I _ _ _ (Dp.lst h1 h2) rx
      cases rx
      exact repr_of_reads' rd hs (PyData.noDict_hsm hn) hg (by omega) (fun _ _ e => e) (fun h' u tk hk => fin _ (I.kept hk) u) hz
    | tup h1 h2 =>
      obtain ⟨as, rd⟩ := Dp.reads I _ _ _ (Dp.tup h1 h2) rx
      cases rx
      exact repr_of_reads' rd hs (PyData.noDict_hsm hn) hg (by omega) (fun _ _ e => e) (fun h' u tk hk => fin _ (I.kept hk) u) hz
  · exact w.elim
end
end G

set_option Elab.async false
set_option linter.all false
set_option maxRecDepth 100000
set_option maxHeartbeats 4000000
namespace G
open PySem PySem.Spec L2
open PyProof.Rows hiding St

/-! ### extending by a tuple -/
theorem extend_tupW (l : Addr) (items : Array Value) (n : Nat) (b : Addr) (items2 : Array Value) (n2 : Nat) (dd : Option Addr) (sl : Array (Option Value)) (hs0 : ¬(!items.isEmpty && Builtin.List.listTooLong (items.size + items2.size)) = true) (hs1 : items.size ≤ sizeLine) (hs2 : items.size + items2.size ≤ sizeLine + 1) :
    Meets (Builtin.«list.extend» ⟨[.ref l, .ref b], []⟩) (fun _ R s => s.heap.get? l = some { cls := .type "list", dict := none, data := .seq items n, slots := #[] } ∧ s.heap.get? b = some { cls := .type "tuple", dict := dd, data := .seq items2 n2, slots := sl } ∧ R (.ok (.ret Value.none)) { s with heap := s.heap.update l (Obj.mapSeq fun x => x ++ items2), toks := s.toks }) :=
  .of_wp fun prog w A R s h => by
    obtain ⟨hp, g, d, tk, os⟩ := s
    obtain ⟨hl, hb, h⟩ := h
    have f1 := AutoSeq1.idx_int
    have f2 := AutoSeq1.sub_tuple_tuple
    have f3 := AutoSeq1.sub_list_list
    have f4 := AutoSeq1.sub_tuple_list
    have f5 := AutoSeq1.sub_list_tuple
    have hz' : (items ++ items2).size ≤ sizeLine + 1 := by rw [Array.size_append]; exact hs2
    wp_walk using (wpAny_updateSeq hl rfl (hz := hs1) (_hz' := hz')), wpAny_loadPart' hl, wpAny_loadPart' hb
    exact ⟨_, rfl, h⟩
def rExtendT : V → List V → L2.Hp → VK → Prop := fun x vs H Q => ∃ l b o xs zs, x = .ref l ∧ vs = [.ref b] ∧ H l = some (.lst xs) ∧ H b = some (.frz o (.tup zs)) ∧ xs.length + zs.length ≤ sizeLine ∧ Q .non (upd H l (.lst (xs ++ zs)))
theorem mt_extendT {X : Cx} : MtM X "list.extend" rExtendT := by
  intro pins s σ H x vs v us Q I rx rv h
  obtain ⟨l, b, o, xs, zs, rfl, rfl, hH, hB, hz, q⟩ := h
  cases rx
  obtain ⟨u, rfl, ru⟩ := rv.one
  cases ru
  obtain ⟨z, its, n, r, hl, e⟩ := I.lstM hH
  obtain ⟨its2, r2, ⟨⟨cls, dd, data, sl⟩, ho, hc, n2, hd⟩, hs⟩ := I.tuple (.inl (.inr ⟨_, hB⟩))
  simp only at hc hd
  subst hc hd
  have hl2 : its2.length = zs.length := r2.length.symm
  have hsz : its.toArray.size + its2.toArray.size ≤ sizeLine := by rw [List.size_toArray, List.size_toArray]; omega
  have hlong : ¬ (!its.toArray.isEmpty && Builtin.List.listTooLong (its.toArray.size + its2.toArray.size)) = true := by
    rw [notLongL hsz, Bool.and_false]
    exact Bool.false_ne_true
  refine call_meets F.slot_list_extend ⟨_, e, rfl⟩ F.entry_list_extend (F.args_list_extend_2 _ _)
    (extend_tupW l its.toArray n b its2.toArray n2 dd sl hlong (by rw [List.size_toArray]; omega) (by omega)) ⟨e, ho, ?_⟩
  refine ⟨.non, _, I.lset (its' := its ++ its2) hH e (by simp) (r.append r2) ?_, rfl, q⟩
  rw [List.length_append]
  omega
/-! ### methods of built-in types -/
abbrev WM := Val → List Val → Hg → KV → Prop
def rMG (K : PySem.W.Frag) (o : WM) : V → List V → L2.Hp → VK → Prop := fun x xs H Q => ∃ vx vs h q, Rep K H vx x ∧ RepL K H vs xs ∧ RepH K H h ∧ o vx vs h q ∧ ContE K H q Q
def lstB (h : Hg) : Val → Bool
  | .ref a => (lstAt h a).isSome
  | .scr _ => true
  | _ => false
def tyG (T : String) (h : Hg) (v : Val) : Bool := match v with
  | .str _ => T == "str"
  | .tup _ => T == "tuple"
  | v => T == "list" && lstB h v
section
variable {X : Cx} {pins : List (Addr × Obj)} {σ : L2.St} {H : L2.Hp} {s : Shared} {h : Hg}
theorem tyG_is {T : String} {v : Val} {w : V} {u : Value} (I : Inv X pins σ H s) (rh : RepH X.K H h) (r : Rep X.K H v w) (ru : RelV w u) (e : tyG T h v = true) :
    s.TypeIs u T ∧ ∀ a, u = .ref a → ∃ ob, s.heap.get? a = some ob ∧ ob.dict = none := by
  cases r with
  | str x =>
    obtain ⟨t, rfl⟩ := ru
    have e' : T = "str" := by simpa [tyG] using e
    subst e'
    exact ⟨typeIs_str s x t, fun _ z => nomatch z⟩
  | @tup a o xs ws h1 d l =>
    cases ru
    have e' : T = "tuple" := by simpa [tyG] using e
    subst e'
    obtain ⟨g, z⟩ := I.hok a _ h1
    obtain ⟨_, its, _, o', g', c, _⟩ := (show ObjOk X.prog X.w H s.heap a (.tup ws) from z)
    rw [g] at g'; cases g'
    exact ⟨⟨o, g, c⟩, fun b q => by cases q; exact ⟨o, g, d⟩⟩
  | @scr a ns h1 =>
    cases ru
    have e' : T = "list" := by simpa [tyG, lstB] using e
    subst e'
    obtain ⟨its, _, pl, _⟩ := I.list h1.sql
    refine ⟨pl.isList.typeIs, fun b q => ?_⟩
    cases q
    obtain ⟨o, n, e, c, hd, _⟩ := pl
    exact ⟨o, e, hd⟩
  | ref a =>
    cases ru
    have e2 : T = "list" ∧ lstB h (.ref a) = true := by simpa [tyG] using e
    obtain ⟨rfl, e3⟩ := e2
    have e4 : (lstAt h a).isSome = true := e3
    cases q : lstAt h a with
    | none => rw [q] at e4; cases e4
    | some xs =>
      obtain ⟨ws, h1, _⟩ := rh.lst (lstAt_eq q)
      obtain ⟨its, _, pl, _⟩ := I.list (SqL.of (K := X.K) h1)
      refine ⟨pl.isList.typeIs, fun b z => ?_⟩
      cases z
      obtain ⟨o, n, e, c, hd, _⟩ := pl
      exact ⟨o, e, hd⟩
  | _ => simp [tyG, lstB] at e
end
section
variable {X : Cx} {N : List Str} {sc ow : Scope} {o e a b c : Expr} {es : List Expr} {name : Str} {pos apos cpos p2 : Pos} {T id : String} {Wo We Wa Wb : WE} {Wr : WA} {m : WM}
def wM0 (T : String) (m : WM) (Wo : WE) : WE := fun env h Q E => Wo env h (fun v h1 => tyG T h1 v = true ∧ m v [] h1 Q) E
def wM (T : String) (m : WM) (Wo : WE) (Wr : WA) : WE := fun env h Q E => Wo env h (fun v h1 => tyG T h1 v = true ∧ Wr env h1 (fun vs h2 => m v vs h2 Q) E) E
theorem ge_m0 (pa : PlainAttrs T) (slot : Slot T name id) (hty : typeOf (.builtin id) = pure (.type "method_descriptor")) (hm : MtR X id (rMG X.K m)) (ho : GE X o Wo)
    (hbase : attributeBase o name X.env (eval o X.env) = eval o X.env := by rfl) (hline : (apos.endLine == cpos.line) = true := by rfl) : GE X (.Call (.Attribute o name apos) [] [] cpos) (wM0 T m Wo) := by
  refine ⟨⟨fun pins s σ H Q I hq => ?_⟩⟩
  obtain ⟨env, h, q, E, re, rh, tk, w, k⟩ := hq
  refine wpAny_Call_method0_late hbase hline (thn (ho.pe.run pins s σ H (fun u H1 => ∃ v h1, TExt H H1 ∧ RepH X.K H1 h1 ∧ Rep X.K H1 v u ∧ tyG T h1 v = true ∧ m v [] h1 q) I ⟨env, h, _, E, re, rh, tk, w, fun v u h1 H1 t1 rh1 r1 w1 => ⟨v, h1, t1, rh1, r1, w1.1, w1.2⟩⟩) ?_)
  rintro u s1 ⟨x, H1, I1, ru, v, h1, t1, rh1, r1, ty, w1⟩
  obtain ⟨z1, z2⟩ := tyG_is I1 rh1 r1 ru ty
  exact ⟨T, id, pa, slot, hty, z1, z2, Calls.callWith_builtin rfl (PySem.evalArgs_none (hm pins s1 σ H1 x [] u [] Q I1 ru .nil ⟨v, [], h1, q, r1, .nil, rh1, w1, k.up t1⟩))⟩
theorem ge_m (pa : PlainAttrs T) (slot : Slot T name id) (hty : typeOf (.builtin id) = pure (.type "method_descriptor")) (hm : MtR X id (rMG X.K m)) (ho : GE X o Wo) (ha : GA X (e :: es) Wr)
    (hbase : attributeBase o name X.env (eval o X.env) = eval o X.env := by rfl)
    (hfew : ((backTo cpos (starEach (e :: es) X.env)).all (fun x => !x.1) && (backToKw cpos (keywordEach [] X.env)).all (fun x => x.1.isSome)
      && decide ((e :: es).length + ([] : List Keyword).length + (if ([] : List Keyword).isEmpty then 0 else 1) < 30)) = true := by rfl)
    (hline : (apos.endLine == cpos.line) = true := by rfl) (hs : starEach (e :: es) X.env = (false, eval e X.env) :: starEach es X.env := by rfl) (hplain : (backTo cpos (starEach es X.env)).any (·.1) = false := by rfl) :
    GE X (.Call (.Attribute o name apos) (e :: es) [] cpos) (wM T m Wo Wr) := by
  refine ⟨⟨fun pins s σ H Q I hq => ?_⟩⟩
  obtain ⟨env, h, q, E, re, rh, tk, w, k⟩ := hq
  refine wpAny_Call_method_late hbase hfew hline rfl (thn (ho.pe.run pins s σ H (fun u H1 => ∃ v h1, TExt H H1 ∧ RepH X.K H1 h1 ∧ Rep X.K H1 v u ∧ tyG T h1 v = true ∧ Wr env h1 (fun vs h2 => m v vs h2 q) E) I ⟨env, h, _, E, re, rh, tk, w, fun v u h1 H1 t1 rh1 r1 w1 => ⟨v, h1, t1, rh1, r1, w1.1, w1.2⟩⟩) ?_)
  rintro u s1 ⟨x, H1, I1, ru, v, h1, t1, rh1, r1, ty, w1⟩
  obtain ⟨z1, z2⟩ := tyG_is I1 rh1 r1 ru ty
  refine ⟨T, id, pa, slot, hty, z1, z2, ?_⟩
  have hA := ha.pa.run cpos pins s1 σ H1 (fun us H2 => ∃ vs h2, TExt H H2 ∧ RepH X.K H2 h2 ∧ RepL X.K H2 vs us ∧ Rep X.K H2 v x ∧ m v vs h2 q) I1 ⟨env, h1, _, E, re.up t1, rh1, takesUp t1 tk, w1, fun vs us h2 H2 t2 rh2 r2 w2 => ⟨vs, h2, t1.trans t2, rh2, r2, r1.up t2, w2⟩⟩
  rw [hs] at hA ⊢
  refine Calls.callWith_builtin (by show (false || (backTo cpos (starEach es X.env)).any (·.1)) = false; rw [hplain] <;> rfl) (Calls.evalArgs_plain ?_)
  refine thn hA ?_
  rintro us s2 ⟨ws, H2, I2, r2, vs, h2, t2, rh2, rl, rx, w2⟩
  exact hm pins s2 σ H2 x ws u us Q I2 ru r2 ⟨v, vs, h2, q, rx, rl, rh2, w2, k.up t2⟩
def onLst (h : Hg) (v : Val) (k : Addr → List Val → Prop) : Prop := match v with
  | .ref a => match lstAt h a with
    | some xs => k a xs
    | none => False
  | _ => False
theorem onLst_of {h : Hg} {v : Val} {k : Addr → List Val → Prop} (w : onLst h v k) : ∃ a xs, v = .ref a ∧ h a = some (.lst xs) ∧ k a xs := by
  unfold onLst at w
  split at w
  · split at w
    · exact ⟨_, _, rfl, lstAt_eq (by assumption), w⟩
    · exact w.elim
  · exact w.elim
def mAppend : WM := fun v vs h Q => match vs with
  | [y] => onLst h v fun a xs => xs.length < sizeLine ∧ Q .non (put h a (.lst (xs ++ [y])))
  | _ => False
theorem sAppend : MtR X "list.append" (rMG X.K mAppend) := by
  rintro pins s σ H x xs v us Q I rx rxs ⟨vx, vs, h, q, r1, r2, rh, w, k⟩
  unfold mAppend at w
  split at w
  · obtain ⟨y, rfl, ry⟩ := r2.one
    obtain ⟨a, ys, rfl, e, w1, w2⟩ := onLst_of w
    obtain ⟨ws, rfl, h1, l⟩ := lst_of rh r1 e
    exact mt_append pins s σ H _ _ v us Q I rx rxs ⟨a, ws, y, rfl, rfl, h1, by rw [← l.length]; exact w1, k _ _ _ _ (.lst h1) (rh.setL h1 (l.append (.cons ry .nil))) .non w2⟩
  · exact w.elim
def mExtend : WM := fun v vs h Q => match vs with
  | [.tup ys] => onLst h v fun a xs => xs.length + ys.length ≤ sizeLine ∧ Q .non (put h a (.lst (xs ++ ys)))
  | [y] => onLst h v fun a xs => onLst h y fun _ ys => xs.length + ys.length ≤ sizeLine ∧ Q .non (put h a (.lst (xs ++ ys)))
  | _ => False
theorem sExtend : MtR X "list.extend" (rMG X.K mExtend) := by
  rintro pins s σ H x xs v us Q I rx rxs ⟨vx, vs, h, q, r1, r2, rh, w, k⟩
  unfold mExtend at w
  split at w
  · rename_i ys
    obtain ⟨y, rfl, ry⟩ := r2.one
    obtain ⟨a, zs, rfl, e, w1, w2⟩ := onLst_of w
    obtain ⟨ws, rfl, h1, l⟩ := lst_of rh r1 e
    cases ry with
    | tup g1 _ g2 =>
      exact mt_extendT pins s σ H _ _ v us Q I rx rxs ⟨a, _, _, ws, _, rfl, rfl, h1, g1, by rw [← l.length, ← g2.length]; exact w1, k _ _ _ _ (.lst h1) (rh.setL h1 (l.append g2)) .non w2⟩
  · obtain ⟨y, rfl, ry⟩ := r2.one
    obtain ⟨a, ys, rfl, e, w1⟩ := onLst_of w
    obtain ⟨b, zs, rfl, e2, w1, w2⟩ := onLst_of w1
    obtain ⟨ws, rfl, h1, l⟩ := lst_of rh r1 e
    obtain ⟨us2, rfl, h2, l2⟩ := lst_of rh ry e2
    exact mt_extend pins s σ H _ _ v us Q I rx rxs ⟨a, b, ws, us2, rfl, rfl, h1, h2, by rw [← l.length, ← l2.length]; exact w1, k _ _ _ _ (.lst h1) (rh.setL h1 (l.append l2)) .non w2⟩
  · exact w.elim
def mPop : WM := fun v vs h Q => match vs with
  | [] => onLst h v fun a xs => onSome (xs[xs.length - 1]?) fun y => Q y (put h a (.lst xs.dropLast))
  | [.int i] => onLst h v fun a xs => (-(2 ^ 63) ≤ i ∧ i < 2 ^ 63) ∧ onSome (ixN xs.length i) fun j => onSome (xs[j]?) fun y => Q y (put h a (.lst (xs.eraseIdx j)))
  | _ => False
theorem RepL.dropLast {K : PySem.W.Frag} {H : L2.Hp} {xs : List Val} {ws : List V} (l : RepL K H xs ws) : RepL K H xs.dropLast ws.dropLast := by
  rw [List.dropLast_eq_take, List.dropLast_eq_take, l.length]
  exact l.take _
theorem RepL.erase {K : PySem.W.Frag} {H : L2.Hp} {xs : List Val} {ws : List V} (l : RepL K H xs ws) (i : Nat) : RepL K H (xs.eraseIdx i) (ws.eraseIdx i) := by
  rw [List.eraseIdx_eq_take_drop_succ, List.eraseIdx_eq_take_drop_succ]
  exact (l.take _).append (l.drop _)
theorem sPop : MtR X "list.pop" (rMG X.K mPop) := by
  rintro pins s σ H x xs v us Q I rx rxs ⟨vx, vs, h, q, r1, r2, rh, w, k⟩
  unfold mPop at w
  split at w
  · cases r2
    obtain ⟨a, ys, rfl, e, w⟩ := onLst_of w
    obtain ⟨y, e2, w⟩ := onSome_of w
    obtain ⟨ws, rfl, h1, l⟩ := lst_of rh r1 e
    obtain ⟨yw, e3, ry⟩ := l.get e2
    rw [l.length] at e3
    exact mt_pop pins s σ H _ _ v us Q I rx rxs ⟨a, ws, yw, rfl, rfl, h1, e3, k _ _ _ _ (.lst h1) (rh.setL h1 l.dropLast) (ry.up (.lst h1)) w⟩
  · obtain ⟨y, rfl, ry⟩ := r2.one
    cases ry
    obtain ⟨a, ys, rfl, e, ⟨b1, b2⟩, w⟩ := onLst_of w
    obtain ⟨j, ej, w⟩ := onSome_of w
    obtain ⟨y, e2, w⟩ := onSome_of w
    obtain ⟨ws, rfl, h1, l⟩ := lst_of rh r1 e
    obtain ⟨yw, e3, ry⟩ := l.get e2
    rw [l.length] at ej
    exact mt_popAt pins s σ H _ _ v us Q I rx rxs ⟨a, ws, _, j, yw, rfl, rfl, h1, b1, b2, (ixN_seq ej).1, e3, k _ _ _ _ (.lst h1) (rh.setL h1 (l.erase j)) (ry.up (.lst h1)) w⟩
  · exact w.elim
def mInsert : WM := fun v vs h Q => match vs with
  | [.int i, y] => onLst h v fun a xs => (xs.length < sizeLine ∧ 0 ≤ i ∧ i < 2 ^ 63) ∧ Q .non (put h a (.lst (xs.take i.toNat ++ [y] ++ xs.drop i.toNat)))
  | _ => False
theorem sInsert : MtR X "list.insert" (rMG X.K mInsert) := by
  rintro pins s σ H x xs v us Q I rx rxs ⟨vx, vs, h, q, r1, r2, rh, w, k⟩
  unfold mInsert at w
  split at w
  · obtain ⟨i, y, rfl, ri, ry⟩ := r2.two
    cases ri
    obtain ⟨a, ys, rfl, e, ⟨b0, b1, b2⟩, w⟩ := onLst_of w
    obtain ⟨ws, rfl, h1, l⟩ := lst_of rh r1 e
    exact mt_insert pins s σ H _ _ v us Q I rx rxs ⟨a, ws, _, y, rfl, rfl, h1, by rw [← l.length]; exact b0, b1, b2, k _ _ _ _ (.lst h1) (rh.setL h1 (((l.take _).append (.cons ry .nil)).append (l.drop _))) .non w⟩
  · exact w.elim
def mReverse : WM := fun v vs h Q => match vs with
  | [] => onLst h v fun a xs => Q .non (put h a (.lst xs.reverse))
  | _ => False
theorem sReverse : MtR X "list.reverse" (rMG X.K mReverse) := by
  rintro pins s σ H x xs v us Q I rx rxs ⟨vx, vs, h, q, r1, r2, rh, w, k⟩
  unfold mReverse at w
  split at w
  · cases r2
    obtain ⟨a, ys, rfl, e, w⟩ := onLst_of w
    obtain ⟨ws, rfl, h1, l⟩ := lst_of rh r1 e
    exact mt_reverse pins s σ H _ _ v us Q I rx rxs ⟨a, ws, rfl, rfl, h1, k _ _ _ _ (.lst h1) (rh.setL h1 l.rev) .non w⟩
  · exact w.elim
end

/-! ### defs -/
abbrev Spec := List Val → Hg → KV → KX → Prop
def ContX (K : PySem.W.Frag) (H : L2.Hp) (e : KX) (E : XK) : Prop := ∀ x h' H' cls d, TExt H H' → RepH K H' h' → RepX K H' x cls d → e x h' → E cls d H'
def spOf (K : PySem.W.Frag) (sp : Spec) : Sp := fun vs H Q E => ∃ args h q e, RepL K H args vs ∧ RepH K H h ∧ sp args h q e ∧ ContE K H q Q ∧ ContX K H e E
structure GFn (P : Program) (w : World) (K : PySem.W.Frag) (mg : Str → Option Value) (base : Heap) (k : Nat) (f : Addr) (fd : FuncData) (ps : List Str) (sp : Spec) : Prop where
  len : ∀ args h Q E, sp args h Q E → args.length = ps.length
  run : ∀ (A : Around) (outer : List Env) (s : Shared) (H : L2.Hp) (args : Args) (us : List Value) (vs : List V) (Q : VK) (E : XK), A.guards = some [] → Room k A → Env0 P w K mg base A outer s H → BindsTo s fd args (ps.zip us) → Vals vs us → spOf K sp vs H Q E →
    codeAny (model P w) A (.call (.ref f) args) (CR (L2.CX P w) outer P w H s Q E) s
theorem GFn.mono {P : Program} {w : World} {K : PySem.W.Frag} {mg : Str → Option Value} {base : Heap} {j k : Nat} {f : Addr} {fd : FuncData} {ps : List Str} {sp : Spec} (F : GFn P w K mg base j f fd ps sp) (h : j ≤ k) :
    GFn P w K mg base k f fd ps sp := ⟨F.len, fun A outer s H args us vs Q E hg hr => F.run A outer s H args us vs Q E hg (hr.mono h)⟩
def perm {α : Type} (gi : List Nat) (l : List α) : List α := gi.filterMap fun i => l[i]?
/-- how a def stands for its callers: n positional arguments, keywords ks; gi puts them into the parameters' order -/
structure Cal (P : Program) (w : World) (K : PySem.W.Frag) (mg : Str → Option Value) (base : Heap) (k : Nat) (x : Str) (n : Nat) (ks : List Str) (gi : List Nat) (sp : Spec) : Prop where
  ex : ∃ f fd ps, mg x = some (.ref f) ∧ PySem.W.keepIn K (.ref f) = true ∧ GFn P w K mg base k f fd ps sp ∧
    ∀ (s : Shared) (us ws : List Value), K.In s.heap → us.length = n → ws.length = ks.length → BindsTo s fd ⟨us, ks.zip ws⟩ (ps.zip (perm gi (us ++ ws)))
theorem Cal.mono {P : Program} {w : World} {K : PySem.W.Frag} {mg : Str → Option Value} {base : Heap} {j k : Nat} {x : Str} {n : Nat} {ks : List Str} {gi : List Nat} {sp : Spec} (c : Cal P w K mg base j x n ks gi sp) (h : j ≤ k) : Cal P w K mg base k x n ks gi sp :=
  let ⟨f, fd, ps, a, b, c, d⟩ := c.ex
  ⟨f, fd, ps, a, b, c.mono h, d⟩
theorem perm_vals {vs : List V} {us : List Value} (r : Vals vs us) : ∀ gi : List Nat, Vals (perm gi vs) (perm gi us)
  | [] => .nil
  | i :: gi => by
    have ih := perm_vals r gi
    cases e : vs[i]? with
    | none =>
      have e2 := r.none_of e
      have h1 : perm (i :: gi) vs = perm gi vs := by unfold perm; rw [List.filterMap_cons, e]
      have h2 : perm (i :: gi) us = perm gi us := by unfold perm; rw [List.filterMap_cons, e2]
      rw [h1, h2]; exact ih
    | some v =>
      obtain ⟨u, e2, ru⟩ := r.get e
      have h1 : perm (i :: gi) vs = v :: perm gi vs := by unfold perm; rw [List.filterMap_cons, e]
      have h2 : perm (i :: gi) us = u :: perm gi us := by unfold perm; rw [List.filterMap_cons, e2]
      rw [h1, h2]; exact .cons ru ih
theorem perm_rep {K : PySem.W.Frag} {H : L2.Hp} {vs : List Val} {us : List V} (r : RepL K H vs us) : ∀ gi : List Nat, RepL K H (perm gi vs) (perm gi us)
  | [] => .nil
  | i :: gi => by
    have ih := perm_rep r gi
    cases e : vs[i]? with
    | none =>
      have e2 : us[i]? = none := by
        have h1 := List.getElem?_eq_none_iff.mp e
        rw [r.length] at h1
        exact List.getElem?_eq_none_iff.mpr h1
      have h1 : perm (i :: gi) vs = perm gi vs := by unfold perm; rw [List.filterMap_cons, e]
      have h2 : perm (i :: gi) us = perm gi us := by unfold perm; rw [List.filterMap_cons, e2]
      rw [h1, h2]; exact ih
    | some v =>
      obtain ⟨u, e2, ru⟩ := r.get e
      have h1 : perm (i :: gi) vs = v :: perm gi vs := by unfold perm; rw [List.filterMap_cons, e]
      have h2 : perm (i :: gi) us = u :: perm gi us := by unfold perm; rw [List.filterMap_cons, e2]
      rw [h1, h2]; exact .cons ru ih
section
variable {X : Cx} {N : List Str} {sc ow : Scope} {k n : Nat} {x : Str} {p pos kpos : Pos} {ks : List Str} {gi : List Nat} {sp : Spec} {e : Expr} {es : List Expr} {kws : List Keyword} {Wr Wk : WA} {We : WE} {nm : Option Str}
theorem run_g {pins : List (Addr × Obj)} {σ : L2.St} {H : L2.Hp} {s : Shared} {Q : VK} {us ws : List Value} {vs zs : List V} {as bs : List Val} {h : Hg} {q : KV} {E : KX}
    (c : Cal X.prog X.w X.K X.mg X.base k x n ks gi sp) (hr : Room k X.A) (hg : X.A.guards = some []) (I : Inv X pins σ H s) (r : Vals vs us) (rz : Vals zs ws) (l1 : vs.length = n) (l2 : zs.length = ks.length) (ra : RepL X.K H as vs) (rb : RepL X.K H bs zs) (rh : RepH X.K H h)
    (tk : Takes X (XW X.K H σ E)) (w : sp (perm gi (as ++ bs)) h q E) (cont : ContE X.K H q Q) : ∃ f, X.mg x = some (.ref f) ∧ PySem.W.keepIn X.K (.ref f) = true ∧ wpAny (model X.prog X.w) X.A (call (.ref f) us (ks.zip ws)) (EP X pins σ Q) X.xe s := by
  obtain ⟨f, fd, ps, hm, hk, F, hb⟩ := c.ex
  refine ⟨f, hm, hk, ?_⟩
  have r2 := perm_vals (r.append rz) gi
  refine wpAny_call (codeAny_mono (F.run X.A X.stack s H ⟨us, ks.zip ws⟩ (perm gi (us ++ ws)) (perm gi (vs ++ zs)) Q (fun cls d H' => XW X.K H σ E cls d σ H') hg hr I.env0 (hb s us ws I.kIn (r.length.symm.trans l1) (rz.length.symm.trans l2)) r2
    ⟨perm gi (as ++ bs), h, q, E, perm_rep (ra.append rb) gi, rh, w, cont, fun x h' H' cls d t rh' rx z => ⟨rfl, x, h', t, rh', rx, z⟩⟩) fun r s' hq => ?_)
  cases r with
  | error e =>
    exact tk _ _ (XE.of_call (E := fun cls d H' => XW X.K H σ E cls d σ H') (W := XW X.K H σ E) I (fun cls d H' z => z) hq)
  | ok fl =>
    cases fl with
    | ret u => exact I.after hq
    | next => exact False.elim hq
    | brk => exact False.elim hq
    | cont => exact False.elim hq
structure GK (X : Cx) (kws : List Keyword) (W : WA) : Prop where
  pk : PK X kws (tGA X W)
theorem gk_nil : GK X [] wNil := ⟨⟨fun pos pins s σ H Q I hq => pk_nil.run pos pins s σ H Q I (by
  obtain ⟨env, h, q, E, re, rh, tk, w, k⟩ := hq
  exact k _ _ h H (.refl H) rh .nil w)⟩⟩
theorem gk_cons (ha : GE X e We) (hr : GK X kws Wr) : GK X (⟨nm, e, kpos⟩ :: kws) (wCons We Wr) := ⟨⟨fun pos pins s σ H Q I hq => (pk_cons (nm := nm) (kpos := kpos) ha.pe hr.pk).run pos pins s σ H Q I (by
  obtain ⟨env, h, q, E, re, rh, tk, w, k⟩ := hq
  refine ⟨env, h, _, E, re, rh, tk, w, fun v u h1 H1 t1 rh1 r1 w1 => ?_⟩
  exact ⟨env, h1, _, E, re.up t1, rh1, takesUp t1 tk, w1, fun vs us h2 H2 t2 rh2 r2 w2 => k _ _ h2 H2 (t1.trans t2) rh2 (.cons (r1.up t2) r2) w2⟩)⟩⟩
/-- f(e, ..): all positional -/
def wCall (sp : Spec) (n : Nat) (gi : List Nat) (Wr : WA) : WE := fun env h Q E => Wr env h (fun vs h1 => vs.length = n ∧ sp (perm gi vs) h1 Q E) E
theorem ge_call (C : Cn X N sc ow) (hr : Room k X.A) (c : Cal X.prog X.w X.K X.mg X.base k x n [] gi sp) (ha : GA X (e :: es) Wr) (hg : glbB sc x = true := by decide +kernel)
    (hdb : (x == ("__debug__" : Str)) = false := by decide +kernel) (he : starEach (e :: es) X.env = (false, eval e X.env) :: starEach es X.env := by rfl) (hpl : (backTo pos (starEach es X.env)).any (·.1) = false := by rfl) :
    GE X (.Call (.Name x p) (e :: es) [] pos) (wCall sp n gi Wr) := by
  refine ⟨⟨fun pins s σ H Q I hq => ?_⟩⟩
  obtain ⟨env, h, q, E, re, rh, tk, w, kk⟩ := hq
  obtain ⟨f, fd, ps, hm, hk, _⟩ := id c.ex
  refine wpAny_Call_Name_kw (ld_glob I (C.gl hg) hm ?_ hdb)
  refine PySem.W.callWith_K (h₀ := X.base) I.ok.mod.kin hk (thn (ha.pa.run pos pins s σ H (fun us H1 => ∃ vs h1, TExt H H1 ∧ RepH X.K H1 h1 ∧ RepL X.K H1 vs us ∧ vs.length = n ∧ sp (perm gi vs) h1 q E) I ⟨env, h, _, E, re, rh, tk, w, fun vs us h1 H1 t1 rh1 r1 w1 => ⟨vs, h1, t1, rh1, r1, w1.1, w1.2⟩⟩) ?_) he hpl
  rintro us s1 ⟨ws, H1, I1, r, vs, h1, t1, rh1, r1, hl, w1⟩
  refine ⟨I1.kIn, ?_⟩
  obtain ⟨f', hm', _, z⟩ := run_g (ws := []) (zs := []) (bs := []) c hr C.guards I1 r .nil (r1.length.symm.trans hl) rfl r1 .nil rh1 (takesUp t1 tk) (by rw [List.append_nil]; exact w1) (kk.up t1)
  rw [hm] at hm'
  cases hm'
  exact z
theorem ge_call0 (C : Cn X N sc ow) (hr : Room k X.A) (c : Cal X.prog X.w X.K X.mg X.base k x 0 [] gi sp) (hg : glbB sc x = true := by decide +kernel) (hdb : (x == ("__debug__" : Str)) = false := by decide +kernel) :
    GE X (.Call (.Name x p) [] [] pos) (wCall sp 0 gi wNil) := by
  refine ⟨⟨fun pins s σ H Q I hq => ?_⟩⟩
  obtain ⟨env, h, q, E, re, rh, tk, w, kk⟩ := hq
  obtain ⟨f, fd, ps, hm, hk, _⟩ := id c.ex
  refine wpAny_Call_Name_kw (ld_glob I (C.gl hg) hm ?_ hdb)
  obtain ⟨f', hm', _, z⟩ := run_g (us := []) (vs := []) (as := []) (ws := []) (zs := []) (bs := []) c hr C.guards I .nil .nil rfl rfl .nil .nil rh tk w.2 kk
  rw [hm] at hm'
  cases hm'
  exact PySem.W.callWith_K0 I.kIn hk z
/-- with keywords -/
def wCallK (sp : Spec) (n m : Nat) (gi : List Nat) (Wr Wk : WA) : WE := fun env h Q E => Wr env h (fun vs h1 => Wk env h1 (fun zs h2 => vs.length = n ∧ zs.length = m ∧ sp (perm gi (vs ++ zs)) h2 Q E) E) E
theorem ge_callK (C : Cn X N sc ow) (hr : Room k X.A) (c : Cal X.prog X.w X.K X.mg X.base k x n ks gi sp) (ha : GA X (e :: es) Wr) (hkw : GK X kws Wk) (hg : glbB sc x = true := by decide +kernel)
    (hall : (backToKw pos (keywordEach kws X.env)).all (·.1.isSome) = true := by rfl) (hks : (backToKw pos (keywordEach kws X.env)).filterMap (·.1) = ks := by rfl)
    (hdb : (x == ("__debug__" : Str)) = false := by decide +kernel) (he : starEach (e :: es) X.env = (false, eval e X.env) :: starEach es X.env := by rfl)
    (hpl : ((backTo pos (starEach (e :: es) X.env)).any (·.1) || (backToKw pos (keywordEach kws X.env)).any (·.1.isNone)) = false := by rfl) :
    GE X (.Call (.Name x p) (e :: es) kws pos) (wCallK sp n ks.length gi Wr Wk) := by
  refine ⟨⟨fun pins s σ H Q I hq => ?_⟩⟩
  obtain ⟨env, h, q, E, re, rh, tk, w, kk⟩ := hq
  obtain ⟨f, fd, ps, hm, hk, _⟩ := id c.ex
  refine wpAny_Call_Name_kw (ld_glob I (C.gl hg) hm ?_ hdb)
  refine PySem.W.callWith_KW (h₀ := X.base) I.ok.mod.kin hk hall (thn (ha.pa.run pos pins s σ H (fun us H1 => ∃ vs h1, TExt H H1 ∧ RepH X.K H1 h1 ∧ RepL X.K H1 vs us ∧ Wk env h1 (fun zs h2 => vs.length = n ∧ zs.length = ks.length ∧ sp (perm gi (vs ++ zs)) h2 q E) E) I ⟨env, h, _, E, re, rh, tk, w, fun vs us h1 H1 t1 rh1 r1 w1 => ⟨vs, h1, t1, rh1, r1, w1⟩⟩) ?_) hpl he
  rintro us s1 ⟨ws, H1, I1, r, vs, h1, t1, rh1, r1, w1⟩
  refine thn (hkw.pk.run pos pins s1 σ H1 (fun us2 H2 => ∃ zs h2, TExt H H2 ∧ RepH X.K H2 h2 ∧ RepL X.K H2 vs ws ∧ RepL X.K H2 zs us2 ∧ vs.length = n ∧ zs.length = ks.length ∧ sp (perm gi (vs ++ zs)) h2 q E) I1 ⟨env, h1, _, E, re.up t1, rh1, takesUp t1 tk, w1, fun zs us2 h2 H2 t2 rh2 r2 w2 => ⟨zs, h2, t1.trans t2, rh2, r1.up t2, r2, w2⟩⟩) ?_
  rintro us2 s2 ⟨ws2, H2, I2, rz, zs, h2, t2, rh2, r1', r2, l1, l2, w2⟩
  refine ⟨I2.kIn, ?_⟩
  rw [hks]
  obtain ⟨f', hm', _, z⟩ := run_g c hr C.guards I2 r rz (r1'.length.symm.trans l1) (r2.length.symm.trans l2) r1' r2 rh2 (takesUp t2 tk) w2 (kk.up t2)
  rw [hm] at hm'
  cases hm'
  exact z
theorem ge_callK0 (C : Cn X N sc ow) (hr : Room k X.A) (c : Cal X.prog X.w X.K X.mg X.base k x 0 ks gi sp) (hkw : GK X kws Wk) (hg : glbB sc x = true := by decide +kernel)
    (hall : (backToKw pos (keywordEach kws X.env)).all (·.1.isSome) = true := by rfl) (hks : (backToKw pos (keywordEach kws X.env)).filterMap (·.1) = ks := by rfl)
    (hdb : (x == ("__debug__" : Str)) = false := by decide +kernel)
    (hpl : ((backTo pos (starEach [] X.env)).any (·.1) || (backToKw pos (keywordEach kws X.env)).any (·.1.isNone)) = false := by rfl) :
    GE X (.Call (.Name x p) [] kws pos) (wCallK sp 0 ks.length gi wNil Wk) := by
  refine ⟨⟨fun pins s σ H Q I hq => ?_⟩⟩
  obtain ⟨env, h, q, E, re, rh, tk, w, kk⟩ := hq
  obtain ⟨f, fd, ps, hm, hk, _⟩ := id c.ex
  refine wpAny_Call_Name_kw (ld_glob I (C.gl hg) hm ?_ hdb)
  refine PySem.W.callWith_KW0 (h₀ := X.base) I.ok.mod.kin hk hall ?_ hpl
  refine thn (hkw.pk.run pos pins s σ H (fun us2 H2 => ∃ zs h2, TExt H H2 ∧ RepH X.K H2 h2 ∧ RepL X.K H2 zs us2 ∧ zs.length = ks.length ∧ sp (perm gi zs) h2 q E) I ⟨env, h, _, E, re, rh, tk, w, fun zs us2 h2 H2 t2 rh2 r2 w2 => ⟨zs, h2, t2, rh2, r2, w2.2⟩⟩) ?_
  rintro us2 s2 ⟨ws2, H2, I2, rz, zs, h2, t2, rh2, r2, l2, w2⟩
  refine ⟨I2.kIn, ?_⟩
  rw [hks]
  obtain ⟨f', hm', _, z⟩ := run_g (us := []) (vs := []) (as := []) c hr C.guards I2 .nil rz rfl (r2.length.symm.trans l2) .nil r2 rh2 (takesUp t2 tk) w2 (kk.up t2)
  rw [hm] at hm'
  cases hm'
  exact z
end
end G

set_option Elab.async false
set_option linter.all false
set_option maxRecDepth 100000
set_option maxHeartbeats 4000000
namespace G
open PySem PySem.Spec L2
open PyProof.Rows hiding St

/-! ### targets -/
abbrev XS := Exn → Env' → Hg → Prop
abbrev WG (α : Type) := α → Env' → Hg → (Env' → Hg → Prop) → XS → Prop
def tGG (X : Cx) (W : WG Val) : TG := fun v σ H Q => ∃ vv env h q ex, Rep X.K H vv v ∧ RelE X.K H env σ ∧ RepH X.K H h ∧ Takes X (XWs X.K H ex) ∧ W vv env h q ex ∧ ContN X.K H q Q
def tGGs (X : Cx) (W : WG (List Val)) : TGs := fun v σ H Q => ∃ vv env h q ex, RepL X.K H vv v ∧ RelE X.K H env σ ∧ RepH X.K H h ∧ Takes X (XWs X.K H ex) ∧ W vv env h q ex ∧ ContN X.K H q Q
structure GG (X : Cx) (e : Expr) (W : WG Val) : Prop where
  pg : PG X e (tGG X W)
structure GGs (X : Cx) (es : List Expr) (W : WG (List Val)) : Prop where
  pg : PGs X es (tGGs X W)
theorem PGimp {X : Cx} {e : Expr} {t t' : TG} (h : PG X e t) (i : ∀ v σ H Q, t' v σ H Q → t v σ H Q) : PG X e t' := ⟨fun pins s σ H v u Q I r q => h.run pins s σ H v u Q I r (i v σ H Q q)⟩
theorem PGsimp {X : Cx} {e : List Expr} {t t' : TGs} (h : PGs X e t) (i : ∀ v σ H Q, t' v σ H Q → t v σ H Q) : PGs X e t' := ⟨fun pins s σ H v u Q I r q => h.run pins s σ H v u Q I r (i v σ H Q q)⟩
section
variable {X : Cx} {N : List Str} {sc ow : Scope} {e o i : Expr} {es : List Expr} {pos p2 : Pos} {We Wo Wi : WE} {Wg : WG Val} {Ws : WG (List Val)} {x : Str}
def wgName (i : Nat) : WG Val := fun v env h Q _ => Q (env.set i (some v)) h
theorem gg_name (C : Cn X N sc ow) (i : Nat) (hN : N[i]? = some x := by decide +kernel) (ho : ownB ow x = true := by decide +kernel) : GG X (.Name x pos) (wgName i) := by
  obtain ⟨l, f⟩ := C.st x ho
  refine ⟨PGimp (pg_name (by rw [C.hN]; exact C.nd) (by rw [C.hN]; exact hN) l f) ?_⟩
  rintro v σ H Q ⟨vv, env, h, q, ex, r, re, rh, tk, w, k⟩
  exact k _ h _ H (.refl H) (re.set i r) rh w
def wgNil : WG (List Val) := fun vs env h Q _ => vs = [] ∧ Q env h
def wgCons (Wg : WG Val) (Ws : WG (List Val)) : WG (List Val) := fun vs env h Q ex => match vs with
  | v :: r => Wg v env h (fun env1 h1 => Ws r env1 h1 Q ex) ex
  | [] => False
theorem ggs_nil : GGs X [] wgNil := by
  refine ⟨PGsimp pgs_nil ?_⟩
  rintro v σ H Q ⟨vv, env, h, q, ex, r, re, rh, tk, w, k⟩
  obtain ⟨rfl, w⟩ := w
  cases r
  exact ⟨rfl, k _ _ _ _ (.refl H) re rh w⟩
theorem ggs_cons (h1 : GG X e Wg) (h2 : GGs X es Ws) (hs : (assignEach (e :: es) X.env).map (·.2) = assign e X.env :: (assignEach es X.env).map (·.2) := by rfl) : GGs X (e :: es) (wgCons Wg Ws) := by
  refine ⟨PGsimp (pgs_cons h1.pg h2.pg hs) ?_⟩
  rintro v σ H Q ⟨vv, env, h, q, ex, r, re, rh, tk, w, k⟩
  cases r with
  | nil => exact (show False from w).elim
  | @cons v0 w0 vs ws r0 rr =>
    refine ⟨w0, ws, rfl, v0, env, h, _, ex, r0, re, rh, tk, w, fun env1 h1 σ1 H1 t1 re1 rh1 w1 => ?_⟩
    exact ⟨vs, env1, h1, q, ex, rr.up t1, re1, rh1, takesUpS t1 tk, w1, k.up t1⟩
/-- (a, b, ..) = a list or a tuple of that length -/
def wgTup (n : Nat) (Ws : WG (List Val)) : WG Val := fun v env h Q ex => onSeq h v fun xs => xs.length = n ∧ Ws xs env h Q ex
theorem gg_tup {k : Nat} (n : Nat) (C : Cn X N sc ow) (hg : GGs X es Ws) (hn : (assignEach es X.env).length = n := by rfl) (hst : (assignEach es X.env).findIdx? (·.1) = none := by rfl) : GG X (.Tuple es k pos) (wgTup n Ws) := by
  refine ⟨⟨fun pins s σ H v u Q I r hw => ?_⟩⟩
  obtain ⟨vv, env, h, q, ex, rv, re, rh, tk, w, kk⟩ := hw
  obtain ⟨xs, e, hl, w⟩ := onSeq_of w
  obtain ⟨a, ws, rfl, l, c⟩ := seq_of rh rv e
  have hl2 : ws.length = n := by rw [← l.length]; exact hl
  have w2 : tGGs X Ws ws σ H Q := ⟨xs, env, h, q, ex, l, re, rh, tk, w, kk⟩
  rcases c with c | c
  · exact (pg_lst C.calm hg.pg hn hst).run pins s σ H _ u Q I r ⟨a, ws, rfl, c.1, hl2, w2⟩
  · exact (pg_tup C.calm hg.pg hn hst).run pins s σ H _ u Q I r ⟨a, ws, rfl, c.1, hl2, w2⟩
/-- o[i] = v -/
def oSet (o i v : Val) (h : Hg) (Q : Hg → Prop) : Prop := match i with
  | .int k => onLst h o fun p xs => onSome (ixN xs.length k) fun j => Q (put h p (.lst (xs.set j v)))
  | _ => False
theorem oSet_of {K : PySem.W.Frag} {H : L2.Hp} {h : Hg} {o i v : Val} {wo wi wv : V} {q : Hg → Prop} (rh : RepH K H h) (ro : Rep K H o wo) (ri : Rep K H i wi) (rv : Rep K H v wv) (w : oSet o i v h q) :
    rSetL wo wi wv H fun H' => ∃ h', TExt H H' ∧ RepH K H' h' ∧ q h' := by
  unfold oSet at w
  split at w
  · cases ri
    obtain ⟨p, xs, rfl, e, w⟩ := onLst_of w
    obtain ⟨j, ej, w⟩ := onSome_of w
    obtain ⟨ws, rfl, h1, l⟩ := lst_of rh ro e
    rw [l.length] at ej
    exact ⟨p, ws, _, j, rfl, rfl, h1, ej, _, .lst h1, rh.setL h1 (l.set j rv), w⟩
  · exact w.elim
def wgSub (Wo Wi : WE) : WG Val := fun v env h Q ex => Wo env h (fun o h1 => Wi env h1 (fun i h2 => oSet o i v h2 (fun h3 => Q env h3)) (fun x h' => ex x env h')) (fun x h' => ex x env h')
theorem gg_sub (ho : GE X o Wo) (hi : GE X i Wi)
    (ha : ∀ v, assign (.Subscript o i pos) X.env v = (do
      let ov ← holding [v] (eval o X.env)
      let iv ← holding [v, ov] (eval i X.env)
      standAt pos
      holding [v, ov, iv] (setItem ov iv v)
      release [v, ov, iv] []) := by intro _; rfl) : GG X (.Subscript o i pos) (wgSub Wo Wi) := by
  refine ⟨PGimp (pg_sub ho.pe hi.pe set_list ha) ?_⟩
  rintro v σ H Q ⟨vv, env, h, q, ex, r, re, rh, tk, w, k⟩
  have tkE := takesE re tk
  refine ⟨env, h, _, _, re, rh, tkE, w, fun vo wo h1 H1 t1 rh1 r1 w1 => ?_⟩
  refine ⟨env, h1, _, _, re.up t1, rh1, takesUp t1 tkE, w1, fun vi wi h2 H2 t2 rh2 r2 w2 => ?_⟩
  obtain ⟨p, xs, kk, j, e1, e2, e3, e4, h3, t3, rh3, w3⟩ := oSet_of rh2 (r1.up t2) r2 (r.up (t1.trans t2)) w2
  exact ⟨p, xs, kk, j, e1, e2, e3, e4, k env h3 σ _ ((t1.trans t2).trans t3) (re.up ((t1.trans t2).trans t3)) rh3 w3⟩
end

/-! ### statements -/
section
variable {X : Cx} {N : List Str} {sc ow : Scope} {e o i a b c : Expr} {es : List Expr} {st : Stmt} {sts p q : List Stmt} {pos p2 : Pos} {We Wo Wi Wa Wb : WE} {Wc : WT} {Wr : WA} {Wg : WG Val} {S T U : WS} {x y z : Str}
def wNx : WS := fun D env h => D.nx env h
def wSq (S T : WS) : WS := fun D env h => S { D with nx := fun env' h' => T D env' h' } env h
theorem gss_nil : GSs X [] wNx := by
  refine ⟨PSsimp pss_nil ?_⟩
  rintro D σ H ⟨env, h, d, re, rh, tk, w, kn, kr, kb, kc⟩
  exact kn env h σ H (.refl H) re rh w
theorem gss_cons (h1 : GS X st S) (h2 : GSs X sts T) : GSs X (st :: sts) (wSq S T) := by
  refine ⟨PSsimp (pss_cons h1.ps h2.ps) ?_⟩
  rintro D σ H ⟨env, h, d, re, rh, tk, w, kn, kr, kb, kc⟩
  exact ⟨env, h, { d with nx := fun env' h' => T d env' h' }, re, rh, tk, w, fun env' h' σ' H' t re' rh' w' => ⟨env', h', d, re', rh', takesUpS t tk, w', kn.up t, kr.up t, kb.up t, kc.up t⟩, kr, kb, kc⟩
theorem gss_one (h1 : GS X st S) : GSs X [st] S := ⟨pss_one h1.ps⟩
theorem gs_pass : GS X (.Pass pos) wNx := by
  refine ⟨PSimp ps_pass ?_⟩
  rintro D σ H ⟨env, h, d, re, rh, tk, w, kn, kr, kb, kc⟩
  exact kn env h σ H (.refl H) re rh w
theorem gs_doc {x j pos pos'} : GS X (.Expr (.Constant (.str x) j pos) pos') wNx := by
  refine ⟨PSimp ps_doc ?_⟩
  rintro D σ H ⟨env, h, d, re, rh, tk, w, kn, kr, kb, kc⟩
  exact kn env h σ H (.refl H) re rh w
def wBk : WS := fun D env h => D.bk env h
def wCt : WS := fun D env h => D.ct env h
theorem gs_break : GS X (.Break pos) wBk := by
  refine ⟨PSimp ps_break ?_⟩
  rintro D σ H ⟨env, h, d, re, rh, tk, w, kn, kr, kb, kc⟩
  exact kb env h σ H (.refl H) re rh w
theorem gs_cont : GS X (.Continue pos) wCt := by
  refine ⟨PSimp ps_continue ?_⟩
  rintro D σ H ⟨env, h, d, re, rh, tk, w, kn, kr, kb, kc⟩
  exact kc env h σ H (.refl H) re rh w
def wNever : WS := fun _ _ _ => False
theorem gs_never : GS X st wNever := by
  refine ⟨PSimp ps_never ?_⟩
  rintro D σ H ⟨env, h, d, re, rh, tk, w, kn, kr, kb, kc⟩
  exact w
theorem gss_never : GSs X sts wNever := by
  refine ⟨PSsimp pss_never ?_⟩
  rintro D σ H ⟨env, h, d, re, rh, tk, w, kn, kr, kb, kc⟩
  exact w
def wDrop (We : WE) : WS := fun D env h => We env h (fun _ h1 => D.nx env h1) (fun x h' => D.ex x env h')
theorem gs_expr (he : GE X e We) (hs : swapsWith e none pos.line X.env = pure false := by rfl) : GS X (.Expr e pos) (wDrop We) := by
  refine ⟨PSimp (ps_expr he.pe hs) ?_⟩
  rintro D σ H ⟨env, h, d, re, rh, tk, w, kn, kr, kb, kc⟩
  exact ⟨env, h, _, _, re, rh, takesE re tk, w, fun v u h1 H1 t1 rh1 r1 w1 => kn env h1 σ H1 t1 (re.up t1) rh1 w1⟩
def wRet (We : WE) : WS := fun D env h => We env h (fun v h1 => D.rt v h1) (fun x h' => D.ex x env h')
theorem gs_ret (he : GE X e We) : GS X (.Return (some e) pos) (wRet We) := by
  refine ⟨PSimp (ps_ret he.pe) ?_⟩
  rintro D σ H ⟨env, h, d, re, rh, tk, w, kn, kr, kb, kc⟩
  exact ⟨env, h, _, _, re, rh, takesE re tk, w, kr⟩
def wRetN : WS := fun D _ h => D.rt .non h
theorem gs_retN : GS X (.Return none pos) wRetN := by
  refine ⟨PSimp ps_retN ?_⟩
  rintro D σ H ⟨env, h, d, re, rh, tk, w, kn, kr, kb, kc⟩
  exact kr _ _ h H (.refl H) rh .non w
def wIf (Wc : WT) (S T : WS) : WS := fun D env h => Wc env h (fun b h1 => if b = true then S D env h1 else T D env h1) (fun x h' => D.ex x env h')
theorem gs_if (hc : GT X c Wc) (ha : GSs X p S) (hb : GSs X q T) : GS X (.If c p q pos) (wIf Wc S T) := by
  refine ⟨PSimp (ps_if hc.pt ha.ps hb.ps) ?_⟩
  rintro D σ H ⟨env, h, d, re, rh, tk, w, kn, kr, kb, kc⟩
  refine ⟨env, h, _, _, re, rh, takesE re tk, w, fun b h1 H1 t1 rh1 w1 => ?_⟩
  cases b with
  | true => exact ⟨env, h1, d, re.up t1, rh1, takesUpS t1 tk, w1, kn.up t1, kr.up t1, kb.up t1, kc.up t1⟩
  | false => exact ⟨env, h1, d, re.up t1, rh1, takesUpS t1 tk, w1, kn.up t1, kr.up t1, kb.up t1, kc.up t1⟩
def wSet (i : Nat) (We : WE) : WS := fun D env h => We env h (fun v h1 => D.nx (env.set i (some v)) h1) (fun x h' => D.ex x env h')
theorem asgImp {i : Nat} (he : GE X e We) : ∀ D σ H, tGS X (wSet i We) D σ H → tAsg (tG X We) (gName i) D σ H := by
  rintro D σ H ⟨env, h, d, re, rh, tk, w, kn, kr, kb, kc⟩
  exact ⟨env, h, _, _, re, rh, takesE re tk, w, fun v u h1 H1 t1 rh1 r1 w1 => kn _ h1 _ H1 t1 ((re.up t1).set i r1) rh1 w1⟩
theorem gs_set (C : Cn X N sc ow) (i : Nat) (he : GE X e We) (hs : swapsWith e (some (.Name x p2)) pos.line X.env = pure false := by rfl) (hN : N[i]? = some x := by decide +kernel) (ho : ownB ow x = true := by decide +kernel) : GS X (.Assign [.Name x p2] e pos) (wSet i We) := by
  obtain ⟨l, f⟩ := C.st x ho
  exact ⟨PSimp (ps_set (by rw [C.hN]; exact C.nd) (by rw [C.hN]; exact hN) l he.pe hs f) (asgImp he)⟩
def wAsg (We : WE) (Wg : WG Val) : WS := fun D env h => We env h (fun v h1 => Wg v env h1 D.nx D.ex) (fun x h' => D.ex x env h')
theorem gs_asg {tg : Expr} (he : GE X e We) (hg : GG X tg Wg) (hs : swapsWithSole [tg] e pos.line X.env = pure false := by rfl) (hw : swappedStores [tg] e X.env = pure none := by rfl)
    (h1 : (assignEach [tg] X.env).map (·.2) = [assign tg X.env] := by rfl) : GS X (.Assign [tg] e pos) (wAsg We Wg) := by
  refine ⟨PSimp (ps_asg he.pe hg.pg hs hw h1) ?_⟩
  rintro D σ H ⟨env, h, d, re, rh, tk, w, kn, kr, kb, kc⟩
  exact ⟨env, h, _, _, re, rh, takesE re tk, w, fun v u h1 H1 t1 rh1 r1 w1 => ⟨v, env, h1, _, _, r1, re.up t1, rh1, takesUpS t1 tk, w1, kn.up t1⟩⟩
/-- a, b = x, y with local names -/
def wPar (is : List Nat) (Wr : WA) : WS := fun D env h => Wr env h (fun vs h1 => vs.length = is.length ∧ D.nx ((is.zip vs).foldl (fun en p => en.set p.1 (some p.2)) env) h1) (fun x h' => D.ex x env h')
theorem gs_par {kt k2 pt2} {px py pt : Pos} (C : Cn X N sc ow) (i j : Nat) (ha : GA X [a, b] Wr) (hw : ∀ env : Env, env.scope = sc → swappedStores [.Tuple [.Name x px, .Name y py] kt pt] (.Tuple [a, b] k2 pt2) env = pure (some [x, y]))
    (hsc : X.env.scope = sc := by first | exact C.hs | assumption) (hi : N[i]? = some x := by decide +kernel) (hj : N[j]? = some y := by decide +kernel) (hij : i ≠ j := by decide +kernel) (hx : sc.names.lookup x = some .local := by decide +kernel) (hy : sc.names.lookup y = some .local := by decide +kernel)
    (hs : swapsWithSole [.Tuple [.Name x px, .Name y py] kt pt] (.Tuple [a, b] k2 pt2) pos.line X.env = pure false := by rfl) :
    GS X (.Assign [.Tuple [.Name x px, .Name y py] kt pt] (.Tuple [a, b] k2 pt2) pos) (wPar [i, j] Wr) := by
  refine ⟨PSimp (ps_par C.calm (by rw [C.hN]; exact C.nd) (by rw [C.hN]; exact hi) (by rw [C.hN]; exact hj) hij (by rw [hsc]; exact hx) (by rw [hsc]; exact hy) ha.pa (hw _ hsc) hs) ?_⟩
  rintro D σ H ⟨env, h, d, re, rh, tk, w, kn, kr, kb, kc⟩
  refine ⟨env, h, _, _, re, rh, takesE re tk, w, fun v u h1 H1 t1 rh1 r1 w1 => ?_⟩
  obtain ⟨l, w1⟩ := w1
  match v, l, r1, w1 with
  | [v1, v2], _, r1, w1 =>
    obtain ⟨w1', w2', rfl, ra, rb⟩ := r1.two
    exact ⟨w1', w2', rfl, kn _ h1 _ H1 t1 (((re.up t1).set i ra).set j rb) rh1 w1⟩
theorem gs_par3 {kt k2 pt2} {px py pz pt : Pos} (C : Cn X N sc ow) (i j l : Nat) (ha : GA X [a, b, c] Wr) (hw : ∀ env : Env, env.scope = sc → swappedStores [.Tuple [.Name x px, .Name y py, .Name z pz] kt pt] (.Tuple [a, b, c] k2 pt2) env = pure (some [x, y, z]))
    (hsc : X.env.scope = sc := by first | exact C.hs | assumption) (hi : N[i]? = some x := by decide +kernel) (hj : N[j]? = some y := by decide +kernel) (hl : N[l]? = some z := by decide +kernel) (hij : i ≠ j := by decide +kernel) (hil : i ≠ l := by decide +kernel) (hjl : j ≠ l := by decide +kernel) (hx : sc.names.lookup x = some .local := by decide +kernel) (hy : sc.names.lookup y = some .local := by decide +kernel) (hz : sc.names.lookup z = some .local := by decide +kernel)
    (hs : swapsWithSole [.Tuple [.Name x px, .Name y py, .Name z pz] kt pt] (.Tuple [a, b, c] k2 pt2) pos.line X.env = pure false := by rfl) :
    GS X (.Assign [.Tuple [.Name x px, .Name y py, .Name z pz] kt pt] (.Tuple [a, b, c] k2 pt2) pos) (wPar [i, j, l] Wr) := by
  refine ⟨PSimp (ps_par3 C.calm (by rw [C.hN]; exact C.nd) (by rw [C.hN]; exact hi) (by rw [C.hN]; exact hj) (by rw [C.hN]; exact hl) hij hil hjl (by rw [hsc]; exact hx) (by rw [hsc]; exact hy) (by rw [hsc]; exact hz) ha.pa (hw _ hsc) hs) ?_⟩
  rintro D σ H ⟨env, h, d, re, rh, tk, w, kn, kr, kb, kc⟩
  refine ⟨env, h, _, _, re, rh, takesE re tk, w, fun v u h1 H1 t1 rh1 r1 w1 => ?_⟩
  obtain ⟨l, w1⟩ := w1
  match v, l, r1, w1 with
  | [v1, v2, v3], _, r1, w1 =>
    cases r1 with
    | cons ra r2 =>
      obtain ⟨w1', w2', rfl, rb, rc⟩ := r2.two
      exact ⟨_, w1', w2', rfl, kn _ h1 _ H1 t1 ((((re.up t1).set i ra).set j rb).set _ rc) rh1 w1⟩
/-- x op= e -/
def wAug (i : Nat) (o : W2) (We : WE) : WS := fun D env h => match env[i]? with
  | some (some v) => We env h (fun u h1 => o v u h1 fun r h2 => D.nx (env.set i (some r)) h2) (fun x h' => D.ex x env h')
  | _ => False
theorem gs_aug {op : Operator} {o : W2} (C : Cn X N sc ow) (i : Nat) (hop : OpR X (inplaceOp op) (rG X.K o)) (he : GE X e We) (hN : N[i]? = some x := by decide +kernel) (ho : ownB ow x = true := by decide +kernel) : GS X (.AugAssign (.Name x p2) op e pos) (wAug i o We) := by
  obtain ⟨l, f⟩ := C.st x ho
  refine ⟨PSimp (ps_aug (by rw [C.hN]; exact C.nd) (by rw [C.hN]; exact hN) l he.pe (ti := rG X.K o) hop f) ?_⟩
  rintro D σ H ⟨env, h, d, re, rh, tk, w, kn, kr, kb, kc⟩
  unfold wAug at w
  split at w
  · rename_i v e
    obtain ⟨u, e1, r⟩ := re.2 i v e
    refine ⟨u, e1, env, h, _, _, re, rh, takesE re tk, w, fun v1 u1 h1 H1 t1 rh1 r1 w1 => ?_⟩
    exact ⟨v, v1, h1, _, r.up t1, r1, rh1, w1, fun v2 u2 h2 H2 t2 rh2 r2 w2 => kn _ h2 _ H2 (t1.trans t2) ((re.up (t1.trans t2)).set i r2) rh2 w2⟩
  · exact w.elim
theorem noI_tuple_add : typeLookup (.type "tuple") (dunderI "add") = pure none := by rw [typeLookup_type, builtinLookup_eq_fast]; kernel_rfl
theorem iconcat_meets {prog : Program} {w : World} {A : Around} {E : Value → Shared → Prop} {s : Shared} {T id : String} {B : Builtin} {a b : Value} {S : PySem.Spec} {Q : Value → Shared → Prop} (ha : s.TypeIs a T) (hb : s.TypeIs b T) (hno : typeLookup (.type T) (dunderI "add") = pure none)
    (hfill : fillsNumberSlot (.type T) "add" = pure false) (hseq : seqSlot? (.type T) "__add__" = pure (some (.builtin id))) (slot : Slot T "__add__" id)
    (entry : entryFor table id = some B) (args : argsOk id ⟨[a, b], []⟩) (g : Meets (B ⟨[a, b], []⟩) S) (h : S A (wants Q E) s) : wpAny (model prog w) A (inplaceOp .Add a b) Q E s :=
  wpAny_inplaceOp_concat ha hb hno hfill hseq (call_meets slot ha entry args g h)
theorem icat_tup {prog : Program} {w : World} {A : Around} {E : Value → Shared → Prop} {s : Shared} {t b : Addr} {vs ws : List Value} {Q : Value → Shared → Prop} (ht : IsTup s.heap t vs.toArray) (hb : IsTup s.heap b ws.toArray)
    (h0 : vs = [] → Q (.ref b) s) (h1 : vs ≠ [] → ws = [] → Q (.ref t) s) (h2 : vs ≠ [] → ws ≠ [] → Q (.ref s.heap.objs.size) { s with heap := s.heap.push { cls := .type "tuple", data := .seq (vs ++ ws).toArray } })
    (hsz : vs.length + ws.length ≤ sizeLine) : wpAny (model prog w) A (inplaceOp .Add (.ref t) (.ref b)) Q E s := by
  obtain ⟨⟨cls, dd, data, sl⟩, ho, hc, n, hd⟩ := id ht
  obtain ⟨⟨cls2, dd2, data2, sl2⟩, ho2, hc2, n2, hd2⟩ := id hb
  simp only at hc hd hc2 hd2
  subst hc hd hc2 hd2
  have e : vs.toArray ++ ws.toArray = (vs ++ ws).toArray := by simp
  by_cases hv : vs = []
  · exact iconcat_meets ⟨_, ho, rfl⟩ ⟨_, ho2, rfl⟩ noI_tuple_add noFill_tuple_add seq_tuple_add PySem.F.slot_tuple_add PySem.F.entry_tuple_add (PySem.F.args_tuple_add_2 _ _)
      (tuple_addW0 t b vs.toArray ws.toArray n n2 dd dd2 sl sl2 (by simp [hv])) ⟨ho, ho2, h0 hv⟩
  · by_cases hw : ws = []
    · exact iconcat_meets ⟨_, ho, rfl⟩ ⟨_, ho2, rfl⟩ noI_tuple_add noFill_tuple_add seq_tuple_add PySem.F.slot_tuple_add PySem.F.entry_tuple_add (PySem.F.args_tuple_add_2 _ _)
        (tuple_addW1 t b vs.toArray ws.toArray n n2 dd dd2 sl sl2 (by simpa using hv) (by simp [hw])) ⟨ho, ho2, h1 hv hw⟩
    · refine iconcat_meets ⟨_, ho, rfl⟩ ⟨_, ho2, rfl⟩ noI_tuple_add noFill_tuple_add seq_tuple_add PySem.F.slot_tuple_add PySem.F.entry_tuple_add (PySem.F.args_tuple_add_2 _ _)
        (tuple_addW2 t b vs.toArray ws.toArray n n2 dd dd2 sl sl2 (by simpa using hv) (by simpa using hw) (by rw [List.size_toArray, List.size_toArray]; exact hsz)) ⟨ho, ho2, ?_⟩
      rw [e]
      exact h2 hv hw
def aAdd : W2 := fun x y h Q => match x, y with
  | .tup xs, .tup ys => xs.length + ys.length ≤ sizeLine ∧ Q (.tup (xs ++ ys)) h
  | .int i, .int j => Q (.int (i + j)) h
  | .str i, .str j => i.length + j.length ≤ sizeLine ∧ Q (.str (i ++ j)) h
  | .ref a, .ref b => onLst h (.ref a) fun p xs => onLst h (.ref b) fun _ ys => xs.length + ys.length ≤ sizeLine ∧ Q (.ref p) (put h p (.lst (xs ++ ys)))
  | _, _ => False
theorem saAdd : OpR X (inplaceOp .Add) (rG X.K aAdd) := by
  rintro pins s σ H x y v u Q I rx ry ⟨vx, vy, h, q, r1, r2, rh, w, k⟩
  unfold aAdd at w
  split at w
  · rename_i xs ys
    cases r1 with
    | @tup a _ _ ws1 e1 d1 l1 =>
      cases r2 with
      | @tup b _ _ ws2 e2 d2 l2 =>
        have n1 := l1.length
        have n2 := l2.length
        cases rx
        cases ry
        obtain ⟨its, s1, p1, _⟩ := I.tuple (.inl (.inr ⟨_, e1⟩))
        obtain ⟨its2, s2, p2, _⟩ := I.tuple (.inl (.inr ⟨_, e2⟩))
        refine icat_tup p1 p2 (fun z => ?_) (fun _ z => ?_) (fun _ _ => ?_) (by rw [← s1.length, ← s2.length, ← n1, ← n2]; exact w.1)
        · subst z
          cases s1
          cases l1
          exact ⟨.ref b, H, I, rfl, k _ _ h H (.refl H) rh (.tup e2 d2 l2) w.2⟩
        · subst z
          cases s2
          cases l2
          have w2 := w.2
          rw [List.append_nil] at w2
          exact ⟨.ref a, H, I, rfl, k _ _ h H (.refl H) rh (.tup e1 d1 l1) w2⟩
        · have np := I.hok.fresh (Nat.le_refl _)
          exact ⟨.ref s.heap.objs.size, _, newTup I (s1.append s2) (by rw [List.length_append, ← n1, ← n2]; exact w.1), rfl, k _ _ h _ (.new np) (rh.new np) (repTup np (l1.append l2)) w.2⟩
  · cases r1; cases r2
    exact iop_add pins s σ H _ _ v u Q I rx ry ⟨_, _, rfl, rfl, k _ _ h H (.refl H) rh (.int _) w⟩
  · cases r1; cases r2
    exact iop_add_str pins s σ H _ _ v u Q I rx ry ⟨_, _, rfl, rfl, w.1, k _ _ h H (.refl H) rh (.str _) w.2⟩
  · obtain ⟨p, xs, e1, e2, w⟩ := onLst_of w
    obtain ⟨p2, ys, e3, e4, w⟩ := onLst_of w
    cases e1; cases e3
    obtain ⟨ws, rfl, h1, l1⟩ := lst_of rh r1 e2
    obtain ⟨us, rfl, h2, l2⟩ := lst_of rh r2 e4
    exact iop_ext pins s σ H _ _ v u Q I rx ry ⟨_, _, ws, us, rfl, rfl, h1, h2, by rw [← l1.length, ← l2.length]; exact w.1, k _ _ _ _ (.lst h1) (rh.setL h1 (l1.append l2)) (.ref _) w.2⟩
  · exact w.elim
def aSub : W2 := fun x y h Q => match x, y with
  | .int i, .int j => Q (.int (i - j)) h
  | _, _ => False
theorem saSub : OpR X (inplaceOp .Sub) (rG X.K aSub) := by
  rintro pins s σ H x y v u Q I rx ry ⟨vx, vy, h, q, r1, r2, rh, w, k⟩
  unfold aSub at w
  split at w
  · cases r1; cases r2
    exact iop_sub pins s σ H _ _ v u Q I rx ry ⟨_, _, rfl, rfl, k _ _ h H (.refl H) rh (.int _) w⟩
  · exact w.elim
def aMul : W2 := fun x y h Q => match x, y with
  | .int i, .int j => CMul i j ∧ Q (.int (i * j)) h
  | _, _ => False
theorem saMul : OpR X (inplaceOp .Mult) (rG X.K aMul) := by
  rintro pins s σ H x y v u Q I rx ry ⟨vx, vy, h, q, r1, r2, rh, w, k⟩
  unfold aMul at w
  split at w
  · cases r1; cases r2
    exact iop_mul pins s σ H _ _ v u Q I rx ry ⟨_, _, rfl, rfl, w.1, k _ _ h H (.refl H) rh (.int _) w.2⟩
  · exact w.elim
/-- o[i] op= e (o a list) -/
theorem pget_list : PGet X (rIxL X.K) := by
  rintro pins s σ H x y v u Q I rx ry h
  obtain ⟨p, xs, i, z, rfl, rfl, hq, he, q⟩ := h
  cases rx
  obtain ⟨t, rfl⟩ := ry
  obtain ⟨its, r, pl, hz⟩ := I.list hq
  obtain ⟨j, h1, h2, h3, h4, h5⟩ := atI_get he
  obtain ⟨w, ew, rw'⟩ := r.get h2
  have hl := r.length
  have hn := line63
  have fin : EP X pins σ Q w s := ⟨z, H, I, rw', q⟩
  by_cases h0 : 0 ≤ i
  · have hj : i.toNat = j := by
      rw [seqIndex_of h0 h5] at h1
      exact Option.some.inj h1
    exact wpAny_getItem_list pl.isList h0 (by omega) (by rw [hj]; simpa using ew) fin
  · have hj : (i + (its.toArray.size : Int)).toNat = j := by
      rw [seqIndex_neg (by omega) h4] at h1
      rw [List.size_toArray, ← hl]
      exact Option.some.inj h1
    exact wpAny_getItem_list_neg pl.isList (by omega) (by rw [List.size_toArray] <;> omega) (by omega) (by rw [hj]; simpa using ew) fin
def wAugS (o : W2) (Wo Wi We : WE) : WS := fun D env h => Wo env h (fun vo h1 => Wi env h1 (fun vi h2 => onLst h2 vo fun p xs => onInt vi fun k => onSome (atI xs k) fun v => We env h2 (fun u h3 => o v u h3 fun r h4 => oSet vo vi r h4 fun h5 => D.nx env h5) (fun x h' => D.ex x env h')) (fun x h' => D.ex x env h')) (fun x h' => D.ex x env h')
theorem gs_augS {op : Operator} {w2 : W2} (hop : OpR X (inplaceOp op) (rG X.K w2)) (ho : GE X o Wo) (hi : GE X i Wi) (he : GE X e We)
    (ha : ∀ ov iv new, augStore i ov iv new = (do holding [new, ov, iv] (setItem ov iv new); release [new, ov, iv] []; pure .next) := by intros; rfl) : GS X (.AugAssign (.Subscript o i p2) op e pos) (wAugS w2 Wo Wi We) := by
  refine ⟨PSimp (ps_augS ho.pe hi.pe pget_list he.pe (tip := rG X.K w2) hop set_list ha) ?_⟩
  rintro D σ H ⟨env, h, d, re, rh, tk, w, kn, kr, kb, kc⟩
  have tkE := takesE re tk
  refine ⟨env, h, _, _, re, rh, tkE, w, fun vo wo h1 H1 t1 rh1 r1 w1 => ?_⟩
  refine ⟨env, h1, _, _, re.up t1, rh1, takesUp t1 tkE, w1, fun vi wi h2 H2 t2 rh2 r2 w2 => ?_⟩
  obtain ⟨p, xs, rfl, e2, w2⟩ := onLst_of w2
  cases vi <;> first | exact (show False from w2).elim | skip
  obtain ⟨v, ev, w2⟩ := onSome_of w2
  obtain ⟨ws, rfl, hp, l⟩ := lst_of rh2 (r1.up t2) e2
  cases r2
  obtain ⟨zw, e3, rz⟩ := atI_rep l ev
  refine ⟨p, ws, _, zw, rfl, rfl, SqL.of hp, e3, ?_⟩
  refine ⟨env, h2, _, _, re.up (t1.trans t2), rh2, takesUp (t1.trans t2) tkE, w2, fun u uw h3 H3 t3 rh3 r3 w3 => ?_⟩
  refine ⟨v, u, h3, _, rz.up t3, r3, rh3, w3, fun r rw' h4 H4 t4 rh4 r4 w4 => ?_⟩
  obtain ⟨p', xs', kk, j, e1', e2', e3', e4', h5, t5, rh5, w5⟩ := oSet_of rh4 (.ref p) (.int _) r4 w4
  have t := (((t1.trans t2).trans t3).trans t4).trans t5
  exact ⟨p', xs', kk, j, e1', e2', e3', e4', kn env h5 σ _ t (re.up t) rh5 w5⟩

/-! ### a cut: what stands between two statements -/
def wCut (S T : WS) : WS := fun D env h => ∃ Mid : Env' → Hg → Prop, S { D with nx := Clo Mid } env h ∧ ∀ env' h', Mid env' h' → T D env' h'
theorem gss_cut (h1 : GS X st S) (h2 : GSs X sts T) : GSs X (st :: sts) (wCut S T) := by
  refine ⟨PSsimp (pss_cons h1.ps h2.ps) ?_⟩
  rintro D σ H ⟨env, h, d, re, rh, tk, ⟨Mid, w1, w2⟩, kn, kr, kb, kc⟩
  exact ⟨env, h, { d with nx := Clo Mid }, re, rh, tk, w1, fun env' h' σ' H' t re' rh' ⟨e2, h2, s1, s2, z⟩ => ⟨e2, h2, d, re'.sub s1, rh'.sub s2, takesUpS t tk, w2 _ _ z, kn.up t, kr.up t, kb.up t, kc.up t⟩, kr, kb, kc⟩

/-! ### while -/
def wWhile (Wc : WT) (S : WS) : WS := fun D env h => ∃ I : Nat → Env' → Hg → Prop, (∃ m, Clo (I m) env h) ∧ ∀ m env h, I m env h →
  Wc env h (fun b h1 => if b = true then S { D with nx := Clo fun e' h' => ∃ m', m' < m ∧ I m' e' h', ct := Clo fun e' h' => ∃ m', m' < m ∧ I m' e' h', bk := D.nx } env h1 else D.nx env h1) (fun x h' => D.ex x env h')
theorem gs_while (C : Cn X N sc ow) (hc : GT X c Wc) (hb : GSs X p S) : GS X (.While c p [] pos) (wWhile Wc S) := by
  refine ⟨PSimp (ps_while C.pas hc.pt hb.ps) ?_⟩
  rintro D σ H0 ⟨env, h, d, re, rh, tk, ⟨J, ⟨m0, e0, h0, s0, s1, j0⟩, turn⟩, kn, kr, kb, kc⟩
  refine ⟨fun m σ H => TExt H0 H ∧ ∃ env h, RelE X.K H env σ ∧ RepH X.K H h ∧ J m env h, ⟨m0, .refl _, e0, h0, re.sub s0, rh.sub s1, j0⟩, ?_⟩
  rintro m σ1 H1 ⟨t1, env1, h1, re1, rh1, j1⟩
  have tk1 := takesUpS t1 tk
  refine ⟨env1, h1, _, _, re1, rh1, takesE re1 tk1, turn m env1 h1 j1, fun b h2 H2 t2 rh2 w2 => ?_⟩
  cases b with
  | true =>
    refine ⟨fun σ' H' => TExt H0 H' ∧ ∃ env' h', RelE X.K H' env' σ' ∧ RepH X.K H' h' ∧ ∃ m', m' < m ∧ J m' env' h', fun σ' H' ⟨t', env', h', re', rh', m', lt, j'⟩ => ⟨m', lt, t', env', h', re', rh', j'⟩, ?_⟩
    have k : ContN X.K H2 (Clo fun e' h' => ∃ m', m' < m ∧ J m' e' h') (fun σ' H' => TExt H0 H' ∧ ∃ env' h', RelE X.K H' env' σ' ∧ RepH X.K H' h' ∧ ∃ m', m' < m ∧ J m' env' h') := fun env' h' σ' H' t' re' rh' ⟨e1, h1, s1, s2, z⟩ => ⟨(t1.trans t2).trans t', e1, h1, re'.sub s1, rh'.sub s2, z⟩
    exact ⟨env1, h2, { d with nx := Clo fun e' h' => ∃ m', m' < m ∧ J m' e' h', ct := Clo fun e' h' => ∃ m', m' < m ∧ J m' e' h', bk := d.nx }, re1.up t2, rh2, takesUpS t2 tk1, w2, k, kr.up (t1.trans t2), kn.up (t1.trans t2), k⟩
  | false => exact kn env1 h2 σ1 H2 (t1.trans t2) (re1.up t2) rh2 w2
end
end G

set_option Elab.async false
set_option linter.all false
set_option maxRecDepth 100000
set_option maxHeartbeats 4000000
namespace G
open PySem PySem.Spec L2
open PyProof.Rows hiding St

/-! ### enumerate and zip over lists and tuples -/
def SqK (K : PySem.W.Frag) (H : L2.Hp) (k : Bool) (a : Addr) (xs : List V) : Prop := match k with
  | true => SqT K H a xs
  | false => SqL K H a xs
def IterK (k : Bool) (h : Heap) (it a : Addr) (i : Nat) : Prop := match k with
  | true => h.IsTupleIter it a i
  | false => h.IsListIter it a i
def HasK (k : Bool) (h : Heap) (a : Addr) (its : Array Value) : Prop := match k with
  | true => h.IsTuple a its
  | false => h.IsList a its
def oIterK (k : Bool) (a : Addr) : Obj := match k with
  | true => { cls := .type "tuple_iterator", data := .fields #[.ref a, .int 0 0] }
  | false => { cls := .type "list_iterator", data := .fields #[.ref a, .int 0 0] }
theorem drawsK {prog : Program} {w : World} {A : Around} (k : Bool) (hh : A.handled = none) (it a : Addr) (hne : a ≠ it) (its : Array Value) :
    Draws prog w A it [it, a] its.size (fun i v => its[i]? = some v) (fun i h => IterK k h it a i ∧ HasK k h a its) := by
  cases k
  · exact Draws.list hh it a hne its
  · exact Draws.tuple hh it a hne its
theorem beginsK (k : Bool) (a : Addr) (its : Array Value) : Begins (.ref a) (oIterK k a) fun h => HasK k h a its := by
  cases k
  · exact begins_list a its
  · exact begins_tuple a its
theorem IterK.new {k : Bool} {h : Heap} {it a : Addr} (e : h.get? it = some (oIterK k a)) : IterK k h it a 0 := by
  cases k
  · exact ⟨_, e, rfl, rfl⟩
  · exact ⟨_, e, rfl, rfl⟩
theorem IterK.at' {k : Bool} {h h' : Heap} {it a : Addr} {i : Nat} (e : IterK k h it a i) (hk : ∀ o, h.get? it = some o → h'.get? it = some o) : IterK k h' it a i := by
  cases k
  · exact Heap.IsListIter.at e hk
  · exact Heap.IsTupleIter.at e hk
theorem IterK.obj {k : Bool} {h : Heap} {it a : Addr} {i : Nat} (e : IterK k h it a i) : ∃ o, h.get? it = some o ∧ ∀ v, o.data ≠ .cell v := by
  cases k
  · obtain ⟨o, e, c, d⟩ := e
    exact ⟨o, e, fun v z => by rw [d] at z; cases z⟩
  · obtain ⟨o, e, c, d⟩ := e
    exact ⟨o, e, fun v z => by rw [d] at z; cases z⟩
theorem inv_seqK {X : Cx} {pins : List (Addr × Obj)} {σ : L2.St} {H : L2.Hp} {s : Shared} {k : Bool} {a : Addr} {xs : List V} (I : Inv X pins σ H s) (h : SqK X.K H k a xs) : ∃ its, Vals xs its ∧ HasK k s.heap a its.toArray ∧ a < s.heap.objs.size := by
  cases k
  · obtain ⟨its, r, p, _⟩ := I.list h
    exact ⟨its, r, p.isList, p.lt⟩
  · obtain ⟨its, r, p, _⟩ := I.tuple h
    obtain ⟨o, e, _⟩ := id p
    exact ⟨its, r, p, Heap.lt_size e⟩
theorem inv_seqK_inj {X : Cx} {pins : List (Addr × Obj)} {σ : L2.St} {H : L2.Hp} {s : Shared} {k : Bool} {a : Addr} {xs ys : List V} (I : Inv X pins σ H s) (h : SqK X.K H k a xs) (h2 : SqK X.K H k a ys) : xs = ys := by
  cases k
  · exact I.list_inj h h2
  · exact I.tuple_inj h h2
/-- each item in a new pair -/
def IteK (K : PySem.W.Frag) (k : Bool) (a : Addr) : It :=
  ⟨fun i H => ∃ (xs : List V) (x : V), SqK K H k a xs ∧ xs[i]? = some x, fun i H v H' => ∃ T x, v = .ref T ∧ H T = none ∧ H' = upd H T (.tup [.int (i : Nat), x]) ∧ ∀ xs, SqK K H k a xs → xs[i]? = some x, fun i H => ∃ xs : List V, SqK K H k a xs ∧ xs.length = i⟩
theorem turn_enumK {P : Program} {w : World} {K : PySem.W.Frag} {elts : List Expr} {kk : Nat} {tpos : Pos} (k : Bool) (a e it : Addr) (hne : e ≠ it) (hae : e ≠ a) (hai : a ≠ it) :
    Turn P w K (.Tuple elts kk tpos) (IteK K k a) [e, it] e (fun i h => (∃ old, IsEnum h e it ((i : Nat) : Int) old) ∧ IterK k h it a i) where
  mem := by simp
  obj := fun i h st b hb => by
    obtain ⟨⟨old, he⟩, hi⟩ := st
    have e' : b = e ∨ b = it := by simpa using hb
    rcases e' with z | z
    · rw [z]; exact ⟨_, he, fun v q => nomatch q⟩
    · rw [z]; exact hi.obj
  keep := fun i h h' st kp => let ⟨⟨old, he⟩, hi⟩ := st; ⟨⟨old, kp e (by simp) _ he⟩, hi.at' fun o q => kp it (by simp) o q⟩
  item := by
    intro X hP hw hK hc i pins s σ H E I hf st hg
    subst hP hw hK
    obtain ⟨⟨old, he⟩, hit⟩ := st
    obtain ⟨xs, x, hq, hx⟩ := hg
    obtain ⟨its, rv, p, hz⟩ := inv_seqK I hq
    obtain ⟨u, hu, ru⟩ := rv.get hx
    have hel : e < s.heap.objs.size := Heap.lt_size he
    have hil : it < s.heap.objs.size := by obtain ⟨_, q, _⟩ := hit.obj; exact Heap.lt_size q
    have hlt : i < its.toArray.size := by
      rw [List.size_toArray]
      exact (List.getElem?_eq_some_iff.mp hu).1
    refine wpAny_pyNext_enum_itemD (drawsK (A := X.A.in1) k (I.ok.hd hc) it a hai its.toArray) he ⟨hit, p⟩ hlt hne (by simp [hne, hae]) fun x' h' tk hP ho st' hT hsz hk => ?_
    have ex : x' = u := by
      rw [List.getElem?_toArray, hu] at hP
      exact (Option.some.inj hP).symm
    subst ex
    refine ⟨_, rfl, wpAny_letOwnedTupleGo_enum (s := { s with heap := h', toks := tk + 1 }) ho fun h'' he' sb => ?_⟩
    have hT2 : h''.get? s.heap.objs.size = some { cls := .type "tuple", data := .seq #[.int i tk, x'] } := (sb.2 _ (Nat.ne_of_gt hel)).trans hT
    have new : ObjOk X.prog X.w (upd H s.heap.objs.size (.tup [.int (i : Nat), x])) h'' s.heap.objs.size (.tup [.int (i : Nat), x]) :=
      ⟨by show 2 ≤ sizeLine; decide, [.int i tk, x'], .cons ⟨_, rfl⟩ (.cons ru .nil), ⟨_, hT2, rfl, _, rfl⟩⟩
    have I1 : Inv X pins σ (upd H s.heap.objs.size (.tup [.int (i : Nat), x])) { s with heap := h'', toks := tk + 1 } :=
      I.turnedNew (ch := [e, it]) (fun b ob hb q => (sb.2 b (fun z => hb (by simp [z]))).trans (hk b ob (fun z => hb (by simp [z])) (fun z => hb (by simp [z])) q)) hf (Nat.le_refl _) new
    refine ⟨.ref s.heap.objs.size, _, I1, rfl, ⟨_, x, rfl, I.hok.fresh (Nat.le_refl _), rfl, fun ys hy => by rw [inv_seqK_inj I hy hq]; exact hx⟩, ⟨⟨x', ?_⟩, st'.1.at' fun o q => (sb.2 it (Ne.symm hne)).trans q⟩, fun b hb => ?_⟩
    · have e1 : ((i + 1 : Nat) : Int) = (i : Int) + 1 := by omega
      rw [e1]; exact he'
    · have hb' : b < s.heap.objs.size := by
        have e' : b = e ∨ b = it := by simpa using hb
        rcases e' with z | z
        · rw [z]; exact hel
        · rw [z]; exact hil
      rw [upd_ne (Nat.ne_of_lt hb')]
      exact (hf b hb).1
  done := by
    intro X hP hw hK hc i pins s σ H E I hf st hg
    subst hP hw hK
    obtain ⟨⟨old, he⟩, hit⟩ := st
    obtain ⟨xs, hq, hx⟩ := hg
    obtain ⟨its, rv, p, hz⟩ := inv_seqK I hq
    obtain ⟨f0, f1, f2, f3, f4, f5⟩ := hf it (by simp)
    have hl := rv.length
    have hn : i = its.toArray.size := by rw [List.size_toArray]; omega
    subst hn
    exact wpAny_pyNext_enum_endD (drawsK (A := X.A.in1) k (I.ok.hd hc) it a hai its.toArray) he ⟨hit, p⟩ fun h' eb => ⟨rfl, I.turned (t' := s.toks) (fun b o hb q => eb b o hb q) f0 f1 f3 f4 f5⟩
  self := fun A i s Q E st h => let ⟨⟨_, he⟩, _⟩ := st; wpAny_pyIter_enum he h

theorem meets_enumerate_B {v : Value} {o : Obj} {H : Heap → Prop} (B : Begins v o H) :
    Meets (Builtin.«enumerate.__new__» ⟨[.type "enumerate", v], []⟩) (fun _ R s => H s.heap ∧
      R (.ok (.ret (.ref (s.heap.push o).objs.size))) { s with heap := (s.heap.push o).push { cls := .type "enumerate", data := .fields #[.none, .bool false, .ref s.heap.objs.size, rawInt 0, .none, .none] } }) :=
  .of_wp fun prog w A R s h => by
    obtain ⟨hp, g, d, tk, os⟩ := s; obtain ⟨h1, h⟩ := h
    have hsub := sub_enumerate
    have q1 : ∀ {A' : Around} {E : Value → Shared → Prop} {Q : Value → Shared → Prop}, Q (.ref hp.objs.size) ⟨hp.push o, g, d, tk, os⟩ → wpAny (model prog w) A' (pyIter v) Q E ⟨hp, g, d, tk, os⟩ :=
      fun q => B.iter prog w _ _ ⟨hp, g, d, tk, os⟩ _ h1 q
    wp_walk using q1
    refine wpAny_stack_any fun st => wpAny_pure ?_
    split
    · rename_i c _ _ _ _ _
      cases (c == Value.type "enumerate")
      · wp_walk using q1
        exact ⟨_, rfl, h⟩
      · wp_walk using q1
        exact ⟨_, rfl, h⟩
    · wp_walk using q1
      exact ⟨_, rfl, h⟩
theorem enum_begins1 {prog : Program} {w : World} {A : Around} {E : Value → Shared → Prop} {s : Shared} {v : Value} {o : Obj} {H : Heap → Prop} {Q : Value → Shared → Prop} (B : Begins v o H) (h1 : H s.heap)
    (h : ∀ h', IsEnum h' (s.heap.objs.size + 1) s.heap.objs.size 0 .none → h'.get? s.heap.objs.size = some o → h'.objs.size = s.heap.objs.size + 2 →
      (∀ b o, s.heap.get? b = some o → h'.get? b = some o) → Q (.ref (s.heap.objs.size + 1)) { s with heap := h' }) :
    wpAny (model prog w) A (call (.type "enumerate") [v]) Q E s := by
  refine callType_new F.called_enumerate (by decide) (F.typeCall_enumerate_1 _) (F.newCall_enumerate_1 _) (fun obj => F.args_object_init_2 obj _) F.entry_enumerate_new
    (meets_enumerate_B B) ⟨h1, ?_⟩
  have hz : (s.heap.push o).objs.size = s.heap.objs.size + 1 := Heap.size_push ..
  show _ ∧ _
  rw [hz]
  have he : IsEnum ((s.heap.push o).push { cls := .type "enumerate", data := .fields #[.none, .bool false, .ref s.heap.objs.size, rawInt 0, .none, .none] }) (s.heap.objs.size + 1) s.heap.objs.size 0 .none := by
    have := Heap.get?_push_size (s.heap.push o) (o := { cls := .type "enumerate", data := .fields #[.none, .bool false, .ref s.heap.objs.size, rawInt 0, .none, .none] }) rfl
    rw [hz] at this; exact this
  refine ⟨⟨_, he, rfl⟩, h _ he (Heap.get?_push_of_some _ (Heap.get?_push_size _ B.free)) (by rw [Heap.size_push, hz]) fun b o x => Heap.get?_push_of_some _ (Heap.get?_push_of_some _ x)⟩
def iEnumK (K : PySem.W.Frag) (ta : TA) : TI := fun σ H R => ta σ H fun vs H1 => ∃ k a xs, vs = [.ref a] ∧ SqK K H1 k a xs ∧ R (IteK K k a) H1
theorem pi_enumK {X : Cx} {e : Expr} {ta : TA} {p pos tpos : Pos} {elts : List Expr} {kk : Nat} (hg : Gl X "enumerate") (hm : X.mg "enumerate" = none) (ha : PA X [e] ta) (hs : starEach [e] X.env = [(false, eval e X.env)] := by rfl) :
    PI X (.Tuple elts kk tpos) (.Call (.Name "enumerate" p) [e] [] pos) (iEnumK X.K ta) := by
  refine ⟨fun pins s σ H R I h => ?_⟩
  refine Call_ (ld_blt I hg hm boot_enumerate (PyProof.Rows.callWith_type1 (thn (ha.run pos pins s σ H _ I h) fun us s1 ⟨vs, H1, I1, r1, q1⟩ => ?_) hs rfl))
  obtain ⟨k, a, xs, ex, hq, q⟩ := q1
  subst ex
  cases r1 with
  | cons r rr =>
    cases rr
    cases r
    obtain ⟨its, rv, p', hz⟩ := inv_seqK I1 hq
    refine enum_begins1 (beginsK k a its.toArray) p' fun h' he hit hsz hk => wpAny_pyIter_enum he ?_
    have I2 : Inv X pins σ H1 { s1 with heap := h' } := I1.kept (t' := s1.toks) hk
    refine ⟨s1.heap.objs.size + 1, [s1.heap.objs.size + 1, s1.heap.objs.size], _, _, H1, rfl, I2, turn_enumK k a (s1.heap.objs.size + 1) s1.heap.objs.size (Nat.succ_ne_self _) (Nat.ne_of_gt (Nat.lt_succ_of_lt hz)) (Nat.ne_of_lt hz), ⟨⟨.none, he⟩, IterK.new hit⟩, fun b hb => ?_, q⟩
    have e' : b = s1.heap.objs.size + 1 ∨ b = s1.heap.objs.size := by simpa using hb
    have hle : s1.heap.objs.size ≤ b := by
      rcases e' with z | z
      · rw [z]; exact Nat.le_add_right _ _
      · rw [z]; exact Nat.le_refl _
    exact I1.fpOk hle (I1.hok.fresh hle)

/-- zip -/
def ItzK (K : PySem.W.Frag) (k1 k2 : Bool) (a b : Addr) : It :=
  ⟨fun i H => ∃ (xs ys : List V) (x y : V), SqK K H k1 a xs ∧ SqK K H k2 b ys ∧ xs[i]? = some x ∧ ys[i]? = some y,
    fun i H v H' => ∃ T x y, v = .ref T ∧ H T = none ∧ H' = upd H T (.tup [x, y]) ∧ (∀ xs, SqK K H k1 a xs → xs[i]? = some x) ∧ ∀ ys, SqK K H k2 b ys → ys[i]? = some y,
    fun i H => ∃ xs ys : List V, SqK K H k1 a xs ∧ SqK K H k2 b ys ∧ i ≤ xs.length ∧ i ≤ ys.length ∧ (i = xs.length ∨ i = ys.length)⟩
theorem turn_zipK {P : Program} {w : World} {K : PySem.W.Frag} {elts : List Expr} {kk : Nat} {tpos : Pos} {k1 k2 : Bool} {a b z TI TO i1 i2 : Addr} (S : ZipSep2 z TI TO i1 i2 [i1, a] [i2, b]) (ha : a ≠ i1) (hb : b ≠ i2) :
    Turn P w K (.Tuple elts kk tpos) (ItzK K k1 k2 a b) [z, TI, TO, i1, i2] z (fun i h => IsZip h z TI TO .none ∧ IsTupOf2 h TI (.ref i1) (.ref i2) ∧ (∃ x y, IsTupOf2 h TO x y) ∧ IterK k1 h i1 a i ∧ IterK k2 h i2 b i) where
  mem := by simp
  obj := fun i h st c hc => by
    obtain ⟨hz, hTI, ⟨x, y, hTO⟩, h1, h2⟩ := st
    have e' : c = z ∨ c = TI ∨ c = TO ∨ c = i1 ∨ c = i2 := by simpa using hc
    rcases e' with q | q | q | q | q
    · rw [q]; exact ⟨_, hz, fun v q => nomatch q⟩
    · rw [q]; exact ⟨_, hTI, fun v q => nomatch q⟩
    · rw [q]; exact ⟨_, hTO, fun v q => nomatch q⟩
    · rw [q]; exact h1.obj
    · rw [q]; exact h2.obj
  keep := fun i h h' st kp => by
    obtain ⟨hz, hTI, ⟨x, y, hTO⟩, h1, h2⟩ := st
    exact ⟨kp z (by simp) _ hz, kp TI (by simp) _ hTI, ⟨x, y, kp TO (by simp) _ hTO⟩, h1.at' fun o q => kp i1 (by simp) o q, h2.at' fun o q => kp i2 (by simp) o q⟩
  item := by
    intro X hP hw hK hc i pins s σ H E I hf st hg
    subst hP hw hK
    obtain ⟨hz, hTI, ⟨x0, y0, hTO⟩, h1, h2⟩ := st
    obtain ⟨xs, ys, x, y, hqx, hqy, hx, hy⟩ := hg
    obtain ⟨its, rv, p, la⟩ := inv_seqK I hqx
    obtain ⟨its2, rv2, p2, lb⟩ := inv_seqK I hqy
    obtain ⟨u, hu, ru⟩ := rv.get hx
    obtain ⟨u2, hu2, ru2⟩ := rv2.get hy
    have hzl : z < s.heap.objs.size := Heap.lt_size hz
    have hl1 : i < its.toArray.size := by rw [List.size_toArray]; exact (List.getElem?_eq_some_iff.mp hu).1
    have hl2 : i < its2.toArray.size := by rw [List.size_toArray]; exact (List.getElem?_eq_some_iff.mp hu2).1
    refine wpAny_pyNext_zipD2_item S (drawsK (A := X.A.in1) k1 (I.ok.hd hc) i1 a ha its.toArray) (drawsK (A := X.A.in1) k2 (I.ok.hd hc) i2 b hb its2.toArray) hz hTI hTO ⟨h1, p⟩ ⟨h2, p2⟩ hl1 hl2 fun x1 x2 h' tk y1 y2 z' TO' st1 st2 hT hsz hk => ?_
    have ex1 : x1 = u := by
      rw [List.getElem?_toArray, hu] at y1
      exact (Option.some.inj y1).symm
    have ex2 : x2 = u2 := by
      rw [List.getElem?_toArray, hu2] at y2
      exact (Option.some.inj y2).symm
    subst ex1 ex2
    refine ⟨_, rfl, wpAny_letOwnedTupleGo_zip (s := { s with heap := h', toks := tk }) z' fun h'' z'' sb => ?_⟩
    have hT2 : h''.get? s.heap.objs.size = some { cls := .type "tuple", data := .seq #[x1, x2] } := (sb.2 _ (Nat.ne_of_gt hzl)).trans hT
    have new : ObjOk X.prog X.w (upd H s.heap.objs.size (.tup [x, y])) h'' s.heap.objs.size (.tup [x, y]) :=
      ⟨by show 2 ≤ sizeLine; decide, [x1, x2], .cons ru (.cons ru2 .nil), ⟨_, hT2, rfl, _, rfl⟩⟩
    have I1 : Inv X pins σ (upd H s.heap.objs.size (.tup [x, y])) { s with heap := h'', toks := tk } :=
      I.turnedNew (t' := tk) (ch := [z, TI, TO, i1, i2]) (fun c o hb q => (sb.2 c (fun q' => hb (by simp [q']))).trans (hk c o (fun q' => hb (by simp [q'])) (fun q' => hb (by simp [q'])) (fun q' => hb (by simp [q'])) (fun q' => hb (by simp [q'])) q)) hf (Nat.le_refl _) new
    refine ⟨.ref s.heap.objs.size, _, I1, rfl, ⟨_, x, y, rfl, I.hok.fresh (Nat.le_refl _), rfl, fun l hl => by rw [inv_seqK_inj I hl hqx]; exact hx, fun l hl => by rw [inv_seqK_inj I hl hqy]; exact hy⟩, ⟨z'', ?_, ⟨x1, x2, ?_⟩, ?_, ?_⟩, fun c hcm => ?_⟩
    · exact (sb.2 _ S.TIz).trans (hk _ _ S.TIz S.TITO S.TIi1 S.TIi2 hTI)
    · exact (sb.2 _ S.TOz).trans TO'
    · exact st1.1.at' fun o q => (sb.2 _ S.zi1.symm).trans q
    · exact st2.1.at' fun o q => (sb.2 _ S.zi2.symm).trans q
    · have hlt : c < s.heap.objs.size := by
        have e' : c = z ∨ c = TI ∨ c = TO ∨ c = i1 ∨ c = i2 := by simpa using hcm
        rcases e' with q | q | q | q | q
        · rw [q]; exact hzl
        · rw [q]; exact Heap.lt_size hTI
        · rw [q]; exact Heap.lt_size hTO
        · rw [q]; obtain ⟨_, e1, _⟩ := h1.obj; exact Heap.lt_size e1
        · rw [q]; obtain ⟨_, e2, _⟩ := h2.obj; exact Heap.lt_size e2
      rw [upd_ne (Nat.ne_of_lt hlt)]
      exact (hf c hcm).1
  done := by
    intro X hP hw hK hc i pins s σ H E I hf st hg
    subst hP hw hK
    obtain ⟨hz, hTI, ⟨x0, y0, hTO⟩, h1, h2⟩ := st
    obtain ⟨xs, ys, hqx, hqy, g1, g2, g3⟩ := hg
    obtain ⟨its, rv, p, _⟩ := inv_seqK I hqx
    obtain ⟨its2, rv2, p2, _⟩ := inv_seqK I hqy
    have l1 := rv.length
    have l2 := rv2.length
    have e1 : i ≤ its.toArray.size := by rw [List.size_toArray]; omega
    have e2 : i ≤ its2.toArray.size := by rw [List.size_toArray]; omega
    have e3 : i = its.toArray.size ∨ i = its2.toArray.size := by rw [List.size_toArray, List.size_toArray]; omega
    exact wpAny_pyNext_zipD2_end S (drawsK (A := X.A.in1) k1 (I.ok.hd hc) i1 a ha its.toArray) (drawsK (A := X.A.in1) k2 (I.ok.hd hc) i2 b hb its2.toArray) hz hTI hTO ⟨h1, p⟩ ⟨h2, p2⟩ e1 e2 e3
      fun h' tk hk => ⟨rfl, I.turnedL (t' := tk) (ch := [z, TI, TO, i1, i2]) (fun c o hb q =>
      hk c o (fun q' => hb (by simp [q'])) (fun q' => hb (by simp [q'])) (fun q' => hb (by simp [q'])) (fun q' => hb (by simp [q'])) q) hf⟩
  self := fun A i s Q E st h => wpAny_pyIter_zip st.1 h
def iZipK (K : PySem.W.Frag) (ta : TA) : TI := fun σ H R => ta σ H fun vs H1 => ∃ k1 k2 a b xs ys, vs = [.ref a, .ref b] ∧ SqK K H1 k1 a xs ∧ SqK K H1 k2 b ys ∧ R (ItzK K k1 k2 a b) H1
theorem pi_zipK {X : Cx} {e e2 : Expr} {ta : TA} {p pos tpos : Pos} {elts : List Expr} {kk : Nat} (hg : Gl X "zip") (hm : X.mg "zip" = none) (ha : PA X [e, e2] ta)
    (hs : starEach [e, e2] X.env = (false, eval e X.env) :: starEach [e2] X.env := by rfl) (hpl : (backTo pos (starEach [e2] X.env)).any (·.1) = false := by rfl) :
    PI X (.Tuple elts kk tpos) (.Call (.Name "zip" p) [e, e2] [] pos) (iZipK X.K ta) := by
  refine ⟨fun pins s σ H R I h => ?_⟩
  refine Call_ (ld_blt I hg hm PyProof.Rows.boot_zip (PyProof.Rows.callWith_type1 (thn (ha.run pos pins s σ H _ I h) fun us s1 ⟨vs, H1, I1, r1, q1⟩ => ?_) hs hpl))
  obtain ⟨k1, k2, a, b, xs, ys, ex, hqx, hqy, q⟩ := q1
  subst ex
  cases r1 with
  | cons r rr =>
    cases rr with
    | cons r' rr =>
      cases rr
      cases r
      cases r'
      obtain ⟨its, rv, p1, la⟩ := inv_seqK I1 hqx
      obtain ⟨its2, rv2, p2, lb⟩ := inv_seqK I1 hqy
      refine zip_begins2 (beginsK k1 a its.toArray) (beginsK k2 b its2.toArray) p1 p2 fun h' hz hTI hTO h1 h2 hsz hk => wpAny_pyIter_zip hz ?_
      have I2 : Inv X pins σ H1 { s1 with heap := h' } := I1.kept (t' := s1.toks) hk
      have S := zip_sep2 (N := s1.heap.objs.size) (fp1 := [a]) (fp2 := [b]) (fun c hc => by rw [List.mem_singleton.mp hc]; exact la) (fun c hc => by rw [List.mem_singleton.mp hc]; exact lb)
      refine ⟨s1.heap.objs.size + 4, [s1.heap.objs.size + 4, s1.heap.objs.size + 2, s1.heap.objs.size + 3, s1.heap.objs.size, s1.heap.objs.size + 1], _, _, H1, rfl, I2, turn_zipK S (Nat.ne_of_lt la) (Nat.ne_of_lt (Nat.lt_succ_of_lt lb)), ⟨hz, hTI, ⟨_, _, hTO⟩, IterK.new h1, IterK.new h2⟩, fun c hcm => ?_, q⟩
      have e' : c = s1.heap.objs.size + 4 ∨ c = s1.heap.objs.size + 2 ∨ c = s1.heap.objs.size + 3 ∨ c = s1.heap.objs.size ∨ c = s1.heap.objs.size + 1 := by simpa using hcm
      have hle : s1.heap.objs.size ≤ c := by
        rcases e' with z | z | z | z | z
        · rw [z]; exact Nat.le_add_right _ _
        · rw [z]; exact Nat.le_add_right _ _
        · rw [z]; exact Nat.le_add_right _ _
        · rw [z]; exact Nat.le_refl _
        · rw [z]; exact Nat.le_add_right _ _
      exact I1.fpOk hle (I1.hok.fresh hle)
end G

set_option Elab.async false
set_option linter.all false
set_option maxRecDepth 100000
set_option maxHeartbeats 4000000
namespace G
open PySem PySem.Spec L2
open PyProof.Rows hiding St

/-! ### what a loop walks -/
/-- at turn i with the heap h: nothing known; the end; an item -/
abbrev Sq (α : Type) := Nat → Hg → Option (Option α)
abbrev RI (α : Type) := L2.Hp → α → V → Prop
def rV (K : PySem.W.Frag) : RI Val := fun H v x => Rep K H v x
def rP (K : PySem.W.Frag) : RI (List Val) := fun H vs x => ∃ T ws, x = .ref T ∧ SqT K H T ws ∧ RepL K H vs ws
def JRel {α : Type} (K : PySem.W.Frag) (H0 : L2.Hp) (J : It) (sq : Sq α) (R : RI α) : Prop := ∀ i h H, TExt H0 H → RepH K H h →
  (sq i h = some none → J.stop i H) ∧ ∀ a, sq i h = some (some a) → J.go i H ∧ ∀ x H', J.yld i H x H' → TExt H H' ∧ RepH K H' h ∧ R H' a x
abbrev WI (α : Type) := Env' → Hg → (Sq α → Hg → Prop) → KX → Prop
def tGI {α : Type} (X : Cx) (R : RI α) (W : WI α) : TI := fun σ H Q => ∃ env h q E, RelE X.K H env σ ∧ RepH X.K H h ∧ Takes X (XW X.K H σ E) ∧ W env h q E ∧ ∀ sq J h' H', TExt H H' → RepH X.K H' h' → JRel X.K H' J sq R → q sq h' → Q J H'
structure GI {α : Type} (X : Cx) (tg iter : Expr) (R : RI α) (W : WI α) : Prop where
  pi : PI X tg iter (tGI X R W)
theorem PIimp {X : Cx} {tg e : Expr} {t t' : TI} (h : PI X tg e t) (i : ∀ σ H Q, t' σ H Q → t σ H Q) : PI X tg e t' := ⟨fun pins s σ H Q I q => h.run pins s σ H Q I (i σ H Q q)⟩
/-- targets by items -/
def tGr {α : Type} (X : Cx) (R : RI α) (W : WG α) : TG := fun v σ H Q => ∃ a env h q ex, R H a v ∧ RelE X.K H env σ ∧ RepH X.K H h ∧ Takes X (XWs X.K H ex) ∧ W a env h q ex ∧ ContN X.K H q Q
structure GGr {α : Type} (X : Cx) (tg : Expr) (R : RI α) (W : WG α) : Prop where
  pg : PG X tg (tGr X R W)
section
variable {X : Cx} {N : List Str} {sc ow : Scope} {tg e e2 a b c : Expr} {es elts : List Expr} {pos p2 p tpos : Pos} {We Wa Wb : WE} {Wr : WA} {Wg : WG Val} {Ws : WG (List Val)} {k kk : Nat}
theorem ggr_of (h : GG X tg Wg) : GGr X tg (rV X.K) Wg := ⟨h.pg⟩
def wgPr (n : Nat) (Ws : WG (List Val)) : WG (List Val) := fun vs env h Q ex => vs.length = n ∧ Ws vs env h Q ex
theorem ggr_pair (n : Nat) (C : Cn X N sc ow) (hg : GGs X es Ws) (hn : (assignEach es X.env).length = n := by rfl) (hst : (assignEach es X.env).findIdx? (·.1) = none := by rfl) : GGr X (.Tuple es k pos) (rP X.K) (wgPr n Ws) := by
  refine ⟨PGimp (pg_tup C.calm hg.pg hn hst) ?_⟩
  rintro v σ H Q ⟨vs, env, h, q, ex, ⟨T, ws, rfl, hq, l⟩, re, rh, tk, w, kk⟩
  exact ⟨T, ws, rfl, hq, by rw [← l.length]; exact w.1, vs, env, h, q, ex, l, re, rh, tk, w.2, kk⟩

/-! the iterables -/
def chars (z : Str) : List Val := z.cps.toList.map fun c => .str ⟨#[c]⟩
def itOf (h : Hg) : Val → Option (List Val)
  | .str z => some (chars z)
  | v => seqOf h v
def sqV (v : Val) : Sq Val := fun i h => (itOf h v).map fun xs => xs[i]?
def wItV (We : WE) : WI Val := fun env h Q E => We env h (fun v h1 => (itOf h1 v).isSome = true ∧ Q (sqV v) h1) E
theorem SqF.mono' {K : PySem.W.Frag} {H H' : L2.Hp} {a : Addr} {ws : List V} (t : TExt H H') (h : SqF K H a ws) : SqL K H' a ws := (h.mono t).sql
theorem get_of {α : Type} {o : Option (List α)} {i : Nat} {r : Option α} (e : (o.map fun xs => xs[i]?) = some r) : ∃ xs, o = some xs ∧ xs[i]? = r := by
  cases o with
  | none => cases e
  | some xs => exact ⟨xs, rfl, Option.some.inj e⟩
theorem some_of_isSome {α : Type} {o : Option α} (e : o.isSome = true) : ∃ a, o = some a := by
  cases o with
  | none => cases e
  | some a => exact ⟨a, rfl⟩
/-- a list iterated -/
theorem jrel_seq {K : PySem.W.Frag} {H0 : L2.Hp} {v : Val} {w : V} (r : Rep K H0 v w) (ns : ∀ z, v ≠ .str z) {J : It} (hJ : ∀ i h H xs, TExt H0 H → RepH K H h → seqOf h v = some xs → (xs[i]? = none → J.stop i H) ∧ ∀ a, xs[i]? = some a → J.go i H ∧ ∀ x H', J.yld i H x H' → TExt H H' ∧ RepH K H' h ∧ Rep K H' a x) : JRel K H0 J (sqV v) (rV K) := by
  intro i h H t rh
  have e0 : itOf h v = seqOf h v := by
    cases v <;> first | rfl | exact absurd rfl (ns _)
  refine ⟨fun e => ?_, fun a e => ?_⟩
  · unfold sqV at e
    rw [e0] at e
    obtain ⟨xs, e1, e2⟩ := get_of e
    exact (hJ i h H xs t rh e1).1 e2
  · unfold sqV at e
    rw [e0] at e
    obtain ⟨xs, e1, e2⟩ := get_of e
    exact (hJ i h H xs t rh e1).2 a e2
theorem gi_seq (he : GE X e We) : GI X tg e (rV X.K) (wItV We) := by
  refine ⟨⟨fun pins s σ H R I hw => ?_⟩⟩
  obtain ⟨env, h, q, E, re, rh, tk, w, kont⟩ := hw
  refine thn (he.pe.run pins s σ H (fun u H1 => ∃ v h1, TExt H H1 ∧ RepH X.K H1 h1 ∧ Rep X.K H1 v u ∧ (itOf h1 v).isSome = true ∧ q (sqV v) h1) I ⟨env, h, _, E, re, rh, tk, w, fun v u h1 H1 t1 rh1 r1 w1 => ⟨v, h1, t1, rh1, r1, w1⟩⟩) ?_
  rintro u s1 ⟨x, H1, I1, ru, v, h1, t1, rh1, r1, is, w1⟩
  by_cases hstr : ∃ z, v = .str z
  · obtain ⟨z, rfl⟩ := hstr
    cases r1
    obtain ⟨t, rfl⟩ := ru
    have jr : JRel X.K H1 (Its z) (sqV (.str z)) (rV X.K) := by
      intro i h H t rh
      have hl : z.cps.toList.length = z.cps.size := Array.length_toList
      have e1 : sqV (.str z) i h = some ((chars z)[i]?) := rfl
      have e2 : (chars z)[i]? = (z.cps[i]?).map fun c => Val.str ⟨#[c]⟩ := by
        unfold chars
        rw [List.getElem?_map, Array.getElem?_toList]
      refine ⟨fun e => ?_, fun a e => ?_⟩
      · rw [e1, e2] at e
        have e' := Option.map_eq_none_iff.mp (Option.some.inj e)
        exact Array.getElem?_eq_none_iff.mp e'
      · rw [e1, e2] at e
        obtain ⟨c, hc, ec⟩ := Option.map_eq_some_iff.mp (Option.some.inj e)
        subst ec
        refine ⟨(Array.getElem?_eq_some_iff.mp hc).1, ?_⟩
        rintro x H' ⟨rfl, c', hc', rfl⟩
        rw [hc] at hc'
        cases hc'
        exact ⟨.refl _, rh, .str _⟩
    cases ha : z.cps.all (· < 128)
    · exact wpAny_pyIter_wide ha (pi_one (tk := s1.toks) I1 _ (turn_str _ z t "str_iterator" (.inr rfl)) ⟨_, Heap.get?_push_size _ rfl, rfl, rfl⟩ (kont _ _ h1 H1 t1 rh1 jr w1))
    · exact wpAny_pyIter_ascii ha (pi_one (tk := s1.toks) I1 _ (turn_str _ z t "str_ascii_iterator" (.inl rfl)) ⟨_, Heap.get?_push_size _ rfl, rfl, rfl⟩ (kont _ _ h1 H1 t1 rh1 jr w1))
  · have ns : ∀ z, v ≠ .str z := fun z e => hstr ⟨z, e⟩
    have e0 : itOf h1 v = seqOf h1 v := by
      cases v <;> first | rfl | exact absurd rfl (ns _)
    rw [e0] at is
    obtain ⟨xs, ex⟩ := some_of_isSome is
    obtain ⟨a, ws, rfl, l, c⟩ := seq_of rh1 r1 ex
    cases ru
    rcases c with ⟨c, nt⟩ | ⟨c, ev⟩
    · obtain ⟨its, rv, p, hz⟩ := I1.list c
      refine wpAny_pyIter_list p.isList ?_
      have jr : JRel X.K H1 (Itl X.K a) (sqV v) (rV X.K) := jrel_seq r1 ns fun i h H ys t rh e => by
        obtain ⟨b, us, e1, l2, c2⟩ := seq_of rh (r1.up t) e
        cases e1
        rcases c2 with ⟨c2, _⟩ | ⟨_, ev⟩
        · refine ⟨fun e2 => ⟨us, c2, ?_⟩, fun y e2 => ?_⟩
          · rw [← l2.length]; exact List.getElem?_eq_none_iff.mp e2
          · obtain ⟨x, ex, rx⟩ := l2.get e2
            refine ⟨⟨us, x, c2, ex⟩, ?_⟩
            rintro x' H' ⟨rfl, hx'⟩
            have e3 := hx' us c2
            rw [ex] at e3
            cases e3
            exact ⟨.refl _, rh, rx⟩
        · exact absurd ev (nt _)
      exact pi_one (tk := s1.toks) I1 _ (turn_list a _) ⟨_, Heap.get?_push_size _ rfl, rfl, rfl⟩ (kont _ _ h1 H1 t1 rh1 jr w1)
    · subst ev
      obtain ⟨its, rv, p, hz⟩ := I1.tuple c
      refine wpAny_pyIter_tuple (show s1.heap.IsTuple a its.toArray from p) ?_
      have jr : JRel X.K H1 (Itt X.K a) (sqV (.tup xs)) (rV X.K) := jrel_seq r1 ns fun i h H ys t rh e => by
        obtain ⟨b, us, e1, l2, c2⟩ := seq_of rh (r1.up t) e
        cases e1
        rcases c2 with ⟨_, nt⟩ | ⟨c2, _⟩
        · exact absurd rfl (nt _)
        · refine ⟨fun e2 => ⟨us, c2, ?_⟩, fun y e2 => ?_⟩
          · rw [← l2.length]; exact List.getElem?_eq_none_iff.mp e2
          · obtain ⟨x, ex, rx⟩ := l2.get e2
            refine ⟨⟨us, x, c2, ex⟩, ?_⟩
            rintro x' H' ⟨rfl, hx'⟩
            have e3 := hx' us c2
            rw [ex] at e3
            cases e3
            exact ⟨.refl _, rh, rx⟩
      exact pi_one (tk := s1.toks) I1 _ (turn_tuple a _) ⟨_, Heap.get?_push_size _ rfl, rfl, rfl⟩ (kont _ _ h1 H1 t1 rh1 jr w1)

/-- ranges -/
def sqR (lo c : Int) (n : Nat) : Sq Val := fun i _ => some (if i < n then some (.int (lo + (i : Nat) * c)) else none)
def sm62 (i : Int) : Prop := -(2 ^ 62) ≤ i ∧ i < 2 ^ 62
def rgP (vs : List Val) (h : Hg) (Q : Sq Val → Hg → Prop) : Prop := match vs with
  | [.int j] => sm62 j ∧ Q (sqR 0 1 j.toNat) h
  | [.int i, .int j] => (sm62 i ∧ sm62 j) ∧ Q (sqR i 1 (j - i).toNat) h
  | [.int i, .int j, .int c] => (sm62 i ∧ sm62 j ∧ c = -1) ∧ Q (sqR i (-1) (i - j).toNat) h
  | _ => False
def wRg (Wr : WA) : WI Val := fun env h Q E => Wr env h (fun vs h1 => rgP vs h1 Q) E
theorem jrel_rng {K : PySem.W.Frag} {H0 : L2.Hp} {lo : Int} {n : Nat} : JRel K H0 (Itr lo n) (sqR lo 1 n) (rV K) := by
  intro i h H t rh
  unfold sqR
  by_cases hi : i < n
  · rw [if_pos hi]
    refine ⟨fun e => (by cases e), fun a e => ?_⟩
    cases e
    refine ⟨hi, ?_⟩
    rintro x H' ⟨rfl, rfl⟩
    refine ⟨.refl _, rh, ?_⟩
    rw [Int.mul_one]
    exact .int _
  · rw [if_neg hi]
    exact ⟨fun _ => Nat.le_of_not_lt hi, fun a e => (by cases e)⟩
theorem jrel_rngC {K : PySem.W.Frag} {H0 : L2.Hp} {lo c : Int} {n : Nat} : JRel K H0 (Itc lo c n) (sqR lo c n) (rV K) := by
  intro i h H t rh
  unfold sqR
  by_cases hi : i < n
  · rw [if_pos hi]
    refine ⟨fun e => (by cases e), fun a e => ?_⟩
    cases e
    refine ⟨hi, ?_⟩
    rintro x H' ⟨rfl, rfl⟩
    exact ⟨.refl _, rh, .int _⟩
  · rw [if_neg hi]
    exact ⟨fun _ => Nat.le_of_not_lt hi, fun a e => (by cases e)⟩
theorem rg1_cases {vs : List Val} {h : Hg} {Q : Sq Val → Hg → Prop} {K : PySem.W.Frag} {H : L2.Hp} {us : List V} (r : RepL K H vs us) (l : us.length = 1) (w : rgP vs h Q) : ∃ j : Int, us = [.int j] ∧ sm62 j ∧ Q (sqR 0 1 j.toNat) h := by
  unfold rgP at w
  split at w
  · obtain ⟨u, rfl, r1⟩ := r.one
    cases r1
    exact ⟨_, rfl, w⟩
  · rw [← r.length] at l; cases l
  · rw [← r.length] at l; cases l
  · exact w.elim
theorem rg2_cases {vs : List Val} {h : Hg} {Q : Sq Val → Hg → Prop} {K : PySem.W.Frag} {H : L2.Hp} {us : List V} (r : RepL K H vs us) (l : us.length = 2) (w : rgP vs h Q) : ∃ i j : Int, us = [.int i, .int j] ∧ (sm62 i ∧ sm62 j) ∧ Q (sqR i 1 (j - i).toNat) h := by
  unfold rgP at w
  split at w
  · rw [← r.length] at l; cases l
  · obtain ⟨u, v, rfl, r1, r2⟩ := r.two
    cases r1; cases r2
    exact ⟨_, _, rfl, w⟩
  · rw [← r.length] at l; cases l
  · exact w.elim
theorem rg3_cases {vs : List Val} {h : Hg} {Q : Sq Val → Hg → Prop} {K : PySem.W.Frag} {H : L2.Hp} {us : List V} (r : RepL K H vs us) (l : us.length = 3) (w : rgP vs h Q) : ∃ i j : Int, us = [.int i, .int j, .int (-1)] ∧ (sm62 i ∧ sm62 j) ∧ Q (sqR i (-1) (i - j).toNat) h := by
  unfold rgP at w
  split at w
  · rw [← r.length] at l; cases l
  · rw [← r.length] at l; cases l
  · cases r with
    | cons ra r =>
      obtain ⟨u, v, rfl, r1, r2⟩ := r.two
      cases ra; cases r1; cases r2
      obtain ⟨⟨w1, w2, rfl⟩, w3⟩ := w
      exact ⟨_, _, rfl, ⟨w1, w2⟩, w3⟩
  · exact w.elim
theorem gi_rg1 (C : Cn X N sc ow) (hm : X.mg "range" = none) (ha : GE X a Wa) (hg : glbB sc "range" = true := by decide +kernel) (hs : starEach [a] X.env = (false, eval a X.env) :: starEach [] X.env := by rfl) : GI X tg (.Call (.Name "range" p) [a] [] pos) (rV X.K) (wRg (wCons Wa wNil)) := by
  refine ⟨PIimp (pi_range1 (C.gl hg) hm (pa_cons ha.pe pa_nil hs) hs) ?_⟩
  rintro σ H Q ⟨env, h, q, E, re, rh, tk, w, kont⟩
  refine ⟨env, h, _, E, re, rh, tk, w, fun v u h1 H1 t1 rh1 r1 w1 => ?_⟩
  obtain ⟨j, e, w2, w3⟩ := rg1_cases (us := [u]) (.cons r1 .nil) rfl w1
  cases e
  exact ⟨j, rfl, w2.1, w2.2, kont _ _ h1 H1 t1 rh1 jrel_rng w3⟩
theorem gi_rg2 (C : Cn X N sc ow) (hm : X.mg "range" = none) (ha : GE X a Wa) (hb : GE X b Wb) (hg : glbB sc "range" = true := by decide +kernel) (hs : starEach [a, b] X.env = (false, eval a X.env) :: starEach [b] X.env := by rfl) (hs2 : starEach [b] X.env = (false, eval b X.env) :: starEach [] X.env := by rfl) : GI X tg (.Call (.Name "range" p) [a, b] [] pos) (rV X.K) (wRg (wCons Wa (wCons Wb wNil))) := by
  refine ⟨PIimp (pi_range2 (C.gl hg) hm (pa_cons ha.pe (pa_cons hb.pe pa_nil hs2) hs) (by rw [hs, hs2]; rfl) hs2) ?_⟩
  rintro σ H Q ⟨env, h, q, E, re, rh, tk, w, kont⟩
  refine ⟨env, h, _, E, re, rh, tk, w, fun v u h1 H1 t1 rh1 r1 w1 => ?_⟩
  refine ⟨env, h1, _, E, re.up t1, rh1, takesUp t1 tk, w1, fun v2 u2 h2 H2 t2 rh2 r2 w2 => ?_⟩
  obtain ⟨i, j, e, ⟨w3, w4⟩, w5⟩ := rg2_cases (us := [u, u2]) (.cons (r1.up t2) (.cons r2 .nil)) rfl w2
  cases e
  exact ⟨i, j, rfl, ⟨w3.1, w3.2, w4.1, w4.2⟩, kont _ _ h2 H2 (t1.trans t2) rh2 jrel_rng w5⟩
theorem gi_rg3 (C : Cn X N sc ow) (hm : X.mg "range" = none) (ha : GE X a Wa) (hb : GE X b Wb) {Wc : WE} (hc : GE X c Wc) (hg : glbB sc "range" = true := by decide +kernel) (hs : starEach [a, b, c] X.env = (false, eval a X.env) :: starEach [b, c] X.env := by rfl) (hs2 : starEach [b, c] X.env = (false, eval b X.env) :: starEach [c] X.env := by rfl) (hs3 : starEach [c] X.env = (false, eval c X.env) :: starEach [] X.env := by rfl) (hpl : (backTo pos (starEach [b, c] X.env)).any (·.1) = false := by rfl) : GI X tg (.Call (.Name "range" p) [a, b, c] [] pos) (rV X.K) (wRg (wCons Wa (wCons Wb (wCons Wc wNil)))) := by
  refine ⟨PIimp (pi_range3 (C.gl hg) hm (pa_cons ha.pe (pa_cons hb.pe (pa_cons hc.pe pa_nil hs3) hs2) hs) hs hpl) ?_⟩
  rintro σ H Q ⟨env, h, q, E, re, rh, tk, w, kont⟩
  refine ⟨env, h, _, E, re, rh, tk, w, fun v u h1 H1 t1 rh1 r1 w1 => ?_⟩
  refine ⟨env, h1, _, E, re.up t1, rh1, takesUp t1 tk, w1, fun v2 u2 h2 H2 t2 rh2 r2 w2 => ?_⟩
  refine ⟨env, h2, _, E, re.up (t1.trans t2), rh2, takesUp (t1.trans t2) tk, w2, fun v3 u3 h3 H3 t3 rh3 r3 w3 => ?_⟩
  obtain ⟨i, j, e, ⟨w3, w4⟩, w5⟩ := rg3_cases (us := [u, u2, u3]) (.cons (r1.up (t2.trans t3)) (.cons (r2.up t3) (.cons r3 .nil))) rfl w3
  cases e
  exact ⟨i, j, -1, _, rfl, .neg w3.1 w3.2 w4.1 w4.2, kont _ _ h3 H3 ((t1.trans t2).trans t3) rh3 jrel_rngC w5⟩

/-- enumerate -/
def sqE (v : Val) : Sq (List Val) := fun i h => (seqOf h v).map fun xs => (xs[i]?).map fun x => [Val.int (i : Nat), x]
def sqvE (v : Val) : Sq (List Val) := fun i h => match seqOf h v with
  | none => none
  | some xs => match xs[i]? with
    | some x => some (some [Val.int (i : Nat), x])
    | none => if xs.length = i then some none else none
def wEnum (Wa : WE) : WI (List Val) := fun env h Q E => Wa env h (fun v h1 => (seqOf h1 v).isSome = true ∧ Q (sqvE v) h1) E
theorem sqk_of {K : PySem.W.Frag} {H : L2.Hp} {h : Hg} (rh : RepH K H h) {v : Val} {w : V} {xs : List Val} (r : Rep K H v w) (e : seqOf h v = some xs) : ∃ k a, w = .ref a ∧ (k = true ↔ ∃ ys, v = .tup ys) ∧ ∃ ws, RepL K H xs ws ∧ SqK K H k a ws := by
  obtain ⟨a, ws, rfl, l, c⟩ := seq_of rh r e
  rcases c with ⟨c, nt⟩ | ⟨c, ev⟩
  · exact ⟨false, a, rfl, ⟨fun z => (by cases z), fun ⟨ys, z⟩ => absurd z (nt _)⟩, ws, l, c⟩
  · exact ⟨true, a, rfl, ⟨fun _ => ⟨_, ev⟩, fun _ => rfl⟩, ws, l, c⟩
theorem sqk_up {K : PySem.W.Frag} {H : L2.Hp} {h : Hg} (rh : RepH K H h) {v : Val} {a : Addr} {k : Bool} {xs : List Val} (r : Rep K H v (.ref a)) (hk : k = true ↔ ∃ ys, v = .tup ys) (e : seqOf h v = some xs) : ∃ ws, RepL K H xs ws ∧ SqK K H k a ws := by
  obtain ⟨k', a', e1, h1, ws, l, c⟩ := sqk_of rh r e
  cases e1
  have : k = k' := by
    cases k <;> cases k' <;> first | rfl | skip
    · exact absurd (hk.mpr (h1.mp rfl)) Bool.false_ne_true
    · exact absurd (h1.mpr (hk.mp rfl)) Bool.false_ne_true
  subst this
  exact ⟨ws, l, c⟩
theorem gi_enum (C : Cn X N sc ow) (hm : X.mg "enumerate" = none) (ha : GE X e Wa) (hg : glbB sc "enumerate" = true := by decide +kernel) (hs : starEach [e] X.env = (false, eval e X.env) :: starEach [] X.env := by rfl) : GI X (.Tuple elts kk tpos) (.Call (.Name "enumerate" p) [e] [] pos) (rP X.K) (wEnum Wa) := by
  refine ⟨PIimp (pi_enumK (C.gl hg) hm (pa_cons ha.pe pa_nil hs) hs) ?_⟩
  rintro σ H Q ⟨env, h, q, E, re, rh, tk, w, kont⟩
  refine ⟨env, h, _, E, re, rh, tk, w, fun v u h1 H1 t1 rh1 r1 w1 => ?_⟩
  obtain ⟨is, w2⟩ := w1
  obtain ⟨xs, ex⟩ := some_of_isSome is
  obtain ⟨k, a, rfl, hk, ws, l, c⟩ := sqk_of rh1 r1 ex
  refine ⟨k, a, ws, rfl, c, kont _ _ h1 H1 t1 rh1 ?_ w2⟩
  intro i h2 H2 t2 rh2
  refine ⟨fun e => ?_, fun y e => ?_⟩
  · unfold sqvE at e
    split at e
    · cases e
    · rename_i ys ey
      split at e
      · cases e
      · split at e
        · rename_i hl
          obtain ⟨us, l2, c2⟩ := sqk_up rh2 (r1.up t2) hk ey
          exact ⟨us, c2, by rw [← l2.length]; exact hl⟩
        · cases e
  · unfold sqvE at e
    split at e
    · cases e
    · rename_i ys ey
      split at e
      · rename_i z ez
        cases e
        obtain ⟨us, l2, c2⟩ := sqk_up rh2 (r1.up t2) hk ey
        obtain ⟨x, e2, rx⟩ := l2.get ez
        refine ⟨⟨us, x, c2, e2⟩, ?_⟩
        rintro w' H' ⟨T, x', rfl, hT, rfl, hx'⟩
        have e3 := hx' us c2
        rw [e2] at e3
        cases e3
        exact ⟨.new hT, rh2.new hT, T, _, rfl, .inl (.inl upd_same), .cons (.int _) (.cons (rx.up (.new hT)) .nil)⟩
      · split at e <;> cases e

/-- zip of two -/
def sqZ (v u : Val) : Sq (List Val) := fun i h => match seqOf h v, seqOf h u with
  | some xs, some ys => match xs[i]?, ys[i]? with
    | some x, some y => some (some [x, y])
    | _, _ => if i ≤ xs.length ∧ i ≤ ys.length then some none else none
  | _, _ => none
def wZip (Wa Wb : WE) : WI (List Val) := fun env h Q E => Wa env h (fun v h1 => Wb env h1 (fun u h2 => ((seqOf h2 v).isSome = true ∧ (seqOf h2 u).isSome = true) ∧ Q (sqZ v u) h2) E) E
theorem gi_zip (C : Cn X N sc ow) (hm : X.mg "zip" = none) (ha : GE X e Wa) (hb : GE X e2 Wb) (hg : glbB sc "zip" = true := by decide +kernel) (hs : starEach [e, e2] X.env = (false, eval e X.env) :: starEach [e2] X.env := by rfl) (hs2 : starEach [e2] X.env = (false, eval e2 X.env) :: starEach [] X.env := by rfl) (hpl : (backTo pos (starEach [e2] X.env)).any (·.1) = false := by rfl) : GI X (.Tuple elts kk tpos) (.Call (.Name "zip" p) [e, e2] [] pos) (rP X.K) (wZip Wa Wb) := by
  refine ⟨PIimp (pi_zipK (C.gl hg) hm (pa_cons ha.pe (pa_cons hb.pe pa_nil hs2) hs) hs hpl) ?_⟩
  rintro σ H Q ⟨env, h, q, E, re, rh, tk, w, kont⟩
  refine ⟨env, h, _, E, re, rh, tk, w, fun v u h1 H1 t1 rh1 r1 w1 => ?_⟩
  refine ⟨env, h1, _, E, re.up t1, rh1, takesUp t1 tk, w1, fun v2 u2 h2 H2 t2 rh2 r2 w2 => ?_⟩
  obtain ⟨⟨is1, is2⟩, w3⟩ := w2
  obtain ⟨xs, ex⟩ := some_of_isSome is1
  obtain ⟨ys, ey⟩ := some_of_isSome is2
  have r1' := r1.up t2
  obtain ⟨k1, a, rfl, hk1, ws, l, c⟩ := sqk_of rh2 r1' ex
  obtain ⟨k2, b, rfl, hk2, us, l2, c2⟩ := sqk_of rh2 r2 ey
  refine ⟨k1, k2, a, b, ws, us, rfl, c, c2, kont _ _ h2 H2 (t1.trans t2) rh2 ?_ w3⟩
  intro i h3 H3 t3 rh3
  refine ⟨fun e => ?_, fun y e => ?_⟩
  · unfold sqZ at e
    split at e
    · rename_i xs' ys' ex' ey'
      obtain ⟨ws', l', c'⟩ := sqk_up rh3 (r1'.up t3) hk1 ex'
      obtain ⟨us', l2', c2'⟩ := sqk_up rh3 (r2.up t3) hk2 ey'
      have q1 := l'.length
      have q2 := l2'.length
      split at e
      · cases e
      · rename_i no
        split at e
        · rename_i hle
          refine ⟨ws', us', c', c2', by omega, by omega, ?_⟩
          by_cases h1 : i < xs'.length
          · by_cases h2 : i < ys'.length
            · exact absurd (List.getElem?_eq_getElem h2) (no _ _ (List.getElem?_eq_getElem h1))
            · exact .inr (by omega)
          · exact .inl (by omega)
        · cases e
    · cases e
  · unfold sqZ at e
    split at e
    · rename_i xs' ys' ex' ey'
      obtain ⟨ws', l', c'⟩ := sqk_up rh3 (r1'.up t3) hk1 ex'
      obtain ⟨us', l2', c2'⟩ := sqk_up rh3 (r2.up t3) hk2 ey'
      split at e
      · rename_i x y e1 e2
        cases e
        obtain ⟨x1, e3, rx⟩ := l'.get e1
        obtain ⟨y1, e4, ry⟩ := l2'.get e2
        refine ⟨⟨ws', us', x1, y1, c', c2', e3, e4⟩, ?_⟩
        rintro w' H' ⟨T, x', y', rfl, hT, rfl, hx', hy'⟩
        have e5 := hx' ws' c'
        rw [e3] at e5
        cases e5
        have e6 := hy' us' c2'
        rw [e4] at e6
        cases e6
        exact ⟨.new hT, rh3.new hT, T, _, rfl, .inl (.inl upd_same), .cons (rx.up (.new hT)) (.cons (ry.up (.new hT)) .nil)⟩
      · split at e <;> cases e
    · cases e

/-- reversed(list or tuple); the list has the same length at each turn -/
def sqRv (v : Val) (n : Nat) : Sq Val := fun i h => if i < n then (match seqOf h v with
  | some xs => match xs[n - 1 - i]? with
    | some x => some (some x)
    | none => none
  | none => none) else some none
def wRvd (Wa : WE) : WI Val := fun env h Q E => Wa env h (fun v h1 => onSeq h1 v fun xs => Q (sqRv v xs.length) h1) E
theorem gi_rev (C : Cn X N sc ow) (hm : X.mg "reversed" = none) (ha : GE X e Wa) (hg : glbB sc "reversed" = true := by decide +kernel) (hs : starEach [e] X.env = (false, eval e X.env) :: starEach [] X.env := by rfl) : GI X tg (.Call (.Name "reversed" p) [e] [] pos) (rV X.K) (wRvd Wa) := by
  refine ⟨PIimp (RT.pi_revA (C.gl hg) hm ha.pe hs) ?_⟩
  rintro σ H Q ⟨env, h, q, E, re, rh, tk, w, kont⟩
  refine ⟨env, h, _, E, re, rh, tk, w, fun v u h1 H1 t1 rh1 r1 w1 => ?_⟩
  obtain ⟨xs, ex, w2⟩ := onSeq_of w1
  obtain ⟨a, ws, rfl, l, c⟩ := seq_of rh1 r1 ex
  have ln := l.length
  rcases c with ⟨c, nt⟩ | ⟨c, ev⟩
  · refine ⟨a, ws, rfl, .inl ⟨c, kont (sqRv v xs.length) _ h1 H1 t1 rh1 ?_ w2⟩⟩
    intro i h2 H2 t2 rh2
    refine ⟨fun e => ?_, fun y e => ?_⟩
    · unfold sqRv at e
      split at e
      · split at e
        · split at e <;> cases e
        · cases e
      · rename_i hi
        exact (show ws.length ≤ i by omega)
    · unfold sqRv at e
      split at e
      · rename_i hi
        split at e
        · rename_i ys ey
          split at e
          · rename_i z ez
            cases e
            obtain ⟨b, us, e1, l2, c2⟩ := seq_of rh2 (r1.up t2) ey
            cases e1
            rcases c2 with ⟨c2, _⟩ | ⟨_, ev⟩
            · obtain ⟨x, e3, rx⟩ := l2.get ez
              rw [ln] at e3
              refine ⟨⟨by omega, us, x, c2, e3⟩, ?_⟩
              rintro x' H' ⟨rfl, hx'⟩
              have e4 := hx' us c2
              rw [e3] at e4
              cases e4
              exact ⟨.refl _, rh2, rx⟩
            · exact absurd ev (nt _)
          · cases e
        · cases e
      · cases e
  · refine ⟨a, ws, rfl, .inr ⟨c, kont (sqRv v xs.length) _ h1 H1 t1 rh1 ?_ w2⟩⟩
    intro i h2 H2 t2 rh2
    refine ⟨fun e => ?_, fun y e => ?_⟩
    · unfold sqRv at e
      split at e
      · split at e
        · split at e <;> cases e
        · cases e
      · rename_i hi
        exact (show ws.length ≤ i by omega)
    · unfold sqRv at e
      split at e
      · rename_i hi
        split at e
        · rename_i ys ey
          split at e
          · rename_i z ez
            cases e
            obtain ⟨b, us, e1, l2, c2⟩ := seq_of rh2 (r1.up t2) ey
            cases e1
            rcases c2 with ⟨_, nt⟩ | ⟨c2, _⟩
            · exact absurd ev (nt _)
            · obtain ⟨x, e3, rx⟩ := l2.get ez
              rw [ln] at e3
              refine ⟨⟨by omega, us, x, c2, e3⟩, ?_⟩
              rintro x' H' ⟨rfl, hx'⟩
              have e4 := hx' us c2
              rw [e3] at e4
              cases e4
              exact ⟨.refl _, rh2, rx⟩
          · cases e
        · cases e
      · cases e

/-! ### for -/
def turnOf {α : Type} (o : Option (Option α)) (fin : Prop) (k : α → Prop) : Prop := match o with
  | none => False
  | some none => fin
  | some (some a) => k a
def wFor {α : Type} (Wi : WI α) (Wg : WG α) (S : WS) : WS := fun D env h => Wi env h (fun sq h1 => ∃ I : Nat → Nat → Env' → Hg → Prop, (∃ m, Clo (I 0 m) env h1) ∧ ∀ i m env h, I i m env h → turnOf (sq i h) (D.nx env h) fun a => Wg a env h (fun env2 h2 => S { D with nx := Clo fun e' h' => ∃ m', m' < m ∧ I (i + 1) m' e' h', ct := Clo fun e' h' => ∃ m', m' < m ∧ I (i + 1) m' e' h', bk := D.nx } env2 h2) D.ex) (fun x h' => D.ex x env h')
theorem gs_for {α : Type} {R : RI α} {Wi : WI α} {Wg : WG α} {S : WS} {iter : Expr} {body : List Stmt} (C : Cn X N sc ow) (hi : GI X tg iter R Wi) (hg : GGr X tg R Wg) (hb : GSs X body S) (hs : ∀ x, foldedSetIterable iter X.env x = pure x := by intro _; rfl) :
    GS X (.For tg iter body [] pos) (wFor Wi Wg S) := by
  refine ⟨PSimp (ps_for C.pas C.calm hi.pi hg.pg hb.ps hs) ?_⟩
  rintro D σ H0 ⟨env, h, d, re, rh, tk, w, kn, kr, kb, kc⟩
  refine ⟨env, h, _, _, re, rh, takesE re tk, w, fun sq J h1 H1 t01 rh1 jr w1 => ?_⟩
  obtain ⟨P, ⟨m0, e0, h0, s0, s1, j0⟩, turn⟩ := w1
  refine ⟨fun i m σ H => TExt H1 H ∧ ∃ env h, RelE X.K H env σ ∧ RepH X.K H h ∧ P i m env h, ⟨m0, .refl _, e0, h0, (re.up t01).sub s0, rh1.sub s1, j0⟩, ?_⟩
  rintro i m σ2 H2 ⟨t12, env2, h2, re2, rh2, j2⟩
  have tk2 := takesUpS (t01.trans t12) tk
  have tn := turn i m env2 h2 j2
  obtain ⟨js, jg⟩ := jr i h2 H2 t12 rh2
  cases es : sq i h2 with
  | none => rw [es] at tn; exact (show False from tn).elim
  | some o =>
    cases o with
    | none => rw [es] at tn; exact .inl ⟨js es, kn env2 h2 σ2 H2 (t01.trans t12) re2 rh2 tn⟩
    | some a =>
      rw [es] at tn
      obtain ⟨go, yl⟩ := jg a es
      refine .inr ⟨go, fun σ' H' => TExt H1 H' ∧ ∃ env' h', RelE X.K H' env' σ' ∧ RepH X.K H' h' ∧ ∃ m', m' < m ∧ P (i + 1) m' env' h', fun σ' H' ⟨t', env', h', re', rh', m', lt, j'⟩ => ⟨m', lt, t', env', h', re', rh', j'⟩, fun x H3 y => ?_⟩
      obtain ⟨t23, rh3, rx⟩ := yl x H3 y
      have tk3 := takesUpS t23 tk2
      refine ⟨a, env2, h2, _, d.ex, rx, re2.up t23, rh3, tk3, tn, fun env4 h4 σ4 H4 t34 re4 rh4 w4 => ?_⟩
      have t14 := (t12.trans t23).trans t34
      have k : ContN X.K H4 (Clo fun e' h' => ∃ m', m' < m ∧ P (i + 1) m' e' h') (fun σ' H' => TExt H1 H' ∧ ∃ env' h', RelE X.K H' env' σ' ∧ RepH X.K H' h' ∧ ∃ m', m' < m ∧ P (i + 1) m' env' h') := fun env' h' σ' H' t' re' rh' ⟨e1, h1, s1, s2, z⟩ => ⟨t14.trans t', e1, h1, re'.sub s1, rh'.sub s2, z⟩
      exact ⟨env4, h4, { d with nx := Clo fun e' h' => ∃ m', m' < m ∧ P (i + 1) m' e' h', ct := Clo fun e' h' => ∃ m', m' < m ∧ P (i + 1) m' e' h', bk := d.nx }, re4, rh4, takesUpS t34 tk3, w4, k, kr.up (t01.trans t14), kn.up (t01.trans t14), k⟩
end
end G

set_option Elab.async false
set_option linter.all false
set_option maxRecDepth 100000
set_option maxHeartbeats 4000000
namespace G
open PySem PySem.Spec L2
open PyProof.Rows hiding St

/-! ### list comprehensions -/
def wipeG (env : Env') : List Nat → Env'
  | [] => env
  | v :: vs => (wipeG env vs).set v none
theorem RelE.wipe {K : PySem.W.Frag} {H : L2.Hp} {env : Env'} {σ : L2.St} (r : RelE K H env σ) : ∀ vs : List Nat, RelE K H (wipeG env vs) (wipe σ vs)
  | [] => r
  | v :: vs => (RelE.wipe r vs).unset v
theorem wipe_mem {σ : L2.St} : ∀ {vs : List Nat} {i : Nat} {o : Option V}, i ∈ vs → wipe (σ.set i o) vs = wipe σ vs
  | v :: vs, i, o, h => by
    unfold wipe
    by_cases e : i = v
    · subst e
      by_cases hm : i ∈ vs
      · rw [wipe_mem hm]
      · have key : ∀ (us : List Nat) (σ : L2.St), i ∉ us → wipe (σ.set i o) us = (wipe σ us).set i o := by
          intro us
          induction us with
          | nil => intro σ _; rfl
          | cons u us ih =>
            intro σ hn
            unfold wipe
            rw [ih σ (fun z => hn (List.mem_cons_of_mem _ z)), List.set_comm _ _ (fun z => hn (by rw [z]; exact List.mem_cons_self))]
        rw [key vs σ hm, List.set_set]
    · rw [wipe_mem (List.mem_of_ne_of_mem e h)]
theorem wipe_sub {σ : L2.St} : ∀ us vs : List Nat, (∀ i ∈ us, i ∈ vs) → wipe (wipe σ us) vs = wipe σ vs
  | [], _, _ => rfl
  | u :: us, vs, h => by
    show wipe ((wipe σ us).set u none) vs = _
    rw [wipe_mem (h u List.mem_cons_self)]
    exact wipe_sub us vs fun i hi => h i (List.mem_cons_of_mem _ hi)
def ContV (K : PySem.W.Frag) (H : L2.Hp) (σ : L2.St) (vs : List Nat) (q : Env' → Hg → Prop) (Q : L2.St → L2.Hp → Prop) : Prop := ∀ env' h' σ' H', TExt H H' → RelE K H' env' σ' → RepH K H' h' → wipe σ' vs = wipe σ vs → q env' h' → Q σ' H'
abbrev WC (α : Type) := α → Env' → Hg → (Env' → Hg → Prop) → Prop
def tGc {α : Type} (K : PySem.W.Frag) (R : RI α) (vs : List Nat) (W : WC α) : TG := fun v σ H Q => ∃ a env h q, R H a v ∧ RelE K H env σ ∧ RepH K H h ∧ W a env h q ∧ ContV K H σ vs q Q
def tGcs (K : PySem.W.Frag) (vs : List Nat) (W : WC (List Val)) : TGs := fun v σ H Q => ∃ a env h q, RepL K H a v ∧ RelE K H env σ ∧ RepH K H h ∧ W a env h q ∧ ContV K H σ vs q Q
structure GC {α : Type} (X : Cx) (tg : Expr) (R : RI α) (vs : List Nat) (W : WC α) : Prop where
  pg : PG X tg (tGc X.K R vs W)
structure GCs (X : Cx) (tgs : List Expr) (vs : List Nat) (W : WC (List Val)) : Prop where
  pg : PGs X tgs (tGcs X.K vs W)
theorem takes_never {X : Cx} {K : PySem.W.Frag} {H : L2.Hp} {σ : L2.St} : Takes X (XW K H σ fun _ _ => False) := fun u s' ⟨a, B, sI, pins, σ', H', cls, d, e, I, nb, up, sky, na, os, ag, w⟩ => by
  obtain ⟨_, x, h', _, _, _, z⟩ := w
  exact z.elim
section
variable {X : Cx} {N : List Str} {sc ow : Scope} {e : Expr} {es : List Expr} {pos : Pos} {x : Str} {vs : List Nat} {Wc : WC Val} {Wp Ws : WC (List Val)}
def wcName (i : Nat) : WC Val := fun v env h q => q (env.set i (some v)) h
theorem gc_name (C : Cn X N sc ow) (i : Nat) (hN : N[i]? = some x := by decide +kernel) (ho : ownB ow x = true := by decide +kernel) (hv : i ∈ vs := by decide +kernel) : GC X (.Name x pos) (rV X.K) vs (wcName i) := by
  obtain ⟨l, f⟩ := C.st x ho
  refine ⟨PGimp (pg_name (by rw [C.hN]; exact C.nd) (by rw [C.hN]; exact hN) l f) ?_⟩
  rintro v σ H Q ⟨a, env, h, q, r, re, rh, w, k⟩
  exact k _ h _ H (.refl H) (re.set i r) rh (wipe_mem hv) w
def wcNil : WC (List Val) := fun vs env h q => vs = [] ∧ q env h
def wcCons (Wc : WC Val) (Ws : WC (List Val)) : WC (List Val) := fun vs env h q => match vs with
  | v :: r => Wc v env h (fun env1 h1 => Ws r env1 h1 q)
  | [] => False
theorem gcs_nil : GCs X [] vs wcNil := by
  refine ⟨PGsimp pgs_nil ?_⟩
  rintro v σ H Q ⟨a, env, h, q, r, re, rh, w, k⟩
  obtain ⟨rfl, w⟩ := w
  cases r
  exact ⟨rfl, k _ _ _ _ (.refl H) re rh rfl w⟩
theorem gcs_cons (h1 : GC X e (rV X.K) vs Wc) (h2 : GCs X es vs Ws) (hs : (assignEach (e :: es) X.env).map (·.2) = assign e X.env :: (assignEach es X.env).map (·.2) := by rfl) : GCs X (e :: es) vs (wcCons Wc Ws) := by
  refine ⟨PGsimp (pgs_cons h1.pg h2.pg hs) ?_⟩
  rintro v σ H Q ⟨a, env, h, q, r, re, rh, w, k⟩
  cases r with
  | nil => exact (show False from w).elim
  | @cons v0 w0 us ws r0 rr =>
    refine ⟨w0, ws, rfl, v0, env, h, _, r0, re, rh, w, fun env1 h1 σ1 H1 t1 re1 rh1 wp w1 => ?_⟩
    exact ⟨us, env1, h1, q, rr.up t1, re1, rh1, w1, fun env2 h2 σ2 H2 t2 re2 rh2 wp2 w2 => k env2 h2 σ2 H2 (t1.trans t2) re2 rh2 (wp2.trans wp) w2⟩
def wcTup (n : Nat) (Ws : WC (List Val)) : WC Val := fun v env h q => onSeq h v fun xs => xs.length = n ∧ Ws xs env h q
theorem gc_tup {k : Nat} (n : Nat) (C : Cn X N sc ow) (hg : GCs X es vs Ws) (hn : (assignEach es X.env).length = n := by rfl) (hst : (assignEach es X.env).findIdx? (·.1) = none := by rfl) : GC X (.Tuple es k pos) (rV X.K) vs (wcTup n Ws) := by
  refine ⟨⟨fun pins s σ H v u Q I r hw => ?_⟩⟩
  obtain ⟨vv, env, h, q, rv, re, rh, w, kk⟩ := hw
  obtain ⟨xs, e, hl, w⟩ := onSeq_of w
  obtain ⟨a, ws, rfl, l, c⟩ := seq_of rh rv e
  have hl2 : ws.length = n := by rw [← l.length]; exact hl
  have w2 : tGcs X.K vs Ws ws σ H Q := ⟨xs, env, h, q, l, re, rh, w, kk⟩
  rcases c with c | c
  · exact (pg_lst C.calm hg.pg hn hst).run pins s σ H _ u Q I r ⟨a, ws, rfl, c.1, hl2, w2⟩
  · exact (pg_tup C.calm hg.pg hn hst).run pins s σ H _ u Q I r ⟨a, ws, rfl, c.1, hl2, w2⟩
def wcPr (n : Nat) (Ws : WC (List Val)) : WC (List Val) := fun vs env h q => vs.length = n ∧ Ws vs env h q
theorem gc_pair {k : Nat} (n : Nat) (C : Cn X N sc ow) (hg : GCs X es vs Ws) (hn : (assignEach es X.env).length = n := by rfl) (hst : (assignEach es X.env).findIdx? (·.1) = none := by rfl) : GC X (.Tuple es k pos) (rP X.K) vs (wcPr n Ws) := by
  refine ⟨PGimp (pg_tup C.calm hg.pg hn hst) ?_⟩
  rintro v σ H Q ⟨a, env, h, q, ⟨T, ws, rfl, hq, l⟩, re, rh, w, kk⟩
  exact ⟨T, ws, rfl, hq, by rw [← l.length]; exact w.1, a, env, h, q, l, re, rh, w.2, kk⟩
end
/-- expressions and tests that let no exception out -/
def tG0 (K : PySem.W.Frag) (W : WE) : TE := fun σ H Q => ∃ env h q, RelE K H env σ ∧ RepH K H h ∧ W env h q (fun _ _ => False) ∧ ContE K H q Q
def tGT0 (K : PySem.W.Frag) (W : WT) : TT := fun σ H Q => ∃ env h q, RelE K H env σ ∧ RepH K H h ∧ W env h q (fun _ _ => False) ∧ ContT K H q Q
section
variable {X : Cx} {e c : Expr} {We : WE} {Wt : WT}
theorem GE.zero (h : GE X e We) : PE X e (tG0 X.K We) := PEimp h.pe fun σ H Q ⟨env, h, q, re, rh, w, k⟩ => ⟨env, h, q, _, re, rh, takes_never, w, k⟩
structure GTs (X : Cx) (ifs : List Expr) (W : WT) : Prop where
  pt : PTs X ifs (tGT0 X.K W)
theorem PTsimp {ifs : List Expr} {t t' : TT} (h : PTs X ifs t) (i : ∀ σ H Q, t' σ H Q → t σ H Q) : PTs X ifs t' := ⟨fun pins s σ H Q I q => h.run pins s σ H Q I (i σ H Q q)⟩
def wYes : WT := fun _ h Q _ => Q true h
theorem gts_nil : GTs X [] wYes := ⟨PTsimp pts_nil fun σ H Q ⟨env, h, q, re, rh, w, k⟩ => k _ h H (.refl H) rh w⟩
theorem gts_one (h : GT X c Wt) : GTs X [c] Wt := ⟨PTsimp (pts_one h.pt) fun σ H Q ⟨env, h, q, re, rh, w, k⟩ => ⟨env, h, q, _, re, rh, takes_never, w, k⟩⟩
end
def wLc {α : Type} (Wi : WI α) (Wc : WC α) (Wt : WT) (We : WE) (vs : List Nat) : WE := fun env h Q E => Wi env h (fun sq h1 => ∀ p, h1 p = none → ∃ I : Nat → Nat → Hg → Prop, (∃ m, CloH (I 0 m) (put h1 p (.lst []))) ∧ ∀ i m h, I i m h → turnOf (sq i h) (Q (.ref p) h) fun a => Wc a (wipeG env vs) h (fun env2 h2 => Wt env2 h2 (fun b h3 => if b = true then We env2 h3 (fun y h4 => onLst h4 (.ref p) fun _ acc => acc.length < sizeLine ∧ CloH (fun h5 => ∃ m', m' < m ∧ I (i + 1) m' h5) (put h4 p (.lst (acc ++ [y])))) (fun _ _ => False) else CloH (fun h5 => ∃ m', m' < m ∧ I (i + 1) m' h5) h3) (fun _ _ => False))) E
section
variable {X : Cx} {N : List Str} {sc ow : Scope} {tg elt iter : Expr} {ifs : List Expr} {scope : Scope} {own : List (Str × Nat)} {pos : Pos} {α : Type} {R : RI α} {Wi : WI α} {Wc : WC α} {Wt : WT} {We : WE}
theorem cn_blk (C : Cn X N sc ow) {s : Shared} {H : L2.Hp} {Cc : Addr} {cl : List (Str × Addr)} {fp : List Addr} : Cn (X.blk s H scope (compEnvC scope cl Cc X.env) fp) N (relS scope sc) scope := by
  refine ⟨C.hN, C.nd, ?_, C.calm, C.guards, C.units, PassesOwn.never, fun x hx => ?_⟩
  · show relS scope X.env.scope = _
    rw [C.hs]
  · have e : (compEnvC scope cl Cc X.env).scope.names = (relS scope X.env.scope).names := rfl
    show (((compEnvC scope cl Cc X.env).scope.names.lookup x = some .local ∨ (compEnvC scope cl Cc X.env).scope.names.lookup x = some .cell)) ∧ ((scope.names.lookup x == some .cell) = true ∨ (compEnvC scope cl Cc X.env).scope.names.lookup x = some .local)
    rw [e]
    rcases own_of hx with k | k
    · have k2 := lookup_relS_keep (sc := X.env.scope) (show NameKind.local ≠ NameKind.free by decide) k
      exact ⟨.inl k2, .inr k2⟩
    · have k2 := lookup_relS_keep (sc := X.env.scope) (show NameKind.cell ≠ NameKind.free by decide) k
      exact ⟨.inr k2, .inl (by rw [k]; rfl)⟩
theorem lcImp {ow' : Scope} (vs : List Nat) : ∀ σ H Q, tG X (wLc Wi Wc Wt We vs) σ H Q → tLc (tGI X R Wi) (tGc X.K R vs Wc) (tGT0 X.K Wt) (tG0 X.K We) vs σ H Q := by
  rintro σ H0 Q ⟨env, h, q, E, re, rh, tk, w, kont⟩
  refine ⟨env, h, _, E, re, rh, tk, w, fun sq J h1 H1 t01 rh1 jr w1 p np => ?_⟩
  obtain ⟨P, ⟨m0, h0, s0, j0⟩, turn⟩ := w1 p (rh1.free np)
  have t1p : TExt H1 (upd H1 p (.lst [])) := .new np
  have reW := re.wipe vs
  refine ⟨fun i m H => TExt (upd H1 p (.lst [])) H ∧ ∃ h, RepH X.K H h ∧ P i m h, ⟨m0, .refl _, _, (rh1.newL np .nil).sub s0, j0⟩, ?_⟩
  rintro i m H2 ⟨t12, h2, rh2, j2⟩
  have tn := turn i m h2 j2
  have t02 := t01.trans (t1p.trans t12)
  obtain ⟨js, jg⟩ := jr i h2 H2 (t1p.trans t12) rh2
  cases es : sq i h2 with
  | none => rw [es] at tn; exact (show False from tn).elim
  | some o =>
    cases o with
    | none => rw [es] at tn; exact .inl ⟨js es, kont _ _ h2 H2 t02 rh2 (.ref p) tn⟩
    | some a =>
      rw [es] at tn
      obtain ⟨go, yl⟩ := jg a es
      refine .inr ⟨go, fun H' => TExt (upd H1 p (.lst [])) H' ∧ ∃ h', RepH X.K H' h' ∧ ∃ m', m' < m ∧ P (i + 1) m' h', fun H' ⟨t', h', rh', m', lt, j'⟩ => ⟨m', lt, t', h', rh', j'⟩, fun x H3 y => ?_⟩
      obtain ⟨t23, rh3, rx⟩ := yl x H3 y
      refine ⟨a, wipeG env vs, h2, _, rx, reW.up (t02.trans t23), rh3, tn, fun env4 h4 σ4 H4 t34 re4 rh4 wp w4 => ⟨?_, ?_⟩⟩
      · rw [wp]
        exact wipe_sub vs vs fun _ h => h
      · refine ⟨env4, h4, _, re4, rh4, w4, fun b h5 H5 t45 rh5 w5 => ?_⟩
        have t15 := (t12.trans t23).trans (t34.trans t45)
        cases b with
        | false =>
          obtain ⟨h5', s5, w5⟩ := w5
          exact ⟨t15, h5', rh5.sub s5, w5⟩
        | true =>
          refine ⟨env4, h5, _, re4.up t45, rh5, w5, fun y z h6 H6 t56 rh6 r6 w6 => ?_⟩
          obtain ⟨p', acc, e1, e2, w7, h8, s8, w8⟩ := onLst_of w6
          cases e1
          obtain ⟨ws, e3, l⟩ := rh6.lst e2
          exact ⟨ws, e3, by rw [← l.length]; exact w7, (t15.trans t56).trans (.lst e3), _, (rh6.setL e3 (l.append (.cons r6 .nil))).sub s8, w8⟩
theorem ge_lc (C : Cn X N sc ow) (own : List (Str × Nat)) (hi : GI X tg iter R Wi)
    (hg : ∀ (s : Shared) (H : L2.Hp) (Cc : Addr) (cl : List (Str × Addr)) (fp : List Addr), Cn (X.blk s H scope (compEnvC scope cl Cc X.env) fp) N (relS scope sc) scope → GC (X.blk s H scope (compEnvC scope cl Cc X.env) fp) tg R (own.map (·.2)) Wc)
    (ht : ∀ (s : Shared) (H : L2.Hp) (Cc : Addr) (cl : List (Str × Addr)) (fp : List Addr), Cn (X.blk s H scope (compEnvC scope cl Cc X.env) fp) N (relS scope sc) scope → GTs (X.blk s H scope (compEnvC scope cl Cc X.env) fp) ifs Wt)
    (he : ∀ (s : Shared) (H : L2.Hp) (Cc : Addr) (cl : List (Str × Addr)) (fp : List Addr), Cn (X.blk s H scope (compEnvC scope cl Cc X.env) fp) N (relS scope sc) scope → GE (X.blk s H scope (compEnvC scope cl Cc X.env) fp) elt We)
    (ok : blkC N sc scope own = true := by decide +kernel) (hs : ∀ x, foldedSetIterable iter X.env x = pure x := by intro _; rfl) :
    GE X (.ListComp elt [⟨tg, iter, ifs, 0⟩] scope pos) (wLc Wi Wc Wt We (own.map (·.2))) :=
  ⟨PEimp (pe_lc (g := tGc X.K R (own.map (·.2)) Wc) (tt := tGT0 X.K Wt) (te := tG0 X.K We) C.calm (by rw [C.hN]; exact C.nd) hi.pi (by rw [C.hN, C.hs]; exact blkOk_by ok) (fun s H Cc cl fp => (hg s H Cc cl fp (cn_blk C)).pg) (fun s H Cc cl fp => (ht s H Cc cl fp (cn_blk C)).pt) (fun s H Cc cl fp => (he s H Cc cl fp (cn_blk C)).zero) hs) (lcImp (ow' := ow) _)⟩
/-- x = [..] on one line -/
theorem gs_setLc {x : Str} {py spos : Pos} (C : Cn X N sc ow) (i : Nat) (own : List (Str × Nat)) (hi : GI X tg iter R Wi)
    (hg : ∀ (s : Shared) (H : L2.Hp) (Cc : Addr) (cl : List (Str × Addr)) (fp : List Addr), Cn (X.blk s H scope (compEnvC scope cl Cc X.env) fp) N (relS scope sc) scope → GC (X.blk s H scope (compEnvC scope cl Cc X.env) fp) tg R (own.map (·.2)) Wc)
    (ht : ∀ (s : Shared) (H : L2.Hp) (Cc : Addr) (cl : List (Str × Addr)) (fp : List Addr), Cn (X.blk s H scope (compEnvC scope cl Cc X.env) fp) N (relS scope sc) scope → GTs (X.blk s H scope (compEnvC scope cl Cc X.env) fp) ifs Wt)
    (he : ∀ (s : Shared) (H : L2.Hp) (Cc : Addr) (cl : List (Str × Addr)) (fp : List Addr), Cn (X.blk s H scope (compEnvC scope cl Cc X.env) fp) N (relS scope sc) scope → GE (X.blk s H scope (compEnvC scope cl Cc X.env) fp) elt We)
    (hN : N[i]? = some x := by decide +kernel) (hx : sc.names.lookup x = some .local := by decide +kernel) (hk : sc.kind = .function := by decide +kernel) (hl : (py.line == pos.line) = true := by decide +kernel) (hu : (scope.names.any fun (n, k) => n == x && (k == .local || k == .cell)) = false := by decide +kernel)
    (ok : blkC N sc scope own = true := by decide +kernel) (hs : ∀ x, foldedSetIterable iter X.env x = pure x := by intro _; rfl) :
    GS X (.Assign [.Name x py] (.ListComp elt [⟨tg, iter, ifs, 0⟩] scope pos) spos) (wSet i (wLc Wi Wc Wt We (own.map (·.2)))) := by
  refine ⟨PSimp (ps_setLc (g := tGc X.K R (own.map (·.2)) Wc) (tt := tGT0 X.K Wt) (te := tG0 X.K We) C.calm (by rw [C.hN]; exact C.nd) (by rw [C.hN]; exact hN) (by rw [C.hs]; exact hx) (sw_true (by rw [C.hs]; exact hk) (by rw [C.hs]; exact hx) hl hu) hi.pi (by rw [C.hN, C.hs]; exact blkOk_by ok) (fun s H Cc cl fp => (hg s H Cc cl fp (cn_blk C)).pg) (fun s H Cc cl fp => (ht s H Cc cl fp (cn_blk C)).pt) (fun s H Cc cl fp => (he s H Cc cl fp (cn_blk C)).zero) hs) ?_⟩
  rintro D σ H ⟨env, h, d, re, rh, tk, w, kn, kr, kb, kc⟩
  exact lcImp (ow' := ow) _ σ H _ ⟨env, h, _, _, re, rh, takesE re tk, w, fun v u h1 H1 t1 rh1 r1 w1 => kn _ h1 _ H1 t1 ((re.up t1).set i r1) rh1 w1⟩
end

/-! ### list(range(..)), tuple(range(..)) -/
def rgVals (a b : Int) : List Val := (List.range (b - a).toNat).map fun i => Val.int (a + (i : Nat))
section
variable {X : Cx} {N : List Str} {sc ow : Scope} {a b : Expr} {p p2 pos pos2 : Pos} {Wa Wb : WE}
theorem rgVals_rep {K : PySem.W.Frag} {H : L2.Hp} {a b : Int} : RepL K H (rgVals a b) (rgV a b) := by
  unfold rgVals rgV
  generalize List.range (b - a).toNat = l
  induction l with
  | nil => exact .nil
  | cons x r ih => exact .cons (.int _) ih
def wLRg1 (Wa : WE) : WE := fun env h Q E => Wa env h (fun v h1 => onInt v fun n => RgOk 0 n ∧ ∀ q, h1 q = none → Q (.ref q) (put h1 q (.lst (rgVals 0 n)))) E
theorem ge_lrg1 (C : Cn X N sc ow) (hm : X.mg "range" = none) (hm2 : X.mg "list" = none) (ha : GE X a Wa) (hg : glbB sc "range" = true := by decide +kernel) (hg2 : glbB sc "list" = true := by decide +kernel)
    (hs : starEach [a] X.env = (false, eval a X.env) :: starEach [] X.env := by rfl) (hs2 : starEach [.Call (.Name "range" p2) [a] [] pos2] X.env = (false, eval (.Call (.Name "range" p2) [a] [] pos2) X.env) :: starEach [] X.env := by rfl) :
    GE X (.Call (.Name "list" p) [.Call (.Name "range" p2) [a] [] pos2] [] pos) (wLRg1 Wa) := by
  refine ⟨PEimp (pe_listRg C.calm (C.gl hg2) hm2 (prg_1 (C.gl hg) hm ha.pe hs) hs2) ?_⟩
  rintro σ H Q ⟨env, h, q, E, re, rh, tk, w, kont⟩
  refine ⟨env, h, _, E, re, rh, tk, w, fun v u h1 H1 t1 rh1 r1 w1 => ?_⟩
  cases v <;> first | exact (show False from w1).elim | skip
  cases r1
  exact ⟨_, rfl, w1.1, fun q nq => kont _ _ _ _ (t1.trans (.new nq)) (rh1.newL nq rgVals_rep) (.ref q) (w1.2 q (rh1.free nq))⟩
def wLRg2 (Wa Wb : WE) : WE := fun env h Q E => Wa env h (fun v h1 => Wb env h1 (fun u h2 => onInt v fun i => onInt u fun j => RgOk i j ∧ ∀ q, h2 q = none → Q (.ref q) (put h2 q (.lst (rgVals i j)))) E) E
theorem ge_lrg2 (C : Cn X N sc ow) (hm : X.mg "range" = none) (hm2 : X.mg "list" = none) (ha : GE X a Wa) (hb : GE X b Wb) (hg : glbB sc "range" = true := by decide +kernel) (hg2 : glbB sc "list" = true := by decide +kernel)
    (hs : starEach [a, b] X.env = (false, eval a X.env) :: starEach [b] X.env := by rfl) (hsb : starEach [b] X.env = (false, eval b X.env) :: starEach [] X.env := by rfl) (hp : (backTo pos2 (starEach [b] X.env)).any (·.1) = false := by rfl) (hs2 : starEach [.Call (.Name "range" p2) [a, b] [] pos2] X.env = (false, eval (.Call (.Name "range" p2) [a, b] [] pos2) X.env) :: starEach [] X.env := by rfl) :
    GE X (.Call (.Name "list" p) [.Call (.Name "range" p2) [a, b] [] pos2] [] pos) (wLRg2 Wa Wb) := by
  refine ⟨PEimp (pe_listRg C.calm (C.gl hg2) hm2 (prg_2 (C.gl hg) hm ha.pe hb.pe hs hsb hp) hs2) ?_⟩
  rintro σ H Q ⟨env, h, q, E, re, rh, tk, w, kont⟩
  refine ⟨env, h, _, E, re, rh, tk, w, fun v u h1 H1 t1 rh1 r1 w1 => ?_⟩
  refine ⟨env, h1, _, E, re.up t1, rh1, takesUp t1 tk, w1, fun v2 u2 h2 H2 t2 rh2 r2 w2 => ?_⟩
  cases v <;> first | exact (show False from w2).elim | skip
  cases v2 <;> first | exact (show False from w2).elim | skip
  cases r1
  cases r2
  exact ⟨_, _, rfl, rfl, w2.1, fun q nq => kont _ _ _ _ ((t1.trans t2).trans (.new nq)) (rh2.newL nq rgVals_rep) (.ref q) (w2.2 q (rh2.free nq))⟩
end

/-! ### defs -/
structure Fx (P : Program) (w : World) (K : PySem.W.Frag) (mg : Str → Option Value) (base : Heap) (k : Nat) (X : Cx) : Prop where
  p : X.prog = P
  w : X.w = w
  kk : X.K = K
  mg : X.mg = mg
  base : X.base = base
  room : Room k X.A
  fr : X.stack = X.env :: X.outer ∧ X.env.frame = some X.env.locals ∧ X.ex = []
def dOf (q : KV) (e : KX) : Dn := { nx := fun _ h => CloH (q .non) h, rt := fun v h => CloH (q v) h, ex := fun x _ h => CloH (e x) h }
def startG (N : List Str) (args : List Val) : Env' := args.map some ++ List.replicate (N.length - args.length) none
theorem start_rel {K : PySem.W.Frag} {H : L2.Hp} {N : List Str} {args : List Val} {vs : List V} (r : RepL K H args vs) : RelE K H (startG N args) (L2.start N vs) := by
  have hl := r.length
  refine ⟨by unfold startG L2.start; rw [List.length_append, List.length_append, List.length_map, List.length_map, List.length_replicate, List.length_replicate, hl], fun i v e => ?_⟩
  unfold startG at e
  by_cases hi : i < args.length
  · rw [List.getElem?_append_left (by rw [List.length_map]; exact hi), List.getElem?_map] at e
    obtain ⟨v', e1, e2⟩ := Option.map_eq_some_iff.mp e
    cases e2
    obtain ⟨w, e3, rw'⟩ := r.get e1
    refine ⟨w, ?_, rw'⟩
    unfold L2.start
    rw [List.getElem?_append_left (by rw [List.length_map, ← hl]; exact hi), List.getElem?_map, e3]
    rfl
  · rw [List.getElem?_append_right (by rw [List.length_map]; omega), List.getElem?_replicate] at e
    split at e <;> cases e
/-- a def, by its body's reading -/
theorem gfn_of {P : Program} {w : World} {K : PySem.W.Frag} {mg : Str → Option Value} {base : Heap} {k : Nat} {f : Addr} {name qual : Str} {params : Arguments} {body : List Stmt} {scope : Scope} {dV kV doc pm cdv ct oc : Value} {an od : Option Addr}
    {osl : Array (Option Value)} {N ps : List Str} {sp : Spec} {W : WS} (lk : K.lookup f = some ⟨oc, od, .func (PySem.W.fnOf name qual params body scope dV kV doc pm an cdv ct), osl⟩) (hcd : PySem.W.codeIn K cdv qual = true) (S : FnScope N ps scope)
    (len : ∀ args h Q E, sp args h Q E → args.length = ps.length)
    (hbody : ∀ X : Cx, Cn X N scope scope → Fx P w K mg base k X → GSs X body W)
    (hsp : ∀ args h Q E, sp args h Q E → Entry h (W (dOf Q E) (startG N args))) :
    GFn P w K mg base (k + 1) f (PySem.W.fnOf name qual params body scope dV kV doc pm an cdv ct) ps sp := by
  refine ⟨len, fun A outer s H args us vs Q E hgd hr e0 hb r hsp0 => ?_⟩
  obtain ⟨gargs, h, q, e, rl, rh, hspec, cQ, cE⟩ := hsp0
  have hl : vs.length = ps.length := by rw [← rl.length]; exact len _ _ _ _ hspec
  have KX : K.In s.heap := e0.mod.kin.keeps fun b o e => (e0.bs b o e).1
  have lim : s.heap.NoLimit := e0.mod.nolimit.keeps fun b o e => (e0.bs b o e).1
  have hkind : ∀ y ∈ ps.zip us, scope.names.lookup y.1 = some .local ∨ (scope.names.lookup y.1 = some .cell ∧ ((cellsFrom (s.heap.objs.size + 1) scope.names []).lookup y.1).isSome = true) := fun ⟨n, v⟩ hy => by
    rcases S.par n (List.of_mem_zip hy).1 with q | q
    · exact .inl q
    · exact .inr ⟨q, PySem.W.cellsFrom_some _ _ _ (.inl q)⟩
  refine codeAny_call_function hr.depth (KX _ _ lk) rfl S.co S.gen rfl (PySem.W.codeRec_of KX hcd) (hb _ _ _ _ ?_)
  refine wpAny_newFunctionEnv_cells S.kind hkind fun env he s1 x => ?_
  subst he
  refine ⟨lim.keeps x.toInCall.keep, codeAny_func ?_⟩
  have I : Inv (cxOf (L2.CX P w) P w K mg base N qual scope f cdv A outer s H E) [] (L2.start N vs) H s1 := inv_start S hr.hd e0 hl r x
  have C : Cn (cxOf (L2.CX P w) P w K mg base N qual scope f cdv A outer s H E) N scope scope := ⟨rfl, S.nd, rfl, rfl, hgd, (hr.deeper _).units, passes_of rfl, fun x hx => ⟨own_of hx, .inl rfl⟩⟩
  have F : Fx P w K mg base k (cxOf (L2.CX P w) P w K mg base N qual scope f cdv A outer s H E) := ⟨rfl, rfl, rfl, rfl, rfl, hr.deeper _, rfl, rfl, rfl⟩
  have tk : Takes (cxOf (L2.CX P w) P w K mg base N qual scope f cdv A outer s H E) (fun cls d _ H' => E cls d H') := takes_of rfl rfl rfl rfl
  have tkG : Takes (cxOf (L2.CX P w) P w K mg base N qual scope f cdv A outer s H E) (XWs K H (dOf q e).ex) := tk.imp fun cls d σ' H' ⟨x, env', h', t, re, rh', rx, h2, s2, z⟩ => cE x h2 H' cls d t (rh'.sub s2) rx z
  obtain ⟨h, rh, hq⟩ := hsp gargs h q e hspec K H rh
  refine wpAny_mono ((hbody _ C F).ps.run [] s1 (L2.start N vs) H { nx := fun _ H' => Q .non H', rt := Q } I ⟨_, h, dOf q e, start_rel rl, rh, tkG, hq, fun env' h' σ' H' t re rh' ⟨h2, s2, z⟩ => cQ .non .non h2 H' t (rh'.sub s2) .non z, fun v w h' H' t rh' r ⟨h2, s2, z⟩ => cQ v w h2 H' t (rh'.sub s2) r z, fun _ _ _ _ _ _ _ z => z, fun _ _ _ _ _ _ _ z => z⟩) (fun fl s' hs => ?_) fun e s' hs => hs
  have fin : ∀ {σ' : L2.St} {H' : L2.Hp} {v : V} {u : Value}, Inv (cxOf (L2.CX P w) P w K mg base N qual scope f cdv A outer s H E) [] σ' H' s' → RelV v u → Q v H' → CE outer P w H s Q u s' :=
    fun {σ' H' v u} J rv q => ⟨v, H', J.os, J.bare, J.base, J.hok, rv, q⟩
  cases fl with
  | ret u =>
    obtain ⟨v, σ', H', J, rv, q⟩ := hs
    exact fin J rv q
  | next =>
    obtain ⟨σ', H', J, q⟩ := hs
    exact fin (v := V.non) (u := Value.none) J rfl q
  | brk =>
    obtain ⟨_, _, _, q⟩ := hs
    exact False.elim q
  | cont =>
    obtain ⟨_, _, _, q⟩ := hs
    exact False.elim q
end G

set_option Elab.async false
set_option linter.all false
set_option maxRecDepth 100000
set_option maxHeartbeats 4000000
namespace G
open PySem PySem.Spec L2
open PyProof.Rows hiding St

/-! ### the law's end -/
theorem glaw_call {P : Program} {w : World} {K : PySem.W.Frag} {mg mb : Str → Option Value} {k : Nat} {fa a : Addr} {fd : FuncData} {x : Str} {sp : Spec} {s₁ : Shared} {vs : List Value} {ns : List Int}
    (KX : K.In s₁.heap) (hns : s₁.heap.Ns mainGlobals mg) (hb : s₁.heap.Ns builtinsNs mb) (hbb : ∀ x : Str, x ≠ "__name__" → mb x = bootBuiltins x) (hlim : s₁.heap.NoLimit) (hg : s₁.gens = #[])
    (ha : s₁.heap.get? a = some { cls := .type "list", data := .seq vs.toArray }) (hi : IntsAre vs ns) (hl : ns.length ≤ sizeLine) (hr : Room k callerA)
    (F : ∀ base : Heap, K.In base → base.Ns mainGlobals mg → GFn P w K mg base k fa fd [x] sp) (hbind : ∀ (s : Shared) (u : Value), BindsTo s fd ⟨[u], []⟩ [(x, u)])
    (hsp : sp [.scr ns] (fun _ => none) (fun v _ => v = .bl true) (fun _ _ => False)) :
    codeAny (model P w) callerA (.call (.ref fa) ⟨[.ref a], []⟩) (fun r s' => r = .ok (.ret (.bool true)) ∧ OldK s₁.heap s'.heap ∧ s'.os = s₁.os ∧ AllBare s'.gens) s₁ := by
  have rv := vals_ints hi
  have lenV := hi.length
  have core : ∀ H : L2.Hp, Only H → SqF K H a (ns.map V.int) → HOk P w H s₁.heap → (∀ b, H b ≠ none → b = a) → (H a ≠ none → K.lookup a = none) →
      codeAny (model P w) callerA (.call (.ref fa) ⟨[.ref a], []⟩) (fun r s' => r = .ok (.ret (.bool true)) ∧ OldK s₁.heap s'.heap ∧ s'.os = s₁.os ∧ AllBare s'.gens) s₁ := by
    intro H hO hS hok hA hK
    have base_of : ∀ {b : Addr} {o : Obj}, s₁.heap.get? b = some o → H b = none → (hidT s₁.heap H).get? b = some o := fun e n => hidT_get e n
    have noA : ∀ {b : Addr} {o : Obj} {es : Array DictEntry} {ep : Nat}, s₁.heap.get? b = some o → o.data = .dict es ep → H b = none := fun {b o es ep} e d => by
      cases q : H b with
      | none => rfl
      | some u =>
        have e' : b = a := hA b (by rw [q]; simp)
        subst e'
        rw [ha] at e; cases e
        have d' : Data.seq vs.toArray _ = Data.dict es ep := d
        cases d'
    have nsK : ∀ {b : Addr} {m : Str → Option Value}, s₁.heap.Ns b m → (hidT s₁.heap H).Ns b m := fun {b m} ⟨o, es, ep, e, d, r⟩ => ⟨o, es, ep, base_of e (noA e d), d, r⟩
    have hKb : K.In (hidT s₁.heap H) := fun b o e => base_of (KX b o e) (by
      cases q : H b with
      | none => rfl
      | some u =>
        have e' : b = a := hA b (by rw [q]; simp)
        subst e'
        rw [hK (by rw [q]; simp)] at e; cases e)
    have hM : Mod K mg (hidT s₁.heap H) := ⟨hKb, nsK hns, ⟨mb, nsK hb, hbb⟩, let ⟨mc, h1, h2⟩ := hlim; ⟨mc, nsK h1, h2⟩⟩
    have e0 : Env0 P w K mg (hidT s₁.heap H) callerA [] s₁ H := ⟨rfl, hM, fun b o e => of_hidT e, Nat.le_of_eq (hidT_size _ _), trivial, fun b hb => absurd (show b ∈ ([] : List Addr) from hb) (by simp), hok, .of_eq hg⟩
    refine codeAny_mono ((F _ hKb (nsK hns)).run callerA [] s₁ H ⟨[.ref a], []⟩ [.ref a] [.ref a] (fun v _ => v = .bl true) (fun _ _ _ => False) rfl hr e0 (hbind s₁ (.ref a)) (.cons rfl .nil)
      ⟨[.scr ns], fun _ => none, _, _, .cons (.scr hS) .nil, fun b o e => (by cases e), hsp, fun v u h' H' t rh' r e => (by subst e; cases r; rfl), fun x h' H' cls d t rh' rx z => False.elim z⟩) fun r s' h => ?_
    cases r with
    | error e =>
      obtain ⟨_, _, _, _, _, _, _, _, _, _, _, _, z⟩ := h
      exact False.elim z
    | ok fl =>
      cases fl with
      | next => exact False.elim h
      | brk => exact False.elim h
      | cont => exact False.elim h
      | ret u =>
        obtain ⟨v, H', os, bare, un, hok', r', q⟩ := h
        have q' : v = .bl true := q
        subst q'
        obtain rfl : u = Value.bool true := r'
        refine ⟨rfl, OldK.of_keep fun b o e => ?_, os, bare⟩
        cases q : H b with
        | none => exact un.keep b o e q (by intro z; exact absurd (show b ∈ ([] : List Addr) from z) (by simp)) (by simp)
        | some u =>
          rcases hO b with z | ⟨ob, xs, z⟩
          · rw [q] at z; cases z
          · have z2 := un.frzs b ob _ z
            obtain ⟨e1, _⟩ := hok b _ z
            obtain ⟨e2, _⟩ := hok' b _ z2
            rw [e] at e1; cases e1
            exact e2
  cases hk : K.lookup a with
  | some o =>
    have e := KX a o hk
    rw [ha] at e
    cases e
    refine core (fun _ => none) (fun _ => .inl rfl) (.inr ⟨_, vs.toArray, _, hk, rfl, rfl, rfl, by rw [List.size_toArray, lenV]; exact hl, by simpa using rv⟩) (fun b u z => by have z' : (none : Option HO) = some u := z; cases z') (fun b z => absurd rfl z) fun z => absurd rfl z
  | none =>
    refine core (fun b => if b = a then some (.frz { cls := .type "list", data := .seq vs.toArray } (.lst (ns.map V.int))) else none) (fun b => ?_) (.inl ⟨{ cls := .type "list", data := .seq vs.toArray }, if_pos rfl⟩) (fun b u z => ?_) (fun b z => ?_) fun _ => hk
    · by_cases hb : b = a
      · exact .inr ⟨_, _, if_pos hb⟩
      · exact .inl (if_neg hb)
    · by_cases hb : b = a
      · have z' := (if_pos hb).symm.trans z
        cases z'
        subst hb
        exact ⟨ha, by rw [List.length_map]; exact hl, vs, _, rv, ha⟩
      · have z' := (if_neg hb).symm.trans z
        cases z'
    · by_cases hb : b = a
      · exact hb
      · exact absurd (if_neg hb) z
theorem gwalk_of {l : PySem.W.OpenLaw} {n k : Nat} {q : Program} {loose : List Str} {XP : (Str → Option Value) → Heap → Prop} {YP : World → Heap → Prop} {d : DefRec} {K : Params → PySem.W.Frag} {sp : Spec} {x : Str}
    (hn : l.most = some n) (hn2 : n ≤ sizeLine) (hdf : d.params.defaults = []) (hr : Room k callerA)
    (hY : ∀ (w : World) (h : Heap), YP w h → (K w.params).In h)
    (F : ∀ (w : World) (mg : Str → Option Value) (fa : Addr) (h : Heap), (K w.params).In h → h.Ns mainGlobals mg → mg d.name = some (.ref fa) →
      ∃ fd : FuncData, (∀ (s : Shared) (u : Value), BindsTo s fd ⟨[u], []⟩ [(x, u)]) ∧
        ∀ base : Heap, (K w.params).In base → base.Ns mainGlobals mg → GFn l.prog w (K w.params) mg base k fa fd [x] sp)
    (hsp : ∀ (ns : List Int), ns.length ≤ n → sp [.scr ns] (fun _ => none) (fun v _ => v = .bl true) (fun _ _ => False)) :
    PySem.W.WalkO q loose XP YP l.row.toRowW d [] (fun f vs => PySem.call f vs) := by
  refine Att.attach_call hn hdf fun w s₀ s₁ mg mb fa o pm cd doc a vs ns G Y ho hd hcd hmg hobj hints hlen hg => ?_
  have KX := hY w _ Y
  obtain ⟨fd, hb, hF⟩ := F w mg fa _ KX G.T.g hmg
  exact glaw_call KX G.T.g G.T.b G.T.builtins G.T.nolimit hg hobj hints (Nat.le_trans hlen hn2) hr hF hb (hsp ns hlen)

/-! ### a def of the module, as the top has laid it -/
structure FnAt (K : PySem.W.Frag) (mg : Str → Option Value) (x : Str) (st : Stmt) (dV kV : Value) : Prop where
  ex : ∃ (f : Addr) (oc : Value) (od : Option Addr) (doc pm : Value) (an : Option Addr) (cdv ct : Value) (osl : Array (Option Value)),
    mg x = some (.ref f) ∧ K.lookup f = some ⟨oc, od, .func (PySem.W.fnOf x x (L2.defArgs st) (L2.defBody st) (L2.defScope st) dV kV doc pm an cdv ct), osl⟩ ∧ PySem.W.codeIn K cdv x = true ∧ PySem.W.keepIn K (.ref f) = true
theorem fnAt_mk {K : PySem.W.Frag} {mg : Str → Option Value} {h : Heap} {x : Str} {st : Stmt} {f : Addr} {oc : Value} {od : Option Addr} {dV kV doc pm : Value} {an : Option Addr} {cdv ct : Value} {osl : Array (Option Value)} (X : K.In h) (G : h.Ns mainGlobals mg)
    (a : PySem.W.nsIn K mainGlobals x = some (some (.ref f))) (l : K.lookup f = some ⟨oc, od, .func (PySem.W.fnOf x x (L2.defArgs st) (L2.defBody st) (L2.defScope st) dV kV doc pm an cdv ct), osl⟩) (c : PySem.W.codeIn K cdv x = true) (kp : PySem.W.keepIn K (.ref f) = true) : FnAt K mg x st dV kV :=
  ⟨f, oc, od, doc, pm, an, cdv, ct, osl, PySem.W.mg_of X G a, l, c, kp⟩
/-- a def that its callers reach -/
theorem cal_of {P : Program} {w : World} {K : PySem.W.Frag} {mg : Str → Option Value} {base : Heap} {k n : Nat} {x : Str} {st : Stmt} {dV kV : Value} {N ps ks : List Str} {gi : List Nat} {sp : Spec} {W : WS} (F : FnAt K mg x st dV kV) (S : FnScope N ps (L2.defScope st))
    (len : ∀ args h Q E, sp args h Q E → args.length = ps.length)
    (hbody : ∀ X : Cx, Cn X N (L2.defScope st) (L2.defScope st) → Fx P w K mg base k X → GSs X (L2.defBody st) W)
    (hsp : ∀ args h Q E, sp args h Q E → Entry h (W (dOf Q E) (startG N args)))
    (hb : ∀ (doc pm : Value) (an : Option Addr) (cdv ct : Value) (us ws : List Value), us.length = n → ws.length = ks.length → bindArgs (PySem.W.fnOf x x (L2.defArgs st) (L2.defBody st) (L2.defScope st) dV kV doc pm an cdv ct) ⟨us, ks.zip ws⟩ = pure (ps.zip (perm gi (us ++ ws)))) :
    Cal P w K mg base (k + 1) x n ks gi sp := by
  obtain ⟨f, oc, od, doc, pm, an, cdv, ct, osl, hm, lk, hc, hk⟩ := F.ex
  exact ⟨f, _, ps, hm, hk, gfn_of lk hc S len hbody hsp, fun s us ws _ l1 l2 => .of_eq (hb doc pm an cdv ct us ws l1 l2)⟩
end G

set_option Elab.async false
set_option linter.all false
set_option maxRecDepth 100000
set_option maxHeartbeats 4000000
namespace G
open PySem PySem.Spec L2
open PyProof.Rows hiding St

/-! ### built-in types as values, isinstance -/
section
variable {X : Cx} {N : List Str} {sc ow : Scope} {e : Expr} {es : List Expr} {pos p : Pos} {We : WE} {Wr : WA}
theorem ge_bty (C : Cn X N sc ow) {x : Str} (T : String) (hm : X.mg x = none) (hv : bootBuiltins x = some (.type T) := by decide +kernel) (hg : glbB sc x = true := by decide +kernel) (hn : x ≠ "__name__" := by decide +kernel) (hdb : (x == ("__debug__" : Str)) = false := by decide +kernel) : GE X (.Name x p) (wC (.ty T)) := by
  refine ⟨PEimp (pe_bltn (v := .ty T) (C.gl hg) hm hv rfl hn hdb) ?_⟩
  rintro σ H Q ⟨env, h, q, E, re, rh, tk, w, k⟩
  exact k _ _ h H (.refl H) rh (.ty T) w
def tyN (h : Hg) : Val → Option String
  | .non => some "NoneType"
  | .bl _ => some "bool"
  | .int _ => some "int"
  | .str _ => some "str"
  | .tup _ => some "tuple"
  | .scr _ => some "list"
  | .ref a => (lstAt h a).map fun _ => "list"
  | _ => none
def isT (a b : String) : Bool := a == b || (a == "bool" && b == "int")
def tysA : List String := ["NoneType", "bool", "int", "str", "tuple", "list"]
def tysB : List String := ["int", "bool", "str", "tuple", "list"]
theorem isT_ok : (tysA.all fun a => tysB.all fun b => decide (kitB a b = some (isT a b))) = true := by decide +kernel
theorem isT_of {a b : String} (ha : a ∈ tysA) (hb : b ∈ tysB) : kitB a b = some (isT a b) := by
  have h := List.all_eq_true.mp isT_ok a ha
  exact of_decide_eq_true (List.all_eq_true.mp h b hb)
theorem tyN_ok {K : PySem.W.Frag} {H : L2.Hp} {h : Hg} {v : Val} {w : V} {n : String} (rh : RepH K H h) (r : Rep K H v w) (e : tyN h v = some n) : n ∈ tysA ∧ TyX K H w (.type n) := by
  cases r with
  | non => cases e; exact ⟨by decide, .base .non⟩
  | bl b => cases e; exact ⟨by decide, .base (.bl b)⟩
  | int i => cases e; exact ⟨by decide, .base (.int i)⟩
  | str x => cases e; exact ⟨by decide, .base (.str x)⟩
  | tup h1 _ _ => cases e; exact ⟨by decide, .fTuple h1⟩
  | scr h1 =>
    cases e
    rcases h1 with ⟨o, h1⟩ | ⟨o, its, m, h1, c, _⟩
    · exact ⟨by decide, .base (.frz h1)⟩
    · exact ⟨by decide, .kList h1 c⟩
  | ref a =>
    obtain ⟨xs, q, e2⟩ := Option.map_eq_some_iff.mp (show (lstAt h a).map (fun _ => "list") = some n from e)
    subst e2
    obtain ⟨ws, h1, _⟩ := rh.lst (lstAt_eq q)
    exact ⟨by decide, .base (.lst h1)⟩
  | ty n => cases e
  | exc => cases e
  | cls => cases e
def fIsInst : WF := fun vs h Q => match vs with
  | [v, .ty T] => tysB.contains T = true ∧ onSome (tyN h v) fun n => Q (.bl (isT n T)) h
  | _ => False
theorem cIsInst : CallR X (.builtin "isinstance") (rCG X.K fIsInst) := by
  rintro pins s σ H xs us Q I rv ⟨vs, h, q, r, rh, w, k⟩
  unfold fIsInst at w
  split at w
  · obtain ⟨u, x, rfl, r1, r2⟩ := r.two
    cases r2
    obtain ⟨hT, w⟩ := w
    obtain ⟨n, en, w⟩ := onSome_of w
    obtain ⟨ha, ty⟩ := tyN_ok rh r1 en
    exact call_isi pins s σ H _ us Q I rv ⟨_, _, _, _, _, rfl, .ty _, ty, kit_ty (isT_of ha (List.contains_iff_mem.mp hT)), k _ _ h H (.refl H) rh (.bl _) w⟩
  · exact w.elim
/-! ### divmod -/
def fDivmod : WF := fun vs h Q => match vs with
  | [.int i, .int j] => DivOk j ∧ Q (.tup [.int (i / j), .int (i % j)]) h
  | _ => False
theorem cDivmod : CallR X (.builtin "divmod") (rCG X.K fDivmod) := by
  rintro pins s σ H xs us Q I rv ⟨vs, h, q, r, rh, w, k⟩
  unfold fDivmod at w
  split at w
  · rename_i i j
    obtain ⟨u, x, rfl, r1, r2⟩ := r.two
    cases r1
    cases r2
    obtain ⟨⟨j0, j1⟩, w⟩ := w
    obtain ⟨u, w', rfl, ⟨t, rfl⟩, ⟨t', rfl⟩⟩ := vals2 rv
    have np : Builtin.divisionGoesByPylong i j = false := by
      rcases j1 with j1 | j1
      · exact PyProof.noPylong_small (by omega)
      · exact PyProof.noPylong_of_log2 j1
    refine divmod_int (by omega) ?_ (.inl np)
    rw [Int.fdiv_eq_ediv_of_nonneg i (by omega), Int.fmod_eq_emod_of_nonneg i (by omega)]
    have I2 : Inv X pins σ H { s with toks := s.toks + 1 + 1 } := I.kept fun _ _ z => z
    have np := I.hok.fresh (Nat.le_refl s.heap.objs.size)
    have rz : Vals [V.int (i / j), V.int (i % j)] [Value.int (i / j) s.toks, Value.int (i % j) (s.toks + 1)] := .cons ⟨_, rfl⟩ (.cons ⟨_, rfl⟩ .nil)
    have I3 := newTup I2 rz (by show 2 ≤ sizeLine; decide)
    exact ⟨.ref s.heap.objs.size, _, I3, rfl, k _ _ h _ (.new np) (rh.new np) (repTup np (.cons (.int _) (.cons (.int _) .nil))) w⟩
  · exact w.elim

/-! ### a law's pen is laid: its cells are never written -/
def erase (h : Hg) (c : Addr) : Hg := fun a => if a = c then none else h a
def PenAt (n : Nat) (v : Val) (h1 : Hg) (Q : KV) : Prop := match v with
  | .ref p => onLst h1 v fun _ xs => match xs with
    | [.ref c, .int i, .int j] => onSome (lstAt h1 c) fun ys => onSome (intsOf ys) fun ns => (c ≠ p ∧ ns.length ≤ 63 ∧ i = 0 ∧ j = 0 ∧ n ≤ 1048576) ∧ Q (.ref p) (put (erase h1 c) p (.pen n))
    | _ => False
  | _ => False
def wPen (n : Nat) (We : WE) : WE := fun env h Q E => We env h (fun v h1 => PenAt n v h1 Q) E
theorem ge_pen (n : Nat) (he : GE X e We) : GE X e (wPen n We) := by
  refine ⟨⟨fun pins s σ H Q I hq => ?_⟩⟩
  obtain ⟨env, h, q, E, re, rh, tk, w, k⟩ := hq
  refine thn (he.pe.run pins s σ H (fun u H1 => ∃ (p : Addr) (h1 : Hg) (c : Addr) (ns : List Int), TExt H H1 ∧ RepH X.K H1 h1 ∧ u = .ref p ∧ h1 p = some (.lst [.ref c, .int 0, .int 0]) ∧ h1 c = some (.lst (ns.map Val.int)) ∧ c ≠ p ∧ ns.length ≤ 63 ∧ n ≤ 1048576 ∧ q (.ref p) (put (erase h1 c) p (.pen n))) I ⟨env, h, _, E, re, rh, tk, w, fun v u h1 H1 t1 rh1 r1 w1 => ?_⟩) ?_
  · cases v <;> first | exact (show False from w1).elim | skip
    rename_i p
    unfold PenAt at w1
    obtain ⟨p', xs, e1, e2, w2⟩ := onLst_of w1
    cases e1
    cases r1
    split at w2
    · obtain ⟨ys, e3, w3⟩ := onSome_of w2
      obtain ⟨ns, e4, ⟨z1, z2, z3, z4, z5⟩, w4⟩ := onSome_of w3
      subst z3 z4
      exact ⟨p, h1, _, ns, t1, rh1, rfl, e2, by rw [lstAt_eq e3, intsOf_eq e4], z1, z2, z5, w4⟩
    · exact w2.elim
  · rintro u s1 ⟨x, H1, I1, ru, p, h1, c, ns, t1, rh1, rfl, ep, ec, ne, l, n1, w1⟩
    obtain ⟨wc, hc, lc⟩ := rh1.lst ec
    obtain ⟨wp, hp, lp⟩ := rh1.lst ep
    obtain ⟨od, I2⟩ := I1.lock hc trivial
    have t2 : TExt H1 (upd H1 c (.frz od (.lst wc))) := .lst hc
    refine ⟨.ref p, _, I2, ru, k _ _ _ _ (t1.trans t2) ?_ (.ref p) w1⟩
    have ew := lc.ints
    intro b o eb
    by_cases hbp : b = p
    · subst hbp
      rw [put_same] at eb
      cases eb
      refine ⟨wp, by rw [upd_ne (Ne.symm ne)]; exact hp, _, ⟨ns, 0, 0, rfl, l, by omega, by omega, by omega⟩, ?_⟩
      cases lp with
      | cons r1 l2 =>
        cases r1
        exact .cons (.scr (.inl ⟨od, by rw [ew]; exact upd_same⟩)) (l2.up t2)
    · rw [put_ne hbp] at eb
      unfold erase at eb
      split at eb
      · cases eb
      · rename_i hbc
        exact (rh1 b o eb).up t2 (upd_ne hbc)
end

/-! ### lookups -/
section
variable {h h' : Hg} {p q : Addr} {o : Ob} {xs : List Val}
theorem lstAt_put : lstAt (put h p (.lst xs)) p = some xs := lstAt_of put_same
theorem lstAt_put_ne (n : q ≠ p) : lstAt (put h p o) q = lstAt h q := by
  unfold lstAt; rw [put_ne n]
theorem tick_get : tick h q = (h q).map tickO := rfl
theorem lstAt_tick : lstAt (tick h) q = lstAt h q := by
  unfold lstAt
  rw [tick_get]
  cases e : h q with
  | none => rfl
  | some o => cases o <;> rfl
theorem lstAt_ticks : ∀ n, lstAt (ticks n h) q = lstAt h q
  | 0 => rfl
  | n + 1 => by rw [show ticks (n + 1) h = tick (ticks n h) from rfl, lstAt_tick, lstAt_ticks n]
theorem tick_put : tick (put h p (.lst xs)) = put (tick h) p (.lst xs) := by
  funext a
  rw [tick_get]
  unfold put
  split <;> rfl
theorem ticks_put : ∀ n, ticks n (put h p (.lst xs)) = put (ticks n h) p (.lst xs)
  | 0 => rfl
  | n + 1 => by
    show tick (ticks n (put h p (.lst xs))) = put (tick (ticks n h)) p (.lst xs)
    rw [ticks_put n, tick_put]
theorem tick_ticks (n : Nat) : tick (ticks n h) = ticks (n + 1) h := rfl
theorem ticks_add (m : Nat) : ∀ n, ticks n (ticks m h) = ticks (m + n) h
  | 0 => rfl
  | n + 1 => by
    show tick (ticks n (ticks m h)) = tick (ticks (m + n) h)
    rw [ticks_add m n]
theorem tick_none : tick h q = none ↔ h q = none := by
  rw [tick_get]; cases h q <;> simp
theorem ticks_none : ∀ n, ticks n h q = none ↔ h q = none
  | 0 => Iff.rfl
  | n + 1 => by rw [show ticks (n + 1) h = tick (ticks n h) from rfl, tick_none, ticks_none n]
theorem put_none : put h p o q = none ↔ q ≠ p ∧ h q = none := by
  by_cases e : q = p
  · subst e; rw [put_same]; simp
  · rw [put_ne e]; simp [e]
theorem ticks_pen {n : Nat} : ∀ m, h q = some (.pen n) → ticks m h q = some (.pen (n - m))
  | 0, e => e
  | m + 1, e => by
    show (ticks m h q).map tickO = _
    rw [ticks_pen m e]
    show some (Ob.pen (n - m - 1)) = _
    rw [Nat.sub_sub]
theorem tick_lst (e : h q = some (.lst xs)) : tick h q = some (.lst xs) := by rw [tick_get, e]; rfl
theorem ticks_lst (e : h q = some (.lst xs)) : ∀ m, ticks m h q = some (.lst xs)
  | 0 => e
  | m + 1 => tick_lst (ticks_lst e m)
/-! Sub -/
theorem ticks_other {o : Ob} (e : h q = some o) (np : ∀ n, o ≠ .pen n) : ∀ m, ticks m h q = some o
  | 0 => e
  | m + 1 => by
    show (ticks m h q).map tickO = _
    rw [ticks_other e np m]
    cases o with
    | pen n => exact absurd rfl (np n)
    | _ => rfl
theorem ticks_none' (e : h q = none) (m : Nat) : ticks m h q = none := (ticks_none m).mpr e
theorem Sub.ticks {m n : Nat} (l : n ≤ m) : Sub (ticks m h) (ticks n h) := fun a o e => by
  cases q : h a with
  | none => rw [ticks_none' q] at e; cases e
  | some u =>
    by_cases hp : ∃ k, u = .pen k
    · obtain ⟨k, rfl⟩ := hp
      rw [ticks_pen m q] at e
      cases e
      exact ⟨_, ticks_pen n q, .pen (by omega)⟩
    · have np : ∀ k, u ≠ .pen k := fun k z => hp ⟨k, z⟩
      rw [ticks_other q np m] at e
      cases e
      exact ⟨_, ticks_other q np n, .refl _⟩
theorem Sub.tickn {a b : Hg} (s : Sub a b) : ∀ n, Sub (G.ticks n a) (G.ticks n b)
  | 0 => s
  | n + 1 => (Sub.tickn s n).tick1
/-- behind a draw -/
theorem Sub.drawn {n : Nat} {xs : List Val} (e : h p = some (.pen n)) (ok : PenOk (n - 1) xs) : Sub (tick h) (G.put h p (.lst xs)) := fun a o z => by
  by_cases q : a = p
  · subst q
    rw [tick_get, e] at z
    cases z
    exact ⟨_, put_same, .mk ok⟩
  · rw [put_ne q]
    exact Sub.ticks (m := 1) (n := 0) (Nat.zero_le _) a o z
end
end G

set_option Elab.async false
set_option linter.all false
set_option maxRecDepth 100000
set_option maxHeartbeats 4000000
namespace G
open PySem PySem.Spec L2
open PyProof.Rows hiding St

/-! ### words for the proofs of readings -/
/-- k draws may be made -/
def HasPen (h : Hg) (p : Addr) (k : Nat) : Prop := ∃ n, h p = some (.pen n) ∧ k ≤ n
theorem HasPen.le {h : Hg} {p : Addr} {j k : Nat} (x : HasPen h p k) (l : j ≤ k) : HasPen h p j := let ⟨n, e, m⟩ := x; ⟨n, e, by omega⟩
theorem HasPen.ticks {h : Hg} {p : Addr} {j k : Nat} (x : HasPen h p (k + j)) : HasPen (ticks j h) p k := let ⟨n, e, m⟩ := x; ⟨n - j, ticks_pen j e, by omega⟩
theorem HasPen.put {h : Hg} {p q : Addr} {k : Nat} {o : Ob} (x : HasPen h p k) (ne : p ≠ q) : HasPen (put h q o) p k := let ⟨n, e, m⟩ := x; ⟨n, (put_ne ne).trans e, m⟩
theorem HasPen.ne {h : Hg} {p q : Addr} {k : Nat} (x : HasPen h p k) (e : h q = none) : p ≠ q := fun z => by
  obtain ⟨n, e2, _⟩ := x
  rw [z, e] at e2; cases e2
theorem HasPen.neL {h : Hg} {p q : Addr} {k : Nat} {xs : List Val} (x : HasPen h p k) (e : h q = some (.lst xs)) : p ≠ q := fun z => by
  obtain ⟨n, e2, _⟩ := x
  rw [z, e] at e2; cases e2
theorem HasPen.neA {h : Hg} {p q : Addr} {k : Nat} {xs : List Val} (x : HasPen h p k) (e : lstAt h q = some xs) : p ≠ q := x.neL (lstAt_eq e)
theorem ne_none' {h : Hg} {a b : Addr} {o : Ob} (n : h b = none) (e : h a = some o) : b ≠ a := (ne_none e n).symm
theorem ne_noneA {h : Hg} {a b : Addr} {xs : List Val} (n : h b = none) (e : lstAt h a = some xs) : b ≠ a := ne_none' n (lstAt_eq e)
theorem Sub.drawn' {h A : Hg} {p : Addr} {n : Nat} {xs : List Val} (s : Sub h A) (e : h p = some (.pen n)) (ok : PenOk (n - 1) xs) : Sub (tick h) (G.put A p (.lst xs)) := fun a o z => by
  by_cases q : a = p
  · subst q
    rw [tick_get, e] at z
    cases z
    exact ⟨_, put_same, .mk ok⟩
  · rw [put_ne q]
    exact ((Sub.ticks (m := 1) (n := 0) (Nat.zero_le _)).trans s) a o z
theorem Sub.opened {h : Hg} {p : Addr} {n : Nat} {xs : List Val} (e : h p = some (.pen n)) (ok : PenOk n xs) : Sub h (G.put h p (.lst xs)) := fun a o z => by
  by_cases q : a = p
  · subst q
    rw [e] at z
    cases z
    exact ⟨_, put_same, .mk ok⟩
  · rw [put_ne q]; exact ⟨o, z, .refl o⟩
abbrev spDraw : Spec := fun args h Q _ => match args with
  | [.ref p, .int b] => HasPen h p 1 ∧ (0 < b ∧ b < 1073741824) ∧ ∀ d : Int, 0 ≤ d → d < b → Q (.int d) (ticks 1 h)
  | _ => False
abbrev spPen (n : Nat) : Spec := fun args h Q _ => match args with
  | [.scr ns] => ns.length ≤ 63 ∧ ∀ p, h p = none → Q (.ref p) (put h p (.pen n))
  | _ => False

/-! ### rules, one step each -/
section
variable {D : Dn} {nx : Env' → Hg → Prop} {rt : KV} {ex : XS} {bk ct : Env' → Hg → Prop} {env : Env'} {h : Hg} {Q : KV} {QA : List Val → Hg → Prop} {QT : Bool → Hg → Prop} {QN : Env' → Hg → Prop} {QO : Option Int → Hg → Prop} {E : KX} {S T : WS} {We Wa Wb Wc Wo Wi : WE} {Wr Wk : WA} {Wt Wu : WT} {Wg : WG Val} {Ws : WG (List Val)} {i j n : Nat} {v u : Val} {vs : List Val} {sp : Spec} {gi : List Nat} {o o' : W2} {m : WM} {f : WF} {Ty : String} {p q : Addr} {xs ys : List Val} {a b : Int} {P P' : Prop} [dp : Decidable P]
theorem onLst_at {K : Addr → List Val → Prop} (e : lstAt h p = some xs) (k : K p xs) : onLst h (.ref p) K := by
  unfold onLst
  show match lstAt h p with | some xs => _ | none => False
  rw [e]; exact k
theorem x_nx (k : nx env h) : wNx ⟨nx, rt, ex, bk, ct⟩ env h := k
theorem x_sq (k : S ⟨fun e' h' => T ⟨nx, rt, ex, bk, ct⟩ e' h', rt, ex, bk, ct⟩ env h) : wSq S T ⟨nx, rt, ex, bk, ct⟩ env h := k
theorem x_set (k : We env h (fun v h1 => nx (env.set i (some v)) h1) (fun x h' => ex x env h')) : wSet i We ⟨nx, rt, ex, bk, ct⟩ env h := k
theorem x_asg (k : We env h (fun v h1 => Wg v env h1 nx ex) (fun x h' => ex x env h')) : wAsg We Wg ⟨nx, rt, ex, bk, ct⟩ env h := k
theorem x_if (k : Wt env h (fun b h1 => if b = true then S ⟨nx, rt, ex, bk, ct⟩ env h1 else T ⟨nx, rt, ex, bk, ct⟩ env h1) (fun x h' => ex x env h')) : wIf Wt S T ⟨nx, rt, ex, bk, ct⟩ env h := k
theorem x_ret (k : We env h (fun v h1 => rt v h1) (fun x h' => ex x env h')) : wRet We ⟨nx, rt, ex, bk, ct⟩ env h := k
theorem x_retN (k : rt .non h) : wRetN ⟨nx, rt, ex, bk, ct⟩ env h := k
theorem x_drop (k : We env h (fun _ h1 => nx env h1) (fun x h' => ex x env h')) : wDrop We ⟨nx, rt, ex, bk, ct⟩ env h := k
theorem x_bk (k : bk env h) : wBk ⟨nx, rt, ex, bk, ct⟩ env h := k
theorem x_ct (k : ct env h) : wCt ⟨nx, rt, ex, bk, ct⟩ env h := k
theorem x_par {is : List Nat} (k : Wr env h (fun vs h1 => vs.length = is.length ∧ nx ((is.zip vs).foldl (fun en p => en.set p.1 (some p.2)) env) h1) (fun x h' => ex x env h')) : wPar is Wr ⟨nx, rt, ex, bk, ct⟩ env h := k
theorem x_aug (e : env[i]? = some (some v)) (k : We env h (fun u h1 => o v u h1 fun r h2 => nx (env.set i (some r)) h2) (fun x h' => ex x env h')) : wAug i o We ⟨nx, rt, ex, bk, ct⟩ env h := by
  unfold wAug; rw [e]; exact k
theorem x_augS (k : Wo env h (fun vo h1 => Wi env h1 (fun vi h2 => onLst h2 vo fun p xs => onInt vi fun k => onSome (atI xs k) fun v => We env h2 (fun u h3 => o v u h3 fun r h4 => oSet vo vi r h4 fun h5 => nx env h5) (fun x h' => ex x env h')) (fun x h' => ex x env h')) (fun x h' => ex x env h')) : wAugS o Wo Wi We ⟨nx, rt, ex, bk, ct⟩ env h := k
theorem x_onLst {K : Addr → List Val → Prop} (e : lstAt h p = some xs) (k : K p xs) : onLst h (.ref p) K := onLst_at e k
theorem x_onInt {K : Int → Prop} (k : K a) : onInt (.int a) K := k
theorem x_onBl {K : Bool → Prop} {b : Bool} (k : K b) : onBl (.bl b) K := k
theorem x_onSome {α : Type} {o : Option α} {z : α} {K : α → Prop} (e : o = some z) (k : K z) : onSome o K := by rw [e]; exact k
/-! expressions -/
theorem x_var (e : env[i]? = some (some v)) (k : Q v h) : wVar i env h Q E := by unfold wVar; rw [e]; exact k
theorem x_c (k : Q v h) : wC v env h Q E := k
theorem x_op (k : Wa env h (fun va h1 => Wb env h1 (fun vb h2 => o va vb h2 Q) E) E) : wOp o Wa Wb env h Q E := k
theorem x_chain (k : Wa env h (fun va h1 => Wb env h1 (fun vb h2 => o va vb h2 fun z h3 => onBl z fun b => if b = true then Wc env h3 (fun vc h4 => o' vb vc h4 Q) E else Q (.bl false) h3) E) E) : wChain o o' Wa Wb Wc env h Q E := k
theorem x_tst (k : We env h (fun v h' => onBl v fun b => QT b h') E) : wTst We env h QT E := k
theorem x_tru (k : We env h (fun v h' => onTru h' v fun b => QT b h') E) : wTru We env h QT E := k
theorem x_tand (k : Wt env h (fun b h1 => if b = true then Wu env h1 QT E else QT false h1) E) : wTand Wt Wu env h QT E := k
theorem x_tor (k : Wt env h (fun b h1 => if b = true then QT true h1 else Wu env h1 QT E) E) : wTor Wt Wu env h QT E := k
theorem x_tnot (k : Wt env h (fun b h1 => QT (!b) h1) E) : wTnot Wt env h QT E := k
theorem x_and (k : Wa env h (fun v h1 => onTru h1 v fun b => if b = true then Wb env h1 Q E else Q v h1) E) : wAnd Wa Wb env h Q E := k
theorem x_or (k : Wa env h (fun v h1 => onTru h1 v fun b => if b = true then Q v h1 else Wb env h1 Q E) E) : wOr Wa Wb env h Q E := k
theorem x_not (k : Wa env h (fun v h1 => onTru h1 v fun b => Q (.bl (!b)) h1) E) : wNot Wa env h Q E := k
theorem x_ife (k : Wt env h (fun b h1 => if b = true then Wa env h1 Q E else Wb env h1 Q E) E) : wIfe Wt Wa Wb env h Q E := k
theorem x_neg (k : Wa env h (fun v h1 => onInt v fun i => Q (.int (-i)) h1) E) : wNeg Wa env h Q E := k
theorem x_nil (k : QA [] h) : wNil env h QA E := k
theorem x_cons (k : We env h (fun v h1 => Wr env h1 (fun vs h2 => QA (v :: vs) h2) E) E) : wCons We Wr env h QA E := k
theorem x_tup (k : Wr env h (fun vs h1 => vs.length ≤ sizeLine ∧ Q (.tup vs) h1) E) : wTup Wr env h Q E := k
theorem x_lst (k : Wr env h (fun vs h1 => vs.length ≤ sizeLine ∧ ∀ p, h1 p = none → Q (.ref p) (put h1 p (.lst vs))) E) : wLst Wr env h Q E := k
theorem x_cb (k : Wr env h (fun vs h1 => f vs h1 Q) E) : wCB f Wr env h Q E := k
theorem x_m0 (k : Wo env h (fun v h1 => tyG Ty h1 v = true ∧ m v [] h1 Q) E) : wM0 Ty m Wo env h Q E := k
theorem x_m (k : Wo env h (fun v h1 => tyG Ty h1 v = true ∧ Wr env h1 (fun vs h2 => m v vs h2 Q) E) E) : wM Ty m Wo Wr env h Q E := k
theorem x_call (k : Wr env h (fun vs h1 => vs.length = n ∧ sp (perm gi vs) h1 Q E) E) : wCall sp n gi Wr env h Q E := k
theorem x_callK (k : Wr env h (fun vs h1 => Wk env h1 (fun zs h2 => vs.length = n ∧ zs.length = j ∧ sp (perm gi (vs ++ zs)) h2 Q E) E) E) : wCallK sp n j gi Wr Wk env h Q E := k
theorem x_sl {Wl Wh : WO} (k : We env h (fun v h1 => Wl env h1 (fun l h2 => Wh env h2 (fun u h3 => oSl v l u h3 Q) E) E) E) : wSl We Wl Wh env h Q E := k
theorem x_nop (k : QO none h) : wNoPart env h QO E := k
theorem x_part (k : We env h (fun v h1 => onInt v fun i => QO (some i) h1) E) : wPart We env h QO E := k
theorem x_rev (k : We env h (fun v h1 => oRev v h1 Q) E) : wRev We env h Q E := k
/-! targets -/
theorem x_gname (k : QN (env.set i (some v)) h) : wgName i v env h QN ex := k
theorem x_gsub (k : Wo env h (fun o h1 => Wi env h1 (fun i h2 => oSet o i v h2 (fun h3 => QN env h3)) (fun x h' => ex x env h')) (fun x h' => ex x env h')) : wgSub Wo Wi v env h QN ex := k
theorem x_gnil (k : QN env h) : wgNil [] env h QN ex := ⟨rfl, k⟩
theorem x_gcons (k : Wg v env h (fun env1 h1 => Ws vs env1 h1 QN ex) ex) : wgCons Wg Ws (v :: vs) env h QN ex := k
theorem x_gtupT (l : xs.length = n) (k : Ws xs env h QN ex) : wgTup n Ws (.tup xs) env h QN ex := ⟨l, k⟩
theorem x_gtupL (e : lstAt h p = some xs) (l : xs.length = n) (k : Ws xs env h QN ex) : wgTup n Ws (.ref p) env h QN ex := by
  unfold wgTup onSeq
  show match lstAt h p with | some xs => _ | none => False
  rw [e]; exact ⟨l, k⟩
theorem x_gpr (l : vs.length = n) (k : Ws vs env h QN ex) : wgPr n Ws vs env h QN ex := ⟨l, k⟩
theorem x_cname (k : QN (env.set i (some v)) h) : wcName i v env h QN := k
theorem x_cnil (k : QN env h) : wcNil [] env h QN := ⟨rfl, k⟩
theorem x_ccons {Wx : WC Val} {Wy : WC (List Val)} (k : Wx v env h (fun env1 h1 => Wy vs env1 h1 QN)) : wcCons Wx Wy (v :: vs) env h QN := k
theorem x_ctupT {Wy : WC (List Val)} (l : xs.length = n) (k : Wy xs env h QN) : wcTup n Wy (.tup xs) env h QN := ⟨l, k⟩
theorem x_cpr {Wy : WC (List Val)} (l : vs.length = n) (k : Wy vs env h QN) : wcPr n Wy vs env h QN := ⟨l, k⟩
/-! values: operators -/
theorem x_addI (k : Q (.int (a + b)) h) : oAdd (.int a) (.int b) h Q := k
theorem x_addT (l : xs.length + ys.length ≤ sizeLine) (k : Q (.tup (xs ++ ys)) h) : oAdd (.tup xs) (.tup ys) h Q := ⟨l, k⟩
theorem x_addS {s t : Str} (l : s.length + t.length ≤ sizeLine) (k : Q (.str (s ++ t)) h) : oAdd (.str s) (.str t) h Q := ⟨l, k⟩
theorem x_addL (e : lstAt h p = some xs) (e2 : lstAt h q = some ys) (l : xs.length + ys.length ≤ sizeLine) (k : ∀ r, h r = none → Q (.ref r) (put h r (.lst (xs ++ ys)))) : oAdd (.ref p) (.ref q) h Q := by
  show (match h p, h q with
    | some (.lst xs), some (.lst ys) => xs.length + ys.length ≤ sizeLine ∧ ∀ p, h p = none → Q (.ref p) (put h p (.lst (xs ++ ys)))
    | _, _ => False)
  rw [lstAt_eq e, lstAt_eq e2]
  exact ⟨l, k⟩
theorem x_subI (k : Q (.int (a - b)) h) : oSub (.int a) (.int b) h Q := k
theorem x_mulI (c : MulOk a b) (k : Q (.int (a * b)) h) : oMul (.int a) (.int b) h Q := ⟨c, k⟩
theorem x_mulT (c : -(2 ^ 63) ≤ a ∧ a ≤ 1000 ∧ xs.length ≤ 1000) (k : Q (.tup (List.replicate a.toNat xs).flatten) h) : oMul (.tup xs) (.int a) h Q := ⟨c, k⟩
theorem x_mulL (e : lstAt h p = some xs) (c : -(2 ^ 63) ≤ a ∧ a < 2 ^ 63 ∧ xs.length * a.toNat ≤ sizeLine) (k : ∀ r, h r = none → Q (.ref r) (put h r (.lst (List.replicate a.toNat xs).flatten))) : oMul (.ref p) (.int a) h Q := by
  show (match h p with
    | some (.lst xs) => (-(2 ^ 63) ≤ a ∧ a < 2 ^ 63 ∧ xs.length * a.toNat ≤ sizeLine) ∧ ∀ p, h p = none → Q (.ref p) (put h p (.lst (List.replicate a.toNat xs).flatten))
    | _ => False)
  rw [lstAt_eq e]
  exact ⟨c, k⟩
theorem x_fdivI (c : DivOk b) (k : Q (.int (a / b)) h) : oFdiv (.int a) (.int b) h Q := ⟨c, k⟩
theorem x_modI (c : 0 < b) (k : Q (.int (a % b)) h) : oMod (.int a) (.int b) h Q := ⟨c, k⟩
theorem x_modA (c : 0 < b) (k : ∀ m, 0 ≤ m → m < b → Q (.int m) h) : oMod (.int a) (.int b) h Q := ⟨c, k _ (Int.emod_nonneg _ (by omega)) (Int.emod_lt_of_pos _ c)⟩
theorem x_powI (c : CPow a b) (k : Q (.int (a ^ b.toNat)) h) : oPow (.int a) (.int b) h Q := ⟨c, k⟩
theorem x_eq {r : Bool} (e : eqS v u = some r) (k : Q (.bl r) h) : oEq v u h Q := by unfold oEq EqD; rw [e]; exact k
theorem x_ne {r : Bool} (e : eqS v u = some r) (k : Q (.bl (!r)) h) : oNe v u h Q := by unfold oNe EqD; rw [e]; exact k
theorem x_ltI (k : Q (.bl (decide (a < b))) h) : oLt (.int a) (.int b) h Q := k
theorem x_leI (k : Q (.bl (decide (a ≤ b))) h) : oLe (.int a) (.int b) h Q := k
theorem x_gtI (k : Q (.bl (decide (b < a))) h) : oGt (.int a) (.int b) h Q := k
theorem x_geI (k : Q (.bl (decide (b ≤ a))) h) : oGe (.int a) (.int b) h Q := k
theorem x_ixL (e : lstAt h p = some xs) (e2 : atI xs a = some v) (k : Q v h) : oIx (.ref p) (.int a) h Q := by
  show onSeq h (.ref p) _
  unfold onSeq
  show match lstAt h p with | some xs => _ | none => False
  rw [e]; show onSome _ _; rw [e2]; exact k
theorem x_ixT (e2 : atI xs a = some v) (k : Q v h) : oIx (.tup xs) (.int a) h Q := by
  show onSome _ _; rw [e2]; exact k
theorem x_ixS {ns : List Int} (e2 : atI (ns.map Val.int) a = some v) (k : Q v h) : oIx (.scr ns) (.int a) h Q := by
  show onSome _ _; rw [e2]; exact k
theorem x_setI (e : lstAt h p = some xs) (e2 : ixN xs.length a = some j) {QH : Hg → Prop} (k : QH (put h p (.lst (xs.set j v)))) : oSet (.ref p) (.int a) v h QH := by
  unfold oSet
  refine onLst_at e ?_
  rw [e2]; exact k
/-! tests -/
theorem x_yes {A B : Prop} (k : A) : if true = true then A else B := by rw [if_pos rfl]; exact k
theorem x_no {A B : Prop} (k : B) : if false = true then A else B := by rw [if_neg Bool.false_ne_true]; exact k
theorem x_yesE {c : Bool} {A B : Prop} (e : c = true) (k : A) : if c = true then A else B := by rw [if_pos e]; exact k
theorem x_noE {c : Bool} {A B : Prop} (e : c = false) (k : B) : if c = true then A else B := by rw [if_neg (by rw [e]; exact Bool.false_ne_true)]; exact k
theorem x_dec {A B : Prop} (k1 : P → A) (k2 : ¬ P → B) : if decide P = true then A else B := by
  by_cases z : P
  · rw [if_pos (decide_eq_true z)]; exact k1 z
  · rw [if_neg (by rw [decide_eq_false z]; exact Bool.false_ne_true)]; exact k2 z
theorem x_decN {A B : Prop} (k1 : ¬ P → A) (k2 : P → B) : if (!decide P) = true then A else B := by
  by_cases z : P
  · rw [if_neg (by rw [decide_eq_true z]; exact Bool.false_ne_true)]; exact k2 z
  · rw [if_pos (by rw [decide_eq_false z]; rfl)]; exact k1 z
theorem x_bool {c : Bool} {A B : Prop} (k1 : c = true → A) (k2 : c = false → B) : if c = true then A else B := by
  cases c
  · exact x_no (k2 rfl)
  · exact x_yes (k1 rfl)
theorem x_tru1 {r : Bool} (e : truB h v = some r) {K : Bool → Prop} (k : K r) : onTru h v K := by unfold onTru; rw [e]; exact k
/-! built-in functions -/
theorem x_lenL (e : lstAt h p = some xs) (k : Q (.int xs.length) h) : fLen [.ref p] h Q := by
  show onSeq h (.ref p) _
  unfold onSeq
  show match lstAt h p with | some xs => _ | none => False
  rw [e]; exact k
theorem x_lenT (k : Q (.int xs.length) h) : fLen [.tup xs] h Q := k
theorem x_lenC {ns : List Int} (k : Q (.int ns.length) h) : fLen [.scr ns] h Q := by
  show Q (.int (ns.map Val.int).length) h
  rw [List.length_map]; exact k
theorem x_abs (k : Q (.int (if a < 0 then -a else a)) h) : fAbs [.int a] h Q := k
theorem x_intI (k : Q (.int a) h) : fInt [.int a] h Q := k
theorem x_intB {c : Bool} (k : Q (.int (if c then 1 else 0)) h) : fInt [.bl c] h Q := k
theorem x_min2 (k : Q (.int (if b < a then b else a)) h) : fMin2 [.int a, .int b] h Q := k
theorem x_max2 (k : Q (.int (if b > a then b else a)) h) : fMax2 [.int a, .int b] h Q := k
theorem x_listL (e : lstAt h p = some xs) (k : ∀ q, h q = none → Q (.ref q) (put h q (.lst xs))) : fList [.ref p] h Q := by
  show onSeq h (.ref p) _
  unfold onSeq
  show match lstAt h p with | some xs => _ | none => False
  rw [e]; exact k
theorem x_listT (k : ∀ q, h q = none → Q (.ref q) (put h q (.lst xs))) : fList [.tup xs] h Q := k
theorem x_tupleL (e : lstAt h p = some xs) (k : Q (.tup xs) h) : fTuple [.ref p] h Q := by
  show onSeq h (.ref p) _
  unfold onSeq
  show match lstAt h p with | some xs => _ | none => False
  rw [e]; exact k
theorem x_tupleT (k : Q (.tup xs) h) : fTuple [.tup xs] h Q := k
theorem x_isinst {T t : String} (e : tyN h v = some t) (ht : tysB.contains T = true) (k : Q (.bl (isT t T)) h) : fIsInst [v, .ty T] h Q := by
  refine ⟨ht, ?_⟩
  rw [e]; exact k
/-! slices -/
theorem x_slT {l hi : Option Int} (k : Q (.tup (cutG xs l hi)) h) : oSl (.tup xs) l hi h Q := k
theorem x_slL {l hi : Option Int} (e : lstAt h p = some xs) (k : ∀ q, h q = none → Q (.ref q) (put h q (.lst (cutG xs l hi)))) : oSl (.ref p) l hi h Q := by
  show onSeq h (.ref p) _
  unfold onSeq
  show match lstAt h p with | some xs => _ | none => False
  rw [e]; exact k
theorem x_slC {l hi : Option Int} {ns : List Int} (k : ∀ q, h q = none → Q (.ref q) (put h q (.lst (cutG (ns.map Val.int) l hi)))) : oSl (.scr ns) l hi h Q := k
theorem x_revL (e : lstAt h p = some xs) (k : ∀ q, h q = none → Q (.ref q) (put h q (.lst xs.reverse))) : oRev (.ref p) h Q := by
  show onSeq h (.ref p) _
  unfold onSeq
  show match lstAt h p with | some xs => _ | none => False
  rw [e]; exact k
/-! methods of lists -/
theorem x_tyL (e : lstAt h p = some xs) (k : P') : tyG "list" h (.ref p) = true ∧ P' := by
  refine ⟨?_, k⟩
  show ("list" == "list" && (lstAt h p).isSome) = true
  rw [e]; rfl
theorem x_append (e : lstAt h p = some xs) (l : xs.length < sizeLine) (k : Q .non (put h p (.lst (xs ++ [v])))) : mAppend (.ref p) [v] h Q := by unfold mAppend; exact onLst_at e ⟨l, k⟩
theorem x_extend (e : lstAt h p = some xs) (e2 : lstAt h q = some ys) (l : xs.length + ys.length ≤ sizeLine) (k : Q .non (put h p (.lst (xs ++ ys)))) : mExtend (.ref p) [.ref q] h Q := by unfold mExtend; exact onLst_at e (onLst_at e2 ⟨l, k⟩)
theorem x_extendT {ys : List Val} (e : lstAt h p = some xs) (l : xs.length + ys.length ≤ sizeLine) (k : Q .non (put h p (.lst (xs ++ ys)))) : mExtend (.ref p) [.tup ys] h Q := by unfold mExtend; exact onLst_at e ⟨l, k⟩
theorem x_pop (e : lstAt h p = some xs) (e2 : xs[xs.length - 1]? = some v) (k : Q v (put h p (.lst xs.dropLast))) : mPop (.ref p) [] h Q := by unfold mPop; exact onLst_at e (by rw [e2]; exact k)
theorem x_popI (e : lstAt h p = some xs) (l : -(2 ^ 63) ≤ a ∧ a < 2 ^ 63) (e1 : ixN xs.length a = some j) (e2 : xs[j]? = some v) (k : Q v (put h p (.lst (xs.eraseIdx j)))) : mPop (.ref p) [.int a] h Q := by unfold mPop; exact onLst_at e ⟨l, by rw [e1]; show onSome (xs[j]?) _; rw [e2]; exact k⟩
theorem x_insert (e : lstAt h p = some xs) (l : xs.length < sizeLine ∧ 0 ≤ a ∧ a < 2 ^ 63) (k : Q .non (put h p (.lst (xs.take a.toNat ++ [v] ++ xs.drop a.toNat)))) : mInsert (.ref p) [.int a, v] h Q := by unfold mInsert; exact onLst_at e ⟨l, k⟩
theorem x_lrg1 (k : Wa env h (fun v h1 => onInt v fun n => RgOk 0 n ∧ ∀ q, h1 q = none → Q (.ref q) (put h1 q (.lst (rgVals 0 n)))) E) : wLRg1 Wa env h Q E := k
theorem x_lrg2 (k : Wa env h (fun v h1 => Wb env h1 (fun u h2 => onInt v fun i => onInt u fun j => RgOk i j ∧ ∀ q, h2 q = none → Q (.ref q) (put h2 q (.lst (rgVals i j)))) E) E) : wLRg2 Wa Wb env h Q E := k
/-! arithmetic -/
theorem mulOk_l (h1 : -18446744073709551616 < a) (h2 : a < 18446744073709551616) : MulOk a b := .inl (.inl ⟨by omega, by omega⟩)
theorem mulOk_r (h1 : -18446744073709551616 < b) (h2 : b < 18446744073709551616) : MulOk a b := .inl (.inr ⟨by omega, by omega⟩)
theorem divOk_s (h1 : 0 < b) (h2 : b < 1073741824) : DivOk b := ⟨h1, .inl h2⟩
theorem cpow_s (h1 : 0 ≤ b) (h2 : b ≤ 1000000) (h3 : -18446744073709551616 < a) (h4 : a < 18446744073709551616) : CPow a b := ⟨h1, h2, by omega⟩
theorem ixN_pos {n : Nat} (h0 : 0 ≤ a) (h1 : a < n) : ixN n a = some a.toNat := by
  unfold ixN; rw [if_pos h0, if_pos h1]
theorem atI_pos {α : Type} {zs : List α} {z : α} (h0 : 0 ≤ a) (h1 : zs[a.toNat]? = some z) : atI zs a = some z := by
  have h2 : a.toNat < zs.length := (List.getElem?_eq_some_iff.mp h1).1
  unfold atI; rw [ixN_pos h0 (by omega)]; exact h1
theorem lst_at {h : Hg} {p : Addr} {xs : List Val} (e : h p = some (.lst xs)) : lstAt h p = some xs := lstAt_of e
theorem lstAt_ticks' {n : Nat} (e : lstAt h p = some xs) : lstAt (ticks n h) p = some xs := by rw [lstAt_ticks]; exact e
theorem lstAt_put' {o : Ob} (n : p ≠ q) (e : lstAt h p = some xs) : lstAt (put h q o) p = some xs := by rw [lstAt_put_ne n]; exact e
end

/-! ### data shown -/
structure Shw (h : Hg) (v : Val) (d : PyData) (k j : Nat) : Prop where
  dat : Dat h v d
  lay : d.canLay0 = true
  sht : d.intsShort 13 = true
  wt : d.weight ≤ k
  shw : d.showable = true
  dep : d.depth ≤ j
structure ShwL (h : Hg) (vs : List Val) (ds : List PyData) (k j : Nat) : Prop where
  dat : DatL h vs ds
  lay : PyData.canLayAll0 ds = true
  sht : PyData.intsShortAll 13 ds = true
  wt : PyData.weightAll ds ≤ k
  shw : PyData.showableAll ds = true
  dep : PyData.depthAll ds ≤ j
section
variable {h : Hg} {v : Val} {vs : List Val} {d : PyData} {ds : List PyData} {k k' j j' : Nat}
theorem Shw.le (x : Shw h v d k j) (a : k ≤ k') (b : j ≤ j') : Shw h v d k' j' := ⟨x.dat, x.lay, x.sht, Nat.le_trans x.wt a, x.shw, Nat.le_trans x.dep b⟩
theorem ShwL.le (x : ShwL h vs ds k j) (a : k ≤ k') (b : j ≤ j') : ShwL h vs ds k' j' := ⟨x.dat, x.lay, x.sht, Nat.le_trans x.wt a, x.shw, Nat.le_trans x.dep b⟩
theorem Shw.non : Shw h .non .none 0 0 := ⟨.non, rfl, rfl, Nat.le_refl _, rfl, Nat.le_refl _⟩
theorem Shw.bl (b : Bool) : Shw h (.bl b) (.bool b) 0 0 := ⟨.bl b, rfl, rfl, Nat.le_refl _, rfl, Nat.le_refl _⟩
theorem Shw.int {i : Int} (a : i.natAbs < 1000000000000) : Shw h (.int i) (.int i) 40 0 := by
  refine ⟨.int i, rfl, ?_, ?_, ?_, Nat.le_refl _⟩
  · simp only [PyData.intsShort, decide_eq_true_eq]
    exact PyData.shown_int_le (by omega)
  · show (if i == 0 then 0 else i.natAbs.log2 + 1) ≤ 40
    split
    · omega
    · have : i.natAbs ≠ 0 := by simp_all
      have := (Nat.log2_lt this).mpr (show i.natAbs < 2 ^ 40 by omega)
      omega
  · simp only [PyData.showable, decide_eq_true_eq]
    by_cases z : i.natAbs = 0
    · rw [z]; decide
    · have := (Nat.log2_lt z).mpr (show i.natAbs < 2 ^ 40 by omega)
      omega
theorem ShwL.nil : ShwL h [] [] 0 0 := ⟨.nil, rfl, rfl, Nat.le_refl _, rfl, Nat.le_refl _⟩
theorem ShwL.cons (x : Shw h v d k j) (y : ShwL h vs ds k' j) : ShwL h (v :: vs) (d :: ds) (k + 1 + k') j := by
  refine ⟨.cons x.dat y.dat, ?_, ?_, ?_, ?_, ?_⟩
  · simp only [PyData.canLayAll0, x.lay, y.lay, Bool.and_self]
  · simp only [PyData.intsShortAll, x.sht, y.sht, Bool.and_self]
  · simp only [PyData.weightAll]; have := x.wt; have := y.wt; omega
  · simp only [PyData.showableAll, x.shw, y.shw, Bool.and_self]
  · simp only [PyData.depthAll]; have := x.dep; have := y.dep; omega
theorem Shw.tup (x : ShwL h vs ds k j) : Shw h (.tup vs) (.tuple ds) k (j + 1) := by
  refine ⟨.tup x.dat, ?_, ?_, ?_, ?_, ?_⟩
  · simp only [PyData.canLay0]; exact x.lay
  · simp only [PyData.intsShort]; exact x.sht
  · simp only [PyData.weight]; exact x.wt
  · simp only [PyData.showable]; exact x.shw
  · simp only [PyData.depth]; have := x.dep; omega
theorem Shw.lst {a : Addr} (e : lstAt h a = some vs) (x : ShwL h vs ds k j) : Shw h (.ref a) (.list ds) k (j + 1) := by
  refine ⟨.lst (lstAt_eq e) x.dat, ?_, ?_, ?_, ?_, ?_⟩
  · simp only [PyData.canLay0]; exact x.lay
  · simp only [PyData.intsShort]; exact x.sht
  · simp only [PyData.weight]; exact x.wt
  · simp only [PyData.showable]; exact x.shw
  · simp only [PyData.depth]; have := x.dep; omega
theorem ShwL.map {α : Type} {f : α → Val} {g : α → PyData} : ∀ {l : List α}, (∀ x ∈ l, Shw h (f x) (g x) k j) → ShwL h (l.map f) (l.map g) (l.length * (k + 1)) j
  | [], _ => ShwL.nil.le (Nat.zero_le _) (Nat.zero_le _)
  | x :: r, a => by
    have y := ShwL.cons (a x List.mem_cons_self) (ShwL.map (l := r) fun z hz => a z (List.mem_cons_of_mem _ hz))
    refine y.le ?_ (Nat.le_refl _)
    rw [List.length_cons, Nat.succ_mul]; omega
theorem Shw.fits (x : Shw h v d k j) (a : k ≤ 1048576) : d.shown.length ≤ sizeLine := by
  have e : (2 : Nat) ^ 20 = 1048576 := by decide
  exact PyData.shown_fits (B := 13) (by decide) (by decide) (PyData.leavesShort_of_canLay0 13 d x.lay x.sht) (by rw [e]; exact Nat.le_trans x.wt a)
end

section
variable {h : Hg} {v u : Val} {d e : PyData} {k j k' j' : Nat} {Q : KV}
theorem x_repr (x : Shw h v d k j) (a : k ≤ 1048576) (b : j ≤ 60) (q : Q (.str d.shown) h) : fRepr [v] h Q :=
  ⟨d, x.dat, x.shw, PyData.hasDict_of_canLay d x.lay, Nat.le_trans x.dep b, x.fits a, q⟩
theorem Shw.shaped (x : Shw h v d k j) (b : j ≤ 64) : SeqAt.shaped d = true := by
  unfold SeqAt.shaped
  rw [x.lay, decide_eq_true (Nat.le_trans x.dep b)]
  rfl
theorem x_eqD (x : Shw h v d k j) (y : Shw h u e k' j') (n : eqS v u = none) (a : j ≤ 64) (b : j' ≤ 64) (q : Q (.bl (PyData.eqv d e)) h) : oEq v u h Q := by
  unfold oEq EqD; rw [n]; exact ⟨d, e, x.dat, y.dat, x.shaped a, y.shaped b, q⟩
theorem x_neD (x : Shw h v d k j) (y : Shw h u e k' j') (n : eqS v u = none) (a : j ≤ 64) (b : j' ≤ 64) (q : Q (.bl (!PyData.eqv d e)) h) : oNe v u h Q := by
  unfold oNe EqD; rw [n]; exact ⟨d, e, x.dat, y.dat, x.shaped a, y.shaped b, q⟩
theorem x_cut {nx : Env' → Hg → Prop} {rt : KV} {ex : XS} {bk ct : Env' → Hg → Prop} {env : Env'} {S T : WS} (Mid : Env' → Hg → Prop) (k : S ⟨Clo Mid, rt, ex, bk, ct⟩ env h) (k2 : ∀ env' h', Mid env' h' → T ⟨nx, rt, ex, bk, ct⟩ env' h') : wCut S T ⟨nx, rt, ex, bk, ct⟩ env h := ⟨Mid, k, k2⟩
theorem datL_len {h : Hg} : ∀ {vs : List Val} {ds : List PyData}, DatL h vs ds → ds.isEmpty = vs.isEmpty
  | _, _, .nil => rfl
  | _, _, .cons _ _ => rfl
theorem eqv_nil (ds : List PyData) : PyData.eqv (.list ds) (.list []) = ds.isEmpty := by
  cases ds <;> rfl
theorem Shw.scr (ns : List Int) : Dat h (.scr ns) (.list (ns.map PyData.int)) := .scr ns
theorem canLay_ints : ∀ ns : List Int, PyData.canLayAll0 (ns.map PyData.int) = true
  | [] => rfl
  | n :: r => by simp only [List.map_cons, PyData.canLayAll0, PyData.canLay0, canLay_ints r, Bool.and_self]
theorem depth_ints : ∀ ns : List Int, PyData.depthAll (ns.map PyData.int) = 0
  | [] => rfl
  | n :: r => by simp only [List.map_cons, PyData.depthAll, PyData.depth, depth_ints r, Nat.max_self]
theorem shaped_ints (ns : List Int) : SeqAt.shaped (.list (ns.map PyData.int)) = true := by
  unfold SeqAt.shaped
  simp only [PyData.canLay0, PyData.depth, canLay_ints, depth_ints]
  decide
/-- a script's cells against the empty list -/
theorem x_neC {ns : List Int} {q : Addr} (e : lstAt h q = some []) (k : Q (.bl (!ns.isEmpty)) h) : oNe (.scr ns) (.ref q) h Q := by
  unfold oNe EqD
  refine ⟨.list (ns.map PyData.int), .list [], .scr ns, .lst (lstAt_eq e) .nil, shaped_ints ns, rfl, ?_⟩
  rw [eqv_nil, List.isEmpty_map]
  exact k
theorem x_neE {p q : Addr} {vs : List Val} {ds : List PyData} (e : lstAt h p = some vs) (x : ShwL h vs ds k j) (b : j ≤ 60) (e2 : lstAt h q = some []) (kk : Q (.bl (!vs.isEmpty)) h) : oNe (.ref p) (.ref q) h Q := by
  refine x_neD (Shw.lst e x) (Shw.lst e2 (ShwL.nil (h := h))) rfl (by omega) (by omega) ?_
  rw [eqv_nil, datL_len x.dat]
  exact kk
theorem x_eqE {p q : Addr} {vs : List Val} {ds : List PyData} (e : lstAt h p = some vs) (x : ShwL h vs ds k j) (b : j ≤ 60) (e2 : lstAt h q = some []) (kk : Q (.bl vs.isEmpty) h) : oEq (.ref p) (.ref q) h Q := by
  refine x_eqD (Shw.lst e x) (Shw.lst e2 (ShwL.nil (h := h))) rfl (by omega) (by omega) ?_
  rw [eqv_nil, datL_len x.dat]
  exact kk
/-- a cell drawn -/
theorem cell_at {ns : List Int} {t : Int} (e : ns.isEmpty = false) (t0 : 0 ≤ t) : ∃ c, atI (ns.map Val.int) (t % (ns.length : Int)) = some (.int c) := by
  have hl : 0 < ns.length := by
    cases ns with
    | nil => cases e
    | cons a r => simp
  have h1 : 0 ≤ t % (ns.length : Int) := Int.emod_nonneg _ (by omega)
  have h2 : t % (ns.length : Int) < ns.length := Int.emod_lt_of_pos _ (by omega)
  have h3 : (t % (ns.length : Int)).toNat < ns.length := by omega
  exact ⟨_, atI_pos h1 (by rw [List.getElem?_map, List.getElem?_eq_getElem h3]; rfl)⟩
/-- bounds of products -/
theorem sq_bound {c t : Int} (c0 : 0 ≤ c) (c1 : c ≤ 1048576) (t0 : 0 ≤ t) (t1 : t ≤ 1048576) : 0 ≤ c * t ∧ c * t ≤ 1099511627776 ∧ 0 ≤ c * t * t ∧ c * t * t ≤ 1152921504606846976 := by
  have a1 : 0 ≤ c * t := Int.mul_nonneg c0 t0
  have a2 : c * t ≤ 1048576 * 1048576 := Int.mul_le_mul c1 t1 t0 (by omega)
  have a3 : 0 ≤ c * t * t := Int.mul_nonneg a1 t0
  have a4 : c * t * t ≤ 1099511627776 * 1048576 := Int.mul_le_mul (by omega) t1 t0 (by omega)
  omega
theorem mul_bound {x y : Int} (x0 : 0 ≤ x) (x1 : x ≤ 2147483648) (y0 : 0 ≤ y) (y1 : y ≤ 4294967296) : 0 ≤ x * y ∧ x * y ≤ 9223372036854775808 := by
  have a1 : 0 ≤ x * y := Int.mul_nonneg x0 y0
  have a2 : x * y ≤ 2147483648 * 4294967296 := Int.mul_le_mul x1 y1 y0 (by omega)
  omega
theorem clo_mk {P : Env' → Hg → Prop} {e' e : Env'} {h' h : Hg} (s : subEb e' e) (u : Sub h' h) (p : P e' h') : Clo P e h := ⟨e', h', SubE.of s, u, p⟩
theorem cloH_mk {P : Hg → Prop} {h' h : Hg} (u : Sub h' h) (p : P h') : CloH P h := ⟨h', u, p⟩
theorem bit_bound (c : Bool) : 0 ≤ (if c = true then (1 : Int) else 0) ∧ (if c = true then (1 : Int) else 0) ≤ 1 := by cases c <;> simp
theorem abs_nn (c : Int) : 0 ≤ (if c < 0 then -c else c) := by split <;> omega
end
end G

set_option Elab.async false
set_option linter.all false
set_option maxRecDepth 100000
set_option maxHeartbeats 4000000
namespace G
open PySem PySem.Spec L2
open PyProof.Rows hiding St

/-! ### loops, by an invariant -/
section
variable {nx : Env' → Hg → Prop} {rt : KV} {ex : XS} {bk ct : Env' → Hg → Prop} {env : Env'} {h : Hg} {Q : KV} {E : KX} {S : WS} {Wt : WT} {We Wa Wb Wx : WE} {Wr : WA}
theorem x_for {α : Type} {Wi : WI α} {Wg : WG α} (k : Wi env h (fun sq h1 => ∃ I : Nat → Nat → Env' → Hg → Prop, (∃ m, Clo (I 0 m) env h1) ∧ ∀ i m env h, I i m env h → turnOf (sq i h) (nx env h) fun a => Wg a env h (fun env2 h2 => S ⟨Clo fun e' h' => ∃ m', m' < m ∧ I (i + 1) m' e' h', rt, ex, nx, Clo fun e' h' => ∃ m', m' < m ∧ I (i + 1) m' e' h'⟩ env2 h2) ex) (fun x h' => ex x env h')) : wFor Wi Wg S ⟨nx, rt, ex, bk, ct⟩ env h := k
theorem for_by {α : Type} {sq : Sq α} {Wg : WG α} (it : Nat → Option α) (n : Nat) (J : Nat → Env' → Hg → Prop) (hs : ∀ i e h, J i e h → sq i h = some (it i)) (hn : ∀ i a, it i = some a → i < n) (h0 : Clo (J 0) env h)
    (step : ∀ i a e h, it i = some a → J i e h → Wg a e h (fun e2 h2 => S ⟨Clo (J (i + 1)), rt, ex, nx, Clo (J (i + 1))⟩ e2 h2) ex) (fin : ∀ i e h, it i = none → J i e h → nx e h) :
    ∃ I : Nat → Nat → Env' → Hg → Prop, (∃ m, Clo (I 0 m) env h) ∧ ∀ i m env h, I i m env h → turnOf (sq i h) (nx env h) fun a => Wg a env h (fun env2 h2 => S ⟨Clo fun e' h' => ∃ m', m' < m ∧ I (i + 1) m' e' h', rt, ex, nx, Clo fun e' h' => ∃ m', m' < m ∧ I (i + 1) m' e' h'⟩ env2 h2) ex := by
  refine ⟨fun i m e h => m = n - i ∧ J i e h, ⟨n - 0, let ⟨e', h', a, b, c⟩ := h0; ⟨e', h', a, b, rfl, c⟩⟩, ?_⟩
  rintro i m e h ⟨rfl, j⟩
  rw [hs i e h j]
  cases q : it i with
  | none => exact fin i e h q j
  | some a =>
    have lt := hn i a q
    have key : (fun (e' : Env') (h' : Hg) => ∃ m', m' < n - i ∧ (m' = n - (i + 1) ∧ J (i + 1) e' h')) = J (i + 1) := by
      funext e' h'
      exact propext ⟨fun ⟨_, _, _, z⟩ => z, fun z => ⟨_, by omega, rfl, z⟩⟩
    show Wg a e h (fun env2 h2 => S ⟨Clo fun e' h' => ∃ m', m' < n - i ∧ (m' = n - (i + 1) ∧ J (i + 1) e' h'), rt, ex, nx, Clo fun e' h' => ∃ m', m' < n - i ∧ (m' = n - (i + 1) ∧ J (i + 1) e' h')⟩ env2 h2) ex
    rw [key]
    exact step i a e h q j
theorem x_while {Wc : WT} (J : Nat → Env' → Hg → Prop) (h0 : ∃ m, Clo (J m) env h) (step : ∀ m e h, J m e h → Wc e h (fun b h1 => if b = true then S ⟨Clo fun e' h' => ∃ m', m' < m ∧ J m' e' h', rt, ex, nx, Clo fun e' h' => ∃ m', m' < m ∧ J m' e' h'⟩ e h1 else nx e h1) (fun x h' => ex x e h')) : wWhile Wc S ⟨nx, rt, ex, bk, ct⟩ env h := ⟨J, h0, step⟩
theorem x_lc {α : Type} {Wi : WI α} {Wc : WC α} {vs : List Nat} (k : Wi env h (fun sq h1 => ∀ p, h1 p = none → ∃ I : Nat → Nat → Hg → Prop, (∃ m, CloH (I 0 m) (put h1 p (.lst []))) ∧ ∀ i m h, I i m h → turnOf (sq i h) (Q (.ref p) h) fun a => Wc a (wipeG env vs) h (fun env2 h2 => Wt env2 h2 (fun b h3 => if b = true then We env2 h3 (fun y h4 => onLst h4 (.ref p) fun _ acc => acc.length < sizeLine ∧ CloH (fun h5 => ∃ m', m' < m ∧ I (i + 1) m' h5) (put h4 p (.lst (acc ++ [y])))) (fun _ _ => False) else CloH (fun h5 => ∃ m', m' < m ∧ I (i + 1) m' h5) h3) (fun _ _ => False))) E) : wLc Wi Wc Wt We vs env h Q E := k
/-- a comprehension: J by the turn, what stands in the new list, and the heap without it -/
theorem lc_by {α : Type} {sq : Sq α} {Wc : WC α} {vs : List Nat} {p : Addr} {F : Hg → Prop} (it : Nat → Option α) (n : Nat) (J : Nat → List Val → Hg → Prop) (hs : ∀ i acc h', J i acc h' → h' p = none → sq i (put h' p (.lst acc)) = some (it i)) (hn : ∀ i a, it i = some a → i < n) (np : h p = none) (h0 : J 0 [] h)
    (step : ∀ i a acc h', it i = some a → J i acc h' → h' p = none → ∀ Nx : Hg → Prop, (∀ acc' h'' A, J (i + 1) acc' h'' → h'' p = none → Sub (put h'' p (.lst acc')) A → Nx A) →
      Wc a (wipeG env vs) (put h' p (.lst acc)) (fun env2 h2 => Wt env2 h2 (fun b h3 => if b = true then We env2 h3 (fun y h4 => onLst h4 (.ref p) fun _ acc => acc.length < sizeLine ∧ Nx (put h4 p (.lst (acc ++ [y])))) (fun _ _ => False) else Nx h3) (fun _ _ => False)))
    (fin : ∀ i acc h', it i = none → J i acc h' → h' p = none → F (put h' p (.lst acc))) :
    ∃ I : Nat → Nat → Hg → Prop, (∃ m, CloH (I 0 m) (put h p (.lst []))) ∧ ∀ i m h, I i m h → turnOf (sq i h) (F h) fun a => Wc a (wipeG env vs) h (fun env2 h2 => Wt env2 h2 (fun b h3 => if b = true then We env2 h3 (fun y h4 => onLst h4 (.ref p) fun _ acc => acc.length < sizeLine ∧ CloH (fun h5 => ∃ m', m' < m ∧ I (i + 1) m' h5) (put h4 p (.lst (acc ++ [y])))) (fun _ _ => False) else CloH (fun h5 => ∃ m', m' < m ∧ I (i + 1) m' h5) h3) (fun _ _ => False)) := by
  refine ⟨fun i m hh => m = n - i ∧ ∃ acc h', hh = put h' p (.lst acc) ∧ h' p = none ∧ J i acc h', ⟨n - 0, _, .refl _, rfl, [], h, rfl, np, h0⟩, ?_⟩
  rintro i m hh ⟨rfl, acc, h', rfl, np', j⟩
  rw [hs i acc h' j np']
  cases q : it i with
  | none => exact fin i acc h' q j np'
  | some a =>
    have lt := hn i a q
    refine step i a acc h' q j np' _ fun acc' h'' A j' np'' s => ⟨_, s, n - (i + 1), by omega, rfl, acc', h'', rfl, np'', j'⟩
/-- .. whose items leave the heap as it is: each gives at most one value -/
theorem lc_pure {α : Type} {sq : Sq α} {Wc : WC α} {vs : List Nat} {p : Addr} {F : Hg → Prop} (xs : List α) (f : Nat → α → Option Val) (hs : ∀ i acc, i ≤ xs.length → sq i (put h p (.lst acc)) = some xs[i]?) (np : h p = none) (hz : xs.length < sizeLine)
    (step : ∀ i a acc, xs[i]? = some a → acc.length ≤ i → ∀ Nx : Hg → Prop, (∀ A, Sub (put h p (.lst (match f i a with | some y => acc ++ [y] | none => acc))) A → Nx A) →
      Wc a (wipeG env vs) (put h p (.lst acc)) (fun env2 h2 => Wt env2 h2 (fun b h3 => if b = true then We env2 h3 (fun y h4 => onLst h4 (.ref p) fun _ acc => acc.length < sizeLine ∧ Nx (put h4 p (.lst (acc ++ [y])))) (fun _ _ => False) else Nx h3) (fun _ _ => False)))
    (fin : F (put h p (.lst ((xs.mapIdx f).filterMap id)))) :
    ∃ I : Nat → Nat → Hg → Prop, (∃ m, CloH (I 0 m) (put h p (.lst []))) ∧ ∀ i m h, I i m h → turnOf (sq i h) (F h) fun a => Wc a (wipeG env vs) h (fun env2 h2 => Wt env2 h2 (fun b h3 => if b = true then We env2 h3 (fun y h4 => onLst h4 (.ref p) fun _ acc => acc.length < sizeLine ∧ CloH (fun h5 => ∃ m', m' < m ∧ I (i + 1) m' h5) (put h4 p (.lst (acc ++ [y])))) (fun _ _ => False) else CloH (fun h5 => ∃ m', m' < m ∧ I (i + 1) m' h5) h3) (fun _ _ => False)) := by
  refine lc_by (fun i => xs[i]?) xs.length (fun i acc h' => i ≤ xs.length ∧ h' = h ∧ acc = ((xs.take i).mapIdx f).filterMap id) (fun i acc h' j _ => by rw [j.2.1]; exact hs i acc j.1) (fun i a e => (List.getElem?_eq_some_iff.mp e).1) np ⟨Nat.zero_le _, rfl, by simp⟩ ?_ ?_
  · rintro i a acc h' ei ⟨hle, rfl, rfl⟩ np' Nx hN
    refine step i a _ ei ?_ Nx fun A s => hN _ _ A ⟨(List.getElem?_eq_some_iff.mp ei).1, rfl, rfl⟩ np' ?_
    · refine Nat.le_trans (List.length_filterMap_le _ _) ?_
      rw [List.length_mapIdx, List.length_take]; omega
    · have hi := (List.getElem?_eq_some_iff.mp ei).1
      have e1 : xs.take (i + 1) = xs.take i ++ [a] := by rw [List.take_add_one, ei]; rfl
      have e2 : (((xs.take (i + 1)).mapIdx f).filterMap id) = (match f i a with | some y => ((xs.take i).mapIdx f).filterMap id ++ [y] | none => ((xs.take i).mapIdx f).filterMap id) := by
        rw [e1, List.mapIdx_append, List.filterMap_append]
        have e3 : (xs.take i).length = i := by rw [List.length_take]; omega
        simp only [List.mapIdx_cons, List.mapIdx_nil, e3, Nat.zero_add]
        cases f i a with
        | none => simp
        | some y => simp
      rw [e2]
      exact s
  · rintro i acc h' ei ⟨hle, rfl, rfl⟩ np'
    have hl : xs.length ≤ i := List.getElem?_eq_none_iff.mp ei
    rw [List.take_of_length_le hl]
    exact fin
/-! what is walked -/
theorem x_yesT {QT : Bool → Hg → Prop} (k : QT true h) : wYes env h QT E := k
theorem x_rg {Q : Sq Val → Hg → Prop} (k : Wr env h (fun vs h1 => rgP vs h1 Q) E) : wRg Wr env h Q E := k
theorem x_rg1 {a : Int} {Q : Sq Val → Hg → Prop} (l : sm62 a) (k : Q (sqR 0 1 a.toNat) h) : rgP [.int a] h Q := ⟨l, k⟩
theorem x_rg2 {a b : Int} {Q : Sq Val → Hg → Prop} (l : sm62 a ∧ sm62 b) (k : Q (sqR a 1 (b - a).toNat) h) : rgP [.int a, .int b] h Q := ⟨l, k⟩
theorem x_rg3 {a b : Int} {Q : Sq Val → Hg → Prop} (l : sm62 a ∧ sm62 b) (k : Q (sqR a (-1) (a - b).toNat) h) : rgP [.int a, .int b, .int (-1)] h Q := ⟨⟨l.1, l.2, rfl⟩, k⟩
theorem x_itV {Q : Sq Val → Hg → Prop} (k : We env h (fun v h1 => (itOf h1 v).isSome = true ∧ Q (sqV v) h1) E) : wItV We env h Q E := k
theorem x_enum {Q : Sq (List Val) → Hg → Prop} (k : Wa env h (fun v h1 => (seqOf h1 v).isSome = true ∧ Q (sqvE v) h1) E) : wEnum Wa env h Q E := k
theorem x_zip {Q : Sq (List Val) → Hg → Prop} (k : Wa env h (fun v h1 => Wb env h1 (fun u h2 => ((seqOf h2 v).isSome = true ∧ (seqOf h2 u).isSome = true) ∧ Q (sqZ v u) h2) E) E) : wZip Wa Wb env h Q E := k
theorem x_rvd {Q : Sq Val → Hg → Prop} (k : Wa env h (fun v h1 => onSeq h1 v fun xs => Q (sqRv v xs.length) h1) E) : wRvd Wa env h Q E := k
def itR (lo c : Int) (n : Nat) (i : Nat) : Option Val := if i < n then some (.int (lo + (i : Nat) * c)) else none
theorem sqR_it {lo c : Int} {n i : Nat} : sqR lo c n i h = some (itR lo c n i) := rfl
theorem itR_lt {lo c : Int} {n i : Nat} {a : Val} (e : itR lo c n i = some a) : i < n := by
  unfold itR at e; split at e
  · assumption
  · cases e
theorem itR_some {lo c : Int} {n i : Nat} {a : Val} (e : itR lo c n i = some a) : i < n ∧ a = .int (lo + (i : Nat) * c) := by
  unfold itR at e; split at e
  · cases e; exact ⟨by assumption, rfl⟩
  · cases e
theorem itR_none {lo c : Int} {n i : Nat} (e : itR lo c n i = none) : n ≤ i := by
  unfold itR at e; split at e
  · cases e
  · omega
theorem sqV_tup {xs : List Val} {i : Nat} : sqV (.tup xs) i h = some xs[i]? := rfl
theorem sqV_lst {p : Addr} {xs : List Val} {i : Nat} (e : lstAt h p = some xs) : sqV (.ref p) i h = some xs[i]? := by
  show (lstAt h p).map _ = _
  rw [e]; rfl
/-- what enumerate walks -/
def enumL (xs : List Val) : List (List Val) := xs.mapIdx fun i x => [Val.int (i : Nat), x]
theorem enumL_length (xs : List Val) : (enumL xs).length = xs.length := by unfold enumL; rw [List.length_mapIdx]
theorem enumL_get (xs : List Val) (i : Nat) : (enumL xs)[i]? = (xs[i]?).map fun x => [Val.int (i : Nat), x] := by unfold enumL; rw [List.getElem?_mapIdx]
theorem sqE_it {v : Val} {xs : List Val} {i : Nat} (e : seqOf h v = some xs) (l : i ≤ xs.length) : sqvE v i h = some (enumL xs)[i]? := by
  unfold sqvE
  rw [e, enumL_get]
  show (match xs[i]? with | some x => some (some [Val.int (i : Nat), x]) | none => if xs.length = i then some none else none) = _
  cases q : xs[i]? with
  | some x => rfl
  | none =>
    have : xs.length = i := by have := List.getElem?_eq_none_iff.mp q; omega
    simp [this]
/-- what zip walks -/
def zipL (xs ys : List Val) : List (List Val) := (xs.zip ys).map fun p => [p.1, p.2]
theorem sqZ_it {v u : Val} {xs ys : List Val} {i : Nat} (e : seqOf h v = some xs) (e2 : seqOf h u = some ys) (l : i ≤ (zipL xs ys).length) : sqZ v u i h = some (zipL xs ys)[i]? := by
  have hl : (zipL xs ys).length = min xs.length ys.length := by unfold zipL; rw [List.length_map, List.length_zip]
  unfold sqZ
  rw [e, e2]
  show (match xs[i]?, ys[i]? with | some x, some y => some (some [x, y]) | _, _ => if i ≤ xs.length ∧ i ≤ ys.length then some none else none) = _
  have ez : (zipL xs ys)[i]? = ((xs.zip ys)[i]?).map fun p => [p.1, p.2] := by unfold zipL; rw [List.getElem?_map]
  have ex1 : i ≤ xs.length := by omega
  have ex2 : i ≤ ys.length := by omega
  rw [ez]
  have key : (xs.zip ys)[i]? = (match xs[i]?, ys[i]? with | some x, some y => some (x, y) | _, _ => none) := by
    rw [List.zip, List.getElem?_zipWith]
    cases xs[i]? <;> cases ys[i]? <;> rfl
  rw [key]
  cases q1 : xs[i]? with
  | none => simp [ex1, ex2]
  | some x =>
    cases q2 : ys[i]? with
    | none => simp [ex1, ex2]
    | some y => rfl
end

theorem isSome_it {h : Hg} {p : Addr} {xs : List Val} (e : lstAt h p = some xs) : (itOf h (.ref p)).isSome = true := by
  show (lstAt h p).isSome = true
  rw [e]; rfl
theorem isSome_seq {h : Hg} {p : Addr} {xs : List Val} (e : lstAt h p = some xs) : (seqOf h (.ref p)).isSome = true := by
  show (lstAt h p).isSome = true
  rw [e]; rfl
theorem put_swap {h : Hg} {p q : Addr} {a b c : Ob} (n : p ≠ q) : put (put (put h p a) q b) p c = put (put h p c) q b := by
  funext x
  unfold put
  by_cases z : x = p
  · subst z; simp [n]
  · simp [z]
theorem put_comm {h : Hg} {p q : Addr} {a b : Ob} (n : p ≠ q) : put (put h p a) q b = put (put h q b) p a := by
  funext x
  unfold put
  by_cases z : x = p
  · subst z; simp [n]
  · simp [z]
theorem Sub.comm {h : Hg} {p q : Addr} {a b : Ob} (n : p ≠ q) : Sub (G.put (G.put h p a) q b) (G.put (G.put h q b) p a) := by
  rw [put_comm n]; exact .refl _
theorem nodup_inj {α : Type} {l : List α} (n : l.Nodup) {i j : Nat} (hi : i < l.length) (hj : j < l.length) (e : l[i] = l[j]) : i = j := by
  have h := List.pairwise_iff_getElem.mp n
  rcases Nat.lt_trichotomy i j with q | q | q
  · exact absurd e (h i j hi hj q)
  · exact q
  · exact absurd e.symm (h j i hj hi q)
theorem atI_map {α : Type} {f : α → Val} {l : List α} {a : Int} (h0 : 0 ≤ a) (h1 : a.toNat < l.length) : atI (l.map f) a = some (f l[a.toNat]) :=
  atI_pos h0 (by rw [List.getElem?_map, List.getElem?_eq_getElem h1]; rfl)
/-! ### draws -/
section
variable {h h2 : Hg} {Q : KV} {E : KX} {p q : Addr} {b : Int}
theorem x_draw (hp : HasPen h p 1) (hb : 0 < b ∧ b < 1073741824) (e : ticks 1 h = h2) (k : ∀ d : Int, 0 ≤ d → d < b → Q (.int d) h2) : spDraw (perm [0, 1] [.ref p, .int b]) h Q E := by
  subst e
  exact ⟨hp, hb, k⟩
end
theorem x_pen {n : Nat} {We : WE} {env : Env'} {h : Hg} {Q : KV} {E : KX} (k : We env h (fun v h1 => PenAt n v h1 Q) E) : wPen n We env h Q E := k
theorem x_penAt {n : Nat} {h : Hg} {Q : KV} {p c : Addr} {ns : List Int} (e : lstAt h p = some [.ref c, .int 0, .int 0]) (e2 : lstAt h c = some (ns.map Val.int)) (ne : c ≠ p) (l : ns.length ≤ 63) (m : n ≤ 1048576) (k : Q (.ref p) (put (erase h c) p (.pen n))) : PenAt n (.ref p) h Q := by
  unfold PenAt
  refine onLst_at e ?_
  show onSome (lstAt h c) _
  rw [e2]
  show onSome (intsOf (ns.map Val.int)) _
  rw [intsOf_map]
  exact ⟨⟨ne, l, rfl, rfl, m⟩, k⟩
theorem cutG_ints (ns : List Int) (lo hi : Option Int) : ∃ ms : List Int, cutG (ns.map Val.int) lo hi = ms.map Val.int ∧ ms.length ≤ ns.length := by
  unfold cutG
  rw [List.length_map, ← List.map_drop, ← List.map_take]
  refine ⟨_, rfl, ?_⟩
  rw [List.length_take, List.length_drop]; omega
theorem erase_get {h : Hg} {c a : Addr} (n : a ≠ c) : erase h c a = h a := if_neg n
theorem eraseIdx_map' {α β : Type} (f : α → β) : ∀ (l : List α) (i : Nat), (l.map f).eraseIdx i = (l.eraseIdx i).map f
  | [], _ => rfl
  | _ :: _, 0 => rfl
  | x :: r, i + 1 => by simp only [List.map_cons, List.eraseIdx_cons_succ, eraseIdx_map' f r i]
theorem erase_perm {α : Type} : ∀ (l : List α) (i : Nat) (h : i < l.length), (l[i] :: l.eraseIdx i).Perm l
  | x :: r, 0, _ => .refl _
  | x :: r, i + 1, h => by
    have hi : i < r.length := by simpa using h
    simp only [List.getElem_cons_succ, List.eraseIdx_cons_succ]
    exact (List.Perm.swap x (r[i]) _).trans ((erase_perm r i hi).cons x)
theorem eqv_nilT (ds : List PyData) : PyData.eqv (.tuple ds) (.tuple []) = ds.isEmpty := by
  cases ds <;> rfl
section
variable {h : Hg} {Q : KV} {xs : List Val} {ds : List PyData} {k j : Nat}
/-- a tuple against () -/
theorem x_neTE (x : ShwL h xs ds k j) (b : j ≤ 60) (kk : Q (.bl (!xs.isEmpty)) h) : oNe (.tup xs) (.tup []) h Q := by
  refine x_neD (Shw.tup x) (Shw.tup (ShwL.nil (h := h))) rfl (by omega) (by omega) ?_
  rw [eqv_nilT, datL_len x.dat]
  exact kk
theorem x_eqTE (x : ShwL h xs ds k j) (b : j ≤ 60) (kk : Q (.bl xs.isEmpty) h) : oEq (.tup xs) (.tup []) h Q := by
  refine x_eqD (Shw.tup x) (Shw.tup (ShwL.nil (h := h))) rfl (by omega) (by omega) ?_
  rw [eqv_nilT, datL_len x.dat]
  exact kk
theorem x_isN {v : Val} (kk : Q (.bl (isNon v)) h) : oIs v .non h Q := kk
theorem x_isNotN {v : Val} (kk : Q (.bl (!isNon v)) h) : oIsNot v .non h Q := kk
end
theorem mapIdx_some {α β : Type} : ∀ (l : List α) (g : Nat → α → β), (l.mapIdx fun i x => some (g i x)).filterMap id = l.mapIdx g
  | [], _ => rfl
  | x :: r, g => by
    have ih := mapIdx_some r fun i => g (i + 1)
    simp only [List.mapIdx_cons, List.filterMap_cons, id]
    rw [ih]
/-- what a comprehension over enumerate makes of its pairs -/
def onPair (g : Nat → Val → Option Val) (i : Nat) (x : List Val) : Option Val := match x with
  | [_, u] => g i u
  | _ => none
theorem enum_map (T : List Val) (g : Nat → Val → Option Val) : (enumL T).mapIdx (onPair g) = T.mapIdx g := by
  unfold enumL
  rw [List.mapIdx_mapIdx]
  rfl
theorem enum_pure (T : List Val) (g : Nat → Val → Val) : ((enumL T).mapIdx (onPair fun i u => some (g i u))).filterMap id = T.mapIdx g := by
  rw [enum_map, mapIdx_some]
theorem ShwL.all {h : Hg} {k j : Nat} : ∀ {vs : List Val}, (∀ v ∈ vs, ∃ d, Shw h v d k j) → ∃ ds, ShwL h vs ds (vs.length * (k + 1)) j
  | [], _ => ⟨[], ShwL.nil.le (Nat.zero_le _) (Nat.zero_le _)⟩
  | v :: r, a => by
    obtain ⟨d, x⟩ := a v List.mem_cons_self
    obtain ⟨ds, y⟩ := ShwL.all (vs := r) fun z hz => a z (List.mem_cons_of_mem _ hz)
    refine ⟨d :: ds, (ShwL.cons x y).le ?_ (Nat.le_refl _)⟩
    rw [List.length_cons, Nat.succ_mul]; omega
/-- xs != [], xs == [] for data -/
theorem x_neA {h : Hg} {Q : KV} {p q : Addr} {vs : List Val} {k j : Nat} (e : lstAt h p = some vs) (x : ∀ v ∈ vs, ∃ d, Shw h v d k j) (b : j ≤ 60) (e2 : lstAt h q = some []) (kk : Q (.bl (!vs.isEmpty)) h) : oNe (.ref p) (.ref q) h Q :=
  let ⟨_, y⟩ := ShwL.all x
  x_neE e y b e2 kk
theorem flat_ints (ns : List Int) : (ns.map Val.int).all flatG = true := by
  induction ns with
  | nil => rfl
  | cons a r ih => simp only [List.map_cons, List.all_cons, flatG, ih, Bool.and_self]
theorem inG_ints (a : Int) : ∀ ns : List Int, inG (.int a) (ns.map Val.int) = decide (a ∈ ns)
  | [] => rfl
  | n :: r => by
    have ih := inG_ints a r
    unfold inG at ih ⊢
    rw [List.map_cons, List.any_cons, ih]
    show ((n == a) || decide (a ∈ r)) = decide (a ∈ n :: r)
    by_cases z : n = a
    · subst z; simp
    · have z2 : ¬ a = n := fun e => z e.symm
      simp [z, z2]
theorem x_inL {h : Hg} {Q : KV} {a : Int} {p : Addr} {ns : List Int} (e : lstAt h p = some (ns.map Val.int)) (kk : Q (.bl (decide (a ∈ ns))) h) : oIn (.int a) (.ref p) h Q := by
  show (match lstAt h p with | some ys => flatG (.int a) = true ∧ ys.all flatG = true ∧ Q (.bl (inG (.int a) ys)) h | none => False)
  rw [e]
  exact ⟨rfl, flat_ints ns, by rw [inG_ints]; exact kk⟩
theorem filter_map {α β : Type} (f : α → β) : ∀ l : List (Option α), (l.map fun o => o.map f).filterMap id = (l.filterMap id).map f
  | [] => rfl
  | none :: r => by simpa using filter_map f r
  | some x :: r => by simpa using filter_map f r
theorem mapIdx_filter {α β γ : Type} (f : β → γ) (l : List α) (g : Nat → α → Option β) : (l.mapIdx fun i x => (g i x).map f).filterMap id = ((l.mapIdx g).filterMap id).map f := by
  rw [← filter_map]
  congr 1
  apply List.ext_getElem?
  intro i
  rw [List.getElem?_mapIdx, List.getElem?_map, List.getElem?_mapIdx, Option.map_map]
  rfl
theorem mem_mapIdx_filter {α β : Type} {l : List α} {g : Nat → α → Option β} {b : β} : b ∈ (l.mapIdx g).filterMap id ↔ ∃ i x, l[i]? = some x ∧ g i x = some b := by
  rw [List.mem_filterMap]
  constructor
  · rintro ⟨o, ho, e⟩
    obtain ⟨i, hi, rfl⟩ := List.mem_mapIdx.mp ho
    exact ⟨i, l[i], List.getElem?_eq_getElem hi, e⟩
  · rintro ⟨i, x, e, e2⟩
    obtain ⟨hi, rfl⟩ := List.getElem?_eq_some_iff.mp e
    exact ⟨g i l[i], List.mem_mapIdx.mpr ⟨i, hi, rfl⟩, e2⟩
theorem Sub.noneOf {h' h : Hg} (s : Sub h' h) {q : Addr} (n : h q = none) : h' q = none := by
  cases e : h' q with
  | none => rfl
  | some o =>
    obtain ⟨o2, e2, _⟩ := s q o e
    rw [n] at e2; cases e2
/-- the whole numbers below n -/
def rgI (n : Nat) : List Int := (List.range n).map fun (i : Nat) => (i : Int)
theorem rgVals_0 (n : Int) : rgVals 0 n = (rgI n.toNat).map Val.int := by
  unfold rgVals rgI
  rw [List.map_map]
  have : (n - 0).toNat = n.toNat := by omega
  rw [this]
  apply List.map_congr_left
  intro i _
  simp
theorem rgI_length (n : Nat) : (rgI n).length = n := by unfold rgI; simp
theorem rgI_nodup (n : Nat) : (rgI n).Nodup := by
  unfold rgI
  refine List.Pairwise.map _ (fun a b hab e => hab (by omega)) List.nodup_range
theorem rgI_mem {n : Nat} {x : Int} : x ∈ rgI n ↔ 0 ≤ x ∧ x < n := by
  unfold rgI
  simp only [List.mem_map, List.mem_range]
  constructor
  · rintro ⟨a, ha, rfl⟩; omega
  · rintro ⟨h1, h2⟩; exact ⟨x.toNat, by omega, by omega⟩
end G

set_option Elab.async false
set_option linter.all false
set_option maxRecDepth 100000
set_option maxHeartbeats 4000000
namespace G
open PySem PySem.Spec L2
open PyProof.Rows hiding St
/-! ### count and index, lists and tuples of data -/
def isTupB : Val → Bool
  | .tup _ => true
  | _ => false
def mOnL (m : WM) : WM := fun v vs h Q => isTupB v = false ∧ m v vs h Q
def mOnT (m : WM) : WM := fun v vs h Q => isTupB v = true ∧ m v vs h Q
def DatS (h : Hg) (v : Val) (ds : List PyData) : Prop := Dat h v (.list ds) ∨ Dat h v (.tuple ds)
def mCount : WM := fun v vs h Q => match vs with
  | [y] => ∃ ds d, DatS h v ds ∧ Dat h y d ∧ SeqAt.shaped (.list ds) = true ∧ (SeqAt.shaped d = true ∧ d.depth ≤ 60) ∧ Q (.int (ds.countP fun z => PyData.eqv z d : Nat)) h
  | _ => False
def mIndex : WM := fun v vs h Q => match vs with
  | [y] => ∃ ds d j z, DatS h v ds ∧ Dat h y d ∧ SeqAt.shaped (.list ds) = true ∧ (SeqAt.shaped d = true ∧ d.depth ≤ 60) ∧ (ds[j]? = some z ∧ PyData.eqv z d = true ∧ j < sizeLine ∧ ∀ (m : Nat) (z' : PyData), m < j → ds[m]? = some z' → PyData.eqv z' d = false) ∧ Q (.int (j : Nat)) h
  | _ => False
section
variable {X : Cx}
theorem at_reads {hp : Heap} {its : List Value} {ds : List PyData} {as : List Addr} (hxs : PyData.canLayAll0 ds = true) (h4 : ReadsAll hp its ds as) : ∀ (m : Nat) (hm : m < its.toArray.size) (z' : PyData), ds[m]? = some z' → SeqAt.readOf hp its.toArray[m] = z' := by
  intro m hm z' hz'
  have hmap : its.map (SeqAt.readOf hp) = ds := SeqAt.readsAll_map ds its as hxs h4
  have hml : m < its.length := by simpa using hm
  rw [← hmap, List.getElem?_map, List.getElem?_eq_getElem hml] at hz'
  have e1 : SeqAt.readOf hp its[m] = z' := Option.some.inj (show some (SeqAt.readOf hp its[m]) = some z' from hz')
  simpa using e1
theorem countP_reads {hp : Heap} {its : List Value} {ds : List PyData} {as : List Addr} {d : PyData} (hxs : PyData.canLayAll0 ds = true) (h4 : ReadsAll hp its ds as) : its.toArray.toList.countP (fun u => PyData.eqv (SeqAt.readOf hp u) d) = ds.countP fun z => PyData.eqv z d := by
  have hmap : its.map (SeqAt.readOf hp) = ds := SeqAt.readsAll_map ds its as hxs h4
  rw [← hmap, List.countP_map]
  rfl
theorem canLay_seq {ds : List PyData} (s : SeqAt.shaped (.list ds) = true) : PyData.canLayAll0 ds = true := SeqAt.canLay_of_shaped s
theorem thn_ret {pins : List (Addr × Obj)} {σ : L2.St} {H : L2.Hp} {s : Shared} {Q : VK} {n m : Int} (q : Q (.int n) H) (I : Inv X pins σ H s) (e : m = n) : ∃ w H', Inv X pins σ H' { s with toks := s.toks + 1 } ∧ RelV w (.int m s.toks) ∧ Q w H' := by
  subst e; exact ⟨.int m, H, I.tok _, ⟨_, rfl⟩, q⟩
theorem sCountL (hu : X.A.units + 64 < cLine) : MtR X "list.count" (rMG X.K (mOnL mCount)) := by
  rintro pins s σ H x xs v us Q I rx rxs ⟨vx, vs, h, q, r1, r2, rh, ⟨nt, w⟩, k⟩
  unfold mCount at w
  split at w
  · obtain ⟨ds, d, hd, hy, sl, ⟨sd, dd⟩, w⟩ := w
    have hd : Dat h vx (.list ds) := by
      rcases hd with e | e
      · exact e
      · cases e; cases nt
    cases r2 with
    | cons ry rn =>
      cases rn
      obtain ⟨u, rfl, ru⟩ := rxs.one
      obtain ⟨bs, g1⟩ := Dp.reads I d _ u (hy.dp rh _ _ _ ry) ru
      obtain ⟨as, g2⟩ := Dp.reads I (.list ds) _ v (hd.dp rh _ _ _ r1) rx
      have hxs := canLay_seq sl
      have hroom : X.A.units + 1 + min (PyData.depthAll ds) d.depth < cLine := by
        have := Nat.min_le_right (PyData.depthAll ds) d.depth
        omega
      cases g2 with
      | list h1 h2 h3 h4 =>
        rename_i a o its nn as2
        obtain ⟨cls, dt, data, slt⟩ := o
        simp only at h2 h3
        subst h2 h3
        refine call_meets PySem.F.slot_list_count ⟨_, h1, rfl⟩ PySem.F.entry_list_count (PySem.F.args_list_count_2 _ _) (SeqAt.list_countAt a its nn dt slt u (fun u => PyData.eqv (SeqAt.readOf s.heap u) d)) ⟨h1, SeqAt.items_eqAt h4 g1 hxs (SeqAt.canLay_of_shaped sd) hroom, ?_⟩
        exact thn_ret (k _ _ h H (.refl H) rh (.int _) w) I (congrArg Nat.cast (by simpa using countP_reads (d := d) hxs h4))
  · exact w.elim
theorem sCountT (hu : X.A.units + 64 < cLine) : MtR X "tuple.count" (rMG X.K (mOnT mCount)) := by
  rintro pins s σ H x xs v us Q I rx rxs ⟨vx, vs, h, q, r1, r2, rh, ⟨nt, w⟩, k⟩
  unfold mCount at w
  split at w
  · obtain ⟨ds, d, hd, hy, sl, ⟨sd, dd⟩, w⟩ := w
    have hd : Dat h vx (.tuple ds) := by
      rcases hd with e | e
      · cases e <;> cases nt
      · exact e
    cases r2 with
    | cons ry rn =>
      cases rn
      obtain ⟨u, rfl, ru⟩ := rxs.one
      obtain ⟨bs, g1⟩ := Dp.reads I d _ u (hy.dp rh _ _ _ ry) ru
      obtain ⟨as, g2⟩ := Dp.reads I (.tuple ds) _ v (hd.dp rh _ _ _ r1) rx
      have hxs := canLay_seq sl
      have hroom : X.A.units + 1 + min (PyData.depthAll ds) d.depth < cLine := by
        have := Nat.min_le_right (PyData.depthAll ds) d.depth
        omega
      cases g2 with
      | tuple h1 h2 h3 h4 =>
        rename_i a o its nn
        obtain ⟨cls, dt, data, slt⟩ := o
        simp only at h2 h3
        subst h2 h3
        refine call_meets PySem.F.slot_tuple_count ⟨_, h1, rfl⟩ PySem.F.entry_tuple_count (PySem.F.args_tuple_count_2 _ _) (SeqAt.tuple_countAt a its nn dt slt u (fun u => PyData.eqv (SeqAt.readOf s.heap u) d)) ⟨h1, SeqAt.items_eqAt h4 g1 hxs (SeqAt.canLay_of_shaped sd) hroom, ?_⟩
        exact thn_ret (k _ _ h H (.refl H) rh (.int _) w) I (congrArg Nat.cast (by simpa using countP_reads (d := d) hxs h4))
  · exact w.elim
theorem sIndexL (hu : X.A.units + 64 < cLine) : MtR X "list.index" (rMG X.K (mOnL mIndex)) := by
  rintro pins s σ H x xs v us Q I rx rxs ⟨vx, vs, h, q, r1, r2, rh, ⟨nt, w⟩, k⟩
  unfold mIndex at w
  split at w
  · obtain ⟨ds, d, j, z, hd, hy, sl, ⟨sd, dd⟩, ⟨hz, hzj, jb, hno⟩, w⟩ := w
    have hd : Dat h vx (.list ds) := by
      rcases hd with e | e
      · exact e
      · cases e; cases nt
    cases r2 with
    | cons ry rn =>
      cases rn
      obtain ⟨u, rfl, ru⟩ := rxs.one
      obtain ⟨bs, g1⟩ := Dp.reads I d _ u (hy.dp rh _ _ _ ry) ru
      obtain ⟨as, g2⟩ := Dp.reads I (.list ds) _ v (hd.dp rh _ _ _ r1) rx
      have hxs := canLay_seq sl
      have hroom : X.A.units + 1 + min (PyData.depthAll ds) d.depth < cLine := by
        have := Nat.min_le_right (PyData.depthAll ds) d.depth
        omega
      cases g2 with
      | list h1 h2 h3 h4 =>
        rename_i a o its nn as2
        obtain ⟨cls, dt, data, slt⟩ := o
        simp only at h2 h3
        subst h2 h3
        have hn : its.toList.length = ds.length := SeqAt.ReadsAll.length ds its.toList _ h4
        obtain ⟨hjd, _⟩ := List.getElem?_eq_some_iff.mp hz
        have hj : j < its.size := by simpa using (by omega : j < its.toList.length)
        have at_ : ∀ (m : Nat) (hm : m < its.size) (z' : PyData), ds[m]? = some z' → SeqAt.readOf s.heap its[m] = z' := fun m hm z' e => at_reads hxs h4 m (by simpa using hm) z' e
        refine call_meets PySem.F.slot_list_index ⟨_, h1, rfl⟩ PySem.F.entry_list_index (PySem.F.args_list_index_2 _ _) (SeqAt.list_indexAt a its nn dt slt u (fun u => PyData.eqv (SeqAt.readOf s.heap u) d) j hj (by have := sizeLine_eq; omega) ?_ ?_) ⟨h1, SeqAt.items_eqAt h4 g1 hxs (SeqAt.canLay_of_shaped sd) hroom, ?_⟩
        · show PyData.eqv (SeqAt.readOf s.heap its[j]) d = true
          rw [at_ j hj z hz]
          exact hzj
        · intro m hm hmj
          have hz' : ds[m]? = some ds[m] := List.getElem?_eq_getElem (by omega)
          show PyData.eqv (SeqAt.readOf s.heap its[m]) d = false
          rw [at_ m hm _ hz']
          exact hno m _ hmj hz'
        · exact thn_ret (k _ _ h H (.refl H) rh (.int _) w) I rfl
  · exact w.elim
theorem sIndexT (hu : X.A.units + 64 < cLine) : MtR X "tuple.index" (rMG X.K (mOnT mIndex)) := by
  rintro pins s σ H x xs v us Q I rx rxs ⟨vx, vs, h, q, r1, r2, rh, ⟨nt, w⟩, k⟩
  unfold mIndex at w
  split at w
  · obtain ⟨ds, d, j, z, hd, hy, sl, ⟨sd, dd⟩, ⟨hz, hzj, jb, hno⟩, w⟩ := w
    have hd : Dat h vx (.tuple ds) := by
      rcases hd with e | e
      · cases e <;> cases nt
      · exact e
    cases r2 with
    | cons ry rn =>
      cases rn
      obtain ⟨u, rfl, ru⟩ := rxs.one
      obtain ⟨bs, g1⟩ := Dp.reads I d _ u (hy.dp rh _ _ _ ry) ru
      obtain ⟨as, g2⟩ := Dp.reads I (.tuple ds) _ v (hd.dp rh _ _ _ r1) rx
      have hxs := canLay_seq sl
      have hroom : X.A.units + 1 + min (PyData.depthAll ds) d.depth < cLine := by
        have := Nat.min_le_right (PyData.depthAll ds) d.depth
        omega
      cases g2 with
      | tuple h1 h2 h3 h4 =>
        rename_i a o its nn
        obtain ⟨cls, dt, data, slt⟩ := o
        simp only at h2 h3
        subst h2 h3
        have hn : its.toList.length = ds.length := SeqAt.ReadsAll.length ds its.toList _ h4
        obtain ⟨hjd, _⟩ := List.getElem?_eq_some_iff.mp hz
        have hj : j < its.size := by simpa using (by omega : j < its.toList.length)
        have at_ : ∀ (m : Nat) (hm : m < its.size) (z' : PyData), ds[m]? = some z' → SeqAt.readOf s.heap its[m] = z' := fun m hm z' e => at_reads hxs h4 m (by simpa using hm) z' e
        refine call_meets PySem.F.slot_tuple_index ⟨_, h1, rfl⟩ PySem.F.entry_tuple_index (PySem.F.args_tuple_index_2 _ _) (TI.tuple_indexAt a its nn dt slt u (fun u => PyData.eqv (SeqAt.readOf s.heap u) d) j hj ?_ ?_) ⟨h1, SeqAt.items_eqAt h4 g1 hxs (SeqAt.canLay_of_shaped sd) hroom, ?_⟩
        · show PyData.eqv (SeqAt.readOf s.heap its[j]) d = true
          rw [at_ j hj z hz]
          exact hzj
        · intro m hm hmj
          have hz' : ds[m]? = some ds[m] := List.getElem?_eq_getElem (by omega)
          show PyData.eqv (SeqAt.readOf s.heap its[m]) d = false
          rw [at_ m hm _ hz']
          exact hno m _ hmj hz'
        · exact thn_ret (k _ _ h H (.refl H) rh (.int _) w) I rfl
  · exact w.elim
end
section
variable {X : Cx} {N : List Str} {sc ow : Scope} {o e a b c : Expr} {es : List Expr} {name : Str} {pos apos cpos p2 : Pos} {idL idT : String} {Wo We Wa Wb : WE} {Wr : WA} {m : WM}
/-- a method that lists and tuples have -/
def wMS (m : WM) (Wo : WE) (Wr : WA) : WE := fun env h Q E => Wo env h (fun v h1 => (isTupB v || lstB h1 v) = true ∧ Wr env h1 (fun vs h2 => m v vs h2 Q) E) E
theorem ge_mS (sL : Slot "list" name idL) (tL : typeOf (.builtin idL) = pure (.type "method_descriptor")) (hmL : MtR X idL (rMG X.K (mOnL m)))
    (sT : Slot "tuple" name idT) (tT : typeOf (.builtin idT) = pure (.type "method_descriptor")) (hmT : MtR X idT (rMG X.K (mOnT m))) (ho : GE X o Wo) (ha : GA X (e :: es) Wr)
    (hbase : attributeBase o name X.env (eval o X.env) = eval o X.env := by rfl)
    (hfew : ((backTo cpos (starEach (e :: es) X.env)).all (fun x => !x.1) && (backToKw cpos (keywordEach [] X.env)).all (fun x => x.1.isSome)
      && decide ((e :: es).length + ([] : List Keyword).length + (if ([] : List Keyword).isEmpty then 0 else 1) < 30)) = true := by rfl)
    (hline : (apos.endLine == cpos.line) = true := by rfl) (hs : starEach (e :: es) X.env = (false, eval e X.env) :: starEach es X.env := by rfl) (hplain : (backTo cpos (starEach es X.env)).any (·.1) = false := by rfl) :
    GE X (.Call (.Attribute o name apos) (e :: es) [] cpos) (wMS m Wo Wr) := by
  refine ⟨⟨fun pins s σ H Q I hq => ?_⟩⟩
  obtain ⟨env, h, q, E, re, rh, tk, w, k⟩ := hq
  refine wpAny_Call_method_late hbase hfew hline rfl (thn (ho.pe.run pins s σ H (fun u H1 => ∃ v h1, TExt H H1 ∧ RepH X.K H1 h1 ∧ Rep X.K H1 v u ∧ (isTupB v || lstB h1 v) = true ∧ Wr env h1 (fun vs h2 => m v vs h2 q) E) I ⟨env, h, _, E, re, rh, tk, w, fun v u h1 H1 t1 rh1 r1 w1 => ⟨v, h1, t1, rh1, r1, w1.1, w1.2⟩⟩) ?_)
  rintro u s1 ⟨x, H1, I1, ru, v, h1, t1, rh1, r1, ty, w1⟩
  have hA := ha.pa.run cpos pins s1 σ H1 (fun us H2 => ∃ vs h2, TExt H H2 ∧ RepH X.K H2 h2 ∧ RepL X.K H2 vs us ∧ Rep X.K H2 v x ∧ m v vs h2 q) I1 ⟨env, h1, _, E, re.up t1, rh1, takesUp t1 tk, w1, fun vs us h2 H2 t2 rh2 r2 w2 => ⟨vs, h2, t1.trans t2, rh2, r2, r1.up t2, w2⟩⟩
  rw [hs] at hA ⊢
  cases z : isTupB v with
  | true =>
    obtain ⟨z1, z2⟩ := tyG_is (T := "tuple") I1 rh1 r1 ru (by cases v <;> first | rfl | cases z)
    refine ⟨"tuple", idT, PySem.F.plainAttrs_tuple, sT, tT, z1, z2, ?_⟩
    refine Calls.callWith_builtin (by show (false || (backTo cpos (starEach es X.env)).any (·.1)) = false; rw [hplain] <;> rfl) (Calls.evalArgs_plain ?_)
    refine thn hA ?_
    rintro us s2 ⟨ws, H2, I2, r2, vs, h2, t2, rh2, rl, rx, w2⟩
    exact hmT pins s2 σ H2 x ws u us Q I2 ru r2 ⟨v, vs, h2, q, rx, rl, rh2, ⟨z, w2⟩, k.up t2⟩
  | false =>
    obtain ⟨z1, z2⟩ := tyG_is (T := "list") I1 rh1 r1 ru (by rw [z] at ty; cases v <;> first | exact ty | cases ty | cases z)
    refine ⟨"list", idL, PySem.F.plainAttrs_list, sL, tL, z1, z2, ?_⟩
    refine Calls.callWith_builtin (by show (false || (backTo cpos (starEach es X.env)).any (·.1)) = false; rw [hplain] <;> rfl) (Calls.evalArgs_plain ?_)
    refine thn hA ?_
    rintro us s2 ⟨ws, H2, I2, r2, vs, h2, t2, rh2, rl, rx, w2⟩
    exact hmL pins s2 σ H2 x ws u us Q I2 ru r2 ⟨v, vs, h2, q, rx, rl, rh2, ⟨z, w2⟩, k.up t2⟩
end
end G

set_option Elab.async false
set_option linter.all false
set_option maxRecDepth 100000
set_option pp.maxSteps 1500
set_option maxHeartbeats 4000000
namespace G
open PySem PySem.Spec L2
open PyProof.Rows hiding St
section
variable {h : Hg} {env : Env'} {Q : KV} {E : KX} {Wo : WE} {Wr : WA} {m : WM}
theorem x_mS (k : Wo env h (fun v h1 => (isTupB v || lstB h1 v) = true ∧ Wr env h1 (fun vs h2 => m v vs h2 Q) E) E) : wMS m Wo Wr env h Q E := k
theorem x_countT {xs : List Val} {ds : List PyData} {y : Val} {d : PyData} {k k' j j' : Nat} (x : ShwL h xs ds k j) (z : Shw h y d k' j') (b : j ≤ 60) (b' : j' ≤ 60) (q : Q (.int (ds.countP fun z => PyData.eqv z d : Nat)) h) : mCount (.tup xs) [y] h Q := by
  have hd := z.dep
  have hds := x.dep
  have s1 := x.lay
  refine ⟨ds, d, .inr (.tup x.dat), z.dat, ?_, ⟨z.shaped (by omega), by omega⟩, q⟩
  unfold SeqAt.shaped
  rw [Bool.and_eq_true]
  refine ⟨by simp only [PyData.canLay0]; exact s1, decide_eq_true ?_⟩
  simp only [PyData.depth]
  omega
theorem x_sumL {p : Addr} {ns : List Int} (e : lstAt h p = some (ns.map Val.int)) (k : Q (.int ns.sum) h) : fSum [.ref p] h Q := by
  refine ⟨rfl, ?_⟩
  have e2 : seqOf h (.ref p) = some (ns.map Val.int) := e
  unfold onSeq
  rw [e2]
  show onSome (intsOf (ns.map Val.int)) _
  rw [intsOf_map]
  exact k
end
end G

set_option Elab.async false
set_option linter.all false
set_option maxRecDepth 100000
set_option maxHeartbeats 4000000
/-! own exceptions over any built-in base: made by their __init__ -/
namespace G
open PySem PySem.W PySem.Calls PyProof.Rows PySem.HandSPX
section
open Builtin Builtin.ObjectAttr
variable {prog : Program} {w : World} {A : Around} {E : Value → Shared → Prop} {R : Result → Shared → Prop} {hp : Heap} {g : Array GenState} {d : Drawn} {t : Nat} {os : OsState}
/-- self.name = v, the first one -/
theorem exc_osaG {B : String} {bmB : List Value} {K : Frag} {name : Str} {tk : Tok} {v : Value} {x C : Addr} {fv : Array Value}
    (SF : StoreFacts B bmB "object.__setattr__" "object") (X : K.In hp) (hx : hp.get? x = some { cls := .ref C, data := .fields fv }) (ho : excOver K C bmB = true) (hh : hasDictIn K C = true) (ht : takerIn K C name = some none)
    (hq : ∀ h' tk' dx, (∀ b o, b ≠ x → hp.get? b = some o → h'.get? b = some o) → hp.objs.size ≤ dx → dx ≠ x → h'.get? x = some { cls := .ref C, dict := some dx, data := .fields fv } →
      h'.Ns1 dx (fun y => if y = name then some v else none) → R (.ok (.ret .none)) ⟨h', g, d, tk', os⟩) :
    codeAny (model prog w) A (.call (.builtin "object.__setattr__") ⟨[.ref x, .str name tk, v], []⟩) R ⟨hp, g, d, t, os⟩ := by
  have I : InstAt hp x { cls := .ref C, data := .fields fv } C none := ⟨hx, rfl, rfl, trivial⟩
  have hxs : x ≠ hp.objs.size := Nat.ne_of_lt (Heap.lt_size hx)
  obtain ⟨cd, hcd, hh⟩ := any_some hh
  have hcls : Looks (model prog w) hp (classData C) cd := looks_clsIn X hcd
  refine osa_openX (od := none) SF X I ho ht fun b => ?_
  show wpAny _ _ (storeInOwnDict (.ref x) (.ref C) (.str name tk) name v b) _ _ _
  obtain ⟨nm, bs, mro, ns, qn, hd, sn, sb, ab, col, del⟩ := cd
  dsimp only at hh
  subst hh
  unfold storeInOwnDict ownDictForStores
  repeat (first | with_reducible refine store_in_new ?_ ?_ | with_reducible refine wpAny_loadPart_at hx ?_ | with_reducible refine hcls.at ?_ | wp_step)
  · exact ⟨_, #[], _, (Heap.get?_update_ne _ _ _ _ hxs.symm).trans (Heap.get?_push_at rfl rfl), rfl, fun e he => absurd he (by simp), fun _ => rfl⟩
  · intro h' tk' hn' hs
    have hx₁ : (hp.push { cls := .type "dict", data := .dict #[] }).get? x = some { cls := .ref C, data := .fields fv } := Heap.get?_push_of_some _ hx
    refine hq h' tk' hp.objs.size (fun b o hb ho => ?_) (Nat.le_refl _) hxs.symm ?_ hn'
    · exact (hs.2 b (Nat.ne_of_lt (Heap.lt_size ho))).trans ((Heap.get?_update_ne _ _ _ _ hb).trans (Heap.get?_push_of_some _ ho))
    · exact (hs.2 x hxs).trans (Heap.get?_update_self _ hx₁ rfl)
/-- a further one -/
theorem osa_oldG {B : String} {bmB : List Value} {K : Frag} {name : Str} {tk : Tok} {v : Value} {x C dx : Addr} {fv : Array Value} {m0 : Str → Option Value} {nl : List Str}
    (SF : StoreFacts B bmB "object.__setattr__" "object") (X : K.In hp) (hx : hp.get? x = some { cls := .ref C, dict := some dx, data := .fields fv }) (hns : hp.Ns1 dx m0) (hw : Within m0 nl) (hz : nl.length ≤ 1000) (ho : excOver K C bmB = true) (hh : hasDictIn K C = true) (ht : takerIn K C name = some none)
    (hq : ∀ h' tk', (∀ b o, b ≠ dx → hp.get? b = some o → h'.get? b = some o) → h'.Ns1 dx (fun y => if y = name then some v else m0 y) → R (.ok (.ret .none)) ⟨h', g, d, tk', os⟩) :
    codeAny (model prog w) A (.call (.builtin "object.__setattr__") ⟨[.ref x, .str name tk, v], []⟩) R ⟨hp, g, d, t, os⟩ := by
  obtain ⟨oD, esD, epD, hoD, hdD, _⟩ := hns.count hw
  have I : InstAt hp x { cls := .ref C, dict := some dx, data := .fields fv } C (some oD) := ⟨hx, rfl, rfl, hoD⟩
  obtain ⟨cd, hcd, hh⟩ := any_some hh
  have hcls : Looks (model prog w) hp (classData C) cd := looks_clsIn X hcd
  refine osa_openX (od := some oD) SF X I ho ht fun b => ?_
  show wpAny _ _ (storeInOwnDict (.ref x) (.ref C) (.str name tk) name v b) _ _ _
  obtain ⟨nm, bs, mro, ns, qn, hd, sn, sb, ab, col, del⟩ := cd
  dsimp only at hh
  subst hh
  unfold storeInOwnDict ownDictForStores
  repeat (first | with_reducible refine OEX.store_in_old hns hw hz ?_ | with_reducible refine wpAny_loadPart_at hx ?_ | with_reducible refine hcls.at ?_ | wp_step)
  intro h' tk' hn' hs
  exact hq h' tk' (fun b o hb ho => (hs.2 b hb).trans ho) hn'
end
end G

namespace G
open PySem PySem.Spec PySem.W L2
open PyProof.Rows hiding St
/-- what the written part says of an exception's class at C -/
structure OexG (K : PySem.W.Frag) (C : Addr) (B newId initId : String) (bmB : List Value) : Prop where
  F : ExcBaseFacts B newId initId bmB
  SF : StoreFacts B bmB "object.__setattr__" "object"
  init : excInitIn K C bmB newId = true
  over : excOver K C bmB = true
  hd : hasDictIn K C = true
  sa : PySem.W.findIn K (.ref C) "__setattr__" = some (some (.builtin "object.__setattr__"))
  exC : PySem.W.subIn K (.ref C) (.type "BaseException") = some true
  tyC : PySem.W.typeIn K (.ref C) = some (.type "type")
  kC : PySem.W.keepIn K (.ref C) = true
section
variable {B newId initId : String} {bmB : List Value}
variable {X : Cx} {pins : List (Addr × Obj)} {σ : L2.St} {H : L2.Hp} {s : Shared} {a C dx : Addr} {f : Str} {y : V} {u : Value} {fs : List (Str × V)} {Q : Unit → Shared → Prop} {E : Value → Shared → Prop} {A : Around}
/-- self.f = y, the first one -/
theorem gst_new (T : OexG X.K C B newId initId bmB) (I : Inv X pins σ H s) (e : H a = some (exo a C none)) (hno : takerIn X.K C f = some none) (ry : RelV y u)
    (h : ∀ dx s', H dx = none → dx ≠ a → Inv X pins σ (upd (upd H dx (exd dx [(f, y)])) a (exo a C (some dx))) s' → Q () s') : wpAny (model X.prog X.w) A (setAttr (.ref a) f u) Q E s := by
  obtain ⟨t1, ho⟩ := exo_at I.hok e
  obtain ⟨hp, g, d, t, os⟩ := s
  refine PySem.W.set_plain I.kIn (ox := { cls := .ref C, dict := none, data := .fields #[.ref t1, .none, .none, .none, .bool false, .none] }) (od := none) ⟨ho, rfl, rfl, trivial⟩ T.sa ?_
  refine exc_osaG T.SF I.kIn ho T.over T.hd hno (fun h' tk' dx k dn dne hx hn => ?_)
  have hnd : H dx = none := I.hok.fresh dn
  have nd : ∀ {b : Addr} {o : Obj}, hp.get? b = some o → b ≠ dx := fun {b o} q => Nat.ne_of_lt (Nat.lt_of_lt_of_le (Heap.lt_size q) dn)
  have na : ∀ {b : Addr}, H b = none → b ≠ a := fun {b} n z => by
    rw [z, e] at n
    cases n
  have Un1 : Un X.fs [] H (upd (upd H dx (exd dx [(f, y)])) a (exo a C (some dx))) hp h' := {
    keep := fun b o q n _ _ => k b o (na n) q
    slot := fun b o q n _ _ => ⟨o.slots, k b o (na n) q⟩
    free := fun b o q n _ => by rw [upd_ne (na n), upd_ne (nd q)]; exact n
    there := fun b o q _ => by
      by_cases hb : b = a
      · exact ⟨_, by rw [hb]; exact hx⟩
      · exact ⟨o, k b o hb q⟩
    tups := fun b xs q => by rw [upd_ne (at_ne e q exo_tup), upd_ne (ne_of_none q hnd)]; exact q
    frzs := fun b o v q => by rw [upd_ne (at_ne e q exo_frz), upd_ne (ne_of_none q hnd)]; exact q
    tbls := fun b ps q => ⟨#[], by rw [upd_ne (at_ne e q exo_tbl), upd_ne (ne_of_none q hnd), q]; simp⟩ }
  refine h dx _ hnd dne (I.un (t' := tk') Un1 fun b o q => ?_)
  by_cases hb : b = a
  · subst hb
    rw [upd_same] at q
    cases q
    exact exo_ok hx
  · rw [upd_ne hb] at q
    by_cases hd : b = dx
    · subst hd
      rw [upd_same] at q
      cases q
      exact exd_ok hn (relO_put (fs := []) ry fun g => True.intro)
    · rw [upd_ne hd] at q
      exact (I.hok b o q).stay (fun c v hc z => k c v (by
          rcases hc with hc | hc
          · rw [hc]
            exact hb
          · exact at_ne e hc exo_own) z)
        (fun c hc => by rw [upd_ne (at_ne e hc exo_own), upd_ne (ne_of_none hc hnd)]; exact hc) (fun c xs hc => by rw [upd_ne (at_ne e hc exo_tup), upd_ne (ne_of_none hc hnd)]; exact hc)
/-- a further one -/
theorem gst_old (T : OexG X.K C B newId initId bmB) (I : Inv X pins σ H s) (e : H a = some (exo a C (some dx))) (ed : H dx = some (exd dx fs)) (hl : fs.length ≤ 900) (hno : takerIn X.K C f = some none) (ry : RelV y u)
    (h : ∀ s', Inv X pins σ (upd H dx (exd dx ((f, y) :: fs))) s' → Q () s') : wpAny (model X.prog X.w) A (setAttr (.ref a) f u) Q E s := by
  obtain ⟨t1, ho⟩ := exo_at I.hok e
  obtain ⟨mA, hns, rel⟩ := exd_at I.hok ed
  have hw := within_of rel
  obtain ⟨hp, g, d, t, os⟩ := s
  obtain ⟨oD, _, _, hoD, _, _⟩ := hns.count hw
  refine PySem.W.set_plain I.kIn (ox := { cls := .ref C, dict := some dx, data := .fields #[.ref t1, .none, .none, .none, .bool false, .none] }) (od := some oD) ⟨ho, rfl, rfl, hoD⟩ T.sa ?_
  refine osa_oldG T.SF I.kIn ho hns hw (by rw [List.length_map]; omega) T.over T.hd hno (fun h' tk' k hn => ?_)
  have hd : ∃ o, h'.get? dx = some o := by
    obtain ⟨o, _, _, e', _⟩ := hn
    exact ⟨o, e'⟩
  exact h _ (I.write (t' := tk') (x := dx) (e := dx) (o := exd dx ((f, y) :: fs)) (by rw [ed]; exact True.intro) (.inl rfl) k hd (exd_ok hn (relO_put ry rel)))
end
/-- self.f = e -/
def tGst (K : PySem.W.Frag) (B newId initId : String) (bmB : List Value) (f : Str) (to te : TE) : TS := fun D σ H => te σ H fun y H1 => to σ H1 fun x H2 => ∃ a C : Addr, x = .ref a ∧ OexG K C B newId initId bmB ∧ takerIn K C f = some none ∧
  ((H2 a = some (exo a C none) ∧ ∀ dx, H2 dx = none → dx ≠ a → D.nx σ (upd (upd H2 dx (exd dx [(f, y)])) a (exo a C (some dx)))) ∨
    ∃ (dx : Addr) (fs : List (Str × V)), H2 a = some (exo a C (some dx)) ∧ H2 dx = some (exd dx fs) ∧ fs.length ≤ 900 ∧ D.nx σ (upd H2 dx (exd dx ((f, y) :: fs))))
section
variable {X : Cx} {o e : Expr} {es : List Expr} {to te : TE} {ta : TA} {f : Str} {p p' p1 p2 pos : Pos} {B newId initId : String} {bmB : List Value}
theorem ps_gst (ho : PE X o to) (he : PE X e te) (hs : swapsWith e (some (.Attribute o f p')) pos.line X.env = pure false := by rfl) : PS X (.Assign [.Attribute o f p'] e pos) (tGst X.K B newId initId bmB f to te) := by
  refine ⟨fun pins s σ H D I h => ?_⟩
  refine plainObj_wpAny_Assign_Attribute (thn (he.run pins s σ H _ I h) fun v s1 ⟨y, H1, I1, r1, q1⟩ => thn (ho.run pins s1 σ H1 _ I1 q1) fun u s2 ⟨x, H2, I2, r2, a, C, ex, T, hno, q⟩ => ?_) hs
  subst ex
  obtain rfl : u = Value.ref a := r2
  rcases q with ⟨ea, q⟩ | ⟨dx, fs, ea, ed, hl, q⟩
  · exact gst_new T I2 ea hno r1 fun dx s' n ne J => ⟨σ, _, J, q dx n ne⟩
  · exact gst_old T I2 ea ed hl hno r1 fun s' J => ⟨σ, _, J, q⟩
theorem pmk_gex {CX : CXT} {x : Str} {C fI : Addr} {k : Nat} {fd : FuncData} {ps : List Str} {sp : Sp} {ds : List Value} {dvs : List V} (T : OexG X.K C B newId initId bmB) (iC : PySem.W.findIn X.K (.ref C) "__init__" = some (some (.ref fI))) (tI : PySem.W.typeIn X.K (.ref fI) = some (.type "function"))
    (F1 : FnOk X.prog X.w X.K X.mg X.base CX k fI fd ps sp) (hr : Room (k + 1) X.A) (hb : Binds X.K fd ps ds) (hd : Vals dvs ds) (hx : Passes CX X (fun _ _ _ => False)) (hg : Gl X x) (hm : X.mg x = some (.ref C)) (ha : PA X (e :: es) ta)
    (hdb : (x == ("__debug__" : Str)) = false := by decide) (he : starEach (e :: es) X.env = (false, eval e X.env) :: starEach es X.env := by rfl) (hpl : (backTo pos (starEach es X.env)).any (·.1) = false := by rfl) :
    PMk X (.Call (.Name x p) (e :: es) [] pos) (tMkO C sp dvs ta) := by
  intro pins s σ H Q I h
  refine wpAny_Call_Name_kw (ld_glob I hg hm ?_ hdb)
  refine PySem.W.callWith_K (h₀ := X.base) I.ok.mod.kin T.kC (thn (ha.run pos pins s σ H _ I h) fun us s1 ⟨vs, H1, I1, r1, hz, q1⟩ => ⟨I1.kIn, ?_⟩) he hpl
  show wpAny _ _ (call (.ref C) us) _ _ _
  obtain ⟨hp, g, dr, tk, os⟩ := s1
  obtain ⟨nm, N', qn, bs, bm, hdct, sn, sub, ab, col, dd, k0, k1, k2, k3, k5, hC, hT⟩ := excInit_of I1.kIn T.init
  have hsz : hp.objs.size ≤ hp.objs.size + 1 := Nat.le_succ _
  have hn : H1 (hp.objs.size + 1) = none := I1.hok.fresh hsz
  have hq := q1 (hp.objs.size + 1) hn
  have kk : ∀ b o, hp.get? b = some o → ((hp.push (PySem.W.kdv_tup us)).push (PySem.HandSPX.excO C hp.objs.size)).get? b = some o := fun b o e => Heap.get?_push_of_some _ (Heap.get?_push_of_some _ e)
  have hget : ((hp.push (PySem.W.kdv_tup us)).push (PySem.HandSPX.excO C hp.objs.size)).get? (hp.objs.size + 1) = some (PySem.HandSPX.excO C hp.objs.size) := by heap_get
  have I2 : Inv X pins σ (upd H1 (hp.objs.size + 1) (exo (hp.objs.size + 1) C none)) ⟨(hp.push (PySem.W.kdv_tup us)).push (PySem.HandSPX.excO C hp.objs.size), g, dr, tk, os⟩ :=
    I1.laid (t' := tk) (a := hp.objs.size + 1) (o := exo (hp.objs.size + 1) C none) (h' := (hp.push (PySem.W.kdv_tup us)).push (PySem.HandSPX.excO C hp.objs.size)) kk hsz (exo_ok hget)
  have r2 : Vals (V.ref (hp.objs.size + 1) :: (vs ++ dvs)) (Value.ref (hp.objs.size + 1) :: (us ++ ds)) := .cons rfl (r1.append hd)
  have hl : (Value.ref (hp.objs.size + 1) :: us ++ ds).length = ps.length := by
    have e := r2.length
    rw [F1.len _ _ _ _ hq] at e
    exact e.symm
  have hus : us.length ≤ sizeLine := by
    rw [← Paired.length r1, sizeLine_eq]
    omega
  refine wpAny_call (PySem.HandSPX.call_own T.F hT hC (PySem.W.looks_findIn I1.kIn iC) (fun self => PySem.W.bind_fn I1.kIn self tI) hus
    (codeAny_mono (F1.run _ X.stack _ _ ⟨Value.ref (hp.objs.size + 1) :: us, []⟩ (Value.ref (hp.objs.size + 1) :: (us ++ ds)) _ _ (fun _ _ _ => False) (hr.make C us []) (I2.env0.make C us []) (hb _ (Value.ref (hp.objs.size + 1) :: us) I2.kIn hl) r2 hq) fun r s' hq' => ?_))
  cases r with
  | error er => exact hx pins σ _ _ er s' I2 hq'
  | ok fl =>
    cases fl with
    | ret u =>
      obtain ⟨v, H2, os2, bare2, un2, hok2, rv, ev, d, fs, ea, ed, hd1, q2⟩ := hq'
      subst ev
      obtain ⟨h2, g2, d2, t2, os'⟩ := s'
      exact ⟨rv, mk_end (raises_own T.exC T.tyC) I1 hsz kk un2 hok2 os2 bare2 ea ed hd1 q2⟩
    | next => exact False.elim hq'
    | brk => exact False.elim hq'
    | cont => exact False.elim hq'
end
end G

namespace G
open PySem PySem.Spec PySem.W L2
open PyProof.Rows hiding St
/-- what __init__ keeps: the fields are stored, one after the other -/
def spI (K : PySem.W.Frag) (C : Addr) (B newId initId : String) (bmB : List Value) (fs : List Str) : Sp := fun vs H Q _ => ∃ (a : Addr) (us : List V), vs = .ref a :: us ∧ us.length = fs.length ∧ OexG K C B newId initId bmB ∧ (∀ f ∈ fs, takerIn K C f = some none) ∧
  H a = some (exo a C none) ∧ ∀ dx, H dx = none → dx ≠ a → Q .non (upd (upd H dx (exd dx (fs.zip us).reverse)) a (exo a C (some dx)))
section
variable {CX : CXT} {P : Program} {w : World} {K : PySem.W.Frag} {mg : Str → Option Value} {base : Heap} {k : Nat} {fI C : Addr} {q f g : Str} {params : Arguments} {body : List Stmt} {scope : Scope} {dV kV doc pm cdv ct oc : Value} {an od : Option Addr} {osl : Array (Option Value)} {B newId initId : String} {bmB : List Value}
theorem vis_par {N P : List Str} {x : Str} (S : FnScope N P scope) (hx : x ∈ P) : Vis scope x := by
  rcases S.par x hx with h | h
  · exact .inl h
  · exact .inr (.inl h)
theorem swap_name {v : Str} {o : Expr} {h : Str} {p1 p2 : Pos} {n : Nat} {E : Env} : swapsWith (.Name v p1) (some (.Attribute o h p2)) n E = pure false := by rfl
theorem init1 {q1 q2 q3 q4 : Pos} (lk : K.lookup fI = some ⟨oc, od, .func (PySem.W.fnOf "__init__" q params body scope dV kV doc pm an cdv ct), osl⟩) (hcd : PySem.W.codeIn K cdv q = true) (S : FnScope ["self", f] ["self", f] scope)
    (hb : body = [.Assign [.Attribute (.Name "self" q1) f q2] (.Name f q3) q4]) (hd : ((f == ("__debug__" : Str)) || (f == ("__classdict__" : Str))) = false) :
    FnOk P w K mg base CX (k + 1) fI (PySem.W.fnOf "__init__" q params body scope dV kV doc pm an cdv ct) ["self", f] (spI K C B newId initId bmB [f]) := by
  subst hb
  rw [Bool.or_eq_false_iff] at hd
  refine fn_of lk hcd S (fun vs H Q E ⟨a, us, e, l, _⟩ => by rw [e]; simp [l]) fun A outer s H vs Q E hr hsp => ?_
  obtain ⟨a, us, rfl, l, T, ht, ea, hq⟩ := hsp
  match us, l with
  | [u], _ =>
    refine ⟨_, pss_one (ps_gst (B := B) (newId := newId) (initId := initId) (bmB := bmB) (pe_var (i := 0) rfl (vis_par S (by simp))) (pe_var (i := 1) rfl (vis_par S (by simp)) hd.1 hd.2) swap_name), ?_⟩
    refine ⟨u, rfl, .ref a, rfl, a, C, rfl, T, ht f (by simp), .inl ⟨ea, fun dx n ne => ?_⟩⟩
    exact hq dx n ne
theorem init2 {q1 q2 q3 q4 r1 r2 r3 r4 : Pos} (lk : K.lookup fI = some ⟨oc, od, .func (PySem.W.fnOf "__init__" q params body scope dV kV doc pm an cdv ct), osl⟩) (hcd : PySem.W.codeIn K cdv q = true) (S : FnScope ["self", f, g] ["self", f, g] scope)
    (hb : body = [.Assign [.Attribute (.Name "self" q1) f q2] (.Name f q3) q4, .Assign [.Attribute (.Name "self" r1) g r2] (.Name g r3) r4]) (hd : ((f == ("__debug__" : Str)) || (f == ("__classdict__" : Str))) = false) (hd2 : ((g == ("__debug__" : Str)) || (g == ("__classdict__" : Str))) = false) :
    FnOk P w K mg base CX (k + 1) fI (PySem.W.fnOf "__init__" q params body scope dV kV doc pm an cdv ct) ["self", f, g] (spI K C B newId initId bmB [f, g]) := by
  subst hb
  rw [Bool.or_eq_false_iff] at hd hd2
  refine fn_of lk hcd S (fun vs H Q E ⟨a, us, e, l, _⟩ => by rw [e]; simp [l]) fun A outer s H vs Q E hr hsp => ?_
  obtain ⟨a, us, rfl, l, T, ht, ea, hq⟩ := hsp
  match us, l with
  | [u, v], _ =>
    refine ⟨_, pss_cons (ps_gst (B := B) (newId := newId) (initId := initId) (bmB := bmB) (pe_var (i := 0) rfl (vis_par S (by simp))) (pe_var (i := 1) rfl (vis_par S (by simp)) hd.1 hd.2) swap_name)
      (pss_one (ps_gst (B := B) (newId := newId) (initId := initId) (bmB := bmB) (pe_var (i := 0) rfl (vis_par S (by simp))) (pe_var (i := 2) rfl (vis_par S (by simp)) hd2.1 hd2.2) swap_name)), ?_⟩
    refine ⟨u, rfl, .ref a, rfl, a, C, rfl, T, ht f (by simp), .inl ⟨ea, fun dx n ne => ?_⟩⟩
    refine ⟨v, rfl, .ref a, rfl, a, C, rfl, T, ht g (by simp), .inr ⟨dx, [(f, u)], upd_same, ?_, by simp, ?_⟩⟩
    · rw [upd_ne ne, upd_same]
    · have e : upd (upd (upd H dx (exd dx [(f, u)])) a (exo a C (some dx))) dx (exd dx ((g, v) :: [(f, u)])) = upd (upd H dx (exd dx ([f, g].zip [u, v]).reverse)) a (exo a C (some dx)) := by
        funext b
        unfold upd
        by_cases hb : b = dx
        · subst hb; simp [ne]
        · simp [hb]
      have z := hq dx n ne
      rw [← e] at z
      exact z
end
section
variable {X : Cx} {N : List Str} {sc ow : Scope} {e : Expr} {es : List Expr} {p pos pos2 : Pos} {Wr : WA} {n : Str} {fs : List Str} {B newId initId : String} {bmB : List Value} {C fI : Addr} {k : Nat} {fd : FuncData} {ps : List Str}
/-- raise C(e, ..) -/
def wRaise (n : Str) (fs : List Str) (Wr : WA) : WS := fun D env h => Wr env h (fun vs h1 => vs.length = fs.length ∧ D.ex ⟨n, fs, vs⟩ env h1) (fun x h' => D.ex x env h')
theorem zip_look : ∀ {fs : List Str} {ws : List V} {i : Nat} {f : Str} {w : V}, fs.Nodup → fs[i]? = some f → ws[i]? = some w → (fs.zip ws).lookup f = some w
  | [], _, i, _, _, _, e, _ => by simp at e
  | _ :: _, [], i, _, _, _, _, e => by simp at e
  | g :: fs, v :: ws, 0, f, w, nd, e1, e2 => by simp at e1 e2; subst e1; subst e2; simp [List.lookup]
  | g :: fs, v :: ws, i + 1, f, w, nd, e1, e2 => by
    have e1' : fs[i]? = some f := by simpa using e1
    have e2' : ws[i]? = some w := by simpa using e2
    have hn : f ≠ g := fun q => by
      have := (List.nodup_cons.mp nd).1
      exact this (q ▸ List.mem_of_getElem? e1')
    have hb : (f == g) = false := by simpa using hn
    show (match f == g with | true => some v | false => (fs.zip ws).lookup f) = some w
    rw [hb]
    exact zip_look (List.nodup_cons.mp nd).2 e1' e2'
theorem look_append {α : Type} [BEq α] {β : Type} {x : α} : ∀ {l m : List (α × β)} {v : β}, m.lookup x = some v → l.lookup x = none → (l ++ m).lookup x = some v
  | [], m, v, h, _ => h
  | (y, z) :: l, m, v, h, h2 => by
    simp only [List.lookup, List.cons_append] at h2 ⊢
    split at h2
    · cases h2
    · exact look_append h h2
theorem rzip_look {fs : List Str} {ws : List V} {i : Nat} {f : Str} {w : V} (nd : fs.Nodup) (l : fs.length ≤ 2) (e1 : fs[i]? = some f) (e2 : ws[i]? = some w) : (fs.zip ws).reverse.lookup f = some w := by
  match fs, ws, l with
  | [], _, _ => simp at e1
  | _ :: _, [], _ => simp at e2
  | [g], v :: ws, _ => exact zip_look nd e1 e2
  | [g, g2], [v], _ =>
    match i with
    | 0 => simp at e1 e2; subst e1; subst e2; simp [List.lookup]
    | i + 1 => simp at e2
  | [g, g2], v :: v2 :: ws, _ =>
    have hn : g ≠ g2 := by have := (List.nodup_cons.mp nd).1; simpa using this
    have hb : (g == g2) = false := by simpa using hn
    match i with
    | 0 => simp at e1 e2; subst e1; subst e2; simp [List.lookup, hb]
    | 1 => simp at e1 e2; subst e1; subst e2; simp [List.lookup]
    | i + 2 => simp at e1
theorem gs_raise (Cn' : Cn X N sc ow) (T : OexG X.K C B newId initId bmB) (gC : PySem.W.nsIn X.K mainGlobals n = some (some (.ref C))) (hm : X.mg n = some (.ref C)) (iC : PySem.W.findIn X.K (.ref C) "__init__" = some (some (.ref fI))) (tI : PySem.W.typeIn X.K (.ref fI) = some (.type "function"))
    (F1 : FnOk X.prog X.w X.K X.mg X.base (L2.CX X.prog X.w) k fI fd ps (spI X.K C B newId initId bmB fs)) (hr : Room (k + 1) X.A) (hb : Binds X.K fd ps []) (ht : ∀ f ∈ fs, takerIn X.K C f = some none) (ha : GA X (e :: es) Wr)
    (nd : fs.Nodup := by decide +kernel) (l2 : fs.length ≤ 2 := by decide) (hg : glbB sc n = true := by decide +kernel) (hdb : (n == ("__debug__" : Str)) = false := by decide +kernel)
    (he : starEach (e :: es) X.env = (false, eval e X.env) :: starEach es X.env := by rfl) (hpl : (backTo pos (starEach es X.env)).any (·.1) = false := by rfl) :
    GS X (.Raise (some (.Call (.Name n p) (e :: es) [] pos)) none pos2) (wRaise n fs Wr) := by
  refine ⟨⟨fun pins s σ H D I ⟨env, h, d, re, rh, tk, w, kn, kr, kb, kc⟩ => ?_⟩⟩
  refine (ps_raise Cn'.calm tk (pmk_gex (C := C) T iC tI F1 hr hb .nil (fun pins σ H s e s' I c => by
    obtain ⟨_, _, _, _, _, _, _, _, _, _, _, _, z⟩ := c
    exact z.elim) (Cn'.gl hg) hm ha.pa hdb he hpl)).run pins s σ H D I ?_
  refine ⟨env, h, _, fun x h' => d.ex x env h', re, rh, takesE re tk, w, fun vs ws h1 H1 t1 rh1 r1 w1 => ?_⟩
  obtain ⟨lv, w2⟩ := w1
  have hl : ws.length = fs.length := by rw [← r1.length]; exact lv
  refine ⟨by omega, fun a na => ⟨a, ws, by rw [List.append_nil], hl, T, ht, upd_same, fun dx ndx ne => ⟨rfl, dx, (fs.zip ws).reverse, upd_same, ?_, ?_, ?_⟩⟩⟩
  · rw [upd_ne ne, upd_same]
  · rw [upd_ne ne] at ndx; exact ndx
  · rw [upd_ne ne] at ndx
    have e1 : upd (del (upd (upd (upd H1 a (exo a C none)) dx (exd dx (fs.zip ws).reverse)) a (exo a C (some dx))) a) dx (.xd (fs.zip ws).reverse) = upd H1 dx (.xd (fs.zip ws).reverse) := by
      funext b
      unfold upd del
      by_cases hb : b = dx
      · subst hb; simp
      · by_cases hba : b = a
        · subst hba; simp [hb, na]
        · simp [hb, hba]
    rw [e1]
    exact ⟨_, env, h1, t1.trans (.new ndx), re.up (t1.trans (.new ndx)), rh1.new ndx, ⟨C, ws, gC, rfl, r1.up (.new ndx), .inr ⟨dx, _, rfl, upd_same, hl.symm, fun i f w e1 e2 => rzip_look nd l2 e1 e2⟩⟩, w2⟩
end
end G

set_option Elab.async false
set_option linter.all false
set_option maxRecDepth 100000
set_option maxHeartbeats 4000000
/-! try: body / except C [as n]: a short suite; the caught exception is kept as a value -/
namespace L2
open PySem PySem.Spec PyProof.Rows
section
variable {X : Cx} {pins : List (Addr × Obj)} {σ : St} {H : Hp} {s : Shared} {a d : Addr} {oe od : Obj} {l : Array Value} {xs : List (Str × V)}
theorem Inv.adoptG (I : Inv X pins σ H s) (ha : s.heap.get? a = some oe) (hd : oe.data = .fields l) (na : H a = none) (nL : a ≠ X.env.locals) (nP : ∀ p ∈ X.pn ++ pins, p.1 ≠ a) (n0 : X.s_0.heap.get? a = none) : Inv X pins σ (upd H a (.frz oe G.xo)) s := by
  have nn : ∀ b o, H b = some o → b ≠ a := fun b o e => ne_of_none e na
  refine ⟨I.ok, I.os, I.bare, ⟨I.base.keep, I.base.slot, fun b o q n hx => ?_, I.base.there, fun b xs q => ?_, fun b o u q => ?_, fun b ps q => ?_⟩, I.loc, I.cell, ?_, fun x c e => ?_, fun p hp => ?_, fun b o e => ?_, I.len⟩
  · have hb : b ≠ a := fun z => by rw [z, n0] at q; cases q
    rw [upd_ne hb]; exact I.base.free b o q n hx
  · have z := I.base.tups b xs q
    rw [upd_ne (nn _ _ z)]; exact z
  · have z := I.base.frzs b o u q
    rw [upd_ne (nn _ _ z)]; exact z
  · obtain ⟨m, z⟩ := I.base.tbls b ps q
    exact ⟨m, by rw [upd_ne (nn _ _ z)]; exact z⟩
  · rw [upd_ne nL.symm]; exact I.free
  · have hc : c ≠ a := fun z => by
      obtain ⟨v, o, ho, hd'⟩ := I.cell x c e
      rw [z, ha] at ho
      cases ho
      rw [hd] at hd'
      cases hd'
    rw [upd_ne hc]; exact I.freeC x c e
  · obtain ⟨e1, e2, e3⟩ := I.pin p hp
    exact ⟨e1, by rw [upd_ne (nP p hp)]; exact e2, e3⟩
  · by_cases hb : b = a
    · subst hb
      rw [upd_same] at e
      cases e
      exact ⟨ha, True.intro, ⟨oe, ha⟩, fun _ _ _ _ => True.intro⟩
    · rw [upd_ne hb] at e
      exact (I.hok b o e).stay (fun _ _ _ q => q) (fun c q => by rw [upd_ne (nn _ _ q)]; exact q) fun c xs q => by rw [upd_ne (nn _ _ q)]; exact q
theorem Inv.freezeG (I : Inv X pins σ H s) (e : H d = some (.xd xs)) (ho : s.heap.get? d = some od) : Inv X pins σ (upd H d (.frz od (.xd xs))) s := by
  have nN : ∀ b, H b = none → b ≠ d := fun b n z => by rw [z, e] at n; cases n
  have nT : ∀ b xs, H b = some (.tup xs) → b ≠ d := fun b xs n z => by rw [z, e] at n; cases n
  have nF : ∀ b o u, H b = some (.frz o u) → b ≠ d := fun b o u n z => by rw [z, e] at n; cases n
  have nB : ∀ b ps, H b = some (.tbl ps) → b ≠ d := fun b ps n z => by rw [z, e] at n; cases n
  have nO : ∀ b c, H b = some (.own c) → b ≠ d := fun b c n z => by rw [z, e] at n; cases n
  refine ⟨I.ok, I.os, I.bare, ⟨I.base.keep, I.base.slot, fun b o q n hx => ?_, I.base.there, fun b xs q => ?_, fun b o u q => ?_, fun b ps q => ?_⟩, I.loc, I.cell, ?_, fun x c q => ?_, fun p hp => ?_, fun b o q => ?_, I.len⟩
  · have z := I.base.free b o q n hx
    rw [upd_ne (nN _ z)]; exact z
  · have z := I.base.tups b xs q
    rw [upd_ne (nT _ _ z)]; exact z
  · have z := I.base.frzs b o u q
    rw [upd_ne (nF _ _ _ z)]; exact z
  · obtain ⟨m, z⟩ := I.base.tbls b ps q
    exact ⟨m, by rw [upd_ne (nB _ _ z)]; exact z⟩
  · rw [upd_ne (nN _ I.free)]; exact I.free
  · rw [upd_ne (nN _ (I.freeC x c q))]; exact I.freeC x c q
  · obtain ⟨e1, e2, e3⟩ := I.pin p hp
    exact ⟨e1, by rw [upd_ne (nN _ e2)]; exact e2, e3⟩
  · by_cases hb : b = d
    · subst hb
      rw [upd_same] at q
      cases q
      have z : ObjOk X.prog X.w H s.heap b (.xd xs) := I.hok b _ e
      exact ⟨ho, z⟩
    · rw [upd_ne hb] at q
      exact (I.hok b o q).stay (fun _ _ _ q => q) (fun c q => by rw [upd_ne (nO _ _ q)]; exact q) fun c xs q => by rw [upd_ne (nT _ _ q)]; exact q
theorem Inv.suiteG (I : Inv X pins σ H s) (a : Addr) : Inv (X.suite a (X.pn ++ pins)) [] σ H s :=
  ⟨I.ok.suite _ _, I.os, I.bare, I.base, I.loc, I.cell, I.free, I.freeC, fun p hp => I.pin p (by simpa using hp), I.hok, I.len⟩
theorem Inv.unsuiteG {a : Addr} {pn' : List (Addr × Obj)} (I : Inv (X.suite a (X.pn ++ pins)) pn' σ H s) (ok : X.Ok) : Inv X pins σ H s :=
  ⟨ok, I.os, I.bare, I.base, I.loc, I.cell, I.free, I.freeC, fun p hp => I.pin p (List.mem_append_left _ hp), I.hok, I.len⟩
end
end L2

namespace L2
open PySem PySem.Spec PyProof.Rows
/-- the abstract heap with the caught exception at a -/
def Adopted (H Ha : Hp) (a : Addr) (cls : Value) (d : Option Addr) : Prop := H a = none ∧ ∃ (oe : Obj) (l : Array Value), oe.cls = cls ∧ oe.dict = d ∧ oe.data = .fields l ∧
  ((d = none ∧ Ha = upd H a (.frz oe G.xo)) ∨ ∃ (dx : Addr) (xs : List (Str × V)) (od : Obj), d = some dx ∧ H dx = some (.xd xs) ∧ Ha = upd (upd H dx (.frz od (.xd xs))) a (.frz oe G.xo))
def XdOk (H : Hp) (d : Option Addr) : Prop := d = none ∨ ∃ dx xs, d = some dx ∧ H dx = some (.xd xs)
/-- behind the suite the clause's name goes -/
def endAs (oi : Option Nat) (D : Ends) : Ends := match oi with
  | none => D
  | some i => { nx := fun σ' H' => D.nx (σ'.set i none) H', rt := fun _ _ => False, bk := fun _ _ => False, ct := fun _ _ => False }
def inAs (oi : Option Nat) (a : Addr) (σ : St) : St := match oi with
  | none => σ
  | some i => σ.set i (some (.ref a))
/-- what the clauses wish of an exception of the body -/
def wTryG (K : PySem.W.Frag) (Wout : WX) (D : Ends) : List ((Value → Option Bool) × Option Nat × TS) → WX
  | [] => Wout
  | (te, oi, ts) :: r => fun cls d σ H => ∃ b, te cls = some b ∧ (b = true → XdOk H d ∧ ∀ a Ha, Adopted H Ha a cls d → ts (endAs oi D) (inAs oi a σ) Ha) ∧ (b = false → wTryG K Wout D r cls d σ H)
/-- a clause's name, and its slot -/
inductive AsOk (X : Cx) : Option Str → Option Nat → Prop
  | no : AsOk X none none
  | yes {n : Str} {i : Nat} (hi : X.N[i]? = some n) (hl : X.env.kindOf n = some .local) : AsOk X (some n) (some i)
/-- what a clause asks: the class of the exception alone tells the answer -/
def HT (X : Cx) (e : Expr) (te : Value → Option Bool) : Prop := ∀ (a : Addr) (pn : List (Addr × Obj)) (σ : St) (H : Hp) (s : Shared) (cls : Value) (b : Bool) (Q : Bool → Shared → Prop) (E1 E2 : Value → Shared → Prop), Inv (X.suite a pn) [] σ H s → PySem.W.Looks (model X.prog X.w) s.heap (typeOf (.ref a)) cls → te cls = some b →
  (∀ h5 : Heap, (∀ b o, s.heap.get? b = some o → h5.get? b = some o) → Q b { s with heap := h5 }) →
  wpAny (model X.prog X.w) (X.A.mark (some (.ref a))) (eval e X.env) (fun c s1 => wpAny (model X.prog X.w) (X.A.mark (some (.ref a))) (excMatches (.ref a) c) Q E1 s1) E2 s
theorem nm_suite {X : Cx} {x : Str} {c : Value} {np : Pos} (hc : Names X x c) {a : Addr} {pn : List (Addr × Obj)} {σ : St} {H : Hp} {s : Shared} {Q : Value → Shared → Prop} {E : Value → Shared → Prop} (I : Inv (X.suite a pn) [] σ H s) (q : Q c s) : wpAny (model X.prog X.w) (X.A.mark (some (.ref a))) (eval (.Name x np) X.env) Q E s := by
  obtain ⟨hg, hdbg, hm | ⟨hm, hv, hnn⟩⟩ := hc
  · exact ld_glob (X := X.suite a pn) I hg hm q hdbg
  · exact ld_blt (X := X.suite a pn) I hg hm hv q hnn hdbg
theorem HT.one {X : Cx} {x : Str} {c : Value} {np : Pos} (hc : Names X x c) : HT X (.Name x np) (fun cls => PySem.W.exmOne X.K cls c) := fun a pn σ H s cls b Q E1 E2 I LT e q =>
  nm_suite hc I ((PySem.W.exm_one (M := model X.prog X.w) I.kIn LT e).here (q s.heap fun _ _ z => z))
theorem HT.two {X : Cx} {x1 x2 : Str} {c1 c2 : Value} {p1 p2 tp : Pos} {kk : Nat} (h1 : Names X x1 c1) (h2 : Names X x2 c2) : HT X (.Tuple [.Name x1 p1, .Name x2 p2] kk tp) (fun cls => PySem.W.exmAny X.K cls [c1, c2]) := fun a pn σ H s cls b Q E1 E2 I LT e q => by
  refine wpAny_Tuple ?_
  refine wpAny_items_cons (nm_suite h1 I ?_)
  refine wpAny_items_cons (nm_suite h2 I ?_)
  refine wpAny_items_nil ⟨by show (2 : Nat) ≤ _; decide, ?_⟩
  have kp : ∀ q o, s.heap.get? q = some o → (s.heap.push { cls := .type "tuple", data := .seq [c1, c2].toArray }).get? q = some o := fun _ _ z => Heap.get?_push_of_some _ z
  exact (PySem.W.exm_tup2 (I.kIn.keeps kp) (LT.keeps kp) (Heap.get?_push_size s.heap rfl) e).here (q _ kp)
theorem flying_keeps {B h h5 : Heap} {l : List Env} {a : Addr} {Z : Obj → Prop} (x : HandSPX.FlyingZ B l a Z h) (k : ∀ b o, h.get? b = some o → h5.get? b = some o) : HandSPX.FlyingZ B l a Z h5 := by
  obtain ⟨x1, x2, x3, oe, vs, T, oT, ts, a1, a2, a3, a4, a5, a6, a7, a8, a9⟩ := x
  exact ⟨fun b o e => k b o (x1 b o e), x2, Heap.FunFrames.of_keeps (fun b o e _ => ⟨o, k b o e, rfl⟩) x3, oe, vs, T, oT, ts, k _ _ a1, a2, a3, a4, a5, a6, k _ _ a7, a8, a9⟩
theorem upto_keeps {h h5 : Heap} (k : ∀ b o, h.get? b = some o → h5.get? b = some o) : h.UpToSlots h5 := fun b o e _ => ⟨o.slots, k b o e⟩
inductive HdsG (X : Cx) : List ExceptHandler → List ((Value → Option Bool) × Option Nat × TS) → Prop
  | nil : HdsG X [] []
  | cons {e : Expr} {te : Value → Option Bool} {on : Option Str} {oi : Option Nat} {ts : TS} {b₀ : Stmt} {suite : List Stmt} {pos' : Pos} {hds : List ExceptHandler} {l : List ((Value → Option Bool) × Option Nat × TS)} (hc : HT X e te) (ha : AsOk X on oi)
      (hsu : ∀ (a : Addr) (pn : List (Addr × Obj)), PSs (X.suite a pn) (b₀ :: suite) ts) (r : HdsG X hds l) : HdsG X (.ExceptHandler (some e) on (b₀ :: suite) pos' :: hds) ((te, oi, ts) :: l)
section
variable {X : Cx} {body : List Stmt} {h₀ : ExceptHandler} {hds : List ExceptHandler} {l : List ((Value → Option Bool) × Option Nat × TS)} {pos : Pos} {tb : WX → TS} {Wout : WX}
theorem ps_try_G (hs : X.stack = X.env :: X.outer) (hf : X.env.frame = some X.env.locals) (hex : X.ex = []) (hN : X.N.Nodup) (tk : Takes X Wout)
    (hb : ∀ (W : WX) (pn : List (Addr × Obj)) (xe : Value → Shared → Prop), Takes (X.tr pn xe) W → PassesOwn (model X.prog X.w) X.A X.env xe → PSs (X.tr pn xe) body (tb W))
    (hh : HdsG X (h₀ :: hds) l) : PS X (.Try body (h₀ :: hds) [] [] pos) (fun D σ H => tb (wTryG X.K Wout D l) D σ H) := by
  refine ⟨fun pins s σ H D I h => ?_⟩
  have ok := I.ok
  have hfr : X.A.frames = some (X.env :: X.outer) := by rw [ok.frames, hs]
  refine wpAny_Try_except ?_
  refine wpAny_mono ((hb (wTryG X.K Wout D l) (X.pn ++ pins) (fun e s₁ => wpAny (model X.prog X.w) X.A (noteFrame e X.env) (fun _ s₂ => wpAny (model X.prog X.w) X.A (setFlight e none) (fun _ s₃ =>
    wpAny (model X.prog X.w) X.A (handleBy e X.env (h₀ :: hds)) (SP X pins D) X.xe s₃) X.xe s₂) X.xe s₁) (fun u s' xx => ?_) PassesOwn.looking).run [] s σ H D (I.toTry _) h) (fun f s1 hsp => ?_) (fun e s1 he => he)
  · -- the catch
    obtain ⟨a, B, sI, pins', σ', H', cls, d, rfl, J', nb, up, sky, na, os, ag, w⟩ := xx
    have J : Inv X pins σ' H' sI := J'.ofTry ok
    have sky' : Sky B (X.env :: X.outer) a (Zc cls d) X.env.locals s'.heap := by rw [← hs]; exact sky
    show wpAny (model X.prog X.w) X.A (noteFrame (.ref a) X.env) _ _ _
    refine Sky.land Zc.steady hfr hf sky' fun h3 fl3 up3 => ?_
    have J3 : Inv X pins σ' H' { s' with heap := h3 } := J.landed nb fl3.1 (up.trans up3) os ag
    obtain ⟨oe3, vs3, he3, hz3, hd3⟩ := fl3.there
    have notFr : ∀ {h : Heap} {o : Obj} {vs : Array Value}, h.FunFrames B (X.env :: X.outer) → h.get? a = some o → o.data = .fields vs → a ∉ frs (X.env :: X.outer) := fun {h o vs} ff e dd hm => by
      obtain ⟨_, o', e', hnf⟩ := ff.mem hm
      rw [e] at e'; cases e'
      exact hnf _ dd
    have nfr := notFr fl3.2.2.1 he3 hd3
    have nL : a ≠ X.env.locals := fun z => nfr (List.mem_filterMap.mpr ⟨X.env, List.mem_cons_self, by rw [hf, z]⟩)
    have nF : a ∉ X.fs := fun hm => by
      obtain ⟨e, he, q⟩ := List.mem_filterMap.mp hm
      exact nfr (List.mem_filterMap.mpr ⟨e, List.mem_cons_of_mem _ he, q⟩)
    have nB : B.get? a = none := fl3.2.1
    have nstk : ∀ b, b ∉ X.fs → b ≠ X.env.locals → b ∉ frs X.stack := fun b h1 h2 hm => by
      rcases List.mem_cons.mp (J.stkSub b hm) with z | z
      · exact h2 z
      · exact h1 z
    have n0 : X.s_0.heap.get? a = none := by
      cases q : X.s_0.heap.get? a with
      | none => rfl
      | some o =>
        obtain ⟨o', q'⟩ := J.base.there a o q (by rw [hex]; exact fun z => nomatch z)
        have z := nb a o' q' (nstk a nF nL)
        rw [nB] at z; cases z
    have nP : ∀ p ∈ X.pn ++ pins, p.1 ≠ a := fun p hp z => by
      obtain ⟨e1, e2, e3, e4, _⟩ := J.pin p hp
      have z2 := nb p.1 p.2 e1 (nstk _ e4 e3)
      rw [z, nB] at z2; cases z2
    have go : ∀ {hds' : List ExceptHandler} {l' : List ((Value → Option Bool) × Option Nat × TS)}, HdsG X hds' l' → wTryG X.K Wout D l' cls d σ' H' → ∀ h3, HandSPX.FlyingZ B (X.env :: X.outer) a (Zc cls d) h3 → s'.heap.UpToSlots h3 →
        wpAny (model X.prog X.w) X.A (handleBy (.ref a) X.env hds') (SP X pins D) X.xe { s' with heap := h3 } := by
      intro hds' l' hk
      induction hk with
      | nil =>
        intro w h3 fl3 up3
        refine wpAny_handleBy_nil ?_
        obtain ⟨k1, k2, k3, oe, vs, T, oT, ts', he, hz, hd, h1, hr⟩ := id fl3
        unfold PySem.passOn
        refine wpAny_bind (wpAny_field he hd h1 ?_)
        rw [if_neg (show ¬ ((Value.ref T == Value.none) = true) from by simp)]
        have fin : wpAny (model X.prog X.w) X.A (setFlight (.ref a) X.env.frame) (fun _ s4 => wpAny (model X.prog X.w) X.A (throw (.ref a) : Sem Flow) (SP X pins D) X.xe s4) X.xe { s' with heap := h3 } := by
          rw [hf]
          refine HandSPX.setFlight_upZ fl3 fun h4 hh4 up4 => wpAny_throw (tk _ _ ?_)
          exact ⟨a, B, sI, pins, σ', H', cls, d, rfl, J, nb, (up.trans up3).trans up4, .inr (.inr (by rw [hs]; exact hh4)), na, os, ag, w⟩
        first
          | exact wpAny_bind (wpAny_pure (wpAny_bind fin))
          | exact wpAny_bind fin
      | @cons e te on oi ts b₀ suite pos' hds2 l2 hc has hsu r ih =>
        intro w h3 fl3 up3
        have J3 : Inv X pins σ' H' { s' with heap := h3 } := J.landed nb fl3.1 (up.trans up3) os ag
        obtain ⟨oe3, vs3, he3, hz3, hd3⟩ := fl3.there
        obtain ⟨b, hb1, hyes, hno⟩ := w
        refine wpAny_handleBy_cons (codeAny_handlers_test ?_) (by intro q; cases q)
        have LT : PySem.W.Looks (model X.prog X.w) h3 (typeOf (.ref a)) cls := fun A Q E s k q => wpAny_typeOf_ref (k _ _ he3) (by rw [hz3.1]; exact q)
        have S3 := J3.suiteG a
        refine hc a _ _ _ _ cls b _ _ _ S3 LT hb1 fun h5 k5 => ?_
        have fl5 := flying_keeps fl3 k5
        have up5 := up3.trans (upto_keeps k5)
        clear J3 he3 hz3 hd3 LT S3 fl3 up3 k5
        cases b with
        | true =>
          obtain ⟨hxd, hyes⟩ := hyes rfl
          have adopt : ∀ h4, HandSPX.FlyingZ B (X.env :: X.outer) a (Zc cls d) h4 → h5.UpToSlots h4 → ∃ Ha, Adopted H' Ha a cls d ∧ Inv X pins σ' Ha { s' with heap := h4 } := fun h4 fl4 up4 => by
            have J4 : Inv X pins σ' H' { s' with heap := h4 } := J.landed nb fl4.1 ((up.trans up5).trans up4) os ag
            obtain ⟨oe4, vs4, he4, hz4, hd4⟩ := fl4.there
            rcases hxd with hdn | ⟨dx, xs, hdx, hxs⟩
            · exact ⟨_, ⟨na, oe4, vs4, hz4.1, hz4.2, hd4, .inl ⟨hdn, rfl⟩⟩, J4.adoptG he4 hd4 na nL nP n0⟩
            · obtain ⟨mA, ⟨od, es, ep, hod, hr⟩, rl⟩ := (show ObjOk X.prog X.w H' h4 dx (.xd xs) from J4.hok dx _ hxs)
              have ne : a ≠ dx := fun z => by rw [z, hxs] at na; cases na
              exact ⟨_, ⟨na, oe4, vs4, hz4.1, hz4.2, hd4, .inr ⟨dx, xs, od, hdx, hxs, rfl⟩⟩, (J4.freezeG hxs hod).adoptG he4 hd4 (by rw [upd_ne ne]; exact na) nL nP n0⟩
          cases has with
          | no =>
            refine codeAny_handlers_suite ?_
            refine HandSPX.lands_againZ fl5 fun h4 fl4 up4 => ?_
            obtain ⟨Ha, A4, JA⟩ := adopt h4 fl4 up4
            refine wpAny_mono ((hsu a (X.pn ++ pins)).run [] _ _ Ha _ (JA.suiteG a) (hyes a Ha A4)) (fun f s6 hsp => ?_) (fun _ _ z => False.elim z)
            cases f with
            | next =>
              obtain ⟨σ6, H6, S6, q6⟩ := hsp
              exact ⟨_, _, S6.unsuiteG ok, q6⟩
            | brk =>
              obtain ⟨σ6, H6, S6, q6⟩ := hsp
              exact ⟨_, _, S6.unsuiteG ok, q6⟩
            | cont =>
              obtain ⟨σ6, H6, S6, q6⟩ := hsp
              exact ⟨_, _, S6.unsuiteG ok, q6⟩
            | ret u =>
              obtain ⟨v6, σ6, H6, S6, r6, q6⟩ := hsp
              exact ⟨_, _, _, S6.unsuiteG ok, r6, q6⟩
          | @yes n i hi hl =>
            refine codeAny_handlers_suite_as ?_
            refine HandSPX.lands_againZ fl5 fun h4 fl4 up4 => ?_
            obtain ⟨Ha, A4, JA⟩ := adopt h4 fl4 up4
            refine store_ok (X := X.suite a (X.pn ++ pins)) (v := .ref a) (JA.suiteG a) hN hi (.inl hl) rfl (fun s5 S5 => ?_) (.inr hl)
            refine wpAny_mono ((hsu a (X.pn ++ pins)).run [] s5 _ Ha _ S5 (hyes a Ha A4)) (fun f s6 hsp => ?_) (fun _ _ z => False.elim z)
            cases f with
            | next =>
              obtain ⟨σ6, H6, S6, q6⟩ := hsp
              exact gone_ok (S6.unsuiteG ok) hN hi hl fun s7 J7 => ⟨_, _, J7, q6⟩
            | brk =>
              obtain ⟨σ6, H6, S6, q6⟩ := hsp
              exact False.elim q6
            | cont =>
              obtain ⟨σ6, H6, S6, q6⟩ := hsp
              exact False.elim q6
            | ret u =>
              obtain ⟨v6, σ6, H6, S6, r6, q6⟩ := hsp
              exact False.elim q6
        | false =>
          show wpAny _ X.A (handleBy (.ref a) X.env hds2) _ _ _
          exact ih (hno rfl) h5 fl5 up5
    exact go hh w h3 fl3 up3
  · cases f with
    | next =>
      obtain ⟨σ', H', J', q⟩ := hsp
      exact wpAny_execs_nil ⟨σ', H', J'.ofTry ok, q⟩
    | brk =>
      obtain ⟨σ', H', J', q⟩ := hsp
      exact ⟨σ', H', J'.ofTry ok, q⟩
    | cont =>
      obtain ⟨σ', H', J', q⟩ := hsp
      exact ⟨σ', H', J'.ofTry ok, q⟩
    | ret u =>
      obtain ⟨v, σ', H', J', r, q⟩ := hsp
      exact ⟨v, σ', H', J'.ofTry ok, r, q⟩
end
end L2

set_option Elab.async false
set_option linter.all false
set_option maxRecDepth 100000
set_option maxHeartbeats 4000000
namespace G
open PySem PySem.Spec PySem.W L2
open PyProof.Rows hiding St
/-! ### try -/
structure Hd where
  yes : List Str
  all : List Str
  as_ : Option Nat
  act : Env' → Hg → (Env' → Hg → Prop) → Prop
def asG (o : Option Nat) (v : Option Val) (env : Env') : Env' := match o with
  | none => env
  | some i => env.set i v
def hRun (D : Dn) : List Hd → Exn → Env' → Hg → Prop
  | [], x, env, h => D.ex x env h
  | d :: r, x, env, h => d.all.contains x.cls = true ∧ (if d.yes.contains x.cls = true then d.act (asG d.as_ (some (.exc x.cls x.fs x.vs)) env) h (fun env' h' => D.nx (asG d.as_ none env') h') else hRun D r x env h)
def wTry (Wb : WS) (WH : List Hd) : WS := fun D env h => Wb { D with ex := fun x env' h' => hRun D WH x env' h' } env h
def ActOk (X : Cx) (suite : List Stmt) (act : Env' → Hg → (Env' → Hg → Prop) → Prop) : Prop :=
  PSs X suite (fun D σ H => ∃ env h nx, RelE X.K H env σ ∧ RepH X.K H h ∧ act env h nx ∧ ContN X.K H nx D.nx)
/-- which of the classes all a clause's class c takes -/
def AllT (K : PySem.W.Frag) (te : Value → Option Bool) (all yes : List Str) : Prop := ∀ n ∈ all, ∀ C, nsIn K mainGlobals n = some (some (.ref C)) → te (.ref C) = some (yes.contains n)
def AllX (K : PySem.W.Frag) (c : Value) (all yes : List Str) : Prop := ∀ n ∈ all, ∀ C, nsIn K mainGlobals n = some (some (.ref C)) → exmOne K (.ref C) c = some (yes.contains n)
/-- a clause for two classes -/
theorem AllT.two {K : PySem.W.Frag} {c1 c2 : Value} {all y1 y2 yes : List Str} (a : AllX K c1 all y1) (b : AllX K c2 all y2) (e : (all.all fun n => yes.contains n == (y1.contains n || y2.contains n)) = true := by decide +kernel) : AllT K (fun cls => exmAny K cls [c1, c2]) all yes := fun n hn C g => by
  have e1 := a n hn C g
  have e2 := b n hn C g
  have e3 := List.all_eq_true.mp e n hn
  rw [beq_iff_eq] at e3
  show exmAny K (.ref C) [c1, c2] = _
  simp only [exmAny, e1, e2, Bool.or_false, e3]
theorem AllX.nil {K : PySem.W.Frag} {c : Value} {yes : List Str} : AllX K c [] yes := fun n h => by cases h
theorem AllX.cons {K : PySem.W.Frag} {c : Value} {all yes : List Str} {n : Str} {C : Addr} {b : Bool} (g : nsIn K mainGlobals n = some (some (.ref C))) (e : exmOne K (.ref C) c = some b) (r : AllX K c all yes) (hb : yes.contains n = b := by decide +kernel) : AllX K c (n :: all) yes := fun m hm C' g' => by
  rcases List.mem_cons.mp hm with rfl | hm
  · rw [g] at g'; cases g'; rw [hb]; exact e
  · exact r m hm C' g'
inductive HdsW (X : Cx) : List ExceptHandler → List Hd → Prop
  | nil : HdsW X [] []
  | mk {e : Expr} {te : Value → Option Bool} {on : Option Str} {b₀ : Stmt} {suite : List Stmt} {pos' : Pos} {hds : List ExceptHandler} {d : Hd} {l : List Hd} (hc : HT X e te) (hx : AllT X.K te d.all d.yes) (ha : AsOk X on d.as_)
      (hsu : ∀ (a : Addr) (pn : List (Addr × Obj)), ActOk (X.suite a pn) (b₀ :: suite) d.act) (r : HdsW X hds l) : HdsW X (.ExceptHandler (some e) on (b₀ :: suite) pos' :: hds) (d :: l)
theorem HdsW.cons {X : Cx} {x : Str} {c : Value} {on : Option Str} {b₀ : Stmt} {suite : List Stmt} {np pos' : Pos} {hds : List ExceptHandler} {d : Hd} {l : List Hd} (hc : Names X x c) (hx : AllX X.K c d.all d.yes) (ha : AsOk X on d.as_)
      (hsu : ∀ (a : Addr) (pn : List (Addr × Obj)), ActOk (X.suite a pn) (b₀ :: suite) d.act) (r : HdsW X hds l) : HdsW X (.ExceptHandler (some (.Name x np)) on (b₀ :: suite) pos' :: hds) (d :: l) := .mk (HT.one hc) hx ha hsu r
theorem HdsW.cons2 {X : Cx} {x1 x2 : Str} {c1 c2 : Value} {on : Option Str} {b₀ : Stmt} {suite : List Stmt} {p1 p2 tp pos' : Pos} {kk : Nat} {hds : List ExceptHandler} {d : Hd} {l : List Hd} {y1 y2 : List Str} (hc1 : Names X x1 c1) (hc2 : Names X x2 c2) (hx1 : AllX X.K c1 d.all y1) (hx2 : AllX X.K c2 d.all y2) (ha : AsOk X on d.as_)
      (hsu : ∀ (a : Addr) (pn : List (Addr × Obj)), ActOk (X.suite a pn) (b₀ :: suite) d.act) (r : HdsW X hds l) (e : (d.all.all fun n => d.yes.contains n == (y1.contains n || y2.contains n)) = true := by decide +kernel) : HdsW X (.ExceptHandler (some (.Tuple [.Name x1 p1, .Name x2 p2] kk tp)) on (b₀ :: suite) pos' :: hds) (d :: l) := .mk (HT.two hc1 hc2) (.two hx1 hx2 e) ha hsu r
/-- the readings of the suites -/
def actT (K : PySem.W.Frag) (act : Env' → Hg → (Env' → Hg → Prop) → Prop) : TS := fun D σ H => ∃ env h nx, RelE K H env σ ∧ RepH K H h ∧ act env h nx ∧ ContN K H nx D.nx
section
variable {X : Cx} {N : List Str} {sc ow : Scope} {body : List Stmt} {h₀ : ExceptHandler} {hds : List ExceptHandler} {pos : Pos} {Wb : WS} {WH : List Hd}
theorem Cn.tr (C : Cn X N sc ow) (pn : List (Addr × Obj)) (xe : Value → Shared → Prop) (p : PassesOwn (model X.prog X.w) X.A X.env xe) : Cn (X.tr pn xe) N sc ow := ⟨C.hN, C.nd, C.hs, C.calm, C.guards, C.units, p, C.st⟩
theorem adopted_rep {K : PySem.W.Frag} {H Ha : L2.Hp} {a : Addr} {cls : Value} {d : Option Addr} {x : Exn} {h : Hg} (A : Adopted H Ha a cls d) (rh : RepH K H h) (rx : RepX K H x cls d) : TExt H Ha ∧ RepH K Ha h ∧ Rep K Ha (.exc x.cls x.fs x.vs) (.ref a) := by
  obtain ⟨na, oe, l, hc, hd, hl, A⟩ := A
  obtain ⟨C, ws, g, ec, rl, rd⟩ := rx
  rcases A with ⟨d0, rfl⟩ | ⟨dx, xs, od, d1, e, rfl⟩
  · have t : TExt H (upd H a (.frz oe xo)) := .new na
    refine ⟨t, rh.new na, .exc g upd_same (by rw [hc, ec]) hl ?_ (rl.up t)⟩
    rw [hd, d0]
    rcases rd with ⟨_, f1, f2⟩ | ⟨dy, ys, z, _⟩
    · exact .inl ⟨rfl, f1, f2⟩
    · rw [d0] at z; cases z
  · have ne : a ≠ dx := fun z => by rw [z, e] at na; cases na
    have na2 : upd H dx (.frz od (.xd xs)) a = none := by rw [upd_ne ne]; exact na
    have t1 : TExt H (upd H dx (.frz od (.xd xs))) := ⟨fun b o u q => by rw [upd_ne (fun z => by rw [z, e] at q; cases q)]; exact q, fun b u q => by rw [upd_ne (fun z => by rw [z, e] at q; unfold LamX.CodeO at q; cases q)]; exact q⟩
    have t2 : TExt (upd H dx (.frz od (.xd xs))) (upd (upd H dx (.frz od (.xd xs))) a (.frz oe xo)) := .new na2
    have rh1 : RepH K (upd H dx (.frz od (.xd xs))) h := fun b o z => (rh b o z).up t1 (upd_ne fun q => by
      have y := rh b o z
      cases o with
      | lst ys => obtain ⟨us, q2, _⟩ := y; rw [q, e] at q2; cases q2
      | pen n => obtain ⟨us, q2, _⟩ := y; rw [q, e] at q2; cases q2
      | ins n fs => obtain ⟨C2, dx2, us, _, q2, _⟩ := y; rw [q, e] at q2; cases q2
      | dct kvs => obtain ⟨us, q2, _⟩ := y; rw [q, e] at q2; cases q2
      | dtt kvs => obtain ⟨us, q2, _⟩ := y; rw [q, e] at q2; unfold rawT at q2; cases q2
      | tbl x => obtain ⟨_, us, q2, _⟩ := y; rw [q, e] at q2; cases q2
      | cod x => have q2 : H b = some (.ext _) := y; rw [q, e] at q2; cases q2)
    refine ⟨t1.trans t2, rh1.new na2, .exc g upd_same (by rw [hc, ec]) hl ?_ (rl.up (t1.trans t2))⟩
    rw [hd, d1]
    rcases rd with ⟨z, _⟩ | ⟨dy, ys, z, ey, l1, l2⟩
    · rw [d1] at z; cases z
    · rw [d1] at z
      cases z
      rw [e] at ey
      cases ey
      exact .inr ⟨dx, od, xs, rfl, by rw [upd_ne ne.symm, upd_same], l1, l2⟩
theorem gs_try (C : Cn X N sc ow) (fr : X.stack = X.env :: X.outer ∧ X.env.frame = some X.env.locals ∧ X.ex = []) (hb : ∀ (pn : List (Addr × Obj)) (xe : Value → Shared → Prop), Cn (X.tr pn xe) N sc ow → GSs (X.tr pn xe) body Wb) (hh : HdsW X (h₀ :: hds) WH) :
    GS X (.Try body (h₀ :: hds) [] [] pos) (wTry Wb WH) := by
  refine ⟨⟨fun pins s σ H D I ⟨env, h, d, re, rh, tk, w, kn, kr, kb, kc⟩ => ?_⟩⟩
  have key : ∀ {hs : List ExceptHandler} {WH : List Hd}, HdsW X hs WH → ∃ L : List ((Value → Option Bool) × Option Nat × TS), HdsG X hs L ∧ ∀ (x : Exn) (cls : Value) (dd : Option Addr) (env' : Env') (h' : Hg) (σ' : L2.St) (H' : L2.Hp), TExt H H' → RelE X.K H' env' σ' → RepH X.K H' h' → RepX X.K H' x cls dd → hRun d WH x env' h' →
      wTryG X.K (XWs X.K H d.ex) D L cls dd σ' H' := by
    intro hs WH hh
    clear w
    induction hh with
    | nil => exact ⟨[], .nil, fun x cls dd env' h' σ' H' t re' rh' rx z => ⟨x, env', h', t, re', rh', rx, z⟩⟩
    | @mk e0 te on b₀ suite pos' hds d1 l hc hx ha hsu r ih =>
      obtain ⟨L, hL, hW⟩ := ih
      refine ⟨(te, d1.as_, actT X.K d1.act) :: L, .cons hc ha (fun a pn => ?_) hL, fun x cls dd env' h' σ' H' t re' rh' rx z => ?_⟩
      · have y := hsu a pn
        unfold ActOk at y
        exact y
      · obtain ⟨hall, z⟩ := z
        have hm : x.cls ∈ d1.all := List.contains_iff_mem.mp hall
        obtain ⟨Cc, ws, g, ec, rr⟩ := id rx
        refine ⟨d1.yes.contains x.cls, by rw [ec]; exact hx _ hm _ g, fun hy => ?_, fun hn => ?_⟩
        · rw [if_pos hy] at z
          refine ⟨?_, fun a Ha A => ?_⟩
          · rcases rr.2 with ⟨q, _⟩ | ⟨dx, xs, q, q2, _⟩
            · exact .inl q
            · exact .inr ⟨dx, xs, q, q2⟩
          · obtain ⟨t2, rh2, rv⟩ := adopted_rep A rh' rx
            cases hd1 : d1.as_ with
            | none =>
              rw [hd1] at z
              exact ⟨env', h', _, re'.up t2, rh2, z, fun e2 h2 σ2 H2 t3 re3 rh3 z3 => kn e2 h2 σ2 H2 ((t.trans t2).trans t3) re3 rh3 z3⟩
            | some i =>
              rw [hd1] at z
              exact ⟨env'.set i (some (.exc x.cls x.fs x.vs)), h', _, (re'.up t2).set i rv, rh2, z, fun e2 h2 σ2 H2 t3 re3 rh3 z3 => kn _ h2 _ H2 ((t.trans t2).trans t3) (re3.unset i) rh3 z3⟩
        · rw [hn, if_neg Bool.false_ne_true] at z
          exact hW x cls dd env' h' σ' H' t re' rh' rx z
  obtain ⟨L, hL, hW⟩ := key hh
  refine (ps_try_G (tb := fun W => fun D σ H => ∃ env h d, RelE X.K H env σ ∧ RepH X.K H h ∧ (∀ cls dd σ' H', XWs X.K H d.ex cls dd σ' H' → W cls dd σ' H') ∧ Wb d env h ∧ ContN X.K H d.nx D.nx ∧ ContE X.K H d.rt D.rt ∧ ContN X.K H d.bk D.bk ∧ ContN X.K H d.ct D.ct) fr.1 fr.2.1 fr.2.2 (by rw [C.hN]; exact C.nd) tk (fun W pn xe tW ps => ⟨fun pins s σ H D I ⟨env, h, d, re, rh, tk, w, kk⟩ => (hb pn xe (C.tr pn xe ps)).ps.run pins s σ H D I ⟨env, h, d, re, rh, tW.imp tk, w, kk⟩⟩) hL).run pins s σ H D I ?_
  exact ⟨env, h, _, re, rh, fun cls dd σ' H' ⟨x, env', h', t, re', rh', rx, z⟩ => hW x cls dd env' h' σ' H' t re' rh' rx z, w, kn, kr, kb, kc⟩
end
end G

namespace G
open PySem PySem.Spec PySem.W L2
open PyProof.Rows hiding St
/-! ### suites -/
section
variable {X : Cx} {N : List Str} {sc ow : Scope} {x y : Str} {p1 p2 pos : Pos} {i j : Nat}
def aStore (i j : Nat) : Env' → Hg → (Env' → Hg → Prop) → Prop := fun env h nx => match env[i]? with
  | some (some v) => nx (env.set j (some v)) h
  | _ => False
def aPass : Env' → Hg → (Env' → Hg → Prop) → Prop := fun env h nx => nx env h
def aNone (j : Nat) : Env' → Hg → (Env' → Hg → Prop) → Prop := fun env h nx => nx (env.set j (some .non)) h
/-- y = x -/
theorem act_store (C : Cn X N sc ow) (i j : Nat) (hi : N[i]? = some x := by decide +kernel) (hj : N[j]? = some y := by decide +kernel) (hv : visB sc x = true := by decide +kernel) (ho : ownB ow y = true := by decide +kernel) (hd : ((x == ("__debug__" : Str)) || (x == ("__classdict__" : Str))) = false := by decide +kernel)
    {X' : Cx} (e1 : X'.N = X.N) (e2 : X'.env = X.env) (e3 : X'.fn = X.fn) : ActOk X' [.Assign [.Name y p2] (.Name x p1) pos] (aStore i j) := by
  rw [Bool.or_eq_false_iff] at hd
  obtain ⟨l, f⟩ := C.st y ho
  refine PSsimp (pss_one (ps_set (i := j) (by rw [e1, C.hN]; exact C.nd) (by rw [e1, C.hN]; exact hj) (by rw [e2]; exact l) (pe_var (i := i) (by rw [e1, C.hN]; exact hi) (by rw [e2, C.hs]; exact vis_of hv) hd.1 hd.2) (by rfl) (by rw [e2, e3]; exact f))) ?_
  rintro D σ H ⟨env, h, nx, re, rh, z, k⟩
  unfold aStore at z
  split at z
  · rename_i v ev
    obtain ⟨u, e, r⟩ := re.2 i v ev
    exact ⟨u, e, k _ h _ H (.refl H) (re.set j r) rh z⟩
  · exact z.elim
theorem act_pass {X' : Cx} : ActOk X' [.Pass pos] aPass := by
  refine PSsimp (pss_one ps_pass) ?_
  rintro D σ H ⟨env, h, nx, re, rh, z, k⟩
  exact k _ h _ H (.refl H) re rh z
theorem act_none (C : Cn X N sc ow) (j : Nat) (hj : N[j]? = some y := by decide +kernel) (ho : ownB ow y = true := by decide +kernel) {k : Nat}
    {X' : Cx} (e1 : X'.N = X.N) (e2 : X'.env = X.env) (e3 : X'.fn = X.fn) : ActOk X' [.Assign [.Name y p2] (.Constant .none k p1) pos] (aNone j) := by
  obtain ⟨l, f⟩ := C.st y ho
  refine PSsimp (pss_one (ps_set (i := j) (by rw [e1, C.hN]; exact C.nd) (by rw [e1, C.hN]; exact hj) (by rw [e2]; exact l) pe_non (by rfl) (by rw [e2, e3]; exact f))) ?_
  rintro D σ H ⟨env, h, nx, re, rh, z, k⟩
  exact k _ h _ H (.refl H) (re.set j .non) rh z
end
/-! ### classes as values; isinstance of a caught exception -/
inductive ClsU (K : PySem.W.Frag) : Val → Value → Prop where
  | own {n : Str} {C : Addr} (g : nsIn K mainGlobals n = some (some (.ref C))) : ClsU K (.cls n) (.ref C)
  | ty (T : String) : ClsU K (.ty T) (.type T)
theorem ClsU.eq {K : PySem.W.Frag} {H : L2.Hp} {c : Val} {u w' : Value} {w : V} (k : ClsU K c u) (r : Rep K H c w) (rv : RelV w w') : w' = u := by
  cases k with
  | own g => cases r with
    | cls g' => rw [g] at g'; cases g'; exact rv
  | ty T => cases r; exact rv
theorem ClsU.all {K : PySem.W.Frag} {H : L2.Hp} : ∀ {cs : List Val} {us ws' : List Value} {ws : List V}, Paired (ClsU K) cs us → RepL K H cs ws → Vals ws ws' → ws' = us
  | _, _, _, _, .nil, .nil, .nil => rfl
  | _, _, _, _, .cons c k, .cons r q, .cons v t => by rw [c.eq r v, ClsU.all k q t]
/-- what the class at C must say, so that its exceptions may be asked -/
structure ExcK (K : PySem.W.Frag) (C : Addr) : Prop where
  cl : (clsIn K C).isSome = true
  ga : findIn K (.ref C) "__getattribute__" = some (some (.builtin "BaseException.__getattribute__"))
  gg : findIn K (.ref C) "__getattr__" = some none
  sb : subIn K (.ref C) (.type "BaseException") = some true
  ca : findIn K (.ref C) "__class__" = some (some (.builtin "object.__class__"))
  cn : specialIn K (.builtin "object.__class__") "__get__" = some (some (.builtin "getset_descriptor.__get__"))
  ct : takesIn K (.builtin "object.__class__") = some true
  cm : mroIn K C (.type "object") = some true
structure IsX (K : PySem.W.Frag) (cs : List Val) (all yes : List Str) : Prop where
  ex : ∃ us, Paired (ClsU K) cs us ∧ kitAny K (.type "NoneType") us = some false ∧ ∀ n ∈ all, ∀ C, nsIn K mainGlobals n = some (some (.ref C)) → ExcK K C ∧ kitAny K (.ref C) us = some (yes.contains n)
theorem kitOne_of {K : PySem.W.Frag} {t u : Value} {b : Bool} (e : kitAny K t [u] = some b) : kitOne K t u = some b := by
  unfold kitAny at e
  split at e
  · rename_i q; cases e; exact q
  · rename_i q; unfold kitAny at e; cases e; exact q
  · cases e
def fIsX (cv : Val) (all yes : List Str) : WF := fun vs h Q => match vs with
  | [.non, c] => c = cv ∧ Q (.bl false) h
  | [.exc n _ _, c] => c = cv ∧ all.contains n = true ∧ Q (.bl (yes.contains n)) h
  | _ => False
section
variable {X : Cx} {all yes : List Str} {cs : List Val}
/-- the object of a caught exception -/
theorem inst_of {pins : List (Addr × Obj)} {σ : L2.St} {H : L2.Hp} {s : Shared} (I : Inv X pins σ H s) {a C : Addr} {oe : Obj} {l : Array Value} {fs : List Str} {ws : List V} (e : H a = some (.frz oe xo)) (c : oe.cls = .ref C) (d : oe.data = .fields l) (f : FldAt H oe.dict fs ws) :
    ∃ od, InstAt s.heap a oe C od := by
  obtain ⟨h1, _⟩ := I.hok a _ e
  have hn : notCls oe = true := by unfold notCls; rw [d]
  rcases f with ⟨d0, _⟩ | ⟨dx, od, xs, d1, e2, _⟩
  · exact ⟨none, h1, c, hn, by rw [d0]; trivial⟩
  · obtain ⟨h2, _⟩ := I.hok dx _ e2
    exact ⟨some od, h1, c, hn, by rw [d1]; exact h2⟩
theorem cIsX1 {cv : Val} (F : IsX X.K [cv] all yes) : CallR X (.builtin "isinstance") (rCG X.K (fIsX cv all yes)) := by
  rintro pins s σ H xs us Q I rv ⟨vs, h, q, r, rh, w, k⟩
  obtain ⟨cu, hp, hN, hA⟩ := F.ex
  unfold fIsX at w
  split at w
  · obtain ⟨rfl, w⟩ := w
    obtain ⟨u, x, rfl, r1, r2⟩ := r.two
    cases r1
    obtain ⟨u1, u2, rfl, v1, v2⟩ := vals2 rv
    cases hp with
    | cons c1 hp =>
      cases hp
      have e2 := c1.eq r2 v2
      subst e2
      cases (show u1 = Value.none from v1)
      exact kia_one kitx_none I.kIn True.intro (kitOne_of hN) (fun z => nomatch z) fun tk => ⟨.bl false, H, I.tok tk, rfl, k _ _ h H (.refl H) rh (.bl _) w⟩
  · rename_i n fs vs c
    obtain ⟨rfl, ha, w⟩ := w
    obtain ⟨u, x, rfl, r1, r2⟩ := r.two
    obtain ⟨u1, u2, rfl, v1, v2⟩ := vals2 rv
    cases r1 with
    | exc g e c d f rl =>
      cases hp with
      | cons c1 hp =>
        cases hp
        have e2 := c1.eq r2 v2
        subst e2
        cases (show u1 = Value.ref _ from v1)
        obtain ⟨K1, e3⟩ := hA _ (List.contains_iff_mem.mp ha) _ g
        obtain ⟨od, J⟩ := inst_of I e c d f
        exact kia_one (kitx_exc K1.cl K1.ga K1.gg K1.sb K1.ca K1.cn K1.ct K1.cm) I.kIn J (kitOne_of e3) (fun z => nomatch z) fun tk => ⟨.bl _, H, I.tok tk, rfl, k _ _ h H (.refl H) rh (.bl _) w⟩
  · exact w.elim
theorem cIsXT (F : IsX X.K cs all yes) : CallR X (.builtin "isinstance") (rCG X.K (fIsX (.tup cs) all yes)) := by
  rintro pins s σ H xs us Q I rv ⟨vs, h, q, r, rh, w, k⟩
  obtain ⟨cu, hp, hN, hA⟩ := F.ex
  have tupAt : ∀ {x : V} {u2 : Value}, Rep X.K H (.tup cs) x → RelV x u2 → ∃ tp n sl, u2 = .ref tp ∧ s.heap.get? tp = some ⟨.type "tuple", none, .seq cu.toArray n, sl⟩ := fun {x u2} r2 v2 => by
    cases r2 with
    | @tup tp o _ ws e d rl =>
      cases (show u2 = Value.ref tp from v2)
      obtain ⟨h1, h2⟩ := I.hok tp _ e
      obtain ⟨_, its, rvs, ob, h3, h4, m, h5⟩ := h2
      rw [h1] at h3
      cases h3
      have e5 := ClsU.all hp rl rvs
      subst e5
      obtain ⟨oc, od, dt, sl⟩ := o
      simp only at h4 h5 d
      subst h4 h5 d
      exact ⟨tp, _, sl, rfl, h1⟩
  unfold fIsX at w
  split at w
  · obtain ⟨rfl, w⟩ := w
    obtain ⟨u, x, rfl, r1, r2⟩ := r.two
    cases r1
    obtain ⟨u1, u2, rfl, v1, v2⟩ := vals2 rv
    cases (show u1 = Value.none from v1)
    obtain ⟨tp, m, sl, rfl, ht⟩ := tupAt r2 v2
    exact kia_tup kitx_none I.kIn True.intro ht hN (fun z => nomatch z) fun tk => ⟨.bl false, H, I.tok tk, rfl, k _ _ h H (.refl H) rh (.bl _) w⟩
  · rename_i n fs vs c
    obtain ⟨rfl, ha, w⟩ := w
    obtain ⟨u, x, rfl, r1, r2⟩ := r.two
    obtain ⟨u1, u2, rfl, v1, v2⟩ := vals2 rv
    cases r1 with
    | exc g e c d f rl =>
      cases (show u1 = Value.ref _ from v1)
      obtain ⟨tp, m, sl, rfl, ht⟩ := tupAt r2 v2
      obtain ⟨K1, e3⟩ := hA _ (List.contains_iff_mem.mp ha) _ g
      obtain ⟨od, J⟩ := inst_of I e c d f
      exact kia_tup (kitx_exc K1.cl K1.ga K1.gg K1.sb K1.ca K1.cn K1.ct K1.cm) I.kIn J ht e3 (fun z => nomatch z) fun tk => ⟨.bl _, H, I.tok tk, rfl, k _ _ h H (.refl H) rh (.bl _) w⟩
  · exact w.elim
end
section
variable {X : Cx} {N : List Str} {sc ow : Scope} {x : Str} {pos : Pos}
theorem ge_cls (C : Cn X N sc ow) {A : Addr} (g : nsIn X.K mainGlobals x = some (some (.ref A))) (hm : X.mg x = some (.ref A)) (hg : glbB sc x = true := by decide +kernel) (hd : (x == ("__debug__" : Str)) = false := by decide +kernel) : GE X (.Name x pos) (wC (.cls x)) := by
  refine ⟨PEimp (pe_glob (v := .ref A) (C.gl hg) hm rfl hd) ?_⟩
  rintro σ H Q ⟨env, h, q, E, re, rh, tk, w, k⟩
  exact k _ _ h H (.refl H) rh (.cls g) w
end
/-! ### fields of a caught exception -/
def AtX (K : PySem.W.Frag) (f : Str) (all : List Str) : Prop := ∀ n ∈ all, ∀ C, nsIn K mainGlobals n = some (some (.ref C)) → XfC K C ∧ findIn K (.ref C) f = some none
def wAttr (f : Str) (all : List Str) (We : WE) : WE := fun env h Q E => We env h (fun v h1 => match v with
  | .exc n fs vs => all.contains n = true ∧ ∃ (i : Nat) (u : Val), fs[i]? = some f ∧ vs[i]? = some u ∧ Q u h1
  | _ => False) E
section
variable {X : Cx} {e : Expr} {f : Str} {all : List Str} {We : WE} {pos : Pos}
theorem ge_attr (F : AtX X.K f all) (he : GE X e We) (hb : attributeBase e f X.env (eval e X.env) = eval e X.env := by rfl) : GE X (.Attribute e f pos) (wAttr f all We) := by
  refine ⟨⟨fun pins s σ H Q I hq => ?_⟩⟩
  obtain ⟨env, h, q, E, re, rh, tk, w, kk⟩ := hq
  refine attr_of hb (thn (he.pe.run pins s σ H (fun v H1 => ∃ x h1, TExt H H1 ∧ RepH X.K H1 h1 ∧ Rep X.K H1 x v ∧ (match x with
    | .exc n fs vs => all.contains n = true ∧ ∃ (i : Nat) (u : Val), fs[i]? = some f ∧ vs[i]? = some u ∧ q u h1
    | _ => False)) I ⟨env, h, _, E, re, rh, tk, w, fun v u h1 H1 t1 rh1 r1 w1 => ⟨v, h1, t1, rh1, r1, w1⟩⟩) fun u s1 hh => ?_)
  obtain ⟨v, H1, I1, rv, x, h1, t1, rh1, r1, w1⟩ := hh
  split at w1
  · rename_i n fs vs
    obtain ⟨ha, i, y, ef, ev, w1⟩ := w1
    cases r1 with
    | @exc a C oe l _ _ _ ws g e c d fl rl =>
      cases (show u = Value.ref a from rv)
      obtain ⟨K1, nf⟩ := F _ (List.contains_iff_mem.mp ha) _ g
      obtain ⟨h2, _⟩ := I1.hok a _ e
      obtain ⟨z, ez, rz⟩ := rl.get ev
      rcases fl with ⟨_, f0, _⟩ | ⟨dx, od, xs, d1, e2, l1, l2⟩
      · rw [f0] at ef; cases ef
      · have lk := l2 i f z ef ez
        obtain ⟨h3, h4⟩ := I1.hok dx _ e2
        obtain ⟨mA, hns, hr⟩ := (show ObjOk X.prog X.w H1 s1.heap dx (.xd xs) from h4)
        obtain ⟨od2, ho, hl⟩ := lookIn_ns hns
        obtain ⟨u, hu, ru⟩ := RelO.some_of (v := z) (o := mA f) (by rw [← lk]; exact hr f)
        have J : InstAt s1.heap a oe C (some od2) := ⟨h2, c, by unfold notCls; rw [d], by rw [d1]; exact ho⟩
        exact HandSPX.exc_get I1.kIn J K1.ga K1.gg K1.exC (findObj_own K1.hdC nf rfl (by rw [hl, hu])) (handed_of ru) ⟨z, H1, I1.tok _, ru, kk _ _ h1 H1 t1 rh1 rz w1⟩
  · exact w1.elim
end
end G

set_option Elab.async false
set_option linter.all false
set_option maxRecDepth 100000
set_option maxHeartbeats 4000000
namespace G
open PySem PySem.Spec PySem.W L2
open PyProof.Rows hiding St
theorem as_yes {X : Cx} {N : List Str} {sc ow : Scope} {n : Str} (C : Cn X N sc ow) (i : Nat) (hi : N[i]? = some n := by decide +kernel) (hl : sc.names.lookup n = some .local := by decide +kernel) : AsOk X (some n) (some i) :=
  .yes (by rw [C.hN]; exact hi) (by show X.env.scope.names.lookup n = _; rw [C.hs]; exact hl)
theorem names_of {X : Cx} {N : List Str} {sc ow : Scope} {n : Str} {A : Addr} (C : Cn X N sc ow) (hm : X.mg n = some (.ref A)) (hg : glbB sc n = true := by decide +kernel) (hd : (n == ("__debug__" : Str)) = false := by decide +kernel) : Names X n (.ref A) := ⟨C.gl hg, hd, .inl hm⟩
/-- the body of a class's first def -/
def clsDef (st : Stmt) : Stmt := match st with
  | .ClassDef _ _ _ b _ _ _ _ _ _ _ => b.getD 0 (.Pass ⟨0, 0, 0, 0⟩)
  | s => s
/-- an own exception that may be raised -/
structure RzK (P : Program) (w : World) (K : PySem.W.Frag) (mg : Str → Option Value) (base : Heap) (n : Str) (fs : List Str) : Prop where
  ex : ∃ (B newId initId : String) (bmB : List Value) (C fI : Addr) (fd : FuncData) (ps : List Str), OexG K C B newId initId bmB ∧ nsIn K mainGlobals n = some (some (.ref C)) ∧ mg n = some (.ref C) ∧ findIn K (.ref C) "__init__" = some (some (.ref fI)) ∧ typeIn K (.ref fI) = some (.type "function") ∧
    FnOk P w K mg base (L2.CX P w) 1 fI fd ps (spI K C B newId initId bmB fs) ∧ Binds K fd ps [] ∧ ∀ f ∈ fs, takerIn K C f = some none
theorem gs_raiseK {X : Cx} {N : List Str} {sc ow : Scope} {e : Expr} {es : List Expr} {p pos pos2 : Pos} {Wr : WA} {n : Str} {fs : List Str} {k : Nat} (Cn' : Cn X N sc ow) (hr : Room k X.A) (R : RzK X.prog X.w X.K X.mg X.base n fs) (ha : GA X (e :: es) Wr) (hk : 2 ≤ k := by decide)
    (nd : fs.Nodup := by decide +kernel) (l2 : fs.length ≤ 2 := by decide) (hg : glbB sc n = true := by decide +kernel) (hdb : (n == ("__debug__" : Str)) = false := by decide +kernel)
    (he : starEach (e :: es) X.env = (false, eval e X.env) :: starEach es X.env := by rfl) (hpl : (backTo pos (starEach es X.env)).any (·.1) = false := by rfl) :
    GS X (.Raise (some (.Call (.Name n p) (e :: es) [] pos)) none pos2) (wRaise n fs Wr) := by
  obtain ⟨B, newId, initId, bmB, C, fI, fd, ps, T, g, hm, iC, tI, F1, hb, ht⟩ := R.ex
  exact gs_raise Cn' T g hm iC tI F1 (hr.mono hk) hb ht ha nd l2 hg hdb he hpl
section
variable {P : Program} {w : World} {K : PySem.W.Frag} {mg : Str → Option Value} {base h : Heap} {n f g q : Str} {C fI : Addr} {B newId initId : String} {bmB : List Value} {st : Stmt} {oc : Value} {od : Option Addr} {dV kV doc pm : Value} {an : Option Addr} {cdv ct : Value} {osl : Array (Option Value)} {q1 q2 q3 q4 r1 r2 r3 r4 : Pos}
theorem rzk1 (X : K.In h) (G : h.Ns mainGlobals mg) (F : ExcBaseFacts B newId initId bmB) (SF : StoreFacts B bmB "object.__setattr__" "object") (a : nsIn K mainGlobals n = some (some (.ref C))) (i : excInitIn K C bmB newId = true) (o : excOver K C bmB = true) (hd : hasDictIn K C = true)
    (sa : findIn K (.ref C) "__setattr__" = some (some (.builtin "object.__setattr__"))) (ex : subIn K (.ref C) (.type "BaseException") = some true) (ty : typeIn K (.ref C) = some (.type "type")) (kp : keepIn K (.ref C) = true)
    (iC : findIn K (.ref C) "__init__" = some (some (.ref fI))) (tI : typeIn K (.ref fI) = some (.type "function")) (t1 : takerIn K C f = some none)
    (l : K.lookup fI = some ⟨oc, od, .func (PySem.W.fnOf "__init__" q (L2.defArgs st) (L2.defBody st) (L2.defScope st) dV kV doc pm an cdv ct), osl⟩) (c : codeIn K cdv q = true)
    (S : FnScope ["self", f] ["self", f] (L2.defScope st)) (hb : L2.defBody st = [.Assign [.Attribute (.Name "self" q1) f q2] (.Name f q3) q4]) (hdb : ((f == ("__debug__" : Str)) || (f == ("__classdict__" : Str))) = false)
    (hB : ∀ us : List Value, us.length = 2 → bindArgs (PySem.W.fnOf "__init__" q (L2.defArgs st) (L2.defBody st) (L2.defScope st) dV kV doc pm an cdv ct) ⟨us, []⟩ = pure ((["self", f] : List Str).zip us)) : RzK P w K mg base n [f] :=
  ⟨B, newId, initId, bmB, C, fI, _, ["self", f], ⟨F, SF, i, o, hd, sa, ex, ty, kp⟩, a, PySem.W.mg_of X G a, iC, tI, init1 l c S hb hdb, Binds.all hB, fun x hx => by rw [List.mem_singleton] at hx; rw [hx]; exact t1⟩
theorem rzk2 (X : K.In h) (G : h.Ns mainGlobals mg) (F : ExcBaseFacts B newId initId bmB) (SF : StoreFacts B bmB "object.__setattr__" "object") (a : nsIn K mainGlobals n = some (some (.ref C))) (i : excInitIn K C bmB newId = true) (o : excOver K C bmB = true) (hd : hasDictIn K C = true)
    (sa : findIn K (.ref C) "__setattr__" = some (some (.builtin "object.__setattr__"))) (ex : subIn K (.ref C) (.type "BaseException") = some true) (ty : typeIn K (.ref C) = some (.type "type")) (kp : keepIn K (.ref C) = true)
    (iC : findIn K (.ref C) "__init__" = some (some (.ref fI))) (tI : typeIn K (.ref fI) = some (.type "function")) (t1 : takerIn K C f = some none) (t2 : takerIn K C g = some none)
    (l : K.lookup fI = some ⟨oc, od, .func (PySem.W.fnOf "__init__" q (L2.defArgs st) (L2.defBody st) (L2.defScope st) dV kV doc pm an cdv ct), osl⟩) (c : codeIn K cdv q = true)
    (S : FnScope ["self", f, g] ["self", f, g] (L2.defScope st)) (hb : L2.defBody st = [.Assign [.Attribute (.Name "self" q1) f q2] (.Name f q3) q4, .Assign [.Attribute (.Name "self" r1) g r2] (.Name g r3) r4]) (hdb : ((f == ("__debug__" : Str)) || (f == ("__classdict__" : Str))) = false) (hdb2 : ((g == ("__debug__" : Str)) || (g == ("__classdict__" : Str))) = false)
    (hB : ∀ us : List Value, us.length = 3 → bindArgs (PySem.W.fnOf "__init__" q (L2.defArgs st) (L2.defBody st) (L2.defScope st) dV kV doc pm an cdv ct) ⟨us, []⟩ = pure ((["self", f, g] : List Str).zip us)) : RzK P w K mg base n [f, g] :=
  ⟨B, newId, initId, bmB, C, fI, _, ["self", f, g], ⟨F, SF, i, o, hd, sa, ex, ty, kp⟩, a, PySem.W.mg_of X G a, iC, tI, init2 l c S hb hdb hdb2, Binds.all hB, fun x hx => by
    rcases List.mem_cons.mp hx with rfl | hx
    · exact t1
    · rw [List.mem_singleton] at hx; rw [hx]; exact t2⟩
end
theorem cls_some {K : PySem.W.Frag} {C : Addr} (h : hasDictIn K C = true) : (clsIn K C).isSome = true := by
  obtain ⟨cd, hc, _⟩ := any_some h
  rw [hc]; rfl
/-! facts, class by class -/
def IsXu (K : PySem.W.Frag) (us : List Value) (all yes : List Str) : Prop := ∀ n ∈ all, ∀ C, nsIn K mainGlobals n = some (some (.ref C)) → ExcK K C ∧ kitAny K (.ref C) us = some (yes.contains n)
theorem IsXu.nil {K : PySem.W.Frag} {us : List Value} {yes : List Str} : IsXu K us [] yes := fun n h => by cases h
theorem IsXu.cons {K : PySem.W.Frag} {us : List Value} {all yes : List Str} {n : Str} {C : Addr} {b : Bool} (g : nsIn K mainGlobals n = some (some (.ref C))) (k : ExcK K C) (e : kitAny K (.ref C) us = some b) (r : IsXu K us all yes) (hb : yes.contains n = b := by decide +kernel) : IsXu K us (n :: all) yes := fun m hm C' g' => by
  rcases List.mem_cons.mp hm with rfl | hm
  · rw [g] at g'; cases g'; rw [hb]; exact ⟨k, e⟩
  · exact r m hm C' g'
theorem AtX.nil {K : PySem.W.Frag} {f : Str} : AtX K f [] := fun n h => by cases h
theorem AtX.cons {K : PySem.W.Frag} {f : Str} {all : List Str} {n : Str} {C : Addr} (g : nsIn K mainGlobals n = some (some (.ref C))) (k : ExcK K C) (hd : hasDictIn K C = true) (nf : findIn K (.ref C) f = some none) (r : AtX K f all) : AtX K f (n :: all) := fun m hm C' g' => by
  rcases List.mem_cons.mp hm with rfl | hm
  · rw [g] at g'; cases g'; exact ⟨⟨k.ga, k.gg, k.sb, hd⟩, nf⟩
  · exact r m hm C' g'
end G

set_option Elab.async false
set_option linter.all false
set_option maxRecDepth 100000
set_option maxHeartbeats 4000000
/-! suites of except clauses in general: statements of which none leaves the suite -/
namespace G
open PySem PySem.Spec PySem.W L2
open PyProof.Rows hiding St
def aDo (S : WS) : Env' → Hg → (Env' → Hg → Prop) → Prop := fun env h nx => S ⟨nx, fun _ _ => False, fun _ _ _ => False, fun _ _ => False, fun _ _ => False⟩ env h
section
variable {X : Cx} {N : List Str} {sc ow : Scope} {pos : Pos}
theorem act_do {stmts : List Stmt} {S : WS} (g : GSs X stmts S) : ActOk X stmts (aDo S) := by
  unfold ActOk
  refine PSsimp g.ps ?_
  rintro D σ H ⟨env, h, nx, re, rh, z, k⟩
  exact ⟨env, h, _, re, rh, takes_none5.imp (fun _ _ _ _ ⟨_, _, _, _, _, _, _, z⟩ => z), z, k, fun _ _ _ _ _ _ _ z => z.elim, fun _ _ _ _ _ _ _ z => z.elim, fun _ _ _ _ _ _ _ z => z.elim⟩
theorem ge_varS (hNX : X.N = N) (hs : X.env.scope = sc) (i : Nat) {x : Str} (hN : N[i]? = some x := by decide +kernel) (hv : visB sc x = true := by decide +kernel) (hd : ((x == ("__debug__" : Str)) || (x == ("__classdict__" : Str))) = false := by decide +kernel) : GE X (.Name x pos) (wVar i) := by
  rw [Bool.or_eq_false_iff] at hd
  refine ⟨PEimp (pe_var (by rw [hNX]; exact hN) (by rw [hs]; exact vis_of hv) hd.1 hd.2) ?_⟩
  rintro σ H Q ⟨env, h, q, E, re, rh, tk, w, k⟩
  unfold wVar at w
  split at w
  · rename_i v e
    obtain ⟨u, e1, r⟩ := re.2 i v e
    exact ⟨u, e1, k v u h H (.refl H) rh r w⟩
  · exact w.elim
theorem x_aDo {S : WS} {env : Env'} {h : Hg} {nx : Env' → Hg → Prop} (k : S ⟨nx, fun _ _ => False, fun _ _ _ => False, fun _ _ => False, fun _ _ => False⟩ env h) : aDo S env h nx := k
end
end G

set_option Elab.async false
set_option linter.all false
set_option maxRecDepth 100000
set_option maxHeartbeats 4000000
/-! isinstance of data with a tuple of built-in types -/
namespace G
open PySem PySem.Spec PySem.W L2
open PyProof.Rows hiding St
def tysOf : List Val → Option (List String)
  | [] => some []
  | .ty n :: r => (tysOf r).map (n :: ·)
  | _ => none
theorem tysOf_eq : ∀ {xs : List Val} {ns : List String}, tysOf xs = some ns → xs = ns.map Val.ty
  | [], _, e => by cases e; rfl
  | x :: r, ns, e => by
    cases x <;> first | (cases e; done) | skip
    rename_i i
    have e' : (tysOf r).map (i :: ·) = some ns := e
    cases q : tysOf r with
    | none => rw [q] at e'; cases e'
    | some ms =>
      rw [q] at e'
      cases e'
      rw [tysOf_eq q]
      rfl
def fIsInstT : WF := fun vs h Q => match vs with
  | [v, .tup cs] => onSome (tysOf cs) fun ns => (ns.all fun T => tysB.contains T) = true ∧ onSome (tyN h v) fun n => Q (.bl (ns.any fun T => isT n T)) h
  | _ => False
theorem kitAny_tys {K : PySem.W.Frag} {n : String} (hn : n ∈ tysA) : ∀ {ns : List String}, (ns.all fun T => tysB.contains T) = true → kitAny K (.type n) (ns.map Value.type) = some (ns.any fun T => isT n T)
  | [], _ => rfl
  | T :: r, h => by
    rw [List.all_cons, Bool.and_eq_true] at h
    have e := kit_ty (K := K) (isT_of hn (List.contains_iff_mem.mp h.1))
    have ih := kitAny_tys (K := K) hn h.2
    rw [List.map_cons, List.any_cons]
    refine kitAny_cons e (fun hb => ?_) (fun hb => ?_)
    · rw [hb, Bool.false_or]; exact ih
    · rw [hb, Bool.true_or]
theorem tys_vals {K : PySem.W.Frag} {H : L2.Hp} : ∀ {ns : List String} {ws : List V} {us : List Value}, RepL K H (ns.map Val.ty) ws → Vals ws us → us = ns.map Value.type
  | [], _, _, .nil, .nil => rfl
  | n :: ns, _, _, .cons r q, .cons v t => by
    cases r
    have e : _ = Value.type n := v
    rw [e, tys_vals q t]
    rfl
section
variable {X : Cx}
theorem cIsInstT : CallR X (.builtin "isinstance") (rCG X.K fIsInstT) := by
  rintro pins s σ H xs us Q I rv ⟨vs, h, q, r, rh, w, k⟩
  unfold fIsInstT at w
  split at w
  · rename_i v cs
    obtain ⟨ns, en, hb, w1⟩ := onSome_of w
    obtain ⟨n, et, w2⟩ := onSome_of w1
    have ec := tysOf_eq en
    subst ec
    obtain ⟨u, x, rfl, r1, r2⟩ := r.two
    obtain ⟨u1, u2, rfl, v1, v2⟩ := vals2 rv
    obtain ⟨hn, ty⟩ := tyN_ok rh r1 et
    obtain ⟨P, Z, p, hx⟩ := kit_of I v1 ty
    cases r2 with
    | @tup tp o _ ws e d rl =>
      cases (show u2 = Value.ref tp from v2)
      obtain ⟨h1, h2⟩ := I.hok tp _ e
      obtain ⟨_, its, rvs, ob, h3, h4, m, h5⟩ := h2
      rw [h1] at h3
      cases h3
      have e5 := tys_vals rl rvs
      subst e5
      obtain ⟨oc, od, dt, sl⟩ := o
      simp only at h4 h5 d
      subst h4 h5 d
      exact kia_tup Z I.kIn p h1 (kitAny_tys hn hb) hx fun tk => ⟨.bl _, H, I.tok tk, rfl, k _ _ h H (.refl H) rh (.bl _) w2⟩
  · exact w.elim
theorem x_isinstT {h : Hg} {v : Val} {Q : KV} {cs : List Val} {ns : List String} {t : String} (ec : tysOf cs = some ns) (e : tyN h v = some t) (hb : (ns.all fun T => tysB.contains T) = true) (k : Q (.bl (ns.any fun T => isT t T)) h) : fIsInstT [v, .tup cs] h Q := by
  show onSome (tysOf cs) _
  rw [ec]
  refine ⟨hb, ?_⟩
  rw [e]; exact k
end
end G

set_option Elab.async false
set_option linter.all false
set_option maxRecDepth 100000
set_option maxHeartbeats 4000000
/-! instances of the program's own classes: fields, methods, making -/
namespace G
open PySem PySem.Spec PySem.W L2
open PyProof.Rows hiding St
def putG (f : Str) (v : Val) : List (Str × Val) → List (Str × Val)
  | [] => [(f, v)]
  | (g, x) :: r => if g = f then (g, v) :: r else (g, x) :: putG f v r
section
variable {K : PySem.W.Frag} {H : L2.Hp} {f : Str} {v : Val} {w : V}
theorem RepF.len : ∀ {fs : List (Str × Val)} {ws : List (Str × V)}, RepF K H fs ws → fs.length = ws.length := fun {fs ws} r => by
  have := congrArg List.length r.1
  rw [List.length_map, List.length_map] at this
  exact this
theorem RepF.put : ∀ {fs : List (Str × Val)} {ws : List (Str × V)}, RepF K H fs ws → Rep K H v w → RepF K H (putG f v fs) (putF f w ws)
  | [], [], _, r => ⟨rfl, .cons r .nil⟩
  | [], _ :: _, q, _ => by have := q.1; cases this
  | _ :: _, [], q, _ => by have := q.1; cases this
  | (g, x) :: fs, (g', x') :: ws, q, r => by
    obtain ⟨e, l⟩ := q
    have e1 : g = g' := by have := List.cons.inj e; exact this.1
    have e2 : fs.map (·.1) = ws.map (·.1) := (List.cons.inj e).2
    subst e1
    cases l with
    | cons l0 l =>
      show RepF K H (if g = f then (g, v) :: fs else (g, x) :: putG f v fs) (if g = f then (g, w) :: ws else (g, x') :: putF f w ws)
      by_cases h : g = f
      · rw [if_pos h, if_pos h]
        exact ⟨by show g :: _ = g :: _; rw [e2], .cons r l⟩
      · rw [if_neg h, if_neg h]
        obtain ⟨i1, i2⟩ := RepF.put (fs := fs) (ws := ws) ⟨e2, l⟩ r
        exact ⟨by show g :: _ = g :: _; rw [i1], .cons l0 i2⟩
theorem RepF.look : ∀ {fs : List (Str × Val)} {ws : List (Str × V)}, RepF K H fs ws → fs.lookup f = some v → ∃ w, ws.lookup f = some w ∧ Rep K H v w
  | [], _, _, e => by cases e
  | _ :: _, [], q, _ => by have := q.1; cases this
  | (g, x) :: fs, (g', x') :: ws, q, e => by
    obtain ⟨e0, l⟩ := q
    have e1 : g = g' := (List.cons.inj e0).1
    have e2 : fs.map (·.1) = ws.map (·.1) := (List.cons.inj e0).2
    subst e1
    cases l with
    | cons l0 l =>
      simp only [List.lookup] at e ⊢
      split at e
      · rename_i hq
        cases e
        exact ⟨x', rfl, l0⟩
      · rename_i hq
        obtain ⟨w, a, b⟩ := RepF.look (fs := fs) (ws := ws) ⟨e2, l⟩ e
        exact ⟨w, a, b⟩
theorem RepF.none : ∀ {fs : List (Str × Val)} {ws : List (Str × V)}, RepF K H fs ws → fs.lookup f = none → ws.lookup f = none
  | [], [], _, _ => rfl
  | [], _ :: _, q, _ => by have := q.1; cases this
  | _ :: _, [], _, _ => rfl
  | (g, x) :: fs, (g', x') :: ws, q, e => by
    obtain ⟨e0, l⟩ := q
    have e1 : g = g' := (List.cons.inj e0).1
    have e2 : fs.map (·.1) = ws.map (·.1) := (List.cons.inj e0).2
    subst e1
    cases l with
    | cons l0 l =>
      simp only [List.lookup] at e ⊢
      split at e
      · cases e
      · rename_i hq
        exact RepF.none (fs := fs) (ws := ws) ⟨e2, l⟩ e
end
def insAt (h : Hg) (a : Addr) : Option (Str × List (Str × Val)) := match h a with
  | some (.ins n fs) => some (n, fs)
  | _ => none
def onIns (h : Hg) (n : Str) (v : Val) (k : Addr → List (Str × Val) → Prop) : Prop := match v with
  | .ref a => match insAt h a with
    | some (m, fs) => m = n ∧ k a fs
    | none => False
  | _ => False
theorem insAt_eq {h : Hg} {a : Addr} {n : Str} {fs : List (Str × Val)} (e : insAt h a = some (n, fs)) : h a = some (.ins n fs) := by
  unfold insAt at e
  split at e
  · rename_i q; cases e; exact q
  · cases e
theorem insAt_of {h : Hg} {a : Addr} {n : Str} {fs : List (Str × Val)} (e : h a = some (.ins n fs)) : insAt h a = some (n, fs) := by
  unfold insAt; rw [e]
theorem onIns_of {h : Hg} {n : Str} {v : Val} {k : Addr → List (Str × Val) → Prop} (w : onIns h n v k) : ∃ a fs, v = .ref a ∧ h a = some (.ins n fs) ∧ k a fs := by
  unfold onIns at w
  split at w
  · split at w
    · rename_i q
      obtain ⟨rfl, w⟩ := w
      exact ⟨_, _, rfl, insAt_eq q, w⟩
    · exact w.elim
  · exact w.elim
theorem ins_of {K : PySem.W.Frag} {H : L2.Hp} {h : Hg} (rh : RepH K H h) {a : Addr} {w : V} {n : Str} {fs : List (Str × Val)} (r : Rep K H (.ref a) w) (e : h a = some (.ins n fs)) :
    w = .ref a ∧ ∃ (C dx : Addr) (ws : List (Str × V)), nsIn K mainGlobals n = some (some (.ref C)) ∧ H a = some (.ins C dx ws) ∧ RepF K H fs ws := by
  cases r
  exact ⟨rfl, rh a _ e⟩
theorem TExt.ins {H : L2.Hp} {p C dx : Addr} {ws : List (Str × V)} {o : HO} (e : H p = some (.ins C dx ws)) : TExt H (upd H p o) :=
  ⟨fun a ob u q => by rw [upd_ne (fun z => by rw [z, e] at q; cases q)]; exact q, fun a u q => by rw [upd_ne (fun z => by rw [z, e] at q; unfold LamX.CodeO at q; cases q)]; exact q⟩
theorem RepF.up {K : PySem.W.Frag} {H H' : L2.Hp} {fs : List (Str × Val)} {ws : List (Str × V)} (r : RepF K H fs ws) (t : TExt H H') : RepF K H' fs ws := ⟨r.1, r.2.up t⟩
/-- an instance's fields written -/
theorem RepH.setI {K : PySem.W.Frag} {H : L2.Hp} {h : Hg} {p C dx : Addr} {n : Str} {fs : List (Str × Val)} {us ws : List (Str × V)} (r : RepH K H h) (e0 : H p = some (.ins C dx us)) (g : nsIn K mainGlobals n = some (some (.ref C))) (s : RepF K H fs ws) : RepH K (upd H p (.ins C dx ws)) (put h p (.ins n fs)) := fun b u e => by
  by_cases q : b = p
  · subst q; rw [put_same] at e; cases e
    exact ⟨C, dx, ws, g, upd_same, s.up (TExt.ins e0)⟩
  · rw [put_ne q] at e
    exact (r b u e).up (TExt.ins e0) (upd_ne q)
/-! ### fields -/
/-- what the class n says of the field f -/
def InsK (K : PySem.W.Frag) (n f : Str) : Prop := ∀ C, nsIn K mainGlobals n = some (some (.ref C)) → Cls K C ∧ NoAttr K C f
def wFld (n f : Str) (We : WE) : WE := fun env h Q E => We env h (fun v h1 => onIns h1 n v fun _ fs => onSome (fs.lookup f) fun u => Q u h1) E
def wSetF (n f : Str) (Wo We : WE) : WS := fun D env h => We env h (fun v h1 => Wo env h1 (fun o h2 => onIns h2 n o fun a fs => fs.length < 1000 ∧ D.nx env (put h2 a (.ins n (putG f v fs)))) (fun x h' => D.ex x env h')) (fun x h' => D.ex x env h')
section
variable {X : Cx} {N : List Str} {sc ow : Scope} {o e : Expr} {es : List Expr} {n f m x : Str} {p pos p2 apos : Pos} {Wo We : WE} {Wr : WA}
theorem ge_fld (F : InsK X.K n f) (he : GE X e We) (hb : attributeBase e f X.env (eval e X.env) = eval e X.env := by rfl) : GE X (.Attribute e f pos) (wFld n f We) := by
  refine ⟨PEimp (pe_fld he.pe hb) ?_⟩
  rintro σ H Q ⟨env, h, q, E, re, rh, tk, w, k⟩
  refine ⟨env, h, _, E, re, rh, tk, w, fun v u h1 H1 t1 rh1 r1 w1 => ?_⟩
  obtain ⟨a, fs, rfl, ea, w1⟩ := onIns_of w1
  obtain ⟨z, ez, w1⟩ := onSome_of w1
  obtain ⟨rfl, C, dx, ws, g, eH, rf⟩ := ins_of rh1 r1 ea
  obtain ⟨c, na⟩ := F C g
  obtain ⟨zw, el, rz⟩ := rf.look ez
  exact ⟨a, C, dx, ws, zw, rfl, eH, c, na, el, k _ _ h1 H1 t1 rh1 rz w1⟩
theorem gs_setF (F : InsK X.K n f) (ho : GE X o Wo) (he : GE X e We) (hs : swapsWith e (some (.Attribute o f p2)) pos.line X.env = pure false := by rfl) : GS X (.Assign [.Attribute o f p2] e pos) (wSetF n f Wo We) := by
  refine ⟨PSimp (ps_fld ho.pe he.pe hs) ?_⟩
  rintro D σ H ⟨env, h, d, re, rh, tk, w, kn, kr, kb, kc⟩
  have tkE := takesE re tk
  refine ⟨env, h, _, _, re, rh, tkE, w, fun v u h1 H1 t1 rh1 r1 w1 => ?_⟩
  refine ⟨env, h1, _, _, re.up t1, rh1, takesUp t1 tkE, w1, fun vo wo h2 H2 t2 rh2 r2 w2 => ?_⟩
  obtain ⟨a, fs, rfl, ea, hl, w2⟩ := onIns_of w2
  obtain ⟨rfl, C, dx, ws, g, eH, rf⟩ := ins_of rh2 r2 ea
  obtain ⟨c, na⟩ := F C g
  refine ⟨a, C, dx, ws, rfl, eH, c, na, by rw [← rf.len]; exact hl, ?_⟩
  have t3 := (t1.trans t2).trans (TExt.ins (o := .ins C dx (putF f u ws)) eH)
  exact kn env _ σ _ t3 (re.up t3) (rh2.setI eH g (rf.put (r1.up t2))) w2
/-! ### methods -/
/-- how a method of the class n stands for its callers; na: self and the positional arguments -/
structure CalM (P : Program) (w : World) (K : PySem.W.Frag) (mg : Str → Option Value) (base : Heap) (k : Nat) (n m : Str) (na : Nat) (gi : List Nat) (sp : Spec) : Prop where
  ex : ∃ f fd ps, (∀ C, nsIn K mainGlobals n = some (some (.ref C)) → Cls K C ∧ Meth K C m f) ∧ GFn P w K mg base k f fd ps sp ∧
    ∀ (s : Shared) (us : List Value), K.In s.heap → us.length = na → BindsTo s fd ⟨us, []⟩ (ps.zip (perm gi us))
theorem CalM.mono {P : Program} {w : World} {K : PySem.W.Frag} {mg : Str → Option Value} {base : Heap} {j k : Nat} {n m : Str} {na : Nat} {gi : List Nat} {sp : Spec} (c : CalM P w K mg base j n m na gi sp) (h : j ≤ k) : CalM P w K mg base k n m na gi sp :=
  let ⟨f, fd, ps, a, b, c⟩ := c.ex
  ⟨f, fd, ps, a, b.mono h, c⟩
theorem run_gfn {pins : List (Addr × Obj)} {σ : L2.St} {H : L2.Hp} {s : Shared} {Q : VK} {us : List Value} {vs : List V} {as : List Val} {h : Hg} {q : KV} {E : KX} {k : Nat} {f : Addr} {fd : FuncData} {ps : List Str} {sp : Spec} {gi : List Nat}
    (F : GFn X.prog X.w X.K X.mg X.base k f fd ps sp) (hr : Room k X.A) (hg : X.A.guards = some []) (I : Inv X pins σ H s) (r : Vals vs us) (hb : BindsTo s fd ⟨us, []⟩ (ps.zip (perm gi us))) (ra : RepL X.K H as vs) (rh : RepH X.K H h)
    (tk : Takes X (XW X.K H σ E)) (w : sp (perm gi as) h q E) (cont : ContE X.K H q Q) : wpAny (model X.prog X.w) X.A (call (.ref f) us) (EP X pins σ Q) X.xe s := by
  refine wpAny_call (codeAny_mono (F.run X.A X.stack s H ⟨us, []⟩ (perm gi us) (perm gi vs) Q (fun cls d H' => XW X.K H σ E cls d σ H') hg hr I.env0 hb (perm_vals r gi)
    ⟨perm gi as, h, q, E, perm_rep ra gi, rh, w, cont, fun x h' H' cls d t rh' rx z => ⟨rfl, x, h', t, rh', rx, z⟩⟩) fun r s' hq => ?_)
  cases r with
  | error e =>
    exact tk _ _ (XE.of_call (E := fun cls d H' => XW X.K H σ E cls d σ H') (W := XW X.K H σ E) I (fun cls d H' z => z) hq)
  | ok fl =>
    cases fl with
    | ret u => exact I.after hq
    | next => exact False.elim hq
    | brk => exact False.elim hq
    | cont => exact False.elim hq
def wMeth (n m : Str) (sp : Spec) (na : Nat) (gi : List Nat) (Wo : WE) (Wr : WA) : WE := fun env h Q E => Wo env h (fun v h1 => onIns h1 n v fun a fs => fs.lookup m = none ∧ Wr env h1 (fun vs h2 => vs.length + 1 = na ∧ sp (perm gi (.ref a :: vs)) h2 Q E) E) E
theorem ge_meth {k na : Nat} {gi : List Nat} {sp : Spec} {pl : Sem Bool} (C : Cn X N sc ow) (hr : Room k X.A) (c : CalM X.prog X.w X.K X.mg X.base k n m na gi sp) (ho : GE X o Wo) (ha : GA X (e :: es) Wr)
    (hst : starEach (e :: es) X.env = (false, eval e X.env) :: starEach es X.env := by rfl) (hpl : (backTo pos (starEach es X.env)).any (·.1) = false := by rfl)
    (ht : eval (.Call (.Attribute o m apos) (e :: es) [] pos) X.env = (do
      let ov ← eval o X.env
      standAt apos.atName
      let (f, first) ← holding [ov] (getMethod ov m pl)
      callWith pos f first (backTo pos (starEach (e :: es) X.env)) (backToKw pos (keywordEach [] X.env))) := by rfl) :
    GE X (.Call (.Attribute o m apos) (e :: es) [] pos) (wMeth n m sp na gi Wo Wr) := by
  refine ⟨⟨fun pins s σ H Q I hq => ?_⟩⟩
  obtain ⟨env, h, q, E, re, rh, tk, w, kk⟩ := hq
  obtain ⟨f, fd, ps, hcl, F, hb⟩ := c.ex
  refine PySem.W.methodCall_KW (pl := pl) (thn (ho.pe.run pins s σ H (fun u H1 => ∃ v h1, TExt H H1 ∧ RepH X.K H1 h1 ∧ Rep X.K H1 v u ∧ onIns h1 n v fun a fs => fs.lookup m = none ∧ Wr env h1 (fun vs h2 => vs.length + 1 = na ∧ sp (perm gi (.ref a :: vs)) h2 q E) E) I ⟨env, h, _, E, re, rh, tk, w, fun v u h1 H1 t1 rh1 r1 w1 => ⟨v, h1, t1, rh1, r1, w1⟩⟩) fun u s1 ⟨x, H1, I1, rx, v, h1, t1, rh1, r1, w1⟩ => ?_) ht
  obtain ⟨a, fs, rfl, ea, lm, w1⟩ := onIns_of w1
  obtain ⟨rfl, Cc, dx, ws, g, eH, rf⟩ := ins_of rh1 r1 ea
  obtain ⟨cl, mt⟩ := hcl Cc g
  obtain rfl : u = Value.ref a := rx
  refine getmeth_ok I1 eH cl mt (rf.none lm) ?_
  refine PySem.W.callWith_K (first := [.ref a]) (h₀ := X.base) I.ok.mod.kin mt.kp (thn (ha.pa.run pos pins s1 σ H1 (fun us H2 => ∃ vs h2, TExt H H2 ∧ RepH X.K H2 h2 ∧ RepL X.K H2 vs us ∧ vs.length + 1 = na ∧ sp (perm gi (.ref a :: vs)) h2 q E) I1 ⟨env, h1, _, E, re.up t1, rh1, takesUp t1 tk, w1, fun vs us h2 H2 t2 rh2 r2 w2 => ⟨vs, h2, t1.trans t2, rh2, r2, w2.1, w2.2⟩⟩) fun us s2 ⟨zs, H2, I2, r, vs, h2, t2, rh2, r2, hl, w2⟩ => ⟨I2.kIn, ?_⟩) hst hpl
  have hul : (Value.ref a :: us).length = na := by
    have e1 := r.length
    have e2 := r2.length
    rw [List.length_cons]; omega
  exact run_gfn (us := .ref a :: us) (vs := .ref a :: zs) (as := .ref a :: vs) F hr C.guards I2 (.cons rfl r) (hb s2 _ I2.kIn hul) (.cons (.ref a) r2) rh2 (takesUp t2 tk) w2 (kk.up t2)
theorem ge_meth0 {k na : Nat} {gi : List Nat} {sp : Spec} {pl : Sem Bool} (C : Cn X N sc ow) (hr : Room k X.A) (c : CalM X.prog X.w X.K X.mg X.base k n m na gi sp) (ho : GE X o Wo)
    (ht : eval (.Call (.Attribute o m apos) [] [] pos) X.env = (do
      let ov ← eval o X.env
      standAt apos.atName
      let (f, first) ← holding [ov] (getMethod ov m pl)
      callWith pos f first (backTo pos (starEach [] X.env)) (backToKw pos (keywordEach [] X.env))) := by rfl) :
    GE X (.Call (.Attribute o m apos) [] [] pos) (wMeth n m sp na gi Wo wNil) := by
  refine ⟨⟨fun pins s σ H Q I hq => ?_⟩⟩
  obtain ⟨env, h, q, E, re, rh, tk, w, kk⟩ := hq
  obtain ⟨f, fd, ps, hcl, F, hb⟩ := c.ex
  refine PySem.W.methodCall_KW (pl := pl) (thn (ho.pe.run pins s σ H (fun u H1 => ∃ v h1, TExt H H1 ∧ RepH X.K H1 h1 ∧ Rep X.K H1 v u ∧ onIns h1 n v fun a fs => fs.lookup m = none ∧ (([] : List Val).length + 1 = na ∧ sp (perm gi [.ref a]) h1 q E)) I ⟨env, h, _, E, re, rh, tk, w, fun v u h1 H1 t1 rh1 r1 w1 => ⟨v, h1, t1, rh1, r1, w1⟩⟩) fun u s1 ⟨x, H1, I1, rx, v, h1, t1, rh1, r1, w1⟩ => ?_) ht
  obtain ⟨a, fs, rfl, ea, lm, hl, w1⟩ := onIns_of w1
  obtain ⟨rfl, Cc, dx, ws, g, eH, rf⟩ := ins_of rh1 r1 ea
  obtain ⟨cl, mt⟩ := hcl Cc g
  obtain rfl : u = Value.ref a := rx
  refine getmeth_ok I1 eH cl mt (rf.none lm) ?_
  refine PySem.W.callWith_K0 (first := [.ref a]) I1.kIn mt.kp ?_
  exact run_gfn (us := [.ref a]) (vs := [.ref a]) (as := [.ref a]) F hr C.guards I1 (.cons rfl .nil) (hb s1 _ I1.kIn hl) (.cons (.ref a) .nil) rh1 (takesUp t1 tk) w1 (kk.up t1)
/-! ### making -/
theorem make_guards {A : Around} {C : Addr} {us : List Value} {kw : List (Str × Value)} : (A.under (.builtin "type.__call__" ⟨.ref C :: us, kw⟩)).guards = A.guards := by
  first | rfl | simp [Around.under, Code.weight, Code.isCreation, Code.isGuard, Code.isCaller, Code.frames, Code.isFrame, guardIds]
/-- a class that may be made: its __init__ as a def -/
structure CalC (P : Program) (w : World) (K : PySem.W.Frag) (mg : Str → Option Value) (base : Heap) (k : Nat) (n : Str) (na : Nat) (gi : List Nat) (sp : Spec) : Prop where
  ex : ∃ C f fd ps, nsIn K mainGlobals n = some (some (.ref C)) ∧ mg n = some (.ref C) ∧ Mk K C f ∧ GFn P w K mg base k f fd ps sp ∧
    ∀ (s : Shared) (us : List Value), K.In s.heap → us.length = na → BindsTo s fd ⟨us, []⟩ (ps.zip (perm gi us))
theorem CalC.mono {P : Program} {w : World} {K : PySem.W.Frag} {mg : Str → Option Value} {base : Heap} {j k : Nat} {n : Str} {na : Nat} {gi : List Nat} {sp : Spec} (c : CalC P w K mg base j n na gi sp) (h : j ≤ k) : CalC P w K mg base k n na gi sp :=
  let ⟨C, f, fd, ps, a, b, d, e, z⟩ := c.ex
  ⟨C, f, fd, ps, a, b, d, e.mono h, z⟩
def wMake (n : Str) (sp : Spec) (na : Nat) (gi : List Nat) (Wr : WA) : WE := fun env h Q E => Wr env h (fun vs h1 => vs.length + 1 = na ∧ ∀ x, h1 x = none → sp (perm gi (.ref x :: vs)) (put h1 x (.ins n [])) (fun v h2 => v = .non ∧ Q (.ref x) h2) E) E
theorem ge_make {k na : Nat} {gi : List Nat} {sp : Spec} (Cc : Cn X N sc ow) (hr : Room (k + 1) X.A) (c : CalC X.prog X.w X.K X.mg X.base k n na gi sp) (ha : GA X (e :: es) Wr) (hg : glbB sc n = true := by decide +kernel)
    (hdb : (n == ("__debug__" : Str)) = false := by decide +kernel) (he : starEach (e :: es) X.env = (false, eval e X.env) :: starEach es X.env := by rfl) (hpl : (backTo pos (starEach es X.env)).any (·.1) = false := by rfl) :
    GE X (.Call (.Name n p) (e :: es) [] pos) (wMake n sp na gi Wr) := by
  refine ⟨⟨fun pins s σ H Q I hq => ?_⟩⟩
  obtain ⟨env, h, q, E, re, rh, tk, w, kk⟩ := hq
  obtain ⟨C, f, fd, ps, gC, hm, M, F, hb⟩ := c.ex
  refine wpAny_Call_Name_kw (ld_glob I (Cc.gl hg) hm ?_ hdb)
  refine PySem.W.callWith_K (h₀ := X.base) I.ok.mod.kin M.kp (thn (ha.pa.run pos pins s σ H (fun us H1 => ∃ vs h1, TExt H H1 ∧ RepH X.K H1 h1 ∧ RepL X.K H1 vs us ∧ (vs.length + 1 = na ∧ ∀ x, h1 x = none → sp (perm gi (.ref x :: vs)) (put h1 x (.ins n [])) (fun v h2 => v = .non ∧ q (.ref x) h2) E)) I ⟨env, h, _, E, re, rh, tk, w, fun vs us h1 H1 t1 rh1 r1 w1 => ⟨vs, h1, t1, rh1, r1, w1⟩⟩) ?_) he hpl
  rintro us s1 ⟨ws, H1, I1, r, vs, h1, t1, rh1, r1, hl, w1⟩
  refine ⟨I1.kIn, ?_⟩
  show wpAny _ _ (call (.ref C) us) _ _ _
  have hx : H1 (s1.heap.objs.size + 1) = none := I1.hok.fresh (Nat.le_succ _)
  have hd : H1 s1.heap.objs.size = none := I1.hok.fresh (Nat.le_refl _)
  have ne : s1.heap.objs.size ≠ s1.heap.objs.size + 1 := Nat.ne_of_lt (Nat.lt_succ_self _)
  have I2 := Inv.made (C := C) I1
  have w2 := w1 (s1.heap.objs.size + 1) (rh1.free hx)
  have tA : TExt H1 (upd H1 s1.heap.objs.size (.own (s1.heap.objs.size + 1))) := .new hd
  have hx2 : upd H1 s1.heap.objs.size (.own (s1.heap.objs.size + 1)) (s1.heap.objs.size + 1) = none := by rw [upd_ne ne.symm]; exact hx
  have tB : TExt H1 (upd (upd H1 s1.heap.objs.size (.own (s1.heap.objs.size + 1))) (s1.heap.objs.size + 1) (.ins C s1.heap.objs.size [])) := tA.trans (.new hx2)
  have rhA : RepH X.K (upd H1 s1.heap.objs.size (.own (s1.heap.objs.size + 1))) h1 := rh1.new hd
  have rh2 : RepH X.K (upd (upd H1 s1.heap.objs.size (.own (s1.heap.objs.size + 1))) (s1.heap.objs.size + 1) (.ins C s1.heap.objs.size [])) (put h1 (s1.heap.objs.size + 1) (.ins n [])) := fun b u eb => by
    by_cases z : b = s1.heap.objs.size + 1
    · subst z; rw [put_same] at eb; cases eb
      exact ⟨C, _, [], gC, upd_same, rfl, .nil⟩
    · rw [put_ne z] at eb
      exact rhA.new hx2 b u eb
  have rl2 : RepL X.K (upd (upd H1 s1.heap.objs.size (.own (s1.heap.objs.size + 1))) (s1.heap.objs.size + 1) (.ins C s1.heap.objs.size [])) (.ref (s1.heap.objs.size + 1) :: vs) (.ref (s1.heap.objs.size + 1) :: ws) := .cons (.ref _) (r1.up tB)
  have rv2 : Vals (V.ref (s1.heap.objs.size + 1) :: ws) (Value.ref (s1.heap.objs.size + 1) :: us) := .cons rfl r
  have hul : (Value.ref (s1.heap.objs.size + 1) :: us).length = na := by
    have e1 := r.length
    have e2 := r1.length
    rw [List.length_cons]; omega
  have t2 := t1.trans tB
  refine wpAny_call (make_map (f := f) I1.kIn M.makes M.init (beq_iff_eq.mp M.fn) (codeAny_mono (F.run _ X.stack _ _ ⟨Value.ref (s1.heap.objs.size + 1) :: us, []⟩ (perm gi (Value.ref (s1.heap.objs.size + 1) :: us)) (perm gi (V.ref (s1.heap.objs.size + 1) :: ws))
    (fun v H' => v = .non ∧ ∃ h', TExt H H' ∧ RepH X.K H' h' ∧ q (.ref (s1.heap.objs.size + 1)) h') (fun cls d H' => XW X.K H σ E cls d σ H') (by rw [make_guards]; exact Cc.guards) (hr.make C us []) (I2.env0.make C us []) (hb _ (Value.ref (s1.heap.objs.size + 1) :: us) I2.kIn hul) (perm_vals rv2 gi)
    ⟨perm gi (.ref (s1.heap.objs.size + 1) :: vs), _, _, E, perm_rep rl2 gi, rh2, w2, fun v w' h' H' t rh' rv ⟨ev, z⟩ => ?_, fun x h' H' cls d t rh' rx z => ⟨rfl, x, h', t2.trans t, rh', rx, z⟩⟩) fun r s' hq' => ?_))
  · subst ev
    cases rv
    exact ⟨rfl, h', t2.trans t, rh', z⟩
  · cases r with
    | error er => exact tk _ _ (XE.of_call (E := fun cls d H' => XW X.K H σ E cls d σ H') (W := XW X.K H σ E) I2 (fun cls d H' z => z) hq')
    | ok fl =>
      cases fl with
      | ret u =>
        obtain ⟨v, H', I3, rv, ev, h', t', rh', z⟩ := I2.after hq'
        subst ev
        exact ⟨rv, ⟨V.ref (s1.heap.objs.size + 1), H', I3, rfl, kk _ _ h' H' t' rh' (.ref _) z⟩⟩
      | next => exact False.elim hq'
      | brk => exact False.elim hq'
      | cont => exact False.elim hq'
end
end G

set_option Elab.async false
set_option linter.all false
set_option maxRecDepth 100000
set_option maxHeartbeats 4000000
/-! sorted of a list or a tuple of ints, any length -/
namespace G
open PySem PySem.Spec L2
open PyProof.Rows hiding St
def fSortedA : WF := fun vs h Q => match vs with
  | [v] => onSeq h v fun xs => onSome (intsOf xs) fun ns => ns.length ≤ 1000000 ∧ ∀ (ms : List Int) (p : Addr), ms.Perm ns → ms.Pairwise (· ≤ ·) → h p = none → Q (.ref p) (put h p (.lst (ms.map Val.int)))
  | _ => False
section
variable {X : Cx}
theorem cSortedA : CallR X (.builtin "sorted") (rCG X.K fSortedA) := by
  rintro pins s σ H xs us Q I rv ⟨vs, h, q, r, rh, w, k⟩
  unfold fSortedA at w
  split at w
  · obtain ⟨u, rfl, r1⟩ := r.one
    obtain ⟨ys, e, w1⟩ := onSeq_of w
    obtain ⟨ns, e2, hl, w2⟩ := onSome_of w1
    obtain ⟨a, ws, rfl, l, c⟩ := seq_of rh r1 e
    obtain ⟨u1, rfl, rx⟩ := vals1 rv
    cases rx
    have ey := intsOf_eq e2
    subst ey
    have ew := l.ints
    subst ew
    obtain ⟨its, T, o, n, rv2, hT, ho, hc, hd⟩ : ∃ (its : List Value) (T : String) (o : Obj) (n : Nat), Vals (ns.map V.int) its ∧ (T = "list" ∨ T = "tuple") ∧ s.heap.get? a = some o ∧ o.cls = .type T ∧ o.data = .seq its.toArray n := by
      rcases c with c | c
      · obtain ⟨its, r', pl, hz⟩ := I.list c.1
        obtain ⟨o, ho, hc, n, hd⟩ := id pl.isList
        exact ⟨its, "list", o, n, r', .inl rfl, ho, hc, hd⟩
      · obtain ⟨its, r', pl, hz⟩ := I.tuple c.1
        obtain ⟨o, ho, hc, n, hd⟩ := id pl
        exact ⟨its, "tuple", o, n, r', .inr rfl, ho, hc, hd⟩
    have hlen : its.length = ns.length := by rw [← rv2.length, List.length_map]
    have hsz : its.length ≤ sizeLine := by rw [hlen, sizeLine_eq]; omega
    refine Calls.call_function_entry PyProof.Rows.kind_sorted PyProof.Rows.plain_sorted PyProof.Rows.entry_sorted (PyProof.Rows.args_sorted1 _) ?_
    unfold Builtin.«sorted»
    refine wpAny_bind (m := checkCount "sorted" 1 1 _) (wpAny_pure ?_)
    refine wpAny_bind (wpAny_collect_seq a hT ho hc hd (fun h' hk => ?_) (by simpa using hsz))
    have hS : IntsAre its.toArray.toList ns := by simpa using rv2.ints
    have I1 : Inv X pins σ H { s with heap := h' } := I.kept (t' := s.toks) hk
    refine wpAny_bind (wpAny_newList ?_ (by simpa using hsz))
    have hoL : (h'.push (seqObj "list" its.toArray.toList.toArray 0)).get? h'.objs.size = some (seqObj "list" its.toArray.toList.toArray 0) := Heap.get?_push_size _ rfl
    show wpAny _ _ _ _ _ { s with heap := h'.push (seqObj "list" its.toArray.toList.toArray 0) }
    refine wpAny_bind (wpAny_holding (wpAny_call_entry PyProof.Rows.slot_list_sort ⟨_, hoL, rfl⟩ PyProof.Rows.entry_list_sort
      (PyProof.Rows.list_sort_treeAny (s := { s with heap := h'.push (seqObj "list" its.toArray.toList.toArray 0) }) hoL hS (by simpa using hsz) fun out ys g1 g2 g3 => ⟨_, rfl, ?_⟩) (PyProof.Rows.args_list_sort _)))
    obtain ⟨e', he'⟩ := PyProof.Rows.sortedHeap_at (vs := its.toArray.toList) (out := out) hoL
    have hlen2 : (ys.map V.int).length ≤ sizeLine := by
      rw [List.length_map, g2.length_eq, ← hlen]
      exact hsz
    refine wpAny_pure ⟨_, rfl, .ref h'.objs.size, upd H h'.objs.size (.lst (ys.map V.int)), I1.laid (t' := s.toks) (fun b u e => ?_) (Nat.le_refl _)
      (show ObjOk X.prog X.w _ _ _ (.lst (ys.map V.int)) from ⟨hlen2, out.toList, e', vals_of_ints g1, by rw [Array.toArray_toList]; exact he'⟩), rfl, ?_⟩
    · have hb : b < h'.objs.size := Heap.lt_size e
      rw [PyProof.Rows.sortedHeap_old (Nat.ne_of_lt hb) (by rw [size_push']; exact Nat.lt_succ_of_lt hb)]
      exact Heap.get?_push_of_some _ e
    · have np : H h'.objs.size = none := I1.hok.fresh (Nat.le_refl _)
      exact k _ _ _ _ (.new np) (rh.newL np RepL.ofInts) (.ref _) (w2 ys _ g2 g3 (rh.free np))
  · exact w.elim
theorem x_sortedA {h : Hg} {v : Val} {Q : KV} {xs : List Val} {ns : List Int} (e : seqOf h v = some xs) (e2 : intsOf xs = some ns) (hl : ns.length ≤ 1000000) (k : ∀ (ms : List Int) (p : Addr), ms.Perm ns → ms.Pairwise (· ≤ ·) → h p = none → Q (.ref p) (put h p (.lst (ms.map Val.int)))) : fSortedA [v] h Q := by
  show onSeq h v _
  unfold onSeq
  rw [e]
  show onSome (intsOf xs) _
  rw [e2]
  exact ⟨hl, k⟩
end
end G

set_option Elab.async false
set_option linter.all false
set_option maxRecDepth 100000
set_option maxHeartbeats 4000000
/-! methods as the top has laid them; promises that are never asked (recursion's floor) -/
namespace G
open PySem PySem.Spec PySem.W L2
open PyProof.Rows hiding St
/-- the j-th statement of a class's body -/
def clsDefN (j : Nat) (st : Stmt) : Stmt := match st with
  | .ClassDef _ _ _ b _ _ _ _ _ _ _ => b.getD j (.Pass ⟨0, 0, 0, 0⟩)
  | s => s
structure MtAt (K : PySem.W.Frag) (n m qual : Str) (st : Stmt) (dV kV : Value) : Prop where
  ex : ∃ (f : Addr) (oc : Value) (od : Option Addr) (doc pm : Value) (an : Option Addr) (cdv ct : Value) (osl : Array (Option Value)),
    (∀ C, nsIn K mainGlobals n = some (some (.ref C)) → Cls K C ∧ Meth K C m f) ∧ K.lookup f = some ⟨oc, od, .func (PySem.W.fnOf m qual (L2.defArgs st) (L2.defBody st) (L2.defScope st) dV kV doc pm an cdv ct), osl⟩ ∧ PySem.W.codeIn K cdv qual = true
structure CnAt (K : PySem.W.Frag) (mg : Str → Option Value) (n qual : Str) (st : Stmt) (dV kV : Value) : Prop where
  ex : ∃ (C f : Addr) (oc : Value) (od : Option Addr) (doc pm : Value) (an : Option Addr) (cdv ct : Value) (osl : Array (Option Value)),
    nsIn K mainGlobals n = some (some (.ref C)) ∧ mg n = some (.ref C) ∧ Mk K C f ∧ K.lookup f = some ⟨oc, od, .func (PySem.W.fnOf "__init__" qual (L2.defArgs st) (L2.defBody st) (L2.defScope st) dV kV doc pm an cdv ct), osl⟩ ∧ PySem.W.codeIn K cdv qual = true
section
variable {K : PySem.W.Frag} {mg : Str → Option Value} {h : Heap} {n m qual f0 : Str} {st : Stmt} {f A : Addr} {oc : Value} {od : Option Addr} {dV kV doc pm : Value} {an : Option Addr} {cdv ct : Value} {osl : Array (Option Value)}
theorem cls_mk (g1 : PySem.W.plainGet K A Str.empty = true) (g2 : PySem.W.hasDictIn K A = true) (g3 : PySem.W.plainOver K A = true) (g4 : PySem.W.findIn K (.ref A) "__setattr__" = some (some (.builtin "object.__setattr__"))) : Cls K A := ⟨g1, g2, g3, g4⟩
theorem insK_mk (a : nsIn K mainGlobals n = some (some (.ref A))) (c : Cls K A) (e : PySem.W.findIn K (.ref A) f0 = some none) : InsK K n f0 := fun C g => by
  rw [a] at g; cases g; exact ⟨c, e⟩
theorem mtAt_mk (a : nsIn K mainGlobals n = some (some (.ref A))) (c : Cls K A) (e : PySem.W.findIn K (.ref A) m = some (some (.ref f))) (i : PySem.W.isFn K (.ref f) = true) (kp : PySem.W.keepIn K (.ref f) = true)
    (l : K.lookup f = some ⟨oc, od, .func (PySem.W.fnOf m qual (L2.defArgs st) (L2.defBody st) (L2.defScope st) dV kV doc pm an cdv ct), osl⟩) (cd : PySem.W.codeIn K cdv qual = true) : MtAt K n m qual st dV kV :=
  ⟨f, oc, od, doc, pm, an, cdv, ct, osl, fun C g => by rw [a] at g; cases g; exact ⟨c, ⟨e, i, kp⟩⟩, l, cd⟩
theorem cnAt_mk (X : K.In h) (G : h.Ns mainGlobals mg) (a : nsIn K mainGlobals n = some (some (.ref A))) (mk : PySem.W.makesIn K A = true) (e : PySem.W.findIn K (.ref A) "__init__" = some (some (.ref f))) (i : PySem.W.isFn K (.ref f) = true) (kp : PySem.W.keepIn K (.ref A) = true)
    (l : K.lookup f = some ⟨oc, od, .func (PySem.W.fnOf "__init__" qual (L2.defArgs st) (L2.defBody st) (L2.defScope st) dV kV doc pm an cdv ct), osl⟩) (cd : PySem.W.codeIn K cdv qual = true) : CnAt K mg n qual st dV kV :=
  ⟨A, f, oc, od, doc, pm, an, cdv, ct, osl, a, PySem.W.mg_of X G a, ⟨mk, e, i, kp⟩, l, cd⟩
end
section
variable {P : Program} {w : World} {K : PySem.W.Frag} {mg : Str → Option Value} {base : Heap} {k na : Nat} {n m qual : Str} {st : Stmt} {dV kV : Value} {N ps : List Str} {gi : List Nat} {sp : Spec} {W : WS}
theorem calm_of (F : MtAt K n m qual st dV kV) (S : FnScope N ps (L2.defScope st))
    (len : ∀ args h Q E, sp args h Q E → args.length = ps.length)
    (hbody : ∀ X : Cx, Cn X N (L2.defScope st) (L2.defScope st) → Fx P w K mg base k X → GSs X (L2.defBody st) W)
    (hsp : ∀ args h Q E, sp args h Q E → Entry h (W (dOf Q E) (startG N args)))
    (hb : ∀ (doc pm : Value) (an : Option Addr) (cdv ct : Value) (us : List Value), us.length = na → bindArgs (PySem.W.fnOf m qual (L2.defArgs st) (L2.defBody st) (L2.defScope st) dV kV doc pm an cdv ct) ⟨us, []⟩ = pure (ps.zip (perm gi us))) :
    CalM P w K mg base (k + 1) n m na gi sp := by
  obtain ⟨f, oc, od, doc, pm, an, cdv, ct, osl, hcl, lk, hc⟩ := F.ex
  exact ⟨f, _, ps, hcl, gfn_of lk hc S len hbody hsp, fun s us _ l1 => .of_eq (hb doc pm an cdv ct us l1)⟩
theorem calc_of (F : CnAt K mg n qual st dV kV) (S : FnScope N ps (L2.defScope st))
    (len : ∀ args h Q E, sp args h Q E → args.length = ps.length)
    (hbody : ∀ X : Cx, Cn X N (L2.defScope st) (L2.defScope st) → Fx P w K mg base k X → GSs X (L2.defBody st) W)
    (hsp : ∀ args h Q E, sp args h Q E → Entry h (W (dOf Q E) (startG N args)))
    (hb : ∀ (doc pm : Value) (an : Option Addr) (cdv ct : Value) (us : List Value), us.length = na → bindArgs (PySem.W.fnOf "__init__" qual (L2.defArgs st) (L2.defBody st) (L2.defScope st) dV kV doc pm an cdv ct) ⟨us, []⟩ = pure (ps.zip (perm gi us))) :
    CalC P w K mg base (k + 1) n na gi sp := by
  obtain ⟨C, f, oc, od, doc, pm, an, cdv, ct, osl, a, b, M, lk, hc⟩ := F.ex
  exact ⟨C, f, _, ps, a, b, M, gfn_of lk hc S len hbody hsp, fun s us _ l1 => .of_eq (hb doc pm an cdv ct us l1)⟩
/-! ### never asked -/
theorem gfn_never {f : Addr} {fd : FuncData} (no : ∀ args h Q E, ¬ sp args h Q E) : GFn P w K mg base k f fd ps sp :=
  ⟨fun args h Q E z => absurd z (no _ _ _ _), fun A outer s H args us vs Q E _ _ _ _ _ ⟨as, h, q, e, _, _, z, _⟩ => absurd z (no _ _ _ _)⟩
theorem calm_never (F : MtAt K n m qual st dV kV) (no : ∀ args h Q E, ¬ sp args h Q E)
    (hb : ∀ (doc pm : Value) (an : Option Addr) (cdv ct : Value) (us : List Value), us.length = na → bindArgs (PySem.W.fnOf m qual (L2.defArgs st) (L2.defBody st) (L2.defScope st) dV kV doc pm an cdv ct) ⟨us, []⟩ = pure (ps.zip (perm gi us))) :
    CalM P w K mg base k n m na gi sp := by
  obtain ⟨f, oc, od, doc, pm, an, cdv, ct, osl, hcl, lk, hc⟩ := F.ex
  exact ⟨f, _, ps, hcl, gfn_never no, fun s us _ l1 => .of_eq (hb doc pm an cdv ct us l1)⟩
theorem cal_never {x : Str} {ks : List Str} {nn : Nat} (F : FnAt K mg x st dV kV) (no : ∀ args h Q E, ¬ sp args h Q E)
    (hb : ∀ (doc pm : Value) (an : Option Addr) (cdv ct : Value) (us ws : List Value), us.length = nn → ws.length = ks.length → bindArgs (PySem.W.fnOf x x (L2.defArgs st) (L2.defBody st) (L2.defScope st) dV kV doc pm an cdv ct) ⟨us, ks.zip ws⟩ = pure (ps.zip (perm gi (us ++ ws)))) :
    Cal P w K mg base k x nn ks gi sp := by
  obtain ⟨f, oc, od, doc, pm, an, cdv, ct, osl, hm, lk, hc, hk⟩ := F.ex
  exact ⟨f, _, ps, hm, hk, gfn_never no, fun s us ws _ l1 l2 => .of_eq (hb doc pm an cdv ct us ws l1 l2)⟩
end
/-! ### steps -/
section
variable {nx : Env' → Hg → Prop} {rt : KV} {ex : XS} {bk ct : Env' → Hg → Prop} {env : Env'} {h : Hg} {Q : KV} {E : KX} {We Wo : WE} {Wr : WA} {n f m : Str} {a : Addr} {fs : List (Str × Val)} {v u : Val} {sp : Spec} {na : Nat} {gi : List Nat}
theorem onIns_at {K : Addr → List (Str × Val) → Prop} (e : insAt h a = some (n, fs)) (k : K a fs) : onIns h n (.ref a) K := by
  show match insAt h a with | some (m, fs) => m = n ∧ K a fs | none => False
  rw [e]; exact ⟨rfl, k⟩
theorem x_fld (k : We env h (fun v h1 => onIns h1 n v fun _ fs => onSome (fs.lookup f) fun u => Q u h1) E) : wFld n f We env h Q E := k
theorem x_setF (k : We env h (fun v h1 => Wo env h1 (fun o h2 => onIns h2 n o fun a fs => fs.length < 1000 ∧ nx env (put h2 a (.ins n (putG f v fs)))) (fun x h' => ex x env h')) (fun x h' => ex x env h')) : wSetF n f Wo We ⟨nx, rt, ex, bk, ct⟩ env h := k
theorem x_onIns {K : Addr → List (Str × Val) → Prop} (e : insAt h a = some (n, fs)) (k : K a fs) : onIns h n (.ref a) K := onIns_at e k
theorem x_meth (k : Wo env h (fun v h1 => onIns h1 n v fun a fs => fs.lookup m = none ∧ Wr env h1 (fun vs h2 => vs.length + 1 = na ∧ sp (perm gi (.ref a :: vs)) h2 Q E) E) E) : wMeth n m sp na gi Wo Wr env h Q E := k
theorem x_make (k : Wr env h (fun vs h1 => vs.length + 1 = na ∧ ∀ x, h1 x = none → sp (perm gi (.ref x :: vs)) (put h1 x (.ins n [])) (fun v h2 => v = .non ∧ Q (.ref x) h2) E) E) : wMake n sp na gi Wr env h Q E := k
theorem insAt_put {fs : List (Str × Val)} : insAt (put h a (.ins n fs)) a = some (n, fs) := insAt_of put_same
theorem insAt_put' {p : Addr} {o : Ob} (ne : a ≠ p) (e : insAt h a = some (n, fs)) : insAt (put h p o) a = some (n, fs) := by
  unfold insAt at e ⊢; rw [put_ne ne]; exact e
theorem insAt_ticks {k : Nat} (e : insAt h a = some (n, fs)) : insAt (ticks k h) a = some (n, fs) := insAt_of (ticks_other (insAt_eq e) (fun n z => by cases z) k)
theorem ne_insL {p : Addr} {xs : List Val} (e : insAt h a = some (n, fs)) (e2 : lstAt h p = some xs) : a ≠ p := fun z => by
  rw [← z] at e2
  have h1 := insAt_eq e
  have h2 := lstAt_eq e2
  rw [h1] at h2; cases h2
theorem ne_insN {p : Addr} (e : insAt h a = some (n, fs)) (e2 : h p = none) : a ≠ p := fun z => by
  rw [← z] at e2
  rw [insAt_eq e] at e2; cases e2
end
end G

set_option Elab.async false
set_option linter.all false
set_option maxRecDepth 100000
set_option pp.maxSteps 1500
set_option maxHeartbeats 4000000
namespace G
open PySem PySem.Spec L2
open PyProof.Rows hiding St
section
variable {nx : Env' → Hg → Prop} {rt : KV} {ex : XS} {bk ct : Env' → Hg → Prop} {env : Env'} {h : Hg} {Q : KV} {E : KX} {S : WS} {Wt : WT} {We Wa Wb Wc Wx : WE} {Wr : WA} {n f : Str} {fs all yes : List Str} {cv : Val} {vs : List Val} {i j : Nat} {d : Hd} {r : List Hd} {x : Exn} {D : Dn}
/-! exceptions -/
theorem x_try {Wb : WS} {WH : List Hd} (k : Wb ⟨nx, rt, fun x e h => hRun ⟨nx, rt, ex, bk, ct⟩ WH x e h, bk, ct⟩ env h) : wTry Wb WH ⟨nx, rt, ex, bk, ct⟩ env h := k
theorem x_raise (k : Wr env h (fun vs h1 => vs.length = fs.length ∧ ex ⟨n, fs, vs⟩ env h1) (fun x h' => ex x env h')) : wRaise n fs Wr ⟨nx, rt, ex, bk, ct⟩ env h := k
/-- a clause takes it -/
theorem x_takes {y a : List Str} {o : Option Nat} {act : Env' → Hg → (Env' → Hg → Prop) → Prop} (ha : a.contains x.cls = true) (hy : y.contains x.cls = true) (k : act (asG o (some (.exc x.cls x.fs x.vs)) env) h (fun env' h' => D.nx (asG o none env') h')) : hRun D (⟨y, a, o, act⟩ :: r) x env h :=
  ⟨ha, by rw [if_pos hy]; exact k⟩
theorem x_passes {y a : List Str} {o : Option Nat} {act : Env' → Hg → (Env' → Hg → Prop) → Prop} (ha : a.contains x.cls = true) (hy : y.contains x.cls = false) (k : hRun D r x env h) : hRun D (⟨y, a, o, act⟩ :: r) x env h :=
  ⟨ha, by rw [if_neg (by rw [hy]; exact Bool.false_ne_true)]; exact k⟩
theorem x_aStore {v : Val} {nx : Env' → Hg → Prop} (e : env[i]? = some (some v)) (k : nx (env.set j (some v)) h) : aStore i j env h nx := by unfold aStore; rw [e]; exact k
theorem x_aPass {nx : Env' → Hg → Prop} (k : nx env h) : aPass env h nx := k
theorem x_aNone {nx : Env' → Hg → Prop} (k : nx (env.set j (some .non)) h) : aNone j env h nx := k
theorem x_isXN (k : Q (.bl false) h) : fIsX cv all yes [.non, cv] h Q := ⟨rfl, k⟩
theorem x_isXE (ha : all.contains n = true) (k : Q (.bl (yes.contains n)) h) : fIsX cv all yes [.exc n fs vs, cv] h Q := ⟨rfl, ha, k⟩
theorem x_attr (k : We env h (fun v h1 => match v with
  | .exc n fs vs => all.contains n = true ∧ ∃ (i : Nat) (u : Val), fs[i]? = some f ∧ vs[i]? = some u ∧ Q u h1
  | _ => False) E) : wAttr f all We env h Q E := k
end
theorem subEb_refl : ∀ e : Env', subEb e e
  | [] => trivial
  | none :: r => subEb_refl r
  | some v :: r => ⟨rfl, subEb_refl r⟩
theorem sqR_list {h : Hg} {n i : Nat} : sqR 0 1 n i h = some ((rgI n).map Val.int)[i]? := by
  rw [sqR_it]
  unfold itR rgI
  rw [List.map_map, List.getElem?_map]
  by_cases z : i < n
  · rw [if_pos z, List.getElem?_range z]
    simp
  · rw [if_neg z, List.getElem?_eq_none (by rw [List.length_range]; omega)]
    rfl
/-! x op= y -/
theorem x_aaddI {a b : Int} {h : Hg} {Q : KV} (k : Q (.int (a + b)) h) : aAdd (.int a) (.int b) h Q := k
theorem x_asubI {a b : Int} {h : Hg} {Q : KV} (k : Q (.int (a - b)) h) : aSub (.int a) (.int b) h Q := k
theorem x_aaddT {xs ys : List Val} {h : Hg} {Q : KV} (l : xs.length + ys.length ≤ sizeLine) (k : Q (.tup (xs ++ ys)) h) : aAdd (.tup xs) (.tup ys) h Q := ⟨l, k⟩
theorem x_divmodI {a b : Int} {h : Hg} {Q : KV} (b0 : DivOk b) (k : Q (.tup [.int (a / b), .int (a % b)]) h) : fDivmod [.int a, .int b] h Q := ⟨b0, k⟩
/-- an item of a list of four or five, wherever -/
theorem at4 {a b c d : Val} {i : Int} (h0 : 0 ≤ i) (h1 : i < 4) : ∃ v, atI [a, b, c, d] i = some v ∧ (v = a ∨ v = b ∨ v = c ∨ v = d) := by
  obtain rfl | rfl | rfl | rfl : i = 0 ∨ i = 1 ∨ i = 2 ∨ i = 3 := by omega
  · exact ⟨a, rfl, by simp⟩
  · exact ⟨b, rfl, by simp⟩
  · exact ⟨c, rfl, by simp⟩
  · exact ⟨d, rfl, by simp⟩
theorem at5 {a b c d f : Val} {i : Int} (h0 : 0 ≤ i) (h1 : i < 5) : ∃ v, atI [a, b, c, d, f] i = some v ∧ (v = a ∨ v = b ∨ v = c ∨ v = d ∨ v = f) := by
  obtain rfl | rfl | rfl | rfl | rfl : i = 0 ∨ i = 1 ∨ i = 2 ∨ i = 3 ∨ i = 4 := by omega
  · exact ⟨a, rfl, by simp⟩
  · exact ⟨b, rfl, by simp⟩
  · exact ⟨c, rfl, by simp⟩
  · exact ⟨d, rfl, by simp⟩
  · exact ⟨f, rfl, by simp⟩
theorem x__pen {n : Nat} {h : Hg} {Q : KV} {E : KX} {ns : List Int} (hl : ns.length ≤ 63) (k : ∀ p, h p = none → Q (.ref p) (put h p (.pen n))) : spPen n (perm [0] [.scr ns]) h Q E := ⟨hl, k⟩
theorem pen_ticks {h : Hg} {p : Addr} {n m k : Nat} (l : m + k ≤ n) (e : ∀ a, h a = none) : Sub (put h p (.pen m)) (ticks k (put h p (.pen n))) := fun a o z => by
  by_cases q : a = p
  · subst q
    rw [put_same] at z; cases z
    exact ⟨_, ticks_pen k put_same, .pen (by omega)⟩
  · rw [put_ne q, e a] at z; cases z
/-! ### great numbers, shown -/
section
variable {h : Hg} {Q : KV}
/-- a great number, shown -/
theorem x_reprI {i : Int} (a : i.natAbs.log2 < 1920) (q : Q (.str (PyData.int i).shown) h) : fRepr [.int i] h Q := by
  refine ⟨.int i, .int i, decide_eq_true a, rfl, Nat.zero_le _, ?_, q⟩
  have e := int_text_length_le (k := 1920) (by decide) a
  show (Str.ofString (toString i)).length ≤ sizeLine
  rw [PySem.ofString_length, sizeLine_eq]
  omega
theorem log2_of_lt {n k : Nat} (h : n < 2 ^ k) (k0 : 0 < k) : n.log2 < k := by
  by_cases z : n = 0
  · subst z; exact k0
  · exact (Nat.log2_lt z).mpr h
/-- the field of a caught exception -/
theorem x_at1 {n f : Str} {fs all : List Str} {vs : List Val} (i : Nat) {u : Val} (ha : all.contains n = true) (ef : fs[i]? = some f) (ev : vs[i]? = some u) (k : Q u h) : (match Val.exc n fs vs with
  | .exc n fs vs => all.contains n = true ∧ ∃ (i : Nat) (u : Val), fs[i]? = some f ∧ vs[i]? = some u ∧ Q u h
  | _ => False) := ⟨ha, i, u, ef, ev, k⟩
end
end G

set_option Elab.async false
set_option linter.all false
set_option maxRecDepth 100000
set_option pp.maxSteps 1500
set_option maxHeartbeats 4000000
namespace G
open PySem PySem.Spec L2
open PyProof.Rows hiding St
/-! ### heaps: rows of nodes, handles from outside -/
abbrev Row := Option (List (Option Nat))
def cellV : Option Nat → Val
  | none => .non
  | some n => .int (n : Nat)
def rowV : Row → Val
  | none => .non
  | some r => .tup (r.map cellV)
def heapV (rows : List Row) (hs : List Nat) : Val := .tup [.tup (rows.map rowV), .tup (hs.map fun n => .int (n : Nat))]
def cntR (j : Nat) : Row → Nat
  | none => 0
  | some r => r.count (some j)
def cnt (rows : List Row) (j : Nat) : Nat := (rows.map (cntR j)).sum
def Live (rows : List Row) (n : Nat) : Prop := ∃ r, rows[n]? = some (some r)
structure HeapOk (rows : List Row) (hs : List Nat) : Prop where
  len : hs.length = rows.length
  few : rows.length ≤ 40
  hand : ∀ n ∈ hs, n ≤ 9
  row : ∀ r, some r ∈ rows → r.length ≤ 40 ∧ ∀ n, some n ∈ r → Live rows n
  out : ∀ j, 1 ≤ hs.getD j 0 → Live rows j
  held : ∀ j, Live rows j → 1 ≤ hs.getD j 0 + cnt rows j
/-- labels of n nodes -/
structure Labels (ns : List Int) : Prop where
  perm : ns.Perm (rgI ns.length)
  few : ns.length ≤ 40
/-- one of the first m labels -/
def Aliv (ns : List Int) (m k : Nat) : Prop := ∃ i, i < m ∧ ns[i]? = some ((k : Nat) : Int)
def RowB (h : Hg) (G : Nat → Prop) (B : Nat) (r : Addr) : Prop := ∃ cs : List (Option Nat), lstAt h r = some (cs.map cellV) ∧ cs.length ≤ B ∧ ∀ k, some k ∈ cs → G k
/-- the label at place i stands in the row of one of the first m labels -/
def Heldd (h : Hg) (rs : List Addr) (ns : List Int) (m i : Nat) : Prop := ∃ (q k l : Nat) (r : Addr) (cs : List (Option Nat)), q < m ∧ ns[q]? = some ((k : Nat) : Int) ∧ rs[k]? = some r ∧ lstAt h r = some (cs.map cellV) ∧ ns[i]? = some ((l : Nat) : Int) ∧ some l ∈ cs

end G

set_option Elab.async false
set_option linter.all false
set_option maxRecDepth 100000
set_option maxHeartbeats 4000000
/-! sum of a list or a tuple of ints -/
namespace G
open PySem PySem.Spec L2
open PyProof.Rows hiding St
def fSumA : WF := fun vs h Q => match vs with
  | [v] => onSeq h v fun xs => onSome (intsOf xs) fun ns => Q (.int ns.sum) h
  | _ => False
section
variable {X : Cx}
theorem cSumA (hc : X.calm = true) : CallR X (.builtin "sum") (rCG X.K fSumA) := by
  rintro pins s σ H xs us Q I rv ⟨vs, h, q, r, rh, w, k⟩
  unfold fSumA at w
  split at w
  · obtain ⟨u, rfl, r1⟩ := r.one
    obtain ⟨ys, e, w1⟩ := onSeq_of w
    obtain ⟨ns, e2, w2⟩ := onSome_of w1
    obtain ⟨a, ws, rfl, l, c⟩ := seq_of rh r1 e
    have ey := intsOf_eq e2
    subst ey
    have ew := l.ints
    subst ew
    rw [Vals.ref1 rv]
    rcases c with c | c
    · obtain ⟨its, r', pl, _⟩ := I.list c.1
      exact sum_raw (I.ok.hd hc) pl.isList r'.ints fun h' tk t' hk => ⟨.int _, H, I.kept hk, ⟨_, rfl⟩, k _ _ h H (.refl H) rh (.int _) w2⟩
    · obtain ⟨its, r', pl, _⟩ := I.tuple c.1
      have hi := r'.ints
      obtain ⟨xs, hx⟩ := hi.allInts.items
      have hn : numsOf its.toArray.toList = ns := by rw [show its.toArray.toList = its from rfl, hi.numsOf]
      have hl : s.heap.IsTuple a its.toArray := pl
      rw [hx] at hl hn
      rw [nums_intItems] at hn
      refine PySem.W.ktm_sumG (I.ok.hd hc) hl fun h' tk t' hk => ?_
      rw [preSum_eq, List.take_of_length_le (by simp), hn]
      exact ⟨.int _, H, I.kept hk, ⟨_, rfl⟩, k _ _ h H (.refl H) rh (.int _) w2⟩
  · exact w.elim
theorem x_sumA {h : Hg} {v : Val} {Q : KV} {xs : List Val} {ns : List Int} (e : seqOf h v = some xs) (e2 : intsOf xs = some ns) (k : Q (.int ns.sum) h) : fSumA [v] h Q := by
  show onSeq h v _
  unfold onSeq
  rw [e]
  show onSome (intsOf xs) _
  rw [e2]
  exact k
end
end G

set_option Elab.async false
set_option linter.all false
set_option maxRecDepth 100000
set_option maxHeartbeats 4000000
/-! dicts whose keys are ints and texts -/
namespace G
open PySem PySem.Spec L2
open PyProof.Rows hiding St
/-! ### tables -/
def valG (kvs : List (Key × Val)) (k : Key) : Option Val := (kvs.find? fun kv => decide (kv.1 = k)).map (·.2)
def putD (kvs : List (Key × Val)) (k : Key) (v : Val) : List (Key × Val) :=
  if (kvs.any fun kv => decide (kv.1 = k)) = true then kvs.map (fun kv => if kv.1 = k then (kv.1, v) else kv) else kvs ++ [(k, v)]
def keyG : Val → Option Key
  | .int i => some (.inl i)
  | .str x => some (.inr x)
  | _ => none
def dctAt (h : Hg) (a : Addr) : Option (List (Key × Val)) := match h a with
  | some (.dct kvs) => some kvs
  | _ => none
def onDct (h : Hg) (v : Val) (k : Addr → List (Key × Val) → Prop) : Prop := match v with
  | .ref a => match dctAt h a with
    | some kvs => k a kvs
    | none => False
  | _ => False
theorem dctAt_eq {h : Hg} {a : Addr} {kvs : List (Key × Val)} (e : dctAt h a = some kvs) : h a = some (.dct kvs) := by
  unfold dctAt at e
  split at e
  · rename_i q; cases e; exact q
  · cases e
theorem dctAt_of {h : Hg} {a : Addr} {kvs : List (Key × Val)} (e : h a = some (.dct kvs)) : dctAt h a = some kvs := by unfold dctAt; rw [e]
theorem onDct_of {h : Hg} {v : Val} {k : Addr → List (Key × Val) → Prop} (w : onDct h v k) : ∃ a kvs, v = .ref a ∧ h a = some (.dct kvs) ∧ k a kvs := by
  unfold onDct at w
  split at w
  · split at w
    · rename_i q; exact ⟨_, _, rfl, dctAt_eq q, w⟩
    · exact w.elim
  · exact w.elim
section
variable {K : PySem.W.Frag} {H : L2.Hp}
theorem keyG_rep {y : Val} {u : V} {k : Key} (r : Rep K H y u) (e : keyG y = some k) : u = kV k := by
  cases y <;> first | (cases e; cases r; rfl) | cases e
theorem RepD.cons_of {p : Key × Val} {r : List (Key × Val)} {ws : List (Key × V)} (x : RepD K H (p :: r) ws) : ∃ q s, ws = q :: s ∧ p.1 = q.1 ∧ Rep K H p.2 q.2 ∧ RepD K H r s := by
  obtain ⟨e, l⟩ := x
  cases ws with
  | nil => cases e
  | cons q s =>
    rw [List.map_cons, List.map_cons] at e l
    cases l with
    | cons a b => exact ⟨q, s, rfl, (List.cons.inj e).1, a, (List.cons.inj e).2, b⟩
theorem RepD.cons {p : Key × Val} {q : Key × V} {r : List (Key × Val)} {s : List (Key × V)} (e : p.1 = q.1) (a : Rep K H p.2 q.2) (x : RepD K H r s) : RepD K H (p :: r) (q :: s) := by
  refine ⟨?_, ?_⟩
  · rw [List.map_cons, List.map_cons, e, x.1]
  · rw [List.map_cons, List.map_cons]; exact .cons a x.2
theorem RepD.nil_of {ws : List (Key × V)} (x : RepD K H [] ws) : ws = [] := by
  cases ws with
  | nil => rfl
  | cons q s => cases x.1
theorem RepD.nil : RepD K H [] [] := ⟨rfl, .nil⟩
theorem RepD.len : ∀ {kvs : List (Key × Val)} {ws : List (Key × V)}, RepD K H kvs ws → kvs.length = ws.length := fun {kvs ws} x => by
  have := congrArg List.length x.1
  rwa [List.length_map, List.length_map] at this
theorem RepD.val {k : Key} : ∀ {kvs : List (Key × Val)} {ws : List (Key × V)} {v : Val}, RepD K H kvs ws → valG kvs k = some v → ∃ w, valV ws k = some w ∧ Rep K H v w
  | [], ws, v, x, e => by cases e
  | p :: r, ws, v, x, e => by
    obtain ⟨q, s, rfl, e1, a, y⟩ := x.cons_of
    by_cases z : p.1 = k
    · have : valG (p :: r) k = some p.2 := by simp [valG, List.find?_cons, z]
      rw [this] at e; cases e
      exact ⟨q.2, valV_pos (e1 ▸ z), a⟩
    · have : valG (p :: r) k = valG r k := by simp [valG, List.find?_cons, z]
      rw [this] at e
      obtain ⟨w, h1, h2⟩ := RepD.val y e
      exact ⟨w, by rw [valV_neg (e1 ▸ z)]; exact h1, h2⟩
theorem RepD.valN {k : Key} : ∀ {kvs : List (Key × Val)} {ws : List (Key × V)}, RepD K H kvs ws → (valV ws k).isSome = (valG kvs k).isSome
  | [], ws, x => by rw [x.nil_of]; rfl
  | p :: r, ws, x => by
    obtain ⟨q, s, rfl, e1, a, y⟩ := x.cons_of
    by_cases z : p.1 = k
    · have : valG (p :: r) k = some p.2 := by simp [valG, List.find?_cons, z]
      rw [this, valV_pos (e1 ▸ z)]; rfl
    · have : valG (p :: r) k = valG r k := by simp [valG, List.find?_cons, z]
      rw [this, valV_neg (e1 ▸ z)]
      exact RepD.valN y
theorem RepD.repl {k : Key} {v : Val} {w : V} (rv : Rep K H v w) : ∀ {kvs : List (Key × Val)} {ws : List (Key × V)}, RepD K H kvs ws → RepD K H (kvs.map fun kv => if kv.1 = k then (kv.1, v) else kv) (ws.map fun kv => if kv.1 = k then (kv.1, w) else kv)
  | [], ws, x => by rw [x.nil_of]; exact .nil
  | p :: r, ws, x => by
    obtain ⟨q, s, rfl, e1, a, y⟩ := x.cons_of
    rw [List.map_cons, List.map_cons]
    by_cases z : p.1 = k
    · rw [if_pos z, if_pos (e1 ▸ z)]
      exact .cons e1 rv (RepD.repl rv y)
    · rw [if_neg z, if_neg (e1 ▸ z)]
      exact .cons e1 a (RepD.repl rv y)
theorem RepD.any {k : Key} : ∀ {kvs : List (Key × Val)} {ws : List (Key × V)}, RepD K H kvs ws → (kvs.any fun kv => decide (kv.1 = k)) = ws.any fun kv => decide (kv.1 = k)
  | [], ws, x => by rw [x.nil_of]; rfl
  | p :: r, ws, x => by
    obtain ⟨q, s, rfl, e1, a, y⟩ := x.cons_of
    rw [List.any_cons, List.any_cons, RepD.any y, e1]
theorem RepD.snoc {k : Key} {v : Val} {w : V} (rv : Rep K H v w) : ∀ {kvs : List (Key × Val)} {ws : List (Key × V)}, RepD K H kvs ws → RepD K H (kvs ++ [(k, v)]) (ws ++ [(k, w)])
  | [], ws, x => by rw [x.nil_of]; exact .cons rfl rv .nil
  | p :: r, ws, x => by
    obtain ⟨q, s, rfl, e1, a, y⟩ := x.cons_of
    exact .cons e1 a (RepD.snoc rv y)
theorem RepD.put {k : Key} {v : Val} {w : V} {kvs : List (Key × Val)} {ws : List (Key × V)} (x : RepD K H kvs ws) (rv : Rep K H v w) : RepD K H (putD kvs k v) (putK ws k w) := by
  unfold putD putK
  rw [x.any]
  split
  · exact x.repl rv
  · exact x.snoc rv
theorem RepD.up {H' : L2.Hp} {kvs : List (Key × Val)} {ws : List (Key × V)} (x : RepD K H kvs ws) (t : TExt H H') : RepD K H' kvs ws := ⟨x.1, x.2.up t⟩
theorem TExt.dct {p : Addr} {ws : List (Key × V)} {o : HO} (e : H p = some (.dK ws)) : TExt H (upd H p o) :=
  ⟨fun a ob u q => by rw [upd_ne (fun z => by rw [z, e] at q; cases q)]; exact q, fun a u q => by rw [upd_ne (fun z => by rw [z, e] at q; unfold LamX.CodeO at q; cases q)]; exact q⟩
theorem RepH.setD {h : Hg} {p : Addr} {kvs : List (Key × Val)} {us ws : List (Key × V)} (r : RepH K H h) (e0 : H p = some (.dK us)) (s : RepD K H kvs ws) : RepH K (upd H p (.dK ws)) (put h p (.dct kvs)) := fun b u e => by
  by_cases q : b = p
  · subst q; rw [put_same] at e; cases e
    exact ⟨ws, upd_same, s.up (TExt.dct e0)⟩
  · rw [put_ne q] at e
    exact (r b u e).up (TExt.dct e0) (upd_ne q)
theorem RepH.newD {h : Hg} {p : Addr} {kvs : List (Key × Val)} {ws : List (Key × V)} (r : RepH K H h) (n : H p = none) (s : RepD K H kvs ws) : RepH K (upd H p (.dK ws)) (put h p (.dct kvs)) := fun b u e => by
  by_cases q : b = p
  · subst q; rw [put_same] at e; cases e
    exact ⟨ws, upd_same, s.up (TExt.new n)⟩
  · rw [put_ne q] at e
    exact r.new n b u e
end
/-! ### readings and their derivations -/
def wDNew : WE := fun _ h Q _ => ∀ p, h p = none → Q (.ref p) (put h p (.dct []))
def wDGet (Wd Wy : WE) : WE := fun env h Q E => Wd env h (fun x h1 => Wy env h1 (fun y h2 => onDct h2 x fun _ kvs => onSome (keyG y) fun k => onSome (valG kvs k) fun v => Q v h2) E) E
def wDIn (b : Bool) (Wy Wd : WE) : WE := fun env h Q E => Wy env h (fun y h1 => Wd env h1 (fun x h2 => onDct h2 x fun _ kvs => onSome (keyG y) fun k => Q (.bl (if b = true then (valG kvs k).isSome else !(valG kvs k).isSome)) h2) E) E
def wDPut (Wd Wy Wv : WE) : WS := fun D env h => Wv env h (fun v h1 => Wd env h1 (fun x h2 => Wy env h2 (fun y h3 => onDct h3 x fun a kvs => onSome (keyG y) fun k => kvs.length < sizeLine ∧ D.nx env (put h3 a (.dct (putD kvs k v)))) (fun x h' => D.ex x env h')) (fun x h' => D.ex x env h')) (fun x h' => D.ex x env h')
section
variable {X : Cx} {N : List Str} {sc ow : Scope} {o i e : Expr} {pos pos' : Pos} {Wd Wy Wv : WE}
theorem ge_dnew : GE X (.Dict [] [] pos) wDNew := by
  refine ⟨PEimp pe_dnewK ?_⟩
  rintro σ H Q ⟨env, h, q, E, re, rh, tk, w, k⟩ p np
  exact k _ _ _ _ (.new np) (rh.newD np .nil) (.ref p) (w p (rh.free np))
theorem ge_dget (hu : X.A.units + 64 < cLine) (hd : GE X o Wd) (hy : GE X i Wy) (hs : NoSl i := by intro _ _; rfl) : GE X (.Subscript o i pos) (wDGet Wd Wy) := by
  refine ⟨PEimp (pe_dget (by omega) hd.pe hy.pe hs) ?_⟩
  rintro σ H Q ⟨env, h, q, E, re, rh, tk, w, k⟩
  refine ⟨env, h, _, E, re, rh, tk, w, fun x wx h1 H1 t1 rh1 r1 w1 => ?_⟩
  refine ⟨env, h1, _, E, re.up t1, rh1, takesUp t1 tk, w1, fun y wy h2 H2 t2 rh2 r2 w2 => ?_⟩
  obtain ⟨a, kvs, rfl, ea, w2⟩ := onDct_of w2
  obtain ⟨kk, ek, w2⟩ := onSome_of w2
  obtain ⟨v, ev, w2⟩ := onSome_of w2
  obtain ⟨ws, eH, rd⟩ := rh2 a _ ea
  obtain ⟨z, ez, rz⟩ := rd.val ev
  cases r1
  refine ⟨a, z, rfl, ?_, k v z h2 H2 (t1.trans t2) rh2 rz w2⟩
  rw [keyG_rep r2 ek]
  have := DGet.k (k := kk) eH
  rw [ez] at this
  exact this
theorem dinImp (hy : GE X i Wy) (hd : GE X o Wd) : ∀ σ H Q, tG X (wDIn true Wy Wd) σ H Q → tDIn (tG X Wy) (tG X Wd) σ H Q := by
  rintro σ H Q ⟨env, h, q, E, re, rh, tk, w, k⟩
  refine ⟨env, h, _, E, re, rh, tk, w, fun y wy h1 H1 t1 rh1 r1 w1 => ?_⟩
  refine ⟨env, h1, _, E, re.up t1, rh1, takesUp t1 tk, w1, fun x wx h2 H2 t2 rh2 r2 w2 => ?_⟩
  obtain ⟨a, kvs, rfl, ea, w2⟩ := onDct_of w2
  obtain ⟨kk, ek, w2⟩ := onSome_of w2
  obtain ⟨ws, eH, rd⟩ := rh2 a _ ea
  cases r2
  refine ⟨a, valV ws kk, rfl, by rw [keyG_rep (r1.up t2) ek]; exact DGet.k eH, ?_⟩
  rw [rd.valN]
  exact k _ _ h2 H2 (t1.trans t2) rh2 (.bl _) w2
theorem dnotinImp (hy : GE X i Wy) (hd : GE X o Wd) : ∀ σ H Q, tG X (wDIn false Wy Wd) σ H Q → tDNotIn (tG X Wy) (tG X Wd) σ H Q := by
  rintro σ H Q ⟨env, h, q, E, re, rh, tk, w, k⟩
  refine ⟨env, h, _, E, re, rh, tk, w, fun y wy h1 H1 t1 rh1 r1 w1 => ?_⟩
  refine ⟨env, h1, _, E, re.up t1, rh1, takesUp t1 tk, w1, fun x wx h2 H2 t2 rh2 r2 w2 => ?_⟩
  obtain ⟨a, kvs, rfl, ea, w2⟩ := onDct_of w2
  obtain ⟨kk, ek, w2⟩ := onSome_of w2
  obtain ⟨ws, eH, rd⟩ := rh2 a _ ea
  cases r2
  refine ⟨a, valV ws kk, rfl, by rw [keyG_rep (r1.up t2) ek]; exact DGet.k eH, ?_⟩
  rw [rd.valN]
  exact k _ _ h2 H2 (t1.trans t2) rh2 (.bl _) w2
theorem ge_din (hu : X.A.units + 64 < cLine) (hy : GE X i Wy) (hd : GE X o Wd) (hm : behindInMarks .In o = false := by first | exact nomark _ | rfl) : GE X (.Compare i [.In] [o] pos) (wDIn true Wy Wd) :=
  ⟨PEimp (pe_cmp (pc_din (by omega) hy.pe hd.pe) hm) (dinImp hy hd)⟩
theorem ge_dnotin (hu : X.A.units + 64 < cLine) (hy : GE X i Wy) (hd : GE X o Wd) (hm : behindInMarks .NotIn o = false := by first | exact nomark _ | rfl) : GE X (.Compare i [.NotIn] [o] pos) (wDIn false Wy Wd) :=
  ⟨PEimp (pe_cmp (pc_dnotin (by omega) hy.pe hd.pe) hm) (dnotinImp hy hd)⟩
theorem gt_din (hu : X.A.units + 64 < cLine) (hy : GE X i Wy) (hd : GE X o Wd) (hm : behindInMarks .In o = false := by first | exact nomark _ | rfl) : GT X (.Compare i [.In] [o] pos) (wTst (wDIn true Wy Wd)) :=
  ⟨PTimp (pt_cmp (pc_din (by omega) hy.pe hd.pe) hm) (tst_imp (dinImp hy hd))⟩
theorem gt_dnotin (hu : X.A.units + 64 < cLine) (hy : GE X i Wy) (hd : GE X o Wd) (hm : behindInMarks .NotIn o = false := by first | exact nomark _ | rfl) : GT X (.Compare i [.NotIn] [o] pos) (wTst (wDIn false Wy Wd)) :=
  ⟨PTimp (pt_cmp (pc_dnotin (by omega) hy.pe hd.pe) hm) (tst_imp (dnotinImp hy hd))⟩
theorem gs_dput (hu : X.A.units + 64 < cLine) (hd : GE X o Wd) (hy : GE X i Wy) (hv : GE X e Wv) (hs : swapsWith e (some (.Subscript o i pos')) pos.line X.env = pure false := by rfl) : GS X (.Assign [.Subscript o i pos'] e pos) (wDPut Wd Wy Wv) := by
  refine ⟨PSimp (ps_dput (by omega) hd.pe hy.pe hv.pe hs) ?_⟩
  rintro D σ H ⟨env, h, d, re, rh, tk, w, kn, kr, kb, kc⟩
  have tkE := takesE re tk
  refine ⟨env, h, _, _, re, rh, tkE, w, fun v wv h1 H1 t1 rh1 r1 w1 => ?_⟩
  refine ⟨env, h1, _, _, re.up t1, rh1, takesUp t1 tkE, w1, fun x wx h2 H2 t2 rh2 r2 w2 => ?_⟩
  refine ⟨env, h2, _, _, re.up (t1.trans t2), rh2, takesUp (t1.trans t2) tkE, w2, fun y wy h3 H3 t3 rh3 r3 w3 => ?_⟩
  obtain ⟨a, kvs, rfl, ea, w3⟩ := onDct_of w3
  obtain ⟨kk, ek, hl, w3⟩ := onSome_of w3
  obtain ⟨ws, eH, rd⟩ := rh3 a _ ea
  cases r2
  have t4 := ((t1.trans t2).trans t3).trans (TExt.dct (o := .dK (putK ws kk wv)) eH)
  refine ⟨a, _, rfl, by rw [keyG_rep r3 ek]; exact DPut.k eH (by rw [← rd.len]; exact hl), ?_⟩
  exact kn env _ σ _ t4 (re.up t4) (rh3.setD eH (rd.put (r1.up (t2.trans t3)))) w3
end
/-! ### steps -/
section
variable {Wd Wy Wv : WE} {env : Env'} {h : Hg} {Q : KV} {E : KX} {x y v : Val} {a p : Addr} {kvs : List (Key × Val)} {k : Key} {nx : Env' → Hg → Prop} {rt : KV} {ex : XS} {bk ct : Env' → Hg → Prop}
theorem x_dnew (kk : ∀ p, h p = none → Q (.ref p) (put h p (.dct []))) : wDNew env h Q E := kk
theorem x_dget (kk : Wd env h (fun x h1 => Wy env h1 (fun y h2 => onDct h2 x fun _ kvs => onSome (keyG y) fun k => onSome (valG kvs k) fun v => Q v h2) E) E) : wDGet Wd Wy env h Q E := kk
theorem x_din {b : Bool} (kk : Wy env h (fun y h1 => Wd env h1 (fun x h2 => onDct h2 x fun _ kvs => onSome (keyG y) fun k => Q (.bl (if b = true then (valG kvs k).isSome else !(valG kvs k).isSome)) h2) E) E) : wDIn b Wy Wd env h Q E := kk
theorem x_dput (kk : Wv env h (fun v h1 => Wd env h1 (fun x h2 => Wy env h2 (fun y h3 => onDct h3 x fun a kvs => onSome (keyG y) fun k => kvs.length < sizeLine ∧ nx env (put h3 a (.dct (putD kvs k v)))) (fun x h' => ex x env h')) (fun x h' => ex x env h')) (fun x h' => ex x env h')) : wDPut Wd Wy Wv ⟨nx, rt, ex, bk, ct⟩ env h := kk
theorem x_onDct {K : Addr → List (Key × Val) → Prop} (e : dctAt h a = some kvs) (kk : K a kvs) : onDct h (.ref a) K := by
  unfold onDct
  show (match dctAt h a with | some kvs => K a kvs | none => False)
  rw [e]; exact kk
theorem dctAt_put : dctAt (put h a (.dct kvs)) a = some kvs := dctAt_of put_same
theorem dctAt_put' {o : Ob} (n : a ≠ p) (e : dctAt h a = some kvs) : dctAt (put h p o) a = some kvs := by
  unfold dctAt at e ⊢
  rw [put_ne n]; exact e
theorem valG_cons {q : Key × Val} {r : List (Key × Val)} {j : Key} : valG (q :: r) j = if q.1 = j then some q.2 else valG r j := by
  by_cases z : q.1 = j
  · simp [valG, List.find?_cons, z]
  · simp [valG, List.find?_cons, z]
theorem valG_repl (k j : Key) (v : Val) : ∀ kvs : List (Key × Val), valG (kvs.map fun kv => if kv.1 = k then (kv.1, v) else kv) j = if j = k then (valG kvs k).map (fun _ => v) else valG kvs j
  | [] => by
    show (none : Option Val) = _
    split <;> rfl
  | q :: r => by
    have ih := valG_repl k j v r
    rw [List.map_cons, valG_cons, ih, valG_cons, valG_cons]
    by_cases a : q.1 = k
    · rw [if_pos a, if_pos a]
      by_cases b : j = k
      · rw [if_pos (a.trans b.symm), if_pos b]; rfl
      · rw [if_neg (fun z => b (z.symm.trans a)), if_neg b, if_neg b, if_neg (fun z => b (z.symm.trans a))]
    · rw [if_neg a, if_neg a]
      by_cases b : j = k
      · rw [if_neg (fun z => a (z.trans b)), if_pos b, if_pos b]
      · rw [if_neg b, if_neg b]
theorem valG_any (k : Key) : ∀ kvs : List (Key × Val), (kvs.any fun kv => decide (kv.1 = k)) = (valG kvs k).isSome
  | [] => rfl
  | q :: r => by
    rw [List.any_cons, valG_any k r, valG_cons]
    by_cases a : q.1 = k
    · rw [if_pos a, decide_eq_true a]; rfl
    · rw [if_neg a, decide_eq_false a]; rfl
theorem valG_snoc (k j : Key) (v : Val) : ∀ kvs : List (Key × Val), valG kvs k = none → valG (kvs ++ [(k, v)]) j = if j = k then some v else valG kvs j
  | [], _ => by
    rw [List.nil_append, valG_cons]
    by_cases b : j = k
    · rw [if_pos b.symm, if_pos b]
    · rw [if_neg (fun z => b z.symm), if_neg b]
  | q :: r, e => by
    rw [valG_cons] at e
    by_cases a : q.1 = k
    · rw [if_pos a] at e; cases e
    · rw [if_neg a] at e
      have ih := valG_snoc k j v r e
      rw [List.cons_append, valG_cons, ih, valG_cons]
      by_cases b : j = k
      · rw [if_neg (fun z => a (z.trans b)), if_pos b, if_pos b]
      · rw [if_neg b, if_neg b]
theorem valG_put (kvs : List (Key × Val)) (k j : Key) (v : Val) : valG (putD kvs k v) j = if j = k then some v else valG kvs j := by
  unfold putD
  cases e : valG kvs k with
  | none =>
    rw [if_neg (by rw [valG_any, e]; simp)]
    exact valG_snoc k j v kvs e
  | some u =>
    rw [if_pos (by rw [valG_any, e]; rfl), valG_repl, e]
    rfl
theorem putD_len (kvs : List (Key × Val)) (k : Key) (v : Val) : (putD kvs k v).length ≤ kvs.length + 1 := by
  unfold putD
  split
  · rw [List.length_map]; omega
  · rw [List.length_append]; exact Nat.le_refl _
end
end G

set_option Elab.async false
set_option linter.all false
set_option maxRecDepth 100000
set_option maxHeartbeats 4000000
/-! dict comprehensions with keys that are ints and texts -/
namespace G
open PySem PySem.Spec L2
open PyProof.Rows hiding St
def wDc {α : Type} (Wi : WI α) (Wc : WC α) (Wt : WT) (Wk We : WE) (vs : List Nat) : WE := fun env h Q E => Wi env h (fun sq h1 => ∀ p, h1 p = none → ∃ I : Nat → Nat → Hg → Prop, (∃ m, CloH (I 0 m) (put h1 p (.dct []))) ∧ ∀ i m h, I i m h → turnOf (sq i h) (Q (.ref p) h) fun a => Wc a (wipeG env vs) h (fun env2 h2 => Wt env2 h2 (fun b h3 => if b = true then Wk env2 h3 (fun y h4 => We env2 h4 (fun z h5 => onDct h5 (.ref p) fun _ kvs => onSome (keyG y) fun k => kvs.length < sizeLine ∧ CloH (fun h6 => ∃ m', m' < m ∧ I (i + 1) m' h6) (put h5 p (.dct (putD kvs k z)))) (fun _ _ => False)) (fun _ _ => False) else CloH (fun h5 => ∃ m', m' < m ∧ I (i + 1) m' h5) h3) (fun _ _ => False))) E
section
variable {X : Cx} {N : List Str} {sc ow : Scope} {tg kx vx iter : Expr} {ifs : List Expr} {scope : Scope} {own : List (Str × Nat)} {pos : Pos} {α : Type} {R : RI α} {Wi : WI α} {Wc : WC α} {Wt : WT} {Wk We : WE}
theorem dcImp (vs : List Nat) : ∀ σ H Q, tG X (wDc Wi Wc Wt Wk We vs) σ H Q → tDc (tGI X R Wi) (tGc X.K R vs Wc) (tGT0 X.K Wt) (tG0 X.K Wk) (tG0 X.K We) vs σ H Q := by
  rintro σ H0 Q ⟨env, h, q, E, re, rh, tk, w, kont⟩
  refine ⟨env, h, _, E, re, rh, tk, w, fun sq J h1 H1 t01 rh1 jr w1 p np => ?_⟩
  obtain ⟨P, ⟨m0, h0, s0, j0⟩, turn⟩ := w1 p (rh1.free np)
  have t1p : TExt H1 (upd H1 p (.dK [])) := .new np
  have reW := re.wipe vs
  refine ⟨fun i m H => TExt (upd H1 p (.dK [])) H ∧ ∃ h, RepH X.K H h ∧ P i m h, ⟨m0, .refl _, _, (rh1.newD np .nil).sub s0, j0⟩, ?_⟩
  rintro i m H2 ⟨t12, h2, rh2, j2⟩
  have tn := turn i m h2 j2
  have t02 := t01.trans (t1p.trans t12)
  obtain ⟨js, jg⟩ := jr i h2 H2 (t1p.trans t12) rh2
  cases es : sq i h2 with
  | none => rw [es] at tn; exact (show False from tn).elim
  | some o =>
    cases o with
    | none => rw [es] at tn; exact .inl ⟨js es, kont _ _ h2 H2 t02 rh2 (.ref p) tn⟩
    | some a =>
      rw [es] at tn
      obtain ⟨go, yl⟩ := jg a es
      refine .inr ⟨go, fun H' => TExt (upd H1 p (.dK [])) H' ∧ ∃ h', RepH X.K H' h' ∧ ∃ m', m' < m ∧ P (i + 1) m' h', fun H' ⟨t', h', rh', m', lt, j'⟩ => ⟨m', lt, t', h', rh', j'⟩, fun x H3 y => ?_⟩
      obtain ⟨t23, rh3, rx⟩ := yl x H3 y
      refine ⟨a, wipeG env vs, h2, _, rx, reW.up (t02.trans t23), rh3, tn, fun env4 h4 σ4 H4 t34 re4 rh4 wp w4 => ⟨?_, ?_⟩⟩
      · rw [wp]
        exact wipe_sub vs vs fun _ h => h
      · refine ⟨env4, h4, _, re4, rh4, w4, fun b h5 H5 t45 rh5 w5 => ?_⟩
        have t15 := (t12.trans t23).trans (t34.trans t45)
        cases b with
        | false =>
          obtain ⟨h5', s5, w5⟩ := w5
          exact ⟨t15, h5', rh5.sub s5, w5⟩
        | true =>
          refine ⟨env4, h5, _, re4.up t45, rh5, w5, fun y wy h6 H6 t56 rh6 r6 w6 => ?_⟩
          refine ⟨env4, h6, _, re4.up (t45.trans t56), rh6, w6, fun z wz h7 H7 t67 rh7 r7 w7 => ?_⟩
          obtain ⟨p', kvs, e1, e2, w8⟩ := onDct_of w7
          cases e1
          obtain ⟨kk, ek, hl, h8, s8, w8⟩ := onSome_of w8
          obtain ⟨ws, e3, rd⟩ := rh7 _ _ e2
          refine ⟨ws, kk, keyG_rep r6 ek, e3, by rw [← rd.len]; exact hl, ((t15.trans t56).trans t67).trans (TExt.dct e3), _, (rh7.setD e3 (rd.put r7)).sub s8, w8⟩
theorem ge_dc (C : Cn X N sc ow) (own : List (Str × Nat)) (hi : GI X tg iter R Wi)
    (hg : ∀ (s : Shared) (H : L2.Hp) (Cc : Addr) (cl : List (Str × Addr)) (fp : List Addr), Cn (X.blk s H scope (compEnvC scope cl Cc X.env) fp) N (relS scope sc) scope → GC (X.blk s H scope (compEnvC scope cl Cc X.env) fp) tg R (own.map (·.2)) Wc)
    (ht : ∀ (s : Shared) (H : L2.Hp) (Cc : Addr) (cl : List (Str × Addr)) (fp : List Addr), Cn (X.blk s H scope (compEnvC scope cl Cc X.env) fp) N (relS scope sc) scope → GTs (X.blk s H scope (compEnvC scope cl Cc X.env) fp) ifs Wt)
    (hk : ∀ (s : Shared) (H : L2.Hp) (Cc : Addr) (cl : List (Str × Addr)) (fp : List Addr), Cn (X.blk s H scope (compEnvC scope cl Cc X.env) fp) N (relS scope sc) scope → GE (X.blk s H scope (compEnvC scope cl Cc X.env) fp) kx Wk)
    (he : ∀ (s : Shared) (H : L2.Hp) (Cc : Addr) (cl : List (Str × Addr)) (fp : List Addr), Cn (X.blk s H scope (compEnvC scope cl Cc X.env) fp) N (relS scope sc) scope → GE (X.blk s H scope (compEnvC scope cl Cc X.env) fp) vx We)
    (ok : blkC N sc scope own = true := by decide +kernel) (hs : ∀ x, foldedSetIterable iter X.env x = pure x := by intro _; rfl) :
    GE X (.DictComp kx vx [⟨tg, iter, ifs, 0⟩] scope pos) (wDc Wi Wc Wt Wk We (own.map (·.2))) :=
  ⟨PEimp (pe_dc (g := tGc X.K R (own.map (·.2)) Wc) (tt := tGT0 X.K Wt) (tk := tG0 X.K Wk) (tv := tG0 X.K We) C.calm (by rw [C.hN]; exact C.nd) hi.pi (by rw [C.hN, C.hs]; exact blkOk_by ok) (fun s H Cc cl fp => (hg s H Cc cl fp (cn_blk C)).pg) (fun s H Cc cl fp => (ht s H Cc cl fp (cn_blk C)).pt) (fun s H Cc cl fp => (hk s H Cc cl fp (cn_blk C)).zero) (fun s H Cc cl fp => (he s H Cc cl fp (cn_blk C)).zero) hs) (dcImp _)⟩
theorem sw_trueD {gs : List Comprehension} {py : Pos} {y : Str} {l : Nat} {env : Env} (hk : env.scope.kind = .function) (hy : env.scope.names.lookup y = some .local) (hl : (py.line == pos.line) = true)
    (ha : (scope.names.any fun (n, k) => n == y && (k == .local || k == .cell)) = false) : swapsWith (.DictComp kx vx gs scope pos) (some (.Name y py)) l env = pure true := by
  have ky : env.kindOf y = some .local := hy
  have hb : env.blockKind = .function := by unfold Env.blockKind; rw [hk]; rfl
  unfold swapsWith
  simp only [hb, ky, ha, Expr.pos, hl]
  rfl
/-- x = {k: v for ..} on one line -/
theorem ps_setDc {i : Nat} {y : Str} {py spos : Pos} {wi : TI} {g : TG} {tt : TT} {tk tv : TE} (hc : X.calm = true) (hN : X.N.Nodup) (hy : X.N[i]? = some y) (hyl : X.env.scope.names.lookup y = some .local)
    (hsw : swapsWith (.DictComp kx vx [⟨tg, iter, ifs, 0⟩] scope pos) (some (.Name y py)) spos.line X.env = pure true) (hi : PI X tg iter wi) (ok : BlkOk X.N X.env.scope scope own)
    (hg : ∀ (s : Shared) (H : L2.Hp) (C : Addr) (cl : List (Str × Addr)) (fp : List Addr), PG (X.blk s H scope (compEnvC scope cl C X.env) fp) tg g) (ht : ∀ (s : Shared) (H : L2.Hp) (C : Addr) (cl : List (Str × Addr)) (fp : List Addr), PTs (X.blk s H scope (compEnvC scope cl C X.env) fp) ifs tt)
    (hk : ∀ (s : Shared) (H : L2.Hp) (C : Addr) (cl : List (Str × Addr)) (fp : List Addr), PE (X.blk s H scope (compEnvC scope cl C X.env) fp) kx tk)
    (he : ∀ (s : Shared) (H : L2.Hp) (C : Addr) (cl : List (Str × Addr)) (fp : List Addr), PE (X.blk s H scope (compEnvC scope cl C X.env) fp) vx tv) (hs : ∀ x, foldedSetIterable iter X.env x = pure x) :
    PS X (.Assign [.Name y py] (.DictComp kx vx [⟨tg, iter, ifs, 0⟩] scope pos) spos) (tAsg (tDc wi g tt tk tv (own.map (·.2))) (gName i)) := by
  refine ⟨fun pins s σ H D I h => ?_⟩
  rw [exec_Assign_Name_used _ _ _ _ hsw]
  refine wpAny_bind (wpAny_standAt (wpAny_bind ?_))
  show wpAny _ X.A (do let _ ← comprehension (.DictComp kx vx [⟨tg, iter, ifs, 0⟩] scope pos) scope X.env (firstIterPos [⟨tg, iter, ifs, 0⟩] pos) newDict false (eval iter X.env) (some (assign (.Name y py) X.env))) _ _ s
  have h : tDc wi g tt tk tv (own.map (·.2)) σ H (fun x H1 => gName i x σ H1 D.nx) := h
  refine wpAny_bind (thn (dc_core (Qf := fun _ s' => SP X pins D .next s') hc hN I hi ok hg ht hk he hs h fun L C s' m H' I' q hn f => ?_) fun _ s' hq => wpAny_pure (wpAny_pure hq))
  show wpAny _ _ (assign (.Name y py) X.env (.ref L)) _ _ _
  refine wpAny_assign_Name (store_ok2 (v := V.ref L) I' hN hy (.inl hyl) rfl (fun s2 I2 ⟨a, sb, ha⟩ => ?_) (.inr hyl))
  obtain ⟨f0, f1, f2, f3, f4, f5⟩ := f
  have haC : C ≠ a := by
    rcases ha with z | z
    · rw [z]; exact f1
    · exact fun e => f4 y a z e.symm
  refine ⟨m, hn.sameBut sb haC, fun h3 sb3 => ?_⟩
  exact ⟨_, H', I2.turned (t' := s2.toks) (fun b o hb e => (sb3.2 b hb).trans e) f0 f1 f3 f4 f5, q⟩
theorem gs_setDc {x : Str} {py spos : Pos} (C : Cn X N sc ow) (i : Nat) (own : List (Str × Nat)) (hi : GI X tg iter R Wi)
    (hg : ∀ (s : Shared) (H : L2.Hp) (Cc : Addr) (cl : List (Str × Addr)) (fp : List Addr), Cn (X.blk s H scope (compEnvC scope cl Cc X.env) fp) N (relS scope sc) scope → GC (X.blk s H scope (compEnvC scope cl Cc X.env) fp) tg R (own.map (·.2)) Wc)
    (ht : ∀ (s : Shared) (H : L2.Hp) (Cc : Addr) (cl : List (Str × Addr)) (fp : List Addr), Cn (X.blk s H scope (compEnvC scope cl Cc X.env) fp) N (relS scope sc) scope → GTs (X.blk s H scope (compEnvC scope cl Cc X.env) fp) ifs Wt)
    (hk : ∀ (s : Shared) (H : L2.Hp) (Cc : Addr) (cl : List (Str × Addr)) (fp : List Addr), Cn (X.blk s H scope (compEnvC scope cl Cc X.env) fp) N (relS scope sc) scope → GE (X.blk s H scope (compEnvC scope cl Cc X.env) fp) kx Wk)
    (he : ∀ (s : Shared) (H : L2.Hp) (Cc : Addr) (cl : List (Str × Addr)) (fp : List Addr), Cn (X.blk s H scope (compEnvC scope cl Cc X.env) fp) N (relS scope sc) scope → GE (X.blk s H scope (compEnvC scope cl Cc X.env) fp) vx We)
    (hN : N[i]? = some x := by decide +kernel) (hx : sc.names.lookup x = some .local := by decide +kernel) (hk2 : sc.kind = .function := by decide +kernel) (hl : (py.line == pos.line) = true := by decide +kernel) (hu : (scope.names.any fun (n, k) => n == x && (k == .local || k == .cell)) = false := by decide +kernel)
    (ok : blkC N sc scope own = true := by decide +kernel) (hs : ∀ x, foldedSetIterable iter X.env x = pure x := by intro _; rfl) :
    GS X (.Assign [.Name x py] (.DictComp kx vx [⟨tg, iter, ifs, 0⟩] scope pos) spos) (wSet i (wDc Wi Wc Wt Wk We (own.map (·.2)))) := by
  refine ⟨PSimp (ps_setDc (g := tGc X.K R (own.map (·.2)) Wc) (tt := tGT0 X.K Wt) (tk := tG0 X.K Wk) (tv := tG0 X.K We) C.calm (by rw [C.hN]; exact C.nd) (by rw [C.hN]; exact hN) (by rw [C.hs]; exact hx) (sw_trueD (by rw [C.hs]; exact hk2) (by rw [C.hs]; exact hx) hl hu) hi.pi (by rw [C.hN, C.hs]; exact blkOk_by ok) (fun s H Cc cl fp => (hg s H Cc cl fp (cn_blk C)).pg) (fun s H Cc cl fp => (ht s H Cc cl fp (cn_blk C)).pt) (fun s H Cc cl fp => (hk s H Cc cl fp (cn_blk C)).zero) (fun s H Cc cl fp => (he s H Cc cl fp (cn_blk C)).zero) hs) ?_⟩
  rintro D σ H ⟨env, h, d, re, rh, tk, w, kn, kr, kb, kc⟩
  exact dcImp _ σ H _ ⟨env, h, _, _, re, rh, takesE re tk, w, fun v u h1 H1 t1 rh1 r1 w1 => kn _ h1 _ H1 t1 ((re.up t1).set i r1) rh1 w1⟩
end
end G

set_option Elab.async false
set_option linter.all false
set_option maxRecDepth 100000
set_option maxHeartbeats 4000000
/-! sorted of a dict whose keys are ints; a dict comprehension by an invariant -/
namespace G
open PySem PySem.Spec L2
open PyProof.Rows hiding St
def fSortedD : WF := fun vs h Q => match vs with
  | [v] => onDct h v fun _ kvs => ∃ ks : List Int, kvs.map (·.1) = ks.map Sum.inl ∧ ks.length < 64 ∧ ∀ (ms : List Int) (p : Addr), ms.Perm ks → ms.Pairwise (· ≤ ·) → h p = none → Q (.ref p) (put h p (.lst (ms.map Val.int)))
  | _ => False
theorem cSortedD {X : Cx} (hc : X.calm = true) : CallR X (.builtin "sorted") (rCG X.K fSortedD) := by
  rintro pins s σ H xs us Q I rv ⟨vs, h, q, r, rh, w, k⟩
  unfold fSortedD at w
  split at w
  · obtain ⟨u, rfl, r1⟩ := r.one
    obtain ⟨a, kvs, rfl, ea, ks, e1, hl, w1⟩ := onDct_of w
    obtain ⟨ws, eH, rd⟩ := rh a _ ea
    cases r1
    exact call_sortedDI hc pins s σ H _ us Q I rv ⟨a, ws, ks, rfl, .inl eH, rd.1.symm.trans e1, hl, fun ys p p1 p2 np => k _ _ _ _ (.new np) (rh.newL np RepL.ofInts) (.ref _) (w1 ys p p1 p2 (rh.free np))⟩
  · exact w.elim
theorem x_sortedD {h : Hg} {a : Addr} {Q : KV} {kvs : List (Key × Val)} {ks : List Int} (e : dctAt h a = some kvs) (e2 : kvs.map (·.1) = ks.map Sum.inl) (hl : ks.length < 64) (k : ∀ (ms : List Int) (p : Addr), ms.Perm ks → ms.Pairwise (· ≤ ·) → h p = none → Q (.ref p) (put h p (.lst (ms.map Val.int)))) : fSortedD [.ref a] h Q :=
  by
  unfold fSortedD
  exact x_onDct e ⟨ks, e2, hl, k⟩
section
variable {env : Env'} {h : Hg} {Q : KV} {E : KX} {Wt : WT} {Wk We : WE}
theorem x_dc {α : Type} {Wi : WI α} {Wc : WC α} {vs : List Nat} (k : Wi env h (fun sq h1 => ∀ p, h1 p = none → ∃ I : Nat → Nat → Hg → Prop, (∃ m, CloH (I 0 m) (put h1 p (.dct []))) ∧ ∀ i m h, I i m h → turnOf (sq i h) (Q (.ref p) h) fun a => Wc a (wipeG env vs) h (fun env2 h2 => Wt env2 h2 (fun b h3 => if b = true then Wk env2 h3 (fun y h4 => We env2 h4 (fun z h5 => onDct h5 (.ref p) fun _ kvs => onSome (keyG y) fun k => kvs.length < sizeLine ∧ CloH (fun h6 => ∃ m', m' < m ∧ I (i + 1) m' h6) (put h5 p (.dct (putD kvs k z)))) (fun _ _ => False)) (fun _ _ => False) else CloH (fun h5 => ∃ m', m' < m ∧ I (i + 1) m' h5) h3) (fun _ _ => False))) E) : wDc Wi Wc Wt Wk We vs env h Q E := k
/-- a dict comprehension: J by the turn, what stands in the new dict, and the heap without it -/
theorem dc_by {α : Type} {sq : Sq α} {Wc : WC α} {vs : List Nat} {p : Addr} {F : Hg → Prop} (it : Nat → Option α) (n : Nat) (J : Nat → List (Key × Val) → Hg → Prop) (hs : ∀ i acc h', J i acc h' → h' p = none → sq i (put h' p (.dct acc)) = some (it i)) (hn : ∀ i a, it i = some a → i < n) (np : h p = none) (h0 : J 0 [] h)
    (step : ∀ i a acc h', it i = some a → J i acc h' → h' p = none → ∀ Nx : Hg → Prop, (∀ acc' h'' A, J (i + 1) acc' h'' → h'' p = none → Sub (put h'' p (.dct acc')) A → Nx A) →
      Wc a (wipeG env vs) (put h' p (.dct acc)) (fun env2 h2 => Wt env2 h2 (fun b h3 => if b = true then Wk env2 h3 (fun y h4 => We env2 h4 (fun z h5 => onDct h5 (.ref p) fun _ kvs => onSome (keyG y) fun k => kvs.length < sizeLine ∧ Nx (put h5 p (.dct (putD kvs k z)))) (fun _ _ => False)) (fun _ _ => False) else Nx h3) (fun _ _ => False)))
    (fin : ∀ i acc h', it i = none → J i acc h' → h' p = none → F (put h' p (.dct acc))) :
    ∃ I : Nat → Nat → Hg → Prop, (∃ m, CloH (I 0 m) (put h p (.dct []))) ∧ ∀ i m h, I i m h → turnOf (sq i h) (F h) fun a => Wc a (wipeG env vs) h (fun env2 h2 => Wt env2 h2 (fun b h3 => if b = true then Wk env2 h3 (fun y h4 => We env2 h4 (fun z h5 => onDct h5 (.ref p) fun _ kvs => onSome (keyG y) fun k => kvs.length < sizeLine ∧ CloH (fun h6 => ∃ m', m' < m ∧ I (i + 1) m' h6) (put h5 p (.dct (putD kvs k z)))) (fun _ _ => False)) (fun _ _ => False) else CloH (fun h5 => ∃ m', m' < m ∧ I (i + 1) m' h5) h3) (fun _ _ => False)) := by
  refine ⟨fun i m hh => m = n - i ∧ ∃ acc h', hh = put h' p (.dct acc) ∧ h' p = none ∧ J i acc h', ⟨n - 0, _, ⟨fun _ o e => ⟨o, e, .refl o⟩, rfl, [], h, rfl, np, h0⟩⟩, ?_⟩
  rintro i m hh ⟨rfl, acc, h', rfl, np', j⟩
  rw [hs i acc h' j np']
  cases q : it i with
  | none => exact fin i acc h' q j np'
  | some a =>
    have lt := hn i a q
    refine step i a acc h' q j np' _ fun acc' h'' A j' np'' s => ⟨_, s, n - (i + 1), by omega, rfl, acc', h'', rfl, np'', j'⟩
end
end G

set_option Elab.async false
set_option linter.all false
set_option maxRecDepth 100000
set_option maxHeartbeats 4000000
/-! a lambda without parameters handed to a def that calls it -/
namespace G
open PySem PySem.Spec L2
open PyProof.Rows hiding St
/-- what calling the lambda does -/
abbrev WK := Hg → KV → KX → Prop
/-- a(): the lambda f stands in the slot, its code object c is known -/
def wThunk (i : Nat) (f c : Addr) (q : Str) (T : WK) : WE := fun env h Q E => env[i]? = some (some (.ref f)) ∧ h c = some (.cod q) ∧ T h Q E
/-- g(lambda: e), made in the def mk -/
def wLam (Wg : Addr → Addr → Str → WK → WS) (Ng : List Str) (mk : Str) (Wb : WE) : WE := fun env h Q E =>
  (∃ P, h P = some (.tbl mk)) ∧ ∀ f c, h f = none → (h c = none ∨ h c = some (.cod (lamQ mk))) → Wg f c (lamQ mk) (fun h' q e => Wb env h' q e) (dOf Q E) (startG Ng [.ref f]) (put h c (.cod (lamQ mk)))
/-- a def run from a state -/
theorem run_gs {P : Program} {w : World} {K : PySem.W.Frag} {mg : Str → Option Value} {base : Heap} {k : Nat} {f : Addr} {name qual : Str} {params : Arguments} {body : List Stmt} {scope : Scope} {dV kV doc pm cdv ct oc : Value} {an od : Option Addr}
    {osl : Array (Option Value)} {N ps : List Str} {W : WS} (lk : K.lookup f = some ⟨oc, od, .func (PySem.W.fnOf name qual params body scope dV kV doc pm an cdv ct), osl⟩) (hcd : PySem.W.codeIn K cdv qual = true) (S : FnScope N ps scope)
    {A : Around} {outer : List Env} {s : Shared} {H : L2.Hp} {args : Args} {us : List Value} {vs : List V} {Q : VK} {E : XK} (hgd : A.guards = some []) (hr : Room (k + 1) A) (e0 : Env0 P w K mg base A outer s H)
    (hb : BindsTo s (PySem.W.fnOf name qual params body scope dV kV doc pm an cdv ct) args (ps.zip us)) (r : Vals vs us) (hl : vs.length = ps.length)
    (hbody : Cn (cxOf (L2.CX P w) P w K mg base N qual scope f cdv A outer s H E) N scope scope → Fx P w K mg base k (cxOf (L2.CX P w) P w K mg base N qual scope f cdv A outer s H E) → GSs (cxOf (L2.CX P w) P w K mg base N qual scope f cdv A outer s H E) body W)
    {gargs : List Val} {h : Hg} {q : KV} {e : KX} (rl : RepL K H gargs vs) (rh : RepH K H h) (hq : W (dOf q e) (startG N gargs) h) (cQ : ContE K H q Q) (cE : ContX K H e E) :
    codeAny (model P w) A (.call (.ref f) args) (CR (L2.CX P w) outer P w H s Q E) s := by
  have KX : K.In s.heap := e0.mod.kin.keeps fun b o e => (e0.bs b o e).1
  have lim : s.heap.NoLimit := e0.mod.nolimit.keeps fun b o e => (e0.bs b o e).1
  have hkind : ∀ y ∈ ps.zip us, scope.names.lookup y.1 = some .local ∨ (scope.names.lookup y.1 = some .cell ∧ ((cellsFrom (s.heap.objs.size + 1) scope.names []).lookup y.1).isSome = true) := fun ⟨n, v⟩ hy => by
    rcases S.par n (List.of_mem_zip hy).1 with q | q
    · exact .inl q
    · exact .inr ⟨q, PySem.W.cellsFrom_some _ _ _ (.inl q)⟩
  refine codeAny_call_function hr.depth (KX _ _ lk) rfl S.co S.gen rfl (PySem.W.codeRec_of KX hcd) (hb _ _ _ _ ?_)
  refine wpAny_newFunctionEnv_cells S.kind hkind fun env he s1 x => ?_
  subst he
  refine ⟨lim.keeps x.toInCall.keep, codeAny_func ?_⟩
  have I : Inv (cxOf (L2.CX P w) P w K mg base N qual scope f cdv A outer s H E) [] (L2.start N vs) H s1 := inv_start S hr.hd e0 hl r x
  have C : Cn (cxOf (L2.CX P w) P w K mg base N qual scope f cdv A outer s H E) N scope scope := ⟨rfl, S.nd, rfl, rfl, hgd, (hr.deeper _).units, passes_of rfl, fun x hx => ⟨own_of hx, .inl rfl⟩⟩
  have F : Fx P w K mg base k (cxOf (L2.CX P w) P w K mg base N qual scope f cdv A outer s H E) := ⟨rfl, rfl, rfl, rfl, rfl, hr.deeper _, rfl, rfl, rfl⟩
  have tk : Takes (cxOf (L2.CX P w) P w K mg base N qual scope f cdv A outer s H E) (fun cls d _ H' => E cls d H') := takes_of rfl rfl rfl rfl
  have tkG : Takes (cxOf (L2.CX P w) P w K mg base N qual scope f cdv A outer s H E) (XWs K H (dOf q e).ex) := tk.imp fun cls d σ' H' ⟨x, env', h', t, re, rh', rx, h2, s2, z⟩ => cE x h2 H' cls d t (rh'.sub s2) rx z
  refine wpAny_mono ((hbody C F).ps.run [] s1 (L2.start N vs) H { nx := fun _ H' => Q .non H', rt := Q } I ⟨_, h, dOf q e, start_rel rl, rh, tkG, hq, fun env' h' σ' H' t re rh' ⟨h2, s2, z⟩ => cQ .non .non h2 H' t (rh'.sub s2) .non z, fun v w h' H' t rh' r ⟨h2, s2, z⟩ => cQ v w h2 H' t (rh'.sub s2) r z, fun _ _ _ _ _ _ _ z => z, fun _ _ _ _ _ _ _ z => z⟩) (fun fl s' hs => ?_) fun e s' hs => hs
  have fin : ∀ {σ' : L2.St} {H' : L2.Hp} {v : V} {u : Value}, Inv (cxOf (L2.CX P w) P w K mg base N qual scope f cdv A outer s H E) [] σ' H' s' → RelV v u → Q v H' → CE outer P w H s Q u s' :=
    fun {σ' H' v u} J rv q => ⟨v, H', J.os, J.bare, J.base, J.hok, rv, q⟩
  cases fl with
  | ret u =>
    obtain ⟨v, σ', H', J, rv, q⟩ := hs
    exact fin J rv q
  | next =>
    obtain ⟨σ', H', J, q⟩ := hs
    exact fin (v := V.non) (u := Value.none) J rfl q
  | brk =>
    obtain ⟨_, _, _, q⟩ := hs
    exact False.elim q
  | cont =>
    obtain ⟨_, _, _, q⟩ := hs
    exact False.elim q
section
variable {X : Cx} {pins : List (Addr × Obj)} {σ : L2.St} {H : L2.Hp} {s : Shared}
/-- the context of the lambda's body -/
theorem cn_lam {N : List Str} {sc ow : Scope} (C : Cn X N sc ow) {scope : Scope} {f c' : Addr} {A : Around} {outer : List Env} {s1 : Shared} {H1 : L2.Hp} {E : XK} {k : Nat} (L : LamX.LamS X.env.scope scope) (hg : A.guards = some []) (hr : Room k (A.deeper (LamX.lamEnv X scope s1.heap.objs.size f c'))) :
    Cn (LamX.lamCx X A outer s1 H1 E scope f c') N scope scope := by
  refine ⟨C.hN, C.nd, rfl, rfl, hg, hr.units, passes_of rfl, fun x hx => ?_⟩
  exfalso
  rcases own_of hx with z | z
  · exact (L.own _ (PySem.mem_of_lookup z)).1 rfl
  · exact (L.own _ (PySem.mem_of_lookup z)).2 rfl
/-- a() in the def that got the lambda -/
theorem ge_act {N : List Str} {sc ow : Scope} {Ng : List Str} {qg : Str} {sg : Scope} {g f c' : Addr} {cdg pm ctv : Value} {params : Arguments} {body : Expr} {scope : Scope} {k i : Nat} {a : Str} {pn : List (Addr × Obj)} {xe : Value → Shared → Prop} {Eg : XK} {p1 p2 : Pos} {env : Env'} {Wb : WE} (C : Cn X N sc ow)
    (I : Inv X pins σ H s) (re : RelE X.K H env σ) (L : LamX.LamS X.env.scope scope) (hf : s.heap.get? f = some (PySem.W.kla_obj "<lambda>" (X.env.qual ++ "<lambda>") params body scope (cloFrom X.env.cells scope.names []) pm c' ctv)) (hfn : H f = none) (hfr : f ∉ frs X.stack)
    (hbind : bindArgs (PySem.W.kla_fn "<lambda>" (X.env.qual ++ "<lambda>") params body scope (cloFrom X.env.cells scope.names []) pm (.ref c') ctv) ⟨[], []⟩ = pure [])
    (hr : Room (k + 1) (X.A.deeper (envOfC qg sg s.heap.objs.size g cdg)))
    (hbody : ∀ (A : Around) (outer : List Env) (s : Shared) (H : L2.Hp) (E : XK), Room k (A.deeper (LamX.lamEnv X scope s.heap.objs.size f c')) → Cn (LamX.lamCx X A outer s H E scope f c') N scope scope → GE (LamX.lamCx X A outer s H E scope f c') body Wb)
    (hN : Ng[i]? = some a) (hv : Vis sg a) (hd : (a == ("__debug__" : Str)) = false := by decide) (hcd : (a == ("__classdict__" : Str)) = false := by decide) :
    GE ((cxOf (L2.CX X.prog X.w) X.prog X.w X.K X.mg X.base Ng qg sg g cdg X.A X.stack s H Eg).tr pn xe) (.Call (.Name a p1) [] [] p2) (wThunk i f c' (X.env.qual ++ "<lambda>") fun h q e => Wb env h q e) := by
  refine ⟨⟨fun pinsZ sZ σZ HZ Q IZ hz => ?_⟩⟩
  obtain ⟨envZ, h, q, E, reZ, rh, tk, ⟨e1, e2, w⟩, kk⟩ := hz
  have hs : σZ[i]? = some (some (.ref f)) := by
    obtain ⟨u, q1, q2⟩ := reZ.2 i _ e1
    cases q2
    exact q1
  have hc : HZ c' = some (LamX.CodeO c' (X.env.qual ++ "<lambda>")) := rh c' _ e2
  refine wpAny_Call_Name_kw (thn ((pe_var (pos := p1) (i := i) hN hv hd hcd).run pinsZ sZ σZ HZ (fun v H1 => v = .ref f ∧ H1 = HZ) IZ ⟨.ref f, hs, rfl, rfl⟩) fun u s1 ⟨v, H1, I1, r1, q1⟩ => ?_)
  obtain ⟨ev, eH⟩ := q1
  subst ev
  rw [eH] at I1
  obtain rfl : u = Value.ref f := r1
  have of1 : s1.heap.get? f = some (PySem.W.kla_obj "<lambda>" (X.env.qual ++ "<lambda>") params body scope (cloFrom X.env.cells scope.names []) pm c' ctv) := I1.base.keep f _ hf hfn hfr (fun z => nomatch (show f ∈ ([] : List Addr) from z))
  refine PySem.W.callWith_F0 ⟨_, _, _, _, of1⟩ ?_
  have un : Un (frs X.stack) [] H HZ s.heap s1.heap := I1.base
  have fx : FExt H HZ := fun b o u e => un.frzs b o u e
  obtain ⟨⟨oc, vs, t, hoc, hdc, hvc⟩, _, _⟩ := I1.hok c' _ hc
  obtain ⟨Ech, hE⟩ : ∃ Ech : XK, Ech = fun cls d H' => XW X.K HZ σZ E cls d σZ H' := ⟨_, rfl⟩
  have gA : (X.A.deeper (envOfC qg sg s.heap.objs.size g cdg)).guards = some [] := C.guards
  have rc : codeAny (model X.prog X.w) (X.A.deeper (envOfC qg sg s.heap.objs.size g cdg)) (.call (.ref f) ⟨[], []⟩) (CR (L2.CX X.prog X.w) (envOfC qg sg s.heap.objs.size g cdg :: X.stack) X.prog X.w HZ s1 Q Ech) s1 := by
    refine PySem.W.kla_callFunE hr.depth of1 rfl L.co L.gen rfl ⟨c', oc, vs, t, rfl, hoc, hdc, hvc⟩ ?_
    rw [hbind]
    refine wpAny_pure (wpAny_newFunctionEnv (fun y hy => (L.own y hy).2) (fun y hy => absurd hy (by simp)) (fun h₁ hns hsb => ⟨I1.nolimit.fresh _ hsb, ?_⟩) L.kind)
    show codeAny _ _ (.expr body (LamX.lamEnv X scope s1.heap.objs.size f c')) _ _
    have kp : ∀ b o, s1.heap.get? b = some o → h₁.get? b = some o := fun b o e => hsb.extBut b o (Nat.ne_of_lt (Heap.lt_size e)) (Heap.get?_push_of_some _ e)
    have J : Inv (LamX.lamCx X (X.A.deeper (envOfC qg sg s.heap.objs.size g cdg)) (envOfC qg sg s.heap.objs.size g cdg :: X.stack) s1 HZ Ech scope f c') [] σ HZ { s1 with heap := h₁, toks := s1.toks + ([] : List (Str × Value)).length } :=
      LamX.lam_start2 I L I1.env0 hr.hd un hns kp
    have hr2 := hr.deeper (LamX.lamEnv X scope s1.heap.objs.size f c')
    have gb := hbody _ (envOfC qg sg s.heap.objs.size g cdg :: X.stack) s1 HZ Ech hr2 (cn_lam C L gA hr2)
    have tkL : Takes (LamX.lamCx X (X.A.deeper (envOfC qg sg s.heap.objs.size g cdg)) (envOfC qg sg s.heap.objs.size g cdg :: X.stack) s1 HZ Ech scope f c') (fun cls d _ H => Ech cls d H) := takes_of rfl rfl rfl rfl
    refine PySem.W.kla_codeExpr (wpAny_mono (gb.pe.run [] _ _ HZ Q J ⟨env, h, q, E, re.upF fx, rh, tkL.imp fun cls d σ' H' z => ?_, w, kk⟩) (fun v s' hq => ?_) fun e s' hq => hq)
    · obtain ⟨_, x, h', a1, a2, a3, a4⟩ := z
      rw [hE]
      exact ⟨rfl, x, h', a1, a2, a3, a4⟩
    · obtain ⟨w', H', J', rv, q⟩ := hq
      exact ⟨w', H', J'.os, J'.bare, J'.base, J'.hok, rv, q⟩
  refine wpAny_call (codeAny_mono rc fun r s' hq => ?_)
  cases r with
  | error e => exact tk _ _ (XE.of_call (E := Ech) I1 (fun cls d H' z => by rw [hE] at z; exact z) hq)
  | ok fl =>
    cases fl with
    | ret u => exact I1.after hq
    | next => exact False.elim hq
    | brk => exact False.elim hq
    | cont => exact False.elim hq
theorem reph_extN {K : PySem.W.Frag} {H H1 : L2.Hp} {h : Hg} (rh : RepH K H h) (e : LamX.ExtN H H1) (hT : ∀ P x, h P = some (.tbl x) → LamX.TabS H1 P (lamQ x)) : TExt H H1 ∧ RepH K H1 h := by
  have t : TExt H H1 := ⟨fun a o u q => e a _ q (fun ps z => by cases z), fun a u q => e a _ q (fun ps z => by unfold LamX.CodeO at z; cases z)⟩
  refine ⟨t, fun a o ea => ?_⟩
  have r := rh a o ea
  cases o with
  | lst xs => obtain ⟨ws, q, s⟩ := r; exact ⟨ws, e a _ q (fun ps z => by cases z), s.up t⟩
  | pen n => obtain ⟨ws, q, xs, p, s⟩ := r; exact ⟨ws, e a _ q (fun ps z => by cases z), xs, p, s.up t⟩
  | ins n fs => obtain ⟨C, dx, ws, g, q, z, s⟩ := r; exact ⟨C, dx, ws, g, e a _ q (fun ps z => by cases z), z, s.up t⟩
  | dct kvs => obtain ⟨ws, q, z, s⟩ := r; exact ⟨ws, e a _ q (fun ps z => by cases z), z, s.up t⟩
  | dtt kvs => obtain ⟨ws, q, s⟩ := r; exact ⟨ws, e a _ q (fun ps z => by unfold rawT at z; cases z), RepT.up s t⟩
  | tbl x => exact ⟨r.1, hT a x ea⟩
  | cod q => exact e a _ r (fun ps z => by unfold LamX.CodeO at z; cases z)
theorem tab_fun {K : PySem.W.Frag} {x : Str} {c P c' P' : Addr} (a : PySem.W.tabIn K x = some (c, P)) (b : PySem.W.tabIn K x = some (c', P')) : P = P' := by
  rw [a] at b
  cases b
  rfl
theorem ge_lam {k : Nat} {x mk a : Str} {N Ng : List Str} {sc ow : Scope} {st : Stmt} {dV kV : Value} {params : Arguments} {body : Expr} {scope : Scope} {Wg : Addr → Addr → Str → WK → WS} {Wb : WE} {p lpos pos : Pos}
    (C : Cn X N sc ow) (hr : Room (k + 2) X.A) (F : FnAt X.K X.mg x st dV kV) (Sg : FnScope Ng [a] (L2.defScope st))
    (TB : ∃ c P, PySem.W.tabIn X.K mk = some (c, P) ∧ LamX.TabB X.base X.mg c P ∧ X.env.code = .ref c) (hq : X.env.qual = mk ++ ".<locals>.")
    (hG : ∀ (f c : Addr) (q : Str) (T : WK) (Z : Cx), Cn Z Ng (L2.defScope st) (L2.defScope st) → Fx X.prog X.w X.K X.mg X.base (k + 1) Z → (∀ (pn : List (Addr × Obj)) (xe : Value → Shared → Prop) (p1 p2 : Pos), GE (Z.tr pn xe) (.Call (.Name a p1) [] [] p2) (wThunk 0 f c q T)) → GSs Z (L2.defBody st) (Wg f c q T))
    (hbody : ∀ (A : Around) (outer : List Env) (s : Shared) (H : L2.Hp) (E : XK) (f c' : Addr), Room k (A.deeper (LamX.lamEnv X scope s.heap.objs.size f c')) → Cn (LamX.lamCx X A outer s H E scope f c') N scope scope → GE (LamX.lamCx X A outer s H E scope f c') body Wb)
    (hb : ∀ (doc pm : Value) (an : Option Addr) (cdv ct : Value) (u : Value), bindArgs (PySem.W.fnOf x x (L2.defArgs st) (L2.defBody st) (L2.defScope st) dV kV doc pm an cdv ct) ⟨[u], []⟩ = pure [(a, u)])
    (hL : LamX.lamSB sc scope = true := by decide +kernel) (hgl : glbB sc x = true := by decide +kernel) (hN : Ng[0]? = some a := by decide +kernel) (hva : visB (L2.defScope st) a = true := by decide +kernel)
    (hdef : defaultsOf params X.env = ([], []) := by rfl) (hbind : ∀ (q : Str) (cl : List (Str × Addr)) (pm cv ctv : Value), bindArgs (PySem.W.kla_fn "<lambda>" q params body scope cl pm cv ctv) ⟨[], []⟩ = pure [] := by intro _ _ _ _ _; rfl)
    (hdb : (x == ("__debug__" : Str)) = false := by decide +kernel) (hd : (a == ("__debug__" : Str)) = false := by decide +kernel) (hcd : (a == ("__classdict__" : Str)) = false := by decide +kernel) :
    GE X (.Call (.Name x p) [.Lambda params body scope lpos] [] pos) (wLam Wg Ng mk Wb) := by
  refine ⟨⟨fun pins s σ H Q I hz => ?_⟩⟩
  obtain ⟨env, h, q, E, re, rh, tk, ⟨⟨P', hP'⟩, w⟩, kk⟩ := hz
  obtain ⟨g, oc, od, doc, pm, an, cdv, ct, osl, hm, lk, hcg, hk⟩ := F.ex
  obtain ⟨c, P, ht, TB, hcode⟩ := TB
  have eq : X.env.qual ++ "<lambda>" = lamQ mk := by rw [hq]; rfl
  obtain ⟨⟨c0, ht0⟩, hTS⟩ := rh P' _ hP'
  have eP : P' = P := tab_fun ht0 ht
  subst eP
  have L : LamX.LamS X.env.scope scope := LamX.lamS_by (by rw [C.hs]; exact hL)
  obtain ⟨T, hTe⟩ : ∃ T : List (Addr × Str), T = (List.range s.heap.objs.size).filterMap fun P => match h P with
    | some (.tbl y) => some (P, lamQ y)
    | _ => none := ⟨_, rfl⟩
  have memT : ∀ Pq : Addr × Str, Pq ∈ T ↔ Pq.1 < s.heap.objs.size ∧ ∃ y, h Pq.1 = some (.tbl y) ∧ Pq.2 = lamQ y := fun Pq => by
    rw [hTe, List.mem_filterMap]
    constructor
    · rintro ⟨b, hb, e⟩
      split at e
      · rename_i y ey
        cases e
        exact ⟨List.mem_range.mp hb, y, ey, rfl⟩
      · cases e
    · rintro ⟨hb, y, ey, e2⟩
      refine ⟨Pq.1, List.mem_range.mpr hb, ?_⟩
      rw [ey]
      show some (Pq.1, lamQ y) = some Pq
      rw [← e2]
  have lt : ∀ {b : Addr} {o : Ob}, h b = some o → b < s.heap.objs.size := fun {b o} e => by
    by_cases z : b < s.heap.objs.size
    · exact z
    · exact absurd (I.hok.fresh (Nat.le_of_not_lt z)) (rh b o e).there
  have hT : LamX.Tabs T H := fun Pq hp => by
    obtain ⟨_, y, e1, e2⟩ := (memT Pq).mp hp
    obtain ⟨_, z⟩ := rh _ _ e1
    rw [e2]
    exact z
  have hmT : (P', X.env.qual ++ "<lambda>") ∈ T := (memT _).mpr ⟨lt hP', mk, hP', eq⟩
  have hu : ∀ p ∈ T, p.1 = P' → p.2 = X.env.qual ++ "<lambda>" := fun Pq hp e => by
    obtain ⟨_, y, e1, e2⟩ := (memT Pq).mp hp
    rw [e, hP'] at e1
    cases e1
    rw [e2, eq]
  refine wpAny_Call_Name_kw (ld_glob I (C.gl hgl) hm ?_ hdb)
  refine PySem.W.callWith_K (h₀ := X.base) I.ok.mod.kin hk ?_ (by rfl) (by rfl)
  show wpAny _ _ (spliced ((false, eval (.Lambda params body scope lpos) X.env) :: backTo pos (starEach [] X.env))) _ _ s
  refine Calls.spliced_cons (LamX.lam_make2 I TB hcode hmT hu hT hdef (L.has I.ok) fun f c' pm' ctv H1 s' I1 eN T1 hf hfn hfr hco => ?_)
  refine Calls.spliced_nil ⟨I1.kIn, ?_⟩
  obtain ⟨t1, rh1⟩ := reph_extN rh eN fun P y e => T1 (P, lamQ y) ((memT _).mpr ⟨lt e, y, e, rfl⟩)
  rw [eq] at hco
  have hc0 : h c' = none ∨ h c' = some (.cod (lamQ mk)) := by
    cases e : h c' with
    | none => exact .inl rfl
    | some o =>
      right
      have r := rh1 c' o e
      cases o with
      | lst xs => obtain ⟨ws, z, _⟩ := r; rw [hco] at z; unfold LamX.CodeO at z; cases z
      | pen n => obtain ⟨ws, z, _⟩ := r; rw [hco] at z; unfold LamX.CodeO at z; cases z
      | ins n fs => obtain ⟨C, dx, ws, _, z, _⟩ := r; rw [hco] at z; unfold LamX.CodeO at z; cases z
      | dct kvs => obtain ⟨ws, z, _⟩ := r; rw [hco] at z; unfold LamX.CodeO at z; cases z
      | dtt kvs =>
        obtain ⟨ws, z, _⟩ := r
        obtain ⟨⟨o1, v1, u1, a1, a2, a3⟩, _, _⟩ := I1.hok c' _ hco
        obtain ⟨⟨_, _, _, o2, es, ep, b1, _, b2, _⟩, _, _⟩ := I1.hok c' _ z
        rw [a1] at b1
        cases b1
        rw [a2] at b2
        cases b2
      | tbl y => obtain ⟨_, ps, z, _⟩ := r; rw [hco] at z; unfold LamX.CodeO at z; cases z
      | cod q' =>
        obtain ⟨⟨o1, v1, u1, a1, a2, a3⟩, _, _⟩ := I1.hok c' _ hco
        have r : H1 c' = some (LamX.CodeO c' q') := r
        obtain ⟨⟨o2, v2, u2, b1, b2, b3⟩, _, _⟩ := I1.hok c' _ r
        rw [a1] at b1
        cases b1
        rw [a2] at b2
        cases b2
        rw [a3] at b3
        cases b3
        rfl
  have rh2 : RepH X.K H1 (put h c' (.cod (lamQ mk))) := fun b o e => by
    by_cases z : b = c'
    · subst z
      rw [put_same] at e
      cases e
      exact hco
    · rw [put_ne z] at e
      exact rh1 b o e
  have rc : codeAny (model X.prog X.w) X.A (.call (.ref g) ⟨[.ref f], []⟩) (CR (L2.CX X.prog X.w) X.stack X.prog X.w H1 s' Q fun cls d H' => XW X.K H σ E cls d σ H') s' := by
    refine run_gs (N := Ng) (ps := [a]) (us := [.ref f]) (vs := [.ref f]) lk hcg Sg C.guards hr I1.env0 (.of_eq (hb doc pm an cdv ct (.ref f))) (.cons rfl .nil) rfl (fun CZ FZ => hG f c' (lamQ mk) (fun h' q e => Wb env h' q e) _ CZ FZ fun pn xe p1 p2 => ?_) (.cons (.ref f) .nil) rh2 (w f c' (rh1.free hfn) hc0) (kk.up t1) (fun x h' H' cls d t rh' rx z => ⟨rfl, x, h', t1.trans t, rh', rx, z⟩)
    have z := ge_act (i := 0) (g := g) (qg := x) (cdg := cdv) (p1 := p1) (p2 := p2) (pn := pn) (xe := xe) (Eg := fun cls d H' => XW X.K H σ E cls d σ H') C I1 (re.up t1) L hf hfn hfr (hbind _ _ _ _ _) (hr.deeper _) (fun A outer s H E hr2 C2 => hbody A outer s H E f c' hr2 C2) hN (vis_of hva) hd hcd
    rw [eq] at z
    exact z
  refine wpAny_call (codeAny_mono rc fun r s2 hq => ?_)
  cases r with
  | error e => exact tk _ _ (XE.of_call (E := fun cls d H' => XW X.K H σ E cls d σ H') I1 (fun cls d H' z => z) hq)
  | ok fl =>
    cases fl with
    | ret u => exact I1.after hq
    | next => exact False.elim hq
    | brk => exact False.elim hq
    | cont => exact False.elim hq
end
end G

set_option Elab.async false
set_option linter.all false
set_option maxRecDepth 100000
set_option maxHeartbeats 4000000
/-! the law's end where defs make lambdas: their tables stand in the heap -/
namespace G
open PySem PySem.Spec L2
open PyProof.Rows hiding St
abbrev emT : Obj := { cls := .none, data := .fields #[] }
/-- the abstract heap in which a law starts: the tables alone -/
def tabG (cs : List (Str × Addr × Addr)) : Hg := fun a => (cs.find? fun e => e.2.2 == a).map fun e => .tbl e.1
theorem tabG_of {cs : List (Str × Addr × Addr)} {a : Addr} {o : Ob} (e : tabG cs a = some o) : ∃ x c, o = .tbl x ∧ (x, c, a) ∈ cs := by
  unfold tabG at e
  obtain ⟨y, ey, rfl⟩ := Option.map_eq_some_iff.mp e
  have h1 := List.mem_of_find?_eq_some ey
  have h2 := List.find?_some ey
  obtain ⟨x, c, P⟩ := y
  have h2 : (P == a) = true := h2
  rw [beq_iff_eq] at h2
  subst h2
  exact ⟨x, c, rfl, h1⟩
theorem tabG_at {cs : List (Str × Addr × Addr)} (nd : (cs.map fun e => e.2.2).Nodup) {x : Str} {c P : Addr} (h : (x, c, P) ∈ cs) : tabG cs P = some (.tbl x) := by
  unfold tabG
  induction cs with
  | nil => cases h
  | cons y r ih =>
    rw [List.map_cons, List.nodup_cons] at nd
    rw [List.find?_cons]
    rcases List.mem_cons.mp h with z | z
    · subst z
      simp
    · have ne : (y.2.2 == P) = false := by
        rw [beq_eq_false_iff_ne]
        intro q
        exact nd.1 (q ▸ List.mem_map.mpr ⟨_, z, rfl⟩)
      rw [ne]
      exact ih nd.2 z
theorem glawT {P : Program} {w : World} {K : PySem.W.Frag} {mg mb : Str → Option Value} {k : Nat} {fa a : Addr} {fd : FuncData} {x : Str} {sp : Spec} {s₁ : Shared} {vs : List Value} {ns : List Int} {cs : List (Str × Addr × Addr)}
    (KX : K.In s₁.heap) (hns : s₁.heap.Ns mainGlobals mg) (hb : s₁.heap.Ns builtinsNs mb) (hbb : ∀ x : Str, x ≠ "__name__" → mb x = bootBuiltins x) (hlim : s₁.heap.NoLimit) (hg : s₁.gens = #[])
    (ha : s₁.heap.get? a = some { cls := .type "list", data := .seq vs.toArray }) (hi : IntsAre vs ns) (hl : ns.length ≤ sizeLine) (hr : Room k callerA)
    (hT : ∀ e ∈ cs, s₁.heap.get? e.2.2 = some emT) (nT : ∀ e ∈ cs, K.lookup e.2.2 = none) (hC : ∀ e ∈ cs, PySem.W.CodeHd s₁.heap e.2.1 e.2.2) (tT : ∀ e ∈ cs, PySem.W.tabIn K e.1 = some e.2)
    (hbm : ∃ (bm : Addr) (ob : Obj), mg "__builtins__" = some (.ref bm) ∧ bm ≠ builtinsNs ∧ s₁.heap.get? bm = some ob ∧ ob.cls = .type "module" ∧ ob.dict = some builtinsNs ∧ ob.data = .plain)
    (F : ∀ base : Heap, K.In base → base.Ns mainGlobals mg → (∀ e ∈ cs, LamX.TabB base mg e.2.1 e.2.2) → GFn P w K mg base k fa fd [x] sp) (hbind : ∀ (s : Shared) (u : Value), BindsTo s fd ⟨[u], []⟩ [(x, u)])
    (hsp : sp [.scr ns] (tabG cs) (fun v _ => v = .bl true) (fun _ _ => False)) :
    codeAny (model P w) callerA (.call (.ref fa) ⟨[.ref a], []⟩) (fun r s' => r = .ok (.ret (.bool true)) ∧ OldK s₁.heap s'.heap ∧ s'.os = s₁.os ∧ AllBare s'.gens) s₁ := by
  have rv := vals_ints hi
  have lenV := hi.length
  obtain ⟨isT, hisT⟩ : ∃ isT : Addr → Bool, isT = fun b => cs.any fun e => e.2.2 == b := ⟨_, rfl⟩
  have tab_yes : ∀ e ∈ cs, isT e.2.2 = true := fun e he => by
    rw [hisT, List.any_eq_true]
    exact ⟨e, he, beq_iff_eq.mpr rfl⟩
  have tab_of : ∀ b, isT b = true → ∃ e ∈ cs, e.2.2 = b := fun b hb => by
    rw [hisT, List.any_eq_true] at hb
    obtain ⟨e, he, q⟩ := hb
    exact ⟨e, he, beq_iff_eq.mp q⟩
  have tabO : ∀ b, isT b = true → s₁.heap.get? b = some emT := fun b hb => by
    obtain ⟨e, he, rfl⟩ := tab_of b hb
    exact hT e he
  have aT : isT a = false := by
    cases z : isT a with
    | false => rfl
    | true =>
      have q := tabO a z
      rw [ha] at q
      cases q
  -- from an abstract heap of the script (perhaps) and the tables
  have main : ∀ H : L2.Hp, (∀ b, isT b = true → H b = some (.tbl #[])) → (∀ b, isT b = false → b ≠ a → H b = none) → (H a = none ∨ ∃ ob ys, H a = some (.frz ob (.lst ys))) → SqF K H a (ns.map V.int) → HOk P w H s₁.heap → (H a ≠ none → K.lookup a = none) →
      codeAny (model P w) callerA (.call (.ref fa) ⟨[.ref a], []⟩) (fun r s' => r = .ok (.ret (.bool true)) ∧ OldK s₁.heap s'.heap ∧ s'.os = s₁.os ∧ AllBare s'.gens) s₁ := by
    intro H hH hN hA hS hok hK
    have free : ∀ {b : Addr} {o : Obj}, s₁.heap.get? b = some o → (∀ xs n, o.data ≠ .seq xs n) → o.data ≠ .fields #[] → H b = none := fun {b o} e h1 h2 => by
      cases z : isT b with
      | true =>
        have q := tabO b z
        rw [e] at q
        cases q
        exact absurd rfl h2
      | false =>
        by_cases y : b = a
        · subst y
          rw [ha] at e
          cases e
          exact absurd rfl (h1 _ _)
        · exact hN b z y
    have inB : ∀ {b : Addr} {o : Obj}, s₁.heap.get? b = some o → H b = none → (hidT s₁.heap H).get? b = some o := fun e n => hidT_get e n
    have dic : ∀ {b : Addr} {o : Obj} {es : Array DictEntry} {ep : Nat}, s₁.heap.get? b = some o → o.data = .dict es ep → H b = none := fun e d => free e (fun xs n z => by rw [d] at z; cases z) (fun z => by rw [d] at z; cases z)
    have nsB : ∀ {b : Addr} {m : Str → Option Value}, s₁.heap.Ns b m → (hidT s₁.heap H).Ns b m := fun ⟨o, es, ep, e, d, r⟩ => ⟨o, es, ep, inB e (dic e d), d, r⟩
    have kB : K.In (hidT s₁.heap H) := fun b o e => inB (KX b o e) (by
      cases z : isT b with
      | true =>
        obtain ⟨y, hy, rfl⟩ := tab_of b z
        rw [nT y hy] at e
        cases e
      | false =>
        by_cases y : b = a
        · subst y
          cases q : H b with
          | none => rfl
          | some u => rw [hK (by rw [q]; simp)] at e; cases e
        · exact hN b z y)
    have gB := nsB hns
    have TB : ∀ e ∈ cs, LamX.TabB (hidT s₁.heap H) mg e.2.1 e.2.2 := fun e he => by
      refine ⟨?_, ?_, fun z => ?_⟩
      · obtain ⟨o, us, file, tf, flags, tg, inF, text, tt, e1, r1, r2, r3, rr⟩ := hC e he
        exact ⟨o, us, file, tf, flags, tg, inF, text, tt, inB e1 (free e1 (fun xs n z => by rw [r2] at z; cases z) (fun z => by rw [r2] at z; cases z; simp at r3)), r1, r2, r3, rr⟩
      · obtain ⟨bm, ob, b1, b2, b3, b4, b5, b6⟩ := hbm
        have n1 : bm ≠ mainGlobals := fun q => by
          obtain ⟨o, es, ep, e, d, _⟩ := hns
          rw [q, e] at b3
          cases b3
          rw [d] at b6
          cases b6
        have n2 : bm ≠ e.2.2 := fun q => by
          rw [q, hT e he] at b3
          cases b3
          cases b6
        exact ⟨bm, ob, b1, b2, n1, n2, inB b3 (free b3 (fun xs n z => by rw [b6] at z; cases z) (fun z => by rw [b6] at z; cases z)), b4, b5, b6⟩
      · obtain ⟨o, es, ep, e1, d, _⟩ := hns
        rw [z, hT e he] at e1
        cases e1
        cases d
    have modB : Mod K mg (hidT s₁.heap H) := ⟨kB, gB, ⟨mb, nsB hb, hbb⟩, let ⟨mc, h1, h2⟩ := hlim; ⟨mc, nsB h1, h2⟩⟩
    have e0 : Env0 P w K mg (hidT s₁.heap H) callerA [] s₁ H := ⟨rfl, modB, fun b o e => of_hidT e, Nat.le_of_eq (hidT_size _ _), trivial, fun b hb => absurd (show b ∈ ([] : List Addr) from hb) (by simp), hok, .of_eq hg⟩
    have rh : RepH K H (tabG cs) := fun b o e => by
      obtain ⟨y, c, rfl, hm⟩ := tabG_of e
      exact ⟨⟨c, tT _ hm⟩, LamX.TabS.nil (hH b (tab_yes _ hm))⟩
    refine codeAny_mono ((F _ kB gB TB).run callerA [] s₁ H ⟨[.ref a], []⟩ [.ref a] [.ref a] (fun v _ => v = .bl true) (fun _ _ _ => False) rfl hr e0 (hbind s₁ (.ref a)) (.cons rfl .nil)
      ⟨[.scr ns], tabG cs, _, _, .cons (.scr hS) .nil, rh, hsp, fun v u h' H' t rh' r e => (by subst e; cases r; rfl), fun x h' H' cls d t rh' rx z => False.elim z⟩) fun r s' h => ?_
    cases r with
    | error e =>
      obtain ⟨_, _, _, _, _, _, _, _, _, _, _, _, z⟩ := h
      exact False.elim z
    | ok fl =>
      cases fl with
      | next => exact False.elim h
      | brk => exact False.elim h
      | cont => exact False.elim h
      | ret u =>
        obtain ⟨v, H', os, bare, un, hok', r', q⟩ := h
        have q' : v = .bl true := q
        subst q'
        obtain rfl : u = Value.bool true := r'
        have old : ∀ b o, isT b = false → s₁.heap.get? b = some o → s'.heap.get? b = some o := fun b o nb e => by
          by_cases y : b = a
          · subst y
            rcases hA with z | ⟨ob, ys, z⟩
            · exact un.keep b o e z (by intro z; exact absurd (show b ∈ ([] : List Addr) from z) (by simp)) (by simp)
            · obtain ⟨e1, _⟩ := hok b _ z
              obtain ⟨e2, _⟩ := hok' b _ (un.frzs b ob _ z)
              rw [e] at e1
              cases e1
              exact e2
          · exact un.keep b o e (hN b nb y) (by intro z; exact absurd (show b ∈ ([] : List Addr) from z) (by simp)) (by simp)
        have more : ∀ e ∈ cs, ∃ us : Array Value, s'.heap.get? e.2.2 = some { cls := .none, data := .fields us } := fun e he => by
          obtain ⟨m, z⟩ := un.tbls e.2.2 #[] (hH _ (tab_yes e he))
          exact ⟨_, hok' e.2.2 _ z⟩
        refine ⟨rfl, ⟨fun b o e => ?_, fun b o e => ?_⟩, os, bare⟩
        · cases z : isT b with
          | false => exact .inl (old b o z e)
          | true =>
            obtain ⟨y, hy, rfl⟩ := tab_of b z
            obtain ⟨us, hm⟩ := more y hy
            rw [hT y hy] at e
            cases e
            exact .inr (.inl ⟨((hC y hy).tab (hT y hy)).isCodeTable, rfl, #[], us, rfl, by rw [Array.empty_append]; exact hm⟩)
        · cases z : isT b with
          | false => exact ⟨o, old b o z e⟩
          | true =>
            obtain ⟨y, hy, rfl⟩ := tab_of b z
            obtain ⟨us, hm⟩ := more y hy
            exact ⟨_, hm⟩
  cases hk : K.lookup a with
  | some o =>
    have e := KX a o hk
    rw [ha] at e
    cases e
    refine main (fun b => if isT b = true then some (.tbl #[]) else none) (fun b z => if_pos z) (fun b z _ => if_neg (by rw [z]; simp)) (.inl (if_neg (by rw [aT]; simp))) (.inr ⟨_, vs.toArray, _, hk, rfl, rfl, rfl, by rw [List.size_toArray, lenV]; exact hl, by simpa using rv⟩) (fun b u z => ?_) (fun z => absurd (if_neg (by rw [aT]; simp)) z)
    cases y : isT b with
    | true =>
      have z := (if_pos y).symm.trans z
      cases z
      exact tabO b y
    | false =>
      have z := (if_neg (by rw [y]; simp)).symm.trans z
      cases z
  | none =>
    refine main (fun b => if isT b = true then some (.tbl #[]) else if b = a then some (.frz { cls := .type "list", data := .seq vs.toArray } (.lst (ns.map V.int))) else none) (fun b z => if_pos z) (fun b z y => (if_neg (by rw [z]; simp)).trans (if_neg y)) (.inr ⟨_, _, (if_neg (by rw [aT]; simp)).trans (if_pos rfl)⟩) (.inl ⟨_, (if_neg (by rw [aT]; simp)).trans (if_pos rfl)⟩) (fun b u z => ?_) fun _ => hk
    cases y : isT b with
    | true =>
      have z := (if_pos y).symm.trans z
      cases z
      exact tabO b y
    | false =>
      have z := (if_neg (by rw [y]; simp)).symm.trans z
      by_cases e : b = a
      · have z := (if_pos e).symm.trans z
        cases z
        subst e
        exact ⟨ha, by rw [List.length_map]; exact hl, vs, _, rv, ha⟩
      · have z := (if_neg e).symm.trans z
        cases z
theorem gwalk_T {l : PySem.W.OpenLaw} {n k : Nat} {q : Program} {loose : List Str} {XP : (Str → Option Value) → Heap → Prop} {YP : World → Heap → Prop} {d : DefRec} {K : Params → PySem.W.Frag} {sp : Spec} {x : Str} {mks : List Str}
    (hn : l.most = some n) (hn2 : n ≤ sizeLine) (hdf : d.params.defaults = []) (hr : Room k callerA) (hrec : ∀ y ∈ mks, ((PyProof.Rows.recsOf q).find? fun e => e.name == y).isSome = true)
    (hY : ∀ (w : World) (h : Heap), YP w h → (K w.params).In h)
    (F : ∀ (w : World) (mg : Str → Option Value) (fa : Addr) (h : Heap), (K w.params).In h → h.Ns mainGlobals mg → mg d.name = some (.ref fa) →
      ∃ (fd : FuncData) (cs : List (Str × Addr × Addr)), cs.map (·.1) = mks ∧ (cs.map fun e => e.2.2).Nodup ∧ (∀ e ∈ cs, PySem.W.tabIn (K w.params) e.1 = some e.2 ∧ (K w.params).lookup e.2.2 = none) ∧ (∀ (s : Shared) (u : Value), BindsTo s fd ⟨[u], []⟩ [(x, u)]) ∧
        ∀ base : Heap, (K w.params).In base → base.Ns mainGlobals mg → (∀ e ∈ cs, LamX.TabB base mg e.2.1 e.2.2) → GFn l.prog w (K w.params) mg base k fa fd [x] sp)
    (hsp : ∀ (ns : List Int) (h : Hg), ns.length ≤ n → (∀ a o, h a = some o → ∃ y, o = .tbl y) → (∀ y ∈ mks, ∃ P, h P = some (.tbl y)) → sp [.scr ns] h (fun v _ => v = .bl true) (fun _ _ => False)) :
    PySem.W.WalkO q loose XP YP l.row.toRowW d [] (fun f vs => PySem.call f vs) := by
  refine Att.attach_call hn hdf fun w s₀ s₁ mg mb fa o pm cd doc a vs ns G Y ho hd hcd hmg hobj hints hlen hg => ?_
  have KX := hY w _ Y
  obtain ⟨fd, cs, e1, nd, hcs, hb, hF⟩ := F w mg fa _ KX G.T.g hmg
  have tabs : ∀ e ∈ cs, PySem.W.CodeHd s₁.heap e.2.1 e.2.2 ∧ s₁.heap.get? e.2.2 = some emT := fun e he => by
    obtain ⟨r, er⟩ := Option.isSome_iff_exists.mp (hrec e.1 (e1 ▸ List.mem_map.mpr ⟨e, he, rfl⟩))
    exact PySem.W.tab_of G.T KX er (hcs e he).1
  refine glawT KX G.T.g G.T.b G.T.builtins G.T.nolimit hg hobj hints (Nat.le_trans hlen hn2) hr (fun e he => (tabs e he).2) (fun e he => (hcs e he).2) (fun e he => (tabs e he).1) (fun e he => (hcs e he).1) G.T.bmain hF hb (hsp ns _ hlen (fun a o e => ?_) fun y hy => ?_)
  · obtain ⟨y, _, z, _⟩ := tabG_of e
    exact ⟨y, z⟩
  · rw [← e1] at hy
    obtain ⟨⟨y', c, P⟩, he, rfl⟩ := List.mem_map.mp hy
    exact ⟨P, tabG_at nd he⟩
/-- a def's table, from its code -/
theorem tabIn_mk {K : PySem.W.Frag} {x : Str} {f c P : Addr} {oc o1 : Value} {od o2 : Option Addr} {fd : FuncData} {sl o3 : Array (Option Value)} {vs : Array Value} (a : PySem.W.nsIn K mainGlobals x = some (some (.ref f))) (l : K.lookup f = some ⟨oc, od, .func fd, sl⟩) (e : fd.code = .ref c) (l2 : K.lookup c = some ⟨o1, o2, .fields vs, o3⟩) (e2 : vs[11]? = some (.ref P)) : PySem.W.tabIn K x = some (c, P) := by
  unfold PySem.W.tabIn
  simp only [a, l, e, l2, e2]
/-! ### defs that make lambdas -/
theorem gfn_ofL {P : Program} {w : World} {K : PySem.W.Frag} {mg : Str → Option Value} {base : Heap} {k : Nat} {f : Addr} {name qual : Str} {params : Arguments} {body : List Stmt} {scope : Scope} {dV kV doc pm cdv ct oc : Value} {an od : Option Addr}
    {osl : Array (Option Value)} {N ps : List Str} {sp : Spec} {W : WS} (lk : K.lookup f = some ⟨oc, od, .func (PySem.W.fnOf name qual params body scope dV kV doc pm an cdv ct), osl⟩) (hcd : PySem.W.codeIn K cdv qual = true) (S : FnScope N ps scope)
    (len : ∀ args h Q E, sp args h Q E → args.length = ps.length)
    (hbody : ∀ X : Cx, Cn X N scope scope → Fx P w K mg base k X → X.env.qual = qual ++ ".<locals>." → X.env.code = cdv → GSs X body W)
    (hsp : ∀ args h Q E, sp args h Q E → Entry h (W (dOf Q E) (startG N args))) :
    GFn P w K mg base (k + 1) f (PySem.W.fnOf name qual params body scope dV kV doc pm an cdv ct) ps sp := by
  refine ⟨len, fun A outer s H args us vs Q E hgd hr e0 hb r hz => ?_⟩
  obtain ⟨gargs, h, q, e, rl, rh, hs, cQ, cE⟩ := hz
  obtain ⟨h', rh', hq⟩ := hsp gargs h q e hs K H rh
  exact run_gs lk hcd S hgd hr e0 hb r (rl.length.symm.trans (len _ _ _ _ hs)) (fun C F => hbody _ C F rfl rfl) rl rh' hq cQ cE
theorem cal_ofL {P : Program} {w : World} {K : PySem.W.Frag} {mg : Str → Option Value} {base : Heap} {k n : Nat} {x : Str} {st : Stmt} {dV kV : Value} {N ps ks : List Str} {gi : List Nat} {sp : Spec} {W : WS} {c Pt : Addr} (F : FnAt K mg x st dV kV) (KX : K.In base) (G : base.Ns mainGlobals mg) (ht : PySem.W.tabIn K x = some (c, Pt)) (S : FnScope N ps (L2.defScope st))
    (len : ∀ args h Q E, sp args h Q E → args.length = ps.length)
    (hbody : ∀ X : Cx, Cn X N (L2.defScope st) (L2.defScope st) → Fx P w K mg base k X → X.env.qual = x ++ ".<locals>." → X.env.code = .ref c → GSs X (L2.defBody st) W)
    (hsp : ∀ args h Q E, sp args h Q E → Entry h (W (dOf Q E) (startG N args)))
    (hb : ∀ (doc pm : Value) (an : Option Addr) (cdv ct : Value) (us ws : List Value), us.length = n → ws.length = ks.length → bindArgs (PySem.W.fnOf x x (L2.defArgs st) (L2.defBody st) (L2.defScope st) dV kV doc pm an cdv ct) ⟨us, ks.zip ws⟩ = pure (ps.zip (perm gi (us ++ ws)))) :
    Cal P w K mg base (k + 1) x n ks gi sp := by
  obtain ⟨f, oc, od, doc, pm, an, cdv, ct, osl, hm, lk, hc, hk⟩ := F.ex
  have ec : cdv = .ref c := PySem.W.law_code KX G ht hm (KX _ _ lk) rfl
  exact ⟨f, _, ps, hm, hk, gfn_ofL lk hc S len (fun X C F q z => hbody X C F q (z.trans ec)) hsp, fun s us ws _ l1 l2 => .of_eq (hb doc pm an cdv ct us ws l1 l2)⟩
theorem Fx.mono {P : Program} {w : World} {K : PySem.W.Frag} {mg : Str → Option Value} {base : Heap} {j k : Nat} {X : Cx} (F : Fx P w K mg base k X) (h : j ≤ k) : Fx P w K mg base j X := ⟨F.p, F.w, F.kk, F.mg, F.base, F.room.mono h, F.fr⟩
/-! ### steps -/
section
variable {h : Hg} {Q : KV} {E : KX} {env : Env'}
theorem x_thunk {i : Nat} {f c : Addr} {q : Str} {T : WK} (e1 : env[i]? = some (some (.ref f))) (e2 : h c = some (.cod q)) (k : T h Q E) : wThunk i f c q T env h Q E := ⟨e1, e2, k⟩
theorem x_lam {Wg : Addr → Addr → Str → WK → WS} {Ng : List Str} {mk : Str} {Wb : WE} {P : Addr} (e : h P = some (.tbl mk)) (k : ∀ f c, h f = none → (h c = none ∨ h c = some (.cod (lamQ mk))) → Wg f c (lamQ mk) (fun h' q e => Wb env h' q e) (dOf Q E) (startG Ng [.ref f]) (put h c (.cod (lamQ mk)))) : wLam Wg Ng mk Wb env h Q E := ⟨⟨P, e⟩, k⟩
end
end G

set_option Elab.async false
set_option linter.all false
set_option maxRecDepth 100000
set_option maxHeartbeats 4000000
/-! more methods -/
namespace G
open PySem PySem.Spec L2
open PyProof.Rows hiding St
def mClear : WM := fun v vs h Q => match vs with
  | [] => onLst h v fun a _ => Q .non (put h a (.lst []))
  | _ => False
theorem sClear {X : Cx} : MtR X "list.clear" (rMG X.K mClear) := by
  rintro pins s σ H x xs v us Q I rx rxs ⟨vx, vs, h, q, r1, r2, rh, w, k⟩
  unfold mClear at w
  split at w
  · obtain rfl : xs = [] := by cases r2; rfl
    obtain ⟨a, ys, rfl, e, w1⟩ := onLst_of w
    obtain ⟨ws, rfl, h1, l⟩ := lst_of rh r1 e
    exact mt_clear pins s σ H _ _ v us Q I rx rxs ⟨a, ws, rfl, rfl, h1, k _ _ _ _ (.lst h1) (rh.setL h1 .nil) .non w1⟩
  · exact w.elim
theorem x_clear {h : Hg} {Q : KV} {p : Addr} {xs : List Val} (e : lstAt h p = some xs) (k : Q .non (put h p (.lst []))) : mClear (.ref p) [] h Q := by
  show onLst h (.ref p) fun a _ => Q .non (put h a (.lst []))
  exact onLst_at e k
/-! a heap without pens -/
theorem ticks_still {h : Hg} (he : ∀ a n, h a ≠ some (.pen n)) : ∀ t, ticks t h = h
  | 0 => rfl
  | t + 1 => by
    show tick (ticks t h) = h
    rw [ticks_still he t]
    funext a
    unfold tick
    cases e : h a with
    | none => rfl
    | some o =>
      cases o with
      | pen n => exact absurd e (he a n)
      | _ => rfl
theorem pen_ticksT {h : Hg} {p : Addr} {n m t : Nat} (l : m ≤ n - t) (he : ∀ a n, h a ≠ some (.pen n)) : Sub (put h p (.pen m)) (ticks t (put h p (.pen n))) := fun a o e => by
  by_cases z : a = p
  · subst z
    rw [put_same] at e
    cases e
    exact ⟨_, ticks_pen t put_same, .pen l⟩
  · rw [put_ne z] at e
    refine ⟨o, ticks_other (by rw [put_ne z]; exact e) (fun k q => he a k (by rw [e, q])) t, .refl o⟩
end G

set_option Elab.async false
set_option linter.all false
set_option maxRecDepth 100000
set_option maxHeartbeats 4000000
/-! data shown, numbers of up to 60 characters among it -/
namespace G
open PySem PySem.Spec L2
open PyProof.Rows hiding St
mutual
theorem ish_mono : ∀ d : PyData, d.intsShort 13 = true → d.intsShort 62 = true
  | .int i, h => by
    simp only [PyData.intsShort, decide_eq_true_eq] at h ⊢
    omega
  | .none, _ => rfl
  | .bool _, _ => rfl
  | .str _, _ => rfl
  | .tuple xs, h => by simp only [PyData.intsShort] at h ⊢; exact ish_monoL xs h
  | .list xs, h => by simp only [PyData.intsShort] at h ⊢; exact ish_monoL xs h
  | .dict _, _ => rfl
theorem ish_monoL : ∀ ds : List PyData, PyData.intsShortAll 13 ds = true → PyData.intsShortAll 62 ds = true
  | [], _ => rfl
  | d :: ds, h => by
    simp only [PyData.intsShortAll, Bool.and_eq_true] at h ⊢
    exact ⟨ish_mono d h.1, ish_monoL ds h.2⟩
end
structure ShwB (h : Hg) (v : Val) (d : PyData) (k j : Nat) : Prop where
  dat : Dat h v d
  lay : d.canLay0 = true
  sht : d.intsShort 62 = true
  wt : d.weight ≤ k
  shw : d.showable = true
  dep : d.depth ≤ j
structure ShwBL (h : Hg) (vs : List Val) (ds : List PyData) (k j : Nat) : Prop where
  dat : DatL h vs ds
  lay : PyData.canLayAll0 ds = true
  sht : PyData.intsShortAll 62 ds = true
  wt : PyData.weightAll ds ≤ k
  shw : PyData.showableAll ds = true
  dep : PyData.depthAll ds ≤ j
section
variable {h : Hg} {v : Val} {vs : List Val} {d : PyData} {ds : List PyData} {k k' j j' : Nat} {Q : KV}
theorem ShwB.le (x : ShwB h v d k j) (a : k ≤ k') (b : j ≤ j') : ShwB h v d k' j' := ⟨x.dat, x.lay, x.sht, Nat.le_trans x.wt a, x.shw, Nat.le_trans x.dep b⟩
theorem ShwBL.le (x : ShwBL h vs ds k j) (a : k ≤ k') (b : j ≤ j') : ShwBL h vs ds k' j' := ⟨x.dat, x.lay, x.sht, Nat.le_trans x.wt a, x.shw, Nat.le_trans x.dep b⟩
theorem Shw.big (x : Shw h v d k j) : ShwB h v d k j := ⟨x.dat, x.lay, ish_mono d x.sht, x.wt, x.shw, x.dep⟩
theorem ShwL.big (x : ShwL h vs ds k j) : ShwBL h vs ds k j := ⟨x.dat, x.lay, ish_monoL ds x.sht, x.wt, x.shw, x.dep⟩
theorem ShwBL.nil : ShwBL h [] [] 0 0 := ⟨.nil, rfl, rfl, Nat.le_refl _, rfl, Nat.le_refl _⟩
theorem ShwBL.cons (x : ShwB h v d k j) (y : ShwBL h vs ds k' j) : ShwBL h (v :: vs) (d :: ds) (k + 1 + k') j := by
  refine ⟨.cons x.dat y.dat, ?_, ?_, ?_, ?_, ?_⟩
  · simp only [PyData.canLayAll0, x.lay, y.lay, Bool.and_self]
  · simp only [PyData.intsShortAll, x.sht, y.sht, Bool.and_self]
  · simp only [PyData.weightAll]; have := x.wt; have := y.wt; omega
  · simp only [PyData.showableAll, x.shw, y.shw, Bool.and_self]
  · simp only [PyData.depthAll]; have := x.dep; have := y.dep; omega
theorem ShwB.tup (x : ShwBL h vs ds k j) : ShwB h (.tup vs) (.tuple ds) k (j + 1) := by
  refine ⟨.tup x.dat, ?_, ?_, ?_, ?_, ?_⟩
  · simp only [PyData.canLay0]; exact x.lay
  · simp only [PyData.intsShort]; exact x.sht
  · simp only [PyData.weight]; exact x.wt
  · simp only [PyData.showable]; exact x.shw
  · simp only [PyData.depth]; have := x.dep; omega
theorem ShwB.lst {a : Addr} (e : lstAt h a = some vs) (x : ShwBL h vs ds k j) : ShwB h (.ref a) (.list ds) k (j + 1) := by
  refine ⟨.lst (lstAt_eq e) x.dat, ?_, ?_, ?_, ?_, ?_⟩
  · simp only [PyData.canLay0]; exact x.lay
  · simp only [PyData.intsShort]; exact x.sht
  · simp only [PyData.weight]; exact x.wt
  · simp only [PyData.showable]; exact x.shw
  · simp only [PyData.depth]; have := x.dep; omega
theorem ShwB.tup1 (x : ShwB h v d k j) : ShwB h (.tup [v]) (.tuple [d]) (k + 1) (j + 1) := .tup (ShwBL.cons x (ShwBL.nil.le (Nat.le_refl 0) (Nat.zero_le _)))
theorem ShwB.tup2 {u : Val} {e : PyData} (x : ShwB h v d k j) (y : ShwB h u e k' j) : ShwB h (.tup [v, u]) (.tuple [d, e]) (k + 1 + (k' + 1)) (j + 1) := .tup (ShwBL.cons x (ShwBL.cons y (ShwBL.nil.le (Nat.le_refl 0) (Nat.zero_le _))))
theorem ShwB.fits (x : ShwB h v d k j) (a : k ≤ 262000) : d.shown.length ≤ sizeLine := by
  have e := PyData.shown_le 62 (by decide) d (PyData.leavesShort_of_canLay0 62 d x.lay x.sht)
  have w : (62 + 2) * d.weight ≤ 64 * 262000 := Nat.mul_le_mul (by decide) (Nat.le_trans x.wt a)
  rw [sizeLine_eq]
  omega
theorem x_reprB (x : ShwB h v d k j) (a : k ≤ 262000) (b : j ≤ 60) (q : Q (.str d.shown) h) : fRepr [v] h Q :=
  ⟨d, x.dat, x.shw, PyData.hasDict_of_canLay d x.lay, Nat.le_trans x.dep b, x.fits a, q⟩
theorem ShwB.shaped (x : ShwB h v d k j) (b : j ≤ 64) : SeqAt.shaped d = true := by
  unfold SeqAt.shaped
  rw [x.lay, decide_eq_true (Nat.le_trans x.dep b)]
  rfl
theorem x_eqB {u : Val} {e : PyData} (x : ShwB h v d k j) (y : ShwB h u e k' j') (n : eqS v u = none) (a : j ≤ 64) (b : j' ≤ 64) (q : Q (.bl (PyData.eqv d e)) h) : oEq v u h Q := by
  unfold oEq EqD; rw [n]; exact ⟨d, e, x.dat, y.dat, x.shaped a, y.shaped b, q⟩
theorem x_neB {u : Val} {e : PyData} (x : ShwB h v d k j) (y : ShwB h u e k' j') (n : eqS v u = none) (a : j ≤ 64) (b : j' ≤ 64) (q : Q (.bl (!PyData.eqv d e)) h) : oNe v u h Q := by
  unfold oNe EqD; rw [n]; exact ⟨d, e, x.dat, y.dat, x.shaped a, y.shaped b, q⟩
/-- 10 ** 50 and what is no greater -/
theorem ShwB.int {i : Int} (a : i.natAbs < 2 ^ 55) : ShwB h (.int i) (.int i) 60 0 := by
  refine ⟨.int i, rfl, ?_, ?_, ?_, Nat.le_refl _⟩
  · simp only [PyData.intsShort, decide_eq_true_eq]
    have e := int_text_length_le10 (k := 55) (by decide) (show i.natAbs < 10 ^ 55 from Nat.lt_trans a (by decide +kernel))
    show (Str.ofString (toString i)).length ≤ 62
    rw [PySem.ofString_length]
    omega
  · show (if i == 0 then 0 else i.natAbs.log2 + 1) ≤ 60
    split
    · omega
    · have z : i.natAbs ≠ 0 := by simp_all
      have := (Nat.log2_lt z).mpr a
      omega
  · simp only [PyData.showable, decide_eq_true_eq]
    by_cases z : i.natAbs = 0
    · rw [z]; decide
    · have := (Nat.log2_lt z).mpr a
      omega
theorem ShwB.great : ShwB h (.int (10 ^ Int.toNat 50)) (.int (10 ^ 50)) 170 0 := ⟨.int _, rfl, by decide +kernel, by decide +kernel, by decide +kernel, Nat.le_refl _⟩
/-- the lists stay -/
def LSub (h h' : Hg) : Prop := ∀ a xs, h a = some (.lst xs) → h' a = some (.lst xs)
theorem LSub.refl (h : Hg) : LSub h h := fun _ _ e => e
theorem LSub.trans {a b c : Hg} (x : LSub a b) (y : LSub b c) : LSub a c := fun p xs e => y p xs (x p xs e)
theorem Sub.lsub {a b : Hg} (s : Sub a b) : LSub a b := fun p xs e => by
  obtain ⟨o, eo, so⟩ := s p _ e
  cases so
  exact eo
theorem LSub.ticks (h : Hg) (n : Nat) : LSub h (ticks n h) := fun p xs e => ticks_lst e n
theorem LSub.lst {h h' : Hg} {p : Addr} {xs : List Val} (s : LSub h h') (e : lstAt h p = some xs) : lstAt h' p = some xs := lstAt_of (s p _ (lstAt_eq e))
mutual
theorem Dat.lsub {h h' : Hg} (s : LSub h h') : ∀ (v : Val) (d : PyData), Dat h v d → Dat h' v d
  | _, _, .non => .non
  | _, _, .bl b => .bl b
  | _, _, .int i => .int i
  | _, _, .str i => .str i
  | _, _, .tup l => .tup (DatL.lsub s _ _ l)
  | _, _, .lst e l => .lst (s _ _ e) (DatL.lsub s _ _ l)
  | _, _, .scr ns => .scr ns
theorem DatL.lsub {h h' : Hg} (s : LSub h h') : ∀ (vs : List Val) (ds : List PyData), DatL h vs ds → DatL h' vs ds
  | _, _, .nil => .nil
  | _, _, .cons a l => .cons (Dat.lsub s _ _ a) (DatL.lsub s _ _ l)
end
theorem ShwB.lsub {h h' : Hg} (x : ShwB h v d k j) (s : LSub h h') : ShwB h' v d k j := ⟨Dat.lsub s _ _ x.dat, x.lay, x.sht, x.wt, x.shw, x.dep⟩
theorem ShwBL.lsub {h h' : Hg} (x : ShwBL h vs ds k j) (s : LSub h h') : ShwBL h' vs ds k j := ⟨DatL.lsub s _ _ x.dat, x.lay, x.sht, x.wt, x.shw, x.dep⟩
end
end G

set_option Elab.async false
set_option linter.all false
set_option maxRecDepth 100000
set_option maxHeartbeats 4000000
/-! sum of a list of lists, from a list -/
namespace G
open PySem PySem.Spec L2
open PyProof.Rows hiding St
theorem sub_list_str : isSubtype (.type "list") (.type "str") = pure false := by rw [isSubtype_type]; kernel_rfl
theorem sub_list_bytes : isSubtype (.type "list") (.type "bytes") = pure false := by rw [isSubtype_type]; kernel_rfl
theorem sub_list_bytearray : isSubtype (.type "list") (.type "bytearray") = pure false := by rw [isSubtype_type]; kernel_rfl
theorem args_sum2 (a b : Value) : argsOk "sum" ⟨[a, b], []⟩ := by unfold argsOk; kernel_rfl
/-- a list, known to its object -/
abbrev IsLo (h : Heap) (a : Addr) (xs : List Value) : Prop := h.IsList a xs.toArray
theorem IsLo.lt {h : Heap} {a : Addr} {xs : List Value} (x : IsLo h a xs) : a < h.objs.size := let ⟨_, e, _⟩ := x; Heap.lt_size e
theorem IsLo.up {h h' : Heap} {a : Addr} {xs : List Value} (x : IsLo h a xs) (k : ∀ o, h.get? a = some o → h'.get? a = some o) : IsLo h' a xs := let ⟨o, e, r⟩ := x; ⟨o, k o e, r⟩
def NewL (h : Heap) (a : Addr) (xs : List Value) : Prop := ∃ n, h.get? a = some { cls := .type "list", data := .seq xs.toArray n }
theorem NewL.lo {h : Heap} {a : Addr} {xs : List Value} (x : NewL h a xs) : IsLo h a xs := let ⟨n, e⟩ := x; ⟨_, e, rfl, n, rfl⟩
section
variable {prog : Program} {w : World} {A : Around} {E : Value → Shared → Prop} {s : Shared}
theorem addLs {l b : Addr} {vs ws : List Value} {Q : Value → Shared → Prop} (hl : IsLo s.heap l vs) (hb : IsLo s.heap b ws)
    (h : Q (.ref s.heap.objs.size) { s with heap := s.heap.push { cls := .type "list", data := .seq (vs ++ ws).toArray } }) (hsz : vs.length + ws.length ≤ sizeLine) :
    wpAny (model prog w) A (binaryOp .Add (.ref l) (.ref b)) Q E s := by
  obtain ⟨⟨cls, dd, data, sl⟩, ho, hc, n, hd⟩ := id hl
  obtain ⟨⟨cls2, dd2, data2, sl2⟩, ho2, hc2, n2, hd2⟩ := id hb
  simp only at hc hd hc2 hd2
  subst hc hd hc2 hd2
  have e : vs.toArray ++ ws.toArray = (vs ++ ws).toArray := by simp
  refine concat_meets ⟨_, ho, rfl⟩ ⟨_, ho2, rfl⟩ noFill_list_add seq_list_add PySem.F.slot_list_add PySem.F.entry_list_add (PySem.F.args_list_add_2 _ _) (list_addW l b vs.toArray ws.toArray n n2 dd dd2 sl sl2 (by simpa using hsz)) ⟨ho, ho2, ?_⟩
  rw [e]
  exact h
end
section
variable {prog : Program} {w : World} {A : Around} {R : Result → Shared → Prop} {I l S : Addr}
theorem sum_lists (hh : A.in1.handled = none) (hSI : S ≠ I) (hSl : S ≠ l) (hlI : l ≠ I) : ∀ (rest dn : List (Addr × List Value)) (s : Shared) (t : Addr) (acc : List Value) (c : Nat),
    s.heap.IsListIter I l dn.length → s.heap.IsList l ((dn ++ rest).map fun p => Value.ref p.1).toArray →
    s.heap.get? S = some { cls := .type "list", dict := none, data := .seq #[.ref t] c, slots := #[] } → IsLo s.heap t acc → t ≠ S → t ≠ I →
    (∀ p ∈ rest, p.1 ≠ S ∧ p.1 ≠ I ∧ IsLo s.heap p.1 p.2) → acc.length + ((rest.map (·.2)).flatten).length ≤ sizeLine →
    (∀ h' tk t', (∀ b o, b ≠ I → b ≠ S → s.heap.get? b = some o → h'.get? b = some o) → (rest = [] → t' = t) → (rest ≠ [] → s.heap.get? t' = none ∧ NewL h' t' (acc ++ (rest.map (·.2)).flatten)) → R (.ok (.ret (.ref t'))) { s with heap := h', toks := tk }) →
    codeAny (model prog w) A (.builtin "sum.loop" ⟨[.ref I, .ref S, rawInt 2, rawInt 0], []⟩) R s := by
  intro rest
  induction rest with
  | nil =>
    intro dn s t acc c hI hl hS ht htS htI hr hz hR
    rw [List.append_nil] at hl
    refine codeAny_builtin F.entry_sum_loop ?_
    rw [Around.under_plainId F.plain_sum_loop _]
    show wpAny _ A.in1 (seqItems? (.ref S) >>= _) _ _ s
    refine wpAny_bind (wpAny_seqItems hS rfl ?_)
    show wpAny _ A.in1 (tryCatch (pyNext (.ref I)) _ >>= _) _ _ s
    have W := Walks.list (prog := prog) (w := w) hh I l hlI (dn.map fun p => Value.ref p.1).toArray
    have hn : (dn.map fun p => Value.ref p.1).toArray.size = dn.length := by simp
    rw [hn] at W
    refine wpAny_bind (wpAny_tryCatch (W.done s _ _ ⟨hI, hl⟩ fun h' tk hk => ?_))
    exact wpAny_pure (hR h' tk t (fun b o b1 b2 e => hk b o (by simpa using b1) e) (fun _ => rfl) (fun q => absurd rfl q))
  | cons p rest ih =>
    intro dn s t acc c hI hl hS ht htS htI hr hz hR
    obtain ⟨pS, pI, hp⟩ := hr p List.mem_cons_self
    refine codeAny_builtin F.entry_sum_loop ?_
    rw [Around.under_plainId F.plain_sum_loop _]
    show wpAny _ A.in1 (seqItems? (.ref S) >>= _) _ _ s
    refine wpAny_bind (wpAny_seqItems hS rfl ?_)
    show wpAny _ A.in1 (tryCatch (pyNext (.ref I)) _ >>= _) _ _ s
    have W := Walks.list (prog := prog) (w := w) hh I l hlI ((dn ++ p :: rest).map fun p => Value.ref p.1).toArray
    refine wpAny_bind (wpAny_tryCatch (W.item dn.length s _ _ (by simp) ⟨hI, hl⟩ fun v h' tk hP hst' hk => ?_))
    have ev : v = .ref p.1 := by
      have : ((dn ++ p :: rest).map fun p => Value.ref p.1).toArray[dn.length]? = some v := hP
      rw [List.getElem?_toArray, List.getElem?_map, List.getElem?_append_right (Nat.le_refl _), Nat.sub_self] at this
      exact (Option.some.inj this).symm
    subst ev
    have up : ∀ b o, b ≠ I → s.heap.get? b = some o → h'.get? b = some o := fun b o b1 e => hk b o (by simpa using b1) e
    have hS' := up S _ hSI hS
    have ht' : IsLo h' t acc := ht.up fun o => up t o htI
    have hp' : IsLo h' p.1 p.2 := hp.up fun o => up p.1 o pI
    have hz1 : acc.length + p.2.length + ((rest.map (·.2)).flatten).length ≤ sizeLine := by
      rw [List.map_cons, List.flatten_cons, List.length_append] at hz
      omega
    show wpAny _ A.in1 ((holding [Value.ref p.1] (binaryOp .Add (.ref t) (.ref p.1))).attempt >>= _) _ _ _
    refine wpAny_bind (wpAny_attempt (wpAny_holding (addLs (s := { s with heap := h', toks := tk }) ht' hp' ?_ (by omega))))
    have hS1 : (h'.push { cls := .type "list", data := .seq (acc ++ p.2).toArray }).get? S = some _ := Heap.get?_push_of_some _ hS'
    show wpAny _ A.in1 (updateSeq S (fun _ => #[.ref h'.objs.size]) >>= _) _ _ _
    refine wpAny_bind (wpAny_updateSeq hS1 rfl ?_)
    have hS2 := Heap.get?_update_self (Obj.mapSeq fun _ => #[Value.ref h'.objs.size]) hS1 rfl
    refine wpAny_bind (wpAny_letGo ?_)
    have hlt : ∀ {b : Addr} {o : Obj}, s.heap.get? b = some o → b < h'.objs.size := fun {b o} e => by
      by_cases q : b = I
      · subst q
        obtain ⟨oi, hoi, _⟩ := hst'.1
        exact Heap.lt_size hoi
      · exact Heap.lt_size (up b o q e)
    have hSlt : S < h'.objs.size := Heap.lt_size hS'
    have fin : ∀ (g : Heap), (∀ b o, b ≠ S → (h'.push { cls := .type "list", data := .seq (acc ++ p.2).toArray }).get? b = some o → g.get? b = some o) → ∀ c', g.get? S = some { cls := .type "list", dict := none, data := .seq #[.ref h'.objs.size] c', slots := #[] } → codeAny (model prog w) A (.builtin "sum.loop" ⟨[.ref I, .ref S, rawInt 2, rawInt 0], []⟩) R { s with heap := g, toks := tk } := fun g kg c' hg => by
      have kg1 : ∀ b o, b ≠ S → h'.get? b = some o → g.get? b = some o := fun b o q e => kg b o q (Heap.get?_push_of_some _ e)
      have hIS : I ≠ S := fun q => hSI q.symm
      have hNew : NewL g h'.objs.size (acc ++ p.2) := ⟨0, kg _ _ (Nat.ne_of_gt hSlt) (Heap.get?_push_size _ rfl)⟩
      refine ih (dn ++ [p]) { s with heap := g, toks := tk } h'.objs.size (acc ++ p.2) c' ?_ ?_ hg ?_ (Nat.ne_of_gt hSlt) (fun q => ?_) (fun q hq => ?_) (by rw [List.length_append]; omega) fun h2 tk2 t2 hk2 q1 q2 => ?_
      · obtain ⟨oi, h1, h2⟩ := hst'.1
        exact ⟨oi, kg1 I oi hIS h1, by rw [List.length_append, List.length_singleton]; exact h2⟩
      · obtain ⟨ol, h1, h2⟩ := hst'.2
        exact ⟨ol, kg1 l ol (fun q => hSl q.symm) h1, by rw [List.append_assoc]; exact h2⟩
      · exact hNew.lo
      · obtain ⟨oi, h1, _⟩ := hst'.1
        have := Heap.lt_size h1
        exact absurd q (Nat.ne_of_gt this)
      · obtain ⟨a1, a2, e3⟩ := hr q (List.mem_cons_of_mem _ hq)
        exact ⟨a1, a2, e3.up fun o e => kg1 _ o a1 (up _ o a2 e)⟩
      · have base : ∀ b o, b ≠ I → b ≠ S → s.heap.get? b = some o → h2.get? b = some o := fun b o b1 b2 e => hk2 b o b1 b2 (kg1 b o b2 (up b o b1 e))
        refine hR h2 tk2 t2 base (fun q => by cases q) fun _ => ⟨?_, ?_⟩
        rotate_left
        · by_cases hr0 : rest = []
          · subst hr0
            rw [q1 rfl]
            obtain ⟨n, e⟩ := hNew
            have := hk2 _ _ (fun z : h'.objs.size = I => by obtain ⟨oi, h1, _⟩ := hst'.1; exact absurd z (Nat.ne_of_gt (Heap.lt_size h1))) (Nat.ne_of_gt hSlt) e
            exact ⟨n, by simpa using this⟩
          · have := (q2 hr0).2
            rw [List.map_cons, List.flatten_cons, ← List.append_assoc]
            exact this
        have hgI : ∃ o, g.get? I = some o := by
          obtain ⟨oi, h1, _⟩ := hst'.1
          exact ⟨oi, kg1 I oi hIS h1⟩
        cases hc : s.heap.get? t2 with
        | none => rfl
        | some o =>
          exfalso
          have hlt2 : t2 < h'.objs.size := hlt hc
          have hg2 : ∃ o, g.get? t2 = some o := by
            by_cases x : t2 = S
            · exact ⟨_, x ▸ hg⟩
            · by_cases y : t2 = I
              · exact y ▸ hgI
              · exact ⟨o, kg1 _ _ x (up _ _ y hc)⟩
          by_cases hr0 : rest = []
          · rw [q1 hr0] at hlt2
            exact Nat.lt_irrefl _ hlt2
          · have := (q2 hr0).1
            obtain ⟨o2, e2⟩ := hg2
            rw [show ({ s with heap := g, toks := tk } : Shared).heap = g from rfl, e2] at this
            cases this
    refine wpAny_bind (wpAny_updateSeq hS2 rfl (wpAny_pure ⟨plainId_quiet F.plain_sum_loop _, fin _ (fun b o q e => ?_) _ (Heap.get?_update_self _ hS2 rfl)⟩))
    exact (Heap.get?_update_other _ _ (fun z : S = b => q z.symm)).trans ((Heap.get?_update_other _ _ (fun z : S = b => q z.symm)).trans e)
end
section
variable {prog : Program} {w : World} {A : Around} {E : Value → Shared → Prop} {s : Shared} {Q : Value → Shared → Prop}
theorem call_sum_lists {l e : Addr} {rows : List (Addr × List Value)} {acc : List Value} (hh : A.handled = none) (hl : s.heap.IsList l (rows.map fun p => Value.ref p.1).toArray) (he : IsLo s.heap e acc)
    (hr : ∀ p ∈ rows, IsLo s.heap p.1 p.2) (hz : acc.length + ((rows.map (·.2)).flatten).length ≤ sizeLine)
    (h : ∀ h' tk t', (∀ b o, s.heap.get? b = some o → h'.get? b = some o) → (rows = [] → t' = e) → (rows ≠ [] → s.heap.get? t' = none ∧ NewL h' t' (acc ++ (rows.map (·.2)).flatten)) → Q (.ref t') { s with heap := h', toks := tk }) :
    wpAny (model prog w) A (call (.builtin "sum") [.ref l, .ref e]) Q E s := by
  refine call_function_tree F.kind_sum F.plain_sum F.entry_sum (args_sum2 _ _) ?_
  unfold Builtin.«sum»
  simp only [List.length_cons, List.length_nil]
  rw [if_neg (by decide)]
  refine wpAny_bind (wpAny_of_eq (show Builtin.Builtins.bindParams "sum" ["start"] 0 ⟨[.ref e], []⟩ = pure [some (.ref e)] from rfl) ?_)
  refine wpAny_bind (wpAny_pyIter_list hl ?_)
  refine wpAny_bind (wpAny_pure ?_)
  have k1 : ∀ b o, s.heap.get? b = some o → (s.heap.push { cls := .type "list_iterator", data := .fields #[.ref l, .int 0 0] }).get? b = some o := fun b o q => Heap.get?_push_of_some _ q
  have he1 := he.up (fun o => k1 e o)
  have hT : ({ s with heap := s.heap.push { cls := .type "list_iterator", data := .fields #[.ref l, .int 0 0] } } : Shared).TypeIs (.ref e) "list" := he1.typeIs
  simp only [List.forIn_cons, List.forIn_nil]
  refine wpAny_bind (wpAny_bind (wpAny_bind (wpAny_isInstance (T := "list") (b := false) hT sub_list_str ?_)))
  simp only [Bool.false_eq_true, if_false]
  refine wpAny_pure (wpAny_bind (wpAny_bind (wpAny_isInstance (T := "list") (b := false) hT sub_list_bytes ?_)))
  simp only [Bool.false_eq_true, if_false]
  refine wpAny_pure (wpAny_bind (wpAny_bind (wpAny_isInstance (T := "list") (b := false) hT sub_list_bytearray ?_)))
  simp only [Bool.false_eq_true, if_false]
  refine wpAny_pure (wpAny_pure ?_)
  refine wpAny_bind (wpAny_newObj_type ?_)
  have z1 : (s.heap.push { cls := .type "list_iterator", data := .fields #[.ref l, .int 0 0] }).objs.size = s.heap.objs.size + 1 := Heap.size_push ..
  have lt : ∀ {b : Addr} {xs : List Value}, IsLo s.heap b xs → b < s.heap.objs.size := fun x => x.lt
  have hlt : l < s.heap.objs.size := IsLo.lt hl
  have k2 : ∀ b o, s.heap.get? b = some o → ((s.heap.push { cls := .type "list_iterator", data := .fields #[.ref l, .int 0 0] }).push { cls := .type "list", data := .seq #[.ref e] }).get? b = some o := fun b o q => Heap.get?_push_of_some _ (k1 b o q)
  have hIS : s.heap.objs.size + 1 ≠ s.heap.objs.size := Nat.succ_ne_self _
  refine wpAny_pure ⟨plainId_quiet F.plain_sum_loop _, ?_⟩
  show codeAny (model prog w) A (.builtin "sum.loop" ⟨[.ref s.heap.objs.size, .ref (s.heap.push { cls := .type "list_iterator", data := .fields #[.ref l, .int 0 0] }).objs.size, rawInt 2, rawInt 0], []⟩) _ _
  rw [z1]
  refine sum_lists (S := s.heap.objs.size + 1) (I := s.heap.objs.size) (l := l) hh hIS (Nat.ne_of_gt (Nat.lt_succ_of_lt hlt)) (Nat.ne_of_lt hlt) rows [] _ e acc 0 ⟨_, Heap.get?_push_of_some _ (Heap.get?_push_size _ rfl), rfl, rfl⟩ (IsLo.up hl (fun o => k2 l o)) ?_ (he.up (fun o => k2 e o)) ?_ ?_ (fun p hp => ⟨?_, ?_, (hr p hp).up (fun o => k2 p.1 o)⟩) hz fun h' tk t' hk q1 q2 => ?_
  · rw [← z1]
    exact Heap.get?_push_size _ rfl
  · exact Nat.ne_of_lt (Nat.lt_succ_of_lt (lt he))
  · exact Nat.ne_of_lt (lt he)
  · exact Nat.ne_of_lt (Nat.lt_succ_of_lt (lt (hr p hp)))
  · exact Nat.ne_of_lt (lt (hr p hp))
  · refine h h' tk t' (fun b o q => ?_) q1 fun z => ⟨?_, (q2 z).2⟩
    · have z := Heap.lt_size q
      exact hk b o (Nat.ne_of_lt z) (Nat.ne_of_lt (Nat.lt_succ_of_lt z)) (k2 b o q)
    · cases hc : s.heap.get? t' with
      | none => rfl
      | some o =>
        have := (q2 z).1
        rw [show ((s.heap.push { cls := .type "list_iterator", data := .fields #[.ref l, .int 0 0] }).push { cls := .type "list", data := .seq #[.ref e] }).get? t' = some o from k2 t' o hc] at this
        cases this
end
/-- the items of a list of lists -/
def lolOf (h : Hg) : List Val → Option (List (List Val))
  | [] => some []
  | v :: vs => match v with
    | .ref a => match lstAt h a, lolOf h vs with
      | some xs, some r => some (xs :: r)
      | _, _ => none
    | _ => none
def fSumL : WF := fun vs h Q => match vs with
  | [v, .ref e] => onSeq h v fun rs => onSome (lolOf h rs) fun yss => onSome (lstAt h e) fun acc => (∀ ys, v ≠ .tup ys) ∧ acc.length + yss.flatten.length ≤ 1000000 ∧ (rs = [] → Q (.ref e) h) ∧ (rs ≠ [] → ∀ p : Addr, h p = none → Q (.ref p) (put h p (.lst (acc ++ yss.flatten))))
  | _ => False
theorem lol_rep {K : PySem.W.Frag} {H : L2.Hp} {h : Hg} (rh : RepH K H h) : ∀ {vs : List Val} {ws : List V} {yss : List (List Val)}, RepL K H vs ws → lolOf h vs = some yss →
    ∃ rows : List (Addr × List V), ws = rows.map (fun p => V.ref p.1) ∧ (∀ p ∈ rows, H p.1 = some (.lst p.2)) ∧ RepL K H yss.flatten ((rows.map (·.2)).flatten)
  | [], _, yss, .nil, e => by
    cases (show yss = [] from (Option.some.inj e).symm)
    exact ⟨[], rfl, fun _ z => (nomatch z), .nil⟩
  | v :: vs, _, yss, .cons (w := w) (ws := ws) r q, e => by
    unfold lolOf at e
    split at e
    · rename_i a
      split at e
      · rename_i xs r0 e1 e2
        cases e
        obtain ⟨rows, e3, e4, e5⟩ := lol_rep rh q e2
        obtain ⟨us, rfl, h1, h2⟩ := lst_of rh r (lstAt_eq e1)
        refine ⟨(a, us) :: rows, by rw [e3]; rfl, fun p hp => ?_, ?_⟩
        · rcases List.mem_cons.mp hp with rfl | hp
          · exact h1
          · exact e4 p hp
        · rw [List.flatten_cons, List.map_cons, List.flatten_cons]
          exact h2.append e5
      · cases e
    · cases e
section
variable {X : Cx}
theorem valsRefs : ∀ {rows : List (Addr × List V)} {its : List Value}, Vals (rows.map fun p => V.ref p.1) its → its = rows.map fun p => Value.ref p.1
  | [], _, .nil => rfl
  | p :: rows, _, .cons r q => by
    cases r
    rw [valsRefs q]
    rfl
theorem rowsVals {pins : List (Addr × Obj)} {σ : St} {H : L2.Hp} {s : Shared} (I : Inv X pins σ H s) : ∀ (rows : List (Addr × List V)), (∀ p ∈ rows, H p.1 = some (.lst p.2)) →
    ∃ rv : List (Addr × List Value), (rows.map fun p => Value.ref p.1) = rv.map (fun p => Value.ref p.1) ∧ (∀ p ∈ rv, IsLo s.heap p.1 p.2) ∧ Vals ((rows.map (·.2)).flatten) ((rv.map (·.2)).flatten)
  | [], _ => ⟨[], rfl, fun _ z => (nomatch z), .nil⟩
  | p :: rows, hr => by
    obtain ⟨rv, e1, e2, e3⟩ := rowsVals I rows fun q hq => hr q (List.mem_cons_of_mem _ hq)
    obtain ⟨its, r, pl, _⟩ := I.list (SqL.of (hr p List.mem_cons_self))
    refine ⟨(p.1, its) :: rv, by rw [List.map_cons, List.map_cons, e1], fun q hq => ?_, ?_⟩
    · rcases List.mem_cons.mp hq with rfl | hq
      · exact pl.isList
      · exact e2 q hq
    · rw [List.map_cons, List.map_cons, List.flatten_cons, List.flatten_cons]
      exact r.append e3
theorem cSumL (hc : X.calm = true) : CallR X (.builtin "sum") (rCG X.K fSumL) := by
  rintro pins s σ H xs us Q I rv ⟨vs, h, q, r, rh, w, k⟩
  unfold fSumL at w
  split at w
  · rename_i v e
    obtain ⟨u1, u2, rfl, r1, r2⟩ := r.two
    obtain ⟨rs, e1, w1⟩ := onSeq_of w
    obtain ⟨yss, e2, w2⟩ := onSome_of w1
    obtain ⟨acc, e3, nt, hz, w3, w4⟩ := onSome_of w2
    obtain ⟨a, ws, rfl, l, c⟩ := seq_of rh r1 e1
    have c : SqL X.K H a ws := by
      rcases c with c | c
      · exact c.1
      · exact absurd c.2 (nt _)
    obtain ⟨accw, rfl, ha1, ha2⟩ := lst_of rh r2 (lstAt_eq e3)
    obtain ⟨x1, x2, rfl, y1, y2⟩ := vals2 rv
    cases y1
    cases y2
    obtain ⟨rows, ew, hr, hf⟩ := lol_rep rh l e2
    subst ew
    obtain ⟨its, rvl, pl, _⟩ := I.list c
    have eits : its = rows.map fun p => Value.ref p.1 := valsRefs rvl
    subst eits
    obtain ⟨accv, rva, pa, za⟩ := I.list (SqL.of ha1)
    obtain ⟨rowsV, er, hrv, hvf⟩ := rowsVals I rows hr
    rw [er] at pl
    have zz : accv.length + ((rowsV.map (·.2)).flatten).length ≤ sizeLine := by
      rw [← rva.length, ← hvf.length, ← ha2.length, ← hf.length, sizeLine_eq]
      omega
    refine call_sum_lists (I.ok.hd hc) pl.isList pa.isList hrv zz fun h' tk t' hk q1 q2 => ?_
    have hlen : rs.length = rowsV.length := by
      rw [l.length, List.length_map]
      have := congrArg List.length er
      rw [List.length_map, List.length_map] at this
      exact this
    by_cases hrs : rs = []
    · have : rowsV = [] := by
        rw [hrs] at hlen
        exact List.length_eq_zero_iff.mp hlen.symm
      rw [q1 this]
      exact ⟨.ref e, H, I.kept hk, rfl, k _ _ h H (.refl H) rh r2 (w3 hrs)⟩
    · have hne : rowsV ≠ [] := fun z => by
        rw [z] at hlen
        exact hrs (List.length_eq_zero_iff.mp hlen)
      obtain ⟨n1, n2⟩ := q2 hne
      obtain ⟨c2, n2⟩ := n2
      have hn : H t' = none := I.hok.gone n1
      have J : Inv X pins σ (upd H t' (.lst (accw ++ (rows.map (·.2)).flatten))) { s with heap := h', toks := tk } :=
        I.call (ch := []) (Un.laidN hk n1 hn) (I.hok.laidN hk hn ⟨by rw [List.length_append, ← ha2.length, ← hf.length, sizeLine_eq]; omega, _, c2, rva.append hvf, n2⟩) I.bare (fun _ z => nomatch z)
      exact ⟨.ref t', _, J, rfl, k _ _ _ _ (.new hn) (rh.newL hn (ha2.append hf)) (.ref t') (w4 hrs t' (rh.free hn))⟩
  · exact w.elim
theorem x_sumLs {h : Hg} {v : Val} {e : Addr} {Q : KV} {rs acc : List Val} {yss : List (List Val)} (e1 : seqOf h v = some rs) (nt : ∀ ys, v ≠ .tup ys) (e2 : lolOf h rs = some yss) (e3 : lstAt h e = some acc)
    (hz : acc.length + yss.flatten.length ≤ 1000000) (k0 : rs = [] → Q (.ref e) h) (k : rs ≠ [] → ∀ p : Addr, h p = none → Q (.ref p) (put h p (.lst (acc ++ yss.flatten)))) : fSumL [v, .ref e] h Q := by
  show onSeq h v _
  unfold onSeq
  rw [e1]
  show onSome (lolOf h rs) _
  rw [e2]
  show onSome (lstAt h e) _
  rw [e3]
  exact ⟨nt, hz, k0, k⟩
end
end G

set_option Elab.async false
set_option linter.all false
set_option maxRecDepth 100000
set_option maxHeartbeats 4000000
/-! sorted(set(l)) of a list of ints, fewer than 64 -/
namespace G
open PySem PySem.Spec L2
open PyProof.Rows hiding St
section
variable {P : Program} {w : World} {A : Around} {E : Value → Shared → Prop} {s : Shared}
/-- set(l) of a list of ints (turned from the kit's proof for tuples and for lists of texts) -/
theorem call_set_listI {l : Addr} {items : Array Value} (ns : List Int) {Q : Value → Shared → Prop} (hh : A.handled = none) (hl : s.heap.IsList l items) (hit : IntsAre items.toList ns) (hb : ns.length + 1 < scanBound)
    (h : ∀ (h' : Heap) (tk c : Nat), SetR w h' s.heap.objs.size (fun j => decide (j ∈ ns)) c → c ≤ ns.length → (∀ b o, s.heap.get? b = some o → h'.get? b = some o) → Q (.ref s.heap.objs.size) { s with heap := h', toks := tk }) :
    wpAny (model P w) A (call (.type "set") [.ref l]) Q E s := by
  have hisz : items.size = ns.length := by
    have q := IntsAre.length hit
    rw [Array.length_toList] at q
    exact q
  obtain ⟨c, tl, hmro⟩ := F.called_set.mro
  have hmade := F.called_set.made
  have hsub := F.called_set.sub
  refine wpAny_call (codeAny_of_tree ?_)
  show wpAny _ _ (callAny (.type "set") _) _ _ _
  refine wpAny_pure ⟨Code.quiet_builtin _ (by decide +kernel), codeAny_builtin F.entry_type_call ?_⟩
  rw [Around.under_plain (weight_type_call_type "set" [.ref l] []) rfl]
  have h1 := F.called_set.notType
  have h2 := F.called_set.canCreate
  have hct := F.typeCall_set_1 (.ref l)
  repeat (any_goals (first | assumption | wp_step))
  let o0 : Obj := { cls := .type "set", dict := none, data := .set #[] 0 (.fresh 0 0 (!w.params.followText "set-order")) }
  refine codeAny_mono (code_set_led1 (.ref l) (E := E) (Q₁ := fun obj s₁ => obj = .ref s.heap.objs.size ∧ s₁ = { s with heap := s.heap.push o0 }) ⟨rfl, rfl⟩) fun r s₁ hr => ?_
  cases r with
  | error e => exact hr
  | ok fl =>
    cases fl with
    | ret obj =>
      obtain ⟨rfl, rfl⟩ := hr
      have hS : (s.heap.push o0).get? s.heap.objs.size = some o0 := Heap.get?_push_size _ rfl
      have hT : Shared.TypeIs { s with heap := s.heap.push o0 } (.ref s.heap.objs.size) "set" := ⟨_, hS, rfl⟩
      have hli := F.called_set.init.lookup
      have hbi := F.called_set.init.bind (.ref s.heap.objs.size)
      repeat (any_goals (first | assumption | wp_step))
      refine codeAny_mono (codeAny_call_builtin (R := wants (fun r s₂ => r = .none ∧ ∃ h' tk c, s₂ = { s with heap := h', toks := tk } ∧ SetR w h' s.heap.objs.size (fun j => decide (j ∈ ns)) c ∧ c ≤ ns.length ∧
          (∀ b o, s.heap.get? b = some o → h'.get? b = some o)) E) F.called_set.init.plain F.entry_set_init (check_set_init_1 hT ?_)) fun r₂ s₂ hr₂ => ?_
      · obtain ⟨⟨ocls, odict, odata, oslots⟩, hol, hcl, nl, hdl⟩ := hl
        simp only at hcl hdl
        subst hcl; subst hdl
        have hol' : (s.heap.push o0).get? l = some { cls := .type "list", dict := odict, data := .seq items nl, slots := oslots } := Heap.get?_push_of_some _ hol
        have hsls := F.sub_list_set
        have hslf := F.sub_list_frozenset
        have hne : (Value.type "list" == Value.type "dict") = false := by decide
        have hl1 : (s.heap.push o0).IsList l items := ⟨_, hol', rfl, nl, rfl⟩
        unfold Builtin.«set.__init__» noKeywords Builtin.Frozenset.updateFrom
        generalize hPI : pyIter = PI
        wp_walk
        subst hPI
        refine wpAny_pyIter_list hl1 ?_
        refine wpAny_bind (wpAny_runValue ?_)
        have hlS : l < s.heap.objs.size := Heap.lt_size hol
        have hh3 : A.in1.in1.in1.handled = none := by simp [hh]
        have hneI : l ≠ (s.heap.push o0).objs.size := by
          rw [Heap.size_push]; exact Nat.ne_of_lt (Nat.lt_succ_of_lt hlS)
        have hSf : s.heap.objs.size ∉ [(s.heap.push o0).objs.size, l] := by
          rw [Heap.size_push]; simp only [List.mem_cons, List.mem_singleton, List.not_mem_nil, or_false, not_or]
          exact ⟨Nat.ne_of_lt (Nat.lt_succ_self _), Nat.ne_of_gt hlS⟩
        have hval : ∀ (i : Nat) (v : Value), items[i]? = some v → ∃ k t, ns[i]? = some k ∧ v = .int k t := fun i v hv => by
          have hi : i < ns.length := by rw [← hisz]; exact (Array.getElem?_eq_some_iff.mp hv).1
          obtain ⟨t, e⟩ := PyProof.Rows.IntsAre.int_at hit i v (by rw [Array.getElem?_toList]; exact hv)
          refine ⟨ns[i], t, List.getElem?_eq_getElem hi, ?_⟩
          rw [e, List.getD_eq_getElem?_getD, List.getElem?_eq_getElem hi] <;> rfl
        refine set_update_ints ((Walks.list hh3 _ l hneI items).toS) s.heap.objs.size hSf ns hisz hb hval (items.size - 0) 0 _ (by omega) (Nat.zero_le _) ⟨⟨_, Heap.get?_push_size _ rfl, rfl, rfl⟩, (hl1.push _)⟩ ⟨0, Nat.le_refl 0, setR_new_at (Heap.get?_push_of_some _ hS)⟩ ?_
        intro s' c' hm hc' hS'
        obtain ⟨h', g2, d', tk', os'⟩ := s'
        have eg : g2 = s.gens := hm.gens
        have ed : d' = s.drawn := hm.drawn
        have eo : os' = s.os := hm.os
        subst eg; subst ed; subst eo
        show wpAny _ _ _ _ _ _
        refine wpAny_pure ?_
        show wpAny _ _ (ret Value.none) _ _ _
        rw [hisz] at hc'
        refine wpAny_pure ⟨rfl, h', tk', c', rfl, hS', hc', fun b o e => ?_⟩
        have hb0 : b < s.heap.objs.size := Heap.lt_size e
        have hb2 : b ≠ (s.heap.push o0).objs.size := by
          rw [Heap.size_push]; exact Nat.ne_of_lt (Nat.lt_succ_of_lt hb0)
        exact hm.heap b o (by simp only [List.mem_cons, List.mem_singleton, List.not_mem_nil, or_false, not_or]; exact ⟨Nat.ne_of_lt hb0, hb2⟩) (Heap.get?_push_of_some _ (Heap.get?_push_of_some _ e))
      · cases r₂ with
        | error e => exact hr₂
        | ok fl₂ =>
          cases fl₂ with
          | ret r =>
            obtain ⟨rfl, h', tk, c', rfl, hS', hc', hk'⟩ := hr₂
            repeat (any_goals (first | assumption | wp_step))
            exact h _ _ _ hS' hc' hk'
          | _ => exact hr₂.elim
    | _ => exact hr.elim
end
section
variable {X : Cx} {N : List Str} {sc ow : Scope}
/-- few different ints -/
def SetFew (ns : List Int) : Prop := ns.length < 4000 ∧ ∀ l : List Int, l.Nodup → (∀ k ∈ l, k ∈ ns) → l.length < 64
theorem SetFew.of {ns : List Int} (f : SetFew ns) {w : World} {h : Heap} {a : Addr} {c : Nat} (R : SetR w h a (fun j => decide (j ∈ ns)) c) : c < 64 := by
  obtain ⟨o, es, ep, t, ho, hx, hd, g, nd, hm, hb, hf, hn, _⟩ := R
  have := f.2 _ nd fun k hk => of_decide_eq_true ((hm k).mpr hk)
  rw [List.length_map, Array.length_toList] at this
  omega
theorem len_of_nodup {α : Type} [BEq α] [LawfulBEq α] : ∀ {l m : List α}, l.Nodup → (∀ k ∈ l, k ∈ m) → l.length ≤ m.length
  | [], _, _, _ => Nat.zero_le _
  | a :: l, m, nd, h => by
    obtain ⟨n1, n2⟩ := List.nodup_cons.mp nd
    have ha := h a List.mem_cons_self
    have := len_of_nodup (m := m.erase a) n2 fun k hk => (List.mem_erase_of_ne fun e => n1 (by rw [← e]; exact hk)).mpr (h k (List.mem_cons_of_mem _ hk))
    rw [List.length_erase_of_mem ha] at this
    have := List.length_pos_of_mem ha
    rw [List.length_cons]
    omega
theorem SetFew.small {ns : List Int} (h : ns.length < 63) : SetFew ns := ⟨by omega, fun l nd hl => by have := len_of_nodup nd hl; omega⟩
def tSortSet (K : PySem.W.Frag) (ta : TE) : TE := fun σ H Q => ta σ H fun x H1 => ∃ (l : Addr) (ns : List Int), x = .ref l ∧ (SqL K H1 l (ns.map V.int) ∨ SqT K H1 l (ns.map V.int)) ∧ SetFew ns ∧
  ∀ (ms : List Int) (p : Addr), ms.Pairwise (· < ·) → (∀ k, k ∈ ms ↔ k ∈ ns) → H1 p = none → Q (.ref p) (upd H1 p (.lst (ms.map V.int)))
theorem pe_sortSet {a : Expr} {ta : TE} {p p2 q pos : Pos} (hc : X.calm = true) (hg : Gl X "sorted") (hm : X.mg "sorted" = none) (hg2 : Gl X "set") (hm2 : X.mg "set" = none) (ha : PE X a ta)
    (na : starEach [a] X.env = (false, eval a X.env) :: starEach [] X.env := by rfl) : PE X (.Call (.Name "sorted" p) [.Call (.Name "set" p2) [a] [] q] [] pos) (tSortSet X.K ta) := by
  refine ⟨fun pins s σ H Q I h => ?_⟩
  refine Call_ (ld_blt I hg hm (show bootBuiltins "sorted" = some (.builtin "sorted") by decide +kernel) ?_)
  refine PyProof.Rows.callWith_builtin1 (PyProof.Rows.args_cons ?_ rfl) rfl rfl
  refine Call_ (ld_blt I hg2 hm2 boot_set ?_)
  refine PyProof.Rows.callWith_type1 (PyProof.Rows.args_cons (thn (ha.run pins s σ H _ I h) fun v s1 ⟨x, H1, I1, r1, q1⟩ => PyProof.Rows.args_nil ?_) na) na rfl
  obtain ⟨l, ns, rfl, hq, hz, q1⟩ := q1
  cases r1
  rcases hq with hq | hq
  · obtain ⟨its, rv, pl, _⟩ := I1.list hq
    refine call_set_listI ns (I1.ok.hd hc) pl.isList (by simpa using rv.ints) (by have := hz.1; unfold scanBound; omega) fun h' tk c hS hcn hk => ?_
    refine PyProof.Rows.args_nil ?_
    have I2 : Inv X pins σ H1 { s1 with heap := h', toks := tk } := I1.kept hk
    refine sorted_set hS (I2.ok.hd hc) (hz.of hS) fun s' pp out cc ms k g o hp hgt hi hs2 hm2 hl => ?_
    have hn : H1 pp = none := I2.hok.fresh hp
    have hlen : (ms.map V.int).length ≤ sizeLine := by have := hz.of hS; rw [List.length_map, hl, sizeLine_eq]; omega
    have J := I2.call (h' := s'.heap) (g' := s'.gens) (d' := s'.drawn) (t' := s'.toks) (ch := []) (Un.laid k hp hn) (I2.hok.laid k hp (show ObjOk X.prog X.w _ _ _ (.lst (ms.map V.int)) from ⟨hlen, out.toList, cc, vals_of_ints hi, hgt⟩)) (by rw [g]; exact I2.bare) (fun _ z => nomatch z)
    have e : s' = { heap := s'.heap, gens := s'.gens, drawn := s'.drawn, toks := s'.toks, os := s1.os } := by
      cases s'
      cases o
      rfl
    rw [e]
    exact ⟨.ref pp, _, J, rfl, q1 ms pp hs2 (fun k => by rw [hm2]; exact decide_eq_true_iff) hn⟩
  · obtain ⟨its, rv, pl, _⟩ := I1.tuple hq
    refine call_set_tupI ns (I1.ok.hd hc) pl (by simpa using rv.ints) (by have := hz.1; unfold scanBound; omega) fun h' tk c hS hcn hk => ?_
    refine PyProof.Rows.args_nil ?_
    have I2 : Inv X pins σ H1 { s1 with heap := h', toks := tk } := I1.kept hk
    refine sorted_set hS (I2.ok.hd hc) (hz.of hS) fun s' pp out cc ms k g o hp hgt hi hs2 hm2 hl => ?_
    have hn : H1 pp = none := I2.hok.fresh hp
    have hlen : (ms.map V.int).length ≤ sizeLine := by have := hz.of hS; rw [List.length_map, hl, sizeLine_eq]; omega
    have J := I2.call (h' := s'.heap) (g' := s'.gens) (d' := s'.drawn) (t' := s'.toks) (ch := []) (Un.laid k hp hn) (I2.hok.laid k hp (show ObjOk X.prog X.w _ _ _ (.lst (ms.map V.int)) from ⟨hlen, out.toList, cc, vals_of_ints hi, hgt⟩)) (by rw [g]; exact I2.bare) (fun _ z => nomatch z)
    have e : s' = { heap := s'.heap, gens := s'.gens, drawn := s'.drawn, toks := s'.toks, os := s1.os } := by
      cases s'
      cases o
      rfl
    rw [e]
    exact ⟨.ref pp, _, J, rfl, q1 ms pp hs2 (fun k => by rw [hm2]; exact decide_eq_true_iff) hn⟩
def sortSetP (v : Val) (h1 : Hg) (Q : KV) : Prop := onSeq h1 v fun xs => onSome (intsOf xs) fun ns => SetFew ns ∧ ∀ (ms : List Int) (p : Addr), ms.Pairwise (· < ·) → (∀ k, k ∈ ms ↔ k ∈ ns) → h1 p = none → Q (.ref p) (put h1 p (.lst (ms.map Val.int)))
def wSortSet (We : WE) : WE := fun env h Q E => We env h (fun v h1 => sortSetP v h1 Q) E
theorem ge_sortSet {a : Expr} {We : WE} {p p2 q pos : Pos} (C : Cn X N sc ow) (hm : X.mg "sorted" = none) (hm2 : X.mg "set" = none) (ha : GE X a We) (hg : glbB sc "sorted" = true := by decide +kernel) (hg2 : glbB sc "set" = true := by decide +kernel)
    (na : starEach [a] X.env = (false, eval a X.env) :: starEach [] X.env := by rfl) : GE X (.Call (.Name "sorted" p) [.Call (.Name "set" p2) [a] [] q] [] pos) (wSortSet We) := by
  refine ⟨PEimp (pe_sortSet C.calm (C.gl hg) hm (C.gl hg2) hm2 ha.pe na) ?_⟩
  rintro σ H Q ⟨env, h, q, E, re, rh, tk, w, k⟩
  refine ⟨env, h, _, E, re, rh, tk, w, fun v u h1 H1 t1 rh1 r1 w1 => ?_⟩
  have w1 : sortSetP v h1 q := w1
  unfold sortSetP at w1
  obtain ⟨xs, e, w2⟩ := onSeq_of w1
  obtain ⟨ns, e2, hl, w3⟩ := onSome_of w2
  obtain ⟨a, ws, rfl, l, c⟩ := seq_of rh1 r1 e
  have c9 : SqL X.K H1 a ws ∨ SqT X.K H1 a ws := c.imp (fun z => z.1) (fun z => z.1)
  clear c
  have ey := intsOf_eq e2
  subst ey
  have ew := l.ints
  subst ew
  exact ⟨a, ns, rfl, c9, hl, fun ms p h1 h2 np => k _ _ _ _ (t1.trans (.new np)) (rh1.newL np RepL.ofInts) (.ref p) (w3 ms p h1 h2 (rh1.free np))⟩
theorem x_sortSetF {h : Hg} {v : Val} {Q : KV} {xs : List Val} {ns : List Int} (e : seqOf h v = some xs) (e2 : intsOf xs = some ns) (nt : ∀ ys, v ≠ .tup ys) (hl : SetFew ns)
    (k : ∀ (ms : List Int) (p : Addr), ms.Pairwise (· < ·) → (∀ k, k ∈ ms ↔ k ∈ ns) → h p = none → Q (.ref p) (put h p (.lst (ms.map Val.int)))) :
    sortSetP v h Q := by
  unfold sortSetP onSeq
  rw [e]
  show onSome (intsOf xs) _
  rw [e2]
  exact ⟨hl, k⟩
theorem x_sortSet {h : Hg} {v : Val} {Q : KV} {xs : List Val} {ns : List Int} (e : seqOf h v = some xs) (e2 : intsOf xs = some ns) (nt : ∀ ys, v ≠ .tup ys) (hl : ns.length < 63)
    (k : ∀ (ms : List Int) (p : Addr), ms.Pairwise (· < ·) → (∀ k, k ∈ ms ↔ k ∈ ns) → h p = none → Q (.ref p) (put h p (.lst (ms.map Val.int)))) :
    sortSetP v h Q := x_sortSetF e e2 nt (.small hl) k
theorem x_sortSetT {h : Hg} {xs : List Val} {Q : KV} {ns : List Int} (e2 : intsOf xs = some ns) (hl : ns.length < 63)
    (k : ∀ (ms : List Int) (p : Addr), ms.Pairwise (· < ·) → (∀ k, k ∈ ms ↔ k ∈ ns) → h p = none → Q (.ref p) (put h p (.lst (ms.map Val.int)))) :
    sortSetP (.tup xs) h Q := by
  unfold sortSetP onSeq
  show onSome (intsOf xs) _
  rw [e2]
  exact ⟨.small hl, k⟩
end
end G

set_option Elab.async false
set_option linter.all false
set_option maxRecDepth 100000
set_option maxHeartbeats 4000000
/-! texts: str.join, str.split, str of a number, tuple(range(n)) -/
namespace G
open PySem PySem.Spec L2
open PyProof.Rows hiding St
/-- the texts in a list of values -/
def strsOf : List Val → Option (List Str)
  | [] => some []
  | .str x :: r => (strsOf r).map (x :: ·)
  | _ :: _ => none
theorem strsOf_rep {K : PySem.W.Frag} {H : L2.Hp} : ∀ {xs : List Val} {ws : List V} {ys : List Str}, RepL K H xs ws → strsOf xs = some ys → ws = ys.map V.str
  | [], _, ys, .nil, e => by cases e; rfl
  | x :: xs, _, ys, .cons r l, e => by
    cases x <;> first | (cases e; done) | skip
    rename_i z
    unfold strsOf at e
    obtain ⟨zs, e1, rfl⟩ := Option.map_eq_some_iff.mp e
    cases r
    rw [strsOf_rep l e1]
    rfl
theorem strsOf_map : ∀ ys : List Str, strsOf (ys.map Val.str) = some ys
  | [] => rfl
  | y :: ys => by
    show (strsOf (ys.map Val.str)).map (y :: ·) = _
    rw [strsOf_map ys]; rfl
def mJoin : WM := fun v vs h Q => match v with
  | .str a => match vs with
    | [y] => onSeq h y fun xs => onSome (strsOf xs) fun ys => (ys.map (·.length)).sum + ys.length * a.length ≤ 16777216 ∧ Q (.str (Txt.join a ys)) h
    | _ => False
  | _ => False
def mSplit : WM := fun v vs h Q => match v with
  | .str a => match vs with
    | [.str b] => (b.length == 0) = false ∧ a.length + 2 ≤ sizeLine ∧ ∀ p, h p = none → Q (.ref p) (put h p (.lst ((Txt.split a b).map Val.str)))
    | _ => False
  | _ => False
section
variable {X : Cx}
theorem sJoin : MtR X "str.join" (rMG X.K mJoin) := by
  rintro pins s σ H x xs v us Q I rx rxs ⟨vx, vs, h, q, r1, r2, rh, w, k⟩
  unfold mJoin at w
  cases vx <;> first | exact (show False from w).elim | skip
  rename_i a
  cases r1
  cases vs with
  | nil => exact (show False from w).elim
  | cons y vs =>
  cases vs with
  | cons _ _ => exact (show False from w).elim
  | nil =>
    obtain ⟨u, rfl, ry⟩ := r2.one
    obtain ⟨ys, e, w⟩ := onSeq_of w
    obtain ⟨zs, e2, w⟩ := onSome_of w
    obtain ⟨p, ws, rfl, l, c⟩ := seq_of rh ry e
    have ew := strsOf_rep l e2
    subst ew
    exact mt_join pins s σ H _ _ v us Q I rx rxs ⟨a, p, zs, rfl, rfl, c.elim (fun z => .inl z.1) (fun z => .inr z.1), w.1, k _ _ h H (.refl H) rh (.str _) w.2⟩
theorem reps_str {K : PySem.W.Frag} {H : L2.Hp} : ∀ ys : List Str, RepL K H (ys.map Val.str) (ys.map V.str)
  | [] => .nil
  | y :: ys => .cons (.str y) (reps_str ys)
theorem sSplit : MtR X "str.split" (rMG X.K mSplit) := by
  rintro pins s σ H x xs v us Q I rx rxs ⟨vx, vs, h, q, r1, r2, rh, w, k⟩
  unfold mSplit at w
  cases vx <;> first | exact (show False from w).elim | skip
  rename_i a
  cases r1
  cases vs with
  | nil => exact (show False from w).elim
  | cons y vs =>
  cases vs with
  | cons _ _ => cases y <;> exact (show False from w).elim
  | nil =>
    cases y <;> first | exact (show False from w).elim | skip
    rename_i b
    obtain ⟨u, rfl, ry⟩ := r2.one
    cases ry
    exact mt_split pins s σ H _ _ v us Q I rx rxs ⟨a, b, rfl, rfl, w.1, w.2.1, fun p np => k _ _ _ _ (.new np) (rh.newL np (reps_str _)) (.ref p) (w.2.2 p (rh.free np))⟩
def fStr : WF := fun vs h Q => match vs with
  | [.int i] => i.natAbs.log2 < 1920 ∧ Q (.str (toString i)) h
  | [.non] => Q (.str "None") h
  | [.str a] => Q (.str a) h
  | _ => False
theorem cStr : CallR X (.type "str") (rCG X.K fStr) := by
  rintro pins s σ H xs us Q I rv ⟨vs, h, q, r, rh, w, k⟩
  unfold fStr at w
  split at w
  · obtain ⟨u, rfl, r1⟩ := r.one
    cases r1
    exact call_str_int pins s σ H _ us Q I rv ⟨_, rfl, w.1, k _ _ h H (.refl H) rh (.str _) w.2⟩
  · obtain ⟨x, rfl, r1⟩ := r.one
    cases r1
    obtain ⟨u, rfl, rx⟩ := vals1 rv
    cases rx
    exact PySem.P.str_of_none ⟨.str "None", H, I.tok _, ⟨_, rfl⟩, k _ _ h H (.refl H) rh (.str _) w⟩
  · obtain ⟨x, rfl, r1⟩ := r.one
    cases r1
    obtain ⟨u, rfl, t, rfl⟩ := vals1 rv
    exact PySem.P.str_of_str ⟨.str _, H, I, ⟨t, rfl⟩, k _ _ h H (.refl H) rh (.str _) w⟩
  · exact w.elim
/-! tuple(range(n)) -/
def wTRg1 (Wa : WE) : WE := fun env h Q E => Wa env h (fun v h1 => onInt v fun n => RgOk 0 n ∧ Q (.tup (rgVals 0 n)) h1) E
variable {N : List Str} {sc ow : Scope} {a : PySem.Expr} {p p2 pos pos2 : Pos} {Wa : WE}
theorem ge_trg1 (C : Cn X N sc ow) (hm : X.mg "range" = none) (hm2 : X.mg "tuple" = none) (ha : GE X a Wa) (hg : glbB sc "range" = true := by decide +kernel) (hg2 : glbB sc "tuple" = true := by decide +kernel)
    (hs : starEach [a] X.env = (false, eval a X.env) :: starEach [] X.env := by rfl) (hs2 : starEach [.Call (.Name "range" p2) [a] [] pos2] X.env = (false, eval (.Call (.Name "range" p2) [a] [] pos2) X.env) :: starEach [] X.env := by rfl) :
    GE X (.Call (.Name "tuple" p) [.Call (.Name "range" p2) [a] [] pos2] [] pos) (wTRg1 Wa) := by
  refine ⟨⟨fun pins s σ H Q I hq => ?_⟩⟩
  obtain ⟨env, h, q, E, re, rh, tk, w, kont⟩ := hq
  have he := prg_1 (X := X) (p := p2) (pos := pos2) (C.gl hg) hm ha.pe hs
  refine Call_ (ld_blt I (C.gl hg2) hm2 boot_tuple (PyProof.Rows.callWith_type1 (args_cons (thn (he pins s σ H (fun a b H1 => ∃ h1, TExt H H1 ∧ RepH X.K H1 h1 ∧ RgOk a b ∧ q (.tup (rgVals a b)) h1) I ⟨env, h, _, E, re, rh, tk, w, fun v u h1 H1 t1 rh1 r1 w1 => ?_⟩) fun x s1 ⟨r, a, b, t, u, v, H1, ex, hr, I1, h1, t1, rh1, ok, q1⟩ => args_nil ?_) hs2) hs2))
  · cases v <;> first | exact (show False from w1).elim | skip
    cases r1
    exact ⟨_, rfl, h1, t1, rh1, w1.1, w1.2⟩
  subst ex
  obtain ⟨b1, b2, b3, b4, b5⟩ := ok
  refine call_tuple_range (n := (b - a).toNat) (I1.ok.hd C.calm) hr (small_one b1 b2 b3 b4) (rangeSize_nat a b) b5 fun h' tk acc hk hi => ?_
  have I2 : Inv X pins σ H1 { s1 with heap := h', toks := tk } := I1.kept hk
  have np := I2.hok.fresh (Nat.le_refl _)
  have hl : (rgV a b).length ≤ sizeLine := by rw [rgV_length, sizeLine_eq]; omega
  have z := newTup I2 (vals_rg hi) hl
  rw [show tupO acc.toList = { cls := .type "tuple", data := .seq acc } by unfold tupO; rw [Array.toArray_toList]] at z
  exact ⟨.ref h'.objs.size, _, z, rfl, kont _ _ h1 _ (t1.trans (.new np)) (rh1.new np) (.tup upd_same rfl (rgVals_rep.up (.new np))) q1⟩
theorem x_trg1 {env : Env'} {h : Hg} {Q : KV} {E : KX} (k : Wa env h (fun v h1 => onInt v fun n => RgOk 0 n ∧ Q (.tup (rgVals 0 n)) h1) E) : wTRg1 Wa env h Q E := k
theorem x_join {a : Str} {v : Val} {xs : List Val} {ys : List Str} {h : Hg} {Q : KV} (e : seqOf h v = some xs) (e2 : strsOf xs = some ys) (l : (ys.map (·.length)).sum + ys.length * a.length ≤ 16777216) (k : Q (.str (Txt.join a ys)) h) : mJoin (.str a) [v] h Q := by
  show onSeq h v _
  unfold onSeq
  rw [e]
  show onSome (strsOf xs) _
  rw [e2]
  exact ⟨l, k⟩
theorem x_split {a b : Str} {h : Hg} {Q : KV} (hb : (b.length == 0) = false) (l : a.length + 2 ≤ sizeLine) (k : ∀ p, h p = none → Q (.ref p) (put h p (.lst ((Txt.split a b).map Val.str)))) : mSplit (.str a) [.str b] h Q := ⟨hb, l, k⟩
theorem x_strN {h : Hg} {Q : KV} (k : Q (.str "None") h) : fStr [.non] h Q := k
theorem x_str {i : Int} {h : Hg} {Q : KV} (l : i.natAbs.log2 < 1920) (k : Q (.str (toString i)) h) : fStr [.int i] h Q := ⟨l, k⟩
end
end G

set_option Elab.async false
set_option linter.all false
set_option maxRecDepth 100000
set_option pp.maxSteps 3000
set_option maxHeartbeats 4000000
namespace G
open PySem PySem.Spec L2
open PyProof.Rows hiding St
abbrev spDrawB : Spec := fun args h Q _ => match args with
  | [.ref p, .int b] => HasPen h p 1 ∧ (0 < b ∧ b ≤ 1000000000000000000000000000000) ∧ ∀ d : Int, 0 ≤ d → d < b → Q (.int d) (ticks 1 h)
  | _ => False
theorem x_drawB {h h2 : Hg} {Q : KV} {E : KX} {p : Addr} {b : Int} (hp : HasPen h p 1) (hb : 0 < b ∧ b ≤ 1000000000000000000000000000000) (e : ticks 1 h = h2) (k : ∀ d : Int, 0 ≤ d → d < b → Q (.int d) h2) : spDrawB (perm [0, 1] [.ref p, .int b]) h Q E := by
  subst e
  exact ⟨hp, hb, k⟩
theorem divOk_30 {b : Int} (h1 : 0 < b) (h2 : b ≤ 1000000000000000000000000000000) : DivOk b := by
  refine ⟨h1, .inr ?_⟩
  have l : b.natAbs ≤ 1000000000000000000000000000000 := by omega
  have := (Nat.log2_lt (show b.natAbs ≠ 0 by omega) (k := 101)).mpr (Nat.lt_of_le_of_lt l (by decide +kernel))
  omega
/-! ### one step of a reading, and the small goals on its way -/
local macro_rules | `(tactic| walk_at "ne") => `(tactic| first
  | with_reducible assumption
  | (refine Ne.symm ?_; with_reducible assumption)
  | exact ne_none (by with_reducible assumption) (by with_reducible assumption)
  | exact ne_none' (by with_reducible assumption) (by with_reducible assumption)
  | exact ne_noneA (by with_reducible assumption) (by with_reducible assumption)
  | exact (ne_noneA (by with_reducible assumption) (by with_reducible assumption)).symm
  | exact And.left (put_none.mp (by with_reducible assumption))
  | exact Ne.symm (And.left (put_none.mp (by with_reducible assumption)))
  | exact HasPen.ne (by with_reducible assumption) (by with_reducible assumption)
  | exact (HasPen.ne (by with_reducible assumption) (by with_reducible assumption)).symm
  | exact HasPen.ne (by with_reducible assumption) ((ticks_none _).mp (by with_reducible assumption))
  | exact (HasPen.ne (by with_reducible assumption) ((ticks_none _).mp (by with_reducible assumption))).symm
  | exact HasPen.neA (by with_reducible assumption) (by with_reducible assumption)
  | exact (HasPen.neA (by with_reducible assumption) (by with_reducible assumption)).symm)
local macro_rules | `(tactic| walk_at "lk") => `(tactic| first
  | with_reducible exact lstAt_put
  | with_reducible assumption
  | ((with_reducible refine lstAt_put' ?_ ?_); (· walk_at "ne"); (walk_at "lk"))
  | ((with_reducible refine lstAt_ticks' ?_); (walk_at "lk"))
  | ((with_reducible refine lst_at ?_); with_reducible assumption))
local macro_rules | `(tactic| walk_at "hp") => `(tactic| first
  | with_reducible assumption
  | ((with_reducible refine HasPen.put ?_ ?_); (walk_at "hp"); (walk_at "ne"))
  | ((with_reducible refine HasPen.ticks ?_); (walk_at "hp"))
  | exact HasPen.le (by with_reducible assumption) (by omega))
local macro_rules | `(tactic| walk_at "nn") => `(tactic| first
  | with_reducible assumption
  | exact And.right (put_none.mp (by with_reducible assumption))
  | exact (ticks_none _).mp (by with_reducible assumption)
  | ((with_reducible refine ticks_none' ?_ _); (walk_at "nn"))
  | ((with_reducible refine put_none.mpr (And.intro ?_ ?_)); (· walk_at "ne"); (walk_at "nn")))
local macro_rules | `(tactic| walk_at "sub") => `(tactic| first
  | with_reducible exact Sub.refl _
  | with_reducible assumption
  | ((with_reducible refine Sub.ticks ?_); omega)
  | ((with_reducible refine Sub.put ?_ _ (SubO.refl _)); (walk_at "sub"))
  | ((with_reducible refine Sub.over ?_ _ ?_); (· walk_at "sub"); (walk_at "nn")))
local macro_rules | `(tactic| walk_at "tk") => `(tactic| first
  | ((simp only [ticks_put, ticks_add]); (exact rfl)) | exact rfl)
local macro_rules | `(tactic| walk_at "sz") => `(tactic| first
  | exact Nat.le_of_ble_eq_true rfl
  | (simp only [sizeLine_eq, List.length_append, List.length_cons, List.length_nil, List.length_map, List.length_set, List.length_replicate, List.length_take, List.length_drop, List.length_range, List.length_reverse, List.length_dropLast]; omega))
local macro_rules | `(tactic| walk_at "ar") => `(tactic| first
  | with_reducible assumption
  | omega
  | exact mulOk_l (by omega) (by omega)
  | exact mulOk_r (by omega) (by omega)
  | exact divOk_s (by omega) (by omega)
  | with_reducible exact divOk_30 ‹_› ‹_›
  | exact cpow_s (by omega) (by omega) (by omega) (by omega))
local macro_rules | `(tactic| walk_at "sm") => `(tactic| (unfold sm62; omega))
/-- intro of a new address -/
local macro_rules | `(tactic| walk_at "new") => `(tactic| (
  (with_reducible intro _p _np); (try simp only [put_none, ticks_none] at _np); (try revert _np); (try intro ⟨_, _⟩); (try (intro _np2))))
local macro_rules | `(tactic| walk_at "x1") => `(tactic| first
  | with_reducible refine x_sq ?_ | with_reducible refine x_set ?_ | with_reducible refine x_op ?_ | with_reducible refine x_c ?_
  | ((with_reducible refine x_var (v := ?v) ?e ?k); (case e => exact rfl))
  | with_reducible refine x_cons ?_ | with_reducible refine x_nil ?_ | with_reducible refine x_cb ?_ | with_reducible refine x_call ?_ | with_reducible refine x_callK ?_
  | with_reducible refine x_if ?_ | with_reducible refine x_tst ?_ | with_reducible refine x_tand ?_ | with_reducible refine x_tor ?_ | with_reducible refine x_tnot ?_ | with_reducible refine x_tru ?_
  | with_reducible refine x_ret ?_ | with_reducible refine x_asg ?_ | with_reducible refine x_nx ?_ | with_reducible refine x_drop ?_ | with_reducible refine x_bk ?_ | with_reducible refine x_ct ?_ | with_reducible refine x_par ?_ | with_reducible refine x_retN ?_
  | with_reducible refine x_tup ?_ | with_reducible refine x_lst ?_ | with_reducible refine x_m0 ?_ | with_reducible refine x_m ?_ | with_reducible refine x_mS ?_ | with_reducible refine x_and ?_ | with_reducible refine x_or ?_ | with_reducible refine x_not ?_ | with_reducible refine x_ife ?_ | with_reducible refine x_neg ?_
  | with_reducible refine x_chain ?_ | with_reducible refine x_sl ?_ | with_reducible refine x_nop ?_ | with_reducible refine x_part ?_ | with_reducible refine x_rev ?_ | with_reducible refine x_lrg1 ?_ | with_reducible refine x_lrg2 ?_
  | ((with_reducible refine x_aug (v := ?v) ?e ?k); (case e => exact rfl)) | with_reducible refine x_augS ?_
  | with_reducible refine x_gname ?_ | with_reducible refine x_gsub ?_ | with_reducible refine x_gnil ?_ | with_reducible refine x_gcons ?_
  | ((with_reducible refine x_gtupT ?_ ?_); (· exact rfl)) | ((with_reducible refine x_gpr ?_ ?_); (· exact rfl))
  | with_reducible refine x_cname ?_ | with_reducible refine x_cnil ?_ | with_reducible refine x_ccons ?_ | ((with_reducible refine x_cpr ?_ ?_); (· exact rfl)) | ((with_reducible refine x_ctupT ?_ ?_); (· exact rfl))
  | ((with_reducible refine x_drawB (h2 := ?h2) ?hp ?hb ?e ?k); (case hp => walk_at "hp"); (case hb => omega); (case e => walk_at "tk"))
  | ((with_reducible refine x_tru1 (r := ?r) ?e ?k); (case e => exact rfl)) | with_reducible refine x_isN ?_ | with_reducible refine x_isNotN ?_ | with_reducible refine x_yesT ?_ | with_reducible refine x_pen ?_ | with_reducible refine x_slC ?_ | ((with_reducible refine x_slL (xs := ?xs) ?e ?k); (case e => walk_at "lk")) | ((with_reducible refine x_listL (xs := ?xs) ?e ?k); (case e => walk_at "lk")) | with_reducible refine x_listT ?_ | ((with_reducible refine x_revL (xs := ?xs) ?e ?k); (case e => walk_at "lk"))
  | with_reducible refine x_for ?_ | with_reducible refine x_lc ?_ | with_reducible refine x_rg ?_ | ((with_reducible refine x_rg1 ?_ ?_); (· walk_at "sm")) | ((with_reducible refine x_rg2 ?_ ?_); (· walk_at "sm")) | ((with_reducible refine x_rg3 ?_ ?_); (· walk_at "sm")) | with_reducible refine x_itV ?_ | with_reducible refine x_enum ?_ | with_reducible refine x_zip ?_ | with_reducible refine x_rvd ?_
  | with_reducible refine x_addI ?_ | with_reducible refine x_subI ?_ | with_reducible refine x_ltI ?_ | with_reducible refine x_leI ?_ | with_reducible refine x_gtI ?_ | with_reducible refine x_geI ?_
  | with_reducible refine x_onBl ?_ | with_reducible refine x_onInt ?_ | ((with_reducible refine x_onLst (xs := ?xs) ?e ?k); (case e => walk_at "lk")) | ((with_reducible refine x_onSome (z := ?z) ?e ?k); (case e => first | exact rfl | with_reducible assumption)) | with_reducible refine x_yes ?_ | with_reducible refine x_no ?_ | ((with_reducible refine x_yesE ?_ ?_); (· exact rfl)) | ((with_reducible refine x_noE ?_ ?_); (· exact rfl))
  | with_reducible refine x_abs ?_ | with_reducible refine x_intI ?_ | with_reducible refine x_intB ?_ | with_reducible refine x_min2 ?_ | with_reducible refine x_max2 ?_ | with_reducible refine x_lenT ?_ | with_reducible refine x_lenC ?_ | with_reducible refine x_tupleT ?_ | with_reducible refine x_slT ?_
  | ((with_reducible refine x_mulI ?_ ?_); (· walk_at "ar")) | ((with_reducible refine x_fdivI ?_ ?_); (· walk_at "ar")) | ((with_reducible refine x_modI ?_ ?_); (· walk_at "ar")) | ((with_reducible refine x_powI ?_ ?_); (· walk_at "ar"))
  | ((with_reducible refine x_ixL (xs := ?xs) (v := ?v) ?e ?e2 ?k); (case e => walk_at "lk"); (case e2 => first | exact rfl | with_reducible assumption)) | ((with_reducible refine x_ixT (v := ?v) ?e2 ?k); (case e2 => first | exact rfl | with_reducible assumption)) | ((with_reducible refine x_ixS (v := ?v) ?e2 ?k); (case e2 => with_reducible assumption))
  | ((with_reducible refine x_setI (xs := ?xs) (j := ?j) ?e ?e2 ?k); (case e => walk_at "lk"); (case e2 => first | exact rfl | with_reducible assumption))
  | ((with_reducible refine x_lenL (xs := ?xs) ?e ?k); (case e => walk_at "lk")) | ((with_reducible refine x_tupleL (xs := ?xs) ?e ?k); (case e => walk_at "lk"))
  | ((with_reducible refine x_tyL (xs := ?xs) ?e ?k); (case e => walk_at "lk"))
  | ((with_reducible refine x_append (xs := ?xs) ?e ?l ?k); (case e => walk_at "lk"); (case l => walk_at "sz"))
  | ((with_reducible refine x_eq (r := ?r) ?e ?k); (case e => exact rfl)) | ((with_reducible refine x_ne (r := ?r) ?e ?k); (case e => exact rfl))
  | ((with_reducible refine x_isinst (t := ?t) ?e ?ht ?k); (case e => exact rfl); (case ht => exact rfl))
  | ((with_reducible refine And.intro ?_ ?_); (· first | walk_at "sz" | exact rfl | ((refine isSome_it (xs := ?xs) ?e); (case e => walk_at "lk")) | ((refine isSome_seq (xs := ?xs) ?e); (case e => walk_at "lk")))))
local macro_rules | `(tactic| walk_at "x") => `(tactic| repeat (walk_at "x1"))
local macro_rules | `(tactic| walk_at "sube") => `(tactic| (repeat (first | exact trivial | refine ⟨rfl, ?_⟩)))
local macro_rules | `(tactic| walk_at "x1") => `(tactic| first
  | with_reducible refine x_try ?_ | with_reducible refine x_raise ?_ | with_reducible refine x_attr ?_ | with_reducible refine x_isXN ?_ | ((with_reducible refine x_isXE ?_ ?_); (· exact rfl))
  | ((with_reducible refine x_takes ?_ ?_ ?_); (· exact rfl); (· exact rfl)) | ((with_reducible refine x_passes ?_ ?_ ?_); (· exact rfl); (· exact rfl))
  | ((with_reducible refine x_aStore (v := ?v) ?e ?k); (case e => exact rfl)) | with_reducible refine x_aPass ?_ | with_reducible refine x_aDo ?_ | with_reducible refine x_aNone ?_)
local macro_rules | `(tactic| walk_at "x1") => `(tactic| first
  | with_reducible refine x_aaddI ?_ | with_reducible refine x_asubI ?_ | ((with_reducible refine x_divmodI ?_ ?_); (· first | with_reducible assumption | exact divOk_s (by omega) (by omega))))
local macro_rules | `(tactic| walk_at "li") => `(tactic| first
  | with_reducible exact insAt_put
  | with_reducible assumption
  | ((with_reducible refine insAt_put' ?_ ?_); (· walk_at "ne"); (walk_at "li"))
  | ((with_reducible refine insAt_ticks ?_); (walk_at "li")))
local macro_rules | `(tactic| walk_at "x1") => `(tactic| first
  | with_reducible refine x_fld ?_ | with_reducible refine x_setF ?_ | with_reducible refine x_meth ?_ | with_reducible refine x_make ?_
  | ((with_reducible refine x_onIns (fs := ?fs) ?e ?k); (case e => walk_at "li")))

abbrev sp__law_pen : Spec := spPen 100000
abbrev sp__law_draw : Spec := spDrawB
def sp__law_order : Spec := fun args h Q _ => match args with
  | [.ref p, .int n] => (0 ≤ n ∧ n ≤ 1000) ∧ HasPen h p n.toNat ∧ ∀ (ns : List Int) (q : Addr), ns.Perm (rgI n.toNat) → h q = none → Q (.ref q) (put (ticks n.toNat h) q (.lst (ns.map Val.int)))
  | _ => False
def sp__law_size : Spec := fun args h Q _ => match args with
  | [.ref p, .int m] => (1 ≤ m ∧ m ≤ 1000) ∧ HasPen h p 4 ∧ ∀ s : Int, 1 ≤ s → s ≤ m → Q (.int s) (ticks 4 h)
  | _ => False
/-- node v stands in the row of one of the first n -/
def Hld (H : Hg) (rs : List Addr) (n v : Nat) : Prop := ∃ (u : Nat) (r : Addr) (cs : List (Option Nat)), u < n ∧ rs[u]? = some r ∧ lstAt H r = some (cs.map cellV) ∧ some v ∈ cs
def sp__law_links : Spec := fun args h Q _ => match args with
  | [.ref p, .int a] => ∃ n N : Nat, a = ((n : Nat) : Int) ∧ (1 ≤ n ∧ n ≤ 40) ∧ HasPen h p N ∧ 1000 ≤ N ∧ ∀ (rs : List Addr) q h', rs.length = n → rs.Nodup → Sub (ticks 1000 h) h' → HasPen h' p (N - 1000) → h' q = none → (∀ r ∈ rs, RowB h' (fun v => v < n) 40 r ∧ h r = none) → (∀ v, 1 ≤ v → v < n → Hld h' rs n v) → Q (.ref q) (put h' q (.lst (rs.map Val.ref)))
  | _ => False
def sp__law_heap : Spec := fun args h Q _ => match args with
  | [.ref p, .int a] => ∃ m N : Nat, a = ((m : Nat) : Int) ∧ (1 ≤ m ∧ m ≤ 40) ∧ HasPen h p (N + 1200) ∧ ∀ rows hs (j : Nat), HeapOk rows hs → Live rows j → 1 ≤ hs.getD j 0 → Q (.tup [heapV rows hs, .int (j : Nat)]) (ticks 1200 h)
  | _ => False

def natsL (l : List Nat) : List Val := l.map fun n : Nat => Val.int ((n : Nat) : Int)
theorem natsL_len {l : List Nat} : (natsL l).length = l.length := List.length_map _
/-! ### texts -/
def nS (i : Int) : Str := Str.ofString (toString i)
def joinS (l : List Nat) : Str := if l = [] then "-" else Txt.join " " (l.map fun n : Nat => nS ((n : Nat) : Int))
def cellS : Option Nat → Str
  | none => "-"
  | some n => nS ((n : Nat) : Int)
def lineS : Row → Nat → Str
  | none, _ => "free"
  | some l, k => Txt.join " " (nS ((k : Nat) : Int) :: l.map cellS)
def linesS (rows : List Row) (hs : List Nat) : List Str := (List.range rows.length).map fun i => lineS (rows.getD i none) (hs.getD i 0)
def heapS (rows : List Row) (hs : List Nat) : Str := Txt.join "\n" (linesS rows hs)
def treeS (t : List (List Nat)) : Str := Txt.join "\n" (t.map joinS)
/-- a heap as data -/
structure HD (rows : List Row) (hs : List Nat) : Prop where
  len : hs.length = rows.length
  few : rows.length ≤ 40
  hand : ∀ n ∈ hs, n < 1000
  row : ∀ r, some r ∈ rows → r.length ≤ 40 ∧ ∀ n, some n ∈ r → n < 1000
/-- rows of numbers as data -/
structure TD (t : List (List Nat)) : Prop where
  few : t.length ≤ 40
  row : ∀ r ∈ t, r.length ≤ 40 ∧ ∀ n ∈ r, n < 1000
def SeqN (h : Hg) (v : Val) (l : List Nat) : Prop := v = .tup (natsL l) ∨ ∃ a, v = .ref a ∧ lstAt h a = some (natsL l)
def treeN (t : List (List Nat)) : Val := .tup (t.map fun r => .tup (natsL r))
def sp_joined : Spec := fun args h Q _ => match args with
  | [v] => ∃ l, SeqN h v l ∧ l.length ≤ 40 ∧ (∀ n ∈ l, n < 10 ^ 30) ∧ Q (.str (joinS l)) h
  | _ => False
def sp_line_of : Spec := fun args h Q _ => match args with
  | [rv, .int k] => ∃ (r : Row) (n : Nat), rv = rowV r ∧ k = ((n : Nat) : Int) ∧ n < 1000 ∧ (∀ l, r = some l → l.length ≤ 40 ∧ ∀ c, some c ∈ l → c < 1000) ∧ Q (.str (lineS r n)) h
  | _ => False
def sp_format_heap : Spec := fun args h Q _ => match args with
  | [hv] => ∃ rows hs, HD rows hs ∧ hv = heapV rows hs ∧ Q (.str (heapS rows hs)) h
  | _ => False
def sp_format_tree : Spec := fun args h Q _ => match args with
  | [tv] => ∃ t, TD t ∧ tv = treeN t ∧ Q (.str (treeS t)) h
  | _ => False
def sp_format_log : Spec := fun args h Q _ => match args with
  | [v] => ∃ l, SeqN h v l ∧ l.length ≤ 40 ∧ (∀ n ∈ l, n < 10 ^ 30) ∧ Q (.str (joinS l)) h
  | _ => False

def sp__law_heap_text : Spec := fun args h Q _ => match args with
  | [hv] => ∃ rows hs, HD rows hs ∧ hv = heapV rows hs ∧ Q (.str (heapS rows hs)) h
  | _ => False
def sp__law_numbers_text : Spec := fun args h Q _ => match args with
  | [v] => ∃ l, SeqN h v l ∧ l.length ≤ 40 ∧ (∀ n ∈ l, n < 10 ^ 30) ∧ Q (.str (joinS l)) h
  | _ => False
def sp__law_tree_text : Spec := fun args h Q _ => match args with
  | [tv] => ∃ t, TD t ∧ tv = treeN t ∧ Q (.str (treeS t)) h
  | _ => False
def sp__law_children : Spec := fun args h Q _ => match args with
  | [.ref p, .int a] => ∃ m N : Nat, a = ((m : Nat) : Int) ∧ (1 ≤ m ∧ m ≤ 40) ∧ HasPen h p (N + 200) ∧ ∀ t, TD t → Q (treeN t) (ticks 200 h)
  | _ => False
def sp__law_right : Spec := fun args h Q _ => match args with
  | [hv, tv, v] => ∃ rows hs t l, HD rows hs ∧ hv = heapV rows hs ∧ TD t ∧ tv = treeN t ∧ SeqN h v l ∧ l.length ≤ 40 ∧ (∀ n ∈ l, n < 10 ^ 30) ∧ Q (.bl true) h
  | _ => False
def sp_law : Spec := fun args h Q _ => match args with
  | [.scr ns] => ns.length ≤ 63 ∧ (∀ a, h a = none) ∧ Q (.bl true) h
  | _ => False
abbrev N_joined : List Str := ["numbers", "number"]
def W_joined : WS :=
  (wRet (wOr (wM "str" mJoin (wC (.str " ")) (wCons (wLc (wItV (wVar 0)) (wcName 1) wYes (wCB fStr (wCons (wVar 1) wNil)) [1]) wNil)) (wC (.str "-"))))

abbrev N_line_of : List Str := ["row", "references", "held"]
def W_line_of : WS :=
  (wSq (wIf (wTst (wOp oIs (wVar 0) (wC .non))) (wRet (wC (.str "free"))) wNx)
  (wRet (wM "str" mJoin (wC (.str " ")) (wCons (wOp oAdd (wLst (wCons (wCB fStr (wCons (wVar 1) wNil)) wNil)) (wLc (wItV (wVar 0)) (wcName 2) wYes (wIfe (wTst (wOp oIs (wVar 2) (wC .non))) (wC (.str "-")) (wCB fStr (wCons (wVar 2) wNil))) [2])) wNil))))

abbrev N_format_heap : List Str := ["heap", "slots", "outside", "row", "references"]
def W_format_heap : WS :=
  (wSq (wAsg (wVar 0) (wgTup 2 (wgCons (wgName 1) (wgCons (wgName 2) wgNil))))
  (wRet (wM "str" mJoin (wC (.str "\n")) (wCons (wLc (wZip (wVar 1) (wVar 2)) (wcPr 2 (wcCons (wcName 3) (wcCons (wcName 4) wcNil))) wYes (wCall sp_line_of 2 [0, 1] (wCons (wVar 3) (wCons (wVar 4) wNil))) [3, 4]) wNil))))

abbrev N_format_tree : List Str := ["tree", "children"]
def W_format_tree : WS :=
  (wRet (wM "str" mJoin (wC (.str "\n")) (wCons (wLc (wItV (wVar 0)) (wcName 1) wYes (wCall sp_joined 1 [0] (wCons (wVar 1) wNil)) [1]) wNil)))

abbrev N_format_log : List Str := ["log"]
def W_format_log : WS :=
  (wRet (wCall sp_joined 1 [0] (wCons (wVar 0) wNil)))

abbrev N__law_pen : List Str := ["_law_script"]
def W__law_pen : WS :=
  (wRet (wPen 100000 (wLst (wCons (wCB fList (wCons (wSl (wVar 0) wNoPart (wPart (wC (.int 63)))) wNil)) (wCons (wC (.int 0)) (wCons (wC (.int 0)) wNil))))))

abbrev N__law_draw : List Str := ["_law_pen_here", "_law_bound", "_law_digit", "_law_at", "_law_cell", "_law_great", "_law_mixed"]
def W__law_draw : WS :=
  (wSq (wIf (wTst (wOp oGt (wOp oIx (wVar 0) (wC (.int 2))) (wC (.int 0)))) (wSq (wSet 2 (wOp oMod (wOp oIx (wVar 0) (wC (.int 2))) (wVar 1)))
  (wSq (wAsg (wOp oFdiv (wOp oIx (wVar 0) (wC (.int 2))) (wVar 1)) (wgSub (wVar 0) (wC (.int 2))))
  (wRet (wVar 2)))) wNx)
  (wSq (wSet 3 (wOp oIx (wVar 0) (wC (.int 1))))
  (wSq (wAsg (wOp oAdd (wVar 3) (wC (.int 1))) (wgSub (wVar 0) (wC (.int 1))))
  (wSq (wSet 4 (wOp oAdd (wOp oMul (wC (.int 53003)) (wVar 3)) (wC (.int 61))))
  (wCut (wIf (wTst (wOp oNe (wOp oIx (wVar 0) (wC (.int 0))) (wLst wNil))) (wSet 4 (wOp oIx (wOp oIx (wVar 0) (wC (.int 0))) (wOp oMod (wVar 3) (wCB fLen (wCons (wOp oIx (wVar 0) (wC (.int 0))) wNil))))) wNx) (wCut (wIf (wTand (wTst (wOp oLt (wVar 3) (wCB fLen (wCons (wOp oIx (wVar 0) (wC (.int 0))) wNil)))) (wTst (wOp oGe (wCB fAbs (wCons (wVar 4) wNil)) (wOp oPow (wC (.int 10)) (wC (.int 18)))))) (wSq (wSet 5 (wOp oAdd (wOp oMul (wC (.int 2)) (wOp oSub (wCB fAbs (wCons (wVar 4) wNil)) (wOp oPow (wC (.int 10)) (wC (.int 18))))) (wCB fInt (wCons (wOp oLt (wVar 4) (wC (.int 0))) wNil))))
  (wSq (wAsg (wOp oFdiv (wVar 5) (wVar 1)) (wgSub (wVar 0) (wC (.int 2))))
  (wRet (wOp oMod (wVar 5) (wVar 1))))) wNx) (wSq (wSet 6 (wOp oMod (wOp oPow (wOp oAdd (wOp oAdd (wOp oAdd (wOp oMod (wVar 4) (wC (.int 2147483587))) (wOp oMul (wC (.int 40009)) (wVar 3))) (wOp oMul (wOp oMul (wC (.int 6007)) (wVar 3)) (wVar 3))) (wC (.int 13))) (wC (.int 5))) (wC (.int 2147483647))))
  (wSq (wSet 6 (wOp oMod (wOp oPow (wOp oAdd (wOp oMul (wVar 6) (wOp oAdd (wOp oMul (wC (.int 2)) (wVar 3)) (wC (.int 17)))) (wC (.int 90011))) (wC (.int 3))) (wC (.int 2147483579))))
  (wRet (wOp oMod (wOp oFdiv (wVar 6) (wC (.int 64))) (wVar 1)))))))))))

abbrev N__law_order : List Str := ["_law_pen_here", "_law_size_here", "_law_left", "_law_k"]
def W__law_order : WS :=
  (wSq (wSet 2 (wLRg1 (wVar 1)))
  (wRet (wLc (wRg (wCons (wVar 1) wNil)) (wcName 3) wYes (wM "list" mPop (wVar 2) (wCons (wCall sp__law_draw 2 [0, 1] (wCons (wVar 0) (wCons (wCB fLen (wCons (wVar 2) wNil)) wNil))) wNil)) [3])))

abbrev N__law_size : List Str := ["_law_pen_here", "_law_most", "_law_way"]
def W__law_size : WS :=
  (wSq (wSet 2 (wCall sp__law_draw 2 [0, 1] (wCons (wVar 0) (wCons (wC (.int 4)) wNil))))
  (wRet (wCB fMin2 (wCons (wVar 1) (wCons (wOp oIx (wLst (wCons (wOp oAdd (wC (.int 2)) (wCall sp__law_draw 2 [0, 1] (wCons (wVar 0) (wCons (wC (.int 3)) wNil)))) (wCons (wOp oAdd (wC (.int 3)) (wCall sp__law_draw 2 [0, 1] (wCons (wVar 0) (wCons (wC (.int 5)) wNil)))) (wCons (wOp oAdd (wC (.int 1)) (wCall sp__law_draw 2 [0, 1] (wCons (wVar 0) (wCons (wVar 1) wNil)))) (wCons (wVar 1) wNil))))) (wVar 2)) wNil)))))

abbrev N__law_links : List Str := ["_law_pen_here", "_law_size_here", "_law_way", "_law_deep", "_law_rows", "_law_v", "_law_holder", "_law_row", "_law_k", "_law_a", "_law_b"]
def W__law_links : WS :=
  (wSq (wSet 2 (wCall sp__law_draw 2 [0, 1] (wCons (wVar 0) (wCons (wC (.int 4)) wNil))))
  (wSq (wSet 3 (wCall sp__law_draw 2 [0, 1] (wCons (wVar 0) (wCons (wC (.int 3)) wNil))))
  (wSq (wSet 4 (wLc (wRg (wCons (wVar 1) wNil)) (wcName 8) wYes (wLst wNil) [8]))
  (wSq (wFor (wRg (wCons (wC (.int 1)) (wCons (wVar 1) wNil))) (wgName 5) (wSq (wSet 6 (wOp oIx (wLst (wCons (wCall sp__law_draw 2 [0, 1] (wCons (wVar 0) (wCons (wVar 5) wNil))) (wCons (wOp oSub (wVar 5) (wC (.int 1))) (wCons (wCB fMax2 (wCons (wC (.int 0)) (wCons (wOp oSub (wOp oSub (wVar 5) (wC (.int 1))) (wCall sp__law_draw 2 [0, 1] (wCons (wVar 0) (wCons (wC (.int 3)) wNil)))) wNil))) wNil)))) (wVar 3)))
  (wSq (wSet 7 (wOp oIx (wVar 4) (wVar 6)))
  (wDrop (wM "list" mInsert (wVar 7) (wCons (wCall sp__law_draw 2 [0, 1] (wCons (wVar 0) (wCons (wOp oAdd (wCB fLen (wCons (wVar 7) wNil)) (wC (.int 1))) wNil))) (wCons (wVar 5) wNil)))))))
  (wSq (wFor (wRg (wCons (wOp oIx (wLst (wCons (wC (.int 0)) (wCons (wCall sp__law_draw 2 [0, 1] (wCons (wVar 0) (wCons (wC (.int 4)) wNil))) (wCons (wVar 1) (wCons (wOp oMul (wC (.int 2)) (wVar 1)) wNil))))) (wVar 2)) wNil)) (wgName 8) (wSq (wSet 9 (wCall sp__law_draw 2 [0, 1] (wCons (wVar 0) (wCons (wVar 1) wNil))))
  (wSq (wSet 10 (wCall sp__law_draw 2 [0, 1] (wCons (wVar 0) (wCons (wVar 1) wNil))))
  (wCut (wIf (wTand (wTst (wOp oLe (wVar 10) (wVar 9))) (wTor (wTst (wOp oLt (wVar 2) (wC (.int 3)))) (wTst (wOp oGt (wCall sp__law_draw 2 [0, 1] (wCons (wVar 0) (wCons (wC (.int 4)) wNil))) (wC (.int 0)))))) (wPar [9, 10] (wCons (wCB fMin2 (wCons (wVar 9) (wCons (wVar 10) wNil))) (wCons (wCB fMin2 (wCons (wOp oSub (wVar 1) (wC (.int 1))) (wCons (wOp oAdd (wCB fMax2 (wCons (wVar 9) (wCons (wVar 10) wNil))) (wCB fInt (wCons (wOp oEq (wVar 9) (wVar 10)) wNil))) wNil))) wNil))) wNx) (wSq (wSet 7 (wOp oIx (wVar 4) (wVar 9)))
  (wIf (wTand (wTst (wOp oLt (wCB fLen (wCons (wVar 7) wNil)) (wC (.int 38)))) (wTor (wTst (wOp oNe (wVar 9) (wVar 10))) (wTst (wOp oEq (wVar 2) (wC (.int 3)))))) (wDrop (wM "list" mInsert (wVar 7) (wCons (wCall sp__law_draw 2 [0, 1] (wCons (wVar 0) (wCons (wOp oAdd (wCB fLen (wCons (wVar 7) wNil)) (wC (.int 1))) wNil))) (wCons (wVar 10) wNil)))) wNx))))))
  (wSq (wFor (wItV (wVar 4)) (wgName 7) (wIf (wTst (wOp oEq (wCall sp__law_draw 2 [0, 1] (wCons (wVar 0) (wCons (wC (.int 5)) wNil))) (wC (.int 0)))) (wDrop (wM "list" mInsert (wVar 7) (wCons (wCall sp__law_draw 2 [0, 1] (wCons (wVar 0) (wCons (wOp oAdd (wCB fLen (wCons (wVar 7) wNil)) (wC (.int 1))) wNil))) (wCons (wC .non) wNil)))) wNx))
  (wRet (wVar 4))))))))

abbrev N__law_heap : List Str := ["_law_pen_here", "_law_most", "_law_size_here", "_law_rows", "_law_spare", "_law_names", "_law_slots", "_law_outside", "_law_v", "_law_held"]
def W__law_heap : WS :=
  (wSq (wSet 2 (wCall sp__law_size 2 [0, 1] (wCons (wVar 0) (wCons (wVar 1) wNil))))
  (wSq (wSet 3 (wCall sp__law_links 2 [0, 1] (wCons (wVar 0) (wCons (wVar 2) wNil))))
  (wSq (wSet 4 (wCB fMin2 (wCons (wOp oSub (wC (.int 40)) (wVar 2)) (wCons (wOp oIx (wLst (wCons (wC (.int 0)) (wCons (wC (.int 0)) (wCons (wC (.int 1)) (wCons (wCall sp__law_draw 2 [0, 1] (wCons (wVar 0) (wCons (wC (.int 4)) wNil))) wNil))))) (wCall sp__law_draw 2 [0, 1] (wCons (wVar 0) (wCons (wC (.int 4)) wNil)))) wNil))))
  (wSq (wSet 5 (wCall sp__law_order 2 [0, 1] (wCons (wVar 0) (wCons (wOp oAdd (wVar 2) (wVar 4)) wNil))))
  (wSq (wSet 6 (wOp oMul (wLst (wCons (wC .non) wNil)) (wOp oAdd (wVar 2) (wVar 4))))
  (wSq (wSet 7 (wOp oMul (wLst (wCons (wC (.int 0)) wNil)) (wOp oAdd (wVar 2) (wVar 4))))
  (wSq (wFor (wRg (wCons (wVar 2) wNil)) (wgName 8) (wSq (wAsg (wCB fTuple (wCons (wLc (wItV (wOp oIx (wVar 3) (wVar 8))) (wcName 9) wYes (wIfe (wTst (wOp oIs (wVar 9) (wC .non))) (wC .non) (wOp oIx (wVar 5) (wVar 9))) [9]) wNil)) (wgSub (wVar 6) (wOp oIx (wVar 5) (wVar 8))))
  (wIf (wTand (wTst (wOp oGt (wVar 8) (wC (.int 0)))) (wTst (wOp oEq (wCall sp__law_draw 2 [0, 1] (wCons (wVar 0) (wCons (wC (.int 9)) wNil))) (wC (.int 0))))) (wAsg (wOp oAdd (wC (.int 1)) (wCall sp__law_draw 2 [0, 1] (wCons (wVar 0) (wCons (wC (.int 9)) wNil)))) (wgSub (wVar 7) (wOp oIx (wVar 5) (wVar 8)))) wNx)))
  (wSq (wAsg (wOp oIx (wLst (wCons (wC (.int 1)) (wCons (wC (.int 1)) (wCons (wC (.int 1)) (wCons (wC (.int 2)) (wCons (wC (.int 9)) wNil)))))) (wCall sp__law_draw 2 [0, 1] (wCons (wVar 0) (wCons (wC (.int 5)) wNil)))) (wgSub (wVar 7) (wOp oIx (wVar 5) (wC (.int 0)))))
  (wRet (wTup (wCons (wTup (wCons (wCB fTuple (wCons (wVar 6) wNil)) (wCons (wCB fTuple (wCons (wVar 7) wNil)) wNil))) (wCons (wOp oIx (wVar 5) (wC (.int 0))) wNil))))))))))))

abbrev N__law_children : List Str := ["_law_pen_here", "_law_most", "_law_size_here", "_law_names", "_law_deep", "_law_rows", "_law_k", "_law_row", "_law_found"]
def W__law_children : WS :=
  (wSq (wSet 2 (wCall sp__law_size 2 [0, 1] (wCons (wVar 0) (wCons (wVar 1) wNil))))
  (wSq (wSet 3 (wCall sp__law_order 2 [0, 1] (wCons (wVar 0) (wCons (wVar 2) wNil))))
  (wSq (wSet 4 (wCall sp__law_draw 2 [0, 1] (wCons (wVar 0) (wCons (wC (.int 3)) wNil))))
  (wSq (wSet 5 (wLc (wRg (wCons (wVar 2) wNil)) (wcName 6) wYes (wLst wNil) [6]))
  (wSq (wFor (wRg (wCons (wC (.int 1)) (wCons (wVar 2) wNil))) (wgName 6) (wSq (wSet 7 (wOp oIx (wVar 5) (wOp oIx (wLst (wCons (wCall sp__law_draw 2 [0, 1] (wCons (wVar 0) (wCons (wVar 6) wNil))) (wCons (wOp oSub (wVar 6) (wC (.int 1))) (wCons (wC (.int 0)) wNil)))) (wVar 4))))
  (wDrop (wM "list" mInsert (wVar 7) (wCons (wCall sp__law_draw 2 [0, 1] (wCons (wVar 0) (wCons (wOp oAdd (wCB fLen (wCons (wVar 7) wNil)) (wC (.int 1))) wNil))) (wCons (wOp oIx (wVar 3) (wVar 6)) wNil))))))
  (wSq (wSet 8 (wOp oMul (wLst (wCons (wTup wNil) wNil)) (wVar 2)))
  (wSq (wFor (wRg (wCons (wVar 2) wNil)) (wgName 6) (wAsg (wCB fTuple (wCons (wOp oIx (wVar 5) (wVar 6)) wNil)) (wgSub (wVar 8) (wOp oIx (wVar 3) (wVar 6)))))
  (wRet (wCB fTuple (wCons (wVar 8) wNil))))))))))

abbrev N__law_heap_text : List Str := ["_law_home", "_law_lines", "_law_v", "_law_row", "_law_line", "_law_held"]
def W__law_heap_text : WS :=
  (wSq (wSet 1 (wLst wNil))
  (wSq (wFor (wEnum (wOp oIx (wVar 0) (wC (.int 0)))) (wgPr 2 (wgCons (wgName 2) (wgCons (wgName 3) wgNil))) (wSq (wSet 4 (wC (.str "free")))
  (wSq (wIf (wTst (wOp oIsNot (wVar 3) (wC .non))) (wSq (wSet 4 (wCB fStr (wCons (wOp oIx (wOp oIx (wVar 0) (wC (.int 1))) (wVar 2)) wNil)))
  (wFor (wItV (wVar 3)) (wgName 5) (wSet 4 (wOp oAdd (wOp oAdd (wVar 4) (wC (.str " "))) (wOp oIx (wLst (wCons (wC (.str "-")) (wCons (wCB fStr (wCons (wVar 5) wNil)) wNil))) (wCB fInt (wCons (wOp oIsNot (wVar 5) (wC .non)) wNil))))))) wNx)
  (wDrop (wM "list" mAppend (wVar 1) (wCons (wVar 4) wNil))))))
  (wRet (wM "str" mJoin (wC (.str "\n")) (wCons (wVar 1) wNil)))))

abbrev N__law_numbers_text : List Str := ["_law_some", "_law_k"]
def W__law_numbers_text : WS :=
  (wSq (wIf (wTst (wOp oEq (wCB fLen (wCons (wVar 0) wNil)) (wC (.int 0)))) (wRet (wC (.str "-"))) wNx)
  (wRet (wM "str" mJoin (wC (.str " ")) (wCons (wLc (wItV (wVar 0)) (wcName 1) wYes (wCB fStr (wCons (wVar 1) wNil)) [1]) wNil))))

abbrev N__law_tree_text : List Str := ["_law_given", "_law_row"]
def W__law_tree_text : WS :=
  (wRet (wM "str" mJoin (wC (.str "\n")) (wCons (wLc (wItV (wVar 0)) (wcName 1) wYes (wCall sp__law_numbers_text 1 [0] (wCons (wVar 1) wNil)) [1]) wNil)))

abbrev N__law_right : List Str := ["_law_home", "_law_given", "_law_some", "_law_state", "_law_due"]
def W__law_right : WS :=
  (wSq (wSet 3 (wCB fRepr (wCons (wTup (wCons (wVar 0) (wCons (wVar 1) (wCons (wVar 2) wNil)))) wNil)))
  (wSq (wSet 4 (wLst (wCons (wCall sp__law_heap_text 1 [0] (wCons (wVar 0) wNil)) (wCons (wCall sp__law_tree_text 1 [0] (wCons (wVar 1) wNil)) (wCons (wCall sp__law_numbers_text 1 [0] (wCons (wVar 2) wNil)) wNil)))))
  (wSq (wIf (wTst (wOp oNe (wLst (wCons (wCall sp_format_heap 1 [0] (wCons (wVar 0) wNil)) (wCons (wCall sp_format_tree 1 [0] (wCons (wVar 1) wNil)) (wCons (wCall sp_format_log 1 [0] (wCons (wVar 2) wNil)) wNil)))) (wVar 4))) (wRet (wC (.bl false))) wNx)
  (wSq (wIf (wTst (wOp oNe (wLst (wCons (wCallK sp_format_heap 0 1 [0] wNil (wCons (wVar 0) wNil)) (wCons (wCallK sp_format_tree 0 1 [0] wNil (wCons (wVar 1) wNil)) (wCons (wCallK sp_format_log 0 1 [0] wNil (wCons (wVar 2) wNil)) wNil)))) (wVar 4))) (wRet (wC (.bl false))) wNx)
  (wRet (wOp oEq (wCB fRepr (wCons (wTup (wCons (wVar 0) (wCons (wVar 1) (wCons (wVar 2) wNil)))) wNil)) (wVar 3)))))))

abbrev N_law : List Str := ["_law_script", "_law_pen_here", "_law_most", "_law_home", "_law_spot", "_law_given", "_law_some", "_law_k"]
def W_law : WS :=
  (wSq (wSet 1 (wCall sp__law_pen 1 [0] (wCons (wVar 0) wNil)))
  (wSq (wFor (wItV (wTup (wCons (wC (.int 12)) (wCons (wC (.int 40)) wNil)))) (wgName 2) (wSq (wAsg (wCall sp__law_heap 2 [0, 1] (wCons (wVar 1) (wCons (wVar 2) wNil))) (wgTup 2 (wgCons (wgName 3) (wgCons (wgName 4) wgNil))))
  (wSq (wSet 5 (wCall sp__law_children 2 [0, 1] (wCons (wVar 1) (wCons (wVar 2) wNil))))
  (wSq (wSet 6 (wLc (wRg (wCons (wCall sp__law_draw 2 [0, 1] (wCons (wVar 1) (wCons (wC (.int 41)) wNil))) wNil)) (wcName 7) wYes (wCall sp__law_draw 2 [0, 1] (wCons (wVar 1) (wCons (wOp oIx (wLst (wCons (wC (.int 10)) (wCons (wC (.int 41)) (wCons (wOp oPow (wC (.int 10)) (wC (.int 30))) wNil)))) (wCall sp__law_draw 2 [0, 1] (wCons (wVar 1) (wCons (wC (.int 3)) wNil)))) wNil))) [7]))
  (wSq (wIf (wTst (wOp oEq (wCall sp__law_draw 2 [0, 1] (wCons (wVar 1) (wCons (wC (.int 2)) wNil))) (wC (.int 0)))) (wSet 6 (wCB fTuple (wCons (wVar 6) wNil))) wNx)
  (wIf (wTnot (wTru (wCall sp__law_right 3 [0, 1, 2] (wCons (wVar 3) (wCons (wVar 5) (wCons (wVar 6) wNil)))))) (wRet (wC (.bl false))) wNx))))))
  (wSq (wSet 3 (wTup (wCons (wOp oMul (wTup (wCons (wTRg1 (wC (.int 40))) wNil)) (wC (.int 40))) (wCons (wOp oMul (wTup (wCons (wC (.int 9)) wNil)) (wC (.int 40))) wNil))))
  (wSq (wIf (wTor (wTnot (wTru (wCall sp__law_right 3 [0, 1, 2] (wCons (wVar 3) (wCons (wTup (wCons (wTup wNil) wNil)) (wCons (wLst wNil) wNil)))))) (wTnot (wTru (wCall sp__law_right 3 [0, 1, 2] (wCons (wTup (wCons (wTup wNil) (wCons (wTup wNil) wNil))) (wCons (wTup (wCons (wTup (wCons (wC (.int 1)) wNil)) (wCons (wTup wNil) wNil))) (wCons (wTup (wCons (wC (.int 0)) wNil)) wNil))))))) (wRet (wC (.bl false))) wNx)
  (wRet (wCall sp__law_right 3 [0, 1, 2] (wCons (wTup (wCons (wTup (wCons (wC .non) wNil)) (wCons (wTup (wCons (wC (.int 0)) wNil)) wNil))) (wCons (wTup (wCons (wTup wNil) wNil)) (wCons (wTup wNil) wNil)))))))))


end G

set_option Elab.async false
set_option linter.all false
set_option maxRecDepth 100000
set_option pp.maxSteps 3000
set_option maxHeartbeats 4000000
namespace G
open PySem PySem.Spec L2
open PyProof.Rows hiding St
/-! ### one step of a reading, and the small goals on its way -/
local macro_rules | `(tactic| walk_at "ne") => `(tactic| first
  | with_reducible assumption
  | (refine Ne.symm ?_; with_reducible assumption)
  | exact ne_none (by with_reducible assumption) (by with_reducible assumption)
  | exact ne_none' (by with_reducible assumption) (by with_reducible assumption)
  | exact ne_noneA (by with_reducible assumption) (by with_reducible assumption)
  | exact (ne_noneA (by with_reducible assumption) (by with_reducible assumption)).symm
  | exact And.left (put_none.mp (by with_reducible assumption))
  | exact Ne.symm (And.left (put_none.mp (by with_reducible assumption)))
  | exact HasPen.ne (by with_reducible assumption) (by with_reducible assumption)
  | exact (HasPen.ne (by with_reducible assumption) (by with_reducible assumption)).symm
  | exact HasPen.ne (by with_reducible assumption) ((ticks_none _).mp (by with_reducible assumption))
  | exact (HasPen.ne (by with_reducible assumption) ((ticks_none _).mp (by with_reducible assumption))).symm
  | exact HasPen.neA (by with_reducible assumption) (by with_reducible assumption)
  | exact (HasPen.neA (by with_reducible assumption) (by with_reducible assumption)).symm)
local macro_rules | `(tactic| walk_at "lk") => `(tactic| first
  | with_reducible exact lstAt_put
  | with_reducible assumption
  | ((with_reducible refine lstAt_put' ?_ ?_); (· walk_at "ne"); (walk_at "lk"))
  | ((with_reducible refine lstAt_ticks' ?_); (walk_at "lk"))
  | ((with_reducible refine lst_at ?_); with_reducible assumption))
local macro_rules | `(tactic| walk_at "hp") => `(tactic| first
  | with_reducible assumption
  | ((with_reducible refine HasPen.put ?_ ?_); (walk_at "hp"); (walk_at "ne"))
  | ((with_reducible refine HasPen.ticks ?_); (walk_at "hp"))
  | exact HasPen.le (by with_reducible assumption) (by omega))
local macro_rules | `(tactic| walk_at "nn") => `(tactic| first
  | with_reducible assumption
  | exact And.right (put_none.mp (by with_reducible assumption))
  | exact (ticks_none _).mp (by with_reducible assumption)
  | ((with_reducible refine ticks_none' ?_ _); (walk_at "nn"))
  | ((with_reducible refine put_none.mpr (And.intro ?_ ?_)); (· walk_at "ne"); (walk_at "nn")))
local macro_rules | `(tactic| walk_at "sub") => `(tactic| first
  | with_reducible exact Sub.refl _
  | with_reducible assumption
  | ((with_reducible refine Sub.ticks ?_); omega)
  | ((with_reducible refine Sub.put ?_ _ (SubO.refl _)); (walk_at "sub"))
  | ((with_reducible refine Sub.over ?_ _ ?_); (· walk_at "sub"); (walk_at "nn")))
local macro_rules | `(tactic| walk_at "tk") => `(tactic| first
  | ((simp only [ticks_put, ticks_add]); (exact rfl)) | exact rfl)
local macro_rules | `(tactic| walk_at "sz") => `(tactic| first
  | exact Nat.le_of_ble_eq_true rfl
  | (simp only [sizeLine_eq, List.length_append, List.length_cons, List.length_nil, List.length_map, List.length_set, List.length_replicate, List.length_take, List.length_drop, List.length_range, List.length_reverse, List.length_dropLast]; omega))
local macro_rules | `(tactic| walk_at "ar") => `(tactic| first
  | with_reducible assumption
  | omega
  | exact mulOk_l (by omega) (by omega)
  | exact mulOk_r (by omega) (by omega)
  | exact divOk_s (by omega) (by omega)
  | with_reducible exact divOk_30 ‹_› ‹_›
  | exact cpow_s (by omega) (by omega) (by omega) (by omega))
local macro_rules | `(tactic| walk_at "sm") => `(tactic| (unfold sm62; omega))
/-- intro of a new address -/
local macro_rules | `(tactic| walk_at "new") => `(tactic| (
  (with_reducible intro _p _np); (try simp only [put_none, ticks_none] at _np); (try revert _np); (try intro ⟨_, _⟩); (try (intro _np2))))
local macro_rules | `(tactic| walk_at "x1") => `(tactic| first
  | with_reducible refine x_sq ?_ | with_reducible refine x_set ?_ | with_reducible refine x_op ?_ | with_reducible refine x_c ?_
  | ((with_reducible refine x_var (v := ?v) ?e ?k); (case e => exact rfl))
  | with_reducible refine x_cons ?_ | with_reducible refine x_nil ?_ | with_reducible refine x_cb ?_ | with_reducible refine x_call ?_ | with_reducible refine x_callK ?_
  | with_reducible refine x_if ?_ | with_reducible refine x_tst ?_ | with_reducible refine x_tand ?_ | with_reducible refine x_tor ?_ | with_reducible refine x_tnot ?_ | with_reducible refine x_tru ?_
  | with_reducible refine x_ret ?_ | with_reducible refine x_asg ?_ | with_reducible refine x_nx ?_ | with_reducible refine x_drop ?_ | with_reducible refine x_bk ?_ | with_reducible refine x_ct ?_ | with_reducible refine x_par ?_ | with_reducible refine x_retN ?_
  | with_reducible refine x_tup ?_ | with_reducible refine x_lst ?_ | with_reducible refine x_m0 ?_ | with_reducible refine x_m ?_ | with_reducible refine x_mS ?_ | with_reducible refine x_and ?_ | with_reducible refine x_or ?_ | with_reducible refine x_not ?_ | with_reducible refine x_ife ?_ | with_reducible refine x_neg ?_
  | with_reducible refine x_chain ?_ | with_reducible refine x_sl ?_ | with_reducible refine x_nop ?_ | with_reducible refine x_part ?_ | with_reducible refine x_rev ?_ | with_reducible refine x_lrg1 ?_ | with_reducible refine x_lrg2 ?_
  | ((with_reducible refine x_aug (v := ?v) ?e ?k); (case e => exact rfl)) | with_reducible refine x_augS ?_
  | with_reducible refine x_gname ?_ | with_reducible refine x_gsub ?_ | with_reducible refine x_gnil ?_ | with_reducible refine x_gcons ?_
  | ((with_reducible refine x_gtupT ?_ ?_); (· exact rfl)) | ((with_reducible refine x_gpr ?_ ?_); (· exact rfl))
  | with_reducible refine x_cname ?_ | with_reducible refine x_cnil ?_ | with_reducible refine x_ccons ?_ | ((with_reducible refine x_cpr ?_ ?_); (· exact rfl)) | ((with_reducible refine x_ctupT ?_ ?_); (· exact rfl))
  | ((with_reducible refine x_drawB (h2 := ?h2) ?hp ?hb ?e ?k); (case hp => walk_at "hp"); (case hb => omega); (case e => walk_at "tk"))
  | ((with_reducible refine x_tru1 (r := ?r) ?e ?k); (case e => exact rfl)) | with_reducible refine x_isN ?_ | with_reducible refine x_isNotN ?_ | with_reducible refine x_yesT ?_ | with_reducible refine x_pen ?_ | with_reducible refine x_slC ?_ | ((with_reducible refine x_slL (xs := ?xs) ?e ?k); (case e => walk_at "lk")) | ((with_reducible refine x_listL (xs := ?xs) ?e ?k); (case e => walk_at "lk")) | with_reducible refine x_listT ?_ | ((with_reducible refine x_revL (xs := ?xs) ?e ?k); (case e => walk_at "lk"))
  | with_reducible refine x_for ?_ | with_reducible refine x_lc ?_ | with_reducible refine x_rg ?_ | ((with_reducible refine x_rg1 ?_ ?_); (· walk_at "sm")) | ((with_reducible refine x_rg2 ?_ ?_); (· walk_at "sm")) | ((with_reducible refine x_rg3 ?_ ?_); (· walk_at "sm")) | with_reducible refine x_itV ?_ | with_reducible refine x_enum ?_ | with_reducible refine x_zip ?_ | with_reducible refine x_rvd ?_
  | with_reducible refine x_addI ?_ | with_reducible refine x_subI ?_ | with_reducible refine x_ltI ?_ | with_reducible refine x_leI ?_ | with_reducible refine x_gtI ?_ | with_reducible refine x_geI ?_
  | with_reducible refine x_onBl ?_ | with_reducible refine x_onInt ?_ | ((with_reducible refine x_onLst (xs := ?xs) ?e ?k); (case e => walk_at "lk")) | ((with_reducible refine x_onSome (z := ?z) ?e ?k); (case e => first | exact rfl | with_reducible assumption)) | with_reducible refine x_yes ?_ | with_reducible refine x_no ?_ | ((with_reducible refine x_yesE ?_ ?_); (· exact rfl)) | ((with_reducible refine x_noE ?_ ?_); (· exact rfl))
  | with_reducible refine x_abs ?_ | with_reducible refine x_intI ?_ | with_reducible refine x_intB ?_ | with_reducible refine x_min2 ?_ | with_reducible refine x_max2 ?_ | with_reducible refine x_lenT ?_ | with_reducible refine x_lenC ?_ | with_reducible refine x_tupleT ?_ | with_reducible refine x_slT ?_
  | ((with_reducible refine x_mulI ?_ ?_); (· walk_at "ar")) | ((with_reducible refine x_fdivI ?_ ?_); (· walk_at "ar")) | ((with_reducible refine x_modI ?_ ?_); (· walk_at "ar")) | ((with_reducible refine x_powI ?_ ?_); (· walk_at "ar"))
  | ((with_reducible refine x_ixL (xs := ?xs) (v := ?v) ?e ?e2 ?k); (case e => walk_at "lk"); (case e2 => first | exact rfl | with_reducible assumption)) | ((with_reducible refine x_ixT (v := ?v) ?e2 ?k); (case e2 => first | exact rfl | with_reducible assumption)) | ((with_reducible refine x_ixS (v := ?v) ?e2 ?k); (case e2 => with_reducible assumption))
  | ((with_reducible refine x_setI (xs := ?xs) (j := ?j) ?e ?e2 ?k); (case e => walk_at "lk"); (case e2 => first | exact rfl | with_reducible assumption))
  | ((with_reducible refine x_lenL (xs := ?xs) ?e ?k); (case e => walk_at "lk")) | ((with_reducible refine x_tupleL (xs := ?xs) ?e ?k); (case e => walk_at "lk"))
  | ((with_reducible refine x_tyL (xs := ?xs) ?e ?k); (case e => walk_at "lk"))
  | ((with_reducible refine x_append (xs := ?xs) ?e ?l ?k); (case e => walk_at "lk"); (case l => walk_at "sz"))
  | ((with_reducible refine x_eq (r := ?r) ?e ?k); (case e => exact rfl)) | ((with_reducible refine x_ne (r := ?r) ?e ?k); (case e => exact rfl))
  | ((with_reducible refine x_isinst (t := ?t) ?e ?ht ?k); (case e => exact rfl); (case ht => exact rfl))
  | ((with_reducible refine And.intro ?_ ?_); (· first | walk_at "sz" | exact rfl | ((refine isSome_it (xs := ?xs) ?e); (case e => walk_at "lk")) | ((refine isSome_seq (xs := ?xs) ?e); (case e => walk_at "lk")))))
local macro_rules | `(tactic| walk_at "x") => `(tactic| repeat (walk_at "x1"))
local macro_rules | `(tactic| walk_at "sube") => `(tactic| (repeat (first | exact trivial | refine ⟨rfl, ?_⟩)))
local macro_rules | `(tactic| walk_at "x1") => `(tactic| first
  | with_reducible refine x_try ?_ | with_reducible refine x_raise ?_ | with_reducible refine x_attr ?_ | with_reducible refine x_isXN ?_ | ((with_reducible refine x_isXE ?_ ?_); (· exact rfl))
  | ((with_reducible refine x_takes ?_ ?_ ?_); (· exact rfl); (· exact rfl)) | ((with_reducible refine x_passes ?_ ?_ ?_); (· exact rfl); (· exact rfl))
  | ((with_reducible refine x_aStore (v := ?v) ?e ?k); (case e => exact rfl)) | with_reducible refine x_aPass ?_ | with_reducible refine x_aDo ?_ | with_reducible refine x_aNone ?_)
local macro_rules | `(tactic| walk_at "x1") => `(tactic| first
  | with_reducible refine x_aaddI ?_ | with_reducible refine x_asubI ?_ | ((with_reducible refine x_divmodI ?_ ?_); (· first | with_reducible assumption | exact divOk_s (by omega) (by omega))))
local macro_rules | `(tactic| walk_at "li") => `(tactic| first
  | with_reducible exact insAt_put
  | with_reducible assumption
  | ((with_reducible refine insAt_put' ?_ ?_); (· walk_at "ne"); (walk_at "li"))
  | ((with_reducible refine insAt_ticks ?_); (walk_at "li")))
local macro_rules | `(tactic| walk_at "x1") => `(tactic| first
  | with_reducible refine x_fld ?_ | with_reducible refine x_setF ?_ | with_reducible refine x_meth ?_ | with_reducible refine x_make ?_
  | ((with_reducible refine x_onIns (fs := ?fs) ?e ?k); (case e => walk_at "li")))

theorem l__law_size (args : List Val) (h : Hg) (Q : KV) (E : KX) (hs : sp__law_size args h Q E) : Entry h (W__law_size (dOf Q E) (startG N__law_size args)) := by
  unfold sp__law_size at hs
  split at hs
  · rename_i p m
    obtain ⟨hm, hp, hq⟩ := hs
    refine Entry.self ?_
    unfold W__law_size dOf startG
    walk_at "x"
    intro w w0 w1
    walk_at "x"
    intro d1 d10 d11
    walk_at "x"
    intro d2 d20 d21
    walk_at "x"
    intro d3 d30 d31
    walk_at "x"
    intro q nq
    have fin : ∀ s : Int, 1 ≤ s → CloH (Q (.int (if s < m then s else m))) (put (ticks (1 + 1 + 1 + 1) h) q (.lst [.int (2 + d1), .int (3 + d2), .int (1 + d3), .int m])) := fun s s1 =>
      cloH_mk (Sub.over (.refl _) _ nq) (hq _ (by split <;> omega) (by split <;> omega))
    have hw : w = 0 ∨ w = 1 ∨ w = 2 ∨ w = 3 := by omega
    rcases hw with rfl | rfl | rfl | rfl
    · walk_at "x"; exact fin _ (by omega)
    · walk_at "x"; exact fin _ (by omega)
    · walk_at "x"; exact fin _ (by omega)
    · walk_at "x"; exact fin _ (by omega)
  · exact hs.elim
theorem l__law_order (args : List Val) (h : Hg) (Q : KV) (E : KX) (hs : sp__law_order args h Q E) : Entry h (W__law_order (dOf Q E) (startG N__law_order args)) := by
  unfold sp__law_order at hs
  split at hs
  · rename_i p n
    obtain ⟨hn, hp, hq⟩ := hs
    refine Entry.self ?_
    unfold W__law_order dOf startG
    walk_at "x"
    refine ⟨⟨by omega, by omega, by omega, by omega, by omega⟩, ?_⟩
    intro L nL
    rw [rgVals_0]
    walk_at "x"
    intro q nq
    simp only [put_none] at nq
    refine lc_by (itR 0 1 n.toNat) n.toNat (fun i acc h' => ∃ (ls ns : List Int), acc = ns.map Val.int ∧ h' = put (ticks i h) L (.lst (ls.map Val.int)) ∧ (ns ++ ls).Perm (rgI n.toNat) ∧ ns.length = i) (fun i acc h' _ _ => sqR_it) (fun i a e => itR_lt e) (put_none.mpr nq) ⟨rgI n.toNat, [], rfl, rfl, .refl _, rfl⟩ ?_ ?_
    · rintro i a acc h' ei ⟨ls, ns, rfl, rfl, hperm, hlen⟩ np Nx hN
      obtain ⟨hi, rfl⟩ := itR_some ei
      have hl : ls.length + i = n.toNat := by
        have := hperm.length_eq
        rw [List.length_append, rgI_length] at this
        omega
      obtain ⟨nq1, nq2⟩ := nq
      walk_at "x"
      rw [List.length_map]
      first | refine x_drawB (h2 := ?h2) (by walk_at "hp") (by omega) ?e ?k | refine x_draw (h2 := ?h2) (by walk_at "hp") (by omega) ?e ?k
      case e => walk_at "tk"
      intro d d0 d1
      walk_at "x"
      have hd : d.toNat < ls.length := by omega
      refine x_popI (xs := ls.map Val.int) (j := d.toNat) (v := .int ls[d.toNat]) (by walk_at "lk") ⟨by omega, by omega⟩ (ixN_pos d0 (by rw [List.length_map]; omega)) (by rw [List.getElem?_map, List.getElem?_eq_getElem hd]; rfl) ?_
      refine x_onLst (xs := ns.map Val.int) (by walk_at "lk") ⟨by rw [List.length_map, sizeLine_eq]; omega, ?_⟩
      refine hN ((ns ++ [ls[d.toNat]]).map Val.int) (put (ticks (i + 1) h) L (.lst ((ls.eraseIdx d.toNat).map Val.int))) _ ⟨ls.eraseIdx d.toNat, ns ++ [ls[d.toNat]], rfl, rfl, ?_, by rw [List.length_append]; simp [hlen]⟩ (put_none.mpr ⟨nq1, ticks_none' nq2 _⟩) ?_
      · refine List.Perm.trans ?_ hperm
        rw [List.append_assoc]
        exact List.Perm.append_left ns (erase_perm ls _ hd)
      · refine Sub.same fun a => ?_
        simp only [put]
        by_cases z1 : a = q
        · simp [z1, List.map_append]
        · by_cases z2 : a = L
          · simp [z1, z2, Ne.symm nq1, eraseIdx_map']
          · simp [z1, z2]
    · rintro i acc h' ei ⟨ls, ns, rfl, rfl, hperm, hlen⟩ np
      have hi := itR_none ei
      have hl := hperm.length_eq
      rw [List.length_append, rgI_length] at hl
      have : ls = [] := List.eq_nil_of_length_eq_zero (by omega)
      subst this
      have hin : i = n.toNat := by simp at hl; omega
      rw [List.append_nil] at hperm
      rw [hin]
      exact cloH_mk (Sub.put (Sub.over (.refl _) _ (ticks_none' nL _)) _ (.refl _)) (hq ns q hperm nq.2)
  · exact hs.elim
theorem x__law_size {h h2 : Hg} {Q : KV} {E : KX} {p : Addr} {m : Int} (hm : 1 ≤ m ∧ m ≤ 1000) (hp : HasPen h p 4) (e : ticks 4 h = h2) (k : ∀ s : Int, 1 ≤ s → s ≤ m → Q (.int s) h2) : sp__law_size (perm [0, 1] [.ref p, .int m]) h Q E := by
  subst e; exact ⟨hm, hp, k⟩
theorem x__law_order {h h2 : Hg} {Q : KV} {E : KX} {p : Addr} {n : Int} (hn : 0 ≤ n ∧ n ≤ 1000) (hp : HasPen h p n.toNat) (e : ticks n.toNat h = h2) (k : ∀ (ns : List Int) (q : Addr), ns.Perm (rgI n.toNat) → h q = none → Q (.ref q) (put h2 q (.lst (ns.map Val.int)))) : sp__law_order (perm [0, 1] [.ref p, .int n]) h Q E := by
  subst e; exact ⟨hn, hp, k⟩

end G

set_option Elab.async false
set_option linter.all false
set_option maxRecDepth 100000
set_option pp.maxSteps 3000
set_option maxHeartbeats 4000000
namespace G
open PySem PySem.Spec L2
open PyProof.Rows hiding St
/-! ### one step of a reading, and the small goals on its way -/
local macro_rules | `(tactic| walk_at "ne") => `(tactic| first
  | with_reducible assumption
  | (refine Ne.symm ?_; with_reducible assumption)
  | exact ne_none (by with_reducible assumption) (by with_reducible assumption)
  | exact ne_none' (by with_reducible assumption) (by with_reducible assumption)
  | exact ne_noneA (by with_reducible assumption) (by with_reducible assumption)
  | exact (ne_noneA (by with_reducible assumption) (by with_reducible assumption)).symm
  | exact And.left (put_none.mp (by with_reducible assumption))
  | exact Ne.symm (And.left (put_none.mp (by with_reducible assumption)))
  | exact HasPen.ne (by with_reducible assumption) (by with_reducible assumption)
  | exact (HasPen.ne (by with_reducible assumption) (by with_reducible assumption)).symm
  | exact HasPen.ne (by with_reducible assumption) ((ticks_none _).mp (by with_reducible assumption))
  | exact (HasPen.ne (by with_reducible assumption) ((ticks_none _).mp (by with_reducible assumption))).symm
  | exact HasPen.neA (by with_reducible assumption) (by with_reducible assumption)
  | exact (HasPen.neA (by with_reducible assumption) (by with_reducible assumption)).symm)
local macro_rules | `(tactic| walk_at "lk") => `(tactic| first
  | with_reducible exact lstAt_put
  | with_reducible assumption
  | ((with_reducible refine lstAt_put' ?_ ?_); (· walk_at "ne"); (walk_at "lk"))
  | ((with_reducible refine lstAt_ticks' ?_); (walk_at "lk"))
  | ((with_reducible refine lst_at ?_); with_reducible assumption))
local macro_rules | `(tactic| walk_at "hp") => `(tactic| first
  | with_reducible assumption
  | ((with_reducible refine HasPen.put ?_ ?_); (walk_at "hp"); (walk_at "ne"))
  | ((with_reducible refine HasPen.ticks ?_); (walk_at "hp"))
  | exact HasPen.le (by with_reducible assumption) (by omega))
local macro_rules | `(tactic| walk_at "nn") => `(tactic| first
  | with_reducible assumption
  | exact And.right (put_none.mp (by with_reducible assumption))
  | exact (ticks_none _).mp (by with_reducible assumption)
  | ((with_reducible refine ticks_none' ?_ _); (walk_at "nn"))
  | ((with_reducible refine put_none.mpr (And.intro ?_ ?_)); (· walk_at "ne"); (walk_at "nn")))
local macro_rules | `(tactic| walk_at "sub") => `(tactic| first
  | with_reducible exact Sub.refl _
  | with_reducible assumption
  | ((with_reducible refine Sub.ticks ?_); omega)
  | ((with_reducible refine Sub.put ?_ _ (SubO.refl _)); (walk_at "sub"))
  | ((with_reducible refine Sub.over ?_ _ ?_); (· walk_at "sub"); (walk_at "nn")))
local macro_rules | `(tactic| walk_at "tk") => `(tactic| first
  | ((simp only [ticks_put, ticks_add]); (exact rfl)) | exact rfl)
local macro_rules | `(tactic| walk_at "sz") => `(tactic| first
  | exact Nat.le_of_ble_eq_true rfl
  | (simp only [sizeLine_eq, List.length_append, List.length_cons, List.length_nil, List.length_map, List.length_set, List.length_replicate, List.length_take, List.length_drop, List.length_range, List.length_reverse, List.length_dropLast]; omega))
local macro_rules | `(tactic| walk_at "ar") => `(tactic| first
  | with_reducible assumption
  | omega
  | exact mulOk_l (by omega) (by omega)
  | exact mulOk_r (by omega) (by omega)
  | exact divOk_s (by omega) (by omega)
  | with_reducible exact divOk_30 ‹_› ‹_›
  | exact cpow_s (by omega) (by omega) (by omega) (by omega))
local macro_rules | `(tactic| walk_at "sm") => `(tactic| (unfold sm62; omega))
/-- intro of a new address -/
local macro_rules | `(tactic| walk_at "new") => `(tactic| (
  (with_reducible intro _p _np); (try simp only [put_none, ticks_none] at _np); (try revert _np); (try intro ⟨_, _⟩); (try (intro _np2))))
local macro_rules | `(tactic| walk_at "x1") => `(tactic| first
  | with_reducible refine x_sq ?_ | with_reducible refine x_set ?_ | with_reducible refine x_op ?_ | with_reducible refine x_c ?_
  | ((with_reducible refine x_var (v := ?v) ?e ?k); (case e => exact rfl))
  | with_reducible refine x_cons ?_ | with_reducible refine x_nil ?_ | with_reducible refine x_cb ?_ | with_reducible refine x_call ?_ | with_reducible refine x_callK ?_
  | with_reducible refine x_if ?_ | with_reducible refine x_tst ?_ | with_reducible refine x_tand ?_ | with_reducible refine x_tor ?_ | with_reducible refine x_tnot ?_ | with_reducible refine x_tru ?_
  | with_reducible refine x_ret ?_ | with_reducible refine x_asg ?_ | with_reducible refine x_nx ?_ | with_reducible refine x_drop ?_ | with_reducible refine x_bk ?_ | with_reducible refine x_ct ?_ | with_reducible refine x_par ?_ | with_reducible refine x_retN ?_
  | with_reducible refine x_tup ?_ | with_reducible refine x_lst ?_ | with_reducible refine x_m0 ?_ | with_reducible refine x_m ?_ | with_reducible refine x_mS ?_ | with_reducible refine x_and ?_ | with_reducible refine x_or ?_ | with_reducible refine x_not ?_ | with_reducible refine x_ife ?_ | with_reducible refine x_neg ?_
  | with_reducible refine x_chain ?_ | with_reducible refine x_sl ?_ | with_reducible refine x_nop ?_ | with_reducible refine x_part ?_ | with_reducible refine x_rev ?_ | with_reducible refine x_lrg1 ?_ | with_reducible refine x_lrg2 ?_
  | ((with_reducible refine x_aug (v := ?v) ?e ?k); (case e => exact rfl)) | with_reducible refine x_augS ?_
  | with_reducible refine x_gname ?_ | with_reducible refine x_gsub ?_ | with_reducible refine x_gnil ?_ | with_reducible refine x_gcons ?_
  | ((with_reducible refine x_gtupT ?_ ?_); (· exact rfl)) | ((with_reducible refine x_gpr ?_ ?_); (· exact rfl))
  | with_reducible refine x_cname ?_ | with_reducible refine x_cnil ?_ | with_reducible refine x_ccons ?_ | ((with_reducible refine x_cpr ?_ ?_); (· exact rfl)) | ((with_reducible refine x_ctupT ?_ ?_); (· exact rfl))
  | ((with_reducible refine x_drawB (h2 := ?h2) ?hp ?hb ?e ?k); (case hp => walk_at "hp"); (case hb => omega); (case e => walk_at "tk"))
  | ((with_reducible refine x_tru1 (r := ?r) ?e ?k); (case e => exact rfl)) | with_reducible refine x_isN ?_ | with_reducible refine x_isNotN ?_ | with_reducible refine x_yesT ?_ | with_reducible refine x_pen ?_ | with_reducible refine x_slC ?_ | ((with_reducible refine x_slL (xs := ?xs) ?e ?k); (case e => walk_at "lk")) | ((with_reducible refine x_listL (xs := ?xs) ?e ?k); (case e => walk_at "lk")) | with_reducible refine x_listT ?_ | ((with_reducible refine x_revL (xs := ?xs) ?e ?k); (case e => walk_at "lk"))
  | with_reducible refine x_for ?_ | with_reducible refine x_lc ?_ | with_reducible refine x_rg ?_ | ((with_reducible refine x_rg1 ?_ ?_); (· walk_at "sm")) | ((with_reducible refine x_rg2 ?_ ?_); (· walk_at "sm")) | ((with_reducible refine x_rg3 ?_ ?_); (· walk_at "sm")) | with_reducible refine x_itV ?_ | with_reducible refine x_enum ?_ | with_reducible refine x_zip ?_ | with_reducible refine x_rvd ?_
  | with_reducible refine x_addI ?_ | with_reducible refine x_subI ?_ | with_reducible refine x_ltI ?_ | with_reducible refine x_leI ?_ | with_reducible refine x_gtI ?_ | with_reducible refine x_geI ?_
  | with_reducible refine x_onBl ?_ | with_reducible refine x_onInt ?_ | ((with_reducible refine x_onLst (xs := ?xs) ?e ?k); (case e => walk_at "lk")) | ((with_reducible refine x_onSome (z := ?z) ?e ?k); (case e => first | exact rfl | with_reducible assumption)) | with_reducible refine x_yes ?_ | with_reducible refine x_no ?_ | ((with_reducible refine x_yesE ?_ ?_); (· exact rfl)) | ((with_reducible refine x_noE ?_ ?_); (· exact rfl))
  | with_reducible refine x_abs ?_ | with_reducible refine x_intI ?_ | with_reducible refine x_intB ?_ | with_reducible refine x_min2 ?_ | with_reducible refine x_max2 ?_ | with_reducible refine x_lenT ?_ | with_reducible refine x_lenC ?_ | with_reducible refine x_tupleT ?_ | with_reducible refine x_slT ?_
  | ((with_reducible refine x_mulI ?_ ?_); (· walk_at "ar")) | ((with_reducible refine x_fdivI ?_ ?_); (· walk_at "ar")) | ((with_reducible refine x_modI ?_ ?_); (· walk_at "ar")) | ((with_reducible refine x_powI ?_ ?_); (· walk_at "ar"))
  | ((with_reducible refine x_ixL (xs := ?xs) (v := ?v) ?e ?e2 ?k); (case e => walk_at "lk"); (case e2 => first | exact rfl | with_reducible assumption)) | ((with_reducible refine x_ixT (v := ?v) ?e2 ?k); (case e2 => first | exact rfl | with_reducible assumption)) | ((with_reducible refine x_ixS (v := ?v) ?e2 ?k); (case e2 => with_reducible assumption))
  | ((with_reducible refine x_setI (xs := ?xs) (j := ?j) ?e ?e2 ?k); (case e => walk_at "lk"); (case e2 => first | exact rfl | with_reducible assumption))
  | ((with_reducible refine x_lenL (xs := ?xs) ?e ?k); (case e => walk_at "lk")) | ((with_reducible refine x_tupleL (xs := ?xs) ?e ?k); (case e => walk_at "lk"))
  | ((with_reducible refine x_tyL (xs := ?xs) ?e ?k); (case e => walk_at "lk"))
  | ((with_reducible refine x_append (xs := ?xs) ?e ?l ?k); (case e => walk_at "lk"); (case l => walk_at "sz"))
  | ((with_reducible refine x_eq (r := ?r) ?e ?k); (case e => exact rfl)) | ((with_reducible refine x_ne (r := ?r) ?e ?k); (case e => exact rfl))
  | ((with_reducible refine x_isinst (t := ?t) ?e ?ht ?k); (case e => exact rfl); (case ht => exact rfl))
  | ((with_reducible refine And.intro ?_ ?_); (· first | walk_at "sz" | exact rfl | ((refine isSome_it (xs := ?xs) ?e); (case e => walk_at "lk")) | ((refine isSome_seq (xs := ?xs) ?e); (case e => walk_at "lk")))))
local macro_rules | `(tactic| walk_at "x") => `(tactic| repeat (walk_at "x1"))
local macro_rules | `(tactic| walk_at "sube") => `(tactic| (repeat (first | exact trivial | refine ⟨rfl, ?_⟩)))
local macro_rules | `(tactic| walk_at "x1") => `(tactic| first
  | with_reducible refine x_try ?_ | with_reducible refine x_raise ?_ | with_reducible refine x_attr ?_ | with_reducible refine x_isXN ?_ | ((with_reducible refine x_isXE ?_ ?_); (· exact rfl))
  | ((with_reducible refine x_takes ?_ ?_ ?_); (· exact rfl); (· exact rfl)) | ((with_reducible refine x_passes ?_ ?_ ?_); (· exact rfl); (· exact rfl))
  | ((with_reducible refine x_aStore (v := ?v) ?e ?k); (case e => exact rfl)) | with_reducible refine x_aPass ?_ | with_reducible refine x_aDo ?_ | with_reducible refine x_aNone ?_)
local macro_rules | `(tactic| walk_at "x1") => `(tactic| first
  | with_reducible refine x_aaddI ?_ | with_reducible refine x_asubI ?_ | ((with_reducible refine x_divmodI ?_ ?_); (· first | with_reducible assumption | exact divOk_s (by omega) (by omega))))
local macro_rules | `(tactic| walk_at "li") => `(tactic| first
  | with_reducible exact insAt_put
  | with_reducible assumption
  | ((with_reducible refine insAt_put' ?_ ?_); (· walk_at "ne"); (walk_at "li"))
  | ((with_reducible refine insAt_ticks ?_); (walk_at "li")))
local macro_rules | `(tactic| walk_at "x1") => `(tactic| first
  | with_reducible refine x_fld ?_ | with_reducible refine x_setF ?_ | with_reducible refine x_meth ?_ | with_reducible refine x_make ?_
  | ((with_reducible refine x_onIns (fs := ?fs) ?e ?k); (case e => walk_at "li")))

/-! ### the drawn slots: rows of a heap before its names -/
structure LkI (n t N B : Nat) (h H : Hg) (p : Addr) (rs : List Addr) (k : Nat) : Prop where
  sub : Sub (ticks (N - k) h) H
  pen : HasPen H p k
  few : k ≤ N
  row : ∀ r ∈ rs, RowB H (fun v => v < n) B r ∧ h r = none
  nod : rs.Nodup
  hld : ∀ v, 1 ≤ v → v ≤ t → Hld H rs n v
theorem LkI.draw {n t N B : Nat} {h H : Hg} {p : Addr} {rs : List Addr} {k : Nat} (x : LkI n t N B h H p rs (k + 1)) : LkI n t N B h (ticks 1 H) p rs k where
  sub := by
    have := x.sub.tickn 1
    have f := x.few
    rw [ticks_add, show N - (k + 1) + 1 = N - k by omega] at this
    exact this
  pen := HasPen.ticks x.pen
  few := by have := x.few; omega
  row := fun r hr => by
    obtain ⟨⟨cs, e, l, m⟩, n⟩ := x.row r hr
    exact ⟨⟨cs, lstAt_ticks' e, l, m⟩, n⟩
  nod := x.nod
  hld := fun i h1 h2 => by
    obtain ⟨u, r, cs, a1, a3, a4, a5⟩ := x.hld i h1 h2
    exact ⟨u, r, cs, a1, a3, lstAt_ticks' a4, a5⟩
theorem LkI.le {n t N B C : Nat} {h H : Hg} {p : Addr} {rs : List Addr} {k j : Nat} (x : LkI n t N B h H p rs k) (l : j ≤ k) (lb : B ≤ C) : LkI n t N C h H p rs j where
  sub := (Sub.ticks (by omega)).trans x.sub
  pen := x.pen.le l
  few := by have := x.few; omega
  row := fun r hr => by
    obtain ⟨⟨cs, e, l2, m⟩, n⟩ := x.row r hr
    exact ⟨⟨cs, e, Nat.le_trans l2 lb, m⟩, n⟩
  nod := x.nod
  hld := x.hld
theorem RowB.new {h : Hg} {n : Nat → Prop} {B : Nat} {r : Addr} (e : lstAt h r = some []) : RowB h n B r := ⟨[], e, Nat.zero_le _, fun k hk => by cases hk⟩
theorem cellV_inj {a b : Option Nat} (e : cellV a = cellV b) : a = b := by
  cases a <;> cases b
  · rfl
  · cases e
  · cases e
  · have e' : Val.int _ = Val.int _ := e
    injection e' with e'
    congr 1
    omega
theorem cells_inj : ∀ {a b : List (Option Nat)}, a.map cellV = b.map cellV → a = b
  | [], [], _ => rfl
  | [], _ :: _, e => by cases e
  | _ :: _, [], e => by cases e
  | x :: a, y :: b, e => by
    rw [List.map_cons, List.map_cons] at e
    injection e with e1 e2
    rw [cellV_inj e1, cells_inj e2]
/-- a row written -/
theorem LkI.put {n t N B : Nat} {h H : Hg} {p : Addr} {rs : List Addr} {k : Nat} (x : LkI n t N B h H p rs k) {r : Addr} (hr : h r = none) (hp : p ≠ r) {cs : List (Option Nat)} (l : cs.length ≤ B) (g : ∀ j, some j ∈ cs → j < n)
    (hs : ∀ c0 : List (Option Nat), lstAt H r = some (c0.map cellV) → ∀ j, some j ∈ c0 → some j ∈ cs) : LkI n t N B h (put H r (.lst (cs.map cellV))) p rs k where
  sub := fun b o e => by
    have z : b ≠ r := fun q => by subst q; rw [(ticks_none _).mpr hr] at e; cases e
    rw [put_ne z]; exact x.sub b o e
  pen := x.pen.put hp
  few := x.few
  nod := x.nod
  row := fun q hq => by
    obtain ⟨⟨cs', e, l', m'⟩, n⟩ := x.row q hq
    refine ⟨?_, n⟩
    by_cases z : q = r
    · subst z; exact ⟨cs, lstAt_put, l, g⟩
    · exact ⟨cs', lstAt_put' z e, l', m'⟩
  hld := fun i h1 h2 => by
    obtain ⟨u, r', c0, a1, a3, a4, a6⟩ := x.hld i h1 h2
    by_cases z : r' = r
    · subst z; exact ⟨u, r', cs, a1, a3, lstAt_put, hs c0 a4 i a6⟩
    · exact ⟨u, r', c0, a1, a3, lstAt_put' z a4, a6⟩
theorem LkI.more {n t N B : Nat} {h H : Hg} {p : Addr} {rs : List Addr} {k : Nat} (x : LkI n t N B h H p rs k) (m : Hld H rs n (t + 1)) : LkI n (t + 1) N B h H p rs k :=
  ⟨x.sub, x.pen, x.few, x.row, x.nod, fun i h1 h2 => by
    by_cases z : i = t + 1
    · subst z; exact m
    · exact x.hld i h1 (by omega)⟩
theorem ins_map {α : Type} (f : α → Val) (l : List α) (n : Nat) (x : α) : (l.map f).take n ++ [f x] ++ (l.map f).drop n = (l.take n ++ [x] ++ l.drop n).map f := by simp
theorem ins_mem {cs : List (Option Nat)} {d : Nat} {c : Option Nat} {j : Nat} (h : some j ∈ cs) : some j ∈ cs.take d ++ [c] ++ cs.drop d := by
  rw [← List.take_append_drop d cs] at h
  simp only [List.mem_append, List.mem_singleton] at h ⊢
  rcases h with h | h
  · exact .inl (.inl h)
  · exact .inr h
theorem cellV_int {k : Int} (h : 0 ≤ k) : Val.int k = cellV (some k.toNat) := by
  show Val.int k = Val.int ((k.toNat : Nat) : Int)
  rw [Int.toNat_of_nonneg h]
theorem insC_of {cs : List (Option Nat)} {d : Nat} {c : Option Nat} {P : Nat → Prop} (a : ∀ j, some j ∈ cs → P j) (b : ∀ j, c = some j → P j) : ∀ j, some j ∈ cs.take d ++ [c] ++ cs.drop d → P j := fun k hk => by
  rw [List.mem_append, List.mem_append, List.mem_singleton] at hk
  rcases hk with (hk | hk) | hk
  · exact a k (List.mem_of_mem_take hk)
  · exact b k hk.symm
  · exact a k (List.mem_of_mem_drop hk)
theorem ins_len {cs : List (Option Nat)} {d : Nat} {c : Option Nat} : (cs.take d ++ [c] ++ cs.drop d).length = cs.length + 1 := by simp; omega
theorem x__law_links {h : Hg} {Q : KV} {E : KX} {p : Addr} {n N : Nat} (hn : 1 ≤ n ∧ n ≤ 40) (hp : HasPen h p N) (hN : 1000 ≤ N) (k : ∀ (rs : List Addr) q h', rs.length = n → rs.Nodup → Sub (ticks 1000 h) h' → HasPen h' p (N - 1000) → h' q = none → (∀ r ∈ rs, RowB h' (fun v => v < n) 40 r ∧ h r = none) → (∀ v, 1 ≤ v → v < n → Hld h' rs n v) → Q (.ref q) (put h' q (.lst (rs.map Val.ref)))) : sp__law_links (perm [0, 1] [.ref p, .int (n : Nat)]) h Q E := ⟨n, N, rfl, hn, hp, hN, k⟩
theorem l__law_links (args : List Val) (h : Hg) (Q : KV) (E : KX) (hs : sp__law_links args h Q E) : Entry h (W__law_links (dOf Q E) (startG N__law_links args)) := by
  unfold sp__law_links at hs
  split at hs
  · rename_i p a
    obtain ⟨n, N, rfl, ⟨n1, n40⟩, hp, hN, hq⟩ := hs
    refine Entry.self ?_
    unfold W__law_links dOf startG
    walk_at "x"
    intro way w0 w1
    walk_at "x"
    intro dp dp0 dp1
    have hp2 : HasPen (ticks (1 + 1) h) p (N - 2) := HasPen.ticks (j := 2) (k := N - 2) (hp.le (by omega))
    walk_at "x"
    intro A nA
    have nA0 : h A = none := (ticks_none _).mp nA
    refine lc_by (itR 0 1 n) n (fun i acc h' => i ≤ n ∧ ∃ rs : List Addr, acc = rs.map Val.ref ∧ rs.length = i ∧ LkI n 0 N 0 h h' p rs (N - 2)) (fun i acc h' _ _ => sqR_it) (fun i a e => itR_lt e) nA ⟨Nat.zero_le _, [], rfl, rfl, ⟨by rw [show N - (N - 2) = 1 + 1 by omega]; exact .refl _, hp2, by omega, fun r hr => (by cases hr), .nil, fun i h1 h2 => by omega⟩⟩ ?_ ?_
    · rintro i v acc h' ei ⟨hi, rs, rfl, hl, I⟩ nA' Nx hN
      obtain ⟨hi2, rfl⟩ := itR_some ei
      walk_at "x"
      intro r nr
      obtain ⟨nrA, nr'⟩ := put_none.mp nr
      walk_at "x"
      have hrn : h r = none := (ticks_none _).mp (Sub.noneOf I.sub nr')
      refine hN ((rs ++ [r]).map Val.ref) (put h' r (.lst [])) _ ⟨hi2, rs ++ [r], rfl, by simp [hl], ?_⟩ (put_none.mpr ⟨fun q => nrA q.symm, nA'⟩) ?_
      · have I2 := I.put (r := r) (cs := []) hrn (I.pen.ne nr') (Nat.zero_le _) (fun j hj => by cases hj) (fun c0 e0 => absurd rfl (ne_noneA nr' e0))
        refine ⟨I2.sub, I2.pen, I2.few, fun q hq => ?_, ?_, fun i h1 h2 => by omega⟩
        rotate_left
        · rw [List.nodup_append]
          refine ⟨I.nod, by simp, fun x hx y hy => ?_⟩
          rw [List.mem_singleton] at hy
          subst hy
          obtain ⟨⟨cs, ec, _⟩, _⟩ := I.row x hx
          exact (ne_noneA nr' ec).symm
        rcases List.mem_append.mp hq with hq | hq
        · exact I2.row q hq
        · rw [List.mem_singleton] at hq
          subst hq
          exact ⟨RowB.new lstAt_put, hrn⟩
      · rw [put_comm (h := h') nrA.symm, put_put, List.map_append]
        exact .refl _
    · rintro i acc h' ei ⟨hi, rs, rfl, hl, I⟩ nA'
      have hi2 := itR_none ei
      have hl2 : rs.length = n := by omega
      clear ei hi hi2 hl
      walk_at "x"
      -- the tree
      refine for_by (itR 1 1 (n - 1)) (n - 1) (fun i e h2 => ∃ (x5 x6 x7 : Option Val) (H : Hg), e = [some (.ref p), some (.int (n : Nat)), some (.int way), some (.int dp), some (.ref A), x5, x6, x7, none, none, none] ∧ h2 = put H A (.lst (rs.map Val.ref)) ∧ H A = none ∧ LkI n i N i h H p rs (N - 2 - 3 * i) ∧ i ≤ n - 1) (fun i e h' _ => ?_) (fun i a e => itR_lt e) (clo_mk (subEb_refl _) (.refl _) ⟨none, none, none, h', rfl, rfl, nA', I, Nat.zero_le _⟩) ?_ ?_
      · rw [show (((n : Nat) : Int) - 1).toNat = n - 1 by omega]
        exact sqR_it
      · rintro i v e h2 ei ⟨x5, x6, x7, H, rfl, rfl, nA2, I2, hi⟩
        obtain ⟨hi2, rfl⟩ := itR_some ei
        have hpA : HasPen H p 3 := I2.pen.le (by omega)
        have pA : p ≠ A := I2.pen.ne nA2
        walk_at "x"
        intro da da0 da1
        walk_at "x"
        intro db db0 db1
        walk_at "x"
        intro T nT
        obtain ⟨nTA, nTH⟩ := put_none.mp nT
        have nTH' : H T = none := (ticks_none 2).mp nTH
        obtain ⟨b, b0, b1, hb⟩ : ∃ b : Int, 0 ≤ b ∧ b ≤ (i : Nat) ∧ atI [Val.int da, Val.int (1 + (i : Nat) * 1 - 1), Val.int (if 1 + ((i : Nat) : Int) * 1 - 1 - db > 0 then 1 + (i : Nat) * 1 - 1 - db else 0)] dp = some (.int b) := by
          obtain rfl | rfl | rfl : dp = 0 ∨ dp = 1 ∨ dp = 2 := by omega
          · exact ⟨_, by omega, by omega, rfl⟩
          · exact ⟨_, by omega, by omega, rfl⟩
          · exact ⟨_, by split <;> omega, by split <;> omega, rfl⟩
        have k2 : b.toNat < rs.length := by omega
        have f2 : atI (rs.map Val.ref) b = some (.ref rs[b.toNat]) := atI_map b0 k2
        obtain ⟨rm, hr2⟩ : ∃ r, r ∈ rs ∧ rs[b.toNat] = r := ⟨_, List.getElem_mem k2, rfl⟩
        have er3 : rs[b.toNat]? = some rm := by rw [List.getElem?_eq_getElem k2, hr2.2]
        rw [hr2.2] at f2
        obtain ⟨⟨cs, ec, cl, cm⟩, hn⟩ := I2.row rm hr2.1
        have rA : rm ≠ A := (ne_noneA nA2 ec).symm
        have hml : (List.map cellV cs).length = cs.length := List.length_map ..
        walk_at "x"
        intro at_ at0 at1
        walk_at "x"
        refine x_insert (xs := cs.map cellV) (by walk_at "lk") ⟨by rw [hml, sizeLine_eq]; omega, at0, by omega⟩ ?_
        walk_at "x"
        rw [show Val.int (1 + (i : Nat) * 1) = cellV (some (i + 1)) by show _ = Val.int ((i + 1 : Nat) : Int); congr 1; omega, ins_map]
        have I3 : LkI n i N (i + 1) h (ticks (1 + 1 + 1) H) p rs (N - 2 - 3 * (i + 1)) := ((I2.le (j := N - 2 - 3 * (i + 1) + 1 + 1 + 1) (C := i + 1) (by omega) (by omega)).draw.draw.draw)
        refine clo_mk (subEb_refl _) (Sub.put (Sub.over (.refl _) _ (put_none.mpr ⟨nTA, ticks_none' nTH' _⟩)) _ (.refl _)) ⟨_, _, _, put (ticks (1 + 1 + 1) H) rm _, rfl, put_comm rA.symm, put_none.mpr ⟨rA.symm, ticks_none' nA2 _⟩, (I3.put (cs := cs.take at_.toNat ++ [some (i + 1)] ++ cs.drop at_.toNat) hn (I2.pen.neA ec) (by rw [ins_len]; omega) ?_ ?_).more ?_, by omega⟩
        · exact insC_of cm fun j hj => by cases hj; omega
        · intro c0 e0 j hj
          have e1 := lstAt_ticks' (n := 1 + 1 + 1) ec
          rw [e1] at e0
          have := cells_inj (Option.some.inj e0)
          subst this
          exact ins_mem hj
        · exact ⟨b.toNat, rm, _, by omega, er3, lstAt_put, by simp⟩
      · rintro i e h2 ei ⟨x5, x6, x7, H, rfl, rfl, nA2, I2, hi⟩
        have hiM := itR_none ei
        have I4 : LkI n i N 39 h H p rs (N - 200) := I2.le (by omega) (by omega)
        have I4 : LkI n (n - 1) N 39 h H p rs (N - 200) := ⟨I4.sub, I4.pen, I4.few, I4.row, I4.nod, fun z z1 z2 => I4.hld z z1 (by omega)⟩
        clear I2 hi ei hiM
        have pn : HasPen H p 10 := I4.pen.le (by omega)
        have pA : p ≠ A := I4.pen.ne nA2
        walk_at "x"
        intro dq dq0 dq1
        walk_at "x"
        intro T nT
        obtain ⟨nTA, nTH⟩ := put_none.mp nT
        have nTH' : H T = none := (ticks_none 1).mp nTH
        obtain ⟨c, c0, c1, hc⟩ : ∃ c : Int, 0 ≤ c ∧ c ≤ 80 ∧ atI [Val.int 0, Val.int dq, Val.int (n : Nat), Val.int (2 * (n : Nat))] way = some (.int c) := by
          obtain ⟨v, hv, q⟩ := at4 (a := Val.int 0) (b := Val.int dq) (c := Val.int (n : Nat)) (d := Val.int (2 * (n : Nat))) w0 w1
          rcases q with rfl | rfl | rfl | rfl
          · exact ⟨_, by omega, by omega, hv⟩
          · exact ⟨_, by omega, by omega, hv⟩
          · exact ⟨_, by omega, by omega, hv⟩
          · exact ⟨_, by omega, by omega, hv⟩
        walk_at "x"
        refine for_by (itR 0 1 c.toNat) c.toNat (fun i e h2 => ∃ (x5 x6 x7 x8 x9 x10 : Option Val) (H : Hg), e = [some (.ref p), some (.int (n : Nat)), some (.int way), some (.int dp), some (.ref A), x5, x6, x7, x8, x9, x10] ∧ h2 = put H A (.lst (rs.map Val.ref)) ∧ H A = none ∧ LkI n (n - 1) N 39 h H p rs (N - 210 - 4 * i) ∧ i ≤ 80) (fun i e h' _ => sqR_it) (fun i a e => itR_lt e) (clo_mk (subEb_refl _) ?_ ⟨_, _, _, none, none, none, ticks 1 H, rfl, rfl, ticks_none' nA2 1, ((I4.le (j := N - 210 + 1) (C := 39) (by omega) (Nat.le_refl _)).draw), Nat.zero_le _⟩) ?_ ?_
        · exact Sub.over (.refl _) _ (put_none.mpr ⟨nTA, ticks_none' nTH' _⟩)
        · rintro i v e h2 ei ⟨x5, x6, x7, x8, x9, x10, H, rfl, rfl, nA2, I5, hi⟩
          obtain ⟨hi2, rfl⟩ := itR_some ei
          have pn : HasPen H p 4 := I5.pen.le (by omega)
          walk_at "x"
          intro a a0 a1
          walk_at "x"
          intro b b0 b1
          walk_at "x"
          have I6 : LkI n (n - 1) N 39 h (ticks (1 + 1) H) p rs (N - 210 - 4 * (i + 1) + 2) := ((I5.le (j := N - 210 - 4 * (i + 1) + 2 + 1 + 1) (C := 39) (by omega) (Nat.le_refl _)).draw.draw)
          have nA3 : ticks (1 + 1) H A = none := ticks_none' nA2 _
          generalize ticks (1 + 1) H = H2 at *
          have pn2 : HasPen H2 p 2 := I6.pen.le (by omega)
          refine x_cut (fun e h2 => ∃ (a b : Int) (H : Hg), 0 ≤ a ∧ a < n ∧ 0 ≤ b ∧ b < n ∧ e = [some (.ref p), some (.int (n : Nat)), some (.int way), some (.int dp), some (.ref A), x5, x6, x7, some (.int (0 + (i : Nat) * 1)), some (.int a), some (.int b)] ∧ h2 = put H A (.lst (rs.map Val.ref)) ∧ H A = none ∧ LkI n (n - 1) N 39 h H p rs (N - 210 - 4 * (i + 1) + 1)) ?_ ?_
          · have fin : ∀ (a' b' : Int) (H' : Hg), 0 ≤ a' → a' < n → 0 ≤ b' → b' < n → H' A = none → LkI n (n - 1) N 39 h H' p rs (N - 210 - 4 * (i + 1) + 1) → Clo (fun e h2 => ∃ (a b : Int) (H : Hg), 0 ≤ a ∧ a < n ∧ 0 ≤ b ∧ b < n ∧ e = [some (.ref p), some (.int (n : Nat)), some (.int way), some (.int dp), some (.ref A), x5, x6, x7, some (.int (0 + (i : Nat) * 1)), some (.int a), some (.int b)] ∧ h2 = put H A (.lst (rs.map Val.ref)) ∧ H A = none ∧ LkI n (n - 1) N 39 h H p rs (N - 210 - 4 * (i + 1) + 1)) [some (.ref p), some (.int (n : Nat)), some (.int way), some (.int dp), some (.ref A), x5, x6, x7, some (.int (0 + (i : Nat) * 1)), some (.int a'), some (.int b')] (put H' A (.lst (rs.map Val.ref))) :=
              fun a' b' H' h1 h2 h3 h4 h5 h6 => clo_mk (subEb_refl _) (.refl _) ⟨a', b', H', h1, h2, h3, h4, rfl, rfl, h5, h6⟩
            have I6d := (I6.le (j := N - 210 - 4 * (i + 1) + 1 + 1) (C := 39) (by omega) (Nat.le_refl _)).draw
            have I60 := I6.le (j := N - 210 - 4 * (i + 1) + 1) (C := 39) (by omega) (Nat.le_refl _)
            have swap : ∀ H' : Hg, H' A = none → LkI n (n - 1) N 39 h H' p rs (N - 210 - 4 * (i + 1) + 1) → Clo (fun e h2 => ∃ (a b : Int) (H : Hg), 0 ≤ a ∧ a < n ∧ 0 ≤ b ∧ b < n ∧ e = [some (.ref p), some (.int (n : Nat)), some (.int way), some (.int dp), some (.ref A), x5, x6, x7, some (.int (0 + (i : Nat) * 1)), some (.int a), some (.int b)] ∧ h2 = put H A (.lst (rs.map Val.ref)) ∧ H A = none ∧ LkI n (n - 1) N 39 h H p rs (N - 210 - 4 * (i + 1) + 1)) [some (.ref p), some (.int (n : Nat)), some (.int way), some (.int dp), some (.ref A), x5, x6, x7, some (.int (0 + (i : Nat) * 1)), some (.int (if b < a then b else a)), some (.int (if ((if b > a then b else a) + if decide (a = b) = true then 1 else 0) < (n : Int) - 1 then (if b > a then b else a) + if decide (a = b) = true then 1 else 0 else (n : Int) - 1))] (put H' A (.lst (rs.map Val.ref))) := fun H' hn hI => by
              have hbit := bit_bound (decide (a = b))
              refine fin _ _ H' ?_ ?_ ?_ ?_ hn hI
              · split <;> omega
              · split <;> omega
              · generalize (if decide (a = b) = true then (1 : Int) else 0) = t at *
                split <;> split <;> omega
              · generalize (if decide (a = b) = true then (1 : Int) else 0) = t at *
                split <;> split <;> omega
            walk_at "x"
            refine x_dec (fun z => ?_) (fun z => ?_)
            · walk_at "x"
              refine x_dec (fun z2 => ?_) (fun z2 => ?_)
              · walk_at "x"
                exact swap H2 nA3 I60
              · walk_at "x"
                intro d d0 d1
                walk_at "x"
                refine x_dec (fun z3 => ?_) (fun z3 => ?_)
                · walk_at "x"
                  exact swap (ticks 1 H2) (ticks_none' nA3 1) I6d
                · walk_at "x"
                  exact fin a b (ticks 1 H2) a0 a1 b0 b1 (ticks_none' nA3 1) I6d
            · walk_at "x"
              exact fin a b H2 a0 a1 b0 b1 nA3 I60
          · clear a0 a1 b0 b1 a b
            rintro e' h' ⟨a, b, H3, a0, a1, b0, b1, rfl, rfl, nA4, I7⟩
            have k4 : a.toNat < rs.length := by omega
            have f4 : atI (rs.map Val.ref) a = some (.ref rs[a.toNat]) := atI_map a0 k4
            obtain ⟨rm, hr2⟩ : ∃ r, r ∈ rs ∧ rs[a.toNat] = r := ⟨_, List.getElem_mem k4, rfl⟩
            rw [hr2.2] at f4
            obtain ⟨⟨cs, ec, cl, cm⟩, hn⟩ := I7.row rm hr2.1
            have rA : rm ≠ A := (ne_noneA nA4 ec).symm
            have hml : (List.map cellV cs).length = cs.length := List.length_map ..
            have pn1 : HasPen H3 p 1 := I7.pen.le (by omega)
            walk_at "x"
            have ins : ∀ at_ : Int, Clo (fun e h2 => ∃ (x5 x6 x7 x8 x9 x10 : Option Val) (H : Hg), e = [some (.ref p), some (.int (n : Nat)), some (.int way), some (.int dp), some (.ref A), x5, x6, x7, x8, x9, x10] ∧ h2 = put H A (.lst (rs.map Val.ref)) ∧ H A = none ∧ LkI n (n - 1) N 39 h H p rs (N - 210 - 4 * (i + 1)) ∧ i + 1 ≤ 80) [some (.ref p), some (.int (n : Nat)), some (.int way), some (.int dp), some (.ref A), x5, x6, some (.ref rm), some (.int (0 + (i : Nat) * 1)), some (.int a), some (.int b)] (put (put (ticks 1 H3) A (.lst (rs.map Val.ref))) rm (.lst ((cs.take at_.toNat ++ [some b.toNat] ++ cs.drop at_.toNat).map cellV))) ∨ 38 ≤ cs.length := fun at_ => by
              by_cases hc : cs.length < 38
              · refine .inl (clo_mk (subEb_refl _) (.refl _) ⟨_, _, _, _, _, _, put (ticks 1 H3) rm _, rfl, put_comm rA.symm, put_none.mpr ⟨rA.symm, ticks_none' nA4 _⟩, (I7.draw).put hn (I7.pen.neA ec) (by rw [ins_len]; omega) ?_ ?_, by omega⟩)
                · exact insC_of cm fun j hj => by cases hj; omega
                · intro c0 e0 j hj
                  rw [lstAt_ticks' ec] at e0
                  have := cells_inj (Option.some.inj e0)
                  subst this
                  exact ins_mem hj
              · exact .inr (by omega)
            refine x_dec (fun z => ?_) (fun z => ?_)
            · have go : ∀ at_ : Int, 0 ≤ at_ → at_ < ((cs.map cellV).length : Int) + 1 → mInsert (.ref rm) [.int at_, .int b] (put (ticks 1 H3) A (.lst (rs.map Val.ref))) fun v h1 => Clo (fun e h2 => ∃ (x5 x6 x7 x8 x9 x10 : Option Val) (H : Hg), e = [some (.ref p), some (.int (n : Nat)), some (.int way), some (.int dp), some (.ref A), x5, x6, x7, x8, x9, x10] ∧ h2 = put H A (.lst (rs.map Val.ref)) ∧ H A = none ∧ LkI n (n - 1) N 39 h H p rs (N - 210 - 4 * (i + 1)) ∧ i + 1 ≤ 80) [some (.ref p), some (.int (n : Nat)), some (.int way), some (.int dp), some (.ref A), x5, x6, some (.ref rm), some (.int (0 + (i : Nat) * 1)), some (.int a), some (.int b)] h1 := fun at_ at0 at1 => by
                refine x_insert (xs := cs.map cellV) (lstAt_put' rA (lstAt_ticks' ec)) ⟨by rw [hml, sizeLine_eq]; omega, at0, by omega⟩ ?_
                have e := ins_map cellV cs at_.toNat (some b.toNat)
                rw [show cellV (some b.toNat) = Val.int b from (cellV_int b0).symm] at e
                rw [e]
                rcases ins at_ with q | q
                · exact q
                · omega
              have stay : Clo (fun e h2 => ∃ (x5 x6 x7 x8 x9 x10 : Option Val) (H : Hg), e = [some (.ref p), some (.int (n : Nat)), some (.int way), some (.int dp), some (.ref A), x5, x6, x7, x8, x9, x10] ∧ h2 = put H A (.lst (rs.map Val.ref)) ∧ H A = none ∧ LkI n (n - 1) N 39 h H p rs (N - 210 - 4 * (i + 1)) ∧ i + 1 ≤ 80) [some (.ref p), some (.int (n : Nat)), some (.int way), some (.int dp), some (.ref A), x5, x6, some (.ref rm), some (.int (0 + (i : Nat) * 1)), some (.int a), some (.int b)] (put H3 A (.lst (rs.map Val.ref))) := clo_mk (subEb_refl _) (.refl _) ⟨_, _, _, _, _, _, H3, rfl, rfl, nA4, I7.le (by omega) (Nat.le_refl _), by omega⟩
              walk_at "x"
              refine x_decN (fun y => ?_) (fun y => ?_)
              · walk_at "x"
                intro at_ at0 at1
                walk_at "x"
                exact go at_ at0 at1
              · walk_at "x"
                refine x_dec (fun y2 => ?_) (fun y2 => ?_)
                · walk_at "x"
                  intro at_ at0 at1
                  walk_at "x"
                  exact go at_ at0 at1
                · walk_at "x"
                  exact stay
            · walk_at "x"
              exact clo_mk (subEb_refl _) (.refl _) ⟨_, _, _, _, _, _, H3, rfl, rfl, nA4, I7.le (by omega) (Nat.le_refl _), by omega⟩
        · rintro i e h2 ei ⟨x5, x6, x7, x8, x9, x10, H, rfl, rfl, nA2, I5, hi⟩
          have I8 : LkI n (n - 1) N 40 h H p rs (N - 600) := I5.le (by omega) (by omega)
          have r39 : ∀ (j : Nat) (r : Addr), rs[j]? = some r → RowB H (fun v => v < n) 39 r := fun j r e => (I5.row r (List.mem_of_getElem? e)).1
          clear I5 hi ei
          walk_at "x"
          refine for_by (fun t => (rs.map Val.ref)[t]?) n (fun t e h2 => ∃ (x7 : Option Val) (H : Hg), e = [some (.ref p), some (.int (n : Nat)), some (.int way), some (.int dp), some (.ref A), x5, x6, x7, x8, x9, x10] ∧ h2 = put H A (.lst (rs.map Val.ref)) ∧ H A = none ∧ LkI n (n - 1) N 40 h H p rs (N - 600 - 2 * t) ∧ t ≤ n ∧ ∀ (j : Nat) (r : Addr), t ≤ j → rs[j]? = some r → RowB H (fun v => v < n) 39 r) (fun t e h' hJ => by obtain ⟨x7, H, _, rfl, _⟩ := hJ; exact sqV_lst lstAt_put) (fun i a e => by have := (List.getElem?_eq_some_iff.mp e).1; rw [List.length_map] at this; omega) (clo_mk (subEb_refl _) (.refl _) ⟨_, H, rfl, rfl, nA2, I8, Nat.zero_le _, fun j r _ e => r39 j r e⟩) ?_ ?_
          · rintro t v e h2 et ⟨x7, H, rfl, rfl, nA2, I9, ht, r39⟩
            rw [List.getElem?_map] at et
            obtain ⟨rm, er, rfl⟩ := Option.map_eq_some_iff.mp et
            have ht2 := (List.getElem?_eq_some_iff.mp er).1
            have mr := List.mem_of_getElem? er
            obtain ⟨cs, ec, cl, cm⟩ := r39 t rm (Nat.le_refl _) er
            have hn := (I9.row rm mr).2
            have rA : rm ≠ A := (ne_noneA nA2 ec).symm
            have hml : (List.map cellV cs).length = cs.length := List.length_map ..
            have pn : HasPen H p 2 := I9.pen.le (by omega)
            walk_at "x"
            intro d d0 d1
            walk_at "x"
            have I10 := (I9.le (j := N - 600 - 2 * (t + 1) + 1 + 1) (C := 40) (by omega) (Nat.le_refl _)).draw
            refine x_dec (fun z => ?_) (fun z => ?_)
            · walk_at "x"
              intro at_ at0 at1
              walk_at "x"
              refine x_insert (xs := cs.map cellV) (by walk_at "lk") ⟨by rw [hml, sizeLine_eq]; omega, at0, by omega⟩ ?_
              rw [show Val.non = cellV none from rfl, ins_map]
              refine clo_mk (subEb_refl _) (.refl _) ⟨_, put (ticks (1 + 1) H) rm _, rfl, put_comm rA.symm, put_none.mpr ⟨rA.symm, ticks_none' nA2 _⟩, I10.draw.put (cs := cs.take at_.toNat ++ [none] ++ cs.drop at_.toNat) hn (I9.pen.neA ec) (by rw [ins_len]; omega) ?_ ?_, by omega, fun j r hj e => ?_⟩
              · exact insC_of cm fun j hj => by cases hj
              · intro c0 e0 j hj
                simp only [lstAt_ticks] at e0
                rw [ec] at e0
                have := cells_inj (Option.some.inj e0)
                subst this
                exact ins_mem hj
              · obtain ⟨c2, e2, l2, m2⟩ := r39 j r (by omega) e
                have nr : r ≠ rm := fun q => by
                  subst q
                  obtain ⟨h1, e1⟩ := List.getElem?_eq_some_iff.mp er
                  obtain ⟨h2, e2⟩ := List.getElem?_eq_some_iff.mp e
                  have := nodup_inj I9.nod h1 h2 (e1.trans e2.symm)
                  omega
                exact ⟨c2, lstAt_put' nr (lstAt_ticks' e2), l2, m2⟩
            · walk_at "x"
              exact clo_mk (subEb_refl _) (.refl _) ⟨_, ticks 1 H, rfl, rfl, ticks_none' nA2 1, I10.le (by omega) (Nat.le_refl _), by omega, fun j r hj e => by
                obtain ⟨c2, e2, l2, m2⟩ := r39 j r (by omega) e
                exact ⟨c2, lstAt_ticks' e2, l2, m2⟩⟩
          · rintro t e h2 et ⟨x7, H, rfl, rfl, nA2, I9, ht, r39⟩
            walk_at "x"
            exact cloH_mk (.refl _) (hq rs A H hl2 I9.nod ((Sub.ticks (by omega)).trans I9.sub) (I9.pen.le (by omega)) nA2 I9.row fun z z1 z2 => I9.hld z z1 (by omega))
  · exact hs.elim

end G

set_option Elab.async false
set_option linter.all false
set_option maxRecDepth 100000
set_option pp.maxSteps 3000
set_option maxHeartbeats 4000000
namespace G
open PySem PySem.Spec L2
open PyProof.Rows hiding St
/-! ### one step of a reading, and the small goals on its way -/
local macro_rules | `(tactic| walk_at "ne") => `(tactic| first
  | with_reducible assumption
  | (refine Ne.symm ?_; with_reducible assumption)
  | exact ne_none (by with_reducible assumption) (by with_reducible assumption)
  | exact ne_none' (by with_reducible assumption) (by with_reducible assumption)
  | exact ne_noneA (by with_reducible assumption) (by with_reducible assumption)
  | exact (ne_noneA (by with_reducible assumption) (by with_reducible assumption)).symm
  | exact And.left (put_none.mp (by with_reducible assumption))
  | exact Ne.symm (And.left (put_none.mp (by with_reducible assumption)))
  | exact HasPen.ne (by with_reducible assumption) (by with_reducible assumption)
  | exact (HasPen.ne (by with_reducible assumption) (by with_reducible assumption)).symm
  | exact HasPen.ne (by with_reducible assumption) ((ticks_none _).mp (by with_reducible assumption))
  | exact (HasPen.ne (by with_reducible assumption) ((ticks_none _).mp (by with_reducible assumption))).symm
  | exact HasPen.neA (by with_reducible assumption) (by with_reducible assumption)
  | exact (HasPen.neA (by with_reducible assumption) (by with_reducible assumption)).symm)
local macro_rules | `(tactic| walk_at "lk") => `(tactic| first
  | with_reducible exact lstAt_put
  | with_reducible assumption
  | ((with_reducible refine lstAt_put' ?_ ?_); (· walk_at "ne"); (walk_at "lk"))
  | ((with_reducible refine lstAt_ticks' ?_); (walk_at "lk"))
  | ((with_reducible refine lst_at ?_); with_reducible assumption))
local macro_rules | `(tactic| walk_at "hp") => `(tactic| first
  | with_reducible assumption
  | ((with_reducible refine HasPen.put ?_ ?_); (walk_at "hp"); (walk_at "ne"))
  | ((with_reducible refine HasPen.ticks ?_); (walk_at "hp"))
  | exact HasPen.le (by with_reducible assumption) (by omega))
local macro_rules | `(tactic| walk_at "nn") => `(tactic| first
  | with_reducible assumption
  | exact And.right (put_none.mp (by with_reducible assumption))
  | exact (ticks_none _).mp (by with_reducible assumption)
  | ((with_reducible refine ticks_none' ?_ _); (walk_at "nn"))
  | ((with_reducible refine put_none.mpr (And.intro ?_ ?_)); (· walk_at "ne"); (walk_at "nn")))
local macro_rules | `(tactic| walk_at "sub") => `(tactic| first
  | with_reducible exact Sub.refl _
  | with_reducible assumption
  | ((with_reducible refine Sub.ticks ?_); omega)
  | ((with_reducible refine Sub.put ?_ _ (SubO.refl _)); (walk_at "sub"))
  | ((with_reducible refine Sub.over ?_ _ ?_); (· walk_at "sub"); (walk_at "nn")))
local macro_rules | `(tactic| walk_at "tk") => `(tactic| first
  | ((simp only [ticks_put, ticks_add]); (exact rfl)) | exact rfl)
local macro_rules | `(tactic| walk_at "sz") => `(tactic| first
  | exact Nat.le_of_ble_eq_true rfl
  | (simp only [sizeLine_eq, List.length_append, List.length_cons, List.length_nil, List.length_map, List.length_set, List.length_replicate, List.length_take, List.length_drop, List.length_range, List.length_reverse, List.length_dropLast]; omega))
local macro_rules | `(tactic| walk_at "ar") => `(tactic| first
  | with_reducible assumption
  | omega
  | exact mulOk_l (by omega) (by omega)
  | exact mulOk_r (by omega) (by omega)
  | exact divOk_s (by omega) (by omega)
  | with_reducible exact divOk_30 ‹_› ‹_›
  | exact cpow_s (by omega) (by omega) (by omega) (by omega))
local macro_rules | `(tactic| walk_at "sm") => `(tactic| (unfold sm62; omega))
/-- intro of a new address -/
local macro_rules | `(tactic| walk_at "new") => `(tactic| (
  (with_reducible intro _p _np); (try simp only [put_none, ticks_none] at _np); (try revert _np); (try intro ⟨_, _⟩); (try (intro _np2))))
local macro_rules | `(tactic| walk_at "x1") => `(tactic| first
  | with_reducible refine x_sq ?_ | with_reducible refine x_set ?_ | with_reducible refine x_op ?_ | with_reducible refine x_c ?_
  | ((with_reducible refine x_var (v := ?v) ?e ?k); (case e => exact rfl))
  | with_reducible refine x_cons ?_ | with_reducible refine x_nil ?_ | with_reducible refine x_cb ?_ | with_reducible refine x_call ?_ | with_reducible refine x_callK ?_
  | with_reducible refine x_if ?_ | with_reducible refine x_tst ?_ | with_reducible refine x_tand ?_ | with_reducible refine x_tor ?_ | with_reducible refine x_tnot ?_ | with_reducible refine x_tru ?_
  | with_reducible refine x_ret ?_ | with_reducible refine x_asg ?_ | with_reducible refine x_nx ?_ | with_reducible refine x_drop ?_ | with_reducible refine x_bk ?_ | with_reducible refine x_ct ?_ | with_reducible refine x_par ?_ | with_reducible refine x_retN ?_
  | with_reducible refine x_tup ?_ | with_reducible refine x_lst ?_ | with_reducible refine x_m0 ?_ | with_reducible refine x_m ?_ | with_reducible refine x_mS ?_ | with_reducible refine x_and ?_ | with_reducible refine x_or ?_ | with_reducible refine x_not ?_ | with_reducible refine x_ife ?_ | with_reducible refine x_neg ?_
  | with_reducible refine x_chain ?_ | with_reducible refine x_sl ?_ | with_reducible refine x_nop ?_ | with_reducible refine x_part ?_ | with_reducible refine x_rev ?_ | with_reducible refine x_lrg1 ?_ | with_reducible refine x_lrg2 ?_
  | ((with_reducible refine x_aug (v := ?v) ?e ?k); (case e => exact rfl)) | with_reducible refine x_augS ?_
  | with_reducible refine x_gname ?_ | with_reducible refine x_gsub ?_ | with_reducible refine x_gnil ?_ | with_reducible refine x_gcons ?_
  | ((with_reducible refine x_gtupT ?_ ?_); (· exact rfl)) | ((with_reducible refine x_gpr ?_ ?_); (· exact rfl))
  | with_reducible refine x_cname ?_ | with_reducible refine x_cnil ?_ | with_reducible refine x_ccons ?_ | ((with_reducible refine x_cpr ?_ ?_); (· exact rfl)) | ((with_reducible refine x_ctupT ?_ ?_); (· exact rfl))
  | ((with_reducible refine x_drawB (h2 := ?h2) ?hp ?hb ?e ?k); (case hp => walk_at "hp"); (case hb => omega); (case e => walk_at "tk"))
  | ((with_reducible refine x_tru1 (r := ?r) ?e ?k); (case e => exact rfl)) | with_reducible refine x_isN ?_ | with_reducible refine x_isNotN ?_ | with_reducible refine x_yesT ?_ | with_reducible refine x_pen ?_ | with_reducible refine x_slC ?_ | ((with_reducible refine x_slL (xs := ?xs) ?e ?k); (case e => walk_at "lk")) | ((with_reducible refine x_listL (xs := ?xs) ?e ?k); (case e => walk_at "lk")) | with_reducible refine x_listT ?_ | ((with_reducible refine x_revL (xs := ?xs) ?e ?k); (case e => walk_at "lk"))
  | with_reducible refine x_for ?_ | with_reducible refine x_lc ?_ | with_reducible refine x_rg ?_ | ((with_reducible refine x_rg1 ?_ ?_); (· walk_at "sm")) | ((with_reducible refine x_rg2 ?_ ?_); (· walk_at "sm")) | ((with_reducible refine x_rg3 ?_ ?_); (· walk_at "sm")) | with_reducible refine x_itV ?_ | with_reducible refine x_enum ?_ | with_reducible refine x_zip ?_ | with_reducible refine x_rvd ?_
  | with_reducible refine x_addI ?_ | with_reducible refine x_subI ?_ | with_reducible refine x_ltI ?_ | with_reducible refine x_leI ?_ | with_reducible refine x_gtI ?_ | with_reducible refine x_geI ?_
  | with_reducible refine x_onBl ?_ | with_reducible refine x_onInt ?_ | ((with_reducible refine x_onLst (xs := ?xs) ?e ?k); (case e => walk_at "lk")) | ((with_reducible refine x_onSome (z := ?z) ?e ?k); (case e => first | exact rfl | with_reducible assumption)) | with_reducible refine x_yes ?_ | with_reducible refine x_no ?_ | ((with_reducible refine x_yesE ?_ ?_); (· exact rfl)) | ((with_reducible refine x_noE ?_ ?_); (· exact rfl))
  | with_reducible refine x_abs ?_ | with_reducible refine x_intI ?_ | with_reducible refine x_intB ?_ | with_reducible refine x_min2 ?_ | with_reducible refine x_max2 ?_ | with_reducible refine x_lenT ?_ | with_reducible refine x_lenC ?_ | with_reducible refine x_tupleT ?_ | with_reducible refine x_slT ?_
  | ((with_reducible refine x_mulI ?_ ?_); (· walk_at "ar")) | ((with_reducible refine x_fdivI ?_ ?_); (· walk_at "ar")) | ((with_reducible refine x_modI ?_ ?_); (· walk_at "ar")) | ((with_reducible refine x_powI ?_ ?_); (· walk_at "ar"))
  | ((with_reducible refine x_ixL (xs := ?xs) (v := ?v) ?e ?e2 ?k); (case e => walk_at "lk"); (case e2 => first | exact rfl | with_reducible assumption)) | ((with_reducible refine x_ixT (v := ?v) ?e2 ?k); (case e2 => first | exact rfl | with_reducible assumption)) | ((with_reducible refine x_ixS (v := ?v) ?e2 ?k); (case e2 => with_reducible assumption))
  | ((with_reducible refine x_setI (xs := ?xs) (j := ?j) ?e ?e2 ?k); (case e => walk_at "lk"); (case e2 => first | exact rfl | with_reducible assumption))
  | ((with_reducible refine x_lenL (xs := ?xs) ?e ?k); (case e => walk_at "lk")) | ((with_reducible refine x_tupleL (xs := ?xs) ?e ?k); (case e => walk_at "lk"))
  | ((with_reducible refine x_tyL (xs := ?xs) ?e ?k); (case e => walk_at "lk"))
  | ((with_reducible refine x_append (xs := ?xs) ?e ?l ?k); (case e => walk_at "lk"); (case l => walk_at "sz"))
  | ((with_reducible refine x_eq (r := ?r) ?e ?k); (case e => exact rfl)) | ((with_reducible refine x_ne (r := ?r) ?e ?k); (case e => exact rfl))
  | ((with_reducible refine x_isinst (t := ?t) ?e ?ht ?k); (case e => exact rfl); (case ht => exact rfl))
  | ((with_reducible refine And.intro ?_ ?_); (· first | walk_at "sz" | exact rfl | ((refine isSome_it (xs := ?xs) ?e); (case e => walk_at "lk")) | ((refine isSome_seq (xs := ?xs) ?e); (case e => walk_at "lk")))))
local macro_rules | `(tactic| walk_at "x") => `(tactic| repeat (walk_at "x1"))
local macro_rules | `(tactic| walk_at "sube") => `(tactic| (repeat (first | exact trivial | refine ⟨rfl, ?_⟩)))
local macro_rules | `(tactic| walk_at "x1") => `(tactic| first
  | with_reducible refine x_try ?_ | with_reducible refine x_raise ?_ | with_reducible refine x_attr ?_ | with_reducible refine x_isXN ?_ | ((with_reducible refine x_isXE ?_ ?_); (· exact rfl))
  | ((with_reducible refine x_takes ?_ ?_ ?_); (· exact rfl); (· exact rfl)) | ((with_reducible refine x_passes ?_ ?_ ?_); (· exact rfl); (· exact rfl))
  | ((with_reducible refine x_aStore (v := ?v) ?e ?k); (case e => exact rfl)) | with_reducible refine x_aPass ?_ | with_reducible refine x_aDo ?_ | with_reducible refine x_aNone ?_)
local macro_rules | `(tactic| walk_at "x1") => `(tactic| first
  | with_reducible refine x_aaddI ?_ | with_reducible refine x_asubI ?_ | ((with_reducible refine x_divmodI ?_ ?_); (· first | with_reducible assumption | exact divOk_s (by omega) (by omega))))
local macro_rules | `(tactic| walk_at "li") => `(tactic| first
  | with_reducible exact insAt_put
  | with_reducible assumption
  | ((with_reducible refine insAt_put' ?_ ?_); (· walk_at "ne"); (walk_at "li"))
  | ((with_reducible refine insAt_ticks ?_); (walk_at "li")))
local macro_rules | `(tactic| walk_at "x1") => `(tactic| first
  | with_reducible refine x_fld ?_ | with_reducible refine x_setF ?_ | with_reducible refine x_meth ?_ | with_reducible refine x_make ?_
  | ((with_reducible refine x_onIns (fs := ?fs) ?e ?k); (case e => walk_at "li")))

/-! ### the heap of the drawn slots, under its names -/
/-- t ticks of the draws from h on are left -/
structure TB (h H : Hg) (p : Addr) (k : Nat) : Prop where
  sub : Sub (ticks (1200 - k) h) H
  pen : HasPen H p k
  few : k ≤ 1200
theorem TB.draw {h H : Hg} {p : Addr} {k : Nat} (x : TB h H p (k + 1)) : TB h (ticks 1 H) p k where
  sub := by
    have := x.sub.tickn 1
    have f := x.few
    rw [ticks_add, show 1200 - (k + 1) + 1 = 1200 - k by omega] at this
    exact this
  pen := HasPen.ticks x.pen
  few := by have := x.few; omega
theorem TB.ticks {h H : Hg} {p : Addr} {k : Nat} (m : Nat) (x : TB h H p (k + m)) : TB h (ticks m H) p k where
  sub := by
    have := x.sub.tickn m
    have f := x.few
    rw [ticks_add, show 1200 - (k + m) + m = 1200 - k by omega] at this
    exact this
  pen := HasPen.ticks x.pen
  few := by have := x.few; omega
theorem TB.le {h H : Hg} {p : Addr} {k j : Nat} (x : TB h H p k) (l : j ≤ k) : TB h H p j := ⟨(Sub.ticks (by omega)).trans x.sub, x.pen.le l, by have := x.few; omega⟩
theorem TB.put {h H : Hg} {p r : Addr} {k : Nat} {o : Ob} (x : TB h H p k) (n : h r = none) (ne : p ≠ r) : TB h (put H r o) p k := ⟨x.sub.over _ (ticks_none' n _), x.pen.put ne, x.few⟩
theorem TB.none {h H : Hg} {p r : Addr} {k : Nat} (x : TB h H p k) (n : H r = none) : h r = none := (ticks_none _).mp (x.sub.noneOf n)
theorem set_hand {hs : List Nat} {j : Nat} {d : Int} (d0 : 0 ≤ d) : (hs.map fun n => Val.int ((n : Nat) : Int)).set j (.int d) = (hs.set j d.toNat).map fun n => Val.int ((n : Nat) : Int) := by
  rw [List.map_set, Int.toNat_of_nonneg d0]
theorem set_le {hs : List Nat} {j b c : Nat} (a : ∀ n ∈ hs, n ≤ c) (hb : b ≤ c) : ∀ n ∈ hs.set j b, n ≤ c := by
  intro n hn
  rcases List.mem_or_eq_of_mem_set hn with h | h
  · exact a n h
  · omega
theorem set_aliveP {P : Nat → Prop} {hs : List Nat} {lab d : Nat} (a : ∀ j, 1 ≤ hs.getD j 0 → P j) (k : P lab) : ∀ j, 1 ≤ (hs.set lab d).getD j 0 → P j := fun j hj => by
  by_cases z : lab = j
  · subst z; exact k
  · refine a j ?_
    rw [List.getD_eq_getElem?_getD, List.getElem?_set_ne z, ← List.getD_eq_getElem?_getD] at hj
    exact hj
theorem cnt_pos {rows : List Row} {cs : List (Option Nat)} {j : Nat} (h1 : some cs ∈ rows) (h2 : some j ∈ cs) : 1 ≤ cnt rows j := by
  unfold cnt
  induction rows with
  | nil => cases h1
  | cons r rows ih =>
    rw [List.map_cons, List.sum_cons]
    rcases List.mem_cons.mp h1 with h | h
    · subst h
      have : 1 ≤ cntR j (some cs) := List.count_pos_iff.mpr h2
      omega
    · have := ih h; omega
theorem rows_all {H : Hg} {G : Nat → Prop} : ∀ {rs : List Addr}, (∀ r ∈ rs, RowB H G 40 r) → ∃ css : List (List (Option Nat)), css.length = rs.length ∧ (∀ (i : Nat) (r : Addr), rs[i]? = some r → ∃ cs, css[i]? = some cs ∧ lstAt H r = some (cs.map cellV)) ∧ ∀ cs ∈ css, cs.length ≤ 40 ∧ ∀ k, some k ∈ cs → G k
  | [], _ => ⟨[], rfl, fun i r e => by simp at e, fun cs hc => by cases hc⟩
  | r :: rs, a => by
    obtain ⟨cs, e, l, m⟩ := a r List.mem_cons_self
    obtain ⟨css, e1, e2, e3⟩ := rows_all (rs := rs) fun z hz => a z (List.mem_cons_of_mem _ hz)
    refine ⟨cs :: css, by simp [e1], fun i z ez => ?_, fun z hz => ?_⟩
    · cases i with
      | zero => simp at ez; subst ez; exact ⟨cs, rfl, e⟩
      | succ i => exact e2 i z (by simpa using ez)
    · rcases List.mem_cons.mp hz with rfl | hz
      · exact ⟨l, m⟩
      · exact e3 z hz
/-- the row of node v under its name -/
def nmRow (ns : List Nat) (C : Nat → List (Option Nat)) (v : Nat) : List (Option Nat) := (C v).map fun c => c.map fun x => ns.getD x 0
/-- the rows behind the first i nodes -/
def RW (M : Nat) (ns : List Nat) (C : Nat → List (Option Nat)) : Nat → List Row
  | 0 => List.replicate M none
  | i + 1 => (RW M ns C i).set (ns.getD i 0) (some (nmRow ns C i))
theorem RW_len {M : Nat} {ns : List Nat} {C : Nat → List (Option Nat)} : ∀ i, (RW M ns C i).length = M
  | 0 => List.length_replicate
  | i + 1 => by
    show ((RW M ns C i).set _ _).length = M
    rw [List.length_set, RW_len i]
theorem RW_get {M : Nat} {ns : List Nat} {C : Nat → List (Option Nat)} (nd : ns.Nodup) (lt : ∀ x ∈ ns, x < M) (hl : ns.length = M) : ∀ i, i ≤ M → ∀ v, v < M → (RW M ns C i)[ns.getD v 0]? = some (if v < i then some (nmRow ns C v) else none)
  | 0, _, v, hv => by
    show (List.replicate M none)[_]? = _
    have := lt _ (List.getElem_mem (show v < ns.length by omega))
    rw [List.getElem?_replicate, List.getD_eq_getElem?_getD, List.getElem?_eq_getElem (by omega)]
    show (if ns[v] < M then _ else _) = _
    rw [if_pos this, if_neg (Nat.not_lt_zero _)]
  | i + 1, hi, v, hv => by
    have ih := RW_get (C := C) nd lt hl i (by omega) v hv
    have h1 : ns.getD v 0 = ns[v]'(by omega) := by rw [List.getD_eq_getElem?_getD, List.getElem?_eq_getElem (by omega)]; rfl
    have h2 : ns.getD i 0 = ns[i]'(by omega) := by rw [List.getD_eq_getElem?_getD, List.getElem?_eq_getElem (by omega)]; rfl
    show ((RW M ns C i).set (ns.getD i 0) (some (nmRow ns C i)))[ns.getD v 0]? = _
    by_cases z : v = i
    · subst z
      have := lt _ (List.getElem_mem (show v < ns.length by omega))
      rw [List.getElem?_set_self (by rw [RW_len, h1]; exact this), if_pos (by omega)]
    · have ne : ns.getD i 0 ≠ ns.getD v 0 := fun e => by
        rw [h1, h2] at e
        exact z (nodup_inj nd (by omega) (by omega) e).symm
      rw [List.getElem?_set_ne ne, ih]
      by_cases y : v < i
      · rw [if_pos y, if_pos (by omega)]
      · rw [if_neg y, if_neg (by omega)]
structure Nms (n M : Nat) (ns : List Nat) (C : Nat → List (Option Nat)) : Prop where
  pm : ns.Perm (List.range M)
  nM : n ≤ M
  m40 : M ≤ 40
  n1 : 1 ≤ n
  row : ∀ v, v < n → (C v).length ≤ 40 ∧ ∀ x, some x ∈ C v → x < n
  hld : ∀ v, 1 ≤ v → v < n → ∃ u, u < n ∧ some v ∈ C u
section
variable {n M : Nat} {ns : List Nat} {C : Nat → List (Option Nat)}
theorem Nms.nd (K : Nms n M ns C) : ns.Nodup := K.pm.nodup_iff.mpr List.nodup_range
theorem Nms.lt (K : Nms n M ns C) : ∀ x ∈ ns, x < M := fun x hx => List.mem_range.mp (K.pm.mem_iff.mp hx)
theorem Nms.len (K : Nms n M ns C) : ns.length = M := by rw [K.pm.length_eq, List.length_range]
theorem Nms.at_ (K : Nms n M ns C) {v : Nat} (hv : v < M) : ns[v]? = some (ns.getD v 0) := by
  have := K.len
  rw [List.getD_eq_getElem?_getD, List.getElem?_eq_getElem (by omega)]; rfl
theorem Nms.pos (K : Nms n M ns C) {k : Nat} (hk : k < M) : ∃ v, v < M ∧ ns.getD v 0 = k := by
  have hl := K.len
  have hm : k ∈ ns := K.pm.mem_iff.mpr (List.mem_range.mpr hk)
  obtain ⟨v, hv, e⟩ := List.mem_iff_getElem.mp hm
  exact ⟨v, by omega, by rw [List.getD_eq_getElem?_getD, List.getElem?_eq_getElem hv]; exact e⟩
theorem Nms.live (K : Nms n M ns C) {k : Nat} : Live (RW M ns C n) k ↔ ∃ v, v < n ∧ ns.getD v 0 = k := by
  have nM := K.nM
  constructor
  · rintro ⟨r, e⟩
    have hk := (List.getElem?_eq_some_iff.mp e).1
    rw [RW_len] at hk
    obtain ⟨v, hv, rfl⟩ := K.pos hk
    rw [RW_get K.nd K.lt K.len n nM v hv] at e
    by_cases z : v < n
    · exact ⟨v, z, rfl⟩
    · rw [if_neg z] at e; cases e
  · rintro ⟨v, hv, rfl⟩
    exact ⟨nmRow ns C v, by rw [RW_get K.nd K.lt K.len n nM v (by omega), if_pos hv]⟩
theorem Nms.ok (K : Nms n M ns C) {hs : List Nat} (hl : hs.length = M) (h9 : ∀ x ∈ hs, x ≤ 9) (out : ∀ j, 1 ≤ hs.getD j 0 → ∃ v, v < n ∧ ns.getD v 0 = j) (h0 : 1 ≤ hs.getD (ns.getD 0 0) 0) : HeapOk (RW M ns C n) hs where
  len := by rw [RW_len]; exact hl
  few := by rw [RW_len]; exact K.m40
  hand := h9
  row := fun r hr => by
    obtain ⟨k, hk⟩ := List.mem_iff_getElem?.mp hr
    obtain ⟨v, hv, rfl⟩ := K.live.mp ⟨r, hk⟩
    have nM := K.nM
    rw [RW_get K.nd K.lt K.len n nM v (by omega), if_pos hv] at hk
    cases hk
    obtain ⟨a, b⟩ := K.row v hv
    refine ⟨by unfold nmRow; rw [List.length_map]; exact a, fun x hx => ?_⟩
    unfold nmRow at hx
    obtain ⟨c, hc, ec⟩ := List.mem_map.mp hx
    cases c with
    | none => cases ec
    | some y =>
      cases ec
      exact K.live.mpr ⟨y, b y hc, rfl⟩
  out := fun j hj => K.live.mpr (out j hj)
  held := fun j lj => by
    obtain ⟨v, hv, rfl⟩ := K.live.mp lj
    have nM := K.nM
    by_cases z : v = 0
    · subst z; omega
    · obtain ⟨u, hu, hc⟩ := K.hld v (by omega) hv
      have e := RW_get (C := C) K.nd K.lt K.len n nM u (by omega)
      rw [if_pos hu] at e
      have := cnt_pos (j := ns.getD v 0) (List.mem_of_getElem? e) (by
        unfold nmRow
        exact List.mem_map.mpr ⟨some v, hc, rfl⟩)
      omega
end
structure Sep (h : Hg) (A Nm SL OU : Addr) : Prop where
  a1 : A ≠ SL
  a2 : A ≠ OU
  n1 : Nm ≠ SL
  n2 : Nm ≠ OU
  so : SL ≠ OU
  hs : h SL = none
  ho : h OU = none
structure HS (h : Hg) (p A Nm SL OU : Addr) (rs : List Addr) (ns : List Nat) (C : Nat → List (Option Nat)) (n M i : Nat) (hs : List Nat) (k : Nat) (H : Hg) : Prop where
  tb : TB h H p k
  eA : lstAt H A = some (rs.map Val.ref)
  eN : lstAt H Nm = some (natsL ns)
  row : ∀ v, v < n → ∃ r, rs[v]? = some r ∧ (r ≠ SL ∧ r ≠ OU) ∧ lstAt H r = some ((C v).map cellV)
  eS : lstAt H SL = some ((RW M ns C i).map rowV)
  eO : lstAt H OU = some (hs.map fun n => Val.int ((n : Nat) : Int))
section
variable {h H : Hg} {p A Nm SL OU : Addr} {rs : List Addr} {ns : List Nat} {C : Nat → List (Option Nat)} {n M i : Nat} {hs : List Nat} {k : Nat}
theorem HS.draw (x : HS h p A Nm SL OU rs ns C n M i hs (k + 1) H) : HS h p A Nm SL OU rs ns C n M i hs k (G.ticks 1 H) :=
  ⟨x.tb.draw, lstAt_ticks' x.eA, lstAt_ticks' x.eN, fun v hv => by obtain ⟨r, a, b, c⟩ := x.row v hv; exact ⟨r, a, b, lstAt_ticks' c⟩, lstAt_ticks' x.eS, lstAt_ticks' x.eO⟩
theorem HS.le {j : Nat} (x : HS h p A Nm SL OU rs ns C n M i hs k H) (l : j ≤ k) : HS h p A Nm SL OU rs ns C n M i hs j H := ⟨x.tb.le l, x.eA, x.eN, x.row, x.eS, x.eO⟩
theorem HS.new {q : Addr} {o : Ob} (x : HS h p A Nm SL OU rs ns C n M i hs k H) (e : H q = none) : HS h p A Nm SL OU rs ns C n M i hs k (G.put H q o) :=
  ⟨x.tb.put (x.tb.none e) (x.tb.pen.ne e), lstAt_put' (ne_noneA e x.eA).symm x.eA, lstAt_put' (ne_noneA e x.eN).symm x.eN, fun v hv => by obtain ⟨r, a, b, c⟩ := x.row v hv; exact ⟨r, a, b, lstAt_put' (ne_noneA e c).symm c⟩, lstAt_put' (ne_noneA e x.eS).symm x.eS, lstAt_put' (ne_noneA e x.eO).symm x.eO⟩
theorem HS.setS (s : Sep h A Nm SL OU) (x : HS h p A Nm SL OU rs ns C n M i hs k H) : HS h p A Nm SL OU rs ns C n M (i + 1) hs k (G.put H SL (.lst ((RW M ns C (i + 1)).map rowV))) :=
  ⟨x.tb.put s.hs (x.tb.pen.neA x.eS), lstAt_put' s.a1 x.eA, lstAt_put' s.n1 x.eN, fun v hv => by obtain ⟨r, a, b, c⟩ := x.row v hv; exact ⟨r, a, b, lstAt_put' b.1 c⟩, lstAt_put, lstAt_put' s.so.symm x.eO⟩
theorem HS.setO {hs' : List Nat} (s : Sep h A Nm SL OU) (x : HS h p A Nm SL OU rs ns C n M i hs k H) : HS h p A Nm SL OU rs ns C n M i hs' k (G.put H OU (.lst (hs'.map fun n => Val.int ((n : Nat) : Int)))) :=
  ⟨x.tb.put s.ho (x.tb.pen.neA x.eO), lstAt_put' s.a2 x.eA, lstAt_put' s.n2 x.eN, fun v hv => by obtain ⟨r, a, b, c⟩ := x.row v hv; exact ⟨r, a, b, lstAt_put' b.2 c⟩, lstAt_put' s.so x.eS, lstAt_put⟩
end
def nmV (ns : List Nat) : Val → Val
  | .int a => .int ((ns.getD a.toNat 0 : Nat) : Int)
  | v => v
theorem nm_vals {ns : List Nat} {cs : List (Option Nat)} : (((cs.map cellV).mapIdx fun _ u => some (nmV ns u)).filterMap id) = (cs.map fun c => c.map fun x => ns.getD x 0).map cellV := by
  rw [mapIdx_some, List.map_map]
  apply List.ext_getElem?
  intro i
  rw [List.getElem?_mapIdx, List.getElem?_map, List.getElem?_map]
  cases e : cs[i]? with
  | none => rfl
  | some c =>
    cases c with
    | none => rfl
    | some x =>
      show some (nmV ns (.int ((x : Nat) : Int))) = some (.int ((ns.getD x 0 : Nat) : Int))
      show some (Val.int ((ns.getD ((x : Nat) : Int).toNat 0 : Nat) : Int)) = _
      rw [Int.toNat_natCast]

end G

set_option Elab.async false
set_option linter.all false
set_option maxRecDepth 100000
set_option pp.maxSteps 3000
set_option maxHeartbeats 4000000
namespace G
open PySem PySem.Spec L2
open PyProof.Rows hiding St
/-! ### one step of a reading, and the small goals on its way -/
local macro_rules | `(tactic| walk_at "ne") => `(tactic| first
  | with_reducible assumption
  | (refine Ne.symm ?_; with_reducible assumption)
  | exact ne_none (by with_reducible assumption) (by with_reducible assumption)
  | exact ne_none' (by with_reducible assumption) (by with_reducible assumption)
  | exact ne_noneA (by with_reducible assumption) (by with_reducible assumption)
  | exact (ne_noneA (by with_reducible assumption) (by with_reducible assumption)).symm
  | exact And.left (put_none.mp (by with_reducible assumption))
  | exact Ne.symm (And.left (put_none.mp (by with_reducible assumption)))
  | exact HasPen.ne (by with_reducible assumption) (by with_reducible assumption)
  | exact (HasPen.ne (by with_reducible assumption) (by with_reducible assumption)).symm
  | exact HasPen.ne (by with_reducible assumption) ((ticks_none _).mp (by with_reducible assumption))
  | exact (HasPen.ne (by with_reducible assumption) ((ticks_none _).mp (by with_reducible assumption))).symm
  | exact HasPen.neA (by with_reducible assumption) (by with_reducible assumption)
  | exact (HasPen.neA (by with_reducible assumption) (by with_reducible assumption)).symm)
local macro_rules | `(tactic| walk_at "lk") => `(tactic| first
  | with_reducible exact lstAt_put
  | with_reducible assumption
  | ((with_reducible refine lstAt_put' ?_ ?_); (· walk_at "ne"); (walk_at "lk"))
  | ((with_reducible refine lstAt_ticks' ?_); (walk_at "lk"))
  | ((with_reducible refine lst_at ?_); with_reducible assumption))
local macro_rules | `(tactic| walk_at "hp") => `(tactic| first
  | with_reducible assumption
  | ((with_reducible refine HasPen.put ?_ ?_); (walk_at "hp"); (walk_at "ne"))
  | ((with_reducible refine HasPen.ticks ?_); (walk_at "hp"))
  | exact HasPen.le (by with_reducible assumption) (by omega))
local macro_rules | `(tactic| walk_at "nn") => `(tactic| first
  | with_reducible assumption
  | exact And.right (put_none.mp (by with_reducible assumption))
  | exact (ticks_none _).mp (by with_reducible assumption)
  | ((with_reducible refine ticks_none' ?_ _); (walk_at "nn"))
  | ((with_reducible refine put_none.mpr (And.intro ?_ ?_)); (· walk_at "ne"); (walk_at "nn")))
local macro_rules | `(tactic| walk_at "sub") => `(tactic| first
  | with_reducible exact Sub.refl _
  | with_reducible assumption
  | ((with_reducible refine Sub.ticks ?_); omega)
  | ((with_reducible refine Sub.put ?_ _ (SubO.refl _)); (walk_at "sub"))
  | ((with_reducible refine Sub.over ?_ _ ?_); (· walk_at "sub"); (walk_at "nn")))
local macro_rules | `(tactic| walk_at "tk") => `(tactic| first
  | ((simp only [ticks_put, ticks_add]); (exact rfl)) | exact rfl)
local macro_rules | `(tactic| walk_at "sz") => `(tactic| first
  | exact Nat.le_of_ble_eq_true rfl
  | (simp only [sizeLine_eq, List.length_append, List.length_cons, List.length_nil, List.length_map, List.length_set, List.length_replicate, List.length_take, List.length_drop, List.length_range, List.length_reverse, List.length_dropLast]; omega))
local macro_rules | `(tactic| walk_at "ar") => `(tactic| first
  | with_reducible assumption
  | omega
  | exact mulOk_l (by omega) (by omega)
  | exact mulOk_r (by omega) (by omega)
  | exact divOk_s (by omega) (by omega)
  | with_reducible exact divOk_30 ‹_› ‹_›
  | exact cpow_s (by omega) (by omega) (by omega) (by omega))
local macro_rules | `(tactic| walk_at "sm") => `(tactic| (unfold sm62; omega))
/-- intro of a new address -/
local macro_rules | `(tactic| walk_at "new") => `(tactic| (
  (with_reducible intro _p _np); (try simp only [put_none, ticks_none] at _np); (try revert _np); (try intro ⟨_, _⟩); (try (intro _np2))))
local macro_rules | `(tactic| walk_at "x1") => `(tactic| first
  | with_reducible refine x_sq ?_ | with_reducible refine x_set ?_ | with_reducible refine x_op ?_ | with_reducible refine x_c ?_
  | ((with_reducible refine x_var (v := ?v) ?e ?k); (case e => exact rfl))
  | with_reducible refine x_cons ?_ | with_reducible refine x_nil ?_ | with_reducible refine x_cb ?_ | with_reducible refine x_call ?_ | with_reducible refine x_callK ?_
  | with_reducible refine x_if ?_ | with_reducible refine x_tst ?_ | with_reducible refine x_tand ?_ | with_reducible refine x_tor ?_ | with_reducible refine x_tnot ?_ | with_reducible refine x_tru ?_
  | with_reducible refine x_ret ?_ | with_reducible refine x_asg ?_ | with_reducible refine x_nx ?_ | with_reducible refine x_drop ?_ | with_reducible refine x_bk ?_ | with_reducible refine x_ct ?_ | with_reducible refine x_par ?_ | with_reducible refine x_retN ?_
  | with_reducible refine x_tup ?_ | with_reducible refine x_lst ?_ | with_reducible refine x_m0 ?_ | with_reducible refine x_m ?_ | with_reducible refine x_mS ?_ | with_reducible refine x_and ?_ | with_reducible refine x_or ?_ | with_reducible refine x_not ?_ | with_reducible refine x_ife ?_ | with_reducible refine x_neg ?_
  | with_reducible refine x_chain ?_ | with_reducible refine x_sl ?_ | with_reducible refine x_nop ?_ | with_reducible refine x_part ?_ | with_reducible refine x_rev ?_ | with_reducible refine x_lrg1 ?_ | with_reducible refine x_lrg2 ?_
  | ((with_reducible refine x_aug (v := ?v) ?e ?k); (case e => exact rfl)) | with_reducible refine x_augS ?_
  | with_reducible refine x_gname ?_ | with_reducible refine x_gsub ?_ | with_reducible refine x_gnil ?_ | with_reducible refine x_gcons ?_
  | ((with_reducible refine x_gtupT ?_ ?_); (· exact rfl)) | ((with_reducible refine x_gpr ?_ ?_); (· exact rfl))
  | with_reducible refine x_cname ?_ | with_reducible refine x_cnil ?_ | with_reducible refine x_ccons ?_ | ((with_reducible refine x_cpr ?_ ?_); (· exact rfl)) | ((with_reducible refine x_ctupT ?_ ?_); (· exact rfl))
  | ((with_reducible refine x_drawB (h2 := ?h2) ?hp ?hb ?e ?k); (case hp => walk_at "hp"); (case hb => omega); (case e => walk_at "tk"))
  | ((with_reducible refine x_tru1 (r := ?r) ?e ?k); (case e => exact rfl)) | with_reducible refine x_isN ?_ | with_reducible refine x_isNotN ?_ | with_reducible refine x_yesT ?_ | with_reducible refine x_pen ?_ | with_reducible refine x_slC ?_ | ((with_reducible refine x_slL (xs := ?xs) ?e ?k); (case e => walk_at "lk")) | ((with_reducible refine x_listL (xs := ?xs) ?e ?k); (case e => walk_at "lk")) | with_reducible refine x_listT ?_ | ((with_reducible refine x_revL (xs := ?xs) ?e ?k); (case e => walk_at "lk"))
  | with_reducible refine x_for ?_ | with_reducible refine x_lc ?_ | with_reducible refine x_rg ?_ | ((with_reducible refine x_rg1 ?_ ?_); (· walk_at "sm")) | ((with_reducible refine x_rg2 ?_ ?_); (· walk_at "sm")) | ((with_reducible refine x_rg3 ?_ ?_); (· walk_at "sm")) | with_reducible refine x_itV ?_ | with_reducible refine x_enum ?_ | with_reducible refine x_zip ?_ | with_reducible refine x_rvd ?_
  | with_reducible refine x_addI ?_ | with_reducible refine x_subI ?_ | with_reducible refine x_ltI ?_ | with_reducible refine x_leI ?_ | with_reducible refine x_gtI ?_ | with_reducible refine x_geI ?_
  | with_reducible refine x_onBl ?_ | with_reducible refine x_onInt ?_ | ((with_reducible refine x_onLst (xs := ?xs) ?e ?k); (case e => walk_at "lk")) | ((with_reducible refine x_onSome (z := ?z) ?e ?k); (case e => first | exact rfl | with_reducible assumption)) | with_reducible refine x_yes ?_ | with_reducible refine x_no ?_ | ((with_reducible refine x_yesE ?_ ?_); (· exact rfl)) | ((with_reducible refine x_noE ?_ ?_); (· exact rfl))
  | with_reducible refine x_abs ?_ | with_reducible refine x_intI ?_ | with_reducible refine x_intB ?_ | with_reducible refine x_min2 ?_ | with_reducible refine x_max2 ?_ | with_reducible refine x_lenT ?_ | with_reducible refine x_lenC ?_ | with_reducible refine x_tupleT ?_ | with_reducible refine x_slT ?_
  | ((with_reducible refine x_mulI ?_ ?_); (· walk_at "ar")) | ((with_reducible refine x_fdivI ?_ ?_); (· walk_at "ar")) | ((with_reducible refine x_modI ?_ ?_); (· walk_at "ar")) | ((with_reducible refine x_powI ?_ ?_); (· walk_at "ar"))
  | ((with_reducible refine x_ixL (xs := ?xs) (v := ?v) ?e ?e2 ?k); (case e => walk_at "lk"); (case e2 => first | exact rfl | with_reducible assumption)) | ((with_reducible refine x_ixT (v := ?v) ?e2 ?k); (case e2 => first | exact rfl | with_reducible assumption)) | ((with_reducible refine x_ixS (v := ?v) ?e2 ?k); (case e2 => with_reducible assumption))
  | ((with_reducible refine x_setI (xs := ?xs) (j := ?j) ?e ?e2 ?k); (case e => walk_at "lk"); (case e2 => first | exact rfl | with_reducible assumption))
  | ((with_reducible refine x_lenL (xs := ?xs) ?e ?k); (case e => walk_at "lk")) | ((with_reducible refine x_tupleL (xs := ?xs) ?e ?k); (case e => walk_at "lk"))
  | ((with_reducible refine x_tyL (xs := ?xs) ?e ?k); (case e => walk_at "lk"))
  | ((with_reducible refine x_append (xs := ?xs) ?e ?l ?k); (case e => walk_at "lk"); (case l => walk_at "sz"))
  | ((with_reducible refine x_eq (r := ?r) ?e ?k); (case e => exact rfl)) | ((with_reducible refine x_ne (r := ?r) ?e ?k); (case e => exact rfl))
  | ((with_reducible refine x_isinst (t := ?t) ?e ?ht ?k); (case e => exact rfl); (case ht => exact rfl))
  | ((with_reducible refine And.intro ?_ ?_); (· first | walk_at "sz" | exact rfl | ((refine isSome_it (xs := ?xs) ?e); (case e => walk_at "lk")) | ((refine isSome_seq (xs := ?xs) ?e); (case e => walk_at "lk")))))
local macro_rules | `(tactic| walk_at "x") => `(tactic| repeat (walk_at "x1"))
local macro_rules | `(tactic| walk_at "sube") => `(tactic| (repeat (first | exact trivial | refine ⟨rfl, ?_⟩)))
local macro_rules | `(tactic| walk_at "x1") => `(tactic| first
  | with_reducible refine x_try ?_ | with_reducible refine x_raise ?_ | with_reducible refine x_attr ?_ | with_reducible refine x_isXN ?_ | ((with_reducible refine x_isXE ?_ ?_); (· exact rfl))
  | ((with_reducible refine x_takes ?_ ?_ ?_); (· exact rfl); (· exact rfl)) | ((with_reducible refine x_passes ?_ ?_ ?_); (· exact rfl); (· exact rfl))
  | ((with_reducible refine x_aStore (v := ?v) ?e ?k); (case e => exact rfl)) | with_reducible refine x_aPass ?_ | with_reducible refine x_aDo ?_ | with_reducible refine x_aNone ?_)
local macro_rules | `(tactic| walk_at "x1") => `(tactic| first
  | with_reducible refine x_aaddI ?_ | with_reducible refine x_asubI ?_ | ((with_reducible refine x_divmodI ?_ ?_); (· first | with_reducible assumption | exact divOk_s (by omega) (by omega))))
local macro_rules | `(tactic| walk_at "li") => `(tactic| first
  | with_reducible exact insAt_put
  | with_reducible assumption
  | ((with_reducible refine insAt_put' ?_ ?_); (· walk_at "ne"); (walk_at "li"))
  | ((with_reducible refine insAt_ticks ?_); (walk_at "li")))
local macro_rules | `(tactic| walk_at "x1") => `(tactic| first
  | with_reducible refine x_fld ?_ | with_reducible refine x_setF ?_ | with_reducible refine x_meth ?_ | with_reducible refine x_make ?_
  | ((with_reducible refine x_onIns (fs := ?fs) ?e ?k); (case e => walk_at "li")))

theorem flat_one {v : Val} {k : Nat} : (List.replicate k [v]).flatten = List.replicate k v := by
  induction k with
  | zero => rfl
  | succ k ih => rw [List.replicate_succ, List.flatten_cons, ih, List.replicate_succ]; rfl
theorem perm_nats {ms : List Int} {M : Nat} (pm : ms.Perm (rgI M)) : ∃ ns : List Nat, ms = ns.map (fun n : Nat => ((n : Nat) : Int)) ∧ ns.Perm (List.range M) := by
  refine ⟨ms.map Int.toNat, ?_, ?_⟩
  · rw [List.map_map]
    have : ∀ x ∈ ms, ((fun n : Nat => ((n : Nat) : Int)) ∘ Int.toNat) x = x := fun x hx => by
      have := rgI_mem.mp (pm.mem_iff.mp hx)
      show ((x.toNat : Nat) : Int) = x
      omega
    rw [List.map_congr_left this, List.map_id']
  · have := pm.map Int.toNat
    refine this.trans (.of_eq ?_)
    unfold rgI
    rw [List.map_map]
    have : ∀ x ∈ List.range M, (Int.toNat ∘ fun i : Nat => ((i : Nat) : Int)) x = x := fun x _ => Int.toNat_natCast x
    rw [List.map_congr_left this, List.map_id']
theorem x__law_heap {h : Hg} {Q : KV} {E : KX} {p : Addr} {m N : Nat} (hm : 1 ≤ m ∧ m ≤ 40) (hp : HasPen h p (N + 1200)) (k : ∀ rows hs (j : Nat), HeapOk rows hs → Live rows j → 1 ≤ hs.getD j 0 → Q (.tup [heapV rows hs, .int (j : Nat)]) (ticks 1200 h)) : sp__law_heap (perm [0, 1] [.ref p, .int (m : Nat)]) h Q E := ⟨m, N, rfl, hm, hp, k⟩
theorem l__law_heap (args : List Val) (h : Hg) (Q : KV) (E : KX) (hs : sp__law_heap args h Q E) : Entry h (W__law_heap (dOf Q E) (startG N__law_heap args)) := by
  unfold sp__law_heap at hs
  split at hs
  · rename_i p a
    obtain ⟨m, N, rfl, ⟨m1, m40⟩, hp, hq⟩ := hs
    have T0 : TB h h p 1200 := ⟨by rw [Nat.sub_self]; exact .refl _, hp.le (by omega), Nat.le_refl _⟩
    refine Entry.self ?_
    unfold W__law_heap dOf startG
    walk_at "x"
    refine x__law_size ⟨by omega, by omega⟩ (hp.le (by omega)) rfl ?_
    intro s s1 s2
    obtain ⟨n, rfl⟩ : ∃ n : Nat, s = ((n : Nat) : Int) := ⟨s.toNat, by omega⟩
    have T1 : TB h (ticks 4 h) p 1196 := T0.ticks (k := 1196) 4
    generalize ticks 4 h = H1 at *
    walk_at "x"
    refine x__law_links ⟨by omega, by omega⟩ T1.pen (by omega) ?_
    intro rs A H2 hl nod sb hp2 nA row hld
    have T2 : TB h H2 p 196 := ⟨by
      have := (T1.sub.tickn 1000).trans sb
      rw [ticks_add] at this
      exact this, hp2, by omega⟩
    obtain ⟨css, c1, c2, c3⟩ := rows_all fun r hr => (row r hr).1
    have hrow : ∀ v, v < n → ∃ r, rs[v]? = some r ∧ lstAt H2 r = some ((css.getD v []).map cellV) := fun v hv => by
      have e := List.getElem?_eq_getElem (show v < rs.length by omega)
      obtain ⟨cs, e1, e2⟩ := c2 v _ e
      exact ⟨_, e, by rw [List.getD_eq_getElem?_getD, e1]; exact e2⟩
    have hcs : ∀ v, v < n → (css.getD v []).length ≤ 40 ∧ ∀ x, some x ∈ css.getD v [] → x < n := fun v hv => by
      have e := List.getElem?_eq_getElem (show v < css.length by omega)
      rw [List.getD_eq_getElem?_getD, e]
      exact c3 _ (List.getElem_mem _)
    have hhl : ∀ v, 1 ≤ v → v < n → ∃ u, u < n ∧ some v ∈ css.getD u [] := fun v h1 h2 => by
      obtain ⟨u, r, cs, a1, a2, a3, a4⟩ := hld v h1 h2
      obtain ⟨cs', e1, e2⟩ := c2 u r a2
      rw [a3] at e2
      have := cells_inj (Option.some.inj e2)
      subst this
      exact ⟨u, a1, by rw [List.getD_eq_getElem?_getD, e1]; exact a4⟩
    clear c1 c2 c3 row hld sb
    have eA : lstAt (put H2 A (.lst (rs.map Val.ref))) A = some (rs.map Val.ref) := lstAt_put
    have T3 : TB h (put H2 A (.lst (rs.map Val.ref))) p 196 := T2.put (T2.none nA) (hp2.ne nA)
    have hrow3 : ∀ v, v < n → ∃ r, rs[v]? = some r ∧ lstAt (put H2 A (.lst (rs.map Val.ref))) r = some ((css.getD v []).map cellV) := fun v hv => by
      obtain ⟨r, e1, e2⟩ := hrow v hv
      exact ⟨r, e1, lstAt_put' (ne_noneA nA e2).symm e2⟩
    clear hrow T2 T1 hp2
    generalize put H2 A (.lst (rs.map Val.ref)) = H3 at *
    have pn3 : HasPen H3 p 2 := T3.pen.le (by omega)
    walk_at "x"
    intro d d0 d1
    walk_at "x"
    intro T nT
    have pT : p ≠ T := pn3.ne ((ticks_none 1).mp nT)
    walk_at "x"
    intro ix ix0 ix1
    obtain ⟨c, c0, c1, hc⟩ : ∃ c : Int, 0 ≤ c ∧ c ≤ 3 ∧ atI [Val.int 0, Val.int 0, Val.int 1, Val.int d] ix = some (.int c) := by
      obtain ⟨v, hv, q⟩ := at4 (a := Val.int 0) (b := Val.int 0) (c := Val.int 1) (d := Val.int d) ix0 ix1
      rcases q with rfl | rfl | rfl | rfl
      · exact ⟨_, by omega, by omega, hv⟩
      · exact ⟨_, by omega, by omega, hv⟩
      · exact ⟨_, by omega, by omega, hv⟩
      · exact ⟨_, by omega, by omega, hv⟩
    have nT3 : H3 T = none := (ticks_none 1).mp nT
    have T4 : TB h (put (ticks (1 + 1) H3) T (.lst [.int 0, .int 0, .int 1, .int d])) p 194 := (T3.ticks (k := 194) 2).put (T3.none nT3) pT
    have eA4 : lstAt (put (ticks (1 + 1) H3) T (.lst [.int 0, .int 0, .int 1, .int d])) A = some (rs.map Val.ref) := lstAt_put' (ne_noneA nT3 eA).symm (lstAt_ticks' eA)
    have hrow4 : ∀ v, v < n → ∃ r, rs[v]? = some r ∧ lstAt (put (ticks (1 + 1) H3) T (.lst [.int 0, .int 0, .int 1, .int d])) r = some ((css.getD v []).map cellV) := fun v hv => by
      obtain ⟨r, e1, e2⟩ := hrow3 v hv
      exact ⟨r, e1, lstAt_put' (ne_noneA nT3 e2).symm (lstAt_ticks' e2)⟩
    have hsp : (if c < 40 - ((n : Nat) : Int) then c else 40 - (n : Nat)) = (((if c < 40 - ((n : Nat) : Int) then c else 40 - (n : Nat)).toNat : Nat) : Int) ∧ n + (if c < 40 - ((n : Nat) : Int) then c else 40 - (n : Nat)).toNat ≤ 40 := by split <;> omega
    walk_at "x"
    generalize hM : n + (if c < 40 - ((n : Nat) : Int) then c else 40 - (n : Nat)).toNat = M at *
    have eM : ((n : Nat) : Int) + (if c < 40 - ((n : Nat) : Int) then c else 40 - (n : Nat)) = ((M : Nat) : Int) := by omega
    generalize (if c < 40 - ((n : Nat) : Int) then c else 40 - ((n : Nat) : Int)) = sp at *
    rw [eM]
    refine x__law_order ⟨by omega, by omega⟩ (T4.pen.le (by omega)) rfl ?_
    intro ms Nm pm nNm
    rw [Int.toNat_natCast] at pm ⊢
    obtain ⟨ns, rfl, pn⟩ := perm_nats pm
    have K : Nms n M ns (fun v => css.getD v []) := ⟨pn, by omega, by omega, by omega, hcs, hhl⟩
    rw [List.map_map]
    have T5 : TB h (put (ticks M (put (ticks (1 + 1) H3) T (.lst [.int 0, .int 0, .int 1, .int d]))) Nm (.lst (natsL ns))) p 150 := ((T4.le (j := 150 + M) (by omega)).ticks M).put (T4.none nNm) (T4.pen.ne nNm)
    have eA5 : lstAt (put (ticks M (put (ticks (1 + 1) H3) T (.lst [.int 0, .int 0, .int 1, .int d]))) Nm (.lst (natsL ns))) A = some (rs.map Val.ref) := lstAt_put' (ne_noneA nNm eA4).symm (lstAt_ticks' eA4)
    have eN5 : lstAt (put (ticks M (put (ticks (1 + 1) H3) T (.lst [.int 0, .int 0, .int 1, .int d]))) Nm (.lst (natsL ns))) Nm = some (natsL ns) := lstAt_put
    have hrow5 : ∀ v, v < n → ∃ r, rs[v]? = some r ∧ lstAt (put (ticks M (put (ticks (1 + 1) H3) T (.lst [.int 0, .int 0, .int 1, .int d]))) Nm (.lst (natsL ns))) r = some ((css.getD v []).map cellV) := fun v hv => by
      obtain ⟨r, e1, e2⟩ := hrow4 v hv
      exact ⟨r, e1, lstAt_put' (ne_noneA nNm e2).symm (lstAt_ticks' e2)⟩
    clear hrow4 hrow3 eA4 eA T4 T3
    show wSq _ _ _ _ (put (ticks M (put (ticks (1 + 1) H3) T (.lst [.int 0, .int 0, .int 1, .int d]))) Nm (.lst (natsL ns)))
    generalize put (ticks M (put (ticks (1 + 1) H3) T (.lst [.int 0, .int 0, .int 1, .int d]))) Nm (.lst (natsL ns)) = H5 at *
    walk_at "x"
    intro U nU
    walk_at "x"
    rw [eM]
    refine x_mulL lstAt_put ⟨by omega, by omega, by simp only [List.length_singleton, sizeLine_eq]; omega⟩ ?_
    intro SL nSL
    rw [Int.toNat_natCast, flat_one]
    walk_at "x"
    intro U2 nU2
    walk_at "x"
    rw [eM]
    refine x_mulL lstAt_put ⟨by omega, by omega, by simp only [List.length_singleton, sizeLine_eq]; omega⟩ ?_
    intro OU nOU
    rw [Int.toNat_natCast, flat_one]
    have S1 : TB h (put H5 U (.lst [.non])) p 150 := T5.put (T5.none nU) (T5.pen.ne nU)
    have S2 : TB h (put (put H5 U (.lst [.non])) SL (.lst (List.replicate M .non))) p 150 := S1.put (S1.none nSL) (S1.pen.ne nSL)
    have S3 : TB h (put (put (put H5 U (.lst [.non])) SL (.lst (List.replicate M .non))) U2 (.lst [.int 0])) p 150 := S2.put (S2.none nU2) (S2.pen.ne nU2)
    have S4 : TB h (put (put (put (put H5 U (.lst [.non])) SL (.lst (List.replicate M .non))) U2 (.lst [.int 0])) OU (.lst (List.replicate M (.int 0)))) p 150 := S3.put (S3.none nOU) (S3.pen.ne nOU)
    have hSL := S1.none nSL
    have hOU := S3.none nOU
    have keep : ∀ {a : Addr} {xs : List Val}, lstAt H5 a = some xs → a ≠ SL ∧ a ≠ OU ∧ lstAt (put (put (put (put H5 U (.lst [.non])) SL (.lst (List.replicate M .non))) U2 (.lst [.int 0])) OU (.lst (List.replicate M (.int 0)))) a = some xs := fun {a xs} e => by
      have e1 : lstAt (put H5 U (.lst [.non])) a = some xs := lstAt_put' (ne_noneA nU e).symm e
      have n1 := (ne_noneA nSL e1).symm
      have e2 := lstAt_put' (o := .lst (List.replicate M .non)) n1 e1
      have e3 := lstAt_put' (o := .lst [.int 0]) (ne_noneA nU2 e2).symm e2
      have n2 := (ne_noneA nOU e3).symm
      exact ⟨n1, n2, lstAt_put' n2 e3⟩
    have SLOU : SL ≠ OU := by
      have e2 : lstAt (put (put H5 U (.lst [.non])) SL (.lst (List.replicate M .non))) SL = some _ := lstAt_put
      have e3 := lstAt_put' (o := .lst [.int 0]) (ne_noneA nU2 e2).symm e2
      exact (ne_noneA nOU e3).symm
    have eS6 : lstAt (put (put (put (put H5 U (.lst [.non])) SL (.lst (List.replicate M .non))) U2 (.lst [.int 0])) OU (.lst (List.replicate M (.int 0)))) SL = some (List.replicate M .non) := by
      have e2 : lstAt (put (put H5 U (.lst [.non])) SL (.lst (List.replicate M .non))) SL = some _ := lstAt_put
      exact lstAt_put' SLOU (lstAt_put' (o := .lst [.int 0]) (ne_noneA nU2 e2).symm e2)
    have eO6 : lstAt (put (put (put (put H5 U (.lst [.non])) SL (.lst (List.replicate M .non))) U2 (.lst [.int 0])) OU (.lst (List.replicate M (.int 0)))) OU = some (List.replicate M (.int 0)) := lstAt_put
    obtain ⟨A1, A2, eA6⟩ := keep eA5
    obtain ⟨N1, N2, eN6⟩ := keep eN5
    have hrow6 : ∀ v, v < n → ∃ r, rs[v]? = some r ∧ (r ≠ SL ∧ r ≠ OU) ∧ lstAt (put (put (put (put H5 U (.lst [.non])) SL (.lst (List.replicate M .non))) U2 (.lst [.int 0])) OU (.lst (List.replicate M (.int 0)))) r = some ((css.getD v []).map cellV) := fun v hv => by
      obtain ⟨r, e1, e2⟩ := hrow5 v hv
      obtain ⟨r1, r2, r3⟩ := keep e2
      exact ⟨r, e1, ⟨r1, r2⟩, r3⟩
    clear keep hrow5 eA5 eN5 T5 S1 S2 S3
    show wSq _ _ _ _ (put (put (put (put H5 U (.lst [.non])) SL (.lst (List.replicate M .non))) U2 (.lst [.int 0])) OU (.lst (List.replicate M (.int 0))))
    generalize put (put (put (put H5 U (.lst [.non])) SL (.lst (List.replicate M .non))) U2 (.lst [.int 0])) OU (.lst (List.replicate M (.int 0))) = H6 at *
    walk_at "x"
    have SP : Sep h A Nm SL OU := ⟨A1, A2, N1, N2, SLOU, hSL, hOU⟩
    have HS0 : HS h p A Nm SL OU rs ns (fun v => css.getD v []) n M 0 (List.replicate M 0) 150 H6 := by
      refine ⟨S4, eA6, eN6, hrow6, ?_, ?_⟩
      · rw [eS6]
        show _ = some ((List.replicate M none).map rowV)
        rw [List.map_replicate]; rfl
      · rw [eO6, List.map_replicate]; rfl
    clear S4 eA6 eN6 hrow6 eS6 eO6
    generalize (fun v => css.getD v []) = C at *
    refine for_by (itR 0 1 n) n (fun i e h2 => ∃ (hs : List Nat) (x8 : Option Val), i ≤ n ∧ HS h p A Nm SL OU rs ns C n M i hs (150 - 2 * i) h2 ∧ hs.length = M ∧ (∀ x ∈ hs, x ≤ 9) ∧ (∀ j, 1 ≤ hs.getD j 0 → ∃ v, v < n ∧ ns.getD v 0 = j) ∧ e = [some (.ref p), some (.int (m : Nat)), some (.int (n : Nat)), some (.ref A), some (.int sp), some (.ref Nm), some (.ref SL), some (.ref OU), x8, none]) (fun i e h' _ => sqR_it) (fun i a e => itR_lt e) ?_ ?_ ?_
    · refine clo_mk (subEb_refl _) (.refl _) ⟨List.replicate M 0, none, Nat.zero_le _, HS0, by simp, fun x hx => ?_, fun j hj => ?_, rfl⟩
      · rw [List.eq_of_mem_replicate hx]; omega
      · rw [List.getD_eq_getElem?_getD, List.getElem?_replicate] at hj
        split at hj <;> exact absurd hj (by decide)
    · rintro i a e h2 ei ⟨hs, x8, hi, X, l1, l2, l3, rfl⟩
      obtain ⟨hi2, rfl⟩ := itR_some ei
      obtain ⟨r, er, ⟨rS, rO⟩, ec⟩ := X.row i hi2
      obtain ⟨hc1, hc2⟩ := K.row i hi2
      have nM := K.nM
      have eN := X.eN
      have eA := X.eA
      have f1 : atI (rs.map Val.ref) ((0 : Int) + (i : Nat) * 1) = some (.ref r) := by
        rw [show (0 : Int) + (i : Nat) * 1 = ((i : Nat) : Int) by omega]
        exact L2.atI_nat (by rw [List.getElem?_map, er]; rfl)
      have fn : ∀ v, v < M → atI (natsL ns) ((v : Nat) : Int) = some (.int ((ns.getD v 0 : Nat) : Int)) := fun v hv => L2.atI_nat (by unfold natsL; rw [List.getElem?_map, K.at_ hv]; rfl)
      have fi : atI (natsL ns) ((0 : Int) + (i : Nat) * 1) = some (.int ((ns.getD i 0 : Nat) : Int)) := by
        rw [show (0 : Int) + (i : Nat) * 1 = ((i : Nat) : Int) by omega]
        exact fn i (by omega)
      have li : ns.getD i 0 < M := K.lt _ (List.mem_of_getElem? (K.at_ (by omega)))
      walk_at "x"
      intro P nP
      refine lc_pure ((C i).map cellV) (fun _ u => some (nmV ns u)) (fun i acc hi => sqV_lst (lstAt_put' (ne_noneA nP ec).symm ec)) nP (by rw [sizeLine_eq, List.length_map]; omega) ?_ ?_
      · intro j x acc ej hacc Nx hN
        rw [List.getElem?_map] at ej
        obtain ⟨c, ec2, rfl⟩ := Option.map_eq_some_iff.mp ej
        have hj := (List.getElem?_eq_some_iff.mp ec2).1
        cases c with
        | none =>
          simp only [cellV]
          walk_at "x"
          refine hN _ ?_
          rw [put_put]
          exact .refl _
        | some x =>
          have hx := fn x (by have := hc2 x (List.mem_of_getElem? ec2); omega)
          have eN2 : lstAt (put h2 P (.lst acc)) Nm = some (natsL ns) := lstAt_put' (ne_noneA nP eN).symm eN
          have hN : ∀ A, Sub (put h2 P (.lst (acc ++ [.int ((ns.getD ((x : Nat) : Int).toNat 0 : Nat) : Int)]))) A → Nx A := hN
          rw [Int.toNat_natCast] at hN
          simp only [cellV]
          walk_at "x"
          refine hN _ ?_
          rw [put_put]
          exact .refl _
      · rw [nm_vals]
        have X1 := X.new (o := .lst (((C i).map fun c => c.map fun x => ns.getD x 0).map cellV)) nP
        have e1 : lstAt (put h2 P (.lst (((C i).map fun c => c.map fun x => ns.getD x 0).map cellV))) P = some _ := lstAt_put
        generalize put h2 P (.lst (((C i).map fun c => c.map fun x => ns.getD x 0).map cellV)) = h3 at *
        have eN3 := X1.eN
        have eS3 := X1.eS
        have ix1 : ixN ((RW M ns C i).map rowV).length ((ns.getD i 0 : Nat) : Int) = some (ns.getD i 0) := by
          rw [List.length_map, RW_len]
          exact ixN_pos (by omega) (by omega)
        have X1 := X1.le (j := 150 - 2 * (i + 1) + 1 + 1) (by omega)
        have X2 := X1.setS SP
        have es : ((RW M ns C i).map rowV).set (ns.getD i 0) (Val.tup (((C i).map fun c => c.map fun x => ns.getD x 0).map cellV)) = (RW M ns C (i + 1)).map rowV := by
          show _ = ((RW M ns C i).set (ns.getD i 0) (some (nmRow ns C i))).map rowV
          rw [List.map_set]
          rfl
        walk_at "x"
        rw [es]
        generalize put h3 SL (.lst ((RW M ns C (i + 1)).map rowV)) = h4 at *
        have eN4 := X2.eN
        have eO4 := X2.eO
        have pn4 : HasPen h4 p 2 := X2.tb.pen.le (by omega)
        have ix2 : ixN (hs.map fun n => Val.int ((n : Nat) : Int)).length ((ns.getD i 0 : Nat) : Int) = some (ns.getD i 0) := by
          rw [List.length_map, l1]
          exact ixN_pos (by omega) (by omega)
        refine x_dec (fun z => ?_) (fun z => ?_)
        · walk_at "x"
          intro d9 d90 d91
          walk_at "x"
          refine x_dec (fun z2 => ?_) (fun z2 => ?_)
          · walk_at "x"
            intro da da0 da1
            walk_at "x"
            rw [set_hand (by omega)]
            exact clo_mk (subEb_refl _) (.refl _) ⟨hs.set (ns.getD i 0) (1 + da).toNat, _, hi2, X2.draw.draw.setO SP, by rw [List.length_set]; exact l1, set_le l2 (by omega), set_aliveP l3 ⟨i, hi2, rfl⟩, rfl⟩
          · walk_at "x"
            exact clo_mk (subEb_refl _) (.refl _) ⟨hs, _, hi2, X2.draw.le (by omega), l1, l2, l3, rfl⟩
        · walk_at "x"
          exact clo_mk (subEb_refl _) (.refl _) ⟨hs, _, hi2, X2.le (by omega), l1, l2, l3, rfl⟩
    · rintro i e h2 ei ⟨hs, x8, hi, X, l1, l2, l3, rfl⟩
      have hin := itR_none ei
      have hin : i = n := by omega
      rw [hin] at X
      clear ei hi
      have X := X.le (j := 2) (by have := K.nM; have := K.m40; omega)
      have n1 := K.n1
      have nM := K.nM
      have eN := X.eN
      have pn2 : HasPen h2 p 2 := X.tb.pen
      walk_at "x"
      intro P nP
      have X1 := X.new (o := .lst [.int 1, .int 1, .int 1, .int 2, .int 9]) nP
      have pP : p ≠ P := pn2.ne nP
      walk_at "x"
      intro d d0 d1
      obtain ⟨c, c0, c1, hc⟩ : ∃ c : Int, 1 ≤ c ∧ c ≤ 9 ∧ atI [Val.int 1, Val.int 1, Val.int 1, Val.int 2, Val.int 9] d = some (.int c) := by
        obtain ⟨v, hv, q⟩ := at5 (a := Val.int 1) (b := Val.int 1) (c := Val.int 1) (d := Val.int 2) (f := Val.int 9) d0 d1
        rcases q with rfl | rfl | rfl | rfl | rfl
        · exact ⟨_, by omega, by omega, hv⟩
        · exact ⟨_, by omega, by omega, hv⟩
        · exact ⟨_, by omega, by omega, hv⟩
        · exact ⟨_, by omega, by omega, hv⟩
        · exact ⟨_, by omega, by omega, hv⟩
      have f0 : atI (natsL ns) 0 = some (.int ((ns.getD 0 0 : Nat) : Int)) := atI_pos (by omega) (show (natsL ns)[0]? = _ by unfold natsL; rw [List.getElem?_map, K.at_ (by omega)]; rfl)
      have l0 : ns.getD 0 0 < M := K.lt _ (List.mem_of_getElem? (K.at_ (by omega)))
      have ix2 : ixN (hs.map fun n => Val.int ((n : Nat) : Int)).length ((ns.getD 0 0 : Nat) : Int) = some (ns.getD 0 0) := by
        rw [List.length_map, l1]
        exact ixN_pos (by omega) (by omega)
      have X2 := X1.draw (k := 1)
      rw [ticks_put] at X2
      generalize hH : put (ticks 1 h2) P (.lst [.int 1, .int 1, .int 1, .int 2, .int 9]) = h4 at *
      have eL4 : lstAt h4 P = some [.int 1, .int 1, .int 1, .int 2, .int 9] := by rw [← hH]; exact lstAt_put
      clear hH X X1
      have eN4 := X2.eN
      have eO4 := X2.eO
      walk_at "x"
      rw [set_hand (by omega)]
      have X3 := X2.setO (hs' := hs.set (ns.getD 0 0) c.toNat) SP
      generalize put h4 OU (.lst ((hs.set (ns.getD 0 0) c.toNat).map fun n => Val.int ((n : Nat) : Int))) = h5 at *
      have eS5 := X3.eS
      have eO5 := X3.eO
      have eN5 := X3.eN
      walk_at "x"
      have h0 : 1 ≤ (hs.set (ns.getD 0 0) c.toNat).getD (ns.getD 0 0) 0 := by
        rw [List.getD_eq_getElem?_getD, List.getElem?_set_self (by omega)]
        show 1 ≤ c.toNat
        omega
      exact cloH_mk ((Sub.ticks (by omega)).trans X3.tb.sub) (hq _ _ _ (K.ok (by rw [List.length_set]; exact l1) (set_le l2 (by omega)) (set_aliveP l3 ⟨0, by omega, rfl⟩) h0) (K.live.mpr ⟨0, by omega, rfl⟩) h0)
  · exact hs.elim

end G

set_option Elab.async false
set_option linter.all false
set_option maxRecDepth 100000
set_option pp.maxSteps 3000
set_option maxHeartbeats 4000000
namespace G
open PySem PySem.Spec L2
open PyProof.Rows hiding St
/-! ### one step of a reading, and the small goals on its way -/
local macro_rules | `(tactic| walk_at "ne") => `(tactic| first
  | with_reducible assumption
  | (refine Ne.symm ?_; with_reducible assumption)
  | exact ne_none (by with_reducible assumption) (by with_reducible assumption)
  | exact ne_none' (by with_reducible assumption) (by with_reducible assumption)
  | exact ne_noneA (by with_reducible assumption) (by with_reducible assumption)
  | exact (ne_noneA (by with_reducible assumption) (by with_reducible assumption)).symm
  | exact And.left (put_none.mp (by with_reducible assumption))
  | exact Ne.symm (And.left (put_none.mp (by with_reducible assumption)))
  | exact HasPen.ne (by with_reducible assumption) (by with_reducible assumption)
  | exact (HasPen.ne (by with_reducible assumption) (by with_reducible assumption)).symm
  | exact HasPen.ne (by with_reducible assumption) ((ticks_none _).mp (by with_reducible assumption))
  | exact (HasPen.ne (by with_reducible assumption) ((ticks_none _).mp (by with_reducible assumption))).symm
  | exact HasPen.neA (by with_reducible assumption) (by with_reducible assumption)
  | exact (HasPen.neA (by with_reducible assumption) (by with_reducible assumption)).symm)
local macro_rules | `(tactic| walk_at "lk") => `(tactic| first
  | with_reducible exact lstAt_put
  | with_reducible assumption
  | ((with_reducible refine lstAt_put' ?_ ?_); (· walk_at "ne"); (walk_at "lk"))
  | ((with_reducible refine lstAt_ticks' ?_); (walk_at "lk"))
  | ((with_reducible refine lst_at ?_); with_reducible assumption))
local macro_rules | `(tactic| walk_at "hp") => `(tactic| first
  | with_reducible assumption
  | ((with_reducible refine HasPen.put ?_ ?_); (walk_at "hp"); (walk_at "ne"))
  | ((with_reducible refine HasPen.ticks ?_); (walk_at "hp"))
  | exact HasPen.le (by with_reducible assumption) (by omega))
local macro_rules | `(tactic| walk_at "nn") => `(tactic| first
  | with_reducible assumption
  | exact And.right (put_none.mp (by with_reducible assumption))
  | exact (ticks_none _).mp (by with_reducible assumption)
  | ((with_reducible refine ticks_none' ?_ _); (walk_at "nn"))
  | ((with_reducible refine put_none.mpr (And.intro ?_ ?_)); (· walk_at "ne"); (walk_at "nn")))
local macro_rules | `(tactic| walk_at "sub") => `(tactic| first
  | with_reducible exact Sub.refl _
  | with_reducible assumption
  | ((with_reducible refine Sub.ticks ?_); omega)
  | ((with_reducible refine Sub.put ?_ _ (SubO.refl _)); (walk_at "sub"))
  | ((with_reducible refine Sub.over ?_ _ ?_); (· walk_at "sub"); (walk_at "nn")))
local macro_rules | `(tactic| walk_at "tk") => `(tactic| first
  | ((simp only [ticks_put, ticks_add]); (exact rfl)) | exact rfl)
local macro_rules | `(tactic| walk_at "sz") => `(tactic| first
  | exact Nat.le_of_ble_eq_true rfl
  | (simp only [sizeLine_eq, List.length_append, List.length_cons, List.length_nil, List.length_map, List.length_set, List.length_replicate, List.length_take, List.length_drop, List.length_range, List.length_reverse, List.length_dropLast]; omega))
local macro_rules | `(tactic| walk_at "ar") => `(tactic| first
  | with_reducible assumption
  | omega
  | exact mulOk_l (by omega) (by omega)
  | exact mulOk_r (by omega) (by omega)
  | exact divOk_s (by omega) (by omega)
  | with_reducible exact divOk_30 ‹_› ‹_›
  | exact cpow_s (by omega) (by omega) (by omega) (by omega))
local macro_rules | `(tactic| walk_at "sm") => `(tactic| (unfold sm62; omega))
/-- intro of a new address -/
local macro_rules | `(tactic| walk_at "new") => `(tactic| (
  (with_reducible intro _p _np); (try simp only [put_none, ticks_none] at _np); (try revert _np); (try intro ⟨_, _⟩); (try (intro _np2))))
local macro_rules | `(tactic| walk_at "x1") => `(tactic| first
  | with_reducible refine x_sq ?_ | with_reducible refine x_set ?_ | with_reducible refine x_op ?_ | with_reducible refine x_c ?_
  | ((with_reducible refine x_var (v := ?v) ?e ?k); (case e => exact rfl))
  | with_reducible refine x_cons ?_ | with_reducible refine x_nil ?_ | with_reducible refine x_cb ?_ | with_reducible refine x_call ?_ | with_reducible refine x_callK ?_
  | with_reducible refine x_if ?_ | with_reducible refine x_tst ?_ | with_reducible refine x_tand ?_ | with_reducible refine x_tor ?_ | with_reducible refine x_tnot ?_ | with_reducible refine x_tru ?_
  | with_reducible refine x_ret ?_ | with_reducible refine x_asg ?_ | with_reducible refine x_nx ?_ | with_reducible refine x_drop ?_ | with_reducible refine x_bk ?_ | with_reducible refine x_ct ?_ | with_reducible refine x_par ?_ | with_reducible refine x_retN ?_
  | with_reducible refine x_tup ?_ | with_reducible refine x_lst ?_ | with_reducible refine x_m0 ?_ | with_reducible refine x_m ?_ | with_reducible refine x_mS ?_ | with_reducible refine x_and ?_ | with_reducible refine x_or ?_ | with_reducible refine x_not ?_ | with_reducible refine x_ife ?_ | with_reducible refine x_neg ?_
  | with_reducible refine x_chain ?_ | with_reducible refine x_sl ?_ | with_reducible refine x_nop ?_ | with_reducible refine x_part ?_ | with_reducible refine x_rev ?_ | with_reducible refine x_lrg1 ?_ | with_reducible refine x_lrg2 ?_
  | ((with_reducible refine x_aug (v := ?v) ?e ?k); (case e => exact rfl)) | with_reducible refine x_augS ?_
  | with_reducible refine x_gname ?_ | with_reducible refine x_gsub ?_ | with_reducible refine x_gnil ?_ | with_reducible refine x_gcons ?_
  | ((with_reducible refine x_gtupT ?_ ?_); (· exact rfl)) | ((with_reducible refine x_gpr ?_ ?_); (· exact rfl))
  | with_reducible refine x_cname ?_ | with_reducible refine x_cnil ?_ | with_reducible refine x_ccons ?_ | ((with_reducible refine x_cpr ?_ ?_); (· exact rfl)) | ((with_reducible refine x_ctupT ?_ ?_); (· exact rfl))
  | ((with_reducible refine x_drawB (h2 := ?h2) ?hp ?hb ?e ?k); (case hp => walk_at "hp"); (case hb => omega); (case e => walk_at "tk"))
  | ((with_reducible refine x_tru1 (r := ?r) ?e ?k); (case e => exact rfl)) | with_reducible refine x_isN ?_ | with_reducible refine x_isNotN ?_ | with_reducible refine x_yesT ?_ | with_reducible refine x_pen ?_ | with_reducible refine x_slC ?_ | ((with_reducible refine x_slL (xs := ?xs) ?e ?k); (case e => walk_at "lk")) | ((with_reducible refine x_listL (xs := ?xs) ?e ?k); (case e => walk_at "lk")) | with_reducible refine x_listT ?_ | ((with_reducible refine x_revL (xs := ?xs) ?e ?k); (case e => walk_at "lk"))
  | with_reducible refine x_for ?_ | with_reducible refine x_lc ?_ | with_reducible refine x_rg ?_ | ((with_reducible refine x_rg1 ?_ ?_); (· walk_at "sm")) | ((with_reducible refine x_rg2 ?_ ?_); (· walk_at "sm")) | ((with_reducible refine x_rg3 ?_ ?_); (· walk_at "sm")) | with_reducible refine x_itV ?_ | with_reducible refine x_enum ?_ | with_reducible refine x_zip ?_ | with_reducible refine x_rvd ?_
  | with_reducible refine x_addI ?_ | with_reducible refine x_subI ?_ | with_reducible refine x_ltI ?_ | with_reducible refine x_leI ?_ | with_reducible refine x_gtI ?_ | with_reducible refine x_geI ?_
  | with_reducible refine x_onBl ?_ | with_reducible refine x_onInt ?_ | ((with_reducible refine x_onLst (xs := ?xs) ?e ?k); (case e => walk_at "lk")) | ((with_reducible refine x_onSome (z := ?z) ?e ?k); (case e => first | exact rfl | with_reducible assumption)) | with_reducible refine x_yes ?_ | with_reducible refine x_no ?_ | ((with_reducible refine x_yesE ?_ ?_); (· exact rfl)) | ((with_reducible refine x_noE ?_ ?_); (· exact rfl))
  | with_reducible refine x_abs ?_ | with_reducible refine x_intI ?_ | with_reducible refine x_intB ?_ | with_reducible refine x_min2 ?_ | with_reducible refine x_max2 ?_ | with_reducible refine x_lenT ?_ | with_reducible refine x_lenC ?_ | with_reducible refine x_tupleT ?_ | with_reducible refine x_slT ?_
  | ((with_reducible refine x_mulI ?_ ?_); (· walk_at "ar")) | ((with_reducible refine x_fdivI ?_ ?_); (· walk_at "ar")) | ((with_reducible refine x_modI ?_ ?_); (· walk_at "ar")) | ((with_reducible refine x_powI ?_ ?_); (· walk_at "ar"))
  | ((with_reducible refine x_ixL (xs := ?xs) (v := ?v) ?e ?e2 ?k); (case e => walk_at "lk"); (case e2 => first | exact rfl | with_reducible assumption)) | ((with_reducible refine x_ixT (v := ?v) ?e2 ?k); (case e2 => first | exact rfl | with_reducible assumption)) | ((with_reducible refine x_ixS (v := ?v) ?e2 ?k); (case e2 => with_reducible assumption))
  | ((with_reducible refine x_setI (xs := ?xs) (j := ?j) ?e ?e2 ?k); (case e => walk_at "lk"); (case e2 => first | exact rfl | with_reducible assumption))
  | ((with_reducible refine x_lenL (xs := ?xs) ?e ?k); (case e => walk_at "lk")) | ((with_reducible refine x_tupleL (xs := ?xs) ?e ?k); (case e => walk_at "lk"))
  | ((with_reducible refine x_tyL (xs := ?xs) ?e ?k); (case e => walk_at "lk"))
  | ((with_reducible refine x_append (xs := ?xs) ?e ?l ?k); (case e => walk_at "lk"); (case l => walk_at "sz"))
  | ((with_reducible refine x_eq (r := ?r) ?e ?k); (case e => exact rfl)) | ((with_reducible refine x_ne (r := ?r) ?e ?k); (case e => exact rfl))
  | ((with_reducible refine x_isinst (t := ?t) ?e ?ht ?k); (case e => exact rfl); (case ht => exact rfl))
  | ((with_reducible refine And.intro ?_ ?_); (· first | walk_at "sz" | exact rfl | ((refine isSome_it (xs := ?xs) ?e); (case e => walk_at "lk")) | ((refine isSome_seq (xs := ?xs) ?e); (case e => walk_at "lk")))))
local macro_rules | `(tactic| walk_at "x") => `(tactic| repeat (walk_at "x1"))
local macro_rules | `(tactic| walk_at "sube") => `(tactic| (repeat (first | exact trivial | refine ⟨rfl, ?_⟩)))
local macro_rules | `(tactic| walk_at "x1") => `(tactic| first
  | with_reducible refine x_try ?_ | with_reducible refine x_raise ?_ | with_reducible refine x_attr ?_ | with_reducible refine x_isXN ?_ | ((with_reducible refine x_isXE ?_ ?_); (· exact rfl))
  | ((with_reducible refine x_takes ?_ ?_ ?_); (· exact rfl); (· exact rfl)) | ((with_reducible refine x_passes ?_ ?_ ?_); (· exact rfl); (· exact rfl))
  | ((with_reducible refine x_aStore (v := ?v) ?e ?k); (case e => exact rfl)) | with_reducible refine x_aPass ?_ | with_reducible refine x_aDo ?_ | with_reducible refine x_aNone ?_)
local macro_rules | `(tactic| walk_at "x1") => `(tactic| first
  | with_reducible refine x_aaddI ?_ | with_reducible refine x_asubI ?_ | ((with_reducible refine x_divmodI ?_ ?_); (· first | with_reducible assumption | exact divOk_s (by omega) (by omega))))
local macro_rules | `(tactic| walk_at "li") => `(tactic| first
  | with_reducible exact insAt_put
  | with_reducible assumption
  | ((with_reducible refine insAt_put' ?_ ?_); (· walk_at "ne"); (walk_at "li"))
  | ((with_reducible refine insAt_ticks ?_); (walk_at "li")))
local macro_rules | `(tactic| walk_at "x1") => `(tactic| first
  | with_reducible refine x_fld ?_ | with_reducible refine x_setF ?_ | with_reducible refine x_meth ?_ | with_reducible refine x_make ?_
  | ((with_reducible refine x_onIns (fs := ?fs) ?e ?k); (case e => walk_at "li")))

theorem nS_len {i k : Nat} (hk : 0 < k) (a : i < 10 ^ k) : (nS ((i : Nat) : Int)).length ≤ k ∧ 1 ≤ (nS ((i : Nat) : Int)).length := by
  have e : (nS ((i : Nat) : Int)).length = (TL.numL i).length := by
    rw [TL.len_tl]
    unfold nS
    rw [TL.tl_num]
  rw [e]
  refine ⟨TL.numL_len hk a, ?_⟩
  have := TL.numL_ne i
  cases z : TL.numL i with
  | nil => exact absurd z this
  | cons _ _ => rw [List.length_cons]; omega
theorem join_is (s : Str) (l : List Str) : Txt.join s l = Str.join s l := PySem.StrLaws.glued_eq_join ..
theorem joinL_snoc (S : List Nat) : ∀ (l : List (List Nat)) (x : List Nat), l ≠ [] → TL.joinL S (l ++ [x]) = TL.joinL S l ++ S ++ x
  | [], _, h => absurd rfl h
  | [p], x, _ => by
    show p ++ (S ++ x) = p ++ S ++ x
    rw [List.append_assoc]
  | p :: q :: r, x, _ => by
    have ih := joinL_snoc S (q :: r) x (by simp)
    show p ++ (S ++ TL.joinL S ((q :: r) ++ [x])) = p ++ (S ++ TL.joinL S (q :: r)) ++ S ++ x
    rw [ih]
    simp only [List.append_assoc]
theorem join_snoc (s : Str) (l : List Str) (x : Str) (h : l ≠ []) : Txt.join s (l ++ [x]) = Txt.join s l ++ s ++ x := by
  rw [join_is, join_is]
  apply TL.ext_tl
  rw [TL.tl_join, List.map_append, List.map_singleton, joinL_snoc _ _ _ (fun z => h (List.map_eq_nil_iff.mp z)), TL.tl_append, TL.tl_append, TL.tl_join]
theorem join_size (s : Str) (l : List Str) : (Txt.join s l).length = (l.map (·.length)).sum + (l.length - 1) * s.length := PySem.size_glued s l
theorem sum_len {b : Nat} : ∀ (l : List Str), (∀ x ∈ l, x.length ≤ b) → (l.map (·.length)).sum ≤ l.length * b
  | [], _ => Nat.zero_le _
  | x :: l, h => by
    have ih := sum_len l fun y hy => h y (List.mem_cons_of_mem _ hy)
    have := h x List.mem_cons_self
    rw [List.map_cons, List.sum_cons, List.length_cons, Nat.succ_mul]
    omega
theorem join_len {s : Str} {b : Nat} (l : List Str) (h : ∀ x ∈ l, x.length ≤ b) : (Txt.join s l).length ≤ l.length * (b + s.length) := by
  rw [join_size, Nat.mul_add]
  have := sum_len l h
  have : (l.length - 1) * s.length ≤ l.length * s.length := Nat.mul_le_mul_right _ (by omega)
  omega
theorem SeqN.sq {h : Hg} {v : Val} {l : List Nat} (s : SeqN h v l) (i : Nat) : sqV v i h = some (natsL l)[i]? := by
  rcases s with rfl | ⟨a, rfl, e⟩
  · exact sqV_tup
  · exact sqV_lst e
theorem SeqN.put {h : Hg} {v : Val} {l : List Nat} {q : Addr} {o : Ob} (s : SeqN h v l) (n : h q = none) : SeqN (put h q o) v l := by
  rcases s with rfl | ⟨a, rfl, e⟩
  · exact .inl rfl
  · exact .inr ⟨a, rfl, lstAt_put' (ne_noneA n e).symm e⟩
theorem SeqN.it {h : Hg} {v : Val} {l : List Nat} (s : SeqN h v l) : (itOf h v).isSome = true := by
  rcases s with rfl | ⟨a, rfl, e⟩
  · rfl
  · exact isSome_it e
theorem x_lenN {h : Hg} {v : Val} {l : List Nat} {Q : KV} (s : SeqN h v l) (k : Q (.int ((l.length : Nat) : Int)) h) : fLen [v] h Q := by
  rcases s with rfl | ⟨a, rfl, e⟩
  · rw [← natsL_len (l := l)] at k; exact k
  · refine x_lenL e ?_
    rw [natsL_len]; exact k
theorem x_joined {h : Hg} {v : Val} {l : List Nat} {Q : KV} {E : KX} (s : SeqN h v l) (ll : l.length ≤ 40) (b : ∀ n ∈ l, n < 10 ^ 30) (k : Q (.str (joinS l)) h) : sp_joined (perm [0] [v]) h Q E := ⟨l, s, ll, b, k⟩
theorem nums_map {l : List Nat} : (((natsL l).mapIdx fun i _ => some (Val.str (nS ((l.getD i 0 : Nat) : Int)))).filterMap id) = (l.map fun n : Nat => nS ((n : Nat) : Int)).map Val.str := by
  rw [mapIdx_some]
  apply List.ext_getElem?
  intro i
  unfold natsL
  rw [List.getElem?_mapIdx, List.getElem?_map, List.getElem?_map, List.getElem?_map]
  by_cases hi : i < l.length
  · rw [List.getElem?_eq_getElem hi, List.getD_eq_getElem?_getD, List.getElem?_eq_getElem hi]; rfl
  · rw [List.getElem?_eq_none (by omega)]; rfl
theorem nats_getN {l : List Nat} {i : Nat} {v : Val} (e : (natsL l)[i]? = some v) : ∃ n : Nat, l[i]? = some n ∧ v = .int ((n : Nat) : Int) := by
  unfold natsL at e
  rw [List.getElem?_map] at e
  obtain ⟨n, en, rfl⟩ := Option.map_eq_some_iff.mp e
  exact ⟨n, en, rfl⟩
theorem log2_lt30 {n : Nat} (h : n < 10 ^ 30) : (((n : Nat) : Int)).natAbs.log2 < 1920 := by
  rw [Int.natAbs_natCast]
  exact log2_of_lt (Nat.lt_trans h (by decide +kernel)) (by decide)
theorem tru_str {h : Hg} {z : Str} (l : z.length ≤ sizeLine) (one : 1 ≤ z.length) : truB h (.str z) = some true := by
  show (if z.length ≤ sizeLine then some ((z.length : Int) != 0) else none) = _
  rw [if_pos l]
  have : ((z.length : Int) != 0) = true := by
    have : (z.length : Int) ≠ 0 := by omega
    exact bne_iff_ne.mpr this
  rw [this]
theorem tru_nil {h : Hg} {s : Str} : truB h (.str (Txt.join s [])) = some false := by
  show (if (Txt.join s []).length ≤ sizeLine then some (((Txt.join s []).length : Int) != 0) else none) = _
  have : (Txt.join s []).length = 0 := by rw [join_size]; simp
  rw [this, if_pos (Nat.zero_le _)]; rfl
theorem l_joined (args : List Val) (h : Hg) (Q : KV) (E : KX) (hs : sp_joined args h Q E) : Entry h (W_joined (dOf Q E) (startG N_joined args)) := by
  unfold sp_joined at hs
  split at hs
  · rename_i v
    obtain ⟨l, sq, ll, lb, hq⟩ := hs
    refine Entry.self ?_
    unfold W_joined dOf startG
    walk_at "x"
    refine ⟨sq.it, ?_⟩
    walk_at "x"
    intro P nP
    have bS : ∀ x ∈ l.map (fun n : Nat => nS ((n : Nat) : Int)), x.length ≤ 30 := fun x hx => by
      obtain ⟨n, hn, rfl⟩ := List.mem_map.mp hx
      exact (nS_len (by omega) (lb n hn)).1
    refine lc_pure (natsL l) (fun i _ => some (.str (nS ((l.getD i 0 : Nat) : Int)))) (fun i acc hi => (sq.put nP).sq i) nP (by rw [natsL_len, sizeLine_eq]; omega) ?_ ?_
    · intro i y acc ei hacc Nx hN
      obtain ⟨n, en, rfl⟩ := nats_getN ei
      have hi := (List.getElem?_eq_some_iff.mp en).1
      rw [show l.getD i 0 = n by rw [List.getD_eq_getElem?_getD, en]; rfl] at hN
      walk_at "x"
      refine x_str (log2_lt30 (lb n (List.mem_of_getElem? en))) ?_
      walk_at "x"
      rw [put_put]
      exact hN _ (.refl _)
    · rw [nums_map]
      refine x_nil ?_
      refine x_join (lstAt_put) (strsOf_map _) ?_ ?_
      · have := sum_len _ bS
        rw [List.length_map] at this ⊢
        show _ + l.length * 1 ≤ _
        omega
      · unfold joinS at hq
        by_cases z : l = []
        · rw [if_pos z] at hq
          subst z
          refine x_tru1 (r := false) tru_nil ?_
          walk_at "x"
          exact cloH_mk (Sub.over (.refl _) _ nP) hq
        · rw [if_neg z] at hq
          have len := join_len (s := (" " : Str)) _ bS
          have len2 := join_size (" " : Str) (l.map fun n : Nat => nS ((n : Nat) : Int))
          rw [List.length_map] at len
          have one : 1 ≤ (Txt.join (" " : Str) (l.map fun n : Nat => nS ((n : Nat) : Int))).length := by
            rw [len2]
            cases l with
            | nil => exact absurd rfl z
            | cons n l =>
              have := (nS_len (i := n) (k := 30) (by omega) (lb n List.mem_cons_self)).2
              rw [List.map_cons, List.map_cons, List.sum_cons]
              omega
          refine x_tru1 (r := true) (tru_str (by rw [sizeLine_eq]; show _ ≤ 16777216; have : (" " : Str).length = 1 := by decide +kernel
                                                 rw [this] at len; omega) one) ?_
          walk_at "x"
          exact cloH_mk (Sub.over (.refl _) _ nP) hq
  · exact hs.elim
theorem cellS_len {c : Option Nat} (h : ∀ n, c = some n → n < 1000) : (cellS c).length ≤ 3 ∧ 1 ≤ (cellS c).length := by
  cases c with
  | none => exact ⟨by decide +kernel, by decide +kernel⟩
  | some n => exact nS_len (by omega) (by have := h n rfl; omega)
theorem x_line_of {r : Row} {n : Nat} {h : Hg} {Q : KV} {E : KX} (hn : n < 1000) (hr : ∀ l, r = some l → l.length ≤ 40 ∧ ∀ c, some c ∈ l → c < 1000) (k : Q (.str (lineS r n)) h) : sp_line_of (perm [0, 1] [rowV r, .int ((n : Nat) : Int)]) h Q E := ⟨r, n, rfl, rfl, hn, hr, k⟩
theorem cells_map {l : List (Option Nat)} : ((l.map cellV).mapIdx fun i _ => some (Val.str (cellS (l.getD i none)))).filterMap id = (l.map cellS).map Val.str := by
  rw [mapIdx_some]
  apply List.ext_getElem?
  intro i
  rw [List.getElem?_mapIdx, List.getElem?_map, List.getElem?_map, List.getElem?_map]
  by_cases hi : i < l.length
  · rw [List.getElem?_eq_getElem hi, List.getD_eq_getElem?_getD, List.getElem?_eq_getElem hi]; rfl
  · rw [List.getElem?_eq_none (by omega)]; rfl
theorem log2_lt3 {n : Nat} (h : n < 1000) : (((n : Nat) : Int)).natAbs.log2 < 1920 := log2_lt30 (Nat.lt_of_lt_of_le h (by decide +kernel))
theorem line_len {r : Row} {n : Nat} (hn : n < 1000) (hr : ∀ l, r = some l → l.length ≤ 40 ∧ ∀ c, some c ∈ l → c < 1000) : (lineS r n).length ≤ 200 := by
  cases r with
  | none => show (("free" : Str)).length ≤ 200; decide +kernel
  | some l =>
    obtain ⟨ll, lc⟩ := hr l rfl
    have b : ∀ x ∈ nS ((n : Nat) : Int) :: l.map cellS, x.length ≤ 3 := fun x hx => by
      rcases List.mem_cons.mp hx with rfl | hx
      · exact (nS_len (by omega) (by omega)).1
      · obtain ⟨c, hc, rfl⟩ := List.mem_map.mp hx
        exact (cellS_len fun m e => lc m (e ▸ hc)).1
    have := join_len (s := (" " : Str)) _ b
    have z : (" " : Str).length = 1 := by decide +kernel
    rw [List.length_cons, List.length_map, z] at this
    show (Txt.join " " (nS ((n : Nat) : Int) :: l.map cellS)).length ≤ 200
    omega
theorem l_line_of (args : List Val) (h : Hg) (Q : KV) (E : KX) (hs : sp_line_of args h Q E) : Entry h (W_line_of (dOf Q E) (startG N_line_of args)) := by
  unfold sp_line_of at hs
  split at hs
  · rename_i rv k
    obtain ⟨r, n, rfl, rfl, hn, hr, hq⟩ := hs
    refine Entry.self ?_
    unfold W_line_of dOf startG
    cases r with
    | none =>
      unfold rowV
      walk_at "x"
      exact cloH_mk (.refl _) hq
    | some l =>
      obtain ⟨ll, lc⟩ := hr l rfl
      have hc : ∀ c ∈ l, ∀ m, c = some m → m < 1000 := fun c hc m e => lc m (e ▸ hc)
      unfold rowV
      walk_at "x"
      refine x_str (log2_lt3 hn) ?_
      walk_at "x"
      intro A nA
      have sA := (Sub.refl h).over (.lst [.str (nS ((n : Nat) : Int))]) nA
      have eA : lstAt (put h A (.lst [.str (nS ((n : Nat) : Int))])) A = some [.str (nS ((n : Nat) : Int))] := lstAt_put
      change wLc _ _ _ _ _ _ (put h A (.lst [.str (nS ((n : Nat) : Int))])) _ _
      generalize put h A (.lst [.str (nS ((n : Nat) : Int))]) = H at *
      walk_at "x"
      intro P nP
      refine lc_pure (l.map cellV) (fun i _ => some (.str (cellS (l.getD i none)))) (fun i acc hi => sqV_tup) nP (by rw [List.length_map, sizeLine_eq]; omega) ?_ ?_
      · intro i y acc ei hacc Nx hN
        rw [List.getElem?_map] at ei
        obtain ⟨c, ec, rfl⟩ := Option.map_eq_some_iff.mp ei
        have hi := (List.getElem?_eq_some_iff.mp ec).1
        rw [show l.getD i none = c by rw [List.getD_eq_getElem?_getD, ec]; rfl] at hN
        have cc := hc c (List.mem_of_getElem? ec)
        cases c with
        | none =>
          unfold cellV
          walk_at "x"
          rw [put_put]
          exact hN _ (.refl _)
        | some m =>
          unfold cellV
          walk_at "x"
          refine x_str (log2_lt3 (cc m rfl)) ?_
          walk_at "x"
          rw [put_put]
          exact hN _ (.refl _)
      · rw [cells_map]
        have sP := sA.over (.lst ((l.map cellS).map Val.str)) (sA.noneOf nP)
        have eA2 := lstAt_put' (o := .lst ((l.map cellS).map Val.str)) (ne_noneA nP eA).symm eA
        refine x_addL eA2 lstAt_put (by rw [List.length_map, List.length_map, sizeLine_eq]; show 1 + _ ≤ _; omega) ?_
        generalize put H P (.lst ((l.map cellS).map Val.str)) = H at *
        intro R nR
        have b : ∀ x ∈ nS ((n : Nat) : Int) :: l.map cellS, x.length ≤ 3 := fun x hx => by
          rcases List.mem_cons.mp hx with rfl | hx
          · exact (nS_len (by omega) (by omega)).1
          · obtain ⟨c, hc, rfl⟩ := List.mem_map.mp hx
            exact (cellS_len fun m e => lc m (e ▸ hc)).1
        refine x_nil ?_
        refine x_join (xs := (nS ((n : Nat) : Int) :: l.map cellS).map Val.str) lstAt_put (strsOf_map _) ?_ ?_
        · have := sum_len _ b
          rw [List.length_cons, List.length_map] at this ⊢
          show _ + (l.length + 1) * 1 ≤ _
          omega
        · exact cloH_mk (sP.over _ (sP.noneOf nR)) hq
  · exact hs.elim
theorem HD.at {rows : List Row} {hs : List Nat} (d : HD rows hs) (i : Nat) : hs.getD i 0 < 1000 ∧ ∀ l, rows.getD i none = some l → l.length ≤ 40 ∧ ∀ c, some c ∈ l → c < 1000 := by
  constructor
  · rw [List.getD_eq_getElem?_getD]
    cases e : hs[i]? with
    | none => show (0 : Nat) < 1000; omega
    | some n => exact d.hand n (List.mem_of_getElem? e)
  · intro l e
    rw [List.getD_eq_getElem?_getD] at e
    cases e2 : rows[i]? with
    | none => rw [e2] at e; cases e
    | some r =>
      rw [e2] at e
      have e : r = some l := e
      subst e
      exact d.row l (List.mem_of_getElem? e2)
theorem lines_len {rows : List Row} {hs : List Nat} (d : HD rows hs) : ∀ x ∈ linesS rows hs, x.length ≤ 200 := fun x hx => by
  obtain ⟨i, _, rfl⟩ := List.mem_map.mp hx
  exact line_len (d.at i).1 (d.at i).2
theorem x_format_heap {rows : List Row} {hs : List Nat} {h : Hg} {Q : KV} {E : KX} (d : HD rows hs) (k : Q (.str (heapS rows hs)) h) : sp_format_heap (perm [0] [heapV rows hs]) h Q E := ⟨rows, hs, d, rfl, k⟩
theorem zipL_len (xs ys : List Val) : (zipL xs ys).length = min xs.length ys.length := by unfold zipL; rw [List.length_map, List.length_zip]
theorem l_format_heap (args : List Val) (h : Hg) (Q : KV) (E : KX) (hs : sp_format_heap args h Q E) : Entry h (W_format_heap (dOf Q E) (startG N_format_heap args)) := by
  unfold sp_format_heap at hs
  split at hs
  · obtain ⟨rows, hs, d, rfl, hq⟩ := hs
    have few := d.few
    have len := d.len
    have zl : (zipL (rows.map rowV) (hs.map fun n : Nat => Val.int ((n : Nat) : Int))).length = rows.length := by rw [zipL_len, List.length_map, List.length_map]; omega
    refine Entry.self ?_
    unfold W_format_heap dOf startG heapV
    walk_at "x"
    refine ⟨⟨rfl, rfl⟩, ?_⟩
    intro P nP
    refine lc_pure (zipL (rows.map rowV) (hs.map fun n : Nat => Val.int ((n : Nat) : Int))) (fun i _ => some (.str (lineS (rows.getD i none) (hs.getD i 0)))) (fun i acc hi => sqZ_it rfl rfl hi) nP (by rw [zl, sizeLine_eq]; omega) ?_ ?_
    · intro i y acc ei hacc Nx hN
      have hi : i < rows.length := by have := (List.getElem?_eq_some_iff.mp ei).1; omega
      have ey : [rowV (rows.getD i none), Val.int ((hs.getD i 0 : Nat) : Int)] = y := by
        unfold zipL at ei
        rw [List.getElem?_map, List.getElem?_eq_getElem (by rw [List.length_zip, List.length_map, List.length_map]; omega), List.getElem_zip, List.getElem_map, List.getElem_map] at ei
        rw [List.getD_eq_getElem?_getD, List.getElem?_eq_getElem hi, List.getD_eq_getElem?_getD, List.getElem?_eq_getElem (by omega)]
        exact Option.some.inj ei
      subst ey
      walk_at "x"
      refine x_line_of (d.at i).1 (d.at i).2 ?_
      walk_at "x"
      rw [put_put]
      exact hN _ (.refl _)
    · have er : ((zipL (rows.map rowV) (hs.map fun n : Nat => Val.int ((n : Nat) : Int))).mapIdx fun i _ => some (Val.str (lineS (rows.getD i none) (hs.getD i 0)))).filterMap id = (linesS rows hs).map Val.str := by
        rw [mapIdx_some]
        unfold linesS
        apply List.ext_getElem?
        intro i
        rw [List.getElem?_mapIdx, List.getElem?_map, List.getElem?_map]
        by_cases hi : i < rows.length
        · rw [List.getElem?_eq_getElem (by omega), List.getElem?_range hi]; rfl
        · rw [List.getElem?_eq_none (by omega), List.getElem?_eq_none (by rw [List.length_range]; omega)]; rfl
      rw [er]
      refine x_nil ?_
      have ll : (linesS rows hs).length = rows.length := by unfold linesS; rw [List.length_map, List.length_range]
      refine x_join lstAt_put (strsOf_map _) ?_ ?_
      · have := sum_len _ (lines_len d)
        rw [ll] at this ⊢
        show _ + rows.length * 1 ≤ _
        omega
      · exact cloH_mk (Sub.over (.refl _) _ nP) hq
  · exact hs.elim
theorem joinS_len {l : List Nat} (ll : l.length ≤ 40) (b : ∀ n ∈ l, n < 10 ^ 30) : (joinS l).length ≤ 1300 := by
  unfold joinS
  split
  · decide +kernel
  · have bS : ∀ x ∈ l.map (fun n : Nat => nS ((n : Nat) : Int)), x.length ≤ 30 := fun x hx => by
      obtain ⟨n, hn, rfl⟩ := List.mem_map.mp hx
      exact (nS_len (by omega) (b n hn)).1
    have := join_len (s := (" " : Str)) _ bS
    have z : (" " : Str).length = 1 := by decide +kernel
    rw [List.length_map, z] at this
    omega
theorem TD.num {t : List (List Nat)} (d : TD t) {r : List Nat} (hr : r ∈ t) : r.length ≤ 40 ∧ ∀ n ∈ r, n < 10 ^ 30 := ⟨(d.row r hr).1, fun n hn => Nat.lt_of_lt_of_le ((d.row r hr).2 n hn) (by decide +kernel)⟩
theorem x_format_tree {t : List (List Nat)} {h : Hg} {Q : KV} {E : KX} (d : TD t) (k : Q (.str (treeS t)) h) : sp_format_tree (perm [0] [treeN t]) h Q E := ⟨t, d, rfl, k⟩
theorem rowsS_map {t : List (List Nat)} {xs : List Val} (hx : xs.length = t.length) : (xs.mapIdx fun i _ => some (Val.str (joinS (t.getD i [])))).filterMap id = (t.map joinS).map Val.str := by
  rw [mapIdx_some]
  apply List.ext_getElem?
  intro i
  rw [List.getElem?_mapIdx, List.getElem?_map, List.getElem?_map]
  by_cases hi : i < t.length
  · rw [List.getElem?_eq_getElem (by omega), List.getElem?_eq_getElem hi, List.getD_eq_getElem?_getD, List.getElem?_eq_getElem hi]; rfl
  · rw [List.getElem?_eq_none (by omega), List.getElem?_eq_none (by omega)]; rfl
theorem l_format_tree (args : List Val) (h : Hg) (Q : KV) (E : KX) (hs : sp_format_tree args h Q E) : Entry h (W_format_tree (dOf Q E) (startG N_format_tree args)) := by
  unfold sp_format_tree at hs
  split at hs
  · obtain ⟨t, d, rfl, hq⟩ := hs
    have few := d.few
    refine Entry.self ?_
    unfold W_format_tree dOf startG treeN
    walk_at "x"
    intro P nP
    refine lc_pure (t.map fun r => Val.tup (natsL r)) (fun i _ => some (.str (joinS (t.getD i [])))) (fun i acc hi => sqV_tup) nP (by rw [List.length_map, sizeLine_eq]; omega) ?_ ?_
    · intro i y acc ei hacc Nx hN
      rw [List.getElem?_map] at ei
      obtain ⟨r, er, rfl⟩ := Option.map_eq_some_iff.mp ei
      have hi := (List.getElem?_eq_some_iff.mp er).1
      rw [show t.getD i [] = r by rw [List.getD_eq_getElem?_getD, er]; rfl] at hN
      obtain ⟨b1, b2⟩ := d.num (List.mem_of_getElem? er)
      walk_at "x"
      refine x_joined (.inl rfl) b1 b2 ?_
      walk_at "x"
      rw [put_put]
      exact hN _ (.refl _)
    · rw [rowsS_map (List.length_map _)]
      refine x_nil ?_
      refine x_join lstAt_put (strsOf_map _) ?_ ?_
      · have := sum_len (b := 1300) (t.map joinS) fun x hx => by
          obtain ⟨r, hr, rfl⟩ := List.mem_map.mp hx
          exact joinS_len (d.num hr).1 (d.num hr).2
        rw [List.length_map] at this ⊢
        show _ + t.length * 1 ≤ _
        omega
      · exact cloH_mk (Sub.over (.refl _) _ nP) hq
  · exact hs.elim
theorem x_format_log {h : Hg} {v : Val} {l : List Nat} {Q : KV} {E : KX} (s : SeqN h v l) (ll : l.length ≤ 40) (b : ∀ n ∈ l, n < 10 ^ 30) (k : Q (.str (joinS l)) h) : sp_format_log (perm [0] [v]) h Q E := ⟨l, s, ll, b, k⟩
theorem l_format_log (args : List Val) (h : Hg) (Q : KV) (E : KX) (hs : sp_format_log args h Q E) : Entry h (W_format_log (dOf Q E) (startG N_format_log args)) := by
  unfold sp_format_log at hs
  split at hs
  · obtain ⟨l, sq, ll, lb, hq⟩ := hs
    refine Entry.self ?_
    unfold W_format_log dOf startG
    walk_at "x"
    refine x_joined sq ll lb ?_
    exact cloH_mk (.refl _) hq
  · exact hs.elim

end G

set_option Elab.async false
set_option linter.all false
set_option maxRecDepth 100000
set_option pp.maxSteps 3000
set_option maxHeartbeats 4000000
namespace G
open PySem PySem.Spec L2
open PyProof.Rows hiding St
/-! ### one step of a reading, and the small goals on its way -/
local macro_rules | `(tactic| walk_at "ne") => `(tactic| first
  | with_reducible assumption
  | (refine Ne.symm ?_; with_reducible assumption)
  | exact ne_none (by with_reducible assumption) (by with_reducible assumption)
  | exact ne_none' (by with_reducible assumption) (by with_reducible assumption)
  | exact ne_noneA (by with_reducible assumption) (by with_reducible assumption)
  | exact (ne_noneA (by with_reducible assumption) (by with_reducible assumption)).symm
  | exact And.left (put_none.mp (by with_reducible assumption))
  | exact Ne.symm (And.left (put_none.mp (by with_reducible assumption)))
  | exact HasPen.ne (by with_reducible assumption) (by with_reducible assumption)
  | exact (HasPen.ne (by with_reducible assumption) (by with_reducible assumption)).symm
  | exact HasPen.ne (by with_reducible assumption) ((ticks_none _).mp (by with_reducible assumption))
  | exact (HasPen.ne (by with_reducible assumption) ((ticks_none _).mp (by with_reducible assumption))).symm
  | exact HasPen.neA (by with_reducible assumption) (by with_reducible assumption)
  | exact (HasPen.neA (by with_reducible assumption) (by with_reducible assumption)).symm)
local macro_rules | `(tactic| walk_at "lk") => `(tactic| first
  | with_reducible exact lstAt_put
  | with_reducible assumption
  | ((with_reducible refine lstAt_put' ?_ ?_); (· walk_at "ne"); (walk_at "lk"))
  | ((with_reducible refine lstAt_ticks' ?_); (walk_at "lk"))
  | ((with_reducible refine lst_at ?_); with_reducible assumption))
local macro_rules | `(tactic| walk_at "hp") => `(tactic| first
  | with_reducible assumption
  | ((with_reducible refine HasPen.put ?_ ?_); (walk_at "hp"); (walk_at "ne"))
  | ((with_reducible refine HasPen.ticks ?_); (walk_at "hp"))
  | exact HasPen.le (by with_reducible assumption) (by omega))
local macro_rules | `(tactic| walk_at "nn") => `(tactic| first
  | with_reducible assumption
  | exact And.right (put_none.mp (by with_reducible assumption))
  | exact (ticks_none _).mp (by with_reducible assumption)
  | ((with_reducible refine ticks_none' ?_ _); (walk_at "nn"))
  | ((with_reducible refine put_none.mpr (And.intro ?_ ?_)); (· walk_at "ne"); (walk_at "nn")))
local macro_rules | `(tactic| walk_at "sub") => `(tactic| first
  | with_reducible exact Sub.refl _
  | with_reducible assumption
  | ((with_reducible refine Sub.ticks ?_); omega)
  | ((with_reducible refine Sub.put ?_ _ (SubO.refl _)); (walk_at "sub"))
  | ((with_reducible refine Sub.over ?_ _ ?_); (· walk_at "sub"); (walk_at "nn")))
local macro_rules | `(tactic| walk_at "tk") => `(tactic| first
  | ((simp only [ticks_put, ticks_add]); (exact rfl)) | exact rfl)
local macro_rules | `(tactic| walk_at "sz") => `(tactic| first
  | exact Nat.le_of_ble_eq_true rfl
  | (simp only [sizeLine_eq, List.length_append, List.length_cons, List.length_nil, List.length_map, List.length_set, List.length_replicate, List.length_take, List.length_drop, List.length_range, List.length_reverse, List.length_dropLast]; omega))
local macro_rules | `(tactic| walk_at "ar") => `(tactic| first
  | with_reducible assumption
  | omega
  | exact mulOk_l (by omega) (by omega)
  | exact mulOk_r (by omega) (by omega)
  | exact divOk_s (by omega) (by omega)
  | with_reducible exact divOk_30 ‹_› ‹_›
  | exact cpow_s (by omega) (by omega) (by omega) (by omega))
local macro_rules | `(tactic| walk_at "sm") => `(tactic| (unfold sm62; omega))
/-- intro of a new address -/
local macro_rules | `(tactic| walk_at "new") => `(tactic| (
  (with_reducible intro _p _np); (try simp only [put_none, ticks_none] at _np); (try revert _np); (try intro ⟨_, _⟩); (try (intro _np2))))
local macro_rules | `(tactic| walk_at "x1") => `(tactic| first
  | with_reducible refine x_sq ?_ | with_reducible refine x_set ?_ | with_reducible refine x_op ?_ | with_reducible refine x_c ?_
  | ((with_reducible refine x_var (v := ?v) ?e ?k); (case e => exact rfl))
  | with_reducible refine x_cons ?_ | with_reducible refine x_nil ?_ | with_reducible refine x_cb ?_ | with_reducible refine x_call ?_ | with_reducible refine x_callK ?_
  | with_reducible refine x_if ?_ | with_reducible refine x_tst ?_ | with_reducible refine x_tand ?_ | with_reducible refine x_tor ?_ | with_reducible refine x_tnot ?_ | with_reducible refine x_tru ?_
  | with_reducible refine x_ret ?_ | with_reducible refine x_asg ?_ | with_reducible refine x_nx ?_ | with_reducible refine x_drop ?_ | with_reducible refine x_bk ?_ | with_reducible refine x_ct ?_ | with_reducible refine x_par ?_ | with_reducible refine x_retN ?_
  | with_reducible refine x_tup ?_ | with_reducible refine x_lst ?_ | with_reducible refine x_m0 ?_ | with_reducible refine x_m ?_ | with_reducible refine x_mS ?_ | with_reducible refine x_and ?_ | with_reducible refine x_or ?_ | with_reducible refine x_not ?_ | with_reducible refine x_ife ?_ | with_reducible refine x_neg ?_
  | with_reducible refine x_chain ?_ | with_reducible refine x_sl ?_ | with_reducible refine x_nop ?_ | with_reducible refine x_part ?_ | with_reducible refine x_rev ?_ | with_reducible refine x_lrg1 ?_ | with_reducible refine x_lrg2 ?_
  | ((with_reducible refine x_aug (v := ?v) ?e ?k); (case e => exact rfl)) | with_reducible refine x_augS ?_
  | with_reducible refine x_gname ?_ | with_reducible refine x_gsub ?_ | with_reducible refine x_gnil ?_ | with_reducible refine x_gcons ?_
  | ((with_reducible refine x_gtupT ?_ ?_); (· exact rfl)) | ((with_reducible refine x_gpr ?_ ?_); (· exact rfl))
  | with_reducible refine x_cname ?_ | with_reducible refine x_cnil ?_ | with_reducible refine x_ccons ?_ | ((with_reducible refine x_cpr ?_ ?_); (· exact rfl)) | ((with_reducible refine x_ctupT ?_ ?_); (· exact rfl))
  | ((with_reducible refine x_drawB (h2 := ?h2) ?hp ?hb ?e ?k); (case hp => walk_at "hp"); (case hb => omega); (case e => walk_at "tk"))
  | ((with_reducible refine x_tru1 (r := ?r) ?e ?k); (case e => exact rfl)) | with_reducible refine x_isN ?_ | with_reducible refine x_isNotN ?_ | with_reducible refine x_yesT ?_ | with_reducible refine x_pen ?_ | with_reducible refine x_slC ?_ | ((with_reducible refine x_slL (xs := ?xs) ?e ?k); (case e => walk_at "lk")) | ((with_reducible refine x_listL (xs := ?xs) ?e ?k); (case e => walk_at "lk")) | with_reducible refine x_listT ?_ | ((with_reducible refine x_revL (xs := ?xs) ?e ?k); (case e => walk_at "lk"))
  | with_reducible refine x_for ?_ | with_reducible refine x_lc ?_ | with_reducible refine x_rg ?_ | ((with_reducible refine x_rg1 ?_ ?_); (· walk_at "sm")) | ((with_reducible refine x_rg2 ?_ ?_); (· walk_at "sm")) | ((with_reducible refine x_rg3 ?_ ?_); (· walk_at "sm")) | with_reducible refine x_itV ?_ | with_reducible refine x_enum ?_ | with_reducible refine x_zip ?_ | with_reducible refine x_rvd ?_
  | with_reducible refine x_addI ?_ | with_reducible refine x_subI ?_ | with_reducible refine x_ltI ?_ | with_reducible refine x_leI ?_ | with_reducible refine x_gtI ?_ | with_reducible refine x_geI ?_
  | with_reducible refine x_onBl ?_ | with_reducible refine x_onInt ?_ | ((with_reducible refine x_onLst (xs := ?xs) ?e ?k); (case e => walk_at "lk")) | ((with_reducible refine x_onSome (z := ?z) ?e ?k); (case e => first | exact rfl | with_reducible assumption)) | with_reducible refine x_yes ?_ | with_reducible refine x_no ?_ | ((with_reducible refine x_yesE ?_ ?_); (· exact rfl)) | ((with_reducible refine x_noE ?_ ?_); (· exact rfl))
  | with_reducible refine x_abs ?_ | with_reducible refine x_intI ?_ | with_reducible refine x_intB ?_ | with_reducible refine x_min2 ?_ | with_reducible refine x_max2 ?_ | with_reducible refine x_lenT ?_ | with_reducible refine x_lenC ?_ | with_reducible refine x_tupleT ?_ | with_reducible refine x_slT ?_
  | ((with_reducible refine x_mulI ?_ ?_); (· walk_at "ar")) | ((with_reducible refine x_fdivI ?_ ?_); (· walk_at "ar")) | ((with_reducible refine x_modI ?_ ?_); (· walk_at "ar")) | ((with_reducible refine x_powI ?_ ?_); (· walk_at "ar"))
  | ((with_reducible refine x_ixL (xs := ?xs) (v := ?v) ?e ?e2 ?k); (case e => walk_at "lk"); (case e2 => first | exact rfl | with_reducible assumption)) | ((with_reducible refine x_ixT (v := ?v) ?e2 ?k); (case e2 => first | exact rfl | with_reducible assumption)) | ((with_reducible refine x_ixS (v := ?v) ?e2 ?k); (case e2 => with_reducible assumption))
  | ((with_reducible refine x_setI (xs := ?xs) (j := ?j) ?e ?e2 ?k); (case e => walk_at "lk"); (case e2 => first | exact rfl | with_reducible assumption))
  | ((with_reducible refine x_lenL (xs := ?xs) ?e ?k); (case e => walk_at "lk")) | ((with_reducible refine x_tupleL (xs := ?xs) ?e ?k); (case e => walk_at "lk"))
  | ((with_reducible refine x_tyL (xs := ?xs) ?e ?k); (case e => walk_at "lk"))
  | ((with_reducible refine x_append (xs := ?xs) ?e ?l ?k); (case e => walk_at "lk"); (case l => walk_at "sz"))
  | ((with_reducible refine x_eq (r := ?r) ?e ?k); (case e => exact rfl)) | ((with_reducible refine x_ne (r := ?r) ?e ?k); (case e => exact rfl))
  | ((with_reducible refine x_isinst (t := ?t) ?e ?ht ?k); (case e => exact rfl); (case ht => exact rfl))
  | ((with_reducible refine And.intro ?_ ?_); (· first | walk_at "sz" | exact rfl | ((refine isSome_it (xs := ?xs) ?e); (case e => walk_at "lk")) | ((refine isSome_seq (xs := ?xs) ?e); (case e => walk_at "lk")))))
local macro_rules | `(tactic| walk_at "x") => `(tactic| repeat (walk_at "x1"))
local macro_rules | `(tactic| walk_at "sube") => `(tactic| (repeat (first | exact trivial | refine ⟨rfl, ?_⟩)))
local macro_rules | `(tactic| walk_at "x1") => `(tactic| first
  | with_reducible refine x_try ?_ | with_reducible refine x_raise ?_ | with_reducible refine x_attr ?_ | with_reducible refine x_isXN ?_ | ((with_reducible refine x_isXE ?_ ?_); (· exact rfl))
  | ((with_reducible refine x_takes ?_ ?_ ?_); (· exact rfl); (· exact rfl)) | ((with_reducible refine x_passes ?_ ?_ ?_); (· exact rfl); (· exact rfl))
  | ((with_reducible refine x_aStore (v := ?v) ?e ?k); (case e => exact rfl)) | with_reducible refine x_aPass ?_ | with_reducible refine x_aDo ?_ | with_reducible refine x_aNone ?_)
local macro_rules | `(tactic| walk_at "x1") => `(tactic| first
  | with_reducible refine x_aaddI ?_ | with_reducible refine x_asubI ?_ | ((with_reducible refine x_divmodI ?_ ?_); (· first | with_reducible assumption | exact divOk_s (by omega) (by omega))))
local macro_rules | `(tactic| walk_at "li") => `(tactic| first
  | with_reducible exact insAt_put
  | with_reducible assumption
  | ((with_reducible refine insAt_put' ?_ ?_); (· walk_at "ne"); (walk_at "li"))
  | ((with_reducible refine insAt_ticks ?_); (walk_at "li")))
local macro_rules | `(tactic| walk_at "x1") => `(tactic| first
  | with_reducible refine x_fld ?_ | with_reducible refine x_setF ?_ | with_reducible refine x_meth ?_ | with_reducible refine x_make ?_
  | ((with_reducible refine x_onIns (fs := ?fs) ?e ?k); (case e => walk_at "li")))

theorem x__law_numbers_text {h : Hg} {v : Val} {l : List Nat} {Q : KV} {E : KX} (s : SeqN h v l) (ll : l.length ≤ 40) (b : ∀ n ∈ l, n < 10 ^ 30) (k : Q (.str (joinS l)) h) : sp__law_numbers_text (perm [0] [v]) h Q E := ⟨l, s, ll, b, k⟩
theorem l__law_numbers_text (args : List Val) (h : Hg) (Q : KV) (E : KX) (hs : sp__law_numbers_text args h Q E) : Entry h (W__law_numbers_text (dOf Q E) (startG N__law_numbers_text args)) := by
  unfold sp__law_numbers_text at hs
  split at hs
  · rename_i v
    obtain ⟨l, sq, ll, lb, hq⟩ := hs
    refine Entry.self ?_
    unfold W__law_numbers_text dOf startG
    unfold joinS at hq
    walk_at "x"
    refine x_lenN sq ?_
    walk_at "x"
    by_cases z : l = []
    · rw [if_pos z] at hq
      subst z
      refine x_yesE rfl ?_
      walk_at "x"
      exact cloH_mk (.refl _) hq
    · rw [if_neg z] at hq
      refine x_noE (decide_eq_false (fun y => z (List.length_eq_zero_iff.mp (by omega)))) ?_
      walk_at "x"
      refine ⟨sq.it, ?_⟩
      walk_at "x"
      intro P nP
      have bS : ∀ x ∈ l.map (fun n : Nat => nS ((n : Nat) : Int)), x.length ≤ 30 := fun x hx => by
        obtain ⟨n, hn, rfl⟩ := List.mem_map.mp hx
        exact (nS_len (by omega) (lb n hn)).1
      refine lc_pure (natsL l) (fun i _ => some (.str (nS ((l.getD i 0 : Nat) : Int)))) (fun i acc hi => (sq.put nP).sq i) nP (by rw [natsL_len, sizeLine_eq]; omega) ?_ ?_
      · intro i y acc ei hacc Nx hN
        obtain ⟨n, en, rfl⟩ := nats_getN ei
        have hi := (List.getElem?_eq_some_iff.mp en).1
        rw [show l.getD i 0 = n by rw [List.getD_eq_getElem?_getD, en]; rfl] at hN
        walk_at "x"
        refine x_str (log2_lt30 (lb n (List.mem_of_getElem? en))) ?_
        walk_at "x"
        rw [put_put]
        exact hN _ (.refl _)
      · rw [nums_map]
        refine x_nil ?_
        refine x_join (lstAt_put) (strsOf_map _) ?_ ?_
        · have := sum_len _ bS
          rw [List.length_map] at this ⊢
          show _ + l.length * 1 ≤ _
          omega
        · exact cloH_mk (Sub.over (.refl _) _ nP) hq
  · exact hs.elim
theorem x__law_tree_text {t : List (List Nat)} {h : Hg} {Q : KV} {E : KX} (d : TD t) (k : Q (.str (treeS t)) h) : sp__law_tree_text (perm [0] [treeN t]) h Q E := ⟨t, d, rfl, k⟩
theorem l__law_tree_text (args : List Val) (h : Hg) (Q : KV) (E : KX) (hs : sp__law_tree_text args h Q E) : Entry h (W__law_tree_text (dOf Q E) (startG N__law_tree_text args)) := by
  unfold sp__law_tree_text at hs
  split at hs
  · obtain ⟨t, d, rfl, hq⟩ := hs
    have few := d.few
    refine Entry.self ?_
    unfold W__law_tree_text dOf startG treeN
    walk_at "x"
    intro P nP
    refine lc_pure (t.map fun r => Val.tup (natsL r)) (fun i _ => some (.str (joinS (t.getD i [])))) (fun i acc hi => sqV_tup) nP (by rw [List.length_map, sizeLine_eq]; omega) ?_ ?_
    · intro i y acc ei hacc Nx hN
      rw [List.getElem?_map] at ei
      obtain ⟨r, er, rfl⟩ := Option.map_eq_some_iff.mp ei
      have hi := (List.getElem?_eq_some_iff.mp er).1
      rw [show t.getD i [] = r by rw [List.getD_eq_getElem?_getD, er]; rfl] at hN
      obtain ⟨b1, b2⟩ := d.num (List.mem_of_getElem? er)
      walk_at "x"
      refine x__law_numbers_text (.inl rfl) b1 b2 ?_
      walk_at "x"
      rw [put_put]
      exact hN _ (.refl _)
    · rw [rowsS_map (List.length_map _)]
      refine x_nil ?_
      refine x_join lstAt_put (strsOf_map _) ?_ ?_
      · have := sum_len (b := 1300) (t.map joinS) fun x hx => by
          obtain ⟨r, hr, rfl⟩ := List.mem_map.mp hx
          exact joinS_len (d.num hr).1 (d.num hr).2
        rw [List.length_map] at this ⊢
        show _ + t.length * 1 ≤ _
        omega
      · exact cloH_mk (Sub.over (.refl _) _ nP) hq
  · exact hs.elim

theorem x__law_heap_text {rows : List Row} {hs : List Nat} {h : Hg} {Q : KV} {E : KX} (d : HD rows hs) (k : Q (.str (heapS rows hs)) h) : sp__law_heap_text (perm [0] [heapV rows hs]) h Q E := ⟨rows, hs, d, rfl, k⟩
theorem app_len (x y : Str) : (x ++ y).length = x.length + y.length := by rw [TL.len_tl, TL.tl_append, List.length_append, ← TL.len_tl, ← TL.len_tl]
theorem l__law_heap_text (args : List Val) (h : Hg) (Q : KV) (E : KX) (hs : sp__law_heap_text args h Q E) : Entry h (W__law_heap_text (dOf Q E) (startG N__law_heap_text args)) := by
  unfold sp__law_heap_text at hs
  split at hs
  · obtain ⟨rows, hs, d, rfl, hq⟩ := hs
    have few := d.few
    have len := d.len
    have ll : (linesS rows hs).length = rows.length := by unfold linesS; rw [List.length_map, List.length_range]
    have lat : ∀ i, i < rows.length → (linesS rows hs).take (i + 1) = (linesS rows hs).take i ++ [lineS (rows.getD i none) (hs.getD i 0)] := fun i hi => by
      rw [List.take_succ]
      unfold linesS
      rw [List.getElem?_map, List.getElem?_range hi]; rfl
    refine Entry.self ?_
    unfold W__law_heap_text dOf startG heapV
    walk_at "x"
    intro L nL
    have sL := (Sub.refl h).over (.lst []) nL
    have eL : lstAt (put h L (.lst [])) L = some (((linesS rows hs).take 0).map Val.str) := lstAt_put
    have nL0 := nL
    generalize put h L (.lst []) = H at *
    clear nL
    walk_at "x"
    refine for_by (fun i => (enumL (rows.map rowV))[i]?) rows.length (fun i e H => ∃ y2 y3 y4 y5, i ≤ rows.length ∧ e = [some (.tup [.tup (rows.map rowV), .tup (hs.map fun n : Nat => Val.int ((n : Nat) : Int))]), some (.ref L), y2, y3, y4, y5] ∧ Sub h H ∧ lstAt H L = some (((linesS rows hs).take i).map Val.str)) (fun i e H hJ => sqE_it rfl (by obtain ⟨_, _, _, _, w, _⟩ := hJ; rw [List.length_map]; exact w)) (fun i a e => by have := (List.getElem?_eq_some_iff.mp e).1; rwa [enumL_length, List.length_map] at this) (clo_mk (subEb_refl _) (.refl _) ⟨none, none, none, none, Nat.zero_le _, rfl, sL, eL⟩) ?_ ?_
    · clear sL eL
      rintro i a e H ei ⟨y2, y3, y4, y5, hi0, rfl, sL, eL⟩
      rw [enumL_get] at ei
      obtain ⟨u, hu, rfl⟩ := Option.map_eq_some_iff.mp ei
      rw [List.getElem?_map] at hu
      obtain ⟨r, hr, rfl⟩ := Option.map_eq_some_iff.mp hu
      have hi := (List.getElem?_eq_some_iff.mp hr).1
      have er : rows.getD i none = r := by rw [List.getD_eq_getElem?_getD, hr]; rfl
      obtain ⟨hn, hrow⟩ := d.at i
      rw [er] at hrow
      have tk := lat i hi
      rw [er] at tk
      have fh : atI (hs.map fun n : Nat => Val.int ((n : Nat) : Int)) ((i : Nat) : Int) = some (.int ((hs.getD i 0 : Nat) : Int)) := L2.atI_nat (by rw [List.getElem?_map, List.getD_eq_getElem?_getD, List.getElem?_eq_getElem (show i < hs.length by omega)]; rfl)
      have tl : (((linesS rows hs).take i).map Val.str).length ≤ 40 := by rw [List.length_map, List.length_take]; omega
      cases r with
      | none =>
        rw [show rowV none = .non from rfl]
        walk_at "x"
        refine clo_mk (subEb_refl _) (.refl _) ⟨_, _, _, _, hi, rfl, sL.over _ nL0, ?_⟩
        rw [lstAt_put, tk, List.map_append]; rfl
      | some l =>
        obtain ⟨ll2, lc⟩ := hrow l rfl
        rw [show rowV (some l) = .tup (l.map cellV) from rfl]
        walk_at "x"
        refine x_str (log2_lt3 hn) ?_
        walk_at "x"
        have b : ∀ x ∈ nS ((hs.getD i 0 : Nat) : Int) :: l.map cellS, x.length ≤ 3 := fun x hx => by
          rcases List.mem_cons.mp hx with rfl | hx
          · exact (nS_len (by omega) (by omega)).1
          · obtain ⟨c, hc, rfl⟩ := List.mem_map.mp hx
            exact (cellS_len fun m e => lc m (e ▸ hc)).1
        refine for_by (fun k => (l.map cellV)[k]?) l.length (fun k e H => ∃ y5, k ≤ l.length ∧ e = [some (.tup [.tup (rows.map rowV), .tup (hs.map fun n : Nat => Val.int ((n : Nat) : Int))]), some (.ref L), some (.int ((i : Nat) : Int)), some (.tup (l.map cellV)), some (.str (Txt.join " " (nS ((hs.getD i 0 : Nat) : Int) :: (l.take k).map cellS))), y5] ∧ Sub h H ∧ lstAt H L = some (((linesS rows hs).take i).map Val.str)) (fun k e H _ => sqV_tup) (fun k a e => by have := (List.getElem?_eq_some_iff.mp e).1; rwa [List.length_map] at this) (clo_mk (subEb_refl _) (.refl _) ⟨_, Nat.zero_le _, rfl, sL, eL⟩) ?_ ?_
        · clear sL eL
          rintro k a e H ek ⟨y5, hk0, rfl, sL, eL⟩
          rw [List.getElem?_map] at ek
          obtain ⟨c, hc, rfl⟩ := Option.map_eq_some_iff.mp ek
          have hk := (List.getElem?_eq_some_iff.mp hc).1
          have tkc : l.take (k + 1) = l.take k ++ [c] := by rw [List.take_succ, hc]; rfl
          have cc : ∀ m, c = some m → m < 1000 := fun m e => lc m (e ▸ List.mem_of_getElem? hc)
          have jl := join_len (s := (" " : Str)) (b := 3) (nS ((hs.getD i 0 : Nat) : Int) :: (l.take k).map cellS) fun x hx => b x (by
            rcases List.mem_cons.mp hx with rfl | hx
            · exact List.mem_cons_self
            · obtain ⟨c, hc, rfl⟩ := List.mem_map.mp hx
              exact List.mem_cons_of_mem _ (List.mem_map_of_mem (List.mem_of_mem_take hc)))
          have z1 : (" " : Str).length = 1 := by decide +kernel
          rw [List.length_cons, List.length_map, List.length_take, z1] at jl
          have es : Txt.join " " (nS ((hs.getD i 0 : Nat) : Int) :: (l.take (k + 1)).map cellS) = Txt.join " " (nS ((hs.getD i 0 : Nat) : Int) :: (l.take k).map cellS) ++ " " ++ cellS c := by
            rw [tkc, List.map_append, List.map_singleton, ← List.cons_append, join_snoc _ _ _ (by simp)]
          generalize Txt.join " " (nS ((hs.getD i 0 : Nat) : Int) :: (l.take k).map cellS) = z at *
          cases c with
          | none =>
            rw [show cellV none = .non from rfl]
            walk_at "x"
            refine x_addS (by rw [z1, sizeLine_eq]; omega) ?_
            walk_at "x"
            refine x_strN ?_
            walk_at "x"
            intro A nA
            walk_at "x"
            refine x_addS (by rw [app_len, z1, show ("-" : Str).length = 1 by decide +kernel, sizeLine_eq]; omega) ?_
            rw [show z ++ (" " : Str) ++ ("-" : Str) = Txt.join " " (nS ((hs.getD i 0 : Nat) : Int) :: (l.take (k + 1)).map cellS) from es.symm]
            exact clo_mk (subEb_refl _) (.refl _) ⟨_, hk, rfl, sL.over _ (sL.noneOf nA), lstAt_put' (ne_noneA nA eL).symm eL⟩
          | some m =>
            have lm := (nS_len (i := m) (k := 3) (by omega) (by have := cc m rfl; omega)).1
            rw [show cellV (some m) = .int ((m : Nat) : Int) from rfl]
            walk_at "x"
            refine x_addS (by rw [z1, sizeLine_eq]; omega) ?_
            walk_at "x"
            refine x_str (log2_lt3 (cc m rfl)) ?_
            walk_at "x"
            intro A nA
            walk_at "x"
            refine x_addS (by rw [app_len, z1, sizeLine_eq]; show z.length + 1 + (nS ((m : Nat) : Int)).length ≤ _; omega) ?_
            rw [show z ++ (" " : Str) ++ Str.ofString (toString ((m : Nat) : Int)) = Txt.join " " (nS ((hs.getD i 0 : Nat) : Int) :: (l.take (k + 1)).map cellS) from es.symm]
            exact clo_mk (subEb_refl _) (.refl _) ⟨_, hk, rfl, sL.over _ (sL.noneOf nA), lstAt_put' (ne_noneA nA eL).symm eL⟩
        · clear sL eL
          rintro k e H ek ⟨y5, hk0, rfl, sL, eL⟩
          have ek : l.length ≤ k := by simpa using ek
          rw [List.take_of_length_le ek]
          walk_at "x"
          refine clo_mk (subEb_refl _) (.refl _) ⟨_, _, _, _, hi, rfl, sL.over _ nL0, ?_⟩
          rw [lstAt_put, tk, List.map_append]; rfl
    · clear sL eL
      rintro i e H ei ⟨y2, y3, y4, y5, hi0, rfl, sL, eL⟩
      have ei : rows.length ≤ i := by
        have := List.getElem?_eq_none_iff.mp ei
        rwa [enumL_length, List.length_map] at this
      rw [List.take_of_length_le (by rw [ll]; exact ei)] at eL
      walk_at "x"
      refine x_join eL (strsOf_map _) ?_ ?_
      · have := sum_len _ (lines_len d)
        rw [ll] at this ⊢
        show _ + rows.length * 1 ≤ _
        omega
      · exact cloH_mk sL hq
  · exact hs.elim

end G

set_option Elab.async false
set_option linter.all false
set_option maxRecDepth 100000
set_option pp.maxSteps 3000
set_option maxHeartbeats 4000000
namespace G
open PySem PySem.Spec L2
open PyProof.Rows hiding St
/-! ### one step of a reading, and the small goals on its way -/
local macro_rules | `(tactic| walk_at "ne") => `(tactic| first
  | with_reducible assumption
  | (refine Ne.symm ?_; with_reducible assumption)
  | exact ne_none (by with_reducible assumption) (by with_reducible assumption)
  | exact ne_none' (by with_reducible assumption) (by with_reducible assumption)
  | exact ne_noneA (by with_reducible assumption) (by with_reducible assumption)
  | exact (ne_noneA (by with_reducible assumption) (by with_reducible assumption)).symm
  | exact And.left (put_none.mp (by with_reducible assumption))
  | exact Ne.symm (And.left (put_none.mp (by with_reducible assumption)))
  | exact HasPen.ne (by with_reducible assumption) (by with_reducible assumption)
  | exact (HasPen.ne (by with_reducible assumption) (by with_reducible assumption)).symm
  | exact HasPen.ne (by with_reducible assumption) ((ticks_none _).mp (by with_reducible assumption))
  | exact (HasPen.ne (by with_reducible assumption) ((ticks_none _).mp (by with_reducible assumption))).symm
  | exact HasPen.neA (by with_reducible assumption) (by with_reducible assumption)
  | exact (HasPen.neA (by with_reducible assumption) (by with_reducible assumption)).symm)
local macro_rules | `(tactic| walk_at "lk") => `(tactic| first
  | with_reducible exact lstAt_put
  | with_reducible assumption
  | ((with_reducible refine lstAt_put' ?_ ?_); (· walk_at "ne"); (walk_at "lk"))
  | ((with_reducible refine lstAt_ticks' ?_); (walk_at "lk"))
  | ((with_reducible refine lst_at ?_); with_reducible assumption))
local macro_rules | `(tactic| walk_at "hp") => `(tactic| first
  | with_reducible assumption
  | ((with_reducible refine HasPen.put ?_ ?_); (walk_at "hp"); (walk_at "ne"))
  | ((with_reducible refine HasPen.ticks ?_); (walk_at "hp"))
  | exact HasPen.le (by with_reducible assumption) (by omega))
local macro_rules | `(tactic| walk_at "nn") => `(tactic| first
  | with_reducible assumption
  | exact And.right (put_none.mp (by with_reducible assumption))
  | exact (ticks_none _).mp (by with_reducible assumption)
  | ((with_reducible refine ticks_none' ?_ _); (walk_at "nn"))
  | ((with_reducible refine put_none.mpr (And.intro ?_ ?_)); (· walk_at "ne"); (walk_at "nn")))
local macro_rules | `(tactic| walk_at "sub") => `(tactic| first
  | with_reducible exact Sub.refl _
  | with_reducible assumption
  | ((with_reducible refine Sub.ticks ?_); omega)
  | ((with_reducible refine Sub.put ?_ _ (SubO.refl _)); (walk_at "sub"))
  | ((with_reducible refine Sub.over ?_ _ ?_); (· walk_at "sub"); (walk_at "nn")))
local macro_rules | `(tactic| walk_at "tk") => `(tactic| first
  | ((simp only [ticks_put, ticks_add]); (exact rfl)) | exact rfl)
local macro_rules | `(tactic| walk_at "sz") => `(tactic| first
  | exact Nat.le_of_ble_eq_true rfl
  | (simp only [sizeLine_eq, List.length_append, List.length_cons, List.length_nil, List.length_map, List.length_set, List.length_replicate, List.length_take, List.length_drop, List.length_range, List.length_reverse, List.length_dropLast]; omega))
local macro_rules | `(tactic| walk_at "ar") => `(tactic| first
  | with_reducible assumption
  | omega
  | exact mulOk_l (by omega) (by omega)
  | exact mulOk_r (by omega) (by omega)
  | exact divOk_s (by omega) (by omega)
  | with_reducible exact divOk_30 ‹_› ‹_›
  | exact cpow_s (by omega) (by omega) (by omega) (by omega))
local macro_rules | `(tactic| walk_at "sm") => `(tactic| (unfold sm62; omega))
/-- intro of a new address -/
local macro_rules | `(tactic| walk_at "new") => `(tactic| (
  (with_reducible intro _p _np); (try simp only [put_none, ticks_none] at _np); (try revert _np); (try intro ⟨_, _⟩); (try (intro _np2))))
local macro_rules | `(tactic| walk_at "x1") => `(tactic| first
  | with_reducible refine x_sq ?_ | with_reducible refine x_set ?_ | with_reducible refine x_op ?_ | with_reducible refine x_c ?_
  | ((with_reducible refine x_var (v := ?v) ?e ?k); (case e => exact rfl))
  | with_reducible refine x_cons ?_ | with_reducible refine x_nil ?_ | with_reducible refine x_cb ?_ | with_reducible refine x_call ?_ | with_reducible refine x_callK ?_
  | with_reducible refine x_if ?_ | with_reducible refine x_tst ?_ | with_reducible refine x_tand ?_ | with_reducible refine x_tor ?_ | with_reducible refine x_tnot ?_ | with_reducible refine x_tru ?_
  | with_reducible refine x_ret ?_ | with_reducible refine x_asg ?_ | with_reducible refine x_nx ?_ | with_reducible refine x_drop ?_ | with_reducible refine x_bk ?_ | with_reducible refine x_ct ?_ | with_reducible refine x_par ?_ | with_reducible refine x_retN ?_
  | with_reducible refine x_tup ?_ | with_reducible refine x_lst ?_ | with_reducible refine x_m0 ?_ | with_reducible refine x_m ?_ | with_reducible refine x_mS ?_ | with_reducible refine x_and ?_ | with_reducible refine x_or ?_ | with_reducible refine x_not ?_ | with_reducible refine x_ife ?_ | with_reducible refine x_neg ?_
  | with_reducible refine x_chain ?_ | with_reducible refine x_sl ?_ | with_reducible refine x_nop ?_ | with_reducible refine x_part ?_ | with_reducible refine x_rev ?_ | with_reducible refine x_lrg1 ?_ | with_reducible refine x_lrg2 ?_
  | ((with_reducible refine x_aug (v := ?v) ?e ?k); (case e => exact rfl)) | with_reducible refine x_augS ?_
  | with_reducible refine x_gname ?_ | with_reducible refine x_gsub ?_ | with_reducible refine x_gnil ?_ | with_reducible refine x_gcons ?_
  | ((with_reducible refine x_gtupT ?_ ?_); (· exact rfl)) | ((with_reducible refine x_gpr ?_ ?_); (· exact rfl))
  | with_reducible refine x_cname ?_ | with_reducible refine x_cnil ?_ | with_reducible refine x_ccons ?_ | ((with_reducible refine x_cpr ?_ ?_); (· exact rfl)) | ((with_reducible refine x_ctupT ?_ ?_); (· exact rfl))
  | ((with_reducible refine x_drawB (h2 := ?h2) ?hp ?hb ?e ?k); (case hp => walk_at "hp"); (case hb => omega); (case e => walk_at "tk"))
  | ((with_reducible refine x_tru1 (r := ?r) ?e ?k); (case e => exact rfl)) | with_reducible refine x_isN ?_ | with_reducible refine x_isNotN ?_ | with_reducible refine x_yesT ?_ | with_reducible refine x_pen ?_ | with_reducible refine x_slC ?_ | ((with_reducible refine x_slL (xs := ?xs) ?e ?k); (case e => walk_at "lk")) | ((with_reducible refine x_listL (xs := ?xs) ?e ?k); (case e => walk_at "lk")) | with_reducible refine x_listT ?_ | ((with_reducible refine x_revL (xs := ?xs) ?e ?k); (case e => walk_at "lk"))
  | with_reducible refine x_for ?_ | with_reducible refine x_lc ?_ | with_reducible refine x_rg ?_ | ((with_reducible refine x_rg1 ?_ ?_); (· walk_at "sm")) | ((with_reducible refine x_rg2 ?_ ?_); (· walk_at "sm")) | ((with_reducible refine x_rg3 ?_ ?_); (· walk_at "sm")) | with_reducible refine x_itV ?_ | with_reducible refine x_enum ?_ | with_reducible refine x_zip ?_ | with_reducible refine x_rvd ?_
  | with_reducible refine x_addI ?_ | with_reducible refine x_subI ?_ | with_reducible refine x_ltI ?_ | with_reducible refine x_leI ?_ | with_reducible refine x_gtI ?_ | with_reducible refine x_geI ?_
  | with_reducible refine x_onBl ?_ | with_reducible refine x_onInt ?_ | ((with_reducible refine x_onLst (xs := ?xs) ?e ?k); (case e => walk_at "lk")) | ((with_reducible refine x_onSome (z := ?z) ?e ?k); (case e => first | exact rfl | with_reducible assumption)) | with_reducible refine x_yes ?_ | with_reducible refine x_no ?_ | ((with_reducible refine x_yesE ?_ ?_); (· exact rfl)) | ((with_reducible refine x_noE ?_ ?_); (· exact rfl))
  | with_reducible refine x_abs ?_ | with_reducible refine x_intI ?_ | with_reducible refine x_intB ?_ | with_reducible refine x_min2 ?_ | with_reducible refine x_max2 ?_ | with_reducible refine x_lenT ?_ | with_reducible refine x_lenC ?_ | with_reducible refine x_tupleT ?_ | with_reducible refine x_slT ?_
  | ((with_reducible refine x_mulI ?_ ?_); (· walk_at "ar")) | ((with_reducible refine x_fdivI ?_ ?_); (· walk_at "ar")) | ((with_reducible refine x_modI ?_ ?_); (· walk_at "ar")) | ((with_reducible refine x_powI ?_ ?_); (· walk_at "ar"))
  | ((with_reducible refine x_ixL (xs := ?xs) (v := ?v) ?e ?e2 ?k); (case e => walk_at "lk"); (case e2 => first | exact rfl | with_reducible assumption)) | ((with_reducible refine x_ixT (v := ?v) ?e2 ?k); (case e2 => first | exact rfl | with_reducible assumption)) | ((with_reducible refine x_ixS (v := ?v) ?e2 ?k); (case e2 => with_reducible assumption))
  | ((with_reducible refine x_setI (xs := ?xs) (j := ?j) ?e ?e2 ?k); (case e => walk_at "lk"); (case e2 => first | exact rfl | with_reducible assumption))
  | ((with_reducible refine x_lenL (xs := ?xs) ?e ?k); (case e => walk_at "lk")) | ((with_reducible refine x_tupleL (xs := ?xs) ?e ?k); (case e => walk_at "lk"))
  | ((with_reducible refine x_tyL (xs := ?xs) ?e ?k); (case e => walk_at "lk"))
  | ((with_reducible refine x_append (xs := ?xs) ?e ?l ?k); (case e => walk_at "lk"); (case l => walk_at "sz"))
  | ((with_reducible refine x_eq (r := ?r) ?e ?k); (case e => exact rfl)) | ((with_reducible refine x_ne (r := ?r) ?e ?k); (case e => exact rfl))
  | ((with_reducible refine x_isinst (t := ?t) ?e ?ht ?k); (case e => exact rfl); (case ht => exact rfl))
  | ((with_reducible refine And.intro ?_ ?_); (· first | walk_at "sz" | exact rfl | ((refine isSome_it (xs := ?xs) ?e); (case e => walk_at "lk")) | ((refine isSome_seq (xs := ?xs) ?e); (case e => walk_at "lk")))))
local macro_rules | `(tactic| walk_at "x") => `(tactic| repeat (walk_at "x1"))
local macro_rules | `(tactic| walk_at "sube") => `(tactic| (repeat (first | exact trivial | refine ⟨rfl, ?_⟩)))
local macro_rules | `(tactic| walk_at "x1") => `(tactic| first
  | with_reducible refine x_try ?_ | with_reducible refine x_raise ?_ | with_reducible refine x_attr ?_ | with_reducible refine x_isXN ?_ | ((with_reducible refine x_isXE ?_ ?_); (· exact rfl))
  | ((with_reducible refine x_takes ?_ ?_ ?_); (· exact rfl); (· exact rfl)) | ((with_reducible refine x_passes ?_ ?_ ?_); (· exact rfl); (· exact rfl))
  | ((with_reducible refine x_aStore (v := ?v) ?e ?k); (case e => exact rfl)) | with_reducible refine x_aPass ?_ | with_reducible refine x_aDo ?_ | with_reducible refine x_aNone ?_)
local macro_rules | `(tactic| walk_at "x1") => `(tactic| first
  | with_reducible refine x_aaddI ?_ | with_reducible refine x_asubI ?_ | ((with_reducible refine x_divmodI ?_ ?_); (· first | with_reducible assumption | exact divOk_s (by omega) (by omega))))
local macro_rules | `(tactic| walk_at "li") => `(tactic| first
  | with_reducible exact insAt_put
  | with_reducible assumption
  | ((with_reducible refine insAt_put' ?_ ?_); (· walk_at "ne"); (walk_at "li"))
  | ((with_reducible refine insAt_ticks ?_); (walk_at "li")))
local macro_rules | `(tactic| walk_at "x1") => `(tactic| first
  | with_reducible refine x_fld ?_ | with_reducible refine x_setF ?_ | with_reducible refine x_meth ?_ | with_reducible refine x_make ?_
  | ((with_reducible refine x_onIns (fs := ?fs) ?e ?k); (case e => walk_at "li")))

theorem gset_same {Ls : List (List Nat)} {a : Nat} {L : List Nat} (h : a < Ls.length) : (Ls.set a L).getD a [] = L := by
  rw [List.getD_eq_getElem?_getD, List.getElem?_set_self h]
  rfl
theorem gset_ne {Ls : List (List Nat)} {a i : Nat} {L : List Nat} (h : i ≠ a) : (Ls.set a L).getD i [] = Ls.getD i [] := by
  rw [List.getD_eq_getElem?_getD, List.getElem?_set_ne (Ne.symm h), ← List.getD_eq_getElem?_getD]
/-- the rows of a tree, while they grow -/
structure CR (N : Nat) (h H : Hg) (p R O : Addr) (rs : List Addr) (ord : List Nat) (Ls : List (List Nat)) (k : Nat) : Prop where
  sub : Sub (ticks (N - k) h) H
  pen : HasPen H p k
  few : k ≤ N
  eR : lstAt H R = some (rs.map Val.ref)
  eO : lstAt H O = some (natsL ord)
  nod : rs.Nodup
  len : Ls.length = rs.length
  row : ∀ (i : Nat) (r : Addr), rs[i]? = some r → lstAt H r = some (natsL (Ls.getD i [])) ∧ h r = none ∧ r ≠ R ∧ r ≠ O
section
variable {N : Nat} {h H : Hg} {p R O q : Addr} {rs : List Addr} {ord : List Nat} {Ls : List (List Nat)} {k : Nat}
theorem CR.draw (x : CR N h H p R O rs ord Ls (k + 1)) : CR N h (ticks 1 H) p R O rs ord Ls k where
  sub := by
    have := x.sub.tickn 1
    have f := x.few
    rw [ticks_add, show N - (k + 1) + 1 = N - k by omega] at this
    exact this
  pen := HasPen.ticks x.pen
  few := by have := x.few; omega
  eR := lstAt_ticks' x.eR
  eO := lstAt_ticks' x.eO
  nod := x.nod
  len := x.len
  row := fun i r e => ⟨lstAt_ticks' (x.row i r e).1, (x.row i r e).2⟩
theorem CR.le {j : Nat} (x : CR N h H p R O rs ord Ls k) (l : j ≤ k) : CR N h H p R O rs ord Ls j :=
  ⟨(Sub.ticks (by omega)).trans x.sub, x.pen.le l, by have := x.few; omega, x.eR, x.eO, x.nod, x.len, x.row⟩
theorem CR.put1 {o : Ob} (x : CR N h H p R O rs ord Ls k) (nq : H q = none) : CR N h (put H q o) p R O rs ord Ls k where
  sub := x.sub.over _ (x.sub.noneOf nq)
  pen := x.pen.put (x.pen.ne nq)
  few := x.few
  eR := lstAt_put' (ne_noneA nq x.eR).symm x.eR
  eO := lstAt_put' (ne_noneA nq x.eO).symm x.eO
  nod := x.nod
  len := x.len
  row := fun i r e => ⟨lstAt_put' (ne_noneA nq (x.row i r e).1).symm (x.row i r e).1, (x.row i r e).2⟩
/-- something that is none of the lists changes -/
theorem CR.over {o : Ob} (x : CR N h H p R O rs ord Ls k) (nh : h q = none) (qR : R ≠ q) (qO : O ≠ q) (qp : p ≠ q) (qr : ∀ r ∈ rs, r ≠ q) : CR N h (put H q o) p R O rs ord Ls k where
  sub := x.sub.over _ ((ticks_none _).mpr nh)
  pen := x.pen.put qp
  few := x.few
  eR := lstAt_put' qR x.eR
  eO := lstAt_put' qO x.eO
  nod := x.nod
  len := x.len
  row := fun i r e => ⟨lstAt_put' (qr r (List.mem_of_getElem? e)) (x.row i r e).1, (x.row i r e).2⟩
theorem CR.setRow {a : Nat} {r : Addr} {l : List Nat} (x : CR N h H p R O rs ord Ls k) (e : rs[a]? = some r) : CR N h (put H r (.lst (natsL l))) p R O rs ord (Ls.set a l) k where
  sub := x.sub.over _ ((ticks_none _).mpr (x.row a r e).2.1)
  pen := x.pen.put (x.pen.neA (x.row a r e).1)
  few := x.few
  eR := lstAt_put' (x.row a r e).2.2.1.symm x.eR
  eO := lstAt_put' (x.row a r e).2.2.2.symm x.eO
  nod := x.nod
  len := by rw [List.length_set]; exact x.len
  row := fun i r' e' => by
    by_cases z : i = a
    · subst z
      rw [e] at e'
      cases e'
      rw [gset_same (by rw [x.len]; exact (List.getElem?_eq_some_iff.mp e).1)]
      exact ⟨lstAt_put, (x.row i r e).2⟩
    · rw [gset_ne z]
      refine ⟨lstAt_put' (fun y => z ?_) (x.row i r' e').1, (x.row i r' e').2⟩
      subst y
      exact (List.getElem?_inj (List.getElem?_eq_some_iff.mp e').1 x.nod).mp (e'.trans e.symm)
theorem CR.at (x : CR N h H p R O rs ord Ls k) {a : Nat} (ha : a < rs.length) : ∃ r, rs[a]? = some r ∧ atI (rs.map Val.ref) ((a : Nat) : Int) = some (.ref r) :=
  ⟨rs[a], List.getElem?_eq_getElem ha, L2.atI_nat (by rw [List.getElem?_map, List.getElem?_eq_getElem ha]; rfl)⟩
end
theorem ints_natG {ms : List Int} {r : List Nat} (p : ms.Perm (r.map fun n : Nat => ((n : Nat) : Int))) : ∃ ns : List Nat, ms = ns.map (fun n : Nat => ((n : Nat) : Int)) ∧ ns.Perm r := by
  refine ⟨ms.map Int.toNat, ?_, ?_⟩
  · rw [List.map_map]
    have : ∀ x ∈ ms, ((fun n : Nat => ((n : Nat) : Int)) ∘ Int.toNat) x = x := fun x hx => by
      obtain ⟨y, _, rfl⟩ := List.mem_map.mp (p.mem_iff.mp hx)
      rfl
    rw [List.map_congr_left this, List.map_id']
  · refine (p.map Int.toNat).trans (.of_eq ?_)
    rw [List.map_map]
    have : ∀ x ∈ r, (Int.toNat ∘ fun n : Nat => ((n : Nat) : Int)) x = x := fun x _ => Int.toNat_natCast x
    rw [List.map_congr_left this, List.map_id']
theorem x__law_children {m N : Nat} {p : Addr} {h : Hg} {Q : KV} {E : KX} (hm : 1 ≤ m ∧ m ≤ 40) (hp : HasPen h p (N + 200)) (k : ∀ t, TD t → Q (treeN t) (ticks 200 h)) : sp__law_children (perm [0, 1] [.ref p, .int ((m : Nat) : Int)]) h Q E := ⟨m, N, rfl, hm, hp, k⟩
/-- rows of few small numbers -/
def Few (Ls : List (List Nat)) (t : Nat) : Prop := ∀ l ∈ Ls, l.length ≤ t ∧ ∀ v ∈ l, v < 1000
theorem Few.at {Ls : List (List Nat)} {t : Nat} (f : Few Ls t) (i : Nat) : (Ls.getD i []).length ≤ t ∧ ∀ v ∈ Ls.getD i [], v < 1000 := by
  rw [List.getD_eq_getElem?_getD]
  cases e : Ls[i]? with
  | none => exact ⟨Nat.zero_le _, fun v h => (by cases h)⟩
  | some l => exact f l (List.mem_of_getElem? e)
theorem Few.ins {Ls : List (List Nat)} {t a d v : Nat} (f : Few Ls t) (hv : v < 1000) : Few (Ls.set a ((Ls.getD a []).take d ++ [v] ++ (Ls.getD a []).drop d)) (t + 1) := fun l hl => by
  rcases List.mem_or_eq_of_mem_set hl with h | rfl
  · have := f l h
    exact ⟨by omega, this.2⟩
  · obtain ⟨f1, f2⟩ := f.at a
    refine ⟨?_, fun w hw => ?_⟩
    · rw [List.length_append, List.length_append, List.length_take, List.length_drop, List.length_singleton]
      omega
    · rcases List.mem_append.mp hw with hw | hw
      · rcases List.mem_append.mp hw with hw | hw
        · exact f2 w (List.mem_of_mem_take hw)
        · rw [List.mem_singleton] at hw; omega
      · exact f2 w (List.mem_of_mem_drop hw)
theorem ins_natsL (l : List Nat) (d v : Nat) : (natsL l).take d ++ [Val.int ((v : Nat) : Int)] ++ (natsL l).drop d = natsL (l.take d ++ [v] ++ l.drop d) := by unfold natsL; simp
theorem l__law_children (args : List Val) (h : Hg) (Q : KV) (E : KX) (hs : sp__law_children args h Q E) : Entry h (W__law_children (dOf Q E) (startG N__law_children args)) := by
  unfold sp__law_children at hs
  split at hs
  · rename_i p a
    obtain ⟨m, N, rfl, ⟨m1, m40⟩, hp, hq⟩ := hs
    refine Entry.self ?_
    unfold W__law_children dOf startG
    walk_at "x"
    refine x__law_size ⟨by omega, by omega⟩ (hp.le (by omega)) rfl ?_
    intro s s1 s2
    obtain ⟨n, rfl⟩ := Int.eq_ofNat_of_zero_le (show 0 ≤ s by omega)
    have p1 : HasPen (ticks 4 h) p (N + 196) := HasPen.ticks (hp.le (by omega))
    walk_at "x"
    refine x__law_order ⟨by omega, by omega⟩ (p1.le (by rw [Int.toNat_natCast]; omega)) rfl ?_
    intro ns q pn nq
    rw [Int.toNat_natCast] at pn ⊢
    obtain ⟨ord, rfl, po⟩ := ints_natG (r := List.range n) (by unfold rgI at pn; exact pn)
    have oo : ((ord.map fun n : Nat => ((n : Nat) : Int)).map Val.int) = natsL ord := by unfold natsL; rw [List.map_map]; rfl
    rw [oo]
    have ol : ord.length = n := by rw [po.length_eq, List.length_range]
    have hq0 : h q = none := (ticks_none _).mp nq
    have p2 : HasPen (put (ticks n (ticks 4 h)) q (.lst (natsL ord))) p (N + 196 - n) := (HasPen.ticks (k := N + 196 - n) (by rw [show N + 196 - n + n = N + 196 by omega]; exact p1)).put (p1.ne nq)
    have s3 : Sub (ticks (4 + n) h) (put (ticks n (ticks 4 h)) q (.lst (natsL ord))) := by
      rw [ticks_add]
      exact Sub.over (.refl _) _ (ticks_none' hq0 _)
    have eq : lstAt (put (ticks n (ticks 4 h)) q (.lst (natsL ord))) q = some (natsL ord) := lstAt_put
    generalize put (ticks n (ticks 4 h)) q (.lst (natsL ord)) = H1 at *
    clear p1 nq pn oo
    walk_at "x"
    intro w w0 w1
    have s4 := s3.tickn 1
    rw [ticks_add] at s4
    have p3 : HasPen (ticks 1 H1) p (N + 195 - n) := HasPen.ticks (p2.le (by omega))
    have eq3 : lstAt (ticks 1 H1) q = some (natsL ord) := lstAt_ticks' eq
    generalize ticks 1 H1 = H2 at *
    clear s3 p2 eq
    walk_at "x"
    intro R nR
    refine lc_by (itR 0 1 n) n (fun i acc H => ∃ rs : List Addr, i ≤ n ∧ acc = rs.map Val.ref ∧ rs.length = i ∧ Sub (ticks (4 + n + 1) h) H ∧ HasPen H p (N + 195 - n) ∧ lstAt H q = some (natsL ord) ∧ rs.Nodup ∧ ∀ r ∈ rs, lstAt H r = some [] ∧ h r = none ∧ r ≠ q) (fun i acc h' _ _ => by rw [Int.toNat_natCast]; exact sqR_it) (fun i a e => itR_lt e) nR ⟨[], Nat.zero_le _, rfl, rfl, s4, p3, eq3, .nil, fun r h => (by cases h)⟩ ?_ ?_
    · clear s4 p3 eq3 nR
      rintro i a acc H ei ⟨rs, hi0, rfl, hl, sb, hp, eq, nd, row⟩ nR Nx hN
      obtain ⟨hi, rfl⟩ := itR_some ei
      walk_at "x"
      intro r nr
      obtain ⟨rR, nrH⟩ := put_none.mp nr
      walk_at "x"
      refine hN ((rs ++ [r]).map Val.ref) (put H r (.lst [])) _ ⟨rs ++ [r], hi, rfl, by rw [List.length_append, hl]; rfl, sb.over _ (sb.noneOf nrH), hp.put (hp.ne nrH), lstAt_put' (ne_noneA nrH eq).symm eq, ?_, fun u hu => ?_⟩ (put_none.mpr ⟨rR.symm, nR⟩) ?_
      · rw [List.nodup_append]
        refine ⟨nd, by simp, fun a ha b hb => ?_⟩
        rw [List.mem_singleton] at hb
        subst hb
        exact (ne_noneA nrH (row a ha).1).symm
      · rcases List.mem_append.mp hu with hu | hu
        · have := row u hu
          exact ⟨lstAt_put' (ne_noneA nrH this.1).symm this.1, this.2⟩
        · rw [List.mem_singleton] at hu
          subst hu
          exact ⟨lstAt_put, (ticks_none _).mp (sb.noneOf nrH), ne_noneA nrH eq⟩
      · rw [put_comm (h := H) rR.symm, put_put, List.map_append]
        exact .refl _
    · clear s4 p3 eq3 nR
      rintro i acc H ei ⟨rs, hi0, rfl, hl, sb, hp, eq, nd, row⟩ nR'
      have hin : n = i := by have := itR_none ei; omega
      subst hin
      have x0 : CR (N + 200) h (put H R (.lst (rs.map Val.ref))) p R q rs ord (List.replicate n []) (N + 195 - n) := {
        sub := by rw [show N + 200 - (N + 195 - n) = 4 + n + 1 by omega]; exact sb.over _ (sb.noneOf nR')
        pen := hp.put (hp.ne nR')
        few := by omega
        eR := lstAt_put
        eO := lstAt_put' (ne_noneA nR' eq).symm eq
        nod := nd
        len := by rw [List.length_replicate, hl]
        row := fun a r e => by
          obtain ⟨r1, r2, r3⟩ := row r (List.mem_of_getElem? e)
          have ha := (List.getElem?_eq_some_iff.mp e).1
          rw [List.getD_eq_getElem?_getD, List.getElem?_replicate, if_pos (by omega)]
          exact ⟨lstAt_put' (ne_noneA nR' r1).symm r1, r2, (ne_noneA nR' r1).symm, r3⟩ }
      have f0 : Few (List.replicate n []) 0 := fun l hl => by
        rw [List.mem_replicate] at hl
        rw [hl.2]
        exact ⟨Nat.le_refl _, fun v h => (by cases h)⟩
      generalize put H R (.lst (rs.map Val.ref)) = H at *
      clear sb hp eq nd row nR' ei
      walk_at "x"
      have og : ∀ j, j < n → atI (natsL ord) ((j : Nat) : Int) = some (.int ((ord.getD j 0 : Nat) : Int)) := fun j hj => L2.atI_nat (by unfold natsL; rw [List.getElem?_map, List.getElem?_eq_getElem (by omega), List.getD_eq_getElem?_getD, List.getElem?_eq_getElem (by omega)]; rfl)
      have ol_ : ∀ j, j < n → ord.getD j 0 < n := fun j hj => List.mem_range.mp (po.mem_iff.mp (List.mem_of_getElem? (i := j) (by rw [List.getD_eq_getElem?_getD, List.getElem?_eq_getElem (by omega)]; rfl)))
      refine for_by (itR 1 1 (n - 1)) (n - 1) (fun t e H => ∃ x6 x7 Ls, t ≤ n - 1 ∧ e = [some (.ref p), some (.int ((m : Nat) : Int)), some (.int ((n : Nat) : Int)), some (.ref q), some (.int w), some (.ref R), x6, x7, none] ∧ CR (N + 200) h H p R q rs ord Ls (N + 195 - n - 2 * t) ∧ Few Ls t) (fun t e H _ => by rw [show (((n : Nat) : Int) - 1).toNat = n - 1 by omega]; exact sqR_it) (fun t a e => itR_lt e) (clo_mk (subEb_refl _) (.refl _) ⟨none, none, _, Nat.zero_le _, rfl, x0, f0⟩) ?_ ?_
      · clear x0 f0
        rintro t a e H et ⟨x6, x7, Ls, ht, rfl, I, f⟩
        obtain ⟨ht2, rfl⟩ := itR_some et
        have kk : (1 : Int) + ((t : Nat) : Int) * 1 = ((t + 1 : Nat) : Int) := by omega
        rw [kk]
        have pen0 : HasPen H p 1 := I.pen.le (by omega)
        walk_at "x"
        intro d d0 d1
        obtain ⟨d, rfl⟩ := Int.eq_ofNat_of_zero_le d0
        have I := CR.draw (k := N + 194 - n - 2 * t) (I.le (by omega))
        generalize ticks 1 H = H at *
        clear pen0
        walk_at "x"
        intro C nC
        obtain ⟨b, hb, eb⟩ : ∃ b : Nat, b < t + 1 ∧ atI [Val.int ((d : Nat) : Int), .int (((t + 1 : Nat) : Int) - 1), .int 0] w = some (.int ((b : Nat) : Int)) := by
          have : w = 0 ∨ w = 1 ∨ w = 2 := by omega
          rcases this with rfl | rfl | rfl
          · exact ⟨d, by omega, rfl⟩
          · exact ⟨t, by omega, by show some (Val.int _) = _; congr 2; omega⟩
          · exact ⟨0, by omega, rfl⟩
        have I := I.put1 (o := .lst [.int ((d : Nat) : Int), .int (((t + 1 : Nat) : Int) - 1), .int 0]) nC
        have eC : lstAt (put H C (.lst [.int ((d : Nat) : Int), .int (((t + 1 : Nat) : Int) - 1), .int 0])) C = some _ := lstAt_put
        generalize put H C (.lst [.int ((d : Nat) : Int), .int (((t + 1 : Nat) : Int) - 1), .int 0]) = H at *
        obtain ⟨r, er, fr⟩ := I.at (a := b) (by omega)
        have row1 := (I.row _ r er).1
        obtain ⟨rl, rv⟩ := f.at b
        have eR := I.eR
        have pen1 : HasPen H p 1 := I.pen.le (by omega)
        walk_at "x"
        rw [natsL_len]
        first | refine x_drawB pen1 (by omega) rfl ?_ | refine x_draw pen1 (by omega) rfl ?_
        intro c c0 c1
        obtain ⟨c, rfl⟩ := Int.eq_ofNat_of_zero_le c0
        have I := CR.draw (k := N + 193 - n - 2 * t) (I.le (by omega))
        generalize ticks 1 H = H at *
        clear row1 eR pen1 eC
        have row1 := (I.row _ r er).1
        have eO := I.eO
        have kt := og (t + 1) (by omega)
        have lt := ol_ (t + 1) (by omega)
        walk_at "x"
        refine x_insert row1 ⟨by rw [natsL_len, sizeLine_eq]; omega, by omega, by omega⟩ ?_
        rw [Int.toNat_natCast, ins_natsL]
        exact clo_mk (subEb_refl _) (.refl _) ⟨_, _, _, by omega, rfl, (I.setRow er).le (by omega), f.ins (by omega)⟩
      · clear x0 f0
        rintro t e H et ⟨x6, x7, Ls, ht, rfl, I, f⟩
        have hin : t + 1 = n := by have := itR_none et; omega
        have I := I.le (j := N) (by omega)
        walk_at "x"
        intro Z nZ
        have I := I.put1 (o := .lst [.tup []]) nZ
        have eZ : lstAt (put H Z (.lst [.tup []])) Z = some [.tup []] := lstAt_put
        generalize put H Z (.lst [.tup []]) = H at *
        walk_at "x"
        refine x_mulL eZ ⟨by omega, by omega, by rw [Int.toNat_natCast, sizeLine_eq]; simp; omega⟩ ?_
        intro F nF
        rw [Int.toNat_natCast, show (List.replicate n [Val.tup []]).flatten = (List.replicate n ([] : List Nat)).map fun r => Val.tup (natsL r) by
          rw [List.map_replicate]
          clear I nF eZ nZ
          generalize n = k
          induction k with
          | zero => rfl
          | succ k ih => rw [List.replicate_succ, List.flatten_cons, ih, List.replicate_succ]; rfl]
        have nFh : h F = none := (ticks_none _).mp (I.sub.noneOf nF)
        have FR : R ≠ F := (ne_noneA nF I.eR).symm
        have FO : q ≠ F := (ne_noneA nF I.eO).symm
        have Fp : p ≠ F := I.pen.ne nF
        have Fr : ∀ r ∈ rs, r ≠ F := fun r hr => by
          obtain ⟨c, hc⟩ := List.getElem?_of_mem hr
          exact (ne_noneA nF (I.row c r hc).1).symm
        have I := I.over (o := .lst ((List.replicate n ([] : List Nat)).map fun r => Val.tup (natsL r))) nFh FR FO Fp Fr
        have eF : lstAt (put H F (.lst ((List.replicate n ([] : List Nat)).map fun r => Val.tup (natsL r)))) F = some ((List.replicate n ([] : List Nat)).map fun r => Val.tup (natsL r)) := lstAt_put
        have fF : Few (List.replicate n []) 40 := fun l hl => by
          rw [List.mem_replicate] at hl
          rw [hl.2]
          exact ⟨Nat.zero_le _, fun v h => (by cases h)⟩
        generalize put H F (.lst ((List.replicate n ([] : List Nat)).map fun r => Val.tup (natsL r))) = H at *
        clear nF eZ
        walk_at "x"
        refine for_by (itR 0 1 n) n (fun k e H => ∃ x6 T, k ≤ n ∧ e = [some (.ref p), some (.int ((m : Nat) : Int)), some (.int ((n : Nat) : Int)), some (.ref q), some (.int w), some (.ref R), x6, x7, some (.ref F)] ∧ CR (N + 200) h H p R q rs ord Ls N ∧ lstAt H F = some (T.map fun r => Val.tup (natsL r)) ∧ T.length = n ∧ Few T 40) (fun k e H _ => by rw [Int.toNat_natCast]; exact sqR_it) (fun k a e => itR_lt e) (clo_mk (subEb_refl _) (.refl _) ⟨_, _, Nat.zero_le _, rfl, I, eF, List.length_replicate, fF⟩) ?_ ?_
        · clear I eF fF
          rintro k a e H ek ⟨x6, T, hk, rfl, I, eF, Tl, fT⟩
          obtain ⟨hk2, rfl⟩ := itR_some ek
          rw [show (0 : Int) + ((k : Nat) : Int) * 1 = ((k : Nat) : Int) by omega]
          obtain ⟨r, er, fr⟩ := I.at (a := k) (by omega)
          have row1 := (I.row _ r er).1
          have eR := I.eR
          have eO := I.eO
          have kt := og k hk2
          have lt := ol_ k hk2
          obtain ⟨f1, f2⟩ := f.at k
          walk_at "x"
          refine x_setI (j := ord.getD k 0) eF (ixN_pos (by omega) (by rw [List.length_map]; omega)) ?_
          refine clo_mk (subEb_refl _) (.refl _) ⟨_, T.set (ord.getD k 0) (Ls.getD k []), by omega, rfl, I.over nFh FR FO Fp Fr, ?_, by rw [List.length_set]; exact Tl, fun l hl => ?_⟩
          · rw [lstAt_put, List.map_set]
          · rcases List.mem_or_eq_of_mem_set hl with h | rfl
            · exact fT l h
            · exact ⟨by omega, f2⟩
        · clear I eF fF
          rintro k e H ek ⟨x6, T, hk, rfl, I, eF, Tl, fT⟩
          walk_at "x"
          exact cloH_mk (by have := I.sub; rw [show N + 200 - N = 200 by omega] at this; exact this) (hq T ⟨by omega, fT⟩)
  · exact hs.elim

end G

set_option Elab.async false
set_option linter.all false
set_option maxRecDepth 100000
set_option pp.maxSteps 3000
set_option maxHeartbeats 4000000
namespace G
open PySem PySem.Spec L2
open PyProof.Rows hiding St
/-! ### one step of a reading, and the small goals on its way -/
local macro_rules | `(tactic| walk_at "ne") => `(tactic| first
  | with_reducible assumption
  | (refine Ne.symm ?_; with_reducible assumption)
  | exact ne_none (by with_reducible assumption) (by with_reducible assumption)
  | exact ne_none' (by with_reducible assumption) (by with_reducible assumption)
  | exact ne_noneA (by with_reducible assumption) (by with_reducible assumption)
  | exact (ne_noneA (by with_reducible assumption) (by with_reducible assumption)).symm
  | exact And.left (put_none.mp (by with_reducible assumption))
  | exact Ne.symm (And.left (put_none.mp (by with_reducible assumption)))
  | exact HasPen.ne (by with_reducible assumption) (by with_reducible assumption)
  | exact (HasPen.ne (by with_reducible assumption) (by with_reducible assumption)).symm
  | exact HasPen.ne (by with_reducible assumption) ((ticks_none _).mp (by with_reducible assumption))
  | exact (HasPen.ne (by with_reducible assumption) ((ticks_none _).mp (by with_reducible assumption))).symm
  | exact HasPen.neA (by with_reducible assumption) (by with_reducible assumption)
  | exact (HasPen.neA (by with_reducible assumption) (by with_reducible assumption)).symm)
local macro_rules | `(tactic| walk_at "lk") => `(tactic| first
  | with_reducible exact lstAt_put
  | with_reducible assumption
  | ((with_reducible refine lstAt_put' ?_ ?_); (· walk_at "ne"); (walk_at "lk"))
  | ((with_reducible refine lstAt_ticks' ?_); (walk_at "lk"))
  | ((with_reducible refine lst_at ?_); with_reducible assumption))
local macro_rules | `(tactic| walk_at "hp") => `(tactic| first
  | with_reducible assumption
  | ((with_reducible refine HasPen.put ?_ ?_); (walk_at "hp"); (walk_at "ne"))
  | ((with_reducible refine HasPen.ticks ?_); (walk_at "hp"))
  | exact HasPen.le (by with_reducible assumption) (by omega))
local macro_rules | `(tactic| walk_at "nn") => `(tactic| first
  | with_reducible assumption
  | exact And.right (put_none.mp (by with_reducible assumption))
  | exact (ticks_none _).mp (by with_reducible assumption)
  | ((with_reducible refine ticks_none' ?_ _); (walk_at "nn"))
  | ((with_reducible refine put_none.mpr (And.intro ?_ ?_)); (· walk_at "ne"); (walk_at "nn")))
local macro_rules | `(tactic| walk_at "sub") => `(tactic| first
  | with_reducible exact Sub.refl _
  | with_reducible assumption
  | ((with_reducible refine Sub.ticks ?_); omega)
  | ((with_reducible refine Sub.put ?_ _ (SubO.refl _)); (walk_at "sub"))
  | ((with_reducible refine Sub.over ?_ _ ?_); (· walk_at "sub"); (walk_at "nn")))
local macro_rules | `(tactic| walk_at "tk") => `(tactic| first
  | ((simp only [ticks_put, ticks_add]); (exact rfl)) | exact rfl)
local macro_rules | `(tactic| walk_at "sz") => `(tactic| first
  | exact Nat.le_of_ble_eq_true rfl
  | (simp only [sizeLine_eq, List.length_append, List.length_cons, List.length_nil, List.length_map, List.length_set, List.length_replicate, List.length_take, List.length_drop, List.length_range, List.length_reverse, List.length_dropLast]; omega))
local macro_rules | `(tactic| walk_at "ar") => `(tactic| first
  | with_reducible assumption
  | omega
  | exact mulOk_l (by omega) (by omega)
  | exact mulOk_r (by omega) (by omega)
  | exact divOk_s (by omega) (by omega)
  | with_reducible exact divOk_30 ‹_› ‹_›
  | exact cpow_s (by omega) (by omega) (by omega) (by omega))
local macro_rules | `(tactic| walk_at "sm") => `(tactic| (unfold sm62; omega))
/-- intro of a new address -/
local macro_rules | `(tactic| walk_at "new") => `(tactic| (
  (with_reducible intro _p _np); (try simp only [put_none, ticks_none] at _np); (try revert _np); (try intro ⟨_, _⟩); (try (intro _np2))))
local macro_rules | `(tactic| walk_at "x1") => `(tactic| first
  | with_reducible refine x_sq ?_ | with_reducible refine x_set ?_ | with_reducible refine x_op ?_ | with_reducible refine x_c ?_
  | ((with_reducible refine x_var (v := ?v) ?e ?k); (case e => exact rfl))
  | with_reducible refine x_cons ?_ | with_reducible refine x_nil ?_ | with_reducible refine x_cb ?_ | with_reducible refine x_call ?_ | with_reducible refine x_callK ?_
  | with_reducible refine x_if ?_ | with_reducible refine x_tst ?_ | with_reducible refine x_tand ?_ | with_reducible refine x_tor ?_ | with_reducible refine x_tnot ?_ | with_reducible refine x_tru ?_
  | with_reducible refine x_ret ?_ | with_reducible refine x_asg ?_ | with_reducible refine x_nx ?_ | with_reducible refine x_drop ?_ | with_reducible refine x_bk ?_ | with_reducible refine x_ct ?_ | with_reducible refine x_par ?_ | with_reducible refine x_retN ?_
  | with_reducible refine x_tup ?_ | with_reducible refine x_lst ?_ | with_reducible refine x_m0 ?_ | with_reducible refine x_m ?_ | with_reducible refine x_mS ?_ | with_reducible refine x_and ?_ | with_reducible refine x_or ?_ | with_reducible refine x_not ?_ | with_reducible refine x_ife ?_ | with_reducible refine x_neg ?_
  | with_reducible refine x_chain ?_ | with_reducible refine x_sl ?_ | with_reducible refine x_nop ?_ | with_reducible refine x_part ?_ | with_reducible refine x_rev ?_ | with_reducible refine x_lrg1 ?_ | with_reducible refine x_lrg2 ?_
  | ((with_reducible refine x_aug (v := ?v) ?e ?k); (case e => exact rfl)) | with_reducible refine x_augS ?_
  | with_reducible refine x_gname ?_ | with_reducible refine x_gsub ?_ | with_reducible refine x_gnil ?_ | with_reducible refine x_gcons ?_
  | ((with_reducible refine x_gtupT ?_ ?_); (· exact rfl)) | ((with_reducible refine x_gpr ?_ ?_); (· exact rfl))
  | with_reducible refine x_cname ?_ | with_reducible refine x_cnil ?_ | with_reducible refine x_ccons ?_ | ((with_reducible refine x_cpr ?_ ?_); (· exact rfl)) | ((with_reducible refine x_ctupT ?_ ?_); (· exact rfl))
  | ((with_reducible refine x_drawB (h2 := ?h2) ?hp ?hb ?e ?k); (case hp => walk_at "hp"); (case hb => omega); (case e => walk_at "tk"))
  | ((with_reducible refine x_tru1 (r := ?r) ?e ?k); (case e => exact rfl)) | with_reducible refine x_isN ?_ | with_reducible refine x_isNotN ?_ | with_reducible refine x_yesT ?_ | with_reducible refine x_pen ?_ | with_reducible refine x_slC ?_ | ((with_reducible refine x_slL (xs := ?xs) ?e ?k); (case e => walk_at "lk")) | ((with_reducible refine x_listL (xs := ?xs) ?e ?k); (case e => walk_at "lk")) | with_reducible refine x_listT ?_ | ((with_reducible refine x_revL (xs := ?xs) ?e ?k); (case e => walk_at "lk"))
  | with_reducible refine x_for ?_ | with_reducible refine x_lc ?_ | with_reducible refine x_rg ?_ | ((with_reducible refine x_rg1 ?_ ?_); (· walk_at "sm")) | ((with_reducible refine x_rg2 ?_ ?_); (· walk_at "sm")) | ((with_reducible refine x_rg3 ?_ ?_); (· walk_at "sm")) | with_reducible refine x_itV ?_ | with_reducible refine x_enum ?_ | with_reducible refine x_zip ?_ | with_reducible refine x_rvd ?_
  | with_reducible refine x_addI ?_ | with_reducible refine x_subI ?_ | with_reducible refine x_ltI ?_ | with_reducible refine x_leI ?_ | with_reducible refine x_gtI ?_ | with_reducible refine x_geI ?_
  | with_reducible refine x_onBl ?_ | with_reducible refine x_onInt ?_ | ((with_reducible refine x_onLst (xs := ?xs) ?e ?k); (case e => walk_at "lk")) | ((with_reducible refine x_onSome (z := ?z) ?e ?k); (case e => first | exact rfl | with_reducible assumption)) | with_reducible refine x_yes ?_ | with_reducible refine x_no ?_ | ((with_reducible refine x_yesE ?_ ?_); (· exact rfl)) | ((with_reducible refine x_noE ?_ ?_); (· exact rfl))
  | with_reducible refine x_abs ?_ | with_reducible refine x_intI ?_ | with_reducible refine x_intB ?_ | with_reducible refine x_min2 ?_ | with_reducible refine x_max2 ?_ | with_reducible refine x_lenT ?_ | with_reducible refine x_lenC ?_ | with_reducible refine x_tupleT ?_ | with_reducible refine x_slT ?_
  | ((with_reducible refine x_mulI ?_ ?_); (· walk_at "ar")) | ((with_reducible refine x_fdivI ?_ ?_); (· walk_at "ar")) | ((with_reducible refine x_modI ?_ ?_); (· walk_at "ar")) | ((with_reducible refine x_powI ?_ ?_); (· walk_at "ar"))
  | ((with_reducible refine x_ixL (xs := ?xs) (v := ?v) ?e ?e2 ?k); (case e => walk_at "lk"); (case e2 => first | exact rfl | with_reducible assumption)) | ((with_reducible refine x_ixT (v := ?v) ?e2 ?k); (case e2 => first | exact rfl | with_reducible assumption)) | ((with_reducible refine x_ixS (v := ?v) ?e2 ?k); (case e2 => with_reducible assumption))
  | ((with_reducible refine x_setI (xs := ?xs) (j := ?j) ?e ?e2 ?k); (case e => walk_at "lk"); (case e2 => first | exact rfl | with_reducible assumption))
  | ((with_reducible refine x_lenL (xs := ?xs) ?e ?k); (case e => walk_at "lk")) | ((with_reducible refine x_tupleL (xs := ?xs) ?e ?k); (case e => walk_at "lk"))
  | ((with_reducible refine x_tyL (xs := ?xs) ?e ?k); (case e => walk_at "lk"))
  | ((with_reducible refine x_append (xs := ?xs) ?e ?l ?k); (case e => walk_at "lk"); (case l => walk_at "sz"))
  | ((with_reducible refine x_eq (r := ?r) ?e ?k); (case e => exact rfl)) | ((with_reducible refine x_ne (r := ?r) ?e ?k); (case e => exact rfl))
  | ((with_reducible refine x_isinst (t := ?t) ?e ?ht ?k); (case e => exact rfl); (case ht => exact rfl))
  | ((with_reducible refine And.intro ?_ ?_); (· first | walk_at "sz" | exact rfl | ((refine isSome_it (xs := ?xs) ?e); (case e => walk_at "lk")) | ((refine isSome_seq (xs := ?xs) ?e); (case e => walk_at "lk")))))
local macro_rules | `(tactic| walk_at "x") => `(tactic| repeat (walk_at "x1"))
local macro_rules | `(tactic| walk_at "sube") => `(tactic| (repeat (first | exact trivial | refine ⟨rfl, ?_⟩)))
local macro_rules | `(tactic| walk_at "x1") => `(tactic| first
  | with_reducible refine x_try ?_ | with_reducible refine x_raise ?_ | with_reducible refine x_attr ?_ | with_reducible refine x_isXN ?_ | ((with_reducible refine x_isXE ?_ ?_); (· exact rfl))
  | ((with_reducible refine x_takes ?_ ?_ ?_); (· exact rfl); (· exact rfl)) | ((with_reducible refine x_passes ?_ ?_ ?_); (· exact rfl); (· exact rfl))
  | ((with_reducible refine x_aStore (v := ?v) ?e ?k); (case e => exact rfl)) | with_reducible refine x_aPass ?_ | with_reducible refine x_aDo ?_ | with_reducible refine x_aNone ?_)
local macro_rules | `(tactic| walk_at "x1") => `(tactic| first
  | with_reducible refine x_aaddI ?_ | with_reducible refine x_asubI ?_ | ((with_reducible refine x_divmodI ?_ ?_); (· first | with_reducible assumption | exact divOk_s (by omega) (by omega))))
local macro_rules | `(tactic| walk_at "li") => `(tactic| first
  | with_reducible exact insAt_put
  | with_reducible assumption
  | ((with_reducible refine insAt_put' ?_ ?_); (· walk_at "ne"); (walk_at "li"))
  | ((with_reducible refine insAt_ticks ?_); (walk_at "li")))
local macro_rules | `(tactic| walk_at "x1") => `(tactic| first
  | with_reducible refine x_fld ?_ | with_reducible refine x_setF ?_ | with_reducible refine x_meth ?_ | with_reducible refine x_make ?_
  | ((with_reducible refine x_onIns (fs := ?fs) ?e ?k); (case e => walk_at "li")))

theorem shwB_30 {h : Hg} {i : Nat} (a : i ≤ 1000000000000000000000000000000) : ShwB h (.int ((i : Nat) : Int)) (.int ((i : Nat) : Int)) 120 0 := by
  have lg : i.log2 ≤ 100 := by
    by_cases z : i = 0
    · rw [z]; simp
    · have := (Nat.log2_lt z (k := 101)).mpr (Nat.lt_of_le_of_lt a (by decide +kernel)); omega
  refine ⟨.int _, rfl, ?_, ?_, ?_, Nat.le_refl _⟩
  · simp only [PyData.intsShort, decide_eq_true_eq]
    have e := int_text_length_le10 (k := 31) (by decide) (show (((i : Nat) : Int)).natAbs < 10 ^ 31 by rw [Int.natAbs_natCast]; exact Nat.lt_of_le_of_lt a (by decide +kernel))
    show (Str.ofString (toString ((i : Nat) : Int))).length ≤ 62
    rw [PySem.ofString_length]
    omega
  · show (if ((i : Nat) : Int) == 0 then 0 else (((i : Nat) : Int)).natAbs.log2 + 1) ≤ 120
    rw [Int.natAbs_natCast]
    split
    · omega
    · omega
  · simp only [PyData.showable, decide_eq_true_eq]
    rw [Int.natAbs_natCast]
    omega

def okS (x : Str) : Prop := ∀ c ∈ TL.tl x, c < 0x110000
theorem okS.ok {x : Str} (h : okS x) : PyData.strOk x = true := by
  unfold PyData.strOk
  rw [← Array.all_toList, List.all_eq_true]
  exact fun c hc => decide_eq_true (h c hc)
theorem mem_joinL {S : List Nat} : ∀ {l : List (List Nat)} {c : Nat}, c ∈ TL.joinL S l → c ∈ S ∨ ∃ p ∈ l, c ∈ p
  | [], c, h => by cases h
  | [p], c, h => .inr ⟨p, List.mem_cons_self, h⟩
  | p :: q :: r, c, h => by
    have h : c ∈ p ++ (S ++ TL.joinL S (q :: r)) := h
    rcases List.mem_append.mp h with h | h
    · exact .inr ⟨p, List.mem_cons_self, h⟩
    · rcases List.mem_append.mp h with h | h
      · exact .inl h
      · rcases mem_joinL h with h | ⟨p', hp, h⟩
        · exact .inl h
        · exact .inr ⟨p', List.mem_cons_of_mem _ hp, h⟩
theorem okS.join {s : Str} {l : List Str} (hs : okS s) (h : ∀ x ∈ l, okS x) : okS (Txt.join s l) := fun c hc => by
  rw [join_is, TL.tl_join] at hc
  rcases mem_joinL hc with hc | ⟨p, hp, hc⟩
  · exact hs c hc
  · obtain ⟨x, hx, rfl⟩ := List.mem_map.mp hp
    exact h x hx c hc
theorem okS_nS (n : Nat) : okS (nS ((n : Nat) : Int)) := fun c hc => by
  unfold nS at hc
  rw [TL.tl_num] at hc
  by_cases z : c < 48 ∨ 57 < c
  · exact absurd hc (TL.numL_free z)
  · omega
theorem okS_lit {x : Str} (h : ((TL.tl x).all fun c => decide (c < 0x110000)) = true) : okS x := fun c hc => of_decide_eq_true (List.all_eq_true.mp h c hc)
theorem okS_joinS (l : List Nat) : okS (joinS l) := by
  unfold joinS
  split
  · exact okS_lit (by decide +kernel)
  · exact okS.join (okS_lit (by decide +kernel)) fun x hx => by
      obtain ⟨n, _, rfl⟩ := List.mem_map.mp hx
      exact okS_nS n
theorem okS_cell (c : Option Nat) : okS (cellS c) := by
  cases c with
  | none => exact okS_lit (by decide +kernel)
  | some n => exact okS_nS n
theorem okS_line (r : Row) (n : Nat) : okS (lineS r n) := by
  cases r with
  | none =>
    show okS ("free" : Str)
    exact okS_lit (by decide +kernel)
  | some l =>
    exact okS.join (okS_lit (by decide +kernel)) fun x hx => by
      rcases List.mem_cons.mp hx with rfl | hx
      · exact okS_nS n
      · obtain ⟨c, _, rfl⟩ := List.mem_map.mp hx
        exact okS_cell c
theorem okS_heap (rows : List Row) (hs : List Nat) : okS (heapS rows hs) := okS.join (okS_lit (by decide +kernel)) fun x hx => by
  obtain ⟨i, _, rfl⟩ := List.mem_map.mp hx
  exact okS_line _ _
theorem okS_tree (t : List (List Nat)) : okS (treeS t) := okS.join (okS_lit (by decide +kernel)) fun x hx => by
  obtain ⟨r, _, rfl⟩ := List.mem_map.mp hx
  exact okS_joinS r
theorem shaped_strs (ys : List Str) (h : ∀ y ∈ ys, okS y) : SeqAt.shaped (.list (ys.map PyData.str)) = true := by
  have h1 : ∀ ys : List Str, (∀ y ∈ ys, okS y) → PyData.canLayAll0 (ys.map PyData.str) = true := fun ys h => by
    induction ys with
    | nil => rfl
    | cons y ys ih => rw [List.map_cons]; simp only [PyData.canLayAll0, PyData.canLay0, ih fun z hz => h z (List.mem_cons_of_mem _ hz), (h y List.mem_cons_self).ok, Bool.and_self]
  have h2 : ∀ ys : List Str, PyData.depthAll (ys.map PyData.str) = 0 := fun ys => by
    induction ys with
    | nil => rfl
    | cons y ys ih => rw [List.map_cons]; simp only [PyData.depthAll, PyData.depth, ih, Nat.max_self]
  unfold SeqAt.shaped
  rw [Bool.and_eq_true]
  refine ⟨by simp only [PyData.canLay0]; exact h1 ys h, decide_eq_true ?_⟩
  simp only [PyData.depth, h2]
  omega
theorem datL_strs {h : Hg} : ∀ ys : List Str, DatL h (ys.map Val.str) (ys.map PyData.str)
  | [] => .nil
  | y :: ys => .cons (.str y) (datL_strs ys)
theorem eqv_strs : ∀ ys : List Str, PyData.eqv (.list (ys.map PyData.str)) (.list (ys.map PyData.str)) = true
  | [] => rfl
  | y :: ys => by
    have ih := eqv_strs ys
    show (PyData.eqv (.str y) (.str y) && PyData.eqvAll (ys.map PyData.str) (ys.map PyData.str)) = true
    rw [show PyData.eqvAll (ys.map PyData.str) (ys.map PyData.str) = true from ih, Bool.and_true]
    show (y == y) = true
    exact beq_self_eq_true y
theorem x_neStrs {h : Hg} {Q : KV} {a b : Addr} {ys : List Str} (e : lstAt h a = some (ys.map Val.str)) (e2 : lstAt h b = some (ys.map Val.str)) (ok : ∀ y ∈ ys, okS y) (k : Q (.bl false) h) : oNe (.ref a) (.ref b) h Q := by
  unfold oNe EqD
  refine ⟨.list (ys.map PyData.str), .list (ys.map PyData.str), .lst (lstAt_eq e) (datL_strs ys), .lst (lstAt_eq e2) (datL_strs ys), shaped_strs ys ok, shaped_strs ys ok, ?_⟩
  rw [eqv_strs]
  exact k
theorem x__law_right {rows : List Row} {hs : List Nat} {t : List (List Nat)} {l : List Nat} {v : Val} {h : Hg} {Q : KV} {E : KX} (d : HD rows hs) (dt : TD t) (s : SeqN h v l) (ll : l.length ≤ 40) (b : ∀ n ∈ l, n < 10 ^ 30) (k : Q (.bl true) h) : sp__law_right (perm [0, 1, 2] [heapV rows hs, treeN t, v]) h Q E := ⟨rows, hs, t, l, d, rfl, dt, rfl, s, ll, b, k⟩
theorem shwBL_all {h : Hg} {k j : Nat} : ∀ {vs : List Val}, (∀ v ∈ vs, ∃ d, ShwB h v d k j) → ∃ ds, ShwBL h vs ds (vs.length * (k + 1)) j
  | [], _ => ⟨[], ShwBL.nil.le (Nat.zero_le _) (Nat.zero_le _)⟩
  | v :: r, a => by
    obtain ⟨d, x⟩ := a v List.mem_cons_self
    obtain ⟨ds, y⟩ := shwBL_all (vs := r) fun u hu => a u (List.mem_cons_of_mem _ hu)
    refine ⟨d :: ds, (ShwBL.cons x y).le ?_ (Nat.le_refl _)⟩
    rw [List.length_cons, Nat.succ_mul]
    omega
/-- the three can be shown -/
theorem three_shown {rows : List Row} {hs : List Nat} {t : List (List Nat)} {l : List Nat} {v : Val} {h : Hg} (d : HD rows hs) (dt : TD t) (s : SeqN h v l) (ll : l.length ≤ 40) (b : ∀ n ∈ l, n < 10 ^ 30) : ∃ dd, ShwB h (.tup [heapV rows hs, treeN t, v]) dd 262000 10 := by
  have num : ∀ n : Nat, n < 1000 → ∃ d, ShwB h (.int ((n : Nat) : Int)) d 40 0 := fun n hn => ⟨_, (Shw.int (by omega)).big⟩
  have cell : ∀ c : Option Nat, (∀ n, c = some n → n < 1000) → ∃ d, ShwB h (cellV c) d 40 0 := fun c hc => by
    cases c with
    | none => exact ⟨_, (Shw.non.le (by omega) (Nat.le_refl _)).big⟩
    | some n => exact num n (hc n rfl)
  have row : ∀ r : Row, (∀ l, r = some l → l.length ≤ 40 ∧ ∀ c, some c ∈ l → c < 1000) → ∃ d, ShwB h (rowV r) d 1640 1 := fun r hr => by
    cases r with
    | none => exact ⟨_, (Shw.non.le (by omega) (by omega)).big⟩
    | some l =>
      obtain ⟨a1, a2⟩ := hr l rfl
      obtain ⟨ds, x⟩ := shwBL_all (h := h) (k := 40) (j := 0) (vs := l.map cellV) fun u hu => by
        obtain ⟨c, hc, rfl⟩ := List.mem_map.mp hu
        exact cell c fun n e => a2 n (e ▸ hc)
      exact ⟨_, (ShwB.tup x).le (by rw [List.length_map]; omega) (Nat.le_refl _)⟩
  obtain ⟨d1, x1⟩ := shwBL_all (h := h) (k := 1640) (j := 1) (vs := rows.map rowV) fun u hu => by
    obtain ⟨r, hr, rfl⟩ := List.mem_map.mp hu
    exact row r fun l e => d.row l (e ▸ hr)
  obtain ⟨d2, x2⟩ := shwBL_all (h := h) (k := 40) (j := 0) (vs := hs.map fun n : Nat => Val.int ((n : Nat) : Int)) fun u hu => by
    obtain ⟨n, hn, rfl⟩ := List.mem_map.mp hu
    exact num n (d.hand n hn)
  obtain ⟨d3, x3⟩ := shwBL_all (h := h) (k := 1640) (j := 1) (vs := t.map fun r => Val.tup (natsL r)) fun u hu => by
    obtain ⟨r, hr, rfl⟩ := List.mem_map.mp hu
    obtain ⟨a1, a2⟩ := dt.row r hr
    obtain ⟨ds, y⟩ := shwBL_all (h := h) (k := 40) (j := 0) (vs := natsL r) fun u hu => by
      obtain ⟨n, hn, rfl⟩ := List.mem_map.mp hu
      exact num n (a2 n hn)
    exact ⟨_, (ShwB.tup y).le (by rw [natsL_len]; omega) (Nat.le_refl _)⟩
  obtain ⟨d4, x4⟩ := shwBL_all (h := h) (k := 120) (j := 0) (vs := natsL l) fun u hu => by
    obtain ⟨n, hn, rfl⟩ := List.mem_map.mp hu
    exact ⟨_, shwB_30 (Nat.le_of_lt (Nat.lt_of_lt_of_le (b n hn) (by decide +kernel)))⟩
  have few := d.few
  have len := d.len
  have tf := dt.few
  have y1 : ShwB h (heapV rows hs) _ 70000 3 := (ShwB.tup (ShwBL.cons ((ShwB.tup x1).le (Nat.le_refl _) (Nat.le_refl _)) (ShwBL.cons ((ShwB.tup x2).le (Nat.le_refl _) (show _ ≤ 2 by omega)) (ShwBL.nil.le (Nat.le_refl _) (Nat.zero_le _))))).le (by rw [List.length_map, List.length_map]; omega) (Nat.le_refl _)
  have y3 : ShwB h (treeN t) _ 66000 3 := (ShwB.tup x3).le (by rw [List.length_map]; omega) (by omega)
  have y4 : ∃ d, ShwB h v d 5000 3 := by
    rcases s with rfl | ⟨a, rfl, e⟩
    · exact ⟨_, (ShwB.tup x4).le (by rw [natsL_len]; omega) (by omega)⟩
    · exact ⟨_, (ShwB.lst e x4).le (by rw [natsL_len]; omega) (by omega)⟩
  obtain ⟨d5, y4⟩ := y4
  exact ⟨_, (ShwB.tup (ShwBL.cons y1 (ShwBL.cons y3 (ShwBL.cons y4 (ShwBL.nil.le (Nat.le_refl _) (Nat.zero_le _)))))).le (by omega) (by omega)⟩
theorem l__law_right (args : List Val) (h : Hg) (Q : KV) (E : KX) (hs : sp__law_right args h Q E) : Entry h (W__law_right (dOf Q E) (startG N__law_right args)) := by
  unfold sp__law_right at hs
  split at hs
  · rename_i hv tv v
    obtain ⟨rows, hs, t, l, d, rfl, dt, rfl, sq, ll, lb, hq⟩ := hs
    obtain ⟨dd, sh⟩ := three_shown d dt sq ll lb
    refine Entry.self ?_
    unfold W__law_right dOf startG
    walk_at "x"
    refine x_reprB sh (by omega) (by omega) ?_
    walk_at "x"
    refine x__law_heap_text d ?_
    walk_at "x"
    refine x__law_tree_text dt ?_
    walk_at "x"
    refine x__law_numbers_text sq ll lb ?_
    walk_at "x"
    intro A nA
    have ok3 : ∀ y ∈ [heapS rows hs, treeS t, joinS l], okS y := fun y hy => by
      simp only [List.mem_cons, List.not_mem_nil, or_false] at hy
      rcases hy with rfl | rfl | rfl
      · exact okS_heap _ _
      · exact okS_tree _
      · exact okS_joinS _
    have sA := (Sub.refl h).over (.lst ([heapS rows hs, treeS t, joinS l].map Val.str)) nA
    have eA : lstAt (put h A (.lst ([heapS rows hs, treeS t, joinS l].map Val.str))) A = some ([heapS rows hs, treeS t, joinS l].map Val.str) := lstAt_put
    have sq1 := sq.put (o := .lst ([heapS rows hs, treeS t, joinS l].map Val.str)) nA
    change wSq _ _ _ _ (put h A (.lst ([heapS rows hs, treeS t, joinS l].map Val.str)))
    generalize put h A (.lst ([heapS rows hs, treeS t, joinS l].map Val.str)) = H at *
    walk_at "x"
    refine x_format_heap d ?_
    walk_at "x"
    refine x_format_tree dt ?_
    walk_at "x"
    refine x_format_log sq1 ll lb ?_
    walk_at "x"
    intro C nC
    have sC := sA.over (.lst ([heapS rows hs, treeS t, joinS l].map Val.str)) (sA.noneOf nC)
    have eA2 := lstAt_put' (o := .lst ([heapS rows hs, treeS t, joinS l].map Val.str)) (ne_noneA nC eA).symm eA
    have eC : lstAt (put H C (.lst ([heapS rows hs, treeS t, joinS l].map Val.str))) C = some ([heapS rows hs, treeS t, joinS l].map Val.str) := lstAt_put
    have sq2 := sq1.put (o := .lst ([heapS rows hs, treeS t, joinS l].map Val.str)) nC
    change wVar 4 _ (put H C (.lst ([heapS rows hs, treeS t, joinS l].map Val.str))) _ _
    generalize put H C (.lst ([heapS rows hs, treeS t, joinS l].map Val.str)) = H at *
    walk_at "x"
    refine x_neStrs eC eA2 ok3 ?_
    walk_at "x"
    refine x_format_heap d ?_
    walk_at "x"
    refine x_format_tree dt ?_
    walk_at "x"
    refine x_format_log sq2 ll lb ?_
    walk_at "x"
    intro D nD
    have sD := sC.over (.lst ([heapS rows hs, treeS t, joinS l].map Val.str)) (sC.noneOf nD)
    have eA3 := lstAt_put' (o := .lst ([heapS rows hs, treeS t, joinS l].map Val.str)) (ne_noneA nD eA2).symm eA2
    have eD : lstAt (put H D (.lst ([heapS rows hs, treeS t, joinS l].map Val.str))) D = some ([heapS rows hs, treeS t, joinS l].map Val.str) := lstAt_put
    have sh3 : ShwB (put H D (.lst ([heapS rows hs, treeS t, joinS l].map Val.str))) (.tup [heapV rows hs, treeN t, v]) dd 262000 10 := sh.lsub sD.lsub
    change wVar 4 _ (put H D (.lst ([heapS rows hs, treeS t, joinS l].map Val.str))) _ _
    generalize put H D (.lst ([heapS rows hs, treeS t, joinS l].map Val.str)) = H at *
    walk_at "x"
    refine x_neStrs eD eA3 ok3 ?_
    walk_at "x"
    refine x_reprB sh3 (by omega) (by omega) ?_
    walk_at "x"
    rw [decide_eq_true rfl]
    exact cloH_mk sD hq
  · exact hs.elim

theorem l__law_pen (args : List Val) (h : Hg) (Q : KV) (E : KX) (hs : sp__law_pen args h Q E) : Entry h (W__law_pen (dOf Q E) (startG N__law_pen args)) := by
  unfold sp__law_pen spPen at hs
  split at hs
  · rename_i ns
    obtain ⟨hl, hq⟩ := hs
    refine Entry.self ?_
    unfold W__law_pen dOf startG
    walk_at "x"
    intro q1 n1
    walk_at "x"
    intro q2 n2
    walk_at "x"
    intro p n3
    obtain ⟨ms, em, lm⟩ := cutG_ints ns none (some 63)
    simp only [put_none] at n2 n3
    obtain ⟨n31, n32, n33⟩ := n3
    refine x_penAt (c := q2) (ns := ms) lstAt_put ?_ (Ne.symm n31) (by omega) (by omega) ?_
    · rw [← em]; walk_at "lk"
    refine ⟨_, ?_, hq p n33⟩
    intro a o e
    by_cases z : a = p
    · subst z; rw [put_same] at e; cases e; exact ⟨_, put_same, .refl _⟩
    · rw [put_ne z] at e
      rw [put_ne z, erase_get (ne_none e n2.2), put_ne z, put_ne (ne_none e n2.2), put_ne (ne_none e n1)]
      exact ⟨o, e, .refl o⟩
  · exact hs.elim

theorem l__law_draw (args : List Val) (h : Hg) (Q : KV) (E : KX) (hs : sp__law_draw args h Q E) : Entry h (W__law_draw (dOf Q E) (startG N__law_draw args)) := by
  unfold sp__law_draw spDrawB at hs
  split at hs
  · rename_i p b
    obtain ⟨⟨n, ep, hn⟩, ⟨b0, b1⟩, hq⟩ := hs
    have dv : DivOk b := divOk_30 b0 b1
    refine Entry.pen ep fun ns t w hl t0 t1 w0 => ?_
    have opn : Sub h (put h p (.lst [.scr ns, .int t, .int w])) := Sub.opened ep ⟨ns, t, w, rfl, hl, t0, t1, w0⟩
    have fin : ∀ {A : Hg} (t' w' d : Int), Sub h A → 0 ≤ t' → t' ≤ t + 1 → 0 ≤ w' → 0 ≤ d → d < b → CloH (Q (.int d)) (put A p (.lst [.scr ns, .int t', .int w'])) := fun t' w' d s a0 a1 b0 d0 d1 =>
      ⟨ticks 1 h, Sub.drawn' s ep ⟨ns, t', w', rfl, hl, a0, by omega, b0⟩, hq d d0 d1⟩
    unfold W__law_draw dOf startG
    walk_at "x"
    refine x_dec (fun hw => ?_) (fun hw => ?_)
    · walk_at "x"
      exact fin t (w / b) _ opn t0 (by omega) (Int.ediv_nonneg w0 (by omega)) (Int.emod_nonneg _ (by omega)) (Int.emod_lt_of_pos _ b0)
    · walk_at "x"
      have ok2 : PenOk (n - 1) [.scr ns, .int (t + 1), .int w] := ⟨ns, t + 1, w, rfl, hl, by omega, by omega, w0⟩
      simp only [put_put]
      have mid : ∀ {e : Env'} {A : Hg} (c : Int), subEb [some (.ref p), some (.int b), none, some (.int t), some (.int c), none, none] e → Sub (put h p (.lst [.scr ns, .int (t + 1), .int w])) A → Clo (fun e' h' => ∃ c : Int, e' = [some (.ref p), some (.int b), none, some (.int t), some (.int c), none, none] ∧ h' = put h p (.lst [.scr ns, .int (t + 1), .int w])) e A := fun c s u => clo_mk s u ⟨c, rfl, rfl⟩
      refine x_cut (fun e' h' => ∃ c : Int, e' = [some (.ref p), some (.int b), none, some (.int t), some (.int c), none, none] ∧ h' = put h p (.lst [.scr ns, .int (t + 1), .int w])) ?_ ?_
      · walk_at "x"
        intro q nq
        have nqp : q ≠ p := (put_none.mp nq).1
        refine x_neC (by walk_at "lk") ?_
        walk_at "x"
        refine x_bool (fun hb => ?_) (fun hb => ?_)
        · obtain ⟨c, hc⟩ := cell_at (ns := ns) (t := t) (by simpa using hb) t0
          have hlen : (0 : Int) < ns.length := by
            cases ns with
            | nil => cases hb
            | cons a r => simp only [List.length_cons]; omega
          walk_at "x"
          exact mid c (by walk_at "sube") (Sub.over (.refl _) _ nq)
        · walk_at "x"
          exact mid (53003 * t + 61) (by walk_at "sube") (Sub.over (.refl _) _ nq)
      · rintro e' h' ⟨c, rfl, rfl⟩
        refine x_cut (fun e' h' => ∃ c : Int, e' = [some (.ref p), some (.int b), none, some (.int t), some (.int c), none, none] ∧ h' = put h p (.lst [.scr ns, .int (t + 1), .int w])) ?_ ?_
        · walk_at "x"
          refine x_dec (fun hw => ?_) (fun hw => ?_)
          · walk_at "x"
            refine x_dec (fun hc => ?_) (fun hc => ?_)
            · rw [show (10 : Int) ^ Int.toNat 18 = 1000000000000000000 from rfl] at hc
              have b2 := bit_bound (decide (c < 0))
              have b3 := abs_nn c
              walk_at "x"
              generalize (if c < 0 then -c else c) = ac at *
              generalize (if decide (c < 0) = true then (1 : Int) else 0) = bt at *
              rw [put_put]
              try simp only [show (10 : Int) ^ Int.toNat 18 = 1000000000000000000 from rfl]
              refine fin (t + 1) _ _ (.refl _) (by omega) (by omega) ?_ ?_ ?_
              · exact Int.ediv_nonneg (by omega) (by omega)
              · exact Int.emod_nonneg _ (by omega)
              · exact Int.emod_lt_of_pos _ b0
            · walk_at "x"
              exact mid c (by walk_at "sube") (.refl _)
          · walk_at "x"
            exact mid c (by walk_at "sube") (.refl _)
        · rintro e' h' ⟨c, rfl, rfl⟩
          have bs0 := sq_bound (c := 6007) (by omega) (by omega) t0 (by omega)
          repeat (first | ((with_reducible refine x_modA ?_ ?_); (· walk_at "ar"); intro _ _ _) | walk_at "x1")
          rename_i m m0 m1
          have bm := mul_bound m0 (by omega) (show 0 ≤ 2 * t + 17 by omega) (by omega)
          repeat (first | ((with_reducible refine x_modA ?_ ?_); (· walk_at "ar"); intro _ _ _) | walk_at "x1")
          exact fin (t + 1) _ _ (.refl _) (by omega) (by omega) w0 (by assumption) (by assumption)
  · exact hs.elim


theorem HD.of {rows : List Row} {hs : List Nat} (ok : HeapOk rows hs) : HD rows hs where
  len := ok.len
  few := ok.few
  hand := fun n hn => by have := ok.hand n hn; omega
  row := fun r hr => by
    obtain ⟨a, b⟩ := ok.row r hr
    refine ⟨a, fun n hn => ?_⟩
    obtain ⟨_, e⟩ := b n hn
    have := (List.getElem?_eq_some_iff.mp e).1
    have := ok.few
    omega
def fixR : List Row := List.replicate 40 (some ((List.range 40).map some))
def fixH : List Nat := List.replicate 40 9
theorem fix_ok : HD fixR fixH where
  len := by decide
  few := by decide
  hand := by decide
  row := fun r hr => by
    have := (List.mem_replicate.mp hr).2
    cases this
    refine ⟨by decide, fun n hn => ?_⟩
    obtain ⟨k, hk, e⟩ := List.mem_map.mp hn
    cases e
    have := List.mem_range.mp hk
    omega
theorem flat_oneS {α : Type} {x : α} {n : Nat} : (List.replicate n [x]).flatten = List.replicate n x := by
  induction n with
  | zero => rfl
  | succ n ih => rw [List.replicate_succ, List.flatten_cons, ih, List.replicate_succ]; rfl
theorem fixV : (Val.tup [.tup (List.replicate 40 [Val.tup (rgVals 0 40)]).flatten, .tup (List.replicate 40 [Val.int 9]).flatten]) = heapV fixR fixH := by
  rw [flat_oneS, flat_oneS]
  unfold heapV fixR fixH
  rw [List.map_replicate, List.map_replicate]
  have : Val.tup (rgVals 0 40) = rowV (some ((List.range 40).map some)) := by
    rw [show rowV (some ((List.range 40).map some)) = .tup (((List.range 40).map some).map cellV) from rfl, List.map_map]
    unfold rgVals
    refine congrArg Val.tup ?_
    refine List.map_congr_left fun i _ => ?_
    show Val.int (0 + ((i : Nat) : Int)) = Val.int ((i : Nat) : Int)
    rw [Int.zero_add]
  rw [this]
  rfl
theorem x__law_pen {n : Nat} {h : Hg} {Q : KV} {E : KX} {ns : List Int} (hl : ns.length ≤ 63) (k : ∀ p, h p = none → Q (.ref p) (put h p (.pen n))) : spPen n (perm [0] [.scr ns]) h Q E := ⟨hl, k⟩
theorem sub_none {h H : Hg} (he : ∀ a, h a = none) : Sub h H := fun a o e => by rw [he a] at e; cases e
theorem l_law (args : List Val) (h : Hg) (Q : KV) (E : KX) (hs : sp_law args h Q E) : Entry h (W_law (dOf Q E) (startG N_law args)) := by
  unfold sp_law at hs
  split at hs
  · rename_i ns
    obtain ⟨hl, he, hq⟩ := hs
    refine Entry.self ?_
    unfold W_law dOf startG
    walk_at "x"
    refine x__law_pen hl ?_
    intro p np
    walk_at "x"
    have hp0 : HasPen (put h p (.pen 100000)) p 100000 := ⟨100000, put_same, Nat.le_refl _⟩
    generalize put h p (.pen 100000) = H0 at *
    refine for_by (fun i => [Val.int 12, .int 40][i]?) 2 (fun i e H => ∃ y2 y3 y4 y5 y6 y7, i ≤ 2 ∧ e = [some (.scr ns), some (.ref p), y2, y3, y4, y5, y6, y7] ∧ HasPen H p (100000 - 1600 * i)) (fun i e H _ => sqV_tup) (fun i a e => (List.getElem?_eq_some_iff.mp e).1) (clo_mk (subEb_refl _) (.refl _) ⟨none, none, none, none, none, none, by omega, rfl, hp0⟩) ?_ ?_
    · rintro i a e H ei ⟨y2, y3, y4, y5, y6, y7, hi, rfl, hp⟩
      have hi : i < 2 := (List.getElem?_eq_some_iff.mp ei).1
      obtain ⟨m, hm, rfl⟩ : ∃ m : Nat, (1 ≤ m ∧ m ≤ 40) ∧ a = .int ((m : Nat) : Int) := by
        have : i = 0 ∨ i = 1 := by omega
        rcases this with rfl | rfl
        · exact ⟨12, by omega, (Option.some.inj ei).symm⟩
        · exact ⟨40, by omega, (Option.some.inj ei).symm⟩
      obtain ⟨M, hM⟩ : ∃ M, 100000 - 1600 * i = M + 400 + 1200 ∧ 100000 - 1600 * (i + 1) = M := ⟨100000 - 1600 * (i + 1), by omega, rfl⟩
      rw [hM.1] at hp
      walk_at "x"
      refine x__law_heap hm hp ?_
      intro rows hs j ok l h1
      have dd := HD.of ok
      have hp2 : HasPen (ticks 1200 H) p (M + 200 + 200) := HasPen.ticks hp
      generalize ticks 1200 H = H at *
      clear hp
      walk_at "x"
      refine x__law_children hm hp2 ?_
      intro t dt
      have hp3 : HasPen (ticks 200 H) p (M + 200) := HasPen.ticks hp2
      generalize ticks 200 H = H at *
      clear hp2
      walk_at "x"
      intro c c0 c1
      walk_at "x"
      obtain ⟨n, rfl⟩ : ∃ n : Nat, c = ((n : Nat) : Int) := ⟨c.toNat, by omega⟩
      intro q nq
      refine lc_by (itR 0 1 n) n (fun i acc h' => ∃ l : List Nat, i ≤ n ∧ acc = natsL l ∧ l.length = i ∧ (∀ n ∈ l, n < 10 ^ 30) ∧ HasPen h' p (M + 199 - 2 * i)) (fun i acc h' _ _ => by rw [Int.toNat_natCast]; exact sqR_it) (fun i a e => itR_lt e) nq ⟨[], Nat.zero_le _, rfl, rfl, fun n h => (by cases h), hp3.ticks (j := 1) (k := M + 199)⟩ ?_ ?_
      · rintro i y acc h1 ei ⟨l, hi, rfl, ll, hb, hp⟩ nq Nx hN
        obtain ⟨hi2, rfl⟩ := itR_some ei
        walk_at "x"
        intro r nr
        obtain ⟨rq, nr'⟩ := put_none.mp nr
        have hp2 : HasPen (put (put h1 q (.lst (natsL l))) r (.lst [Val.int 10, Val.int 41, Val.int (10 ^ Int.toNat 30)])) p (M + 199 - 2 * (i + 1) + 1 + 1) := ((hp.put (hp.ne nq)).put (hp.ne nr')).le (by omega)
        have eq2 : (put (put h1 q (.lst (natsL l))) r (.lst [Val.int 10, Val.int 41, Val.int (10 ^ Int.toNat 30)])) q = some (.lst (natsL l)) := by rw [put_ne rq.symm, put_same]
        have er2 : lstAt (put (put h1 q (.lst (natsL l))) r (.lst [Val.int 10, Val.int 41, Val.int (10 ^ Int.toNat 30)])) r = some [Val.int 10, Val.int 41, Val.int (10 ^ Int.toNat 30)] := lstAt_put
        refine x_call ?_
        walk_at "x"
        intro d d0 d1
        obtain ⟨b, hb0, hb1⟩ : ∃ b : Int, (0 < b ∧ b ≤ 1000000000000000000000000000000) ∧ atI [Val.int 10, Val.int 41, Val.int (10 ^ Int.toNat 30)] d = some (.int b) := by
          obtain rfl | rfl | rfl : d = 0 ∨ d = 1 ∨ d = 2 := by omega
          · exact ⟨10, by omega, rfl⟩
          · exact ⟨41, by omega, rfl⟩
          · exact ⟨1000000000000000000000000000000, by omega, congrArg (fun z => some (Val.int z)) (show (10 : Int) ^ Int.toNat 30 = 1000000000000000000000000000000 by decide +kernel)⟩
        refine x_ixL (xs := [Val.int 10, Val.int 41, Val.int (10 ^ Int.toNat 30)]) lstAt_put hb1 ?_
        walk_at "x"
        have hp6 : HasPen (ticks 1 h1) p (M + 199 - 2 * (i + 1) + 1) := HasPen.ticks (hp.le (by omega))
        refine x_drawB (h2 := ?h2) (((hp6.put (hp6.ne (ticks_none' nq 1))).put (hp6.ne (ticks_none' nr' 1))).le (by omega)) hb0 ?e ?k
        case e => walk_at "tk"
        intro c2 c20 c21
        refine x_onLst (xs := natsL l) (by walk_at "lk") ⟨by rw [natsL_len, sizeLine_eq]; omega, ?_⟩
        refine hN (natsL (l ++ [c2.toNat])) (put (ticks (1 + 1) h1) r (.lst [Val.int 10, Val.int 41, Val.int (10 ^ Int.toNat 30)])) _ ⟨l ++ [c2.toNat], by omega, rfl, by rw [List.length_append, ll]; rfl, fun n hn => ?_, ?_⟩ (put_none.mpr ⟨rq.symm, ticks_none' nq _⟩) ?_
        · rcases List.mem_append.mp hn with hn | hn
          · exact hb n hn
          · rw [List.mem_singleton.mp hn]
            have : (10 : Nat) ^ 30 = 1000000000000000000000000000000 := by decide +kernel
            omega
        · exact ((HasPen.ticks (j := 1 + 1) (hp.le (j := M + 199 - 2 * (i + 1) + (1 + 1)) (by omega))).put (hp.ne nr'))
        · have el : natsL l ++ [Val.int c2] = natsL (l ++ [c2.toNat]) := by
            unfold natsL
            rw [List.map_append]
            congr 1
            show [Val.int c2] = [Val.int ((c2.toNat : Nat) : Int)]
            rw [show ((c2.toNat : Nat) : Int) = c2 by omega]
          rw [el, put_comm (h := ticks (1 + 1) h1) rq.symm, put_put]
          exact .refl _
      · rintro i acc h1 ei ⟨l, hi, rfl, ll, hb, hp⟩ nq
        have hin : i = n := by have := itR_none ei; omega
        subst hin
        have eq3 : lstAt (put h1 q (.lst (natsL l))) q = some (natsL l) := lstAt_put
        have hp := (hp.put (o := .lst (natsL l)) (hp.ne nq)).le (j := M + 1) (by omega)
        generalize put h1 q (.lst (natsL l)) = H at *
        walk_at "x"
        intro d d0 d1
        have eq4 : lstAt (ticks 1 H) q = some (natsL l) := lstAt_ticks' eq3
        have hp5 : HasPen (ticks 1 H) p M := hp.ticks
        generalize ticks 1 H = H at *
        walk_at "x"
        refine x_dec (fun hd => ?_) (fun hd => ?_)
        · walk_at "x"
          refine x__law_right dd dt (.inl rfl) (by omega) hb ?_
          walk_at "x"
          exact clo_mk (subEb_refl _) (.refl _) ⟨_, _, _, _, _, _, by omega, rfl, by rw [hM.2]; exact hp5⟩
        · walk_at "x"
          refine x__law_right dd dt (.inr ⟨q, rfl, eq4⟩) (by omega) hb ?_
          walk_at "x"
          exact clo_mk (subEb_refl _) (.refl _) ⟨_, _, _, _, _, _, by omega, rfl, by rw [hM.2]; exact hp5⟩
    · rintro i e H ei ⟨y2, y3, y4, y5, y6, y7, hi, rfl, hp⟩
      walk_at "x"
      refine x_trg1 ?_
      walk_at "x"
      refine ⟨(by rw [RgOk]; omega : RgOk 0 40), ?_⟩
      walk_at "x"
      have ln : [Val.tup (rgVals 0 40)].length ≤ 1000 := by decide
      refine x_mulT (a := 40) ⟨by omega, by omega, ln⟩ ?_
      walk_at "x"
      have ln2 : [Val.int 9].length ≤ 1000 := by decide
      refine x_mulT (a := 40) ⟨by omega, by omega, ln2⟩ ?_
      walk_at "x"
      rw [show (Val.tup [.tup (List.replicate (Int.toNat 40) [Val.tup (rgVals 0 40)]).flatten, .tup (List.replicate (Int.toNat 40) [Val.int 9]).flatten]) = heapV fixR fixH from fixV]
      walk_at "x"
      intro q nq
      walk_at "x"
      refine x__law_right (t := [[]]) (l := []) fix_ok ⟨by decide, by decide⟩ (.inr ⟨q, rfl, lstAt_put⟩) (by decide) (by decide) ?_
      walk_at "x"
      refine x__law_right (rows := []) (hs := []) (t := [[1], []]) (l := [0]) ⟨rfl, by decide, by decide, fun r hr => (by cases hr)⟩ ⟨by decide, by decide⟩ (.inl rfl) (by decide) (by decide +kernel) ?_
      walk_at "x"
      refine x__law_right (rows := [none]) (hs := [0]) (t := [[]]) (l := []) ⟨rfl, by decide, by decide, fun r hr => ?_⟩ ⟨by decide, by decide⟩ (.inl rfl) (by decide) (by decide) ?_
      · have := List.mem_singleton.mp hr; cases this
      walk_at "x"
      exact cloH_mk (sub_none he) hq
  · exact hs.elim

end G

set_option Elab.async false
set_option linter.all false
set_option maxRecDepth 100000
set_option maxHeartbeats 4000000
namespace G
open PySem PySem.Spec L2
open PyProof.Rows hiding St
theorem sw_cell {X : Cx} {N : List Str} {sc ow : Scope} {elt : Expr} {gs : List Comprehension} {s : Scope} {p1 p2 : Pos} {x : Str} {ln : Nat} (C : Cn X N sc ow) (hx : (sc.names.lookup x == some .local) = false := by decide +kernel) : swapsWith (.ListComp elt gs s p1) (some (.Name x p2)) ln X.env = pure false := by
  have hk : (X.env.kindOf x == some .local) = false := by unfold Env.kindOf; rw [C.hs]; exact hx
  unfold swapsWith
  simp only [hk, Bool.and_false, Bool.false_and]
theorem ss_const {ts vs : List Expr} {c d : Nat} {p q : Pos} {env : Env} (h : vs.all (foldedForSure 8) = true) : swappedStores [.Tuple ts c p] (.Tuple vs d q) env = pure none := by
  unfold swappedStores
  simp only [h]
  repeat (split; · rfl)
  rename_i hn
  exact absurd trivial hn
/-! ### the program's defs -/
def topS (i : Nat) : Stmt := PySem.Challenge.pw_slotfall_k81_texts_written.main.body.getD i (.Pass ⟨0, 0, 0, 0⟩)
section
variable {P : Program} {w : World} {K : PySem.W.Frag} {mg : Str → Option Value} {base : Heap}
theorem S_joined : FnScope N_joined ["numbers"] (L2.defScope (topS 1)) := ⟨rfl, rfl, rfl, by decide +kernel, rfl, by decide +kernel, by decide +kernel⟩
theorem gs_joined (m_str : mg "str" = none) : ∀ X : Cx, Cn X N_joined (L2.defScope (topS 1)) (L2.defScope (topS 1)) → Fx P w K mg base 0 X → GSs X (L2.defBody (topS 1)) W_joined := by
  intro X C F
  obtain ⟨rfl, rfl, rfl, rfl, rfl, hr, fr⟩ := F
  exact (gss_one (gs_ret (ge_or (ge_m PySem.F.plainAttrs_str PySem.F.slot_str_join PySem.F.type_str_join sJoin ge_str (ga_cons (ge_lc C [("number", 1)] (gi_seq (ge_var C 0)) (fun _ _ _ _ _ C1 => (gc_name C1 1)) (fun _ _ _ _ _ C1 => gts_nil) (fun _ _ _ _ _ C1 => (ge_callT C1 cStr m_str (ga_cons (ge_var C1 1) ga_nil)))) ga_nil)) (ge_one ge_str))))
theorem len_joined (args : List Val) (h : Hg) (Q : KV) (E : KX) (hs : sp_joined args h Q E) : args.length = 1 := by
  first
    | (unfold sp_joined at hs; split at hs <;> first | rfl | exact hs.elim)
    | (unfold sp_joined spPen at hs; split at hs <;> first | rfl | exact hs.elim)
    | (unfold sp_joined spDrawB at hs; split at hs <;> first | rfl | exact hs.elim)
theorem S_line_of : FnScope N_line_of ["row", "references"] (L2.defScope (topS 2)) := ⟨rfl, rfl, rfl, by decide +kernel, rfl, by decide +kernel, by decide +kernel⟩
theorem gs_line_of (m_str : mg "str" = none) : ∀ X : Cx, Cn X N_line_of (L2.defScope (topS 2)) (L2.defScope (topS 2)) → Fx P w K mg base 0 X → GSs X (L2.defBody (topS 2)) W_line_of := by
  intro X C F
  obtain ⟨rfl, rfl, rfl, rfl, rfl, hr, fr⟩ := F
  exact (gss_cons (gs_if (gt_cmp sIs (ge_var C 0) ge_non) (gss_one (gs_ret ge_str)) gss_nil)
  (gss_one (gs_ret (ge_m PySem.F.plainAttrs_str PySem.F.slot_str_join PySem.F.type_str_join sJoin ge_str (ga_cons (ge_bin sAdd (ge_lst (ga_cons (ge_callT C cStr m_str (ga_cons (ge_var C 1) ga_nil)) ga_nil)) (ge_lc C [("held", 2)] (gi_seq (ge_var C 0)) (fun _ _ _ _ _ C1 => (gc_name C1 2)) (fun _ _ _ _ _ C1 => gts_nil) (fun _ _ _ _ _ C1 => (ge_ife (gt_cmp sIs (ge_var C1 2) ge_non) ge_str (ge_callT C1 cStr m_str (ga_cons (ge_var C1 2) ga_nil)))))) ga_nil)))))
theorem len_line_of (args : List Val) (h : Hg) (Q : KV) (E : KX) (hs : sp_line_of args h Q E) : args.length = 2 := by
  first
    | (unfold sp_line_of at hs; split at hs <;> first | rfl | exact hs.elim)
    | (unfold sp_line_of spPen at hs; split at hs <;> first | rfl | exact hs.elim)
    | (unfold sp_line_of spDrawB at hs; split at hs <;> first | rfl | exact hs.elim)
theorem S__law_pen : FnScope N__law_pen ["_law_script"] (L2.defScope (topS 7)) := ⟨rfl, rfl, rfl, by decide +kernel, rfl, by decide +kernel, by decide +kernel⟩
theorem gs__law_pen (m_list : mg "list" = none) : ∀ X : Cx, Cn X N__law_pen (L2.defScope (topS 7)) (L2.defScope (topS 7)) → Fx P w K mg base 0 X → GSs X (L2.defBody (topS 7)) W__law_pen := by
  intro X C F
  obtain ⟨rfl, rfl, rfl, rfl, rfl, hr, fr⟩ := F
  exact (gss_one (gs_ret (ge_pen 100000 (ge_lst (ga_cons (ge_callT C cList m_list (ga_cons (ge_slice (ge_var C 0) go_none (go_some ge_int)) ga_nil)) (ga_cons ge_int (ga_cons ge_int ga_nil)))))))
theorem len__law_pen (args : List Val) (h : Hg) (Q : KV) (E : KX) (hs : sp__law_pen args h Q E) : args.length = 1 := by
  first
    | (unfold sp__law_pen at hs; split at hs <;> first | rfl | exact hs.elim)
    | (unfold sp__law_pen spPen at hs; split at hs <;> first | rfl | exact hs.elim)
    | (unfold sp__law_pen spDrawB at hs; split at hs <;> first | rfl | exact hs.elim)
theorem S__law_draw : FnScope N__law_draw ["_law_pen_here", "_law_bound"] (L2.defScope (topS 8)) := ⟨rfl, rfl, rfl, by decide +kernel, rfl, by decide +kernel, by decide +kernel⟩
theorem gs__law_draw (m_len : mg "len" = none) (m_abs : mg "abs" = none) (m_int : mg "int" = none) : ∀ X : Cx, Cn X N__law_draw (L2.defScope (topS 8)) (L2.defScope (topS 8)) → Fx P w K mg base 0 X → GSs X (L2.defBody (topS 8)) W__law_draw := by
  intro X C F
  obtain ⟨rfl, rfl, rfl, rfl, rfl, hr, fr⟩ := F
  exact (gss_cons (gs_if (gt_cmp sGt (ge_ix (ge_var C 0) ge_int) ge_int) (gss_cons (gs_set C 2 (ge_bin sMod (ge_ix (ge_var C 0) ge_int) (ge_var C 1)))
  (gss_cons (gs_asg (ge_bin sFdiv (ge_ix (ge_var C 0) ge_int) (ge_var C 1)) (gg_sub (ge_var C 0) ge_int))
  (gss_one (gs_ret (ge_var C 2))))) gss_nil)
  (gss_cons (gs_set C 3 (ge_ix (ge_var C 0) ge_int))
  (gss_cons (gs_asg (ge_bin sAdd (ge_var C 3) ge_int) (gg_sub (ge_var C 0) ge_int))
  (gss_cons (gs_set C 4 (ge_bin sAdd (ge_bin sMul ge_int (ge_var C 3)) ge_int))
  (gss_cut (gs_if (gt_cmp (sNe C.units) (ge_ix (ge_var C 0) ge_int) (ge_lst ga_nil)) (gss_one (gs_set C 4 (ge_ix (ge_ix (ge_var C 0) ge_int) (ge_bin sMod (ge_var C 3) (ge_callB C cLen m_len (ga_cons (ge_ix (ge_var C 0) ge_int) ga_nil)))))) gss_nil) (gss_cut (gs_if (gw_and (gt_cmp sLt (ge_var C 3) (ge_callB C cLen m_len (ga_cons (ge_ix (ge_var C 0) ge_int) ga_nil))) (gw_and1 (gt_cmp sGe (ge_callB C cAbs m_abs (ga_cons (ge_var C 4) ga_nil)) (ge_bin sPow ge_int ge_int)))).gt (gss_cons (gs_set C 5 (ge_bin sAdd (ge_bin sMul ge_int (ge_bin sSub (ge_callB C cAbs m_abs (ga_cons (ge_var C 4) ga_nil)) (ge_bin sPow ge_int ge_int))) (ge_callT C cInt m_int (ga_cons (ge_cmp sLt (ge_var C 4) ge_int) ga_nil))))
  (gss_cons (gs_asg (ge_bin sFdiv (ge_var C 5) (ge_var C 1)) (gg_sub (ge_var C 0) ge_int))
  (gss_one (gs_ret (ge_bin sMod (ge_var C 5) (ge_var C 1)))))) gss_nil) (gss_cons (gs_set C 6 (ge_bin sMod (ge_bin sPow (ge_bin sAdd (ge_bin sAdd (ge_bin sAdd (ge_bin sMod (ge_var C 4) ge_int) (ge_bin sMul ge_int (ge_var C 3))) (ge_bin sMul (ge_bin sMul ge_int (ge_var C 3)) (ge_var C 3))) ge_int) ge_int) ge_int))
  (gss_cons (gs_set C 6 (ge_bin sMod (ge_bin sPow (ge_bin sAdd (ge_bin sMul (ge_var C 6) (ge_bin sAdd (ge_bin sMul ge_int (ge_var C 3)) ge_int)) ge_int) ge_int) ge_int))
  (gss_one (gs_ret (ge_bin sMod (ge_bin sFdiv (ge_var C 6) ge_int) (ge_var C 1))))))))))))
theorem len__law_draw (args : List Val) (h : Hg) (Q : KV) (E : KX) (hs : sp__law_draw args h Q E) : args.length = 2 := by
  first
    | (unfold sp__law_draw at hs; split at hs <;> first | rfl | exact hs.elim)
    | (unfold sp__law_draw spPen at hs; split at hs <;> first | rfl | exact hs.elim)
    | (unfold sp__law_draw spDrawB at hs; split at hs <;> first | rfl | exact hs.elim)
theorem S__law_heap_text : FnScope N__law_heap_text ["_law_home"] (L2.defScope (topS 14)) := ⟨rfl, rfl, rfl, by decide +kernel, rfl, by decide +kernel, by decide +kernel⟩
theorem gs__law_heap_text (m_enumerate : mg "enumerate" = none) (m_str : mg "str" = none) (m_int : mg "int" = none) : ∀ X : Cx, Cn X N__law_heap_text (L2.defScope (topS 14)) (L2.defScope (topS 14)) → Fx P w K mg base 0 X → GSs X (L2.defBody (topS 14)) W__law_heap_text := by
  intro X C F
  obtain ⟨rfl, rfl, rfl, rfl, rfl, hr, fr⟩ := F
  exact (gss_cons (gs_set C 1 (ge_lst ga_nil))
  (gss_cons (gs_for C (gi_enum C m_enumerate (ge_ix (ge_var C 0) ge_int)) (ggr_pair 2 C (ggs_cons (gg_name C 2) (ggs_cons (gg_name C 3) ggs_nil))) (gss_cons (gs_set C 4 ge_str)
  (gss_cons (gs_if (gt_cmp sIsNot (ge_var C 3) ge_non) (gss_cons (gs_set C 4 (ge_callT C cStr m_str (ga_cons (ge_ix (ge_ix (ge_var C 0) ge_int) (ge_var C 2)) ga_nil)))
  (gss_one (gs_for C (gi_seq (ge_var C 3)) (ggr_of (gg_name C 5)) (gss_one (gs_set C 4 (ge_bin sAdd (ge_bin sAdd (ge_var C 4) ge_str) (ge_ix (ge_lst (ga_cons ge_str (ga_cons (ge_callT C cStr m_str (ga_cons (ge_var C 5) ga_nil)) ga_nil))) (ge_callT C cInt m_int (ga_cons (ge_cmp sIsNot (ge_var C 5) ge_non) ga_nil))))))))) gss_nil)
  (gss_one (gs_expr (ge_m PySem.F.plainAttrs_list PySem.F.slot_list_append PySem.F.type_list_append sAppend (ge_var C 1) (ga_cons (ge_var C 4) ga_nil)))))))
  (gss_one (gs_ret (ge_m PySem.F.plainAttrs_str PySem.F.slot_str_join PySem.F.type_str_join sJoin ge_str (ga_cons (ge_var C 1) ga_nil))))))
theorem len__law_heap_text (args : List Val) (h : Hg) (Q : KV) (E : KX) (hs : sp__law_heap_text args h Q E) : args.length = 1 := by
  first
    | (unfold sp__law_heap_text at hs; split at hs <;> first | rfl | exact hs.elim)
    | (unfold sp__law_heap_text spPen at hs; split at hs <;> first | rfl | exact hs.elim)
    | (unfold sp__law_heap_text spDrawB at hs; split at hs <;> first | rfl | exact hs.elim)
theorem S__law_numbers_text : FnScope N__law_numbers_text ["_law_some"] (L2.defScope (topS 15)) := ⟨rfl, rfl, rfl, by decide +kernel, rfl, by decide +kernel, by decide +kernel⟩
theorem gs__law_numbers_text (m_len : mg "len" = none) (m_str : mg "str" = none) : ∀ X : Cx, Cn X N__law_numbers_text (L2.defScope (topS 15)) (L2.defScope (topS 15)) → Fx P w K mg base 0 X → GSs X (L2.defBody (topS 15)) W__law_numbers_text := by
  intro X C F
  obtain ⟨rfl, rfl, rfl, rfl, rfl, hr, fr⟩ := F
  exact (gss_cons (gs_if (gt_cmp (sEq C.units) (ge_callB C cLen m_len (ga_cons (ge_var C 0) ga_nil)) ge_int) (gss_one (gs_ret ge_str)) gss_nil)
  (gss_one (gs_ret (ge_m PySem.F.plainAttrs_str PySem.F.slot_str_join PySem.F.type_str_join sJoin ge_str (ga_cons (ge_lc C [("_law_k", 1)] (gi_seq (ge_var C 0)) (fun _ _ _ _ _ C1 => (gc_name C1 1)) (fun _ _ _ _ _ C1 => gts_nil) (fun _ _ _ _ _ C1 => (ge_callT C1 cStr m_str (ga_cons (ge_var C1 1) ga_nil)))) ga_nil)))))
theorem len__law_numbers_text (args : List Val) (h : Hg) (Q : KV) (E : KX) (hs : sp__law_numbers_text args h Q E) : args.length = 1 := by
  first
    | (unfold sp__law_numbers_text at hs; split at hs <;> first | rfl | exact hs.elim)
    | (unfold sp__law_numbers_text spPen at hs; split at hs <;> first | rfl | exact hs.elim)
    | (unfold sp__law_numbers_text spDrawB at hs; split at hs <;> first | rfl | exact hs.elim)
theorem S_format_heap : FnScope N_format_heap ["heap"] (L2.defScope (topS 3)) := ⟨rfl, rfl, rfl, by decide +kernel, rfl, by decide +kernel, by decide +kernel⟩
theorem gs_format_heap (m_zip : mg "zip" = none) (c_line_of_2 : Cal P w K mg base 1 "line_of" 2 [] [0, 1] sp_line_of) : ∀ X : Cx, Cn X N_format_heap (L2.defScope (topS 3)) (L2.defScope (topS 3)) → Fx P w K mg base 1 X → GSs X (L2.defBody (topS 3)) W_format_heap := by
  intro X C F
  obtain ⟨rfl, rfl, rfl, rfl, rfl, hr, fr⟩ := F
  exact (gss_cons (gs_asg (ge_var C 0) (gg_tup 2 C (ggs_cons (gg_name C 1) (ggs_cons (gg_name C 2) ggs_nil))))
  (gss_one (gs_ret (ge_m PySem.F.plainAttrs_str PySem.F.slot_str_join PySem.F.type_str_join sJoin ge_str (ga_cons (ge_lc C [("row", 3), ("references", 4)] (gi_zip C m_zip (ge_var C 1) (ge_var C 2)) (fun _ _ _ _ _ C1 => (gc_pair 2 C1 (gcs_cons (gc_name C1 3) (gcs_cons (gc_name C1 4) gcs_nil)))) (fun _ _ _ _ _ C1 => gts_nil) (fun _ _ _ _ _ C1 => (ge_call C1 hr (c_line_of_2.mono (by decide)) (ga_cons (ge_var C1 3) (ga_cons (ge_var C1 4) ga_nil))))) ga_nil)))))
theorem len_format_heap (args : List Val) (h : Hg) (Q : KV) (E : KX) (hs : sp_format_heap args h Q E) : args.length = 1 := by
  first
    | (unfold sp_format_heap at hs; split at hs <;> first | rfl | exact hs.elim)
    | (unfold sp_format_heap spPen at hs; split at hs <;> first | rfl | exact hs.elim)
    | (unfold sp_format_heap spDrawB at hs; split at hs <;> first | rfl | exact hs.elim)
theorem S_format_tree : FnScope N_format_tree ["tree"] (L2.defScope (topS 4)) := ⟨rfl, rfl, rfl, by decide +kernel, rfl, by decide +kernel, by decide +kernel⟩
theorem gs_format_tree (c_joined_1 : Cal P w K mg base 1 "joined" 1 [] [0] sp_joined) : ∀ X : Cx, Cn X N_format_tree (L2.defScope (topS 4)) (L2.defScope (topS 4)) → Fx P w K mg base 1 X → GSs X (L2.defBody (topS 4)) W_format_tree := by
  intro X C F
  obtain ⟨rfl, rfl, rfl, rfl, rfl, hr, fr⟩ := F
  exact (gss_one (gs_ret (ge_m PySem.F.plainAttrs_str PySem.F.slot_str_join PySem.F.type_str_join sJoin ge_str (ga_cons (ge_lc C [("children", 1)] (gi_seq (ge_var C 0)) (fun _ _ _ _ _ C1 => (gc_name C1 1)) (fun _ _ _ _ _ C1 => gts_nil) (fun _ _ _ _ _ C1 => (ge_call C1 hr (c_joined_1.mono (by decide)) (ga_cons (ge_var C1 1) ga_nil)))) ga_nil))))
theorem len_format_tree (args : List Val) (h : Hg) (Q : KV) (E : KX) (hs : sp_format_tree args h Q E) : args.length = 1 := by
  first
    | (unfold sp_format_tree at hs; split at hs <;> first | rfl | exact hs.elim)
    | (unfold sp_format_tree spPen at hs; split at hs <;> first | rfl | exact hs.elim)
    | (unfold sp_format_tree spDrawB at hs; split at hs <;> first | rfl | exact hs.elim)
theorem S_format_log : FnScope N_format_log ["log"] (L2.defScope (topS 5)) := ⟨rfl, rfl, rfl, by decide +kernel, rfl, by decide +kernel, by decide +kernel⟩
theorem gs_format_log (c_joined_1 : Cal P w K mg base 1 "joined" 1 [] [0] sp_joined) : ∀ X : Cx, Cn X N_format_log (L2.defScope (topS 5)) (L2.defScope (topS 5)) → Fx P w K mg base 1 X → GSs X (L2.defBody (topS 5)) W_format_log := by
  intro X C F
  obtain ⟨rfl, rfl, rfl, rfl, rfl, hr, fr⟩ := F
  exact (gss_one (gs_ret (ge_call C hr (c_joined_1.mono (by decide)) (ga_cons (ge_var C 0) ga_nil))))
theorem len_format_log (args : List Val) (h : Hg) (Q : KV) (E : KX) (hs : sp_format_log args h Q E) : args.length = 1 := by
  first
    | (unfold sp_format_log at hs; split at hs <;> first | rfl | exact hs.elim)
    | (unfold sp_format_log spPen at hs; split at hs <;> first | rfl | exact hs.elim)
    | (unfold sp_format_log spDrawB at hs; split at hs <;> first | rfl | exact hs.elim)
theorem S__law_order : FnScope N__law_order ["_law_pen_here", "_law_size_here"] (L2.defScope (topS 9)) := ⟨rfl, rfl, rfl, by decide +kernel, rfl, by decide +kernel, by decide +kernel⟩
theorem gs__law_order (m_range : mg "range" = none) (m_list : mg "list" = none) (m_len : mg "len" = none) (c__law_draw_2 : Cal P w K mg base 1 "_law_draw" 2 [] [0, 1] sp__law_draw) : ∀ X : Cx, Cn X N__law_order (L2.defScope (topS 9)) (L2.defScope (topS 9)) → Fx P w K mg base 1 X → GSs X (L2.defBody (topS 9)) W__law_order := by
  intro X C F
  obtain ⟨rfl, rfl, rfl, rfl, rfl, hr, fr⟩ := F
  exact (gss_cons (gs_set C 2 (ge_lrg1 C m_range m_list (ge_var C 1)))
  (gss_one (gs_ret (ge_lc C [("_law_k", 3)] (gi_rg1 C m_range (ge_var C 1)) (fun _ _ _ _ _ C1 => (gc_name C1 3)) (fun _ _ _ _ _ C1 => gts_nil) (fun _ _ _ _ _ C1 => (ge_m PySem.F.plainAttrs_list PySem.F.slot_list_pop PySem.F.type_list_pop sPop (ge_var C1 2) (ga_cons (ge_call C1 hr (c__law_draw_2.mono (by decide)) (ga_cons (ge_var C1 0) (ga_cons (ge_callB C1 cLen m_len (ga_cons (ge_var C1 2) ga_nil)) ga_nil))) ga_nil)))))))
theorem len__law_order (args : List Val) (h : Hg) (Q : KV) (E : KX) (hs : sp__law_order args h Q E) : args.length = 2 := by
  first
    | (unfold sp__law_order at hs; split at hs <;> first | rfl | exact hs.elim)
    | (unfold sp__law_order spPen at hs; split at hs <;> first | rfl | exact hs.elim)
    | (unfold sp__law_order spDrawB at hs; split at hs <;> first | rfl | exact hs.elim)
theorem S__law_size : FnScope N__law_size ["_law_pen_here", "_law_most"] (L2.defScope (topS 10)) := ⟨rfl, rfl, rfl, by decide +kernel, rfl, by decide +kernel, by decide +kernel⟩
theorem gs__law_size (m_min : mg "min" = none) (c__law_draw_2 : Cal P w K mg base 1 "_law_draw" 2 [] [0, 1] sp__law_draw) : ∀ X : Cx, Cn X N__law_size (L2.defScope (topS 10)) (L2.defScope (topS 10)) → Fx P w K mg base 1 X → GSs X (L2.defBody (topS 10)) W__law_size := by
  intro X C F
  obtain ⟨rfl, rfl, rfl, rfl, rfl, hr, fr⟩ := F
  exact (gss_cons (gs_set C 2 (ge_call C hr (c__law_draw_2.mono (by decide)) (ga_cons (ge_var C 0) (ga_cons ge_int ga_nil))))
  (gss_one (gs_ret (ge_callB C (cMin2 C.calm) m_min (ga_cons (ge_var C 1) (ga_cons (ge_ix (ge_lst (ga_cons (ge_bin sAdd ge_int (ge_call C hr (c__law_draw_2.mono (by decide)) (ga_cons (ge_var C 0) (ga_cons ge_int ga_nil)))) (ga_cons (ge_bin sAdd ge_int (ge_call C hr (c__law_draw_2.mono (by decide)) (ga_cons (ge_var C 0) (ga_cons ge_int ga_nil)))) (ga_cons (ge_bin sAdd ge_int (ge_call C hr (c__law_draw_2.mono (by decide)) (ga_cons (ge_var C 0) (ga_cons (ge_var C 1) ga_nil)))) (ga_cons (ge_var C 1) ga_nil))))) (ge_var C 2)) ga_nil))))))
theorem len__law_size (args : List Val) (h : Hg) (Q : KV) (E : KX) (hs : sp__law_size args h Q E) : args.length = 2 := by
  first
    | (unfold sp__law_size at hs; split at hs <;> first | rfl | exact hs.elim)
    | (unfold sp__law_size spPen at hs; split at hs <;> first | rfl | exact hs.elim)
    | (unfold sp__law_size spDrawB at hs; split at hs <;> first | rfl | exact hs.elim)
theorem S__law_links : FnScope N__law_links ["_law_pen_here", "_law_size_here"] (L2.defScope (topS 11)) := ⟨rfl, rfl, rfl, by decide +kernel, rfl, by decide +kernel, by decide +kernel⟩
theorem gs__law_links (m_range : mg "range" = none) (m_max : mg "max" = none) (m_len : mg "len" = none) (m_min : mg "min" = none) (m_int : mg "int" = none) (c__law_draw_2 : Cal P w K mg base 1 "_law_draw" 2 [] [0, 1] sp__law_draw) : ∀ X : Cx, Cn X N__law_links (L2.defScope (topS 11)) (L2.defScope (topS 11)) → Fx P w K mg base 1 X → GSs X (L2.defBody (topS 11)) W__law_links := by
  intro X C F
  obtain ⟨rfl, rfl, rfl, rfl, rfl, hr, fr⟩ := F
  exact (gss_cons (gs_set C 2 (ge_call C hr (c__law_draw_2.mono (by decide)) (ga_cons (ge_var C 0) (ga_cons ge_int ga_nil))))
  (gss_cons (gs_set C 3 (ge_call C hr (c__law_draw_2.mono (by decide)) (ga_cons (ge_var C 0) (ga_cons ge_int ga_nil))))
  (gss_cons (gs_setLc C 4 [("_law_k", 8)] (gi_rg1 C m_range (ge_var C 1)) (fun _ _ _ _ _ C1 => (gc_name C1 8)) (fun _ _ _ _ _ C1 => gts_nil) (fun _ _ _ _ _ C1 => (ge_lst ga_nil)))
  (gss_cons (gs_for C (gi_rg2 C m_range ge_int (ge_var C 1)) (ggr_of (gg_name C 5)) (gss_cons (gs_set C 6 (ge_ix (ge_lst (ga_cons (ge_call C hr (c__law_draw_2.mono (by decide)) (ga_cons (ge_var C 0) (ga_cons (ge_var C 5) ga_nil))) (ga_cons (ge_bin sSub (ge_var C 5) ge_int) (ga_cons (ge_callB C (cMax2 C.calm) m_max (ga_cons ge_int (ga_cons (ge_bin sSub (ge_bin sSub (ge_var C 5) ge_int) (ge_call C hr (c__law_draw_2.mono (by decide)) (ga_cons (ge_var C 0) (ga_cons ge_int ga_nil)))) ga_nil))) ga_nil)))) (ge_var C 3)))
  (gss_cons (gs_set C 7 (ge_ix (ge_var C 4) (ge_var C 6)))
  (gss_one (gs_expr (ge_m PySem.F.plainAttrs_list PySem.F.slot_list_insert PySem.F.type_list_insert sInsert (ge_var C 7) (ga_cons (ge_call C hr (c__law_draw_2.mono (by decide)) (ga_cons (ge_var C 0) (ga_cons (ge_bin sAdd (ge_callB C cLen m_len (ga_cons (ge_var C 7) ga_nil)) ge_int) ga_nil))) (ga_cons (ge_var C 5) ga_nil))))))))
  (gss_cons (gs_for C (gi_rg1 C m_range (ge_ix (ge_lst (ga_cons ge_int (ga_cons (ge_call C hr (c__law_draw_2.mono (by decide)) (ga_cons (ge_var C 0) (ga_cons ge_int ga_nil))) (ga_cons (ge_var C 1) (ga_cons (ge_bin sMul ge_int (ge_var C 1)) ga_nil))))) (ge_var C 2))) (ggr_of (gg_name C 8)) (gss_cons (gs_set C 9 (ge_call C hr (c__law_draw_2.mono (by decide)) (ga_cons (ge_var C 0) (ga_cons (ge_var C 1) ga_nil))))
  (gss_cons (gs_set C 10 (ge_call C hr (c__law_draw_2.mono (by decide)) (ga_cons (ge_var C 0) (ga_cons (ge_var C 1) ga_nil))))
  (gss_cut (gs_if (gw_and (gt_cmp sLe (ge_var C 10) (ge_var C 9)) (gw_and1 (gw_or (gt_cmp sLt (ge_var C 2) ge_int) (gw_or1 (gt_cmp sGt (ge_call C hr (c__law_draw_2.mono (by decide)) (ga_cons (ge_var C 0) (ga_cons ge_int ga_nil))) ge_int))).gt)).gt (gss_one (gs_par C 9 10 (ga_cons (ge_callB C (cMin2 C.calm) m_min (ga_cons (ge_var C 9) (ga_cons (ge_var C 10) ga_nil))) (ga_cons (ge_callB C (cMin2 C.calm) m_min (ga_cons (ge_bin sSub (ge_var C 1) ge_int) (ga_cons (ge_bin sAdd (ge_callB C (cMax2 C.calm) m_max (ga_cons (ge_var C 9) (ga_cons (ge_var C 10) ga_nil))) (ge_callT C cInt m_int (ga_cons (ge_cmp (sEq C.units) (ge_var C 9) (ge_var C 10)) ga_nil))) ga_nil))) ga_nil)) (by intro env he; cases env; cases he; rfl))) gss_nil) (gss_cons (gs_set C 7 (ge_ix (ge_var C 4) (ge_var C 9)))
  (gss_one (gs_if (gw_and (gt_cmp sLt (ge_callB C cLen m_len (ga_cons (ge_var C 7) ga_nil)) ge_int) (gw_and1 (gw_or (gt_cmp (sNe C.units) (ge_var C 9) (ge_var C 10)) (gw_or1 (gt_cmp (sEq C.units) (ge_var C 2) ge_int))).gt)).gt (gss_one (gs_expr (ge_m PySem.F.plainAttrs_list PySem.F.slot_list_insert PySem.F.type_list_insert sInsert (ge_var C 7) (ga_cons (ge_call C hr (c__law_draw_2.mono (by decide)) (ga_cons (ge_var C 0) (ga_cons (ge_bin sAdd (ge_callB C cLen m_len (ga_cons (ge_var C 7) ga_nil)) ge_int) ga_nil))) (ga_cons (ge_var C 10) ga_nil))))) gss_nil)))))))
  (gss_cons (gs_for C (gi_seq (ge_var C 4)) (ggr_of (gg_name C 7)) (gss_one (gs_if (gt_cmp (sEq C.units) (ge_call C hr (c__law_draw_2.mono (by decide)) (ga_cons (ge_var C 0) (ga_cons ge_int ga_nil))) ge_int) (gss_one (gs_expr (ge_m PySem.F.plainAttrs_list PySem.F.slot_list_insert PySem.F.type_list_insert sInsert (ge_var C 7) (ga_cons (ge_call C hr (c__law_draw_2.mono (by decide)) (ga_cons (ge_var C 0) (ga_cons (ge_bin sAdd (ge_callB C cLen m_len (ga_cons (ge_var C 7) ga_nil)) ge_int) ga_nil))) (ga_cons ge_non ga_nil))))) gss_nil)))
  (gss_one (gs_ret (ge_var C 4)))))))))
theorem len__law_links (args : List Val) (h : Hg) (Q : KV) (E : KX) (hs : sp__law_links args h Q E) : args.length = 2 := by
  first
    | (unfold sp__law_links at hs; split at hs <;> first | rfl | exact hs.elim)
    | (unfold sp__law_links spPen at hs; split at hs <;> first | rfl | exact hs.elim)
    | (unfold sp__law_links spDrawB at hs; split at hs <;> first | rfl | exact hs.elim)
theorem S__law_tree_text : FnScope N__law_tree_text ["_law_given"] (L2.defScope (topS 16)) := ⟨rfl, rfl, rfl, by decide +kernel, rfl, by decide +kernel, by decide +kernel⟩
theorem gs__law_tree_text (c__law_numbers_text_1 : Cal P w K mg base 1 "_law_numbers_text" 1 [] [0] sp__law_numbers_text) : ∀ X : Cx, Cn X N__law_tree_text (L2.defScope (topS 16)) (L2.defScope (topS 16)) → Fx P w K mg base 1 X → GSs X (L2.defBody (topS 16)) W__law_tree_text := by
  intro X C F
  obtain ⟨rfl, rfl, rfl, rfl, rfl, hr, fr⟩ := F
  exact (gss_one (gs_ret (ge_m PySem.F.plainAttrs_str PySem.F.slot_str_join PySem.F.type_str_join sJoin ge_str (ga_cons (ge_lc C [("_law_row", 1)] (gi_seq (ge_var C 0)) (fun _ _ _ _ _ C1 => (gc_name C1 1)) (fun _ _ _ _ _ C1 => gts_nil) (fun _ _ _ _ _ C1 => (ge_call C1 hr (c__law_numbers_text_1.mono (by decide)) (ga_cons (ge_var C1 1) ga_nil)))) ga_nil))))
theorem len__law_tree_text (args : List Val) (h : Hg) (Q : KV) (E : KX) (hs : sp__law_tree_text args h Q E) : args.length = 1 := by
  first
    | (unfold sp__law_tree_text at hs; split at hs <;> first | rfl | exact hs.elim)
    | (unfold sp__law_tree_text spPen at hs; split at hs <;> first | rfl | exact hs.elim)
    | (unfold sp__law_tree_text spDrawB at hs; split at hs <;> first | rfl | exact hs.elim)
theorem S__law_heap : FnScope N__law_heap ["_law_pen_here", "_law_most"] (L2.defScope (topS 12)) := ⟨rfl, rfl, rfl, by decide +kernel, rfl, by decide +kernel, by decide +kernel⟩
theorem gs__law_heap (m_min : mg "min" = none) (m_range : mg "range" = none) (m_tuple : mg "tuple" = none) (c__law_size_2 : Cal P w K mg base 2 "_law_size" 2 [] [0, 1] sp__law_size) (c__law_links_2 : Cal P w K mg base 2 "_law_links" 2 [] [0, 1] sp__law_links) (c__law_draw_2 : Cal P w K mg base 1 "_law_draw" 2 [] [0, 1] sp__law_draw) (c__law_order_2 : Cal P w K mg base 2 "_law_order" 2 [] [0, 1] sp__law_order) : ∀ X : Cx, Cn X N__law_heap (L2.defScope (topS 12)) (L2.defScope (topS 12)) → Fx P w K mg base 2 X → GSs X (L2.defBody (topS 12)) W__law_heap := by
  intro X C F
  obtain ⟨rfl, rfl, rfl, rfl, rfl, hr, fr⟩ := F
  exact (gss_cons (gs_set C 2 (ge_call C hr (c__law_size_2.mono (by decide)) (ga_cons (ge_var C 0) (ga_cons (ge_var C 1) ga_nil))))
  (gss_cons (gs_set C 3 (ge_call C hr (c__law_links_2.mono (by decide)) (ga_cons (ge_var C 0) (ga_cons (ge_var C 2) ga_nil))))
  (gss_cons (gs_set C 4 (ge_callB C (cMin2 C.calm) m_min (ga_cons (ge_bin sSub ge_int (ge_var C 2)) (ga_cons (ge_ix (ge_lst (ga_cons ge_int (ga_cons ge_int (ga_cons ge_int (ga_cons (ge_call C hr (c__law_draw_2.mono (by decide)) (ga_cons (ge_var C 0) (ga_cons ge_int ga_nil))) ga_nil))))) (ge_call C hr (c__law_draw_2.mono (by decide)) (ga_cons (ge_var C 0) (ga_cons ge_int ga_nil)))) ga_nil))))
  (gss_cons (gs_set C 5 (ge_call C hr (c__law_order_2.mono (by decide)) (ga_cons (ge_var C 0) (ga_cons (ge_bin sAdd (ge_var C 2) (ge_var C 4)) ga_nil))))
  (gss_cons (gs_set C 6 (ge_bin sMul (ge_lst (ga_cons ge_non ga_nil)) (ge_bin sAdd (ge_var C 2) (ge_var C 4))))
  (gss_cons (gs_set C 7 (ge_bin sMul (ge_lst (ga_cons ge_int ga_nil)) (ge_bin sAdd (ge_var C 2) (ge_var C 4))))
  (gss_cons (gs_for C (gi_rg1 C m_range (ge_var C 2)) (ggr_of (gg_name C 8)) (gss_cons (gs_asg (ge_callT C cTuple m_tuple (ga_cons (ge_lc C [("_law_held", 9)] (gi_seq (ge_ix (ge_var C 3) (ge_var C 8))) (fun _ _ _ _ _ C1 => (gc_name C1 9)) (fun _ _ _ _ _ C1 => gts_nil) (fun _ _ _ _ _ C1 => (ge_ife (gt_cmp sIs (ge_var C1 9) ge_non) ge_non (ge_ix (ge_var C1 5) (ge_var C1 9))))) ga_nil)) (gg_sub (ge_var C 6) (ge_ix (ge_var C 5) (ge_var C 8))))
  (gss_one (gs_if (gw_and (gt_cmp sGt (ge_var C 8) ge_int) (gw_and1 (gt_cmp (sEq C.units) (ge_call C hr (c__law_draw_2.mono (by decide)) (ga_cons (ge_var C 0) (ga_cons ge_int ga_nil))) ge_int))).gt (gss_one (gs_asg (ge_bin sAdd ge_int (ge_call C hr (c__law_draw_2.mono (by decide)) (ga_cons (ge_var C 0) (ga_cons ge_int ga_nil)))) (gg_sub (ge_var C 7) (ge_ix (ge_var C 5) (ge_var C 8))))) gss_nil))))
  (gss_cons (gs_asg (ge_ix (ge_lst (ga_cons ge_int (ga_cons ge_int (ga_cons ge_int (ga_cons ge_int (ga_cons ge_int ga_nil)))))) (ge_call C hr (c__law_draw_2.mono (by decide)) (ga_cons (ge_var C 0) (ga_cons ge_int ga_nil)))) (gg_sub (ge_var C 7) (ge_ix (ge_var C 5) ge_int)))
  (gss_one (gs_ret (ge_tup (ga_cons (ge_tup (ga_cons (ge_callT C cTuple m_tuple (ga_cons (ge_var C 6) ga_nil)) (ga_cons (ge_callT C cTuple m_tuple (ga_cons (ge_var C 7) ga_nil)) ga_nil))) (ga_cons (ge_ix (ge_var C 5) ge_int) ga_nil)))))))))))))
theorem len__law_heap (args : List Val) (h : Hg) (Q : KV) (E : KX) (hs : sp__law_heap args h Q E) : args.length = 2 := by
  first
    | (unfold sp__law_heap at hs; split at hs <;> first | rfl | exact hs.elim)
    | (unfold sp__law_heap spPen at hs; split at hs <;> first | rfl | exact hs.elim)
    | (unfold sp__law_heap spDrawB at hs; split at hs <;> first | rfl | exact hs.elim)
theorem S__law_children : FnScope N__law_children ["_law_pen_here", "_law_most"] (L2.defScope (topS 13)) := ⟨rfl, rfl, rfl, by decide +kernel, rfl, by decide +kernel, by decide +kernel⟩
theorem gs__law_children (m_range : mg "range" = none) (m_len : mg "len" = none) (m_tuple : mg "tuple" = none) (c__law_size_2 : Cal P w K mg base 2 "_law_size" 2 [] [0, 1] sp__law_size) (c__law_order_2 : Cal P w K mg base 2 "_law_order" 2 [] [0, 1] sp__law_order) (c__law_draw_2 : Cal P w K mg base 1 "_law_draw" 2 [] [0, 1] sp__law_draw) : ∀ X : Cx, Cn X N__law_children (L2.defScope (topS 13)) (L2.defScope (topS 13)) → Fx P w K mg base 2 X → GSs X (L2.defBody (topS 13)) W__law_children := by
  intro X C F
  obtain ⟨rfl, rfl, rfl, rfl, rfl, hr, fr⟩ := F
  exact (gss_cons (gs_set C 2 (ge_call C hr (c__law_size_2.mono (by decide)) (ga_cons (ge_var C 0) (ga_cons (ge_var C 1) ga_nil))))
  (gss_cons (gs_set C 3 (ge_call C hr (c__law_order_2.mono (by decide)) (ga_cons (ge_var C 0) (ga_cons (ge_var C 2) ga_nil))))
  (gss_cons (gs_set C 4 (ge_call C hr (c__law_draw_2.mono (by decide)) (ga_cons (ge_var C 0) (ga_cons ge_int ga_nil))))
  (gss_cons (gs_setLc C 5 [("_law_k", 6)] (gi_rg1 C m_range (ge_var C 2)) (fun _ _ _ _ _ C1 => (gc_name C1 6)) (fun _ _ _ _ _ C1 => gts_nil) (fun _ _ _ _ _ C1 => (ge_lst ga_nil)))
  (gss_cons (gs_for C (gi_rg2 C m_range ge_int (ge_var C 2)) (ggr_of (gg_name C 6)) (gss_cons (gs_set C 7 (ge_ix (ge_var C 5) (ge_ix (ge_lst (ga_cons (ge_call C hr (c__law_draw_2.mono (by decide)) (ga_cons (ge_var C 0) (ga_cons (ge_var C 6) ga_nil))) (ga_cons (ge_bin sSub (ge_var C 6) ge_int) (ga_cons ge_int ga_nil)))) (ge_var C 4))))
  (gss_one (gs_expr (ge_m PySem.F.plainAttrs_list PySem.F.slot_list_insert PySem.F.type_list_insert sInsert (ge_var C 7) (ga_cons (ge_call C hr (c__law_draw_2.mono (by decide)) (ga_cons (ge_var C 0) (ga_cons (ge_bin sAdd (ge_callB C cLen m_len (ga_cons (ge_var C 7) ga_nil)) ge_int) ga_nil))) (ga_cons (ge_ix (ge_var C 3) (ge_var C 6)) ga_nil)))))))
  (gss_cons (gs_set C 8 (ge_bin sMul (ge_lst (ga_cons (ge_tup ga_nil) ga_nil)) (ge_var C 2)))
  (gss_cons (gs_for C (gi_rg1 C m_range (ge_var C 2)) (ggr_of (gg_name C 6)) (gss_one (gs_asg (ge_callT C cTuple m_tuple (ga_cons (ge_ix (ge_var C 5) (ge_var C 6)) ga_nil)) (gg_sub (ge_var C 8) (ge_ix (ge_var C 3) (ge_var C 6))))))
  (gss_one (gs_ret (ge_callT C cTuple m_tuple (ga_cons (ge_var C 8) ga_nil)))))))))))
theorem len__law_children (args : List Val) (h : Hg) (Q : KV) (E : KX) (hs : sp__law_children args h Q E) : args.length = 2 := by
  first
    | (unfold sp__law_children at hs; split at hs <;> first | rfl | exact hs.elim)
    | (unfold sp__law_children spPen at hs; split at hs <;> first | rfl | exact hs.elim)
    | (unfold sp__law_children spDrawB at hs; split at hs <;> first | rfl | exact hs.elim)
theorem S__law_right : FnScope N__law_right ["_law_home", "_law_given", "_law_some"] (L2.defScope (topS 17)) := ⟨rfl, rfl, rfl, by decide +kernel, rfl, by decide +kernel, by decide +kernel⟩
theorem gs__law_right (m_repr : mg "repr" = none) (c__law_heap_text_1 : Cal P w K mg base 1 "_law_heap_text" 1 [] [0] sp__law_heap_text) (c__law_tree_text_1 : Cal P w K mg base 2 "_law_tree_text" 1 [] [0] sp__law_tree_text) (c__law_numbers_text_1 : Cal P w K mg base 1 "_law_numbers_text" 1 [] [0] sp__law_numbers_text) (c_format_heap_1 : Cal P w K mg base 2 "format_heap" 1 [] [0] sp_format_heap) (c_format_tree_1 : Cal P w K mg base 2 "format_tree" 1 [] [0] sp_format_tree) (c_format_log_1 : Cal P w K mg base 2 "format_log" 1 [] [0] sp_format_log) (c_format_heap_0_heap : Cal P w K mg base 2 "format_heap" 0 ["heap"] [0] sp_format_heap) (c_format_tree_0_tree : Cal P w K mg base 2 "format_tree" 0 ["tree"] [0] sp_format_tree) (c_format_log_0_log : Cal P w K mg base 2 "format_log" 0 ["log"] [0] sp_format_log) : ∀ X : Cx, Cn X N__law_right (L2.defScope (topS 17)) (L2.defScope (topS 17)) → Fx P w K mg base 2 X → GSs X (L2.defBody (topS 17)) W__law_right := by
  intro X C F
  obtain ⟨rfl, rfl, rfl, rfl, rfl, hr, fr⟩ := F
  exact (gss_cons (gs_set C 3 (ge_callB C (cRepr C.guards C.units) m_repr (ga_cons (ge_tup (ga_cons (ge_var C 0) (ga_cons (ge_var C 1) (ga_cons (ge_var C 2) ga_nil)))) ga_nil)))
  (gss_cons (gs_set C 4 (ge_lst (ga_cons (ge_call C hr (c__law_heap_text_1.mono (by decide)) (ga_cons (ge_var C 0) ga_nil)) (ga_cons (ge_call C hr (c__law_tree_text_1.mono (by decide)) (ga_cons (ge_var C 1) ga_nil)) (ga_cons (ge_call C hr (c__law_numbers_text_1.mono (by decide)) (ga_cons (ge_var C 2) ga_nil)) ga_nil)))))
  (gss_cons (gs_if (gt_cmp (sNe C.units) (ge_lst (ga_cons (ge_call C hr (c_format_heap_1.mono (by decide)) (ga_cons (ge_var C 0) ga_nil)) (ga_cons (ge_call C hr (c_format_tree_1.mono (by decide)) (ga_cons (ge_var C 1) ga_nil)) (ga_cons (ge_call C hr (c_format_log_1.mono (by decide)) (ga_cons (ge_var C 2) ga_nil)) ga_nil)))) (ge_var C 4)) (gss_one (gs_ret ge_bl)) gss_nil)
  (gss_cons (gs_if (gt_cmp (sNe C.units) (ge_lst (ga_cons (ge_callK0 C hr (c_format_heap_0_heap.mono (by decide)) (gk_cons (ge_var C 0) gk_nil)) (ga_cons (ge_callK0 C hr (c_format_tree_0_tree.mono (by decide)) (gk_cons (ge_var C 1) gk_nil)) (ga_cons (ge_callK0 C hr (c_format_log_0_log.mono (by decide)) (gk_cons (ge_var C 2) gk_nil)) ga_nil)))) (ge_var C 4)) (gss_one (gs_ret ge_bl)) gss_nil)
  (gss_one (gs_ret (ge_cmp (sEq C.units) (ge_callB C (cRepr C.guards C.units) m_repr (ga_cons (ge_tup (ga_cons (ge_var C 0) (ga_cons (ge_var C 1) (ga_cons (ge_var C 2) ga_nil)))) ga_nil)) (ge_var C 3))))))))
theorem len__law_right (args : List Val) (h : Hg) (Q : KV) (E : KX) (hs : sp__law_right args h Q E) : args.length = 3 := by
  first
    | (unfold sp__law_right at hs; split at hs <;> first | rfl | exact hs.elim)
    | (unfold sp__law_right spPen at hs; split at hs <;> first | rfl | exact hs.elim)
    | (unfold sp__law_right spDrawB at hs; split at hs <;> first | rfl | exact hs.elim)
theorem S_law : FnScope N_law ["_law_script"] (L2.defScope (topS 18)) := ⟨rfl, rfl, rfl, by decide +kernel, rfl, by decide +kernel, by decide +kernel⟩
theorem gs_law (m_range : mg "range" = none) (m_tuple : mg "tuple" = none) (c__law_pen_1 : Cal P w K mg base 1 "_law_pen" 1 [] [0] sp__law_pen) (c__law_heap_2 : Cal P w K mg base 3 "_law_heap" 2 [] [0, 1] sp__law_heap) (c__law_children_2 : Cal P w K mg base 3 "_law_children" 2 [] [0, 1] sp__law_children) (c__law_draw_2 : Cal P w K mg base 1 "_law_draw" 2 [] [0, 1] sp__law_draw) (c__law_right_3 : Cal P w K mg base 3 "_law_right" 3 [] [0, 1, 2] sp__law_right) : ∀ X : Cx, Cn X N_law (L2.defScope (topS 18)) (L2.defScope (topS 18)) → Fx P w K mg base 3 X → GSs X (L2.defBody (topS 18)) W_law := by
  intro X C F
  obtain ⟨rfl, rfl, rfl, rfl, rfl, hr, fr⟩ := F
  exact (gss_cons (gs_set C 1 (ge_call C hr (c__law_pen_1.mono (by decide)) (ga_cons (ge_var C 0) ga_nil)))
  (gss_cons (gs_for C (gi_seq (ge_tup (ga_cons ge_int (ga_cons ge_int ga_nil)))) (ggr_of (gg_name C 2)) (gss_cons (gs_asg (ge_call C hr (c__law_heap_2.mono (by decide)) (ga_cons (ge_var C 1) (ga_cons (ge_var C 2) ga_nil))) (gg_tup 2 C (ggs_cons (gg_name C 3) (ggs_cons (gg_name C 4) ggs_nil))))
  (gss_cons (gs_set C 5 (ge_call C hr (c__law_children_2.mono (by decide)) (ga_cons (ge_var C 1) (ga_cons (ge_var C 2) ga_nil))))
  (gss_cons (gs_setLc C 6 [("_law_k", 7)] (gi_rg1 C m_range (ge_call C hr (c__law_draw_2.mono (by decide)) (ga_cons (ge_var C 1) (ga_cons ge_int ga_nil)))) (fun _ _ _ _ _ C1 => (gc_name C1 7)) (fun _ _ _ _ _ C1 => gts_nil) (fun _ _ _ _ _ C1 => (ge_call C1 hr (c__law_draw_2.mono (by decide)) (ga_cons (ge_var C1 1) (ga_cons (ge_ix (ge_lst (ga_cons ge_int (ga_cons ge_int (ga_cons (ge_bin sPow ge_int ge_int) ga_nil)))) (ge_call C1 hr (c__law_draw_2.mono (by decide)) (ga_cons (ge_var C1 1) (ga_cons ge_int ga_nil)))) ga_nil)))))
  (gss_cons (gs_if (gt_cmp (sEq C.units) (ge_call C hr (c__law_draw_2.mono (by decide)) (ga_cons (ge_var C 1) (ga_cons ge_int ga_nil))) ge_int) (gss_one (gs_set C 6 (ge_callT C cTuple m_tuple (ga_cons (ge_var C 6) ga_nil)))) gss_nil)
  (gss_one (gs_if (gt_not (gt_e (ge_call C hr (c__law_right_3.mono (by decide)) (ga_cons (ge_var C 3) (ga_cons (ge_var C 5) (ga_cons (ge_var C 6) ga_nil)))))) (gss_one (gs_ret ge_bl)) gss_nil)))))))
  (gss_cons (gs_set C 3 (ge_tup (ga_cons (ge_bin sMul (ge_tup (ga_cons (ge_trg1 C m_range m_tuple ge_int) ga_nil)) ge_int) (ga_cons (ge_bin sMul (ge_tup (ga_cons ge_int ga_nil)) ge_int) ga_nil))))
  (gss_cons (gs_if (gw_or (gt_not (gt_e (ge_call C hr (c__law_right_3.mono (by decide)) (ga_cons (ge_var C 3) (ga_cons (ge_tup (ga_cons (ge_tup ga_nil) ga_nil)) (ga_cons (ge_lst ga_nil) ga_nil)))))) (gw_or1 (gt_not (gt_e (ge_call C hr (c__law_right_3.mono (by decide)) (ga_cons (ge_tup (ga_cons (ge_tup ga_nil) (ga_cons (ge_tup ga_nil) ga_nil))) (ga_cons (ge_tup (ga_cons (ge_tup (ga_cons ge_int ga_nil)) (ga_cons (ge_tup ga_nil) ga_nil))) (ga_cons (ge_tup (ga_cons ge_int ga_nil)) ga_nil)))))))).gt (gss_one (gs_ret ge_bl)) gss_nil)
  (gss_one (gs_ret (ge_call C hr (c__law_right_3.mono (by decide)) (ga_cons (ge_tup (ga_cons (ge_tup (ga_cons ge_non ga_nil)) (ga_cons (ge_tup (ga_cons ge_int ga_nil)) ga_nil))) (ga_cons (ge_tup (ga_cons (ge_tup ga_nil) ga_nil)) (ga_cons (ge_tup ga_nil) ga_nil))))))))))
theorem len_law (args : List Val) (h : Hg) (Q : KV) (E : KX) (hs : sp_law args h Q E) : args.length = 1 := by
  first
    | (unfold sp_law at hs; split at hs <;> first | rfl | exact hs.elim)
    | (unfold sp_law spPen at hs; split at hs <;> first | rfl | exact hs.elim)
    | (unfold sp_law spDrawB at hs; split at hs <;> first | rfl | exact hs.elim)
end
theorem all_mk {l : PySem.W.OpenLaw} {w : World} {K : PySem.W.Frag} {h : Heap} {mg : Str → Option Value} {fa : Addr} (X : K.In h) (G : h.Ns mainGlobals mg) (hfa : mg "law" = some (.ref fa))
    {f0 : Addr} {od0 an0 : Option Addr} {sl0 : Array (Option Value)} {oc0 kV0 dc0 pm0 cd0 ct0 : Value} (a0 : PySem.W.nsIn K mainGlobals "joined" = some (some (.ref f0))) (l0 : K.lookup f0 = some ⟨oc0, od0, .func (PySem.W.fnOf "joined" "joined" (L2.defArgs (topS 1)) (L2.defBody (topS 1)) (L2.defScope (topS 1)) .none kV0 dc0 pm0 an0 cd0 ct0), sl0⟩) (c0 : PySem.W.codeIn K cd0 "joined" = true) (k0 : PySem.W.keepIn K (.ref f0) = true)
    {f1 : Addr} {od1 an1 : Option Addr} {sl1 : Array (Option Value)} {oc1 kV1 dc1 pm1 cd1 ct1 : Value} (a1 : PySem.W.nsIn K mainGlobals "line_of" = some (some (.ref f1))) (l1 : K.lookup f1 = some ⟨oc1, od1, .func (PySem.W.fnOf "line_of" "line_of" (L2.defArgs (topS 2)) (L2.defBody (topS 2)) (L2.defScope (topS 2)) .none kV1 dc1 pm1 an1 cd1 ct1), sl1⟩) (c1 : PySem.W.codeIn K cd1 "line_of" = true) (k1 : PySem.W.keepIn K (.ref f1) = true)
    {f2 : Addr} {od2 an2 : Option Addr} {sl2 : Array (Option Value)} {oc2 kV2 dc2 pm2 cd2 ct2 : Value} (a2 : PySem.W.nsIn K mainGlobals "_law_pen" = some (some (.ref f2))) (l2 : K.lookup f2 = some ⟨oc2, od2, .func (PySem.W.fnOf "_law_pen" "_law_pen" (L2.defArgs (topS 7)) (L2.defBody (topS 7)) (L2.defScope (topS 7)) .none kV2 dc2 pm2 an2 cd2 ct2), sl2⟩) (c2 : PySem.W.codeIn K cd2 "_law_pen" = true) (k2 : PySem.W.keepIn K (.ref f2) = true)
    {f3 : Addr} {od3 an3 : Option Addr} {sl3 : Array (Option Value)} {oc3 kV3 dc3 pm3 cd3 ct3 : Value} (a3 : PySem.W.nsIn K mainGlobals "_law_draw" = some (some (.ref f3))) (l3 : K.lookup f3 = some ⟨oc3, od3, .func (PySem.W.fnOf "_law_draw" "_law_draw" (L2.defArgs (topS 8)) (L2.defBody (topS 8)) (L2.defScope (topS 8)) .none kV3 dc3 pm3 an3 cd3 ct3), sl3⟩) (c3 : PySem.W.codeIn K cd3 "_law_draw" = true) (k3 : PySem.W.keepIn K (.ref f3) = true)
    {f4 : Addr} {od4 an4 : Option Addr} {sl4 : Array (Option Value)} {oc4 kV4 dc4 pm4 cd4 ct4 : Value} (a4 : PySem.W.nsIn K mainGlobals "_law_heap_text" = some (some (.ref f4))) (l4 : K.lookup f4 = some ⟨oc4, od4, .func (PySem.W.fnOf "_law_heap_text" "_law_heap_text" (L2.defArgs (topS 14)) (L2.defBody (topS 14)) (L2.defScope (topS 14)) .none kV4 dc4 pm4 an4 cd4 ct4), sl4⟩) (c4 : PySem.W.codeIn K cd4 "_law_heap_text" = true) (k4 : PySem.W.keepIn K (.ref f4) = true)
    {f5 : Addr} {od5 an5 : Option Addr} {sl5 : Array (Option Value)} {oc5 kV5 dc5 pm5 cd5 ct5 : Value} (a5 : PySem.W.nsIn K mainGlobals "_law_numbers_text" = some (some (.ref f5))) (l5 : K.lookup f5 = some ⟨oc5, od5, .func (PySem.W.fnOf "_law_numbers_text" "_law_numbers_text" (L2.defArgs (topS 15)) (L2.defBody (topS 15)) (L2.defScope (topS 15)) .none kV5 dc5 pm5 an5 cd5 ct5), sl5⟩) (c5 : PySem.W.codeIn K cd5 "_law_numbers_text" = true) (k5 : PySem.W.keepIn K (.ref f5) = true)
    {f6 : Addr} {od6 an6 : Option Addr} {sl6 : Array (Option Value)} {oc6 kV6 dc6 pm6 cd6 ct6 : Value} (a6 : PySem.W.nsIn K mainGlobals "format_heap" = some (some (.ref f6))) (l6 : K.lookup f6 = some ⟨oc6, od6, .func (PySem.W.fnOf "format_heap" "format_heap" (L2.defArgs (topS 3)) (L2.defBody (topS 3)) (L2.defScope (topS 3)) .none kV6 dc6 pm6 an6 cd6 ct6), sl6⟩) (c6 : PySem.W.codeIn K cd6 "format_heap" = true) (k6 : PySem.W.keepIn K (.ref f6) = true)
    {f7 : Addr} {od7 an7 : Option Addr} {sl7 : Array (Option Value)} {oc7 kV7 dc7 pm7 cd7 ct7 : Value} (a7 : PySem.W.nsIn K mainGlobals "format_tree" = some (some (.ref f7))) (l7 : K.lookup f7 = some ⟨oc7, od7, .func (PySem.W.fnOf "format_tree" "format_tree" (L2.defArgs (topS 4)) (L2.defBody (topS 4)) (L2.defScope (topS 4)) .none kV7 dc7 pm7 an7 cd7 ct7), sl7⟩) (c7 : PySem.W.codeIn K cd7 "format_tree" = true) (k7 : PySem.W.keepIn K (.ref f7) = true)
    {f8 : Addr} {od8 an8 : Option Addr} {sl8 : Array (Option Value)} {oc8 kV8 dc8 pm8 cd8 ct8 : Value} (a8 : PySem.W.nsIn K mainGlobals "format_log" = some (some (.ref f8))) (l8 : K.lookup f8 = some ⟨oc8, od8, .func (PySem.W.fnOf "format_log" "format_log" (L2.defArgs (topS 5)) (L2.defBody (topS 5)) (L2.defScope (topS 5)) .none kV8 dc8 pm8 an8 cd8 ct8), sl8⟩) (c8 : PySem.W.codeIn K cd8 "format_log" = true) (k8 : PySem.W.keepIn K (.ref f8) = true)
    {f9 : Addr} {od9 an9 : Option Addr} {sl9 : Array (Option Value)} {oc9 kV9 dc9 pm9 cd9 ct9 : Value} (a9 : PySem.W.nsIn K mainGlobals "_law_order" = some (some (.ref f9))) (l9 : K.lookup f9 = some ⟨oc9, od9, .func (PySem.W.fnOf "_law_order" "_law_order" (L2.defArgs (topS 9)) (L2.defBody (topS 9)) (L2.defScope (topS 9)) .none kV9 dc9 pm9 an9 cd9 ct9), sl9⟩) (c9 : PySem.W.codeIn K cd9 "_law_order" = true) (k9 : PySem.W.keepIn K (.ref f9) = true)
    {f10 : Addr} {od10 an10 : Option Addr} {sl10 : Array (Option Value)} {oc10 kV10 dc10 pm10 cd10 ct10 : Value} (a10 : PySem.W.nsIn K mainGlobals "_law_size" = some (some (.ref f10))) (l10 : K.lookup f10 = some ⟨oc10, od10, .func (PySem.W.fnOf "_law_size" "_law_size" (L2.defArgs (topS 10)) (L2.defBody (topS 10)) (L2.defScope (topS 10)) .none kV10 dc10 pm10 an10 cd10 ct10), sl10⟩) (c10 : PySem.W.codeIn K cd10 "_law_size" = true) (k10 : PySem.W.keepIn K (.ref f10) = true)
    {f11 : Addr} {od11 an11 : Option Addr} {sl11 : Array (Option Value)} {oc11 kV11 dc11 pm11 cd11 ct11 : Value} (a11 : PySem.W.nsIn K mainGlobals "_law_links" = some (some (.ref f11))) (l11 : K.lookup f11 = some ⟨oc11, od11, .func (PySem.W.fnOf "_law_links" "_law_links" (L2.defArgs (topS 11)) (L2.defBody (topS 11)) (L2.defScope (topS 11)) .none kV11 dc11 pm11 an11 cd11 ct11), sl11⟩) (c11 : PySem.W.codeIn K cd11 "_law_links" = true) (k11 : PySem.W.keepIn K (.ref f11) = true)
    {f12 : Addr} {od12 an12 : Option Addr} {sl12 : Array (Option Value)} {oc12 kV12 dc12 pm12 cd12 ct12 : Value} (a12 : PySem.W.nsIn K mainGlobals "_law_tree_text" = some (some (.ref f12))) (l12 : K.lookup f12 = some ⟨oc12, od12, .func (PySem.W.fnOf "_law_tree_text" "_law_tree_text" (L2.defArgs (topS 16)) (L2.defBody (topS 16)) (L2.defScope (topS 16)) .none kV12 dc12 pm12 an12 cd12 ct12), sl12⟩) (c12 : PySem.W.codeIn K cd12 "_law_tree_text" = true) (k12 : PySem.W.keepIn K (.ref f12) = true)
    {f13 : Addr} {od13 an13 : Option Addr} {sl13 : Array (Option Value)} {oc13 kV13 dc13 pm13 cd13 ct13 : Value} (a13 : PySem.W.nsIn K mainGlobals "_law_heap" = some (some (.ref f13))) (l13 : K.lookup f13 = some ⟨oc13, od13, .func (PySem.W.fnOf "_law_heap" "_law_heap" (L2.defArgs (topS 12)) (L2.defBody (topS 12)) (L2.defScope (topS 12)) .none kV13 dc13 pm13 an13 cd13 ct13), sl13⟩) (c13 : PySem.W.codeIn K cd13 "_law_heap" = true) (k13 : PySem.W.keepIn K (.ref f13) = true)
    {f14 : Addr} {od14 an14 : Option Addr} {sl14 : Array (Option Value)} {oc14 kV14 dc14 pm14 cd14 ct14 : Value} (a14 : PySem.W.nsIn K mainGlobals "_law_children" = some (some (.ref f14))) (l14 : K.lookup f14 = some ⟨oc14, od14, .func (PySem.W.fnOf "_law_children" "_law_children" (L2.defArgs (topS 13)) (L2.defBody (topS 13)) (L2.defScope (topS 13)) .none kV14 dc14 pm14 an14 cd14 ct14), sl14⟩) (c14 : PySem.W.codeIn K cd14 "_law_children" = true) (k14 : PySem.W.keepIn K (.ref f14) = true)
    {f15 : Addr} {od15 an15 : Option Addr} {sl15 : Array (Option Value)} {oc15 kV15 dc15 pm15 cd15 ct15 : Value} (a15 : PySem.W.nsIn K mainGlobals "_law_right" = some (some (.ref f15))) (l15 : K.lookup f15 = some ⟨oc15, od15, .func (PySem.W.fnOf "_law_right" "_law_right" (L2.defArgs (topS 17)) (L2.defBody (topS 17)) (L2.defScope (topS 17)) .none kV15 dc15 pm15 an15 cd15 ct15), sl15⟩) (c15 : PySem.W.codeIn K cd15 "_law_right" = true) (k15 : PySem.W.keepIn K (.ref f15) = true)
    {f16 : Addr} {od16 an16 : Option Addr} {sl16 : Array (Option Value)} {oc16 kV16 dc16 pm16 cd16 ct16 : Value} (a16 : PySem.W.nsIn K mainGlobals "law" = some (some (.ref f16))) (l16 : K.lookup f16 = some ⟨oc16, od16, .func (PySem.W.fnOf "law" "law" (L2.defArgs (topS 18)) (L2.defBody (topS 18)) (L2.defScope (topS 18)) .none kV16 dc16 pm16 an16 cd16 ct16), sl16⟩) (c16 : PySem.W.codeIn K cd16 "law" = true) (k16 : PySem.W.keepIn K (.ref f16) = true)
    (z0 : PySem.W.nsIn K mainGlobals "str" = some none)
    (z1 : PySem.W.nsIn K mainGlobals "list" = some none)
    (z2 : PySem.W.nsIn K mainGlobals "len" = some none)
    (z3 : PySem.W.nsIn K mainGlobals "abs" = some none)
    (z4 : PySem.W.nsIn K mainGlobals "int" = some none)
    (z5 : PySem.W.nsIn K mainGlobals "enumerate" = some none)
    (z6 : PySem.W.nsIn K mainGlobals "zip" = some none)
    (z7 : PySem.W.nsIn K mainGlobals "range" = some none)
    (z8 : PySem.W.nsIn K mainGlobals "min" = some none)
    (z9 : PySem.W.nsIn K mainGlobals "max" = some none)
    (z10 : PySem.W.nsIn K mainGlobals "tuple" = some none)
    (z11 : PySem.W.nsIn K mainGlobals "repr" = some none)
    : ∃ fd : FuncData, (∀ (s : Shared) (v : Value), BindsTo s fd ⟨[v], []⟩ [("_law_script", v)]) ∧ ∀ base : Heap, K.In base → base.Ns mainGlobals mg → GFn l.prog w K mg base 4 fa fd ["_law_script"] sp_law := by
  have e := hfa.symm.trans (PySem.W.mg_of X G a16)
  cases e
  have m_str := PySem.W.mg_none_of X G z0
  have m_list := PySem.W.mg_none_of X G z1
  have m_len := PySem.W.mg_none_of X G z2
  have m_abs := PySem.W.mg_none_of X G z3
  have m_int := PySem.W.mg_none_of X G z4
  have m_enumerate := PySem.W.mg_none_of X G z5
  have m_zip := PySem.W.mg_none_of X G z6
  have m_range := PySem.W.mg_none_of X G z7
  have m_min := PySem.W.mg_none_of X G z8
  have m_max := PySem.W.mg_none_of X G z9
  have m_tuple := PySem.W.mg_none_of X G z10
  have m_repr := PySem.W.mg_none_of X G z11
  have F_joined := fnAt_mk X G a0 l0 c0 k0
  have F_line_of := fnAt_mk X G a1 l1 c1 k1
  have F__law_pen := fnAt_mk X G a2 l2 c2 k2
  have F__law_draw := fnAt_mk X G a3 l3 c3 k3
  have F__law_heap_text := fnAt_mk X G a4 l4 c4 k4
  have F__law_numbers_text := fnAt_mk X G a5 l5 c5 k5
  have F_format_heap := fnAt_mk X G a6 l6 c6 k6
  have F_format_tree := fnAt_mk X G a7 l7 c7 k7
  have F_format_log := fnAt_mk X G a8 l8 c8 k8
  have F__law_order := fnAt_mk X G a9 l9 c9 k9
  have F__law_size := fnAt_mk X G a10 l10 c10 k10
  have F__law_links := fnAt_mk X G a11 l11 c11 k11
  have F__law_tree_text := fnAt_mk X G a12 l12 c12 k12
  have F__law_heap := fnAt_mk X G a13 l13 c13 k13
  have F__law_children := fnAt_mk X G a14 l14 c14 k14
  have F__law_right := fnAt_mk X G a15 l15 c15 k15
  refine ⟨PySem.W.fnOf "law" "law" (L2.defArgs (topS 18)) (L2.defBody (topS 18)) (L2.defScope (topS 18)) .none kV16 dc16 pm16 an16 cd16 ct16, fun s v => .of_eq rfl, fun base KB GB => ?_⟩
  have c_joined_1 : Cal l.prog w K mg base 1 "joined" 1 [] [0] sp_joined := cal_of F_joined S_joined len_joined (gs_joined m_str) l_joined (fun _ _ _ _ _ us ws l1 l2 => match us, l1, ws, l2 with | [_], _, [], _ => rfl)
  have c_line_of_2 : Cal l.prog w K mg base 1 "line_of" 2 [] [0, 1] sp_line_of := cal_of F_line_of S_line_of len_line_of (gs_line_of m_str) l_line_of (fun _ _ _ _ _ us ws l1 l2 => match us, l1, ws, l2 with | [_, _], _, [], _ => rfl)
  have c__law_pen_1 : Cal l.prog w K mg base 1 "_law_pen" 1 [] [0] sp__law_pen := cal_of F__law_pen S__law_pen len__law_pen (gs__law_pen m_list) l__law_pen (fun _ _ _ _ _ us ws l1 l2 => match us, l1, ws, l2 with | [_], _, [], _ => rfl)
  have c__law_draw_2 : Cal l.prog w K mg base 1 "_law_draw" 2 [] [0, 1] sp__law_draw := cal_of F__law_draw S__law_draw len__law_draw (gs__law_draw m_len m_abs m_int) l__law_draw (fun _ _ _ _ _ us ws l1 l2 => match us, l1, ws, l2 with | [_, _], _, [], _ => rfl)
  have c__law_heap_text_1 : Cal l.prog w K mg base 1 "_law_heap_text" 1 [] [0] sp__law_heap_text := cal_of F__law_heap_text S__law_heap_text len__law_heap_text (gs__law_heap_text m_enumerate m_str m_int) l__law_heap_text (fun _ _ _ _ _ us ws l1 l2 => match us, l1, ws, l2 with | [_], _, [], _ => rfl)
  have c__law_numbers_text_1 : Cal l.prog w K mg base 1 "_law_numbers_text" 1 [] [0] sp__law_numbers_text := cal_of F__law_numbers_text S__law_numbers_text len__law_numbers_text (gs__law_numbers_text m_len m_str) l__law_numbers_text (fun _ _ _ _ _ us ws l1 l2 => match us, l1, ws, l2 with | [_], _, [], _ => rfl)
  have c_format_heap_1 : Cal l.prog w K mg base 2 "format_heap" 1 [] [0] sp_format_heap := cal_of F_format_heap S_format_heap len_format_heap (gs_format_heap m_zip c_line_of_2) l_format_heap (fun _ _ _ _ _ us ws l1 l2 => match us, l1, ws, l2 with | [_], _, [], _ => rfl)
  have c_format_heap_0_heap : Cal l.prog w K mg base 2 "format_heap" 0 ["heap"] [0] sp_format_heap := cal_of F_format_heap S_format_heap len_format_heap (gs_format_heap m_zip c_line_of_2) l_format_heap (fun _ _ _ _ _ us ws l1 l2 => match us, l1, ws, l2 with | [], _, [_], _ => rfl)
  have c_format_tree_1 : Cal l.prog w K mg base 2 "format_tree" 1 [] [0] sp_format_tree := cal_of F_format_tree S_format_tree len_format_tree (gs_format_tree c_joined_1) l_format_tree (fun _ _ _ _ _ us ws l1 l2 => match us, l1, ws, l2 with | [_], _, [], _ => rfl)
  have c_format_tree_0_tree : Cal l.prog w K mg base 2 "format_tree" 0 ["tree"] [0] sp_format_tree := cal_of F_format_tree S_format_tree len_format_tree (gs_format_tree c_joined_1) l_format_tree (fun _ _ _ _ _ us ws l1 l2 => match us, l1, ws, l2 with | [], _, [_], _ => rfl)
  have c_format_log_1 : Cal l.prog w K mg base 2 "format_log" 1 [] [0] sp_format_log := cal_of F_format_log S_format_log len_format_log (gs_format_log c_joined_1) l_format_log (fun _ _ _ _ _ us ws l1 l2 => match us, l1, ws, l2 with | [_], _, [], _ => rfl)
  have c_format_log_0_log : Cal l.prog w K mg base 2 "format_log" 0 ["log"] [0] sp_format_log := cal_of F_format_log S_format_log len_format_log (gs_format_log c_joined_1) l_format_log (fun _ _ _ _ _ us ws l1 l2 => match us, l1, ws, l2 with | [], _, [_], _ => rfl)
  have c__law_order_2 : Cal l.prog w K mg base 2 "_law_order" 2 [] [0, 1] sp__law_order := cal_of F__law_order S__law_order len__law_order (gs__law_order m_range m_list m_len c__law_draw_2) l__law_order (fun _ _ _ _ _ us ws l1 l2 => match us, l1, ws, l2 with | [_, _], _, [], _ => rfl)
  have c__law_size_2 : Cal l.prog w K mg base 2 "_law_size" 2 [] [0, 1] sp__law_size := cal_of F__law_size S__law_size len__law_size (gs__law_size m_min c__law_draw_2) l__law_size (fun _ _ _ _ _ us ws l1 l2 => match us, l1, ws, l2 with | [_, _], _, [], _ => rfl)
  have c__law_links_2 : Cal l.prog w K mg base 2 "_law_links" 2 [] [0, 1] sp__law_links := cal_of F__law_links S__law_links len__law_links (gs__law_links m_range m_max m_len m_min m_int c__law_draw_2) l__law_links (fun _ _ _ _ _ us ws l1 l2 => match us, l1, ws, l2 with | [_, _], _, [], _ => rfl)
  have c__law_tree_text_1 : Cal l.prog w K mg base 2 "_law_tree_text" 1 [] [0] sp__law_tree_text := cal_of F__law_tree_text S__law_tree_text len__law_tree_text (gs__law_tree_text c__law_numbers_text_1) l__law_tree_text (fun _ _ _ _ _ us ws l1 l2 => match us, l1, ws, l2 with | [_], _, [], _ => rfl)
  have c__law_heap_2 : Cal l.prog w K mg base 3 "_law_heap" 2 [] [0, 1] sp__law_heap := cal_of F__law_heap S__law_heap len__law_heap (gs__law_heap m_min m_range m_tuple c__law_size_2 c__law_links_2 c__law_draw_2 c__law_order_2) l__law_heap (fun _ _ _ _ _ us ws l1 l2 => match us, l1, ws, l2 with | [_, _], _, [], _ => rfl)
  have c__law_children_2 : Cal l.prog w K mg base 3 "_law_children" 2 [] [0, 1] sp__law_children := cal_of F__law_children S__law_children len__law_children (gs__law_children m_range m_len m_tuple c__law_size_2 c__law_order_2 c__law_draw_2) l__law_children (fun _ _ _ _ _ us ws l1 l2 => match us, l1, ws, l2 with | [_, _], _, [], _ => rfl)
  have c__law_right_3 : Cal l.prog w K mg base 3 "_law_right" 3 [] [0, 1, 2] sp__law_right := cal_of F__law_right S__law_right len__law_right (gs__law_right m_repr c__law_heap_text_1 c__law_tree_text_1 c__law_numbers_text_1 c_format_heap_1 c_format_tree_1 c_format_log_1 c_format_heap_0_heap c_format_tree_0_tree c_format_log_0_log) l__law_right (fun _ _ _ _ _ us ws l1 l2 => match us, l1, ws, l2 with | [_, _, _], _, [], _ => rfl)
  exact gfn_of l16 c16 S_law len_law (gs_law m_range m_tuple c__law_pen_1 c__law_heap_2 c__law_children_2 c__law_draw_2 c__law_right_3) l_law

theorem law_ok (ns : List Int) (hl : ns.length ≤ 63) : sp_law [.scr ns] (fun _ => none) (fun v _ => v = .bl true) (fun _ _ => False) := ⟨hl, fun _ => rfl, rfl⟩
end G
open PySem PySem.W PyProof.Rows
set_option maxHeartbeats 0 in
theorem PySem.Challenge.cw_slotfall_k81_texts_written_holds : PySem.Challenge.rw_slotfall_k81_texts_written.Holds := by
  w_on; o_law; k_head; (case hw => w_witness2)
  k_fill
  refine G.gwalk_of (l := PySem.Challenge.rw_slotfall_k81_texts_written) (n := 63) (k := 4) (x := "_law_script") (sp := G.sp_law) rfl (by decide) rfl ⟨rfl, by decide, by decide⟩ (fun w h Y => PySem.W.kIn_of Y) ?F (fun ns hl => G.law_ok ns hl)
  case F =>
    intro w mg fa h KX Gn hmg
    refine' G.all_mk KX Gn hmg ?a0 ?l0 ?c0 ?k0 ?a1 ?l1 ?c1 ?k1 ?a2 ?l2 ?c2 ?k2 ?a3 ?l3 ?c3 ?k3 ?a4 ?l4 ?c4 ?k4 ?a5 ?l5 ?c5 ?k5 ?a6 ?l6 ?c6 ?k6 ?a7 ?l7 ?c7 ?k7 ?a8 ?l8 ?c8 ?k8 ?a9 ?l9 ?c9 ?k9 ?a10 ?l10 ?c10 ?k10 ?a11 ?l11 ?c11 ?k11 ?a12 ?l12 ?c12 ?k12 ?a13 ?l13 ?c13 ?k13 ?a14 ?l14 ?c14 ?k14 ?a15 ?l15 ?c15 ?k15 ?a16 ?l16 ?c16 ?k16 ?z0 ?z1 ?z2 ?z3 ?z4 ?z5 ?z6 ?z7 ?z8 ?z9 ?z10 ?z11
    (case a0 => k_is); (case l0 => k_is); (case c0 => k_is); (case k0 => k_is); (case a1 => k_is); (case l1 => k_is); (case c1 => k_is); (case k1 => k_is)
    (case a2 => k_is); (case l2 => k_is); (case c2 => k_is); (case k2 => k_is); (case a3 => k_is); (case l3 => k_is); (case c3 => k_is); (case k3 => k_is)
    (case a4 => k_is); (case l4 => k_is); (case c4 => k_is); (case k4 => k_is); (case a5 => k_is); (case l5 => k_is); (case c5 => k_is); (case k5 => k_is)
    (case a6 => k_is); (case l6 => k_is); (case c6 => k_is); (case k6 => k_is); (case a7 => k_is); (case l7 => k_is); (case c7 => k_is); (case k7 => k_is)
    (case a8 => k_is); (case l8 => k_is); (case c8 => k_is); (case k8 => k_is); (case a9 => k_is); (case l9 => k_is); (case c9 => k_is); (case k9 => k_is)
    (case a10 => k_is); (case l10 => k_is); (case c10 => k_is); (case k10 => k_is); (case a11 => k_is); (case l11 => k_is); (case c11 => k_is); (case k11 => k_is)
    (case a12 => k_is); (case l12 => k_is); (case c12 => k_is); (case k12 => k_is); (case a13 => k_is); (case l13 => k_is); (case c13 => k_is); (case k13 => k_is)
    (case a14 => k_is); (case l14 => k_is); (case c14 => k_is); (case k14 => k_is); (case a15 => k_is); (case l15 => k_is); (case c15 => k_is); (case k15 => k_is)
    (case a16 => k_is); (case l16 => k_is); (case c16 => k_is); (case k16 => k_is); (case z0 => k_is); (case z1 => k_is); (case z2 => k_is); (case z3 => k_is)
    (case z4 => k_is); (case z5 => k_is); (case z6 => k_is); (case z7 => k_is); (case z8 => k_is); (case z9 => k_is); (case z10 => k_is); (case z11 => k_is)
