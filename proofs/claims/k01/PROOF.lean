import PyProof.Rows.All
import Wide.All
import OpenK.AllK
import Wide.FinOn
import HandS.ForMost
import HandS.Walk
import HandS.Wide
import HandS.Lambda
import HandS.TupAny
import HandS.TupMul
import HandS.Style
import HandS.Flow
import HandS.Deep
import HandS.TupLen
import HandS.IsInst
import HandS.More
import KE.GoesEnum
import HandS.Zip
import HandS.Conv
import HandS.SortInts
import HandS.WordsDict
import HandS.Text
import HandS.ExcInit
import HandS.TryMany
import HandS.ExcField
import HandS.EndBits
import HandS.Head0
import HandS.Head1
import HandS.Head2
import HandS.HeadHook4
import PySem.Challenge.RW_restcounts_k01_moduli_and_digits
set_option Elab.async false
set_option linter.all false
set_option maxRecDepth 100000
set_option maxHeartbeats 4000000
namespace DL
open PySem PySem.Spec PyProof.Rows L2

/-- data, without the heap (ktup, klst: a tuple, a list that was written, or is the script) -/
inductive DV where
  | non | bl (b : Bool) | int (i : Int) | str (x : Str) | ref (a : Addr) | ty (n : String)
  | tup (xs : List DV) | ktup (xs : List DV) | lst (xs : List DV) | klst (xs : List DV)
  | dk (kvs : List (Key × DV)) | dt (kvs : List (List Key × DV))
  | ins (C : Addr) (fs : List (Str × DV))

mutual
/-- a value that holds data, all of it in the frozen heap F -/
inductive Hold (K : PySem.W.Frag) (F : Hp) : V → DV → Prop
  | non : Hold K F .non .non
  | bl (b : Bool) : Hold K F (.bl b) (.bl b)
  | int (i : Int) : Hold K F (.int i) (.int i)
  | str (x : Str) : Hold K F (.str x) (.str x)
  | ref (a : Addr) : Hold K F (.ref a) (.ref a)
  | ty (n : String) : Hold K F (.ty n) (.ty n)
  | tup {a : Addr} {vs : List V} {xs : List DV} : F a = some (.tup vs) → HoldAll K F vs xs → Hold K F (.ref a) (.tup xs)
  | ktup {a : Addr} {vs : List V} {xs : List DV} {o : Obj} {its : Array Value} {n : Nat} : K.lookup a = some o → o.cls = .type "tuple" → o.data = .seq its n → its.size ≤ sizeLine → Vals vs its.toList → HoldAll K F vs xs → Hold K F (.ref a) (.ktup xs)
  | lst {a : Addr} {vs : List V} {xs : List DV} : F a = some (.lst vs) → HoldAll K F vs xs → Hold K F (.ref a) (.lst xs)
  | klst {a : Addr} {vs : List V} {xs : List DV} : SqL K F a vs → HoldAll K F vs xs → Hold K F (.ref a) (.klst xs)
  | dk {a : Addr} {us : List (Key × V)} {kvs : List (Key × DV)} : Rd F a (.dK us) → us.map (·.1) = kvs.map (·.1) → HoldAll K F (us.map (·.2)) (kvs.map (·.2)) → Hold K F (.ref a) (.dk kvs)
  | dt {a : Addr} {us : List (List Key × V)} {kvs : List (List Key × DV)} : Rd F a (.dT us) → us.map (·.1) = kvs.map (·.1) → HoldAll K F (us.map (·.2)) (kvs.map (·.2)) → Hold K F (.ref a) (.dt kvs)
  | ins {a C dx : Addr} {us : List (Str × V)} {fs : List (Str × DV)} : F a = some (.ins C dx us) → us.map (·.1) = fs.map (·.1) → HoldAll K F (us.map (·.2)) (fs.map (·.2)) → Hold K F (.ref a) (.ins C fs)
inductive HoldAll (K : PySem.W.Frag) (F : Hp) : List V → List DV → Prop
  | nil : HoldAll K F [] []
  | cons {v : V} {vs : List V} {d : DV} {ds : List DV} : Hold K F v d → HoldAll K F vs ds → HoldAll K F (v :: vs) (d :: ds)
end

section
variable {K : PySem.W.Frag} {F F' : Hp}
/-- no table -/
def ntb : HO → Bool
  | .tbl _ => false
  | _ => true
/-- what is frozen is as it was, but for tables; a dict may be locked, or not -/
structure Ext (F F' : Hp) : Prop where
  rd' : ∀ {a : Addr} {u : HO}, ntb u = true → Rd F a u → Rd F' a u
  lst : ∀ {a : Addr} {xs : List V}, F a = some (.lst xs) → F' a = some (.lst xs)
  tup : ∀ {a : Addr} {xs : List V}, F a = some (.tup xs) → F' a = some (.tup xs)
  ins : ∀ {a C dx : Addr} {us : List (Str × V)}, F a = some (.ins C dx us) → F' a = some (.ins C dx us)
theorem Ext.rd (x : Ext F F') {a : Addr} {u : HO} (h : Rd F a u) (n : ntb u = true := by rfl) : Rd F' a u := x.rd' n h
theorem Ext.of (s : Same F F') : Ext F F' := ⟨fun _ h => by
  rcases h with h | ⟨o, h⟩
  · exact .inl (s _ _ h)
  · exact .inr ⟨o, s _ _ h⟩, fun h => s _ _ h, fun h => s _ _ h, fun h => s _ _ h⟩
theorem Ext.refl (F : Hp) : Ext F F := ⟨fun _ => id, id, id, id⟩
theorem Ext.trans {F1 F2 F3 : Hp} (a : Ext F1 F2) (b : Ext F2 F3) : Ext F1 F3 := ⟨fun n h => b.rd' n (a.rd' n h), fun h => b.lst (a.lst h), fun h => b.tup (a.tup h), fun h => b.ins (a.ins h)⟩
theorem sqT_mono (s : Ext F F') {a : Addr} {xs : List V} (h : SqT K F a xs) : SqT K F' a xs := by
  rcases h with h | h
  · exact .inl (s.rd h)
  · exact .inr h
theorem sqL_mono (s : Ext F F') {a : Addr} {xs : List V} (h : SqL K F a xs) : SqL K F' a xs := by
  rcases h with h | h
  · exact .inl (s.rd h)
  · exact .inr h
mutual
theorem Hold.mono (s : Ext F F') : ∀ {v : V} {d : DV}, Hold K F v d → Hold K F' v d
  | _, _, .non => .non
  | _, _, .bl b => .bl b
  | _, _, .int i => .int i
  | _, _, .str x => .str x
  | _, _, .ref a => .ref a
  | _, _, .ty n => .ty n
  | _, _, .tup h r => .tup (s.tup h) (HoldAll.mono s r)
  | _, _, .ktup h1 h2 h3 h4 h5 r => .ktup h1 h2 h3 h4 h5 (HoldAll.mono s r)
  | _, _, .lst h r => .lst (s.lst h) (HoldAll.mono s r)
  | _, _, .klst h r => .klst (sqL_mono s h) (HoldAll.mono s r)
  | _, _, .dk h e r => .dk (s.rd h) e (HoldAll.mono s r)
  | _, _, .dt h e r => .dt (s.rd h) e (HoldAll.mono s r)
  | _, _, .ins h e r => .ins (s.ins h) e (HoldAll.mono s r)
theorem HoldAll.mono (s : Ext F F') : ∀ {vs : List V} {ds : List DV}, HoldAll K F vs ds → HoldAll K F' vs ds
  | _, _, .nil => .nil
  | _, _, .cons h t => .cons (Hold.mono s h) (HoldAll.mono s t)
end
/-- a tuple's items, wherever it stands -/
theorem Hold.sqT {v : V} {xs : List DV} (h : Hold K F v (.tup xs) ∨ Hold K F v (.ktup xs)) : ∃ a vs, v = .ref a ∧ SqT K F a vs ∧ HoldAll K F vs xs := by
  rcases h with h | h
  · cases h with
    | tup h r => exact ⟨_, _, rfl, SqT.of h, r⟩
  · cases h with
    | ktup h1 h2 h3 h4 h5 r => exact ⟨_, _, rfl, .inr ⟨_, _, _, h1, h2, h3, h4, h5⟩, r⟩
theorem HoldAll.length : ∀ {vs : List V} {ds : List DV}, HoldAll K F vs ds → vs.length = ds.length
  | _, _, .nil => rfl
  | _, _, .cons _ t => by rw [List.length_cons, List.length_cons, HoldAll.length t]
theorem HoldAll.get : ∀ {vs : List V} {ds : List DV} {i : Nat} {v : V}, HoldAll K F vs ds → vs[i]? = some v → ∃ d, ds[i]? = some d ∧ Hold K F v d
  | _, _, _, _, .nil, e => by simp at e
  | _, _, 0, v, .cons h t, e => by
    rw [List.getElem?_cons_zero] at e
    cases e
    exact ⟨_, rfl, h⟩
  | _, _, i + 1, v, .cons h t, e => by
    obtain ⟨d, h1, h2⟩ := HoldAll.get (i := i) (v := v) t (by simpa using e)
    exact ⟨d, by simpa using h1, h2⟩
theorem HoldAll.of_get : ∀ {vs : List V} {ds : List DV} {i : Nat} {d : DV}, HoldAll K F vs ds → ds[i]? = some d → ∃ v, vs[i]? = some v ∧ Hold K F v d
  | _, _, _, _, .nil, e => by simp at e
  | _, _, 0, d, .cons h t, e => by
    rw [List.getElem?_cons_zero] at e
    cases e
    exact ⟨_, rfl, h⟩
  | _, _, i + 1, d, .cons h t, e => by
    obtain ⟨v, h1, h2⟩ := HoldAll.of_get (i := i) (d := d) t (by simpa using e)
    exact ⟨v, by simpa using h1, h2⟩
theorem HoldAll.append : ∀ {vs us : List V} {ds es : List DV}, HoldAll K F vs ds → HoldAll K F us es → HoldAll K F (vs ++ us) (ds ++ es)
  | _, _, _, _, .nil, h => h
  | _, _, _, _, .cons h t, g => .cons h (HoldAll.append t g)
theorem HoldAll.one {v : V} {d : DV} (h : Hold K F v d) : HoldAll K F [v] [d] := .cons h .nil
theorem HoldAll.take : ∀ {vs : List V} {ds : List DV} (n : Nat), HoldAll K F vs ds → HoldAll K F (vs.take n) (ds.take n)
  | _, _, 0, _ => .nil
  | _, _, _ + 1, .nil => .nil
  | _, _, n + 1, .cons h t => .cons h (HoldAll.take n t)
theorem HoldAll.drop : ∀ {vs : List V} {ds : List DV} (n : Nat), HoldAll K F vs ds → HoldAll K F (vs.drop n) (ds.drop n)
  | _, _, 0, h => h
  | _, _, _ + 1, .nil => .nil
  | _, _, n + 1, .cons _ t => HoldAll.drop n t
theorem HoldAll.set : ∀ {vs : List V} {ds : List DV} {v : V} {d : DV} (i : Nat), HoldAll K F vs ds → Hold K F v d → HoldAll K F (vs.set i v) (ds.set i d)
  | _, _, _, _, _, .nil, _ => .nil
  | _, _, _, _, 0, .cons _ t, h => .cons h t
  | _, _, _, _, i + 1, .cons g t, h => .cons g (HoldAll.set i t h)
theorem HoldAll.reverse {vs : List V} {ds : List DV} (h : HoldAll K F vs ds) : HoldAll K F vs.reverse ds.reverse := by
  induction vs generalizing ds with
  | nil => cases h; exact .nil
  | cons v vs ih =>
    cases h with
    | cons a t =>
      rw [List.reverse_cons, List.reverse_cons]
      exact (ih t).append (.one a)
theorem HoldAll.dropLast {vs : List V} {ds : List DV} (h : HoldAll K F vs ds) : HoldAll K F vs.dropLast ds.dropLast := by
  rw [List.dropLast_eq_take, List.dropLast_eq_take, h.length]
  exact h.take _
theorem HoldAll.erase : ∀ {vs : List V} {ds : List DV} (i : Nat), HoldAll K F vs ds → HoldAll K F (vs.eraseIdx i) (ds.eraseIdx i)
  | _, _, _, .nil => .nil
  | _, _, 0, .cons _ t => t
  | _, _, i + 1, .cons g t => .cons g (HoldAll.erase i t)
theorem HoldAll.ints : ∀ (ns : List Int), HoldAll K F (ns.map V.int) (ns.map DV.int)
  | [] => .nil
  | n :: r => .cons (.int n) (HoldAll.ints r)
theorem HoldAll.of_ints : ∀ {vs : List V} {ns : List Int}, HoldAll K F vs (ns.map DV.int) → vs = ns.map V.int
  | _, [], h => by cases h; rfl
  | _, n :: r, h => by
    cases h with
    | cons a t =>
      cases a
      rw [HoldAll.of_ints t]
      rfl
theorem HoldAll.of_strs : ∀ {vs : List V} {ns : List Str}, HoldAll K F vs (ns.map DV.str) → vs = ns.map V.str
  | _, [], h => by cases h; rfl
  | _, n :: r, h => by
    cases h with
    | cons a t =>
      cases a
      rw [HoldAll.of_strs t]
      rfl
theorem HoldAll.of_bls : ∀ {vs : List V} {ns : List Bool}, HoldAll K F vs (ns.map DV.bl) → vs = ns.map V.bl
  | _, [], h => by cases h; rfl
  | _, n :: r, h => by
    cases h with
    | cons a t =>
      cases a
      rw [HoldAll.of_bls t]
      rfl
end

/-- what a name of the def owns alone -/
inductive OC where
  | l (xs : List DV) | k (kvs : List (Key × DV)) | t (kvs : List (List Key × DV)) | ins (C : Addr) (fs : List (Str × DV)) | pen
/-- a slot: unknown, data, or an object owned (true: handed in, and handed back) -/
inductive Cell where
  | un | d (x : DV) | o (b : Bool) (c : OC)
def OC.frz : OC → Option DV
  | .l xs => some (.lst xs)
  | .k kvs => some (.dk kvs)
  | .t kvs => some (.dt kvs)
  | .ins C fs => some (.ins C fs)
  | .pen => none
def Cell.frz : Cell → Option DV
  | .d x => some x
  | .o false c => c.frz
  | _ => none
/-- to be read, not kept -/
def Cell.view : Cell → Option DV
  | .d x => some x
  | .o _ c => c.frz
  | _ => none
def Cell.own : Cell → Bool
  | .o _ _ => true
  | _ => false
def Cell.bor : Cell → Bool
  | .o true _ => true
  | _ => false

structure Base where
  H0 : Hp
  F0 : Hp
  bor : List Addr
  loc : List Addr
  lk : List (Addr × Obj × HO)
  bs : List (Nat × Addr)

section
variable (B : Base) (K : PySem.W.Frag) (F H : Hp) (n : Nat)
def PenAt (a : Addr) : Prop := ∃ (lc : Addr) (cs : List Int) (i g k f : Int),
  H a = some (.dK [(.inr "cells", .ref lc), (.inr "at", .int i), (.inr "digits", .int g), (.inr "count", .int k), (.inr "fold", .int f)]) ∧ Hold K F (.ref lc) (.lst (cs.map DV.int)) ∧ 0 ≤ i ∧ 0 ≤ g ∧ 0 ≤ k ∧ k ≤ (n : Int) ∧ 0 ≤ f ∧ f < 2147483587
def OCOk (a : Addr) : OC → Prop
  | .l xs => ∃ vs, H a = some (.lst vs) ∧ HoldAll K F vs xs
  | .k kvs => ∃ us : List (Key × V), H a = some (.dK us) ∧ us.map (·.1) = kvs.map (·.1) ∧ HoldAll K F (us.map (·.2)) (kvs.map (·.2))
  | .t kvs => ∃ us : List (List Key × V), H a = some (.dT us) ∧ us.map (·.1) = kvs.map (·.1) ∧ HoldAll K F (us.map (·.2)) (kvs.map (·.2))
  | .ins C fs => ∃ (dx : Addr) (us : List (Str × V)), H a = some (.ins C dx us) ∧ us.map (·.1) = fs.map (·.1) ∧ HoldAll K F (us.map (·.2)) (fs.map (·.2))
  | .pen => PenAt K F H n a
def CellOk (o : Option V) : Cell → Prop
  | .un => True
  | .d x => ∃ v, o = some v ∧ Hold K F v x
  | .o b c => ∃ a, o = some (.ref a) ∧ F a = none ∧ OCOk K F H n a c ∧ (b = true → a ∈ B.bor) ∧ (b = false → B.H0 a = none ∨ a ∈ B.loc)
end
/-- frozen as it was; a tuple may be frozen later, a table of code objects taken out -/
def lax : HO → Bool
  | .tup _ => true
  | .tbl _ => true
  | _ => false
def TF (H0 F0 F' : Hp) (a : Addr) : Prop := F' a = F0 a ∨ ∃ o, H0 a = some o ∧ lax o = true
/-- as it was; a table of code objects may grow -/
def Stay (o : HO) (o' : Option HO) : Prop := o' = some o ∨ ∃ ps more : Array Value, o = .tbl ps ∧ o' = some (.tbl (ps ++ more))
theorem Stay.refl (o : HO) : Stay o (some o) := .inl rfl
theorem Stay.eq {o : HO} {o' : Option HO} (h : Stay o o') (n : ∀ ps, o ≠ .tbl ps) : o' = some o := h.elim id fun ⟨ps, _, e, _⟩ => absurd e (n ps)
theorem Stay.trans {o o1 : HO} {o2 : Option HO} (h : Stay o (some o1)) (g : Stay o1 o2) : Stay o o2 := by
  rcases h with h | ⟨ps, more, rfl, h⟩
  · cases h
    exact g
  · cases h
    rcases g with g | ⟨ps2, more2, e, g⟩
    · exact .inr ⟨ps, more, rfl, g⟩
    · cases e
      exact .inr ⟨ps, more ++ more2, rfl, by rw [g, Array.append_assoc]⟩
theorem Stay.keep {o : HO} {o' o'' : Option HO} (h : Stay o o') (k : ∀ o1, o' = some o1 → o'' = some o1) : Stay o o'' := by
  rcases h with h | ⟨ps, more, e, h⟩
  · exact .inl (k _ h)
  · exact .inr ⟨ps, more, e, k _ h⟩
theorem Stay.tup {o : HO} {vs : List V} (h : Stay o (some (.tup vs))) : o = .tup vs := by
  rcases h with h | ⟨ps, more, rfl, h⟩
  · exact (Option.some.inj h).symm
  · cases h
theorem Stay.lax {o o' : HO} (h : Stay o (some o')) (l : lax o' = true) : lax o = true := by
  rcases h with h | ⟨ps, more, rfl, h⟩
  · cases h
    exact l
  · rfl
theorem Stay.isSome {o : HO} {o' : Option HO} (h : Stay o o') : o'.isSome = true := by
  rcases h with h | ⟨_, _, _, h⟩ <;> rw [h] <;> rfl
def LIM : Nat := 2 ^ 4000
/-- what is wanted of errors: by the heap, by data; the tables of code objects; how many draws there may be -/
structure ZX where
  E : XK
  G : Addr → List (Str × DV) → List Cell → Prop
  T : List (Addr × Str)
  M : Nat
  ml : M ≤ LIM
/-- the state: the slots' data; what was there at the entry stands, but for what was handed in to be changed -/
structure Core (B : Base) (K : PySem.W.Frag) (T : List (Addr × Str)) (F H : Hp) (n : Nat) (σ : L2.St) (env : List Cell) : Prop where
  same : Same F H
  len : σ.length = env.length
  at_ : ∀ (i : Nat) (c : Cell), env[i]? = some c → ∃ o, σ[i]? = some o ∧ CellOk B K F H n o c
  sep : ∀ (i j : Nat) (ci cj : Cell) (a : Addr), env[i]? = some ci → env[j]? = some cj → ci.own = true → cj.own = true → σ[i]? = some (some (.ref a)) → σ[j]? = some (some (.ref a)) → i = j
  fr : ∀ a o, B.H0 a = some o → a ∉ B.bor → a ∉ B.loc → Stay o (H a)
  ff : ∀ a, (B.H0 a).isSome = true → a ∉ B.bor → a ∉ B.loc → TF B.H0 B.F0 F a
  bd : ∀ a ∈ B.bor, (B.H0 a).isSome = true
  lk : ∀ p ∈ B.lk, F p.1 = some (.frz p.2.1 p.2.2)
  bs : ∀ p ∈ B.bs, (∃ oc, env[p.1]? = some (.o true oc)) ∧ σ[p.1]? = some (some (.ref p.2))
  dom : ∀ a, (B.H0 a).isSome = true → (H a).isSome = true
  tb : LamX.Tabs T H
/-- an error's dict -/
def ExcAt (K : PySem.W.Frag) (F H : Hp) (d : Addr) (fs : List (Str × DV)) : Prop := ∃ us : List (Str × V), H d = some (.xd us) ∧ us.map (·.1) = fs.map (·.1) ∧ HoldAll K F (us.map (·.2)) (fs.map (·.2))
/-- an error of the callee's or of this def's own is wanted -/
def Lnk (B : Base) (K : PySem.W.Frag) (Z : ZX) (F : Hp) (n : Nat) : Prop := ∀ (F' H' : Hp) (n' : Nat) (σ' : L2.St) (e : List Cell) (C d : Addr) (fs : List (Str × DV)),
  Core B K Z.T F' H' n' σ' e → Ext F F' → n ≤ n' → n' ≤ Z.M → ExcAt K F' H' d fs → B.H0 d = none → Z.G C fs e → Z.E (.ref C) (some d) H'
structure SOk (B : Base) (K : PySem.W.Frag) (Z : ZX) (F H : Hp) (n : Nat) (σ : L2.St) (env : List Cell) : Prop extends Core B K Z.T F H n σ env where
  lnk : Lnk B K Z F n
theorem Lnk.mono {B : Base} {K : PySem.W.Frag} {Z : ZX} {F F' : Hp} {n n' : Nat} (l : Lnk B K Z F n) (x : Ext F F') (hn : n ≤ n') : Lnk B K Z F' n' :=
  fun F2 H2 n2 σ2 e C d fs c x2 h2 => l F2 H2 n2 σ2 e C d fs c (x.trans x2) (Nat.le_trans hn h2)
/-- the tables stand where all but what is owned stands -/
theorem tabs_keep {T : List (Addr × Str)} {H H' : Hp} (t : LamX.Tabs T H) (e : ∀ b o, H b = some o → ((∃ ps, o = .tbl ps) ∨ ∃ q, o = LamX.CodeO b q) → H' b = some o) : LamX.Tabs T H' := fun p hp => by
  obtain ⟨ps, h1, h2, h3⟩ := t p hp
  refine ⟨ps, e _ _ h1 (.inl ⟨ps, rfl⟩), h2, fun pos cv hc => ?_⟩
  obtain ⟨c, e1, e2⟩ := h3 pos cv hc
  exact ⟨c, e1, e _ _ e2 (.inr ⟨_, rfl⟩)⟩

section
variable {B : Base} {K : PySem.W.Frag} {Z : ZX} {Tz : List (Addr × Str)} {F F' H H' : Hp} {n n' : Nat} {σ : L2.St} {env : List Cell} {a : Addr}
theorem PenAt.mono (s : Ext F F') (e : H' a = H a) (hn : n ≤ n') (h : PenAt K F H n a) : PenAt K F' H' n' a := by
  obtain ⟨lc, cs, i, g, k, f, h1, h2, h3, h4, h5, h6, h7, h8⟩ := h
  exact ⟨lc, cs, i, g, k, f, e.trans h1, h2.mono s, h3, h4, h5, by omega, h7, h8⟩
theorem OCOk.mono (s : Ext F F') (e : H' a = H a) (hn : n ≤ n') : ∀ {c : OC}, OCOk K F H n a c → OCOk K F' H' n' a c
  | .l _, ⟨vs, h1, h2⟩ => ⟨vs, e.trans h1, h2.mono s⟩
  | .k _, ⟨us, h1, h2, h3⟩ => ⟨us, e.trans h1, h2, h3.mono s⟩
  | .t _, ⟨us, h1, h2, h3⟩ => ⟨us, e.trans h1, h2, h3.mono s⟩
  | .ins _ _, ⟨dx, us, h1, h2, h3⟩ => ⟨dx, us, e.trans h1, h2, h3.mono s⟩
  | .pen, h => PenAt.mono s e hn h
theorem OCOk.there : ∀ {c : OC}, OCOk K F H n a c → ∃ o, H a = some o
  | .l _, ⟨vs, h1, _⟩ => ⟨_, h1⟩
  | .k _, ⟨us, h1, _⟩ => ⟨_, h1⟩
  | .t _, ⟨us, h1, _⟩ => ⟨_, h1⟩
  | .ins _ _, ⟨dx, us, h1, _⟩ => ⟨_, h1⟩
  | .pen, ⟨lc, cs, i, g, k, f, h1, _⟩ => ⟨_, h1⟩
theorem OCOk.nlax : ∀ {c : OC}, OCOk K F H n a c → ∀ {o}, H a = some o → lax o = false
  | .l _, ⟨vs, h1, _⟩, o, e => by rw [h1] at e; cases e; rfl
  | .k _, ⟨us, h1, _⟩, o, e => by rw [h1] at e; cases e; rfl
  | .t _, ⟨us, h1, _⟩, o, e => by rw [h1] at e; cases e; rfl
  | .ins _ _, ⟨dx, us, h1, _⟩, o, e => by rw [h1] at e; cases e; rfl
  | .pen, ⟨lc, cs, i, g, k, f, h1, _⟩, o, e => by rw [h1] at e; cases e; rfl
theorem OCOk.ntup : ∀ {c : OC}, OCOk K F H n a c → ∀ vs, H a ≠ some (.tup vs)
  | .l _, ⟨vs, h1, _⟩, _ => fun e => by rw [h1] at e; cases e
  | .k _, ⟨us, h1, _⟩, _ => fun e => by rw [h1] at e; cases e
  | .t _, ⟨us, h1, _⟩, _ => fun e => by rw [h1] at e; cases e
  | .ins _ _, ⟨dx, us, h1, _⟩, _ => fun e => by rw [h1] at e; cases e
  | .pen, ⟨lc, cs, i, g, k, f, h1, _⟩, _ => fun e => by rw [h1] at e; cases e
theorem OCOk.ntab : ∀ {c : OC}, OCOk K F H n a c → ∀ o, H a = some o → ¬ ((∃ ps, o = .tbl ps) ∨ ∃ q, o = LamX.CodeO a q)
  | .l _, ⟨vs, h1, _⟩, _ => fun e z => by rw [h1] at e; cases e; rcases z with ⟨_, z⟩ | ⟨_, z⟩ <;> cases z
  | .k _, ⟨us, h1, _⟩, _ => fun e z => by rw [h1] at e; cases e; rcases z with ⟨_, z⟩ | ⟨_, z⟩ <;> cases z
  | .t _, ⟨us, h1, _⟩, _ => fun e z => by rw [h1] at e; cases e; rcases z with ⟨_, z⟩ | ⟨_, z⟩ <;> cases z
  | .ins _ _, ⟨dx, us, h1, _⟩, _ => fun e z => by rw [h1] at e; cases e; rcases z with ⟨_, z⟩ | ⟨_, z⟩ <;> cases z
  | .pen, ⟨lc, cs, i, g, k, f, h1, _⟩, _ => fun e z => by rw [h1] at e; cases e; rcases z with ⟨_, z⟩ | ⟨_, z⟩ <;> cases z
theorem OCOk.ntbl {c : OC} (h : OCOk K F H n a c) {o : HO} (e : H a = some o) : ∀ ps, o ≠ .tbl ps := fun ps z => h.ntab o e (.inl ⟨ps, z⟩)
/-- own cells at other addresses -/
theorem CellOk.mono {o : Option V} (s : Ext F F') (hn : n ≤ n') : ∀ {c : Cell}, CellOk B K F H n o c → (∀ a, o = some (.ref a) → c.own = true → H' a = H a ∧ F' a = none) → CellOk B K F' H' n' o c
  | .un, _, _ => trivial
  | .d _, ⟨v, e, h⟩, _ => ⟨v, e, h.mono s⟩
  | .o b c, ⟨a, e, h1, h2, h3⟩, k => ⟨a, e, (k a e rfl).2, OCOk.mono s (k a e rfl).1 hn h2, h3⟩
theorem SOk.mono (S : SOk B K Z F H n σ env) (hn : n ≤ n') : SOk B K Z F H n' σ env :=
  { S with at_ := fun i c e => let ⟨o, e1, h⟩ := S.at_ i c e; ⟨o, e1, h.mono (Ext.refl _) hn fun a ea ow => ⟨rfl, by cases c with
    | un => cases ow
    | d x => cases ow
    | o b c => obtain ⟨a', e', h1, _⟩ := h; rw [e'] at ea; cases ea; exact h1⟩⟩, lnk := S.lnk.mono (Ext.refl _) hn }
/-- new objects: those of G (fresh), some of them frozen at once -/
theorem SOk.grow (S : SOk B K Z F H n σ env) (s1 : Same F F') (s2 : Same F' H') (k : Same H H') (hf : ∀ a, (H a).isSome = true → F' a = F a) : SOk B K Z F' H' n σ env where
  same := s2
  len := S.len
  at_ := fun i c e => by
    obtain ⟨o, e1, h⟩ := S.at_ i c e
    refine ⟨o, e1, h.mono (Ext.of s1) (Nat.le_refl _) fun a ea ow => ?_⟩
    cases c with
    | un => cases ow
    | d x => cases ow
    | o b c =>
      obtain ⟨a', e', h1, h2, _⟩ := h
      rw [e'] at ea
      cases ea
      obtain ⟨o2, e2⟩ := OCOk.there h2
      exact ⟨by rw [e2]; exact k _ _ e2, by rw [hf _ (by rw [e2]; rfl)]; exact h1⟩
  sep := S.sep
  fr := fun a o e hb hl => (S.fr a o e hb hl).keep fun o1 q => k _ _ q
  tb := tabs_keep S.tb fun b o e _ => k b o e
  lnk := S.lnk.mono (Ext.of s1) (Nat.le_refl _)
  ff := fun a e hb hl => (S.ff a e hb hl).imp (fun q => (hf a (S.dom a e)).trans q) id
  bd := S.bd
  lk := fun p hp => by rw [hf p.1 (by rw [S.same _ _ (S.lk p hp)]; rfl)]; exact S.lk p hp
  bs := S.bs
  dom := fun a e => by
    obtain ⟨o, h⟩ := Option.isSome_iff_exists.mp (S.dom a e)
    rw [k _ _ h]
    rfl
theorem Core.fresh0 (S : Core B K Tz F H n σ env) {p : Addr} (hp : H p = none) : B.H0 p = none := by
  cases e : B.H0 p with
  | none => rfl
  | some o =>
    have := S.dom p (by rw [e]; rfl)
    rw [hp] at this
    cases this
theorem Core.freshF (S : Core B K Tz F H n σ env) {p : Addr} (hp : H p = none) : F p = none := S.same.free hp
theorem same_upd {p : Addr} {o : HO} (hp : H p = none) : Same H (upd H p o) := fun b u e => by rw [upd_ne (ne_of_none e hp)]; exact e
theorem same_upd2 {p : Addr} {o : HO} (s : Same F H) : Same (upd F p o) (upd H p o) := fun b u e => by
  by_cases h : b = p
  · subst h; rw [upd_same] at e ⊢; exact e
  · rw [upd_ne h] at e ⊢; exact s _ _ e
/-- a new object, frozen -/
theorem SOk.alloc (S : SOk B K Z F H n σ env) {p : Addr} {o : HO} (hp : H p = none) : SOk B K Z (upd F p o) (upd H p o) n σ env ∧ Same F (upd F p o) :=
  ⟨S.grow (same_upd (S.freshF hp)) (same_upd2 S.same) (same_upd hp) fun a ha => upd_ne (by rintro rfl; rw [hp] at ha; cases ha), same_upd (S.freshF hp)⟩
/-- a new object, not frozen -/
theorem SOk.allocO (S : SOk B K Z F H n σ env) {p : Addr} {o : HO} (hp : H p = none) : SOk B K Z F (upd H p o) n σ env :=
  S.grow (fun _ _ q => q) (fun b u e => by rw [upd_ne (ne_of_none (S.same _ _ e) hp)]; exact S.same _ _ e) (same_upd hp) fun a ha => rfl
/-- an owned slot -/
theorem Core.own (S : Core B K Tz F H n σ env) {i : Nat} {b : Bool} {c : OC} (e : env[i]? = some (.o b c)) :
    ∃ a, σ[i]? = some (some (.ref a)) ∧ F a = none ∧ OCOk K F H n a c ∧ (b = true → a ∈ B.bor) ∧ (b = false → B.H0 a = none ∨ a ∈ B.loc) := by
  obtain ⟨o, e1, a, e2, h⟩ := S.at_ i _ e
  subst e2
  exact ⟨a, e1, h⟩
theorem Core.dat (S : Core B K Tz F H n σ env) {i : Nat} {x : DV} (e : env[i]? = some (.d x)) : ∃ v, σ[i]? = some (some v) ∧ Hold K F v x := by
  obtain ⟨o, e1, v, e2, h⟩ := S.at_ i _ e
  subst e2
  exact ⟨v, e1, h⟩
/-- what an own object holds, where it is frozen -/
theorem OCOk.toHold : ∀ {c : OC} {d : DV}, c.frz = some d → OCOk K F H n a c → F a = none → ∃ o, H a = some o ∧ Hold K (upd F a o) (.ref a) d
  | .l xs, d, e, ⟨vs, h1, h2⟩, hf => by
    cases e
    exact ⟨_, h1, .lst upd_same (h2.mono (Ext.of (same_upd hf)))⟩
  | .k kvs, d, e, ⟨us, h1, h2, h3⟩, hf => by
    cases e
    exact ⟨_, h1, .dk (.inl upd_same) h2 (h3.mono (Ext.of (same_upd hf)))⟩
  | .t kvs, d, e, ⟨us, h1, h2, h3⟩, hf => by
    cases e
    exact ⟨_, h1, .dt (.inl upd_same) h2 (h3.mono (Ext.of (same_upd hf)))⟩
  | .ins C fs, d, e, ⟨dx, us, h1, h2, h3⟩, hf => by
    cases e
    exact ⟨_, h1, .ins upd_same h2 (h3.mono (Ext.of (same_upd hf)))⟩
  | .pen, d, e, _, _ => by cases e
theorem same_thaw {o : HO} (s : Same F H) (h : H a = some o) : Same (upd F a o) H := fun b u e => by
  by_cases hb : b = a
  · subst hb; rw [upd_same] at e; cases e; exact h
  · rw [upd_ne hb] at e; exact s _ _ e
theorem getElem?_set_cases {α : Type} {l : List α} {i j : Nat} {x y : α} (e : (l.set i x)[j]? = some y) : (i = j ∧ y = x ∧ i < l.length) ∨ (i ≠ j ∧ l[j]? = some y) := by
  by_cases h : i = j
  · subst h
    have hl : i < l.length := by
      by_cases hl : i < l.length
      · exact hl
      · rw [List.getElem?_eq_none (by simp; omega)] at e; cases e
    rw [List.getElem?_set_self hl] at e
    cases e
    exact .inl ⟨rfl, rfl, hl⟩
  · rw [List.getElem?_set_ne h] at e
    exact .inr ⟨h, e⟩
/-- an owned slot is frozen -/
theorem SOk.freeze (S : SOk B K Z F H n σ env) {i : Nat} {c : OC} {d : DV} (e : env[i]? = some (.o false c)) (hd : c.frz = some d) :
    ∃ a F', σ[i]? = some (some (.ref a)) ∧ SOk B K Z F' H n σ (env.set i (.d d)) ∧ Same F F' ∧ Hold K F' (.ref a) d := by
  obtain ⟨a, e1, h1, h2, h3, h4⟩ := S.own e
  obtain ⟨o, e2, hh⟩ := OCOk.toHold hd h2 h1
  have s1 : Same F (upd F a o) := same_upd h1
  refine ⟨a, upd F a o, e1, ⟨⟨same_thaw S.same e2, by rw [List.length_set]; exact S.len, fun j cj ej => ?_, fun j k cj ck b ej ek oj ok sj sk => ?_, S.fr, fun b hb hn hl => ?_, S.bd, fun p hp => ?_, fun p hp => ?_, S.dom, S.tb⟩, S.lnk.mono (Ext.of s1) (Nat.le_refl _)⟩, s1, hh⟩
  · rcases getElem?_set_cases ej with ⟨rfl, rfl, _⟩ | ⟨ne, ej⟩
    · exact ⟨_, e1, _, rfl, hh⟩
    · obtain ⟨oj, e3, h⟩ := S.at_ j cj ej
      refine ⟨oj, e3, h.mono (Ext.of s1) (Nat.le_refl _) fun b eb ow => ⟨rfl, ?_⟩⟩
      have : b ≠ a := by
        rintro rfl
        subst eb
        exact ne (S.sep i j _ _ b e ej rfl ow e1 e3)
      rw [upd_ne this]
      cases cj with
      | un => cases ow
      | d x => cases ow
      | o bb c =>
        obtain ⟨a', e', h1', _⟩ := h
        rw [e'] at eb
        cases eb
        exact h1'
  · rcases getElem?_set_cases ej with ⟨rfl, rfl, _⟩ | ⟨_, ej⟩
    · cases oj
    · rcases getElem?_set_cases ek with ⟨rfl, rfl, _⟩ | ⟨_, ek⟩
      · cases ok
      · exact S.sep j k cj ck b ej ek oj ok sj sk
  · unfold TF
    rw [upd_ne]
    · exact S.ff b hb hn hl
    · rintro rfl
      rcases h4 rfl with z | z
      · rw [z] at hb
        cases hb
      · exact hl z
  · have q := S.lk p hp
    rw [upd_ne (by intro z; rw [z, h1] at q; cases q)]
    exact q
  · obtain ⟨⟨oc, q1⟩, q2⟩ := S.bs p hp
    refine ⟨⟨oc, ?_⟩, q2⟩
    rw [List.getElem?_set_ne (by intro z; rw [z, q1] at e; cases e)]
    exact q1
/-- what a value evaluated is: data, or a new object that no slot knows -/
def Res (B : Base) (K : PySem.W.Frag) (F H : Hp) (n : Nat) (σ : L2.St) (env : List Cell) (v : V) (c : Cell) : Prop :=
  CellOk B K F H n (some v) c ∧ c.bor = false ∧ (c.own = true → ∀ (i : Nat) (ci : Cell), env[i]? = some ci → ci.own = true → σ[i]? ≠ some (some v)) ∧ (c.own = true → ∀ a, v = .ref a → B.H0 a = none)
theorem Res.mono {v : V} {c : Cell} (h : Res B K F H n σ env v c) (hn : n ≤ n') : Res B K F H n' σ env v c := by
  refine ⟨h.1.mono (Ext.refl _) hn fun a e ow => ⟨rfl, ?_⟩, h.2⟩
  cases c with
  | un => cases ow
  | d x => cases ow
  | o b c =>
    obtain ⟨a', e', h1, _⟩ := h.1
    rw [e'] at e
    cases e
    exact h1
theorem Res.dat {v : V} {x : DV} (h : Hold K F v x) : Res B K F H n σ env v (.d x) := ⟨⟨v, rfl, h⟩, rfl, (fun q => by cases q), fun q => by cases q⟩
/-- a result is frozen -/
theorem SOk.frzRes (S : SOk B K Z F H n σ env) {v : V} {c : Cell} {d : DV} (r : Res B K F H n σ env v c) (hd : c.frz = some d) : ∃ F', SOk B K Z F' H n σ env ∧ Same F F' ∧ Hold K F' v d := by
  obtain ⟨r1, r2, r3, _⟩ := r
  cases c with
  | un => cases hd
  | d x =>
    cases hd
    obtain ⟨v', e, h⟩ := r1
    cases e
    exact ⟨F, S, fun _ _ q => q, h⟩
  | o b c =>
    cases b with
    | true => cases hd
    | false =>
      obtain ⟨a, e, h1, h2, h3, h4⟩ := r1
      cases e
      obtain ⟨o, e2, hh⟩ := OCOk.toHold hd h2 h1
      have s1 : Same F (upd F a o) := same_upd h1
      refine ⟨upd F a o, ⟨⟨same_thaw S.same e2, S.len, fun j cj ej => ?_, S.sep, S.fr, fun b hb hn hl => ?_, S.bd, fun p hp => ?_, S.bs, S.dom, S.tb⟩, S.lnk.mono (Ext.of s1) (Nat.le_refl _)⟩, s1, hh⟩
      · obtain ⟨oj, e3, h⟩ := S.at_ j cj ej
        refine ⟨oj, e3, h.mono (Ext.of s1) (Nat.le_refl _) fun b eb ow => ⟨rfl, ?_⟩⟩
        have : b ≠ a := by
          rintro rfl
          subst eb
          exact r3 rfl j cj ej ow e3
        rw [upd_ne this]
        cases cj with
        | un => cases ow
        | d x => cases ow
        | o bb c =>
          obtain ⟨a', e', h1', _⟩ := h
          rw [e'] at eb
          cases eb
          exact h1'
      · unfold TF
        rw [upd_ne]
        · exact S.ff b hb hn hl
        · rintro rfl
          rcases h4 rfl with z | z
          · rw [z] at hb
            cases hb
          · exact hl z
      · have q := S.lk p hp
        rw [upd_ne (by intro z; rw [z, h1] at q; cases q)]
        exact q
/-- a result is stored at a slot -/
theorem SOk.store (S : SOk B K Z F H n σ env) {v : V} {c : Cell} (r : Res B K F H n σ env v c) (i : Nat) (hi : ∀ c, env[i]? = some c → c.bor = false) : SOk B K Z F H n (σ.set i (some v)) (env.set i c) := by
  obtain ⟨r1, r2, r3, _⟩ := r
  refine ⟨⟨S.same, by rw [List.length_set, List.length_set]; exact S.len, fun j cj ej => ?_, fun j k cj ck b ej ek oj ok sj sk => ?_, S.fr, S.ff, S.bd, S.lk, fun p hp => ?_, S.dom, S.tb⟩, S.lnk⟩
  · rcases getElem?_set_cases ej with ⟨rfl, rfl, hl⟩ | ⟨ne, ej⟩
    · exact ⟨some v, List.getElem?_set_self (by rw [S.len]; exact hl), r1⟩
    · obtain ⟨oj, e3, h⟩ := S.at_ j cj ej
      exact ⟨oj, by rw [List.getElem?_set_ne ne]; exact e3, h⟩
  · rcases getElem?_set_cases ej with ⟨rfl, rfl, hl⟩ | ⟨ne, ej'⟩
    · rcases getElem?_set_cases ek with ⟨rfl, rfl, _⟩ | ⟨ne2, ek⟩
      · rfl
      · rw [List.getElem?_set_self (by rw [S.len]; exact hl)] at sj
        rw [List.getElem?_set_ne ne2] at sk
        cases sj
        exact absurd sk (r3 oj k ck ek ok)
    · rcases getElem?_set_cases ek with ⟨rfl, rfl, hl⟩ | ⟨ne2, ek⟩
      · rw [List.getElem?_set_self (by rw [S.len]; exact hl)] at sk
        rw [List.getElem?_set_ne ne] at sj
        cases sk
        exact absurd sj (r3 ok j cj ej' oj)
      · rw [List.getElem?_set_ne ne] at sj
        rw [List.getElem?_set_ne ne2] at sk
        exact S.sep j k cj ck b ej' ek oj ok sj sk
  · obtain ⟨⟨oc, q1⟩, q2⟩ := S.bs p hp
    have ne : i ≠ p.1 := by
      intro z
      have := hi _ (z ▸ q1)
      cases this
    exact ⟨⟨oc, by rw [List.getElem?_set_ne ne]; exact q1⟩, by rw [List.getElem?_set_ne ne]; exact q2⟩
/-- the object of an owned slot is written -/
theorem SOk.write (S : SOk B K Z F H n σ env) {i : Nat} {b : Bool} {c c' : OC} {o : HO} (e : env[i]? = some (.o b c)) (ea : σ[i]? = some (some (.ref a))) (h : OCOk K F (upd H a o) n a c') :
    SOk B K Z F (upd H a o) n σ (env.set i (.o b c')) := by
  obtain ⟨a', e1, h1, h2, h3, h4⟩ := S.own e
  rw [ea] at e1
  cases e1
  obtain ⟨o0, eo⟩ := OCOk.there h2
  refine ⟨⟨fun q u eq => ?_, by rw [List.length_set]; exact S.len, fun j cj ej => ?_, fun j k cj ck q ej ek oj ok sj sk => ?_, fun q u eq hq hl => ?_, S.ff, S.bd, S.lk, fun p hp => ?_, fun q hq => ?_, tabs_keep S.tb fun q u eq tc => ?_⟩, S.lnk⟩
  · rw [upd_ne (by rintro rfl; rw [h1] at eq; cases eq)]
    exact S.same _ _ eq
  · rcases getElem?_set_cases ej with ⟨rfl, rfl, hl⟩ | ⟨ne, ej⟩
    · exact ⟨_, ea, a, rfl, h1, h, h3, h4⟩
    · obtain ⟨oj, e3, hj⟩ := S.at_ j cj ej
      refine ⟨oj, e3, hj.mono (Ext.refl _) (Nat.le_refl _) fun q eq ow => ?_⟩
      have : q ≠ a := by
        rintro rfl
        subst eq
        exact ne (S.sep i j _ _ q e ej rfl ow ea e3)
      refine ⟨upd_ne this, ?_⟩
      cases cj with
      | un => cases ow
      | d x => cases ow
      | o bb c =>
        obtain ⟨a', e', h1', _⟩ := hj
        rw [e'] at eq
        cases eq
        exact h1'
  · have own_of : ∀ {j : Nat} {cj : Cell}, (env.set i (.o b c'))[j]? = some cj → cj.own = true → ∃ cj', env[j]? = some cj' ∧ cj'.own = true := fun {j cj} ej oj => by
      rcases getElem?_set_cases ej with ⟨rfl, rfl, _⟩ | ⟨_, ej⟩
      · exact ⟨_, e, rfl⟩
      · exact ⟨_, ej, oj⟩
    obtain ⟨cj', e1, o1⟩ := own_of ej oj
    obtain ⟨ck', e2, o2⟩ := own_of ek ok
    exact S.sep j k _ _ q e1 e2 o1 o2 sj sk
  · have : q ≠ a := by
      rintro rfl
      cases b with
      | true => exact hq (h3 rfl)
      | false =>
        rcases h4 rfl with z | z
        · rw [z] at eq; cases eq
        · exact hl z
    rw [upd_ne this]
    exact S.fr q u eq hq hl
  · obtain ⟨⟨oc, q1⟩, q2⟩ := S.bs p hp
    refine ⟨?_, q2⟩
    by_cases z : i = p.1
    · subst z
      rw [q1] at e
      cases e
      exact ⟨c', List.getElem?_set_self (List.getElem?_eq_some_iff.mp q1).1⟩
    · exact ⟨oc, by rw [List.getElem?_set_ne z]; exact q1⟩
  · by_cases hqa : q = a
    · subst hqa; rw [upd_same]; rfl
    · rw [upd_ne hqa]; exact S.dom q hq
  · rw [upd_ne (by rintro rfl; rcases tc with ⟨ps, z⟩ | ⟨z, z2⟩ <;> subst_vars <;> exact h2.ntab _ eq (by first | exact .inl ⟨_, rfl⟩ | exact .inr ⟨_, rfl⟩))]
    exact eq
/-- the addresses of the slots owned by this def alone -/
def locAt : Option Cell → Option (Option V) → Option Addr
  | some (.o false _), some (some (.ref a)) => some a
  | _, _ => none
def locs (σ : L2.St) (env : List Cell) : List Addr := (List.range env.length).filterMap fun i => locAt env[i]? σ[i]?
theorem mem_locs {i : Nat} {c : OC} (e : env[i]? = some (.o false c)) (ea : σ[i]? = some (some (.ref a))) : a ∈ locs σ env := by
  unfold locs
  refine List.mem_filterMap.mpr ⟨i, List.mem_range.mpr (List.getElem?_eq_some_iff.mp e).1, ?_⟩
  rw [e, ea]
  rfl
theorem of_mem_locs (h : a ∈ locs σ env) : ∃ (i : Nat) (c : OC), env[i]? = some (.o false c) ∧ σ[i]? = some (some (.ref a)) := by
  unfold locs at h
  obtain ⟨i, _, h⟩ := List.mem_filterMap.mp h
  unfold locAt at h
  split at h
  · rename_i c b e1 e2
    cases h
    exact ⟨i, c, e1, e2⟩
  · cases h
/-- the state as a new entry -/
def reb (B : Base) (F H : Hp) (σ : L2.St) (env : List Cell) : Base := ⟨H, F, B.bor, locs σ env, B.lk, B.bs⟩
theorem Core.reb (S : Core B K Tz F H n σ env) : Core (reb B F H σ env) K Tz F H n σ env where
  same := S.same
  len := S.len
  at_ := fun i c e => by
    obtain ⟨o, e1, h⟩ := S.at_ i c e
    refine ⟨o, e1, ?_⟩
    cases c with
    | un => trivial
    | d x => exact h
    | o b c =>
      obtain ⟨a, e2, h1, h2, h3, h4⟩ := h
      refine ⟨a, e2, h1, h2, h3, fun z => .inr ?_⟩
      subst z
      subst e2
      exact mem_locs e e1
  sep := S.sep
  fr := fun a o e _ _ => .inl e
  ff := fun _ _ _ _ => .inl rfl
  bd := fun a ha => S.dom a (S.bd a ha)
  lk := S.lk
  bs := S.bs
  dom := fun _ h => h
  tb := S.tb
/-- back to the old entry -/
theorem Core.unreb {σ' : L2.St} {env' : List Cell} (S : Core B K Tz F H n σ env) (T : Core (DL.reb B F H σ env) K Tz F' H' n' σ' env') : Core B K Tz F' H' n' σ' env' where
  same := T.same
  len := T.len
  at_ := fun i c e => by
    obtain ⟨o, e1, h⟩ := T.at_ i c e
    refine ⟨o, e1, ?_⟩
    cases c with
    | un => trivial
    | d x => exact h
    | o b c =>
      obtain ⟨a, e2, h1, h2, h3, h4⟩ := h
      refine ⟨a, e2, h1, h2, h3, fun z => ?_⟩
      rcases h4 z with q | q
      · exact .inl (S.fresh0 q)
      · obtain ⟨j, cj, ej, aj⟩ := of_mem_locs q
        obtain ⟨a', q1, _, _, _, q2⟩ := S.own ej
        rw [aj] at q1
        cases q1
        exact q2 rfl
  sep := T.sep
  fr := fun a o e hb hl => by
    have g := S.fr a o e hb hl
    obtain ⟨o1, e1⟩ := Option.isSome_iff_exists.mp g.isSome
    rw [e1] at g
    refine g.trans (T.fr a o1 e1 hb fun q => ?_)
    obtain ⟨j, cj, ej, aj⟩ := of_mem_locs q
    obtain ⟨a', q1, _, _, _, q2⟩ := S.own ej
    rw [aj] at q1
    cases q1
    rcases q2 rfl with z | z
    · rw [z] at e; cases e
    · exact hl z
  ff := fun a e hb hl => by
    have nl : a ∉ locs σ env := fun q => by
      obtain ⟨j, cj, ej, aj⟩ := of_mem_locs q
      obtain ⟨a', q1, _, _, _, q2⟩ := S.own ej
      rw [aj] at q1
      cases q1
      rcases q2 rfl with z | z
      · rw [z] at e; cases e
      · exact hl z
    rcases T.ff a (S.dom a e) hb nl with q | ⟨o', q, lx⟩
    · exact (S.ff a e hb hl).imp (fun r => q.trans r) id
    · obtain ⟨o, eo⟩ := Option.isSome_iff_exists.mp e
      have z : H a = some o' := q
      have g := S.fr a o eo hb hl
      rw [z] at g
      exact .inr ⟨o, eo, g.lax lx⟩
  bd := S.bd
  lk := T.lk
  bs := T.bs
  dom := fun a e => T.dom a (S.dom a e)
  tb := T.tb
theorem SOk.reb (S : SOk B K Z F H n σ env) : SOk (DL.reb B F H σ env) K Z F H n σ env :=
  ⟨S.toCore.reb, fun F' H' n' σ' e C d fs c x h1 h2 h3 h4 h5 => S.lnk F' H' n' σ' e C d fs (S.toCore.unreb c) x h1 h2 h3 (S.fresh0 h4) h5⟩
theorem SOk.unreb {Z' : ZX} {σ' : L2.St} {env' : List Cell} (S : SOk B K Z F H n σ env) (T : SOk (DL.reb B F H σ env) K Z' F' H' n' σ' env') (hT : Z'.T = Z.T) (x : Ext F F') (hn : n ≤ n') : SOk B K Z F' H' n' σ' env' :=
  ⟨S.toCore.unreb (hT ▸ T.toCore), S.lnk.mono x hn⟩
/-- a result that waits while another is evaluated -/
theorem Res.wait {env' : List Cell} {v : V} {c : Cell} (S : SOk B K Z F H n σ env) (r : Res B K F H n σ env v c) (T : SOk (DL.reb B F H σ env) K Z F' H' n' σ env') (x : Ext F F') (hn : n ≤ n') :
    Res B K F' H' n' σ env' v c := by
  obtain ⟨r1, r2, r3, r4⟩ := r
  cases c with
  | un => exact ⟨trivial, r2, (fun z => by cases z), fun z => by cases z⟩
  | d d => obtain ⟨v', e, h⟩ := r1; exact ⟨⟨v', e, h.mono x⟩, r2, (fun z => by cases z), fun z => by cases z⟩
  | o b c =>
    cases b with
    | true => cases r2
    | false =>
      obtain ⟨a, e, h1, h2, h3, h4⟩ := r1
      cases e
      obtain ⟨o, eo⟩ := OCOk.there h2
      have nb : a ∉ B.bor := fun q => by
        have := S.bd a q
        rw [r4 rfl a rfl] at this
        cases this
      have nl : a ∉ locs σ env := fun q => by
        obtain ⟨j, cj, ej, aj⟩ := of_mem_locs q
        exact r3 rfl j _ ej rfl aj
      have e1 : H' a = some o := (T.fr a o eo nb nl).eq (h2.ntbl eo)
      have e2 : F' a = none := (T.ff a (by show (H a).isSome = true; rw [eo]; rfl) nb nl).elim (fun q => q.trans h1) fun ⟨o', q, lx⟩ => absurd lx (by rw [h2.nlax q]; decide)
      refine ⟨⟨a, rfl, e2, OCOk.mono x (e1.trans eo.symm) hn h2, h3, h4⟩, rfl, fun _ i ci ei ow si => ?_, r4⟩
      cases ci with
      | un => cases ow
      | d x => cases ow
      | o b2 c2 =>
        obtain ⟨a2, q1, _, _, q3, q4⟩ := T.own ei
        rw [si] at q1
        cases q1
        cases b2 with
        | true => exact nb (q3 rfl)
        | false =>
          rcases q4 rfl with z | z
          · rw [show (DL.reb B F H σ env).H0 a = H a from rfl, eo] at z
            cases z
          · exact nl z
/-- a tuple that stands may be frozen at any time -/
theorem SOk.adopt (S : SOk B K Z F H n σ env) {p : Addr} {vs : List V} (hp : H p = some (.tup vs)) : ∃ F', SOk B K Z F' H n σ env ∧ Same F F' ∧ F' p = some (.tup vs) := by
  cases q : F p with
  | some o =>
    have := S.same _ _ q
    rw [hp] at this
    cases this
    exact ⟨F, S, fun _ _ q => q, q⟩
  | none =>
    have s1 : Same F (upd F p (.tup vs)) := same_upd q
    refine ⟨upd F p (.tup vs), ⟨⟨same_thaw S.same hp, S.len, fun j cj ej => ?_, S.sep, S.fr, fun b hb hn hl => ?_, S.bd, fun z hz => ?_, S.bs, S.dom, S.tb⟩, S.lnk.mono (Ext.of s1) (Nat.le_refl _)⟩, s1, upd_same⟩
    · obtain ⟨oj, e3, h⟩ := S.at_ j cj ej
      refine ⟨oj, e3, h.mono (Ext.of s1) (Nat.le_refl _) fun b eb ow => ⟨rfl, ?_⟩⟩
      cases cj with
      | un => cases ow
      | d x => cases ow
      | o bb c =>
        obtain ⟨a', e', h1', h2', _⟩ := h
        rw [e'] at eb
        cases eb
        rw [upd_ne (by rintro rfl; exact h2'.ntup vs hp)]
        exact h1'
    · by_cases e : b = p
      · subst e
        obtain ⟨o, eo⟩ := Option.isSome_iff_exists.mp hb
        have z := S.fr b o eo hn hl
        rw [hp] at z
        rw [z.tup] at eo
        exact .inr ⟨_, eo, rfl⟩
      · unfold TF
        rw [upd_ne e]
        exact S.ff b hb hn hl
    · have r := S.lk z hz
      rw [upd_ne (by intro y; rw [y, q] at r; cases r)]
      exact r
end
end DL
set_option maxRecDepth 100000
set_option maxHeartbeats 4000000
namespace DL
open PySem PySem.Spec PyProof.Rows L2

abbrev DE := List Cell → (Cell → List Cell → Prop) → Prop
abbrev DD := List Cell → (DV → List Cell → Prop) → Prop
abbrev DT := List Cell → (Bool → List Cell → Prop) → Prop
abbrev DA := List Cell → (List DV → List Cell → Prop) → Prop
def MonoC {α : Type} (f : List Cell → (α → List Cell → Prop) → Prop) : Prop := ∀ (env : List Cell) (Q Q' : α → List Cell → Prop), (∀ r e, Q r e → Q' r e) → f env Q → f env Q'

section
variable (K : PySem.W.Frag) (Z : ZX) (c : Nat)
def tDc (f : DE) : TE := fun σ H Q => ∃ B F n env, n + c ≤ Z.M ∧ SOk B K Z F H n σ env ∧ f env fun r env' => ∀ v H' F', SOk B K Z F' H' (n + c) σ env' → Ext F F' → Res B K F' H' (n + c) σ env' v r → Q v H'
def tDd (f : DD) : TE := fun σ H Q => ∃ B F n env, n + c ≤ Z.M ∧ SOk B K Z F H n σ env ∧ f env fun r env' => ∀ v H' F', SOk B K Z F' H' (n + c) σ env' → Ext F F' → Hold K F' v r → Q v H'
def tDt (f : DT) : TT := fun σ H Q => ∃ B F n env, n + c ≤ Z.M ∧ SOk B K Z F H n σ env ∧ f env fun r env' => ∀ H' F', SOk B K Z F' H' (n + c) σ env' → Ext F F' → Q r H'
def tDa (f : DA) : TA := fun σ H Q => ∃ B F n env, n + c ≤ Z.M ∧ SOk B K Z F H n σ env ∧ f env fun r env' => ∀ vs H' F', SOk B K Z F' H' (n + c) σ env' → Ext F F' → HoldAll K F' vs r → Q vs H'
end
structure PEc (X : Cx) (Z : ZX) (e : Expr) (c : Nat) (f : DE) : Prop where
  mono : MonoC f
  run : PE X e (tDc X.K Z c f)
structure PEd (X : Cx) (Z : ZX) (e : Expr) (c : Nat) (f : DD) : Prop where
  mono : MonoC f
  run : PE X e (tDd X.K Z c f)
structure PTd (X : Cx) (Z : ZX) (e : Expr) (c : Nat) (f : DT) : Prop where
  mono : MonoC f
  run : PT X e (tDt X.K Z c f)
structure PWd (X : Cx) (Z : ZX) (e : Expr) (c : Nat) (f : DT) : Prop where
  mono : MonoC f
  run : PW X e (tDt X.K Z c f)
structure PAd (X : Cx) (Z : ZX) (es : List Expr) (c : Nat) (f : DA) : Prop where
  mono : MonoC f
  run : PA X es (tDa X.K Z c f)

theorem PE_imp {X : Cx} {e : Expr} {t t' : TE} (h : PE X e t) (i : ∀ σ H Q, t' σ H Q → t σ H Q) : PE X e t' := ⟨fun pins s σ H Q I q => h.run pins s σ H Q I (i _ _ _ q)⟩
theorem PT_imp {X : Cx} {e : Expr} {t t' : TT} (h : PT X e t) (i : ∀ σ H Q, t' σ H Q → t σ H Q) : PT X e t' := ⟨fun pins s σ H Q I q => h.run pins s σ H Q I (i _ _ _ q)⟩
theorem PW_imp {X : Cx} {e : Expr} {t t' : TT} (h : PW X e t) (i : ∀ σ H Q, t' σ H Q → t σ H Q) : PW X e t' := ⟨fun w pins s σ H Q I q => h.run w pins s σ H Q I (i _ _ _ q)⟩
theorem PA_imp {X : Cx} {es : List Expr} {t t' : TA} (h : PA X es t) (i : ∀ σ H Q, t' σ H Q → t σ H Q) : PA X es t' := ⟨fun p pins s σ H Q I q => h.run p pins s σ H Q I (i _ _ _ q)⟩

section
variable {K : PySem.W.Frag} {Z : ZX} {c : Nat} {B : Base} {F H : Hp} {n : Nat} {σ : L2.St} {env : List Cell}
theorem bindD {f : DD} {G : DV → List Cell → Prop} {R : VK} (m : MonoC f) (hn : n + c ≤ Z.M) (S : SOk B K Z F H n σ env) (h : f env G)
    (k : ∀ d env' v H' F', G d env' → SOk B K Z F' H' (n + c) σ env' → Ext F F' → Hold K F' v d → R v H') : tDd K Z c f σ H R :=
  ⟨B, F, n, env, hn, S, m _ _ _ (fun d e g v H' F' S' x hh => k d e v H' F' g S' x hh) h⟩
theorem bindC {f : DE} {G : Cell → List Cell → Prop} {R : VK} (m : MonoC f) (hn : n + c ≤ Z.M) (S : SOk B K Z F H n σ env) (h : f env G)
    (k : ∀ d env' v H' F', G d env' → SOk B K Z F' H' (n + c) σ env' → Ext F F' → Res B K F' H' (n + c) σ env' v d → R v H') : tDc K Z c f σ H R :=
  ⟨B, F, n, env, hn, S, m _ _ _ (fun d e g v H' F' S' x hh => k d e v H' F' g S' x hh) h⟩
theorem bindT {f : DT} {G : Bool → List Cell → Prop} {R : Bool → Hp → Prop} (m : MonoC f) (hn : n + c ≤ Z.M) (S : SOk B K Z F H n σ env) (h : f env G)
    (k : ∀ d env' H' F', G d env' → SOk B K Z F' H' (n + c) σ env' → Ext F F' → R d H') : tDt K Z c f σ H R :=
  ⟨B, F, n, env, hn, S, m _ _ _ (fun d e g H' F' S' x => k d e H' F' g S' x) h⟩
theorem bindA {f : DA} {G : List DV → List Cell → Prop} {R : List V → Hp → Prop} (m : MonoC f) (hn : n + c ≤ Z.M) (S : SOk B K Z F H n σ env) (h : f env G)
    (k : ∀ d env' vs H' F', G d env' → SOk B K Z F' H' (n + c) σ env' → Ext F F' → HoldAll K F' vs d → R vs H') : tDa K Z c f σ H R :=
  ⟨B, F, n, env, hn, S, m _ _ _ (fun d e g vs H' F' S' x hh => k d e vs H' F' g S' x hh) h⟩
end

/-! ### from one judgement to another -/
def dCel (f : DD) : DE := fun env Q => f env fun d e => Q (.d d) e
def dDat (f : DE) : DD := fun env Q => f env fun r e => match r.frz with
  | some d => Q d e
  | none => False
section
variable {X : Cx} {Z : ZX} {e : Expr} {c : Nat}
theorem PEd.cel {f : DD} (h : PEd X Z e c f) : PEc X Z e c (dCel f) :=
  ⟨fun env Q Q' q => h.mono _ _ _ fun d e => q _ _, PE_imp h.run fun σ H Q ⟨B, F, n, env, hn, S, g⟩ => bindD h.mono hn S g fun d env' v H' F' q S' x hh => q v H' F' S' x (Res.dat hh)⟩
theorem PEc.dat {f : DE} (h : PEc X Z e c f) : PEd X Z e c (dDat f) := by
  refine ⟨fun env Q Q' q => h.mono _ _ _ fun r e g => ?_, PE_imp h.run fun σ H Q ⟨B, F, n, env, hn, S, g⟩ => bindC h.mono hn S g fun r env' v H' F' q S' x hh => ?_⟩
  · cases z : r.frz with
    | none => rw [z] at g; exact g.elim
    | some d => rw [z] at g; exact q _ _ g
  · cases z : r.frz with
    | none => rw [z] at q; exact q.elim
    | some d =>
      rw [z] at q
      obtain ⟨F2, S2, x2, h2⟩ := S'.frzRes hh z
      exact q v H' F2 S2 (x.trans (Ext.of x2)) h2
end

/-! ### names, constants -/
def dVar (i : Nat) : DD := fun env Q => match env[i]? with
  | some (.d x) => Q x env
  | some (.o false c) => match c.frz with
    | some d => Q d (env.set i (.d d))
    | none => False
  | _ => False
def dC (x : DV) : DD := fun env Q => Q x env
section
variable {X : Cx} {Z : ZX}
theorem mono_var (i : Nat) : MonoC (dVar i) := by
  intro env Q Q' q g
  unfold dVar at g ⊢
  split
  · rename_i x e
    rw [e] at g
    exact q _ _ g
  · rename_i c e
    rw [e] at g
    simp only at g
    split
    · rename_i d e2
      rw [e2] at g
      exact q _ _ g
    · rename_i e2
      rw [e2] at g
      exact g
  · rename_i h1 h2
    split at g
    · rename_i x e
      exact absurd e (h1 x)
    · rename_i c e
      exact absurd e (h2 c)
    · exact g
theorem pdVar (i : Nat) {x : Str} {pos : Pos} (hN : X.N[i]? = some x := by rfl) (hv : Vis X.env.scope x := by first | exact Or.inl rfl | exact Or.inr (Or.inl rfl) | exact Or.inr (Or.inr rfl)) (hd : (x == ("__debug__" : Str)) = false := by decide)
    (hcd : (x == ("__classdict__" : Str)) = false := by decide) : PEd X Z (.Name x pos) 0 (dVar i) := by
  refine ⟨mono_var i, PE_imp (pe_var hN hv hd hcd) fun σ H Q ⟨B, F, n, env, hn, S, g⟩ => ?_⟩
  unfold dVar at g
  split at g
  · rename_i x e
    obtain ⟨v, e1, h⟩ := S.dat e
    exact ⟨v, e1, g v H F S (Ext.refl _) h⟩
  · rename_i c e
    simp only at g
    split at g
    · rename_i d e2
      obtain ⟨a, F', e1, S', x', h⟩ := S.freeze e e2
      exact ⟨_, e1, g _ H F' S' (Ext.of x') h⟩
    · exact g.elim
  · exact g.elim
theorem pdInt {i j pos} : PEd X Z (.Constant (.int i) j pos) 0 (dC (.int i)) := ⟨fun _ _ _ q g => q _ _ g, PE_imp pe_int fun σ H Q ⟨B, F, n, env, hn, S, g⟩ => g _ H F S (Ext.refl _) (.int i)⟩
theorem pdBl {b j pos} : PEd X Z (.Constant (.bool b) j pos) 0 (dC (.bl b)) := ⟨fun _ _ _ q g => q _ _ g, PE_imp pe_bl fun σ H Q ⟨B, F, n, env, hn, S, g⟩ => g _ H F S (Ext.refl _) (.bl b)⟩
theorem pdNon {j pos} : PEd X Z (.Constant .none j pos) 0 (dC .non) := ⟨fun _ _ _ q g => q _ _ g, PE_imp pe_non fun σ H Q ⟨B, F, n, env, hn, S, g⟩ => g _ H F S (Ext.refl _) .non⟩
theorem pdStr {x j pos} : PEd X Z (.Constant (.str x) j pos) 0 (dC (.str x)) := ⟨fun _ _ _ q g => q _ _ g, PE_imp pe_str fun σ H Q ⟨B, F, n, env, hn, S, g⟩ => g _ H F S (Ext.refl _) (.str x)⟩
/-- a module's constant, class, def as a value -/
theorem pdGlob {x : Str} {v : V} {u : Value} {d : DV} {pos : Pos} (hg : Gl X x) (hm : X.mg x = some u) (r : RelV v u) (hh : ∀ F, Hold X.K F v d) (hd : (x == ("__debug__" : Str)) = false := by decide) : PEd X Z (.Name x pos) 0 (dC d) :=
  ⟨fun _ _ _ q g => q _ _ g, PE_imp (pe_glob hg hm r hd) fun σ H Q ⟨B, F, n, env, hn, S, g⟩ => g _ H F S (Ext.refl _) (hh F)⟩
end

/-! ### operators by data -/
/-- the operator's rule by data: no slot is touched -/
def Op2 (K : PySem.W.Frag) (r : R2) (g : DV → DV → (Cell → Prop) → Prop) : Prop :=
  (∀ x y Q Q', (∀ c, Q c → Q' c) → g x y Q → g x y Q') ∧
  ∀ B Z F H n σ env v u x y Q, SOk B K Z F H n σ env → Hold K F v x → Hold K F u y →
    g x y (fun c => ∀ w H' F', SOk B K Z F' H' n σ env → Ext F F' → Res B K F' H' n σ env w c → Q w H') → r v u H Q
def Op2d (K : PySem.W.Frag) (r : R2) (g : DV → DV → (DV → Prop) → Prop) : Prop :=
  (∀ x y Q Q', (∀ c, Q c → Q' c) → g x y Q → g x y Q') ∧
  ∀ B Z F H n σ env v u x y Q, SOk B K Z F H n σ env → Hold K F v x → Hold K F u y →
    g x y (fun c => ∀ w H' F', SOk B K Z F' H' n σ env → Ext F F' → Hold K F' w c → Q w H') → r v u H Q
def dOp2 (g : DV → DV → (Cell → Prop) → Prop) (fa fb : DD) : DE := fun env Q => fa env fun x e1 => fb e1 fun y e2 => g x y fun c => Q c e2
def dOp2d (g : DV → DV → (DV → Prop) → Prop) (fa fb : DD) : DD := fun env Q => fa env fun x e1 => fb e1 fun y e2 => g x y fun c => Q c e2
section
variable {X : Cx} {Z : ZX} {e a b : Expr} {ca cb : Nat} {fa fb : DD}
theorem PEc.op2 {r : R2} {g : DV → DV → (Cell → Prop) → Prop} (hr : Op2 X.K r g) (ha : PEd X Z a ca fa) (hb : PEd X Z b cb fb) (pe : PE X e (tOp r (tDd X.K Z ca fa) (tDd X.K Z cb fb))) : PEc X Z e (ca + cb) (dOp2 g fa fb) := by
  refine ⟨fun env Q Q' q h => ha.mono _ _ _ (fun x e1 h1 => hb.mono _ _ _ (fun y e2 h2 => hr.1 _ _ _ _ (fun c => q _ _) h2) h1) h, PE_imp pe fun σ H Q ⟨B, F, n, env, hn, S, h⟩ => ?_⟩
  refine bindD ha.mono (by omega) S h fun x e1 v H1 F1 h1 S1 x1 hv => ?_
  refine bindD hb.mono (by omega) S1 h1 fun y e2 u H2 F2 h2 S2 x2 hu => ?_
  refine hr.2 B Z F2 H2 (n + ca + cb) σ e2 v u x y Q S2 (hv.mono x2) hu (hr.1 _ _ _ _ (fun c q w H' F' S' x' r' => ?_) h2)
  rw [Nat.add_assoc] at S' r'
  exact q w H' F' S' ((x1.trans x2).trans x') r'
theorem PEd.op2 {r : R2} {g : DV → DV → (DV → Prop) → Prop} (hr : Op2d X.K r g) (ha : PEd X Z a ca fa) (hb : PEd X Z b cb fb) (pe : PE X e (tOp r (tDd X.K Z ca fa) (tDd X.K Z cb fb))) : PEd X Z e (ca + cb) (dOp2d g fa fb) := by
  refine ⟨fun env Q Q' q h => ha.mono _ _ _ (fun x e1 h1 => hb.mono _ _ _ (fun y e2 h2 => hr.1 _ _ _ _ (fun c => q _ _) h2) h1) h, PE_imp pe fun σ H Q ⟨B, F, n, env, hn, S, h⟩ => ?_⟩
  refine bindD ha.mono (by omega) S h fun x e1 v H1 F1 h1 S1 x1 hv => ?_
  refine bindD hb.mono (by omega) S1 h1 fun y e2 u H2 F2 h2 S2 x2 hu => ?_
  refine hr.2 B Z F2 H2 (n + ca + cb) σ e2 v u x y Q S2 (hv.mono x2) hu (hr.1 _ _ _ _ (fun c q w H' F' S' x' r' => ?_) h2)
  rw [Nat.add_assoc] at S'
  exact q w H' F' S' ((x1.trans x2).trans x') r'
end

/-! ### ints -/
def gI2 (C : Int → Int → Prop) (h : Int → Int → DV) : DV → DV → (DV → Prop) → Prop := fun x y Q => match x, y with
  | .int i, .int j => C i j ∧ Q (h i j)
  | _, _ => False
def gI0 (h : Int → Int → DV) : DV → DV → (DV → Prop) → Prop := fun x y Q => match x, y with
  | .int i, .int j => Q (h i j)
  | _, _ => False
section
variable {K : PySem.W.Frag}
theorem op2I {C : Int → Int → Prop} {h : Int → Int → V} {h' : Int → Int → DV} (hh : ∀ i j F, Hold K F (h i j) (h' i j)) : Op2d K (rI C h) (gI2 C h') := by
  refine ⟨fun x y Q Q' q g => ?_, fun B Z F H n σ env v u x y Q S hv hu g => ?_⟩
  · cases x <;> cases y <;> first | exact ⟨g.1, q _ g.2⟩ | exact g
  · cases hv <;> first | (cases hu <;> first | exact ⟨_, _, rfl, rfl, g.1, g.2 _ H F S (Ext.refl _) (hh _ _ _)⟩ | exact g.elim) | exact (by cases y <;> exact g.elim)
theorem op2I0 {h : Int → Int → V} {h' : Int → Int → DV} (hh : ∀ i j F, Hold K F (h i j) (h' i j)) : Op2d K (rI0 h) (gI0 h') := by
  refine ⟨fun x y Q Q' q g => ?_, fun B Z F H n σ env v u x y Q S hv hu g => ?_⟩
  · cases x <;> cases y <;> first | exact q _ g | exact g
  · cases hv <;> first | (cases hu <;> first | exact ⟨_, _, rfl, rfl, g _ H F S (Ext.refl _) (hh _ _ _)⟩ | exact g.elim) | exact (by cases y <;> exact g.elim)
end
end DL
set_option maxRecDepth 100000
set_option maxHeartbeats 4000000
namespace DL
open PySem PySem.Spec PyProof.Rows L2

/-! ### data that == compares -/
mutual
def DV.py : DV → PyData
  | .non => .none
  | .bl b => .bool b
  | .int i => .int i
  | .str x => .str x
  | .tup xs => .tuple (pyAll xs)
  | .ktup xs => .tuple (pyAll xs)
  | .lst xs => .list (pyAll xs)
  | .klst _ => .none
  | .ref _ => .none
  | .ty _ => .none
  | .dk _ => .none
  | .dt _ => .none
  | .ins _ _ => .none
def pyAll : List DV → List PyData
  | [] => []
  | x :: xs => x.py :: pyAll xs
end
def DV.ok : Nat → DV → Bool
  | _, .non => true
  | _, .bl _ => true
  | _, .int _ => true
  | _, .str x => PyData.strOk x
  | k + 1, .tup xs => xs.all (DV.ok k)
  | k + 1, .ktup xs => xs.all (DV.ok k)
  | k + 1, .lst xs => xs.all (DV.ok k)
  | _, _ => false
section
variable {K : PySem.W.Frag} {F : Hp}
mutual
theorem dp_of : ∀ {v : V} {d : DV}, Hold K F v d → ∀ k, d.ok k = true → Dp K F v d.py
  | _, _, .non, _, _ => by rw [DV.py]; exact .non
  | _, _, .bl b, _, _ => by rw [DV.py]; exact .bl b
  | _, _, .int i, _, _ => by rw [DV.py]; exact .int i
  | _, _, .str x, _, _ => by rw [DV.py]; exact .str x
  | _, _, .ref a, k, h => by cases k <;> cases h
  | _, _, .ty n, k, h => by cases k <;> cases h
  | _, _, .tup (xs := xs) h r, k, e => by
    rw [DV.py]
    cases k with
    | zero => cases e
    | succ k => exact .tup (SqT.of h) (dpAll_of r k (List.all_eq_true.mp (show xs.all (DV.ok k) = true from e)))
  | _, _, .ktup (xs := xs) h1 h2 h3 h4 h5 r, k, e => by
    rw [DV.py]
    cases k with
    | zero => cases e
    | succ k => exact .tup (.inr ⟨_, _, _, h1, h2, h3, h4, h5⟩) (dpAll_of r k (List.all_eq_true.mp (show xs.all (DV.ok k) = true from e)))
  | _, _, .lst (xs := xs) h r, k, e => by
    rw [DV.py]
    cases k with
    | zero => cases e
    | succ k => exact .lst (.inl (.inl h)) (dpAll_of r k (List.all_eq_true.mp (show xs.all (DV.ok k) = true from e)))
  | _, _, .klst _ _, k, h => by cases k <;> cases h
  | _, _, .dk _ _ _, k, h => by cases k <;> cases h
  | _, _, .dt _ _ _, k, h => by cases k <;> cases h
  | _, _, .ins _ _ _, k, h => by cases k <;> cases h
theorem dpAll_of : ∀ {vs : List V} {ds : List DV}, HoldAll K F vs ds → ∀ k, (∀ d ∈ ds, d.ok k = true) → DpAll K F vs (pyAll ds)
  | _, _, .nil, _, _ => by rw [pyAll]; exact .nil
  | _, _, .cons h t, k, e => by
    rw [pyAll]
    exact .cons (dp_of h k (e _ List.mem_cons_self)) (dpAll_of t k fun d hd => e d (List.mem_cons_of_mem _ hd))
end
mutual
theorem Dp_mono {F' : Hp} (s : Same F F') : ∀ {v : V} {d : PyData}, Dp K F v d → Dp K F' v d
  | _, _, .non => .non
  | _, _, .bl b => .bl b
  | _, _, .int i => .int i
  | _, _, .str x => .str x
  | _, _, .lst h r => .lst (sqL_mono (Ext.of s) h) (DpAll_mono s r)
  | _, _, .tup h r => .tup (sqT_mono (Ext.of s) h) (DpAll_mono s r)
theorem DpAll_mono {F' : Hp} (s : Same F F') : ∀ {vs : List V} {ds : List PyData}, DpAll K F vs ds → DpAll K F' vs ds
  | _, _, .nil => .nil
  | _, _, .cons h t => .cons (Dp_mono s h) (DpAll_mono s t)
end
end
theorem pyAll_map (xs : List DV) : pyAll xs = xs.map DV.py := by
  induction xs with
  | nil => rw [pyAll]; rfl
  | cons x xs ih => rw [pyAll, ih]; rfl
mutual
theorem py_depth : ∀ (d : DV) (k : Nat), d.ok k = true → d.py.canLay0 = true ∧ d.py.depth ≤ k
  | .non, k, _ => by rw [DV.py]; exact ⟨rfl, by simp [PyData.depth]⟩
  | .bl _, k, _ => by rw [DV.py]; exact ⟨rfl, by simp [PyData.depth]⟩
  | .int _, k, _ => by rw [DV.py]; exact ⟨rfl, by simp [PyData.depth]⟩
  | .str x, k, h => by
    rw [DV.py]
    have h : PyData.strOk x = true := by cases k <;> exact h
    exact ⟨by simpa [PyData.canLay0] using h, by simp [PyData.depth]⟩
  | .tup xs, k, h => by
    rw [DV.py]
    cases k with
    | zero => cases h
    | succ k =>
      obtain ⟨h1, h2⟩ := pyAll_depth xs k (List.all_eq_true.mp (show xs.all (DV.ok k) = true from h))
      exact ⟨by simpa [PyData.canLay0] using h1, by simp only [PyData.depth]; omega⟩
  | .ktup xs, k, h => by
    rw [DV.py]
    cases k with
    | zero => cases h
    | succ k =>
      obtain ⟨h1, h2⟩ := pyAll_depth xs k (List.all_eq_true.mp (show xs.all (DV.ok k) = true from h))
      exact ⟨by simpa [PyData.canLay0] using h1, by simp only [PyData.depth]; omega⟩
  | .lst xs, k, h => by
    rw [DV.py]
    cases k with
    | zero => cases h
    | succ k =>
      obtain ⟨h1, h2⟩ := pyAll_depth xs k (List.all_eq_true.mp (show xs.all (DV.ok k) = true from h))
      exact ⟨by simpa [PyData.canLay0] using h1, by simp only [PyData.depth]; omega⟩
  | .ref _, k, h => by cases k <;> cases h
  | .ty _, k, h => by cases k <;> cases h
  | .klst _, k, h => by cases k <;> cases h
  | .dk _, k, h => by cases k <;> cases h
  | .dt _, k, h => by cases k <;> cases h
  | .ins _ _, k, h => by cases k <;> cases h
theorem pyAll_depth : ∀ (ds : List DV) (k : Nat), (∀ d ∈ ds, d.ok k = true) → PyData.canLayAll0 (pyAll ds) = true ∧ PyData.depthAll (pyAll ds) ≤ k
  | [], k, _ => by rw [pyAll]; exact ⟨rfl, by simp [PyData.depthAll]⟩
  | d :: ds, k, h => by
    rw [pyAll]
    obtain ⟨h1, h2⟩ := py_depth d k (h d List.mem_cons_self)
    obtain ⟨h3, h4⟩ := pyAll_depth ds k fun x hx => h x (List.mem_cons_of_mem _ hx)
    exact ⟨by simp [PyData.canLayAll0, h1, h3], by simp only [PyData.depthAll]; omega⟩
end
theorem shaped_of_ok {d : DV} (h : d.ok 60 = true) : SeqAt.shaped d.py = true := by
  obtain ⟨h1, h2⟩ := py_depth d 60 h
  unfold SeqAt.shaped
  rw [h1, decide_eq_true (by omega : d.py.depth ≤ 64)]
  rfl
/-- Python's == of data -/
def eqD (x y : DV) : Bool := PyData.eqv x.py y.py

/-! ### comparisons -/
def OpB (K : PySem.W.Frag) (r : R2) (g : DV → DV → (Bool → Prop) → Prop) : Prop :=
  (∀ x y Q Q', (∀ c, Q c → Q' c) → g x y Q → g x y Q') ∧
  ∀ F H v u x y Q, Same F H → Hold K F v x → Hold K F u y → g x y (fun k => Q (.bl k) H) → r v u H Q
def dCmp (g : DV → DV → (Bool → Prop) → Prop) (fa fb : DD) : DT := fun env Q => fa env fun x e1 => fb e1 fun y e2 => g x y fun k => Q k e2
def dBl (f : DT) : DD := fun env Q => f env fun k e => Q (.bl k) e
section
variable {X : Cx} {Z : ZX} {a b : Expr} {ca cb : Nat} {fa fb : DD} {pos : Pos} {op : CmpOp}
theorem mono_cmp {g : DV → DV → (Bool → Prop) → Prop} (mg : ∀ x y Q Q', (∀ c, Q c → Q' c) → g x y Q → g x y Q') (ma : MonoC fa) (mb : MonoC fb) : MonoC (dCmp g fa fb) := fun env Q Q' q h =>
  ma _ _ _ (fun x e1 h1 => mb _ _ _ (fun y e2 h2 => mg _ _ _ _ (fun c => q _ _) h2) h1) h
theorem pdCmpR {r : R2} {g : DV → DV → (Bool → Prop) → Prop} (ho : OpR X (compareOp op) r) (hr : OpB X.K r g) (hm : behindInMarks op b = false) (ha : PEd X Z a ca fa) (hb : PEd X Z b cb fb) : PEd X Z (.Compare a [op] [b] pos) (ca + cb) (dBl (dCmp g fa fb)) := by
  refine ⟨fun env Q Q' q h => mono_cmp hr.1 ha.mono hb.mono _ _ _ (fun k e => q _ _) h, PE_imp (pe_cmpR ho ha.run hb.run hm) fun σ H Q ⟨B, F, n, env, hn, S, h⟩ => ?_⟩
  refine bindD ha.mono (by omega) S h fun x e1 v H1 F1 h1 S1 x1 hv => ?_
  refine bindD hb.mono (by omega) S1 h1 fun y e2 u H2 F2 h2 S2 x2 hu => ?_
  rw [Nat.add_assoc] at S2
  exact hr.2 F2 H2 v u x y Q S2.same (hv.mono x2) hu (hr.1 _ _ _ _ (fun k q => q _ H2 F2 S2 (x1.trans x2) (.bl k)) h2)
theorem ptCmpR {r : R2} {g : DV → DV → (Bool → Prop) → Prop} (ho : OpR X (compareOp op) r) (hr : OpB X.K r g) (hm : behindInMarks op b = false) (ha : PEd X Z a ca fa) (hb : PEd X Z b cb fb) : PTd X Z (.Compare a [op] [b] pos) (ca + cb) (dCmp g fa fb) := by
  refine ⟨mono_cmp hr.1 ha.mono hb.mono, PT_imp (pt_cmpR ho ha.run hb.run hm) fun σ H Q ⟨B, F, n, env, hn, S, h⟩ => ?_⟩
  refine bindD ha.mono (by omega) S h fun x e1 v H1 F1 h1 S1 x1 hv => ?_
  refine bindD hb.mono (by omega) S1 h1 fun y e2 u H2 F2 h2 S2 x2 hu => ?_
  rw [Nat.add_assoc] at S2
  exact hr.2 F2 H2 v u x y _ S2.same (hv.mono x2) hu (hr.1 _ _ _ _ (fun k q => ⟨k, rfl, q H2 F2 S2 (x1.trans x2)⟩) h2)
/-- another value as a test: a bool -/
def dAsB (f : DD) : DT := fun env Q => f env fun d e => match d with
  | .bl k => Q k e
  | _ => False
theorem ptVal {e : Expr} {c : Nat} {f : DD} (h : PEd X Z e c f) (he : ∀ whole, isTrue e X.env whole = (do let v ← whole; standAt e.pos; holding [v] (truthy v)) := by intro _; rfl) : PTd X Z e c (dAsB f) := by
  refine ⟨fun env Q Q' q g => h.mono _ _ _ (fun d e g => ?_) g, PT_imp (pt_val h.run he) fun σ H Q ⟨B, F, n, env, hn, S, g⟩ => bindD h.mono hn S g fun d e v H1 F1 h1 S1 x1 hv => ?_⟩
  · cases d <;> first | exact q _ _ g | exact g
  · cases hv <;> first | exact ⟨_, rfl, h1 H1 F1 S1 x1⟩ | exact h1.elim
end
def gB2 (h : Int → Int → Bool) : DV → DV → (Bool → Prop) → Prop := fun x y Q => match x, y with
  | .int i, .int j => Q (h i j)
  | _, _ => False
theorem opB2 {K : PySem.W.Frag} {h : Int → Int → Bool} : OpB K (rI0 fun i j => .bl (h i j)) (gB2 h) := by
  refine ⟨fun x y Q Q' q g => ?_, fun F H v u x y Q S hv hu g => ?_⟩
  · cases x <;> cases y <;> first | exact q _ g | exact g
  · cases hv <;> first | (cases hu <;> first | exact ⟨_, _, rfl, rfl, g⟩ | exact g.elim) | exact (by cases y <;> exact g.elim)
def gEq (neg : Bool) : DV → DV → (Bool → Prop) → Prop := fun x y Q => (x.ok 60 = true ∧ y.ok 60 = true) ∧ Q (if neg then !eqD x y else eqD x y)
section
variable {X : Cx} {Z : ZX} {a b : Expr} {ca cb : Nat} {fa fb : DD} {pos : Pos}
theorem opEqB {K : PySem.W.Frag} : OpB K (rEqD K) (gEq false) := ⟨fun x y Q Q' q g => ⟨g.1, q _ g.2⟩, fun F H v u x y Q S hv hu g =>
  ⟨_, _, Dp_mono S (dp_of hv 60 g.1.1), Dp_mono S (dp_of hu 60 g.1.2), shaped_of_ok g.1.1, shaped_of_ok g.1.2, g.2⟩⟩
theorem opNeB {K : PySem.W.Frag} : OpB K (rNeD K) (gEq true) := ⟨fun x y Q Q' q g => ⟨g.1, q _ g.2⟩, fun F H v u x y Q S hv hu g =>
  ⟨_, _, Dp_mono S (dp_of hv 60 g.1.1), Dp_mono S (dp_of hu 60 g.1.2), shaped_of_ok g.1.1, shaped_of_ok g.1.2, g.2⟩⟩
theorem ptLt (ha : PEd X Z a ca fa) (hb : PEd X Z b cb fb) : PTd X Z (.Compare a [.Lt] [b] pos) (ca + cb) (dCmp (gB2 fun i j => decide (i < j)) fa fb) := ptCmpR op_lt opB2 (nomark _) ha hb
theorem ptLe (ha : PEd X Z a ca fa) (hb : PEd X Z b cb fb) : PTd X Z (.Compare a [.LtE] [b] pos) (ca + cb) (dCmp (gB2 fun i j => decide (i ≤ j)) fa fb) := ptCmpR op_le opB2 (nomark _) ha hb
theorem ptGt (ha : PEd X Z a ca fa) (hb : PEd X Z b cb fb) : PTd X Z (.Compare a [.Gt] [b] pos) (ca + cb) (dCmp (gB2 fun i j => decide (j < i)) fa fb) := ptCmpR op_gt opB2 (nomark _) ha hb
theorem ptGe (ha : PEd X Z a ca fa) (hb : PEd X Z b cb fb) : PTd X Z (.Compare a [.GtE] [b] pos) (ca + cb) (dCmp (gB2 fun i j => decide (j ≤ i)) fa fb) := ptCmpR op_ge opB2 (nomark _) ha hb
theorem ptEq (hu : X.A.units + 64 < cLine) (ha : PEd X Z a ca fa) (hb : PEd X Z b cb fb) : PTd X Z (.Compare a [.Eq] [b] pos) (ca + cb) (dCmp (gEq false) fa fb) := ptCmpR (op_eqD hu) opEqB (nomark _) ha hb
theorem ptNe (hu : X.A.units + 64 < cLine) (ha : PEd X Z a ca fa) (hb : PEd X Z b cb fb) : PTd X Z (.Compare a [.NotEq] [b] pos) (ca + cb) (dCmp (gEq true) fa fb) := ptCmpR (op_neD hu) opNeB (nomark _) ha hb
theorem pdLt (ha : PEd X Z a ca fa) (hb : PEd X Z b cb fb) : PEd X Z (.Compare a [.Lt] [b] pos) (ca + cb) (dBl (dCmp (gB2 fun i j => decide (i < j)) fa fb)) := pdCmpR op_lt opB2 (nomark _) ha hb
theorem pdLe (ha : PEd X Z a ca fa) (hb : PEd X Z b cb fb) : PEd X Z (.Compare a [.LtE] [b] pos) (ca + cb) (dBl (dCmp (gB2 fun i j => decide (i ≤ j)) fa fb)) := pdCmpR op_le opB2 (nomark _) ha hb
theorem pdGt (ha : PEd X Z a ca fa) (hb : PEd X Z b cb fb) : PEd X Z (.Compare a [.Gt] [b] pos) (ca + cb) (dBl (dCmp (gB2 fun i j => decide (j < i)) fa fb)) := pdCmpR op_gt opB2 (nomark _) ha hb
theorem pdGe (ha : PEd X Z a ca fa) (hb : PEd X Z b cb fb) : PEd X Z (.Compare a [.GtE] [b] pos) (ca + cb) (dBl (dCmp (gB2 fun i j => decide (j ≤ i)) fa fb)) := pdCmpR op_ge opB2 (nomark _) ha hb
theorem pdEq (hu : X.A.units + 64 < cLine) (ha : PEd X Z a ca fa) (hb : PEd X Z b cb fb) : PEd X Z (.Compare a [.Eq] [b] pos) (ca + cb) (dBl (dCmp (gEq false) fa fb)) := pdCmpR (op_eqD hu) opEqB (nomark _) ha hb
theorem pdNe (hu : X.A.units + 64 < cLine) (ha : PEd X Z a ca fa) (hb : PEd X Z b cb fb) : PEd X Z (.Compare a [.NotEq] [b] pos) (ca + cb) (dBl (dCmp (gEq true) fa fb)) := pdCmpR (op_neD hu) opNeB (nomark _) ha hb

/-! ### and, or, not, if-expressions -/
def dAnd (f g : DT) : DT := fun env Q => f env fun k e => if k = true then g e Q else Q false e
def dOr (f g : DT) : DT := fun env Q => f env fun k e => if k = true then Q true e else g e Q
def dNot (f : DT) : DT := fun env Q => f env fun k e => Q (!k) e
variable {tA tB : DT} {rest : List Expr}
theorem mono_and (ma : MonoC tA) (mb : MonoC tB) : MonoC (dAnd tA tB) := fun env Q Q' q h => ma _ _ _ (fun k e g => by
  cases k with
  | true => exact mb _ _ _ q g
  | false => exact q _ _ g) h
theorem mono_or (ma : MonoC tA) (mb : MonoC tB) : MonoC (dOr tA tB) := fun env Q Q' q h => ma _ _ _ (fun k e g => by
  cases k with
  | true => exact q _ _ g
  | false => exact mb _ _ _ q g) h
theorem PTd.mono_c {e : Expr} {c c' : Nat} {f : DT} (h : PTd X Z e c f) (hc : c ≤ c') : PTd X Z e c' f := ⟨h.mono, PT_imp h.run fun σ H Q ⟨B, F, n, env, hn, S, g⟩ =>
  bindT h.mono (by omega) S g fun k e H1 F1 q S1 x1 => q H1 F1 (S1.mono (by omega)) x1⟩
theorem pwAnd1 (ha : PTd X Z a ca tA) : PWd X Z (.BoolOp .And [a] pos) ca tA := ⟨ha.mono, pw_and1 ha.run⟩
theorem pwOr1 (ha : PTd X Z a ca tA) : PWd X Z (.BoolOp .Or [a] pos) ca tA := ⟨ha.mono, pw_or1 ha.run⟩
theorem pwAnd (ha : PTd X Z a ca tA) (hb : PWd X Z (.BoolOp .And (b :: rest) pos) cb tB) : PWd X Z (.BoolOp .And (a :: b :: rest) pos) (ca + cb) (dAnd tA tB) := by
  refine ⟨mono_and ha.mono hb.mono, PW_imp (pw_and ha.run hb.run) fun σ H Q ⟨B, F, n, env, hn, S, h⟩ => ?_⟩
  refine bindT ha.mono (by omega) S h fun k e H1 F1 h1 S1 x1 => ?_
  cases k with
  | true =>
    refine bindT hb.mono (by omega) S1 h1 fun k2 e2 H2 F2 h2 S2 x2 => ?_
    rw [Nat.add_assoc] at S2
    exact h2 H2 F2 S2 (x1.trans x2)
  | false => exact h1 H1 F1 (S1.mono (by omega)) x1
theorem pwOr (ha : PTd X Z a ca tA) (hb : PWd X Z (.BoolOp .Or (b :: rest) pos) cb tB) : PWd X Z (.BoolOp .Or (a :: b :: rest) pos) (ca + cb) (dOr tA tB) := by
  refine ⟨mono_or ha.mono hb.mono, PW_imp (pw_or ha.run hb.run) fun σ H Q ⟨B, F, n, env, hn, S, h⟩ => ?_⟩
  refine bindT ha.mono (by omega) S h fun k e H1 F1 h1 S1 x1 => ?_
  cases k with
  | false =>
    refine bindT hb.mono (by omega) S1 h1 fun k2 e2 H2 F2 h2 S2 x2 => ?_
    rw [Nat.add_assoc] at S2
    exact h2 H2 F2 S2 (x1.trans x2)
  | true => exact h1 H1 F1 (S1.mono (by omega)) x1
theorem PWd.pt {e : Expr} {c : Nat} {f : DT} (h : PWd X Z e c f) : PTd X Z e c f := ⟨h.mono, h.run.pt⟩
theorem ptNot (ha : PTd X Z a ca tA) : PTd X Z (.UnaryOp .Not a pos) ca (dNot tA) := ⟨fun env Q Q' q h => ha.mono _ _ _ (fun k e g => q _ _ g) h, PT_imp (pt_not ha.run) fun σ H Q ⟨B, F, n, env, hn, S, h⟩ => ⟨B, F, n, env, hn, S, h⟩⟩
/-- as values -/
def dAndV (fa fb : DD) : DD := fun env Q => fa env fun d e => match d with
  | .bl k => if k = true then fb e Q else Q (.bl false) e
  | _ => False
def dOrV (fa fb : DD) : DD := fun env Q => fa env fun d e => match d with
  | .bl k => if k = true then Q (.bl true) e else fb e Q
  | _ => False
def dNotV (fa : DD) : DD := fun env Q => fa env fun d e => match d with
  | .bl k => Q (.bl (!k)) e
  | _ => False
theorem pdOne {op : BoolOp} {c : Nat} {f : DD} (h : PEd X Z a c f) : PEd X Z (.BoolOp op [a] pos) c f := ⟨h.mono, pe_one h.run⟩
theorem pdAnd (ha : PEd X Z a ca fa) (hb : PEd X Z (.BoolOp .And (b :: rest) pos) cb fb) : PEd X Z (.BoolOp .And (a :: b :: rest) pos) (ca + cb) (dAndV fa fb) := by
  refine ⟨fun env Q Q' q h => ha.mono _ _ _ (fun d e g => ?_) h, PE_imp (pe_and ha.run hb.run) fun σ H Q ⟨B, F, n, env, hn, S, h⟩ => bindD ha.mono (by omega) S h fun d e v H1 F1 h1 S1 x1 hv => ?_⟩
  · cases d <;> first | exact g | skip
    rename_i k
    cases k with
    | true => exact hb.mono _ _ _ q g
    | false => exact q _ _ g
  · cases hv <;> first | exact h1.elim | skip
    rename_i k
    refine ⟨k, rfl, ?_⟩
    cases k with
    | true =>
      refine bindD hb.mono (by omega) S1 h1 fun y e2 u H2 F2 h2 S2 x2 hu => ?_
      rw [Nat.add_assoc] at S2
      exact h2 u H2 F2 S2 (x1.trans x2) hu
    | false => exact h1 _ H1 F1 (S1.mono (by omega)) x1 (.bl false)
theorem pdOr (ha : PEd X Z a ca fa) (hb : PEd X Z (.BoolOp .Or (b :: rest) pos) cb fb) : PEd X Z (.BoolOp .Or (a :: b :: rest) pos) (ca + cb) (dOrV fa fb) := by
  refine ⟨fun env Q Q' q h => ha.mono _ _ _ (fun d e g => ?_) h, PE_imp (pe_or ha.run hb.run) fun σ H Q ⟨B, F, n, env, hn, S, h⟩ => bindD ha.mono (by omega) S h fun d e v H1 F1 h1 S1 x1 hv => ?_⟩
  · cases d <;> first | exact g | skip
    rename_i k
    cases k with
    | false => exact hb.mono _ _ _ q g
    | true => exact q _ _ g
  · cases hv <;> first | exact h1.elim | skip
    rename_i k
    refine ⟨k, rfl, ?_⟩
    cases k with
    | false =>
      refine bindD hb.mono (by omega) S1 h1 fun y e2 u H2 F2 h2 S2 x2 hu => ?_
      rw [Nat.add_assoc] at S2
      exact h2 u H2 F2 S2 (x1.trans x2) hu
    | true => exact h1 _ H1 F1 (S1.mono (by omega)) x1 (.bl true)
theorem pdNot (ha : PEd X Z a ca fa) : PEd X Z (.UnaryOp .Not a pos) ca (dNotV fa) := by
  refine ⟨fun env Q Q' q h => ha.mono _ _ _ (fun d e g => ?_) h, PE_imp (pe_not ha.run) fun σ H Q ⟨B, F, n, env, hn, S, h⟩ => bindD ha.mono (by omega) S h fun d e v H1 F1 h1 S1 x1 hv => ?_⟩
  · cases d <;> first | exact g | exact q _ _ g
  · cases hv <;> first | exact h1.elim | exact ⟨_, rfl, h1 _ H1 F1 S1 x1 (.bl _)⟩
def dIf (t : DT) (fa fb : DE) : DE := fun env Q => t env fun k e => if k = true then fa e Q else fb e Q
theorem pcIf {c : Expr} {cc : Nat} {t : DT} {ga gb : DE} (hc : PTd X Z c cc t) (ha : PEc X Z a ca ga) (hb : PEc X Z b cb gb) : PEc X Z (.IfExp c a b pos) (cc + ca + cb) (dIf t ga gb) := by
  refine ⟨fun env Q Q' q h => hc.mono _ _ _ (fun k e g => ?_) h, PE_imp (pe_ifExp hc.run ha.run hb.run) fun σ H Q ⟨B, F, n, env, hn, S, h⟩ => bindT hc.mono (by omega) S h fun k e H1 F1 h1 S1 x1 => ?_⟩
  · cases k with
    | true => exact ha.mono _ _ _ q g
    | false => exact hb.mono _ _ _ q g
  · cases k with
    | true => exact bindC ha.mono (by omega) S1 h1 fun y e2 u H2 F2 h2 S2 x2 hu => h2 u H2 F2 (S2.mono (by omega)) (x1.trans x2) (hu.mono (by omega))
    | false => exact bindC hb.mono (by omega) S1 h1 fun y e2 u H2 F2 h2 S2 x2 hu => h2 u H2 F2 (S2.mono (by omega)) (x1.trans x2) (hu.mono (by omega))
end

/-! ### arithmetic -/
def gAdd : DV → DV → (Cell → Prop) → Prop := fun x y Q => match x, y with
  | .int i, .int j => Q (.d (.int (i + j)))
  | .str s, .str t => s.length + t.length ≤ sizeLine ∧ Q (.d (.str (s ++ t)))
  | .lst xs, .lst ys => xs.length + ys.length ≤ sizeLine ∧ Q (.o false (.l (xs ++ ys)))
  | .tup xs, .tup ys => xs.length + ys.length ≤ sizeLine ∧ Q (.d (.tup (xs ++ ys)))
  | _, _ => False
def rAdd4 (K : PySem.W.Frag) : R2 := fun x y H Q => rI0 (fun i j => .int (i + j)) x y H Q ∨ (∃ i j, x = .str i ∧ y = .str j ∧ i.length + j.length ≤ sizeLine ∧ Q (.str (i ++ j)) H) ∨ rCat x y H Q ∨ rCatA K x y H Q
theorem op_add4 {X : Cx} : OpR X (binaryOp .Add) (rAdd4 X.K) := OpR.or op_add (OpR.or op_add_str (OpR.or op_cat op_catA))
section
variable {B : Base} {K : PySem.W.Frag} {Z : ZX} {F H : Hp} {n : Nat} {σ : L2.St} {env : List Cell}
/-- a new tuple of data -/
theorem new_tup (S : SOk B K Z F H n σ env) {vs : List V} {xs : List DV} (h : HoldAll K F vs xs) {p : Addr} (hp : H p = none) :
    ∃ F', SOk B K Z F' (upd H p (.tup vs)) n σ env ∧ Ext F F' ∧ Hold K F' (.ref p) (.tup xs) := by
  obtain ⟨S', s⟩ := S.alloc (o := .tup vs) hp
  exact ⟨_, S', Ext.of s, .tup upd_same (h.mono (Ext.of s))⟩
/-- a new list, owned by nobody yet -/
theorem new_lst (S : SOk B K Z F H n σ env) {vs : List V} {xs : List DV} (h : HoldAll K F vs xs) {p : Addr} (hp : H p = none) :
    SOk B K Z F (upd H p (.lst vs)) n σ env ∧ Res B K F (upd H p (.lst vs)) n σ env (.ref p) (.o false (.l xs)) := by
  refine ⟨S.allocO hp, ⟨p, rfl, S.freshF hp, ⟨vs, upd_same, h⟩, (fun z => by cases z), fun _ => .inl (S.fresh0 hp)⟩, rfl, fun _ i ci e ow z => ?_, fun _ a e => by cases e; exact S.fresh0 hp⟩
  cases ci with
  | un => cases ow
  | d x => cases ow
  | o b c =>
    obtain ⟨a, e1, h1, h2, _⟩ := S.own e
    rw [z] at e1
    cases e1
    obtain ⟨o, e3⟩ := OCOk.there h2
    rw [hp] at e3
    cases e3
end
theorem op2Add {K : PySem.W.Frag} : Op2 K (rAdd4 K) gAdd := by
  refine ⟨fun x y Q Q' q g => ?_, fun B Z F H n σ env v u x y Q S hv hu g => ?_⟩
  · cases x <;> cases y <;> first | exact q _ g | exact ⟨g.1, q _ g.2⟩ | exact g
  · cases hv with
    | int i => cases hu <;> first | exact .inl ⟨_, _, rfl, rfl, g _ H F S (Ext.refl _) (Res.dat (.int _))⟩ | exact g.elim
    | str i => cases hu <;> first | exact .inr (.inl ⟨_, _, rfl, rfl, g.1, g.2 _ H F S (Ext.refl _) (Res.dat (.str _))⟩) | exact g.elim
    | lst ha hxs =>
      cases hu with
      | lst hb hys =>
        refine .inr (.inr (.inl ⟨_, _, _, _, rfl, rfl, S.same _ _ ha, S.same _ _ hb, by rw [hxs.length, hys.length]; exact g.1, fun p hp => ?_⟩))
        obtain ⟨S', r⟩ := new_lst S (hxs.append hys) hp
        exact g.2 _ _ F S' (Ext.refl _) r
      | _ => exact g.elim
    | tup ha hxs =>
      cases hu with
      | tup hb hys =>
        have hA := SqT.of (K := K) (S.same _ _ ha)
        have hB := SqT.of (K := K) (S.same _ _ hb)
        refine .inr (.inr (.inr ⟨_, _, _, _, rfl, rfl, hA, hB, by rw [hxs.length, hys.length]; exact g.1, fun z => ?_, fun z1 z2 => ?_, fun z1 z2 p hp => ?_⟩))
        · subst z
          cases hxs
          exact g.2 _ H F S (Ext.refl _) (Res.dat (.tup hb hys))
        · subst z2
          cases hys
          exact g.2 _ H F S (Ext.refl _) (Res.dat (by rw [List.append_nil]; exact .tup ha hxs))
        · obtain ⟨F', S', x', h'⟩ := new_tup S (hxs.append hys) hp
          exact g.2 _ _ F' S' x' (Res.dat h')
      | _ => exact g.elim
    | _ => cases y <;> exact g.elim
def gMul : DV → DV → (Cell → Prop) → Prop := fun x y Q => match x, y with
  | .int i, .int j => (CMul i j ∨ CMulW i j) ∧ Q (.d (.int (i * j)))
  | .lst xs, .int k => (-(2 ^ 63) ≤ k ∧ k < 2 ^ 63 ∧ xs.length * k.toNat ≤ sizeLine) ∧ Q (.o false (.l (List.replicate k.toNat xs).flatten))
  | .tup xs, .int k => (xs ≠ [] ∧ 2 ≤ k ∧ k ≤ 1000 ∧ xs.length ≤ 1000) ∧ Q (.d (.tup (List.replicate k.toNat xs).flatten))
  | _, _ => False
def rMul5 (K : PySem.W.Frag) : R2 := fun x y H Q => rI CMul (fun i j => .int (i * j)) x y H Q ∨ rI CMulW (fun i j => .int (i * j)) x y H Q ∨ rRep x y H Q ∨ rRepT K x y H Q
theorem op_mul5 {X : Cx} : OpR X (binaryOp .Mult) (rMul5 X.K) := OpR.or op_mul (OpR.or op_mulW (OpR.or op_rep op_repT))
theorem HoldAll.rep {K : PySem.W.Frag} {F : Hp} {vs : List V} {xs : List DV} (h : HoldAll K F vs xs) : ∀ k : Nat, HoldAll K F (List.replicate k vs).flatten (List.replicate k xs).flatten
  | 0 => .nil
  | k + 1 => by
    rw [List.replicate_succ, List.replicate_succ, List.flatten_cons, List.flatten_cons]
    exact h.append (h.rep k)
theorem op2Mul {K : PySem.W.Frag} : Op2 K (rMul5 K) gMul := by
  refine ⟨fun x y Q Q' q g => ?_, fun B Z F H n σ env v u x y Q S hv hu g => ?_⟩
  · cases x <;> cases y <;> first | exact q _ g | exact ⟨g.1, q _ g.2⟩ | exact g
  · cases hv with
    | int i =>
      cases hu with
      | int j =>
        obtain ⟨c, g⟩ := g
        rcases c with c | c
        · exact .inl ⟨_, _, rfl, rfl, c, g _ H F S (Ext.refl _) (Res.dat (.int _))⟩
        · exact .inr (.inl ⟨_, _, rfl, rfl, c, g _ H F S (Ext.refl _) (Res.dat (.int _))⟩)
      | _ => exact g.elim
    | lst ha hxs =>
      cases hu with
      | int k =>
        refine .inr (.inr (.inl ⟨_, _, _, rfl, rfl, S.same _ _ ha, g.1.1, g.1.2.1, by rw [hxs.length]; exact g.1.2.2, fun p hp => ?_⟩))
        obtain ⟨S', r⟩ := new_lst S (hxs.rep k.toNat) hp
        exact g.2 _ _ F S' (Ext.refl _) r
      | _ => exact g.elim
    | tup ha hxs =>
      cases hu with
      | int k =>
        have hA := SqT.of (K := K) (S.same _ _ ha)
        refine .inr (.inr (.inr ⟨_, _, _, rfl, rfl, hA, ?_, g.1.2.1, g.1.2.2.1, by rw [hxs.length]; exact g.1.2.2.2, fun p hp => ?_⟩))
        · intro z
          subst z
          cases hxs
          exact g.1.1 rfl
        · obtain ⟨F', S', x', h'⟩ := new_tup S (hxs.rep k.toNat) hp
          exact g.2 _ _ F' S' x' (Res.dat h')
      | _ => exact g.elim
    | _ => cases y <;> exact g.elim
section
variable {X : Cx} {Z : ZX} {a b : Expr} {ca cb : Nat} {fa fb : DD} {pos : Pos}
theorem pcAdd (ha : PEd X Z a ca fa) (hb : PEd X Z b cb fb) : PEc X Z (.BinOp a .Add b pos) (ca + cb) (dOp2 gAdd fa fb) := PEc.op2 op2Add ha hb (pe_op op_add4 ha.run hb.run)
theorem pcMul (ha : PEd X Z a ca fa) (hb : PEd X Z b cb fb) : PEc X Z (.BinOp a .Mult b pos) (ca + cb) (dOp2 gMul fa fb) := PEc.op2 op2Mul ha hb (pe_op op_mul5 ha.run hb.run)
theorem pdSub (ha : PEd X Z a ca fa) (hb : PEd X Z b cb fb) : PEd X Z (.BinOp a .Sub b pos) (ca + cb) (dOp2d (gI0 fun i j => .int (i - j)) fa fb) := PEd.op2 (op2I0 fun _ _ _ => .int _) ha hb (pe_op op_sub ha.run hb.run)
/-- by a positive number -/
theorem pdMod (ha : PEd X Z a ca fa) (hb : PEd X Z b cb fb) : PEd X Z (.BinOp a .Mod b pos) (ca + cb) (dOp2d (gI2 (fun _ j => 0 < j) fun i j => .int (i % j)) fa fb) := PEd.op2 (op2I fun _ _ _ => .int _) ha hb (pe_op op_mod ha.run hb.run)
theorem pdFdiv (ha : PEd X Z a ca fa) (hb : PEd X Z b cb fb) : PEd X Z (.BinOp a .FloorDiv b pos) (ca + cb) (dOp2d (gI2 CDivW fun i j => .int (i / j)) fa fb) := PEd.op2 (op2I fun _ _ _ => .int _) ha hb (pe_op op_fdivW ha.run hb.run)
def CPowW (i j : Int) : Prop := 0 ≤ j ∧ ((Builtin.Int.intBits i : Nat) : Int) * j ≤ 2 ^ 27
theorem op_powW : OpR X (binaryOp .Pow) (rI CPowW fun i j => .int (i ^ j.toNat)) := opI fun _ _ _ _ _ _ _ hc q => pow_int hc.1 hc.2 q
theorem pdPow (ha : PEd X Z a ca fa) (hb : PEd X Z b cb fb) : PEd X Z (.BinOp a .Pow b pos) (ca + cb) (dOp2d (gI2 CPowW fun i j => .int (i ^ j.toNat)) fa fb) := PEd.op2 (op2I fun _ _ _ => .int _) ha hb (pe_op op_powW ha.run hb.run)
def dNeg (fa : DD) : DD := fun env Q => fa env fun d e => match d with
  | .int i => Q (.int (-i)) e
  | _ => False
theorem pdNeg (ha : PEd X Z a ca fa) : PEd X Z (.UnaryOp .USub a pos) ca (dNeg fa) := by
  refine ⟨fun env Q Q' q h => ha.mono _ _ _ (fun d e g => ?_) h, PE_imp (pe_un un_neg ha.run) fun σ H Q ⟨B, F, n, env, hn, S, h⟩ => bindD ha.mono (by omega) S h fun d e v H1 F1 h1 S1 x1 hv => ?_⟩
  · cases d <;> first | exact g | exact q _ _ g
  · cases hv <;> first | exact h1.elim | exact ⟨_, rfl, h1 _ H1 F1 S1 x1 (.int _)⟩
end
end DL
set_option maxRecDepth 100000
set_option maxHeartbeats 4000000
namespace DL
open PySem PySem.Spec PyProof.Rows L2

/-! ### statements -/
structure EndsD where
  nx : List Cell → Prop
  rt : Cell → List Cell → Prop
  bk : List Cell → Prop := fun _ => False
  ct : List Cell → Prop := fun _ => False
abbrev WS := EndsD → List Cell → Prop
structure EndsD.le (D D' : EndsD) : Prop where
  nx : ∀ e, D.nx e → D'.nx e
  rt : ∀ r e, D.rt r e → D'.rt r e
  bk : ∀ e, D.bk e → D'.bk e
  ct : ∀ e, D.ct e → D'.ct e
def MonoS (w : WS) : Prop := ∀ (D D' : EndsD) (env : List Cell), D.le D' → w D env → w D' env
/-- the ends, by data -/
def endD (B : Base) (K : PySem.W.Frag) (Z : ZX) (F : Hp) (m : Nat) (D : Ends) : EndsD where
  nx := fun e => ∀ σ' H' F', SOk B K Z F' H' m σ' e → Ext F F' → D.nx σ' H'
  rt := fun r e => ∀ v σ' H' F', SOk B K Z F' H' m σ' e → Ext F F' → Res B K F' H' m σ' e v r → D.rt v H'
  bk := fun e => ∀ σ' H' F', SOk B K Z F' H' m σ' e → Ext F F' → D.bk σ' H'
  ct := fun e => ∀ σ' H' F', SOk B K Z F' H' m σ' e → Ext F F' → D.ct σ' H'
def tDs (K : PySem.W.Frag) (Z : ZX) (c : Nat) (w : WS) : TS := fun D σ H => ∃ B F n env, n + c ≤ Z.M ∧ SOk B K Z F H n σ env ∧ w (endD B K Z F (n + c) D) env
structure PSd (X : Cx) (Z : ZX) (st : Stmt) (c : Nat) (w : WS) : Prop where
  mono : MonoS w
  run : PS X st (tDs X.K Z c w)
structure PSSd (X : Cx) (Z : ZX) (st : List Stmt) (c : Nat) (w : WS) : Prop where
  mono : MonoS w
  run : PSs X st (tDs X.K Z c w)
theorem PS_imp {X : Cx} {st : Stmt} {t t' : TS} (h : PS X st t) (i : ∀ D σ H, t' D σ H → t D σ H) : PS X st t' := ⟨fun pins s σ H D I q => h.run pins s σ H D I (i _ _ _ q)⟩
theorem PSs_imp {X : Cx} {st : List Stmt} {t t' : TS} (h : PSs X st t) (i : ∀ D σ H, t' D σ H → t D σ H) : PSs X st t' := ⟨fun pins s σ H D I q => h.run pins s σ H D I (i _ _ _ q)⟩
section
variable {B : Base} {K : PySem.W.Frag} {Z : ZX} {F F1 H : Hp} {n m c : Nat} {σ : L2.St} {env : List Cell} {D D' : Ends}
/-- a statement within another's end -/
theorem bindS {w : WS} {E : EndsD} (mw : MonoS w) (hn : n + c ≤ Z.M) (S : SOk B K Z F H n σ env) (x : Ext F1 F) (h : w E env) (le : E.le (endD B K Z F (n + c) D)) : tDs K Z c w D σ H :=
  ⟨B, F, n, env, hn, S, mw _ _ _ le h⟩
/-- the end asks less where more was spent, or more is frozen -/
theorem endD_le (x : Ext F1 F) (hm : n ≤ m) : (endD B K Z F1 m D).le (endD B K Z F n D) where
  nx := fun e h σ' H' F' S q => h σ' H' F' (S.mono hm) (x.trans q)
  rt := fun r e h v σ' H' F' S q z => h v σ' H' F' (S.mono hm) (x.trans q) (z.mono hm)
  bk := fun e h σ' H' F' S q => h σ' H' F' (S.mono hm) (x.trans q)
  ct := fun e h σ' H' F' S q => h σ' H' F' (S.mono hm) (x.trans q)
end
section
variable {X : Cx} {Z : ZX} {st : Stmt} {rest : List Stmt} {e : Expr} {pos : Pos}
def wNil : WS := fun D env => D.nx env
def wSeq (u w : WS) : WS := fun D env => u { D with nx := w D } env
theorem EndsD.le.nxto {D D' : EndsD} (l : D.le D') {p q : List Cell → Prop} (h : ∀ e, p e → q e) : ({ D with nx := p } : EndsD).le { D' with nx := q } := ⟨h, l.rt, l.bk, l.ct⟩
theorem psNil : PSSd X Z [] 0 wNil := ⟨fun D D' env l h => l.nx _ h, PSs_imp pss_nil fun D σ H ⟨B, F, n, env, hn, S, h⟩ => h σ H F S (Ext.refl _)⟩
theorem psCons {c1 c2 : Nat} {u w : WS} (h1 : PSd X Z st c1 u) (h2 : PSSd X Z rest c2 w) : PSSd X Z (st :: rest) (c1 + c2) (wSeq u w) := by
  refine ⟨fun D D' env l h => h1.mono _ _ _ (l.nxto fun e => h2.mono _ _ _ l) h, PSs_imp (pss_cons h1.run h2.run) fun D σ H ⟨B, F, n, env, hn, S, h⟩ => ?_⟩
  refine bindS (c := c1) h1.mono (by omega) S (Ext.refl _) h ⟨fun e h2' σ' H' F' S' x => ?_, ?_, ?_, ?_⟩
  · refine bindS (c := c2) h2.mono (by omega) S' x h2' ?_
    rw [Nat.add_assoc]
    exact endD_le x (Nat.le_refl _)
  · exact (endD_le (Ext.refl _) (by omega)).rt
  · exact (endD_le (Ext.refl _) (by omega)).bk
  · exact (endD_le (Ext.refl _) (by omega)).ct
theorem psOne {c : Nat} {w : WS} (h : PSd X Z st c w) : PSSd X Z [st] c w := ⟨h.mono, pss_one h.run⟩
def wBreak : WS := fun D env => D.bk env
def wCont : WS := fun D env => D.ct env
def wNever : WS := fun _ _ => False
theorem psPass : PSd X Z (.Pass pos) 0 wNil := ⟨fun D D' env l h => l.nx _ h, PS_imp ps_pass fun D σ H ⟨B, F, n, env, hn, S, h⟩ => h σ H F S (Ext.refl _)⟩
theorem psBreak : PSd X Z (.Break pos) 0 wBreak := ⟨fun D D' env l h => l.bk _ h, PS_imp ps_break fun D σ H ⟨B, F, n, env, hn, S, h⟩ => h σ H F S (Ext.refl _)⟩
theorem psContinue : PSd X Z (.Continue pos) 0 wCont := ⟨fun D D' env l h => l.ct _ h, PS_imp ps_continue fun D σ H ⟨B, F, n, env, hn, S, h⟩ => h σ H F S (Ext.refl _)⟩
theorem psNever : PSd X Z st 0 wNever := ⟨fun D D' env l h => h, PS_imp ps_never fun D σ H ⟨B, F, n, env, hn, S, h⟩ => h⟩
theorem psDoc {x j pos'} : PSd X Z (.Expr (.Constant (.str x) j pos') pos) 0 wNil := ⟨fun D D' env l h => l.nx _ h, PS_imp ps_doc fun D σ H ⟨B, F, n, env, hn, S, h⟩ => h σ H F S (Ext.refl _)⟩
/-- name = e -/
def okSet (env : List Cell) (i : Nat) : Prop := match env[i]? with
  | some (.o true _) => False
  | _ => True
theorem okSet_of {env : List Cell} {i : Nat} (h : okSet env i) : ∀ c, env[i]? = some c → c.bor = false := fun c e => by
  unfold okSet at h
  cases c with
  | un => rfl
  | d x => rfl
  | o b c =>
    cases b with
    | false => rfl
    | true => rw [e] at h; exact h.elim
def wSet (i : Nat) (f : DE) : WS := fun D env => f env fun r e => okSet e i ∧ D.nx (e.set i r)
theorem psSet {i : Nat} {x : Str} {pos' : Pos} {c : Nat} {f : DE} (hN : X.N.Nodup) (hi : X.N[i]? = some x) (hx : Loc X.env.scope x) (he : PEc X Z e c f) (hs : swapsWith e (some (.Name x pos')) pos.line X.env = pure false := by rfl)
    (hf : X.fn x = true ∨ X.env.scope.names.lookup x = some .local := by first | exact .inl rfl | exact .inr rfl | assumption) : PSd X Z (.Assign [.Name x pos'] e pos) c (wSet i f) := by
  refine ⟨fun D D' env l h => he.mono _ _ _ (fun r e g => ⟨g.1, l.nx _ g.2⟩) h, PS_imp (ps_set hN hi hx he.run hs hf) fun D σ H ⟨B, F, n, env, hn, S, h⟩ => ?_⟩
  exact bindC he.mono hn S h fun r e v H1 F1 h1 S1 x1 hr => h1.2 _ H1 F1 (S1.store hr i (okSet_of h1.1)) x1
/-- the value is dropped -/
def wDrop (f : DE) : WS := fun D env => f env fun r e => D.nx e
theorem psExpr {c : Nat} {f : DE} (he : PEc X Z e c f) (hs : swapsWith e none pos.line X.env = pure false := by rfl) : PSd X Z (.Expr e pos) c (wDrop f) :=
  ⟨fun D D' env l h => he.mono _ _ _ (fun r e g => l.nx _ g) h, PS_imp (ps_expr he.run hs) fun D σ H ⟨B, F, n, env, hn, S, h⟩ => bindC he.mono hn S h fun r e v H1 F1 h1 S1 x1 hr => h1 σ H1 F1 S1 x1⟩
def wRet (f : DE) : WS := fun D env => f env fun r e => D.rt r e
theorem psRet {c : Nat} {f : DE} (he : PEc X Z e c f) : PSd X Z (.Return (some e) pos) c (wRet f) :=
  ⟨fun D D' env l h => he.mono _ _ _ (fun r e g => l.rt _ _ g) h, PS_imp (ps_ret he.run) fun D σ H ⟨B, F, n, env, hn, S, h⟩ => bindC he.mono hn S h fun r e v H1 F1 h1 S1 x1 hr => h1 v σ H1 F1 S1 x1 hr⟩
def wRetN : WS := fun D env => D.rt (.d .non) env
theorem psRetN : PSd X Z (.Return none pos) 0 wRetN := ⟨fun D D' env l h => l.rt _ _ h, PS_imp ps_retN fun D σ H ⟨B, F, n, env, hn, S, h⟩ => h _ σ H F S (Ext.refl _) (Res.dat .non)⟩
def wIf (t : DT) (u w : WS) : WS := fun D env => t env fun k e => if k = true then u D e else w D e
theorem psIf {a b : List Stmt} {ct c1 c2 : Nat} {t : DT} {u w : WS} (hc : PTd X Z e ct t) (ha : PSSd X Z a c1 u) (hb : PSSd X Z b c2 w) : PSd X Z (.If e a b pos) (ct + c1 + c2) (wIf t u w) := by
  refine ⟨fun D D' env l h => hc.mono _ _ _ (fun k e g => ?_) h, PS_imp (ps_if hc.run ha.run hb.run) fun D σ H ⟨B, F, n, env, hn, S, h⟩ => bindT hc.mono (by omega) S h fun k e H1 F1 h1 S1 x1 => ?_⟩
  · cases k with
    | true => exact ha.mono _ _ _ l g
    | false => exact hb.mono _ _ _ l g
  · cases k with
    | true => exact bindS (c := c1) ha.mono (by omega) S1 x1 h1 (endD_le x1 (by omega))
    | false => exact bindS (c := c2) hb.mono (by omega) S1 x1 h1 (endD_le x1 (by omega))
def wWhile (t : DT) (w : WS) : WS := fun D env => ∃ W : Nat → List Cell → Prop, (∃ m, W m env) ∧ ∀ m env, W m env → t env fun k e => if k = true then w { D with nx := fun e => ∃ m', m' < m ∧ W m' e, ct := fun e => ∃ m', m' < m ∧ W m' e, bk := D.nx } e else D.nx e
theorem psWhile {body : List Stmt} {t : DT} {w : WS} (hp : PassesOwn (model X.prog X.w) X.A X.env X.xe) (hc : PTd X Z e 0 t) (hb : PSSd X Z body 0 w) : PSd X Z (.While e body [] pos) 0 (wWhile t w) := by
  refine ⟨fun D D' env l ⟨W, h0, h⟩ => ⟨W, h0, fun m env hw => hc.mono _ _ _ (fun k e g => ?_) (h m env hw)⟩, PS_imp (ps_while hp hc.run hb.run) fun D σ H ⟨B, F, n, env, hn, S, W, ⟨m0, w0⟩, h⟩ => ?_⟩
  · cases k with
    | true => exact hb.mono { D with nx := fun e => ∃ m', m' < m ∧ W m' e, ct := fun e => ∃ m', m' < m ∧ W m' e, bk := D.nx } _ _ ⟨fun _ q => q, l.rt, l.nx, fun _ q => q⟩ g
    | false => exact l.nx _ g
  · refine ⟨fun m σ' H' => ∃ F' env', SOk B X.K Z F' H' n σ' env' ∧ Ext F F' ∧ W m env', ⟨m0, F, env, S, Ext.refl _, w0⟩, fun m σ1 H1 ⟨F1, env1, S1, x1, w1⟩ => ?_⟩
    refine bindT hc.mono hn S1 (h m env1 w1) fun k e H2 F2 h2 S2 x2 => ?_
    cases k with
    | false => exact h2 σ1 H2 F2 S2 (x1.trans x2)
    | true =>
      refine ⟨fun σ' H' => ∃ m', m' < m ∧ ∃ F' env', SOk B X.K Z F' H' n σ' env' ∧ Ext F F' ∧ W m' env', fun σ' H' q => q, ?_⟩
      refine bindS (c := 0) (n := n) hb.mono hn S2 x2 h2 ⟨fun e ⟨m', lt, w'⟩ σ' H' F' S' x' => ⟨m', lt, F', e, S', (x1.trans x2).trans x', w'⟩, fun r e q v σ' H' F' S' x' z => ?_, fun e q σ' H' F' S' x' => ?_, fun e ⟨m', lt, w'⟩ σ' H' F' S' x' => ⟨m', lt, F', e, S', (x1.trans x2).trans x', w'⟩⟩
      · exact q v σ' H' F' S' ((x1.trans x2).trans x') z
      · exact q σ' H' F' S' ((x1.trans x2).trans x')
end

/-! ### targets -/
abbrev DG := DV → List Cell → (List Cell → Prop) → Prop
abbrev DGs := List DV → List Cell → (List Cell → Prop) → Prop
/-- the slots but these are as they were -/
def Off (js : List Nat) (σ σ' : L2.St) : Prop := σ'.length = σ.length ∧ ∀ j, j ∉ js → σ'[j]? = σ[j]?
theorem Off.refl (js : List Nat) (σ : L2.St) : Off js σ σ := ⟨rfl, fun _ _ => rfl⟩
theorem Off.trans {js : List Nat} {σ1 σ2 σ3 : L2.St} (a : Off js σ1 σ2) (b : Off js σ2 σ3) : Off js σ1 σ3 := ⟨b.1.trans a.1, fun j h => (b.2 j h).trans (a.2 j h)⟩
theorem Off.mono {js ks : List Nat} {σ1 σ2 : L2.St} (a : Off js σ1 σ2) (h : ∀ j ∈ js, j ∈ ks) : Off ks σ1 σ2 := ⟨a.1, fun j q => a.2 j fun z => q (h j z)⟩
theorem Off.set (σ : L2.St) (i : Nat) (o : Option V) : Off [i] σ (σ.set i o) := ⟨List.length_set, fun j h => List.getElem?_set_ne (by simpa using fun e => h (by simp [e]))⟩
def tDg (K : PySem.W.Frag) (Z : ZX) (js : List Nat) (g : DG) : TG := fun v σ H Q => ∃ B F n env d, SOk B K Z F H n σ env ∧ Hold K F v d ∧ g d env fun e => ∀ σ', SOk B K Z F H n σ' e → Off js σ σ' → Q σ' H
def tDgs (K : PySem.W.Frag) (Z : ZX) (js : List Nat) (g : DGs) : TGs := fun vs σ H Q => ∃ B F n env ds, SOk B K Z F H n σ env ∧ HoldAll K F vs ds ∧ g ds env fun e => ∀ σ', SOk B K Z F H n σ' e → Off js σ σ' → Q σ' H
structure PGd (X : Cx) (Z : ZX) (tg : Expr) (js : List Nat) (g : DG) : Prop where
  mono : ∀ d env Q Q', (∀ e, Q e → Q' e) → g d env Q → g d env Q'
  run : PG X tg (tDg X.K Z js g)
structure PGsd (X : Cx) (Z : ZX) (tg : List Expr) (js : List Nat) (g : DGs) : Prop where
  mono : ∀ d env Q Q', (∀ e, Q e → Q' e) → g d env Q → g d env Q'
  run : PGs X tg (tDgs X.K Z js g)
theorem PG_imp {X : Cx} {e : Expr} {t t' : TG} (h : PG X e t) (i : ∀ v σ H Q, t' v σ H Q → t v σ H Q) : PG X e t' := ⟨fun pins s σ H v u Q I r q => h.run pins s σ H v u Q I r (i _ _ _ _ q)⟩
theorem PGs_imp {X : Cx} {e : List Expr} {t t' : TGs} (h : PGs X e t) (i : ∀ v σ H Q, t' v σ H Q → t v σ H Q) : PGs X e t' := ⟨fun pins s σ H v u Q I r q => h.run pins s σ H v u Q I r (i _ _ _ _ q)⟩
def gN (i : Nat) : DG := fun d env Q => okSet env i ∧ Q (env.set i (.d d))
def gsNil : DGs := fun ds env Q => match ds with
  | [] => Q env
  | _ :: _ => False
def gsCons (g : DG) (gs : DGs) : DGs := fun ds env Q => match ds with
  | [] => False
  | d :: ds => g d env fun e => gs ds e Q
def gT (n : Nat) (gs : DGs) : DG := fun d env Q => match d with
  | .tup xs => xs.length = n ∧ gs xs env Q
  | _ => False
section
variable {X : Cx} {Z : ZX} {pos : Pos}
theorem pgN {i : Nat} {x : Str} (hN : X.N.Nodup) (hi : X.N[i]? = some x) (hx : Loc X.env.scope x) (hf : X.fn x = true ∨ X.env.scope.names.lookup x = some .local := by first | exact .inl rfl | exact .inr rfl | assumption) : PGd X Z (.Name x pos) [i] (gN i) :=
  ⟨fun d env Q Q' q h => ⟨h.1, q _ h.2⟩, PG_imp (pg_name hN hi hx hf) fun v σ H Q ⟨B, F, n, env, d, S, hd, h⟩ => h.2 _ (S.store (Res.dat hd) i (okSet_of h.1)) (Off.set _ _ _)⟩
theorem pgsNil : PGsd X Z [] [] gsNil := ⟨fun ds env Q Q' q h => by
    cases ds with
    | nil => exact q _ h
    | cons _ _ => exact h, PGs_imp pgs_nil fun vs σ H Q ⟨B, F, n, env, ds, S, hd, h⟩ => by
    cases hd with
    | nil => exact ⟨rfl, h _ S (Off.refl _ _)⟩
    | cons _ _ => exact h.elim⟩
theorem pgsCons {e : Expr} {es : List Expr} {js ks : List Nat} {g : DG} {gs : DGs} (h1 : PGd X Z e js g) (h2 : PGsd X Z es ks gs) (hs : (assignEach (e :: es) X.env).map (·.2) = assign e X.env :: (assignEach es X.env).map (·.2) := by rfl) : PGsd X Z (e :: es) (js ++ ks) (gsCons g gs) := by
  refine ⟨fun ds env Q Q' q h => ?_, PGs_imp (pgs_cons h1.run h2.run hs) fun vs σ H Q ⟨B, F, n, env, ds, S, hd, h⟩ => ?_⟩
  · cases ds with
    | nil => exact h
    | cons d ds => exact h1.mono _ _ _ _ (fun e => h2.mono _ _ _ _ q) h
  · cases hd with
    | nil => exact h.elim
    | cons a t => exact ⟨_, _, rfl, B, F, n, env, _, S, a, h1.mono _ _ _ _ (fun e h' σ' S' o1 => ⟨B, F, n, e, _, S', t, h2.mono _ _ _ _ (fun e2 q σ2 S2 o2 => q σ2 S2 ((o1.mono fun j hj => List.mem_append_left _ hj).trans (o2.mono fun j hj => List.mem_append_right _ hj))) h'⟩) h⟩
theorem pgT {es : List Expr} {k : Nat} {n : Nat} {js : List Nat} {gs : DGs} (h : PGsd X Z es js gs) (hc : X.calm = true := by rfl) (hn : (assignEach es X.env).length = n := by rfl) (hst : (assignEach es X.env).findIdx? (·.1) = none := by rfl) : PGd X Z (.Tuple es k pos) js (gT n gs) := by
  refine ⟨fun d env Q Q' q g => ?_, PG_imp (pg_tup hc h.run hn hst) fun v σ H Q ⟨B, F, m, env, d, S, hd, g⟩ => ?_⟩
  · cases d <;> first | exact ⟨g.1, h.mono _ _ _ _ q g.2⟩ | exact g
  · cases hd with
    | tup ha hx => exact ⟨_, _, rfl, SqT.of (S.same _ _ ha), by rw [hx.length]; exact g.1, B, F, m, env, _, S, hx, g.2⟩
    | _ => exact g.elim
end
/-- target = e -/
def wAsg (f : DD) (g : DG) : WS := fun D env => f env fun d e => g d e D.nx
theorem psAsg {X : Cx} {Z : ZX} {tg e : Expr} {pos : Pos} {c : Nat} {f : DD} {js : List Nat} {g : DG} (he : PEd X Z e c f) (hg : PGd X Z tg js g) (hs : swapsWithSole [tg] e pos.line X.env = pure false := by rfl) (hw : swappedStores [tg] e X.env = pure none := by rfl)
    (h1 : (assignEach [tg] X.env).map (·.2) = [assign tg X.env] := by rfl) : PSd X Z (.Assign [tg] e pos) c (wAsg f g) := by
  refine ⟨fun D D' env l h => he.mono _ _ _ (fun d e => hg.mono _ _ _ _ l.nx) h, PS_imp (ps_asg he.run hg.run hs hw h1) fun D σ H ⟨B, F, n, env, hn, S, h⟩ => ?_⟩
  exact bindD he.mono hn S h fun d e v H1 F1 g1 S1 x1 hv => ⟨B, F1, n + c, e, d, S1, hv, hg.mono _ _ _ _ (fun e' h' σ' S' _ => h' σ' H1 F1 S' x1) g1⟩

/-! ### a, b = x, y -/
section
variable {B : Base} {K : PySem.W.Frag} {Z : ZX} {F H : Hp} {n : Nat} {σ : L2.St} {env : List Cell}
theorem Res.stored {v w : V} {c c' : Cell} (r : Res B K F H n σ env w c') {i : Nat} (ne : c.own = true → c'.own = true → v ≠ w) : Res B K F H n (σ.set i (some v)) (env.set i c) w c' := by
  refine ⟨r.1, r.2.1, fun o j cj ej oj sj => ?_, r.2.2.2⟩
  rcases getElem?_set_cases ej with ⟨rfl, rfl, hl⟩ | ⟨nej, ej'⟩
  · rcases getElem?_set_cases sj with ⟨_, q, _⟩ | ⟨q, _⟩
    · cases q
      exact ne oj o rfl
    · exact q rfl
  · rw [List.getElem?_set_ne nej] at sj
    exact r.2.2.1 o j cj ej' oj sj
end
def wPar (i j : Nat) (fa fb : DE) : WS := fun D env => fa env fun r e1 => fb e1 fun r2 e2 => (okSet e2 i ∧ okSet (e2.set i r) j) ∧ D.nx ((e2.set i r).set j r2)
theorem psPar {X : Cx} {i j : Nat} {x y : Str} {a b : Expr} {ca cb : Nat} {fa fb : DE} {px py pt pos : Pos} {kt k2 pt2} (hN : X.N.Nodup) (hi : X.N[i]? = some x) (hj : X.N[j]? = some y) (hij : i ≠ j)
    (hx : X.env.scope.names.lookup x = some .local) (hy : X.env.scope.names.lookup y = some .local) (ha : PEc X Z a ca fa) (hb : PEc X Z b cb fb)
    (hw : swappedStores [.Tuple [.Name x px, .Name y py] kt pt] (.Tuple [a, b] k2 pt2) X.env = pure (some [x, y]))
    (hc : X.calm = true := by rfl)
    (hs : swapsWithSole [.Tuple [.Name x px, .Name y py] kt pt] (.Tuple [a, b] k2 pt2) pos.line X.env = pure false := by rfl)
    (h1 : starEach [a, b] X.env = (false, eval a X.env) :: starEach [b] X.env := by rfl) (h2 : starEach [b] X.env = (false, eval b X.env) :: starEach [] X.env := by rfl) :
    PSd X Z (.Assign [.Tuple [.Name x px, .Name y py] kt pt] (.Tuple [a, b] k2 pt2) pos) (ca + cb) (wPar i j fa fb) := by
  refine ⟨fun D D' env l h => ha.mono _ _ _ (fun r e => hb.mono _ _ _ fun r2 e2 g => ⟨g.1, l.nx _ g.2⟩) h, PS_imp (ps_par hc hN hi hj hij hx hy (pa_cons ha.run (pa_cons hb.run pa_nil h2) h1) hw hs) fun D σ H ⟨B, F, n, env, hn, S, h⟩ => ?_⟩
  refine bindC ha.mono (by omega) S h fun r e1 v H1 F1 g1 S1 x1 hv => ?_
  refine bindC hb.mono (by omega) S1.reb g1 fun r2 e2 u H2 F2 g2 T2 x2 hu => ?_
  have S2 := S1.unreb T2 rfl x2 (by omega)
  have hv2 := hv.wait S1 T2 x2 (Nat.le_add_right _ _)
  refine ⟨v, u, rfl, ?_⟩
  rw [Nat.add_assoc] at S2 hv2 hu
  have hu' : Res B X.K F2 H2 (n + (ca + cb)) σ e2 u r2 := by
    obtain ⟨q1, q2, q3, q4⟩ := hu
    refine ⟨?_, q2, q3, fun o a ea => S1.fresh0 (q4 o a ea)⟩
    cases r2 with
    | un => trivial
    | d d => exact q1
    | o b c =>
      obtain ⟨a, e, z1, z2, z3, z4⟩ := q1
      cases e
      exact ⟨a, rfl, z1, z2, z3, fun _ => .inl (S1.fresh0 (q4 rfl a rfl))⟩
  have ne : r.own = true → r2.own = true → v ≠ u := fun o1 o2 z => by
    subst z
    cases r with
    | un => cases o1
    | d d => cases o1
    | o b c =>
      obtain ⟨a, e, z1, z2, _⟩ := hv.1
      cases e
      obtain ⟨o, eo⟩ := OCOk.there z2
      have := hu.2.2.2 o2 a rfl
      rw [show (reb B F1 H1 σ e1).H0 a = H1 a from rfl, eo] at this
      cases this
  have S3 := S2.store hv2 i (okSet_of g2.1.1)
  exact g2.2 _ H2 F2 (S3.store (hu'.stored ne) j (okSet_of g2.1.2)) (x1.trans x2)
end DL
set_option maxRecDepth 100000
set_option maxHeartbeats 4000000
namespace DL
open PySem PySem.Spec PyProof.Rows L2

/-! ### what is walked -/
def LINE : Nat := 16777216
structure LenOk (K : PySem.W.Frag) (H : Hp) : Prop where
  seq : ∀ a xs, SqL K H a xs ∨ SqT K H a xs → xs.length ≤ LINE
  dk : ∀ a kvs, Rd H a (.dK kvs) → kvs.length ≤ LINE
  dt : ∀ a kvs, Rd H a (.dT kvs) → kvs.length ≤ LINE
theorem line_eq : sizeLine = LINE := sizeLine_eq
theorem Inv_lenOk {X : Cx} {pins : List (Addr × Obj)} {σ : L2.St} {H : Hp} {s : Shared} (I : Inv X pins σ H s) : LenOk X.K H := by
  refine ⟨fun a xs h => ?_, fun a kvs h => ?_, fun a kvs h => ?_⟩
  · rw [← line_eq]
    rcases h with h | h
    · obtain ⟨_, _, _, z⟩ := I.list h; exact z
    · obtain ⟨_, _, _, z⟩ := I.tuple h; exact z
  · rw [← line_eq]
    exact (dk_rd I.hok h).1
  · rw [← line_eq]
    exact (dt_rd I.hok h).1
theorem PI_imp {X : Cx} {tg e : Expr} {t t' : TI} (h : PI X tg e t) (i : ∀ σ H R, t' σ H R → t σ H fun J H' => LenOk X.K H' → R J H') : PI X tg e t' := by
  refine ⟨fun pins s σ H R I q => ?_⟩
  refine thn (h.run pins s σ H _ I (i _ _ _ q)) fun v s1 h1 => thn h1 fun itv s2 h2 => ?_
  obtain ⟨it, fp, tn, J, H', e1, I', T, t0, f0, r⟩ := h2
  exact ⟨it, fp, tn, J, H', e1, I', T, t0, f0, r (Inv_lenOk I')⟩
/-- n turns over data; a turn may make a new tuple of data -/
structure WalkD (K : PySem.W.Frag) (F : Hp) (J : It) (ds : List DV) : Prop where
  len : ds.length ≤ LINE
  goes : ∀ i H F', Ext F F' → Same F' H → i < ds.length → J.go i H
  stops : ∀ H F', Ext F F' → Same F' H → J.stop ds.length H
  yields : ∀ i H x H' F', Ext F F' → Same F' H → i < ds.length → J.yld i H x H' → ∃ d, ds[i]? = some d ∧
    ((H' = H ∧ Hold K F' x d) ∨ ∃ T vs xs, x = .ref T ∧ H T = none ∧ H' = upd H T (.tup vs) ∧ d = .tup xs ∧ HoldAll K F' vs xs)
abbrev DI := List Cell → (List DV → List Cell → Prop) → Prop
def tDi (K : PySem.W.Frag) (Z : ZX) (c : Nat) (f : DI) : TI := fun σ H R => ∃ B F n env, n + c ≤ Z.M ∧ SOk B K Z F H n σ env ∧ f env fun ds e => ∀ J H' F', SOk B K Z F' H' (n + c) σ e → Ext F F' → WalkD K F' J ds → R J H'
structure PId (X : Cx) (Z : ZX) (tg e : Expr) (c : Nat) (f : DI) : Prop where
  mono : MonoC f
  run : PI X tg e (tDi X.K Z c f)
section
variable {B : Base} {K : PySem.W.Frag} {Z : ZX} {F H : Hp} {n m : Nat} {σ : L2.St} {env : List Cell}
/-- what a turn yields, in the state -/
theorem WalkD.item {J : It} {ds : List DV} {F0 : Hp} (w : WalkD K F0 J ds) (x : Ext F0 F) (S : SOk B K Z F H n σ env) {i : Nat} (hi : i < ds.length) {v : V} {H' : Hp} (y : J.yld i H v H') :
    ∃ d F', ds[i]? = some d ∧ SOk B K Z F' H' n σ env ∧ Ext F F' ∧ Hold K F' v d ∧ Same H H' ∧ ∀ a, (H a).isSome = true → F' a = F a := by
  obtain ⟨d, e, h | ⟨T, vs, xs, rfl, hT, rfl, rfl, hx⟩⟩ := w.yields i H v H' F x S.same hi y
  · obtain ⟨rfl, h⟩ := h
    exact ⟨d, F, e, S, Ext.refl _, h, Same.refl _, fun _ _ => rfl⟩
  · obtain ⟨S', s⟩ := S.alloc (o := .tup vs) hT
    exact ⟨_, _, e, S', Ext.of s, .tup upd_same (hx.mono (Ext.of s)), same_upd hT, fun a ha => upd_ne (by rintro rfl; rw [hT] at ha; cases ha)⟩
theorem HoldAll.getD {vs : List V} {ds : List DV} (h : HoldAll K F vs ds) {i : Nat} {x : V} (e : vs[i]? = some x) : ∃ d, ds[i]? = some d ∧ Hold K F x d := h.get e
theorem walkL {a : Addr} {vs : List V} {ds : List DV} (ha : SqL K F a vs) (hx : HoldAll K F vs ds) (hl : vs.length ≤ LINE) : WalkD K F (Itl K a) ds where
  len := by rw [← hx.length]; exact hl
  goes := fun i H F' x s hi => ⟨vs, vs[i]'(by rw [hx.length]; exact hi), sqL_mono (Ext.of s) (sqL_mono x ha), by simp [hx.length, hi]⟩
  stops := fun H F' x s => ⟨vs, sqL_mono (Ext.of s) (sqL_mono x ha), by rw [hx.length]; exact Nat.le_refl _⟩
  yields := fun i H v H' F' x s hi y => by
    obtain ⟨rfl, q⟩ := y
    have e := q vs (sqL_mono (Ext.of s) (sqL_mono x ha))
    obtain ⟨d, e2, h⟩ := hx.get e
    exact ⟨d, e2, .inl ⟨rfl, h.mono x⟩⟩
theorem walkT {a : Addr} {vs : List V} {ds : List DV} (ha : SqT K F a vs) (hx : HoldAll K F vs ds) (hl : vs.length ≤ LINE) : WalkD K F (Itt K a) ds where
  len := by rw [← hx.length]; exact hl
  goes := fun i H F' x s hi => ⟨vs, vs[i]'(by rw [hx.length]; exact hi), sqT_mono (Ext.of s) (sqT_mono x ha), by simp [hx.length, hi]⟩
  stops := fun H F' x s => ⟨vs, sqT_mono (Ext.of s) (sqT_mono x ha), by rw [hx.length]; exact Nat.le_refl _⟩
  yields := fun i H v H' F' x s hi y => by
    obtain ⟨rfl, q⟩ := y
    have e := q vs (sqT_mono (Ext.of s) (sqT_mono x ha))
    obtain ⟨d, e2, h⟩ := hx.get e
    exact ⟨d, e2, .inl ⟨rfl, h.mono x⟩⟩
/-- lo, lo + 1, .., n of them -/
def ramp (lo : Int) (n : Nat) : List DV := (List.range n).map fun i => .int (lo + (i : Nat))
theorem ramp_len (lo : Int) (n : Nat) : (ramp lo n).length = n := by simp [ramp]
theorem ramp_get (lo : Int) (n i : Nat) (h : i < n) : (ramp lo n)[i]? = some (.int (lo + (i : Nat))) := by simp [ramp, h]
theorem walkR {lo : Int} {k : Nat} (hk : k ≤ LINE) : WalkD K F (Itr lo k) (ramp lo k) where
  len := by rw [ramp_len]; exact hk
  goes := fun i H F' x s hi => by rw [ramp_len] at hi; exact hi
  stops := fun H F' x s => by rw [ramp_len]; exact Nat.le_refl k
  yields := fun i H v H' F' x s hi y => by
    rw [ramp_len] at hi
    obtain ⟨rfl, rfl⟩ := y
    exact ⟨_, ramp_get lo k i hi, .inl ⟨rfl, .int _⟩⟩
end
/-- a list or a tuple -/
def iSeq (K : PySem.W.Frag) (tl : TE) : TI := fun σ H R => tl σ H fun x H1 => ∃ a, x = .ref a ∧ (((∃ xs, SqL K H1 a xs) ∧ R (Itl K a) H1) ∨ ((∃ xs, SqT K H1 a xs) ∧ R (Itt K a) H1))
theorem pi_seq {X : Cx} {tg l : Expr} {tl : TE} (hl : PE X l tl) : PI X tg l (iSeq X.K tl) where
  run := fun pins s σ H R I h => thn (hl.run pins s σ H _ I h) fun u s1 z => by
    obtain ⟨x, H1, J, rel, a, rfl, q⟩ := z
    obtain rfl : u = .ref a := rel
    have new : ∀ b ∈ [s1.heap.objs.size], H1 b = none := fun b hb => by
      rw [List.mem_singleton.mp hb]
      exact J.hok.fresh (Nat.le_refl _)
    have put := fun (o : Obj) => J.kept (h' := s1.heap.push o) (t' := s1.toks) fun b u => Heap.get?_push_of_some o
    have own := fun b (hb : b ∈ [s1.heap.objs.size]) => J.fpOk (Nat.le_of_eq (List.mem_singleton.mp hb).symm) (new b hb)
    rcases q with ⟨⟨xs, e⟩, q⟩ | ⟨⟨xs, e⟩, q⟩
    · obtain ⟨its, _, at_, _⟩ := J.list e
      exact wpAny_pyIter_list at_.isList ⟨_, [_], _, _, H1, rfl, put _, turn_list a _, ⟨_, Heap.get?_push_size _ rfl, rfl, rfl⟩, own, q⟩
    · obtain ⟨its, _, at_, _⟩ := J.tuple e
      exact wpAny_pyIter_tuple (items := its.toArray) at_ ⟨_, [_], _, _, H1, rfl, put _, turn_tuple a _, ⟨_, Heap.get?_push_size _ rfl, rfl, rfl⟩, own, q⟩
def dItems : DV → Option (List DV)
  | .lst xs => some xs
  | .klst xs => some xs
  | .tup xs => some xs
  | .ktup xs => some xs
  | _ => none
def iData (f : DD) : DI := fun env Q => f env fun d e => match dItems d with
  | some xs => Q xs e
  | none => False
section
variable {X : Cx} {Z : ZX} {tg e : Expr} {c : Nat}
theorem piSeq {f : DD} (h : PEd X Z e c f) : PId X Z tg e c (iData f) := by
  refine ⟨fun env Q Q' q g => h.mono _ _ _ (fun d e g => ?_) g, PI_imp (pi_seq h.run) fun σ H R ⟨B, F, n, env, hn, S, g⟩ => bindD h.mono hn S g fun d e v H1 F1 h1 S1 x1 hv => ?_⟩
  · cases z : dItems d with
    | none => rw [z] at g; exact g.elim
    | some xs => rw [z] at g; exact q _ _ g
  · cases hv with
    | lst ha hx => exact ⟨_, rfl, .inl ⟨⟨_, SqL.of (S1.same _ _ ha)⟩, fun L => h1 _ H1 F1 S1 x1 (walkL (SqL.of ha) hx (L.seq _ _ (.inl (SqL.of (S1.same _ _ ha)))))⟩⟩
    | klst ha hx => exact ⟨_, rfl, .inl ⟨⟨_, sqL_mono (Ext.of S1.same) ha⟩, fun L => h1 _ H1 F1 S1 x1 (walkL ha hx (L.seq _ _ (.inl (sqL_mono (Ext.of S1.same) ha))))⟩⟩
    | tup ha hx =>
      have ht := SqT.of (K := X.K) ha
      exact ⟨_, rfl, .inr ⟨⟨_, sqT_mono (Ext.of S1.same) ht⟩, fun L => h1 _ H1 F1 S1 x1 (walkT ht hx (L.seq _ _ (.inr (sqT_mono (Ext.of S1.same) ht))))⟩⟩
    | ktup z1 z2 z3 z4 z5 hx =>
      have ht : SqT X.K F1 _ _ := .inr ⟨_, _, _, z1, z2, z3, z4, z5⟩
      exact ⟨_, rfl, .inr ⟨⟨_, sqT_mono (Ext.of S1.same) ht⟩, fun L => h1 _ H1 F1 S1 x1 (walkT ht hx (L.seq _ _ (.inr (sqT_mono (Ext.of S1.same) ht))))⟩⟩
    | _ => exact h1.elim
def iR1 (f : DD) : DI := fun env Q => f env fun d e => match d with
  | .int j => (-4611686018427387904 ≤ j ∧ j ≤ 16777216) ∧ Q (ramp 0 j.toNat) e
  | _ => False
theorem piRange1 {a : Expr} {f : DD} {p pos : Pos} (hg : Gl X "range") (hm : X.mg "range" = none) (h : PEd X Z a c f) (hs : starEach [a] X.env = [(false, eval a X.env)] := by rfl) (hs2 : starEach [a] X.env = (false, eval a X.env) :: starEach [] X.env := by rfl) :
    PId X Z tg (.Call (.Name "range" p) [a] [] pos) c (iR1 f) := by
  refine ⟨fun env Q Q' q g => h.mono _ _ _ (fun d e g => ?_) g, PI_imp (pi_range1 hg hm (pa_cons h.run pa_nil hs2) hs) fun σ H R ⟨B, F, n, env, hn, S, g⟩ => bindD h.mono hn S g fun d e v H1 F1 h1 S1 x1 hv => ?_⟩
  · cases d <;> first | exact ⟨g.1, q _ _ g.2⟩ | exact g
  · cases hv with
    | int j => exact ⟨j, rfl, by have := h1.1; omega, by have := h1.1; omega, fun _ => h1.2 _ H1 F1 S1 x1 (walkR (by have := h1.1; unfold LINE; omega))⟩
    | _ => exact h1.elim
def iR2 (f g : DD) : DI := fun env Q => f env fun d e => g e fun d2 e2 => match d, d2 with
  | .int i, .int j => (-4611686018427387904 ≤ i ∧ i < 4611686018427387904 ∧ -4611686018427387904 ≤ j ∧ j < 4611686018427387904 ∧ j - i ≤ 16777216) ∧ Q (ramp i (j - i).toNat) e2
  | _, _ => False
theorem piRange2 {a b : Expr} {cb : Nat} {f g : DD} {p pos : Pos} (hg : Gl X "range") (hm : X.mg "range" = none) (h : PEd X Z a c f) (h2 : PEd X Z b cb g) (hs : starEach [a, b] X.env = [(false, eval a X.env), (false, eval b X.env)] := by rfl) (hs2 : starEach [b] X.env = [(false, eval b X.env)] := by rfl)
    (hs3 : starEach [a, b] X.env = (false, eval a X.env) :: starEach [b] X.env := by rfl) (hs4 : starEach [b] X.env = (false, eval b X.env) :: starEach [] X.env := by rfl) :
    PId X Z tg (.Call (.Name "range" p) [a, b] [] pos) (c + cb) (iR2 f g) := by
  refine ⟨fun env Q Q' q k => h.mono _ _ _ (fun d e k => h2.mono _ _ _ (fun d2 e2 k => ?_) k) k, PI_imp (pi_range2 hg hm (pa_cons h.run (pa_cons h2.run pa_nil hs4) hs3) hs hs2) fun σ H R ⟨B, F, n, env, hn, S, k⟩ => ?_⟩
  · cases d <;> cases d2 <;> first | exact ⟨k.1, q _ _ k.2⟩ | exact k
  · refine bindD h.mono (by omega) S k fun d e v H1 F1 h1 S1 x1 hv => bindD h2.mono (by omega) S1 h1 fun d2 e2 u H2 F2 h2 S2 x2 hu => ?_
    rw [Nat.add_assoc] at S2
    cases hv with
    | int i =>
      cases hu with
      | int j => exact ⟨i, j, rfl, ⟨h2.1.1, h2.1.2.1, h2.1.2.2.1, h2.1.2.2.2.1⟩, fun _ => h2.2 _ H2 F2 S2 (x1.trans x2) (walkR (by have := h2.1; unfold LINE; omega))⟩
      | _ => exact h2.elim
    | _ => cases d2 <;> exact h2.elim
end

/-! ### for -/
def goFor (g : DG) (w : WS) (D : EndsD) : List DV → List Cell → Prop
  | [], env => D.nx env
  | d :: ds, env => g d env fun e => w { D with nx := goFor g w D ds, ct := goFor g w D ds, bk := D.nx } e
def wFor (f : DI) (g : DG) (w : WS) : WS := fun D env => f env fun ds e => goFor g w D ds e
section
variable {X : Cx} {Z : ZX} {tg it : Expr} {body : List Stmt} {ci cb : Nat} {f : DI} {js : List Nat} {g : DG} {w : WS} {pos : Pos}
theorem goFor_mono (hg : ∀ d env Q Q', (∀ e, Q e → Q' e) → g d env Q → g d env Q') (hw : MonoS w) {D D' : EndsD} (l : D.le D') : ∀ ds env, goFor g w D ds env → goFor g w D' ds env
  | [], env, h => l.nx _ h
  | d :: ds, env, h => hg _ _ _ _ (fun e q => hw { D with nx := goFor g w D ds, ct := goFor g w D ds, bk := D.nx } _ _ ⟨goFor_mono hg hw l ds, l.rt, l.nx, goFor_mono hg hw l ds⟩ q) h
theorem psFor (hp : PassesOwn (model X.prog X.w) X.A X.env X.xe) (hi : PId X Z tg it ci f) (hg : PGd X Z tg js g) (hb : PSSd X Z body cb w) (hc : X.calm = true := by rfl) (hs : ∀ x, foldedSetIterable it X.env x = pure x := by intro _; rfl) :
    PSd X Z (.For tg it body [] pos) (ci + LINE * cb) (wFor f g w) := by
  refine ⟨fun D D' env l h => hi.mono _ _ _ (fun ds e => goFor_mono hg.mono hb.mono l ds e) h, PS_imp (ps_for hp hc hi.run hg.run hb.run hs) fun D σ H ⟨B, F, n, env, hn, S, h⟩ => ?_⟩
  refine ⟨B, F, n, env, by omega, S, hi.mono _ _ _ (fun ds e go J H1 F1 S1 x1 wk => ?_) h⟩
  have lenL := wk.len
  refine ⟨fun i m σ' H' => m = ds.length - i ∧ i ≤ ds.length ∧ ∃ F' env', SOk B X.K Z F' H' (n + ci + i * cb) σ' env' ∧ Ext F1 F' ∧ goFor g w (endD B X.K Z F (n + (ci + LINE * cb)) D) (ds.drop i) env',
    ⟨ds.length, by simp, Nat.zero_le _, F1, e, by rw [Nat.zero_mul]; exact S1, Ext.refl _, go⟩, ?_⟩
  rintro i m σ2 H2 ⟨rfl, hi2, F2, env2, S2, x2, go2⟩
  have hmul : i * cb ≤ LINE * cb := Nat.mul_le_mul_right _ (Nat.le_trans hi2 lenL)
  by_cases hlt : i < ds.length
  · have hmul2 : (i + 1) * cb ≤ LINE * cb := Nat.mul_le_mul_right _ (Nat.le_trans hlt lenL)
    rw [Nat.succ_mul] at hmul2
    refine .inr ⟨wk.goes i H2 F2 x2 S2.same hlt, fun σ' H' => i + 1 ≤ ds.length ∧ ∃ F' env', SOk B X.K Z F' H' (n + ci + (i + 1) * cb) σ' env' ∧ Ext F1 F' ∧ goFor g w (endD B X.K Z F (n + (ci + LINE * cb)) D) (ds.drop (i + 1)) env', fun σ' H' q => ⟨ds.length - (i + 1), by omega, rfl, q⟩, fun v H3 y => ?_⟩
    obtain ⟨d, F3, ed, S3, x3, hd, _, _⟩ := wk.item x2 S2 hlt y
    have edr : ds.drop i = d :: ds.drop (i + 1) := by
      rw [List.drop_eq_getElem_cons hlt]
      congr 1
      exact (List.getElem?_eq_some_iff.mp ed).2
    rw [edr] at go2
    refine ⟨B, F3, _, env2, d, S3, hd, hg.mono _ _ _ _ (fun e4 q σ4 S4 _ => ?_) go2⟩
    refine bindS (c := cb) hb.mono (by omega) S4 (x1.trans (x2.trans x3)) q ⟨fun e5 q5 σ5 H5 F5 S5 x5 => ?_, fun r e5 q5 v5 σ5 H5 F5 S5 x5 z5 => ?_, fun e5 q5 σ5 H5 F5 S5 x5 => ?_, fun e5 q5 σ5 H5 F5 S5 x5 => ?_⟩
    · exact ⟨hlt, F5, e5, by rw [Nat.succ_mul, ← Nat.add_assoc]; exact S5, (x2.trans x3).trans x5, q5⟩
    · exact q5 v5 σ5 H5 F5 (S5.mono (by omega)) ((x1.trans (x2.trans x3)).trans x5) (z5.mono (by omega))
    · exact q5 σ5 H5 F5 (S5.mono (by omega)) ((x1.trans (x2.trans x3)).trans x5)
    · exact ⟨hlt, F5, e5, by rw [Nat.succ_mul, ← Nat.add_assoc]; exact S5, (x2.trans x3).trans x5, q5⟩
  · have ei : i = ds.length := by omega
    subst ei
    rw [List.drop_length] at go2
    exact .inl ⟨wk.stops H2 F2 x2 S2.same, go2 σ2 H2 F2 (S2.mono (by omega)) (x1.trans x2)⟩
end

/-! ### comprehensions -/
def wipeD (env : List Cell) : List Nat → List Cell
  | [] => env
  | v :: vs => (wipeD env vs).set v .un
/-- the block's own slots as they were ahead of it: they own nothing -/
def noOwn (env : List Cell) (vs : List Nat) : Prop := ∀ v ∈ vs, ∀ c, env[v]? = some c → c.own = false
def backD (env env' : List Cell) : List Nat → List Cell
  | [] => env'
  | v :: vs => (backD env env' vs).set v (env.getD v .un)
def goLc (vs : List Nat) (g : DG) (t : DT) (f : DD) (Q : List DV → List Cell → Prop) : List DV → List DV → List Cell → Prop
  | [], acc, env => Q acc env
  | d :: ds, acc, env => g d (wipeD env vs) fun e2 => t e2 fun k e3 => if k = true then f e3 fun y e4 => goLc vs g t f Q ds (acc ++ [y]) e4 else goLc vs g t f Q ds acc e3
def dLc (vs : List Nat) (i : DI) (g : DG) (t : DT) (f : DD) : DE := fun env Q => i env fun ds e => noOwn e vs ∧ goLc vs g t f (fun acc e' => Q (.o false (.l acc)) (backD e e' vs)) ds [] e
section
variable {B : Base} {K : PySem.W.Frag} {Z : ZX} {F F' H : Hp} {n n' : Nat} {σ : L2.St} {env : List Cell}
theorem wipeD_len : ∀ (vs : List Nat), (wipeD env vs).length = env.length
  | [] => rfl
  | v :: vs => by unfold wipeD; rw [List.length_set, wipeD_len vs]
theorem wipeD_get : ∀ {vs : List Nat} {i : Nat} {c : Cell}, (wipeD env vs)[i]? = some c → (i ∈ vs ∧ c = .un) ∨ (i ∉ vs ∧ env[i]? = some c)
  | [], i, c, h => .inr ⟨by simp, h⟩
  | v :: vs, i, c, h => by
    unfold wipeD at h
    rcases getElem?_set_cases h with ⟨rfl, rfl, _⟩ | ⟨ne, h⟩
    · exact .inl ⟨List.mem_cons_self, rfl⟩
    · rcases wipeD_get h with ⟨h1, h2⟩ | ⟨h1, h2⟩
      · exact .inl ⟨List.mem_cons_of_mem _ h1, h2⟩
      · exact .inr ⟨by simp only [List.mem_cons, not_or]; exact ⟨fun e => ne e.symm, h1⟩, h2⟩
theorem wipe_off : ∀ (vs : List Nat), Off vs σ (wipe σ vs)
  | [] => Off.refl _ _
  | v :: vs => ((wipe_off vs).mono fun j h => List.mem_cons_of_mem _ h).trans ((Off.set _ v none).mono fun j h => by
      have e : j = v := by simpa using h
      rw [e]
      exact List.mem_cons_self)
theorem wipe_none : ∀ {vs : List Nat} {j : Nat}, j ∈ vs → j < σ.length → (wipe σ vs)[j]? = some none
  | v :: vs, j, h, hl => by
    unfold wipe
    by_cases e : v = j
    · subst e
      exact List.getElem?_set_self (by rw [wipe_length]; exact hl)
    · rw [List.getElem?_set_ne e]
      exact wipe_none ((List.mem_cons.mp h).resolve_left fun z => e z.symm) hl
/-- only the slots of vs differ: wiped they are the same -/
theorem wipe_eq {σ' : L2.St} {vs : List Nat} (o : Off vs (wipe σ vs) σ') : wipe σ' vs = wipe σ vs := by
  refine List.ext_getElem? fun j => ?_
  have hl : σ'.length = σ.length := by rw [o.1, wipe_length]
  by_cases hj : j ∈ vs
  · by_cases h : j < σ.length
    · rw [wipe_none hj (by rw [hl]; exact h), wipe_none hj h]
    · rw [List.getElem?_eq_none (by rw [wipe_length]; omega), List.getElem?_eq_none (by rw [wipe_length]; omega)]
  · rw [(wipe_off vs).2 j hj, o.2 j hj]
theorem SOk.nobs (S : SOk B K Z F H n σ env) {vs : List Nat} (hb : noOwn env vs) : ∀ p ∈ B.bs, p.1 ∉ vs := fun p hp z => by
  obtain ⟨⟨oc, e1⟩, _⟩ := S.bs p hp
  have := hb _ z _ e1
  cases this
theorem SOk.wipe (S : SOk B K Z F H n σ env) {vs : List Nat} (hb : ∀ p ∈ B.bs, p.1 ∉ vs) : SOk B K Z F H n (wipe σ vs) (wipeD env vs) where
  same := S.same
  len := by rw [wipe_length, wipeD_len]; exact S.len
  at_ := fun i c e => by
    rcases wipeD_get e with ⟨h1, rfl⟩ | ⟨h1, h2⟩
    · have hl : i < (wipeD env vs).length := (List.getElem?_eq_some_iff.mp e).1
      rw [wipeD_len, ← S.len] at hl
      exact ⟨none, wipe_none h1 hl, trivial⟩
    · obtain ⟨o, e1, h⟩ := S.at_ i c h2
      exact ⟨o, by rw [(wipe_off vs).2 i h1]; exact e1, h⟩
  sep := fun i j ci cj a ei ej oi oj si sj => by
    rcases wipeD_get ei with ⟨_, rfl⟩ | ⟨h1, h2⟩
    · cases oi
    · rcases wipeD_get ej with ⟨_, rfl⟩ | ⟨h3, h4⟩
      · cases oj
      · rw [(wipe_off vs).2 i h1] at si
        rw [(wipe_off vs).2 j h3] at sj
        exact S.sep i j ci cj a h2 h4 oi oj si sj
  fr := S.fr
  ff := S.ff
  bd := S.bd
  lk := S.lk
  bs := fun p hp => by
    obtain ⟨⟨oc, e1⟩, e2⟩ := S.bs p hp
    have hn : p.1 ∉ vs := hb p hp
    have w : ∀ {vs : List Nat}, p.1 ∉ vs → (wipeD env vs)[p.1]? = env[p.1]? := by
      intro vs
      induction vs with
      | nil => intro _; rfl
      | cons v vs ih =>
        intro h
        simp only [List.mem_cons, not_or] at h
        unfold wipeD
        rw [List.getElem?_set_ne (fun e => h.1 e.symm)]
        exact ih h.2
    exact ⟨⟨oc, by rw [w hn]; exact e1⟩, by rw [(wipe_off vs).2 _ hn]; exact e2⟩
  dom := S.dom
  tb := S.tb
  lnk := S.lnk
theorem backD_len {env' : List Cell} : ∀ (vs : List Nat), (backD env env' vs).length = env'.length
  | [] => rfl
  | v :: vs => by unfold backD; rw [List.length_set, backD_len vs]
theorem backD_get {env' : List Cell} : ∀ {vs : List Nat} {i : Nat} {c : Cell}, (backD env env' vs)[i]? = some c → (i ∈ vs ∧ c = env.getD i .un) ∨ (i ∉ vs ∧ env'[i]? = some c)
  | [], i, c, h => .inr ⟨by simp, h⟩
  | v :: vs, i, c, h => by
    unfold backD at h
    rcases getElem?_set_cases h with ⟨rfl, rfl, _⟩ | ⟨ne, h⟩
    · exact .inl ⟨List.mem_cons_self, rfl⟩
    · rcases backD_get h with ⟨h1, h2⟩ | ⟨h1, h2⟩
      · exact .inl ⟨List.mem_cons_of_mem _ h1, h2⟩
      · exact .inr ⟨by simp only [List.mem_cons, not_or]; exact ⟨fun e => ne e.symm, h1⟩, h2⟩
theorem backD_off {env' : List Cell} : ∀ {vs : List Nat} {i : Nat}, i ∉ vs → (backD env env' vs)[i]? = env'[i]?
  | [], i, _ => rfl
  | v :: vs, i, h => by
    simp only [List.mem_cons, not_or] at h
    unfold backD
    rw [List.getElem?_set_ne (fun e => h.1 e.symm)]
    exact backD_off h.2
/-- behind the block -/
theorem SOk.unwipe {H' : Hp} {env' : List Cell} {Z' : ZX} (S : SOk B K Z F H n σ env) {vs : List Nat} (hb : noOwn env vs) (T : SOk B K Z' F' H' n' (L2.wipe σ vs) env') (hT : Z'.T = Z.T) (x : Ext F F') (hn : n ≤ n') : SOk B K Z F' H' n' σ (backD env env' vs) where
  same := T.same
  len := by rw [backD_len, ← T.len, wipe_length]
  at_ := fun i c e => by
    rcases backD_get e with ⟨h1, rfl⟩ | ⟨h1, h2⟩
    · have hl : i < (backD env env' vs).length := (List.getElem?_eq_some_iff.mp e).1
      rw [backD_len, ← T.len, wipe_length, S.len] at hl
      have q : env[i]? = some (env.getD i .un) := by simp [hl]
      obtain ⟨o, e1, h⟩ := S.at_ i _ q
      refine ⟨o, e1, h.mono x hn fun a _ ow => ?_⟩
      rw [hb i h1 _ q] at ow
      cases ow
    · obtain ⟨o, e1, h⟩ := T.at_ i c h2
      exact ⟨o, by rw [(wipe_off vs).2 i h1] at e1; exact e1, h⟩
  sep := fun i j ci cj a ei ej oi oj si sj => by
    have nope : ∀ {i : Nat} {c : Cell}, (backD env env' vs)[i]? = some c → c.own = true → i ∉ vs ∧ env'[i]? = some c := fun {i c} e ow => by
      rcases backD_get e with ⟨h1, rfl⟩ | h
      · have hl : i < (backD env env' vs).length := (List.getElem?_eq_some_iff.mp e).1
        rw [backD_len, ← T.len, wipe_length, S.len] at hl
        rw [hb i h1 _ (by simp [hl])] at ow
        cases ow
      · exact h
    obtain ⟨h1, h2⟩ := nope ei oi
    obtain ⟨h3, h4⟩ := nope ej oj
    exact T.sep i j ci cj a h2 h4 oi oj (by rw [(wipe_off vs).2 i h1]; exact si) (by rw [(wipe_off vs).2 j h3]; exact sj)
  fr := T.fr
  ff := T.ff
  bd := T.bd
  lk := T.lk
  bs := fun p hp => by
    obtain ⟨⟨oc, e1⟩, e2⟩ := S.bs p hp
    have hn : p.1 ∉ vs := fun z => by
      have := hb _ z _ e1
      cases this
    obtain ⟨⟨oc', e3⟩, _⟩ := T.bs p hp
    exact ⟨⟨oc', by rw [backD_off hn]; exact e3⟩, e2⟩
  dom := T.dom
  tb := hT ▸ T.tb
  lnk := S.lnk.mono x hn
/-- an object that no slot and no data knows is written -/
theorem SOk.poke (S : SOk B K Z F H n σ env) {a : Addr} {o : HO} {av : List V} (ha : H a = some (.lst av)) (h0 : B.H0 a = none) (hF : F a = none) (hs : ∀ (i : Nat) (c : Cell), env[i]? = some c → c.own = true → σ[i]? ≠ some (some (.ref a))) : SOk B K Z F (upd H a o) n σ env where
  same := fun b u e => by rw [upd_ne (by rintro rfl; rw [hF] at e; cases e)]; exact S.same _ _ e
  len := S.len
  at_ := fun i c e => by
    obtain ⟨v, e1, h⟩ := S.at_ i c e
    refine ⟨v, e1, h.mono (Ext.refl _) (Nat.le_refl _) fun b eb ow => ⟨upd_ne ?_, ?_⟩⟩
    · rintro rfl
      subst eb
      exact hs i c e ow e1
    · cases c with
      | un => cases ow
      | d x => cases ow
      | o bb cc =>
        obtain ⟨a', e', h1', _⟩ := h
        rw [e'] at eb
        cases eb
        exact h1'
  sep := S.sep
  fr := fun b u e hb hl => by rw [upd_ne (by rintro rfl; rw [h0] at e; cases e)]; exact S.fr b u e hb hl
  ff := S.ff
  bd := S.bd
  lk := S.lk
  bs := S.bs
  dom := fun b e => by
    by_cases z : b = a
    · subst z; rw [upd_same]; rfl
    · rw [upd_ne z]; exact S.dom b e
  tb := tabs_keep S.tb fun b u e tc => by
    rw [upd_ne (by
      rintro rfl
      rw [ha] at e
      cases e
      rcases tc with ⟨_, z⟩ | ⟨_, z⟩ <;> cases z)]
    exact e
  lnk := S.lnk
/-- no error is wanted within -/
abbrev ZX.calm (Z : ZX) : ZX := ⟨fun _ _ _ => False, fun _ _ _ => False, Z.T, Z.M, Z.ml⟩
theorem SOk.calm (S : SOk B K Z F H n σ env) : SOk B K Z.calm F H n σ env := ⟨S.toCore, fun _ _ _ _ _ _ _ _ _ _ _ _ _ _ z => z⟩
theorem backD_wipe {env' : List Cell} (vs : List Nat) : backD env (wipeD env' vs) vs = backD env env' vs := by
  have look : ∀ (us ws : List Nat) (l l' : List Cell), l.length = l'.length → (∀ j, j ∉ us → l[j]? = l'[j]?) → (∀ j ∈ us, j ∈ ws) → backD env l ws = backD env l' ws := by
    intro us ws l l' hl he hs
    refine List.ext_getElem? fun j => ?_
    by_cases hj : j ∈ ws
    · by_cases h : j < l.length
      · have q : ∀ (m : List Cell), m.length = l.length → ∀ {ws : List Nat}, j ∈ ws → (backD env m ws)[j]? = some (env.getD j .un) := by
          intro m hm ws
          induction ws with
          | nil => intro z; cases z
          | cons w ws ih =>
            intro z
            unfold backD
            by_cases e : w = j
            · subst e
              exact List.getElem?_set_self (by rw [backD_len, hm]; exact h)
            · rw [List.getElem?_set_ne e]
              exact ih ((List.mem_cons.mp z).resolve_left fun z => e z.symm)
        rw [q l rfl hj, q l' hl.symm hj]
      · rw [List.getElem?_eq_none (by rw [backD_len]; omega), List.getElem?_eq_none (by rw [backD_len]; omega)]
    · rw [backD_off hj, backD_off hj]
      exact he j fun z => hj (hs j z)
  refine look vs vs _ _ (wipeD_len vs) (fun j hj => ?_) fun _ h => h
  have w : ∀ {vs : List Nat}, j ∉ vs → (wipeD env' vs)[j]? = env'[j]? := by
    intro vs
    induction vs with
    | nil => intro _; rfl
    | cons v vs ih =>
      intro h
      simp only [List.mem_cons, not_or] at h
      unfold wipeD
      rw [List.getElem?_set_ne (fun e => h.1 e.symm)]
      exact ih h.2
  exact w hj
end
theorem lc_data {K : PySem.W.Frag} {vs js : List Nat} {g : DG} {t : DT} {f : DD} {ct ce : Nat} (mg : ∀ d env Q Q', (∀ e, Q e → Q' e) → g d env Q → g d env Q') (mt : MonoC t) (mf : MonoC f) (hjs : ∀ j ∈ js, j ∈ vs)
    {J : It} {ds : List DV} {B : Base} {F H1 : Hp} {n m : Nat} {σ : L2.St} {e : List Cell} (S : SOk B K Z F H1 n σ e) (wk : WalkD K F J ds) (hb : noOwn e vs) {P : List DV → List Cell → Prop} (go : goLc vs g t f P ds [] e)
    (hm : n + LINE * (ct + ce) ≤ m) (hM : m ≤ Z.M) {Q : VK}
    (fin : ∀ acc e' D H' F', P acc e' → SOk B K Z F' H' m σ (backD e e' vs) → Ext F F' → Res B K F' H' m σ (backD e e' vs) (.ref D) (.o false (.l acc)) → Q (.ref D) H') :
    ∀ D, H1 D = none → ∃ W : Nat → Nat → Hp → Prop, (∃ m, W 0 m (upd H1 D (.lst []))) ∧ ∀ i m H, W i m H →
      (J.stop i H ∧ Q (.ref D) H) ∨ (J.go i H ∧ ∃ Nx : Hp → Prop, (∀ H', Nx H' → ∃ m', m' < m ∧ W (i + 1) m' H') ∧ ∀ x H', J.yld i H x H' → tDg K Z.calm js g x (wipe σ vs) H' fun σ2 H2 => wipe σ2 vs = wipe σ vs ∧ tDt K Z.calm ct t σ2 H2 fun b H3 =>
        if b = true then tDd K Z.calm ce f σ2 H3 fun y H4 => ∃ acc, H4 D = some (.lst acc) ∧ acc.length < sizeLine ∧ Nx (upd H4 D (.lst (acc ++ [y]))) else Nx H3) := by
  intro D hD
  have h0 : B.H0 D = none := S.fresh0 hD
  have lenL := wk.len
  have nob := S.nobs hb
  let Inv := fun (i : Nat) (H : Hp) => i ≤ ds.length ∧ ∃ (F' : Hp) (env' : List Cell) (av : List V) (ad : List DV), SOk B K Z.calm F' H (n + i * (ct + ce)) (wipe σ vs) (wipeD env' vs) ∧ Ext F F' ∧ H D = some (.lst av) ∧ F' D = none ∧ HoldAll K F' av ad ∧ av.length ≤ i ∧
    (∀ (i : Nat) (c : Cell), (wipeD env' vs)[i]? = some c → c.own = true → (wipe σ vs)[i]? ≠ some (some (.ref D))) ∧ goLc vs g t f P (ds.drop i) ad env'
  have start : Inv 0 (upd H1 D (.lst [])) := by
    obtain ⟨S1, r1⟩ := new_lst S (vs := []) (xs := []) .nil hD
    refine ⟨Nat.zero_le _, F, e, [], [], by rw [Nat.zero_mul]; exact (S1.wipe nob).calm, Ext.refl _, upd_same, S.freshF hD, .nil, Nat.le_refl _, fun i c ec ow => ?_, go⟩
    rcases wipeD_get ec with ⟨_, rfl⟩ | ⟨h1, h2⟩
    · cases ow
    · rw [(wipe_off vs).2 i h1]
      exact r1.2.2.1 rfl i c h2 ow
  refine ⟨fun i m H => m = ds.length - i ∧ Inv i H, ⟨_, rfl, start⟩, ?_⟩
  rintro i _ H ⟨rfl, hi, F2, env2, av, ad, S2, x2, hD2, hF2, ha2, hl2, no2, go2⟩
  have hmul : i * (ct + ce) ≤ LINE * (ct + ce) := Nat.mul_le_mul_right _ (Nat.le_trans hi lenL)
  by_cases hlt : i < ds.length
  · have hmul2 : (i + 1) * (ct + ce) ≤ LINE * (ct + ce) := Nat.mul_le_mul_right _ (Nat.le_trans hlt lenL)
    rw [Nat.succ_mul] at hmul2
    refine .inr ⟨wk.goes i H F2 x2 S2.same hlt, Inv (i + 1), fun H' q => ⟨_, by omega, rfl, q⟩, fun v H3 y => ?_⟩
    obtain ⟨d, F3, ed, S3, x3, hd, s3, f3⟩ := wk.item x2 S2 hlt y
    have edr : ds.drop i = d :: ds.drop (i + 1) := by
      rw [List.drop_eq_getElem_cons hlt]
      congr 1
      exact (List.getElem?_eq_some_iff.mp ed).2
    rw [edr] at go2
    have hD3 := s3 _ _ hD2
    have hF3 : F3 D = none := (f3 D (by rw [hD2]; rfl)).trans hF2
    have nb : D ∉ B.bor := fun q => by
      have := S.bd D q
      rw [h0] at this
      cases this
    have nl : D ∉ locs (wipe σ vs) (wipeD env2 vs) := fun q => by
      obtain ⟨j, cj, ej, aj⟩ := of_mem_locs q
      exact no2 j _ ej rfl aj
    -- what stays of the new list
    have keep : ∀ {F' H' : Hp} {k : Nat} {σ' : L2.St} {e' : List Cell}, SOk (reb B F3 H3 (wipe σ vs) (wipeD env2 vs)) K Z.calm F' H' k σ' e' → H' D = some (.lst av) ∧ F' D = none ∧ ∀ (i : Nat) (c : Cell), e'[i]? = some c → c.own = true → σ'[i]? ≠ some (some (.ref D)) := fun {F' H' k σ' e'} T => by
      refine ⟨(T.fr D _ hD3 nb nl).eq (fun ps z => by cases z), (T.ff D (by show (H3 D).isSome = true; rw [hD3]; rfl) nb nl).elim (fun q => q.trans hF3) fun ⟨o', q, lx⟩ => (by
        have q' : H3 D = some o' := q
        rw [hD3] at q'
        cases q'
        cases lx), fun i c ec ow si => ?_⟩
      cases c with
      | un => cases ow
      | d x => cases ow
      | o b2 c2 =>
        obtain ⟨a2, q1, _, _, q3, q4⟩ := T.own ec
        rw [si] at q1
        cases q1
        cases b2 with
        | true => exact nb (q3 rfl)
        | false =>
          rcases q4 rfl with z | z
          · rw [show (reb B F3 H3 (wipe σ vs) (wipeD env2 vs)).H0 D = H3 D from rfl, hD3] at z
            cases z
          · exact nl z
    refine ⟨_, F3, _, wipeD env2 vs, d, S3.reb, hd, mg _ _ _ _ (fun e4 q σ4 T4 o4 => ?_) go2⟩
    have ew : wipe σ4 vs = wipe σ vs := wipe_eq (o4.mono hjs)
    refine ⟨ew, bindT mt (by show _ ≤ Z.M; omega) T4 q fun b e5 H5 F5 q5 T5 x5 => ?_⟩
    -- the turn's end
    have done : ∀ {F' H' : Hp} {k : Nat} {e' : List Cell} {ad' : List DV} {av' : List V}, n + i * (ct + ce) ≤ k → k ≤ n + (i + 1) * (ct + ce) → SOk (reb B F3 H3 (wipe σ vs) (wipeD env2 vs)) K Z.calm F' H' k σ4 e' → Ext F3 F' → HoldAll K F' av' ad' → av'.length ≤ i + 1 → goLc vs g t f P (ds.drop (i + 1)) ad' e' →
        Inv (i + 1) (upd H' D (.lst av')) := fun {F' H' k e' ad' av'} hk0 hk T x' hh hlen gg => by
      obtain ⟨k1, k2, k3⟩ := keep T
      have U := ((S3.unreb T rfl x' hk0).poke (o := .lst av') k1 h0 k2 k3).wipe (vs := vs) nob
      rw [ew] at U
      refine ⟨hlt, F', e', av', ad', U.mono hk, (x2.trans x3).trans x', upd_same, k2, hh, hlen, fun j c ec ow => ?_, gg⟩
      rcases wipeD_get ec with ⟨_, rfl⟩ | ⟨h1, h2⟩
      · cases ow
      · rw [← ew, (wipe_off vs).2 j h1]
        exact k3 j c h2 ow
    cases b with
    | false =>
      rw [if_neg Bool.false_ne_true] at q5 ⊢
      obtain ⟨k1, k2, k3⟩ := keep T5
      have := done (by omega) (by rw [Nat.succ_mul]; omega) T5 x5 ((ha2.mono x3).mono x5) (by omega) q5
      rw [show upd H5 D (.lst av) = H5 from by
        funext b
        unfold upd
        split
        · rename_i z; rw [z]; exact k1.symm
        · rfl] at this
      exact this
    | true =>
      rw [if_pos rfl] at q5 ⊢
      refine bindD mf (by show _ ≤ Z.M; omega) T5 q5 fun yd e6 yv H6 F6 q6 T6 x6 hy => ?_
      obtain ⟨k1, k2, k3⟩ := keep T6
      refine ⟨av, k1, by rw [line_eq]; omega, ?_⟩
      exact done (by omega) (by rw [Nat.succ_mul]; omega) T6 (x5.trans x6) ((((ha2.mono x3).mono x5).mono x6).append (.one hy)) (by rw [List.length_append, List.length_singleton]; omega) q6
  · have ei : i = ds.length := by omega
    subst ei
    rw [List.drop_length] at go2
    have U := S.unwipe hb S2 rfl x2 (by omega)
    rw [backD_wipe] at U
    refine .inl ⟨wk.stops H F2 x2 S2.same, fin ad env2 D H F2 go2 (U.mono (by omega)) x2 ⟨⟨D, rfl, hF2, ⟨av, hD2, ha2⟩, (fun z => by cases z), fun _ => .inl h0⟩, rfl, fun _ j c ec ow => ?_, fun _ a ea => by cases ea; exact h0⟩⟩
    rcases backD_get ec with ⟨h1, rfl⟩ | ⟨h1, h2⟩
    · have hl : j < (backD e env2 vs).length := (List.getElem?_eq_some_iff.mp ec).1
      have hl2 : j < e.length := by
        have := U.len
        rw [S.len] at this
        omega
      rw [hb j h1 _ (by simp [hl2])] at ow
      cases ow
    · have h3 : (wipeD env2 vs)[j]? = some c := by
        have w : ∀ {vs : List Nat}, j ∉ vs → (wipeD env2 vs)[j]? = env2[j]? := by
          intro vs
          induction vs with
          | nil => intro _; rfl
          | cons v vs ih =>
            intro h
            simp only [List.mem_cons, not_or] at h
            unfold wipeD
            rw [List.getElem?_set_ne (fun e => h.1 e.symm)]
            exact ih h.2
        rw [w h1]
        exact h2
      rw [← (wipe_off vs).2 j h1]
      exact no2 j c h3 ow
theorem goLc_mono {vs : List Nat} {g : DG} {t : DT} {f : DD} (mg : ∀ d env Q Q', (∀ e, Q e → Q' e) → g d env Q → g d env Q') (mt : MonoC t) (mf : MonoC f) {Q Q' : List DV → List Cell → Prop} (q : ∀ a e, Q a e → Q' a e) :
    ∀ ds acc env, goLc vs g t f Q ds acc env → goLc vs g t f Q' ds acc env
  | [], _, _, h => q _ _ h
  | d :: ds, acc, env, h => mg _ _ _ _ (fun e2 h2 => mt _ _ _ (fun k e3 h3 => by
      cases k with
      | true => exact mf _ _ _ (fun y e4 h4 => goLc_mono mg mt mf q ds _ _ h4) h3
      | false => exact goLc_mono mg mt mf q ds _ _ h3) h2) h
/-- the tests of a comprehension -/
structure PTsd (X : Cx) (Z : ZX) (ifs : List Expr) (c : Nat) (t : DT) : Prop where
  mono : MonoC t
  run : PTs X ifs (tDt X.K Z c t)
def dYes : DT := fun env Q => Q true env
theorem ptsNil {X : Cx} {Z : ZX} : PTsd X Z [] 0 dYes := ⟨fun _ _ _ q h => q _ _ h, ⟨fun pins s σ H Q I ⟨B, F, n, env, hn, S, h⟩ => pts_nil.run pins s σ H Q I (h H F S (Ext.refl _))⟩⟩
theorem ptsOne {X : Cx} {Z : ZX} {e : Expr} {c : Nat} {t : DT} (h : PTd X Z e c t) : PTsd X Z [e] c t := ⟨h.mono, pts_one h.run⟩
section
variable {X : Cx} {Z : ZX} {elt tg iter : Expr} {ifs : List Expr} {scope : Scope} {own : List (Str × Nat)} {pos : Pos} {ci ct ce : Nat} {i : DI} {js : List Nat} {g : DG} {t : DT} {f : DD}
theorem mono_lc {vs : List Nat} (mi : MonoC i) (mg : ∀ d env Q Q', (∀ e, Q e → Q' e) → g d env Q → g d env Q') (mt : MonoC t) (mf : MonoC f) : MonoC (dLc vs i g t f) := fun env Q Q' q h =>
  mi _ _ _ (fun ds e ⟨h1, h2⟩ => ⟨h1, goLc_mono mg mt mf (fun a e => q _ _) ds [] e h2⟩) h
theorem lc_imp (own : List (Str × Nat)) (hi : MonoC i) (mg : ∀ d env Q Q', (∀ e, Q e → Q' e) → g d env Q → g d env Q') (mt : MonoC t) (mf : MonoC f) (hjs : ∀ j ∈ js, j ∈ own.map (·.2)) {K : PySem.W.Frag} {Z : ZX} (σ : L2.St) (H : Hp) (Q : VK) (h : tDc K Z (ci + LINE * (ct + ce)) (dLc (own.map (·.2)) i g t f) σ H Q) :
    tLc (tDi K Z ci i) (tDg K Z.calm js g) (tDt K Z.calm ct t) (tDd K Z.calm ce f) (own.map (·.2)) σ H Q := by
  obtain ⟨B, F, n, env, hn, S, h⟩ := h
  refine ⟨B, F, n, env, by omega, S, hi _ _ _ (fun ds e ⟨hb, go⟩ J H1 F1 S1 x1 wk => ?_) h⟩
  exact lc_data mg mt mf hjs S1 wk hb go (m := n + (ci + LINE * (ct + ce))) (by omega) hn fun acc e' D H' F' p S' x' r => p (.ref D) H' F' S' (x1.trans x') r
theorem pcLc (hN : X.N.Nodup) (hi : PId X Z tg iter ci i) (ok : BlkOk X.N X.env.scope scope own)
    (hg : ∀ (s : Shared) (H : Hp) (C : Addr) (cl : List (Str × Addr)) (fp : List Addr), PGd (X.blk s H scope (compEnvC scope cl C X.env) fp) Z.calm tg js g)
    (ht : ∀ (s : Shared) (H : Hp) (C : Addr) (cl : List (Str × Addr)) (fp : List Addr), PTsd (X.blk s H scope (compEnvC scope cl C X.env) fp) Z.calm ifs ct t)
    (he : ∀ (s : Shared) (H : Hp) (C : Addr) (cl : List (Str × Addr)) (fp : List Addr), PEd (X.blk s H scope (compEnvC scope cl C X.env) fp) Z.calm elt ce f) (s0 : Shared) (hjs : ∀ j ∈ js, j ∈ own.map (·.2))
    (hc : X.calm = true := by rfl) (hs : ∀ x, foldedSetIterable iter X.env x = pure x := by intro _; rfl) :
    PEc X Z (.ListComp elt [⟨tg, iter, ifs, 0⟩] scope pos) (ci + LINE * (ct + ce)) (dLc (own.map (·.2)) i g t f) :=
  have a := hg s0 (fun _ => none) 0 [] []
  have b := ht s0 (fun _ => none) 0 [] []
  have c := he s0 (fun _ => none) 0 [] []
  ⟨mono_lc hi.mono a.mono b.mono c.mono, PE_imp (pe_lc hc hN hi.run ok (fun s H C cl fp => (hg s H C cl fp).run) (fun s H C cl fp => (ht s H C cl fp).run) (fun s H C cl fp => (he s H C cl fp).run) hs)
    (lc_imp own hi.mono a.mono b.mono c.mono hjs)⟩
/-- name = [..] -/
theorem psSetLc {k : Nat} {y : Str} {py spos : Pos} (hN : X.N.Nodup) (hy : X.N[k]? = some y) (hyl : X.env.scope.names.lookup y = some .local)
    (hsw : swapsWith (.ListComp elt [⟨tg, iter, ifs, 0⟩] scope pos) (some (.Name y py)) spos.line X.env = pure true) (hi : PId X Z tg iter ci i) (ok : BlkOk X.N X.env.scope scope own)
    (hg : ∀ (s : Shared) (H : Hp) (C : Addr) (cl : List (Str × Addr)) (fp : List Addr), PGd (X.blk s H scope (compEnvC scope cl C X.env) fp) Z.calm tg js g)
    (ht : ∀ (s : Shared) (H : Hp) (C : Addr) (cl : List (Str × Addr)) (fp : List Addr), PTsd (X.blk s H scope (compEnvC scope cl C X.env) fp) Z.calm ifs ct t)
    (he : ∀ (s : Shared) (H : Hp) (C : Addr) (cl : List (Str × Addr)) (fp : List Addr), PEd (X.blk s H scope (compEnvC scope cl C X.env) fp) Z.calm elt ce f) (s0 : Shared) (hjs : ∀ j ∈ js, j ∈ own.map (·.2))
    (hc : X.calm = true := by rfl) (hs : ∀ x, foldedSetIterable iter X.env x = pure x := by intro _; rfl) :
    PSd X Z (.Assign [.Name y py] (.ListComp elt [⟨tg, iter, ifs, 0⟩] scope pos) spos) (ci + LINE * (ct + ce)) (wSet k (dLc (own.map (·.2)) i g t f)) := by
  have a := hg s0 (fun _ => none) 0 [] []
  have b := ht s0 (fun _ => none) 0 [] []
  have c := he s0 (fun _ => none) 0 [] []
  have mo := mono_lc (vs := own.map (·.2)) hi.mono a.mono b.mono c.mono
  refine ⟨fun D D' env l h => mo _ _ _ (fun r e g => ⟨g.1, l.nx _ g.2⟩) h, PS_imp (ps_setLc (wi := tDi X.K Z ci i) (g := tDg X.K Z.calm js g) (tt := tDt X.K Z.calm ct t) (te := tDd X.K Z.calm ce f) hc hN hy hyl hsw hi.run ok (fun s H C cl fp => (hg s H C cl fp).run) (fun s H C cl fp => (ht s H C cl fp).run) (fun s H C cl fp => (he s H C cl fp).run) hs) fun D σ H ⟨B, F, n, env, hn, S, h⟩ => ?_⟩
  refine lc_imp own hi.mono a.mono b.mono c.mono hjs σ H _ ?_
  exact bindC mo hn S h fun r e v H1 F1 h1 S1 x1 hr => h1.2 _ H1 F1 (S1.store hr k (okSet_of h1.1)) x1
end
end DL
set_option maxRecDepth 100000
set_option maxHeartbeats 4000000
namespace DL
open PySem PySem.Spec PyProof.Rows L2

/-! ### what a def promises, by data -/
/-- the cells handed in (an owned one: handed in to be changed), and what is wanted of the result and of the changed ones -/
abbrev Con := List Cell → (Cell → List OC → Prop) → (Addr → List (Str × DV) → List OC → Prop) → Prop
def ParOk (K : PySem.W.Frag) (F H : Hp) (n : Nat) : List V → List Cell → Prop
  | [], [] => True
  | v :: vs, c :: cs => (match c with
      | .un => True
      | .d x => Hold K F v x
      | .o _ oc => ∃ a, v = .ref a ∧ F a = none ∧ OCOk K F H n a oc) ∧ ParOk K F H n vs cs
  | _, _ => False
def borA : List V → List Cell → List Addr
  | .ref a :: vs, .o _ _ :: cs => a :: borA vs cs
  | _ :: vs, _ :: cs => borA vs cs
  | _, _ => []
def ownIx (k : Nat) : List Cell → List Nat
  | [] => []
  | .o _ _ :: cs => k :: ownIx (k + 1) cs
  | _ :: cs => ownIx (k + 1) cs
def bsOf (k : Nat) : List V → List Cell → List (Nat × Addr)
  | .ref a :: vs, .o _ _ :: cs => (k, a) :: bsOf (k + 1) vs cs
  | _ :: vs, _ :: cs => bsOf (k + 1) vs cs
  | _, _ => []
/-- the cells of a def's start: what is owned is borrowed -/
def parC : List Cell → List Cell
  | [] => []
  | .o _ c :: cs => .o true c :: parC cs
  | c :: cs => c :: parC cs
def borsAt (env : List Cell) : List Nat → List OC
  | [] => []
  | i :: is => match env[i]? with
    | some (.o _ c) => c :: borsAt env is
    | _ => borsAt env is
structure Frm (K : PySem.W.Frag) (T : List (Addr × Str)) (F H : Hp) (bs : List Addr) (m : Nat) (os : List OC) (H' F' : Hp) : Prop where
  ext : Ext F F'
  same : Same F' H'
  fr : ∀ a o, H a = some o → a ∉ bs → Stay o (H' a)
  ff : ∀ a, (H a).isSome = true → a ∉ bs → TF H F F' a
  dom : ∀ a, (H a).isSome = true → (H' a).isSome = true
  tb : LamX.Tabs T H'
  bor : Paired (fun a c => F' a = none ∧ OCOk K F' H' m a c) bs os
structure PostD (K : PySem.W.Frag) (T : List (Addr × Str)) (F H : Hp) (bs : List Addr) (m : Nat) (r : Cell) (os : List OC) (v : V) (H' F' : Hp) : Prop extends Frm K T F H bs m os H' F' where
  res : match r with
    | .un => True
    | .d x => Hold K F' v x
    | .o b oc => b = false ∧ ∃ a, v = .ref a ∧ H a = none ∧ F' a = none ∧ OCOk K F' H' m a oc
/-- behind an error -/
structure PostX (K : PySem.W.Frag) (T : List (Addr × Str)) (F H : Hp) (bs : List Addr) (m : Nat) (os : List OC) (fs : List (Str × DV)) (d : Addr) (H' F' : Hp) : Prop extends Frm K T F H bs m os H' F' where
  exc : ExcAt K F' H' d fs
  new : H d = none
def SpD (K : PySem.W.Frag) (T : List (Addr × Str)) (c : Nat) (con : Con) : Sp := fun vs H Q E => ∃ F n cs M, (n + c ≤ M ∧ M ≤ LIM) ∧ Same F H ∧ LamX.Tabs T H ∧ ParOk K F H n vs cs ∧ (borA vs cs).Nodup ∧
  con cs (fun r os => ∀ v H' F', PostD K T F H (borA vs cs) (n + c) r os v H' F' → Q v H') (fun C fs os => ∀ d m H' F', n ≤ m → m ≤ M → PostX K T F H (borA vs cs) m os fs d H' F' → E (.ref C) (some d) H')
theorem ParOk.len {K : PySem.W.Frag} {F H : Hp} {n : Nat} : ∀ {vs : List V} {cs : List Cell}, ParOk K F H n vs cs → vs.length = cs.length
  | [], [], _ => rfl
  | v :: vs, c :: cs, h => by rw [List.length_cons, List.length_cons, ParOk.len h.2]
  | [], _ :: _, h => h.elim
  | _ :: _, [], h => h.elim
theorem ParOk.get {K : PySem.W.Frag} {F H : Hp} {n : Nat} : ∀ {vs : List V} {cs : List Cell} {i : Nat} {c : Cell}, ParOk K F H n vs cs → (parC cs)[i]? = some c → ∃ v, vs[i]? = some v ∧ (match c with
      | .un => True
      | .d x => Hold K F v x
      | .o b oc => b = true ∧ ∃ a, v = .ref a ∧ F a = none ∧ OCOk K F H n a oc ∧ a ∈ borA vs cs)
  | [], [], i, c, _, e => by simp [parC] at e
  | [], _ :: _, _, _, h, _ => h.elim
  | _ :: _, [], _, _, h, _ => h.elim
  | v :: vs, c0 :: cs, i, c, h, e => by
    have mem : ∀ {a : Addr}, a ∈ borA vs cs → a ∈ borA (v :: vs) (c0 :: cs) := fun {a} hm => by
      cases v <;> cases c0 <;> first | exact hm | exact List.mem_cons_of_mem _ hm
    cases i with
    | zero =>
      refine ⟨v, rfl, ?_⟩
      cases c0 with
      | un => cases e; trivial
      | d x => cases e; exact h.1
      | o b oc =>
        cases e
        obtain ⟨a, rfl, h1, h2⟩ := h.1
        exact ⟨rfl, a, rfl, h1, h2, List.mem_cons_self⟩
    | succ i =>
      have e' : (parC cs)[i]? = some c := by
        cases c0 <;> simpa [parC] using e
      obtain ⟨v', e1, q⟩ := ParOk.get (i := i) h.2 e'
      refine ⟨v', by simpa using e1, ?_⟩
      cases c with
      | un => trivial
      | d x => exact q
      | o b oc =>
        obtain ⟨q0, a, q1, q2, q3, q4⟩ := q
        exact ⟨q0, a, q1, q2, q3, mem q4⟩
theorem parC_len (cs : List Cell) : (parC cs).length = cs.length := by
  induction cs with
  | nil => rfl
  | cons c cs ih => cases c <;> simp [parC, ih]
theorem bsOf_spec {K : PySem.W.Frag} {F H : Hp} {n : Nat} : ∀ {vs : List V} {cs : List Cell} (k : Nat), ParOk K F H n vs cs →
    (∀ p ∈ bsOf k vs cs, k ≤ p.1 ∧ (∃ oc, (parC cs)[p.1 - k]? = some (.o true oc)) ∧ vs[p.1 - k]? = some (.ref p.2)) ∧ (bsOf k vs cs).map (·.2) = borA vs cs ∧ (bsOf k vs cs).map (·.1) = ownIx k cs
  | [], [], k, _ => ⟨fun p h => (by cases h), rfl, rfl⟩
  | [], _ :: _, _, h => h.elim
  | _ :: _, [], _, h => h.elim
  | v :: vs, c :: cs, k, h => by
    obtain ⟨i1, i2, i3⟩ := bsOf_spec (k + 1) h.2
    have step : ∀ p ∈ bsOf (k + 1) vs cs, k ≤ p.1 ∧ (∃ oc, (parC (c :: cs))[p.1 - k]? = some (.o true oc)) ∧ (v :: vs)[p.1 - k]? = some (.ref p.2) := fun p hp => by
      obtain ⟨h1, ⟨oc, h2⟩, h3⟩ := i1 p hp
      have e : p.1 - k = (p.1 - (k + 1)) + 1 := by omega
      refine ⟨by omega, ⟨oc, ?_⟩, ?_⟩
      · rw [e]
        cases c <;> simpa [parC] using h2
      · rw [e]
        simpa using h3
    cases c with
    | un => cases v <;> exact ⟨step, i2, i3⟩
    | d x => cases v <;> exact ⟨step, i2, i3⟩
    | o b oc =>
      obtain ⟨a, rfl, _⟩ := h.1
      refine ⟨fun p hp => ?_, by rw [bsOf, borA, List.map_cons, i2], by rw [bsOf, ownIx, List.map_cons, i3]⟩
      rcases List.mem_cons.mp hp with rfl | hp
      · exact ⟨Nat.le_refl _, ⟨oc, by simp [parC]⟩, by simp⟩
      · exact step p hp
/-- a def's body by data: w from the parameters' cells -/
def runD (N : Nat) (w : WS) (cs : List Cell) (P : Cell → List OC → Prop) : Prop :=
  w { nx := fun e => P (.d .non) (borsAt e (ownIx 0 cs)), rt := fun r e => P r (borsAt e (ownIx 0 cs)) } (parC cs ++ List.replicate (N - cs.length) .un)
section
variable {P : Program} {w : World} {K : PySem.W.Frag} {mg : Str → Option Value} {base : Heap}
theorem runD_ok {X : Cx} {Z : ZX} {N : Nat} {sts : List Stmt} {c : Nat} {wd : WS} (hb : PSSd X Z sts c wd) {F H : Hp} {n : Nat} {cs : List Cell} {vs : List V} (hn : n + c ≤ Z.M) (s : Same F H) (ht : LamX.Tabs Z.T H) (hp : ParOk X.K F H n vs cs) (nd : (borA vs cs).Nodup) (hN : vs.length ≤ N)
    {Q : VK} (h : runD N wd cs fun r os => ∀ v H' F', PostD X.K Z.T F H (borA vs cs) (n + c) r os v H' F' → Q v H')
    (hG : ∀ C fs e, Z.G C fs e → ∀ d m H' F', n ≤ m → m ≤ Z.M → PostX X.K Z.T F H (borA vs cs) m (borsAt e (ownIx 0 cs)) fs d H' F' → Z.E (.ref C) (some d) H') :
    tDs X.K Z c wd { nx := fun _ H' => Q .non H', rt := Q } (vs.map some ++ List.replicate (N - vs.length) none) H := by
  obtain ⟨b1, b2, b3⟩ := bsOf_spec 0 hp
  have hl := hp.len
  let B : Base := ⟨H, F, borA vs cs, [], [], bsOf 0 vs cs⟩
  have getσ : ∀ {i : Nat} {v : V}, vs[i]? = some v → (vs.map some ++ List.replicate (N - vs.length) none)[i]? = some (some v) := fun {i v} e => by
    have hi : i < vs.length := (List.getElem?_eq_some_iff.mp e).1
    rw [List.getElem?_append_left (by simpa using hi), List.getElem?_map, e]
    rfl
  have getE : ∀ {i : Nat} {c : Cell}, (parC cs ++ List.replicate (N - cs.length) .un)[i]? = some c → (parC cs)[i]? = some c ∨ (vs.length ≤ i ∧ i < N ∧ c = .un) := fun {i c} e => by
    by_cases hi : i < cs.length
    · rw [List.getElem?_append_left (by rw [parC_len]; exact hi)] at e
      exact .inl e
    · rw [List.getElem?_append_right (by rw [parC_len]; omega), List.getElem?_replicate, parC_len] at e
      split at e
      · cases e
        exact .inr ⟨by omega, by omega, rfl⟩
      · cases e
  have S0 : Core B X.K Z.T F H n (vs.map some ++ List.replicate (N - vs.length) none) (parC cs ++ List.replicate (N - cs.length) .un) := by
    refine ⟨s, by simp [parC_len, hl], fun i c e => ?_, fun i j ci cj a ei ej oi oj si sj => ?_, fun a o e _ _ => .inl e, fun _ _ _ _ => .inl rfl, fun a ha => ?_, (fun p hp => by cases hp), fun p hp => ?_, (fun _ h => h), ht⟩
    · rcases getE e with e | ⟨h1, h2, rfl⟩
      · obtain ⟨v, ev, q⟩ := hp.get e
        refine ⟨some v, getσ ev, ?_⟩
        cases c with
        | un => trivial
        | d x => exact ⟨v, rfl, q⟩
        | o b oc =>
          obtain ⟨rfl, a, rfl, q1, q2, q3⟩ := q
          exact ⟨a, rfl, q1, q2, (fun _ => q3), fun z => by cases z⟩
      · refine ⟨none, ?_, trivial⟩
        rw [List.getElem?_append_right (by simpa using h1), List.getElem?_replicate, if_pos (by simp; omega)]
    · have ix : ∀ {i : Nat} {c : Cell}, (parC cs ++ List.replicate (N - cs.length) .un)[i]? = some c → c.own = true → (vs.map some ++ List.replicate (N - vs.length) none)[i]? = some (some (V.ref a)) → (i, a) ∈ bsOf 0 vs cs := fun {i c} e ow se => by
        have gen : ∀ {vs : List V} {cs : List Cell} (k : Nat) {i : Nat}, ParOk X.K F H n vs cs → (parC cs)[i]? = some c → vs[i]? = some (V.ref a) → (k + i, a) ∈ bsOf k vs cs := by
          intro vs
          induction vs with
          | nil =>
            intro cs k i hp e1 e2
            simp at e2
          | cons v vs ih =>
            intro cs k i hp e1 e2
            cases cs with
            | nil => exact hp.elim
            | cons c0 cs =>
              cases i with
              | zero =>
                have ev : v = .ref a := by simpa using e2
                subst ev
                cases c0 with
                | un => cases e1; cases ow
                | d x => cases e1; cases ow
                | o b oc => exact List.mem_cons_self
              | succ i =>
                have q := ih (cs := cs) (k + 1) (i := i) hp.2 (by cases c0 <;> simpa [parC] using e1) (by simpa using e2)
                rw [show k + 1 + i = k + (i + 1) by omega] at q
                cases v <;> cases c0 <;> first | exact q | exact List.mem_cons_of_mem _ q
        rcases getE e with e1 | ⟨h1, h2, rfl⟩
        · have hi : i < vs.length := by
            have := (List.getElem?_eq_some_iff.mp e1).1
            rw [parC_len] at this
            omega
          rw [List.getElem?_append_left (by simpa using hi), List.getElem?_map] at se
          have se' : vs[i]? = some (V.ref a) := by
            cases q : vs[i]? with
            | none => rw [q] at se; cases se
            | some u => rw [q] at se; cases se; rfl
          have := gen 0 hp e1 se'
          rwa [Nat.zero_add] at this
        · cases ow
      have m1 := ix ei oi si
      have m2 := ix ej oj sj
      have nd2 : ((bsOf 0 vs cs).map (·.2)).Nodup := by rw [b2]; exact nd
      have uniq : ∀ {l : List (Nat × Addr)} {p q : Nat × Addr}, (l.map (·.2)).Nodup → p ∈ l → q ∈ l → p.2 = q.2 → p = q := by
        intro l
        induction l with
        | nil => intro p q _ h; cases h
        | cons x l ih =>
          intro p q hn hp hq e
          rw [List.map_cons] at hn
          obtain ⟨n1, n2⟩ := List.nodup_cons.mp hn
          rcases List.mem_cons.mp hp with rfl | hp'
          · rcases List.mem_cons.mp hq with rfl | hq'
            · rfl
            · exact absurd (List.mem_map.mpr ⟨q, hq', e.symm⟩) n1
          · rcases List.mem_cons.mp hq with rfl | hq'
            · exact absurd (List.mem_map.mpr ⟨p, hp', e⟩) n1
            · exact ih n2 hp' hq' e
      exact congrArg Prod.fst (uniq nd2 m1 m2 rfl)
    · have ha : a ∈ borA vs cs := ha
      rw [← b2] at ha
      obtain ⟨p, hp2, e⟩ := List.mem_map.mp ha
      obtain ⟨_, ⟨oc, h2⟩, h3⟩ := b1 p hp2
      obtain ⟨v, ev, _, a', q1, q2, q3, _⟩ := hp.get h2
      rw [h3] at ev
      cases ev
      cases q1
      obtain ⟨o, eo⟩ := OCOk.there q3
      show (H a).isSome = true
      rw [← e, eo]
      rfl
    · obtain ⟨_, ⟨oc, h2⟩, h3⟩ := b1 p hp
      rw [Nat.sub_zero] at h2 h3
      refine ⟨⟨oc, ?_⟩, getσ h3⟩
      rw [List.getElem?_append_left (List.getElem?_eq_some_iff.mp h2).1]
      exact h2
  -- what was borrowed, at any time
  have bors : ∀ {F' H' : Hp} {m : Nat} {σ' : L2.St} {e : List Cell}, Core B X.K Z.T F' H' m σ' e → Paired (fun a c_1 => F' a = none ∧ OCOk X.K F' H' m a c_1) (borA vs cs) (borsAt e (ownIx 0 cs)) := fun {F' H' m σ' e} T => by
    have gen : ∀ (l : List (Nat × Addr)), (∀ p ∈ l, p ∈ B.bs) → Paired (fun a c_1 => F' a = none ∧ OCOk X.K F' H' m a c_1) (l.map (·.2)) (borsAt e (l.map (·.1))) := by
      intro l
      induction l with
      | nil => intro _; exact .nil
      | cons p l ih =>
        intro hl
        obtain ⟨⟨oc, e1⟩, e2⟩ := T.bs p (hl p List.mem_cons_self)
        obtain ⟨a, q1, q2, q3, _⟩ := T.own e1
        rw [e2] at q1
        cases q1
        rw [List.map_cons, List.map_cons, borsAt, e1]
        exact .cons ⟨q2, q3⟩ (ih fun q hq => hl q (List.mem_cons_of_mem _ hq))
    have := gen (bsOf 0 vs cs) fun _ h => h
    rwa [b2, b3] at this
  have S : SOk B X.K Z F H n (vs.map some ++ List.replicate (N - vs.length) none) (parC cs ++ List.replicate (N - cs.length) .un) := by
    refine ⟨S0, fun F' H' n' σ' e C d fs T x h1 h2 h3 h4 h5 => hG C fs e h5 d n' H' F' h1 h2 ⟨⟨x, T.same, fun a o ea na => T.fr a o ea na (by intro z; cases z), fun a ea na => T.ff a ea na (by intro z; cases z), T.dom, T.tb, bors T⟩, h3, h4⟩⟩
  refine ⟨B, F, n, _, hn, S, hb.mono _ _ _ ?_ h⟩
  have post : ∀ {r : Cell} {e : List Cell} {v : V} {σ' : L2.St} {H' F' : Hp}, SOk B X.K Z F' H' (n + c) σ' e → Ext F F' → Res B X.K F' H' (n + c) σ' e v r → PostD X.K Z.T F H (borA vs cs) (n + c) r (borsAt e (ownIx 0 cs)) v H' F' := fun {r e v σ' H' F'} T x hr => by
    refine ⟨⟨x, T.same, fun a o ea na => T.fr a o ea na (by intro z; cases z), fun a ea na => T.ff a ea na (by intro z; cases z), T.dom, T.tb, bors T.toCore⟩, ?_⟩
    cases r with
    | un => trivial
    | d x => obtain ⟨v', ev, h⟩ := hr.1; cases ev; exact h
    | o b oc =>
      cases b with
      | true => cases hr.2.1
      | false =>
        obtain ⟨a, ea, h1, h2, _⟩ := hr.1
        cases ea
        exact ⟨rfl, a, rfl, hr.2.2.2 rfl a rfl, h1, h2⟩
  exact ⟨fun e q σ' H' F' T x => q .non H' F' (post T x (Res.dat .non)), fun r e q v σ' H' F' T x z => q v H' F' (post T x z), fun e q => q.elim, fun e q => q.elim⟩
end
end DL
set_option maxRecDepth 100000
set_option maxHeartbeats 4000000
namespace DL
open PySem PySem.Spec PyProof.Rows L2

theorem Frm.mono_m {K : PySem.W.Frag} {T : List (Addr × Str)} {F H : Hp} {bs : List Addr} {m m' : Nat} {os : List OC} {H' F' : Hp} (h : Frm K T F H bs m os H' F') (hm : m ≤ m') : Frm K T F H bs m' os H' F' :=
  ⟨h.ext, h.same, h.fr, h.ff, h.dom, h.tb, Paired.mapP h.bor fun a c q => ⟨q.1, OCOk.mono (Ext.refl _) rfl hm q.2⟩⟩
theorem PostD.mono_m {K : PySem.W.Frag} {T : List (Addr × Str)} {F H : Hp} {bs : List Addr} {m m' : Nat} {r : Cell} {os : List OC} {v : V} {H' F' : Hp} (h : PostD K T F H bs m r os v H' F') (hm : m ≤ m') : PostD K T F H bs m' r os v H' F' := by
  refine ⟨h.toFrm.mono_m hm, ?_⟩
  have q := h.res
  cases r with
  | un => trivial
  | d x => exact q
  | o b oc =>
    obtain ⟨q0, a, q1, q2, q3, q4⟩ := q
    exact ⟨q0, a, q1, q2, q3, OCOk.mono (Ext.refl _) rfl hm q4⟩
def ConMono (con : Con) : Prop := ∀ cs P P' X X', (∀ r o, P r o → P' r o) → (∀ C f o, X C f o → X' C f o) → con cs P X → con cs P' X'
/-- a promise may be weakened: more cost, less given -/
theorem SpD_imp {K : PySem.W.Frag} {T : List (Addr × Str)} {c c' : Nat} {con con' : Con} (mc : ConMono con) (hc : c ≤ c') (h : ∀ cs P X, con' cs P X → con cs P X) : ∀ vs H Q E, SpD K T c' con' vs H Q E → SpD K T c con vs H Q E :=
  fun vs H Q E ⟨F, n, cs, M, hn, s, ht, hp, nd, q⟩ => ⟨F, n, cs, M, ⟨by omega, hn.2⟩, s, ht, hp, nd, mc _ _ _ _ _ (fun r o k v H' F' z => k v H' F' (z.mono_m (by omega))) (fun _ _ _ z => z) (h _ _ _ q)⟩
theorem runD_mono {N : Nat} {w : WS} (mw : MonoS w) {cs : List Cell} {P P' : Cell → List OC → Prop} (h : ∀ r o, P r o → P' r o) (q : runD N w cs P) : runD N w cs P' :=
  mw { nx := fun e => P (.d .non) (borsAt e (ownIx 0 cs)), rt := fun r e => P r (borsAt e (ownIx 0 cs)) } _ _ ⟨fun e => h _ _, fun r e => h _ _, fun _ z => z, fun _ z => z⟩ q
section
variable {P : Program} {w : World} {K : PySem.W.Frag} {mg : Str → Option Value} {base : Heap}
/-- THE RULE for a def, by data -/
theorem okD {x qual : Str} {st : Stmt} {f : Addr} {fd : FuncData} {N ps : List Str} {k c c' : Nat} {con : Con} {T : List (Addr × Str)} {wd : (Addr → List (Str × DV) → List Cell → Prop) → WS} (F : Fun K x qual st f fd) (S : FnScope N ps (defScope st)) (hlen : ∀ cs P X, con cs P X → cs.length = ps.length) (hc : c ≤ c')
    (hbody : ∀ (cdv : Value) (A : Around) (outer : List Env) (s : Shared) (H : Hp) (E : XK) (G : Addr → List (Str × DV) → List Cell → Prop) (M : Nat) (hM : M ≤ LIM), Room k (A.deeper (envOfC qual (defScope st) s.heap.objs.size f cdv)) →
      PSSd (cxOf (L2.CX P w) P w K mg base N qual (defScope st) f cdv A outer s H E) ⟨E, G, T, M, hM⟩ (defBody st) c (wd G))
    (hdata : ∀ cs P X, con cs P X → runD N.length (wd fun C fs e => X C fs (borsAt e (ownIx 0 cs))) cs P) : FnOk P w K mg base (L2.CX P w) (k + 1) f fd ps (SpD K T c' con) := by
  obtain ⟨oc, od, kV, doc, pm, an, cdv, ct, osl, rfl, lk, hcd⟩ := F.ex
  refine fn_of lk hcd S (fun vs H Q E h => ?_) fun A outer s H vs Q E hr h => ?_
  · obtain ⟨F, n, cs, M, hn, s, ht, hp, nd, q⟩ := h
    rw [hp.len]
    exact hlen _ _ _ q
  · obtain ⟨F0, n, cs, M, hn, s0, ht, hp, nd, q⟩ := h
    have hl : vs.length ≤ N.length := by
      have e1 := hlen _ _ _ q
      have e2 := congrArg List.length S.pre
      rw [List.length_take] at e2
      rw [hp.len, e1]
      omega
    have hd := hdata cs _ _ q
    have hb := hbody cdv A outer s H E (fun C fs e => ∀ d m H' F', n ≤ m → m ≤ M → PostX K T F0 H (borA vs cs) m (borsAt e (ownIx 0 cs)) fs d H' F' → E (.ref C) (some d) H') M hn.2 hr
    refine ⟨_, hb.run, ?_⟩
    refine runD_ok hb (n := n) (by show _ ≤ M; omega) s0 ht hp nd hl (runD_mono hb.mono (fun r o z v H' F' p => z v H' F' (p.mono_m (by omega))) hd) ?_
    exact fun C fs e g d m H' F' h1 h2 px => g d m H' F' h1 h2 px
end

/-! ### arguments -/
inductive Arg where
  | d (x : DV) | b (j : Nat)
def ArgOk (K : PySem.W.Frag) (F : Hp) (σ : L2.St) (v : V) : Arg → Prop
  | .d x => Hold K F v x
  | .b j => σ[j]? = some (some v)
inductive ArgsOk (K : PySem.W.Frag) (F : Hp) (σ : L2.St) : List V → List Arg → Prop
  | nil : ArgsOk K F σ [] []
  | cons {v : V} {vs : List V} {a : Arg} {as : List Arg} : ArgOk K F σ v a → ArgsOk K F σ vs as → ArgsOk K F σ (v :: vs) (a :: as)
abbrev DB := List Cell → (List Arg → List Cell → Prop) → Prop
def tDb (K : PySem.W.Frag) (Z : ZX) (c : Nat) (f : DB) : TA := fun σ H Q => ∃ B F n env, n + c ≤ Z.M ∧ SOk B K Z F H n σ env ∧ f env fun as e => ∀ vs H' F', SOk B K Z F' H' (n + c) σ e → Ext F F' → ArgsOk K F' σ vs as → Q vs H'
structure PBd (X : Cx) (Z : ZX) (es : List Expr) (c : Nat) (f : DB) : Prop where
  mono : MonoC f
  run : PA X es (tDb X.K Z c f)
def bNil : DB := fun env Q => Q [] env
def bCons (f : DD) (g : DB) : DB := fun env Q => f env fun x e => g e fun as e2 => Q (.d x :: as) e2
def bBor (j : Nat) (g : DB) : DB := fun env Q => (match env[j]? with
  | some (.o _ _) => True
  | _ => False) ∧ g env fun as e2 => Q (.b j :: as) e2
section
variable {X : Cx} {Z : ZX} {e : Expr} {es : List Expr} {c cs : Nat} {f : DD} {g : DB}
theorem ArgOk.mono {K : PySem.W.Frag} {F F' : Hp} {σ : L2.St} {v : V} {a : Arg} (x : Ext F F') (h : ArgOk K F σ v a) : ArgOk K F' σ v a := by
  cases a with
  | d y => exact Hold.mono x h
  | b j => exact h
theorem pbNil : PBd X Z [] 0 bNil := ⟨fun _ _ _ q h => q _ _ h, PA_imp pa_nil fun σ H Q ⟨B, F, n, env, hn, S, h⟩ => h [] H F S (Ext.refl _) .nil⟩
theorem pbCons (ha : PEd X Z e c f) (hr : PBd X Z es cs g) (hs : starEach (e :: es) X.env = (false, eval e X.env) :: starEach es X.env := by rfl) : PBd X Z (e :: es) (c + cs) (bCons f g) := by
  refine ⟨fun env Q Q' q h => ha.mono _ _ _ (fun x e h => hr.mono _ _ _ (fun as e2 => q _ _) h) h, PA_imp (pa_cons ha.run hr.run hs) fun σ H Q ⟨B, F, n, env, hn, S, h⟩ => ?_⟩
  refine bindD ha.mono (by omega) S h fun x e1 v H1 F1 h1 S1 x1 hv => ?_
  refine ⟨B, F1, n + c, e1, by omega, S1, hr.mono _ _ _ (fun as e2 k vs H2 F2 S2 x2 ha => ?_) h1⟩
  rw [Nat.add_assoc] at S2
  exact k _ H2 F2 S2 (x1.trans x2) (.cons (hv.mono x2) ha)
theorem pbBor (j : Nat) {x : Str} {pos : Pos} (hr : PBd X Z es cs g) (hN : X.N[j]? = some x := by rfl) (hv : Vis X.env.scope x := by first | exact Or.inl rfl | exact Or.inr (Or.inl rfl) | exact Or.inr (Or.inr rfl)) (hd : (x == ("__debug__" : Str)) = false := by decide)
    (hcd : (x == ("__classdict__" : Str)) = false := by decide) (hs : starEach (.Name x pos :: es) X.env = (false, eval (.Name x pos) X.env) :: starEach es X.env := by rfl) : PBd X Z (.Name x pos :: es) cs (bBor j g) := by
  refine ⟨fun env Q Q' q h => ⟨h.1, hr.mono _ _ _ (fun as e2 => q _ _) h.2⟩, PA_imp (pa_cons (pe_var hN hv hd hcd) hr.run hs) fun σ H Q ⟨B, F, n, env, hn, S, h⟩ => ?_⟩
  obtain ⟨h0, h⟩ := h
  split at h0
  · rename_i b oc e1
    obtain ⟨a, e2, _⟩ := S.own e1
    exact ⟨_, e2, B, F, n, env, hn, S, hr.mono _ _ _ (fun as e2' k vs H2 F2 S2 x2 ha => k _ H2 F2 S2 x2 (.cons e2 ha)) h⟩
  · exact h0.elim
end

/-! ### a call -/
def cellOf (env : List Cell) : Arg → Cell
  | .d x => .d x
  | .b j => match env[j]? with
    | some (.o _ c) => .o true c
    | _ => .un
def borIx : List Arg → List Nat
  | [] => []
  | .b j :: as => j :: borIx as
  | .d _ :: as => borIx as
def putB (env : List Cell) : List Nat → List OC → List Cell
  | j :: js, o :: os => match env[j]? with
    | some (.o b _) => putB (env.set j (.o b o)) js os
    | _ => putB env js os
  | _, _ => env
/-- all the slots named are owned -/
def allOwn (env : List Cell) : List Nat → Prop
  | [] => True
  | j :: js => (match env[j]? with
    | some (.o _ _) => True
    | _ => False) ∧ allOwn env js
def dCall (con : Con) (G : Addr → List (Str × DV) → List Cell → Prop) (f : DB) : DE := fun env Q => f env fun as e => ((borIx as).Nodup ∧ allOwn e (borIx as)) ∧ con (as.map (cellOf e)) (fun r os => Q r (putB e (borIx as) os)) fun C fs os => G C fs (putB e (borIx as) os)
section
variable {B : Base} {K : PySem.W.Frag} {Z : ZX} {Tz : List (Addr × Str)} {F F' H H' : Hp} {n m : Nat} {σ : L2.St} {env : List Cell}
theorem allOwn_at : ∀ {js : List Nat}, allOwn env js → ∀ j ∈ js, ∃ b c, env[j]? = some (.o b c)
  | j :: js, h, i, hi => by
    rcases List.mem_cons.mp hi with rfl | hi
    · have h1 := h.1
      split at h1
      · exact ⟨_, _, by assumption⟩
      · exact h1.elim
    · exact allOwn_at h.2 i hi
theorem args_par (S : Core B K Tz F H n σ env) : ∀ {vs : List V} {as : List Arg}, ArgsOk K F σ vs as → allOwn env (borIx as) → ParOk K F H n vs (as.map (cellOf env)) ∧
    (∀ a ∈ borA vs (as.map (cellOf env)), ∃ j ∈ borIx as, ∃ b c, env[j]? = some (.o b c) ∧ σ[j]? = some (some (.ref a))) ∧ Paired (fun j a => σ[j]? = some (some (.ref a))) (borIx as) (borA vs (as.map (cellOf env)))
  | _, _, .nil, _ => ⟨trivial, (fun a h => by cases h), .nil⟩
  | _, _, .cons (v := v) (vs := vs) (a := a) (as := as) h t, ho => by
    cases a with
    | d x =>
      obtain ⟨i1, i2, i3⟩ := args_par S t ho
      have e : borA (v :: vs) (Cell.d x :: as.map (cellOf env)) = borA vs (as.map (cellOf env)) := by cases v <;> rfl
      exact ⟨⟨h, i1⟩, by rw [List.map_cons, cellOf, e]; exact i2, by rw [List.map_cons, cellOf, e]; exact i3⟩
    | b j =>
      obtain ⟨i1, i2, i3⟩ := args_par S t ho.2
      obtain ⟨b, c, ec⟩ := allOwn_at ho j List.mem_cons_self
      obtain ⟨a, e1, e2, e3, _⟩ := S.own ec
      have hv : v = .ref a := by
        have h : σ[j]? = some (some v) := h
        rw [e1] at h
        cases h
        rfl
      subst hv
      have ecell : cellOf env (.b j) = .o true c := by simp only [cellOf, ec]
      rw [List.map_cons, ecell]
      refine ⟨⟨⟨a, rfl, e2, e3⟩, i1⟩, fun q hq => ?_, .cons e1 i3⟩
      rcases List.mem_cons.mp hq with rfl | hq
      · exact ⟨j, List.mem_cons_self, b, c, ec, e1⟩
      · obtain ⟨k, hk, z⟩ := i2 q hq
        exact ⟨k, List.mem_cons_of_mem _ hk, z⟩
/-- the changed objects are put back -/
theorem SOk.putB (m0 : n ≤ m) : ∀ (js : List Nat) (as : List Addr) (os : List OC) {env : List Cell}, (∀ (i : Nat) (c : Cell), env[i]? = some c → i ∉ js → ∃ o, σ[i]? = some o ∧ CellOk B K F' H' m o c) → (σ.length = env.length) →
    (∀ j ∈ js, ∃ b c a, env[j]? = some (.o b c) ∧ σ[j]? = some (some (.ref a)) ∧ (b = true → a ∈ B.bor) ∧ (b = false → B.H0 a = none ∨ a ∈ B.loc)) → js.Nodup → Paired (fun j a => σ[j]? = some (some (.ref a))) js as → Paired (fun a c => F' a = none ∧ OCOk K F' H' m a c) as os →
    (∀ (i : Nat) (c : Cell), (DL.putB env js os)[i]? = some c → ∃ o, σ[i]? = some o ∧ CellOk B K F' H' m o c) ∧ (DL.putB env js os).length = env.length ∧
      (∀ (i : Nat) (b : Bool) (c : OC), env[i]? = some (.o b c) → ∃ c', (DL.putB env js os)[i]? = some (.o b c')) ∧ (∀ (i : Nat) (b : Bool) (c : OC), (DL.putB env js os)[i]? = some (.o b c) → ∃ c', env[i]? = some (.o b c'))
  | [], _, _, env, h, hl, _, _, _, _ => by
    cases ‹List OC› <;> exact ⟨fun i c e => h i c e (by simp), rfl, fun i b c e => ⟨c, e⟩, fun i b c e => ⟨c, e⟩⟩
  | j :: js, _, _, env, h, hl, ho, nd, .cons (b := a) e1 p1, .cons (b := o) e2 p2 => by
    obtain ⟨b, c, a', ec, ea, f1, f2⟩ := ho j List.mem_cons_self
    obtain ⟨n1, n2⟩ := List.nodup_cons.mp nd
    rw [e1] at ea
    cases ea
    have hj : j < env.length := (List.getElem?_eq_some_iff.mp ec).1
    rw [DL.putB, ec]
    have r := SOk.putB m0 js _ _ (env := env.set j (.o b o)) (fun i c' e hi => by
      rcases getElem?_set_cases e with ⟨rfl, rfl, _⟩ | ⟨ne, e'⟩
      · exact ⟨_, e1, a, rfl, e2.1, e2.2, f1, f2⟩
      · exact h i c' e' (by simp only [List.mem_cons, not_or]; exact ⟨fun z => ne z.symm, hi⟩)) (by rw [List.length_set]; exact hl)
      (fun k hk => by
        obtain ⟨b', c', a', q1, q2⟩ := ho k (List.mem_cons_of_mem _ hk)
        have ne : j ≠ k := by rintro rfl; exact n1 hk
        exact ⟨b', c', a', by rw [List.getElem?_set_ne ne]; exact q1, q2⟩) n2 p1 p2
    obtain ⟨r1, r2, r3, r4⟩ := r
    refine ⟨r1, by rw [r2, List.length_set], fun i b' c' e => ?_, fun i b' c' e => ?_⟩
    · by_cases z : j = i
      · subst z
        rw [ec] at e
        cases e
        exact r3 j b o (List.getElem?_set_self hj)
      · exact r3 i b' c' (by rw [List.getElem?_set_ne z]; exact e)
    · obtain ⟨c2, q⟩ := r4 i b' c' e
      rcases getElem?_set_cases q with ⟨rfl, z, _⟩ | ⟨_, q⟩
      · cases z
        exact ⟨c, ec⟩
      · exact ⟨c2, q⟩
/-- THE STATE behind a call -/
theorem Core.call (S : Core B K Tz F H n σ env) {vs : List V} {as : List Arg} (ha : ArgsOk K F σ vs as) (nd : (borIx as).Nodup) (ho : allOwn env (borIx as)) {os : List OC} (hm : n ≤ m)
    (p : Frm K Tz F H (borA vs (as.map (cellOf env))) m os H' F') : Core B K Tz F' H' m σ (DL.putB env (borIx as) os) ∧ ∀ (i : Nat) (b : Bool) (c : OC), (DL.putB env (borIx as) os)[i]? = some (.o b c) → ∃ c', env[i]? = some (.o b c') := by
  obtain ⟨p1, p2, p3⟩ := args_par S ha ho
  -- an address handed in is this def's own
  have mine : ∀ a ∈ borA vs (as.map (cellOf env)), F a = none ∧ (a ∈ B.bor ∨ B.H0 a = none ∨ a ∈ B.loc) := fun a hq => by
    obtain ⟨j, _, b, c, ec, ea⟩ := p2 a hq
    obtain ⟨a', e1, e2, _, e4, e5⟩ := S.own ec
    rw [ea] at e1
    cases e1
    cases b with
    | true => exact ⟨e2, .inl (e4 rfl)⟩
    | false => exact ⟨e2, .inr (e5 rfl)⟩
  have q := SOk.putB (B := B) (K := K) (F' := F') (H' := H') (σ := σ) hm (borIx as) _ os (env := env) (fun i c e hi => by
    obtain ⟨o, e1, h⟩ := S.at_ i c e
    refine ⟨o, e1, h.mono p.ext hm fun a ea ow => ?_⟩
    cases c with
    | un => cases ow
    | d x => cases ow
    | o b c =>
      obtain ⟨a', e', h1, h2, _⟩ := h
      rw [e'] at ea
      cases ea
      obtain ⟨o2, e2⟩ := OCOk.there h2
      have na : a ∉ borA vs (as.map (cellOf env)) := fun z => by
        obtain ⟨j, hj, b2, c2, ec2, ea2⟩ := p2 a z
        subst e'
        exact hi (S.sep i j _ _ a e ec2 rfl rfl e1 ea2 ▸ hj)
      exact ⟨by rw [e2]; exact (p.fr _ _ e2 na).eq (h2.ntbl e2), (p.ff _ (by rw [e2]; rfl) na).elim (fun q => q.trans h1) fun ⟨o', q, lx⟩ => absurd lx (by rw [h2.nlax q]; decide)⟩) S.len (fun j hj => by
    obtain ⟨b, c, ec⟩ := allOwn_at ho j hj
    obtain ⟨a, e1, _, _, e4, e5⟩ := S.own ec
    exact ⟨b, c, a, ec, e1, e4, e5⟩) nd p3 p.bor
  obtain ⟨q1, q2, q3, q4⟩ := q
  have S' : Core B K Tz F' H' m σ (DL.putB env (borIx as) os) := by
    refine ⟨p.same, by rw [q2]; exact S.len, q1, fun i j ci cj a ei ej oi oj si sj => ?_, fun a o e hb hl => ?_, fun a e hb hl => ?_, S.bd, fun z hz => ?_, fun z hz => ?_, fun a e => p.dom a (S.dom a e), p.tb⟩
    · have lift : ∀ {i : Nat} {c : Cell}, (DL.putB env (borIx as) os)[i]? = some c → c.own = true → ∃ c', env[i]? = some c' ∧ c'.own = true := fun {i c} e ow => by
        cases c with
        | un => cases ow
        | d x => cases ow
        | o b c =>
          obtain ⟨c', e'⟩ := q4 i b c e
          exact ⟨_, e', rfl⟩
      obtain ⟨c1, e1, o1⟩ := lift ei oi
      obtain ⟨c2, e2, o2⟩ := lift ej oj
      exact S.sep i j c1 c2 a e1 e2 o1 o2 si sj
    · have g := S.fr a o e hb hl
      obtain ⟨o1, e1⟩ := Option.isSome_iff_exists.mp g.isSome
      rw [e1] at g
      refine g.trans (p.fr a o1 e1 fun z => ?_)
      rcases (mine a z).2 with y | y | y
      · exact hb y
      · rw [y] at e; cases e
      · exact hl y
    · have na : a ∉ borA vs (as.map (cellOf env)) := fun z => by
        rcases (mine a z).2 with y | y | y
        · exact hb y
        · rw [y] at e; cases e
        · exact hl y
      rcases p.ff a (S.dom a e) na with q | ⟨o', q, lx⟩
      · exact (S.ff a e hb hl).imp (fun r => q.trans r) id
      · obtain ⟨o, eo⟩ := Option.isSome_iff_exists.mp e
        have g := S.fr a o eo hb hl
        rw [q] at g
        exact .inr ⟨o, eo, g.lax lx⟩
    · have e := S.lk z hz
      have na : z.1 ∉ borA vs (as.map (cellOf env)) := fun y => by
        rw [(mine _ y).1] at e
        cases e
      rcases p.ff _ (by rw [S.same _ _ e]; rfl) na with q | ⟨o', q, lx⟩
      · exact q.trans e
      · rw [S.same _ _ e] at q
        cases q
        cases lx
    · obtain ⟨⟨oc, e1⟩, e2⟩ := S.bs z hz
      exact ⟨q3 _ _ _ e1, e2⟩
  exact ⟨S', q4⟩
theorem SOk.call (S : SOk B K Z F H n σ env) {vs : List V} {as : List Arg} (ha : ArgsOk K F σ vs as) (nd : (borIx as).Nodup) (ho : allOwn env (borIx as)) {r : Cell} {os : List OC} {v : V} (hm : n ≤ m)
    (p : PostD K Z.T F H (borA vs (as.map (cellOf env))) m r os v H' F') : SOk B K Z F' H' m σ (DL.putB env (borIx as) os) ∧ Res B K F' H' m σ (DL.putB env (borIx as) os) v r := by
  obtain ⟨S0, q4⟩ := S.toCore.call ha nd ho hm p.toFrm
  refine ⟨⟨S0, S.lnk.mono p.ext hm⟩, ?_⟩
  have hr := p.res
  cases r with
  | un => exact ⟨trivial, rfl, (fun z => by cases z), fun z => by cases z⟩
  | d x => exact Res.dat hr
  | o b oc =>
    obtain ⟨rfl, a, rfl, h1, h2, h3⟩ := hr
    refine ⟨⟨a, rfl, h2, h3, (fun z => by cases z), fun _ => .inl (S.fresh0 h1)⟩, rfl, fun _ i ci ei ow si => ?_, fun _ a' e => by cases e; exact S.fresh0 h1⟩
    cases ci with
    | un => cases ow
    | d x => cases ow
    | o b2 c2 =>
      obtain ⟨c', e'⟩ := q4 i b2 c2 ei
      obtain ⟨a2, z1, _, z3, _⟩ := S.own e'
      rw [si] at z1
      cases z1
      obtain ⟨o, eo⟩ := OCOk.there z3
      rw [h1] at eo
      cases eo
theorem ArgsOk.nodup (S : Core B K Tz F H n σ env) : ∀ {vs : List V} {as : List Arg}, ArgsOk K F σ vs as → (borIx as).Nodup → allOwn env (borIx as) → (borA vs (as.map (cellOf env))).Nodup
  | _, _, .nil, _, _ => List.nodup_nil
  | _, _, .cons (v := v) (vs := vs) (a := a) (as := as) h t, nd, ho => by
    cases a with
    | d x =>
      have e : borA (v :: vs) (Cell.d x :: as.map (cellOf env)) = borA vs (as.map (cellOf env)) := by cases v <;> rfl
      rw [List.map_cons, cellOf, e]
      exact ArgsOk.nodup S t nd ho
    | b j =>
      obtain ⟨n1, n2⟩ := List.nodup_cons.mp nd
      obtain ⟨b, c, ec⟩ := allOwn_at ho j List.mem_cons_self
      obtain ⟨a, e1, _⟩ := S.own ec
      have hv : v = .ref a := by
        have h : σ[j]? = some (some v) := h
        rw [e1] at h
        cases h
        rfl
      subst hv
      have ecell : cellOf env (.b j) = .o true c := by simp only [cellOf, ec]
      rw [List.map_cons, ecell]
      refine List.nodup_cons.mpr ⟨fun z => ?_, ArgsOk.nodup S t n2 ho.2⟩
      obtain ⟨k, hk, b2, c2, ec2, ea2⟩ := (args_par S t ho.2).2.1 a z
      have := S.sep j k _ _ a ec ec2 rfl rfl e1 ea2
      exact n1 (this ▸ hk)
end
section
variable {X : Cx} {Z : ZX} {k : Nat} {f : Addr} {fd : FuncData} {ps : List Str} {con : Con} {cf ca : Nat} {x : Str} {p pos : Pos} {e : Expr} {es : List Expr} {g : DB}
theorem call_core (mc : ConMono con) {σ : L2.St} {H : Hp} {Q : VK} (ha : MonoC g) (h : tDc X.K Z (ca + cf) (dCall con Z.G g) σ H Q) : tDb X.K Z ca g σ H fun vs H1 => SpD X.K Z.T cf con vs H1 Q Z.E := by
  obtain ⟨B, F, n, env, hn, S, h⟩ := h
  refine ⟨B, F, n, env, by omega, S, ha _ _ _ (fun as e ⟨⟨nd, ho⟩, q⟩ vs H1 F1 S1 x1 hv => ?_) h⟩
  refine ⟨F1, n + ca, as.map (cellOf e), Z.M, ⟨by omega, Z.ml⟩, S1.same, S1.tb, (args_par S1.toCore hv ho).1, ArgsOk.nodup S1.toCore hv nd ho, mc _ _ _ _ _ (fun r os k v H2 F2 pd => ?_) (fun C fs os gx d m H2 F2 h1 h2 px => ?_) q⟩
  · obtain ⟨S2, r2⟩ := S1.call hv nd ho (Nat.le_add_right _ _) pd
    rw [Nat.add_assoc] at S2 r2
    exact k v H2 F2 S2 (x1.trans pd.ext) r2
  · obtain ⟨S2, _⟩ := S1.toCore.call hv nd ho h1 px.toFrm
    exact S1.lnk F2 H2 m σ _ C d fs S2 px.ext h1 h2 px.exc (S1.fresh0 px.new) gx
theorem mono_call {G : Addr → List (Str × DV) → List Cell → Prop} (mc : ConMono con) (ha : MonoC g) : MonoC (dCall con G g) := fun env Q Q' q h => ha _ _ _ (fun as e ⟨h1, h2⟩ => ⟨h1, mc _ _ _ _ _ (fun r o => q _ _) (fun _ _ _ z => z) h2⟩) h
/-- no error comes -/
theorem passF {P : Program} {w : World} {X : Cx} : Passes (L2.CX P w) X fun _ _ _ => False := fun _ _ _ _ _ _ _ h => by
  obtain ⟨_, _, _, _, _, _, _, _, _, _, _, _, z⟩ := h
  exact z.elim
/-- f(..) -/
theorem pcCall (mc : ConMono con) (G : FnOk X.prog X.w X.K X.mg X.base (L2.CX X.prog X.w) k f fd ps (SpD X.K Z.T cf con)) (hr : Room k X.A) (hx : Passes (L2.CX X.prog X.w) X Z.E) (hg : Gl X x) (hm : X.mg x = some (.ref f)) (hk : PySem.W.keepIn X.K (.ref f) = true) (hb : Binds X.K fd ps [])
    (ha : PBd X Z (e :: es) ca g) (hdb : (x == ("__debug__" : Str)) = false := by decide) (he : starEach (e :: es) X.env = (false, eval e X.env) :: starEach es X.env := by rfl) (hpl : (backTo pos (starEach es X.env)).any (·.1) = false := by rfl) :
    PEc X Z (.Call (.Name x p) (e :: es) [] pos) (ca + cf) (dCall con Z.G g) := by
  refine ⟨mono_call mc ha.mono, PE_imp (pe_call G hr hg hm hk hb .nil hx ha.run hdb he hpl) fun σ H Q h => ?_⟩
  have q := call_core mc ha.mono h
  show tDb X.K Z ca g σ H fun vs H1 => SpD X.K Z.T cf con (vs ++ []) H1 Q Z.E
  simpa only [List.append_nil] using q
end
end DL
set_option maxRecDepth 100000
set_option maxHeartbeats 4000000
namespace DL
open PySem PySem.Spec PyProof.Rows L2

/-! ### to be read: data, or an owned object -/
def View (K : PySem.W.Frag) (F H : Hp) (n : Nat) (v : V) (d : DV) : Prop := Hold K F v d ∨ ∃ a oc, v = .ref a ∧ OCOk K F H n a oc ∧ oc.frz = some d
section
variable {K : PySem.W.Frag} {F H : Hp} {n : Nat} {v : V} {B : Base} {σ : L2.St} {env : List Cell}
theorem View.lst (s : Same F H) {xs : List DV} (h : View K F H n v (.lst xs)) : ∃ a vs, v = .ref a ∧ H a = some (.lst vs) ∧ HoldAll K F vs xs := by
  rcases h with h | ⟨a, oc, rfl, h, e⟩
  · cases h with
    | lst ha hx => exact ⟨_, _, rfl, s _ _ ha, hx⟩
  · cases oc with
    | l ys => cases e; obtain ⟨vs, h1, h2⟩ := h; exact ⟨a, vs, rfl, h1, h2⟩
    | _ => cases e
theorem View.tup {xs : List DV} (h : View K F H n v (.tup xs)) : ∃ a vs, v = .ref a ∧ F a = some (.tup vs) ∧ HoldAll K F vs xs := by
  rcases h with h | ⟨a, oc, rfl, h, e⟩
  · cases h with
    | tup ha hx => exact ⟨_, _, rfl, ha, hx⟩
  · cases oc <;> cases e
theorem View.ktup {xs : List DV} (h : View K F H n v (.ktup xs)) : ∃ a vs, v = .ref a ∧ SqT K F a vs ∧ HoldAll K F vs xs := by
  rcases h with h | ⟨a, oc, rfl, h, e⟩
  · exact Hold.sqT (.inr h)
  · cases oc <;> cases e
theorem View.klst {xs : List DV} (h : View K F H n v (.klst xs)) : ∃ a vs, v = .ref a ∧ SqL K F a vs ∧ HoldAll K F vs xs := by
  rcases h with h | ⟨a, oc, rfl, h, e⟩
  · cases h with
    | klst ha hx => exact ⟨_, _, rfl, ha, hx⟩
  · cases oc <;> cases e
theorem View.dk (s : Same F H) {kvs : List (Key × DV)} (h : View K F H n v (.dk kvs)) : ∃ a us, v = .ref a ∧ Rd H a (.dK us) ∧ us.map (·.1) = kvs.map (·.1) ∧ HoldAll K F (us.map (·.2)) (kvs.map (·.2)) := by
  rcases h with h | ⟨a, oc, rfl, h, e⟩
  · cases h with
    | dk ha e hx => exact ⟨_, _, rfl, (Ext.of s).rd ha, e, hx⟩
  · cases oc with
    | k ys => cases e; obtain ⟨vs, h1, h2, h3⟩ := h; exact ⟨a, vs, rfl, .inl h1, h2, h3⟩
    | _ => cases e
theorem View.dt (s : Same F H) {kvs : List (List Key × DV)} (h : View K F H n v (.dt kvs)) : ∃ a us, v = .ref a ∧ Rd H a (.dT us) ∧ us.map (·.1) = kvs.map (·.1) ∧ HoldAll K F (us.map (·.2)) (kvs.map (·.2)) := by
  rcases h with h | ⟨a, oc, rfl, h, e⟩
  · cases h with
    | dt ha e hx => exact ⟨_, _, rfl, (Ext.of s).rd ha, e, hx⟩
  · cases oc with
    | t ys => cases e; obtain ⟨vs, h1, h2, h3⟩ := h; exact ⟨a, vs, rfl, .inl h1, h2, h3⟩
    | _ => cases e
theorem View.ins (s : Same F H) {C : Addr} {fs : List (Str × DV)} (h : View K F H n v (.ins C fs)) : ∃ a dx us, v = .ref a ∧ H a = some (.ins C dx us) ∧ us.map (·.1) = fs.map (·.1) ∧ HoldAll K F (us.map (·.2)) (fs.map (·.2)) := by
  rcases h with h | ⟨a, oc, rfl, h, e⟩
  · cases h with
    | ins ha e hx => exact ⟨_, _, _, rfl, s _ _ ha, e, hx⟩
  · cases oc with
    | ins C ys => cases e; obtain ⟨dx, vs, h1, h2, h3⟩ := h; exact ⟨a, dx, vs, rfl, h1, h2, h3⟩
    | _ => cases e
theorem View.atom {d : DV} (h : View K F H n v d) (hd : ∀ oc : OC, oc.frz ≠ some d) : Hold K F v d := by
  rcases h with h | ⟨a, oc, _, _, e⟩
  · exact h
  · exact absurd e (hd oc)
theorem View.int {i : Int} (h : View K F H n v (.int i)) : v = .int i := by
  have := h.atom fun oc e => by cases oc <;> cases e
  cases this; rfl
theorem View.str {x : Str} (h : View K F H n v (.str x)) : v = .str x := by
  have := h.atom fun oc e => by cases oc <;> cases e
  cases this; rfl
/-- a slot's view -/
theorem SOk.view (S : SOk B K Z F H n σ env) {j : Nat} {c : Cell} {d : DV} (e : env[j]? = some c) (hv : c.view = some d) : ∃ v, σ[j]? = some (some v) ∧ View K F H n v d := by
  cases c with
  | un => cases hv
  | d x =>
    cases hv
    obtain ⟨v, e1, h⟩ := S.dat e
    exact ⟨v, e1, .inl h⟩
  | o b oc =>
    obtain ⟨a, e1, _, h2, _⟩ := S.own e
    exact ⟨_, e1, .inr ⟨a, oc, rfl, h2, hv⟩⟩
end

/-! ### dicts by data -/
section
variable {κ : Type} [DecidableEq κ]
def valD (kvs : List (κ × DV)) (k : κ) : Option DV := (kvs.find? fun kv => decide (kv.1 = k)).map (·.2)
def putD (kvs : List (κ × DV)) (k : κ) (v : DV) : List (κ × DV) := if (kvs.any fun kv => decide (kv.1 = k)) = true then kvs.map (fun kv => if kv.1 = k then (kv.1, v) else kv) else kvs ++ [(k, v)]
theorem putK_def (kvs : List (κ × V)) (k : κ) (v : V) : putK kvs k v = if (kvs.any fun kv => decide (kv.1 = k)) = true then kvs.map (fun kv => if kv.1 = k then (kv.1, v) else kv) else kvs ++ [(k, v)] := rfl
end
def HKV {κ : Type} (K : PySem.W.Frag) (F : Hp) (us : List (κ × V)) (kvs : List (κ × DV)) : Prop := us.map (·.1) = kvs.map (·.1) ∧ HoldAll K F (us.map (·.2)) (kvs.map (·.2))
section
variable {κ : Type} {K : PySem.W.Frag} {F : Hp}
theorem HKV.nil : HKV K F ([] : List (κ × V)) ([] : List (κ × DV)) := ⟨rfl, .nil⟩
theorem HKV.cons {k : κ} {v : V} {d : DV} {us : List (κ × V)} {kvs : List (κ × DV)} (h : Hold K F v d) (t : HKV K F us kvs) : HKV K F ((k, v) :: us) ((k, d) :: kvs) := ⟨by simp [t.1], .cons h t.2⟩
theorem HKV.inv {us : List (κ × V)} {kvs : List (κ × DV)} (h : HKV K F us kvs) : (us = [] ∧ kvs = []) ∨ ∃ k v d us' kvs', us = (k, v) :: us' ∧ kvs = (k, d) :: kvs' ∧ Hold K F v d ∧ HKV K F us' kvs' := by
  obtain ⟨h1, h2⟩ := h
  cases us with
  | nil =>
    cases kvs with
    | nil => exact .inl ⟨rfl, rfl⟩
    | cons p r => simp at h1
  | cons p r =>
    cases kvs with
    | nil => simp at h1
    | cons q r' =>
      obtain ⟨k, v⟩ := p
      obtain ⟨k', d⟩ := q
      simp only [List.map_cons, List.cons.injEq] at h1
      obtain ⟨e, h1⟩ := h1
      have e : k = k' := e
      subst e
      cases h2 with
      | cons a t => exact .inr ⟨k, v, d, r, r', rfl, rfl, a, h1, t⟩
theorem HKV.append {us us' : List (κ × V)} {kvs kvs' : List (κ × DV)} (h : HKV K F us kvs) (h' : HKV K F us' kvs') : HKV K F (us ++ us') (kvs ++ kvs') := ⟨by rw [List.map_append, List.map_append, h.1, h'.1], by rw [List.map_append, List.map_append]; exact h.2.append h'.2⟩
theorem HKV.length {us : List (κ × V)} {kvs : List (κ × DV)} (h : HKV K F us kvs) : us.length = kvs.length := by
  have := congrArg List.length h.1
  simpa using this
variable [DecidableEq κ]
theorem HKV.val : ∀ {us : List (κ × V)} {kvs : List (κ × DV)}, HKV K F us kvs → ∀ k, (∀ v, valV us k = some v → ∃ d, valD kvs k = some d ∧ Hold K F v d) ∧ (∀ d, valD kvs k = some d → ∃ v, valV us k = some v ∧ Hold K F v d) ∧ (valV us k = none ↔ valD kvs k = none)
  | [], kvs, h, k => by
    rcases h.inv with ⟨_, rfl⟩ | ⟨_, _, _, _, _, e, _⟩
    · refine ⟨fun v e => ?_, fun d e => ?_, ?_⟩
      · cases e
      · cases e
      · simp [valV, valD]
    · cases e
  | p :: us, kvs, h, k => by
    rcases h.inv with ⟨e, _⟩ | ⟨k0, v0, d0, us', kvs', e, rfl, a, t⟩
    · cases e
    · cases e
      obtain ⟨i1, i2, i3⟩ := HKV.val t k
      by_cases hk : k0 = k
      · subst hk
        have e1 : valV ((k0, v0) :: us) k0 = some v0 := valV_pos rfl
        have e2 : valD ((k0, d0) :: kvs') k0 = some d0 := by simp [valD, List.find?_cons]
        rw [e1, e2]
        exact ⟨fun v e => by cases e; exact ⟨_, rfl, a⟩, fun d e => by cases e; exact ⟨_, rfl, a⟩, by simp⟩
      · have e1 : valV ((k0, v0) :: us) k = valV us k := valV_neg hk
        have e2 : valD ((k0, d0) :: kvs') k = valD kvs' k := by simp [valD, List.find?_cons, hk]
        rw [e1, e2]
        exact ⟨i1, i2, i3⟩
theorem HKV.any {us : List (κ × V)} {kvs : List (κ × DV)} (h : HKV K F us kvs) (k : κ) : (us.any fun kv => decide (kv.1 = k)) = kvs.any fun kv => decide (kv.1 = k) := by
  have e1 : (us.any fun kv => decide (kv.1 = k)) = (us.map (·.1)).any fun x => decide (x = k) := by rw [List.any_map]; rfl
  have e2 : (kvs.any fun kv => decide (kv.1 = k)) = (kvs.map (·.1)).any fun x => decide (x = k) := by rw [List.any_map]; rfl
  rw [e1, e2, h.1]
theorem HKV.repl {k : κ} {v : V} {d : DV} (hd : Hold K F v d) : ∀ {us : List (κ × V)} {kvs : List (κ × DV)}, HKV K F us kvs → HKV K F (us.map fun kv => if kv.1 = k then (kv.1, v) else kv) (kvs.map fun kv => if kv.1 = k then (kv.1, d) else kv)
  | [], kvs, h => by
    rcases h.inv with ⟨_, rfl⟩ | ⟨_, _, _, _, _, e, _⟩
    · exact .nil
    · cases e
  | p :: us, kvs, h => by
    rcases h.inv with ⟨e, _⟩ | ⟨k0, v0, d0, us', kvs', e, rfl, a, t⟩
    · cases e
    · cases e
      rw [List.map_cons, List.map_cons]
      by_cases hk : k0 = k
      · subst hk
        rw [if_pos rfl, if_pos rfl]
        exact .cons hd (HKV.repl hd t)
      · rw [if_neg hk, if_neg hk]
        exact .cons a (HKV.repl hd t)
theorem HKV.put {us : List (κ × V)} {kvs : List (κ × DV)} (h : HKV K F us kvs) (k : κ) {v : V} {d : DV} (hd : Hold K F v d) : HKV K F (putK us k v) (putD kvs k d) := by
  rw [putK_def]
  unfold putD
  rw [h.any k]
  split
  · exact h.repl hd
  · exact h.append (.cons hd .nil)
end
/-- a key -/
def DV.key : DV → Option Key
  | .int i => some (.inl i)
  | .str x => some (.inr x)
  | _ => none
def keys? : List DV → Option (List Key)
  | [] => some []
  | d :: ds => match d.key, keys? ds with
    | some k, some ks => some (k :: ks)
    | _, _ => none
def DV.tkey : DV → Option (List Key)
  | .tup xs => keys? xs
  | _ => none
section
variable {K : PySem.W.Frag} {F H : Hp} {v : V}
theorem Hold.key {d : DV} {k : Key} (h : Hold K F v d) (e : d.key = some k) : v = kV k := by
  cases h <;> first | (cases e; rfl) | cases e
theorem keys_of : ∀ {vs : List V} {ds : List DV} {ks : List Key}, HoldAll K F vs ds → keys? ds = some ks → vs = ks.map kV
  | _, _, _, .nil, e => by cases e; rfl
  | _, _, _, .cons (d := d) (ds := ds) h t, e => by
    unfold keys? at e
    split at e
    · rename_i k ks e1 e2
      cases e
      rw [h.key e1, keys_of t e2]
      rfl
    · cases e
theorem Hold.tkey {d : DV} {ks : List Key} (h : Hold K F v d) (e : d.tkey = some ks) : ∃ b, v = .ref b ∧ F b = some (.tup (ks.map kV)) := by
  cases h with
  | tup ha hx =>
    refine ⟨_, rfl, ?_⟩
    rw [← keys_of hx e]
    exact ha
  | _ => cases e
end
/-- what a dict holds at a key -/
def lookD : DV → DV → Option (Option DV)
  | .dk kvs, y => y.key.map fun k => valD kvs k
  | .dt kvs, y => y.tkey.map fun k => valD kvs k
  | _, _ => none
theorem lookD_ok {K : PySem.W.Frag} {F H : Hp} {n : Nat} {v u : V} {x y : DV} {r : Option DV} (s : Same F H) (h : View K F H n v x) (hy : Hold K F u y) (e : lookD x y = some r) :
    ∃ a o, v = .ref a ∧ DGet H a u o ∧ (∀ w, o = some w → ∃ d, r = some d ∧ Hold K F w d) ∧ (∀ d, r = some d → ∃ w, o = some w ∧ Hold K F w d) ∧ o.isSome = r.isSome := by
  have fin : ∀ {o : Option V} {r : Option DV}, (∀ w, o = some w → ∃ d, r = some d ∧ Hold K F w d) → (o = none ↔ r = none) → o.isSome = r.isSome := fun {o r} h1 h2 => by
    cases o with
    | none => rw [h2.mp rfl]; rfl
    | some w => obtain ⟨d, e, _⟩ := h1 w rfl; rw [e]; rfl
  cases x with
  | dk kvs =>
    obtain ⟨a, us, rfl, h1, h2, h3⟩ := h.dk s
    obtain ⟨k, ek, e2⟩ := Option.map_eq_some_iff.mp e
    subst e2
    obtain ⟨i1, i2, i3⟩ := HKV.val (K := K) (F := F) (us := us) (kvs := kvs) ⟨h2, h3⟩ k
    exact ⟨a, valV us k, rfl, .inl ⟨us, k, h1, hy.key ek, rfl⟩, i1, i2, fin i1 i3⟩
  | dt kvs =>
    obtain ⟨a, us, rfl, h1, h2, h3⟩ := h.dt s
    obtain ⟨k, ek, e2⟩ := Option.map_eq_some_iff.mp e
    subst e2
    obtain ⟨b, rfl, hb⟩ := hy.tkey ek
    obtain ⟨i1, i2, i3⟩ := HKV.val (K := K) (F := F) (us := us) (kvs := kvs) ⟨h2, h3⟩ k
    exact ⟨a, valV us k, rfl, .inr ⟨us, k, b, h1, rfl, s _ _ hb, rfl⟩, i1, i2, fin i1 i3⟩
  | _ => cases e

/-! ### x[i] -/
def optP {α : Type} (o : Option α) (Q : α → Prop) : Prop := match o with
  | some d => Q d
  | none => False
theorem optP_mono {α : Type} {o : Option α} {Q Q' : α → Prop} (q : ∀ d, Q d → Q' d) (h : optP o Q) : optP o Q' := by
  cases o with
  | none => exact h
  | some d => exact q _ h
theorem optP_some {α : Type} {o : Option α} {Q : α → Prop} (h : optP o Q) : ∃ d, o = some d ∧ Q d := by
  cases o with
  | none => exact h.elim
  | some d => exact ⟨d, rfl, h⟩
def ixD : DV → DV → Option DV
  | .lst xs, .int i => atI xs i
  | .tup xs, .int i => atI xs i
  | .ktup xs, .int i => atI xs i
  | .str z, .int i => if z.length ≤ LINE then (atI z.cps.toList i).map fun c => .str ⟨#[c]⟩ else none
  | .dk kvs, y => (lookD (.dk kvs) y).bind id
  | .dt kvs, y => (lookD (.dt kvs) y).bind id
  | _, _ => none
def rIxAll (K : PySem.W.Frag) : R2 := fun x y H Q => rIx K x y H Q ∨ ∃ a v, x = .ref a ∧ DGet H a y (some v) ∧ Q v H
theorem ix_dict {X : Cx} (hu : X.A.units + 1 < cLine) : IxR X (fun x y H Q => ∃ a v, x = .ref a ∧ DGet H a y (some v) ∧ Q v H) := fun {value slice pins s σ H x y v u Q} I rx ry ⟨a, z, ex, g, q⟩ hs => by
  subst ex
  cases rx
  have T := dict_typeIs I g
  have got := d_getItem (E := X.xe) hu I g ry fun w' s3 J r => (⟨z, H, J, r, q⟩ : EP X pins σ Q w' s3)
  have item : wpAny (model X.prog X.w) X.A (subscripted slice false (.ref a) u) (fun r s₃ => wpAny (model X.prog X.w) X.A (letTemporaryGo value (.ref a) r >>= fun _ => pure r) (EP X pins σ Q) X.xe s₃) X.xe s := by
    rw [hs]
    refine wpAny_operating (wpAny_mono got (fun r s3 z => ?_) fun _ _ z => z)
    exact wpAny_bind (wpAny_letTemporaryGo (wpAny_pure z))
  unfold subscriptTail
  refine wpAny_bind ?_
  rw [getitemInPython_of_ne T.not_modules]
  refine wpAny_bind (wpAny_specialOf T PySem.F.slot_dict_getitem.lookup ?_)
  first
    | exact wpAny_bind item
    | exact wpAny_pure (wpAny_bind item)
    | exact wpAny_bind (wpAny_pure (wpAny_bind item))
theorem ix_all {X : Cx} (hu : X.A.units + 1 < cLine) : IxR X (rIxAll X.K) := ix_seq.or (ix_dict hu)
theorem atI_hold {K : PySem.W.Frag} {F : Hp} {vs : List V} {xs : List DV} (h : HoldAll K F vs xs) {i : Int} {d : DV} (e : atI xs i = some d) : ∃ v, atI vs i = some v ∧ Hold K F v d := by
  unfold atI at e ⊢
  rw [h.length]
  cases q : ixN xs.length i with
  | none => rw [q] at e; cases e
  | some j =>
    rw [q] at e
    obtain ⟨v, e1, h1⟩ := h.of_get (i := j) e
    exact ⟨v, e1, h1⟩
theorem ixD_ok {K : PySem.W.Frag} {F H : Hp} {n : Nat} {v u : V} {x y d : DV} (s : Same F H) (h : View K F H n v x) (hy : Hold K F u y) {R : VK} (e : ixD x y = some d) (k : ∀ w, Hold K F w d → R w H) : rIxAll K v u H R := by
  have dict : lookD x y = some (some d) → rIxAll K v u H R := fun g => by
    obtain ⟨a, o, rfl, g1, _, g3, _⟩ := lookD_ok s h hy g
    obtain ⟨w, rfl, hw⟩ := g3 d rfl
    exact .inr ⟨a, w, rfl, g1, k _ hw⟩
  cases x with
  | lst xs =>
    obtain ⟨a, vs, rfl, h1, h2⟩ := h.lst s
    cases y with
    | int i =>
      cases hy
      obtain ⟨w, e1, hw⟩ := atI_hold h2 e
      exact .inl (.inl ⟨a, vs, i, w, rfl, rfl, SqL.of h1, e1, k _ hw⟩)
    | _ => cases e
  | tup xs =>
    obtain ⟨a, vs, rfl, h1, h2⟩ := h.tup
    cases y with
    | int i =>
      cases hy
      obtain ⟨w, e1, hw⟩ := atI_hold h2 e
      exact .inl (.inr (.inl ⟨a, vs, i, w, rfl, rfl, SqT.of (s _ _ h1), e1, k _ hw⟩))
    | _ => cases e
  | ktup xs =>
    obtain ⟨a, vs, rfl, h1, h2⟩ := h.ktup
    cases y with
    | int i =>
      cases hy
      obtain ⟨w, e1, hw⟩ := atI_hold h2 e
      exact .inl (.inr (.inl ⟨a, vs, i, w, rfl, rfl, sqT_mono (Ext.of s) h1, e1, k _ hw⟩))
    | _ => cases e
  | str z =>
    have e0 := h.str
    subst e0
    cases y with
    | int i =>
      cases hy
      have e : (if z.length ≤ LINE then (atI z.cps.toList i).map fun c => DV.str ⟨#[c]⟩ else none) = some d := e
      by_cases hz : z.length ≤ LINE
      · rw [if_pos hz] at e
        obtain ⟨c, e1, e2⟩ := Option.map_eq_some_iff.mp e
        subst e2
        exact .inl (.inr (.inr ⟨z, i, c, rfl, rfl, by rw [line_eq]; exact hz, e1, k _ (.str _)⟩))
      · rw [if_neg hz] at e
        cases e
    | _ => cases e
  | dk kvs =>
    obtain ⟨o, e1, e2⟩ := Option.bind_eq_some_iff.mp (show (lookD (.dk kvs) y).bind id = some d by cases y <;> exact e)
    have e2 : o = some d := e2
    subst e2
    exact dict e1
  | dt kvs =>
    obtain ⟨o, e1, e2⟩ := Option.bind_eq_some_iff.mp (show (lookD (.dt kvs) y).bind id = some d by cases y <;> exact e)
    have e2 : o = some d := e2
    subst e2
    exact dict e1
  | _ => cases y <;> cases e
def dIx (fa fb : DD) : DD := fun env Q => fa env fun x e1 => fb e1 fun y e2 => optP (ixD x y) fun d => Q d e2
/-- a name's items: the name's slot is read where the index is known -/
def dIxN (j : Nat) (fb : DD) : DD := fun env Q => (match env[j]? with
  | some (.d _) => True
  | some (.o _ _) => True
  | _ => False) ∧ fb env fun y e2 => optP ((e2[j]?).bind Cell.view) fun x => optP (ixD x y) fun d => Q d e2
theorem bind_view {e : List Cell} {j : Nat} {x : DV} (h : (e[j]?).bind Cell.view = some x) : ∃ c, e[j]? = some c ∧ c.view = some x := by
  cases q : e[j]? with
  | none => rw [q] at h; cases h
  | some c => rw [q] at h; exact ⟨c, rfl, h⟩
section
variable {X : Cx} {Z : ZX} {a b : Expr} {ca cb : Nat} {fa fb : DD} {pos : Pos}
theorem pdIx (hu : X.A.units + 1 < cLine) (ha : PEd X Z a ca fa) (hb : PEd X Z b cb fb) (hs : PlainIx b) : PEd X Z (.Subscript a b pos) (ca + cb) (dIx fa fb) := by
  refine ⟨fun env Q Q' q h => ha.mono _ _ _ (fun x e1 h1 => hb.mono _ _ _ (fun y e2 h2 => optP_mono (fun d => q _ _) h2) h1) h, PE_imp (pe_ix (ix_all hu) ha.run hb.run hs) fun σ H Q ⟨B, F, n, env, hn, S, h⟩ => ?_⟩
  refine bindD ha.mono (by omega) S h fun x e1 v H1 F1 h1 S1 x1 hv => bindD hb.mono (by omega) S1 h1 fun y e2 u H2 F2 h2 S2 x2 hu2 => ?_
  rw [Nat.add_assoc] at S2
  obtain ⟨d, e, q⟩ := optP_some h2
  exact ixD_ok (n := n) S2.same (.inl (hv.mono x2)) hu2 e fun w hw => q w H2 F2 S2 (x1.trans x2) hw
theorem pdIxN (j : Nat) {x : Str} {p : Pos} (hu : X.A.units + 1 < cLine) (hb : PEd X Z b cb fb) (hs : PlainIx b) (hN : X.N[j]? = some x := by rfl) (hv : Vis X.env.scope x := by first | exact Or.inl rfl | exact Or.inr (Or.inl rfl) | exact Or.inr (Or.inr rfl)) (hd : (x == ("__debug__" : Str)) = false := by decide)
    (hcd : (x == ("__classdict__" : Str)) = false := by decide) : PEd X Z (.Subscript (.Name x p) b pos) cb (dIxN j fb) := by
  refine ⟨fun env Q Q' q h => ⟨h.1, hb.mono _ _ _ (fun y e2 h2 => optP_mono (fun x => optP_mono fun d => q _ _) h2) h.2⟩, PE_imp (pe_ix (ix_all hu) (pe_var hN hv hd hcd) hb.run hs) fun σ H Q ⟨B, F, n, env, hn, S, h0, h⟩ => ?_⟩
  · have hv0 : ∃ v, σ[j]? = some (some v) := by
      split at h0
      · rename_i z e
        obtain ⟨v, e1, _⟩ := S.dat e
        exact ⟨v, e1⟩
      · rename_i z w e
        obtain ⟨a, e1, _⟩ := S.own e
        exact ⟨_, e1⟩
      · exact h0.elim
    obtain ⟨v, ev⟩ := hv0
    refine ⟨v, ev, bindD hb.mono hn S h fun y e2 u H2 F2 h2 S2 x2 hu2 => ?_⟩
    obtain ⟨x, e, h2⟩ := optP_some h2
    obtain ⟨d, ed, q⟩ := optP_some h2
    obtain ⟨c, ec, hc⟩ := bind_view e
    obtain ⟨v', e1, vw⟩ := S2.view ec hc
    rw [ev] at e1
    cases e1
    exact ixD_ok S2.same vw hu2 ed fun w hw => q w H2 F2 S2 x2 hw
end
end DL
set_option maxRecDepth 100000
set_option maxHeartbeats 4000000
namespace DL
open PySem PySem.Spec PyProof.Rows L2

/-! ### zip, enumerate over lists and tuples in any mix -/
/-- the object at a is a list (b), or a tuple -/
def SqB (b : Bool) (K : PySem.W.Frag) (H : Hp) (a : Addr) (xs : List V) : Prop := if b = true then SqL K H a xs else SqT K H a xs
/-! ### by data -/
def zipT (xs ys : List DV) : List DV := (xs.zip ys).map fun p => .tup [p.1, p.2]
def enumT (k : Nat) : List DV → List DV
  | [] => []
  | x :: xs => .tup [.int (k : Nat), x] :: enumT (k + 1) xs
theorem enumT_len (xs : List DV) : ∀ k, (enumT k xs).length = xs.length := by
  induction xs with
  | nil => intro k; rfl
  | cons x xs ih => intro k; simp [enumT, ih]
theorem enumT_get (xs : List DV) : ∀ (k i : Nat), (enumT k xs)[i]? = (xs[i]?).map fun x => DV.tup [.int ((k + i : Nat) : Int), x] := by
  induction xs with
  | nil => intro k i; simp [enumT]
  | cons x xs ih =>
    intro k i
    cases i with
    | zero => simp [enumT]
    | succ i =>
      simp only [enumT, List.getElem?_cons_succ, ih]
      rw [show k + 1 + i = k + (i + 1) by omega]
def SqD (K : PySem.W.Frag) (F : Hp) (b : Bool) (a : Addr) (vs : List V) : Prop := SqB b K F a vs
theorem sqB_mono {K : PySem.W.Frag} {F F' : Hp} (x : Ext F F') {b : Bool} {a : Addr} {vs : List V} (h : SqB b K F a vs) : SqB b K F' a vs := by
  cases b
  · exact sqT_mono x h
  · exact sqL_mono x h
theorem items_of {K : PySem.W.Frag} {F : Hp} {v : V} {d : DV} {xs : List DV} (h : Hold K F v d) (e : dItems d = some xs) : ∃ b a vs, v = .ref a ∧ SqB b K F a vs ∧ HoldAll K F vs xs := by
  cases h with
  | lst ha hx => cases e; exact ⟨true, _, _, rfl, SqL.of ha, hx⟩
  | klst ha hx => cases e; exact ⟨true, _, _, rfl, ha, hx⟩
  | tup ha hx => cases e; exact ⟨false, _, _, rfl, SqT.of ha, hx⟩
  | ktup z1 z2 z3 z4 z5 hx => cases e; exact ⟨false, _, _, rfl, .inr ⟨_, _, _, z1, z2, z3, z4, z5⟩, hx⟩
  | _ => cases e
section
variable {K : PySem.W.Frag} {F : Hp}
theorem sqB_len {H : Hp} (L : LenOk K H) {b : Bool} {a : Addr} {vs : List V} (h : SqB b K H a vs) : vs.length ≤ LINE := by
  cases b
  · exact L.seq _ _ (.inr h)
  · exact L.seq _ _ (.inl h)
def iZipD (fa fb : DD) : DI := fun env Q => fa env fun x e1 => fb e1 fun y e2 => optP (dItems x) fun xs => optP (dItems y) fun ys => Q (zipT xs ys) e2
def iEnumD (fa : DD) : DI := fun env Q => fa env fun x e1 => optP (dItems x) fun xs => Q (enumT 0 xs) e1
end
end DL
set_option maxRecDepth 100000
set_option maxHeartbeats 4000000
namespace DL
open PySem PySem.Spec PyProof.Rows L2

/-! ### expressions whose value is read at once -/
def tDv (K : PySem.W.Frag) (Z : ZX) (c : Nat) (f : DD) : TE := fun σ H Q => ∃ B F n env, n + c ≤ Z.M ∧ SOk B K Z F H n σ env ∧ f env fun r env' => ∀ v H' F', SOk B K Z F' H' (n + c) σ env' → Ext F F' → View K F' H' (n + c) v r → Q v H'
structure PVd (X : Cx) (Z : ZX) (e : Expr) (c : Nat) (f : DD) : Prop where
  mono : MonoC f
  run : PE X e (tDv X.K Z c f)
section
variable {K : PySem.W.Frag} {Z : ZX} {c : Nat} {B : Base} {F H : Hp} {n : Nat} {σ : L2.St} {env : List Cell}
theorem bindV {f : DD} {G : DV → List Cell → Prop} {R : VK} (m : MonoC f) (hn : n + c ≤ Z.M) (S : SOk B K Z F H n σ env) (h : f env G)
    (k : ∀ d env' v H' F', G d env' → SOk B K Z F' H' (n + c) σ env' → Ext F F' → View K F' H' (n + c) v d → R v H') : tDv K Z c f σ H R :=
  ⟨B, F, n, env, hn, S, m _ _ _ (fun d e g v H' F' S' x hh => k d e v H' F' g S' x hh) h⟩
end
def dVw (f : DE) : DD := fun env Q => f env fun r e => optP r.view fun d => Q d e
def dPeek (j : Nat) : DD := fun env Q => optP ((env[j]?).bind Cell.view) fun d => Q d env
section
variable {X : Cx} {Z : ZX} {e : Expr} {c : Nat}
theorem PEd.vw {f : DD} (h : PEd X Z e c f) : PVd X Z e c f := ⟨h.mono, PE_imp h.run fun σ H Q ⟨B, F, n, env, hn, S, g⟩ => bindD h.mono hn S g fun d env' v H' F' q S' x hh => q v H' F' S' x (.inl hh)⟩
theorem PEc.vw {f : DE} (h : PEc X Z e c f) : PVd X Z e c (dVw f) := by
  refine ⟨fun env Q Q' q => h.mono _ _ _ fun r e => optP_mono fun d => q _ _, PE_imp h.run fun σ H Q ⟨B, F, n, env, hn, S, g⟩ => bindC h.mono hn S g fun r env' v H' F' q S' x hh => ?_⟩
  obtain ⟨d, ed, q⟩ := optP_some q
  refine q v H' F' S' x ?_
  cases r with
  | un => cases ed
  | d y =>
    cases ed
    obtain ⟨v', e', h⟩ := hh.1
    cases e'
    exact .inl h
  | o b oc =>
    obtain ⟨a, e', h1, h2, _⟩ := hh.1
    cases e'
    exact .inr ⟨a, oc, rfl, h2, ed⟩
theorem pvName (j : Nat) {x : Str} {pos : Pos} (hN : X.N[j]? = some x := by rfl) (hv : Vis X.env.scope x := by first | exact Or.inl rfl | exact Or.inr (Or.inl rfl) | exact Or.inr (Or.inr rfl)) (hd : (x == ("__debug__" : Str)) = false := by decide)
    (hcd : (x == ("__classdict__" : Str)) = false := by decide) : PVd X Z (.Name x pos) 0 (dPeek j) := by
  refine ⟨fun env Q Q' q g => optP_mono (fun d => q _ _) g, PE_imp (pe_var hN hv hd hcd) fun σ H Q ⟨B, F, n, env, hn, S, g⟩ => ?_⟩
  obtain ⟨d, ed, g⟩ := optP_some g
  obtain ⟨c, ec, hc⟩ := bind_view ed
  obtain ⟨v, e1, vw⟩ := S.view ec hc
  exact ⟨v, e1, g v H F S (Ext.refl _) vw⟩
end

/-! ### built-ins of one argument -/
def Op1 (K : PySem.W.Frag) (r : List V → Hp → VK → Prop) (g : DV → (Cell → Prop) → Prop) : Prop :=
  (∀ x Q Q', (∀ c, Q c → Q' c) → g x Q → g x Q') ∧ ∀ B Z F H n σ env v x Q, SOk B K Z F H n σ env → View K F H n v x →
    g x (fun c => ∀ w H' F', SOk B K Z F' H' n σ env → Ext F F' → Res B K F' H' n σ env w c → Q w H') → r [v] H Q
def dOp1 (g : DV → (Cell → Prop) → Prop) (f : DD) : DE := fun env Q => f env fun x e => g x fun c => Q c e
theorem callR_or {X : Cx} {f : Value} {r1 r2 : List V → Hp → VK → Prop} (h1 : CallR X f r1) (h2 : CallR X f r2) : CallR X f (fun xs H Q => r1 xs H Q ∨ r2 xs H Q) := by
  intro pins s σ H xs us Q I r h
  rcases h with h | h
  · exact h1 pins s σ H xs us Q I r h
  · exact h2 pins s σ H xs us Q I r h
section
variable {X : Cx} {Z : ZX} {x : Str} {a : Expr} {ca : Nat} {f : DD} {r : List V → Hp → VK → Prop} {g : DV → (Cell → Prop) → Prop} {p pos : Pos}
theorem op1_run (hr : Op1 X.K r g) (ha : PVd X Z a ca f) {σ : L2.St} {H : Hp} {Q : VK} (h : tDc X.K Z ca (dOp1 g f) σ H Q) : tDv X.K Z ca f σ H fun v H1 => r [v] H1 Q := by
  obtain ⟨B, F, n, env, hn, S, h⟩ := h
  refine bindV ha.mono hn S h fun d e v H1 F1 h1 S1 x1 hv => ?_
  exact hr.2 B Z F1 H1 (n + ca) σ e v d Q S1 hv (hr.1 _ _ _ (fun c k w H' F' S' x' rr => k w H' F' S' (x1.trans x') rr) h1)
theorem mono_op1 (hr : Op1 X.K r g) (ha : MonoC f) : MonoC (dOp1 g f) := fun env Q Q' q h => ha _ _ _ (fun d e h1 => hr.1 _ _ _ (fun c => q _ _) h1) h
theorem PEc.b1 {id : String} (hr : Op1 X.K r g) (hc : CallR X (.builtin id) r) (hv : bootBuiltins x = some (.builtin id)) (ha : PVd X Z a ca f) (hg : Gl X x) (hm : X.mg x = none) (hn : x ≠ "__name__" := by decide) (hdb : (x == ("__debug__" : Str)) = false := by decide)
    (hs : starEach [a] X.env = (false, eval a X.env) :: starEach [] X.env := by rfl) : PEc X Z (.Call (.Name x p) [a] [] pos) ca (dOp1 g f) :=
  ⟨mono_op1 hr ha.mono, PE_imp (pe_callB hc hg hm hv (pa_cons ha.run pa_nil hs) hn hdb hs) fun σ H Q h => op1_run hr ha h⟩
theorem PEc.b1T {id : String} (hr : Op1 X.K r g) (hc : CallR X (.type id) r) (hv : bootBuiltins x = some (.type id)) (ha : PVd X Z a ca f) (hg : Gl X x) (hm : X.mg x = none) (hn : x ≠ "__name__" := by decide) (hdb : (x == ("__debug__" : Str)) = false := by decide)
    (hs : starEach [a] X.env = (false, eval a X.env) :: starEach [] X.env := by rfl) : PEc X Z (.Call (.Name x p) [a] [] pos) ca (dOp1 g f) :=
  ⟨mono_op1 hr ha.mono, PE_imp (pe_callTy hc hg hm hv (pa_cons ha.run pa_nil hs) hn hdb hs) fun σ H Q h => op1_run hr ha h⟩
end

/-! ### len -/
def lenD : DV → Option Nat
  | .lst xs => some xs.length
  | .klst xs => some xs.length
  | .tup xs => some xs.length
  | .ktup xs => some xs.length
  | .str z => if z.length ≤ sizeLine then some z.length else none
  | .dk kvs => some kvs.length
  | .dt kvs => some kvs.length
  | _ => none
def gLen : DV → (Cell → Prop) → Prop := fun x Q => optP (lenD x) fun k => Q (.d (.int (k : Nat)))
def rLenA (K : PySem.W.Frag) : List V → Hp → VK → Prop := fun xs H Q => (∃ x n, xs = [x] ∧ LenV K x H n ∧ Q (.int (n : Nat)) H) ∨ (∃ a kvs, xs = [V.ref a] ∧ Rd H a (.dK kvs) ∧ Q (.int (kvs.length : Nat)) H) ∨ (∃ a kvs, xs = [V.ref a] ∧ Rd H a (.dT kvs) ∧ Q (.int (kvs.length : Nat)) H)
theorem call_lenA {X : Cx} : CallR X (.builtin "len") (rLenA X.K) :=
  callR_or call_len (callR_or
    (fun pins s σ H vs us Q I rel ⟨a, kvs, e, at_, q⟩ => by
      subst e
      obtain ⟨_, rfl, ru⟩ := vals1 rel
      cases ru
      exact d_len I at_ fun t s' J => ⟨.int (kvs.length : Nat), H, J, ⟨t, rfl⟩, q⟩)
    (fun pins s σ H vs us Q I rel ⟨a, kvs, e, at_, q⟩ => by
      subst e
      obtain ⟨_, rfl, ru⟩ := vals1 rel
      cases ru
      obtain ⟨few, hd, ys, two, dd⟩ := dt_rd I.hok at_
      have same := Paired.length two
      have z := sizeLine_eq
      refine call_len_dictH hd dd (by omega) ?_
      rw [← same]
      exact ⟨.int (kvs.length : Nat), H, I.tok _, ⟨_, rfl⟩, q⟩))
theorem op1Len {K : PySem.W.Frag} : Op1 K (rLenA K) gLen := by
  refine ⟨fun x Q Q' q g => optP_mono (fun k => q _) g, fun B Z F H n σ env v x Q S hv g => ?_⟩
  obtain ⟨k, ek, g⟩ := optP_some g
  have fin := g (.int (k : Nat)) H F S (Ext.refl _) (Res.dat (.int _))
  cases x with
  | lst xs =>
    obtain ⟨a, vs, rfl, h1, h2⟩ := hv.lst S.same
    cases ek
    exact .inl ⟨_, _, rfl, .inl ⟨vs, SqL.of h1, rfl⟩, by rw [h2.length]; exact fin⟩
  | klst xs =>
    obtain ⟨a, vs, rfl, h1, h2⟩ := hv.klst
    cases ek
    exact .inl ⟨_, _, rfl, .inl ⟨vs, sqL_mono (Ext.of S.same) h1, rfl⟩, by rw [h2.length]; exact fin⟩
  | tup xs =>
    obtain ⟨a, vs, rfl, h1, h2⟩ := hv.tup
    cases ek
    exact .inl ⟨_, _, rfl, .inr ⟨vs, SqT.of (S.same _ _ h1), rfl⟩, by rw [h2.length]; exact fin⟩
  | ktup xs =>
    obtain ⟨a, vs, rfl, h1, h2⟩ := hv.ktup
    cases ek
    exact .inl ⟨_, _, rfl, .inr ⟨vs, sqT_mono (Ext.of S.same) h1, rfl⟩, by rw [h2.length]; exact fin⟩
  | str z =>
    have e0 := hv.str
    subst e0
    have ek : (if z.length ≤ sizeLine then some z.length else none) = some k := ek
    by_cases hz : z.length ≤ sizeLine
    · rw [if_pos hz] at ek
      cases ek
      exact .inl ⟨_, _, rfl, ⟨hz, rfl⟩, fin⟩
    · rw [if_neg hz] at ek
      cases ek
  | dk kvs =>
    obtain ⟨a, us, rfl, h1, h2, h3⟩ := hv.dk S.same
    cases ek
    exact .inr (.inl ⟨a, us, rfl, h1, by rw [show us.length = kvs.length by simpa using congrArg List.length h2]; exact fin⟩)
  | dt kvs =>
    obtain ⟨a, us, rfl, h1, h2, h3⟩ := hv.dt S.same
    cases ek
    exact .inr (.inr ⟨a, us, rfl, h1, by rw [show us.length = kvs.length by simpa using congrArg List.length h2]; exact fin⟩)
  | _ => cases ek

/-! ### int, abs, str -/
def gInt : DV → (Cell → Prop) → Prop := fun x Q => match x with
  | .int i => Q (.d (.int i))
  | .bl b => Q (.d (.int (if b then 1 else 0)))
  | _ => False
theorem View.bl {K : PySem.W.Frag} {F H : Hp} {n : Nat} {v : V} {b : Bool} (h : View K F H n v (.bl b)) : v = .bl b := by
  have := h.atom fun oc e => by cases oc <;> cases e
  cases this; rfl
theorem op1Int {K : PySem.W.Frag} : Op1 K (fun xs H Q => (∃ i, xs = [.int i] ∧ Q (.int i) H) ∨ ∃ k, xs = [.bl k] ∧ Q (.int (if k then 1 else 0)) H) gInt := by
  refine ⟨fun x Q Q' q g => ?_, fun B Z F H n σ env v x Q S hv g => ?_⟩
  · cases x <;> first | exact q _ g | exact g
  · cases x with
    | int i => exact .inl ⟨i, by rw [hv.int], g _ H F S (Ext.refl _) (Res.dat (.int _))⟩
    | bl b => exact .inr ⟨b, by rw [hv.bl], g _ H F S (Ext.refl _) (Res.dat (.int _))⟩
    | _ => exact g.elim
def gAbs : DV → (Cell → Prop) → Prop := fun x Q => match x with
  | .int i => Q (.d (.int (if i < 0 then -i else i)))
  | _ => False
theorem op1Abs {K : PySem.W.Frag} : Op1 K (fun xs H Q => ∃ i, xs = [.int i] ∧ Q (.int (if i < 0 then -i else i)) H) gAbs := by
  refine ⟨fun x Q Q' q g => ?_, fun B Z F H n σ env v x Q S hv g => ?_⟩
  · cases x <;> first | exact q _ g | exact g
  · cases x with
    | int i => exact ⟨i, by rw [hv.int], g _ H F S (Ext.refl _) (Res.dat (.int _))⟩
    | _ => exact g.elim
def gStr : DV → (Cell → Prop) → Prop := fun x Q => match x with
  | .int i => i.natAbs.log2 < 1920 ∧ Q (.d (.str (toString i)))
  | _ => False
theorem op1Str {K : PySem.W.Frag} : Op1 K (fun xs H Q => ∃ i, xs = [.int i] ∧ i.natAbs.log2 < 1920 ∧ Q (.str (toString i)) H) gStr := by
  refine ⟨fun x Q Q' q g => ?_, fun B Z F H n σ env v x Q S hv g => ?_⟩
  · cases x <;> first | exact ⟨g.1, q _ g.2⟩ | exact g
  · cases x with
    | int i => exact ⟨i, by rw [hv.int], g.1, g.2 _ H F S (Ext.refl _) (Res.dat (.str _))⟩
    | _ => exact g.elim

/-! ### lists of ints, of bools -/
def intsOf : List DV → Option (List Int)
  | [] => some []
  | .int i :: r => (intsOf r).map (i :: ·)
  | _ :: _ => none
def blsOf : List DV → Option (List Bool)
  | [] => some []
  | .bl i :: r => (blsOf r).map (i :: ·)
  | _ :: _ => none
theorem intsOf_some : ∀ {xs : List DV} {ns : List Int}, intsOf xs = some ns → xs = ns.map DV.int
  | [], _, h => by cases h; rfl
  | x :: xs, ns, h => by
    cases x <;> first | (unfold intsOf at h; cases q : intsOf xs with | none => rw [q] at h; cases h | some ms => rw [q] at h; cases h; rw [intsOf_some q]; rfl) | cases h
theorem intsOf_map (ns : List Int) : intsOf (ns.map DV.int) = some ns := by
  induction ns with
  | nil => rfl
  | cons n ns ih => simp [intsOf, ih]
theorem blsOf_some : ∀ {xs : List DV} {ns : List Bool}, blsOf xs = some ns → xs = ns.map DV.bl
  | [], _, h => by cases h; rfl
  | x :: xs, ns, h => by
    cases x <;> first | (unfold blsOf at h; cases q : blsOf xs with | none => rw [q] at h; cases h | some ms => rw [q] at h; cases h; rw [blsOf_some q]; rfl) | cases h
theorem blsOf_map (ns : List Bool) : blsOf (ns.map DV.bl) = some ns := by
  induction ns with
  | nil => rfl
  | cons n ns ih => simp [blsOf, ih]
def gInts (h : List Int → (Cell → Prop) → Prop) : DV → (Cell → Prop) → Prop := fun x Q => match x with
  | .lst xs => optP (intsOf xs) fun ns => h ns Q
  | _ => False
def gBls (h : List Bool → Bool) : DV → (Cell → Prop) → Prop := fun x Q => match x with
  | .lst xs => optP (blsOf xs) fun ns => Q (.d (.bl (h ns)))
  | _ => False
theorem view_ints {K : PySem.W.Frag} {F H : Hp} {n : Nat} {v : V} {xs : List DV} {ns : List Int} (s : Same F H) (h : View K F H n v (.lst xs)) (e : intsOf xs = some ns) : ∃ a, v = .ref a ∧ SqL K H a (ns.map V.int) := by
  obtain ⟨a, vs, rfl, h1, h2⟩ := h.lst s
  rw [intsOf_some e] at h2
  rw [h2.of_ints] at h1
  exact ⟨a, rfl, SqL.of h1⟩
theorem view_bls {K : PySem.W.Frag} {F H : Hp} {n : Nat} {v : V} {xs : List DV} {ns : List Bool} (s : Same F H) (h : View K F H n v (.lst xs)) (e : blsOf xs = some ns) : ∃ a, v = .ref a ∧ SqL K H a (ns.map V.bl) := by
  obtain ⟨a, vs, rfl, h1, h2⟩ := h.lst s
  rw [blsOf_some e] at h2
  rw [h2.of_bls] at h1
  exact ⟨a, rfl, SqL.of h1⟩
theorem op1Sum {K : PySem.W.Frag} : Op1 K (rSum K) (gInts fun ns Q => Q (.d (.int ns.sum))) := by
  refine ⟨fun x Q Q' q g => ?_, fun B Z F H n σ env v x Q S hv g => ?_⟩
  · cases x <;> first | exact optP_mono (fun ns => q _) g | exact g
  · cases x with
    | lst xs =>
      obtain ⟨ns, e, g⟩ := optP_some g
      obtain ⟨a, rfl, h⟩ := view_ints S.same hv e
      exact ⟨a, ns, rfl, h, g _ H F S (Ext.refl _) (Res.dat (.int _))⟩
    | _ => exact g.elim
theorem op1Min {K : PySem.W.Frag} : Op1 K (rMin K) (gInts fun ns Q => ns ≠ [] ∧ ∀ m, m ∈ ns → (∀ y ∈ ns, m ≤ y) → Q (.d (.int m))) := by
  refine ⟨fun x Q Q' q g => ?_, fun B Z F H n σ env v x Q S hv g => ?_⟩
  · cases x <;> first | exact optP_mono (fun ns h => ⟨h.1, fun m h1 h2 => q _ (h.2 m h1 h2)⟩) g | exact g
  · cases x with
    | lst xs =>
      obtain ⟨ns, e, g⟩ := optP_some g
      obtain ⟨a, rfl, h⟩ := view_ints S.same hv e
      exact ⟨a, ns, rfl, h, List.length_pos_iff.mpr g.1, fun m h1 h2 => g.2 m h1 h2 _ H F S (Ext.refl _) (Res.dat (.int _))⟩
    | _ => exact g.elim
theorem op1Max {K : PySem.W.Frag} : Op1 K (rMax K) (gInts fun ns Q => ns ≠ [] ∧ ∀ m, m ∈ ns → (∀ y ∈ ns, y ≤ m) → Q (.d (.int m))) := by
  refine ⟨fun x Q Q' q g => ?_, fun B Z F H n σ env v x Q S hv g => ?_⟩
  · cases x <;> first | exact optP_mono (fun ns h => ⟨h.1, fun m h1 h2 => q _ (h.2 m h1 h2)⟩) g | exact g
  · cases x with
    | lst xs =>
      obtain ⟨ns, e, g⟩ := optP_some g
      obtain ⟨a, rfl, h⟩ := view_ints S.same hv e
      exact ⟨a, ns, rfl, h, List.length_pos_iff.mpr g.1, fun m h1 h2 => g.2 m h1 h2 _ H F S (Ext.refl _) (Res.dat (.int _))⟩
    | _ => exact g.elim
theorem op1Sorted {K : PySem.W.Frag} : Op1 K (rSortedI K) (gInts fun ns Q => ∀ ms : List Int, ms.Perm ns → ms.Pairwise (· ≤ ·) → Q (.o false (.l (ms.map DV.int)))) := by
  refine ⟨fun x Q Q' q g => ?_, fun B Z F H n σ env v x Q S hv g => ?_⟩
  · cases x <;> first | exact optP_mono (fun ns h ms h1 h2 => q _ (h ms h1 h2)) g | exact g
  · cases x with
    | lst xs =>
      obtain ⟨ns, e, g⟩ := optP_some g
      obtain ⟨a, rfl, h⟩ := view_ints S.same hv e
      refine ⟨a, ns, rfl, h, fun ms p h1 h2 hp => ?_⟩
      obtain ⟨S', r⟩ := new_lst S (HoldAll.ints ms) hp
      exact g ms h1 h2 _ _ F S' (Ext.refl _) r
    | _ => exact g.elim
theorem op1All {K : PySem.W.Frag} : Op1 K (rAll K) (gBls fun bs => bs.all id) := by
  refine ⟨fun x Q Q' q g => ?_, fun B Z F H n σ env v x Q S hv g => ?_⟩
  · cases x <;> first | exact optP_mono (fun ns => q _) g | exact g
  · cases x with
    | lst xs =>
      obtain ⟨ns, e, g⟩ := optP_some g
      obtain ⟨a, rfl, h⟩ := view_bls S.same hv e
      exact ⟨a, ns, rfl, h, g _ H F S (Ext.refl _) (Res.dat (.bl _))⟩
    | _ => exact g.elim
theorem op1Any {K : PySem.W.Frag} : Op1 K (rAny K) (gBls fun bs => bs.any id) := by
  refine ⟨fun x Q Q' q g => ?_, fun B Z F H n σ env v x Q S hv g => ?_⟩
  · cases x <;> first | exact optP_mono (fun ns => q _) g | exact g
  · cases x with
    | lst xs =>
      obtain ⟨ns, e, g⟩ := optP_some g
      obtain ⟨a, rfl, h⟩ := view_bls S.same hv e
      exact ⟨a, ns, rfl, h, g _ H F S (Ext.refl _) (Res.dat (.bl _))⟩
    | _ => exact g.elim

/-! ### list(..), tuple(..), dict(..) -/
def keyDV : Key → DV
  | .inl i => .int i
  | .inr x => .str x
theorem hold_key {K : PySem.W.Frag} {F : Hp} (k : Key) : Hold K F (kV k) (keyDV k) := by
  cases k with
  | inl i => exact .int i
  | inr x => exact .str x
theorem hold_keys {K : PySem.W.Frag} {F : Hp} : ∀ ks : List Key, HoldAll K F (ks.map kV) (ks.map keyDV)
  | [] => .nil
  | k :: ks => .cons (hold_key k) (hold_keys ks)
/-- the items in order -/
def itemsD : DV → Option (List DV)
  | .lst xs => some xs
  | .klst xs => some xs
  | .tup xs => some xs
  | .ktup xs => some xs
  | .dk kvs => some (kvs.map fun kv => keyDV kv.1)
  | .dt kvs => some (kvs.map fun kv => .tup (kv.1.map keyDV))
  | _ => none
def gList : DV → (Cell → Prop) → Prop := fun x Q => optP (itemsD x) fun xs => Q (.o false (.l xs))
def rListA (K : PySem.W.Frag) : List V → Hp → VK → Prop := fun xs H Q => (∃ p ys, xs = [.ref p] ∧ (SqL K H p ys ∨ SqT K H p ys) ∧ ∀ l, H l = none → Q (.ref l) (upd H l (.lst ys))) ∨
  (∃ (a : Addr) (kvs : List (Key × V)), xs = [.ref a] ∧ Rd H a (.dK kvs) ∧ ∀ p, H p = none → Q (.ref p) (upd H p (.lst (kvs.map fun kv => kV kv.1)))) ∨
  (∃ d kvs, xs = [V.ref d] ∧ Rd H d (.dT kvs) ∧ ∀ p bs, H p = none → IsKeys H kvs bs → Q (.ref p) (upd H p (.lst (bs.map V.ref))))
theorem call_listA {X : Cx} (hc : X.calm = true) : CallR X (.type "list") (rListA X.K) := callR_or call_list_of (callR_or (call_listD hc) (call_list_dT hc))
section
variable {B : Base} {K : PySem.W.Frag} {Z : ZX} {F H : Hp} {n : Nat} {σ : L2.St} {env : List Cell}
theorem adopt_keys : ∀ {us : List (List Key × V)} {bs : List Addr} {F : Hp}, SOk B K Z F H n σ env → IsKeys H us bs → ∃ F', SOk B K Z F' H n σ env ∧ Ext F F' ∧ HoldAll K F' (bs.map V.ref) (us.map fun kv => DV.tup (kv.1.map keyDV))
  | [], _, F, S, .nil => ⟨F, S, Ext.refl _, .nil⟩
  | u :: us, _, F, S, .cons (b := b) h t => by
    obtain ⟨F1, S1, s1, h1⟩ := S.adopt h
    obtain ⟨F2, S2, x2, h2⟩ := adopt_keys (us := us) S1 t
    exact ⟨F2, S2, (Ext.of s1).trans x2, .cons (.tup (x2.tup h1) (hold_keys _)) h2⟩
end
theorem op1List {K : PySem.W.Frag} : Op1 K (rListA K) gList := by
  refine ⟨fun x Q Q' q g => optP_mono (fun k => q _) g, fun B Z F H n σ env v x Q S hv g => ?_⟩
  obtain ⟨k, ek, g⟩ := optP_some g
  have fin : ∀ {F1 : Hp} {vs : List V}, SOk B K Z F1 H n σ env → Ext F F1 → HoldAll K F1 vs k → ∀ l, H l = none → Q (.ref l) (upd H l (.lst vs)) := fun S1 x1 h l hl => by
    obtain ⟨S', r⟩ := new_lst S1 h hl
    exact g _ _ _ S' x1 r
  cases x with
  | lst xs =>
    obtain ⟨a, vs, rfl, h1, h2⟩ := hv.lst S.same
    cases ek
    exact .inl ⟨a, vs, rfl, .inl (SqL.of h1), fin S (Ext.refl _) h2⟩
  | klst xs =>
    obtain ⟨a, vs, rfl, h1, h2⟩ := hv.klst
    cases ek
    exact .inl ⟨a, vs, rfl, .inl (sqL_mono (Ext.of S.same) h1), fin S (Ext.refl _) h2⟩
  | tup xs =>
    obtain ⟨a, vs, rfl, h1, h2⟩ := hv.tup
    cases ek
    exact .inl ⟨a, vs, rfl, .inr (SqT.of (S.same _ _ h1)), fin S (Ext.refl _) h2⟩
  | ktup xs =>
    obtain ⟨a, vs, rfl, h1, h2⟩ := hv.ktup
    cases ek
    exact .inl ⟨a, vs, rfl, .inr (sqT_mono (Ext.of S.same) h1), fin S (Ext.refl _) h2⟩
  | dk kvs =>
    obtain ⟨a, us, rfl, h1, h2, h3⟩ := hv.dk S.same
    cases ek
    refine .inr (.inl ⟨a, us, rfl, h1, fin S (Ext.refl _) ?_⟩)
    rw [show (us.map fun kv => kV kv.1) = (us.map (·.1)).map kV by simp, show (kvs.map fun kv => keyDV kv.1) = (kvs.map (·.1)).map keyDV by simp, h2]
    exact hold_keys _
  | dt kvs =>
    obtain ⟨a, us, rfl, h1, h2, h3⟩ := hv.dt S.same
    cases ek
    refine .inr (.inr ⟨a, us, rfl, h1, fun p bs hp hk => ?_⟩)
    obtain ⟨F1, S1, x1, hh⟩ := adopt_keys S hk
    refine fin S1 x1 ?_ p hp
    rw [show (us.map fun kv => DV.tup (kv.1.map keyDV)) = (us.map (·.1)).map fun k => DV.tup (k.map keyDV) by simp, h2] at hh
    rw [show (kvs.map fun kv => DV.tup (kv.1.map keyDV)) = (kvs.map (·.1)).map fun k => DV.tup (k.map keyDV) by simp]
    exact hh
  | _ => cases ek
def gTuple : DV → (Cell → Prop) → Prop := fun x Q => match x with
  | .lst xs => Q (.d (.tup xs))
  | .tup xs => Q (.d (.tup xs))
  | .ktup xs => Q (.d (.ktup xs))
  | _ => False
theorem op1Tuple {K : PySem.W.Frag} : Op1 K (fun xs H Q => ∃ p ys, xs = [.ref p] ∧ ((SqL K H p ys ∧ ∀ l, H l = none → Q (.ref l) (upd H l (.tup ys))) ∨ (SqT K H p ys ∧ Q (.ref p) H))) gTuple := by
  refine ⟨fun x Q Q' q g => ?_, fun B Z F H n σ env v x Q S hv g => ?_⟩
  · cases x <;> first | exact q _ g | exact g
  · cases x with
    | lst xs =>
      obtain ⟨a, vs, rfl, h1, h2⟩ := hv.lst S.same
      refine ⟨a, vs, rfl, .inl ⟨SqL.of h1, fun l hl => ?_⟩⟩
      obtain ⟨F', S', x', h'⟩ := new_tup S h2 hl
      exact g _ _ F' S' x' (Res.dat h')
    | tup xs =>
      obtain ⟨a, vs, rfl, h1, h2⟩ := hv.tup
      exact ⟨a, vs, rfl, .inr ⟨SqT.of (S.same _ _ h1), g _ _ F S (Ext.refl _) (Res.dat (.tup h1 h2))⟩⟩
    | ktup xs =>
      obtain ⟨a, vs, e, h1, h2⟩ := hv.ktup
      have hh := hv.atom fun oc e => by cases oc <;> cases e
      exact ⟨a, vs, by rw [e], .inr ⟨sqT_mono (Ext.of S.same) h1, g _ _ F S (Ext.refl _) (Res.dat (by rw [← e]; exact hh))⟩⟩
    | _ => exact g.elim
section
variable {X : Cx} {Z : ZX} {a : Expr} {ca : Nat} {f : DD} {p pos : Pos}
theorem pcLen (hg : Gl X "len") (hm : X.mg "len" = none) (ha : PVd X Z a ca f) (hs : starEach [a] X.env = (false, eval a X.env) :: starEach [] X.env := by rfl) : PEc X Z (.Call (.Name "len" p) [a] [] pos) ca (dOp1 gLen f) := PEc.b1 op1Len call_lenA (by decide +kernel) ha hg hm (hs := hs)
theorem pcInt (hg : Gl X "int") (hm : X.mg "int" = none) (ha : PVd X Z a ca f) (hs : starEach [a] X.env = (false, eval a X.env) :: starEach [] X.env := by rfl) : PEc X Z (.Call (.Name "int" p) [a] [] pos) ca (dOp1 gInt f) := PEc.b1T op1Int call_int1 (by decide +kernel) ha hg hm (hs := hs)
theorem pcAbs (hg : Gl X "abs") (hm : X.mg "abs" = none) (ha : PVd X Z a ca f) (hs : starEach [a] X.env = (false, eval a X.env) :: starEach [] X.env := by rfl) : PEc X Z (.Call (.Name "abs" p) [a] [] pos) ca (dOp1 gAbs f) := PEc.b1 op1Abs call_abs (by decide +kernel) ha hg hm (hs := hs)
theorem pcStr (hg : Gl X "str") (hm : X.mg "str" = none) (ha : PVd X Z a ca f) (hs : starEach [a] X.env = (false, eval a X.env) :: starEach [] X.env := by rfl) : PEc X Z (.Call (.Name "str" p) [a] [] pos) ca (dOp1 gStr f) := PEc.b1T op1Str call_str_int (by decide +kernel) ha hg hm (hs := hs)
theorem pcSum (hg : Gl X "sum") (hm : X.mg "sum" = none) (ha : PVd X Z a ca f) (hs : starEach [a] X.env = (false, eval a X.env) :: starEach [] X.env := by rfl) (hc : X.calm = true := by rfl) : PEc X Z (.Call (.Name "sum" p) [a] [] pos) ca (dOp1 (gInts fun ns Q => Q (.d (.int ns.sum))) f) := PEc.b1 op1Sum (cr_sum hc) (by decide +kernel) ha hg hm (hs := hs)
theorem pcMin (hg : Gl X "min") (hm : X.mg "min" = none) (ha : PVd X Z a ca f) (hs : starEach [a] X.env = (false, eval a X.env) :: starEach [] X.env := by rfl) (hc : X.calm = true := by rfl) : PEc X Z (.Call (.Name "min" p) [a] [] pos) ca (dOp1 (gInts fun ns Q => ns ≠ [] ∧ ∀ m, m ∈ ns → (∀ y ∈ ns, m ≤ y) → Q (.d (.int m))) f) := PEc.b1 op1Min (cr_min hc) (by decide +kernel) ha hg hm (hs := hs)
theorem pcMax (hg : Gl X "max") (hm : X.mg "max" = none) (ha : PVd X Z a ca f) (hs : starEach [a] X.env = (false, eval a X.env) :: starEach [] X.env := by rfl) (hc : X.calm = true := by rfl) : PEc X Z (.Call (.Name "max" p) [a] [] pos) ca (dOp1 (gInts fun ns Q => ns ≠ [] ∧ ∀ m, m ∈ ns → (∀ y ∈ ns, y ≤ m) → Q (.d (.int m))) f) := PEc.b1 op1Max (cr_max hc) (by decide +kernel) ha hg hm (hs := hs)
theorem pcSorted (hg : Gl X "sorted") (hm : X.mg "sorted" = none) (ha : PVd X Z a ca f) (hs : starEach [a] X.env = (false, eval a X.env) :: starEach [] X.env := by rfl) : PEc X Z (.Call (.Name "sorted" p) [a] [] pos) ca (dOp1 (gInts fun ns Q => ∀ ms : List Int, ms.Perm ns → ms.Pairwise (· ≤ ·) → Q (.o false (.l (ms.map DV.int)))) f) := PEc.b1 op1Sorted cr_sortedI (by decide +kernel) ha hg hm (hs := hs)
theorem pcAll (hg : Gl X "all") (hm : X.mg "all" = none) (ha : PVd X Z a ca f) (hs : starEach [a] X.env = (false, eval a X.env) :: starEach [] X.env := by rfl) (hc : X.calm = true := by rfl) : PEc X Z (.Call (.Name "all" p) [a] [] pos) ca (dOp1 (gBls fun bs => bs.all id) f) := PEc.b1 op1All (cr_all hc) (by decide +kernel) ha hg hm (hs := hs)
theorem pcAny (hg : Gl X "any") (hm : X.mg "any" = none) (ha : PVd X Z a ca f) (hs : starEach [a] X.env = (false, eval a X.env) :: starEach [] X.env := by rfl) (hc : X.calm = true := by rfl) : PEc X Z (.Call (.Name "any" p) [a] [] pos) ca (dOp1 (gBls fun bs => bs.any id) f) := PEc.b1 op1Any (cr_any hc) (by decide +kernel) ha hg hm (hs := hs)
theorem pcList (hg : Gl X "list") (hm : X.mg "list" = none) (ha : PVd X Z a ca f) (hs : starEach [a] X.env = (false, eval a X.env) :: starEach [] X.env := by rfl) (hc : X.calm = true := by rfl) : PEc X Z (.Call (.Name "list" p) [a] [] pos) ca (dOp1 gList f) := PEc.b1T op1List (call_listA hc) (by decide +kernel) ha hg hm (hs := hs)
theorem pcTuple (hg : Gl X "tuple") (hm : X.mg "tuple" = none) (ha : PVd X Z a ca f) (hs : starEach [a] X.env = (false, eval a X.env) :: starEach [] X.env := by rfl) : PEc X Z (.Call (.Name "tuple" p) [a] [] pos) ca (dOp1 gTuple f) := PEc.b1T op1Tuple call_tuple_of (by decide +kernel) ha hg hm (hs := hs)
end
end DL
set_option maxRecDepth 100000
set_option maxHeartbeats 4000000
namespace DL
open PySem PySem.Spec PyProof.Rows L2

/-! ### rows of expressions, displays -/
def aNil : DA := fun env Q => Q [] env
def aCons (f : DD) (g : DA) : DA := fun env Q => f env fun x e => g e fun xs e2 => Q (x :: xs) e2
section
variable {X : Cx} {Z : ZX} {e a b : Expr} {es : List Expr} {c cs ca cb : Nat} {f fa fb : DD} {g : DA} {pos : Pos}
theorem paNil : PAd X Z [] 0 aNil := ⟨fun _ _ _ q h => q _ _ h, PA_imp pa_nil fun σ H Q ⟨B, F, n, env, hn, S, h⟩ => h [] H F S (Ext.refl _) .nil⟩
theorem paCons (ha : PEd X Z e c f) (hr : PAd X Z es cs g) (hs : starEach (e :: es) X.env = (false, eval e X.env) :: starEach es X.env := by rfl) : PAd X Z (e :: es) (c + cs) (aCons f g) := by
  refine ⟨fun env Q Q' q h => ha.mono _ _ _ (fun x e h => hr.mono _ _ _ (fun as e2 => q _ _) h) h, PA_imp (pa_cons ha.run hr.run hs) fun σ H Q ⟨B, F, n, env, hn, S, h⟩ => ?_⟩
  refine bindD ha.mono (by omega) S h fun x e1 v H1 F1 h1 S1 x1 hv => ?_
  refine bindA hr.mono (by omega) S1 h1 fun xs e2 vs H2 F2 h2 S2 x2 hvs => ?_
  rw [Nat.add_assoc] at S2
  exact h2 _ H2 F2 S2 (x1.trans x2) (.cons (hv.mono x2) hvs)
def dTup (g : DA) : DD := fun env Q => g env fun xs e => xs.length ≤ 1000 ∧ Q (.tup xs) e
theorem pdTup {x1 : Nat} (h : PAd X Z es c g) : PEd X Z (.Tuple es x1 pos) c (dTup g) := by
  refine ⟨fun env Q Q' q k => h.mono _ _ _ (fun xs e k => ⟨k.1, q _ _ k.2⟩) k, PE_imp (pe_tup h.run) fun σ H Q ⟨B, F, n, env, hn, S, k⟩ => bindA h.mono hn S k fun xs e1 vs H1 F1 k1 S1 x1 hv => ?_⟩
  refine ⟨by rw [hv.length, sizeLine_eq]; have := k1.1; omega, fun p hp => ?_⟩
  obtain ⟨F', S', x', h'⟩ := new_tup S1 hv hp
  exact k1.2 _ _ F' S' (x1.trans x') h'
def dLst (g : DA) : DE := fun env Q => g env fun xs e => xs.length ≤ 1000 ∧ Q (.o false (.l xs)) e
theorem pcLst (h : PAd X Z es c g) : PEc X Z (.List es pos) c (dLst g) := by
  refine ⟨fun env Q Q' q k => h.mono _ _ _ (fun xs e k => ⟨k.1, q _ _ k.2⟩) k, PE_imp (pe_lst h.run) fun σ H Q ⟨B, F, n, env, hn, S, k⟩ => bindA h.mono hn S k fun xs e1 vs H1 F1 k1 S1 x1 hv => ?_⟩
  refine ⟨by rw [hv.length, sizeLine_eq]; have := k1.1; omega, fun p hp => ?_⟩
  obtain ⟨S', r⟩ := new_lst S1 hv hp
  exact k1.2 _ _ F1 S' x1 r
end

/-! ### new dicts -/
section
variable {B : Base} {K : PySem.W.Frag} {Z : ZX} {F H : Hp} {n : Nat} {σ : L2.St} {env : List Cell}
/-- a new object that no slot knows: what it is owned as -/
theorem new_own (S : SOk B K Z F H n σ env) {oc : OC} {o : HO} {p : Addr} (hp : H p = none) (h : OCOk K F (upd H p o) n p oc) :
    SOk B K Z F (upd H p o) n σ env ∧ Res B K F (upd H p o) n σ env (.ref p) (.o false oc) := by
  refine ⟨S.allocO hp, ⟨p, rfl, S.freshF hp, h, (fun z => by cases z), fun _ => .inl (S.fresh0 hp)⟩, rfl, fun _ i ci e ow z => ?_, fun _ a e => by cases e; exact S.fresh0 hp⟩
  cases ci with
  | un => cases ow
  | d x => cases ow
  | o b c =>
    obtain ⟨a, e1, h1, h2, _⟩ := S.own e
    rw [z] at e1
    cases e1
    obtain ⟨o, e3⟩ := OCOk.there h2
    rw [hp] at e3
    cases e3
end
def dDk : DE := fun env Q => Q (.o false (.k [])) env
def dDt : DE := fun env Q => Q (.o false (.t [])) env
section
variable {X : Cx} {Z : ZX} {pos : Pos}
/-- {} with keys that are numbers or texts -/
theorem pcDk : PEc X Z (.Dict [] [] pos) 0 dDk := ⟨fun _ _ _ q h => q _ _ h, PE_imp pe_dnewK fun σ H Q ⟨B, F, n, env, hn, S, h⟩ p hp => by
  obtain ⟨S', r⟩ := new_own S (oc := .k []) (o := .dK []) hp ⟨[], upd_same, rfl, .nil⟩
  exact h _ _ F S' (Ext.refl _) r⟩
/-- {} with keys that are tuples -/
theorem pcDt : PEc X Z (.Dict [] [] pos) 0 dDt := ⟨fun _ _ _ q h => q _ _ h, PE_imp pe_dnewT fun σ H Q ⟨B, F, n, env, hn, S, h⟩ p hp => by
  obtain ⟨S', r⟩ := new_own S (oc := .t []) (o := .dT []) hp ⟨[], upd_same, rfl, .nil⟩
  exact h _ _ F S' (Ext.refl _) r⟩
end
/-- a written dict: its pairs by data -/
abbrev DP := List Cell → (List (DV × DV) → List Cell → Prop) → Prop
inductive HoldP (K : PySem.W.Frag) (F : Hp) : List (V × V) → List (DV × DV) → Prop
  | nil : HoldP K F [] []
  | cons {v u : V} {x y : DV} {ps : List (V × V)} {qs : List (DV × DV)} : Hold K F v x → Hold K F u y → HoldP K F ps qs → HoldP K F ((v, u) :: ps) ((x, y) :: qs)
def tDp (K : PySem.W.Frag) (Z : ZX) (c : Nat) (f : DP) : L2.St → Hp → (List (V × V) → Hp → Prop) → Prop := fun σ H Q => ∃ B F n env, n + c ≤ Z.M ∧ SOk B K Z F H n σ env ∧ f env fun r env' => ∀ ps H' F', SOk B K Z F' H' (n + c) σ env' → Ext F F' → HoldP K F' ps r → Q ps H'
structure PPd (X : Cx) (Z : ZX) (pos : Pos) (ks : List (Option Expr)) (vs : List Expr) (c : Nat) (f : DP) : Prop where
  mono : MonoC f
  run : ∃ trs, PPs X pos ks vs trs ∧ ∀ σ H Q, tDp X.K Z c f σ H Q → tPairs trs σ H Q
def ppN : DP := fun env Q => Q [] env
def ppC (fa fb : DD) (g : DP) : DP := fun env Q => fa env fun x e1 => fb e1 fun y e2 => g e2 fun r e3 => Q ((x, y) :: r) e3
def kvsOf : List (DV × DV) → Option (List (Key × DV))
  | [] => some []
  | (x, y) :: r => match x.key, kvsOf r with
    | some k, some kvs => some ((k, y) :: kvs)
    | _, _ => none
def mergeD (kvs more : List (Key × DV)) : List (Key × DV) := more.foldl (fun acc kv => putD acc kv.1 kv.2) kvs
theorem kvs_of {K : PySem.W.Frag} {F : Hp} : ∀ {ps : List (V × V)} {qs : List (DV × DV)} {kvs : List (Key × DV)}, HoldP K F ps qs → kvsOf qs = some kvs → ∃ us : List (Key × V), ps = us.map (fun kv => (kV kv.1, kv.2)) ∧ HKV K F us kvs ∧ us.length = qs.length
  | _, _, _, .nil, e => by cases e; exact ⟨[], rfl, .nil, rfl⟩
  | _, _, _, .cons (x := x) (qs := qs) h1 h2 t, e => by
    unfold kvsOf at e
    split at e
    · rename_i k kvs e1 e2
      cases e
      obtain ⟨us, rfl, h3, h4⟩ := kvs_of t e2
      exact ⟨(k, _) :: us, by rw [h1.key e1]; rfl, .cons h2 h3, by simp [h4]⟩
    · cases e
theorem merge_hold {K : PySem.W.Frag} {F : Hp} : ∀ {more : List (Key × V)} {mored : List (Key × DV)} {us : List (Key × V)} {kvs : List (Key × DV)}, HKV K F us kvs → HKV K F more mored → HKV K F (mergeK us more) (mergeD kvs mored)
  | [], mored, us, kvs, h, g => by
    rcases g.inv with ⟨_, rfl⟩ | ⟨_, _, _, _, _, e, _⟩
    · exact h
    · cases e
  | p :: more, mored, us, kvs, h, g => by
    rcases g.inv with ⟨e, _⟩ | ⟨k0, v0, d0, us', kvs', e, rfl, a, t⟩
    · cases e
    · cases e
      show HKV K F (mergeK (putK us k0 v0) _) (mergeD (putD kvs k0 d0) _)
      exact merge_hold (h.put k0 a) t
def dDisp (g : DP) : DE := fun env Q => g env fun ps e => ps.length ≤ 15 ∧ optP (kvsOf ps) fun kvs => Q (.o false (.k (mergeD [] kvs))) e
section
variable {X : Cx} {Z : ZX} {pos : Pos} {k v : Expr} {ks : List (Option Expr)} {vs : List Expr} {ca cb c : Nat} {fa fb : DD} {g : DP}
theorem ppNil : PPd X Z pos [] [] 0 ppN := ⟨fun _ _ _ q h => q _ _ h, [], pps_nil, fun σ H Q ⟨B, F, n, env, hn, S, h⟩ => h [] H F S (Ext.refl _) .nil⟩
theorem ppCons (hk : PEd X Z k ca fa) (hv : PEd X Z v cb fb) (hr : PPd X Z pos ks vs c g) : PPd X Z pos (some k :: ks) (v :: vs) (ca + cb + c) (ppC fa fb g) := by
  obtain ⟨trs, h1, h2⟩ := hr.run
  refine ⟨fun env Q Q' q h => hk.mono _ _ _ (fun x e1 h => hv.mono _ _ _ (fun y e2 h => hr.mono _ _ _ (fun r e3 => q _ _) h) h) h, _, pps_cons hk.run hv.run h1, fun σ H Q ⟨B, F, n, env, hn, S, h⟩ => ?_⟩
  refine bindD hk.mono (by omega) S h fun x e1 v H1 F1 g1 S1 x1 hx => bindD hv.mono (by omega) S1 g1 fun y e2 u H2 F2 g2 S2 x2 hy => h2 _ _ _ ⟨B, F2, n + ca + cb, e2, by omega, S2, hr.mono _ _ _ (fun r e3 q ps H3 F3 S3 x3 hp => ?_) g2⟩
  rw [show n + ca + cb + c = n + (ca + cb + c) by omega] at S3
  exact q _ H3 F3 S3 ((x1.trans x2).trans x3) (.cons (hx.mono (x2.trans x3)) (hy.mono x3) hp)
/-- {k: v, ..} -/
theorem pcDisp (h : PPd X Z pos ks vs c g) (hall : ks.all (·.isSome) = true := by rfl) (hl : ks.length = vs.length := by rfl) (h0 : ks ≠ [] := by (intro z; cases z)) (h15 : ks.length ≤ 15 := by decide) : PEc X Z (.Dict ks vs pos) c (dDisp g) := by
  obtain ⟨trs, h1, h2⟩ := h.run
  refine ⟨fun env Q Q' q k => h.mono _ _ _ (fun ps e k => ⟨k.1, optP_mono (fun kvs => q _ _) k.2⟩) k, PE_imp (pe_disp h1 hall hl h0 h15) fun σ H Q ⟨B, F, n, env, hn, S, k⟩ p hp => ?_⟩
  obtain ⟨S1, r1⟩ := new_own S (oc := .k []) (o := .dK []) hp ⟨[], upd_same, rfl, .nil⟩
  refine h2 _ _ _ ⟨_, F, n, env, hn, S1.reb, h.mono _ _ _ (fun ps e q vps H2 F2 T2 x2 hps => ?_) k⟩
  obtain ⟨q0, q⟩ := q
  obtain ⟨kvs, ek, q⟩ := optP_some q
  have S2 := S1.unreb T2 rfl x2 (by omega)
  have r2 := r1.wait S1 T2 x2 (by omega)
  obtain ⟨us, rfl, hh, hlen⟩ := kvs_of hps ek
  obtain ⟨a, e1, hF, hO, hb1, hb2⟩ := r2.1
  cases e1
  obtain ⟨us0, hd, hm, hz⟩ := hO
  have hnil : us0 = [] := by
    have := congrArg List.length hm
    simpa using this
  subst hnil
  refine ⟨hd, us, rfl, by omega, ?_⟩
  have hM := merge_hold (K := X.K) (F := F2) HKV.nil hh
  -- the object at p is written
  have h00 : B.H0 p = none := S.fresh0 hp
  have S3 : SOk B X.K Z F2 (upd H2 p (.dK (mergeK [] us))) (n + c) σ e := by
    refine ⟨⟨fun b u eb => by rw [upd_ne (by rintro rfl; rw [hF] at eb; cases eb)]; exact S2.same _ _ eb, S2.len, fun i ci ei => ?_, S2.sep, fun b u eb hb hl => by rw [upd_ne (by rintro rfl; rw [h00] at eb; cases eb)]; exact S2.fr b u eb hb hl, S2.ff, S2.bd, S2.lk, S2.bs, fun b eb => ?_, tabs_keep S2.tb fun b u eb tc => ?_⟩, S2.lnk⟩
    · obtain ⟨o, e1, hc⟩ := S2.at_ i ci ei
      refine ⟨o, e1, hc.mono (Ext.refl _) (Nat.le_refl _) fun b eb ow => ?_⟩
      have : b ≠ p := by
        rintro rfl
        subst eb
        exact r2.2.2.1 rfl i ci ei ow e1
      refine ⟨upd_ne this, ?_⟩
      cases ci with
      | un => cases ow
      | d x => cases ow
      | o bb cc =>
        obtain ⟨a', e', h1', _⟩ := hc
        rw [e'] at eb
        cases eb
        exact h1'
    · by_cases z : b = p
      · subst z; rw [upd_same]; rfl
      · rw [upd_ne z]; exact S2.dom b eb
    · rw [upd_ne (by
        rintro rfl
        rw [hd] at eb
        cases eb
        rcases tc with ⟨_, z⟩ | ⟨_, z⟩ <;> cases z)]
      exact eb
  refine q (.ref p) _ F2 S3 x2 ⟨⟨p, rfl, hF, ⟨mergeK [] us, upd_same, hM.1, hM.2⟩, (fun z => by cases z), fun _ => .inl h00⟩, rfl, r2.2.2.1, fun _ a e => by cases e; exact h00⟩
end

/-! ### objects owned: append, pop, items put -/
def dAppend (j : Nat) (f : DD) : DE := fun env Q => (∃ b xs, env[j]? = some (.o b (.l xs))) ∧ f env fun d e => ∃ b xs, e[j]? = some (.o b (.l xs)) ∧ xs.length < LINE ∧ Q (.d .non) (e.set j (.o b (.l (xs ++ [d]))))
def dPop (j : Nat) : DE := fun env Q => ∃ b xs d, env[j]? = some (.o b (.l xs)) ∧ xs[xs.length - 1]? = some d ∧ Q (.d d) (env.set j (.o b (.l xs.dropLast)))
def dPopAt (j : Nat) (f : DD) : DE := fun env Q => (∃ b xs, env[j]? = some (.o b (.l xs))) ∧ f env fun y e => ∃ b xs i k d, e[j]? = some (.o b (.l xs)) ∧ y = .int i ∧ -(2 ^ 63) ≤ i ∧ i < 2 ^ 63 ∧ ixN xs.length i = some k ∧ xs[k]? = some d ∧ Q (.d d) (e.set j (.o b (.l (xs.eraseIdx k))))
def wPutL (j : Nat) (fe fi : DD) : WS := fun D env => fe env fun d e1 => (∃ b xs, e1[j]? = some (.o b (.l xs))) ∧ fi e1 fun y e2 => ∃ b xs i k, e2[j]? = some (.o b (.l xs)) ∧ y = .int i ∧ ixN xs.length i = some k ∧ D.nx (e2.set j (.o b (.l (xs.set k d))))
def wPutD (j : Nat) (fe fi : DD) : WS := fun D env => fe env fun d e1 => (∃ b c, e1[j]? = some (.o b c)) ∧ fi e1 fun y e2 => (∃ b kvs k, e2[j]? = some (.o b (.k kvs)) ∧ y.key = some k ∧ kvs.length < LINE ∧ D.nx (e2.set j (.o b (.k (putD kvs k d))))) ∨
  ∃ b kvs k, e2[j]? = some (.o b (.t kvs)) ∧ y.tkey = some k ∧ kvs.length < LINE ∧ D.nx (e2.set j (.o b (.t (putD kvs k d))))
section
variable {X : Cx} {Z : ZX} {x : Str} {e i : Expr} {c ci : Nat} {f fi : DD} {p apos cpos pos pos' : Pos}
theorem pcAppend (j : Nat) (he : PEd X Z e c f) (hN : X.N[j]? = some x := by rfl) (hv : Vis X.env.scope x := by first | exact Or.inl rfl | exact Or.inr (Or.inl rfl) | exact Or.inr (Or.inr rfl)) (hd : (x == ("__debug__" : Str)) = false := by decide)
    (hcd : (x == ("__classdict__" : Str)) = false := by decide) (hbase : attributeBase (.Name x p) "append" X.env (eval (.Name x p) X.env) = eval (.Name x p) X.env := by rfl)
    (hline : (apos.endLine == cpos.line) = true := by rfl) (hs : starEach [e] X.env = (false, eval e X.env) :: starEach [] X.env := by rfl) :
    PEc X Z (.Call (.Attribute (.Name x p) "append" apos) [e] [] cpos) c (dAppend j f) := by
  refine ⟨fun env Q Q' q h => ⟨h.1, he.mono _ _ _ (fun d e ⟨b, xs, h1, h2, h3⟩ => ⟨b, xs, h1, h2, q _ _ h3⟩) h.2⟩,
    PE_imp (pe_bm PySem.F.plainAttrs_list PySem.F.slot_list_append PySem.F.type_list_append mt_append (pe_var hN hv hd hcd) (pa_cons he.run pa_nil hs) hbase (by rw [hs]; rfl) hline hs) fun σ H Q ⟨B, F, n, env, hn, S, ⟨b0, xs0, e0⟩, h⟩ => ?_⟩
  obtain ⟨a, ea, hF, ⟨vs, h1, h2⟩, _⟩ := S.own e0
  refine ⟨_, ea, .inl ⟨rfl, vs, SqL.of h1⟩, bindD he.mono hn S h fun d e1 v H1 F1 g S1 x1 hv => ?_⟩
  obtain ⟨b, xs, e2, hl, q⟩ := g
  obtain ⟨a', ea', hF', ⟨vs', h1', h2'⟩, _⟩ := S1.own e2
  rw [ea] at ea'
  cases ea'
  refine ⟨a, vs', v, rfl, rfl, h1', by rw [h2'.length, line_eq]; exact hl, ?_⟩
  exact q .non _ F1 (S1.write e2 ea ⟨vs' ++ [v], upd_same, h2'.append (.one hv)⟩) x1 (Res.dat .non)
theorem pcPop (j : Nat) (hN : X.N[j]? = some x := by rfl) (hv : Vis X.env.scope x := by first | exact Or.inl rfl | exact Or.inr (Or.inl rfl) | exact Or.inr (Or.inr rfl)) (hd : (x == ("__debug__" : Str)) = false := by decide)
    (hcd : (x == ("__classdict__" : Str)) = false := by decide) (hbase : attributeBase (.Name x p) "pop" X.env (eval (.Name x p) X.env) = eval (.Name x p) X.env := by rfl) (hline : (apos.endLine == cpos.line) = true := by rfl) :
    PEc X Z (.Call (.Attribute (.Name x p) "pop" apos) [] [] cpos) 0 (dPop j) := by
  refine ⟨fun env Q Q' q ⟨b, xs, d, h1, h2, h3⟩ => ⟨b, xs, d, h1, h2, q _ _ h3⟩,
    PE_imp (pe_bm0 PySem.F.plainAttrs_list PySem.F.slot_list_pop PySem.F.type_list_pop mt_pop (pe_var hN hv hd hcd) hbase hline) fun σ H Q ⟨B, F, n, env, hn, S, b, xs, d, e0, ed, q⟩ => ?_⟩
  obtain ⟨a, ea, hF, ⟨vs, h1, h2⟩, _⟩ := S.own e0
  obtain ⟨v, ev, hvd⟩ := h2.of_get ed
  refine ⟨_, ea, .inl ⟨rfl, vs, SqL.of h1⟩, a, vs, v, rfl, rfl, h1, by rw [h2.length]; exact ev, ?_⟩
  exact q v _ F (S.write e0 ea ⟨vs.dropLast, upd_same, h2.dropLast⟩) (Ext.refl _) (Res.dat hvd)
theorem pcPopAt (j : Nat) (he : PEd X Z e c f) (hN : X.N[j]? = some x := by rfl) (hv : Vis X.env.scope x := by first | exact Or.inl rfl | exact Or.inr (Or.inl rfl) | exact Or.inr (Or.inr rfl)) (hd : (x == ("__debug__" : Str)) = false := by decide)
    (hcd : (x == ("__classdict__" : Str)) = false := by decide) (hbase : attributeBase (.Name x p) "pop" X.env (eval (.Name x p) X.env) = eval (.Name x p) X.env := by rfl)
    (hline : (apos.endLine == cpos.line) = true := by rfl) (hs : starEach [e] X.env = (false, eval e X.env) :: starEach [] X.env := by rfl) :
    PEc X Z (.Call (.Attribute (.Name x p) "pop" apos) [e] [] cpos) c (dPopAt j f) := by
  refine ⟨fun env Q Q' q h => ⟨h.1, he.mono _ _ _ (fun d e ⟨b, xs, i, k, d, h1, h2, h3, h4, h5, h6, h7⟩ => ⟨b, xs, i, k, d, h1, h2, h3, h4, h5, h6, q _ _ h7⟩) h.2⟩,
    PE_imp (pe_bm PySem.F.plainAttrs_list PySem.F.slot_list_pop PySem.F.type_list_pop mt_popAt (pe_var hN hv hd hcd) (pa_cons he.run pa_nil hs) hbase (by rw [hs]; rfl) hline hs) fun σ H Q ⟨B, F, n, env, hn, S, ⟨b0, xs0, e0⟩, h⟩ => ?_⟩
  obtain ⟨a, ea, hF, ⟨vs, h1, h2⟩, _⟩ := S.own e0
  refine ⟨_, ea, .inl ⟨rfl, vs, SqL.of h1⟩, bindD he.mono hn S h fun y e1 v H1 F1 g S1 x1 hv => ?_⟩
  obtain ⟨b, xs, i, k, d, e2, rfl, l1, l2, hk, ed, q⟩ := g
  cases hv
  obtain ⟨a', ea', hF', ⟨vs', h1', h2'⟩, _⟩ := S1.own e2
  rw [ea] at ea'
  cases ea'
  obtain ⟨w, ew, hw⟩ := h2'.of_get ed
  refine ⟨a, vs', i, k, w, rfl, rfl, h1', l1, l2, by rw [h2'.length]; exact (ixN_seq hk).1, ew, ?_⟩
  exact q w _ F1 (S1.write e2 ea ⟨vs'.eraseIdx k, upd_same, h2'.erase k⟩) x1 (Res.dat hw)
/-- x[i] = e, x a list owned -/
theorem psPutL (j : Nat) (he : PEd X Z e c f) (hi : PEd X Z i ci fi) (hN : X.N[j]? = some x := by rfl) (hv : Vis X.env.scope x := by first | exact Or.inl rfl | exact Or.inr (Or.inl rfl) | exact Or.inr (Or.inr rfl)) (hd : (x == ("__debug__" : Str)) = false := by decide)
    (hcd : (x == ("__classdict__" : Str)) = false := by decide) (hs : swapsWithSole [.Subscript (.Name x p) i pos'] e pos.line X.env = pure false := by rfl) (hw : swappedStores [.Subscript (.Name x p) i pos'] e X.env = pure none := by rfl)
    (h1 : (assignEach [.Subscript (.Name x p) i pos'] X.env).map (·.2) = [assign (.Subscript (.Name x p) i pos') X.env] := by rfl)
    (ha : ∀ v, assign (.Subscript (.Name x p) i pos') X.env v = (do let ov ← holding [v] (eval (.Name x p) X.env); let iv ← holding [v, ov] (eval i X.env); standAt pos'; holding [v, ov, iv] (setItem ov iv v); release [v, ov, iv] []) := by intro _; rfl) :
    PSd X Z (.Assign [.Subscript (.Name x p) i pos'] e pos) (c + ci) (wPutL j f fi) := by
  refine ⟨fun D D' env l h => he.mono _ _ _ (fun d e1 h => ⟨h.1, hi.mono _ _ _ (fun y e2 ⟨b, xs, i, k, h1, h2, h3, h4⟩ => ⟨b, xs, i, k, h1, h2, h3, l.nx _ h4⟩) h.2⟩) h, PS_imp (ps_asg he.run (pg_sub (pe_var hN hv hd hcd) hi.run set_list ha) hs hw h1) fun D σ H ⟨B, F, n, env, hn, S, h⟩ => ?_⟩
  refine bindD he.mono (by omega) S h fun d e1 v H1 F1 g S1 x1 hvd => ?_
  obtain ⟨⟨b0, xs0, e0⟩, g⟩ := g
  obtain ⟨a, ea, hF, ⟨vs, h1, h2⟩, _⟩ := S1.own e0
  refine ⟨_, ea, bindD hi.mono (by omega) S1 g fun y e2 u H2 F2 g2 S2 x2 hu => ?_⟩
  obtain ⟨b, xs, k, m, e3, rfl, hk, q⟩ := g2
  cases hu
  obtain ⟨a', ea', hF', ⟨vs', h1', h2'⟩, _⟩ := S2.own e3
  rw [ea] at ea'
  cases ea'
  refine ⟨a, vs', k, m, rfl, rfl, h1', by rw [h2'.length]; exact hk, ?_⟩
  have S3 := S2.write e3 ea (o := .lst (vs'.set m v)) (c' := .l (xs.set m d)) ⟨vs'.set m v, upd_same, h2'.set m (hvd.mono x2)⟩
  rw [Nat.add_assoc] at S3
  exact q σ _ F2 S3 (x1.trans x2)
/-- x[i] = e, x a dict owned -/
theorem psPutD (j : Nat) (hu : X.A.units + 1 < cLine) (he : PEd X Z e c f) (hi : PEd X Z i ci fi) (hN : X.N[j]? = some x := by rfl) (hv : Vis X.env.scope x := by first | exact Or.inl rfl | exact Or.inr (Or.inl rfl) | exact Or.inr (Or.inr rfl)) (hd : (x == ("__debug__" : Str)) = false := by decide)
    (hcd : (x == ("__classdict__" : Str)) = false := by decide) (hs : swapsWith e (some (.Subscript (.Name x p) i pos')) pos.line X.env = pure false := by rfl) :
    PSd X Z (.Assign [.Subscript (.Name x p) i pos'] e pos) (c + ci) (wPutD j f fi) := by
  refine ⟨fun D D' env l h => he.mono _ _ _ (fun d e1 h => ⟨h.1, hi.mono _ _ _ (fun y e2 h => h.imp (fun ⟨b, kvs, k, h1, h2, h3, h4⟩ => ⟨b, kvs, k, h1, h2, h3, l.nx _ h4⟩) fun ⟨b, kvs, k, h1, h2, h3, h4⟩ => ⟨b, kvs, k, h1, h2, h3, l.nx _ h4⟩) h.2⟩) h, PS_imp (ps_dput hu (pe_var hN hv hd hcd) hi.run he.run hs) fun D σ H ⟨B, F, n, env, hn, S, h⟩ => ?_⟩
  refine bindD he.mono (by omega) S h fun d e1 v H1 F1 g S1 x1 hvd => ?_
  obtain ⟨⟨b0, c0, e0⟩, g⟩ := g
  obtain ⟨a, ea, hF, _⟩ := S1.own e0
  refine ⟨_, ea, bindD hi.mono (by omega) S1 g fun y e2 u H2 F2 g2 S2 x2 hu2 => ?_⟩
  rcases g2 with ⟨b, kvs, k, e3, hk, hl, q⟩ | ⟨b, kvs, k, e3, hk, hl, q⟩
  · obtain ⟨a', ea', hF', ⟨us, h1', h2', h3'⟩, _⟩ := S2.own e3
    rw [ea] at ea'
    cases ea'
    have hkv : HKV X.K F2 us kvs := ⟨h2', h3'⟩
    have hp := hkv.put k (hvd.mono x2)
    refine ⟨a, _, rfl, .inl ⟨us, k, h1', hu2.key hk, by rw [hkv.length, line_eq]; exact hl, rfl⟩, ?_⟩
    have S3 := S2.write e3 ea (o := .dK (putK us k v)) (c' := .k (putD kvs k d)) ⟨_, upd_same, hp.1, hp.2⟩
    rw [Nat.add_assoc] at S3
    exact q σ _ F2 S3 (x1.trans x2)
  · obtain ⟨a', ea', hF', ⟨us, h1', h2', h3'⟩, _⟩ := S2.own e3
    rw [ea] at ea'
    cases ea'
    have hkv : HKV X.K F2 us kvs := ⟨h2', h3'⟩
    have hp := hkv.put k (hvd.mono x2)
    obtain ⟨b2, eb, hb2⟩ := hu2.tkey hk
    refine ⟨a, _, rfl, .inr ⟨us, k, b2, h1', eb, S2.same _ _ hb2, by rw [hkv.length, line_eq]; exact hl, rfl⟩, ?_⟩
    have S3 := S2.write e3 ea (o := .dT (putK us k v)) (c' := .t (putD kvs k d)) ⟨_, upd_same, hp.1, hp.2⟩
    rw [Nat.add_assoc] at S3
    exact q σ _ F2 S3 (x1.trans x2)
end
end DL
set_option maxRecDepth 100000
set_option maxHeartbeats 4000000
namespace DL
open PySem PySem.Spec PyProof.Rows L2

/-! ### slices -/
def cutD (xs : List DV) (lo hi : Option Int) : List DV := (xs.drop (HT.sIx xs.length 0 lo)).take (HT.sIx xs.length xs.length hi - HT.sIx xs.length 0 lo)
abbrev DO := List Cell → (Option Int → List Cell → Prop) → Prop
def tDo (K : PySem.W.Frag) (Z : ZX) (c : Nat) (f : DO) : TO := fun σ H Q => ∃ B F n env, n + c ≤ Z.M ∧ SOk B K Z F H n σ env ∧ f env fun r env' => ∀ H' F', SOk B K Z F' H' (n + c) σ env' → Ext F F' → Q r H'
structure POd (X : Cx) (Z : ZX) (e : Option Expr) (c : Nat) (f : DO) : Prop where
  mono : MonoC f
  run : PO X e (tDo X.K Z c f)
def oNone : DO := fun env Q => Q none env
def oSome (f : DD) : DO := fun env Q => f env fun d e => match d with
  | .int i => Q (some i) e
  | _ => False
theorem PO_imp {X : Cx} {e : Option Expr} {t t' : TO} (h : PO X e t) (i : ∀ σ H Q, t' σ H Q → t σ H Q) : PO X e t' := ⟨fun pins s σ H Q I q => h.run pins s σ H Q I (i _ _ _ q)⟩
section
variable {K : PySem.W.Frag} {Z : ZX} {c : Nat} {B : Base} {F H : Hp} {n : Nat} {σ : L2.St} {env : List Cell}
theorem bindO {f : DO} {G : Option Int → List Cell → Prop} {R : Option Int → Hp → Prop} (m : MonoC f) (hn : n + c ≤ Z.M) (S : SOk B K Z F H n σ env) (h : f env G)
    (k : ∀ d env' H' F', G d env' → SOk B K Z F' H' (n + c) σ env' → Ext F F' → R d H') : tDo K Z c f σ H R :=
  ⟨B, F, n, env, hn, S, m _ _ _ (fun d e g H' F' S' x => k d e H' F' g S' x) h⟩
end
theorem HoldAll.cut {K : PySem.W.Frag} {F : Hp} {vs : List V} {xs : List DV} (h : HoldAll K F vs xs) (lo hi : Option Int) : HoldAll K F (cutV vs lo hi) (cutD xs lo hi) := by
  unfold cutV cutD
  rw [h.length]
  exact (h.drop _).take _
def gSl : DV → Option Int → Option Int → (Cell → Prop) → Prop := fun x lo hi Q => match x with
  | .lst xs => Q (.o false (.l (cutD xs lo hi)))
  | .tup xs => Q (.d (.tup (cutD xs lo hi)))
  | .ktup xs => (¬ (HT.sIx xs.length 0 lo = 0 ∧ HT.sIx xs.length xs.length hi = xs.length)) ∧ Q (.d (.tup (cutD xs lo hi)))
  | .str z => z.length ≤ sizeLine ∧ Q (.d (.str (cutS z lo hi)))
  | _ => False
def rSlAll (K : PySem.W.Frag) : V → Option Int → Option Int → Hp → VK → Prop := fun x lo hi H Q => rSlL K x lo hi H Q ∨ rSlA K x lo hi H Q ∨ rSlS x lo hi H Q
theorem sl_all {X : Cx} : SlR X (rSlAll X.K) := sl_list.or (sl_tupA.or sl_str)
theorem cut_whole {xs : List V} {lo hi : Option Int} (h : HT.sIx xs.length 0 lo = 0 ∧ HT.sIx xs.length xs.length hi = xs.length) : cutV xs lo hi = xs := by
  unfold cutV
  rw [h.1, h.2]
  simp
theorem slD_ok {B : Base} {K : PySem.W.Frag} {Z : ZX} {F H : Hp} {n : Nat} {σ : L2.St} {env : List Cell} {v : V} {x : DV} {lo hi : Option Int} {Q : VK} (S : SOk B K Z F H n σ env) (hv : View K F H n v x)
    (g : gSl x lo hi fun c => ∀ w H' F', SOk B K Z F' H' n σ env → Ext F F' → Res B K F' H' n σ env w c → Q w H') : rSlAll K v lo hi H Q := by
  cases x with
  | lst xs =>
    obtain ⟨a, vs, rfl, h1, h2⟩ := hv.lst S.same
    refine .inl ⟨a, vs, rfl, SqL.of h1, fun p hp => ?_⟩
    obtain ⟨S', r⟩ := new_lst S (h2.cut lo hi) hp
    exact g _ _ F S' (Ext.refl _) r
  | tup xs =>
    obtain ⟨a, vs, rfl, h1, h2⟩ := hv.tup
    refine .inr (.inl ⟨a, vs, rfl, SqT.of (S.same _ _ h1), fun z => ?_, fun z p hp => ?_⟩)
    · refine g _ H F S (Ext.refl _) (Res.dat ?_)
      have e := cut_whole z
      have hh := h2.cut lo hi
      rw [e] at hh
      exact .tup h1 hh
    · obtain ⟨F', S', x', h'⟩ := new_tup S (h2.cut lo hi) hp
      exact g _ _ F' S' x' (Res.dat h')
  | ktup xs =>
    obtain ⟨a, vs, rfl, h1, h2⟩ := hv.ktup
    obtain ⟨gn, g⟩ := g
    rw [← h2.length] at gn
    refine .inr (.inl ⟨a, vs, rfl, sqT_mono (Ext.of S.same) h1, fun z => absurd z gn, fun z p hp => ?_⟩)
    obtain ⟨F', S', x', h'⟩ := new_tup S (h2.cut lo hi) hp
    exact g _ _ F' S' x' (Res.dat h')
  | str z =>
    have e0 := hv.str
    subst e0
    exact .inr (.inr ⟨z, rfl, g.1, g.2 _ H F S (Ext.refl _) (Res.dat (.str _))⟩)
  | _ => exact g.elim
theorem mono_gSl {x : DV} {lo hi : Option Int} {Q Q' : Cell → Prop} (q : ∀ c, Q c → Q' c) (g : gSl x lo hi Q) : gSl x lo hi Q' := by
  cases x <;> first | exact q _ g | exact ⟨g.1, q _ g.2⟩ | exact g
def dSl (f : DD) (l h : DO) : DE := fun env Q => f env fun x e => l e fun lo e1 => h e1 fun hi e2 => gSl x lo hi fun c => Q c e2
def dSlN (j : Nat) (l h : DO) : DE := fun env Q => (match env[j]? with
  | some (.d _) => True
  | some (.o _ _) => True
  | _ => False) ∧ l env fun lo e1 => h e1 fun hi e2 => optP ((e2[j]?).bind Cell.view) fun x => gSl x lo hi fun c => Q c e2
def dRev (f : DD) : DE := fun env Q => f env fun x e => match x with
  | .lst xs => Q (.o false (.l xs.reverse)) e
  | _ => False
section
variable {X : Cx} {Z : ZX} {e : Expr} {lo hi : Option Expr} {c cl ch : Nat} {f : DD} {l h : DO} {pos p2 : Pos}
theorem poNone : POd X Z none 0 oNone := ⟨fun _ _ _ q g => q _ _ g, PO_imp po_none fun σ H Q ⟨B, F, n, env, hn, S, g⟩ => g H F S (Ext.refl _)⟩
theorem poSome (he : PEd X Z e c f) : POd X Z (some e) c (oSome f) := by
  refine ⟨fun env Q Q' q g => he.mono _ _ _ (fun d e g => ?_) g, PO_imp (po_some he.run) fun σ H Q ⟨B, F, n, env, hn, S, g⟩ => bindD he.mono hn S g fun d e v H1 F1 g1 S1 x1 hv => ?_⟩
  · cases d <;> first | exact q _ _ g | exact g
  · cases hv <;> first | exact g1.elim | exact ⟨_, rfl, g1 H1 F1 S1 x1⟩
/-- a[lo:hi] -/
theorem pcSlD (he : PEd X Z e c f) (hl : POd X Z lo cl l) (hh : POd X Z hi ch h) : PEc X Z (.Subscript e (.Slice lo hi none p2) pos) (c + cl + ch) (dSl f l h) := by
  refine ⟨fun env Q Q' q g => he.mono _ _ _ (fun x e g => hl.mono _ _ _ (fun lo e1 g => hh.mono _ _ _ (fun hi e2 g => mono_gSl (fun c => q _ _) g) g) g) g, PE_imp (pe_slice sl_all he.run hl.run hh.run) fun σ H Q ⟨B, F, n, env, hn, S, g⟩ => ?_⟩
  refine bindD he.mono (by omega) S g fun x e v H1 F1 g1 S1 x1 hv => bindO hl.mono (by omega) S1 g1 fun lo e1 H2 F2 g2 S2 x2 => bindO hh.mono (by omega) S2 g2 fun hi e2 H3 F3 g3 S3 x3 => ?_
  rw [show n + c + cl + ch = n + (c + cl + ch) by omega] at S3
  exact slD_ok S3 (.inl (hv.mono (x2.trans x3))) (mono_gSl (fun c q w H' F' S' x' r => q w H' F' S' ((x1.trans (x2.trans x3)).trans x') r) g3)
theorem pcSlN (j : Nat) {x : Str} {p : Pos} (hl : POd X Z lo cl l) (hh : POd X Z hi ch h) (hN : X.N[j]? = some x := by rfl) (hv : Vis X.env.scope x := by first | exact Or.inl rfl | exact Or.inr (Or.inl rfl) | exact Or.inr (Or.inr rfl)) (hd : (x == ("__debug__" : Str)) = false := by decide)
    (hcd : (x == ("__classdict__" : Str)) = false := by decide) : PEc X Z (.Subscript (.Name x p) (.Slice lo hi none p2) pos) (cl + ch) (dSlN j l h) := by
  refine ⟨fun env Q Q' q g => ⟨g.1, hl.mono _ _ _ (fun lo e1 g => hh.mono _ _ _ (fun hi e2 g => optP_mono (fun x g => mono_gSl (fun c => q _ _) g) g) g) g.2⟩, PE_imp (pe_slice sl_all (pe_var hN hv hd hcd) hl.run hh.run) fun σ H Q ⟨B, F, n, env, hn, S, h0, g⟩ => ?_⟩
  have hv0 : ∃ v, σ[j]? = some (some v) := by
    split at h0
    · rename_i z e
      obtain ⟨v, e1, _⟩ := S.dat e
      exact ⟨v, e1⟩
    · rename_i z w e
      obtain ⟨a, e1, _⟩ := S.own e
      exact ⟨_, e1⟩
    · exact h0.elim
  obtain ⟨v, ev⟩ := hv0
  refine ⟨v, ev, bindO hl.mono (by omega) S g fun lo e1 H2 F2 g2 S2 x2 => bindO hh.mono (by omega) S2 g2 fun hi e2 H3 F3 g3 S3 x3 => ?_⟩
  rw [Nat.add_assoc] at S3
  obtain ⟨x, e, g3⟩ := optP_some g3
  obtain ⟨c, ec, hc⟩ := bind_view e
  obtain ⟨v', e1, vw⟩ := S3.view ec hc
  rw [ev] at e1
  cases e1
  exact slD_ok S3 vw (mono_gSl (fun c q w H' F' S' x' r => q w H' F' S' ((x2.trans x3).trans x') r) g3)
theorem pcRev {k : Nat} {p1 p3 : Pos} (he : PVd X Z e c f) : PEc X Z (.Subscript e (.Slice none none (some (.UnaryOp .USub (.Constant (.int 1) k p1) p2)) p3) pos) c (dRev f) := by
  refine ⟨fun env Q Q' q g => he.mono _ _ _ (fun x e g => ?_) g, PE_imp (pe_revL he.run) fun σ H Q ⟨B, F, n, env, hn, S, g⟩ => bindV he.mono hn S g fun x e v H1 F1 g1 S1 x1 hv => ?_⟩
  · cases x <;> first | exact q _ _ g | exact g
  · cases x with
    | lst xs =>
      obtain ⟨a, vs, rfl, h1, h2⟩ := hv.lst S1.same
      refine ⟨a, vs, rfl, SqL.of h1, fun p hp => ?_⟩
      obtain ⟨S', r⟩ := new_lst S1 h2.reverse hp
      exact g1 _ _ F1 S' x1 r
    | _ => exact g1.elim
end

/-! ### comparisons whose right side is read at once -/
def Op2v (K : PySem.W.Frag) (r : R2) (g : DV → DV → (Bool → Prop) → Prop) : Prop :=
  (∀ x y Q Q', (∀ c, Q c → Q' c) → g x y Q → g x y Q') ∧
  ∀ B Z F H n σ env v u x y Q, SOk B K Z F H n σ env → Hold K F v x → View K F H n u y → g x y (fun b => Q (.bl b) H) → r v u H Q
def dCmpV (g : DV → DV → (Bool → Prop) → Prop) (fa fb : DD) : DT := fun env Q => fa env fun x e1 => fb e1 fun y e2 => g x y fun b => Q b e2
def dBlV (t : DT) : DD := fun env Q => t env fun b e => Q (.bl b) e
section
variable {X : Cx} {Z : ZX} {a b : Expr} {ca cb : Nat} {fa fb : DD} {pos : Pos} {op : CmpOp} {r : R2} {g : DV → DV → (Bool → Prop) → Prop}
theorem mono_cmpV (hr : Op2v X.K r g) (ma : MonoC fa) (mb : MonoC fb) : MonoC (dCmpV g fa fb) := fun env Q Q' q h => ma _ _ _ (fun x e1 h => mb _ _ _ (fun y e2 h => hr.1 _ _ _ _ (fun b => q _ _) h) h) h
theorem cmpV_run (hr : Op2v X.K r g) (ha : PEd X Z a ca fa) (hb : PVd X Z b cb fb) {σ : L2.St} {H : Hp} {R : V → Hp → Prop} {Q : Bool → Hp → Prop} (hQ : ∀ b H, Q b H → R (.bl b) H) (h : tDt X.K Z (ca + cb) (dCmpV g fa fb) σ H Q) :
    tOp r (tDd X.K Z ca fa) (tDv X.K Z cb fb) σ H R := by
  obtain ⟨B, F, n, env, hn, S, h⟩ := h
  refine bindD ha.mono (by omega) S h fun x e1 v H1 F1 h1 S1 x1 hv => bindV hb.mono (by omega) S1 h1 fun y e2 u H2 F2 h2 S2 x2 hu => ?_
  refine hr.2 B Z F2 H2 (n + ca + cb) σ e2 v u x y R S2 (hv.mono x2) hu (hr.1 _ _ _ _ (fun b q => hQ _ _ ?_) h2)
  rw [Nat.add_assoc] at S2
  exact q H2 F2 S2 (x1.trans x2)
theorem ptCmpV (ho : OpR X (compareOp op) r) (hr : Op2v X.K r g) (ha : PEd X Z a ca fa) (hb : PVd X Z b cb fb) (hm : behindInMarks op b = false := by first | exact nomark _ | rfl) : PTd X Z (.Compare a [op] [b] pos) (ca + cb) (dCmpV g fa fb) :=
  ⟨mono_cmpV hr ha.mono hb.mono, PT_imp (pt_cmpR ho ha.run hb.run hm) fun σ H Q h => cmpV_run hr ha hb (R := fun x H' => ∃ k, x = .bl k ∧ Q k H') (fun b H q => ⟨b, rfl, q⟩) h⟩
theorem pdCmpV (ho : OpR X (compareOp op) r) (hr : Op2v X.K r g) (ha : PEd X Z a ca fa) (hb : PVd X Z b cb fb) (hm : behindInMarks op b = false := by first | exact nomark _ | rfl) : PEd X Z (.Compare a [op] [b] pos) (ca + cb) (dBlV (dCmpV g fa fb)) :=
  ⟨fun env Q Q' q h => mono_cmpV hr ha.mono hb.mono _ _ _ (fun b e => q _ _) h, PE_imp (pe_cmpR ho ha.run hb.run hm) fun σ H Q ⟨B, F, n, env, hn, S, h⟩ => cmpV_run hr ha hb (fun b H q => q) ⟨B, F, n, env, hn, S, mono_cmpV hr ha.mono hb.mono _ _ _ (fun b e q H' F' S' x' => q _ H' F' S' x' (.bl b)) h⟩⟩
end
end DL
set_option maxRecDepth 100000
set_option maxHeartbeats 4000000
namespace DL
open PySem PySem.Spec PyProof.Rows L2

/-! ### in, not in -/
def flatD : DV → Bool
  | .non => true
  | .bl _ => true
  | .int _ => true
  | .str _ => true
  | _ => false
def eqF : DV → DV → Bool
  | .non, .non => true
  | .bl a, .bl b => a == b
  | .bl a, .int b => (if a then 1 else 0) == b
  | .int a, .bl b => a == (if b then 1 else 0)
  | .int a, .int b => a == b
  | .str a, .str b => a == b
  | _, _ => false
section
variable {K : PySem.W.Frag} {F : Hp}
theorem flat_of {v : V} {d : DV} (h : Hold K F v d) (e : flatD d = true) : flatV v = true := by cases h <;> first | rfl | cases e
theorem eqF_of {v u : V} {x y : DV} (h : Hold K F v x) (g : Hold K F u y) (e : flatD x = true) (e' : flatD y = true) : eqV v u = eqF x y := by
  cases h <;> first | (cases g <;> first | rfl | cases e') | cases e
theorem flats_of : ∀ {vs : List V} {ds : List DV}, HoldAll K F vs ds → ds.all flatD = true → vs.all flatV = true
  | _, _, .nil, _ => rfl
  | _, _, .cons h t, e => by
    rw [List.all_cons, Bool.and_eq_true] at e ⊢
    exact ⟨flat_of h e.1, flats_of t e.2⟩
theorem inF_of {v : V} {x : DV} (h : Hold K F v x) (e : flatD x = true) : ∀ {vs : List V} {ds : List DV}, HoldAll K F vs ds → ds.all flatD = true → inV v vs = ds.any fun y => eqF y x
  | _, _, .nil, _ => rfl
  | _, _, .cons g t, e' => by
    rw [List.all_cons, Bool.and_eq_true] at e'
    have := inF_of h e t e'.2
    unfold inV at this ⊢
    rw [List.any_cons, List.any_cons, this, eqF_of g h e'.1 e]
end
def xorB (neg b : Bool) : Bool := if neg then !b else b
def inD (x : DV) : DV → Option Bool
  | .dk kvs => x.key.map fun k => (valD kvs k).isSome
  | .dt kvs => x.tkey.map fun k => (valD kvs k).isSome
  | .lst xs => if x.ok 60 = true ∧ (DV.lst xs).ok 60 = true then some (xs.any fun z => eqD z x) else none
  | .tup xs => if flatD x = true ∧ xs.all flatD = true then some (xs.any fun z => eqF z x) else none
  | .ktup xs => if flatD x = true ∧ xs.all flatD = true then some (xs.any fun z => eqF z x) else none
  | .str z => match x with
    | .str y => some (!(Builtin.Str.occurrences z y 0 z.length 1).isEmpty)
    | _ => none
  | _ => none
def gIn (neg : Bool) : DV → DV → (Bool → Prop) → Prop := fun x y Q => optP (inD x y) fun b => Q (xorB neg b)
def rInAll (K : PySem.W.Frag) (neg : Bool) : R2 := fun x y H Q => (∃ a o, y = .ref a ∧ DGet H a x o ∧ Q (.bl (xorB neg o.isSome)) H) ∨
  (∃ d ds, Dp K H x d ∧ Dp K H y (.list ds) ∧ SeqAt.shaped d = true ∧ SeqAt.shaped (.list ds) = true ∧ Q (.bl (xorB neg (ds.any fun z => PyData.eqv z d))) H) ∨ rIn K neg x y H Q ∨
  (∃ i j, x = .str i ∧ y = .str j ∧ Q (.bl (xorB neg (!(Builtin.Str.occurrences j i 0 j.length 1).isEmpty))) H)
section
variable {X : Cx}
theorem op_inDict (hu : X.A.units + 65 < cLine) : OpR X (compareOp .In) (fun x y H Q => ∃ a o, y = .ref a ∧ DGet H a x o ∧ Q (.bl o.isSome) H) := by
  intro pins s σ H x y v u Q I rx ry h
  obtain ⟨a, o, rfl, g, q⟩ := h
  obtain rfl : u = .ref a := ry
  exact d_in (by omega) I g rx fun s' I' => ⟨.bl o.isSome, H, I', rfl, q⟩
theorem op_notInDict (hu : X.A.units + 65 < cLine) : OpR X (compareOp .NotIn) (fun x y H Q => ∃ a o, y = .ref a ∧ DGet H a x o ∧ Q (.bl (!o.isSome)) H) := by
  intro pins s σ H x y v u Q I rx ry h
  obtain ⟨a, o, rfl, g, q⟩ := h
  obtain rfl : u = .ref a := ry
  exact d_notIn (by omega) I g rx fun s' I' => ⟨.bl (!o.isSome), H, I', rfl, q⟩
theorem op_inAll (hu : X.A.units + 65 < cLine) : OpR X (compareOp .In) (rInAll X.K false) := OpR.or (op_inDict hu) (OpR.or (op_inD hu) (OpR.or op_in_seq op_in_str))
theorem op_notInAll (hu : X.A.units + 65 < cLine) : OpR X (compareOp .NotIn) (rInAll X.K true) := OpR.or (op_notInDict hu) (OpR.or (op_notInD hu) (OpR.or op_notIn_seq op_notin_str))
end
theorem pyAny_map (xs : List DV) (p : PyData) : (pyAll xs).any (fun z => PyData.eqv z p) = xs.any fun z => PyData.eqv z.py p := by
  rw [pyAll_map, List.any_map]
  rfl
theorem view_hold_lst {K : PySem.W.Frag} {F H : Hp} {n : Nat} {v : V} {xs : List DV} (s : Same F H) (h : View K F H n v (.lst xs)) (e : (DV.lst xs).ok 60 = true) : Dp K H v (.list (pyAll xs)) := by
  obtain ⟨a, vs, rfl, h1, h2⟩ := h.lst s
  refine .lst (.inl (.inl h1)) ?_
  refine DpAll_mono s (dpAll_of h2 59 fun d hd => ?_)
  exact (List.all_eq_true.mp (show xs.all (DV.ok 59) = true from e)) d hd
theorem op2In {K : PySem.W.Frag} {neg : Bool} : Op2v K (rInAll K neg) (gIn neg) := by
  refine ⟨fun x y Q Q' q g => optP_mono (fun b => q _) g, fun B Z F H n σ env v u x y Q S hv hu g => ?_⟩
  obtain ⟨b, eb, g⟩ := optP_some g
  have dict : ∀ {r : Option DV}, lookD y x = some r → r.isSome = b → rInAll K neg v u H Q := fun {r} e hb => by
    obtain ⟨a, o, rfl, g1, _, _, g4⟩ := lookD_ok S.same hu hv e
    exact .inl ⟨a, o, rfl, g1, by rw [g4, hb]; exact g⟩
  have flat : ∀ {a : Addr} {vs : List V} {xs : List DV}, u = .ref a → SqT K H a vs → HoldAll K F vs xs → flatD x = true ∧ xs.all flatD = true → (xs.any fun z => eqF z x) = b → rInAll K neg v u H Q := fun {a vs xs} e h1 h2 hf hb => by
    subst e
    refine .inr (.inr (.inl ⟨a, vs, rfl, .inr h1, flat_of hv hf.1, flats_of h2 hf.2, ?_⟩))
    rw [inF_of hv hf.1 h2 hf.2, hb]
    exact g
  cases y with
  | dk kvs =>
    obtain ⟨k, ek, e2⟩ := Option.map_eq_some_iff.mp (show x.key.map (fun k => (valD kvs k).isSome) = some b from eb)
    exact dict (r := valD kvs k) (by rw [lookD, ek]; rfl) e2
  | dt kvs =>
    obtain ⟨k, ek, e2⟩ := Option.map_eq_some_iff.mp (show x.tkey.map (fun k => (valD kvs k).isSome) = some b from eb)
    exact dict (r := valD kvs k) (by rw [lookD, ek]; rfl) e2
  | lst xs =>
    have eb : (if x.ok 60 = true ∧ (DV.lst xs).ok 60 = true then some (xs.any fun z => eqD z x) else none) = some b := eb
    by_cases hc : x.ok 60 = true ∧ (DV.lst xs).ok 60 = true
    · rw [if_pos hc] at eb
      cases eb
      refine .inr (.inl ⟨x.py, pyAll xs, Dp_mono S.same (dp_of hv 60 hc.1), view_hold_lst S.same hu hc.2, shaped_of_ok hc.1, ?_, ?_⟩)
      · have := shaped_of_ok hc.2
        rwa [DV.py] at this
      · rw [pyAny_map]
        exact g
    · rw [if_neg hc] at eb
      cases eb
  | tup xs =>
    have eb : (if flatD x = true ∧ xs.all flatD = true then some (xs.any fun z => eqF z x) else none) = some b := eb
    by_cases hc : flatD x = true ∧ xs.all flatD = true
    · rw [if_pos hc] at eb
      obtain ⟨a, vs, e, h1, h2⟩ := hu.tup
      exact flat e (SqT.of (S.same _ _ h1)) h2 hc (Option.some.inj eb)
    · rw [if_neg hc] at eb
      cases eb
  | ktup xs =>
    have eb : (if flatD x = true ∧ xs.all flatD = true then some (xs.any fun z => eqF z x) else none) = some b := eb
    by_cases hc : flatD x = true ∧ xs.all flatD = true
    · rw [if_pos hc] at eb
      obtain ⟨a, vs, e, h1, h2⟩ := hu.ktup
      exact flat e (sqT_mono (Ext.of S.same) h1) h2 hc (Option.some.inj eb)
    · rw [if_neg hc] at eb
      cases eb
  | str z =>
    have e0 := hu.str
    subst e0
    cases x with
    | str y =>
      cases hv
      cases eb
      exact .inr (.inr (.inr ⟨_, _, rfl, rfl, g⟩))
    | _ => cases eb
  | _ => cases eb
section
variable {X : Cx} {Z : ZX} {a b c : Expr} {ca cb cc : Nat} {fa fb fc : DD} {pos : Pos}
theorem ptIn (hu : X.A.units + 65 < cLine) (ha : PEd X Z a ca fa) (hb : PVd X Z b cb fb) (hm : behindInMarks .In b = false := by rfl) : PTd X Z (.Compare a [.In] [b] pos) (ca + cb) (dCmpV (gIn false) fa fb) := ptCmpV (op_inAll hu) op2In ha hb hm
theorem ptNotIn (hu : X.A.units + 65 < cLine) (ha : PEd X Z a ca fa) (hb : PVd X Z b cb fb) (hm : behindInMarks .NotIn b = false := by rfl) : PTd X Z (.Compare a [.NotIn] [b] pos) (ca + cb) (dCmpV (gIn true) fa fb) := ptCmpV (op_notInAll hu) op2In ha hb hm
theorem pdIn (hu : X.A.units + 65 < cLine) (ha : PEd X Z a ca fa) (hb : PVd X Z b cb fb) (hm : behindInMarks .In b = false := by rfl) : PEd X Z (.Compare a [.In] [b] pos) (ca + cb) (dBlV (dCmpV (gIn false) fa fb)) := pdCmpV (op_inAll hu) op2In ha hb hm
theorem pdNotIn (hu : X.A.units + 65 < cLine) (ha : PEd X Z a ca fa) (hb : PVd X Z b cb fb) (hm : behindInMarks .NotIn b = false := by rfl) : PEd X Z (.Compare a [.NotIn] [b] pos) (ca + cb) (dBlV (dCmpV (gIn true) fa fb)) := pdCmpV (op_notInAll hu) op2In ha hb hm

/-! ### is -/
def isNon : DV → Bool
  | .non => true
  | _ => false
def dIsN (neg : Bool) (f : DD) : DT := fun env Q => f env fun x e => Q (xorB neg (isNon x)) e
theorem isNon_of {K : PySem.W.Frag} {F H : Hp} {n : Nat} {v : V} {d : DV} (h : View K F H n v d) : decide (v = .non) = isNon d := by
  rcases h with h | ⟨a, oc, rfl, _, e⟩
  · cases h <;> rfl
  · cases oc <;> cases e <;> rfl
theorem ptIsN {j : Nat} {p1 : Pos} (ha : PVd X Z a ca fa) : PTd X Z (.Compare a [.Is] [.Constant .none j p1] pos) ca (dIsN false fa) :=
  ⟨fun env Q Q' q h => ha.mono _ _ _ (fun x e => q _ _) h, PT_imp (pt_cmpR op_isN ha.run pe_non (nomark _)) fun σ H Q ⟨B, F, n, env, hn, S, h⟩ => bindV ha.mono hn S h fun x e v H1 F1 h1 S1 x1 hv => ⟨rfl, _, rfl, by rw [isNon_of hv]; exact h1 H1 F1 S1 x1⟩⟩
theorem ptNotN {j : Nat} {p1 : Pos} (ha : PVd X Z a ca fa) : PTd X Z (.Compare a [.IsNot] [.Constant .none j p1] pos) ca (dIsN true fa) :=
  ⟨fun env Q Q' q h => ha.mono _ _ _ (fun x e => q _ _) h, PT_imp (pt_cmpR op_notN ha.run pe_non (nomark _)) fun σ H Q ⟨B, F, n, env, hn, S, h⟩ => bindV ha.mono hn S h fun x e v H1 F1 h1 S1 x1 hv => ⟨rfl, _, rfl, by rw [isNon_of hv]; exact h1 H1 F1 S1 x1⟩⟩
theorem pdIsN {j : Nat} {p1 : Pos} (ha : PVd X Z a ca fa) : PEd X Z (.Compare a [.Is] [.Constant .none j p1] pos) ca (dBl (dIsN false fa)) :=
  ⟨fun env Q Q' q h => ha.mono _ _ _ (fun x e => q _ _) h, PE_imp (pe_cmpR op_isN ha.run pe_non (nomark _)) fun σ H Q ⟨B, F, n, env, hn, S, h⟩ => bindV ha.mono hn S h fun x e v H1 F1 h1 S1 x1 hv => ⟨rfl, by rw [isNon_of hv]; exact h1 _ H1 F1 S1 x1 (.bl _)⟩⟩
theorem pdNotN {j : Nat} {p1 : Pos} (ha : PVd X Z a ca fa) : PEd X Z (.Compare a [.IsNot] [.Constant .none j p1] pos) ca (dBl (dIsN true fa)) :=
  ⟨fun env Q Q' q h => ha.mono _ _ _ (fun x e => q _ _) h, PE_imp (pe_cmpR op_notN ha.run pe_non (nomark _)) fun σ H Q ⟨B, F, n, env, hn, S, h⟩ => bindV ha.mono hn S h fun x e v H1 F1 h1 S1 x1 hv => ⟨rfl, by rw [isNon_of hv]; exact h1 _ H1 F1 S1 x1 (.bl _)⟩⟩
/-- x is True, x is False, x a bool -/
def gIsB (neg : Bool) : DV → DV → (Bool → Prop) → Prop := fun x y Q => match x, y with
  | .bl a, .bl b => Q (xorB neg (decide (a = b)))
  | _, _ => False
theorem opIsB {K : PySem.W.Frag} : OpB K rIsB (gIsB false) := by
  refine ⟨fun x y Q Q' q g => ?_, fun F H v u x y Q S hv hu g => ?_⟩
  · cases x <;> cases y <;> first | exact q _ g | exact g
  · cases hv <;> first | (cases hu <;> first | exact ⟨_, _, rfl, rfl, g⟩ | exact g.elim) | exact (by cases y <;> exact g.elim)
theorem opNotB {K : PySem.W.Frag} : OpB K rNotB (gIsB true) := by
  refine ⟨fun x y Q Q' q g => ?_, fun F H v u x y Q S hv hu g => ?_⟩
  · cases x <;> cases y <;> first | exact q _ g | exact g
  · cases hv <;> first | (cases hu <;> first | exact ⟨_, _, rfl, rfl, g⟩ | exact g.elim) | exact (by cases y <;> exact g.elim)
theorem ptIsB (ha : PEd X Z a ca fa) (hb : PEd X Z b cb fb) : PTd X Z (.Compare a [.Is] [b] pos) (ca + cb) (dCmp (gIsB false) fa fb) := ptCmpR op_isBl opIsB (nomark _) ha hb
theorem ptNotB (ha : PEd X Z a ca fa) (hb : PEd X Z b cb fb) : PTd X Z (.Compare a [.IsNot] [b] pos) (ca + cb) (dCmp (gIsB true) fa fb) := ptCmpR op_notBl opNotB (nomark _) ha hb
theorem pdIsB (ha : PEd X Z a ca fa) (hb : PEd X Z b cb fb) : PEd X Z (.Compare a [.Is] [b] pos) (ca + cb) (dBl (dCmp (gIsB false) fa fb)) := pdCmpR op_isBl opIsB (nomark _) ha hb
theorem pdNotB (ha : PEd X Z a ca fa) (hb : PEd X Z b cb fb) : PEd X Z (.Compare a [.IsNot] [b] pos) (ca + cb) (dBl (dCmp (gIsB true) fa fb)) := pdCmpR op_notBl opNotB (nomark _) ha hb

/-! ### a < b < c -/
def dChain (g g' : DV → DV → (Bool → Prop) → Prop) (fa fb fc : DD) : DT := fun env Q => fa env fun x e1 => fb e1 fun y e2 => g x y fun k => if k = true then fc e2 fun z e3 => g' y z fun k => Q k e3 else Q false e2
theorem mono_chain {g g' : DV → DV → (Bool → Prop) → Prop} (mg : ∀ x y Q Q', (∀ c, Q c → Q' c) → g x y Q → g x y Q') (mg' : ∀ x y Q Q', (∀ c, Q c → Q' c) → g' x y Q → g' x y Q') (ma : MonoC fa) (mb : MonoC fb) (mc : MonoC fc) : MonoC (dChain g g' fa fb fc) := fun env Q Q' q h =>
  ma _ _ _ (fun x e1 h => mb _ _ _ (fun y e2 h => mg _ _ _ _ (fun k h => by
    cases k with
    | true => exact mc _ _ _ (fun z e3 h => mg' _ _ _ _ (fun k => q _ _) h) h
    | false => exact q _ _ h) h) h) h
theorem chain_run {r r' : R2} {g g' : DV → DV → (Bool → Prop) → Prop} (hr : OpB X.K r g) (hr' : OpB X.K r' g') (ha : PEd X Z a ca fa) (hb : PEd X Z b cb fb) (hc : PEd X Z c cc fc) {σ : L2.St} {H : Hp} {R : V → Hp → Prop} {Q : Bool → Hp → Prop} (hQ : ∀ b H, Q b H → R (.bl b) H)
    (h : tDt X.K Z (ca + cb + cc) (dChain g g' fa fb fc) σ H Q) : tChain r r' (tDd X.K Z ca fa) (tDd X.K Z cb fb) (tDd X.K Z cc fc) σ H R := by
  obtain ⟨B, F, n, env, hn, S, h⟩ := h
  refine bindD ha.mono (by omega) S h fun x e1 v H1 F1 h1 S1 x1 hv => bindD hb.mono (by omega) S1 h1 fun y e2 u H2 F2 h2 S2 x2 hu => ?_
  refine hr.2 F2 H2 v u x y _ S2.same (hv.mono x2) hu (hr.1 _ _ _ _ (fun k q => ⟨k, rfl, ?_⟩) h2)
  cases k with
  | false => exact hQ _ _ (q H2 F2 (S2.mono (by omega)) (x1.trans x2))
  | true =>
    refine bindD hc.mono (by omega) S2 q fun z e3 w H3 F3 h3 S3 x3 hw => ?_
    refine hr'.2 F3 H3 u w y z _ S3.same (hu.mono x3) hw (hr'.1 _ _ _ _ (fun k q => hQ _ _ (q H3 F3 ?_ (x1.trans (x2.trans x3)))) h3)
    rw [show n + ca + cb + cc = n + (ca + cb + cc) by omega] at S3
    exact S3
theorem ptChain {op op' : CmpOp} {r r' : R2} {g g' : DV → DV → (Bool → Prop) → Prop} (ho : OpR X (compareOp op) r) (ho' : OpR X (compareOp op') r') (hr : OpB X.K r g) (hr' : OpB X.K r' g') (ha : PEd X Z a ca fa) (hb : PEd X Z b cb fb) (hc : PEd X Z c cc fc)
    (hm : lastMarks [op, op'] [b, c] = false := by with_unfolding_all rfl) : PTd X Z (.Compare a [op, op'] [b, c] pos) (ca + cb + cc) (dChain g g' fa fb fc) :=
  ⟨mono_chain hr.1 hr'.1 ha.mono hb.mono hc.mono, PT_imp (pt_chain ho ho' ha.run hb.run hc.run hm) fun σ H Q h => chain_run hr hr' ha hb hc (R := fun x H' => ∃ k, x = .bl k ∧ Q k H') (fun b H q => ⟨b, rfl, q⟩) h⟩
theorem pdChain {op op' : CmpOp} {r r' : R2} {g g' : DV → DV → (Bool → Prop) → Prop} (ho : OpR X (compareOp op) r) (ho' : OpR X (compareOp op') r') (hr : OpB X.K r g) (hr' : OpB X.K r' g') (ha : PEd X Z a ca fa) (hb : PEd X Z b cb fb) (hc : PEd X Z c cc fc)
    (hm : lastMarks [op, op'] [b, c] = false := by with_unfolding_all rfl) : PEd X Z (.Compare a [op, op'] [b, c] pos) (ca + cb + cc) (dBl (dChain g g' fa fb fc)) :=
  ⟨fun env Q Q' q h => mono_chain hr.1 hr'.1 ha.mono hb.mono hc.mono _ _ _ (fun k e => q _ _) h, PE_imp (pe_chain ho ho' ha.run hb.run hc.run hm) fun σ H Q ⟨B, F, n, env, hn, S, h⟩ => chain_run hr hr' ha hb hc (fun b H q => q) ⟨B, F, n, env, hn, S, mono_chain hr.1 hr'.1 ha.mono hb.mono hc.mono _ _ _ (fun b e q H' F' S' x' => q _ H' F' S' x' (.bl b)) h⟩⟩

/-! ### d.get -/
def dGet1 (fa fb : DD) : DD := fun env Q => fa env fun x e1 => fb e1 fun y e2 => optP (lookD x y) fun r => Q (r.getD .non) e2
def dGet2 (fa fb fc : DD) : DD := fun env Q => fa env fun x e1 => fb e1 fun y e2 => fc e2 fun z e3 => optP (lookD x y) fun r => Q (r.getD z) e3
def isDk (env : List Cell) (j : Nat) : Prop := match env[j]? with
  | some (.d (.dk _)) => True
  | some (.d (.dt _)) => True
  | some (.o _ (.k _)) => True
  | some (.o _ (.t _)) => True
  | _ => False
def dGetN1 (j : Nat) (fb : DD) : DD := fun env Q => isDk env j ∧ fb env fun y e2 => optP ((e2[j]?).bind Cell.view) fun x => optP (lookD x y) fun r => Q (r.getD .non) e2
def dGetN2 (j : Nat) (fb fc : DD) : DD := fun env Q => isDk env j ∧ fb env fun y e2 => fc e2 fun z e3 => optP ((e3[j]?).bind Cell.view) fun x => optP (lookD x y) fun r => Q (r.getD z) e3
theorem isDk_at {B : Base} {K : PySem.W.Frag} {F H : Hp} {n : Nat} {σ : L2.St} {env : List Cell} {j : Nat} (S : SOk B K Z F H n σ env) (h : isDk env j) : ∃ a, σ[j]? = some (some (.ref a)) ∧ IsD H a := by
  unfold isDk at h
  split at h
  · rename_i kvs e
    obtain ⟨v, e1, hv⟩ := S.dat e
    cases hv with
    | dk h1 _ _ => exact ⟨_, e1, .inl ⟨_, (Ext.of S.same).rd h1⟩⟩
  · rename_i kvs e
    obtain ⟨v, e1, hv⟩ := S.dat e
    cases hv with
    | dt h1 _ _ => exact ⟨_, e1, .inr ⟨_, (Ext.of S.same).rd h1⟩⟩
  · rename_i b kvs e
    obtain ⟨a, e1, _, ⟨us, h1, _⟩, _⟩ := S.own e
    exact ⟨a, e1, .inl ⟨us, .inl h1⟩⟩
  · rename_i b kvs e
    obtain ⟨a, e1, _, ⟨us, h1, _⟩, _⟩ := S.own e
    exact ⟨a, e1, .inr ⟨us, .inl h1⟩⟩
  · exact h.elim
theorem getD_hold {K : PySem.W.Frag} {F : Hp} {o : Option V} {r : Option DV} {v : V} {d : DV} (h1 : ∀ w, o = some w → ∃ d, r = some d ∧ Hold K F w d) (h2 : o.isSome = r.isSome) (h : Hold K F v d) : Hold K F (o.getD v) (r.getD d) := by
  cases o with
  | none =>
    cases r with
    | none => exact h
    | some d => cases h2
  | some w =>
    obtain ⟨d', rfl, h'⟩ := h1 w rfl
    exact h'
theorem pdGetN1 (j : Nat) {x : Str} {p apos cpos : Pos} (hu : X.A.units + 1 < cLine) (hb : PEd X Z b cb fb) (m : M1 X (.Name x p) "get" apos b cpos) (hN : X.N[j]? = some x := by rfl) (hv : Vis X.env.scope x := by first | exact Or.inl rfl | exact Or.inr (Or.inl rfl) | exact Or.inr (Or.inr rfl)) (hd : (x == ("__debug__" : Str)) = false := by decide)
    (hcd : (x == ("__classdict__" : Str)) = false := by decide) : PEd X Z (.Call (.Attribute (.Name x p) "get" apos) [b] [] cpos) cb (dGetN1 j fb) := by
  refine ⟨fun env Q Q' q h => ⟨h.1, hb.mono _ _ _ (fun y e2 h => optP_mono (fun x => optP_mono fun r => q _ _) h) h.2⟩, PE_imp (pe_dget1 hu (pe_var hN hv hd hcd) hb.run m) fun σ H Q ⟨B, F, n, env, hn, S, h0, h⟩ => ?_⟩
  obtain ⟨a, ea, hD⟩ := isDk_at S h0
  refine ⟨_, ea, a, rfl, hD, bindD hb.mono hn S h fun y e2 u H2 F2 h2 S2 x2 hu2 => ?_⟩
  obtain ⟨x, e, h2⟩ := optP_some h2
  obtain ⟨r, er, q⟩ := optP_some h2
  obtain ⟨c, ec, hc⟩ := bind_view e
  obtain ⟨v', e1, vw⟩ := S2.view ec hc
  rw [ea] at e1
  cases e1
  obtain ⟨a', o, e', g1, g2, _, g4⟩ := lookD_ok S2.same vw hu2 er
  cases e'
  exact ⟨o, g1, q _ H2 F2 S2 x2 (getD_hold g2 g4 .non)⟩
theorem pdGetN2 (j : Nat) {x : Str} {p apos cpos : Pos} (hu : X.A.units + 1 < cLine) (hb : PEd X Z b cb fb) (hc : PEd X Z c cc fc) (m : M2 X (.Name x p) "get" apos b c cpos) (hN : X.N[j]? = some x := by rfl) (hv : Vis X.env.scope x := by first | exact Or.inl rfl | exact Or.inr (Or.inl rfl) | exact Or.inr (Or.inr rfl)) (hd : (x == ("__debug__" : Str)) = false := by decide)
    (hcd : (x == ("__classdict__" : Str)) = false := by decide) : PEd X Z (.Call (.Attribute (.Name x p) "get" apos) [b, c] [] cpos) (cb + cc) (dGetN2 j fb fc) := by
  refine ⟨fun env Q Q' q h => ⟨h.1, hb.mono _ _ _ (fun y e2 h => hc.mono _ _ _ (fun z e3 h => optP_mono (fun x => optP_mono fun r => q _ _) h) h) h.2⟩, PE_imp (pe_dget2 hu (pe_var hN hv hd hcd) hb.run hc.run m) fun σ H Q ⟨B, F, n, env, hn, S, h0, h⟩ => ?_⟩
  obtain ⟨a, ea, hD⟩ := isDk_at S h0
  refine ⟨_, ea, a, rfl, hD, bindD hb.mono (by omega) S h fun y e2 u H2 F2 h2 S2 x2 hu2 => bindD hc.mono (by omega) S2 h2 fun z e3 w H3 F3 h3 S3 x3 hw => ?_⟩
  rw [Nat.add_assoc] at S3
  obtain ⟨x, e, h3⟩ := optP_some h3
  obtain ⟨r, er, q⟩ := optP_some h3
  obtain ⟨c, ec, hc⟩ := bind_view e
  obtain ⟨v', e1, vw⟩ := S3.view ec hc
  rw [ea] at e1
  cases e1
  obtain ⟨a', o, e', g1, g2, _, g4⟩ := lookD_ok S3.same vw (hu2.mono x3) er
  cases e'
  exact ⟨o, g1, q _ H3 F3 S3 (x2.trans x3) (getD_hold g2 g4 hw)⟩
end
end DL
set_option maxRecDepth 100000
set_option maxHeartbeats 4000000
namespace DL
open PySem PySem.Spec PyProof.Rows L2

/-! ### isinstance -/
/-- a built-in class as a value -/
theorem pdBltn {X : Cx} {Z : ZX} {x : Str} {T : String} {pos : Pos} (hg : Gl X x) (hm : X.mg x = none) (hv : bootBuiltins x = some (.type T)) (hn : x ≠ "__name__" := by decide) (hd : (x == ("__debug__" : Str)) = false := by decide) : PEd X Z (.Name x pos) 0 (dC (.ty T)) :=
  ⟨fun _ _ _ q h => q _ _ h, PE_imp (pe_bltn hg hm hv (v := .ty T) rfl hn hd) fun σ H Q ⟨B, F, n, env, hn, S, h⟩ => h _ H F S (Ext.refl _) (.ty T)⟩
/-- an own class as a value -/
theorem pdCls {X : Cx} {Z : ZX} {x : Str} {C : Addr} {pos : Pos} (hg : Gl X x) (hm : X.mg x = some (.ref C)) (hd : (x == ("__debug__" : Str)) = false := by decide) : PEd X Z (.Name x pos) 0 (dC (.ref C)) :=
  pdGlob (v := .ref C) hg hm (show Value.ref C = Value.ref C from rfl) (fun F => .ref C) hd
def tyNm : DV → Option String
  | .non => some "NoneType"
  | .bl _ => some "bool"
  | .int _ => some "int"
  | .str _ => some "str"
  | .tup _ => some "tuple"
  | .ktup _ => some "tuple"
  | .lst _ => some "list"
  | .dk _ => some "dict"
  | _ => none
theorem tyX_of {K : PySem.W.Frag} {F H : Hp} {v : V} {d : DV} {T : String} (s : Same F H) (h : Hold K F v d) (e : tyNm d = some T) : TyX K H v (.type T) := by
  cases h with
  | non => cases e; exact .base .non
  | bl b => cases e; exact .base (.bl b)
  | int i => cases e; exact .base (.int i)
  | str x => cases e; exact .base (.str x)
  | tup ha _ => cases e; exact .base (.tup (s _ _ ha))
  | ktup h1 h2 _ _ _ _ => cases e; exact .kTuple h1 h2
  | lst ha _ => cases e; exact .base (.lst (s _ _ ha))
  | dk ha _ _ =>
    cases e
    rcases (Ext.of s).rd ha with q | ⟨o, q⟩
    · exact .base (.dK q)
    · exact .fDict q
  | _ => cases e
def anyTy (a : String) : List DV → Option Bool
  | [] => some false
  | .ty n :: r => (kitB a n).bind fun b => (anyTy a r).map fun c => b || c
  | _ :: _ => none
abbrev Rel := DV → Addr → Option Bool
def RelOk (K : PySem.W.Frag) (rel : Rel) : Prop := ∀ x C b, rel x C = some b → ∀ v F H, Same F H → Hold K F v x → ∃ t, TyX K H v t ∧ PySem.W.kitOne K t (.ref C) = some b
def isiD (rel : Rel) (x : DV) : DV → Option Bool
  | .ty n => (tyNm x).bind fun a => kitB a n
  | .tup cs => (tyNm x).bind fun a => anyTy a cs
  | .ref C => rel x C
  | _ => none
def gIsi (rel : Rel) : DV → DV → (DV → Prop) → Prop := fun x y Q => optP (isiD rel x y) fun b => Q (.bl b)
def rIsiAll (K : PySem.W.Frag) : List V → Hp → VK → Prop := fun xs H Q => rIsi K xs H Q ∨ rIsiT K xs H Q
theorem any_ty {K : PySem.W.Frag} {F : Hp} {a : String} : ∀ {vs : List V} {cs : List DV} {b : Bool}, HoldAll K F vs cs → anyTy a cs = some b → ∃ us, Paired ClsV vs us ∧ PySem.W.kitAny K (.type a) us = some b
  | _, _, b, .nil, e => by cases e; exact ⟨[], .nil, rfl⟩
  | _, _, b, .cons (d := d) (ds := ds) h t, e => by
    cases h <;> try cases e
    rename_i n
    obtain ⟨b1, e1, e⟩ := Option.bind_eq_some_iff.mp (show (kitB a n).bind (fun b => (anyTy a ds).map fun c => b || c) = some b from e)
    obtain ⟨b2, e2, e⟩ := Option.map_eq_some_iff.mp e
    obtain ⟨us, h1, h2⟩ := any_ty t e2
    subst e
    refine ⟨.type n :: us, .cons (.ty n) h1, kitAny_cons (kit_ty e1) (fun z => ?_) fun z => ?_⟩
    · subst z; exact h2
    · subst z; rfl
theorem op2Isi {K : PySem.W.Frag} {rel : Rel} (hr : RelOk K rel) : Op2d K (fun v u H Q => rIsiAll K [v, u] H Q) (gIsi rel) := by
  refine ⟨fun x y Q Q' q g => optP_mono (fun b => q _) g, fun B Z F H n σ env v u x y Q S hv hu g => ?_⟩
  obtain ⟨b, eb, g⟩ := optP_some g
  have fin := g (.bl b) H F S (Ext.refl _) (.bl b)
  cases y with
  | ty m =>
    cases hu
    obtain ⟨a, e1, e2⟩ := Option.bind_eq_some_iff.mp (show (tyNm x).bind (fun a => kitB a m) = some b from eb)
    exact .inl ⟨v, _, _, _, b, rfl, .ty m, tyX_of S.same hv e1, kit_ty e2, fin⟩
  | ref C =>
    cases hu
    obtain ⟨t, h1, h2⟩ := hr x C b eb v F H S.same hv
    exact .inl ⟨v, _, t, _, b, rfl, .own C, h1, h2, fin⟩
  | tup cs =>
    obtain ⟨a, e1, e2⟩ := Option.bind_eq_some_iff.mp (show (tyNm x).bind (fun a => anyTy a cs) = some b from eb)
    cases hu with
    | tup ha hx =>
      obtain ⟨us, h1, h2⟩ := any_ty hx e2
      exact .inr ⟨v, _, _, _, us, b, rfl, S.same _ _ ha, h1, tyX_of S.same hv e1, h2, fin⟩
  | _ => cases eb
section
variable {X : Cx} {Z : ZX} {a b : Expr} {ca cb : Nat} {fa fb : DD} {p pos : Pos}
theorem pdIsi {rel : Rel} (hr : RelOk X.K rel) (hg : Gl X "isinstance") (hm : X.mg "isinstance" = none) (ha : PEd X Z a ca fa) (hb : PEd X Z b cb fb) (hs : starEach [a, b] X.env = (false, eval a X.env) :: starEach [b] X.env := by rfl) (hs2 : starEach [b] X.env = (false, eval b X.env) :: starEach [] X.env := by rfl)
    (hpl : (backTo pos (starEach [b] X.env)).any (·.1) = false := by rfl) : PEd X Z (.Call (.Name "isinstance" p) [a, b] [] pos) (ca + cb) (dOp2d (gIsi rel) fa fb) := by
  refine PEd.op2 (op2Isi hr) ha hb (PE_imp (pe_callB (callR_or call_isi call_isiT) hg hm PyProof.Rows.boot_isinstance (pa_cons ha.run (pa_cons hb.run pa_nil hs2) hs) (by decide) (by decide) hs hpl) fun σ H Q h => h)
end

/-! ### fields -/
theorem lookup_hold {K : PySem.W.Frag} {F : Hp} : ∀ {us : List (Str × V)} {fs : List (Str × DV)}, us.map (·.1) = fs.map (·.1) → HoldAll K F (us.map (·.2)) (fs.map (·.2)) → ∀ f, (∀ d, fs.lookup f = some d → ∃ v, us.lookup f = some v ∧ Hold K F v d) ∧ (fs.lookup f = none → us.lookup f = none)
  | [], [], _, _, f => ⟨fun d e => by simp at e, fun _ => rfl⟩
  | [], _ :: _, e, _, _ => by simp at e
  | _ :: _, [], e, _, _ => by simp at e
  | (k, v) :: us, (k', d) :: fs, e, h, f => by
    simp only [List.map_cons, List.cons.injEq] at e
    obtain ⟨e1, e2⟩ := e
    have e1 : k = k' := e1
    subst e1
    cases h with
    | cons h1 h2 =>
      obtain ⟨i1, i2⟩ := lookup_hold e2 h2 f
      by_cases hk : f == k
      · simp only [List.lookup_cons, hk]
        exact ⟨fun d e => by cases e; exact ⟨v, rfl, h1⟩, fun z => by cases z⟩
      · have hk : (f == k) = false := by simpa using hk
        simp only [List.lookup_cons, hk]
        exact ⟨i1, i2⟩
def putFD (f : Str) (d : DV) : List (Str × DV) → List (Str × DV)
  | [] => [(f, d)]
  | (g, x) :: r => if g = f then (g, d) :: r else (g, x) :: putFD f d r
theorem putF_hold {K : PySem.W.Frag} {F : Hp} {f : Str} {v : V} {d : DV} (hd : Hold K F v d) : ∀ {us : List (Str × V)} {fs : List (Str × DV)}, us.map (·.1) = fs.map (·.1) → HoldAll K F (us.map (·.2)) (fs.map (·.2)) → (putF f v us).map (·.1) = (putFD f d fs).map (·.1) ∧ HoldAll K F ((putF f v us).map (·.2)) ((putFD f d fs).map (·.2))
  | [], [], _, _ => ⟨rfl, .cons hd .nil⟩
  | [], _ :: _, e, _ => by simp at e
  | _ :: _, [], e, _ => by simp at e
  | (k, x) :: us, (k', y) :: fs, e, h => by
    simp only [List.map_cons, List.cons.injEq] at e
    obtain ⟨e1, e2⟩ := e
    have e1 : k = k' := e1
    subst e1
    cases h with
    | cons h1 h2 =>
      obtain ⟨i1, i2⟩ := putF_hold hd e2 h2
      unfold putF putFD
      by_cases hk : k = f
      · rw [if_pos hk, if_pos hk]
        exact ⟨by simp [e2], .cons hd h2⟩
      · rw [if_neg hk, if_neg hk]
        exact ⟨by simp [i1], .cons h1 i2⟩
def dFld (C : Addr) (f : Str) (fa : DD) : DD := fun env Q => fa env fun x e => match x with
  | .ins C' fs => C' = C ∧ optP (fs.lookup f) fun d => Q d e
  | _ => False
def wFld (j : Nat) (C0 : Addr) (f : Str) (fe : DD) : WS := fun D env => fe env fun d e => ∃ b fs, e[j]? = some (.o b (.ins C0 fs)) ∧ fs.length ≤ 900 ∧ D.nx (e.set j (.o b (.ins C0 (putFD f d fs))))
section
variable {X : Cx} {Z : ZX} {a e : Expr} {ca c : Nat} {fa fe : DD} {p pos pos' : Pos} {f : Str}
theorem pdFld {C : Addr} (hC : Cls X.K C) (hn : NoAttr X.K C f) (ha : PVd X Z a ca fa) (hb : attributeBase a f X.env (eval a X.env) = eval a X.env := by rfl) : PEd X Z (.Attribute a f pos) ca (dFld C f fa) := by
  refine ⟨fun env Q Q' q h => ha.mono _ _ _ (fun x e h => ?_) h, PE_imp (pe_fld ha.run hb) fun σ H Q ⟨B, F, n, env, hn', S, h⟩ => bindV ha.mono hn' S h fun x e v H1 F1 h1 S1 x1 hv => ?_⟩
  · cases x <;> first | exact ⟨h.1, optP_mono (fun d => q _ _) h.2⟩ | exact h
  · cases x with
    | ins C' fs =>
      obtain ⟨rfl, h1⟩ := h1
      obtain ⟨d, ed, q⟩ := optP_some h1
      obtain ⟨a, dx, us, rfl, e1, e2, e3⟩ := hv.ins S1.same
      obtain ⟨w, e4, hw⟩ := (lookup_hold e2 e3 f).1 d ed
      exact ⟨a, C', dx, us, w, rfl, e1, hC, hn, e4, q w H1 F1 S1 x1 hw⟩
    | _ => exact h1.elim
/-- self.f = e, the instance owned -/
theorem psFld (j : Nat) {x : Str} {C0 : Addr} (hC0 : Cls X.K C0) (hn0 : NoAttr X.K C0 f) (he : PEd X Z e c fe) (hN : X.N[j]? = some x := by rfl) (hv : Vis X.env.scope x := by first | exact Or.inl rfl | exact Or.inr (Or.inl rfl) | exact Or.inr (Or.inr rfl)) (hd : (x == ("__debug__" : Str)) = false := by decide)
    (hcd : (x == ("__classdict__" : Str)) = false := by decide) (hs : swapsWith e (some (.Attribute (.Name x p) f pos')) pos.line X.env = pure false := by rfl) : PSd X Z (.Assign [.Attribute (.Name x p) f pos'] e pos) c (wFld j C0 f fe) := by
  refine ⟨fun D D' env l h => he.mono _ _ _ (fun d e ⟨b, fs, h1, h2, h3⟩ => ⟨b, fs, h1, h2, l.nx _ h3⟩) h, PS_imp (ps_fld (pe_var hN hv hd hcd) he.run hs) fun D σ H ⟨B, F, n, env, hn', S, h⟩ => bindD he.mono hn' S h fun d e1 v H1 F1 g S1 x1 hvd => ?_⟩
  obtain ⟨b, fs, e2, hl, q⟩ := g
  obtain ⟨a, ea, hF, ⟨dx, us, h1, h2, h3⟩, _⟩ := S1.own e2
  refine ⟨_, ea, a, C0, dx, us, rfl, h1, hC0, hn0, ?_, ?_⟩
  · have := congrArg List.length h2
    simp only [List.length_map] at this
    omega
  · obtain ⟨i1, i2⟩ := putF_hold (f := f) hvd h2 h3
    exact q σ _ F1 (S1.write e2 ea ⟨dx, _, upd_same, i1, i2⟩) x1
end
end DL
set_option maxRecDepth 100000
set_option maxHeartbeats 4000000
namespace DL
open PySem PySem.Spec PyProof.Rows L2

/-! ### one slot more -/
section
variable {B : Base} {K : PySem.W.Frag} {Z : ZX} {F H : Hp} {n : Nat} {σ : L2.St} {env : List Cell}
theorem snoc_cases {α : Type} {l : List α} {i : Nat} {x y : α} (e : (l ++ [x])[i]? = some y) : (l[i]? = some y ∧ i < l.length) ∨ (i = l.length ∧ y = x) := by
  by_cases h : i < l.length
  · rw [List.getElem?_append_left h] at e
    exact .inl ⟨e, h⟩
  · rw [List.getElem?_append_right (by omega)] at e
    have : i - l.length = 0 := by
      have := (List.getElem?_eq_some_iff.mp e).1
      simp at this
      omega
    rw [this] at e
    exact .inr ⟨by omega, by simpa using e.symm⟩
theorem SOk.push (S : SOk B K Z F H n σ env) {v : V} {c : Cell} (r : Res B K F H n σ env v c) : SOk B K Z F H n (σ ++ [some v]) (env ++ [c]) := by
  have hl := S.len
  have at1 : ∀ {i : Nat}, i < env.length → (σ ++ [some v])[i]? = σ[i]? := fun {i} h => List.getElem?_append_left (by omega)
  have at2 : (σ ++ [some v])[env.length]? = some (some v) := by rw [List.getElem?_append_right (by omega)]; simp [hl]
  refine ⟨⟨S.same, by simp [hl], fun i ci e => ?_, fun i j ci cj a ei ej oi oj si sj => ?_, S.fr, S.ff, S.bd, S.lk, fun p hp => ?_, S.dom, S.tb⟩, S.lnk⟩
  · rcases snoc_cases e with ⟨e, h⟩ | ⟨rfl, rfl⟩
    · obtain ⟨o, e1, h1⟩ := S.at_ i ci e
      exact ⟨o, by rw [at1 h]; exact e1, h1⟩
    · exact ⟨some v, at2, r.1⟩
  · rcases snoc_cases ei with ⟨ei', h1⟩ | ⟨zi, yi⟩
    · rw [at1 h1] at si
      rcases snoc_cases ej with ⟨ej', h2⟩ | ⟨zj, yj⟩
      · rw [at1 h2] at sj
        exact S.sep i j ci cj a ei' ej' oi oj si sj
      · rw [zj, at2] at sj
        cases sj
        rw [yj] at oj
        exact absurd si (r.2.2.1 oj i ci ei' oi)
    · rw [zi, at2] at si
      cases si
      rw [yi] at oi
      rcases snoc_cases ej with ⟨ej', h2⟩ | ⟨zj, yj⟩
      · rw [at1 h2] at sj
        exact absurd sj (r.2.2.1 oi j cj ej' oj)
      · rw [zi, zj]
  · obtain ⟨⟨oc, e1⟩, e2⟩ := S.bs p hp
    have h := (List.getElem?_eq_some_iff.mp e1).1
    exact ⟨⟨oc, by rw [List.getElem?_append_left h]; exact e1⟩, by rw [at1 h]; exact e2⟩
theorem SOk.pop {o : Option V} {c : Cell} (S : SOk B K Z F H n (σ ++ [o]) (env ++ [c])) (hb : c.bor = false) : SOk B K Z F H n σ env := by
  have hl : σ.length = env.length := by have := S.len; simpa using this
  have up : ∀ {i : Nat} {ci : Cell}, env[i]? = some ci → (env ++ [c])[i]? = some ci ∧ (σ ++ [o])[i]? = σ[i]? := fun {i ci} e => by
    have h := (List.getElem?_eq_some_iff.mp e).1
    exact ⟨by rw [List.getElem?_append_left h]; exact e, List.getElem?_append_left (by omega)⟩
  refine ⟨⟨S.same, hl, fun i ci e => ?_, fun i j ci cj a ei ej oi oj si sj => ?_, S.fr, S.ff, S.bd, S.lk, fun p hp => ?_, S.dom, S.tb⟩, S.lnk⟩
  · obtain ⟨h1, h2⟩ := up e
    obtain ⟨o', e1, h⟩ := S.at_ i ci h1
    exact ⟨o', by rw [← h2]; exact e1, h⟩
  · obtain ⟨h1, h2⟩ := up ei
    obtain ⟨h3, h4⟩ := up ej
    exact S.sep i j ci cj a h1 h3 oi oj (by rw [h2]; exact si) (by rw [h4]; exact sj)
  · obtain ⟨⟨oc, e1⟩, e2⟩ := S.bs p hp
    rcases snoc_cases e1 with ⟨e1, h⟩ | ⟨_, e1⟩
    · exact ⟨⟨oc, e1⟩, by rw [← (up e1).2]; exact e2⟩
    · rw [← e1] at hb
      cases hb
end

/-! ### C(..) -/
def argsD (xs : List DV) : List Arg := xs.map Arg.d
theorem argsD_ok {K : PySem.W.Frag} {F : Hp} {σ : L2.St} : ∀ {vs : List V} {xs : List DV}, HoldAll K F vs xs → ArgsOk K F σ vs (argsD xs)
  | _, _, .nil => .nil
  | _, _, .cons h t => .cons h (argsD_ok t)
theorem borIx_argsD (xs : List DV) : borIx (argsD xs) = [] := by
  induction xs with
  | nil => rfl
  | cons x xs ih => exact ih
theorem cells_argsD (env : List Cell) (xs : List DV) : (argsD xs).map (cellOf env) = xs.map Cell.d := by
  simp [argsD, cellOf]
def dMake (C : Addr) (con : Con) (G : Addr → List (Str × DV) → List Cell → Prop) (dds : List DV) (g : DA) : DE := fun env Q => g env fun xs e => con (.o true (.ins C []) :: (xs ++ dds).map Cell.d)
  (fun r os => match os with
    | [oc] => Q (.o false oc) e
    | _ => False) fun C' fs _ => G C' fs e
section
variable {X : Cx} {Z : ZX} {k : Nat} {C f : Addr} {fd : FuncData} {ps : List Str} {con : Con} {cf ca : Nat} {x : Str} {p pos : Pos} {e : Expr} {es : List Expr} {g : DA} {ds : List Value} {dvs : List V} {dds : List DV}
theorem pcMake (mc : ConMono con) (M : Mk X.K C f) (G : FnOk X.prog X.w X.K X.mg X.base (L2.CX X.prog X.w) k f fd ps (SpD X.K Z.T cf con)) (hret : ∀ cs P Y, con cs P Y → con cs (fun r os => r = .d .non ∧ P r os) Y) (hr : Room (k + 1) X.A) (hx : Passes (L2.CX X.prog X.w) X Z.E) (hg : Gl X x) (hm : X.mg x = some (.ref C)) (hb : Binds X.K fd ps ds) (hd : Vals dvs ds) (hdd : ∀ F, HoldAll X.K F dvs dds)
    (ha : PAd X Z (e :: es) ca g) (hdb : (x == ("__debug__" : Str)) = false := by decide) (he : starEach (e :: es) X.env = (false, eval e X.env) :: starEach es X.env := by rfl) (hpl : (backTo pos (starEach es X.env)).any (·.1) = false := by rfl) :
    PEc X Z (.Call (.Name x p) (e :: es) [] pos) (ca + cf) (dMake C con Z.G dds g) := by
  refine ⟨fun env Q Q' q h => ha.mono _ _ _ (fun xs e h => mc _ _ _ _ _ (fun r os h => ?_) (fun _ _ _ z => z) h) h, PE_imp (pe_make M G hr hg hm hb hd hx ha.run hdb he hpl) fun σ H Q ⟨B, F, n, env, hn, S, h⟩ => ?_⟩
  · match os, h with
    | [oc], h => exact q _ _ h
  · refine bindA ha.mono (by omega) S h fun xs e1 vs H1 F1 h1 S1 x1 hv y dx hy hdx ne => ?_
    have S2 := S1.allocO (o := .own y) hdx
    have hy2 : upd H1 dx (.own y) y = none := by rw [upd_ne (Ne.symm ne)]; exact hy
    obtain ⟨S3, r3⟩ := new_own S2 (oc := .ins C []) (o := .ins C dx []) hy2 ⟨dx, [], upd_same, rfl, .nil⟩
    have S4 := S3.push r3
    have hl : σ.length = e1.length := S3.len
    have ecell : (e1 ++ [Cell.o false (.ins C [])])[e1.length]? = some (.o false (.ins C [])) := by rw [List.getElem?_append_right (Nat.le_refl _)]; simp
    have hargs : ArgsOk X.K F1 (σ ++ [some (V.ref y)]) (V.ref y :: (vs ++ dvs)) (.b e1.length :: argsD (xs ++ dds)) := by
      refine .cons ?_ (argsD_ok (hv.append (hdd F1)))
      show (σ ++ [some (V.ref y)])[e1.length]? = some (some (V.ref y))
      rw [List.getElem?_append_right (by omega)]
      simp [hl]
    have hix : borIx (Arg.b e1.length :: argsD (xs ++ dds)) = [e1.length] := by rw [borIx, borIx_argsD]
    have hnd : (borIx (Arg.b e1.length :: argsD (xs ++ dds))).Nodup := by rw [hix]; simp
    have hal : allOwn (e1 ++ [Cell.o false (.ins C [])]) (borIx (Arg.b e1.length :: argsD (xs ++ dds))) := by
      rw [hix]
      exact ⟨by rw [ecell]; trivial, trivial⟩
    have hcells : (Arg.b e1.length :: argsD (xs ++ dds)).map (cellOf (e1 ++ [Cell.o false (.ins C [])])) = .o true (.ins C []) :: (xs ++ dds).map Cell.d := by
      rw [List.map_cons, cells_argsD]
      simp only [cellOf, ecell]
    have hbor : borA (V.ref y :: (vs ++ dvs)) (.o true (.ins C []) :: (xs ++ dds).map Cell.d) = y :: borA (vs ++ dvs) ((xs ++ dds).map Cell.d) := rfl
    refine ⟨F1, n + ca, .o true (.ins C []) :: (xs ++ dds).map Cell.d, Z.M, ⟨by omega, Z.ml⟩, S3.same, S3.tb, ?_, ?_, mc _ _ _ _ _ (fun r os h v H2 F2 pd => ?_) (fun C' fs os gx d m H2 F2 h1 h2 px => ?_) (hret _ _ _ h1)⟩
    · have := (args_par S4.toCore hargs hal).1
      rw [hcells] at this
      exact this
    · have := ArgsOk.nodup S4.toCore hargs hnd hal
      rw [hcells] at this
      exact this
    · obtain ⟨hr0, h⟩ := h
      match os, h with
      | [oc], h =>
        have pd' : PostD X.K Z.T F1 (upd (upd H1 dx (.own y)) y (.ins C dx [])) (borA (V.ref y :: (vs ++ dvs)) ((Arg.b e1.length :: argsD (xs ++ dds)).map (cellOf (e1 ++ [Cell.o false (.ins C [])])))) (n + ca + cf) r [oc] v H2 F2 := by rw [hcells]; exact pd
        obtain ⟨S5, _⟩ := S4.call hargs hnd hal (Nat.le_add_right _ _) pd'
        have eput : putB (e1 ++ [Cell.o false (.ins C [])]) (borIx (Arg.b e1.length :: argsD (xs ++ dds))) [oc] = e1 ++ [Cell.o false oc] := by
          rw [hix, putB, ecell]
          simp [putB]
        rw [eput] at S5
        rw [Nat.add_assoc] at S5
        have S6 := S5.pop (by rfl)
        have hrv : v = .non := by
          have := pd.res
          subst hr0
          cases this
          rfl
        refine ⟨hrv, h _ H2 F2 S6 (x1.trans pd.ext) ?_⟩
        have ec5 : (e1 ++ [Cell.o false oc])[e1.length]? = some (.o false oc) := by rw [List.getElem?_append_right (Nat.le_refl _)]; simp
        obtain ⟨a, ea, q1, q2, q3, q4⟩ := S5.own ec5
        have ey : a = y := by
          rw [List.getElem?_append_right (by omega)] at ea
          simp [hl] at ea
          exact ea.symm
        subst ey
        refine ⟨⟨a, rfl, q1, q2, q3, q4⟩, rfl, fun _ i ci ei oi si => ?_, fun _ a' e' => by cases e'; exact S1.fresh0 hy⟩
        have hi := (List.getElem?_eq_some_iff.mp ei).1
        have := S5.sep i e1.length ci (.o false oc) a (by rw [List.getElem?_append_left hi]; exact ei) ec5 oi rfl (by rw [List.getElem?_append_left (by omega)]; exact si) (by rw [List.getElem?_append_right (by omega)]; simp [hl])
        omega
    · have px' : Frm X.K Z.T F1 (upd (upd H1 dx (.own y)) y (.ins C dx [])) (borA (V.ref y :: (vs ++ dvs)) ((Arg.b e1.length :: argsD (xs ++ dds)).map (cellOf (e1 ++ [Cell.o false (.ins C [])])))) m os H2 F2 := by rw [hcells]; exact px.toFrm
      obtain ⟨S5, _⟩ := S4.toCore.call hargs hnd hal h1 px'
      have hos : ∃ oc, os = [oc] := by
        have := px.bor
        rw [hbor] at this
        have hn : borA (vs ++ dvs) ((xs ++ dds).map Cell.d) = [] := by
          have gen : ∀ (vs : List V) (xs : List DV), borA vs (xs.map Cell.d) = [] := by
            intro vs
            induction vs with
            | nil => intro xs; cases xs <;> rfl
            | cons v vs ih =>
              intro xs
              cases xs with
              | nil => cases v <;> rfl
              | cons x xs => cases v <;> exact ih xs
          exact gen _ _
        rw [hn] at this
        cases this with
        | cons a t => cases t; exact ⟨_, rfl⟩
      obtain ⟨oc, rfl⟩ := hos
      have eput : putB (e1 ++ [Cell.o false (.ins C [])]) (borIx (Arg.b e1.length :: argsD (xs ++ dds))) [oc] = e1 ++ [Cell.o false oc] := by
        rw [hix, putB, ecell]
        simp [putB]
      rw [eput] at S5
      have S6 := SOk.pop (⟨S5, S4.lnk.mono px.ext h1⟩ : SOk B X.K Z F2 H2 m (σ ++ [some (V.ref y)]) (e1 ++ [Cell.o false oc])) (by rfl)
      refine S1.lnk F2 H2 m σ e1 C' d fs S6.toCore px.ext h1 h2 px.exc ?_ gx
      have hn := px.new
      have n1 : d ≠ y := by
        rintro rfl
        rw [upd_same] at hn
        cases hn
      rw [upd_ne n1] at hn
      have n2 : d ≠ dx := by
        rintro rfl
        rw [upd_same] at hn
        cases hn
      rw [upd_ne n2] at hn
      exact S1.fresh0 hn
end

/-! ### o.m(..), the receiver by data -/
def dMeth (C : Addr) (m : Str) (con : Con) (G : Addr → List (Str × DV) → List Cell → Prop) (dds : List DV) (fa : DD) (g : DA) : DE := fun env Q => fa env fun x e1 => (match x with
  | .ins C' fs => C' = C ∧ fs.lookup m = none
  | _ => False) ∧ g e1 fun xs e2 => con ((x :: (xs ++ dds)).map Cell.d) (fun r _ => Q r e2) fun C' fs _ => G C' fs e2
section
variable {X : Cx} {Z : ZX} {k : Nat} {C f : Addr} {m : Str} {fd : FuncData} {ps : List Str} {con : Con} {cf ca co : Nat} {p pos apos : Pos} {o e : Expr} {es : List Expr} {fo : DD} {g : DA} {ds : List Value} {dvs : List V} {dds : List DV}
theorem pcMeth {pl : Sem Bool} (mc : ConMono con) (c : Cls X.K C) (hm : Meth X.K C m f) (G : FnOk X.prog X.w X.K X.mg X.base (L2.CX X.prog X.w) k f fd ps (SpD X.K Z.T cf con)) (hr : Room k X.A) (hx : Passes (L2.CX X.prog X.w) X Z.E) (hb : Binds X.K fd ps ds) (hd : Vals dvs ds) (hdd : ∀ F, HoldAll X.K F dvs dds) (ho : PEd X Z o co fo) (ha : PAd X Z (e :: es) ca g)
    (hst : starEach (e :: es) X.env = (false, eval e X.env) :: starEach es X.env := by rfl) (hpl : (backTo pos (starEach es X.env)).any (·.1) = false := by rfl)
    (ht : eval (.Call (.Attribute o m apos) (e :: es) [] pos) X.env = (do
      let ov ← eval o X.env
      standAt apos.atName
      let (f, first) ← holding [ov] (getMethod ov m pl)
      callWith pos f first (backTo pos (starEach (e :: es) X.env)) (backToKw pos (keywordEach [] X.env))) := by rfl) :
    PEc X Z (.Call (.Attribute o m apos) (e :: es) [] pos) (co + ca + cf) (dMeth C m con Z.G dds fo g) := by
  refine ⟨fun env Q Q' q h => ho.mono _ _ _ (fun x e h => ⟨h.1, ha.mono _ _ _ (fun xs e2 h => mc _ _ _ _ _ (fun r os => q _ _) (fun _ _ _ z => z) h) h.2⟩) h, PE_imp (pe_meth ho.run c hm G hr hb hd hx ha.run hst hpl ht) fun σ H Q ⟨B, F, n, env, hn, S, h⟩ => ?_⟩
  refine bindD ho.mono (by omega) S h fun x e1 v H1 F1 h1 S1 x1 hv => ?_
  obtain ⟨h0, h1⟩ := h1
  cases x with
  | ins C' fs =>
    obtain ⟨rfl, h0⟩ := h0
    cases hv with
    | ins ea en eh =>
      refine ⟨_, _, _, rfl, S1.same _ _ ea, (lookup_hold en eh m).2 h0, bindA ha.mono (by omega) S1 h1 fun xs e2 vs H2 F2 h2 S2 x2 hvs => ?_⟩
      rename_i a dx us
      have hx1 : Hold X.K F1 (.ref a) (.ins C' fs) := .ins ea en eh
      have hargs : ArgsOk X.K F2 σ (V.ref a :: (vs ++ dvs)) (argsD (.ins C' fs :: (xs ++ dds))) := argsD_ok (.cons (hx1.mono x2) (hvs.append (hdd F2)))
      have hnd : (borIx (argsD (DV.ins C' fs :: (xs ++ dds)))).Nodup := by rw [borIx_argsD]; exact List.nodup_nil
      have hal : allOwn e2 (borIx (argsD (DV.ins C' fs :: (xs ++ dds)))) := by rw [borIx_argsD]; trivial
      have hcells := cells_argsD e2 (DV.ins C' fs :: (xs ++ dds))
      have p1 := (args_par S2.toCore hargs hal).1
      have p2 := ArgsOk.nodup S2.toCore hargs hnd hal
      rw [hcells] at p1 p2
      refine ⟨F2, n + co + ca, _, Z.M, ⟨by omega, Z.ml⟩, S2.same, S2.tb, p1, p2, mc _ _ _ _ _ (fun r os h v H3 F3 pd => ?_) (fun C2 fs2 os gx d m2 H3 F3 g1 g2 px => ?_) h2⟩
      · rw [← hcells] at pd
        obtain ⟨S3, r3⟩ := S2.call hargs hnd hal (Nat.le_add_right _ _) pd
        rw [borIx_argsD] at S3 r3
        rw [show n + co + ca + cf = n + (co + ca + cf) by omega] at S3 r3
        have e0 : putB e2 [] os = e2 := by cases os <;> rfl
        rw [e0] at S3 r3
        exact h v H3 F3 S3 ((x1.trans x2).trans pd.ext) r3
      · have pf := px.toFrm
        rw [← hcells] at pf
        obtain ⟨S3, _⟩ := S2.toCore.call hargs hnd hal g1 pf
        rw [borIx_argsD] at S3
        have e0 : putB e2 [] os = e2 := by cases os <;> rfl
        rw [e0] at S3
        exact S2.lnk F3 H3 m2 σ e2 C2 d fs2 S3 px.ext g1 g2 px.exc (S2.fresh0 px.new) gx
  | _ => exact h0.elim
end
end DL
set_option maxRecDepth 100000
set_option maxHeartbeats 4000000
namespace DL
open PySem PySem.Spec PyProof.Rows L2

/-! ### errors of the package -/
/-- D.__init__(self, ..) where D is an own class that has the built-in ValueError's -/
structure BaseI (K : PySem.W.Frag) (D : Addr) : Prop where
  rd : PySem.W.readsIn K D (.type "type") = true
  ga : PySem.W.specialIn K (.ref D) "__getattribute__" = some (some (.builtin "type.__getattribute__"))
  at_ : PySem.W.findCls K (.ref D) (.type "type") "__init__" = some (.val (.builtin "ValueError.__init__"))
/-- the call cl is recv.nm(as) -/
def ByMeth (cl recv : Expr) (rp : Pos) (nm : Str) (as : List Expr) (cp : Pos) (env : Env) : Prop :=
  ∃ pl, eval cl env = eval recv env >>= fun o => standAt rp.atName >>= fun _ => holding [o] (getMethod o nm pl) >>= fun m => callWith cp m.1 m.2 (backTo cp (starEach as env)) (backToKw cp (keywordEach [] env))
theorem pe_ceinit {X : Cx} {D : Addr} {x : Str} {e : Expr} {es : List Expr} {ta : TA} {p1 p2 pos : Pos} (hg : Gl X x) (hm : X.mg x = some (.ref D)) (hB : BaseI X.K D) (ha : PA X (e :: es) ta) (hc : ByMeth (.Call (.Attribute (.Name x p1) "__init__" p2) (e :: es) [] pos) (.Name x p1) p2 "__init__" (e :: es) pos X.env)
    (hst : starEach (e :: es) X.env = (false, eval e X.env) :: starEach es X.env := by rfl) (hno : (backTo pos (starEach es X.env)).any (·.1) = false := by rfl) (hdb : (x == ("__debug__" : Str)) = false := by decide) :
    PE X (.Call (.Attribute (.Name x p1) "__init__" p2) (e :: es) [] pos) (tVeI X.K ta) where
  run := fun pins s σ H Q I h => by
    obtain ⟨pl, hc⟩ := hc
    refine PySem.W.methodCall_KW (pl := pl) (ld_glob I hg hm (PySem.W.method_cls I.kIn hB.ga (PySem.W.cls_value I.kIn hB.rd hB.at_ (by decide +kernel) ?_)) hdb) hc
    have args := ha.run pos pins { s with toks := s.toks + 1 } σ H _ (I.tok _) h
    show wpAny _ _ (callWith pos (.builtin "ValueError.__init__") [] (backTo pos (starEach (e :: es) X.env)) []) _ _ _
    refine PyProof.Rows.callWith_method1 (thn args fun us s1 z => ?_) hst hno
    obtain ⟨vs, H1, J, rel, a, C, ws, rfl, few, T, ea, q⟩ := z
    cases rel with
    | cons ra rr =>
      cases ra
      refine oinit_ok T J ea ?_ fun s' J' => ⟨.non, H1, J', rfl, q⟩
      have n := Paired.length rr
      have z := sizeLine_eq
      omega
/-- what the error's __init__ leaves -/
def errH (H : Hp) (a C d : Addr) (fs : List (Str × V)) : Hp := upd (upd H d (exd d fs)) a (exo a C (some d))
def SpErr (K : PySem.W.Frag) (C : Addr) (k : Nat) (g : List V → List (Str × V)) : Sp := fun vs H Q _ => ∃ a ws, vs = .ref a :: ws ∧ ws.length = k ∧ H a = some (exo a C none) ∧ ∀ d, H d = none → d ≠ a → Q .non (errH H a C d (g ws))
/-- what is known of the error's class -/
structure ErrC (K : PySem.W.Frag) (C : Addr) (fI : Addr) (ns : List Str) : Prop where
  oex : OexC K C
  init : PySem.W.findIn K (.ref C) "__init__" = some (some (.ref fI))
  ty : PySem.W.typeIn K (.ref fI) = some (.type "function")
  no : ∀ f ∈ ns, PySem.W.findIn K (.ref C) f = some none
theorem errH_step {H : Hp} {a C d : Addr} {fs : List (Str × V)} {f : Str} {y : V} (ne : d ≠ a) : upd (errH H a C d fs) d (exd d ((f, y) :: fs)) = errH H a C d ((f, y) :: fs) := by
  funext b
  unfold errH
  by_cases h1 : b = d
  · subst h1
    rw [upd_same, upd_ne ne, upd_same]
  · rw [upd_ne h1]
    by_cases h2 : b = a
    · subst h2
      rw [upd_same, upd_same]
    · rw [upd_ne h2, upd_ne h2, upd_ne h1, upd_ne h1]
section
variable {P : Program} {w : World} {K : PySem.W.Frag} {mg : Str → Option Value} {base : Heap}
/-- the first statement: D.__init__(self, "..") -/
theorem init_first {X : Cx} {D : Addr} {x : Str} {m : Str} {j : Nat} {p1 p2 p3 p4 p5 pos : Pos} (hg : Gl X x) (hm : X.mg x = some (.ref D)) (hB : BaseI X.K D) (hN : X.N[0]? = some ("self" : Str)) (hv : Vis X.env.scope ("self" : Str)) (hdb : (x == ("__debug__" : Str)) = false := by decide)
    (hc : ByMeth (.Call (.Attribute (.Name x p1) "__init__" p2) [.Name "self" p3, .Constant (.str m) j p4] [] p5) (.Name x p1) p2 "__init__" [.Name "self" p3, .Constant (.str m) j p4] p5 X.env := by exact ⟨_, rfl⟩)
    (hs : swapsWith (.Call (.Attribute (.Name x p1) "__init__" p2) [.Name "self" p3, .Constant (.str m) j p4] [] p5) none pos.line X.env = pure false := by rfl) :
    PS X (.Expr (.Call (.Attribute (.Name x p1) "__init__" p2) [.Name "self" p3, .Constant (.str m) j p4] [] p5) pos)
      (fun D σ H => ∃ a C : Addr, σ[0]? = some (some (.ref a)) ∧ OexC X.K C ∧ H a = some (exo a C none) ∧ D.nx σ H) := by
  refine PS_imp (ps_expr (pe_ceinit hg hm hB (pa_cons (pe_var (i := 0) hN hv (by decide) (by decide)) (pa_cons pe_str pa_nil rfl) rfl) hc rfl rfl hdb) hs) fun D σ H ⟨a, C, h1, h2, h3, h4⟩ => ?_
  exact ⟨_, h1, a, C, _, rfl, by simp, h2, h3, h4⟩
/-- a further statement: self.f = f, the first field -/
theorem init_new {X : Cx} {f : Str} {i : Nat} {q1 q2 q3 pos : Pos} (hN0 : X.N[0]? = some ("self" : Str)) (hv0 : Vis X.env.scope ("self" : Str)) (hN : X.N[i]? = some f) (hv : Vis X.env.scope f) (hd : (f == ("__debug__" : Str)) = false := by decide) (hcd : (f == ("__classdict__" : Str)) = false := by decide)
    (hs : swapsWith (.Name f q3) (some (.Attribute (.Name "self" q1) f q2)) pos.line X.env = pure false := by rfl) :
    PS X (.Assign [.Attribute (.Name "self" q1) f q2] (.Name f q3) pos) (fun D σ H => ∃ (a C : Addr) (y : V), σ[0]? = some (some (.ref a)) ∧ σ[i]? = some (some y) ∧ OexC X.K C ∧ PySem.W.findIn X.K (.ref C) f = some none ∧ H a = some (exo a C none) ∧ ∀ d, H d = none → d ≠ a → D.nx σ (errH H a C d [(f, y)])) :=
  PS_imp (ps_ost (pe_var hN0 hv0 (by decide) (by decide)) (pe_var hN hv hd hcd) hs) fun D σ H ⟨a, C, y, h0, h1, h2, h3, h4, h5⟩ => ⟨y, h1, _, h0, a, C, rfl, h2, h3, .inl ⟨h4, h5⟩⟩
theorem init_old {X : Cx} {f : Str} {i : Nat} {q1 q2 q3 pos : Pos} (hN0 : X.N[0]? = some ("self" : Str)) (hv0 : Vis X.env.scope ("self" : Str)) (hN : X.N[i]? = some f) (hv : Vis X.env.scope f) (hd : (f == ("__debug__" : Str)) = false := by decide) (hcd : (f == ("__classdict__" : Str)) = false := by decide)
    (hs : swapsWith (.Name f q3) (some (.Attribute (.Name "self" q1) f q2)) pos.line X.env = pure false := by rfl) :
    PS X (.Assign [.Attribute (.Name "self" q1) f q2] (.Name f q3) pos) (fun D σ H => ∃ (H0 : Hp) (a C d : Addr) (fs : List (Str × V)) (y : V), H = errH H0 a C d fs ∧ d ≠ a ∧ σ[0]? = some (some (.ref a)) ∧ σ[i]? = some (some y) ∧ OexC X.K C ∧ PySem.W.findIn X.K (.ref C) f = some none ∧ fs.length ≤ 900 ∧ D.nx σ (errH H0 a C d ((f, y) :: fs))) :=
  PS_imp (ps_ost (pe_var hN0 hv0 (by decide) (by decide)) (pe_var hN hv hd hcd) hs) fun D σ H ⟨H0, a, C, d, fs, y, e, ne, h0, h1, h2, h3, h4, h5⟩ => by
    subst e
    refine ⟨y, h1, _, h0, a, C, rfl, h2, h3, .inr ⟨d, fs, upd_same, ?_, h4, ?_⟩⟩
    · unfold errH
      rw [upd_ne ne, upd_same]
    · rw [errH_step ne]
      exact h5
/-- the base class's __init__ in a body -/
structure Ini (mg : Str → Option Value) (K : PySem.W.Frag) (D : Addr) : Prop where
  mgD : mg "CountError" = some (.ref D)
  bI : BaseI K D
theorem err1 {qual m f1 : Str} {st : Stmt} {f C D : Addr} {fd : FuncData} {k j : Nat} {p1 p2 p3 p4 p5 p6 a1 a2 a3 a4 : Pos} (F : Fun K "__init__" qual st f fd) (S : FnScope ["self", f1] ["self", f1] (defScope st)) (E : ErrC K C f [f1]) (J : Ini mg K D)
    (hb : defBody st = [.Expr (.Call (.Attribute (.Name "CountError" p1) "__init__" p2) [.Name "self" p3, .Constant (.str m) j p4] [] p5) p6, .Assign [.Attribute (.Name "self" a1) f1 a2] (.Name f1 a3) a4])
    (hc : ∀ env : Env, ByMeth (.Call (.Attribute (.Name "CountError" p1) "__init__" p2) [.Name "self" p3, .Constant (.str m) j p4] [] p5) (.Name "CountError" p1) p2 "__init__" [.Name "self" p3, .Constant (.str m) j p4] p5 env)
    (hsw : ∀ env : Env, swapsWith (.Call (.Attribute (.Name "CountError" p1) "__init__" p2) [.Name "self" p3, .Constant (.str m) j p4] [] p5) none p6.line env = pure false)
    (hv : ∀ y ∈ (["self", f1] : List Str), (defScope st).names.lookup y = some .local) (hgx : (defScope st).names.lookup ("CountError" : Str) = some .globalImplicit)
    (hd1 : (f1 == ("__debug__" : Str)) = false := by decide) (hcd1 : (f1 == ("__classdict__" : Str)) = false := by decide) :
    FnOk P w K mg base (L2.CX P w) (k + 1) f fd ["self", f1] (SpErr K C 1 fun ws => ([f1].zip ws).reverse) := by
  obtain ⟨oc, od, kV, doc, pm, an, cdv, ct, osl, rfl, lk, hcd⟩ := F.ex
  refine fn_of lk hcd S (fun vs H Q E h => ?_) fun A outer s H vs Q E' hr h => ?_
  · obtain ⟨a, ws, rfl, h1, _⟩ := h
    simp [h1]
  · obtain ⟨a, ws, rfl, h1, h2, h3⟩ := h
    obtain ⟨y, rfl⟩ : ∃ y, ws = [y] := by
      match ws, h1 with
      | [y], _ => exact ⟨y, rfl⟩
    rw [hb]
    have v0 := hv ("self" : Str) (by simp)
    have v1 := hv f1 (by simp)
    refine ⟨_, pss_cons (init_first hgx J.mgD J.bI rfl (.inl v0) (by decide) (hc _) (hsw _)) (pss_one (init_new rfl (.inl v0) (i := 1) rfl (.inl v1) hd1 hcd1)), ?_⟩
    refine ⟨a, C, rfl, E.oex, h2, a, C, y, rfl, rfl, E.oex, E.no f1 (by simp), h2, fun d hd ne => ?_⟩
    exact h3 d hd ne
theorem err2 {qual m f1 f2 : Str} {st : Stmt} {f C D : Addr} {fd : FuncData} {k j : Nat} {p1 p2 p3 p4 p5 p6 a1 a2 a3 a4 b1 b2 b3 b4 : Pos} (F : Fun K "__init__" qual st f fd) (S : FnScope ["self", f1, f2] ["self", f1, f2] (defScope st)) (E : ErrC K C f [f1, f2]) (J : Ini mg K D)
    (hb : defBody st = [.Expr (.Call (.Attribute (.Name "CountError" p1) "__init__" p2) [.Name "self" p3, .Constant (.str m) j p4] [] p5) p6, .Assign [.Attribute (.Name "self" a1) f1 a2] (.Name f1 a3) a4, .Assign [.Attribute (.Name "self" b1) f2 b2] (.Name f2 b3) b4])
    (hc : ∀ env : Env, ByMeth (.Call (.Attribute (.Name "CountError" p1) "__init__" p2) [.Name "self" p3, .Constant (.str m) j p4] [] p5) (.Name "CountError" p1) p2 "__init__" [.Name "self" p3, .Constant (.str m) j p4] p5 env)
    (hsw : ∀ env : Env, swapsWith (.Call (.Attribute (.Name "CountError" p1) "__init__" p2) [.Name "self" p3, .Constant (.str m) j p4] [] p5) none p6.line env = pure false)
    (hv : ∀ y ∈ (["self", f1, f2] : List Str), (defScope st).names.lookup y = some .local) (hgx : (defScope st).names.lookup ("CountError" : Str) = some .globalImplicit)
    (hd1 : (f1 == ("__debug__" : Str)) = false := by decide) (hcd1 : (f1 == ("__classdict__" : Str)) = false := by decide) (hd2 : (f2 == ("__debug__" : Str)) = false := by decide) (hcd2 : (f2 == ("__classdict__" : Str)) = false := by decide) :
    FnOk P w K mg base (L2.CX P w) (k + 1) f fd ["self", f1, f2] (SpErr K C 2 fun ws => ([f1, f2].zip ws).reverse) := by
  obtain ⟨oc, od, kV, doc, pm, an, cdv, ct, osl, rfl, lk, hcd⟩ := F.ex
  refine fn_of lk hcd S (fun vs H Q E h => ?_) fun A outer s H vs Q E' hr h => ?_
  · obtain ⟨a, ws, rfl, h1, _⟩ := h
    simp [h1]
  · obtain ⟨a, ws, rfl, h1, h2, h3⟩ := h
    obtain ⟨y, z, rfl⟩ : ∃ y z, ws = [y, z] := by
      match ws, h1 with
      | [y, z], _ => exact ⟨y, z, rfl⟩
    rw [hb]
    have v0 := hv ("self" : Str) (by simp)
    have v1 := hv f1 (by simp)
    have v2 := hv f2 (by simp)
    refine ⟨_, pss_cons (init_first hgx J.mgD J.bI rfl (.inl v0) (by decide) (hc _) (hsw _)) (pss_cons (init_new rfl (.inl v0) (i := 1) rfl (.inl v1) hd1 hcd1) (pss_one (init_old rfl (.inl v0) (i := 2) rfl (.inl v2) hd2 hcd2))), ?_⟩
    refine ⟨a, C, rfl, E.oex, h2, a, C, y, rfl, rfl, E.oex, E.no f1 (by simp), h2, fun d hd ne => ?_⟩
    refine ⟨H, a, C, d, _, z, rfl, ne, rfl, rfl, E.oex, E.no f2 (by simp), by simp, ?_⟩
    exact h3 d hd ne
theorem err3 {qual m f1 f2 f3 : Str} {st : Stmt} {f C D : Addr} {fd : FuncData} {k j : Nat} {p1 p2 p3 p4 p5 p6 a1 a2 a3 a4 b1 b2 b3 b4 c1 c2 c3 c4 : Pos} (F : Fun K "__init__" qual st f fd) (S : FnScope ["self", f1, f2, f3] ["self", f1, f2, f3] (defScope st)) (E : ErrC K C f [f1, f2, f3]) (J : Ini mg K D)
    (hb : defBody st = [.Expr (.Call (.Attribute (.Name "CountError" p1) "__init__" p2) [.Name "self" p3, .Constant (.str m) j p4] [] p5) p6, .Assign [.Attribute (.Name "self" a1) f1 a2] (.Name f1 a3) a4, .Assign [.Attribute (.Name "self" b1) f2 b2] (.Name f2 b3) b4, .Assign [.Attribute (.Name "self" c1) f3 c2] (.Name f3 c3) c4])
    (hc : ∀ env : Env, ByMeth (.Call (.Attribute (.Name "CountError" p1) "__init__" p2) [.Name "self" p3, .Constant (.str m) j p4] [] p5) (.Name "CountError" p1) p2 "__init__" [.Name "self" p3, .Constant (.str m) j p4] p5 env)
    (hsw : ∀ env : Env, swapsWith (.Call (.Attribute (.Name "CountError" p1) "__init__" p2) [.Name "self" p3, .Constant (.str m) j p4] [] p5) none p6.line env = pure false)
    (hv : ∀ y ∈ (["self", f1, f2, f3] : List Str), (defScope st).names.lookup y = some .local) (hgx : (defScope st).names.lookup ("CountError" : Str) = some .globalImplicit)
    (hd1 : (f1 == ("__debug__" : Str)) = false := by decide) (hcd1 : (f1 == ("__classdict__" : Str)) = false := by decide) (hd2 : (f2 == ("__debug__" : Str)) = false := by decide) (hcd2 : (f2 == ("__classdict__" : Str)) = false := by decide) (hd3 : (f3 == ("__debug__" : Str)) = false := by decide) (hcd3 : (f3 == ("__classdict__" : Str)) = false := by decide) :
    FnOk P w K mg base (L2.CX P w) (k + 1) f fd ["self", f1, f2, f3] (SpErr K C 3 fun ws => ([f1, f2, f3].zip ws).reverse) := by
  obtain ⟨oc, od, kV, doc, pm, an, cdv, ct, osl, rfl, lk, hcd⟩ := F.ex
  refine fn_of lk hcd S (fun vs H Q E h => ?_) fun A outer s H vs Q E' hr h => ?_
  · obtain ⟨a, ws, rfl, h1, _⟩ := h
    simp [h1]
  · obtain ⟨a, ws, rfl, h1, h2, h3⟩ := h
    obtain ⟨y, z, u, rfl⟩ : ∃ y z u, ws = [y, z, u] := by
      match ws, h1 with
      | [y, z, u], _ => exact ⟨y, z, u, rfl⟩
    rw [hb]
    have v0 := hv ("self" : Str) (by simp)
    have v1 := hv f1 (by simp)
    have v2 := hv f2 (by simp)
    have v3 := hv f3 (by simp)
    refine ⟨_, pss_cons (init_first hgx J.mgD J.bI rfl (.inl v0) (by decide) (hc _) (hsw _)) (pss_cons (init_new rfl (.inl v0) (i := 1) rfl (.inl v1) hd1 hcd1) (pss_cons (init_old rfl (.inl v0) (i := 2) rfl (.inl v2) hd2 hcd2) (pss_one (init_old rfl (.inl v0) (i := 3) rfl (.inl v3) hd3 hcd3)))), ?_⟩
    refine ⟨a, C, rfl, E.oex, h2, a, C, y, rfl, rfl, E.oex, E.no f1 (by simp), h2, fun d hd ne => ?_⟩
    refine ⟨H, a, C, d, _, z, rfl, ne, rfl, rfl, E.oex, E.no f2 (by simp), by simp, ?_⟩
    refine ⟨H, a, C, d, _, u, rfl, ne, rfl, rfl, E.oex, E.no f3 (by simp), by simp, ?_⟩
    exact h3 d hd ne
end

/-! ### raise C(..) -/
def wRaise (C : Addr) (ns : List Str) (G : Addr → List (Str × DV) → List Cell → Prop) (g : DA) : WS := fun D env => g env fun xs e => xs.length = ns.length ∧ G C ((ns.zip xs).reverse) e
theorem zip_hold {K : PySem.W.Frag} {F : Hp} : ∀ (ns : List Str) {vs : List V} {xs : List DV}, HoldAll K F vs xs → (ns.zip vs).map (·.1) = (ns.zip xs).map (·.1) ∧ HoldAll K F ((ns.zip vs).map (·.2)) ((ns.zip xs).map (·.2))
  | [], _, _, _ => ⟨rfl, .nil⟩
  | _ :: _, _, _, .nil => ⟨rfl, .nil⟩
  | n :: ns, _, _, .cons h t => by
    obtain ⟨i1, i2⟩ := zip_hold ns t
    exact ⟨by simp [i1], .cons h i2⟩
section
variable {X : Cx} {Z : ZX} {k : Nat} {C fI : Addr} {fd : FuncData} {ns : List Str} {ca : Nat} {x : Str} {p pos pos' : Pos} {e : Expr} {es : List Expr} {g : DA}
theorem psRaise (hc : X.calm = true) (tk : Takes X fun cls d _ H => Z.E cls d H) (E : ErrC X.K C fI ns) (hns : ns.length ≤ 3) (F : FnOk X.prog X.w X.K X.mg X.base (L2.CX X.prog X.w) k fI fd ("self" :: ns) (SpErr X.K C ns.length fun ws => (ns.zip ws).reverse)) (hr : Room (k + 1) X.A) (hb : Binds X.K fd ("self" :: ns) []) (hg : Gl X x) (hm : X.mg x = some (.ref C))
    (ha : PAd X Z (e :: es) ca g) (hdb : (x == ("__debug__" : Str)) = false := by decide) (he : starEach (e :: es) X.env = (false, eval e X.env) :: starEach es X.env := by rfl) (hpl : (backTo pos (starEach es X.env)).any (·.1) = false := by rfl) :
    PSd X Z (.Raise (some (.Call (.Name x p) (e :: es) [] pos)) none pos') ca (wRaise C ns Z.G g) := by
  refine ⟨fun D D' env l h => h, PS_imp (ps_raise hc tk (pmk_oex E.oex E.init E.ty F hr hb .nil passF hg hm ha.run hdb he hpl)) fun D σ H ⟨B, F0, n, env, hn, S, h⟩ => ?_⟩
  refine bindA ha.mono hn S h fun xs e1 vs H1 F1 h1 S1 x1 hv => ?_
  obtain ⟨hl, gx⟩ := h1
  have hlv : vs.length = ns.length := hv.length.trans hl
  refine ⟨by omega, fun a hna => ⟨a, vs, by simp, hlv, upd_same, fun d hd ne => ⟨rfl, ?_⟩⟩⟩
  have hd1 : H1 d = none := by rw [upd_ne ne] at hd; exact hd
  have hz := zip_hold (K := X.K) (F := F1) ns hv
  refine ⟨d, (ns.zip vs).reverse, upd_same, by unfold errH; rw [upd_ne ne, upd_same], hd1, ?_⟩
  have eH : upd (del (errH (upd H1 a (exo a C none)) a C d (ns.zip vs).reverse) a) d (.xd (ns.zip vs).reverse) = upd H1 d (.xd (ns.zip vs).reverse) := by
    funext b
    by_cases b1 : b = d
    · subst b1
      rw [upd_same, upd_same]
    · rw [upd_ne b1, upd_ne b1]
      by_cases b2 : b = a
      · subst b2
        rw [del_same, hna]
      · unfold errH
        rw [del_ne b2, upd_ne b2, upd_ne b1, upd_ne b2]
  rw [eH]
  have S2 := S1.allocO (o := .xd (ns.zip vs).reverse) hd1
  refine S1.lnk F1 _ (n + ca) σ e1 C d _ S2.toCore (Ext.refl _) (Nat.le_refl _) hn ⟨_, upd_same, ?_, ?_⟩ (S1.fresh0 hd1) gx
  · rw [List.map_reverse, List.map_reverse, hz.1]
  · rw [List.map_reverse, List.map_reverse]
    exact hz.2.reverse
end
end DL
set_option maxRecDepth 100000
set_option maxHeartbeats 4000000
namespace DL
open PySem PySem.Spec PyProof.Rows L2
/-! ### a tuple times 1 is itself; times 0 it is empty -/
theorem tuple_mul1 (l : Addr) (items : Array Value) (n : Nat) (dd : Option Addr) (sl : Array (Option Value)) (u : Tok) :
    Meets (Builtin.«tuple.__mul__» ⟨[.ref l, .int 1 u], []⟩) (fun _ R s => s.heap.get? l = some { cls := .type "tuple", dict := dd, data := .seq items n, slots := sl } ∧ R (.ok (.ret (.ref l))) s) :=
  .of_wp fun prog w A R s h => by
    obtain ⟨hp, g, d, tk, os⟩ := s
    obtain ⟨hl, h⟩ := h
    have f1 := AutoSeq1.idx_int
    wp_walk using wpAny_loadPart' hl
    exact ⟨_, rfl, h⟩
theorem tuple_mul0 (l : Addr) (items : Array Value) (n : Nat) (dd : Option Addr) (sl : Array (Option Value)) (u : Tok) (hne : items.isEmpty = false) :
    Meets (Builtin.«tuple.__mul__» ⟨[.ref l, .int 0 u], []⟩) (fun _ R s => s.heap.get? l = some { cls := .type "tuple", dict := dd, data := .seq items n, slots := sl } ∧
      R (.ok (.ret (Value.ref s.heap.objs.size))) { s with heap := s.heap.push { cls := Value.type "tuple", data := Data.seq #[] } }) :=
  .of_wp fun prog w A R s h => by
    obtain ⟨hp, g, d, tk, os⟩ := s
    obtain ⟨hl, h⟩ := h
    have f1 := AutoSeq1.idx_int
    have c1 : (items.isEmpty || (0 : Int) == 1) = false := by rw [hne]; rfl
    have c2 : (decide ((0 : Int) ≤ 0) || items.isEmpty) = true := by rfl
    wp_walk using wpAny_loadPart' hl
    exact ⟨_, rfl, h⟩
def rRepT0 (K : PySem.W.Frag) : R2 := fun x y H Q => ∃ l xs, x = .ref l ∧ SqT K H l xs ∧ xs ≠ [] ∧ ((y = .int 1 ∧ Q (.ref l) H) ∨ (y = .int 0 ∧ ∀ p, H p = none → Q (.ref p) (upd H p (.tup []))))
theorem op_repT0 {X : Cx} : OpR X (binaryOp .Mult) (rRepT0 X.K) := by
  intro pins s σ H x y v u Q I rx ry h
  obtain ⟨l, xs, rfl, hT, hne, h⟩ := h
  obtain rfl : v = Value.ref l := rx
  obtain ⟨its, r, ⟨⟨cls, dd, data, sl⟩, ho, hc, n, hd⟩, hs⟩ := I.tuple hT
  simp only at hc hd
  subst hc hd
  have hn : its.toArray.isEmpty = false := by
    cases its with
    | nil =>
      have := r.length
      exact absurd (List.eq_nil_of_length_eq_zero this) hne
    | cons a b => rfl
  rcases h with ⟨rfl, q⟩ | ⟨rfl, q⟩
  · obtain ⟨t, rfl⟩ := (show ∃ t, u = Value.int 1 t from ry)
    refine wpAny_binaryOp_repeat_ref (T := "tuple") (U := "int") (by decide) ⟨_, ho, rfl⟩ (fun s' => typeIs_int s' 1 t) noFill_tuple_mul F.fills_int_mul F.slot_int_rmul repeat_tuple F.slot_int_index.lookup
      (call_meets F.slot_int_rmul (typeIs_int s 1 t) F.entry_int_rmul (F.args_int_rmul_2 _ _) (int_rmul_tuple 1 t l its.toArray n dd sl)
        ⟨ho, rfl, ⟨_, ho, rfl⟩, call_meets F.slot_tuple_mul ⟨_, ho, rfl⟩ F.entry_tuple_mul (F.args_tuple_mul_2 _ _) (tuple_mul1 l its.toArray n dd sl t) ⟨ho, ?_⟩⟩)
    exact ⟨.ref l, H, I, rfl, q⟩
  · obtain ⟨t, rfl⟩ := (show ∃ t, u = Value.int 0 t from ry)
    refine wpAny_binaryOp_repeat_ref (T := "tuple") (U := "int") (by decide) ⟨_, ho, rfl⟩ (fun s' => typeIs_int s' 0 t) noFill_tuple_mul F.fills_int_mul F.slot_int_rmul repeat_tuple F.slot_int_index.lookup
      (call_meets F.slot_int_rmul (typeIs_int s 0 t) F.entry_int_rmul (F.args_int_rmul_2 _ _) (int_rmul_tuple 0 t l its.toArray n dd sl)
        ⟨ho, rfl, ⟨_, ho, rfl⟩, call_meets F.slot_tuple_mul ⟨_, ho, rfl⟩ F.entry_tuple_mul (F.args_tuple_mul_2 _ _) (tuple_mul0 l its.toArray n dd sl t hn) ⟨ho, ?_⟩⟩)
    refine ⟨.ref s.heap.objs.size, _, I.laid (t' := s.toks) (o := .tup []) (fun b ob q => Heap.get?_push_of_some _ q) (Nat.le_refl _) ?_, rfl, q _ (I.hok.fresh (Nat.le_refl _))⟩
    exact ⟨by show 0 ≤ sizeLine; decide, [], .nil, IsTup.new _ _⟩
def gMulT : DV → DV → (Cell → Prop) → Prop := fun x y Q => match x, y with
  | .tup xs, .int k => (xs ≠ [] ∧ 0 ≤ k ∧ k ≤ 1000 ∧ xs.length ≤ 1000) ∧ Q (.d (.tup (List.replicate k.toNat xs).flatten))
  | _, _ => False
theorem op2MulT {K : PySem.W.Frag} : Op2 K (fun x y H Q => rRepT K x y H Q ∨ rRepT0 K x y H Q) gMulT := by
  refine ⟨fun x y Q Q' q g => ?_, fun B Z F H n σ env v u x y Q S hv hu g => ?_⟩
  · cases x <;> cases y <;> first | exact ⟨g.1, q _ g.2⟩ | exact g
  · cases hv with
    | tup ha hxs =>
      cases hu with
      | int k =>
        rename_i a vs xs
        obtain ⟨⟨h0, h1, h2, h3⟩, g⟩ := g
        have hA := SqT.of (K := K) (S.same _ _ ha)
        have hne : vs ≠ [] := by
          intro z
          subst z
          cases hxs
          exact h0 rfl
        by_cases hk : 2 ≤ k
        · refine .inl ⟨_, _, _, rfl, rfl, hA, hne, hk, h2, by rw [hxs.length]; exact h3, fun p hp => ?_⟩
          obtain ⟨F', S', x', h'⟩ := new_tup S (hxs.rep k.toNat) hp
          exact g _ _ F' S' x' (Res.dat h')
        · refine .inr ⟨a, vs, rfl, hA, hne, ?_⟩
          by_cases hk1 : k = 1
          · subst hk1
            refine .inl ⟨rfl, g _ H F S (Ext.refl _) (Res.dat ?_)⟩
            have : (List.replicate (1 : Int).toNat xs).flatten = xs := by simp
            rw [this]
            exact .tup ha hxs
          · have hk0 : k = 0 := by omega
            subst hk0
            refine .inr ⟨rfl, fun p hp => ?_⟩
            obtain ⟨F', S', x', h'⟩ := new_tup (vs := []) (xs := []) S .nil hp
            exact g _ _ F' S' x' (Res.dat h')
      | _ => exact g.elim
    | _ => cases y <;> exact g.elim
theorem pcMulT {X : Cx} {Z : ZX} {a b : Expr} {ca cb : Nat} {fa fb : DD} {pos : Pos} (ha : PEd X Z a ca fa) (hb : PEd X Z b cb fb) : PEc X Z (.BinOp a .Mult b pos) (ca + cb) (dOp2 gMulT fa fb) := PEc.op2 op2MulT ha hb (pe_op (OpR.or op_repT op_repT0) ha.run hb.run)

/-! ### repr of data (outside of all repr) -/
def DV.shown : DV → Nat → Option Str
  | d, m => if d.ok 60 = true ∧ d.py.showable = true ∧ d.py.shown.length ≤ m then some d.py.shown else none
def gRepr : DV → (Cell → Prop) → Prop := fun x Q => (x.ok 60 = true ∧ x.py.showable = true ∧ x.py.shown.length ≤ sizeLine) ∧ Q (.d (.str x.py.shown))
theorem py_noDict : ∀ (d : DV) (k : Nat), d.ok k = true → d.py.hasDict = false := fun d k h => PyData.hasDict_of_canLay _ (py_depth d k h).1
def rRepr (K : PySem.W.Frag) : List V → Hp → VK → Prop := fun xs H Q => ∃ x d, xs = [x] ∧ Dp K H x d ∧ d.showable = true ∧ d.hasDict = false ∧ d.depth ≤ 60 ∧ d.shown.length ≤ sizeLine ∧ Q (.str d.shown) H
theorem call_repr {X : Cx} (hgd : X.A.guards = some []) (hu : X.A.units + 65 < cLine) : CallR X (.builtin "repr") (rRepr X.K) := by
  intro pins s σ H xs us Q I r h
  obtain ⟨x, d, rfl, hd, h1, h2, h3, h4, q⟩ := h
  obtain ⟨u, rfl, rx⟩ := vals1 r
  obtain ⟨as, rd⟩ := Dp.reads I d x u hd rx
  have fin : ∀ h' (t tk : Nat), (∀ b o, s.heap.get? b = some o → h'.get? b = some o) → EP X pins σ Q (.str d.shown t) { s with heap := h', toks := tk } := fun h' t tk hk => ⟨.str d.shown, H, I.kept hk, ⟨t, rfl⟩, q⟩
  cases rd with
  | none => exact PySem.P.repr_of_none (fin _ _ _ fun _ _ e => e)
  | bool => exact PySem.P.repr_of_bool (fin _ _ _ fun _ _ e => e)
  | int => exact PySem.P.repr_of_int (of_decide_eq_true h1) (fin _ _ _ fun _ _ e => e)
  | str => exact PySem.P.repr_of_str (fin _ _ _ fun _ _ e => e) h4
  | list a b c d => exact repr_of_reads' (.list a b c d) h1 (fun e => by rw [h2] at e; cases e) hgd (by omega) (fun _ _ e => e) (fun h' t tk hk => fin h' t tk hk) h4
  | tuple a b c d => exact repr_of_reads' (.tuple a b c d) h1 (fun e => by rw [h2] at e; cases e) hgd (by omega) (fun _ _ e => e) (fun h' t tk hk => fin h' t tk hk) h4
  | dict => cases h2
/-- .. of a dict whose values are flat -/
def flatPy : DV → PyData := DV.py
def kvPy (kvs : List (Key × DV)) : List (PyData × PyData) := kvs.map fun kv => ((keyDV kv.1).py, kv.2.py)
def gReprK : DV → (Cell → Prop) → Prop := fun x Q => match x with
  | .dk kvs => (kvs.all (fun kv => flatD kv.2) = true ∧ (PyData.dict (kvPy kvs)).showable = true ∧ (PyData.dict (kvPy kvs)).depth ≤ 60 ∧ (PyData.dict (kvPy kvs)).shown.length ≤ sizeLine) ∧ Q (.d (.str (PyData.dict (kvPy kvs)).shown))
  | _ => False
theorem readsAll_flat {h : Heap} : ∀ {us : List Value} {ds : List PyData}, Paired (fun u d => Reads h u d []) us ds → ReadsAll h us ds []
  | _, _, .nil => .nil
  | _, _, .cons a t => .cons (as := []) (bs := []) a (readsAll_flat t)
theorem reads_flat {K : PySem.W.Frag} {F : Hp} {h : Heap} {v : V} {u : Value} {d : DV} (hd : Hold K F v d) (e : flatD d = true) (r : RelV v u) : Reads h u d.py [] := by
  cases hd <;> try cases e
  · cases (show u = Value.none from r); rw [DV.py]; exact .none
  · cases (show u = Value.bool _ from r); rw [DV.py]; exact .bool _
  · obtain ⟨t, rfl⟩ := (show ∃ t, u = Value.int _ t from r); rw [DV.py]; exact .int _ _
  · obtain ⟨t, rfl⟩ := (show ∃ t, u = Value.str _ t from r); rw [DV.py]; exact .str _ _
theorem key_reads {h : Heap} {k : Key} {u : Value} (e : keyIs k u = true) : Reads h u (keyDV k).py [] := by
  rcases keyIs_shape e with ⟨i, t, rfl, rfl⟩ | ⟨x, t, rfl, rfl⟩
  · show Reads h _ (DV.int i).py []
    rw [DV.py]; exact .int _ _
  · show Reads h _ (DV.str x).py []
    rw [DV.py]; exact .str _ _
theorem reads_dict {P : Program} {w : World} {K : PySem.W.Frag} {F : Hp} {h : Heap} : ∀ {es : List DictEntry} {vs : List (Key × Value)} {us : List (Key × V)} {kvs : List (Key × DV)}, Pairs (mixKind P w) es vs → KV us vs → HKV K F us kvs → kvs.all (fun kv => flatD kv.2) = true →
    Paired (fun u d => Reads h u d []) (es.map (·.key)) ((kvPy kvs).map (·.1)) ∧ Paired (fun u d => Reads h u d []) (es.map (·.val)) ((kvPy kvs).map (·.2))
  | _, _, _, kvs, .nil, .nil, hk, _ => by
    rcases hk.inv with ⟨_, rfl⟩ | ⟨_, _, _, _, _, e, _⟩
    · exact ⟨.nil, .nil⟩
    · cases e
  | _, _, _, kvs, .cons h1 h2 t, .cons r1 r2, hk, hf => by
    rcases hk.inv with ⟨e, _⟩ | ⟨k, v, d, us', kvs', e, rfl, hd, ht⟩
    · cases e
    · cases e
      rw [List.all_cons, Bool.and_eq_true] at hf
      obtain ⟨i1, i2⟩ := reads_dict (h := h) t r2 ht hf.2
      obtain ⟨e1, e2⟩ := r1
      refine ⟨.cons ?_ i1, .cons ?_ i2⟩
      · exact key_reads (by have := h1; rw [← e1] at this; exact this)
      · exact reads_flat hd hf.1 (Eq.subst (motive := fun z => RelV v z) h2.symm e2)
def rReprK (K : PySem.W.Frag) : List V → Hp → VK → Prop := fun xs H Q => ∃ a F us kvs, xs = [V.ref a] ∧ Rd H a (.dK us) ∧ HKV K F us kvs ∧ (kvs.all (fun kv => flatD kv.2) = true ∧ (PyData.dict (kvPy kvs)).showable = true ∧ (PyData.dict (kvPy kvs)).depth ≤ 60 ∧ (PyData.dict (kvPy kvs)).shown.length ≤ sizeLine) ∧ Q (.str (PyData.dict (kvPy kvs)).shown) H
theorem call_reprK {X : Cx} (hgd : X.A.guards = some []) (hu : X.A.units + 65 < cLine) : CallR X (.builtin "repr") (rReprK X.K) := by
  intro pins s σ H xs us0 Q I r h
  obtain ⟨a, F, us, kvs, rfl, hd, hk, ⟨h1, h2, h3, h4⟩, q⟩ := h
  obtain ⟨u, rfl, rx⟩ := vals1 r
  obtain rfl : u = Value.ref a := rx
  obtain ⟨z, lo, vs, rel, o, es, ep, ho, hx, hdt, hko, hp, hn⟩ := dk_rd I.hok hd
  obtain ⟨p1, p2⟩ := reads_dict (h := s.heap) hp rel hk h1
  have rd : Reads s.heap (.ref a) (.dict (kvPy kvs)) (a :: [] ++ []) := .dict ho hx.1 hdt (readsAll_flat p1) (readsAll_flat p2)
  exact repr_of_reads' rd h2 (fun _ hm => by
    have : sysModules = a := by simpa using hm
    rw [this] at lo
    simp at lo) hgd (by omega) (fun _ _ e => e) (fun h' t tk hk => ⟨.str (PyData.dict (kvPy kvs)).shown, H, I.kept hk, ⟨t, rfl⟩, q⟩) h4
def gReprA : DV → (Cell → Prop) → Prop := fun x Q => gRepr x Q ∨ gReprK x Q
theorem op1Repr {K : PySem.W.Frag} : Op1 K (fun xs H Q => rRepr K xs H Q ∨ rReprK K xs H Q) gReprA := by
  refine ⟨fun x Q Q' q g => ?_, fun B Z F H n σ env v x Q S hv g => ?_⟩
  · rcases g with g | g
    · exact .inl ⟨g.1, q _ g.2⟩
    · refine .inr ?_
      cases x <;> first | exact ⟨g.1, q _ g.2⟩ | exact g
  · rcases g with ⟨⟨h1, h2, h3⟩, g⟩ | g
    · obtain ⟨d1, d2⟩ := py_depth x 60 h1
      refine .inl ⟨v, x.py, rfl, ?_, h2, py_noDict x 60 h1, d2, h3, g _ H F S (Ext.refl _) (Res.dat (.str _))⟩
      rcases hv with hv | ⟨a, oc, rfl, ho, e⟩
      · exact Dp_mono S.same (dp_of hv 60 h1)
      · cases oc with
        | l xs =>
          cases e
          have hv : View K F H n (.ref a) (.lst xs) := .inr ⟨a, .l xs, rfl, ho, rfl⟩
          rw [DV.py]
          exact view_hold_lst S.same hv h1
        | pen => cases e
        | k kvs => cases e; cases h1
        | t kvs => cases e; cases h1
        | ins C fs => cases e; cases h1
    · cases x with
      | dk kvs =>
        obtain ⟨a, us, rfl, e1, e2, e3⟩ := hv.dk S.same
        exact .inr ⟨a, F, us, kvs, rfl, e1, ⟨e2, e3⟩, g.1, g.2 _ H F S (Ext.refl _) (Res.dat (.str _))⟩
      | _ => exact g.elim
theorem pcRepr {X : Cx} {Z : ZX} {a : Expr} {ca : Nat} {f : DD} {p pos : Pos} (hgd : X.A.guards = some []) (hu : X.A.units + 65 < cLine) (hg : Gl X "repr") (hm : X.mg "repr" = none) (ha : PVd X Z a ca f) (hs : starEach [a] X.env = (false, eval a X.env) :: starEach [] X.env := by rfl) :
    PEc X Z (.Call (.Name "repr" p) [a] [] pos) ca (dOp1 gReprA f) := PEc.b1 op1Repr (callR_or (call_repr hgd hu) (call_reprK hgd hu)) (by decide +kernel) ha hg hm (hs := hs)

/-! ### a written dict with keys that are numbers -/
structure WDict (K : PySem.W.Frag) (a : Addr) (kvs : List (Int × (V × DV))) : Prop where
  low : (a == sysModules) = false
  at_ : ∃ es n, K.lookup a = some ⟨.type "dict", none, .dict es n, #[]⟩ ∧ (∀ e ∈ es, ∃ k, Value.isInt k e.key = true ∧ e.hash = hashInt k) ∧
    ∀ k, (∀ p, kvs.lookup k = some p → ∃ u, findBy Value.isInt es k = some u ∧ RelV p.1 u) ∧ (kvs.lookup k = none → findBy Value.isInt es k = none)
  val : ∀ F k p, kvs.lookup k = some p → Hold K F p.1 p.2
section
variable {X : Cx} {a : Addr} {kvs : List (Int × (V × DV))}
theorem WDict.map (D : WDict X.K a kvs) {pins : List (Addr × Obj)} {σ : L2.St} {H : Hp} {s : Shared} (I : Inv X pins σ H s) : ∃ f, s.heap.MapOf (intKind X.prog X.w) a f ∧ ∀ k, (∀ p, kvs.lookup k = some p → ∃ u, f k = some u ∧ RelV p.1 u) ∧ (kvs.lookup k = none → f k = none) := by
  obtain ⟨es, n, h1, h2, h3⟩ := D.at_
  exact ⟨_, ⟨_, es, n, I.kIn _ _ h1, ⟨rfl, rfl, rfl⟩, rfl, fun e he => h2 e he, fun _ => rfl⟩, h3⟩
theorem wd_some (k : Int) (f : Int → Option Value) (h : (∀ p, kvs.lookup k = some p → ∃ u, f k = some u ∧ RelV p.1 u) ∧ (kvs.lookup k = none → f k = none)) : (f k).isSome = (kvs.lookup k).isSome := by
  cases e : kvs.lookup k with
  | none => rw [h.2 e]; rfl
  | some p =>
    obtain ⟨u, e1, _⟩ := h.1 p e
    rw [e1]
    rfl
theorem op_inW (D : WDict X.K a kvs) : OpR X (compareOp .In) (fun x y H Q => ∃ i, x = .int i ∧ y = .ref a ∧ Q (.bl (kvs.lookup i).isSome) H) := by
  intro pins s σ H x y v u Q I rx ry h
  obtain ⟨i, rfl, rfl, q⟩ := h
  obtain ⟨t, rfl⟩ := (show ∃ t, v = Value.int i t from rx)
  obtain rfl : u = Value.ref a := ry
  obtain ⟨f, hm, hf⟩ := D.map I
  refine wpAny_in_of (intKind_is X.prog X.w i t) D.low hm ?_
  rw [wd_some i f (hf i)]
  exact ⟨.bl _, H, I.tok _, rfl, q⟩
theorem op_notInW (D : WDict X.K a kvs) : OpR X (compareOp .NotIn) (fun x y H Q => ∃ i, x = .int i ∧ y = .ref a ∧ Q (.bl (!(kvs.lookup i).isSome)) H) := by
  intro pins s σ H x y v u Q I rx ry h
  obtain ⟨i, rfl, rfl, q⟩ := h
  obtain ⟨t, rfl⟩ := (show ∃ t, v = Value.int i t from rx)
  obtain rfl : u = Value.ref a := ry
  obtain ⟨f, hm, hf⟩ := D.map I
  refine wpAny_notIn_of (intKind_is X.prog X.w i t) D.low hm ?_
  rw [wd_some i f (hf i)]
  exact ⟨.bl _, H, I.tok _, rfl, q⟩
theorem ix_W (D : WDict X.K a kvs) : IxR X (fun x y H Q => ∃ i p, x = .ref a ∧ y = .int i ∧ kvs.lookup i = some p ∧ Q p.1 H) := by
  intro value slice pins s σ H x y v u Q I rx ry h hs
  obtain ⟨i, p, rfl, rfl, e, q⟩ := h
  obtain rfl : v = Value.ref a := rx
  obtain ⟨t, rfl⟩ := (show ∃ t, u = Value.int i t from ry)
  obtain ⟨f, hm, hf⟩ := D.map I
  obtain ⟨w', e1, r1⟩ := (hf i).1 p e
  exact tail_any hm.typeIs PySem.F.slot_dict_getitem.lookup (wpAny_getItem_of (intKind_is X.prog X.w i t) hm e1 ⟨p.1, H, I.tok _, r1, q⟩) hs
def gInW (kvs : List (Int × (V × DV))) (a : Addr) (neg : Bool) : DV → DV → (Bool → Prop) → Prop := fun x y Q => match x, y with
  | .int i, .ref b => b = a ∧ Q (xorB neg (kvs.lookup i).isSome)
  | _, _ => False
theorem opInW {K : PySem.W.Frag} : OpB K (fun x y H Q => ∃ i, x = .int i ∧ y = .ref a ∧ Q (.bl (kvs.lookup i).isSome) H) (gInW kvs a false) := by
  refine ⟨fun x y Q Q' q g => ?_, fun F H v u x y Q S hv hu g => ?_⟩
  · cases x <;> cases y <;> first | exact ⟨g.1, q _ g.2⟩ | exact g
  · cases hv <;> first | (cases hu <;> first | (obtain ⟨rfl, g⟩ := g; exact ⟨_, rfl, rfl, g⟩) | exact g.elim) | exact (by cases y <;> exact g.elim)
theorem opNotInW {K : PySem.W.Frag} : OpB K (fun x y H Q => ∃ i, x = .int i ∧ y = .ref a ∧ Q (.bl (!(kvs.lookup i).isSome)) H) (gInW kvs a true) := by
  refine ⟨fun x y Q Q' q g => ?_, fun F H v u x y Q S hv hu g => ?_⟩
  · cases x <;> cases y <;> first | exact ⟨g.1, q _ g.2⟩ | exact g
  · cases hv <;> first | (cases hu <;> first | (obtain ⟨rfl, g⟩ := g; exact ⟨_, rfl, rfl, g⟩) | exact g.elim) | exact (by cases y <;> exact g.elim)
end
def gIxW (kvs : List (Int × (V × DV))) (a : Addr) : DV → DV → (DV → Prop) → Prop := fun x y Q => match x, y with
  | .ref b, .int i => b = a ∧ optP (kvs.lookup i) fun p => Q p.2
  | _, _ => False
section
variable {X : Cx} {Z : ZX} {a b : Expr} {ca cb : Nat} {fa fb : DD} {pos : Pos} {w : Addr} {kvs : List (Int × (V × DV))}
theorem ptInW (D : WDict X.K w kvs) (ha : PEd X Z a ca fa) (hb : PEd X Z b cb fb) (hm : behindInMarks .In b = false := by rfl) : PTd X Z (.Compare a [.In] [b] pos) (ca + cb) (dCmp (gInW kvs w false) fa fb) := ptCmpR (op_inW D) opInW hm ha hb
theorem ptNotInW (D : WDict X.K w kvs) (ha : PEd X Z a ca fa) (hb : PEd X Z b cb fb) (hm : behindInMarks .NotIn b = false := by rfl) : PTd X Z (.Compare a [.NotIn] [b] pos) (ca + cb) (dCmp (gInW kvs w true) fa fb) := ptCmpR (op_notInW D) opNotInW hm ha hb
theorem pdIxW (D : WDict X.K w kvs) (ha : PEd X Z a ca fa) (hb : PEd X Z b cb fb) (hs : PlainIx b) : PEd X Z (.Subscript a b pos) (ca + cb) (dOp2d (gIxW kvs w) fa fb) := by
  refine PEd.op2 (r := fun x y H Q => ∃ i p, x = .ref w ∧ y = .int i ∧ kvs.lookup i = some p ∧ Q p.1 H) ⟨fun x y Q Q' q g => ?_, fun B Z F H n σ env v u x y Q S hv hu g => ?_⟩ ha hb (pe_ix (ix_W D) ha.run hb.run hs)
  · cases x <;> cases y <;> first | exact ⟨g.1, optP_mono (fun p => q _) g.2⟩ | exact g
  · cases hv with
    | ref c =>
      cases hu with
      | int i =>
        obtain ⟨rfl, g⟩ := g
        obtain ⟨p, e, g⟩ := optP_some g
        exact ⟨i, p, rfl, rfl, e, g _ H F S (Ext.refl _) (D.val F i p e)⟩
      | _ => exact g.elim
    | _ => cases y <;> exact g.elim
end

/-! ### x += e, numbers -/
def wAugI (h : Int → Int → Int) (i : Nat) (f : DD) : WS := fun D env => ∃ k, env[i]? = some (.d (.int k)) ∧ f env fun d e => match d with
  | .int m => okSet e i ∧ D.nx (e.set i (.d (.int (h k m))))
  | _ => False
theorem psAugI {X : Cx} {Z : ZX} {h : Int → Int → Int} {op : Operator} {i : Nat} {x : Str} {e : Expr} {c : Nat} {f : DD} {pos pos' : Pos} (ho : PIp X op (ipI h)) (hN : X.N.Nodup) (hi : X.N[i]? = some x) (hx : Loc X.env.scope x) (he : PEd X Z e c f)
    (hf : X.fn x = true ∨ X.env.scope.names.lookup x = some .local := by first | exact .inl rfl | exact .inr rfl | assumption) : PSd X Z (.AugAssign (.Name x pos') op e pos) c (wAugI h i f) := by
  refine ⟨fun D D' env l ⟨k, h1, h2⟩ => ⟨k, h1, he.mono _ _ _ (fun d e g => ?_) h2⟩, PS_imp (ps_aug hN hi hx he.run ho hf) fun D σ H ⟨B, F, n, env, hn, S, k, e0, h⟩ => ?_⟩
  · cases d <;> first | exact ⟨g.1, l.nx _ g.2⟩ | exact g
  · obtain ⟨v, ev, hv⟩ := S.dat e0
    cases hv
    refine ⟨_, ev, bindD he.mono hn S h fun d e1 u H1 F1 g S1 x1 hu => ?_⟩
    cases hu with
    | int m => exact ⟨k, m, rfl, rfl, g.2 _ H1 F1 (S1.store (Res.dat (.int _)) i (okSet_of g.1)) x1⟩
    | _ => exact g.elim
end DL
set_option maxRecDepth 100000
set_option maxHeartbeats 4000000
namespace DL
open PySem PySem.Spec PyProof.Rows L2
section
variable {P : Program} {w : World} {K : PySem.W.Frag} {mg : Str → Option Value} {base : Heap} {N : List Str} {qual : Str} {scope : Scope} {f : Addr} {cd : Value} {A : Around} {outer : List Env} {s : Shared} {H : Hp} {E : XK}
theorem takesD : Takes (cxOf (L2.CX P w) P w K mg base N qual scope f cd A outer s H E) (fun cls d _ H => E cls d H) := takes_of rfl rfl rfl rfl
theorem passD : Passes (L2.CX P w) (cxOf (L2.CX P w) P w K mg base N qual scope f cd A outer s H E) E := passes_call takesD fun _ _ _ _ h => h
theorem ownD : PassesOwn (model P w) (cxOf (L2.CX P w) P w K mg base N qual scope f cd A outer s H E).A (cxOf (L2.CX P w) P w K mg base N qual scope f cd A outer s H E).env (cxOf (L2.CX P w) P w K mg base N qual scope f cd A outer s H E).xe := passes_of rfl
end
theorem u1 {k : Nat} {A : Around} (r : Room k A) : A.units + 1 < cLine := by have := r.un; omega
theorem u65 {k : Nat} {A : Around} (r : Room k A) : A.units + 65 < cLine := by have := r.un; omega
abbrev dSub (a b : DD) : DD := dOp2d (gI0 fun i j => .int (i - j)) a b
abbrev dMod (a b : DD) : DD := dOp2d (gI2 (fun _ j => 0 < j) fun i j => .int (i % j)) a b
abbrev dFdiv (a b : DD) : DD := dOp2d (gI2 CDivW fun i j => .int (i / j)) a b
abbrev dPow (a b : DD) : DD := dOp2d (gI2 CPowW fun i j => .int (i ^ j.toNat)) a b
abbrev tLt (a b : DD) : DT := dCmp (gB2 fun i j => decide (i < j)) a b
abbrev tLe (a b : DD) : DT := dCmp (gB2 fun i j => decide (i ≤ j)) a b
abbrev tGt (a b : DD) : DT := dCmp (gB2 fun i j => decide (j < i)) a b
abbrev tGe (a b : DD) : DT := dCmp (gB2 fun i j => decide (j ≤ i)) a b
abbrev tEq (a b : DD) : DT := dCmp (gEq false) a b
abbrev tNe (a b : DD) : DT := dCmp (gEq true) a b
theorem seq_gen {u w : WS} {D : EndsD} {env : List Cell} (h : ∀ k : List Cell → Prop, w D = k → u { D with nx := k } env) : wSeq u w D env := h _ rfl
end DL
set_option maxRecDepth 100000
set_option maxHeartbeats 4000000
namespace DL
open PySem PySem.Spec PyProof.Rows L2
/-! ### the pen -/
def penKV (cs : List Int) (i g k f : Int) : List (Key × DV) := [(.inr "cells", .lst (cs.map DV.int)), (.inr "at", .int i), (.inr "digits", .int g), (.inr "count", .int k), (.inr "fold", .int f)]
structure PenR (i g k f : Int) (n : Nat) : Prop where
  i0 : 0 ≤ i
  g0 : 0 ≤ g
  k0 : 0 ≤ k
  kn : k ≤ (n : Int)
  f0 : 0 ≤ f
  f1 : f < 2147483587
section
variable {K : PySem.W.Frag} {F H : Hp} {n : Nat} {a : Addr}
theorem pen_in (h : PenAt K F H n a) : ∃ cs i g k f, OCOk K F H n a (.k (penKV cs i g k f)) ∧ PenR i g k f n := by
  obtain ⟨lc, cs, i, g, k, f, h1, h2, h3, h4, h5, h6, h7, h8⟩ := h
  exact ⟨cs, i, g, k, f, ⟨_, h1, rfl, .cons h2 (.cons (.int _) (.cons (.int _) (.cons (.int _) (.cons (.int _) .nil))))⟩, h3, h4, h5, h6, h7, h8⟩
theorem pen_out {cs : List Int} {i g k f : Int} (h : OCOk K F H n a (.k (penKV cs i g k f))) (r : PenR i g k f n) : PenAt K F H n a := by
  obtain ⟨us, h1, h2, h3⟩ := h
  match us, h2, h3 with
  | [(_, v1), (_, v2), (_, v3), (_, v4), (_, v5)], h2, h3 =>
    injection h2 with e1 h2
    injection h2 with e2 h2
    injection h2 with e3 h2
    injection h2 with e4 h2
    injection h2 with e5 h2
    dsimp only at e1 e2 e3 e4 e5
    subst e1; subst e2; subst e3; subst e4; subst e5
    cases h3 with
    | cons w1 h3 => cases h3 with
      | cons w2 h3 => cases h3 with
        | cons w3 h3 => cases h3 with
          | cons w4 h3 => cases h3 with
            | cons w5 h3 =>
              dsimp only at w1 w2 w3 w4 w5
              cases w2; cases w3; cases w4; cases w5
              have w1' := w1
              cases w1 with
              | lst q r' => exact ⟨_, cs, i, g, k, f, h1, w1', r.i0, r.g0, r.k0, r.kn, r.f0, r.f1⟩
end
section
variable (c : List Int) (i g k f x : Int)
theorem pen_cells : (lookD (.dk (penKV c i g k f)) (.str "cells")).bind id = some (.lst (c.map DV.int)) := by with_unfolding_all rfl
theorem pen_at : (lookD (.dk (penKV c i g k f)) (.str "at")).bind id = some (.int i) := by with_unfolding_all rfl
theorem pen_digits : (lookD (.dk (penKV c i g k f)) (.str "digits")).bind id = some (.int g) := by with_unfolding_all rfl
theorem pen_count : (lookD (.dk (penKV c i g k f)) (.str "count")).bind id = some (.int k) := by with_unfolding_all rfl
theorem pen_fold : (lookD (.dk (penKV c i g k f)) (.str "fold")).bind id = some (.int f) := by with_unfolding_all rfl
theorem put_at : putD (penKV c i g k f) (.inr "at") (.int x) = penKV c x g k f := by with_unfolding_all rfl
theorem put_digits : putD (penKV c i g k f) (.inr "digits") (.int x) = penKV c i x k f := by with_unfolding_all rfl
theorem put_count : putD (penKV c i g k f) (.inr "count") (.int x) = penKV c i g x f := by with_unfolding_all rfl
theorem put_fold : putD (penKV c i g k f) (.inr "fold") (.int x) = penKV c i g k x := by with_unfolding_all rfl
theorem pen_len : (penKV c i g k f).length < LINE := by show 5 < 16777216; decide
end
theorem ok_int (k : Nat) (i : Int) : DV.ok k (.int i) = true := by cases k <;> rfl
theorem ok_bl (k : Nat) (i : Bool) : DV.ok k (.bl i) = true := by cases k <;> rfl
theorem ok_non (k : Nat) : DV.ok k .non = true := by cases k <;> rfl
theorem eqD_int (a b : Int) : eqD (.int a) (.int b) = decide (a = b) := by
  unfold eqD DV.py
  simp only [PyData.eqv]
  exact Bool.eq_iff_iff.mpr (by rw [beq_iff_eq, decide_eq_true_iff])
theorem ite_dec {p : Prop} [Decidable p] {a b : Prop} (h : p → a) (h' : ¬ p → b) : if decide p = true then a else b := by
  split
  · exact h (of_decide_eq_true ‹_›)
  · exact h' (fun z => absurd (decide_eq_true z) ‹_›)
theorem pow17 {x : Int} (h0 : 0 ≤ x) (h : x < 1267650600228229401496703205376 * (LIM : Int)) : CPowW x 17 := by
  refine ⟨by decide, ?_⟩
  have b : Builtin.Int.intBits x ≤ x.natAbs.log2 + 1 := by
    unfold Builtin.Int.intBits
    split <;> omega
  have hn : x.natAbs < 1267650600228229401496703205376 * LIM := by
    have e : ((x.natAbs : Nat) : Int) = x := by omega
    have h2 : ((x.natAbs : Nat) : Int) < ((1267650600228229401496703205376 * LIM : Nat) : Int) := by rw [e, Int.natCast_mul]; exact h
    exact Int.ofNat_lt.mp h2
  have hl : x.natAbs.log2 < 4100 := by
    by_cases hz : x.natAbs = 0
    · rw [hz]
      decide
    · refine (Nat.log2_lt hz).mpr ?_
      have e2 : (2 : Nat) ^ 4100 = 1267650600228229401496703205376 * LIM := by
        unfold LIM
        rw [show (4100 : Nat) = 100 + 4000 from rfl, Nat.pow_add]
      rw [e2]
      exact hn
  have h3 : (Builtin.Int.intBits x : Int) * 17 ≤ (4101 : Int) * 17 := by omega
  exact Int.le_trans h3 (by decide)
theorem lim1 : (1 : Int) ≤ (LIM : Int) := by
  have h : 1 ≤ LIM := Nat.one_le_two_pow
  omega
theorem atI_in {xs : List DV} {i : Int} (h0 : 0 ≤ i) (h1 : i < (xs.length : Int)) : ∃ d, xs[i.toNat]? = some d ∧ atI xs i = some d := by
  have hl : i.toNat < xs.length := by omega
  refine ⟨xs[i.toNat], List.getElem?_eq_getElem hl, ?_⟩
  unfold atI ixN
  rw [if_pos h0, if_pos h1]
  exact List.getElem?_eq_getElem hl
theorem atI_int {c : List Int} {i : Int} (h0 : 0 ≤ i) (h1 : i < ((c.map DV.int).length : Int)) : ∃ x, atI (c.map DV.int) i = some (.int x) := by
  obtain ⟨d, e1, e2⟩ := atI_in h0 h1
  rw [List.getElem?_map] at e1
  cases hc : c[i.toNat]? with
  | none => rw [hc] at e1; cases e1
  | some x =>
    rw [hc] at e1
    cases e1
    exact ⟨x, e2⟩
/-- draw: by the pen's fields; by the pen -/
def conDrawK : Con := fun cs P _ => ∃ b m c i g k f, cs = [.o b (.k (penKV c i g k f)), .d (.int m)] ∧ (0 < m ∧ m.natAbs.log2 < 9000) ∧ PenR i g k f LIM ∧
  ∀ r i' g' f', 0 ≤ r → r < m → PenR i' g' k f' LIM → P (.d (.int r)) [.k (penKV c i' g' (k + 1) f')]
def conDraw : Con := fun cs P _ => match cs with
  | [.o _ .pen, .d (.int m)] => (0 < m ∧ m.natAbs.log2 < 9000) ∧ ∀ r, 0 ≤ r → r < m → P (.d (.int r)) [.pen]
  | _ => False
def conPenK : Con := fun cs P _ => ∃ ns : List Int, (cs = [.d (.klst (ns.map DV.int))] ∧ ns.length ≤ 1000) ∧ ∀ f, 0 ≤ f → f < 2147483587 → P (.o false (.k (penKV ns 0 0 0 f))) []
def conPen : Con := fun cs P _ => ∃ ns : List Int, (cs = [.d (.klst (ns.map DV.int))] ∧ ns.length ≤ 1000) ∧ P (.o false .pen) []
theorem conDraw_inv {cs : List Cell} {P : Cell → List OC → Prop} {Y : Addr → List (Str × DV) → List OC → Prop} (h : conDraw cs P Y) : ∃ b m, cs = [.o b .pen, .d (.int m)] ∧ (0 < m ∧ m.natAbs.log2 < 9000) ∧ ∀ r, 0 ≤ r → r < m → P (.d (.int r)) [.pen] := by
  unfold conDraw at h
  split at h
  · exact ⟨_, _, rfl, h⟩
  · exact h.elim
theorem mono_conDraw : ConMono conDraw := fun cs P P2 Y Y2 hP hY q => by
  obtain ⟨b, m, rfl, h, p⟩ := conDraw_inv q
  exact ⟨h, fun r h1 h2 => hP _ _ (p r h1 h2)⟩
theorem mono_conPen : ConMono conPen := fun cs P P2 Y Y2 hP hY ⟨b, e, p⟩ => ⟨b, e, hP _ _ p⟩
section
variable {P : Program} {w : World} {K : PySem.W.Frag} {mg : Str → Option Value} {base : Heap} {CX : CXT} {k : Nat} {f : Addr} {fd : FuncData} {ps : List Str} {T : List (Addr × Str)}
theorem draw_ok (G : FnOk P w K mg base CX k f fd ps (SpD K T 0 conDrawK)) : FnOk P w K mg base CX k f fd ps (SpD K T 1 conDraw) := by
  refine G.imp fun vs H Q E ⟨F, n, cs, M, hn, s, ht, hp, nd, q⟩ => ?_
  obtain ⟨b, m, rfl, hm, q⟩ := conDraw_inv q
  obtain ⟨v, u, rfl⟩ : ∃ v u, vs = [v, u] := by
    cases vs with
    | nil => exact hp.elim
    | cons v vs => cases vs with
      | nil => exact hp.2.elim
      | cons u vs => cases vs with
        | nil => exact ⟨v, u, rfl⟩
        | cons _ _ => exact hp.2.2.elim
  · obtain ⟨⟨a, e1, hF, hO⟩, hu, _⟩ := hp
    subst e1
    have hu' := hu
    cases hu
    obtain ⟨c, i, g, k, f, hK, hR⟩ := pen_in hO
    have hn1 : n + 1 ≤ LIM := Nat.le_trans hn.1 hn.2
    refine ⟨F, n, [.o b (.k (penKV c i g k f)), .d (.int m)], M, ⟨by omega, hn.2⟩, s, ht, ⟨⟨a, rfl, hF, hK⟩, hu', trivial⟩, nd, b, m, c, i, g, k, f, rfl, hm, ⟨hR.i0, hR.g0, hR.k0, by have := hR.kn; omega, hR.f0, hR.f1⟩, fun r i' g' f' r0 r1 R' v H' F' pd => q r r0 r1 v H' F' ?_⟩
    obtain ⟨⟨x1, x2, x3, x4, x5, x6, x7⟩, res⟩ := pd
    refine ⟨⟨x1, x2, x3, x4, x5, x6, ?_⟩, res⟩
    cases x7 with
    | cons y ys =>
      cases ys
      exact .cons ⟨y.1, pen_out (n := n + 1) (y.2.mono (Ext.refl _) rfl (by omega)) ⟨R'.i0, R'.g0, by have := R'.k0; omega, by have := hR.kn; omega, R'.f0, R'.f1⟩⟩ .nil
theorem pen_ok (G : FnOk P w K mg base CX k f fd ps (SpD K T 0 conPenK)) : FnOk P w K mg base CX k f fd ps (SpD K T 0 conPen) := by
  refine G.imp fun vs H Q E ⟨F, n, cs, M, hn, s, ht, hp, nd, ns, ⟨e, hl⟩, q⟩ => ?_
  subst e
  refine ⟨F, n, _, M, hn, s, ht, hp, nd, ns, ⟨rfl, hl⟩, fun f f0 f1 v H' F' pd => q v H' F' ?_⟩
  obtain ⟨fr, res⟩ := pd
  refine ⟨fr, ?_⟩
  obtain ⟨rb, a, rv, r0, r1, r2⟩ := res
  exact ⟨rb, a, rv, r0, r1, pen_out r2 ⟨Int.le_refl _, Int.le_refl _, Int.le_refl _, by omega, f0, f1⟩⟩
end
end DL
set_option maxRecDepth 100000
set_option maxHeartbeats 4000000
namespace DL
open PySem PySem.Spec PyProof.Rows L2
/-! ### promises of defs that only compute -/
def dataOf : List Cell → Option (List DV)
  | [] => some []
  | .d x :: cs => (dataOf cs).map (x :: ·)
  | _ :: _ => none
/-- what comes out: a value, an error -/
inductive Out where
  | ret (d : DV) | err (C : Addr) (fs : List (Str × DV))
def Out.to (r : Out) (P : Cell → List OC → Prop) (Y : Addr → List (Str × DV) → List OC → Prop) : Prop := match r with
  | .ret d => P (.d d) []
  | .err C fs => Y C fs []
def conF (n : Nat) (f : List DV → Option Out) : Con := fun cs P Y => optP (dataOf cs) fun xs => xs.length = n ∧ optP (f xs) fun r => r.to P Y
theorem dataOf_some : ∀ {cs : List Cell} {xs : List DV}, dataOf cs = some xs → cs = xs.map Cell.d
  | [], xs, h => by cases h; rfl
  | .d x :: cs, xs, h => by
    unfold dataOf at h
    cases e : dataOf cs with
    | none => rw [e] at h; cases h
    | some ys =>
      rw [e] at h
      cases h
      rw [List.map_cons, ← dataOf_some e]
  | .un :: _, _, h => by cases h
  | .o _ _ :: _, _, h => by cases h
theorem conF_inv {n : Nat} {f : List DV → Option Out} {cs : List Cell} {P : Cell → List OC → Prop} {Y : Addr → List (Str × DV) → List OC → Prop} (h : conF n f cs P Y) : ∃ xs r, cs = xs.map Cell.d ∧ xs.length = n ∧ f xs = some r ∧ r.to P Y := by
  obtain ⟨xs, e, hl, q⟩ := optP_some h
  obtain ⟨r, e2, q⟩ := optP_some q
  exact ⟨xs, r, dataOf_some e, hl, e2, q⟩
theorem conF_len {n : Nat} {f : List DV → Option Out} (cs : List Cell) (P : Cell → List OC → Prop) (Y : Addr → List (Str × DV) → List OC → Prop) (h : conF n f cs P Y) : cs.length = n := by
  obtain ⟨xs, r, rfl, hl, _⟩ := conF_inv h
  rw [List.length_map]
  exact hl
theorem mono_conF {n : Nat} {f : List DV → Option Out} : ConMono (conF n f) := fun cs P P2 Y Y2 hP hY h => by
  unfold conF at *
  revert h
  cases dataOf cs with
  | none => exact id
  | some xs =>
    rintro ⟨hl, h⟩
    refine ⟨hl, ?_⟩
    revert h
    cases f xs with
    | none => exact id
    | some r =>
      cases r with
      | ret d => exact hP _ _
      | err C fs => exact hY _ _ _
theorem one_of {α : Type} {xs : List α} (h : xs.length = 1) : ∃ x, xs = [x] := match xs, h with
  | [x], _ => ⟨x, rfl⟩
theorem two_of {α : Type} {xs : List α} (h : xs.length = 2) : ∃ x y, xs = [x, y] := match xs, h with
  | [x, y], _ => ⟨x, y, rfl⟩
theorem three_of {α : Type} {xs : List α} (h : xs.length = 3) : ∃ x y z, xs = [x, y, z] := match xs, h with
  | [x, y, z], _ => ⟨x, y, z, rfl⟩
theorem ramp_succ (lo : Int) (n : Nat) : ramp lo (n + 1) = .int lo :: ramp (lo + 1) n := by
  unfold ramp
  rw [List.range_succ_eq_map, List.map_cons, List.map_map]
  congr 1
  · show DV.int (lo + 0) = _
    rw [Int.add_zero]
  · refine List.map_congr_left fun i _ => ?_
    show DV.int (lo + ((i + 1 : Nat) : Int)) = DV.int (lo + 1 + (i : Int))
    congr 1
    omega
theorem dI_lst (xs : List DV) : dItems (.lst xs) = some xs := rfl
theorem dI_klst (xs : List DV) : dItems (.klst xs) = some xs := rfl
theorem dI_tup (xs : List DV) : dItems (.tup xs) = some xs := rfl
theorem dI_ktup (xs : List DV) : dItems (.ktup xs) = some xs := rfl
theorem iD_lst (xs : List DV) : itemsD (.lst xs) = some xs := rfl
theorem iD_klst (xs : List DV) : itemsD (.klst xs) = some xs := rfl
theorem iD_tup (xs : List DV) : itemsD (.tup xs) = some xs := rfl
theorem iD_ktup (xs : List DV) : itemsD (.ktup xs) = some xs := rfl
theorem iD_of {x : DV} {xs : List DV} (h : dItems x = some xs) : itemsD x = some xs := by
  cases x <;> first | exact h | (cases h; done)
theorem ln_lst (xs : List DV) : lenD (.lst xs) = some xs.length := rfl
theorem ln_klst (xs : List DV) : lenD (.klst xs) = some xs.length := rfl
theorem ln_tup (xs : List DV) : lenD (.tup xs) = some xs.length := rfl
theorem ln_ktup (xs : List DV) : lenD (.ktup xs) = some xs.length := rfl
theorem ln_of {x : DV} {xs : List DV} (h : dItems x = some xs) : lenD x = some xs.length := by
  cases x <;> first | (cases h; rfl) | (cases h; done)
def seqB : DV → Option Bool
  | .tup _ => some true
  | .ktup _ => some true
  | .lst _ => some true
  | .int _ => some false
  | .bl _ => some false
  | .non => some false
  | .str _ => some false
  | .dk _ => some false
  | _ => none
theorem isi_seq (rel : Rel) (d : DV) (h : seqB d ≠ none) : isiD rel d (.tup [.ty "tuple", .ty "list"]) = seqB d := by
  cases d <;> first | rfl | exact absurd rfl h
def dSeq : DV → Option (List DV)
  | .lst xs => some xs
  | .tup xs => some xs
  | .ktup xs => some xs
  | _ => none
def conPick : Con := fun cs P _ => match cs with
  | [.o _ .pen, .d l] => optP (dSeq l) fun xs => (xs ≠ [] ∧ xs.length ≤ 1000000) ∧ ∀ d ∈ xs, P (.d d) [.pen]
  | _ => False
theorem conPick_inv {cs : List Cell} {P : Cell → List OC → Prop} {Y : Addr → List (Str × DV) → List OC → Prop} (h : conPick cs P Y) : ∃ b l xs, cs = [.o b .pen, .d l] ∧ dSeq l = some xs ∧ (xs ≠ [] ∧ xs.length ≤ 1000000) ∧ ∀ d ∈ xs, P (.d d) [.pen] := by
  unfold conPick at h
  split at h
  · obtain ⟨xs, e, h⟩ := optP_some h
    exact ⟨_, _, xs, rfl, e, h⟩
  · exact h.elim
theorem conPick_mk {b : Bool} {l : DV} {xs : List DV} {P : Cell → List OC → Prop} {Y : Addr → List (Str × DV) → List OC → Prop} (e : dSeq l = some xs) (h : xs ≠ [] ∧ xs.length ≤ 1000000) (q : ∀ d ∈ xs, P (.d d) [.pen]) : conPick [.o b .pen, .d l] P Y := by
  show optP (dSeq l) _
  rw [e]
  exact ⟨h, q⟩
theorem mono_conPick : ConMono conPick := fun cs P P2 Y Y2 hP hY q => by
  obtain ⟨b, l, xs, rfl, e, h, p⟩ := conPick_inv q
  exact conPick_mk e h fun d hd => hP _ _ (p d hd)
theorem log_small {n : Nat} (h : n ≤ 1000000) : n.log2 < 9000 := by
  by_cases hz : n = 0
  · rw [hz]
    decide
  · exact Nat.lt_of_lt_of_le ((Nat.log2_lt hz).mpr (Nat.lt_of_le_of_lt h (by decide : 1000000 < 2 ^ 20))) (by decide)
end DL
set_option maxRecDepth 100000
set_option maxHeartbeats 4000000
namespace DL
open PySem PySem.Spec PyProof.Rows L2
/-! ### several except clauses, each with a name -/
/-- a clause: what it names, the slot of its name, its suite's reading -/
abbrev Cl := Value × Nat × (Addr → Value → Option Addr → TS)
/-- behind a suite the clause's name is gone -/
def gone (i : Nat) (D : Ends) : Ends := { nx := fun σ H => D.nx (σ.set i none) H, rt := D.rt, bk := fun σ H => D.bk (σ.set i none) H, ct := fun σ H => D.ct (σ.set i none) H }
def wManyN (K : PySem.W.Frag) (Wout : WX) (D : Ends) : List Cl → WX
  | [] => Wout
  | c :: r => fun cls d σ H => ∃ b, PySem.W.exmOne K cls c.1 = some b ∧
    (b = true → ∀ a, H a = none → c.2.1 < σ.length → c.2.2 a cls d (gone c.2.1 D) (σ.set c.2.1 (some (.ref a))) H) ∧ (b = false → wManyN K Wout D r cls d σ H)
/-- one clause is read so -/
structure Clause (X : Cx) (x n : Str) (b₀ : Stmt) (suite : List Stmt) (c : Cl) : Prop where
  slot : X.N[c.2.1]? = some n
  loc : X.env.kindOf n = some .local
  names : Names X x c.1
  body : ∀ (a : Addr) (o : Obj) (cls : Value) (d : Option Addr) (pn : List (Addr × Obj)), Zc cls d o → (∃ vs, o.data = .fields vs) → PSs (X.suite a ((a, o) :: pn)) (b₀ :: suite) (c.2.2 a cls d)
inductive HdsN (X : Cx) : List ExceptHandler → List Cl → Prop
  | nil : HdsN X [] []
  | cons {x n : Str} {b₀ : Stmt} {suite : List Stmt} {c : Cl} {np pos' : Pos} {hds : List ExceptHandler} {l : List Cl} (h : Clause X x n b₀ suite c) (r : HdsN X hds l) :
      HdsN X (.ExceptHandler (some (.Name x np)) (some n) (b₀ :: suite) pos' :: hds) (c :: l)
/-- an error at a has come down: sI the state that is known, s the one that runs, its heap at h -/
structure Down (X : Cx) (pins : List (Addr × Obj)) (a : Addr) (B : Heap) (cls : Value) (d : Option Addr) (σ : L2.St) (H : Hp) (sI s : Shared) (h : Heap) : Prop where
  was : Inv X pins σ H sI
  kept : ∀ b o, sI.heap.get? b = some o → b ∉ frs X.stack → B.get? b = some o
  up : sI.heap.UpToSlots h
  os : s.os = sI.os
  gens : AllBare s.gens
  new : H a = none
  fly : HandSPX.FlyingZ B (X.env :: X.outer) a (Zc cls d) h
/-- its code's frame stands at the top -/
structure Top1 (X : Cx) : Prop where
  stk : X.stack = X.env :: X.outer
  frame : X.env.frame = some X.env.locals
section
variable {X : Cx} {pins : List (Addr × Obj)} {a : Addr} {B : Heap} {cls : Value} {d : Option Addr} {σ : L2.St} {H : Hp} {sI s : Shared} {h : Heap}
theorem Down.inv (w : Down X pins a B cls d σ H sI s h) : Inv X pins σ H { s with heap := h } := w.was.landed w.kept w.fly.1 w.up w.os w.gens
theorem Down.off (w : Down X pins a B cls d σ H sI s h) : a ∉ frs (X.env :: X.outer) := by
  obtain ⟨o, vs, e, _, dt⟩ := w.fly.there
  intro m
  obtain ⟨_, o', e', no⟩ := w.fly.2.2.1.mem m
  obtain rfl := Option.some.inj (e.symm.trans e')
  exact no _ dt
/-- a suite may start -/
theorem Down.suite (T : Top1 X) (w : Down X pins a B cls d σ H sI s h) : ∃ o, Zc cls d o ∧ (∃ vs, o.data = .fields vs) ∧ h.get? a = some o ∧ Inv (X.suite a ((a, o) :: (X.pn ++ pins))) [] σ H { s with heap := h } := by
  obtain ⟨o, vs, e, z, dt⟩ := w.fly.there
  refine ⟨o, z, ⟨vs, dt⟩, e, w.inv.suite e dt w.new (fun q => w.off ?_) fun m => w.off ?_⟩
  · exact List.mem_filterMap.mpr ⟨X.env, List.mem_cons_self, by rw [T.frame, q]⟩
  · obtain ⟨v, hv, q⟩ := List.mem_filterMap.mp m
    exact List.mem_filterMap.mpr ⟨v, List.mem_cons_of_mem _ hv, q⟩
theorem Down.again {M : Model} {A : Around} {E : Value → Shared → Prop} {Q : Unit → Shared → Prop} (w : Down X pins a B cls d σ H sI s h) (q : ∀ h', Down X pins a B cls d σ H sI s h' → Q () { s with heap := h' }) :
    wpAny M A (setFlight (.ref a) none) Q E { s with heap := h } :=
  HandSPX.lands_againZ w.fly fun h' f u => q h' { w with fly := f, up := w.up.trans u }
/-- what a clause names is looked up -/
theorem Down.look {x : Str} {c : Value} {np : Pos} (T : Top1 X) (w : Down X pins a B cls d σ H sI s h) (N : Names X x c) {Q E : Value → Shared → Prop} (q : Q c { s with heap := h }) :
    wpAny (model X.prog X.w) (X.A.mark (some (.ref a))) (eval (.Name x np) X.env) Q E { s with heap := h } := by
  obtain ⟨o, _, _, _, I⟩ := w.suite T
  rcases N with ⟨g, nd, m | ⟨m, v, nn⟩⟩
  · exact ld_glob (X := X.suite a ((a, o) :: (X.pn ++ pins))) I g m q nd
  · exact ld_blt (X := X.suite a ((a, o) :: (X.pn ++ pins))) I g m v q nn nd
/-- .. and the error is held against it -/
theorem Down.match {c : Value} {b : Bool} (w : Down X pins a B cls d σ H sI s h) (e : PySem.W.exmOne X.K cls c = some b) : PySem.W.Looks (model X.prog X.w) h (excMatches (.ref a) c) b := by
  obtain ⟨o, _, q, z, _⟩ := w.fly.there
  refine PySem.W.exm_one w.inv.kIn (fun A Q E s' k p => wpAny_typeOf_ref (k _ _ q) ?_) e
  rw [z.1]
  exact p
/-- no clause is left: it goes on -/
theorem Down.out {Wout : WX} {Q : Flow → Shared → Prop} (T : Top1 X) (tk : Takes X Wout) (w : Down X pins a B cls d σ H sI s h) (o : Wout cls d σ H) : wpAny (model X.prog X.w) X.A (handleBy (.ref a) X.env []) Q X.xe { s with heap := h } := by
  have last : ∀ {Q : Unit → Shared → Prop}, (∀ s', X.xe (.ref a) s' → Q () s') → wpAny (model X.prog X.w) X.A (setFlight (.ref a) X.env.frame) Q X.xe { s with heap := h } := fun {Q} q => by
    rw [T.frame]
    exact HandSPX.setFlight_upZ w.fly fun h' hh u => q _ (tk _ _ ⟨a, B, sI, pins, σ, H, cls, d, rfl, w.was, w.kept, w.up.trans u, .inr (.inr (by rw [T.stk]; exact hh)), w.new, w.os, w.gens, o⟩)
  obtain ⟨_, _, _, oe, vs, t, ot, ts, e, z, dt, h1, _⟩ := id w.fly
  refine wpAny_handleBy_nil ?_
  unfold PySem.passOn
  refine wpAny_bind (wpAny_field e dt h1 ?_)
  rw [if_neg (show ¬ ((Value.ref t == Value.none) = true) from by simp)]
  have fin := last (Q := fun _ s' => wpAny (model X.prog X.w) X.A (throw (.ref a) : Sem Flow) Q X.xe s') fun s' x => wpAny_throw x
  first
    | exact wpAny_bind fin
    | exact wpAny_bind (wpAny_pure (wpAny_bind fin))
/-- a suite's end, with its name gone -/
theorem suite_end {D : Ends} {f : Flow} {n : Str} {pos : Pos} {i : Nat} {q : Addr × Obj} {s : Shared} (ok : X.Ok) (hN : X.N.Nodup) (hi : X.N[i]? = some n) (hl : X.env.kindOf n = some .local) (h : SP (X.suite a (q :: (X.pn ++ pins))) [] (gone i D) f s) :
    wpAny (model X.prog X.w) X.A (do bindName X.env n .none; unbindBehindTheSuite X.env n pos) (fun _ s' => SP X pins D f s') X.xe s := by
  cases f with
  | ret u =>
    obtain ⟨v, σ', H', I, r, p⟩ := h
    exact gone_ok (I.unsuite ok) hN hi hl fun s' J => ⟨v, _, H', J, r, p⟩
  | next =>
    obtain ⟨σ', H', I, p⟩ := h
    exact gone_ok (I.unsuite ok) hN hi hl fun s' J => ⟨_, H', J, p⟩
  | brk =>
    obtain ⟨σ', H', I, p⟩ := h
    exact gone_ok (I.unsuite ok) hN hi hl fun s' J => ⟨_, H', J, p⟩
  | cont =>
    obtain ⟨σ', H', I, p⟩ := h
    exact gone_ok (I.unsuite ok) hN hi hl fun s' J => ⟨_, H', J, p⟩
/-- the clauses, one by one -/
theorem Down.clauses {Wout : WX} {D : Ends} (T : Top1 X) (ok : X.Ok) (hN : X.N.Nodup) (tk : Takes X Wout) (w : Down X pins a B cls d σ H sI s h) : ∀ {hds : List ExceptHandler} {l : List Cl}, HdsN X hds l → wManyN X.K Wout D l cls d σ H →
    wpAny (model X.prog X.w) X.A (handleBy (.ref a) X.env hds) (SP X pins D) X.xe { s with heap := h }
  | _, _, .nil, o => w.out T tk o
  | _, _, .cons (c := c) C r, ⟨b, e, yes, no⟩ => by
    refine wpAny_handleBy_cons (codeAny_handlers_test (w.look T C.names ((w.match e).here ?_))) fun z => by cases z
    cases b with
    | false => exact w.clauses T ok hN tk r (no rfl)
    | true =>
      refine codeAny_handlers_suite_as (w.again fun h' w' => ?_)
      obtain ⟨o, z, dt, _, I⟩ := w'.suite T
      refine store_ok (X := X.suite a ((a, o) :: (X.pn ++ pins))) (v := .ref a) I hN C.slot (.inl C.loc) rfl (fun s2 I2 => ?_) (.inr C.loc)
      have lt : c.2.1 < σ.length := by rw [w'.inv.len]; exact (List.getElem?_eq_some_iff.mp C.slot).1
      exact wpAny_mono ((C.body a o cls d (X.pn ++ pins) z dt).run [] s2 _ H _ I2 (yes rfl a w.new lt)) (fun f s3 p => suite_end ok hN C.slot C.loc p) fun _ _ z => z.elim
end
theorem ps_tryN {X : Cx} {body : List Stmt} {h₀ : ExceptHandler} {hds : List ExceptHandler} {l : List Cl} {pos : Pos} {tb : WX → TS} {Wout : WX} (hN : X.N.Nodup) (hs : X.stack = X.env :: X.outer) (hf : X.env.frame = some X.env.locals) (tk : Takes X Wout)
    (hb : ∀ (W : WX) (pn : List (Addr × Obj)) (xe : Value → Shared → Prop), Takes (X.tr pn xe) W → PassesOwn (model X.prog X.w) X.A X.env xe → PSs (X.tr pn xe) body (tb W))
    (hh : HdsN X (h₀ :: hds) l) : PS X (.Try body (h₀ :: hds) [] [] pos) (fun D σ H => tb (wManyN X.K Wout D l) D σ H) := by
  constructor
  intro pins s σ H D I p
  have T : Top1 X := ⟨hs, hf⟩
  have ok := I.ok
  have run := fun xe tk2 ps => (hb (wManyN X.K Wout D l) (X.pn ++ pins) xe tk2 ps).run [] s σ H D (I.toTry _) p
  refine wpAny_Try_except (wpAny_mono (run _ (fun u s' x => ?_) PassesOwn.looking) (fun f s1 q => ?_) (fun _ _ q => q))
  · obtain ⟨a, B, sI, pins', σ', H', cls, d, rfl, J, kept, up, sky, new, os, gens, w⟩ := x
    have sky : Sky B (X.env :: X.outer) a (Zc cls d) X.env.locals s'.heap := by rw [← hs]; exact sky
    exact Sky.land Zc.steady (by rw [ok.frames, hs]) hf sky fun h f u => Down.clauses T ok hN tk ⟨J.ofTry ok, kept, up.trans u, os, gens, new, f⟩ hh w
  · cases f with
    | ret u =>
      obtain ⟨v, σ', H', J, r, q⟩ := q
      exact ⟨v, σ', H', J.ofTry ok, r, q⟩
    | next =>
      obtain ⟨σ', H', J, q⟩ := q
      exact wpAny_execs_nil ⟨σ', H', J.ofTry ok, q⟩
    | brk =>
      obtain ⟨σ', H', J, q⟩ := q
      exact ⟨σ', H', J.ofTry ok, q⟩
    | cont =>
      obtain ⟨σ', H', J, q⟩ := q
      exact ⟨σ', H', J.ofTry ok, q⟩
end DL
set_option maxRecDepth 100000
set_option maxHeartbeats 4000000
namespace DL
open PySem PySem.Spec PyProof.Rows L2 LamX
/-! ### x(lambda: ..): what is told of the state in which x runs -/
/-- a lambda's qualified name -/
abbrev lamQ (X : Cx) : Str := X.env.qual ++ "<lambda>"
/-- the table at P has one more entry, of the code object at c -/
def grown (H : Hp) (P : Addr) (ps more : Array Value) (c : Addr) (q : Str) : Hp := upd (upd H P (.tbl (ps ++ more))) c (CodeO c q)
section
variable {H : Hp} {P c : Addr} {ps more : Array Value} {q : Str}
theorem grown_P (hP : H P = some (.tbl ps)) (nc : H c = none) : grown H P ps more c q P = some (.tbl (ps ++ more)) := by
  unfold grown
  rw [upd_ne (ne_of_none hP nc), upd_same]
theorem grown_c : grown H P ps more c q c = some (CodeO c q) := upd_same
theorem grown_ne {b : Addr} {o : HO} (nc : H c = none) (hb : b ≠ P) (e : H b = some o) : grown H P ps more c q b = some o := by
  unfold grown
  rw [upd_ne (ne_of_none e nc), upd_ne hb, e]
theorem grown_stay (hP : H P = some (.tbl ps)) (nc : H c = none) (b : Addr) (o : HO) (e : H b = some o) : Stay o (grown H P ps more c q b) := by
  by_cases hb : b = P
  · subst hb
    obtain rfl := Option.some.inj (hP.symm.trans e)
    exact .inr ⟨ps, more, rfl, grown_P hP nc⟩
  · exact .inl (grown_ne nc hb e)
theorem grown_code (hP : H P = some (.tbl ps)) (nc : H c = none) {b : Addr} {q' : Str} (e : H b = some (CodeO b q')) : grown H P ps more c q b = some (CodeO b q') :=
  grown_ne nc (fun z => by
    subst z
    exact codeO_ne ps (Option.some.inj (e.symm.trans hP))) e
theorem grown_tabs {T : List (Addr × Str)} {pos : Pos} (t : Tabs T H) (hP : H P = some (.tbl ps)) (nc : H c = none) (only : ∀ p ∈ T, p.1 = P → p.2 = q) (ok : TriplesOk ps.toList) (em : more = #[rawInt pos.line, rawInt pos.col, .ref c]) :
    Tabs T (grown H P ps more c q) := fun p hp => by
  subst em
  obtain ⟨ps1, a1, a2, a3⟩ := t p hp
  by_cases hb : p.1 = P
  · rw [hb] at a1 ⊢
    rw [only p hp hb]
    rw [only p hp hb] at a3
    obtain rfl : ps = ps1 := by
      have z := Option.some.inj (hP.symm.trans a1)
      injection z
    have el : (ps ++ #[rawInt pos.line, rawInt pos.col, .ref c]).toList = ps.toList ++ [rawInt pos.line, rawInt pos.col, .ref c] := by simp
    refine ⟨_, grown_P hP nc, by rw [el]; exact TriplesOk_snoc _ _ _ _ ok, fun x cv e => ?_⟩
    rw [el] at e
    rcases among_app _ ok e with old | rfl
    · obtain ⟨c0, e1, e2⟩ := a3 x cv old
      exact ⟨c0, e1, grown_code hP nc e2⟩
    · exact ⟨c, rfl, grown_c⟩
  · refine ⟨ps1, grown_ne nc hb a1, a2, fun x cv e => ?_⟩
    obtain ⟨c0, e1, e2⟩ := a3 x cv e
    exact ⟨c0, e1, grown_code hP nc e2⟩
end
/-- the maker of a lambda: its code object at c with its table at P, T what is told of tables -/
structure Maker (X : Cx) (T : List (Addr × Str)) (c P : Addr) : Prop where
  tab : TabB X.base X.mg c P
  code : X.env.code = .ref c
  mem : (P, lamQ X) ∈ T
  only : ∀ p ∈ T, p.1 = P → p.2 = lamQ X
/-- a lambda without parameters -/
structure Lam0 (X : Cx) (params : Arguments) (body : Expr) (scope : Scope) : Prop where
  sc : LamS X.env.scope scope
  dfl : defaultsOf params X.env = ([], [])
  bind : ∀ (q : Str) (cl : List (Str × Addr)) (pm cv ctv : Value), bindArgs (PySem.W.kla_fn "<lambda>" q params body scope cl pm cv ctv) ⟨[], []⟩ = pure []
/-- the function object of a lambda -/
abbrev lamO (X : Cx) (params : Arguments) (body : Expr) (scope : Scope) (pm : Value) (c : Addr) (ct : Value) : Obj := PySem.W.kla_obj "<lambda>" (lamQ X) params body scope (cloFrom X.env.cells scope.names []) pm c ct
/-- it is made, at f, over the code object at c -/
structure Made (X : Cx) (pins : List (Addr × Obj)) (σ : L2.St) (T : List (Addr × Str)) (params : Arguments) (body : Expr) (scope : Scope) (H H1 : Hp) (f c : Addr) (s : Shared) : Prop where
  inv : Inv X pins σ H1 s
  stay : ∀ b o, H b = some o → Stay o (H1 b)
  tabs : Tabs T H1
  fn : ∃ pm ct, s.heap.get? f = some (lamO X params body scope pm c ct)
  new : H1 f = none
  off : f ∉ frs X.stack
  code : H1 c = some (CodeO c (lamQ X))
section
variable {X : Cx} {pins : List (Addr × Obj)} {σ : L2.St} {H : Hp} {s : Shared} {T : List (Addr × Str)} {c P : Addr} {params : Arguments} {body : Expr} {scope : Scope}
/-- no frame stands at a new address -/
theorem off_new (I : Inv X pins σ H s) {f : Addr} (hf : s.heap.objs.size ≤ f) : f ∉ frs X.stack := fun m => by
  rcases List.mem_cons.mp (I.stkSub _ m) with rfl | m
  · exact absurd I.lt (Nat.not_lt.mpr hf)
  · exact I.nofs hf m
theorem lam_make3 {pos : Pos} {Q E : Value → Shared → Prop} (I : Inv X pins σ H s) (Mk : Maker X T c P) (L : Lam0 X params body scope) (t : Tabs T H) (q : ∀ f c' H1 s', Made X pins σ T params body scope H H1 f c' s' → Q (.ref f) s') :
    wpAny (model X.prog X.w) X.A (eval (.Lambda params body scope pos) X.env) Q E s := by
  obtain ⟨ps, hP, ok, among⟩ := t _ Mk.mem
  have bm := Mk.tab.bm.keeps I.bk
  have oP := I.hok P _ hP
  have cl := closure_ok (L.sc.has I.ok)
  have gl := I.mod.glob.keeps I.bk
  have hd := Mk.tab.code.keeps I.bk
  refine PySem.W.kla_eval L.dfl ?_
  cases e : codeAmong pos ps.toList with
  | some cv =>
    obtain ⟨c', rfl, hc⟩ := among pos cv e
    refine PySem.W.kla_makeFunctionHit cl I.ok.glob gl Mk.code hd oP ok e bm fun ct h' tk k hs => q _ c' H _ ?_
    exact { inv := I.kept fun b o z => Heap.get?_push_of_some _ (k b o z), stay := fun b o z => .inl z, tabs := t, fn := ⟨_, ct, Heap.get?_push_size _ rfl⟩, new := I.hok.fresh hs, off := off_new I hs, code := hc }
  | none =>
    refine PySem.W.kla_makeFunction cl I.ok.glob gl Mk.code hd oP ok e Mk.tab.gP bm fun c' ct h' tk k hc lt rec tb => ?_
    obtain ⟨c2, oc, vs, tk2, z, g1, g2, g3⟩ := rec
    obtain rfl : c2 = c' := by
      injection z with z
      exact z.symm
    have nc := I.hok.fresh hc
    have hs : s.heap.objs.size ≤ h'.objs.size := Nat.le_trans hc (Nat.le_of_lt lt)
    refine q h'.objs.size c2 (grown H P ps #[rawInt pos.line, rawInt pos.col, .ref c2] c2 (lamQ X)) _ ?_
    constructor
    · exact LamX.inv_table I hP (fun b o hb z => Heap.get?_push_of_some _ (k b o hb z)) (Heap.get?_push_of_some _ tb) hc ⟨oc, vs, tk2, Heap.get?_push_of_some _ g1, g2, g3⟩
    · exact grown_stay hP nc
    · exact grown_tabs t hP nc Mk.only ok rfl
    · exact ⟨_, ct, Heap.get?_push_size _ rfl⟩
    · unfold grown
      rw [upd_ne (Nat.ne_of_gt lt), upd_ne (Nat.ne_of_gt (Nat.lt_of_lt_of_le (Heap.lt_size oP) hs))]
      exact I.hok.fresh hs
    · exact off_new I hs
    · exact grown_c
end
/-- what is called with the lambda: a def of the text, of one parameter a -/
structure Callee (X : Cx) (Ng : List Str) (x a : Str) (sg : Scope) (g : Addr) (cdv : Value) (bg : List Stmt) : Prop where
  gl : Gl X x
  mg : X.mg x = some (.ref g)
  keep : PySem.W.keepIn X.K (.ref g) = true
  fn : ∃ pg dV kV doc pm ct oc an od osl, X.K.lookup g = some ⟨oc, od, .func (PySem.W.fnOf x x pg bg sg dV kV doc pm an cdv ct), osl⟩ ∧ L2.Binds X.K (PySem.W.fnOf x x pg bg sg dV kV doc pm an cdv ct) [a] []
  code : PySem.W.codeIn X.K cdv x = true
  sc : FnScope Ng [a] sg
  slot : Ng[0]? = some a
  vis : Vis sg a
  ndb : (x == ("__debug__" : Str)) = false := by decide
  nda : (a == ("__debug__" : Str)) = false := by decide
  ncd : (a == ("__classdict__" : Str)) = false := by decide
def tLam3 (T : List (Addr × Str)) (TT : (XK → Hp → VK → Prop) → Hp → VK → Prop) (t : XK → TE) : TE := fun σ H Q => Tabs T H ∧ ∀ H1, (∀ b o, H b = some o → Stay o (H1 b)) → Tabs T H1 → TT (fun E H' Q' => t E σ H' Q') H1 Q
/-- a call's end by the value alone -/
theorem back_ret {X : Cx} {pins : List (Addr × Obj)} {σ : L2.St} {H : Hp} {s s2 : Shared} {Q : VK} {r : Result} (I : Inv X pins σ H s) (h : CR C8.CX0 X.stack X.prog X.w H s Q C8.E0 r s2) : ∃ u, r = .ok (.ret u) ∧ EP X pins σ Q u s2 :=
  match r, h with
  | .ok (.ret u), h => ⟨u, rfl, I.after h⟩
theorem pe_lamcall3 {X : Cx} {T : List (Addr × Str)} {TT : (XK → Hp → VK → Prop) → Hp → VK → Prop} {x a : Str} {g c P : Addr} {k : Nat} {bg : List Stmt} {sg : Scope} {cdv : Value} {Ng : List Str} {params : Arguments} {body : Expr} {scope : Scope} {t : XK → TE} {p lpos pos : Pos}
    (C : Callee X Ng x a sg g cdv bg) (hG : GivesTo X Ng x sg g cdv bg a (lamQ X) TT) (Mk : Maker X T c P) (L : Lam0 X params body scope) (hr : Room (k + 2) X.A)
    (hbody : ∀ (A : Around) (outer : List Env) (s : Shared) (H : Hp) (E : XK) (f c' : Addr), Room k (A.deeper (lamEnv X scope s.heap.objs.size f c')) → PE (lamCx X A outer s H E scope f c') body (t E)) :
    PE X (.Call (.Name x p) [.Lambda params body scope lpos] [] pos) (tLam3 T TT t) := by
  constructor
  rintro pins s σ H Q I ⟨hT, h⟩
  obtain ⟨pg, dV, kV, doc, pm, ct, oc, an, od, osl, lk, bd⟩ := C.fn
  refine wpAny_Call_Name_kw (ld_glob I C.gl C.mg (PySem.W.callWith_K (h₀ := X.base) I.ok.mod.kin C.keep ?_ (by rfl) (by rfl)) C.ndb)
  refine Calls.spliced_cons (rest := backTo pos (starEach [] X.env)) (lam_make3 I Mk L hT fun f c' H1 s' M => Calls.spliced_nil ⟨M.inv.kIn, ?_⟩)
  obtain ⟨pm', ctv, hf⟩ := M.fn
  refine wpAny_call (codeAny_mono (run_ofS (CX := C8.CX0) (N := Ng) (ps := [a]) (us := [.ref f]) (vs := [.ref f]) (Q := Q) (E := C8.E0) lk C.code C.sc hr M.inv.env0 (bd s' [.ref f] M.inv.kIn rfl) (.cons rfl .nil) rfl fun hr' => ?_) fun r s2 z => ?_)
  · have act := fun W pn xe E p1 p2 tk hW => pe_act (CXg := C8.CX0) (Eg := C8.E0) (i := 0) (W := W) (pn := pn) (xe := xe) (E := E) (p1 := p1) (p2 := p2) (tb := t E) M.inv L.sc hf M.new M.off (L.bind _ _ _ _ _) tk hW hr' (fun A outer s H hr2 => hbody A outer s H E f c' hr2) C.slot C.vis C.nda C.ncd
    obtain ⟨t', run, q⟩ := hG f c' s' H1 Q (fun E H' Q' => t E σ H' Q') act M.code (h H1 M.stay M.tabs)
    exact ⟨t', run.nox, q⟩
  · obtain ⟨u, rfl, e⟩ := back_ret M.inv z
    exact e
/-- the state behind the making of a lambda: tables are taken out of what is frozen -/
def unT (F : Hp) : Hp := fun a => match F a with
  | some (.tbl _) => none
  | o => o
theorem unT_some {F : Hp} {a : Addr} {o : HO} (h : unT F a = some o) : F a = some o ∧ ∀ ps, o ≠ .tbl ps := by
  unfold unT at h
  split at h
  · cases h
  · rename_i n
    exact ⟨h, fun ps e => by rw [e] at h; exact n ps h⟩
theorem unT_of {F : Hp} {a : Addr} {o : HO} (h : F a = some o) (n : ∀ ps, o ≠ .tbl ps) : unT F a = some o := by
  unfold unT
  rw [h]
  cases o <;> first | rfl | exact absurd rfl (n _)
theorem unT_none {F : Hp} {a : Addr} (h : F a = none) : unT F a = none := by
  unfold unT
  rw [h]
theorem unT_ext (F : Hp) : Ext F (unT F) := ⟨fun n h => by
  rcases h with h | ⟨o, h⟩
  · exact .inl (unT_of h fun ps e => by rw [e] at n; cases n)
  · exact .inr ⟨o, unT_of h fun ps e => by cases e⟩, fun h => unT_of h fun ps e => (by cases e), fun h => unT_of h fun ps e => (by cases e), fun h => unT_of h fun ps e => (by cases e)⟩
theorem SOk.lam {B : Base} {K : PySem.W.Frag} {Z : ZX} {F H H1 : Hp} {n : Nat} {σ : L2.St} {env : List Cell} (S : SOk B K Z F H n σ env) (e : ∀ b o, H b = some o → Stay o (H1 b)) (t : Tabs Z.T H1) : SOk B K Z (unT F) H1 n σ env := by
  have nt : ∀ b o, H b = some o → (∀ ps, o ≠ .tbl ps) → H1 b = some o := fun b o h z => (e b o h).eq z
  refine ⟨⟨fun b o h => ?_, S.len, fun i c ei => ?_, S.sep, fun a o h0 hb hl => ?_, fun a h0 hb hl => ?_, S.bd, fun p hp => ?_, S.bs, fun a h0 => ?_, t⟩, S.lnk.mono (unT_ext F) (Nat.le_refl _)⟩
  · obtain ⟨h1, h2⟩ := unT_some h
    exact nt b o (S.same _ _ h1) h2
  · obtain ⟨o, h1, h2⟩ := S.at_ i c ei
    refine ⟨o, h1, ?_⟩
    cases c with
    | un => trivial
    | d x =>
      obtain ⟨v, e1, e2⟩ := h2
      exact ⟨v, e1, e2.mono (unT_ext F)⟩
    | o b oc =>
      obtain ⟨a, e1, e2, e3, e4, e5⟩ := h2
      obtain ⟨o2, e6⟩ := OCOk.there e3
      exact ⟨a, e1, unT_none e2, OCOk.mono (unT_ext F) ((nt a o2 e6 (e3.ntbl e6)).trans e6.symm) (Nat.le_refl _) e3, e4, e5⟩
  · have g := S.fr a o h0 hb hl
    obtain ⟨o1, h1⟩ : ∃ o1, H a = some o1 := Option.isSome_iff_exists.mp g.isSome
    rw [h1] at g
    exact g.trans (e a o1 h1)
  · rcases S.ff a h0 hb hl with q | ⟨o, q, lx⟩
    · by_cases z : ∃ ps, F a = some (.tbl ps)
      · obtain ⟨ps, z⟩ := z
        obtain ⟨o, ho⟩ := Option.isSome_iff_exists.mp h0
        have g := S.fr a o ho hb hl
        rw [S.same _ _ z] at g
        exact .inr ⟨o, ho, g.lax rfl⟩
      · refine .inl (Eq.trans ?_ q)
        cases hF : F a with
        | none => exact unT_none hF
        | some o => exact unT_of hF fun ps e => z ⟨ps, by rw [hF, e]⟩
    · exact .inr ⟨o, q, lx⟩
  · exact unT_of (S.lk p hp) fun ps e => by cases e
  · obtain ⟨o, ho⟩ := Option.isSome_iff_exists.mp (S.dom a h0)
    exact (e a o ho).isSome
end DL
set_option maxRecDepth 100000
set_option maxHeartbeats 4000000
namespace DL
open PySem PySem.Spec PyProof.Rows L2 LamX
/-- what a lambda's body may see: data -/
def hideC : Cell → Cell
  | .d x => .d x
  | _ => .un
def hide (env : List Cell) : List Cell := env.map hideC
def Give (K : PySem.W.Frag) (F H : Hp) (x : DV) (Q : VK) : Prop := (∀ v, Hold K F v x → Q v H) ∧ ∀ T vs xs, x = .tup xs → H T = none → HoldAll K F vs xs → Q (.ref T) (upd H T (.tup vs))
def lamB (F H : Hp) : Base := ⟨H, F, [], [], [], []⟩
section
variable {B : Base} {K : PySem.W.Frag} {Z : ZX} {Tz : List (Addr × Str)} {F F' H H' : Hp} {n m : Nat} {σ σ' : L2.St} {env e' : List Cell}
theorem lam_base (S : Core B K Tz F H n σ env) : Core (lamB F H) K Tz F H n σ (hide env) := by
  refine ⟨S.same, by rw [S.len]; exact (List.length_map ..).symm, fun i c e => ?_, fun i j ci cj a ei ej oi oj si sj => ?_, fun a o h _ _ => .inl h, fun a h _ _ => .inl rfl, fun a h => (by cases h), fun p h => (by cases h), fun p h => (by cases h), fun a h => h, S.tb⟩
  · obtain ⟨c0, e0, rfl⟩ : ∃ c0, env[i]? = some c0 ∧ hideC c0 = c := by
      unfold hide at e
      rw [List.getElem?_map] at e
      cases h : env[i]? with
      | none => rw [h] at e; cases e
      | some c0 => rw [h] at e; exact ⟨c0, rfl, Option.some.inj e⟩
    obtain ⟨o, h1, h2⟩ := S.at_ i c0 e0
    refine ⟨o, h1, ?_⟩
    cases c0 with
    | d x => exact h2
    | un => trivial
    | o b oc => trivial
  · exfalso
    unfold hide at ei
    rw [List.getElem?_map] at ei
    cases h : env[i]? with
    | none => rw [h] at ei; cases ei
    | some c0 =>
      rw [h] at ei
      have := Option.some.inj ei
      subst this
      cases c0 <;> cases oi
theorem lam_back (S : Core B K Tz F H n σ env) (T : Core (lamB F H) K Tz F' H' m σ' e') (x : Ext F F') (hm : n ≤ m) : Core B K Tz F' H' m σ env :=
  (S.call (vs := []) (as := []) .nil List.nodup_nil trivial (os := []) hm ⟨x, T.same, fun a o ea _ => T.fr a o ea (by intro z; cases z) (by intro z; cases z), fun a ea _ => T.ff a ea (by intro z; cases z) (by intro z; cases z), T.dom, T.tb, .nil⟩).1
theorem give_of {x : DV} {Q : VK} (S : SOk B K Z F H n σ env) (q : ∀ v H' F', SOk B K Z F' H' n σ env → Ext F F' → Hold K F' v x → Q v H') : Give K F H x Q :=
  ⟨fun v hv => q v H F S (Ext.refl _) hv, fun T vs xs ex hT hv => by
    subst ex
    obtain ⟨S2, s1⟩ := S.alloc (o := .tup vs) hT
    exact q _ _ _ S2 (Ext.of s1) (.tup upd_same (hv.mono (Ext.of s1)))⟩
end
def dWhy (wy : Addr → List (Str × DV) → Option DV) (nv : DV → DV) (f : (Addr → List (Str × DV) → List Cell → Prop) → DD) : DE := fun env Q => f (fun C fs _ => optP (wy C fs) fun x => Q (.d x) env) (hide env) fun d _ => Q (.d (nv d)) env
/-- why(lambda: body) -/
theorem pcWhy {X : Cx} {Z : ZX} {TT : (XK → Hp → VK → Prop) → Hp → VK → Prop} {x a : Str} {g c P : Addr} {k : Nat} {bg : List Stmt} {sg : Scope} {cdv : Value} {Ng : List Str} {params : Arguments} {body : Expr} {scope : Scope} {wish : VK → XK} {nrm : VK → VK} {wy : Addr → List (Str × DV) → Option DV} {nv : DV → DV} {cf : Nat}
    {f : (Addr → List (Str × DV) → List Cell → Prop) → DD} {p lpos pos : Pos} (C : Callee X Ng x a sg g cdv bg) (hG : GivesTo X Ng x sg g cdv bg a (lamQ X) TT) (Mk : Maker X Z.T c P) (L : Lam0 X params body scope) (hr : Room (k + 2) X.A)
    (hTT : ∀ tl H Q, tl (wish Q) H (nrm Q) → TT tl H Q)
    (hn : ∀ F H v d Q, Same F H → Hold X.K F v d → Give X.K F H (nv d) Q → nrm Q v H)
    (hw : ∀ F H C d fs x Q, Same F H → ExcAt X.K F H d fs → wy C fs = some x → Give X.K F H x Q → wish Q (.ref C) (some d) H)
    (hfm : ∀ G G' env Q Q', (∀ C fs e, G C fs e → G' C fs e) → (∀ d e, Q d e → Q' d e) → f G env Q → f G' env Q')
    (hbody : ∀ (A : Around) (outer : List Env) (s : Shared) (H : Hp) (E : XK) (G : Addr → List (Str × DV) → List Cell → Prop) (M : Nat) (hM : M ≤ LIM) (fl c' : Addr), Room k (A.deeper (lamEnv X scope s.heap.objs.size fl c')) →
      PEd (lamCx X A outer s H E scope fl c') ⟨E, G, Z.T, M, hM⟩ body cf (f G)) :
    PEc X Z (.Call (.Name x p) [.Lambda params body scope lpos] [] pos) cf (dWhy wy nv f) := by
  have mono : MonoC (dWhy wy nv f) := fun env Q Q' q h => hfm _ _ _ _ _ (fun C fs e g => by
    obtain ⟨x, e1, e2⟩ := optP_some g
    rw [e1]
    exact q _ _ e2) (fun d e g => q _ _ g) h
  refine ⟨mono, PE_imp (pe_lamcall3 (T := Z.T) (t := fun E σ H Q => ∃ G M hM, tDd X.K ⟨E, G, Z.T, M, hM⟩ cf (f G) σ H Q) C hG Mk L hr
    (fun A outer s H E fl c' hr2 => ⟨fun pins s2 σ H2 Q I ⟨G, M, hM, h⟩ => (hbody A outer s H E G M hM fl c' hr2).run.run pins s2 σ H2 Q I h⟩)) fun σ H Q ⟨B, F, n, env, hn1, S, h⟩ => ?_⟩
  refine ⟨S.tb, fun H1 st T1 => hTT _ _ _ ?_⟩
  have S1 := S.lam st T1
  let G1 : Addr → List (Str × DV) → List Cell → Prop := fun C fs _ => optP (wy C fs) fun x => ∀ v H' F', SOk B X.K Z F' H' (n + cf) σ env → Ext F F' → Res B X.K F' H' (n + cf) σ env v (.d x) → Q v H'
  refine ⟨G1, n + cf, Nat.le_trans hn1 Z.ml, lamB (unT F) H1, unT F, n, hide env, Nat.le_refl _, ⟨lam_base S1.toCore, fun F' H' n' σ' e C d fs c x h1 h2 h3 _ h5 => ?_⟩, hfm _ _ _ _ _ (fun C fs e g => g) (fun d e g v H' F' T x hv => ?_) h⟩
  · obtain ⟨y, e1, e2⟩ := optP_some h5
    have C2 := lam_back S1.toCore c x h1
    have S2 : SOk B X.K Z F' H' (n + cf) σ env := SOk.mono ⟨C2, S1.lnk.mono x h1⟩ h2
    exact hw F' H' C d fs y Q c.same h3 e1 (give_of S2 fun v H2 F2 S3 x3 hv => e2 v H2 F2 S3 ((unT_ext F).trans (x.trans x3)) (Res.dat hv))
  · have C2 := lam_back S1.toCore T.toCore x (Nat.le_add_right n cf)
    have S2 : SOk B X.K Z F' H' (n + cf) σ env := ⟨C2, S1.lnk.mono x (Nat.le_add_right n cf)⟩
    exact hn F' H' v d Q T.same hv (give_of S2 fun v H2 F2 S3 x3 hv => g v H2 F2 S3 ((unT_ext F).trans (x.trans x3)) (Res.dat hv))
end DL
set_option maxRecDepth 100000
set_option maxHeartbeats 4000000
namespace DL
open PySem PySem.Spec PyProof.Rows L2 LamX
/-! ### repr by data; what except clauses give -/
def reprD (x : DV) : Option Str :=
  if x.ok 60 = true ∧ x.py.showable = true ∧ x.py.shown.length ≤ sizeLine then some x.py.shown else match x with
  | .dk kvs => if kvs.all (fun kv => flatD kv.2) = true ∧ (PyData.dict (kvPy kvs)).showable = true ∧ (PyData.dict (kvPy kvs)).depth ≤ 60 ∧ (PyData.dict (kvPy kvs)).shown.length ≤ sizeLine then some (PyData.dict (kvPy kvs)).shown else none
  | _ => none
theorem gRepr_of {x : DV} {s : Str} (h : reprD x = some s) {Q : Cell → Prop} (q : Q (.d (.str s))) : gReprA x Q := by
  unfold reprD at h
  split at h
  case isTrue c =>
    cases h
    exact .inl ⟨c, q⟩
  case isFalse c =>
    split at h
    · split at h
      case isTrue c2 =>
        cases h
        exact .inr ⟨c2, q⟩
      case isFalse => cases h
    · cases h
theorem repr_of {K : PySem.W.Frag} {F H : Hp} {v : V} {x : DV} {s : Str} {Q : VK} (sm : Same F H) (hv : Hold K F v x) (h : reprD x = some s) (q : Q (.str s) H) : rRepr K [v] H Q ∨ rReprK K [v] H Q := by
  unfold reprD at h
  split at h
  case isTrue c =>
    cases h
    obtain ⟨h1, h2, h3⟩ := c
    obtain ⟨d1, d2⟩ := py_depth x 60 h1
    exact .inl ⟨v, x.py, rfl, Dp_mono sm (dp_of hv 60 h1), h2, py_noDict x 60 h1, d2, h3, q⟩
  case isFalse c =>
    split at h
    · split at h
      case isTrue c2 =>
        cases h
        cases hv with
        | dk e1 e2 e3 => exact .inr ⟨_, F, _, _, rfl, (Ext.of sm).rd e1, ⟨e2, e3⟩, c2, q⟩
      case isFalse => cases h
    · cases h
abbrev WY := Addr → List (Str × DV) → Option DV
/-- an expression in an except suite, i is the slot of the error -/
structure PH (X : Cx) (i : Nat) (e : Expr) (g : WY) : Prop where
  run : ∀ (a : Addr) (oe : Obj) (cls : Value) (d : Option Addr) (pn : List (Addr × Obj)), Zc cls d oe → (∃ vs, oe.data = .fields vs) →
    PE (X.suite a ((a, oe) :: pn)) e (fun σ H Q => ∃ F C fs dd x, (cls = .ref C ∧ d = some dd ∧ Same F H ∧ ExcAt X.K F H dd fs ∧ σ[i]? = some (some (.ref a)) ∧ g C fs = some x) ∧ ∀ v, Hold X.K F v x → Q v H)
section
variable {X : Cx} {i : Nat} {e : Expr} {g : WY} {pos : Pos}
theorem phStr {x : Str} {j : Nat} : PH X i (.Constant (.str x) j pos) (fun _ _ => some (.str x)) := ⟨fun a oe cls d pn hz hf =>
  PE_imp pe_str fun σ H Q ⟨F, C, fs, dd, x, ⟨_, _, _, _, _, h⟩, q⟩ => by
    cases h
    exact q _ (.str _)⟩
theorem phNon {j : Nat} : PH X i (.Constant .none j pos) (fun _ _ => some .non) := ⟨fun a oe cls d pn hz hf =>
  PE_imp pe_non fun σ H Q ⟨F, C, fs, dd, x, ⟨_, _, _, _, _, h⟩, q⟩ => by
    cases h
    exact q _ .non⟩
theorem phFld {n y : Str} {C0 : Addr} {p : Pos} (T : XfC X.K C0) (hno : PySem.W.findIn X.K (.ref C0) n = some none) (hN : X.N[i]? = some y) (hv : Vis X.env.scope y) (hd : (y == ("__debug__" : Str)) = false := by decide) (hcd : (y == ("__classdict__" : Str)) = false := by decide)
    (hb : attributeBase (.Name y p) n X.env (eval (.Name y p) X.env) = eval (.Name y p) X.env := by rfl) : PH X i (.Attribute (.Name y p) n pos) (fun C fs => if C = C0 then fs.lookup n else none) := ⟨fun a oe cls d pn hz hf => by
  refine PE_imp (pe_xf T hno hz hf (pe_var (X := X.suite a ((a, oe) :: pn)) (i := i) hN hv hd hcd) hb) fun σ H Q ⟨F, C, fs, dd, x, ⟨h1, h2, h3, h4, h5, h6⟩, q⟩ => ?_
  split at h6
  case isFalse => cases h6
  case isTrue hC =>
  subst hC
  obtain ⟨us, e1, e2, e3⟩ := h4
  obtain ⟨v, l1, l2⟩ := (lookup_hold e2 e3 n).1 x h6
  exact ⟨_, h5, rfl, h1, dd, us, v, h2, e1, l1, q _ l2⟩⟩
theorem phRepr {p : Pos} (hgd : X.A.guards = some []) (hu : X.A.units + 65 < cLine) (hg : Gl X "repr") (hm : X.mg "repr" = none) (h : PH X i e g) (hs : starEach [e] X.env = (false, eval e X.env) :: starEach [] X.env := by rfl) :
    PH X i (.Call (.Name "repr" p) [e] [] pos) (fun C fs => (g C fs).bind fun x => (reprD x).map DV.str) := ⟨fun a oe cls d pn hz hf => by
  refine PE_imp (pe_callB (callR_or (X := X.suite a ((a, oe) :: pn)) (call_repr hgd hu) (call_reprK hgd hu)) hg hm (by decide +kernel) (pa_cons (h.run a oe cls d pn hz hf) pa_nil hs) (he := hs)) fun σ H Q ⟨F, C, fs, dd, x, ⟨h1, h2, h3, h4, h5, h6⟩, q⟩ => ?_
  cases hx : g C fs with
  | none => rw [hx] at h6; cases h6
  | some y =>
    rw [hx, Option.bind_some] at h6
    cases hr : reprD y with
    | none => rw [hr] at h6; cases h6
    | some s =>
      rw [hr] at h6
      cases h6
      exact ⟨F, C, fs, dd, y, ⟨h1, h2, h3, h4, h5, hx⟩, fun v hv => repr_of h3 hv hr (q _ (.str _))⟩⟩
end
end DL
set_option maxRecDepth 100000
set_option maxHeartbeats 4000000
namespace DL
open PySem PySem.Spec PyProof.Rows L2 LamX
structure PHA (X : Cx) (i : Nat) (es : List Expr) (g : Addr → List (Str × DV) → Option (List DV)) : Prop where
  run : ∀ (a : Addr) (oe : Obj) (cls : Value) (d : Option Addr) (pn : List (Addr × Obj)), Zc cls d oe → (∃ vs, oe.data = .fields vs) →
    PA (X.suite a ((a, oe) :: pn)) es (fun σ H Q => ∃ F C fs dd x, (cls = .ref C ∧ d = some dd ∧ Same F H ∧ ExcAt X.K F H dd fs ∧ σ[i]? = some (some (.ref a)) ∧ g C fs = some x) ∧ ∀ vs, HoldAll X.K F vs x → Q vs H)
/-- what a clause returns -/
structure PHR (X : Cx) (i : Nat) (e : Expr) (g : WY) : Prop where
  run : ∀ (a : Addr) (oe : Obj) (cls : Value) (d : Option Addr) (pn : List (Addr × Obj)), Zc cls d oe → (∃ vs, oe.data = .fields vs) →
    PE (X.suite a ((a, oe) :: pn)) e (fun σ H Q => ∃ F C fs dd x, (cls = .ref C ∧ d = some dd ∧ Same F H ∧ ExcAt X.K F H dd fs ∧ σ[i]? = some (some (.ref a)) ∧ g C fs = some x) ∧ Give X.K F H x Q)
section
variable {X : Cx} {i : Nat} {e : Expr} {es : List Expr} {g : WY} {gs : Addr → List (Str × DV) → Option (List DV)} {pos : Pos}
theorem phaNil : PHA X i [] (fun _ _ => some []) := ⟨fun a oe cls d pn hz hf => PA_imp pa_nil fun σ H Q ⟨F, C, fs, dd, x, ⟨_, _, _, _, _, h⟩, q⟩ => by
  cases h
  exact q _ .nil⟩
theorem phaCons (h1 : PH X i e g) (h2 : PHA X i es gs) (hs : starEach (e :: es) X.env = (false, eval e X.env) :: starEach es X.env := by rfl) :
    PHA X i (e :: es) (fun C fs => (g C fs).bind fun x => (gs C fs).map (x :: ·)) := ⟨fun a oe cls d pn hz hf => by
  refine PA_imp (pa_cons (h1.run a oe cls d pn hz hf) (h2.run a oe cls d pn hz hf) hs) fun σ H Q ⟨F, C, fs, dd, x, ⟨a1, a2, a3, a4, a5, h⟩, q⟩ => ?_
  cases e1 : g C fs with
  | none => rw [e1] at h; cases h
  | some y =>
    rw [e1, Option.bind_some] at h
    cases e2 : gs C fs with
    | none => rw [e2] at h; cases h
    | some ys =>
      rw [e2] at h
      cases h
      exact ⟨F, C, fs, dd, y, ⟨a1, a2, a3, a4, a5, e1⟩, fun v hv => ⟨F, C, fs, dd, ys, ⟨a1, a2, a3, a4, a5, e2⟩, fun vs hvs => q _ (.cons hv hvs)⟩⟩⟩
theorem phr (h : PH X i e g) : PHR X i e g := ⟨fun a oe cls d pn hz hf => PE_imp (h.run a oe cls d pn hz hf) fun σ H Q ⟨F, C, fs, dd, x, c, q⟩ => ⟨F, C, fs, dd, x, c, q.1⟩⟩
theorem phrTup {k : Nat} (h : PHA X i es gs) (hl : es.length ≤ 1000) : PHR X i (.Tuple es k pos) (fun C fs => (gs C fs).bind fun xs => if xs.length ≤ 1000 then some (.tup xs) else none) := ⟨fun a oe cls d pn hz hf => by
  refine PE_imp (pe_tup (h.run a oe cls d pn hz hf)) fun σ H Q ⟨F, C, fs, dd, x, ⟨a1, a2, a3, a4, a5, h⟩, q⟩ => ?_
  cases e1 : gs C fs with
  | none => rw [e1] at h; cases h
  | some ys =>
    rw [e1, Option.bind_some] at h
    split at h
    case isFalse => cases h
    case isTrue hy =>
    cases h
    exact ⟨F, C, fs, dd, ys, ⟨a1, a2, a3, a4, a5, e1⟩, fun vs hv => ⟨by rw [hv.length]; exact Nat.le_trans hy (by decide : 1000 ≤ sizeLine), fun T hT => q.2 T vs ys rfl hT hv⟩⟩⟩
end
inductive HC (X : Cx) (i : Nat) (n : Str) : List ExceptHandler → List (Addr × WY) → Prop
  | nil : HC X i n [] []
  | cons {x : Str} {C : Addr} {e : Expr} {g : WY} {np rp pos' : Pos} {hds : List ExceptHandler} {l : List (Addr × WY)} (hc : Names X x (.ref C)) (h : PHR X i e g) (r : HC X i n hds l) :
      HC X i n (.ExceptHandler (some (.Name x np)) (some n) [.Return (some e) rp] pos' :: hds) ((C, g) :: l)
def wyL (K : PySem.W.Frag) : List (Addr × WY) → WY
  | [] => fun _ _ => none
  | (Ci, g) :: r => fun C fs => match PySem.W.exmOne K (.ref C) (.ref Ci) with
    | some true => g C fs
    | some false => wyL K r C fs
    | none => none
def wishW (K : PySem.W.Frag) (wy : WY) (Q : VK) : XK := fun cls d H => ∃ F C fs dd x, (cls = .ref C ∧ d = some dd ∧ Same F H ∧ ExcAt K F H dd fs ∧ wy C fs = some x) ∧ Give K F H x Q
def TTw (K : PySem.W.Frag) (wy : WY) (nrm : VK → VK) : (XK → Hp → VK → Prop) → Hp → VK → Prop := fun tl H Q => tl (wishW K wy Q) H (nrm Q)
theorem hds_of {X : Cx} {i : Nat} {n : Str} (hi : X.N[i]? = some n) (hln : X.env.kindOf n = some .local) : ∀ {hds : List ExceptHandler} {l : List (Addr × WY)}, HC X i n hds l → ∃ l', HdsN X hds l' ∧ ∀ (D : Ends) (Q : VK) cls d σ H, (∀ v H, Q v H → D.rt v H) → wishW X.K (wyL X.K l) Q cls d H → wManyN X.K (fun _ _ _ _ => False) D l' cls d σ H
  | _, _, .nil => ⟨[], .nil, fun D Q cls d σ H _ ⟨F, C, fs, dd, x, ⟨_, _, _, _, h⟩, _⟩ => by cases h⟩
  | _, _, .cons (C := C0) (g := g) hc h r => by
    obtain ⟨l', h1, h2⟩ := hds_of hi hln r
    refine ⟨(.ref C0, i, _) :: l', .cons ⟨hi, hln, hc, fun a oe cls d pn hz hf => pss_one (ps_ret (h.run a oe cls d pn hz hf))⟩ h1, fun D Q cls d σ H hD ⟨F, C, fs, dd, x, ⟨e1, e2, e3, e4, e5⟩, q⟩ => ?_⟩
    unfold wyL at e5
    subst e1
    split at e5
    · rename_i hb
      refine ⟨true, hb, fun _ a ha hl => ?_, fun z => by cases z⟩
      exact ⟨F, C, fs, dd, x, ⟨rfl, e2, e3, e4, by rw [List.getElem?_set_self hl], e5⟩, ⟨fun v hv => hD _ _ (q.1 v hv), fun T vs xs ex hT hv => hD _ _ (q.2 T vs xs ex hT hv)⟩⟩
    · rename_i hb
      exact ⟨false, hb, fun z => (by cases z), fun _ => h2 D Q _ d σ H hD ⟨F, C, fs, dd, x, ⟨rfl, e2, e3, e4, e5⟩, q⟩⟩
    · cases e5
/-- try: a() / except ..: return ..; return None -/
theorem gives_drop {X : Cx} {Ng : List Str} {x a n q : Str} {sg : Scope} {g : Addr} {cdg : Value} {i j : Nat} {h0 : ExceptHandler} {hds : List ExceptHandler} {l : List (Addr × WY)} {p1 p2 p3 p8 p9 p10 : Pos} (hnd : Ng.Nodup) (hi : Ng[i]? = some n) (hln : sg.names.lookup n = some .local)
    (hc : ∀ (s : Shared) (H : Hp), HC (cxOf C8.CX0 X.prog X.w X.K X.mg X.base Ng x sg g cdg X.A X.stack s H C8.E0).nox i n (h0 :: hds) l) (hz : ∀ f : Addr, (L2.start Ng [V.ref f])[0]? = some (some (V.ref f)))
    (hsw : ∀ env : Env, swapsWith (.Call (.Name a p1) [] [] p2) none p3.line env = pure false) :
    GivesTo X Ng x sg g cdg [.Try [.Expr (.Call (.Name a p1) [] [] p2) p3] (h0 :: hds) [] [] p8, .Return (some (.Constant .none j p9)) p10] a q (TTw X.K (wyL X.K l) fun Q _ => Q .non) := by
  intro f c' s H Q tl act hco h
  obtain ⟨l', h1, h2⟩ := hds_of (X := (cxOf C8.CX0 X.prog X.w X.K X.mg X.base Ng x sg g cdg X.A X.stack s H C8.E0).nox) hi hln (hc s H)
  refine ⟨_, pss_cons (ps_tryN (X := (cxOf C8.CX0 X.prog X.w X.K X.mg X.base Ng x sg g cdg X.A X.stack s H C8.E0).nox)
      (tb := fun W D σ H => ∃ Ech : XK, (∀ cls d σ' H', Ech cls d H' → W cls d σ' H') ∧ σ[0]? = some (some (.ref f)) ∧ H c' = some (CodeO c' q) ∧ tl Ech H (fun _ H' => D.nx σ H'))
      hnd rfl rfl takes0 (fun W pn xe tk _ => ?_) h1) (pss_one (ps_ret pe_non)), ?_⟩
  · refine ⟨fun pins s' σ H' D I h' => ?_⟩
    obtain ⟨Ech, hW, g1, g2, g3⟩ := h'
    have hp := act W pn xe Ech p1 p2 tk hW
    have hq := pss_one (ps_expr (pos := p3) hp (hsw _))
    exact hq.run pins s' σ H' D I ⟨g1, g2, g3⟩
  · exact ⟨wishW X.K (wyL X.K l) Q, fun cls d σ' H' w => h2 _ Q cls d σ' H' (fun v H z => z) w, hz f, hco, h⟩
end DL
set_option maxRecDepth 100000
set_option maxHeartbeats 4000000
namespace DL
open PySem PySem.Spec PyProof.Rows L2 LamX
/-- what is wanted of the law's def, at the caller alone -/
def FnAt (P : Program) (w : World) (K : PySem.W.Frag) (mg : Str → Option Value) (base : Heap) (CX : CXT) (k : Nat) (f : Addr) (fd : FuncData) (ps : List Str) (sp : Sp) : Prop :=
  ∀ (s : Shared) (H : Hp) (args : Args) (us : List Value) (vs : List V) (Q : VK) (E : XK), Room k callerA → Env0 P w K mg base callerA [] s H → BindsTo s fd args (ps.zip us) → Vals vs us → sp vs H Q E →
    codeAny (model P w) callerA (.call (.ref f) args) (CR CX [] P w H s Q E) s
/-- an empty table's object; a list's -/
abbrev oTab : Obj := PySem.W.tabObj #[]
abbrev oLst (vs : List Value) : Obj := { cls := .type "list", data := .seq vs.toArray }
/-- what is looked after at the start: tables of code, and the script (u: none where the program holds it) -/
def seen (T : List Addr) (a : Addr) (u : Option HO) : Hp := fun b => if b ∈ T then some (.tbl #[]) else if b = a then u else none
/-- the state at the law's call -/
structure Entry (K : PySem.W.Frag) (mg : Str → Option Value) (h : Heap) (T : List (Addr × Addr)) (a : Addr) (vs : List Value) (ns : List Int) : Prop where
  kin : K.In h
  glob : h.Ns mainGlobals mg
  blt : ∃ mb, h.Ns builtinsNs mb ∧ ∀ x : Str, x ≠ "__name__" → mb x = bootBuiltins x
  lim : h.NoLimit
  bm : ∃ (m : Addr) (o : Obj), mg "__builtins__" = some (.ref m) ∧ m ≠ builtinsNs ∧ h.get? m = some o ∧ o.cls = .type "module" ∧ o.dict = some builtinsNs ∧ o.data = .plain
  tab : ∀ p ∈ T, h.get? p.2 = some oTab
  tabK : ∀ p ∈ T, K.lookup p.2 = none
  code : ∀ p ∈ T, PySem.W.CodeHd h p.1 p.2
  scr : h.get? a = some (oLst vs)
  its : IntsAre vs ns
  short : ns.length ≤ sizeLine
/-- how the script is looked after -/
inductive Watch (K : PySem.W.Frag) (a : Addr) (vs : List Value) (ns : List Int) : Option HO → Prop
  | held {o : Obj} : K.lookup a = some o → Watch K a vs ns none
  | frz : K.lookup a = none → Watch K a vs ns (some (.frz (oLst vs) (.lst (ns.map V.int))))
theorem Watch.ex (K : PySem.W.Frag) (a : Addr) (vs : List Value) (ns : List Int) : ∃ u, Watch K a vs ns u :=
  match e : K.lookup a with
  | some _ => ⟨_, .held e⟩
  | none => ⟨_, .frz e⟩
section
variable {P : Program} {w : World} {K : PySem.W.Frag} {mg : Str → Option Value} {h : Heap} {T : List (Addr × Addr)} {a b : Addr} {vs : List Value} {ns : List Int} {u : Option HO}
abbrev seenT (T : List (Addr × Addr)) (a : Addr) (u : Option HO) : Hp := seen (T.map (·.2)) a u
theorem seen_mem {S : List Addr} (hb : b ∈ S) : seen S a u b = some (.tbl #[]) := if_pos hb
theorem seen_a {S : List Addr} (ha : a ∉ S) : seen S a u a = u := (if_neg ha).trans (if_pos rfl)
theorem seen_else {S : List Addr} (hb : b ∉ S) (hn : b ≠ a) : seen S a u b = none := (if_neg hb).trans (if_neg hn)
theorem Entry.tabOf (e : Entry K mg h T a vs ns) (hb : b ∈ T.map (·.2)) : ∃ p ∈ T, p.2 = b ∧ h.get? b = some oTab := by
  obtain ⟨p, hp, rfl⟩ := List.mem_map.mp hb
  exact ⟨p, hp, rfl, e.tab p hp⟩
/-- an object that is no list and no empty table is not looked after -/
theorem Entry.apart (e : Entry K mg h T a vs ns) {o : Obj} (hb : h.get? b = some o) (n1 : ∀ its n, o.data ≠ .seq its n) (n2 : o.data ≠ .fields #[]) : seenT T a u b = none := by
  refine seen_else (fun hm => ?_) (fun hm => ?_)
  · obtain ⟨_, _, _, ht⟩ := e.tabOf hm
    exact n2 (congrArg Obj.data (Option.some.inj (hb.symm.trans ht)))
  · subst hm
    exact n1 _ _ (congrArg Obj.data (Option.some.inj (hb.symm.trans e.scr)))
theorem Entry.aT (e : Entry K mg h T a vs ns) : a ∉ T.map (·.2) := fun hm => by
  obtain ⟨_, _, _, ht⟩ := e.tabOf hm
  have z := congrArg Obj.data (Option.some.inj (e.scr.symm.trans ht))
  cases z
theorem Entry.hok (e : Entry K mg h T a vs ns) (W : Watch K a vs ns u) : HOk P w (seenT T a u) h := fun b o q => by
  unfold seenT seen at q
  split at q
  case isTrue hb =>
    cases q
    obtain ⟨_, _, _, ht⟩ := e.tabOf hb
    exact ht
  case isFalse hb =>
    split at q
    case isFalse => cases q
    case isTrue ha =>
      subst ha
      cases W with
      | held => cases q
      | frz hk =>
        cases q
        refine ⟨e.scr, ?_, vs, _, vals_ints e.its, e.scr⟩
        rw [List.length_map]
        exact e.short
/-- what the program holds is not looked after -/
theorem Entry.kfree (e : Entry K mg h T a vs ns) (W : Watch K a vs ns u) {o : Obj} (hk : K.lookup b = some o) : seenT T a u b = none := by
  have hb : b ∉ T.map (·.2) := fun hm => by
    obtain ⟨p, hp, rfl, _⟩ := e.tabOf hm
    rw [e.tabK p hp] at hk
    cases hk
  by_cases hn : b = a
  · subst hn
    cases W with
    | held => exact seen_a hb
    | frz h0 =>
      rw [h0] at hk
      cases hk
  · exact seen_else hb hn
theorem Entry.dict (e : Entry K mg h T a vs ns) {m : Str → Option Value} (hn : h.Ns b m) : (hidT h (seenT T a u)).Ns b m := by
  obtain ⟨o, es, ep, q, d, r⟩ := hn
  exact ⟨o, es, ep, hidT_get q (e.apart q (fun _ _ z => by rw [d] at z; cases z) (fun z => by rw [d] at z; cases z)), d, r⟩
theorem Entry.kinB (e : Entry K mg h T a vs ns) (W : Watch K a vs ns u) : K.In (hidT h (seenT T a u)) := fun b o q => hidT_get (e.kin b o q) (e.kfree W q)
theorem Entry.modB (e : Entry K mg h T a vs ns) (W : Watch K a vs ns u) : L2.Mod K mg (hidT h (seenT T a u)) where
  kin := e.kinB W
  glob := e.dict e.glob
  blt := e.blt.imp fun _ q => ⟨e.dict q.1, q.2⟩
  nolimit := by
    obtain ⟨m, q, r⟩ := e.lim
    exact ⟨m, e.dict q, r⟩
theorem Entry.tabB (e : Entry K mg h T a vs ns) (W : Watch K a vs ns u) {p : Addr × Addr} (hp : p ∈ T) : TabB (hidT h (seenT T a u)) mg p.1 p.2 where
  code := by
    obtain ⟨o, fs, f, tf, fl, tg, i, x, tx, q, c, d, g, r⟩ := e.code p hp
    refine ⟨o, fs, f, tf, fl, tg, i, x, tx, hidT_get q (e.apart q (fun _ _ z => ?_) (fun z => ?_)), c, d, g, r⟩
    · rw [d] at z
      cases z
    · rw [d] at z
      cases z
      cases g
  bm := by
    obtain ⟨m, o, q1, q2, q3, q4, q5, q6⟩ := e.bm
    refine ⟨m, o, q1, q2, fun z => ?_, fun z => ?_, hidT_get q3 (e.apart q3 (fun _ _ z => ?_) (fun z => ?_)), q4, q5, q6⟩
    · obtain ⟨o2, es, ep, g1, g2, _⟩ := e.glob
      subst z
      rw [Option.some.inj (q3.symm.trans g1), g2] at q6
      cases q6
    · rw [z, e.tab p hp] at q3
      cases q3
      cases q6
    · rw [q6] at z
      cases z
    · rw [q6] at z
      cases z
  gP := fun z => by
    obtain ⟨o2, es, ep, g1, g2, _⟩ := e.glob
    rw [z, e.tab p hp] at g1
    cases g1
    cases g2
theorem Entry.env (e : Entry K mg h T a vs ns) (W : Watch K a vs ns u) {s : Shared} (hs : s.heap = h) (hg : s.gens = #[]) : Env0 P w K mg (hidT h (seenT T a u)) callerA [] s (seenT T a u) where
  frames := rfl
  mod := e.modB W
  bs := fun b o q => by
    rw [hs]
    exact of_hidT q
  bsz := by rw [hidT_size, hs]; exact Nat.le_refl _
  funs := trivial
  frf := fun b hb => by cases hb
  hok := by rw [hs]; exact e.hok W
  bare := .of_eq hg
theorem Entry.script (e : Entry K mg h T a vs ns) (W : Watch K a vs ns u) : SqL K (seenT T a u) a (ns.map V.int) := by
  cases W with
  | held hk =>
    have q := Option.some.inj ((e.kin _ _ hk).symm.trans e.scr)
    subst q
    have hl : vs.length ≤ sizeLine := by rw [e.its.length]; exact e.short
    exact .inr ⟨_, vs.toArray, _, hk, rfl, rfl, rfl, by rw [List.size_toArray]; exact hl, vals_ints e.its⟩
  | frz hk => exact .inl (.inr ⟨_, seen_a e.aT⟩)
/-- what stood stands behind the call; a table may have grown -/
theorem Entry.old (e : Entry K mg h T a vs ns) (W : Watch K a vs ns u) {H' : Hp} {h' : Heap} (U : Un (frs []) [] (seenT T a u) H' h h') (hok : HOk P w H' h') : OldK h h' := by
  have grown : ∀ {p}, p ∈ T → ∃ more : Array Value, h'.get? p.2 = some (PySem.W.tabObj (#[] ++ more)) := fun {p} hp => by
    obtain ⟨more, q⟩ := U.tbls p.2 #[] (seen_mem (List.mem_map_of_mem hp))
    exact ⟨more, hok _ _ q⟩
  have stands : ∀ {b o}, b ∉ T.map (·.2) → h.get? b = some o → h'.get? b = some o := fun {b o} nb q => by
    cases z : seenT T a u b with
    | none => exact U.keep b o q z (fun y => by cases y) (fun y => by cases y)
    | some x =>
      have ab : b = a := Classical.byContradiction fun n => by
        have y : (none : Option HO) = some x := (seen_else nb n).symm.trans z
        cases y
      subst ab
      rw [show seenT T b u b = u from seen_a nb] at z
      subst z
      cases W with
      | frz hk =>
        rw [Option.some.inj (q.symm.trans e.scr)]
        exact (hok b _ (U.frzs b _ _ (seen_a nb))).1
  constructor
  · intro b o q
    by_cases hb : b ∈ T.map (·.2)
    · obtain ⟨p, hp, rfl, ht⟩ := e.tabOf hb
      obtain ⟨more, hm⟩ := grown hp
      rw [Option.some.inj (q.symm.trans ht)]
      exact .inr (.inl ⟨((e.code p hp).tab ht).isCodeTable, rfl, #[], more, rfl, hm⟩)
    · exact .inl (stands hb q)
  · intro b o q
    by_cases hb : b ∈ T.map (·.2)
    · obtain ⟨p, hp, rfl, _⟩ := e.tabOf hb
      obtain ⟨more, hm⟩ := grown hp
      exact ⟨_, hm⟩
    · exact ⟨_, stands hb q⟩
/-- what the law promises, of its def's call -/
theorem Entry.run (e : Entry K mg h T a vs ns) {CX : CXT} {k : Nat} {fa : Addr} {fd : FuncData} {x : Str} {sp : Sp} {s : Shared} (hs : s.heap = h) (hg : s.gens = #[]) (hr : Room k callerA)
    (F : ∀ base : Heap, K.In base → base.Ns mainGlobals mg → (∀ p ∈ T, TabB base mg p.1 p.2) → FnAt P w K mg base CX k fa fd [x] sp) (hb : BindsTo s fd ⟨[.ref a], []⟩ [(x, .ref a)])
    (hsp : ∀ H : Hp, (∀ p ∈ T, H p.2 = some (.tbl #[])) → SqL K H a (ns.map V.int) → sp [.ref a] H (fun v _ => v = .bl true) fun _ _ _ => False)
    (hCX : ∀ H y s', CX [] H s (fun _ _ _ => False) y s' → False) :
    codeAny (model P w) callerA (.call (.ref fa) ⟨[.ref a], []⟩) (fun r s' => r = .ok (.ret (.bool true)) ∧ OldK h s'.heap ∧ s'.os = s.os ∧ AllBare s'.gens) s := by
  obtain ⟨u, W⟩ := Watch.ex K a vs ns
  have go := F _ (e.kinB W) (e.modB W).glob (fun p hp => e.tabB W hp) s _ ⟨[.ref a], []⟩ [.ref a] [.ref a] _ _ hr (e.env (P := P) (w := w) W hs hg) hb (.cons rfl .nil) (hsp _ (fun p hp => seen_mem (List.mem_map_of_mem hp)) (e.script W))
  refine codeAny_mono go fun r s' q => ?_
  match r, q with
  | .error y, q => exact (hCX _ y s' q).elim
  | .ok (.ret v), q =>
    obtain ⟨x, H', q1, q2, q3, q4, q5, q6⟩ := q
    obtain rfl : x = .bl true := q6
    obtain rfl : v = .bool true := q5
    rw [hs] at q3
    exact ⟨rfl, e.old W q3 q4, q1, q2⟩
end
/-- what is to be shown over the head's heap h -/
def LawAtA (l : PySem.W.OpenLaw) (w : World) (K : PySem.W.Frag) (CX : CXT) (k n : Nat) (x : Str) (mg : Str → Option Value) (fa : Addr) (h : Heap) : Prop :=
  ∃ (fd : FuncData) (T : List (Addr × Addr)) (sp : Sp), ((∀ p ∈ T, h.get? p.2 = some oTab) ∧ (∀ p ∈ T, K.lookup p.2 = none) ∧ (∀ p ∈ T, PySem.W.CodeHd h p.1 p.2)) ∧ (∀ (s : Shared) (v : Value), BindsTo s fd ⟨[v], []⟩ [(x, v)]) ∧
    (∀ (H : Hp) (a : Addr) (ns : List Int), ns.length ≤ n → (∀ z ∈ ns, Builtin.Int.intBits z ≤ 1048576) → (∀ p ∈ T, H p.2 = some (.tbl #[])) → SqL K H a (ns.map V.int) → sp [.ref a] H (fun v _ => v = .bl true) fun _ _ _ => False) ∧
    ∀ base : Heap, K.In base → base.Ns mainGlobals mg → (∀ p ∈ T, TabB base mg p.1 p.2) → FnAt l.prog w K mg base CX k fa fd [x] sp
theorem walk_ofA {l : PySem.W.OpenLaw} {n k : Nat} {q : Program} {loose : List Str} {XP : (Str → Option Value) → Heap → Prop} {YP : World → Heap → Prop} {d : DefRec} {K : Params → PySem.W.Frag} {CX : World → CXT} {x : Str}
    (hn : l.most = some n) (hn2 : n ≤ sizeLine) (hdf : d.params.defaults = []) (hr : Room k callerA) (hY : ∀ (w : World) (h : Heap), YP w h → (K w.params).In h)
    (hF : ∀ (w : World) (mg : Str → Option Value) (fa : Addr) (h : Heap), YP w h → (K w.params).In h → h.Ns mainGlobals mg → mg d.name = some (.ref fa) → LawAtA l w (K w.params) (CX w) k n x mg fa h)
    (hCX : ∀ (w : World) (H : Hp) (s : Shared) (y : Value) (s' : Shared), CX w [] H s (fun _ _ _ => False) y s' → False) :
    PySem.W.WalkO q loose XP YP l.row.toRowW d [] (fun f vs => PySem.call f vs) :=
  Att.attach_callB hn hdf fun w s0 s mg mb fa o pm cd doc a vs ns G Y ho hd hcd hmg hobj hints hlen hbits hg => by
    obtain ⟨fd, T, sp, ⟨t1, t2, t3⟩, hb, hsp, F⟩ := hF w mg fa _ Y (hY w _ Y) G.T.g hmg
    have e : Entry (K w.params) mg s.heap T a vs ns := ⟨hY w _ Y, G.T.g, ⟨mb, G.T.b, G.T.builtins⟩, G.T.nolimit, G.T.bmain, t1, t2, t3, hobj, hints, Nat.le_trans hlen hn2⟩
    exact e.run rfl hg hr F (hb s _) (fun H hT hS => hsp H a ns hlen hbits hT hS) fun H y s' z => hCX w H s y s' z
end DL
set_option maxRecDepth 100000
set_option maxHeartbeats 4000000
namespace DL
open PySem PySem.Spec PyProof.Rows L2 LamX
section
variable {P : Program} {w : World} {K : PySem.W.Frag} {mg : Str → Option Value} {base : Heap}
/-- the law's def by its derivation and its data -/
theorem okAt {x qual : Str} {st : Stmt} {f ca : Addr} {N ps : List Str} {k c c' : Nat} {con : Con} {T : List (Addr × Str)} {wd : (Addr → List (Str × DV) → List Cell → Prop) → WS} {kV doc pm ct oc : Value} {an od : Option Addr} {osl : Array (Option Value)}
    (lk : K.lookup f = some ⟨oc, od, .func (PySem.W.fnOf x qual (defArgs st) (defBody st) (defScope st) .none kV doc pm an (.ref ca) ct), osl⟩) (hcd : PySem.W.codeIn K (.ref ca) qual = true) (S : FnScope N ps (defScope st)) (hlen : ∀ cs P X, con cs P X → cs.length = ps.length) (hc : c ≤ c')
    (hbody : ∀ (s : Shared) (H : Hp) (E : XK) (G : Addr → List (Str × DV) → List Cell → Prop) (M : Nat) (hM : M ≤ LIM), Room k (callerA.deeper (envOfC qual (defScope st) s.heap.objs.size f (.ref ca))) →
      PSSd (cxOf (L2.CX P w) P w K mg base N qual (defScope st) f (.ref ca) callerA [] s H E) ⟨E, G, T, M, hM⟩ (defBody st) c (wd G))
    (hdata : ∀ cs P X, con cs P X → runD N.length (wd fun C fs e => X C fs (borsAt e (ownIx 0 cs))) cs P) :
    FnAt P w K mg base (L2.CX P w) (k + 1) f (PySem.W.fnOf x qual (defArgs st) (defBody st) (defScope st) .none kV doc pm an (.ref ca) ct) ps (SpD K T c' con) := by
  intro s H args us vs Q E hr e0 hb r ⟨F0, n, cs, M, hn, s0, ht, hp, nd, q⟩
  have hl0 : vs.length = ps.length := by rw [hp.len]; exact hlen _ _ _ q
  refine run_ofS (k := k) lk hcd S hr e0 hb r hl0 fun hr2 => ?_
  have hl : vs.length ≤ N.length := by
    have e1 := hlen _ _ _ q
    have e2 := congrArg List.length S.pre
    rw [List.length_take] at e2
    rw [hp.len, e1]
    omega
  have hd := hdata cs _ _ q
  have hb := hbody s H E (fun C fs e => ∀ d m H' F', n ≤ m → m ≤ M → PostX K T F0 H (borA vs cs) m (borsAt e (ownIx 0 cs)) fs d H' F' → E (.ref C) (some d) H') M hn.2 hr2
  refine ⟨_, hb.run, ?_⟩
  refine runD_ok hb (n := n) (by show _ ≤ M; omega) s0 ht hp nd hl (runD_mono hb.mono (fun r o z v H' F' p => z v H' F' (p.mono_m (by omega))) hd) ?_
  exact fun C fs e g d m H' F' h1 h2 px => g d m H' F' h1 h2 px
end
/-- what a law promises -/
def conLaw : Con := fun cs P _ => ∃ ns : List Int, (cs = [.d (.klst (ns.map DV.int))] ∧ ns.length ≤ 63) ∧ P (.d (.bl true)) []
theorem holds_ints {K : PySem.W.Frag} {F : Hp} : ∀ ns : List Int, HoldAll K F (ns.map V.int) (ns.map DV.int)
  | [] => .nil
  | n :: ns => .cons (.int n) (holds_ints ns)
theorem law_sp {K : PySem.W.Frag} {T : List (Addr × Str)} {c : Nat} (hc : c ≤ LIM) (H : Hp) (a : Addr) (ns : List Int) (hl : ns.length ≤ 63) (hT : ∀ p ∈ T, H p.1 = some (.tbl #[])) (hS : SqL K H a (ns.map V.int)) : SpD K T c conLaw [.ref a] H (fun v _ => v = .bl true) fun _ _ _ => False := by
  refine ⟨unT H, 0, [.d (.klst (ns.map DV.int))], c, ⟨by omega, hc⟩, fun b o h => (unT_some h).1, fun p hp => TabS.nil (hT p hp), ⟨.klst (sqL_mono (unT_ext H) hS) (holds_ints ns), trivial⟩, List.nodup_nil, ns, ⟨rfl, hl⟩, fun v H' F' pd => ?_⟩
  have h := pd.res
  cases h
  rfl
end DL
set_option maxRecDepth 100000
set_option maxHeartbeats 4000000
namespace DL
open PySem PySem.Spec PyProof.Rows L2 LamX
theorem mono_bNil : MonoC bNil := fun env Q Q' q h => q _ _ h
theorem mono_bCons {f : DD} {g : DB} (mf : MonoC f) (mg : MonoC g) : MonoC (bCons f g) := fun env Q Q' q h => mf _ _ _ (fun d e h2 => mg _ _ _ (fun r e3 h3 => q _ _ h3) h2) h
theorem mono_dC (x : DV) : MonoC (dC x) := fun env Q Q' q h => q _ _ h
theorem fm_call {con : Con} {g : DB} (mc : ConMono con) (mg : MonoC g) : ∀ (G G' : Addr → List (Str × DV) → List Cell → Prop) (env : List Cell) (Q Q' : DV → List Cell → Prop), (∀ C fs e, G C fs e → G' C fs e) → (∀ d e, Q d e → Q' d e) → dDat (dCall con G g) env Q → dDat (dCall con G' g) env Q' := fun G G' env Q Q' hG hQ h => by
  unfold dDat dCall at *
  refine mg _ _ _ (fun as e ⟨h1, h2⟩ => ⟨h1, mc _ _ _ _ _ (fun r os z => ?_) (fun C fs os z => hG _ _ _ z) h2⟩) h
  dsimp only at z ⊢
  cases hr : r.frz with
  | none => rw [hr] at z; exact z.elim
  | some d =>
    rw [hr] at z
    dsimp only at z ⊢
    exact hQ _ _ z
theorem passL {X : Cx} {A : Around} {outer : List Env} {s : Shared} {H : Hp} {E : XK} {scope : Scope} {f c' : Addr} : Passes (L2.CX (lamCx X A outer s H E scope f c').prog (lamCx X A outer s H E scope f c').w) (lamCx X A outer s H E scope f c') E := passes_call (takes_of rfl rfl rfl rfl) fun _ _ _ _ h => h
theorem u200 {k : Nat} {A : Around} (r : Room k A) : A.units + 200 < cLine := by have := r.un; omega
end DL
set_option maxRecDepth 100000
set_option maxHeartbeats 4000000
namespace DL
open PySem PySem.Spec PyProof.Rows L2 LamX
/-! ### data with a short text -/
structure Shw (k m : Nat) (x : DV) : Prop where
  ok : x.ok k = true
  sh : x.py.showable = true
  len : x.py.shown.length ≤ m
  st : PyData.strOk x.py.shown = true
theorem reprD_shw {m : Nat} {x : DV} (h : Shw 60 m x) (hm : m ≤ sizeLine) : reprD x = some x.py.shown := if_pos ⟨h.ok, h.sh, Nat.le_trans h.len hm⟩
theorem Shw.mono {k m n : Nat} {x : DV} (h : Shw k m x) (l : m ≤ n) : Shw k n x := ⟨h.ok, h.sh, Nat.le_trans h.len l, h.st⟩
theorem strOk_app {a b : Str} (ha : PyData.strOk a = true) (hb : PyData.strOk b = true) : PyData.strOk (a ++ b) = true := by
  unfold PyData.strOk at *
  rw [Str.cps_append, Array.all_append, ha, hb]
  rfl
theorem strOk_lit (s : String) : PyData.strOk (Str.ofString s) = true := by
  unfold PyData.strOk
  rw [Str.ofString_eq_toList]
  show (List.map Char.toNat s.toList).toArray.all _ = true
  rw [List.all_toArray, List.all_eq_true]
  intro n hn
  obtain ⟨c, _, rfl⟩ := List.mem_map.mp hn
  refine decide_eq_true ?_
  have h := c.valid
  simp only [UInt32.isValidChar, Nat.isValidChar] at h
  show c.val.toNat < _
  omega
theorem strOk_join : ∀ ts : List Str, (∀ t ∈ ts, PyData.strOk t = true) → PyData.strOk (Str.join ", " ts) = true
  | [], _ => by decide +kernel
  | [x], h => h x List.mem_cons_self
  | x :: y :: r, h => strOk_app (strOk_app (h x List.mem_cons_self) (strOk_lit _)) (strOk_join (y :: r) fun t ht => h t (List.mem_cons_of_mem _ ht))
theorem ok_str {k : Nat} {s : Str} (h : PyData.strOk s = true) : (DV.str s).ok k = true := by cases k <;> exact h
/-- a written text, without signs that are escaped -/
theorem Shw.str {k m : Nat} {s : Str} (h : PyData.strOk s = true ∧ (PyData.str s).shown.length ≤ m ∧ PyData.strOk (PyData.str s).shown = true) : Shw k m (.str s) :=
  ⟨ok_str h.1, by rw [DV.py]; rfl, by rw [DV.py]; exact h.2.1, by rw [DV.py]; exact h.2.2⟩
theorem Shw.non {k : Nat} : Shw k 10 .non := ⟨by cases k <;> rfl, by rw [DV.py]; rfl, by rw [DV.py, PyData.shown_none]; decide, by rw [DV.py, PyData.shown_none]; exact strOk_lit _⟩
theorem Shw.bl {k : Nat} {b : Bool} : Shw k 10 (.bl b) := ⟨by cases k <;> rfl, by rw [DV.py]; rfl, by rw [DV.py, PyData.shown_bool]; cases b <;> decide, by rw [DV.py, PyData.shown_bool]; cases b <;> exact strOk_lit _⟩
theorem Shw.int {k : Nat} {i : Int} (h : i.natAbs.log2 < 1920) : Shw k 2000 (.int i) := by
  refine ⟨by cases k <;> rfl, ?_, ?_, ?_⟩
  · rw [DV.py, PyData.showable]
    exact decide_eq_true h
  · rw [DV.py, PyData.shown_int]
    exact Nat.le_trans (int_text_len_1921 h) (by decide)
  · rw [DV.py, PyData.shown_int]
    exact strOk_lit _
theorem join_le (m : Nat) : ∀ ts : List Str, (∀ t ∈ ts, t.length ≤ m) → (Str.join ", " ts).length ≤ ts.length * (m + 2)
  | [], _ => by
    show (0 : Nat) ≤ _
    omega
  | [x], h => by
    have := h x List.mem_cons_self
    show x.length ≤ 1 * (m + 2)
    omega
  | x :: y :: r, h => by
    have h1 := h x List.mem_cons_self
    have h2 := join_le m (y :: r) fun t ht => h t (List.mem_cons_of_mem _ ht)
    show (x ++ ", " ++ Str.join ", " (y :: r)).length ≤ _
    rw [Str.length_append, Str.length_append, show (Str.length (", " : Str)) = 2 from rfl, List.length_cons, Nat.add_mul]
    omega
theorem shownAll_of {k m : Nat} : ∀ {xs : List DV}, (∀ d ∈ xs, Shw k m d) → PyData.showableAll (pyAll xs) = true ∧ (∀ t ∈ PyData.shownAll (pyAll xs), t.length ≤ m) ∧ (PyData.shownAll (pyAll xs)).length = xs.length ∧ ∀ t ∈ PyData.shownAll (pyAll xs), PyData.strOk t = true
  | [], _ => by
    rw [pyAll]
    refine ⟨rfl, fun t ht => ?_, rfl, fun t ht => ?_⟩ <;> cases ht
  | x :: xs, h => by
    obtain ⟨a, b, c, e⟩ := shownAll_of fun d hd => h d (List.mem_cons_of_mem _ hd)
    have hx := h x List.mem_cons_self
    rw [pyAll, PyData.shownAll_cons]
    refine ⟨by rw [PyData.showableAll, hx.sh, a]; rfl, fun t ht => ?_, by rw [List.length_cons, List.length_cons, c], fun t ht => ?_⟩
    · rcases List.mem_cons.mp ht with rfl | ht
      · exact hx.len
      · exact b t ht
    · rcases List.mem_cons.mp ht with rfl | ht
      · exact hx.st
      · exact e t ht
theorem shw_tup {k m : Nat} {xs : List DV} (h : ∀ d ∈ xs, Shw k m d) : (PyData.tuple (pyAll xs)).showable = true ∧ (PyData.tuple (pyAll xs)).shown.length ≤ xs.length * (m + 2) + 3 ∧ PyData.strOk (PyData.tuple (pyAll xs)).shown = true := by
  obtain ⟨a, b, c, d⟩ := shownAll_of h
  refine ⟨by rw [PyData.showable]; exact a, ?_, by rw [PyData.shown_tuple]; exact strOk_app (strOk_app (strOk_lit _) (strOk_join _ d)) (strOk_lit _)⟩
  have j := join_le m _ b
  rw [PyData.shown_tuple, Str.length_append, Str.length_append, show (Str.length ("(" : Str)) = 1 from rfl]
  rw [c] at j
  have e : ∀ s : Bool, (Str.length ((if s then ",)" else ")" : String) : Str)) ≤ 2 := by decide
  have e2 := e ((pyAll xs).length == 1)
  omega
theorem shw_lst {k m : Nat} {xs : List DV} (h : ∀ d ∈ xs, Shw k m d) : (PyData.list (pyAll xs)).showable = true ∧ (PyData.list (pyAll xs)).shown.length ≤ xs.length * (m + 2) + 3 ∧ PyData.strOk (PyData.list (pyAll xs)).shown = true := by
  obtain ⟨a, b, c, d⟩ := shownAll_of h
  refine ⟨by rw [PyData.showable]; exact a, ?_, by rw [PyData.shown_list]; exact strOk_app (strOk_app (strOk_lit _) (strOk_join _ d)) (strOk_lit _)⟩
  have j := join_le m _ b
  rw [PyData.shown_list, Str.length_append, Str.length_append, show (Str.length ("[" : Str)) = 1 from rfl, show (Str.length ("]" : Str)) = 1 from rfl]
  rw [c] at j
  omega
theorem Shw.tup {k m : Nat} {xs : List DV} (h : ∀ d ∈ xs, Shw k m d) : Shw (k + 1) (xs.length * (m + 2) + 3) (.tup xs) :=
  ⟨List.all_eq_true.mpr fun d hd => (h d hd).ok, by rw [DV.py]; exact (shw_tup h).1, by rw [DV.py]; exact (shw_tup h).2.1, by rw [DV.py]; exact (shw_tup h).2.2⟩
theorem Shw.ktup {k m : Nat} {xs : List DV} (h : ∀ d ∈ xs, Shw k m d) : Shw (k + 1) (xs.length * (m + 2) + 3) (.ktup xs) :=
  ⟨List.all_eq_true.mpr fun d hd => (h d hd).ok, by rw [DV.py]; exact (shw_tup h).1, by rw [DV.py]; exact (shw_tup h).2.1, by rw [DV.py]; exact (shw_tup h).2.2⟩
theorem Shw.lst {k m : Nat} {xs : List DV} (h : ∀ d ∈ xs, Shw k m d) : Shw (k + 1) (xs.length * (m + 2) + 3) (.lst xs) :=
  ⟨List.all_eq_true.mpr fun d hd => (h d hd).ok, by rw [DV.py]; exact (shw_lst h).1, by rw [DV.py]; exact (shw_lst h).2.1, by rw [DV.py]; exact (shw_lst h).2.2⟩
theorem shw_ints {k : Nat} {ns : List Int} (h : ∀ n ∈ ns, n.natAbs.log2 < 1920) : ∀ d ∈ ns.map DV.int, Shw k 2000 d := fun d hd => by
  obtain ⟨n, hn, rfl⟩ := List.mem_map.mp hd
  exact .int (h n hn)
theorem log_lt {n : Nat} {b : Nat} (h : n < 2 ^ b) (hb : 0 < b) : n.log2 < b := by
  by_cases hz : n = 0
  · rw [hz]
    exact hb
  · exact (Nat.log2_lt hz).mpr h
/-- more may be spent -/
theorem PSd.le {X : Cx} {Z : ZX} {st : Stmt} {c c' : Nat} {w : WS} (h : PSd X Z st c w) (hc : c ≤ c') : PSd X Z st c' w :=
  ⟨h.mono, PS_imp h.run fun D σ H ⟨B, F, n, env, hn, S, q⟩ => ⟨B, F, n, env, by omega, S, h.mono _ _ _ (endD_le (Ext.refl _) (by omega)) q⟩⟩
theorem eqD_refl {k : Nat} {x : DV} (h : x.ok k = true) : eqD x x = true := PySem.SeqAt.eqv_refl _ (py_depth x k h).1
end DL
set_option maxRecDepth 100000
set_option maxHeartbeats 4000000
namespace DL
open PySem PySem.Spec PyProof.Rows L2 LamX
/-! ### what a head shows, by Bools over the known part -/
theorem and_t {a b : Bool} (h : (a && b) = true) : a = true ∧ b = true := Bool.and_eq_true_iff.mp h
/-- a class of errors over ValueError, with an __init__ of its own at fI -/
def excB (K : PySem.W.Frag) (C : Addr) : Bool := match K.lookup C with
  | some ⟨.type t, _, .cls cd, sl⟩ => (match cd.mro, sl.toList with
    | .ref D :: bm, [_, _, _, _, some (.builtin n), _] => (decide (t = "type") && (decide (D = C) && decide (n = "ValueError.__new__"))) && (!cd.hasDel && (cd.hasDict && PySem.HandSPX.refsVE bm))
    | _, _ => false)
  | _ => false
theorem excB_ok {K : PySem.W.Frag} {C : Addr} (h : excB K C = true) : ∃ nm q N bs bm sn sub ab col dd k0 k1 k2 k3 k5, K.lookup C = some (excClassObj nm q C N bs bm true sn sub ab col dd k0 k1 k2 k3 k5 "ValueError.__new__") ∧ PySem.HandSPX.refsVE bm = true := by
  unfold excB at h
  split at h
  case h_2 => cases h
  case h_1 t dd cd sl lk =>
    split at h
    case h_2 => cases h
    case h_1 D bm k0 k1 k2 k3 n k5 em es =>
      obtain ⟨h1, h2⟩ := and_t h
      obtain ⟨a1, h1⟩ := and_t h1
      obtain ⟨a2, a3⟩ := and_t h1
      obtain ⟨a4, h2⟩ := and_t h2
      obtain ⟨a5, a6⟩ := and_t h2
      have a1 := of_decide_eq_true a1
      have a2 := of_decide_eq_true a2
      have a3 := of_decide_eq_true a3
      have a4' : cd.hasDel = false := by
        cases e : cd.hasDel with
        | false => rfl
        | true =>
          rw [e] at a4
          cases a4
      clear a4
      have esl : sl = #[k0, k1, k2, k3, some (.builtin n), k5] := Array.ext' es
      obtain ⟨c1, c2, c3, c4, c5, c6, c7, c8, c9, c10, c11⟩ := cd
      dsimp only at em a4' a5
      subst a1 a2 a3 em a4' a5 esl
      exact ⟨_, _, _, _, bm, _, _, _, _, _, _, _, _, _, _, lk, a6⟩
def oexB (K : PySem.W.Frag) (C : Addr) : Bool := excB K C && (He.eqO (PySem.W.findIn K (.ref C) "__setattr__") (some (some (.builtin "object.__setattr__"))) && (decide (PySem.W.subIn K (.ref C) (.type "BaseException") = some true) && (decide (PySem.W.typeIn K (.ref C) = some (.type "type")) && PySem.W.keepIn K (.ref C))))
theorem oexB_ok {K : PySem.W.Frag} {C : Addr} (h : oexB K C = true) : OexC K C := by
  obtain ⟨a, h⟩ := and_t h
  obtain ⟨b, h⟩ := and_t h
  obtain ⟨c, h⟩ := and_t h
  obtain ⟨d, e⟩ := and_t h
  exact ⟨excB_ok a, He.eqO_ok b, of_decide_eq_true c, of_decide_eq_true d, e⟩
def errB (K : PySem.W.Frag) (C fI : Addr) (ns : List Str) : Bool := oexB K C && (He.eqO (PySem.W.findIn K (.ref C) "__init__") (some (some (.ref fI))) && (decide (PySem.W.typeIn K (.ref fI) = some (.type "function")) && ns.all fun f => He.eqO (PySem.W.findIn K (.ref C) f) (some none)))
theorem errB_ok {K : PySem.W.Frag} {C fI : Addr} {ns : List Str} (h : errB K C fI ns = true) : ErrC K C fI ns := by
  obtain ⟨a, h⟩ := and_t h
  obtain ⟨b, h⟩ := and_t h
  obtain ⟨c, d⟩ := and_t h
  exact ⟨oexB_ok a, He.eqO_ok b, of_decide_eq_true c, fun f hf => He.eqO_ok (List.all_eq_true.mp d f hf)⟩
def baseB (K : PySem.W.Frag) (D : Addr) : Bool := PySem.W.readsIn K D (.type "type") && (He.eqO (PySem.W.specialIn K (.ref D) "__getattribute__") (some (some (.builtin "type.__getattribute__"))) && (match PySem.W.findCls K (.ref D) (.type "type") "__init__" with
  | some (.val (.builtin x)) => decide (x = "ValueError.__init__")
  | _ => false))
theorem baseB_ok {K : PySem.W.Frag} {D : Addr} (h : baseB K D = true) : BaseI K D := by
  obtain ⟨a, h⟩ := and_t h
  obtain ⟨b, c⟩ := and_t h
  refine ⟨a, He.eqO_ok b, ?_⟩
  split at c
  case h_1 x e =>
    rw [e, of_decide_eq_true c]
  case h_2 => cases c
/-- a def without defaults, as the layer has it -/
theorem fun_of {K : PySem.W.Frag} {x qual : Str} {st : Stmt} {f : Addr} {fd : FuncData} (F : FunD K x qual (defArgs st) (defBody st) (defScope st) [] [] f fd) : Fun K x qual st f fd := by
  obtain ⟨⟨oc, od, dV, kV, doc, pm, an, cdv, ct, osl, e1, e2, e3, e4, e5⟩, kp⟩ := F
  rcases e4 with ⟨_, rfl⟩ | ⟨n, _⟩
  · exact ⟨⟨oc, od, kV, doc, pm, an, cdv, ct, osl, e1, e2, e3⟩, kp⟩
  · exact absurd rfl n
/-! ### written data -/
/-- a value that is no object, or an object -/
def vOf : Value → V
  | .bool b => .bl b
  | .int i _ => .int i
  | .str x _ => .str x
  | .ref a => .ref a
  | _ => .non
/-- the value u is the data d, in the known part -/
def datB (K : PySem.W.Frag) : Nat → Value → DV → Bool
  | _, .none, .non => true
  | _, .bool b, .bl c => b == c
  | _, .int i _, .int j => decide (i = j)
  | _, .str x _, .str y => decide (x = y)
  | _, .ref a, .ref b => decide (a = b)
  | k + 1, .ref a, .ktup xs => (match K.lookup a with
    | some ⟨.type t, _, .seq its _, _⟩ => decide (t = "tuple") && (decide (its.size ≤ sizeLine) && (decide (its.toList.length = xs.length) && (its.toList.zip xs).all fun q => datB K k q.1 q.2))
    | _ => false)
  | _, _, _ => false
theorem datB_ok {K : PySem.W.Frag} {F : Hp} : ∀ (k : Nat) (u : Value) (d : DV), datB K k u d = true → RelV (vOf u) u ∧ Hold K F (vOf u) d := by
  intro k
  induction k with
  | zero =>
    intro u d h
    cases u <;> cases d <;> first | (cases h; done) | skip
    · exact ⟨rfl, .non⟩
    · rw [eq_of_beq (show (_ == _) = true from h)]
      exact ⟨rfl, .bl _⟩
    · rw [of_decide_eq_true (show decide (_ = _) = true from h)]
      exact ⟨⟨_, rfl⟩, .int _⟩
    · rw [of_decide_eq_true (show decide (_ = _) = true from h)]
      exact ⟨⟨_, rfl⟩, .str _⟩
    · rw [of_decide_eq_true (show decide (_ = _) = true from h)]
      exact ⟨rfl, .ref _⟩
  | succ k ih =>
    intro u d h
    cases u <;> cases d <;> first | (cases h; done) | skip
    · exact ⟨rfl, .non⟩
    · rw [eq_of_beq (show (_ == _) = true from h)]
      exact ⟨rfl, .bl _⟩
    · rw [of_decide_eq_true (show decide (_ = _) = true from h)]
      exact ⟨⟨_, rfl⟩, .int _⟩
    · rw [of_decide_eq_true (show decide (_ = _) = true from h)]
      exact ⟨⟨_, rfl⟩, .str _⟩
    · rw [of_decide_eq_true (show decide (_ = _) = true from h)]
      exact ⟨rfl, .ref _⟩
    · rename_i a xs
      refine ⟨rfl, ?_⟩
      unfold datB at h
      split at h
      case h_2 => cases h
      case h_1 t dd its n sl lk =>
        obtain ⟨h1, h⟩ := and_t h
        obtain ⟨h2, h⟩ := and_t h
        obtain ⟨h3, h4⟩ := and_t h
        have h1 := of_decide_eq_true h1
        subst h1
        have all : ∀ (us : List Value) (ds : List DV), us.length = ds.length → (us.zip ds).all (fun q => datB K k q.1 q.2) = true → Vals (us.map vOf) us ∧ HoldAll K F (us.map vOf) ds := by
          intro us
          induction us with
          | nil =>
            intro ds hl _
            cases ds with
            | nil => exact ⟨.nil, .nil⟩
            | cons _ _ => cases hl
          | cons u us ih2 =>
            intro ds hl ha
            cases ds with
            | nil => cases hl
            | cons d ds =>
              rw [List.zip_cons_cons, List.all_cons] at ha
              obtain ⟨a1, a2⟩ := and_t ha
              obtain ⟨b1, b2⟩ := ih2 ds (Nat.succ.inj hl) a2
              obtain ⟨c1, c2⟩ := ih u d a1
              exact ⟨.cons c1 b1, .cons c2 b2⟩
        obtain ⟨v1, v2⟩ := all its.toList xs (of_decide_eq_true h3) h4
        exact .ktup lk rfl rfl (of_decide_eq_true h2) v1 v2
/-- what the module's name x stands for -/
def gv (K : PySem.W.Frag) (x : Str) : Value := match PySem.W.nsIn K mainGlobals x with
  | some (some v) => v
  | _ => .none
/-- the written dict's entries are these, in order -/
def entB (K : PySem.W.Frag) : List DictEntry → List (Int × DV) → Bool
  | [], [] => true
  | e :: es, q :: qs => (match e.key with
    | .int i _ => decide (i = q.1) && (decide (e.hash = hashInt q.1) && datB K 9 e.val q.2)
    | _ => false) && entB K es qs
  | _, _ => false
def entK : List DictEntry → List (Int × DV) → List (Int × (V × DV))
  | e :: es, q :: qs => (q.1, (vOf e.val, q.2)) :: entK es qs
  | _, _ => []
def dictAt (K : PySem.W.Frag) (a : Addr) : List DictEntry := match K.lookup a with
  | some ⟨_, _, .dict es _, _⟩ => es.toList
  | _ => []
def wdB (K : PySem.W.Frag) (a : Addr) (qs : List (Int × DV)) : Bool := match K.lookup a with
  | some ⟨.type t, none, .dict es _, sl⟩ => (decide (t = "dict") && (sl.isEmpty && !(a == sysModules))) && entB K es.toList qs
  | _ => false
/-- the table of the written dict at a -/
def wdK (K : PySem.W.Frag) (a : Addr) (qs : List (Int × DV)) : List (Int × (V × DV)) := entK (dictAt K a) qs
theorem entB_keys {K : PySem.W.Frag} : ∀ {es : List DictEntry} {qs : List (Int × DV)}, entB K es qs = true → (entK es qs).map (fun q => (q.1, q.2.2)) = qs
  | [], [], _ => rfl
  | [], _ :: _, h => by cases h
  | _ :: _, [], h => by cases h
  | e :: es, q :: qs, h => by
    show (q.1, q.2) :: (entK es qs).map (fun q => (q.1, q.2.2)) = q :: qs
    rw [entB_keys (and_t h).2]
theorem entB_ok {K : PySem.W.Frag} : ∀ {es : List DictEntry} {qs : List (Int × DV)}, entB K es qs = true →
    (∀ e ∈ es, ∃ k, Value.isInt k e.key = true ∧ e.hash = hashInt k) ∧
    ∀ k, (∀ p, (entK es qs).lookup k = some p → (∃ u, (es.find? fun e => Value.isInt k e.key).map (·.val) = some u ∧ RelV p.1 u) ∧ ∀ F, Hold K F p.1 p.2) ∧ ((entK es qs).lookup k = none → (es.find? fun e => Value.isInt k e.key).map (·.val) = none)
  | [], [], _ => by
    refine And.intro (fun e he => by cases he) fun k => And.intro (fun p e => ?_) fun _ => rfl
    have e2 : (none : Option (V × DV)) = some p := e
    cases e2
  | [], _ :: _, h => by cases h
  | _ :: _, [], h => by cases h
  | e :: es, q :: qs, h => by
    obtain ⟨h1, h2⟩ := and_t h
    obtain ⟨i1, i2⟩ := entB_ok h2
    split at h1
    case h_2 => cases h1
    case h_1 i t ek =>
      obtain ⟨a1, h1⟩ := and_t h1
      obtain ⟨a2, a3⟩ := and_t h1
      have a1 := of_decide_eq_true a1
      subst a1
      refine ⟨fun x hx => ?_, fun k => ?_⟩
      · rcases List.mem_cons.mp hx with rfl | hx
        · exact ⟨q.1, by rw [ek]; exact beq_self_eq_true _, of_decide_eq_true a2⟩
        · exact i1 x hx
      · have ei : Value.isInt k e.key = (q.1 == k) := by rw [ek]; rfl
        show (∀ p, (match k == q.1 with | true => some (vOf e.val, q.2) | false => (entK es qs).lookup k) = some p → _) ∧ ((match k == q.1 with | true => some (vOf e.val, q.2) | false => (entK es qs).lookup k) = none → _)
        rw [List.find?_cons, ei]
        by_cases hk : k = q.1
        · rw [hk, beq_self_eq_true]
          refine ⟨fun p ep => ?_, fun z => by cases z⟩
          cases ep
          exact ⟨⟨_, rfl, (datB_ok (F := fun _ => none) 9 _ _ a3).1⟩, fun F => (datB_ok 9 _ _ a3).2⟩
        · rw [beq_eq_false_iff_ne.mpr hk, beq_eq_false_iff_ne.mpr fun z => hk z.symm]
          exact i2 k
theorem wdB_ok {K : PySem.W.Frag} {a : Addr} {qs : List (Int × DV)} (h : wdB K a qs = true) : WDict K a (wdK K a qs) ∧ (wdK K a qs).map (fun q => (q.1, q.2.2)) = qs := by
  unfold wdB at h
  split at h
  case h_2 => cases h
  case h_1 t es n sl lk =>
    obtain ⟨h1, h2⟩ := and_t h
    obtain ⟨a1, h1⟩ := and_t h1
    obtain ⟨a2, a3⟩ := and_t h1
    have a1 := of_decide_eq_true a1
    have a2 := Array.isEmpty_iff.mp a2
    subst a1 a2
    have e : wdK K a qs = entK es.toList qs := by
      unfold wdK dictAt
      rw [lk]
    rw [e]
    obtain ⟨i1, i2⟩ := entB_ok h2
    refine ⟨⟨?_, ⟨es, n, lk, fun e he => i1 e (Array.mem_toList_iff.mpr he), fun k => ⟨fun p ep => ?_, fun z => ?_⟩⟩, fun F k p ep => (((i2 k).1 p ep).2 F)⟩, entB_keys h2⟩
    · cases z : a == sysModules with
      | false => rfl
      | true =>
        rw [z] at a3
        cases a3
    · obtain ⟨⟨u, z, r⟩, _⟩ := (i2 k).1 p ep
      refine ⟨u, ?_, r⟩
      unfold findBy
      rw [← Array.find?_toList]
      exact z
    · unfold findBy
      rw [← Array.find?_toList]
      exact (i2 k).2 z
/-! ### the look at the top: what its names reach, and the statics -/
abbrev GetO := Addr → Option Obj
def partY (n : Nat) (g : GetO) : PySem.W.Frag := He.frT g (He.asD g n ++ [cStatics])
/-- the def's code object and its table stand as they were made -/
def tabY (g : GetO) (K : PySem.W.Frag) (p : He.Defn) : Bool := PySem.W.codeHdIn K (He.cT K p).1 (He.cT K p).2 && ((g (He.cT K p).2).map He.emptyTab == some true)
structure SaysY (fa : List He.Fa) (fn : List He.DefD) (tf : List He.Defn) (ex : PySem.W.Frag → Bool) (h : Heap) (K : PySem.W.Frag) : Prop where
  d : He.SaysD fa fn K
  more : ex K = true
  hd : ∀ p ∈ tf, PySem.W.codeHdIn K (He.cT K p).1 (He.cT K p).2 = true
  out : ∀ p ∈ tf, K.lookup (He.cT K p).2 = none
  empty : ∀ p ∈ tf, h.get? (He.cT K p).2 = some oTab
def obsY (n : Nat) (fa : List He.Fa) (fn : List He.DefD) (tf : List He.Defn) (ex : PySem.W.Frag → Bool) (g : GetO) : He.AlD × Bool :=
  (He.obsD fa fn (partY n g), ex (partY n g) && tf.all (tabY g (partY n g)))
theorem saysY_of {n : Nat} {fa : List He.Fa} {fn : List He.DefD} {tf : List He.Defn} {ex : PySem.W.Frag → Bool} {h : Heap} (e : obsY n fa fn tf ex h.get? = (He.valD fn, true)) : SaysY fa fn tf ex h (partY n h.get?) := by
  obtain ⟨e1, e2⟩ := Prod.mk.inj e
  obtain ⟨x, t⟩ := and_t e2
  have one : ∀ p ∈ tf, PySem.W.codeHdIn (partY n h.get?) (He.cT (partY n h.get?) p).1 (He.cT (partY n h.get?) p).2 = true ∧ ∃ o, h.get? (He.cT (partY n h.get?) p).2 = some o ∧ He.emptyTab o = true := fun p hp => by
    obtain ⟨a, b⟩ := and_t (List.all_eq_true.mp t p hp)
    obtain ⟨o, q, z⟩ := Option.map_eq_some_iff.mp (eq_of_beq b)
    exact ⟨a, o, q, z⟩
  constructor
  · exact e1
  · exact x
  · exact fun p hp => (one p hp).1
  · intro p hp
    obtain ⟨_, o, q, z⟩ := one p hp
    exact He.frT_none q z
  · intro p hp
    obtain ⟨_, o, q, z⟩ := one p hp
    exact q.trans (congrArg some (He.emptyTab_eq z))
def hookY (n : Nat) (fa : List He.Fa) (fn : List He.DefD) (tf : List He.Defn) (ex : PySem.W.Frag → Bool) : PySem.W.Hook where
  α := He.AlD × Bool
  obs := fun s => obsY n fa fn tf ex s.heap.get?
  val := fun _ => (He.valD fn, true)
  says := fun _ h => ∃ K : PySem.W.Frag, K.In h ∧ SaysY fa fn tf ex h K
  of := fun _ _ e => ⟨_, He.frT_in, saysY_of e⟩
  keeps := fun _ _ _ ⟨K, hK, c⟩ k => ⟨K, hK.keeps k, { c with empty := fun p hp => k _ _ (c.empty p hp) }⟩
theorem obsY_eq {n : Nat} {fa : List He.Fa} {fn : List He.DefD} {tf : List He.Defn} {ex : PySem.W.Frag → Bool} (s : PySem.W.SharedT) : obsY n fa fn tf ex (HandSHeadRun.getT s) = (hookY n fa fn tf ex).obs s.abs := by
  rw [show HandSHeadRun.getT s = s.abs.heap.get? from funext (HandSHeadRun.getT_eq s)]
  rfl
/-! ### the law, over a head by facts -/
theorem walk_ofX {l : PySem.W.OpenLaw} {n k : Nat} {q : Program} {loose : List Str} {XP : (Str → Option Value) → Heap → Prop} {YP : World → Heap → Prop} {d : DefRec} {CX : World → CXT} {x : Str}
    (hn : l.most = some n) (hn2 : n ≤ sizeLine) (hdf : d.params.defaults = []) (hr : Room k callerA)
    (hF : ∀ (w : World) (mg : Str → Option Value) (fa : Addr) (h : Heap), YP w h → h.Ns mainGlobals mg → mg d.name = some (.ref fa) → ∃ K : PySem.W.Frag, K.In h ∧ LawAtA l w K (CX w) k n x mg fa h)
    (hCX : ∀ (w : World) (H : Hp) (s : Shared) (y : Value) (s' : Shared), CX w [] H s (fun _ _ _ => False) y s' → False) :
    PySem.W.WalkO q loose XP YP l.row.toRowW d [] (fun f vs => PySem.call f vs) :=
  Att.attach_callB hn hdf fun w s0 s mg mb fa o pm cd doc a vs ns G Y ho hd hcd hmg hobj hints hlen hbits hg => by
    obtain ⟨K, KX, fd, T, sp, ⟨t1, t2, t3⟩, hb, hsp, F⟩ := hF w mg fa _ Y G.T.g hmg
    have e : Entry K mg s.heap T a vs ns := ⟨KX, G.T.g, ⟨mb, G.T.b, G.T.builtins⟩, G.T.nolimit, G.T.bmain, t1, t2, t3, hobj, hints, Nat.le_trans hlen hn2⟩
    exact e.run rfl hg hr F (hb s _) (fun H hT hS => hsp H a ns hlen hbits hT hS) fun H y s' z => hCX w H s y s' z
theorem cx_false {P : Program} {w : World} {H : Hp} {s : Shared} {y : Value} {s' : Shared} (h : L2.CX P w [] H s (fun _ _ _ => False) y s') : False := by
  obtain ⟨_, _, _, _, _, _, _, _, _, _, _, _, z⟩ := h
  exact z
end DL
set_option maxRecDepth 100000
set_option maxHeartbeats 4000000
namespace K01
open PySem PySem.Spec PyProof.Rows L2 DL LamX
def top (i : Nat) : Stmt := PySem.Challenge.pw_restcounts_k01_moduli_and_digits.main.body.getD i (.Pass ⟨0, 0, 0, 0⟩)
abbrev s_BadNumber_init : Stmt := inClass (top 2) 0
theorem sc_BadNumber_init : FnScope ["self", "what", "number"] ["self", "what", "number"] (defScope s_BadNumber_init) := ⟨rfl, rfl, rfl, by decide +kernel, rfl, by decide +kernel, by decide +kernel⟩
abbrev s_BadRow_init : Stmt := inClass (top 3) 0
theorem sc_BadRow_init : FnScope ["self", "row"] ["self", "row"] (defScope s_BadRow_init) := ⟨rfl, rfl, rfl, by decide +kernel, rfl, by decide +kernel, by decide +kernel⟩
abbrev s_is_number : Stmt := top 7
theorem sc_is_number : FnScope ["value"] ["value"] (defScope s_is_number) := ⟨rfl, rfl, rfl, by decide +kernel, rfl, by decide +kernel, by decide +kernel⟩
abbrev s_need_prime : Stmt := top 9
theorem sc_need_prime : FnScope ["p"] ["p"] (defScope s_need_prime) := ⟨rfl, rfl, rfl, by decide +kernel, rfl, by decide +kernel, by decide +kernel⟩
abbrev s_prime_power : Stmt := top 8
theorem sc_prime_power : FnScope ["m"] ["m"] (defScope s_prime_power) := ⟨rfl, rfl, rfl, by decide +kernel, rfl, by decide +kernel, by decide +kernel⟩
abbrev s_digits : Stmt := top 10
theorem sc_digits : FnScope ["n", "p", "found"] ["n", "p"] (defScope s_digits) := ⟨rfl, rfl, rfl, by decide +kernel, rfl, by decide +kernel, by decide +kernel⟩
abbrev s_number_of : Stmt := top 11
theorem sc_number_of : FnScope ["row", "p", "digit", "number"] ["row", "p"] (defScope s_number_of) := ⟨rfl, rfl, rfl, by decide +kernel, rfl, by decide +kernel, by decide +kernel⟩
abbrev s_law_pen : Stmt := top 13
theorem sc_law_pen : FnScope ["_law_script", "_law_fold", "_law_cell"] ["_law_script"] (defScope s_law_pen) := ⟨rfl, rfl, rfl, by decide +kernel, rfl, by decide +kernel, by decide +kernel⟩
abbrev s_law_draw : Stmt := top 14
theorem sc_law_draw : FnScope ["_law_pen_here", "_law_many", "_law_cell", "_law_digit", "_law_mixed"] ["_law_pen_here", "_law_many"] (defScope s_law_draw) := ⟨rfl, rfl, rfl, by decide +kernel, rfl, by decide +kernel, by decide +kernel⟩
abbrev s_law_pick : Stmt := top 15
theorem sc_law_pick : FnScope ["_law_pen_here", "_law_some"] ["_law_pen_here", "_law_some"] (defScope s_law_pick) := ⟨rfl, rfl, rfl, by decide +kernel, rfl, by decide +kernel, by decide +kernel⟩
abbrev s_law_is_whole : Stmt := top 16
theorem sc_law_is_whole : FnScope ["_law_value"] ["_law_value"] (defScope s_law_is_whole) := ⟨rfl, rfl, rfl, by decide +kernel, rfl, by decide +kernel, by decide +kernel⟩
abbrev s_law_raised : Stmt := top 19
theorem sc_law_raised : FnScope ["_law_base", "_law_many", "_law_found", "_law_lap"] ["_law_base", "_law_many"] (defScope s_law_raised) := ⟨rfl, rfl, rfl, by decide +kernel, rfl, by decide +kernel, by decide +kernel⟩
abbrev s_law_digits : Stmt := top 18
theorem sc_law_digits : FnScope ["_law_n", "_law_p", "_law_found", "_law_lap"] ["_law_n", "_law_p"] (defScope s_law_digits) := ⟨rfl, rfl, rfl, by decide +kernel, rfl, by decide +kernel, by decide +kernel⟩
abbrev s_law_large : Stmt := top 17
theorem sc_law_large : FnScope ["_law_pen_here", "_law_way", "_law_total", "_law_k"] ["_law_pen_here"] (defScope s_law_large) := ⟨rfl, rfl, rfl, by decide +kernel, rfl, by decide +kernel, by decide +kernel⟩
abbrev s_law_why : Stmt := top 20
theorem sc_law_why : FnScope ["_law_call", "e"] ["_law_call"] (defScope s_law_why) := ⟨rfl, rfl, rfl, by decide +kernel, rfl, by decide +kernel, by decide +kernel⟩
abbrev s_law : Stmt := top 21
theorem sc_law : FnScope ["_law_script", "_law_pen_here", "_law_known", "_law_m", "_law_p", "_law_k", "_law_far", "_law_odd", "_law_lap", "_law_n", "_law_told", "_law_more", "_law_bad", "_law_base", "_law_row"] ["_law_script"] (defScope s_law) := ⟨rfl, rfl, rfl, by decide +kernel, rfl, by decide +kernel, by decide +kernel⟩
def d_PRIMES : DV := .ktup [.int 2, .int 3, .int 5, .int 7]
structure Adr where
  rel : Rel
  c_CountError : Addr
  c_BadNumber : Addr
  c_BadRow : Addr
  a_POWERS : Addr
  a_PRIMES : Addr
  k_POWERS : List (Int × (V × DV))
  f_BadNumber_init : Addr
  fd_BadNumber_init : FuncData
  f_BadRow_init : Addr
  fd_BadRow_init : FuncData
  f_is_number : Addr
  fd_is_number : FuncData
  f_need_prime : Addr
  fd_need_prime : FuncData
  f_prime_power : Addr
  fd_prime_power : FuncData
  f_digits : Addr
  fd_digits : FuncData
  f_number_of : Addr
  fd_number_of : FuncData
  f_law_pen : Addr
  fd_law_pen : FuncData
  f_law_draw : Addr
  fd_law_draw : FuncData
  f_law_pick : Addr
  fd_law_pick : FuncData
  f_law_is_whole : Addr
  fd_law_is_whole : FuncData
  f_law_raised : Addr
  fd_law_raised : FuncData
  f_law_digits : Addr
  fd_law_digits : FuncData
  f_law_large : Addr
  fd_law_large : FuncData
  f_law_why : Addr
  fd_law_why : FuncData
  f_law : Addr
  fd_law : FuncData
structure Txt (K : PySem.W.Frag) (mg : Str → Option Value) (A : Adr) : Prop where
  rel : RelOk K A.rel
  ini : Ini mg K A.c_CountError
  mg_BadNumber : mg "BadNumber" = some (.ref A.c_BadNumber)
  mg_BadRow : mg "BadRow" = some (.ref A.c_BadRow)
  mg_POWERS : mg "POWERS" = some (.ref A.a_POWERS)
  wd_POWERS : WDict K A.a_POWERS A.k_POWERS
  mg_PRIMES : mg "PRIMES" = some (.ref A.a_PRIMES)
  h_PRIMES : ∀ F, Hold K F (.ref A.a_PRIMES) d_PRIMES
  no_all : mg "all" = none
  no_bool : mg "bool" = none
  no_int : mg "int" = none
  no_isinstance : mg "isinstance" = none
  no_len : mg "len" = none
  no_list : mg "list" = none
  no_range : mg "range" = none
  no_repr : mg "repr" = none
  no_tuple : mg "tuple" = none
  F_BadNumber_init : Fun K "__init__" "BadNumber.__init__" s_BadNumber_init A.f_BadNumber_init A.fd_BadNumber_init
  F_BadRow_init : Fun K "__init__" "BadRow.__init__" s_BadRow_init A.f_BadRow_init A.fd_BadRow_init
  mg_is_number : mg "is_number" = some (.ref A.f_is_number)
  F_is_number : Fun K "is_number" "is_number" s_is_number A.f_is_number A.fd_is_number
  mg_need_prime : mg "need_prime" = some (.ref A.f_need_prime)
  F_need_prime : Fun K "need_prime" "need_prime" s_need_prime A.f_need_prime A.fd_need_prime
  mg_prime_power : mg "prime_power" = some (.ref A.f_prime_power)
  F_prime_power : Fun K "prime_power" "prime_power" s_prime_power A.f_prime_power A.fd_prime_power
  mg_digits : mg "digits" = some (.ref A.f_digits)
  F_digits : Fun K "digits" "digits" s_digits A.f_digits A.fd_digits
  mg_number_of : mg "number_of" = some (.ref A.f_number_of)
  F_number_of : Fun K "number_of" "number_of" s_number_of A.f_number_of A.fd_number_of
  mg_law_pen : mg "_law_pen" = some (.ref A.f_law_pen)
  F_law_pen : Fun K "_law_pen" "_law_pen" s_law_pen A.f_law_pen A.fd_law_pen
  mg_law_draw : mg "_law_draw" = some (.ref A.f_law_draw)
  F_law_draw : Fun K "_law_draw" "_law_draw" s_law_draw A.f_law_draw A.fd_law_draw
  mg_law_pick : mg "_law_pick" = some (.ref A.f_law_pick)
  F_law_pick : Fun K "_law_pick" "_law_pick" s_law_pick A.f_law_pick A.fd_law_pick
  mg_law_is_whole : mg "_law_is_whole" = some (.ref A.f_law_is_whole)
  F_law_is_whole : Fun K "_law_is_whole" "_law_is_whole" s_law_is_whole A.f_law_is_whole A.fd_law_is_whole
  mg_law_raised : mg "_law_raised" = some (.ref A.f_law_raised)
  F_law_raised : Fun K "_law_raised" "_law_raised" s_law_raised A.f_law_raised A.fd_law_raised
  mg_law_digits : mg "_law_digits" = some (.ref A.f_law_digits)
  F_law_digits : Fun K "_law_digits" "_law_digits" s_law_digits A.f_law_digits A.fd_law_digits
  mg_law_large : mg "_law_large" = some (.ref A.f_law_large)
  F_law_large : Fun K "_law_large" "_law_large" s_law_large A.f_law_large A.fd_law_large
  mg_law_why : mg "_law_why" = some (.ref A.f_law_why)
  F_law_why : Fun K "_law_why" "_law_why" s_law_why A.f_law_why A.fd_law_why
  mg_law : mg "law" = some (.ref A.f_law)
  F_law : Fun K "law" "law" s_law A.f_law A.fd_law
  xf_BadNumber : XfC K A.c_BadNumber
  xf_BadRow : XfC K A.c_BadRow
  nf_what : PySem.W.findIn K (.ref A.c_BadNumber) "what" = some none
  nf_number : PySem.W.findIn K (.ref A.c_BadNumber) "number" = some none
  nf_row : PySem.W.findIn K (.ref A.c_BadRow) "row" = some none
  er_BadNumber : ErrC K A.c_BadNumber A.f_BadNumber_init ["what", "number"]
  er_BadRow : ErrC K A.c_BadRow A.f_BadRow_init ["row"]
section
variable {P : Program} {w : World} {K : PySem.W.Frag} {mg : Str → Option Value} {base : Heap} {A : Adr}
theorem b_BadNumber_init (T : Txt K mg A) : Binds K A.fd_BadNumber_init ["self", "what", "number"] [] := T.F_BadNumber_init.binds fun _ _ _ _ _ _ us hl => match us, hl with | [_, _, _], _ => rfl
theorem b_BadRow_init (T : Txt K mg A) : Binds K A.fd_BadRow_init ["self", "row"] [] := T.F_BadRow_init.binds fun _ _ _ _ _ _ us hl => match us, hl with | [_, _], _ => rfl
theorem b_is_number (T : Txt K mg A) : Binds K A.fd_is_number ["value"] [] := T.F_is_number.binds fun _ _ _ _ _ _ us hl => match us, hl with | [_], _ => rfl
theorem b_need_prime (T : Txt K mg A) : Binds K A.fd_need_prime ["p"] [] := T.F_need_prime.binds fun _ _ _ _ _ _ us hl => match us, hl with | [_], _ => rfl
theorem b_prime_power (T : Txt K mg A) : Binds K A.fd_prime_power ["m"] [] := T.F_prime_power.binds fun _ _ _ _ _ _ us hl => match us, hl with | [_], _ => rfl
theorem b_digits (T : Txt K mg A) : Binds K A.fd_digits ["n", "p"] [] := T.F_digits.binds fun _ _ _ _ _ _ us hl => match us, hl with | [_, _], _ => rfl
theorem b_number_of (T : Txt K mg A) : Binds K A.fd_number_of ["row", "p"] [] := T.F_number_of.binds fun _ _ _ _ _ _ us hl => match us, hl with | [_, _], _ => rfl
theorem b_law_pen (T : Txt K mg A) : Binds K A.fd_law_pen ["_law_script"] [] := T.F_law_pen.binds fun _ _ _ _ _ _ us hl => match us, hl with | [_], _ => rfl
theorem b_law_draw (T : Txt K mg A) : Binds K A.fd_law_draw ["_law_pen_here", "_law_many"] [] := T.F_law_draw.binds fun _ _ _ _ _ _ us hl => match us, hl with | [_, _], _ => rfl
theorem b_law_pick (T : Txt K mg A) : Binds K A.fd_law_pick ["_law_pen_here", "_law_some"] [] := T.F_law_pick.binds fun _ _ _ _ _ _ us hl => match us, hl with | [_, _], _ => rfl
theorem b_law_is_whole (T : Txt K mg A) : Binds K A.fd_law_is_whole ["_law_value"] [] := T.F_law_is_whole.binds fun _ _ _ _ _ _ us hl => match us, hl with | [_], _ => rfl
theorem b_law_raised (T : Txt K mg A) : Binds K A.fd_law_raised ["_law_base", "_law_many"] [] := T.F_law_raised.binds fun _ _ _ _ _ _ us hl => match us, hl with | [_, _], _ => rfl
theorem b_law_digits (T : Txt K mg A) : Binds K A.fd_law_digits ["_law_n", "_law_p"] [] := T.F_law_digits.binds fun _ _ _ _ _ _ us hl => match us, hl with | [_, _], _ => rfl
theorem b_law_large (T : Txt K mg A) : Binds K A.fd_law_large ["_law_pen_here"] [] := T.F_law_large.binds fun _ _ _ _ _ _ us hl => match us, hl with | [_], _ => rfl
theorem b_law_why (T : Txt K mg A) : Binds K A.fd_law_why ["_law_call"] [] := T.F_law_why.binds fun _ _ _ _ _ _ us hl => match us, hl with | [_], _ => rfl
theorem b_law (T : Txt K mg A) : Binds K A.fd_law ["_law_script"] [] := T.F_law.binds fun _ _ _ _ _ _ us hl => match us, hl with | [_], _ => rfl
theorem eok_BadNumber (T : Txt K mg A) : FnOk P w K mg base (L2.CX P w) 1 A.f_BadNumber_init A.fd_BadNumber_init ["self", "what", "number"] (SpErr K A.c_BadNumber 2 fun ws => ((["what", "number"] : List Str).zip ws).reverse) := err2 T.F_BadNumber_init sc_BadNumber_init T.er_BadNumber T.ini rfl (fun env => ⟨_, rfl⟩) (fun env => rfl) (by decide +kernel) rfl
theorem eok_BadRow (T : Txt K mg A) : FnOk P w K mg base (L2.CX P w) 1 A.f_BadRow_init A.fd_BadRow_init ["self", "row"] (SpErr K A.c_BadRow 1 fun ws => ((["row"] : List Str).zip ws).reverse) := err1 T.F_BadRow_init sc_BadRow_init T.er_BadRow T.ini rfl (fun env => ⟨_, rfl⟩) (fun env => rfl) (by decide +kernel) rfl
/-! ### is_number -/
def wd_is_number (A : Adr) (G : Addr → List (Str × DV) → List Cell → Prop) : WS := (wSeq (wRet (dCel (dAndV (dOp2d (gIsi A.rel) (dVar 0) (dC (.ty "int"))) (dNotV (dOp2d (gIsi A.rel) (dVar 0) (dC (.ty "bool"))))))) wNil)
def isInt? : DV → Option Bool
  | .int _ => some true
  | .bl _ => some false
  | .non => some false
  | .str _ => some false
  | .tup _ => some false
  | .ktup _ => some false
  | .lst _ => some false
  | .dk _ => some false
  | _ => none
def f_is_number : List DV → Option Out
  | [x] => (isInt? x).map fun b => .ret (.bl b)
  | _ => none
def con_is_number (A : Adr) : Con := conF 1 f_is_number
theorem mono_is_number : ConMono (con_is_number A) := mono_conF
theorem dat_is_number : ∀ cs P Y, con_is_number A cs P Y → runD 1 (wd_is_number A fun C fs e => Y C fs (borsAt e (ownIx 0 cs))) cs P := by
  intro cs P Y h
  obtain ⟨xs, r, rfl, hl, hf, hr⟩ := conF_inv h
  obtain ⟨x, rfl⟩ : ∃ x, xs = [x] := one_of hl
  unfold wd_is_number
  cases x <;> cases hf <;> exact hr
theorem ok_is_number (T : Txt K mg A) {TB : List (Addr × Str)} : FnOk P w K mg base (L2.CX P w) 1 A.f_is_number A.fd_is_number ["value"] (SpD K TB 0 (con_is_number A)) :=
  okD (c := _) (wd := wd_is_number A) T.F_is_number sc_is_number (conF_len) (by exact Nat.le_of_ble_eq_true rfl) (fun cdv A1 outer s H E G M hM hr => (psCons (psRet (PEd.cel (pdAnd (pdIsi T.rel (by rfl) T.no_isinstance (pdVar 0) (pdBltn (by rfl) T.no_int (by rfl))) (pdOne (pdNot (pdIsi T.rel (by rfl) T.no_isinstance (pdVar 0) (pdBltn (by rfl) T.no_bool (by rfl)))))))) psNil)) dat_is_number
/-! ### need_prime -/
def wd_need_prime (A : Adr) (G : Addr → List (Str × DV) → List Cell → Prop) : WS := (wSeq (wIf (dOr (dNot (dAsB (dDat (dCall (con_is_number A) G (bCons (dVar 0) bNil))))) (dCmpV (gIn true) (dVar 0) (dC d_PRIMES))) (wSeq (wRaise A.c_BadNumber ["what", "number"] G (aCons (dC (.str "p")) (aCons (dVar 0) aNil))) wNil) wNil) wNil)
def primeOk : DV → Bool
  | .int i => 2 == i || (3 == i || (5 == i || 7 == i))
  | _ => false
def badN (A : Adr) (what : Str) (x : DV) : Out := .err A.c_BadNumber [("number", x), ("what", .str what)]
def f_need_prime (A : Adr) : List DV → Option Out
  | [x] => (isInt? x).map fun _ => if primeOk x then .ret .non else badN A "p" x
  | _ => none
def con_need_prime (A : Adr) : Con := conF 1 (f_need_prime A)
theorem mono_need_prime : ConMono (con_need_prime A) := mono_conF
theorem dat_need_prime : ∀ cs P Y, con_need_prime A cs P Y → runD 1 (wd_need_prime A fun C fs e => Y C fs (borsAt e (ownIx 0 cs))) cs P := by
  intro cs P Y h
  obtain ⟨xs, r, rfl, hl, hf, hr⟩ := conF_inv h
  obtain ⟨x, rfl⟩ : ∃ x, xs = [x] := one_of hl
  unfold wd_need_prime runD
  cases x <;> cases hf <;> refine seq_gen fun k hk => ?_
  case int.refl i =>
    simp (config := { decide := false }) only [runD, wNil, wBreak, wCont, wSet, wDrop, wRet, wRetN, wIf, wFor, gN, gsNil, gsCons, gT, wAsg, wPar, dCel, dDat, dVar, dC, dOp2, dOp2d, gI2, gI0, dCmp, dBl, dAsB, gB2, gEq, dAnd, dOr, dNot, dAndV, dOrV, dNotV, gAdd, gMul, dNeg, iData, dI_lst, dI_klst, dI_tup, dI_ktup, iD_lst, iD_klst, iD_tup, iD_ktup, ln_lst, ln_klst, ln_tup, ln_ktup, iR1, iR2, iZipD, iEnumD, dYes, dLc, dIx, dIxN, ixD, optP, dVw, dPeek, dOp1, gInts, gBls, gList, gTuple, gLen, gInt, aNil, aCons, dTup, dLst, dDk, dDt, dAppend, dPop, wPutL, wPutD, DV.key, dDisp, ppN, ppC, DL.kvsOf, dPopAt, wAugI, dIf, exists_and_left, exists_and_right, exists_eq_left, exists_eq_left', exists_eq', exists_eq, exists_const, exists_false, or_false, false_or, false_and, and_false, and_assoc, Option.some.injEq, Cell.o.injEq, Cell.d.injEq, OC.k.injEq, OC.l.injEq, OC.t.injEq, OC.ins.injEq, DV.int.injEq, DV.bl.injEq, DV.str.injEq,  oNone, oSome, dSl, dSlN, gSl, dRev, dCmpV, dBlV, gIn, dIsN, gIsB, dGetN1, dGetN2, gIsi, dFld, wFld, wRaise, dChain, dCall, bNil, bCons, bBor, DL.cellOf, DL.borIx, DL.putB, DL.allOwn, DL.borsAt, ownIx, parC, okSet, Cell.view, Cell.frz, OC.frz, Cell.own, Cell.bor, List.map_cons, List.map_nil, List.cons_append, List.nil_append, List.length_cons, List.length_nil, List.replicate_succ, List.replicate_zero, List.getElem?_cons_zero, List.getElem?_cons_succ, List.set_cons_zero, List.set_cons_succ, List.getD_cons_zero, List.getD_cons_succ, Option.bind_some, List.nodup_nil, List.nodup_cons, List.not_mem_nil, not_false_eq_true, true_and, and_true, if_true, if_false, ite_true, ite_false, reduceCtorEq, Nat.reduceAdd, Nat.reduceSub, Nat.zero_add, Nat.sub_self, Bool.not_true, Bool.not_false, Bool.false_eq_true, Bool.true_eq, DL.dataOf, conF, Option.map_some, Out.to, con_is_number, f_is_number, isInt?, d_PRIMES, inD, flatD, List.all_cons, List.all_nil, List.any_cons, List.any_nil, eqF, xorB, Bool.and_true, Bool.true_and, Bool.or_false]
    cases hb : (2 == i || (3 == i || (5 == i || 7 == i)))
    · have e : primeOk (.int i) = false := hb
      dsimp only at hr
      rw [e] at hr
      exact And.intro rfl hr
    · have e : primeOk (.int i) = true := hb
      dsimp only at hr
      rw [e] at hr
      subst hk
      exact hr
  all_goals
    simp (config := { decide := false }) only [runD, wNil, wBreak, wCont, wSet, wDrop, wRet, wRetN, wIf, wFor, gN, gsNil, gsCons, gT, wAsg, wPar, dCel, dDat, dVar, dC, dOp2, dOp2d, gI2, gI0, dCmp, dBl, dAsB, gB2, gEq, dAnd, dOr, dNot, dAndV, dOrV, dNotV, gAdd, gMul, dNeg, iData, dI_lst, dI_klst, dI_tup, dI_ktup, iD_lst, iD_klst, iD_tup, iD_ktup, ln_lst, ln_klst, ln_tup, ln_ktup, iR1, iR2, iZipD, iEnumD, dYes, dLc, dIx, dIxN, ixD, optP, dVw, dPeek, dOp1, gInts, gBls, gList, gTuple, gLen, gInt, aNil, aCons, dTup, dLst, dDk, dDt, dAppend, dPop, wPutL, wPutD, DV.key, dDisp, ppN, ppC, DL.kvsOf, dPopAt, wAugI, dIf, exists_and_left, exists_and_right, exists_eq_left, exists_eq_left', exists_eq', exists_eq, exists_const, exists_false, or_false, false_or, false_and, and_false, and_assoc, Option.some.injEq, Cell.o.injEq, Cell.d.injEq, OC.k.injEq, OC.l.injEq, OC.t.injEq, OC.ins.injEq, DV.int.injEq, DV.bl.injEq, DV.str.injEq,  oNone, oSome, dSl, dSlN, gSl, dRev, dCmpV, dBlV, gIn, dIsN, gIsB, dGetN1, dGetN2, gIsi, dFld, wFld, wRaise, dChain, dCall, bNil, bCons, bBor, DL.cellOf, DL.borIx, DL.putB, DL.allOwn, DL.borsAt, ownIx, parC, okSet, Cell.view, Cell.frz, OC.frz, Cell.own, Cell.bor, List.map_cons, List.map_nil, List.cons_append, List.nil_append, List.length_cons, List.length_nil, List.replicate_succ, List.replicate_zero, List.getElem?_cons_zero, List.getElem?_cons_succ, List.set_cons_zero, List.set_cons_succ, List.getD_cons_zero, List.getD_cons_succ, Option.bind_some, List.nodup_nil, List.nodup_cons, List.not_mem_nil, not_false_eq_true, true_and, and_true, if_true, if_false, ite_true, ite_false, reduceCtorEq, Nat.reduceAdd, Nat.reduceSub, Nat.zero_add, Nat.sub_self, Bool.not_true, Bool.not_false, Bool.false_eq_true, Bool.true_eq, DL.dataOf, conF, Option.map_some, Out.to, con_is_number, f_is_number, isInt?, List.zip_cons_cons, List.zip_nil_left, List.reverse_cons, List.reverse_nil]
  all_goals exact And.intro rfl hr
theorem ok_need_prime (T : Txt K mg A) {TB : List (Addr × Str)} : FnOk P w K mg base (L2.CX P w) 3 A.f_need_prime A.fd_need_prime ["p"] (SpD K TB 0 (con_need_prime A)) :=
  okD (c := _) (wd := wd_need_prime A) T.F_need_prime sc_need_prime (conF_len) (by exact Nat.le_of_ble_eq_true rfl) (fun cdv A1 outer s H E G M hM hr => (psCons (psIf (PWd.pt (pwOr (ptNot (ptVal (PEc.dat (pcCall mono_is_number (ok_is_number T) (hr.mono (by decide)) passD (by rfl) T.mg_is_number T.F_is_number.2 (b_is_number T) (pbCons (pdVar 0) pbNil))))) (pwOr1 (ptNotIn (u65 hr) (pdVar 0) (PEd.vw (pdGlob (by rfl) T.mg_PRIMES (by exact rfl) T.h_PRIMES)))))) (psCons (psRaise rfl takesD T.er_BadNumber (by decide) (eok_BadNumber T) (hr.mono (by decide)) (b_BadNumber_init T) (by rfl) T.mg_BadNumber (paCons pdStr (paCons (pdVar 0) paNil))) psNil) psNil) psNil)) dat_need_prime
/-! ### prime_power -/
def wd_prime_power (A : Adr) (G : Addr → List (Str × DV) → List Cell → Prop) : WS := (wSeq (wIf (dOr (dNot (dAsB (dDat (dCall (con_is_number A) G (bCons (dVar 0) bNil))))) (dCmp (gInW A.k_POWERS A.a_POWERS true) (dVar 0) (dC (.ref A.a_POWERS)))) (wSeq (wRaise A.c_BadNumber ["what", "number"] G (aCons (dC (.str "modulus")) (aCons (dVar 0) aNil))) wNil) wNil) (wSeq (wRet (dCel (dOp2d (gIxW A.k_POWERS A.a_POWERS) (dC (.ref A.a_POWERS)) (dVar 0)))) wNil))
def f_prime_power (A : Adr) : List DV → Option Out
  | [.int m] => match A.k_POWERS.lookup m with
    | some p => some (.ret p.2)
    | none => some (badN A "modulus" (.int m))
  | [x] => (isInt? x).map fun _ => badN A "modulus" x
  | _ => none
def con_prime_power (A : Adr) : Con := conF 1 (f_prime_power A)
theorem mono_prime_power : ConMono (con_prime_power A) := mono_conF
theorem dat_prime_power : ∀ cs P Y, con_prime_power A cs P Y → runD 1 (wd_prime_power A fun C fs e => Y C fs (borsAt e (ownIx 0 cs))) cs P := by
  intro cs P Y h
  obtain ⟨xs, r, rfl, hl, hf, hr⟩ := conF_inv h
  obtain ⟨x, rfl⟩ : ∃ x, xs = [x] := one_of hl
  unfold wd_prime_power runD
  cases x
  case int m =>
    refine seq_gen fun k hk => ?_
    simp (config := { decide := false }) only [runD, wNil, wBreak, wCont, wSet, wDrop, wRet, wRetN, wIf, wFor, gN, gsNil, gsCons, gT, wAsg, wPar, dCel, dDat, dVar, dC, dOp2, dOp2d, gI2, gI0, dCmp, dBl, dAsB, gB2, gEq, dAnd, dOr, dNot, dAndV, dOrV, dNotV, gAdd, gMul, dNeg, iData, dI_lst, dI_klst, dI_tup, dI_ktup, iD_lst, iD_klst, iD_tup, iD_ktup, ln_lst, ln_klst, ln_tup, ln_ktup, iR1, iR2, iZipD, iEnumD, dYes, dLc, dIx, dIxN, ixD, optP, dVw, dPeek, dOp1, gInts, gBls, gList, gTuple, gLen, gInt, aNil, aCons, dTup, dLst, dDk, dDt, dAppend, dPop, wPutL, wPutD, DV.key, dDisp, ppN, ppC, DL.kvsOf, dPopAt, wAugI, dIf, exists_and_left, exists_and_right, exists_eq_left, exists_eq_left', exists_eq', exists_eq, exists_const, exists_false, or_false, false_or, false_and, and_false, and_assoc, Option.some.injEq, Cell.o.injEq, Cell.d.injEq, OC.k.injEq, OC.l.injEq, OC.t.injEq, OC.ins.injEq, DV.int.injEq, DV.bl.injEq, DV.str.injEq,  oNone, oSome, dSl, dSlN, gSl, dRev, dCmpV, dBlV, gIn, dIsN, gIsB, dGetN1, dGetN2, gIsi, dFld, wFld, wRaise, dChain, dCall, bNil, bCons, bBor, DL.cellOf, DL.borIx, DL.putB, DL.allOwn, DL.borsAt, ownIx, parC, okSet, Cell.view, Cell.frz, OC.frz, Cell.own, Cell.bor, List.map_cons, List.map_nil, List.cons_append, List.nil_append, List.length_cons, List.length_nil, List.replicate_succ, List.replicate_zero, List.getElem?_cons_zero, List.getElem?_cons_succ, List.set_cons_zero, List.set_cons_succ, List.getD_cons_zero, List.getD_cons_succ, Option.bind_some, List.nodup_nil, List.nodup_cons, List.not_mem_nil, not_false_eq_true, true_and, and_true, if_true, if_false, ite_true, ite_false, reduceCtorEq, Nat.reduceAdd, Nat.reduceSub, Nat.zero_add, Nat.sub_self, Bool.not_true, Bool.not_false, Bool.false_eq_true, Bool.true_eq, DL.dataOf, conF, Option.map_some, Out.to, con_is_number, f_is_number, isInt?, gInW, xorB]
    unfold f_prime_power at hf
    dsimp only at hf
    cases hb : A.k_POWERS.lookup m with
    | none =>
      rw [hb] at hf
      cases hf
      exact And.intro rfl hr
    | some p =>
      rw [hb] at hf
      cases hf
      show k _
      subst hk
      refine And.intro rfl ?_
      rw [hb]
      exact hr
  all_goals
    cases hf
  all_goals
    refine seq_gen fun k hk => ?_
    simp (config := { decide := false }) only [runD, wNil, wBreak, wCont, wSet, wDrop, wRet, wRetN, wIf, wFor, gN, gsNil, gsCons, gT, wAsg, wPar, dCel, dDat, dVar, dC, dOp2, dOp2d, gI2, gI0, dCmp, dBl, dAsB, gB2, gEq, dAnd, dOr, dNot, dAndV, dOrV, dNotV, gAdd, gMul, dNeg, iData, dI_lst, dI_klst, dI_tup, dI_ktup, iD_lst, iD_klst, iD_tup, iD_ktup, ln_lst, ln_klst, ln_tup, ln_ktup, iR1, iR2, iZipD, iEnumD, dYes, dLc, dIx, dIxN, ixD, optP, dVw, dPeek, dOp1, gInts, gBls, gList, gTuple, gLen, gInt, aNil, aCons, dTup, dLst, dDk, dDt, dAppend, dPop, wPutL, wPutD, DV.key, dDisp, ppN, ppC, DL.kvsOf, dPopAt, wAugI, dIf, exists_and_left, exists_and_right, exists_eq_left, exists_eq_left', exists_eq', exists_eq, exists_const, exists_false, or_false, false_or, false_and, and_false, and_assoc, Option.some.injEq, Cell.o.injEq, Cell.d.injEq, OC.k.injEq, OC.l.injEq, OC.t.injEq, OC.ins.injEq, DV.int.injEq, DV.bl.injEq, DV.str.injEq,  oNone, oSome, dSl, dSlN, gSl, dRev, dCmpV, dBlV, gIn, dIsN, gIsB, dGetN1, dGetN2, gIsi, dFld, wFld, wRaise, dChain, dCall, bNil, bCons, bBor, DL.cellOf, DL.borIx, DL.putB, DL.allOwn, DL.borsAt, ownIx, parC, okSet, Cell.view, Cell.frz, OC.frz, Cell.own, Cell.bor, List.map_cons, List.map_nil, List.cons_append, List.nil_append, List.length_cons, List.length_nil, List.replicate_succ, List.replicate_zero, List.getElem?_cons_zero, List.getElem?_cons_succ, List.set_cons_zero, List.set_cons_succ, List.getD_cons_zero, List.getD_cons_succ, Option.bind_some, List.nodup_nil, List.nodup_cons, List.not_mem_nil, not_false_eq_true, true_and, and_true, if_true, if_false, ite_true, ite_false, reduceCtorEq, Nat.reduceAdd, Nat.reduceSub, Nat.zero_add, Nat.sub_self, Bool.not_true, Bool.not_false, Bool.false_eq_true, Bool.true_eq, DL.dataOf, conF, Option.map_some, Out.to, con_is_number, f_is_number, isInt?, List.zip_cons_cons, List.zip_nil_left, List.reverse_cons, List.reverse_nil]
  all_goals exact And.intro rfl hr
theorem ok_prime_power (T : Txt K mg A) {TB : List (Addr × Str)} : FnOk P w K mg base (L2.CX P w) 3 A.f_prime_power A.fd_prime_power ["m"] (SpD K TB 0 (con_prime_power A)) :=
  okD (c := _) (wd := wd_prime_power A) T.F_prime_power sc_prime_power (conF_len) (by exact Nat.le_of_ble_eq_true rfl) (fun cdv A1 outer s H E G M hM hr => (psCons (psIf (PWd.pt (pwOr (ptNot (ptVal (PEc.dat (pcCall mono_is_number (ok_is_number T) (hr.mono (by decide)) passD (by rfl) T.mg_is_number T.F_is_number.2 (b_is_number T) (pbCons (pdVar 0) pbNil))))) (pwOr1 (ptNotInW T.wd_POWERS (pdVar 0) (pdCls (by rfl) T.mg_POWERS))))) (psCons (psRaise rfl takesD T.er_BadNumber (by decide) (eok_BadNumber T) (hr.mono (by decide)) (b_BadNumber_init T) (by rfl) T.mg_BadNumber (paCons pdStr (paCons (pdVar 0) paNil))) psNil) psNil) (psCons (psRet (PEd.cel (pdIxW T.wd_POWERS (pdCls (by rfl) T.mg_POWERS) (pdVar 0) (fun _ _ => rfl)))) psNil))) dat_prime_power
/-! ### digits -/
def bd_digits_1 (A : Adr) (G : Addr → List (Str × DV) → List Cell → Prop) : WS := (wSeq (wDrop (dAppend 2 (dMod (dVar 0) (dVar 1)))) (wSeq (wSet 0 (dCel (dFdiv (dVar 0) (dVar 1)))) wNil))
def wd_digits (A : Adr) (G : Addr → List (Str × DV) → List Cell → Prop) : WS := (wSeq (wIf (dOr (dNot (dAsB (dDat (dCall (con_is_number A) G (bCons (dVar 0) bNil))))) (tLt (dVar 0) (dC (.int 0)))) (wSeq (wRaise A.c_BadNumber ["what", "number"] G (aCons (dC (.str "n")) (aCons (dVar 0) aNil))) wNil) wNil) (wSeq (wDrop (dCall (con_need_prime A) G (bCons (dVar 1) bNil))) (wSeq (wSet 2 (dLst aNil)) (wSeq (wWhile (tGt (dVar 0) (dC (.int 0))) (bd_digits_1 A G)) (wSeq (wRet (dOp1 gTuple (dPeek 2))) wNil)))))
def digsF (p : Int) : Nat → Int → List Int
  | 0, _ => []
  | k + 1, n => if 0 < n then n % p :: digsF p k (n / p) else []
def digs (p n : Int) : List Int := digsF p n.toNat n
theorem digsF_eq {p : Int} (hp : 2 ≤ p) : ∀ (k j : Nat) (n : Int), n.toNat ≤ k → n.toNat ≤ j → digsF p k n = digsF p j n
  | 0, 0, n, _, _ => rfl
  | 0, j + 1, n, h, _ => by
    unfold digsF
    rw [if_neg (by omega)]
  | k + 1, 0, n, _, h => by
    unfold digsF
    rw [if_neg (by omega)]
  | k + 1, j + 1, n, h, h' => by
    unfold digsF
    split
    case isTrue hn =>
      have hd : n / p < n := Int.ediv_lt_self_of_pos_of_ne_one hn (by omega)
      have h0 : 0 ≤ n / p := Int.ediv_nonneg (by omega) (by omega)
      rw [digsF_eq hp k j (n / p) (by omega) (by omega)]
    case isFalse => rfl
theorem digs_pos {p n : Int} (hp : 2 ≤ p) (hn : 0 < n) : digs p n = n % p :: digs p (n / p) := by
  have hd : n / p < n := Int.ediv_lt_self_of_pos_of_ne_one hn (by omega)
  have h0 : 0 ≤ n / p := Int.ediv_nonneg (by omega) (by omega)
  unfold digs
  cases e : n.toNat with
  | zero => omega
  | succ k =>
    rw [show digsF p (k + 1) n = if 0 < n then n % p :: digsF p k (n / p) else [] from rfl, if_pos hn, digsF_eq hp k (n / p).toNat (n / p) (by omega) (Nat.le_refl _)]
theorem digs_zero {p n : Int} (hn : ¬ 0 < n) : digs p n = [] := by
  unfold digs
  cases n.toNat with
  | zero => rfl
  | succ k => exact if_neg hn
theorem prime_two {q : Int} (h : primeOk (.int q) = true) : 2 ≤ q ∧ q ≤ 7 := by
  unfold primeOk at h
  simp only [Bool.or_eq_true, beq_iff_eq] at h
  omega
theorem prime_int {x : DV} (h : primeOk x = true) : ∃ q, x = .int q := by
  cases x <;> first | exact ⟨_, rfl⟩ | cases h
theorem call_np {A : Adr} {p : DV} {b : Bool} {P : Cell → List OC → Prop} {Y : Addr → List (Str × DV) → List OC → Prop} (hb : isInt? p = some b) (h1 : primeOk p = true → P (.d .non) []) (h2 : primeOk p = false → Y A.c_BadNumber [("number", p), ("what", .str "p")] []) : con_need_prime A [.d p] P Y := by
  show [p].length = 1 ∧ optP ((isInt? p).map fun _ => if primeOk p then Out.ret .non else badN A "p" p) _
  refine ⟨rfl, ?_⟩
  rw [hb]
  cases e : primeOk p with
  | true => exact h1 e
  | false => exact h2 e
theorem isInt_int (i : Int) : isInt? (.int i) = some true := rfl
def natOk : DV → Bool
  | .int i => decide (0 ≤ i)
  | _ => false
def f_digits (A : Adr) : List DV → Option Out
  | [n, p] => (isInt? n).bind fun _ => match n with
    | .int i => if 0 ≤ i then (isInt? p).bind fun _ => match p with
        | .int q => if primeOk (.int q) then (if (digs q i).length < LINE then some (.ret (.tup ((digs q i).map DV.int))) else none) else some (badN A "p" p)
        | _ => some (badN A "p" p)
      else some (badN A "n" n)
    | _ => some (badN A "n" n)
  | _ => none
def con_digits (A : Adr) : Con := conF 2 (f_digits A)
theorem mono_digits : ConMono (con_digits A) := mono_conF
theorem dat_digits : ∀ cs P Y, con_digits A cs P Y → runD 3 (wd_digits A fun C fs e => Y C fs (borsAt e (ownIx 0 cs))) cs P := by
  intro cs P Y h
  obtain ⟨xs, r, rfl, hl, hf, hr⟩ := conF_inv h
  obtain ⟨x, y, rfl⟩ : ∃ x y, xs = [x, y] := two_of hl
  unfold wd_digits runD
  refine seq_gen fun k hk => ?_
  cases x
  case int i =>
    simp (config := { decide := false }) only [runD, wNil, wBreak, wCont, wSet, wDrop, wRet, wRetN, wIf, wFor, gN, gsNil, gsCons, gT, wAsg, wPar, dCel, dDat, dVar, dC, dOp2, dOp2d, gI2, gI0, dCmp, dBl, dAsB, gB2, gEq, dAnd, dOr, dNot, dAndV, dOrV, dNotV, gAdd, gMul, dNeg, iData, dI_lst, dI_klst, dI_tup, dI_ktup, iD_lst, iD_klst, iD_tup, iD_ktup, ln_lst, ln_klst, ln_tup, ln_ktup, iR1, iR2, iZipD, iEnumD, dYes, dLc, dIx, dIxN, ixD, optP, dVw, dPeek, dOp1, gInts, gBls, gList, gTuple, gLen, gInt, aNil, aCons, dTup, dLst, dDk, dDt, dAppend, dPop, wPutL, wPutD, DV.key, dDisp, ppN, ppC, DL.kvsOf, dPopAt, wAugI, dIf, exists_and_left, exists_and_right, exists_eq_left, exists_eq_left', exists_eq', exists_eq, exists_const, exists_false, or_false, false_or, false_and, and_false, and_assoc, Option.some.injEq, Cell.o.injEq, Cell.d.injEq, OC.k.injEq, OC.l.injEq, OC.t.injEq, OC.ins.injEq, DV.int.injEq, DV.bl.injEq, DV.str.injEq,  oNone, oSome, dSl, dSlN, gSl, dRev, dCmpV, dBlV, gIn, dIsN, gIsB, dGetN1, dGetN2, gIsi, dFld, wFld, wRaise, dChain, dCall, bNil, bCons, bBor, DL.cellOf, DL.borIx, DL.putB, DL.allOwn, DL.borsAt, ownIx, parC, okSet, Cell.view, Cell.frz, OC.frz, Cell.own, Cell.bor, List.map_cons, List.map_nil, List.cons_append, List.nil_append, List.length_cons, List.length_nil, List.replicate_succ, List.replicate_zero, List.getElem?_cons_zero, List.getElem?_cons_succ, List.set_cons_zero, List.set_cons_succ, List.getD_cons_zero, List.getD_cons_succ, Option.bind_some, List.nodup_nil, List.nodup_cons, List.not_mem_nil, not_false_eq_true, true_and, and_true, if_true, if_false, ite_true, ite_false, reduceCtorEq, Nat.reduceAdd, Nat.reduceSub, Nat.zero_add, Nat.sub_self, Bool.not_true, Bool.not_false, Bool.false_eq_true, Bool.true_eq, DL.dataOf, conF, Option.map_some, Out.to, con_is_number, f_is_number, isInt?]
    dsimp only [f_digits] at hf
    rw [isInt_int, Option.bind_some] at hf
    refine ite_dec (fun hi => ?_) (fun hi => ?_)
    · rw [if_neg (by omega)] at hf
      cases hf
      exact And.intro rfl hr
    · rw [if_pos (by omega)] at hf
      cases ey : isInt? y with
      | none =>
        rw [ey] at hf
        cases hf
      | some b =>
      rw [ey, Option.bind_some] at hf
      subst hk
      refine seq_gen fun k hk => ?_
      simp (config := { decide := false }) only [runD, wNil, wBreak, wCont, wSet, wDrop, wRet, wRetN, wIf, wFor, gN, gsNil, gsCons, gT, wAsg, wPar, dCel, dDat, dVar, dC, dOp2, dOp2d, gI2, gI0, dCmp, dBl, dAsB, gB2, gEq, dAnd, dOr, dNot, dAndV, dOrV, dNotV, gAdd, gMul, dNeg, iData, dI_lst, dI_klst, dI_tup, dI_ktup, iD_lst, iD_klst, iD_tup, iD_ktup, ln_lst, ln_klst, ln_tup, ln_ktup, iR1, iR2, iZipD, iEnumD, dYes, dLc, dIx, dIxN, ixD, optP, dVw, dPeek, dOp1, gInts, gBls, gList, gTuple, gLen, gInt, aNil, aCons, dTup, dLst, dDk, dDt, dAppend, dPop, wPutL, wPutD, DV.key, dDisp, ppN, ppC, DL.kvsOf, dPopAt, wAugI, dIf, exists_and_left, exists_and_right, exists_eq_left, exists_eq_left', exists_eq', exists_eq, exists_const, exists_false, or_false, false_or, false_and, and_false, and_assoc, Option.some.injEq, Cell.o.injEq, Cell.d.injEq, OC.k.injEq, OC.l.injEq, OC.t.injEq, OC.ins.injEq, DV.int.injEq, DV.bl.injEq, DV.str.injEq,  oNone, oSome, dSl, dSlN, gSl, dRev, dCmpV, dBlV, gIn, dIsN, gIsB, dGetN1, dGetN2, gIsi, dFld, wFld, wRaise, dChain, dCall, bNil, bCons, bBor, DL.cellOf, DL.borIx, DL.putB, DL.allOwn, DL.borsAt, ownIx, parC, okSet, Cell.view, Cell.frz, OC.frz, Cell.own, Cell.bor, List.map_cons, List.map_nil, List.cons_append, List.nil_append, List.length_cons, List.length_nil, List.replicate_succ, List.replicate_zero, List.getElem?_cons_zero, List.getElem?_cons_succ, List.set_cons_zero, List.set_cons_succ, List.getD_cons_zero, List.getD_cons_succ, Option.bind_some, List.nodup_nil, List.nodup_cons, List.not_mem_nil, not_false_eq_true, true_and, and_true, if_true, if_false, ite_true, ite_false, reduceCtorEq, Nat.reduceAdd, Nat.reduceSub, Nat.zero_add, Nat.sub_self, Bool.not_true, Bool.not_false, Bool.false_eq_true, Bool.true_eq, DL.dataOf, conF, Option.map_some, Out.to]
      refine call_np ey (fun hy => ?_) (fun hy => ?_)
      · obtain ⟨q, rfl⟩ := prime_int hy
        dsimp only at hf
        rw [if_pos hy] at hf
        split at hf
        case isFalse => cases hf
        case isTrue hlen =>
        cases hf
        have hq := prime_two hy
        subst hk
        refine seq_gen fun k hk => ?_
        simp (config := { decide := false }) only [runD, wNil, wBreak, wCont, wSet, wDrop, wRet, wRetN, wIf, wFor, gN, gsNil, gsCons, gT, wAsg, wPar, dCel, dDat, dVar, dC, dOp2, dOp2d, gI2, gI0, dCmp, dBl, dAsB, gB2, gEq, dAnd, dOr, dNot, dAndV, dOrV, dNotV, gAdd, gMul, dNeg, iData, dI_lst, dI_klst, dI_tup, dI_ktup, iD_lst, iD_klst, iD_tup, iD_ktup, ln_lst, ln_klst, ln_tup, ln_ktup, iR1, iR2, iZipD, iEnumD, dYes, dLc, dIx, dIxN, ixD, optP, dVw, dPeek, dOp1, gInts, gBls, gList, gTuple, gLen, gInt, aNil, aCons, dTup, dLst, dDk, dDt, dAppend, dPop, wPutL, wPutD, DV.key, dDisp, ppN, ppC, DL.kvsOf, dPopAt, wAugI, dIf, exists_and_left, exists_and_right, exists_eq_left, exists_eq_left', exists_eq', exists_eq, exists_const, exists_false, or_false, false_or, false_and, and_false, and_assoc, Option.some.injEq, Cell.o.injEq, Cell.d.injEq, OC.k.injEq, OC.l.injEq, OC.t.injEq, OC.ins.injEq, DV.int.injEq, DV.bl.injEq, DV.str.injEq,  oNone, oSome, dSl, dSlN, gSl, dRev, dCmpV, dBlV, gIn, dIsN, gIsB, dGetN1, dGetN2, gIsi, dFld, wFld, wRaise, dChain, dCall, bNil, bCons, bBor, DL.cellOf, DL.borIx, DL.putB, DL.allOwn, DL.borsAt, ownIx, parC, okSet, Cell.view, Cell.frz, OC.frz, Cell.own, Cell.bor, List.map_cons, List.map_nil, List.cons_append, List.nil_append, List.length_cons, List.length_nil, List.replicate_succ, List.replicate_zero, List.getElem?_cons_zero, List.getElem?_cons_succ, List.set_cons_zero, List.set_cons_succ, List.getD_cons_zero, List.getD_cons_succ, Option.bind_some, List.nodup_nil, List.nodup_cons, List.not_mem_nil, not_false_eq_true, true_and, and_true, if_true, if_false, ite_true, ite_false, reduceCtorEq, Nat.reduceAdd, Nat.reduceSub, Nat.zero_add, Nat.sub_self, Bool.not_true, Bool.not_false, Bool.false_eq_true, Bool.true_eq, DL.dataOf, conF, Option.map_some, Out.to]
        refine ⟨by decide, ?_⟩
        subst hk
        refine seq_gen fun k hk => ?_
        refine ⟨fun m env => ∃ (n : Int) (zs : List Int), env = [.d (.int n), .d (.int q), .o false (.l (zs.map DV.int))] ∧ m = n.toNat ∧ 0 ≤ n ∧ zs ++ digs q n = digs q i, ⟨_, i, [], rfl, rfl, by omega, rfl⟩, ?_⟩
        rintro m env ⟨n, zs, rfl, rfl, hn, hz⟩
        simp (config := { decide := false }) only [runD, wNil, wBreak, wCont, wSet, wDrop, wRet, wRetN, wIf, wFor, gN, gsNil, gsCons, gT, wAsg, wPar, dCel, dDat, dVar, dC, dOp2, dOp2d, gI2, gI0, dCmp, dBl, dAsB, gB2, gEq, dAnd, dOr, dNot, dAndV, dOrV, dNotV, gAdd, gMul, dNeg, iData, dI_lst, dI_klst, dI_tup, dI_ktup, iD_lst, iD_klst, iD_tup, iD_ktup, ln_lst, ln_klst, ln_tup, ln_ktup, iR1, iR2, iZipD, iEnumD, dYes, dLc, dIx, dIxN, ixD, optP, dVw, dPeek, dOp1, gInts, gBls, gList, gTuple, gLen, gInt, aNil, aCons, dTup, dLst, dDk, dDt, dAppend, dPop, wPutL, wPutD, DV.key, dDisp, ppN, ppC, DL.kvsOf, dPopAt, wAugI, dIf, exists_and_left, exists_and_right, exists_eq_left, exists_eq_left', exists_eq', exists_eq, exists_const, exists_false, or_false, false_or, false_and, and_false, and_assoc, Option.some.injEq, Cell.o.injEq, Cell.d.injEq, OC.k.injEq, OC.l.injEq, OC.t.injEq, OC.ins.injEq, DV.int.injEq, DV.bl.injEq, DV.str.injEq,  oNone, oSome, dSl, dSlN, gSl, dRev, dCmpV, dBlV, gIn, dIsN, gIsB, dGetN1, dGetN2, gIsi, dFld, wFld, wRaise, dChain, dCall, bNil, bCons, bBor, DL.cellOf, DL.borIx, DL.putB, DL.allOwn, DL.borsAt, ownIx, parC, okSet, Cell.view, Cell.frz, OC.frz, Cell.own, Cell.bor, List.map_cons, List.map_nil, List.cons_append, List.nil_append, List.length_cons, List.length_nil, List.replicate_succ, List.replicate_zero, List.getElem?_cons_zero, List.getElem?_cons_succ, List.set_cons_zero, List.set_cons_succ, List.getD_cons_zero, List.getD_cons_succ, Option.bind_some, List.nodup_nil, List.nodup_cons, List.not_mem_nil, not_false_eq_true, true_and, and_true, if_true, if_false, ite_true, ite_false, reduceCtorEq, Nat.reduceAdd, Nat.reduceSub, Nat.zero_add, Nat.sub_self, Bool.not_true, Bool.not_false, Bool.false_eq_true, Bool.true_eq, DL.dataOf, conF, Option.map_some, Out.to]
        refine ite_dec (fun h0 => ?_) (fun h0 => ?_)
        · unfold bd_digits_1
          refine seq_gen fun k2 hk2 => ?_
          simp (config := { decide := false }) only [runD, wNil, wBreak, wCont, wSet, wDrop, wRet, wRetN, wIf, wFor, gN, gsNil, gsCons, gT, wAsg, wPar, dCel, dDat, dVar, dC, dOp2, dOp2d, gI2, gI0, dCmp, dBl, dAsB, gB2, gEq, dAnd, dOr, dNot, dAndV, dOrV, dNotV, gAdd, gMul, dNeg, iData, dI_lst, dI_klst, dI_tup, dI_ktup, iD_lst, iD_klst, iD_tup, iD_ktup, ln_lst, ln_klst, ln_tup, ln_ktup, iR1, iR2, iZipD, iEnumD, dYes, dLc, dIx, dIxN, ixD, optP, dVw, dPeek, dOp1, gInts, gBls, gList, gTuple, gLen, gInt, aNil, aCons, dTup, dLst, dDk, dDt, dAppend, dPop, wPutL, wPutD, DV.key, dDisp, ppN, ppC, DL.kvsOf, dPopAt, wAugI, dIf, exists_and_left, exists_and_right, exists_eq_left, exists_eq_left', exists_eq', exists_eq, exists_const, exists_false, or_false, false_or, false_and, and_false, and_assoc, Option.some.injEq, Cell.o.injEq, Cell.d.injEq, OC.k.injEq, OC.l.injEq, OC.t.injEq, OC.ins.injEq, DV.int.injEq, DV.bl.injEq, DV.str.injEq,  oNone, oSome, dSl, dSlN, gSl, dRev, dCmpV, dBlV, gIn, dIsN, gIsB, dGetN1, dGetN2, gIsi, dFld, wFld, wRaise, dChain, dCall, bNil, bCons, bBor, DL.cellOf, DL.borIx, DL.putB, DL.allOwn, DL.borsAt, ownIx, parC, okSet, Cell.view, Cell.frz, OC.frz, Cell.own, Cell.bor, List.map_cons, List.map_nil, List.cons_append, List.nil_append, List.length_cons, List.length_nil, List.replicate_succ, List.replicate_zero, List.getElem?_cons_zero, List.getElem?_cons_succ, List.set_cons_zero, List.set_cons_succ, List.getD_cons_zero, List.getD_cons_succ, Option.bind_some, List.nodup_nil, List.nodup_cons, List.not_mem_nil, not_false_eq_true, true_and, and_true, if_true, if_false, ite_true, ite_false, reduceCtorEq, Nat.reduceAdd, Nat.reduceSub, Nat.zero_add, Nat.sub_self, Bool.not_true, Bool.not_false, Bool.false_eq_true, Bool.true_eq, DL.dataOf, conF, Option.map_some, Out.to]
          have hlz : zs.length < LINE := by
            have e := congrArg List.length hz
            rw [List.length_append] at e
            omega
          refine ⟨by omega, by rw [List.length_map]; exact hlz, ?_⟩
          subst hk2
          refine seq_gen fun k2 hk2 => ?_
          simp (config := { decide := false }) only [runD, wNil, wBreak, wCont, wSet, wDrop, wRet, wRetN, wIf, wFor, gN, gsNil, gsCons, gT, wAsg, wPar, dCel, dDat, dVar, dC, dOp2, dOp2d, gI2, gI0, dCmp, dBl, dAsB, gB2, gEq, dAnd, dOr, dNot, dAndV, dOrV, dNotV, gAdd, gMul, dNeg, iData, dI_lst, dI_klst, dI_tup, dI_ktup, iD_lst, iD_klst, iD_tup, iD_ktup, ln_lst, ln_klst, ln_tup, ln_ktup, iR1, iR2, iZipD, iEnumD, dYes, dLc, dIx, dIxN, ixD, optP, dVw, dPeek, dOp1, gInts, gBls, gList, gTuple, gLen, gInt, aNil, aCons, dTup, dLst, dDk, dDt, dAppend, dPop, wPutL, wPutD, DV.key, dDisp, ppN, ppC, DL.kvsOf, dPopAt, wAugI, dIf, exists_and_left, exists_and_right, exists_eq_left, exists_eq_left', exists_eq', exists_eq, exists_const, exists_false, or_false, false_or, false_and, and_false, and_assoc, Option.some.injEq, Cell.o.injEq, Cell.d.injEq, OC.k.injEq, OC.l.injEq, OC.t.injEq, OC.ins.injEq, DV.int.injEq, DV.bl.injEq, DV.str.injEq,  oNone, oSome, dSl, dSlN, gSl, dRev, dCmpV, dBlV, gIn, dIsN, gIsB, dGetN1, dGetN2, gIsi, dFld, wFld, wRaise, dChain, dCall, bNil, bCons, bBor, DL.cellOf, DL.borIx, DL.putB, DL.allOwn, DL.borsAt, ownIx, parC, okSet, Cell.view, Cell.frz, OC.frz, Cell.own, Cell.bor, List.map_cons, List.map_nil, List.cons_append, List.nil_append, List.length_cons, List.length_nil, List.replicate_succ, List.replicate_zero, List.getElem?_cons_zero, List.getElem?_cons_succ, List.set_cons_zero, List.set_cons_succ, List.getD_cons_zero, List.getD_cons_succ, Option.bind_some, List.nodup_nil, List.nodup_cons, List.not_mem_nil, not_false_eq_true, true_and, and_true, if_true, if_false, ite_true, ite_false, reduceCtorEq, Nat.reduceAdd, Nat.reduceSub, Nat.zero_add, Nat.sub_self, Bool.not_true, Bool.not_false, Bool.false_eq_true, Bool.true_eq, DL.dataOf, conF, Option.map_some, Out.to]
          refine ⟨⟨by omega, by have := hq.2; exact log_small (by omega)⟩, ?_⟩
          subst hk2
          have hd : n / q < n := Int.ediv_lt_self_of_pos_of_ne_one h0 (by omega)
          have hd0 : 0 ≤ n / q := Int.ediv_nonneg hn (by omega)
          refine ⟨_, ?_, n / q, zs ++ [n % q], ?_, rfl, hd0, ?_⟩
          · omega
          · rw [List.map_append]
            rfl
          · rw [List.append_assoc, ← hz, digs_pos hq.1 h0]
            rfl
        · rw [digs_zero h0, List.append_nil] at hz
          subst hk
          refine seq_gen fun k hk => ?_
          simp (config := { decide := false }) only [runD, wNil, wBreak, wCont, wSet, wDrop, wRet, wRetN, wIf, wFor, gN, gsNil, gsCons, gT, wAsg, wPar, dCel, dDat, dVar, dC, dOp2, dOp2d, gI2, gI0, dCmp, dBl, dAsB, gB2, gEq, dAnd, dOr, dNot, dAndV, dOrV, dNotV, gAdd, gMul, dNeg, iData, dI_lst, dI_klst, dI_tup, dI_ktup, iD_lst, iD_klst, iD_tup, iD_ktup, ln_lst, ln_klst, ln_tup, ln_ktup, iR1, iR2, iZipD, iEnumD, dYes, dLc, dIx, dIxN, ixD, optP, dVw, dPeek, dOp1, gInts, gBls, gList, gTuple, gLen, gInt, aNil, aCons, dTup, dLst, dDk, dDt, dAppend, dPop, wPutL, wPutD, DV.key, dDisp, ppN, ppC, DL.kvsOf, dPopAt, wAugI, dIf, exists_and_left, exists_and_right, exists_eq_left, exists_eq_left', exists_eq', exists_eq, exists_const, exists_false, or_false, false_or, false_and, and_false, and_assoc, Option.some.injEq, Cell.o.injEq, Cell.d.injEq, OC.k.injEq, OC.l.injEq, OC.t.injEq, OC.ins.injEq, DV.int.injEq, DV.bl.injEq, DV.str.injEq,  oNone, oSome, dSl, dSlN, gSl, dRev, dCmpV, dBlV, gIn, dIsN, gIsB, dGetN1, dGetN2, gIsi, dFld, wFld, wRaise, dChain, dCall, bNil, bCons, bBor, DL.cellOf, DL.borIx, DL.putB, DL.allOwn, DL.borsAt, ownIx, parC, okSet, Cell.view, Cell.frz, OC.frz, Cell.own, Cell.bor, List.map_cons, List.map_nil, List.cons_append, List.nil_append, List.length_cons, List.length_nil, List.replicate_succ, List.replicate_zero, List.getElem?_cons_zero, List.getElem?_cons_succ, List.set_cons_zero, List.set_cons_succ, List.getD_cons_zero, List.getD_cons_succ, Option.bind_some, List.nodup_nil, List.nodup_cons, List.not_mem_nil, not_false_eq_true, true_and, and_true, if_true, if_false, ite_true, ite_false, reduceCtorEq, Nat.reduceAdd, Nat.reduceSub, Nat.zero_add, Nat.sub_self, Bool.not_true, Bool.not_false, Bool.false_eq_true, Bool.true_eq, DL.dataOf, conF, Option.map_some, Out.to]
          subst hz
          exact hr
      · have hf2 : some (badN A "p" y) = some r := by
          cases y <;> first | exact hf | (dsimp only at hf; rw [if_neg (by rw [hy]; decide)] at hf; exact hf)
        cases hf2
        exact hr
  all_goals
    cases hf
  all_goals
    simp (config := { decide := false }) only [runD, wNil, wBreak, wCont, wSet, wDrop, wRet, wRetN, wIf, wFor, gN, gsNil, gsCons, gT, wAsg, wPar, dCel, dDat, dVar, dC, dOp2, dOp2d, gI2, gI0, dCmp, dBl, dAsB, gB2, gEq, dAnd, dOr, dNot, dAndV, dOrV, dNotV, gAdd, gMul, dNeg, iData, dI_lst, dI_klst, dI_tup, dI_ktup, iD_lst, iD_klst, iD_tup, iD_ktup, ln_lst, ln_klst, ln_tup, ln_ktup, iR1, iR2, iZipD, iEnumD, dYes, dLc, dIx, dIxN, ixD, optP, dVw, dPeek, dOp1, gInts, gBls, gList, gTuple, gLen, gInt, aNil, aCons, dTup, dLst, dDk, dDt, dAppend, dPop, wPutL, wPutD, DV.key, dDisp, ppN, ppC, DL.kvsOf, dPopAt, wAugI, dIf, exists_and_left, exists_and_right, exists_eq_left, exists_eq_left', exists_eq', exists_eq, exists_const, exists_false, or_false, false_or, false_and, and_false, and_assoc, Option.some.injEq, Cell.o.injEq, Cell.d.injEq, OC.k.injEq, OC.l.injEq, OC.t.injEq, OC.ins.injEq, DV.int.injEq, DV.bl.injEq, DV.str.injEq,  oNone, oSome, dSl, dSlN, gSl, dRev, dCmpV, dBlV, gIn, dIsN, gIsB, dGetN1, dGetN2, gIsi, dFld, wFld, wRaise, dChain, dCall, bNil, bCons, bBor, DL.cellOf, DL.borIx, DL.putB, DL.allOwn, DL.borsAt, ownIx, parC, okSet, Cell.view, Cell.frz, OC.frz, Cell.own, Cell.bor, List.map_cons, List.map_nil, List.cons_append, List.nil_append, List.length_cons, List.length_nil, List.replicate_succ, List.replicate_zero, List.getElem?_cons_zero, List.getElem?_cons_succ, List.set_cons_zero, List.set_cons_succ, List.getD_cons_zero, List.getD_cons_succ, Option.bind_some, List.nodup_nil, List.nodup_cons, List.not_mem_nil, not_false_eq_true, true_and, and_true, if_true, if_false, ite_true, ite_false, reduceCtorEq, Nat.reduceAdd, Nat.reduceSub, Nat.zero_add, Nat.sub_self, Bool.not_true, Bool.not_false, Bool.false_eq_true, Bool.true_eq, DL.dataOf, conF, Option.map_some, Out.to, con_is_number, f_is_number, isInt?]
  all_goals exact And.intro rfl hr
theorem ok_digits (T : Txt K mg A) {TB : List (Addr × Str)} : FnOk P w K mg base (L2.CX P w) 4 A.f_digits A.fd_digits ["n", "p"] (SpD K TB 0 (con_digits A)) :=
  okD (c := _) (wd := wd_digits A) T.F_digits sc_digits (conF_len) (by exact Nat.le_of_ble_eq_true rfl) (fun cdv A1 outer s H E G M hM hr => (psCons (psIf (PWd.pt (pwOr (ptNot (ptVal (PEc.dat (pcCall mono_is_number (ok_is_number T) (hr.mono (by decide)) passD (by rfl) T.mg_is_number T.F_is_number.2 (b_is_number T) (pbCons (pdVar 0) pbNil))))) (pwOr1 (ptLt (pdVar 0) pdInt)))) (psCons (psRaise rfl takesD T.er_BadNumber (by decide) (eok_BadNumber T) (hr.mono (by decide)) (b_BadNumber_init T) (by rfl) T.mg_BadNumber (paCons pdStr (paCons (pdVar 0) paNil))) psNil) psNil) (psCons (psExpr (pcCall mono_need_prime (ok_need_prime T) (hr.mono (by decide)) passD (by rfl) T.mg_need_prime T.F_need_prime.2 (b_need_prime T) (pbCons (pdVar 1) pbNil))) (psCons (psSet (i := 2) sc_digits.nd rfl (by first | exact Or.inl rfl | exact Or.inr rfl) (pcLst paNil)) (psCons (psWhile ownD (ptGt (pdVar 0) pdInt) (psCons (psExpr (pcAppend 2 (pdMod (pdVar 0) (pdVar 1)))) (psCons (psSet (i := 0) sc_digits.nd rfl (by first | exact Or.inl rfl | exact Or.inr rfl) (PEd.cel (pdFdiv (pdVar 0) (pdVar 1)))) psNil))) (psCons (psRet (pcTuple (by rfl) T.no_tuple (pvName 2))) psNil)))))) dat_digits
/-! ### number_of -/
def bd_number_of_1 (A : Adr) (G : Addr → List (Str × DV) → List Cell → Prop) : WS := (wSeq (wSet 3 (dOp2 gAdd (dDat (dOp2 gMul (dVar 3) (dVar 1))) (dVar 2))) wNil)
def wd_number_of (A : Adr) (G : Addr → List (Str × DV) → List Cell → Prop) : WS := (wSeq (wDrop (dCall (con_need_prime A) G (bCons (dVar 1) bNil))) (wSeq (wIf (dOr (dNot (dAsB (dOp2d (gIsi A.rel) (dVar 0) (dTup (aCons (dC (.ty "tuple")) (aCons (dC (.ty "list")) aNil)))))) (dNot (dAsB (dDat (dOp1 (gBls fun bs => bs.all id) (dVw (dLc [2] (iData (dVar 0)) (gN 2) dYes (dAndV (dDat (dCall (con_is_number A) (fun _ _ _ => False) (bCons (dVar 2) bNil))) (dBl (dChain (gB2 fun i j => decide (i ≤ j)) (gB2 fun i j => decide (i < j)) (dC (.int 0)) (dVar 2) (dVar 1))))))))))) (wSeq (wRaise A.c_BadRow ["row"] G (aCons (dVar 0) aNil)) wNil) wNil) (wSeq (wSet 3 (dCel (dC (.int 0)))) (wSeq (wFor (iData (dDat (dRev (dVw (dOp1 gList (dPeek 0)))))) (gN 2) (bd_number_of_1 A G)) (wSeq (wRet (dCel (dVar 3))) wNil)))))
def inR (q : Int) : DV → Bool
  | .int i => decide (0 ≤ i) && decide (i < q)
  | _ => false
def numb (q : Int) : List DV → Int
  | [] => 0
  | .int i :: ds => numb q ds * q + i
  | _ :: ds => numb q ds * q
def badR (A : Adr) (x : DV) : Out := .err A.c_BadRow [("row", x)]
def f_number_of (A : Adr) : List DV → Option Out
  | [row, p] => (isInt? p).bind fun _ => match p with
    | .int q => if primeOk (.int q) then (match dSeq row with
        | some ds => if ds.all (fun d => (isInt? d).isSome) then (if ds.all (inR q) then some (.ret (.int (numb q ds))) else some (badR A row)) else none
        | none => if seqB row = some false then some (badR A row) else none) else some (badN A "p" p)
    | _ => some (badN A "p" p)
  | _ => none
theorem call_in {A : Adr} {d : DV} {b : Bool} {P : Cell → List OC → Prop} {Y : Addr → List (Str × DV) → List OC → Prop} (hb : isInt? d = some b) (h : P (.d (.bl b)) []) : con_is_number A [.d d] P Y := by
  show [d].length = 1 ∧ optP ((isInt? d).map fun b => Out.ret (.bl b)) _
  rw [hb]
  exact ⟨rfl, h⟩
theorem isInt_true {d : DV} (h : isInt? d = some true) : ∃ i, d = .int i := by
  cases d <;> first | exact ⟨_, rfl⟩ | cases h
theorem go_in {A : Adr} {G : Addr → List (Str × DV) → List Cell → Prop} {row : Cell} {q : Int} {Q : List DV → List Cell → Prop} : ∀ (ds acc : List DV) (x : Cell), ds.all (fun d => (isInt? d).isSome) = true → x.own = false →
    (∀ x : Cell, x.own = false → Q (acc ++ ds.map fun d => .bl (inR q d)) [row, .d (.int q), x, .un]) →
    goLc [2] (gN 2) dYes (dAndV (dDat (dCall (con_is_number A) G (bCons (dVar 2) bNil))) (dBl (dChain (gB2 fun i j => decide (i ≤ j)) (gB2 fun i j => decide (i < j)) (dC (.int 0)) (dVar 2) (dVar 1)))) Q ds acc [row, .d (.int q), x, .un]
  | [], acc, x, _, hx, h => by
    have h2 := h x hx
    rw [List.map_nil, List.append_nil] at h2
    exact h2
  | d :: ds, acc, x, ha, hx, h => by
    rw [List.all_cons, Bool.and_eq_true] at ha
    obtain ⟨b, hb⟩ := Option.isSome_iff_exists.mp ha.1
    unfold goLc
    simp (config := { decide := false }) only [runD, wNil, wBreak, wCont, wSet, wDrop, wRet, wRetN, wIf, wFor, gN, gsNil, gsCons, gT, wAsg, wPar, dCel, dDat, dVar, dC, dOp2, dOp2d, gI2, gI0, dCmp, dBl, dAsB, gB2, gEq, dAnd, dOr, dNot, dAndV, dOrV, dNotV, gAdd, gMul, dNeg, iData, dI_lst, dI_klst, dI_tup, dI_ktup, iD_lst, iD_klst, iD_tup, iD_ktup, ln_lst, ln_klst, ln_tup, ln_ktup, iR1, iR2, iZipD, iEnumD, dYes, dLc, dIx, dIxN, ixD, optP, dVw, dPeek, dOp1, gInts, gBls, gList, gTuple, gLen, gInt, aNil, aCons, dTup, dLst, dDk, dDt, dAppend, dPop, wPutL, wPutD, DV.key, dDisp, ppN, ppC, DL.kvsOf, dPopAt, wAugI, dIf, exists_and_left, exists_and_right, exists_eq_left, exists_eq_left', exists_eq', exists_eq, exists_const, exists_false, or_false, false_or, false_and, and_false, and_assoc, Option.some.injEq, Cell.o.injEq, Cell.d.injEq, OC.k.injEq, OC.l.injEq, OC.t.injEq, OC.ins.injEq, DV.int.injEq, DV.bl.injEq, DV.str.injEq,  oNone, oSome, dSl, dSlN, gSl, dRev, dCmpV, dBlV, gIn, dIsN, gIsB, dGetN1, dGetN2, gIsi, dFld, wFld, wRaise, dChain, dCall, bNil, bCons, bBor, DL.cellOf, DL.borIx, DL.putB, DL.allOwn, DL.borsAt, ownIx, parC, okSet, Cell.view, Cell.frz, OC.frz, Cell.own, Cell.bor, List.map_cons, List.map_nil, List.cons_append, List.nil_append, List.length_cons, List.length_nil, List.replicate_succ, List.replicate_zero, List.getElem?_cons_zero, List.getElem?_cons_succ, List.set_cons_zero, List.set_cons_succ, List.getD_cons_zero, List.getD_cons_succ, Option.bind_some, List.nodup_nil, List.nodup_cons, List.not_mem_nil, not_false_eq_true, true_and, and_true, if_true, if_false, ite_true, ite_false, reduceCtorEq, Nat.reduceAdd, Nat.reduceSub, Nat.zero_add, Nat.sub_self, Bool.not_true, Bool.not_false, Bool.false_eq_true, Bool.true_eq, DL.dataOf, conF, Option.map_some, Out.to, wipeD]
    refine call_in hb ?_
    have fin : Q = Q → goLc [2] (gN 2) dYes (dAndV (dDat (dCall (con_is_number A) G (bCons (dVar 2) bNil))) (dBl (dChain (gB2 fun i j => decide (i ≤ j)) (gB2 fun i j => decide (i < j)) (dC (.int 0)) (dVar 2) (dVar 1)))) Q ds (acc ++ [.bl (inR q d)]) [row, .d (.int q), .d d, .un] := fun _ =>
      go_in ds _ _ ha.2 rfl fun x hx => by
        have h2 := h x hx
        rw [List.map_cons, List.append_cons] at h2
        exact h2
    cases b with
    | false =>
      have e : inR q d = false := by cases d <;> first | rfl | cases hb
      rw [e] at fin
      exact fin rfl
    | true =>
      obtain ⟨i, rfl⟩ := isInt_true hb
      have e : inR q (.int i) = (decide (0 ≤ i) && decide (i < q)) := rfl
      rw [e] at fin
      simp (config := { decide := false }) only [runD, wNil, wBreak, wCont, wSet, wDrop, wRet, wRetN, wIf, wFor, gN, gsNil, gsCons, gT, wAsg, wPar, dCel, dDat, dVar, dC, dOp2, dOp2d, gI2, gI0, dCmp, dBl, dAsB, gB2, gEq, dAnd, dOr, dNot, dAndV, dOrV, dNotV, gAdd, gMul, dNeg, iData, dI_lst, dI_klst, dI_tup, dI_ktup, iD_lst, iD_klst, iD_tup, iD_ktup, ln_lst, ln_klst, ln_tup, ln_ktup, iR1, iR2, iZipD, iEnumD, dYes, dLc, dIx, dIxN, ixD, optP, dVw, dPeek, dOp1, gInts, gBls, gList, gTuple, gLen, gInt, aNil, aCons, dTup, dLst, dDk, dDt, dAppend, dPop, wPutL, wPutD, DV.key, dDisp, ppN, ppC, DL.kvsOf, dPopAt, wAugI, dIf, exists_and_left, exists_and_right, exists_eq_left, exists_eq_left', exists_eq', exists_eq, exists_const, exists_false, or_false, false_or, false_and, and_false, and_assoc, Option.some.injEq, Cell.o.injEq, Cell.d.injEq, OC.k.injEq, OC.l.injEq, OC.t.injEq, OC.ins.injEq, DV.int.injEq, DV.bl.injEq, DV.str.injEq,  oNone, oSome, dSl, dSlN, gSl, dRev, dCmpV, dBlV, gIn, dIsN, gIsB, dGetN1, dGetN2, gIsi, dFld, wFld, wRaise, dChain, dCall, bNil, bCons, bBor, DL.cellOf, DL.borIx, DL.putB, DL.allOwn, DL.borsAt, ownIx, parC, okSet, Cell.view, Cell.frz, OC.frz, Cell.own, Cell.bor, List.map_cons, List.map_nil, List.cons_append, List.nil_append, List.length_cons, List.length_nil, List.replicate_succ, List.replicate_zero, List.getElem?_cons_zero, List.getElem?_cons_succ, List.set_cons_zero, List.set_cons_succ, List.getD_cons_zero, List.getD_cons_succ, Option.bind_some, List.nodup_nil, List.nodup_cons, List.not_mem_nil, not_false_eq_true, true_and, and_true, if_true, if_false, ite_true, ite_false, reduceCtorEq, Nat.reduceAdd, Nat.reduceSub, Nat.zero_add, Nat.sub_self, Bool.not_true, Bool.not_false, Bool.false_eq_true, Bool.true_eq, DL.dataOf, conF, Option.map_some, Out.to]
      cases h0 : decide (0 ≤ i) with
      | false =>
        rw [h0] at fin
        exact fin rfl
      | true =>
        rw [h0] at fin
        exact fin rfl
theorem numb_go {A : Adr} {G : Addr → List (Str × DV) → List Cell → Prop} {row : Cell} {q : Int} (hq : 2 ≤ q ∧ q ≤ 7) {D : EndsD} : ∀ (ds : List DV) (v : Int) (x : Cell), ds.all (inR q) = true → x.own = false →
    (∀ x : Cell, D.nx [row, .d (.int q), x, .d (.int (ds.foldl (fun a d => a * q + (match d with | .int i => i | _ => 0)) v))]) → goFor (gN 2) (bd_number_of_1 A G) D ds [row, .d (.int q), x, .d (.int v)]
  | [], v, x, _, _, h => h x
  | d :: ds, v, x, ha, hx, h => by
    rw [List.all_cons, Bool.and_eq_true] at ha
    obtain ⟨i, rfl⟩ : ∃ i, d = .int i := by
      cases d <;> first | exact ⟨_, rfl⟩ | cases ha.1
    unfold goFor
    have hxx : okSet [row, .d (.int q), x, .d (.int v)] 2 := by
      cases x <;> first | trivial | cases hx
    refine And.intro hxx ?_
    show bd_number_of_1 A G _ _
    unfold bd_number_of_1
    refine seq_gen fun k2 hk2 => ?_
    simp (config := { decide := false }) only [runD, wNil, wBreak, wCont, wSet, wDrop, wRet, wRetN, wIf, wFor, gN, gsNil, gsCons, gT, wAsg, wPar, dCel, dDat, dVar, dC, dOp2, dOp2d, gI2, gI0, dCmp, dBl, dAsB, gB2, gEq, dAnd, dOr, dNot, dAndV, dOrV, dNotV, gAdd, gMul, dNeg, iData, dI_lst, dI_klst, dI_tup, dI_ktup, iD_lst, iD_klst, iD_tup, iD_ktup, ln_lst, ln_klst, ln_tup, ln_ktup, iR1, iR2, iZipD, iEnumD, dYes, dLc, dIx, dIxN, ixD, optP, dVw, dPeek, dOp1, gInts, gBls, gList, gTuple, gLen, gInt, aNil, aCons, dTup, dLst, dDk, dDt, dAppend, dPop, wPutL, wPutD, DV.key, dDisp, ppN, ppC, DL.kvsOf, dPopAt, wAugI, dIf, exists_and_left, exists_and_right, exists_eq_left, exists_eq_left', exists_eq', exists_eq, exists_const, exists_false, or_false, false_or, false_and, and_false, and_assoc, Option.some.injEq, Cell.o.injEq, Cell.d.injEq, OC.k.injEq, OC.l.injEq, OC.t.injEq, OC.ins.injEq, DV.int.injEq, DV.bl.injEq, DV.str.injEq,  oNone, oSome, dSl, dSlN, gSl, dRev, dCmpV, dBlV, gIn, dIsN, gIsB, dGetN1, dGetN2, gIsi, dFld, wFld, wRaise, dChain, dCall, bNil, bCons, bBor, DL.cellOf, DL.borIx, DL.putB, DL.allOwn, DL.borsAt, ownIx, parC, okSet, Cell.view, Cell.frz, OC.frz, Cell.own, Cell.bor, List.map_cons, List.map_nil, List.cons_append, List.nil_append, List.length_cons, List.length_nil, List.replicate_succ, List.replicate_zero, List.getElem?_cons_zero, List.getElem?_cons_succ, List.set_cons_zero, List.set_cons_succ, List.getD_cons_zero, List.getD_cons_succ, Option.bind_some, List.nodup_nil, List.nodup_cons, List.not_mem_nil, not_false_eq_true, true_and, and_true, if_true, if_false, ite_true, ite_false, reduceCtorEq, Nat.reduceAdd, Nat.reduceSub, Nat.zero_add, Nat.sub_self, Bool.not_true, Bool.not_false, Bool.false_eq_true, Bool.true_eq, DL.dataOf, conF, Option.map_some, Out.to]
    subst hk2
    refine ⟨.inl (.inr ⟨by omega, by omega⟩), ?_⟩
    exact numb_go (A := A) (G := G) hq ds _ _ ha.2 rfl h
theorem numb_rev (q : Int) : ∀ ds : List DV, ds.all (inR q) = true → ds.reverse.foldl (fun a d => a * q + (match d with | .int i => i | _ => 0)) 0 = numb q ds
  | [], _ => rfl
  | d :: ds, ha => by
    rw [List.all_cons, Bool.and_eq_true] at ha
    obtain ⟨i, rfl⟩ : ∃ i, d = .int i := by
      cases d <;> first | exact ⟨_, rfl⟩ | cases ha.1
    rw [List.reverse_cons, List.foldl_append, numb_rev q ds ha.2]
    rfl
theorem bls_map (q : Int) (ds : List DV) : blsOf (ds.map fun d => DV.bl (inR q d)) = some (ds.map (inR q)) := by
  have e : ds.map (fun d => DV.bl (inR q d)) = (ds.map (inR q)).map DV.bl := by
    rw [List.map_map]
    rfl
  rw [e]
  exact blsOf_map _
theorem all_id (q : Int) (ds : List DV) : (ds.map (inR q)).all id = ds.all (inR q) := by
  rw [List.all_map]
  rfl
def con_number_of (A : Adr) : Con := conF 2 (f_number_of A)
theorem mono_number_of : ConMono (con_number_of A) := mono_conF
theorem dat_number_of : ∀ cs P Y, con_number_of A cs P Y → runD 4 (wd_number_of A fun C fs e => Y C fs (borsAt e (ownIx 0 cs))) cs P := by
  intro cs P Y h
  obtain ⟨xs, r, rfl, hl, hf, hr⟩ := conF_inv h
  obtain ⟨x, y, rfl⟩ : ∃ x y, xs = [x, y] := two_of hl
  unfold wd_number_of runD
  refine seq_gen fun k hk => ?_
  dsimp only [f_number_of] at hf
  cases ey : isInt? y with
  | none =>
    rw [ey] at hf
    cases hf
  | some b =>
  rw [ey, Option.bind_some] at hf
  simp (config := { decide := false }) only [runD, wNil, wBreak, wCont, wSet, wDrop, wRet, wRetN, wIf, wFor, gN, gsNil, gsCons, gT, wAsg, wPar, dCel, dDat, dVar, dC, dOp2, dOp2d, gI2, gI0, dCmp, dBl, dAsB, gB2, gEq, dAnd, dOr, dNot, dAndV, dOrV, dNotV, gAdd, gMul, dNeg, iData, dI_lst, dI_klst, dI_tup, dI_ktup, iD_lst, iD_klst, iD_tup, iD_ktup, ln_lst, ln_klst, ln_tup, ln_ktup, iR1, iR2, iZipD, iEnumD, dYes, dLc, dIx, dIxN, ixD, optP, dVw, dPeek, dOp1, gInts, gBls, gList, gTuple, gLen, gInt, aNil, aCons, dTup, dLst, dDk, dDt, dAppend, dPop, wPutL, wPutD, DV.key, dDisp, ppN, ppC, DL.kvsOf, dPopAt, wAugI, dIf, exists_and_left, exists_and_right, exists_eq_left, exists_eq_left', exists_eq', exists_eq, exists_const, exists_false, or_false, false_or, false_and, and_false, and_assoc, Option.some.injEq, Cell.o.injEq, Cell.d.injEq, OC.k.injEq, OC.l.injEq, OC.t.injEq, OC.ins.injEq, DV.int.injEq, DV.bl.injEq, DV.str.injEq,  oNone, oSome, dSl, dSlN, gSl, dRev, dCmpV, dBlV, gIn, dIsN, gIsB, dGetN1, dGetN2, gIsi, dFld, wFld, wRaise, dChain, dCall, bNil, bCons, bBor, DL.cellOf, DL.borIx, DL.putB, DL.allOwn, DL.borsAt, ownIx, parC, okSet, Cell.view, Cell.frz, OC.frz, Cell.own, Cell.bor, List.map_cons, List.map_nil, List.cons_append, List.nil_append, List.length_cons, List.length_nil, List.replicate_succ, List.replicate_zero, List.getElem?_cons_zero, List.getElem?_cons_succ, List.set_cons_zero, List.set_cons_succ, List.getD_cons_zero, List.getD_cons_succ, Option.bind_some, List.nodup_nil, List.nodup_cons, List.not_mem_nil, not_false_eq_true, true_and, and_true, if_true, if_false, ite_true, ite_false, reduceCtorEq, Nat.reduceAdd, Nat.reduceSub, Nat.zero_add, Nat.sub_self, Bool.not_true, Bool.not_false, Bool.false_eq_true, Bool.true_eq, DL.dataOf, conF, Option.map_some, Out.to]
  refine call_np ey (fun hy => ?_) (fun hy => ?_)
  · obtain ⟨q, rfl⟩ := prime_int hy
    dsimp only at hf
    rw [if_pos hy] at hf
    have hq := prime_two hy
    subst hk
    refine seq_gen fun k hk => ?_
    simp (config := { decide := false }) only [runD, wNil, wBreak, wCont, wSet, wDrop, wRet, wRetN, wIf, wFor, gN, gsNil, gsCons, gT, wAsg, wPar, dCel, dDat, dVar, dC, dOp2, dOp2d, gI2, gI0, dCmp, dBl, dAsB, gB2, gEq, dAnd, dOr, dNot, dAndV, dOrV, dNotV, gAdd, gMul, dNeg, iData, dI_lst, dI_klst, dI_tup, dI_ktup, iD_lst, iD_klst, iD_tup, iD_ktup, ln_lst, ln_klst, ln_tup, ln_ktup, iR1, iR2, iZipD, iEnumD, dYes, dLc, dIx, dIxN, ixD, optP, dVw, dPeek, dOp1, gInts, gBls, gList, gTuple, gLen, gInt, aNil, aCons, dTup, dLst, dDk, dDt, dAppend, dPop, wPutL, wPutD, DV.key, dDisp, ppN, ppC, DL.kvsOf, dPopAt, wAugI, dIf, exists_and_left, exists_and_right, exists_eq_left, exists_eq_left', exists_eq', exists_eq, exists_const, exists_false, or_false, false_or, false_and, and_false, and_assoc, Option.some.injEq, Cell.o.injEq, Cell.d.injEq, OC.k.injEq, OC.l.injEq, OC.t.injEq, OC.ins.injEq, DV.int.injEq, DV.bl.injEq, DV.str.injEq,  oNone, oSome, dSl, dSlN, gSl, dRev, dCmpV, dBlV, gIn, dIsN, gIsB, dGetN1, dGetN2, gIsi, dFld, wFld, wRaise, dChain, dCall, bNil, bCons, bBor, DL.cellOf, DL.borIx, DL.putB, DL.allOwn, DL.borsAt, ownIx, parC, okSet, Cell.view, Cell.frz, OC.frz, Cell.own, Cell.bor, List.map_cons, List.map_nil, List.cons_append, List.nil_append, List.length_cons, List.length_nil, List.replicate_succ, List.replicate_zero, List.getElem?_cons_zero, List.getElem?_cons_succ, List.set_cons_zero, List.set_cons_succ, List.getD_cons_zero, List.getD_cons_succ, Option.bind_some, List.nodup_nil, List.nodup_cons, List.not_mem_nil, not_false_eq_true, true_and, and_true, if_true, if_false, ite_true, ite_false, reduceCtorEq, Nat.reduceAdd, Nat.reduceSub, Nat.zero_add, Nat.sub_self, Bool.not_true, Bool.not_false, Bool.false_eq_true, Bool.true_eq, DL.dataOf, conF, Option.map_some, Out.to]
    refine ⟨by decide, ?_⟩
    cases es : seqB x with
    | none =>
      cases x <;> first | (cases es; done) | (dsimp only [dSeq] at hf; rw [if_neg (by rw [es]; intro z; cases z)] at hf; cases hf)
    | some s =>
    rw [isi_seq A.rel x (by rw [es]; intro z; cases z), es]
    cases s with
    | false =>
      have hf3 : some (badR A x) = some r := by
        cases x <;> first | (cases es; done) | exact hf
      cases hf3
      exact And.intro rfl hr
    | true =>
      have part : ∀ ds : List DV, dSeq x = some ds → x = .lst ds ∨ x = .tup ds ∨ x = .ktup ds := by
        intro ds e
        cases x <;> cases e
        · exact .inr (.inl rfl)
        · exact .inr (.inr rfl)
        · exact .inl rfl
      have key : ∀ ds : List DV, dSeq x = some ds → dItems x = some ds := by
        intro ds e
        cases x <;> first | exact e | cases e
      cases ed : dSeq x with
      | none => cases x <;> first | (cases es; done) | (cases ed; done)
      | some ds =>
      rw [ed] at hf
      dsimp only at hf
      split at hf
      case isFalse => cases hf
      case isTrue ha =>
      simp (config := { decide := false }) only [runD, wNil, wBreak, wCont, wSet, wDrop, wRet, wRetN, wIf, wFor, gN, gsNil, gsCons, gT, wAsg, wPar, dCel, dDat, dVar, dC, dOp2, dOp2d, gI2, gI0, dCmp, dBl, dAsB, gB2, gEq, dAnd, dOr, dNot, dAndV, dOrV, dNotV, gAdd, gMul, dNeg, iData, dI_lst, dI_klst, dI_tup, dI_ktup, iD_lst, iD_klst, iD_tup, iD_ktup, ln_lst, ln_klst, ln_tup, ln_ktup, iR1, iR2, iZipD, iEnumD, dYes, dLc, dIx, dIxN, ixD, optP, dVw, dPeek, dOp1, gInts, gBls, gList, gTuple, gLen, gInt, aNil, aCons, dTup, dLst, dDk, dDt, dAppend, dPop, wPutL, wPutD, DV.key, dDisp, ppN, ppC, DL.kvsOf, dPopAt, wAugI, dIf, exists_and_left, exists_and_right, exists_eq_left, exists_eq_left', exists_eq', exists_eq, exists_const, exists_false, or_false, false_or, false_and, and_false, and_assoc, Option.some.injEq, Cell.o.injEq, Cell.d.injEq, OC.k.injEq, OC.l.injEq, OC.t.injEq, OC.ins.injEq, DV.int.injEq, DV.bl.injEq, DV.str.injEq,  oNone, oSome, dSl, dSlN, gSl, dRev, dCmpV, dBlV, gIn, dIsN, gIsB, dGetN1, dGetN2, gIsi, dFld, wFld, wRaise, dChain, dCall, bNil, bCons, bBor, DL.cellOf, DL.borIx, DL.putB, DL.allOwn, DL.borsAt, ownIx, parC, okSet, Cell.view, Cell.frz, OC.frz, Cell.own, Cell.bor, List.map_cons, List.map_nil, List.cons_append, List.nil_append, List.length_cons, List.length_nil, List.replicate_succ, List.replicate_zero, List.getElem?_cons_zero, List.getElem?_cons_succ, List.set_cons_zero, List.set_cons_succ, List.getD_cons_zero, List.getD_cons_succ, Option.bind_some, List.nodup_nil, List.nodup_cons, List.not_mem_nil, not_false_eq_true, true_and, and_true, if_true, if_false, ite_true, ite_false, reduceCtorEq, Nat.reduceAdd, Nat.reduceSub, Nat.zero_add, Nat.sub_self, Bool.not_true, Bool.not_false, Bool.false_eq_true, Bool.true_eq, DL.dataOf, conF, Option.map_some, Out.to]
      rw [key ds ed]
      dsimp only
      refine ⟨?_, ?_⟩
      · intro v hv c e
        cases List.mem_singleton.mp hv
        cases e
        rfl
      refine go_in ds [] .un ha rfl fun y hy => ?_
      rw [List.nil_append, bls_map]
      dsimp only
      rw [all_id]
      split at hf
      case isTrue hall =>
        cases hf
        rw [hall]
        simp (config := { decide := false }) only [runD, wNil, wBreak, wCont, wSet, wDrop, wRet, wRetN, wIf, wFor, gN, gsNil, gsCons, gT, wAsg, wPar, dCel, dDat, dVar, dC, dOp2, dOp2d, gI2, gI0, dCmp, dBl, dAsB, gB2, gEq, dAnd, dOr, dNot, dAndV, dOrV, dNotV, gAdd, gMul, dNeg, iData, dI_lst, dI_klst, dI_tup, dI_ktup, iD_lst, iD_klst, iD_tup, iD_ktup, ln_lst, ln_klst, ln_tup, ln_ktup, iR1, iR2, iZipD, iEnumD, dYes, dLc, dIx, dIxN, ixD, optP, dVw, dPeek, dOp1, gInts, gBls, gList, gTuple, gLen, gInt, aNil, aCons, dTup, dLst, dDk, dDt, dAppend, dPop, wPutL, wPutD, DV.key, dDisp, ppN, ppC, DL.kvsOf, dPopAt, wAugI, dIf, exists_and_left, exists_and_right, exists_eq_left, exists_eq_left', exists_eq', exists_eq, exists_const, exists_false, or_false, false_or, false_and, and_false, and_assoc, Option.some.injEq, Cell.o.injEq, Cell.d.injEq, OC.k.injEq, OC.l.injEq, OC.t.injEq, OC.ins.injEq, DV.int.injEq, DV.bl.injEq, DV.str.injEq,  oNone, oSome, dSl, dSlN, gSl, dRev, dCmpV, dBlV, gIn, dIsN, gIsB, dGetN1, dGetN2, gIsi, dFld, wFld, wRaise, dChain, dCall, bNil, bCons, bBor, DL.cellOf, DL.borIx, DL.putB, DL.allOwn, DL.borsAt, ownIx, parC, okSet, Cell.view, Cell.frz, OC.frz, Cell.own, Cell.bor, List.map_cons, List.map_nil, List.cons_append, List.nil_append, List.length_cons, List.length_nil, List.replicate_succ, List.replicate_zero, List.getElem?_cons_zero, List.getElem?_cons_succ, List.set_cons_zero, List.set_cons_succ, List.getD_cons_zero, List.getD_cons_succ, Option.bind_some, List.nodup_nil, List.nodup_cons, List.not_mem_nil, not_false_eq_true, true_and, and_true, if_true, if_false, ite_true, ite_false, reduceCtorEq, Nat.reduceAdd, Nat.reduceSub, Nat.zero_add, Nat.sub_self, Bool.not_true, Bool.not_false, Bool.false_eq_true, Bool.true_eq, DL.dataOf, conF, Option.map_some, Out.to, backD]
        subst hk
        refine seq_gen fun k hk => ?_
        simp (config := { decide := false }) only [runD, wNil, wBreak, wCont, wSet, wDrop, wRet, wRetN, wIf, wFor, gN, gsNil, gsCons, gT, wAsg, wPar, dCel, dDat, dVar, dC, dOp2, dOp2d, gI2, gI0, dCmp, dBl, dAsB, gB2, gEq, dAnd, dOr, dNot, dAndV, dOrV, dNotV, gAdd, gMul, dNeg, iData, dI_lst, dI_klst, dI_tup, dI_ktup, iD_lst, iD_klst, iD_tup, iD_ktup, ln_lst, ln_klst, ln_tup, ln_ktup, iR1, iR2, iZipD, iEnumD, dYes, dLc, dIx, dIxN, ixD, optP, dVw, dPeek, dOp1, gInts, gBls, gList, gTuple, gLen, gInt, aNil, aCons, dTup, dLst, dDk, dDt, dAppend, dPop, wPutL, wPutD, DV.key, dDisp, ppN, ppC, DL.kvsOf, dPopAt, wAugI, dIf, exists_and_left, exists_and_right, exists_eq_left, exists_eq_left', exists_eq', exists_eq, exists_const, exists_false, or_false, false_or, false_and, and_false, and_assoc, Option.some.injEq, Cell.o.injEq, Cell.d.injEq, OC.k.injEq, OC.l.injEq, OC.t.injEq, OC.ins.injEq, DV.int.injEq, DV.bl.injEq, DV.str.injEq,  oNone, oSome, dSl, dSlN, gSl, dRev, dCmpV, dBlV, gIn, dIsN, gIsB, dGetN1, dGetN2, gIsi, dFld, wFld, wRaise, dChain, dCall, bNil, bCons, bBor, DL.cellOf, DL.borIx, DL.putB, DL.allOwn, DL.borsAt, ownIx, parC, okSet, Cell.view, Cell.frz, OC.frz, Cell.own, Cell.bor, List.map_cons, List.map_nil, List.cons_append, List.nil_append, List.length_cons, List.length_nil, List.replicate_succ, List.replicate_zero, List.getElem?_cons_zero, List.getElem?_cons_succ, List.set_cons_zero, List.set_cons_succ, List.getD_cons_zero, List.getD_cons_succ, Option.bind_some, List.nodup_nil, List.nodup_cons, List.not_mem_nil, not_false_eq_true, true_and, and_true, if_true, if_false, ite_true, ite_false, reduceCtorEq, Nat.reduceAdd, Nat.reduceSub, Nat.zero_add, Nat.sub_self, Bool.not_true, Bool.not_false, Bool.false_eq_true, Bool.true_eq, DL.dataOf, conF, Option.map_some, Out.to]
        subst hk
        refine seq_gen fun k hk => ?_
        simp (config := { decide := false }) only [runD, wNil, wBreak, wCont, wSet, wDrop, wRet, wRetN, wIf, wFor, gN, gsNil, gsCons, gT, wAsg, wPar, dCel, dDat, dVar, dC, dOp2, dOp2d, gI2, gI0, dCmp, dBl, dAsB, gB2, gEq, dAnd, dOr, dNot, dAndV, dOrV, dNotV, gAdd, gMul, dNeg, iData, dI_lst, dI_klst, dI_tup, dI_ktup, iD_lst, iD_klst, iD_tup, iD_ktup, ln_lst, ln_klst, ln_tup, ln_ktup, iR1, iR2, iZipD, iEnumD, dYes, dLc, dIx, dIxN, ixD, optP, dVw, dPeek, dOp1, gInts, gBls, gList, gTuple, gLen, gInt, aNil, aCons, dTup, dLst, dDk, dDt, dAppend, dPop, wPutL, wPutD, DV.key, dDisp, ppN, ppC, DL.kvsOf, dPopAt, wAugI, dIf, exists_and_left, exists_and_right, exists_eq_left, exists_eq_left', exists_eq', exists_eq, exists_const, exists_false, or_false, false_or, false_and, and_false, and_assoc, Option.some.injEq, Cell.o.injEq, Cell.d.injEq, OC.k.injEq, OC.l.injEq, OC.t.injEq, OC.ins.injEq, DV.int.injEq, DV.bl.injEq, DV.str.injEq,  oNone, oSome, dSl, dSlN, gSl, dRev, dCmpV, dBlV, gIn, dIsN, gIsB, dGetN1, dGetN2, gIsi, dFld, wFld, wRaise, dChain, dCall, bNil, bCons, bBor, DL.cellOf, DL.borIx, DL.putB, DL.allOwn, DL.borsAt, ownIx, parC, okSet, Cell.view, Cell.frz, OC.frz, Cell.own, Cell.bor, List.map_cons, List.map_nil, List.cons_append, List.nil_append, List.length_cons, List.length_nil, List.replicate_succ, List.replicate_zero, List.getElem?_cons_zero, List.getElem?_cons_succ, List.set_cons_zero, List.set_cons_succ, List.getD_cons_zero, List.getD_cons_succ, Option.bind_some, List.nodup_nil, List.nodup_cons, List.not_mem_nil, not_false_eq_true, true_and, and_true, if_true, if_false, ite_true, ite_false, reduceCtorEq, Nat.reduceAdd, Nat.reduceSub, Nat.zero_add, Nat.sub_self, Bool.not_true, Bool.not_false, Bool.false_eq_true, Bool.true_eq, DL.dataOf, conF, Option.map_some, Out.to]
        rw [iD_of (key ds ed)]
        dsimp only
        have er : ds.reverse.all (inR q) = true := by
          rw [List.all_reverse]
          exact hall
        refine numb_go hq ds.reverse 0 .un er rfl fun z => ?_
        rw [numb_rev q ds hall]
        subst hk
        exact hr
      case isFalse hall =>
        cases hf
        have e : ds.all (inR q) = false := by
          cases h : ds.all (inR q) with
          | true => exact absurd h hall
          | false => rfl
        rw [e]
        exact And.intro rfl hr
  · have hf2 : some (badN A "p" y) = some r := by
      cases y <;> first | exact hf | (dsimp only at hf; rw [if_neg (by rw [hy]; decide)] at hf; exact hf)
    cases hf2
    exact hr
theorem ok_number_of (T : Txt K mg A) {TB : List (Addr × Str)} : FnOk P w K mg base (L2.CX P w) 4 A.f_number_of A.fd_number_of ["row", "p"] (SpD K TB 0 (con_number_of A)) :=
  okD (c := _) (wd := wd_number_of A) T.F_number_of sc_number_of (conF_len) (by exact Nat.le_of_ble_eq_true rfl) (fun cdv A1 outer s H E G M hM hr => (psCons (psExpr (pcCall mono_need_prime (ok_need_prime T) (hr.mono (by decide)) passD (by rfl) T.mg_need_prime T.F_need_prime.2 (b_need_prime T) (pbCons (pdVar 1) pbNil))) (psCons (psIf (PWd.pt (pwOr (ptNot (ptVal (pdIsi T.rel (by rfl) T.no_isinstance (pdVar 0) (pdTup (paCons (pdBltn (by rfl) T.no_tuple (by rfl)) (paCons (pdBltn (by rfl) T.no_list (by rfl)) paNil)))))) (pwOr1 (ptNot (ptVal (PEc.dat (pcAll (by rfl) T.no_all (PEc.vw (pcLc (own := [("digit", 2)]) sc_number_of.nd (piSeq (pdVar 0)) (blkOk_by (by rfl)) (fun _ _ _ _ _ => (pgN (i := 2) sc_number_of.nd rfl (by first | exact Or.inl rfl | exact Or.inr rfl))) (fun _ _ _ _ _ => ptsNil) (fun _ _ _ _ _ => (pdAnd (PEc.dat (pcCall mono_is_number (ok_is_number T) (hr.mono (by decide)) passF (by rfl) T.mg_is_number T.F_is_number.2 (b_is_number T) (pbCons (pdVar 2) pbNil))) (pdOne (pdChain op_le op_lt opB2 opB2 pdInt (pdVar 2) (pdVar 1))))) s (by decide)))))))))) (psCons (psRaise rfl takesD T.er_BadRow (by decide) (eok_BadRow T) (hr.mono (by decide)) (b_BadRow_init T) (by rfl) T.mg_BadRow (paCons (pdVar 0) paNil)) psNil) psNil) (psCons (psSet (i := 3) sc_number_of.nd rfl (by first | exact Or.inl rfl | exact Or.inr rfl) (PEd.cel pdInt)) (psCons (psFor ownD (piSeq (PEc.dat (pcRev (PEc.vw (pcList (by rfl) T.no_list (pvName 0)))))) (pgN (i := 2) sc_number_of.nd rfl (by first | exact Or.inl rfl | exact Or.inr rfl)) (psCons (psSet (i := 3) sc_number_of.nd rfl (by first | exact Or.inl rfl | exact Or.inr rfl) (pcAdd (PEc.dat (pcMul (pdVar 3) (pdVar 1))) (pdVar 2))) psNil)) (psCons (psRet (PEd.cel (pdVar 3))) psNil)))))) dat_number_of
/-! ### _law_pen -/
def bd_law_pen_1 (A : Adr) (G : Addr → List (Str × DV) → List Cell → Prop) : WS := (wSeq (wSet 1 (dCel (dMod (dDat (dOp1 gInt (dVw (dOp2 gAdd (dDat (dOp2 gMul (dVar 1) (dC (.int 41)))) (dVar 2))))) (dC (.int 1000000007))))) wNil)
def wd_law_pen (A : Adr) (G : Addr → List (Str × DV) → List Cell → Prop) : WS := (wSeq (wSet 1 (dCel (dC (.int 0)))) (wSeq (wFor (iData (dVar 0)) (gN 2) (bd_law_pen_1 A G)) (wSeq (wRet (dDisp (ppC (dC (.str "cells")) (dDat (dOp1 gList (dPeek 0))) (ppC (dC (.str "at")) (dC (.int 0)) (ppC (dC (.str "digits")) (dC (.int 0)) (ppC (dC (.str "count")) (dC (.int 0)) (ppC (dC (.str "fold")) (dVar 1) ppN))))))) wNil)))
def conr_law_pen (A : Adr) : Con := conPenK
theorem dat_law_pen : ∀ cs P Y, conr_law_pen A cs P Y → runD 3 (wd_law_pen A fun C fs e => Y C fs (borsAt e (ownIx 0 cs))) cs P := by
  rintro cs P Y ⟨ns, ⟨rfl, hl⟩, hp⟩
  unfold wd_law_pen runD
  refine seq_gen fun k hk => ?_
  simp (config := { decide := false }) only [runD, wNil, wBreak, wCont, wSet, wDrop, wRet, wRetN, wIf, wFor, gN, gsNil, gsCons, gT, wAsg, wPar, dCel, dDat, dVar, dC, dOp2, dOp2d, gI2, gI0, dCmp, dBl, dAsB, gB2, gEq, dAnd, dOr, dNot, dAndV, dOrV, dNotV, gAdd, gMul, dNeg, iData, dI_lst, dI_klst, dI_tup, dI_ktup, iD_lst, iD_klst, iD_tup, iD_ktup, ln_lst, ln_klst, ln_tup, ln_ktup, iR1, iR2, iZipD, iEnumD, dYes, dLc, dIx, dIxN, ixD, optP, dVw, dPeek, dOp1, gInts, gBls, gList, gTuple, gLen, gInt, aNil, aCons, dTup, dLst, dDk, dDt, dAppend, dPop, wPutL, wPutD, DV.key, dDisp, ppN, ppC, DL.kvsOf, dPopAt, wAugI, dIf, exists_and_left, exists_and_right, exists_eq_left, exists_eq_left', exists_eq', exists_eq, exists_const, exists_false, or_false, false_or, false_and, and_false, and_assoc, Option.some.injEq, Cell.o.injEq, Cell.d.injEq, OC.k.injEq, OC.l.injEq, OC.t.injEq, OC.ins.injEq, DV.int.injEq, DV.bl.injEq, DV.str.injEq,  oNone, oSome, dSl, dSlN, gSl, dRev, dCmpV, dBlV, gIn, dIsN, gIsB, dGetN1, dGetN2, gIsi, dFld, wFld, wRaise, dChain, dCall, bNil, bCons, bBor, DL.cellOf, DL.borIx, DL.putB, DL.allOwn, DL.borsAt, ownIx, parC, okSet, Cell.view, Cell.frz, OC.frz, Cell.own, Cell.bor, List.map_cons, List.map_nil, List.cons_append, List.nil_append, List.length_cons, List.length_nil, List.replicate_succ, List.replicate_zero, List.getElem?_cons_zero, List.getElem?_cons_succ, List.set_cons_zero, List.set_cons_succ, List.getD_cons_zero, List.getD_cons_succ, Option.bind_some, List.nodup_nil, List.nodup_cons, List.not_mem_nil, not_false_eq_true, true_and, and_true, if_true, if_false, ite_true, ite_false, reduceCtorEq, Nat.reduceAdd, Nat.reduceSub, Nat.zero_add, Nat.sub_self, Bool.not_true, Bool.not_false, Bool.false_eq_true, Bool.true_eq, DL.dataOf, conF, Option.map_some, Out.to]
  subst hk
  refine seq_gen fun k hk => ?_
  simp (config := { decide := false }) only [runD, wNil, wBreak, wCont, wSet, wDrop, wRet, wRetN, wIf, wFor, gN, gsNil, gsCons, gT, wAsg, wPar, dCel, dDat, dVar, dC, dOp2, dOp2d, gI2, gI0, dCmp, dBl, dAsB, gB2, gEq, dAnd, dOr, dNot, dAndV, dOrV, dNotV, gAdd, gMul, dNeg, iData, dI_lst, dI_klst, dI_tup, dI_ktup, iD_lst, iD_klst, iD_tup, iD_ktup, ln_lst, ln_klst, ln_tup, ln_ktup, iR1, iR2, iZipD, iEnumD, dYes, dLc, dIx, dIxN, ixD, optP, dVw, dPeek, dOp1, gInts, gBls, gList, gTuple, gLen, gInt, aNil, aCons, dTup, dLst, dDk, dDt, dAppend, dPop, wPutL, wPutD, DV.key, dDisp, ppN, ppC, DL.kvsOf, dPopAt, wAugI, dIf, exists_and_left, exists_and_right, exists_eq_left, exists_eq_left', exists_eq', exists_eq, exists_const, exists_false, or_false, false_or, false_and, and_false, and_assoc, Option.some.injEq, Cell.o.injEq, Cell.d.injEq, OC.k.injEq, OC.l.injEq, OC.t.injEq, OC.ins.injEq, DV.int.injEq, DV.bl.injEq, DV.str.injEq,  oNone, oSome, dSl, dSlN, gSl, dRev, dCmpV, dBlV, gIn, dIsN, gIsB, dGetN1, dGetN2, gIsi, dFld, wFld, wRaise, dChain, dCall, bNil, bCons, bBor, DL.cellOf, DL.borIx, DL.putB, DL.allOwn, DL.borsAt, ownIx, parC, okSet, Cell.view, Cell.frz, OC.frz, Cell.own, Cell.bor, List.map_cons, List.map_nil, List.cons_append, List.nil_append, List.length_cons, List.length_nil, List.replicate_succ, List.replicate_zero, List.getElem?_cons_zero, List.getElem?_cons_succ, List.set_cons_zero, List.set_cons_succ, List.getD_cons_zero, List.getD_cons_succ, Option.bind_some, List.nodup_nil, List.nodup_cons, List.not_mem_nil, not_false_eq_true, true_and, and_true, if_true, if_false, ite_true, ite_false, reduceCtorEq, Nat.reduceAdd, Nat.reduceSub, Nat.zero_add, Nat.sub_self, Bool.not_true, Bool.not_false, Bool.false_eq_true, Bool.true_eq, DL.dataOf, conF, Option.map_some, Out.to]
  have key : ∀ (ms : List Int) (f : Int) (x : Cell), 0 ≤ f → f < 2147483587 → okSet [Cell.d (DV.klst (List.map DV.int ns)), Cell.d (DV.int f), x] 2 →
      goFor (gN 2) (bd_law_pen_1 A fun C fs e => Y C fs []) { nx := k, rt := fun r e => P r [] } (List.map DV.int ms) [Cell.d (DV.klst (List.map DV.int ns)), Cell.d (DV.int f), x] := by
    intro ms
    induction ms with
    | nil =>
      intro f x h0 h1 hx
      show k _
      subst hk
      refine seq_gen fun k hk => ?_
      simp (config := { decide := false }) only [runD, wNil, wBreak, wCont, wSet, wDrop, wRet, wRetN, wIf, wFor, gN, gsNil, gsCons, gT, wAsg, wPar, dCel, dDat, dVar, dC, dOp2, dOp2d, gI2, gI0, dCmp, dBl, dAsB, gB2, gEq, dAnd, dOr, dNot, dAndV, dOrV, dNotV, gAdd, gMul, dNeg, iData, dI_lst, dI_klst, dI_tup, dI_ktup, iD_lst, iD_klst, iD_tup, iD_ktup, ln_lst, ln_klst, ln_tup, ln_ktup, iR1, iR2, iZipD, iEnumD, dYes, dLc, dIx, dIxN, ixD, optP, dVw, dPeek, dOp1, gInts, gBls, gList, gTuple, gLen, gInt, aNil, aCons, dTup, dLst, dDk, dDt, dAppend, dPop, wPutL, wPutD, DV.key, dDisp, ppN, ppC, DL.kvsOf, dPopAt, wAugI, dIf, exists_and_left, exists_and_right, exists_eq_left, exists_eq_left', exists_eq', exists_eq, exists_const, exists_false, or_false, false_or, false_and, and_false, and_assoc, Option.some.injEq, Cell.o.injEq, Cell.d.injEq, OC.k.injEq, OC.l.injEq, OC.t.injEq, OC.ins.injEq, DV.int.injEq, DV.bl.injEq, DV.str.injEq,  oNone, oSome, dSl, dSlN, gSl, dRev, dCmpV, dBlV, gIn, dIsN, gIsB, dGetN1, dGetN2, gIsi, dFld, wFld, wRaise, dChain, dCall, bNil, bCons, bBor, DL.cellOf, DL.borIx, DL.putB, DL.allOwn, DL.borsAt, ownIx, parC, okSet, Cell.view, Cell.frz, OC.frz, Cell.own, Cell.bor, List.map_cons, List.map_nil, List.cons_append, List.nil_append, List.length_cons, List.length_nil, List.replicate_succ, List.replicate_zero, List.getElem?_cons_zero, List.getElem?_cons_succ, List.set_cons_zero, List.set_cons_succ, List.getD_cons_zero, List.getD_cons_succ, Option.bind_some, List.nodup_nil, List.nodup_cons, List.not_mem_nil, not_false_eq_true, true_and, and_true, if_true, if_false, ite_true, ite_false, reduceCtorEq, Nat.reduceAdd, Nat.reduceSub, Nat.zero_add, Nat.sub_self, Bool.not_true, Bool.not_false, Bool.false_eq_true, Bool.true_eq, DL.dataOf, conF, Option.map_some, Out.to]
      exact ⟨by decide, hp f h0 h1⟩
    | cons m ms ih =>
      intro f x h0 h1 hx
      refine ⟨hx, ?_⟩
      show bd_law_pen_1 A _ _ _
      unfold bd_law_pen_1
      refine seq_gen fun k2 hk2 => ?_
      simp (config := { decide := false }) only [runD, wNil, wBreak, wCont, wSet, wDrop, wRet, wRetN, wIf, wFor, gN, gsNil, gsCons, gT, wAsg, wPar, dCel, dDat, dVar, dC, dOp2, dOp2d, gI2, gI0, dCmp, dBl, dAsB, gB2, gEq, dAnd, dOr, dNot, dAndV, dOrV, dNotV, gAdd, gMul, dNeg, iData, dI_lst, dI_klst, dI_tup, dI_ktup, iD_lst, iD_klst, iD_tup, iD_ktup, ln_lst, ln_klst, ln_tup, ln_ktup, iR1, iR2, iZipD, iEnumD, dYes, dLc, dIx, dIxN, ixD, optP, dVw, dPeek, dOp1, gInts, gBls, gList, gTuple, gLen, gInt, aNil, aCons, dTup, dLst, dDk, dDt, dAppend, dPop, wPutL, wPutD, DV.key, dDisp, ppN, ppC, DL.kvsOf, dPopAt, wAugI, dIf, exists_and_left, exists_and_right, exists_eq_left, exists_eq_left', exists_eq', exists_eq, exists_const, exists_false, or_false, false_or, false_and, and_false, and_assoc, Option.some.injEq, Cell.o.injEq, Cell.d.injEq, OC.k.injEq, OC.l.injEq, OC.t.injEq, OC.ins.injEq, DV.int.injEq, DV.bl.injEq, DV.str.injEq,  oNone, oSome, dSl, dSlN, gSl, dRev, dCmpV, dBlV, gIn, dIsN, gIsB, dGetN1, dGetN2, gIsi, dFld, wFld, wRaise, dChain, dCall, bNil, bCons, bBor, DL.cellOf, DL.borIx, DL.putB, DL.allOwn, DL.borsAt, ownIx, parC, okSet, Cell.view, Cell.frz, OC.frz, Cell.own, Cell.bor, List.map_cons, List.map_nil, List.cons_append, List.nil_append, List.length_cons, List.length_nil, List.replicate_succ, List.replicate_zero, List.getElem?_cons_zero, List.getElem?_cons_succ, List.set_cons_zero, List.set_cons_succ, List.getD_cons_zero, List.getD_cons_succ, Option.bind_some, List.nodup_nil, List.nodup_cons, List.not_mem_nil, not_false_eq_true, true_and, and_true, if_true, if_false, ite_true, ite_false, reduceCtorEq, Nat.reduceAdd, Nat.reduceSub, Nat.zero_add, Nat.sub_self, Bool.not_true, Bool.not_false, Bool.false_eq_true, Bool.true_eq, DL.dataOf, conF, Option.map_some, Out.to]
      subst hk2
      exact ⟨.inl (.inr ⟨by decide, by decide⟩), by decide, ih _ _ (Int.emod_nonneg _ (by decide)) (Int.lt_trans (Int.emod_lt_of_pos _ (by decide)) (by decide)) trivial⟩
  exact key ns 0 .un (Int.le_refl _) (by decide) trivial
theorem okr_law_pen (T : Txt K mg A) {TB : List (Addr × Str)} : FnOk P w K mg base (L2.CX P w) 1 A.f_law_pen A.fd_law_pen ["_law_script"] (SpD K TB 0 (conr_law_pen A)) :=
  okD (c := _) (wd := wd_law_pen A) T.F_law_pen sc_law_pen (fun cs P Y ⟨ns, ⟨e, _⟩, _⟩ => by rw [e]; rfl) (by exact Nat.le_of_ble_eq_true rfl) (fun cdv A1 outer s H E G M hM hr => (psCons (psSet (i := 1) sc_law_pen.nd rfl (by first | exact Or.inl rfl | exact Or.inr rfl) (PEd.cel pdInt)) (psCons (psFor ownD (piSeq (pdVar 0)) (pgN (i := 2) sc_law_pen.nd rfl (by first | exact Or.inl rfl | exact Or.inr rfl)) (psCons (psSet (i := 1) sc_law_pen.nd rfl (by first | exact Or.inl rfl | exact Or.inr rfl) (PEd.cel (pdMod (PEc.dat (pcInt (by rfl) T.no_int (PEc.vw (pcAdd (PEc.dat (pcMul (pdVar 1) pdInt)) (pdVar 2))))) pdInt))) psNil)) (psCons (psRet (pcDisp (ppCons pdStr (PEc.dat (pcList (by rfl) T.no_list (pvName 0))) (ppCons pdStr pdInt (ppCons pdStr pdInt (ppCons pdStr pdInt (ppCons pdStr (pdVar 1) ppNil))))))) psNil)))) dat_law_pen
def con_law_pen (A : Adr) : Con := conPen
theorem mono_law_pen : ConMono (con_law_pen A) := mono_conPen
theorem ok_law_pen (T : Txt K mg A) {TB : List (Addr × Str)} : FnOk P w K mg base (L2.CX P w) 1 A.f_law_pen A.fd_law_pen ["_law_script"] (SpD K TB 0 (con_law_pen A)) := pen_ok (okr_law_pen T)
/-! ### _law_draw -/
def wd_law_draw (A : Adr) (G : Addr → List (Str × DV) → List Cell → Prop) : WS := (wSeq (wPutD 0 (dDat (dOp2 gAdd (dIxN 0 (dC (.str "count"))) (dC (.int 1)))) (dC (.str "count"))) (wSeq (wIf (dAnd (tEq (dIxN 0 (dC (.str "digits"))) (dC (.int 0))) (tLt (dIxN 0 (dC (.str "at"))) (dDat (dOp1 gLen (dIxN 0 (dC (.str "cells"))))))) (wSeq (wSet 2 (dCel (dIx (dIxN 0 (dC (.str "cells"))) (dIxN 0 (dC (.str "at")))))) (wSeq (wPutD 0 (dDat (dOp2 gAdd (dIxN 0 (dC (.str "at"))) (dC (.int 1)))) (dC (.str "at"))) (wSeq (wIf (tGe (dVar 2) (dPow (dC (.int 10)) (dC (.int 18)))) (wSeq (wPutD 0 (dSub (dVar 2) (dPow (dC (.int 10)) (dC (.int 18)))) (dC (.str "digits"))) wNil) (wSeq (wPutD 0 (dMod (dDat (dOp1 gInt (dVw (dOp2 gAdd (dDat (dOp2 gMul (dIxN 0 (dC (.str "fold"))) (dC (.int 69069)))) (dVar 2))))) (dC (.int 2147483587))) (dC (.str "fold"))) wNil)) wNil))) wNil) (wSeq (wIf (tGt (dIxN 0 (dC (.str "digits"))) (dC (.int 0))) (wSeq (wSet 3 (dCel (dMod (dDat (dOp1 gInt (dIxN 0 (dC (.str "digits"))))) (dVar 1)))) (wSeq (wPutD 0 (dFdiv (dIxN 0 (dC (.str "digits"))) (dVar 1)) (dC (.str "digits"))) (wSeq (wRet (dCel (dVar 3))) wNil))) wNil) (wSeq (wSet 4 (dOp2 gAdd (dDat (dOp2 gAdd (dIxN 0 (dC (.str "fold"))) (dDat (dOp2 gMul (dIxN 0 (dC (.str "count"))) (dC (.int 7907)))))) (dC (.int 37)))) (wSeq (wRet (dCel (dMod (dFdiv (dDat (dOp1 gInt (dMod (dPow (dVar 4) (dC (.int 17))) (dC (.int 2305843009213693951))))) (dC (.int 128))) (dVar 1)))) wNil)))))
def conr_law_draw (A : Adr) : Con := conDrawK
theorem dat_law_draw : ∀ cs P Y, conr_law_draw A cs P Y → runD 5 (wd_law_draw A fun C fs e => Y C fs (borsAt e (ownIx 0 cs))) cs P := by
  rintro cs P Y ⟨b, m, c, i, g, k, f, rfl, ⟨m0, m1⟩, R, hp⟩
  have ⟨r1, r2, r3, r4, r5, r6⟩ := R
  unfold wd_law_draw runD
  refine seq_gen fun kk hk => ?_
  simp (config := { decide := false }) only [runD, wNil, wBreak, wCont, wSet, wDrop, wRet, wRetN, wIf, wFor, gN, gsNil, gsCons, gT, wAsg, wPar, dCel, dDat, dVar, dC, dOp2, dOp2d, gI2, gI0, dCmp, dBl, dAsB, gB2, gEq, dAnd, dOr, dNot, dAndV, dOrV, dNotV, gAdd, gMul, dNeg, iData, dI_lst, dI_klst, dI_tup, dI_ktup, iD_lst, iD_klst, iD_tup, iD_ktup, ln_lst, ln_klst, ln_tup, ln_ktup, iR1, iR2, iZipD, iEnumD, dYes, dLc, dIx, dIxN, ixD, optP, dVw, dPeek, dOp1, gInts, gBls, gList, gTuple, gLen, gInt, aNil, aCons, dTup, dLst, dDk, dDt, dAppend, dPop, wPutL, wPutD, DV.key, dDisp, ppN, ppC, DL.kvsOf, dPopAt, wAugI, dIf, exists_and_left, exists_and_right, exists_eq_left, exists_eq_left', exists_eq', exists_eq, exists_const, exists_false, or_false, false_or, false_and, and_false, and_assoc, Option.some.injEq, Cell.o.injEq, Cell.d.injEq, OC.k.injEq, OC.l.injEq, OC.t.injEq, OC.ins.injEq, DV.int.injEq, DV.bl.injEq, DV.str.injEq,  oNone, oSome, dSl, dSlN, gSl, dRev, dCmpV, dBlV, gIn, dIsN, gIsB, dGetN1, dGetN2, gIsi, dFld, wFld, wRaise, dChain, dCall, bNil, bCons, bBor, DL.cellOf, DL.borIx, DL.putB, DL.allOwn, DL.borsAt, ownIx, parC, okSet, Cell.view, Cell.frz, OC.frz, Cell.own, Cell.bor, List.map_cons, List.map_nil, List.cons_append, List.nil_append, List.length_cons, List.length_nil, List.replicate_succ, List.replicate_zero, List.getElem?_cons_zero, List.getElem?_cons_succ, List.set_cons_zero, List.set_cons_succ, List.getD_cons_zero, List.getD_cons_succ, Option.bind_some, List.nodup_nil, List.nodup_cons, List.not_mem_nil, not_false_eq_true, true_and, and_true, if_true, if_false, ite_true, ite_false, reduceCtorEq, Nat.reduceAdd, Nat.reduceSub, Nat.zero_add, Nat.sub_self, Bool.not_true, Bool.not_false, Bool.false_eq_true, Bool.true_eq, DL.dataOf, conF, Option.map_some, Out.to, pen_cells, pen_at, pen_digits, pen_count, pen_fold, put_at, put_digits, put_count, put_fold, pen_len]
  subst hk
  refine seq_gen fun kk hk => ?_
  have hkk : ∀ (i' g' f' : Int) (x : Cell), 0 ≤ i' → 0 ≤ g' → 0 ≤ f' → f' < 2147483587 → kk [Cell.o true (OC.k (penKV c i' g' (k + 1) f')), Cell.d (DV.int m), x, Cell.un, Cell.un] := by
    intro i' g' f' x hi hg hf0 hf1
    subst hk
    refine seq_gen fun kk hk => ?_
    simp (config := { decide := false }) only [runD, wNil, wBreak, wCont, wSet, wDrop, wRet, wRetN, wIf, wFor, gN, gsNil, gsCons, gT, wAsg, wPar, dCel, dDat, dVar, dC, dOp2, dOp2d, gI2, gI0, dCmp, dBl, dAsB, gB2, gEq, dAnd, dOr, dNot, dAndV, dOrV, dNotV, gAdd, gMul, dNeg, iData, dI_lst, dI_klst, dI_tup, dI_ktup, iD_lst, iD_klst, iD_tup, iD_ktup, ln_lst, ln_klst, ln_tup, ln_ktup, iR1, iR2, iZipD, iEnumD, dYes, dLc, dIx, dIxN, ixD, optP, dVw, dPeek, dOp1, gInts, gBls, gList, gTuple, gLen, gInt, aNil, aCons, dTup, dLst, dDk, dDt, dAppend, dPop, wPutL, wPutD, DV.key, dDisp, ppN, ppC, DL.kvsOf, dPopAt, wAugI, dIf, exists_and_left, exists_and_right, exists_eq_left, exists_eq_left', exists_eq', exists_eq, exists_const, exists_false, or_false, false_or, false_and, and_false, and_assoc, Option.some.injEq, Cell.o.injEq, Cell.d.injEq, OC.k.injEq, OC.l.injEq, OC.t.injEq, OC.ins.injEq, DV.int.injEq, DV.bl.injEq, DV.str.injEq,  oNone, oSome, dSl, dSlN, gSl, dRev, dCmpV, dBlV, gIn, dIsN, gIsB, dGetN1, dGetN2, gIsi, dFld, wFld, wRaise, dChain, dCall, bNil, bCons, bBor, DL.cellOf, DL.borIx, DL.putB, DL.allOwn, DL.borsAt, ownIx, parC, okSet, Cell.view, Cell.frz, OC.frz, Cell.own, Cell.bor, List.map_cons, List.map_nil, List.cons_append, List.nil_append, List.length_cons, List.length_nil, List.replicate_succ, List.replicate_zero, List.getElem?_cons_zero, List.getElem?_cons_succ, List.set_cons_zero, List.set_cons_succ, List.getD_cons_zero, List.getD_cons_succ, Option.bind_some, List.nodup_nil, List.nodup_cons, List.not_mem_nil, not_false_eq_true, true_and, and_true, if_true, if_false, ite_true, ite_false, reduceCtorEq, Nat.reduceAdd, Nat.reduceSub, Nat.zero_add, Nat.sub_self, Bool.not_true, Bool.not_false, Bool.false_eq_true, Bool.true_eq, DL.dataOf, conF, Option.map_some, Out.to, pen_cells, pen_at, pen_digits, pen_count, pen_fold, put_at, put_digits, put_count, put_fold, pen_len]
    refine ite_dec (fun h => ?_) (fun h => ?_)
    · refine seq_gen fun k1 hk1 => ?_
      simp (config := { decide := false }) only [runD, wNil, wBreak, wCont, wSet, wDrop, wRet, wRetN, wIf, wFor, gN, gsNil, gsCons, gT, wAsg, wPar, dCel, dDat, dVar, dC, dOp2, dOp2d, gI2, gI0, dCmp, dBl, dAsB, gB2, gEq, dAnd, dOr, dNot, dAndV, dOrV, dNotV, gAdd, gMul, dNeg, iData, dI_lst, dI_klst, dI_tup, dI_ktup, iD_lst, iD_klst, iD_tup, iD_ktup, ln_lst, ln_klst, ln_tup, ln_ktup, iR1, iR2, iZipD, iEnumD, dYes, dLc, dIx, dIxN, ixD, optP, dVw, dPeek, dOp1, gInts, gBls, gList, gTuple, gLen, gInt, aNil, aCons, dTup, dLst, dDk, dDt, dAppend, dPop, wPutL, wPutD, DV.key, dDisp, ppN, ppC, DL.kvsOf, dPopAt, wAugI, dIf, exists_and_left, exists_and_right, exists_eq_left, exists_eq_left', exists_eq', exists_eq, exists_const, exists_false, or_false, false_or, false_and, and_false, and_assoc, Option.some.injEq, Cell.o.injEq, Cell.d.injEq, OC.k.injEq, OC.l.injEq, OC.t.injEq, OC.ins.injEq, DV.int.injEq, DV.bl.injEq, DV.str.injEq,  oNone, oSome, dSl, dSlN, gSl, dRev, dCmpV, dBlV, gIn, dIsN, gIsB, dGetN1, dGetN2, gIsi, dFld, wFld, wRaise, dChain, dCall, bNil, bCons, bBor, DL.cellOf, DL.borIx, DL.putB, DL.allOwn, DL.borsAt, ownIx, parC, okSet, Cell.view, Cell.frz, OC.frz, Cell.own, Cell.bor, List.map_cons, List.map_nil, List.cons_append, List.nil_append, List.length_cons, List.length_nil, List.replicate_succ, List.replicate_zero, List.getElem?_cons_zero, List.getElem?_cons_succ, List.set_cons_zero, List.set_cons_succ, List.getD_cons_zero, List.getD_cons_succ, Option.bind_some, List.nodup_nil, List.nodup_cons, List.not_mem_nil, not_false_eq_true, true_and, and_true, if_true, if_false, ite_true, ite_false, reduceCtorEq, Nat.reduceAdd, Nat.reduceSub, Nat.zero_add, Nat.sub_self, Bool.not_true, Bool.not_false, Bool.false_eq_true, Bool.true_eq, DL.dataOf, conF, Option.map_some, Out.to, pen_cells, pen_at, pen_digits, pen_count, pen_fold, put_at, put_digits, put_count, put_fold, pen_len]
      refine ⟨m0, ?_⟩
      subst hk1
      refine seq_gen fun k1 hk1 => ?_
      simp (config := { decide := false }) only [runD, wNil, wBreak, wCont, wSet, wDrop, wRet, wRetN, wIf, wFor, gN, gsNil, gsCons, gT, wAsg, wPar, dCel, dDat, dVar, dC, dOp2, dOp2d, gI2, gI0, dCmp, dBl, dAsB, gB2, gEq, dAnd, dOr, dNot, dAndV, dOrV, dNotV, gAdd, gMul, dNeg, iData, dI_lst, dI_klst, dI_tup, dI_ktup, iD_lst, iD_klst, iD_tup, iD_ktup, ln_lst, ln_klst, ln_tup, ln_ktup, iR1, iR2, iZipD, iEnumD, dYes, dLc, dIx, dIxN, ixD, optP, dVw, dPeek, dOp1, gInts, gBls, gList, gTuple, gLen, gInt, aNil, aCons, dTup, dLst, dDk, dDt, dAppend, dPop, wPutL, wPutD, DV.key, dDisp, ppN, ppC, DL.kvsOf, dPopAt, wAugI, dIf, exists_and_left, exists_and_right, exists_eq_left, exists_eq_left', exists_eq', exists_eq, exists_const, exists_false, or_false, false_or, false_and, and_false, and_assoc, Option.some.injEq, Cell.o.injEq, Cell.d.injEq, OC.k.injEq, OC.l.injEq, OC.t.injEq, OC.ins.injEq, DV.int.injEq, DV.bl.injEq, DV.str.injEq,  oNone, oSome, dSl, dSlN, gSl, dRev, dCmpV, dBlV, gIn, dIsN, gIsB, dGetN1, dGetN2, gIsi, dFld, wFld, wRaise, dChain, dCall, bNil, bCons, bBor, DL.cellOf, DL.borIx, DL.putB, DL.allOwn, DL.borsAt, ownIx, parC, okSet, Cell.view, Cell.frz, OC.frz, Cell.own, Cell.bor, List.map_cons, List.map_nil, List.cons_append, List.nil_append, List.length_cons, List.length_nil, List.replicate_succ, List.replicate_zero, List.getElem?_cons_zero, List.getElem?_cons_succ, List.set_cons_zero, List.set_cons_succ, List.getD_cons_zero, List.getD_cons_succ, Option.bind_some, List.nodup_nil, List.nodup_cons, List.not_mem_nil, not_false_eq_true, true_and, and_true, if_true, if_false, ite_true, ite_false, reduceCtorEq, Nat.reduceAdd, Nat.reduceSub, Nat.zero_add, Nat.sub_self, Bool.not_true, Bool.not_false, Bool.false_eq_true, Bool.true_eq, DL.dataOf, conF, Option.map_some, Out.to, pen_cells, pen_at, pen_digits, pen_count, pen_fold, put_at, put_digits, put_count, put_fold, pen_len]
      refine ⟨⟨m0, m1⟩, ?_⟩
      subst hk1
      refine seq_gen fun k1 hk1 => ?_
      simp (config := { decide := false }) only [runD, wNil, wBreak, wCont, wSet, wDrop, wRet, wRetN, wIf, wFor, gN, gsNil, gsCons, gT, wAsg, wPar, dCel, dDat, dVar, dC, dOp2, dOp2d, gI2, gI0, dCmp, dBl, dAsB, gB2, gEq, dAnd, dOr, dNot, dAndV, dOrV, dNotV, gAdd, gMul, dNeg, iData, dI_lst, dI_klst, dI_tup, dI_ktup, iD_lst, iD_klst, iD_tup, iD_ktup, ln_lst, ln_klst, ln_tup, ln_ktup, iR1, iR2, iZipD, iEnumD, dYes, dLc, dIx, dIxN, ixD, optP, dVw, dPeek, dOp1, gInts, gBls, gList, gTuple, gLen, gInt, aNil, aCons, dTup, dLst, dDk, dDt, dAppend, dPop, wPutL, wPutD, DV.key, dDisp, ppN, ppC, DL.kvsOf, dPopAt, wAugI, dIf, exists_and_left, exists_and_right, exists_eq_left, exists_eq_left', exists_eq', exists_eq, exists_const, exists_false, or_false, false_or, false_and, and_false, and_assoc, Option.some.injEq, Cell.o.injEq, Cell.d.injEq, OC.k.injEq, OC.l.injEq, OC.t.injEq, OC.ins.injEq, DV.int.injEq, DV.bl.injEq, DV.str.injEq,  oNone, oSome, dSl, dSlN, gSl, dRev, dCmpV, dBlV, gIn, dIsN, gIsB, dGetN1, dGetN2, gIsi, dFld, wFld, wRaise, dChain, dCall, bNil, bCons, bBor, DL.cellOf, DL.borIx, DL.putB, DL.allOwn, DL.borsAt, ownIx, parC, okSet, Cell.view, Cell.frz, OC.frz, Cell.own, Cell.bor, List.map_cons, List.map_nil, List.cons_append, List.nil_append, List.length_cons, List.length_nil, List.replicate_succ, List.replicate_zero, List.getElem?_cons_zero, List.getElem?_cons_succ, List.set_cons_zero, List.set_cons_succ, List.getD_cons_zero, List.getD_cons_succ, Option.bind_some, List.nodup_nil, List.nodup_cons, List.not_mem_nil, not_false_eq_true, true_and, and_true, if_true, if_false, ite_true, ite_false, reduceCtorEq, Nat.reduceAdd, Nat.reduceSub, Nat.zero_add, Nat.sub_self, Bool.not_true, Bool.not_false, Bool.false_eq_true, Bool.true_eq, DL.dataOf, conF, Option.map_some, Out.to, pen_cells, pen_at, pen_digits, pen_count, pen_fold, put_at, put_digits, put_count, put_fold, pen_len]
      exact hp _ _ _ _ (Int.emod_nonneg _ (Int.ne_of_gt m0)) (Int.emod_lt_of_pos _ m0) ⟨hi, Int.ediv_nonneg hg (Int.le_of_lt m0), r3, r4, hf0, hf1⟩
    · subst hk
      refine seq_gen fun k1 hk1 => ?_
      simp (config := { decide := false }) only [runD, wNil, wBreak, wCont, wSet, wDrop, wRet, wRetN, wIf, wFor, gN, gsNil, gsCons, gT, wAsg, wPar, dCel, dDat, dVar, dC, dOp2, dOp2d, gI2, gI0, dCmp, dBl, dAsB, gB2, gEq, dAnd, dOr, dNot, dAndV, dOrV, dNotV, gAdd, gMul, dNeg, iData, dI_lst, dI_klst, dI_tup, dI_ktup, iD_lst, iD_klst, iD_tup, iD_ktup, ln_lst, ln_klst, ln_tup, ln_ktup, iR1, iR2, iZipD, iEnumD, dYes, dLc, dIx, dIxN, ixD, optP, dVw, dPeek, dOp1, gInts, gBls, gList, gTuple, gLen, gInt, aNil, aCons, dTup, dLst, dDk, dDt, dAppend, dPop, wPutL, wPutD, DV.key, dDisp, ppN, ppC, DL.kvsOf, dPopAt, wAugI, dIf, exists_and_left, exists_and_right, exists_eq_left, exists_eq_left', exists_eq', exists_eq, exists_const, exists_false, or_false, false_or, false_and, and_false, and_assoc, Option.some.injEq, Cell.o.injEq, Cell.d.injEq, OC.k.injEq, OC.l.injEq, OC.t.injEq, OC.ins.injEq, DV.int.injEq, DV.bl.injEq, DV.str.injEq,  oNone, oSome, dSl, dSlN, gSl, dRev, dCmpV, dBlV, gIn, dIsN, gIsB, dGetN1, dGetN2, gIsi, dFld, wFld, wRaise, dChain, dCall, bNil, bCons, bBor, DL.cellOf, DL.borIx, DL.putB, DL.allOwn, DL.borsAt, ownIx, parC, okSet, Cell.view, Cell.frz, OC.frz, Cell.own, Cell.bor, List.map_cons, List.map_nil, List.cons_append, List.nil_append, List.length_cons, List.length_nil, List.replicate_succ, List.replicate_zero, List.getElem?_cons_zero, List.getElem?_cons_succ, List.set_cons_zero, List.set_cons_succ, List.getD_cons_zero, List.getD_cons_succ, Option.bind_some, List.nodup_nil, List.nodup_cons, List.not_mem_nil, not_false_eq_true, true_and, and_true, if_true, if_false, ite_true, ite_false, reduceCtorEq, Nat.reduceAdd, Nat.reduceSub, Nat.zero_add, Nat.sub_self, Bool.not_true, Bool.not_false, Bool.false_eq_true, Bool.true_eq, DL.dataOf, conF, Option.map_some, Out.to, pen_cells, pen_at, pen_digits, pen_count, pen_fold, put_at, put_digits, put_count, put_fold, pen_len]
      subst hk1
      refine ⟨.inl (.inr ⟨by decide, by decide⟩), ?_⟩
      refine seq_gen fun k1 hk1 => ?_
      simp (config := { decide := false }) only [runD, wNil, wBreak, wCont, wSet, wDrop, wRet, wRetN, wIf, wFor, gN, gsNil, gsCons, gT, wAsg, wPar, dCel, dDat, dVar, dC, dOp2, dOp2d, gI2, gI0, dCmp, dBl, dAsB, gB2, gEq, dAnd, dOr, dNot, dAndV, dOrV, dNotV, gAdd, gMul, dNeg, iData, dI_lst, dI_klst, dI_tup, dI_ktup, iD_lst, iD_klst, iD_tup, iD_ktup, ln_lst, ln_klst, ln_tup, ln_ktup, iR1, iR2, iZipD, iEnumD, dYes, dLc, dIx, dIxN, ixD, optP, dVw, dPeek, dOp1, gInts, gBls, gList, gTuple, gLen, gInt, aNil, aCons, dTup, dLst, dDk, dDt, dAppend, dPop, wPutL, wPutD, DV.key, dDisp, ppN, ppC, DL.kvsOf, dPopAt, wAugI, dIf, exists_and_left, exists_and_right, exists_eq_left, exists_eq_left', exists_eq', exists_eq, exists_const, exists_false, or_false, false_or, false_and, and_false, and_assoc, Option.some.injEq, Cell.o.injEq, Cell.d.injEq, OC.k.injEq, OC.l.injEq, OC.t.injEq, OC.ins.injEq, DV.int.injEq, DV.bl.injEq, DV.str.injEq,  oNone, oSome, dSl, dSlN, gSl, dRev, dCmpV, dBlV, gIn, dIsN, gIsB, dGetN1, dGetN2, gIsi, dFld, wFld, wRaise, dChain, dCall, bNil, bCons, bBor, DL.cellOf, DL.borIx, DL.putB, DL.allOwn, DL.borsAt, ownIx, parC, okSet, Cell.view, Cell.frz, OC.frz, Cell.own, Cell.bor, List.map_cons, List.map_nil, List.cons_append, List.nil_append, List.length_cons, List.length_nil, List.replicate_succ, List.replicate_zero, List.getElem?_cons_zero, List.getElem?_cons_succ, List.set_cons_zero, List.set_cons_succ, List.getD_cons_zero, List.getD_cons_succ, Option.bind_some, List.nodup_nil, List.nodup_cons, List.not_mem_nil, not_false_eq_true, true_and, and_true, if_true, if_false, ite_true, ite_false, reduceCtorEq, Nat.reduceAdd, Nat.reduceSub, Nat.zero_add, Nat.sub_self, Bool.not_true, Bool.not_false, Bool.false_eq_true, Bool.true_eq, DL.dataOf, conF, Option.map_some, Out.to, pen_cells, pen_at, pen_digits, pen_count, pen_fold, put_at, put_digits, put_count, put_fold, pen_len]
      have hl := lim1
      refine ⟨pow17 (by omega) (by omega), by decide, ⟨by decide, by decide⟩, m0, ?_⟩
      exact hp _ _ _ _ (Int.emod_nonneg _ (Int.ne_of_gt m0)) (Int.emod_lt_of_pos _ m0) ⟨hi, hg, r3, r4, hf0, hf1⟩
  simp (config := { decide := false }) only [runD, wNil, wBreak, wCont, wSet, wDrop, wRet, wRetN, wIf, wFor, gN, gsNil, gsCons, gT, wAsg, wPar, dCel, dDat, dVar, dC, dOp2, dOp2d, gI2, gI0, dCmp, dBl, dAsB, gB2, gEq, dAnd, dOr, dNot, dAndV, dOrV, dNotV, gAdd, gMul, dNeg, iData, dI_lst, dI_klst, dI_tup, dI_ktup, iD_lst, iD_klst, iD_tup, iD_ktup, ln_lst, ln_klst, ln_tup, ln_ktup, iR1, iR2, iZipD, iEnumD, dYes, dLc, dIx, dIxN, ixD, optP, dVw, dPeek, dOp1, gInts, gBls, gList, gTuple, gLen, gInt, aNil, aCons, dTup, dLst, dDk, dDt, dAppend, dPop, wPutL, wPutD, DV.key, dDisp, ppN, ppC, DL.kvsOf, dPopAt, wAugI, dIf, exists_and_left, exists_and_right, exists_eq_left, exists_eq_left', exists_eq', exists_eq, exists_const, exists_false, or_false, false_or, false_and, and_false, and_assoc, Option.some.injEq, Cell.o.injEq, Cell.d.injEq, OC.k.injEq, OC.l.injEq, OC.t.injEq, OC.ins.injEq, DV.int.injEq, DV.bl.injEq, DV.str.injEq,  oNone, oSome, dSl, dSlN, gSl, dRev, dCmpV, dBlV, gIn, dIsN, gIsB, dGetN1, dGetN2, gIsi, dFld, wFld, wRaise, dChain, dCall, bNil, bCons, bBor, DL.cellOf, DL.borIx, DL.putB, DL.allOwn, DL.borsAt, ownIx, parC, okSet, Cell.view, Cell.frz, OC.frz, Cell.own, Cell.bor, List.map_cons, List.map_nil, List.cons_append, List.nil_append, List.length_cons, List.length_nil, List.replicate_succ, List.replicate_zero, List.getElem?_cons_zero, List.getElem?_cons_succ, List.set_cons_zero, List.set_cons_succ, List.getD_cons_zero, List.getD_cons_succ, Option.bind_some, List.nodup_nil, List.nodup_cons, List.not_mem_nil, not_false_eq_true, true_and, and_true, if_true, if_false, ite_true, ite_false, reduceCtorEq, Nat.reduceAdd, Nat.reduceSub, Nat.zero_add, Nat.sub_self, Bool.not_true, Bool.not_false, Bool.false_eq_true, Bool.true_eq, DL.dataOf, conF, Option.map_some, Out.to, pen_cells, pen_at, pen_digits, pen_count, pen_fold, put_at, put_digits, put_count, put_fold, pen_len, ok_int, eqD_int]
  refine ite_dec (fun h => ?_) (fun h => ?_)
  · refine ite_dec (fun h2 => ?_) (fun h2 => ?_)
    · refine seq_gen fun k1 hk1 => ?_
      simp (config := { decide := false }) only [runD, wNil, wBreak, wCont, wSet, wDrop, wRet, wRetN, wIf, wFor, gN, gsNil, gsCons, gT, wAsg, wPar, dCel, dDat, dVar, dC, dOp2, dOp2d, gI2, gI0, dCmp, dBl, dAsB, gB2, gEq, dAnd, dOr, dNot, dAndV, dOrV, dNotV, gAdd, gMul, dNeg, iData, dI_lst, dI_klst, dI_tup, dI_ktup, iD_lst, iD_klst, iD_tup, iD_ktup, ln_lst, ln_klst, ln_tup, ln_ktup, iR1, iR2, iZipD, iEnumD, dYes, dLc, dIx, dIxN, ixD, optP, dVw, dPeek, dOp1, gInts, gBls, gList, gTuple, gLen, gInt, aNil, aCons, dTup, dLst, dDk, dDt, dAppend, dPop, wPutL, wPutD, DV.key, dDisp, ppN, ppC, DL.kvsOf, dPopAt, wAugI, dIf, exists_and_left, exists_and_right, exists_eq_left, exists_eq_left', exists_eq', exists_eq, exists_const, exists_false, or_false, false_or, false_and, and_false, and_assoc, Option.some.injEq, Cell.o.injEq, Cell.d.injEq, OC.k.injEq, OC.l.injEq, OC.t.injEq, OC.ins.injEq, DV.int.injEq, DV.bl.injEq, DV.str.injEq,  oNone, oSome, dSl, dSlN, gSl, dRev, dCmpV, dBlV, gIn, dIsN, gIsB, dGetN1, dGetN2, gIsi, dFld, wFld, wRaise, dChain, dCall, bNil, bCons, bBor, DL.cellOf, DL.borIx, DL.putB, DL.allOwn, DL.borsAt, ownIx, parC, okSet, Cell.view, Cell.frz, OC.frz, Cell.own, Cell.bor, List.map_cons, List.map_nil, List.cons_append, List.nil_append, List.length_cons, List.length_nil, List.replicate_succ, List.replicate_zero, List.getElem?_cons_zero, List.getElem?_cons_succ, List.set_cons_zero, List.set_cons_succ, List.getD_cons_zero, List.getD_cons_succ, Option.bind_some, List.nodup_nil, List.nodup_cons, List.not_mem_nil, not_false_eq_true, true_and, and_true, if_true, if_false, ite_true, ite_false, reduceCtorEq, Nat.reduceAdd, Nat.reduceSub, Nat.zero_add, Nat.sub_self, Bool.not_true, Bool.not_false, Bool.false_eq_true, Bool.true_eq, DL.dataOf, conF, Option.map_some, Out.to, pen_cells, pen_at, pen_digits, pen_count, pen_fold, put_at, put_digits, put_count, put_fold, pen_len]
      obtain ⟨z, ez⟩ := atI_int r1 h2
      rw [ez]
      dsimp only
      subst hk1
      refine seq_gen fun k1 hk1 => ?_
      simp (config := { decide := false }) only [runD, wNil, wBreak, wCont, wSet, wDrop, wRet, wRetN, wIf, wFor, gN, gsNil, gsCons, gT, wAsg, wPar, dCel, dDat, dVar, dC, dOp2, dOp2d, gI2, gI0, dCmp, dBl, dAsB, gB2, gEq, dAnd, dOr, dNot, dAndV, dOrV, dNotV, gAdd, gMul, dNeg, iData, dI_lst, dI_klst, dI_tup, dI_ktup, iD_lst, iD_klst, iD_tup, iD_ktup, ln_lst, ln_klst, ln_tup, ln_ktup, iR1, iR2, iZipD, iEnumD, dYes, dLc, dIx, dIxN, ixD, optP, dVw, dPeek, dOp1, gInts, gBls, gList, gTuple, gLen, gInt, aNil, aCons, dTup, dLst, dDk, dDt, dAppend, dPop, wPutL, wPutD, DV.key, dDisp, ppN, ppC, DL.kvsOf, dPopAt, wAugI, dIf, exists_and_left, exists_and_right, exists_eq_left, exists_eq_left', exists_eq', exists_eq, exists_const, exists_false, or_false, false_or, false_and, and_false, and_assoc, Option.some.injEq, Cell.o.injEq, Cell.d.injEq, OC.k.injEq, OC.l.injEq, OC.t.injEq, OC.ins.injEq, DV.int.injEq, DV.bl.injEq, DV.str.injEq,  oNone, oSome, dSl, dSlN, gSl, dRev, dCmpV, dBlV, gIn, dIsN, gIsB, dGetN1, dGetN2, gIsi, dFld, wFld, wRaise, dChain, dCall, bNil, bCons, bBor, DL.cellOf, DL.borIx, DL.putB, DL.allOwn, DL.borsAt, ownIx, parC, okSet, Cell.view, Cell.frz, OC.frz, Cell.own, Cell.bor, List.map_cons, List.map_nil, List.cons_append, List.nil_append, List.length_cons, List.length_nil, List.replicate_succ, List.replicate_zero, List.getElem?_cons_zero, List.getElem?_cons_succ, List.set_cons_zero, List.set_cons_succ, List.getD_cons_zero, List.getD_cons_succ, Option.bind_some, List.nodup_nil, List.nodup_cons, List.not_mem_nil, not_false_eq_true, true_and, and_true, if_true, if_false, ite_true, ite_false, reduceCtorEq, Nat.reduceAdd, Nat.reduceSub, Nat.zero_add, Nat.sub_self, Bool.not_true, Bool.not_false, Bool.false_eq_true, Bool.true_eq, DL.dataOf, conF, Option.map_some, Out.to, pen_cells, pen_at, pen_digits, pen_count, pen_fold, put_at, put_digits, put_count, put_fold, pen_len]
      subst hk1
      refine seq_gen fun k1 hk1 => ?_
      simp (config := { decide := false }) only [runD, wNil, wBreak, wCont, wSet, wDrop, wRet, wRetN, wIf, wFor, gN, gsNil, gsCons, gT, wAsg, wPar, dCel, dDat, dVar, dC, dOp2, dOp2d, gI2, gI0, dCmp, dBl, dAsB, gB2, gEq, dAnd, dOr, dNot, dAndV, dOrV, dNotV, gAdd, gMul, dNeg, iData, dI_lst, dI_klst, dI_tup, dI_ktup, iD_lst, iD_klst, iD_tup, iD_ktup, ln_lst, ln_klst, ln_tup, ln_ktup, iR1, iR2, iZipD, iEnumD, dYes, dLc, dIx, dIxN, ixD, optP, dVw, dPeek, dOp1, gInts, gBls, gList, gTuple, gLen, gInt, aNil, aCons, dTup, dLst, dDk, dDt, dAppend, dPop, wPutL, wPutD, DV.key, dDisp, ppN, ppC, DL.kvsOf, dPopAt, wAugI, dIf, exists_and_left, exists_and_right, exists_eq_left, exists_eq_left', exists_eq', exists_eq, exists_const, exists_false, or_false, false_or, false_and, and_false, and_assoc, Option.some.injEq, Cell.o.injEq, Cell.d.injEq, OC.k.injEq, OC.l.injEq, OC.t.injEq, OC.ins.injEq, DV.int.injEq, DV.bl.injEq, DV.str.injEq,  oNone, oSome, dSl, dSlN, gSl, dRev, dCmpV, dBlV, gIn, dIsN, gIsB, dGetN1, dGetN2, gIsi, dFld, wFld, wRaise, dChain, dCall, bNil, bCons, bBor, DL.cellOf, DL.borIx, DL.putB, DL.allOwn, DL.borsAt, ownIx, parC, okSet, Cell.view, Cell.frz, OC.frz, Cell.own, Cell.bor, List.map_cons, List.map_nil, List.cons_append, List.nil_append, List.length_cons, List.length_nil, List.replicate_succ, List.replicate_zero, List.getElem?_cons_zero, List.getElem?_cons_succ, List.set_cons_zero, List.set_cons_succ, List.getD_cons_zero, List.getD_cons_succ, Option.bind_some, List.nodup_nil, List.nodup_cons, List.not_mem_nil, not_false_eq_true, true_and, and_true, if_true, if_false, ite_true, ite_false, reduceCtorEq, Nat.reduceAdd, Nat.reduceSub, Nat.zero_add, Nat.sub_self, Bool.not_true, Bool.not_false, Bool.false_eq_true, Bool.true_eq, DL.dataOf, conF, Option.map_some, Out.to, pen_cells, pen_at, pen_digits, pen_count, pen_fold, put_at, put_digits, put_count, put_fold, pen_len]
      refine ⟨⟨by decide, by decide⟩, ?_⟩
      refine ite_dec (fun h3 => ?_) (fun h3 => ?_)
      · refine seq_gen fun k2 hk2 => ?_
        simp (config := { decide := false }) only [runD, wNil, wBreak, wCont, wSet, wDrop, wRet, wRetN, wIf, wFor, gN, gsNil, gsCons, gT, wAsg, wPar, dCel, dDat, dVar, dC, dOp2, dOp2d, gI2, gI0, dCmp, dBl, dAsB, gB2, gEq, dAnd, dOr, dNot, dAndV, dOrV, dNotV, gAdd, gMul, dNeg, iData, dI_lst, dI_klst, dI_tup, dI_ktup, iD_lst, iD_klst, iD_tup, iD_ktup, ln_lst, ln_klst, ln_tup, ln_ktup, iR1, iR2, iZipD, iEnumD, dYes, dLc, dIx, dIxN, ixD, optP, dVw, dPeek, dOp1, gInts, gBls, gList, gTuple, gLen, gInt, aNil, aCons, dTup, dLst, dDk, dDt, dAppend, dPop, wPutL, wPutD, DV.key, dDisp, ppN, ppC, DL.kvsOf, dPopAt, wAugI, dIf, exists_and_left, exists_and_right, exists_eq_left, exists_eq_left', exists_eq', exists_eq, exists_const, exists_false, or_false, false_or, false_and, and_false, and_assoc, Option.some.injEq, Cell.o.injEq, Cell.d.injEq, OC.k.injEq, OC.l.injEq, OC.t.injEq, OC.ins.injEq, DV.int.injEq, DV.bl.injEq, DV.str.injEq,  oNone, oSome, dSl, dSlN, gSl, dRev, dCmpV, dBlV, gIn, dIsN, gIsB, dGetN1, dGetN2, gIsi, dFld, wFld, wRaise, dChain, dCall, bNil, bCons, bBor, DL.cellOf, DL.borIx, DL.putB, DL.allOwn, DL.borsAt, ownIx, parC, okSet, Cell.view, Cell.frz, OC.frz, Cell.own, Cell.bor, List.map_cons, List.map_nil, List.cons_append, List.nil_append, List.length_cons, List.length_nil, List.replicate_succ, List.replicate_zero, List.getElem?_cons_zero, List.getElem?_cons_succ, List.set_cons_zero, List.set_cons_succ, List.getD_cons_zero, List.getD_cons_succ, Option.bind_some, List.nodup_nil, List.nodup_cons, List.not_mem_nil, not_false_eq_true, true_and, and_true, if_true, if_false, ite_true, ite_false, reduceCtorEq, Nat.reduceAdd, Nat.reduceSub, Nat.zero_add, Nat.sub_self, Bool.not_true, Bool.not_false, Bool.false_eq_true, Bool.true_eq, DL.dataOf, conF, Option.map_some, Out.to, pen_cells, pen_at, pen_digits, pen_count, pen_fold, put_at, put_digits, put_count, put_fold, pen_len]
        refine ⟨⟨by decide, by decide⟩, ?_⟩
        subst hk2
        subst hk1
        exact hkk _ _ _ _ (by omega) (by omega) r5 r6
      · refine seq_gen fun k2 hk2 => ?_
        simp (config := { decide := false }) only [runD, wNil, wBreak, wCont, wSet, wDrop, wRet, wRetN, wIf, wFor, gN, gsNil, gsCons, gT, wAsg, wPar, dCel, dDat, dVar, dC, dOp2, dOp2d, gI2, gI0, dCmp, dBl, dAsB, gB2, gEq, dAnd, dOr, dNot, dAndV, dOrV, dNotV, gAdd, gMul, dNeg, iData, dI_lst, dI_klst, dI_tup, dI_ktup, iD_lst, iD_klst, iD_tup, iD_ktup, ln_lst, ln_klst, ln_tup, ln_ktup, iR1, iR2, iZipD, iEnumD, dYes, dLc, dIx, dIxN, ixD, optP, dVw, dPeek, dOp1, gInts, gBls, gList, gTuple, gLen, gInt, aNil, aCons, dTup, dLst, dDk, dDt, dAppend, dPop, wPutL, wPutD, DV.key, dDisp, ppN, ppC, DL.kvsOf, dPopAt, wAugI, dIf, exists_and_left, exists_and_right, exists_eq_left, exists_eq_left', exists_eq', exists_eq, exists_const, exists_false, or_false, false_or, false_and, and_false, and_assoc, Option.some.injEq, Cell.o.injEq, Cell.d.injEq, OC.k.injEq, OC.l.injEq, OC.t.injEq, OC.ins.injEq, DV.int.injEq, DV.bl.injEq, DV.str.injEq,  oNone, oSome, dSl, dSlN, gSl, dRev, dCmpV, dBlV, gIn, dIsN, gIsB, dGetN1, dGetN2, gIsi, dFld, wFld, wRaise, dChain, dCall, bNil, bCons, bBor, DL.cellOf, DL.borIx, DL.putB, DL.allOwn, DL.borsAt, ownIx, parC, okSet, Cell.view, Cell.frz, OC.frz, Cell.own, Cell.bor, List.map_cons, List.map_nil, List.cons_append, List.nil_append, List.length_cons, List.length_nil, List.replicate_succ, List.replicate_zero, List.getElem?_cons_zero, List.getElem?_cons_succ, List.set_cons_zero, List.set_cons_succ, List.getD_cons_zero, List.getD_cons_succ, Option.bind_some, List.nodup_nil, List.nodup_cons, List.not_mem_nil, not_false_eq_true, true_and, and_true, if_true, if_false, ite_true, ite_false, reduceCtorEq, Nat.reduceAdd, Nat.reduceSub, Nat.zero_add, Nat.sub_self, Bool.not_true, Bool.not_false, Bool.false_eq_true, Bool.true_eq, DL.dataOf, conF, Option.map_some, Out.to, pen_cells, pen_at, pen_digits, pen_count, pen_fold, put_at, put_digits, put_count, put_fold, pen_len]
        refine ⟨.inl (.inr ⟨by decide, by decide⟩), by decide, ?_⟩
        subst hk2
        subst hk1
        exact hkk _ _ _ _ (by omega) r2 (Int.emod_nonneg _ (by decide)) (Int.emod_lt_of_pos _ (by decide))
    · exact hkk _ _ _ _ r1 r2 r5 r6
  · exact hkk _ _ _ _ r1 r2 r5 r6
theorem okr_law_draw (T : Txt K mg A) {TB : List (Addr × Str)} : FnOk P w K mg base (L2.CX P w) 1 A.f_law_draw A.fd_law_draw ["_law_pen_here", "_law_many"] (SpD K TB 0 (conr_law_draw A)) :=
  okD (c := _) (wd := wd_law_draw A) T.F_law_draw sc_law_draw (fun cs P Y ⟨b, m, c, i, g, k, f, e, _⟩ => by rw [e]; rfl) (by exact Nat.le_of_ble_eq_true rfl) (fun cdv A1 outer s H E G M hM hr => (psCons (psPutD 0 (u1 hr) (PEc.dat (pcAdd (pdIxN 0 (u1 hr) pdStr (fun _ _ => rfl)) pdInt)) pdStr) (psCons (psIf (PWd.pt (pwAnd (ptEq hr.units (pdIxN 0 (u1 hr) pdStr (fun _ _ => rfl)) pdInt) (pwAnd1 (ptLt (pdIxN 0 (u1 hr) pdStr (fun _ _ => rfl)) (PEc.dat (pcLen (by rfl) T.no_len (PEd.vw (pdIxN 0 (u1 hr) pdStr (fun _ _ => rfl))))))))) (psCons (psSet (i := 2) sc_law_draw.nd rfl (by first | exact Or.inl rfl | exact Or.inr rfl) (PEd.cel (pdIx (u1 hr) (pdIxN 0 (u1 hr) pdStr (fun _ _ => rfl)) (pdIxN 0 (u1 hr) pdStr (fun _ _ => rfl)) (fun _ _ => rfl)))) (psCons (psPutD 0 (u1 hr) (PEc.dat (pcAdd (pdIxN 0 (u1 hr) pdStr (fun _ _ => rfl)) pdInt)) pdStr) (psCons (psIf (ptGe (pdVar 2) (pdPow pdInt pdInt)) (psCons (psPutD 0 (u1 hr) (pdSub (pdVar 2) (pdPow pdInt pdInt)) pdStr) psNil) (psCons (psPutD 0 (u1 hr) (pdMod (PEc.dat (pcInt (by rfl) T.no_int (PEc.vw (pcAdd (PEc.dat (pcMul (pdIxN 0 (u1 hr) pdStr (fun _ _ => rfl)) pdInt)) (pdVar 2))))) pdInt) pdStr) psNil)) psNil))) psNil) (psCons (psIf (ptGt (pdIxN 0 (u1 hr) pdStr (fun _ _ => rfl)) pdInt) (psCons (psSet (i := 3) sc_law_draw.nd rfl (by first | exact Or.inl rfl | exact Or.inr rfl) (PEd.cel (pdMod (PEc.dat (pcInt (by rfl) T.no_int (PEd.vw (pdIxN 0 (u1 hr) pdStr (fun _ _ => rfl))))) (pdVar 1)))) (psCons (psPutD 0 (u1 hr) (pdFdiv (pdIxN 0 (u1 hr) pdStr (fun _ _ => rfl)) (pdVar 1)) pdStr) (psCons (psRet (PEd.cel (pdVar 3))) psNil))) psNil) (psCons (psSet (i := 4) sc_law_draw.nd rfl (by first | exact Or.inl rfl | exact Or.inr rfl) (pcAdd (PEc.dat (pcAdd (pdIxN 0 (u1 hr) pdStr (fun _ _ => rfl)) (PEc.dat (pcMul (pdIxN 0 (u1 hr) pdStr (fun _ _ => rfl)) pdInt)))) pdInt)) (psCons (psRet (PEd.cel (pdMod (pdFdiv (PEc.dat (pcInt (by rfl) T.no_int (PEd.vw (pdMod (pdPow (pdVar 4) pdInt) pdInt)))) pdInt) (pdVar 1)))) psNil)))))) dat_law_draw
def con_law_draw (A : Adr) : Con := conDraw
theorem mono_law_draw : ConMono (con_law_draw A) := mono_conDraw
theorem ok_law_draw (T : Txt K mg A) {TB : List (Addr × Str)} : FnOk P w K mg base (L2.CX P w) 1 A.f_law_draw A.fd_law_draw ["_law_pen_here", "_law_many"] (SpD K TB 1 (con_law_draw A)) := draw_ok (okr_law_draw T)
/-! ### _law_pick -/
def wd_law_pick (A : Adr) (G : Addr → List (Str × DV) → List Cell → Prop) : WS := (wSeq (wRet (dCel (dIxN 1 (dDat (dCall (con_law_draw A) G (bBor 0 (bCons (dDat (dOp1 gLen (dPeek 1))) bNil))))))) wNil)
def con_law_pick (A : Adr) : Con := conPick
theorem mono_law_pick : ConMono (con_law_pick A) := mono_conPick
theorem dat_law_pick : ∀ cs P Y, con_law_pick A cs P Y → runD 2 (wd_law_pick A fun C fs e => Y C fs (borsAt e (ownIx 0 cs))) cs P := by
  intro cs P Y h
  obtain ⟨b, l, xs, rfl, hi, ⟨h1, h2⟩, hp⟩ := conPick_inv h
  unfold wd_law_pick runD
  refine seq_gen fun k hk => ?_
  have h0 : 0 < xs.length := List.length_pos_iff.mpr h1
  cases l <;> cases hi
  all_goals
    simp (config := { decide := false }) only [runD, wNil, wBreak, wCont, wSet, wDrop, wRet, wRetN, wIf, wFor, gN, gsNil, gsCons, gT, wAsg, wPar, dCel, dDat, dVar, dC, dOp2, dOp2d, gI2, gI0, dCmp, dBl, dAsB, gB2, gEq, dAnd, dOr, dNot, dAndV, dOrV, dNotV, gAdd, gMul, dNeg, iData, dI_lst, dI_klst, dI_tup, dI_ktup, iD_lst, iD_klst, iD_tup, iD_ktup, ln_lst, ln_klst, ln_tup, ln_ktup, iR1, iR2, iZipD, iEnumD, dYes, dLc, dIx, dIxN, ixD, optP, dVw, dPeek, dOp1, gInts, gBls, gList, gTuple, gLen, gInt, aNil, aCons, dTup, dLst, dDk, dDt, dAppend, dPop, wPutL, wPutD, DV.key, dDisp, ppN, ppC, DL.kvsOf, dPopAt, wAugI, dIf, exists_and_left, exists_and_right, exists_eq_left, exists_eq_left', exists_eq', exists_eq, exists_const, exists_false, or_false, false_or, false_and, and_false, and_assoc, Option.some.injEq, Cell.o.injEq, Cell.d.injEq, OC.k.injEq, OC.l.injEq, OC.t.injEq, OC.ins.injEq, DV.int.injEq, DV.bl.injEq, DV.str.injEq,  oNone, oSome, dSl, dSlN, gSl, dRev, dCmpV, dBlV, gIn, dIsN, gIsB, dGetN1, dGetN2, gIsi, dFld, wFld, wRaise, dChain, dCall, bNil, bCons, bBor, DL.cellOf, DL.borIx, DL.putB, DL.allOwn, DL.borsAt, ownIx, parC, okSet, Cell.view, Cell.frz, OC.frz, Cell.own, Cell.bor, List.map_cons, List.map_nil, List.cons_append, List.nil_append, List.length_cons, List.length_nil, List.replicate_succ, List.replicate_zero, List.getElem?_cons_zero, List.getElem?_cons_succ, List.set_cons_zero, List.set_cons_succ, List.getD_cons_zero, List.getD_cons_succ, Option.bind_some, List.nodup_nil, List.nodup_cons, List.not_mem_nil, not_false_eq_true, true_and, and_true, if_true, if_false, ite_true, ite_false, reduceCtorEq, Nat.reduceAdd, Nat.reduceSub, Nat.zero_add, Nat.sub_self, Bool.not_true, Bool.not_false, Bool.false_eq_true, Bool.true_eq, DL.dataOf, conF, Option.map_some, Out.to, con_law_draw, conDraw]
    refine ⟨by omega, log_small h2, fun r r0 r1 => ?_⟩
    obtain ⟨d, e1, e2⟩ := atI_in r0 r1
    rw [e2]
    exact hp d (List.mem_of_getElem? e1)
theorem ok_law_pick (T : Txt K mg A) {TB : List (Addr × Str)} : FnOk P w K mg base (L2.CX P w) 2 A.f_law_pick A.fd_law_pick ["_law_pen_here", "_law_some"] (SpD K TB 1 (con_law_pick A)) :=
  okD (c := _) (wd := wd_law_pick A) T.F_law_pick sc_law_pick (fun cs P Y h => by obtain ⟨b, l, xs, rfl, _⟩ := conPick_inv h; rfl) (by exact Nat.le_of_ble_eq_true rfl) (fun cdv A1 outer s H E G M hM hr => (psCons (psRet (PEd.cel (pdIxN 1 (u1 hr) (PEc.dat (pcCall mono_law_draw (ok_law_draw T) (hr.mono (by decide)) passD (by rfl) T.mg_law_draw T.F_law_draw.2 (b_law_draw T) (pbBor 0 (pbCons (PEc.dat (pcLen (by rfl) T.no_len (pvName 1))) pbNil)))) (fun _ _ => rfl)))) psNil)) dat_law_pick
/-! ### _law_is_whole -/
def wd_law_is_whole (A : Adr) (G : Addr → List (Str × DV) → List Cell → Prop) : WS := (wSeq (wRet (dCel (dAndV (dOp2d (gIsi A.rel) (dVar 0) (dC (.ty "int"))) (dNotV (dOp2d (gIsi A.rel) (dVar 0) (dC (.ty "bool"))))))) wNil)
def con_law_is_whole (A : Adr) : Con := conF 1 f_is_number
theorem mono_law_is_whole : ConMono (con_law_is_whole A) := mono_conF
theorem dat_law_is_whole : ∀ cs P Y, con_law_is_whole A cs P Y → runD 1 (wd_law_is_whole A fun C fs e => Y C fs (borsAt e (ownIx 0 cs))) cs P := by
  intro cs P Y h
  obtain ⟨xs, r, rfl, hl, hf, hr⟩ := conF_inv h
  obtain ⟨x, rfl⟩ : ∃ x, xs = [x] := one_of hl
  unfold wd_law_is_whole
  cases x <;> cases hf <;> exact hr
theorem ok_law_is_whole (T : Txt K mg A) {TB : List (Addr × Str)} : FnOk P w K mg base (L2.CX P w) 1 A.f_law_is_whole A.fd_law_is_whole ["_law_value"] (SpD K TB 0 (con_law_is_whole A)) :=
  okD (c := _) (wd := wd_law_is_whole A) T.F_law_is_whole sc_law_is_whole (conF_len) (by exact Nat.le_of_ble_eq_true rfl) (fun cdv A1 outer s H E G M hM hr => (psCons (psRet (PEd.cel (pdAnd (pdIsi T.rel (by rfl) T.no_isinstance (pdVar 0) (pdBltn (by rfl) T.no_int (by rfl))) (pdOne (pdNot (pdIsi T.rel (by rfl) T.no_isinstance (pdVar 0) (pdBltn (by rfl) T.no_bool (by rfl)))))))) psNil)) dat_law_is_whole
/-! ### _law_raised -/
def bd_law_raised_1 (A : Adr) (G : Addr → List (Str × DV) → List Cell → Prop) : WS := (wSeq (wSet 2 (dOp2 gMul (dVar 2) (dVar 0))) wNil)
def wd_law_raised (A : Adr) (G : Addr → List (Str × DV) → List Cell → Prop) : WS := (wSeq (wSet 2 (dCel (dC (.int 1)))) (wSeq (wFor (iR1 (dVar 1)) (gN 3) (bd_law_raised_1 A G)) (wSeq (wRet (dCel (dVar 2))) wNil)))
def f_law_raised : List DV → Option Out
  | [.int b, .int m] => if 0 ≤ b ∧ b < 1000 ∧ 0 ≤ m ∧ m ≤ 1000 then some (.ret (.int (b ^ m.toNat))) else none
  | _ => none
def con_law_raised (A : Adr) : Con := conF 2 f_law_raised
theorem mono_law_raised : ConMono (con_law_raised A) := mono_conF
theorem dat_law_raised : ∀ cs P Y, con_law_raised A cs P Y → runD 4 (wd_law_raised A fun C fs e => Y C fs (borsAt e (ownIx 0 cs))) cs P := by
  intro cs P Y h
  obtain ⟨xs, r, rfl, hl, hf, hr⟩ := conF_inv h
  obtain ⟨x, y, rfl⟩ : ∃ x y, xs = [x, y] := two_of hl
  unfold f_law_raised at hf
  split at hf
  case h_2 => cases hf
  case h_1 b m e =>
  cases e
  split at hf
  case isFalse => cases hf
  case isTrue hc =>
  cases hf
  unfold wd_law_raised runD
  refine seq_gen fun k hk => ?_
  simp (config := { decide := false }) only [runD, wNil, wBreak, wCont, wSet, wDrop, wRet, wRetN, wIf, wFor, gN, gsNil, gsCons, gT, wAsg, wPar, dCel, dDat, dVar, dC, dOp2, dOp2d, gI2, gI0, dCmp, dBl, dAsB, gB2, gEq, dAnd, dOr, dNot, dAndV, dOrV, dNotV, gAdd, gMul, dNeg, iData, dI_lst, dI_klst, dI_tup, dI_ktup, iD_lst, iD_klst, iD_tup, iD_ktup, ln_lst, ln_klst, ln_tup, ln_ktup, iR1, iR2, iZipD, iEnumD, dYes, dLc, dIx, dIxN, ixD, optP, dVw, dPeek, dOp1, gInts, gBls, gList, gTuple, gLen, gInt, aNil, aCons, dTup, dLst, dDk, dDt, dAppend, dPop, wPutL, wPutD, DV.key, dDisp, ppN, ppC, DL.kvsOf, dPopAt, wAugI, dIf, exists_and_left, exists_and_right, exists_eq_left, exists_eq_left', exists_eq', exists_eq, exists_const, exists_false, or_false, false_or, false_and, and_false, and_assoc, Option.some.injEq, Cell.o.injEq, Cell.d.injEq, OC.k.injEq, OC.l.injEq, OC.t.injEq, OC.ins.injEq, DV.int.injEq, DV.bl.injEq, DV.str.injEq,  oNone, oSome, dSl, dSlN, gSl, dRev, dCmpV, dBlV, gIn, dIsN, gIsB, dGetN1, dGetN2, gIsi, dFld, wFld, wRaise, dChain, dCall, bNil, bCons, bBor, DL.cellOf, DL.borIx, DL.putB, DL.allOwn, DL.borsAt, ownIx, parC, okSet, Cell.view, Cell.frz, OC.frz, Cell.own, Cell.bor, List.map_cons, List.map_nil, List.cons_append, List.nil_append, List.length_cons, List.length_nil, List.replicate_succ, List.replicate_zero, List.getElem?_cons_zero, List.getElem?_cons_succ, List.set_cons_zero, List.set_cons_succ, List.getD_cons_zero, List.getD_cons_succ, Option.bind_some, List.nodup_nil, List.nodup_cons, List.not_mem_nil, not_false_eq_true, true_and, and_true, if_true, if_false, ite_true, ite_false, reduceCtorEq, Nat.reduceAdd, Nat.reduceSub, Nat.zero_add, Nat.sub_self, Bool.not_true, Bool.not_false, Bool.false_eq_true, Bool.true_eq, DL.dataOf, conF, Option.map_some, Out.to]
  subst hk
  refine seq_gen fun k hk => ?_
  simp (config := { decide := false }) only [runD, wNil, wBreak, wCont, wSet, wDrop, wRet, wRetN, wIf, wFor, gN, gsNil, gsCons, gT, wAsg, wPar, dCel, dDat, dVar, dC, dOp2, dOp2d, gI2, gI0, dCmp, dBl, dAsB, gB2, gEq, dAnd, dOr, dNot, dAndV, dOrV, dNotV, gAdd, gMul, dNeg, iData, dI_lst, dI_klst, dI_tup, dI_ktup, iD_lst, iD_klst, iD_tup, iD_ktup, ln_lst, ln_klst, ln_tup, ln_ktup, iR1, iR2, iZipD, iEnumD, dYes, dLc, dIx, dIxN, ixD, optP, dVw, dPeek, dOp1, gInts, gBls, gList, gTuple, gLen, gInt, aNil, aCons, dTup, dLst, dDk, dDt, dAppend, dPop, wPutL, wPutD, DV.key, dDisp, ppN, ppC, DL.kvsOf, dPopAt, wAugI, dIf, exists_and_left, exists_and_right, exists_eq_left, exists_eq_left', exists_eq', exists_eq, exists_const, exists_false, or_false, false_or, false_and, and_false, and_assoc, Option.some.injEq, Cell.o.injEq, Cell.d.injEq, OC.k.injEq, OC.l.injEq, OC.t.injEq, OC.ins.injEq, DV.int.injEq, DV.bl.injEq, DV.str.injEq,  oNone, oSome, dSl, dSlN, gSl, dRev, dCmpV, dBlV, gIn, dIsN, gIsB, dGetN1, dGetN2, gIsi, dFld, wFld, wRaise, dChain, dCall, bNil, bCons, bBor, DL.cellOf, DL.borIx, DL.putB, DL.allOwn, DL.borsAt, ownIx, parC, okSet, Cell.view, Cell.frz, OC.frz, Cell.own, Cell.bor, List.map_cons, List.map_nil, List.cons_append, List.nil_append, List.length_cons, List.length_nil, List.replicate_succ, List.replicate_zero, List.getElem?_cons_zero, List.getElem?_cons_succ, List.set_cons_zero, List.set_cons_succ, List.getD_cons_zero, List.getD_cons_succ, Option.bind_some, List.nodup_nil, List.nodup_cons, List.not_mem_nil, not_false_eq_true, true_and, and_true, if_true, if_false, ite_true, ite_false, reduceCtorEq, Nat.reduceAdd, Nat.reduceSub, Nat.zero_add, Nat.sub_self, Bool.not_true, Bool.not_false, Bool.false_eq_true, Bool.true_eq, DL.dataOf, conF, Option.map_some, Out.to]
  refine ⟨by omega, by omega, ?_⟩
  have key : ∀ (n : Nat) (lo v : Int) (x : Cell), okSet [Cell.d (DV.int b), Cell.d (DV.int m), Cell.d (DV.int v), x] 3 → (∀ x, k [Cell.d (DV.int b), Cell.d (DV.int m), Cell.d (DV.int (v * b ^ n)), x]) →
      goFor (gN 3) (bd_law_raised_1 A fun C fs e => Y C fs []) { nx := k, rt := fun r e => P r [] } (ramp lo n) [Cell.d (DV.int b), Cell.d (DV.int m), Cell.d (DV.int v), x] := by
    intro n
    induction n with
    | zero => 
      intro lo v x hx h
      have h2 := h x
      rw [Int.pow_zero, Int.mul_one] at h2
      exact h2
    | succ n ih =>
      intro lo v x hx h
      rw [ramp_succ]
      refine ⟨hx, ?_⟩
      show bd_law_raised_1 A _ _ _
      unfold bd_law_raised_1
      refine seq_gen fun k2 hk2 => ?_
      simp (config := { decide := false }) only [runD, wNil, wBreak, wCont, wSet, wDrop, wRet, wRetN, wIf, wFor, gN, gsNil, gsCons, gT, wAsg, wPar, dCel, dDat, dVar, dC, dOp2, dOp2d, gI2, gI0, dCmp, dBl, dAsB, gB2, gEq, dAnd, dOr, dNot, dAndV, dOrV, dNotV, gAdd, gMul, dNeg, iData, dI_lst, dI_klst, dI_tup, dI_ktup, iD_lst, iD_klst, iD_tup, iD_ktup, ln_lst, ln_klst, ln_tup, ln_ktup, iR1, iR2, iZipD, iEnumD, dYes, dLc, dIx, dIxN, ixD, optP, dVw, dPeek, dOp1, gInts, gBls, gList, gTuple, gLen, gInt, aNil, aCons, dTup, dLst, dDk, dDt, dAppend, dPop, wPutL, wPutD, DV.key, dDisp, ppN, ppC, DL.kvsOf, dPopAt, wAugI, dIf, exists_and_left, exists_and_right, exists_eq_left, exists_eq_left', exists_eq', exists_eq, exists_const, exists_false, or_false, false_or, false_and, and_false, and_assoc, Option.some.injEq, Cell.o.injEq, Cell.d.injEq, OC.k.injEq, OC.l.injEq, OC.t.injEq, OC.ins.injEq, DV.int.injEq, DV.bl.injEq, DV.str.injEq,  oNone, oSome, dSl, dSlN, gSl, dRev, dCmpV, dBlV, gIn, dIsN, gIsB, dGetN1, dGetN2, gIsi, dFld, wFld, wRaise, dChain, dCall, bNil, bCons, bBor, DL.cellOf, DL.borIx, DL.putB, DL.allOwn, DL.borsAt, ownIx, parC, okSet, Cell.view, Cell.frz, OC.frz, Cell.own, Cell.bor, List.map_cons, List.map_nil, List.cons_append, List.nil_append, List.length_cons, List.length_nil, List.replicate_succ, List.replicate_zero, List.getElem?_cons_zero, List.getElem?_cons_succ, List.set_cons_zero, List.set_cons_succ, List.getD_cons_zero, List.getD_cons_succ, Option.bind_some, List.nodup_nil, List.nodup_cons, List.not_mem_nil, not_false_eq_true, true_and, and_true, if_true, if_false, ite_true, ite_false, reduceCtorEq, Nat.reduceAdd, Nat.reduceSub, Nat.zero_add, Nat.sub_self, Bool.not_true, Bool.not_false, Bool.false_eq_true, Bool.true_eq, DL.dataOf, conF, Option.map_some, Out.to]
      subst hk2
      refine ⟨.inl (.inr ⟨by omega, by omega⟩), ?_⟩
      refine ih _ _ _ trivial fun x => ?_
      rw [Int.mul_assoc, Int.mul_comm b, ← Int.pow_succ]
      exact h x
  refine key _ _ _ _ trivial fun x => ?_
  subst hk
  rw [Int.one_mul]
  exact hr
theorem ok_law_raised (T : Txt K mg A) {TB : List (Addr × Str)} : FnOk P w K mg base (L2.CX P w) 1 A.f_law_raised A.fd_law_raised ["_law_base", "_law_many"] (SpD K TB 0 (con_law_raised A)) :=
  okD (c := _) (wd := wd_law_raised A) T.F_law_raised sc_law_raised (conF_len) (by exact Nat.le_of_ble_eq_true rfl) (fun cdv A1 outer s H E G M hM hr => (psCons (psSet (i := 2) sc_law_raised.nd rfl (by first | exact Or.inl rfl | exact Or.inr rfl) (PEd.cel pdInt)) (psCons (psFor ownD (piRange1 (by rfl) T.no_range (pdVar 1)) (pgN (i := 3) sc_law_raised.nd rfl (by first | exact Or.inl rfl | exact Or.inr rfl)) (psCons (psSet (i := 2) sc_law_raised.nd rfl (by first | exact Or.inl rfl | exact Or.inr rfl) (pcMul (pdVar 2) (pdVar 0))) psNil)) (psCons (psRet (PEd.cel (pdVar 2))) psNil)))) dat_law_raised
/-! ### _law_digits -/
def bd_law_digits_1 (A : Adr) (G : Addr → List (Str × DV) → List Cell → Prop) : WS := (wSeq (wIf (tEq (dVar 0) (dC (.int 0))) (wSeq wBreak wNil) wNil) (wSeq (wDrop (dAppend 2 (dMod (dDat (dOp1 gInt (dPeek 0))) (dVar 1)))) (wSeq (wSet 0 (dCel (dFdiv (dVar 0) (dVar 1)))) wNil)))
def wd_law_digits (A : Adr) (G : Addr → List (Str × DV) → List Cell → Prop) : WS := (wSeq (wSet 2 (dLst aNil)) (wSeq (wFor (iR1 (dC (.int 400))) (gN 3) (bd_law_digits_1 A G)) (wSeq (wRet (dCel (dVar 2))) wNil)))
def f_law_digits : List DV → Option Out
  | [.int n, .int p] => if 0 ≤ n ∧ 2 ≤ p ∧ p ≤ 7 ∧ (digs p n).length ≤ 400 then some (.ret (.lst ((digs p n).map DV.int))) else none
  | _ => none
theorem ld_go {A : Adr} {G : Addr → List (Str × DV) → List Cell → Prop} {q : Int} (hq : 2 ≤ q ∧ q ≤ 7) {D : EndsD} : ∀ (k : Nat) (lo n : Int) (zs : List Int) (x : Cell), 0 ≤ n → (digs q n).length ≤ k → zs.length + k ≤ 1000 → x.own = false →
    (∀ (n : Int) (zs2 : List Int) (x : Cell), zs2 = zs ++ digs q n → True) → (∀ (m : Int) (x : Cell), D.nx [.d (.int m), .d (.int q), .o false (.l ((zs ++ digs q n).map DV.int)), x]) → goFor (gN 3) (bd_law_digits_1 A G) D (ramp lo k) [.d (.int n), .d (.int q), .o false (.l (zs.map DV.int)), x]
  | 0, lo, n, zs, x, h0, hk, hz, hx, _, h => by
    have e : digs q n = [] := List.length_eq_zero_iff.mp (by omega)
    have h2 := h n x
    rw [e, List.append_nil] at h2
    exact h2
  | k + 1, lo, n, zs, x, h0, hk, hz, hx, _, h => by
    rw [ramp_succ]
    unfold goFor
    have hxx : okSet [.d (.int n), .d (.int q), .o false (.l (zs.map DV.int)), x] 3 := by
      cases x <;> first | trivial | cases hx
    refine And.intro hxx ?_
    show bd_law_digits_1 A G _ _
    unfold bd_law_digits_1
    refine seq_gen fun k2 hk2 => ?_
    simp (config := { decide := false }) only [runD, wNil, wBreak, wCont, wSet, wDrop, wRet, wRetN, wIf, wFor, gN, gsNil, gsCons, gT, wAsg, wPar, dCel, dDat, dVar, dC, dOp2, dOp2d, gI2, gI0, dCmp, dBl, dAsB, gB2, gEq, dAnd, dOr, dNot, dAndV, dOrV, dNotV, gAdd, gMul, dNeg, iData, dI_lst, dI_klst, dI_tup, dI_ktup, iD_lst, iD_klst, iD_tup, iD_ktup, ln_lst, ln_klst, ln_tup, ln_ktup, iR1, iR2, iZipD, iEnumD, dYes, dLc, dIx, dIxN, ixD, optP, dVw, dPeek, dOp1, gInts, gBls, gList, gTuple, gLen, gInt, aNil, aCons, dTup, dLst, dDk, dDt, dAppend, dPop, wPutL, wPutD, DV.key, dDisp, ppN, ppC, DL.kvsOf, dPopAt, wAugI, dIf, exists_and_left, exists_and_right, exists_eq_left, exists_eq_left', exists_eq', exists_eq, exists_const, exists_false, or_false, false_or, false_and, and_false, and_assoc, Option.some.injEq, Cell.o.injEq, Cell.d.injEq, OC.k.injEq, OC.l.injEq, OC.t.injEq, OC.ins.injEq, DV.int.injEq, DV.bl.injEq, DV.str.injEq,  oNone, oSome, dSl, dSlN, gSl, dRev, dCmpV, dBlV, gIn, dIsN, gIsB, dGetN1, dGetN2, gIsi, dFld, wFld, wRaise, dChain, dCall, bNil, bCons, bBor, DL.cellOf, DL.borIx, DL.putB, DL.allOwn, DL.borsAt, ownIx, parC, okSet, Cell.view, Cell.frz, OC.frz, Cell.own, Cell.bor, List.map_cons, List.map_nil, List.cons_append, List.nil_append, List.length_cons, List.length_nil, List.replicate_succ, List.replicate_zero, List.getElem?_cons_zero, List.getElem?_cons_succ, List.set_cons_zero, List.set_cons_succ, List.getD_cons_zero, List.getD_cons_succ, Option.bind_some, List.nodup_nil, List.nodup_cons, List.not_mem_nil, not_false_eq_true, true_and, and_true, if_true, if_false, ite_true, ite_false, reduceCtorEq, Nat.reduceAdd, Nat.reduceSub, Nat.zero_add, Nat.sub_self, Bool.not_true, Bool.not_false, Bool.false_eq_true, Bool.true_eq, DL.dataOf, conF, Option.map_some, Out.to, ok_int, eqD_int]
    refine ite_dec (fun hn => ?_) (fun hn => ?_)
    · have h2 := h n (.d (.int lo))
      rw [digs_zero (by omega), List.append_nil] at h2
      exact h2
    · have hp : 0 < n := by omega
      have e := digs_pos hq.1 hp
      have el := congrArg List.length e
      rw [List.length_cons] at el
      subst hk2
      refine seq_gen fun k2 hk2 => ?_
      simp (config := { decide := false }) only [runD, wNil, wBreak, wCont, wSet, wDrop, wRet, wRetN, wIf, wFor, gN, gsNil, gsCons, gT, wAsg, wPar, dCel, dDat, dVar, dC, dOp2, dOp2d, gI2, gI0, dCmp, dBl, dAsB, gB2, gEq, dAnd, dOr, dNot, dAndV, dOrV, dNotV, gAdd, gMul, dNeg, iData, dI_lst, dI_klst, dI_tup, dI_ktup, iD_lst, iD_klst, iD_tup, iD_ktup, ln_lst, ln_klst, ln_tup, ln_ktup, iR1, iR2, iZipD, iEnumD, dYes, dLc, dIx, dIxN, ixD, optP, dVw, dPeek, dOp1, gInts, gBls, gList, gTuple, gLen, gInt, aNil, aCons, dTup, dLst, dDk, dDt, dAppend, dPop, wPutL, wPutD, DV.key, dDisp, ppN, ppC, DL.kvsOf, dPopAt, wAugI, dIf, exists_and_left, exists_and_right, exists_eq_left, exists_eq_left', exists_eq', exists_eq, exists_const, exists_false, or_false, false_or, false_and, and_false, and_assoc, Option.some.injEq, Cell.o.injEq, Cell.d.injEq, OC.k.injEq, OC.l.injEq, OC.t.injEq, OC.ins.injEq, DV.int.injEq, DV.bl.injEq, DV.str.injEq,  oNone, oSome, dSl, dSlN, gSl, dRev, dCmpV, dBlV, gIn, dIsN, gIsB, dGetN1, dGetN2, gIsi, dFld, wFld, wRaise, dChain, dCall, bNil, bCons, bBor, DL.cellOf, DL.borIx, DL.putB, DL.allOwn, DL.borsAt, ownIx, parC, okSet, Cell.view, Cell.frz, OC.frz, Cell.own, Cell.bor, List.map_cons, List.map_nil, List.cons_append, List.nil_append, List.length_cons, List.length_nil, List.replicate_succ, List.replicate_zero, List.getElem?_cons_zero, List.getElem?_cons_succ, List.set_cons_zero, List.set_cons_succ, List.getD_cons_zero, List.getD_cons_succ, Option.bind_some, List.nodup_nil, List.nodup_cons, List.not_mem_nil, not_false_eq_true, true_and, and_true, if_true, if_false, ite_true, ite_false, reduceCtorEq, Nat.reduceAdd, Nat.reduceSub, Nat.zero_add, Nat.sub_self, Bool.not_true, Bool.not_false, Bool.false_eq_true, Bool.true_eq, DL.dataOf, conF, Option.map_some, Out.to]
      refine ⟨by omega, by rw [List.length_map]; exact Nat.lt_of_le_of_lt (by omega) (by decide : 1000 < LINE), ?_⟩
      subst hk2
      refine seq_gen fun k2 hk2 => ?_
      simp (config := { decide := false }) only [runD, wNil, wBreak, wCont, wSet, wDrop, wRet, wRetN, wIf, wFor, gN, gsNil, gsCons, gT, wAsg, wPar, dCel, dDat, dVar, dC, dOp2, dOp2d, gI2, gI0, dCmp, dBl, dAsB, gB2, gEq, dAnd, dOr, dNot, dAndV, dOrV, dNotV, gAdd, gMul, dNeg, iData, dI_lst, dI_klst, dI_tup, dI_ktup, iD_lst, iD_klst, iD_tup, iD_ktup, ln_lst, ln_klst, ln_tup, ln_ktup, iR1, iR2, iZipD, iEnumD, dYes, dLc, dIx, dIxN, ixD, optP, dVw, dPeek, dOp1, gInts, gBls, gList, gTuple, gLen, gInt, aNil, aCons, dTup, dLst, dDk, dDt, dAppend, dPop, wPutL, wPutD, DV.key, dDisp, ppN, ppC, DL.kvsOf, dPopAt, wAugI, dIf, exists_and_left, exists_and_right, exists_eq_left, exists_eq_left', exists_eq', exists_eq, exists_const, exists_false, or_false, false_or, false_and, and_false, and_assoc, Option.some.injEq, Cell.o.injEq, Cell.d.injEq, OC.k.injEq, OC.l.injEq, OC.t.injEq, OC.ins.injEq, DV.int.injEq, DV.bl.injEq, DV.str.injEq,  oNone, oSome, dSl, dSlN, gSl, dRev, dCmpV, dBlV, gIn, dIsN, gIsB, dGetN1, dGetN2, gIsi, dFld, wFld, wRaise, dChain, dCall, bNil, bCons, bBor, DL.cellOf, DL.borIx, DL.putB, DL.allOwn, DL.borsAt, ownIx, parC, okSet, Cell.view, Cell.frz, OC.frz, Cell.own, Cell.bor, List.map_cons, List.map_nil, List.cons_append, List.nil_append, List.length_cons, List.length_nil, List.replicate_succ, List.replicate_zero, List.getElem?_cons_zero, List.getElem?_cons_succ, List.set_cons_zero, List.set_cons_succ, List.getD_cons_zero, List.getD_cons_succ, Option.bind_some, List.nodup_nil, List.nodup_cons, List.not_mem_nil, not_false_eq_true, true_and, and_true, if_true, if_false, ite_true, ite_false, reduceCtorEq, Nat.reduceAdd, Nat.reduceSub, Nat.zero_add, Nat.sub_self, Bool.not_true, Bool.not_false, Bool.false_eq_true, Bool.true_eq, DL.dataOf, conF, Option.map_some, Out.to]
      refine ⟨⟨by omega, log_small (by omega)⟩, ?_⟩
      subst hk2
      rw [show zs.map DV.int ++ [DV.int (n % q)] = (zs ++ [n % q]).map DV.int by rw [List.map_append]; rfl]
      refine ld_go (A := A) (G := G) hq k (lo + 1) (n / q) (zs ++ [n % q]) (.d (.int lo)) (Int.ediv_nonneg h0 (by omega)) (by omega) (by rw [List.length_append, List.length_singleton]; omega) rfl (fun _ _ _ _ => trivial) fun m x => ?_
      have h2 := h m x
      rw [e, List.append_cons] at h2
      exact h2
def con_law_digits (A : Adr) : Con := conF 2 f_law_digits
theorem mono_law_digits : ConMono (con_law_digits A) := mono_conF
theorem dat_law_digits : ∀ cs P Y, con_law_digits A cs P Y → runD 4 (wd_law_digits A fun C fs e => Y C fs (borsAt e (ownIx 0 cs))) cs P := by
  intro cs P Y h
  obtain ⟨xs, r, rfl, hl, hf, hr⟩ := conF_inv h
  obtain ⟨x, y, rfl⟩ : ∃ x y, xs = [x, y] := two_of hl
  unfold f_law_digits at hf
  split at hf
  case h_2 => cases hf
  case h_1 n p e =>
  cases e
  split at hf
  case isFalse => cases hf
  case isTrue hc =>
  cases hf
  unfold wd_law_digits runD
  refine seq_gen fun k hk => ?_
  simp (config := { decide := false }) only [runD, wNil, wBreak, wCont, wSet, wDrop, wRet, wRetN, wIf, wFor, gN, gsNil, gsCons, gT, wAsg, wPar, dCel, dDat, dVar, dC, dOp2, dOp2d, gI2, gI0, dCmp, dBl, dAsB, gB2, gEq, dAnd, dOr, dNot, dAndV, dOrV, dNotV, gAdd, gMul, dNeg, iData, dI_lst, dI_klst, dI_tup, dI_ktup, iD_lst, iD_klst, iD_tup, iD_ktup, ln_lst, ln_klst, ln_tup, ln_ktup, iR1, iR2, iZipD, iEnumD, dYes, dLc, dIx, dIxN, ixD, optP, dVw, dPeek, dOp1, gInts, gBls, gList, gTuple, gLen, gInt, aNil, aCons, dTup, dLst, dDk, dDt, dAppend, dPop, wPutL, wPutD, DV.key, dDisp, ppN, ppC, DL.kvsOf, dPopAt, wAugI, dIf, exists_and_left, exists_and_right, exists_eq_left, exists_eq_left', exists_eq', exists_eq, exists_const, exists_false, or_false, false_or, false_and, and_false, and_assoc, Option.some.injEq, Cell.o.injEq, Cell.d.injEq, OC.k.injEq, OC.l.injEq, OC.t.injEq, OC.ins.injEq, DV.int.injEq, DV.bl.injEq, DV.str.injEq,  oNone, oSome, dSl, dSlN, gSl, dRev, dCmpV, dBlV, gIn, dIsN, gIsB, dGetN1, dGetN2, gIsi, dFld, wFld, wRaise, dChain, dCall, bNil, bCons, bBor, DL.cellOf, DL.borIx, DL.putB, DL.allOwn, DL.borsAt, ownIx, parC, okSet, Cell.view, Cell.frz, OC.frz, Cell.own, Cell.bor, List.map_cons, List.map_nil, List.cons_append, List.nil_append, List.length_cons, List.length_nil, List.replicate_succ, List.replicate_zero, List.getElem?_cons_zero, List.getElem?_cons_succ, List.set_cons_zero, List.set_cons_succ, List.getD_cons_zero, List.getD_cons_succ, Option.bind_some, List.nodup_nil, List.nodup_cons, List.not_mem_nil, not_false_eq_true, true_and, and_true, if_true, if_false, ite_true, ite_false, reduceCtorEq, Nat.reduceAdd, Nat.reduceSub, Nat.zero_add, Nat.sub_self, Bool.not_true, Bool.not_false, Bool.false_eq_true, Bool.true_eq, DL.dataOf, conF, Option.map_some, Out.to]
  refine ⟨by decide, ?_⟩
  subst hk
  refine seq_gen fun k hk => ?_
  simp (config := { decide := false }) only [runD, wNil, wBreak, wCont, wSet, wDrop, wRet, wRetN, wIf, wFor, gN, gsNil, gsCons, gT, wAsg, wPar, dCel, dDat, dVar, dC, dOp2, dOp2d, gI2, gI0, dCmp, dBl, dAsB, gB2, gEq, dAnd, dOr, dNot, dAndV, dOrV, dNotV, gAdd, gMul, dNeg, iData, dI_lst, dI_klst, dI_tup, dI_ktup, iD_lst, iD_klst, iD_tup, iD_ktup, ln_lst, ln_klst, ln_tup, ln_ktup, iR1, iR2, iZipD, iEnumD, dYes, dLc, dIx, dIxN, ixD, optP, dVw, dPeek, dOp1, gInts, gBls, gList, gTuple, gLen, gInt, aNil, aCons, dTup, dLst, dDk, dDt, dAppend, dPop, wPutL, wPutD, DV.key, dDisp, ppN, ppC, DL.kvsOf, dPopAt, wAugI, dIf, exists_and_left, exists_and_right, exists_eq_left, exists_eq_left', exists_eq', exists_eq, exists_const, exists_false, or_false, false_or, false_and, and_false, and_assoc, Option.some.injEq, Cell.o.injEq, Cell.d.injEq, OC.k.injEq, OC.l.injEq, OC.t.injEq, OC.ins.injEq, DV.int.injEq, DV.bl.injEq, DV.str.injEq,  oNone, oSome, dSl, dSlN, gSl, dRev, dCmpV, dBlV, gIn, dIsN, gIsB, dGetN1, dGetN2, gIsi, dFld, wFld, wRaise, dChain, dCall, bNil, bCons, bBor, DL.cellOf, DL.borIx, DL.putB, DL.allOwn, DL.borsAt, ownIx, parC, okSet, Cell.view, Cell.frz, OC.frz, Cell.own, Cell.bor, List.map_cons, List.map_nil, List.cons_append, List.nil_append, List.length_cons, List.length_nil, List.replicate_succ, List.replicate_zero, List.getElem?_cons_zero, List.getElem?_cons_succ, List.set_cons_zero, List.set_cons_succ, List.getD_cons_zero, List.getD_cons_succ, Option.bind_some, List.nodup_nil, List.nodup_cons, List.not_mem_nil, not_false_eq_true, true_and, and_true, if_true, if_false, ite_true, ite_false, reduceCtorEq, Nat.reduceAdd, Nat.reduceSub, Nat.zero_add, Nat.sub_self, Bool.not_true, Bool.not_false, Bool.false_eq_true, Bool.true_eq, DL.dataOf, conF, Option.map_some, Out.to]
  refine ⟨by decide, by decide, ?_⟩
  refine ld_go ⟨hc.2.1, hc.2.2.1⟩ _ 0 n [] .un hc.1 hc.2.2.2 (by decide) rfl (fun _ _ _ _ => trivial) fun m x => ?_
  subst hk
  exact hr
theorem ok_law_digits (T : Txt K mg A) {TB : List (Addr × Str)} : FnOk P w K mg base (L2.CX P w) 1 A.f_law_digits A.fd_law_digits ["_law_n", "_law_p"] (SpD K TB 0 (con_law_digits A)) :=
  okD (c := _) (wd := wd_law_digits A) T.F_law_digits sc_law_digits (conF_len) (by exact Nat.le_of_ble_eq_true rfl) (fun cdv A1 outer s H E G M hM hr => (psCons (psSet (i := 2) sc_law_digits.nd rfl (by first | exact Or.inl rfl | exact Or.inr rfl) (pcLst paNil)) (psCons (psFor ownD (piRange1 (by rfl) T.no_range pdInt) (pgN (i := 3) sc_law_digits.nd rfl (by first | exact Or.inl rfl | exact Or.inr rfl)) (psCons (psIf (ptEq hr.units (pdVar 0) pdInt) (psCons psBreak psNil) psNil) (psCons (psExpr (pcAppend 2 (pdMod (PEc.dat (pcInt (by rfl) T.no_int (pvName 0))) (pdVar 1)))) (psCons (psSet (i := 0) sc_law_digits.nd rfl (by first | exact Or.inl rfl | exact Or.inr rfl) (PEd.cel (pdFdiv (pdVar 0) (pdVar 1)))) psNil)))) (psCons (psRet (PEd.cel (pdVar 2))) psNil)))) dat_law_digits
/-! ### _law_large -/
def bd_law_large_1 (A : Adr) (G : Addr → List (Str × DV) → List Cell → Prop) : WS := (wSeq (wSet 2 (dOp2 gAdd (dDat (dOp2 gMul (dVar 2) (dC (.int 1000)))) (dDat (dCall (con_law_draw A) G (bBor 0 (bCons (dC (.int 1000)) bNil)))))) wNil)
def wd_law_large (A : Adr) (G : Addr → List (Str × DV) → List Cell → Prop) : WS := (wSeq (wPar 1 2 (dCall (con_law_draw A) G (bBor 0 (bCons (dC (.int 6)) bNil))) (dCel (dC (.int 0)))) (wSeq (wIf (tLt (dVar 1) (dC (.int 2))) (wSeq (wRet (dCall (con_law_draw A) G (bBor 0 (bCons (dC (.int 40)) bNil)))) wNil) wNil) (wSeq (wFor (iR1 (dDat (dCall (con_law_pick A) G (bBor 0 (bCons (dDat (dLst (aCons (dC (.int 1)) (aCons (dC (.int 2)) (aCons (dC (.int 6)) (aCons (dC (.int 19)) aNil)))))) bNil))))) (gN 3) (bd_law_large_1 A G)) (wSeq (wRet (dCel (dVar 2))) wNil))))
def conLarge : Con := fun cs P _ => match cs with
  | [.o _ .pen] => ∀ r : Int, 0 ≤ r → r < 10 ^ 57 → P (.d (.int r)) [.pen]
  | _ => False
theorem conLarge_inv {cs : List Cell} {P : Cell → List OC → Prop} {Y : Addr → List (Str × DV) → List OC → Prop} (h : conLarge cs P Y) : ∃ b, cs = [.o b .pen] ∧ ∀ r : Int, 0 ≤ r → r < 10 ^ 57 → P (.d (.int r)) [.pen] := by
  unfold conLarge at h
  split at h
  · exact ⟨_, rfl, h⟩
  · exact h.elim
theorem mono_conLarge : ConMono conLarge := fun cs P P2 Y Y2 hP hY q => by
  obtain ⟨b, rfl, p⟩ := conLarge_inv q
  exact fun r h1 h2 => hP _ _ (p r h1 h2)
theorem ll_go {A : Adr} {G : Addr → List (Str × DV) → List Cell → Prop} {w : DV} {D : EndsD} : ∀ (k : Nat) (lo v B : Int) (x : Cell), 0 ≤ v → v < B → x.own = false →
    (∀ (v : Int) (x : Cell), 0 ≤ v → v < B * 1000 ^ k → D.nx [.o true .pen, .d w, .d (.int v), x]) → goFor (gN 3) (bd_law_large_1 A G) D (ramp lo k) [.o true .pen, .d w, .d (.int v), x]
  | 0, lo, v, B, x, h0, h1, hx, h => h v x h0 (by rw [Int.pow_zero, Int.mul_one]; exact h1)
  | k + 1, lo, v, B, x, h0, h1, hx, h => by
    rw [ramp_succ]
    unfold goFor
    have hxx : okSet [.o true .pen, .d w, .d (.int v), x] 3 := by
      cases x <;> first | trivial | cases hx
    refine And.intro hxx ?_
    show bd_law_large_1 A G _ _
    unfold bd_law_large_1
    refine seq_gen fun k2 hk2 => ?_
    simp (config := { decide := false }) only [runD, wNil, wBreak, wCont, wSet, wDrop, wRet, wRetN, wIf, wFor, gN, gsNil, gsCons, gT, wAsg, wPar, dCel, dDat, dVar, dC, dOp2, dOp2d, gI2, gI0, dCmp, dBl, dAsB, gB2, gEq, dAnd, dOr, dNot, dAndV, dOrV, dNotV, gAdd, gMul, dNeg, iData, dI_lst, dI_klst, dI_tup, dI_ktup, iD_lst, iD_klst, iD_tup, iD_ktup, ln_lst, ln_klst, ln_tup, ln_ktup, iR1, iR2, iZipD, iEnumD, dYes, dLc, dIx, dIxN, ixD, optP, dVw, dPeek, dOp1, gInts, gBls, gList, gTuple, gLen, gInt, aNil, aCons, dTup, dLst, dDk, dDt, dAppend, dPop, wPutL, wPutD, DV.key, dDisp, ppN, ppC, DL.kvsOf, dPopAt, wAugI, dIf, exists_and_left, exists_and_right, exists_eq_left, exists_eq_left', exists_eq', exists_eq, exists_const, exists_false, or_false, false_or, false_and, and_false, and_assoc, Option.some.injEq, Cell.o.injEq, Cell.d.injEq, OC.k.injEq, OC.l.injEq, OC.t.injEq, OC.ins.injEq, DV.int.injEq, DV.bl.injEq, DV.str.injEq,  oNone, oSome, dSl, dSlN, gSl, dRev, dCmpV, dBlV, gIn, dIsN, gIsB, dGetN1, dGetN2, gIsi, dFld, wFld, wRaise, dChain, dCall, bNil, bCons, bBor, DL.cellOf, DL.borIx, DL.putB, DL.allOwn, DL.borsAt, ownIx, parC, okSet, Cell.view, Cell.frz, OC.frz, Cell.own, Cell.bor, List.map_cons, List.map_nil, List.cons_append, List.nil_append, List.length_cons, List.length_nil, List.replicate_succ, List.replicate_zero, List.getElem?_cons_zero, List.getElem?_cons_succ, List.set_cons_zero, List.set_cons_succ, List.getD_cons_zero, List.getD_cons_succ, Option.bind_some, List.nodup_nil, List.nodup_cons, List.not_mem_nil, not_false_eq_true, true_and, and_true, if_true, if_false, ite_true, ite_false, reduceCtorEq, Nat.reduceAdd, Nat.reduceSub, Nat.zero_add, Nat.sub_self, Bool.not_true, Bool.not_false, Bool.false_eq_true, Bool.true_eq, DL.dataOf, conF, Option.map_some, Out.to, con_law_draw, conDraw]
    refine ⟨.inl (.inr ⟨by decide, by decide⟩), by decide, by decide, fun r r0 r1 => ?_⟩
    subst hk2
    refine ll_go (A := A) (G := G) k (lo + 1) (v * 1000 + r) (B * 1000) (.d (.int lo)) (by omega) (by omega) rfl fun v2 x h2 h3 => ?_
    refine h v2 x h2 ?_
    rw [Int.pow_succ, Int.mul_comm (1000 ^ k) 1000, ← Int.mul_assoc]
    exact h3
def con_law_large (A : Adr) : Con := conLarge
theorem mono_law_large : ConMono (con_law_large A) := mono_conLarge
theorem dat_law_large : ∀ cs P Y, con_law_large A cs P Y → runD 4 (wd_law_large A fun C fs e => Y C fs (borsAt e (ownIx 0 cs))) cs P := by
  intro cs P Y h
  obtain ⟨b, rfl, hp⟩ := conLarge_inv h
  unfold wd_law_large runD
  refine seq_gen fun k hk => ?_
  simp (config := { decide := false }) only [runD, wNil, wBreak, wCont, wSet, wDrop, wRet, wRetN, wIf, wFor, gN, gsNil, gsCons, gT, wAsg, wPar, dCel, dDat, dVar, dC, dOp2, dOp2d, gI2, gI0, dCmp, dBl, dAsB, gB2, gEq, dAnd, dOr, dNot, dAndV, dOrV, dNotV, gAdd, gMul, dNeg, iData, dI_lst, dI_klst, dI_tup, dI_ktup, iD_lst, iD_klst, iD_tup, iD_ktup, ln_lst, ln_klst, ln_tup, ln_ktup, iR1, iR2, iZipD, iEnumD, dYes, dLc, dIx, dIxN, ixD, optP, dVw, dPeek, dOp1, gInts, gBls, gList, gTuple, gLen, gInt, aNil, aCons, dTup, dLst, dDk, dDt, dAppend, dPop, wPutL, wPutD, DV.key, dDisp, ppN, ppC, DL.kvsOf, dPopAt, wAugI, dIf, exists_and_left, exists_and_right, exists_eq_left, exists_eq_left', exists_eq', exists_eq, exists_const, exists_false, or_false, false_or, false_and, and_false, and_assoc, Option.some.injEq, Cell.o.injEq, Cell.d.injEq, OC.k.injEq, OC.l.injEq, OC.t.injEq, OC.ins.injEq, DV.int.injEq, DV.bl.injEq, DV.str.injEq,  oNone, oSome, dSl, dSlN, gSl, dRev, dCmpV, dBlV, gIn, dIsN, gIsB, dGetN1, dGetN2, gIsi, dFld, wFld, wRaise, dChain, dCall, bNil, bCons, bBor, DL.cellOf, DL.borIx, DL.putB, DL.allOwn, DL.borsAt, ownIx, parC, okSet, Cell.view, Cell.frz, OC.frz, Cell.own, Cell.bor, List.map_cons, List.map_nil, List.cons_append, List.nil_append, List.length_cons, List.length_nil, List.replicate_succ, List.replicate_zero, List.getElem?_cons_zero, List.getElem?_cons_succ, List.set_cons_zero, List.set_cons_succ, List.getD_cons_zero, List.getD_cons_succ, Option.bind_some, List.nodup_nil, List.nodup_cons, List.not_mem_nil, not_false_eq_true, true_and, and_true, if_true, if_false, ite_true, ite_false, reduceCtorEq, Nat.reduceAdd, Nat.reduceSub, Nat.zero_add, Nat.sub_self, Bool.not_true, Bool.not_false, Bool.false_eq_true, Bool.true_eq, DL.dataOf, conF, Option.map_some, Out.to, con_law_draw, conDraw]
  refine ⟨by decide, by decide, fun r r0 r1 => ?_⟩
  subst hk
  refine seq_gen fun k hk => ?_
  simp (config := { decide := false }) only [runD, wNil, wBreak, wCont, wSet, wDrop, wRet, wRetN, wIf, wFor, gN, gsNil, gsCons, gT, wAsg, wPar, dCel, dDat, dVar, dC, dOp2, dOp2d, gI2, gI0, dCmp, dBl, dAsB, gB2, gEq, dAnd, dOr, dNot, dAndV, dOrV, dNotV, gAdd, gMul, dNeg, iData, dI_lst, dI_klst, dI_tup, dI_ktup, iD_lst, iD_klst, iD_tup, iD_ktup, ln_lst, ln_klst, ln_tup, ln_ktup, iR1, iR2, iZipD, iEnumD, dYes, dLc, dIx, dIxN, ixD, optP, dVw, dPeek, dOp1, gInts, gBls, gList, gTuple, gLen, gInt, aNil, aCons, dTup, dLst, dDk, dDt, dAppend, dPop, wPutL, wPutD, DV.key, dDisp, ppN, ppC, DL.kvsOf, dPopAt, wAugI, dIf, exists_and_left, exists_and_right, exists_eq_left, exists_eq_left', exists_eq', exists_eq, exists_const, exists_false, or_false, false_or, false_and, and_false, and_assoc, Option.some.injEq, Cell.o.injEq, Cell.d.injEq, OC.k.injEq, OC.l.injEq, OC.t.injEq, OC.ins.injEq, DV.int.injEq, DV.bl.injEq, DV.str.injEq,  oNone, oSome, dSl, dSlN, gSl, dRev, dCmpV, dBlV, gIn, dIsN, gIsB, dGetN1, dGetN2, gIsi, dFld, wFld, wRaise, dChain, dCall, bNil, bCons, bBor, DL.cellOf, DL.borIx, DL.putB, DL.allOwn, DL.borsAt, ownIx, parC, okSet, Cell.view, Cell.frz, OC.frz, Cell.own, Cell.bor, List.map_cons, List.map_nil, List.cons_append, List.nil_append, List.length_cons, List.length_nil, List.replicate_succ, List.replicate_zero, List.getElem?_cons_zero, List.getElem?_cons_succ, List.set_cons_zero, List.set_cons_succ, List.getD_cons_zero, List.getD_cons_succ, Option.bind_some, List.nodup_nil, List.nodup_cons, List.not_mem_nil, not_false_eq_true, true_and, and_true, if_true, if_false, ite_true, ite_false, reduceCtorEq, Nat.reduceAdd, Nat.reduceSub, Nat.zero_add, Nat.sub_self, Bool.not_true, Bool.not_false, Bool.false_eq_true, Bool.true_eq, DL.dataOf, conF, Option.map_some, Out.to, con_law_draw, conDraw]
  refine ite_dec (fun h => ?_) (fun h => ?_)
  · refine seq_gen fun k2 hk2 => ?_
    simp (config := { decide := false }) only [runD, wNil, wBreak, wCont, wSet, wDrop, wRet, wRetN, wIf, wFor, gN, gsNil, gsCons, gT, wAsg, wPar, dCel, dDat, dVar, dC, dOp2, dOp2d, gI2, gI0, dCmp, dBl, dAsB, gB2, gEq, dAnd, dOr, dNot, dAndV, dOrV, dNotV, gAdd, gMul, dNeg, iData, dI_lst, dI_klst, dI_tup, dI_ktup, iD_lst, iD_klst, iD_tup, iD_ktup, ln_lst, ln_klst, ln_tup, ln_ktup, iR1, iR2, iZipD, iEnumD, dYes, dLc, dIx, dIxN, ixD, optP, dVw, dPeek, dOp1, gInts, gBls, gList, gTuple, gLen, gInt, aNil, aCons, dTup, dLst, dDk, dDt, dAppend, dPop, wPutL, wPutD, DV.key, dDisp, ppN, ppC, DL.kvsOf, dPopAt, wAugI, dIf, exists_and_left, exists_and_right, exists_eq_left, exists_eq_left', exists_eq', exists_eq, exists_const, exists_false, or_false, false_or, false_and, and_false, and_assoc, Option.some.injEq, Cell.o.injEq, Cell.d.injEq, OC.k.injEq, OC.l.injEq, OC.t.injEq, OC.ins.injEq, DV.int.injEq, DV.bl.injEq, DV.str.injEq,  oNone, oSome, dSl, dSlN, gSl, dRev, dCmpV, dBlV, gIn, dIsN, gIsB, dGetN1, dGetN2, gIsi, dFld, wFld, wRaise, dChain, dCall, bNil, bCons, bBor, DL.cellOf, DL.borIx, DL.putB, DL.allOwn, DL.borsAt, ownIx, parC, okSet, Cell.view, Cell.frz, OC.frz, Cell.own, Cell.bor, List.map_cons, List.map_nil, List.cons_append, List.nil_append, List.length_cons, List.length_nil, List.replicate_succ, List.replicate_zero, List.getElem?_cons_zero, List.getElem?_cons_succ, List.set_cons_zero, List.set_cons_succ, List.getD_cons_zero, List.getD_cons_succ, Option.bind_some, List.nodup_nil, List.nodup_cons, List.not_mem_nil, not_false_eq_true, true_and, and_true, if_true, if_false, ite_true, ite_false, reduceCtorEq, Nat.reduceAdd, Nat.reduceSub, Nat.zero_add, Nat.sub_self, Bool.not_true, Bool.not_false, Bool.false_eq_true, Bool.true_eq, DL.dataOf, conF, Option.map_some, Out.to, con_law_draw, conDraw]
    refine ⟨by decide, by decide, fun r r0 r1 => hp r r0 (by omega)⟩
  · subst hk
    refine seq_gen fun k hk => ?_
    simp (config := { decide := false }) only [runD, wNil, wBreak, wCont, wSet, wDrop, wRet, wRetN, wIf, wFor, gN, gsNil, gsCons, gT, wAsg, wPar, dCel, dDat, dVar, dC, dOp2, dOp2d, gI2, gI0, dCmp, dBl, dAsB, gB2, gEq, dAnd, dOr, dNot, dAndV, dOrV, dNotV, gAdd, gMul, dNeg, iData, dI_lst, dI_klst, dI_tup, dI_ktup, iD_lst, iD_klst, iD_tup, iD_ktup, ln_lst, ln_klst, ln_tup, ln_ktup, iR1, iR2, iZipD, iEnumD, dYes, dLc, dIx, dIxN, ixD, optP, dVw, dPeek, dOp1, gInts, gBls, gList, gTuple, gLen, gInt, aNil, aCons, dTup, dLst, dDk, dDt, dAppend, dPop, wPutL, wPutD, DV.key, dDisp, ppN, ppC, DL.kvsOf, dPopAt, wAugI, dIf, exists_and_left, exists_and_right, exists_eq_left, exists_eq_left', exists_eq', exists_eq, exists_const, exists_false, or_false, false_or, false_and, and_false, and_assoc, Option.some.injEq, Cell.o.injEq, Cell.d.injEq, OC.k.injEq, OC.l.injEq, OC.t.injEq, OC.ins.injEq, DV.int.injEq, DV.bl.injEq, DV.str.injEq,  oNone, oSome, dSl, dSlN, gSl, dRev, dCmpV, dBlV, gIn, dIsN, gIsB, dGetN1, dGetN2, gIsi, dFld, wFld, wRaise, dChain, dCall, bNil, bCons, bBor, DL.cellOf, DL.borIx, DL.putB, DL.allOwn, DL.borsAt, ownIx, parC, okSet, Cell.view, Cell.frz, OC.frz, Cell.own, Cell.bor, List.map_cons, List.map_nil, List.cons_append, List.nil_append, List.length_cons, List.length_nil, List.replicate_succ, List.replicate_zero, List.getElem?_cons_zero, List.getElem?_cons_succ, List.set_cons_zero, List.set_cons_succ, List.getD_cons_zero, List.getD_cons_succ, Option.bind_some, List.nodup_nil, List.nodup_cons, List.not_mem_nil, not_false_eq_true, true_and, and_true, if_true, if_false, ite_true, ite_false, reduceCtorEq, Nat.reduceAdd, Nat.reduceSub, Nat.zero_add, Nat.sub_self, Bool.not_true, Bool.not_false, Bool.false_eq_true, Bool.true_eq, DL.dataOf, conF, Option.map_some, Out.to, con_law_pick]
    refine ⟨by decide, conPick_mk rfl ⟨List.cons_ne_nil _ _, by decide⟩ fun d hd => ?_⟩
    have hi : ∃ i : Int, d = .int i ∧ 1 ≤ i ∧ i ≤ 19 := by
      simp only [List.mem_cons, List.not_mem_nil, or_false] at hd
      rcases hd with rfl | rfl | rfl | rfl
      · exact ⟨1, rfl, by decide, by decide⟩
      · exact ⟨2, rfl, by decide, by decide⟩
      · exact ⟨6, rfl, by decide, by decide⟩
      · exact ⟨19, rfl, by decide, by decide⟩
    obtain ⟨i, rfl, i1, i2⟩ := hi
    simp (config := { decide := false }) only [runD, wNil, wBreak, wCont, wSet, wDrop, wRet, wRetN, wIf, wFor, gN, gsNil, gsCons, gT, wAsg, wPar, dCel, dDat, dVar, dC, dOp2, dOp2d, gI2, gI0, dCmp, dBl, dAsB, gB2, gEq, dAnd, dOr, dNot, dAndV, dOrV, dNotV, gAdd, gMul, dNeg, iData, dI_lst, dI_klst, dI_tup, dI_ktup, iD_lst, iD_klst, iD_tup, iD_ktup, ln_lst, ln_klst, ln_tup, ln_ktup, iR1, iR2, iZipD, iEnumD, dYes, dLc, dIx, dIxN, ixD, optP, dVw, dPeek, dOp1, gInts, gBls, gList, gTuple, gLen, gInt, aNil, aCons, dTup, dLst, dDk, dDt, dAppend, dPop, wPutL, wPutD, DV.key, dDisp, ppN, ppC, DL.kvsOf, dPopAt, wAugI, dIf, exists_and_left, exists_and_right, exists_eq_left, exists_eq_left', exists_eq', exists_eq, exists_const, exists_false, or_false, false_or, false_and, and_false, and_assoc, Option.some.injEq, Cell.o.injEq, Cell.d.injEq, OC.k.injEq, OC.l.injEq, OC.t.injEq, OC.ins.injEq, DV.int.injEq, DV.bl.injEq, DV.str.injEq,  oNone, oSome, dSl, dSlN, gSl, dRev, dCmpV, dBlV, gIn, dIsN, gIsB, dGetN1, dGetN2, gIsi, dFld, wFld, wRaise, dChain, dCall, bNil, bCons, bBor, DL.cellOf, DL.borIx, DL.putB, DL.allOwn, DL.borsAt, ownIx, parC, okSet, Cell.view, Cell.frz, OC.frz, Cell.own, Cell.bor, List.map_cons, List.map_nil, List.cons_append, List.nil_append, List.length_cons, List.length_nil, List.replicate_succ, List.replicate_zero, List.getElem?_cons_zero, List.getElem?_cons_succ, List.set_cons_zero, List.set_cons_succ, List.getD_cons_zero, List.getD_cons_succ, Option.bind_some, List.nodup_nil, List.nodup_cons, List.not_mem_nil, not_false_eq_true, true_and, and_true, if_true, if_false, ite_true, ite_false, reduceCtorEq, Nat.reduceAdd, Nat.reduceSub, Nat.zero_add, Nat.sub_self, Bool.not_true, Bool.not_false, Bool.false_eq_true, Bool.true_eq, DL.dataOf, conF, Option.map_some, Out.to]
    refine ⟨by omega, by omega, ?_⟩
    refine ll_go i.toNat 0 0 1 .un (Int.le_refl _) (by decide) rfl fun v x v0 v1 => ?_
    subst hk
    have hv : v < 10 ^ 57 := by
      have e : (1000 : Int) ^ i.toNat ≤ 1000 ^ 19 := by
        have h2 : (1000 : Nat) ^ i.toNat ≤ 1000 ^ 19 := Nat.pow_le_pow_right (by decide) (by omega)
        have h3 : (((1000 : Nat) ^ i.toNat : Nat) : Int) ≤ (((1000 : Nat) ^ 19 : Nat) : Int) := Int.ofNat_le.mpr h2
        rw [Int.natCast_pow, Int.natCast_pow] at h3
        exact h3
      rw [Int.one_mul] at v1
      exact Int.lt_of_lt_of_le v1 e
    exact hp v v0 hv
theorem ok_law_large (T : Txt K mg A) {TB : List (Addr × Str)} : FnOk P w K mg base (L2.CX P w) 3 A.f_law_large A.fd_law_large ["_law_pen_here"] (SpD K TB 16777219 (con_law_large A)) :=
  okD (c := _) (wd := wd_law_large A) T.F_law_large sc_law_large (fun cs P Y h => by obtain ⟨b, rfl, _⟩ := conLarge_inv h; rfl) (by exact Nat.le_of_ble_eq_true rfl) (fun cdv A1 outer s H E G M hM hr => (psCons (psPar (i := 1) (j := 2) sc_law_large.nd rfl rfl (by decide) rfl rfl (pcCall mono_law_draw (ok_law_draw T) (hr.mono (by decide)) passD (by rfl) T.mg_law_draw T.F_law_draw.2 (b_law_draw T) (pbBor 0 (pbCons pdInt pbNil))) (PEd.cel pdInt) rfl) (psCons (psIf (ptLt (pdVar 1) pdInt) (psCons (psRet (pcCall mono_law_draw (ok_law_draw T) (hr.mono (by decide)) passD (by rfl) T.mg_law_draw T.F_law_draw.2 (b_law_draw T) (pbBor 0 (pbCons pdInt pbNil)))) psNil) psNil) (psCons (psFor ownD (piRange1 (by rfl) T.no_range (PEc.dat (pcCall mono_law_pick (ok_law_pick T) (hr.mono (by decide)) passD (by rfl) T.mg_law_pick T.F_law_pick.2 (b_law_pick T) (pbBor 0 (pbCons (PEc.dat (pcLst (paCons pdInt (paCons pdInt (paCons pdInt (paCons pdInt paNil)))))) pbNil))))) (pgN (i := 3) sc_law_large.nd rfl (by first | exact Or.inl rfl | exact Or.inr rfl)) (psCons (psSet (i := 2) sc_law_large.nd rfl (by first | exact Or.inl rfl | exact Or.inr rfl) (pcAdd (PEc.dat (pcMul (pdVar 2) pdInt)) (PEc.dat (pcCall mono_law_draw (ok_law_draw T) (hr.mono (by decide)) passD (by rfl) T.mg_law_draw T.F_law_draw.2 (b_law_draw T) (pbBor 0 (pbCons pdInt pbNil)))))) psNil)) (psCons (psRet (PEd.cel (pdVar 2))) psNil))))) dat_law_large
end
end K01
set_option maxRecDepth 100000
set_option maxHeartbeats 4000000
namespace K01
open PySem PySem.Spec PyProof.Rows L2 DL LamX
section
variable {P : Program} {w : World} {K : PySem.W.Frag} {mg : Str → Option Value} {base : Heap} {A : Adr}
/-! ### law -/
def bd_law_1 (A : Adr) (G : Addr → List (Str × DV) → List Cell → Prop) : WS := (wSeq (wIf (tNe (dDat (dOp1 gReprA (dVw (dCall (con_prime_power A) G (bCons (dVar 3) bNil))))) (dDat (dOp1 gReprA (dTup (aCons (dVar 4) (aCons (dVar 5) aNil)))))) (wSeq (wRet (dCel (dC (.bl false)))) wNil) wNil) wNil)
def bd_law_2 (A : Adr) (G : Addr → List (Str × DV) → List Cell → Prop) : WS := (wSeq (wAsg (dTup (aCons (dDat (dCall (con_law_pick A) G (bBor 1 (bCons (dDat (dLst (aCons (dC (.int 2)) (aCons (dC (.int 3)) (aCons (dC (.int 5)) (aCons (dC (.int 7)) aNil)))))) bNil)))) (aCons (dDat (dCall (con_law_pick A) G (bBor 1 (bCons (dDat (dLst (aCons (dDat (dCall (con_law_large A) G (bBor 1 bNil))) (aCons (dDat (dCall (con_law_draw A) G (bBor 1 (bCons (dC (.int 10)) bNil)))) aNil)))) bNil)))) aNil))) (gT 2 (gsCons (gN 4) (gsCons (gN 9) gsNil)))) (wSeq (wSet 9 (dCall (con_law_pick A) G (bBor 1 (bCons (dDat (dLst (aCons (dVar 9) (aCons (dDat (dCall (con_law_raised A) G (bCons (dVar 4) (bCons (dDat (dCall (con_law_draw A) G (bBor 1 (bCons (dC (.int 40)) bNil)))) bNil)))) (aCons (dSub (dDat (dCall (con_law_raised A) G (bCons (dVar 4) (bCons (dDat (dOp2 gAdd (dC (.int 1)) (dDat (dCall (con_law_draw A) G (bBor 1 (bCons (dC (.int 40)) bNil)))))) bNil)))) (dC (.int 1))) aNil))))) bNil)))) (wSeq (wSet 10 (dCall (con_digits A) G (bCons (dVar 9) (bCons (dVar 4) bNil)))) (wSeq (wIf (tNe (dDat (dOp1 gReprA (dPeek 10))) (dDat (dOp1 gReprA (dVw (dOp1 gTuple (dVw (dCall (con_law_digits A) G (bCons (dVar 9) (bCons (dVar 4) bNil))))))))) (wSeq (wRet (dCel (dC (.bl false)))) wNil) wNil) (wSeq (wSet 11 (dOp2 gAdd (dVar 10) (dDat (dOp2 gMulT (dTup (aCons (dC (.int 0)) aNil)) (dDat (dCall (con_law_draw A) G (bBor 1 (bCons (dC (.int 5)) bNil)))))))) (wSeq (wIf (dOr (tNe (dDat (dCall (con_number_of A) G (bCons (dVar 11) (bCons (dVar 4) bNil)))) (dVar 9)) (dOr (tNe (dDat (dCall (con_number_of A) G (bCons (dDat (dOp1 gList (dPeek 11))) (bCons (dVar 4) bNil)))) (dVar 9)) (dNot (dAsB (dDat (dCall (con_law_is_whole A) G (bCons (dDat (dCall (con_number_of A) G (bCons (dVar 10) (bCons (dVar 4) bNil)))) bNil))))))) (wSeq (wRet (dCel (dC (.bl false)))) wNil) wNil) wNil))))))
def gBN (A : Adr) : WY := fun C fs => (((some (.str "number")).bind fun x => (((if C = A.c_BadNumber then fs.lookup ("what" : Str) else none).bind fun x => ((((if C = A.c_BadNumber then fs.lookup ("number" : Str) else none).bind fun x => (reprD x).map DV.str).bind fun x => (some []).map (x :: ·))).map (x :: ·))).map (x :: ·))).bind fun xs => if xs.length ≤ 1000 then some (.tup xs) else none
def gBR (A : Adr) : WY := fun C fs => (((some (.str "row")).bind fun x => ((((if C = A.c_BadRow then fs.lookup ("row" : Str) else none).bind fun x => (reprD x).map DV.str).bind fun x => (some []).map (x :: ·))).map (x :: ·))).bind fun xs => if xs.length ≤ 1000 then some (.tup xs) else none
def wyW (K : PySem.W.Frag) (A : Adr) : WY := wyL K [(A.c_BadNumber, gBN A), (A.c_BadRow, gBR A)]
theorem whyG {X : Cx} (T : Txt X.K X.mg A) {q : Str} {cdg : Value} (hgd : X.A.guards = some []) (hu : X.A.units + 200 < cLine) : GivesTo X ["_law_call", "e"] "_law_why" (defScope s_law_why) A.f_law_why cdg (defBody s_law_why) "_law_call" q (TTw X.K (wyW X.K A) fun Q _ => Q .non) :=
  gives_drop (i := 1) (n := "e") (by decide +kernel) rfl rfl (fun s H => .cons ⟨rfl, by decide, .inl T.mg_BadNumber⟩ (phrTup (phaCons phStr (phaCons (phFld (y := "e") T.xf_BadNumber T.nf_what rfl (Or.inl rfl)) (phaCons (phRepr hgd (by show X.A.units + 3 + 65 < cLine; omega) rfl T.no_repr (phFld (y := "e") T.xf_BadNumber T.nf_number rfl (Or.inl rfl))) phaNil))) (by decide))
    (.cons ⟨rfl, by decide, .inl T.mg_BadRow⟩ (phrTup (phaCons phStr (phaCons (phRepr hgd (by show X.A.units + 3 + 65 < cLine; omega) rfl T.no_repr (phFld (y := "e") T.xf_BadRow T.nf_row rfl (Or.inl rfl))) phaNil)) (by decide)) .nil)) (fun f => rfl) (fun env => rfl)
def wd_law (K : PySem.W.Frag) (A : Adr) (G : Addr → List (Str × DV) → List Cell → Prop) : WS := (wSeq (wSet 1 (dCall (con_law_pen A) G (bCons (dVar 0) bNil))) (wSeq (wSet 2 (dLst (aCons (dTup (aCons (dC (.int 2)) (aCons (dC (.int 2)) (aCons (dC (.int 1)) aNil)))) (aCons (dTup (aCons (dC (.int 4)) (aCons (dC (.int 2)) (aCons (dC (.int 2)) aNil)))) (aCons (dTup (aCons (dC (.int 8)) (aCons (dC (.int 2)) (aCons (dC (.int 3)) aNil)))) (aCons (dTup (aCons (dC (.int 16)) (aCons (dC (.int 2)) (aCons (dC (.int 4)) aNil)))) (aCons (dTup (aCons (dC (.int 3)) (aCons (dC (.int 3)) (aCons (dC (.int 1)) aNil)))) (aCons (dTup (aCons (dC (.int 9)) (aCons (dC (.int 3)) (aCons (dC (.int 2)) aNil)))) (aCons (dTup (aCons (dC (.int 27)) (aCons (dC (.int 3)) (aCons (dC (.int 3)) aNil)))) (aCons (dTup (aCons (dC (.int 5)) (aCons (dC (.int 5)) (aCons (dC (.int 1)) aNil)))) (aCons (dTup (aCons (dC (.int 25)) (aCons (dC (.int 5)) (aCons (dC (.int 2)) aNil)))) aNil))))))))))) (wSeq (wFor (iData (dVar 2)) (gT 3 (gsCons (gN 3) (gsCons (gN 4) (gsCons (gN 5) gsNil)))) (bd_law_1 A G)) (wSeq (wSet 6 (dCall (con_law_large A) G (bBor 1 bNil))) (wSeq (wSet 7 (dCall (con_law_pick A) G (bBor 1 (bCons (dDat (dLst (aCons (dC (.int 0)) (aCons (dC (.int 1)) (aCons (dC (.int 6)) (aCons (dC (.int 32)) (aCons (dC (.int 81)) (aCons (dC (.int 49)) (aCons (dC (.int 125)) (aCons (dC (.int 10)) (aCons (dNeg (dC (.int 2))) (aCons (dC (.bl true)) (aCons (dC .non) (aCons (dC (.str "2")) (aCons (dTup (aCons (dC (.int 2)) aNil)) (aCons (dDat (dLst (aCons (dC (.int 4)) aNil))) (aCons (dDat (dOp2 gAdd (dVar 6) (dC (.int 28)))) (aCons (dNeg (dVar 6)) (aCons (dPow (dC (.int 4)) (dC (.int 50))) aNil))))))))))))))))))) bNil)))) (wSeq (wIf (dOr (tNe (dDat (dCall (con_prime_power A) G (bCons (dC (.int 7)) bNil))) (dTup (aCons (dC (.int 7)) (aCons (dC (.int 1)) aNil)))) (tNe (dDat (dWhy (wyW K A) (fun _ => .non) fun G => dDat (dCall (con_prime_power A) G (bCons (dVar 7) bNil)))) (dTup (aCons (dC (.str "number")) (aCons (dC (.str "modulus")) (aCons (dDat (dOp1 gReprA (dPeek 7))) aNil)))))) (wSeq (wRet (dCel (dC (.bl false)))) wNil) wNil) (wSeq (wFor (iR1 (dC (.int 4))) (gN 8) (bd_law_2 A G)) (wSeq (wAsg (dTup (aCons (dDat (dCall (con_law_pick A) G (bBor 1 (bCons (dDat (dLst (aCons (dC (.int 2)) (aCons (dC (.int 3)) (aCons (dC (.int 5)) (aCons (dC (.int 7)) aNil)))))) bNil)))) (aCons (dDat (dCall (con_law_pick A) G (bBor 1 (bCons (dDat (dLst (aCons (dNeg (dC (.int 1))) (aCons (dSub (dNeg (dVar 6)) (dC (.int 1))) (aCons (dC (.bl true)) (aCons (dC .non) (aCons (dC (.str "5")) (aCons (dTup (aCons (dC (.int 3)) aNil)) (aCons (dDat (dLst (aCons (dC (.int 1)) aNil))) aNil))))))))) bNil)))) aNil))) (gT 2 (gsCons (gN 4) (gsCons (gN 12) gsNil)))) (wSeq (wSet 13 (dCall (con_law_pick A) G (bBor 1 (bCons (dDat (dLst (aCons (dC (.int 0)) (aCons (dC (.int 1)) (aCons (dC (.int 4)) (aCons (dC (.int 6)) (aCons (dC (.int 9)) (aCons (dC (.int 11)) (aCons (dC (.bl true)) (aCons (dC .non) (aCons (dC (.str "3")) (aCons (dTup (aCons (dC (.int 2)) aNil)) (aCons (dNeg (dC (.int 2))) (aCons (dDat (dOp2 gAdd (dVar 6) (dC (.int 8)))) aNil)))))))))))))) bNil)))) (wSeq (wIf (tNe (dDat (dWhy (wyW K A) (fun _ => .non) fun G => dDat (dCall (con_digits A) G (bCons (dVar 12) (bCons (dVar 13) bNil))))) (dTup (aCons (dC (.str "number")) (aCons (dC (.str "n")) (aCons (dDat (dOp1 gReprA (dPeek 12))) aNil))))) (wSeq (wRet (dCel (dC (.bl false)))) wNil) wNil) (wSeq (wIf (tNe (dDat (dWhy (wyW K A) (fun _ => .non) fun G => dDat (dCall (con_digits A) G (bCons (dVar 6) (bCons (dVar 13) bNil))))) (dTup (aCons (dC (.str "number")) (aCons (dC (.str "p")) (aCons (dDat (dOp1 gReprA (dPeek 13))) aNil))))) (wSeq (wRet (dCel (dC (.bl false)))) wNil) wNil) (wSeq (wIf (tNe (dDat (dWhy (wyW K A) (fun _ => .non) fun G => dDat (dCall (con_number_of A) G (bCons (dVar 12) (bCons (dVar 13) bNil))))) (dTup (aCons (dC (.str "number")) (aCons (dC (.str "p")) (aCons (dDat (dOp1 gReprA (dPeek 13))) aNil))))) (wSeq (wRet (dCel (dC (.bl false)))) wNil) wNil) (wSeq (wSet 14 (dCall (con_law_pick A) G (bBor 1 (bCons (dDat (dLst (aCons (dC .non) (aCons (dC (.int 5)) (aCons (dC (.str "01")) (aCons (dTup (aCons (dVar 4) aNil)) (aCons (dTup (aCons (dC (.int 0)) (aCons (dNeg (dC (.int 1))) aNil))) (aCons (dTup (aCons (dC (.bl true)) aNil)) (aCons (dDat (dLst (aCons (dC (.int 0)) (aCons (dC (.str "1")) aNil)))) (aCons (dTup (aCons (dC (.int 0)) (aCons (dC .non) aNil))) (aCons (dDat (dDisp (ppC (dC (.str "a")) (dC (.int 1)) ppN))) (aCons (dTup (aCons (dC (.int 0)) (aCons (dTup (aCons (dC (.int 1)) aNil)) aNil))) (aCons (dTup (aCons (dDat (dOp2 gAdd (dVar 6) (dVar 4))) aNil)) aNil))))))))))))) bNil)))) (wSeq (wRet (dCel (dBl (tEq (dDat (dWhy (wyW K A) (fun _ => .non) fun G => dDat (dCall (con_number_of A) G (bCons (dVar 14) (bCons (dVar 4) bNil))))) (dTup (aCons (dC (.str "row")) (aCons (dDat (dOp1 gReprA (dPeek 14))) aNil))))))) wNil))))))))))))))
theorem caller_law_why {X : Cx} (T : Txt X.K X.mg A) (g : Gl X "_law_why") : ∃ cdv, Callee X ["_law_call", "e"] "_law_why" "_law_call" (defScope s_law_why) A.f_law_why cdv (defBody s_law_why) := by
  obtain ⟨oc, od, kV, doc, pm, an, cdv, ct, osl, efd, lk, hc⟩ := T.F_law_why.ex
  have b := b_law_why T
  rw [efd] at lk b
  exact ⟨cdv, { gl := g, mg := T.mg_law_why, keep := T.F_law_why.2, fn := ⟨_, _, _, _, _, _, _, _, _, _, lk, b⟩, code := hc, sc := sc_law_why, slot := rfl, vis := Or.inl rfl }⟩
abbrev qL : Str := (envOfC "law" (defScope s_law) 0 0 .none).qual ++ "<lambda>"
abbrev xLaw (P : Program) (w : World) (K : PySem.W.Frag) (mg : Str → Option Value) (base : Heap) (A : Adr) (ca : Addr) (s : Shared) (H : Hp) (E : XK) : Cx := cxOf (L2.CX P w) P w K mg base ["_law_script", "_law_pen_here", "_law_known", "_law_m", "_law_p", "_law_k", "_law_far", "_law_odd", "_law_lap", "_law_n", "_law_told", "_law_more", "_law_bad", "_law_base", "_law_row"] "law" (defScope s_law) A.f_law (.ref ca) callerA [] s H E
structure LawAt (P : Program) (w : World) (K : PySem.W.Frag) (mg : Str → Option Value) (base : Heap) (A : Adr) (ca Pt : Addr) (s : Shared) : Prop where
  T : Txt K mg A
  TB : TabB base mg ca Pt
  hr : Room 6 (callerA.deeper (envOfC "law" (defScope s_law) s.heap.objs.size A.f_law (.ref ca)))
theorem pl_0 {ca Pt : Addr} {s : Shared} {H : Hp} {E : XK} {G : Addr → List (Str × DV) → List Cell → Prop} {M : Nat} {hM : M ≤ LIM} (Lw : LawAt P w K mg base A ca Pt s) :
    PSd (xLaw P w K mg base A ca s H E) ⟨E, G, [(Pt, qL)], M, hM⟩ ((defBody s_law).getD 0 (.Pass ⟨0, 0, 0, 0⟩)) 0 (wSet 1 (dCall (con_law_pen A) G (bCons (dVar 0) bNil))) := by
  have T := Lw.T
  have TB := Lw.TB
  have hr := Lw.hr
  have hgd : (callerA.deeper (envOfC "law" (defScope s_law) s.heap.objs.size A.f_law (.ref ca))).guards = some [] := rfl
  exact PSd.le (psSet (i := 1) sc_law.nd rfl (by first | exact Or.inl rfl | exact Or.inr rfl) (pcCall mono_law_pen (ok_law_pen T) (hr.mono (by decide)) passD (by rfl) T.mg_law_pen T.F_law_pen.2 (b_law_pen T) (pbCons (pdVar 0) pbNil))) (Nat.le_of_ble_eq_true rfl)
theorem pl_1 {ca Pt : Addr} {s : Shared} {H : Hp} {E : XK} {G : Addr → List (Str × DV) → List Cell → Prop} {M : Nat} {hM : M ≤ LIM} (Lw : LawAt P w K mg base A ca Pt s) :
    PSd (xLaw P w K mg base A ca s H E) ⟨E, G, [(Pt, qL)], M, hM⟩ ((defBody s_law).getD 1 (.Pass ⟨0, 0, 0, 0⟩)) 0 (wSet 2 (dLst (aCons (dTup (aCons (dC (.int 2)) (aCons (dC (.int 2)) (aCons (dC (.int 1)) aNil)))) (aCons (dTup (aCons (dC (.int 4)) (aCons (dC (.int 2)) (aCons (dC (.int 2)) aNil)))) (aCons (dTup (aCons (dC (.int 8)) (aCons (dC (.int 2)) (aCons (dC (.int 3)) aNil)))) (aCons (dTup (aCons (dC (.int 16)) (aCons (dC (.int 2)) (aCons (dC (.int 4)) aNil)))) (aCons (dTup (aCons (dC (.int 3)) (aCons (dC (.int 3)) (aCons (dC (.int 1)) aNil)))) (aCons (dTup (aCons (dC (.int 9)) (aCons (dC (.int 3)) (aCons (dC (.int 2)) aNil)))) (aCons (dTup (aCons (dC (.int 27)) (aCons (dC (.int 3)) (aCons (dC (.int 3)) aNil)))) (aCons (dTup (aCons (dC (.int 5)) (aCons (dC (.int 5)) (aCons (dC (.int 1)) aNil)))) (aCons (dTup (aCons (dC (.int 25)) (aCons (dC (.int 5)) (aCons (dC (.int 2)) aNil)))) aNil))))))))))) := by
  have T := Lw.T
  have TB := Lw.TB
  have hr := Lw.hr
  have hgd : (callerA.deeper (envOfC "law" (defScope s_law) s.heap.objs.size A.f_law (.ref ca))).guards = some [] := rfl
  exact PSd.le (psSet (i := 2) sc_law.nd rfl (by first | exact Or.inl rfl | exact Or.inr rfl) (pcLst (paCons (pdTup (paCons pdInt (paCons pdInt (paCons pdInt paNil)))) (paCons (pdTup (paCons pdInt (paCons pdInt (paCons pdInt paNil)))) (paCons (pdTup (paCons pdInt (paCons pdInt (paCons pdInt paNil)))) (paCons (pdTup (paCons pdInt (paCons pdInt (paCons pdInt paNil)))) (paCons (pdTup (paCons pdInt (paCons pdInt (paCons pdInt paNil)))) (paCons (pdTup (paCons pdInt (paCons pdInt (paCons pdInt paNil)))) (paCons (pdTup (paCons pdInt (paCons pdInt (paCons pdInt paNil)))) (paCons (pdTup (paCons pdInt (paCons pdInt (paCons pdInt paNil)))) (paCons (pdTup (paCons pdInt (paCons pdInt (paCons pdInt paNil)))) paNil))))))))))) (Nat.le_of_ble_eq_true rfl)
theorem pl_2 {ca Pt : Addr} {s : Shared} {H : Hp} {E : XK} {G : Addr → List (Str × DV) → List Cell → Prop} {M : Nat} {hM : M ≤ LIM} (Lw : LawAt P w K mg base A ca Pt s) :
    PSd (xLaw P w K mg base A ca s H E) ⟨E, G, [(Pt, qL)], M, hM⟩ ((defBody s_law).getD 2 (.Pass ⟨0, 0, 0, 0⟩)) 0 (wFor (iData (dVar 2)) (gT 3 (gsCons (gN 3) (gsCons (gN 4) (gsCons (gN 5) gsNil)))) (bd_law_1 A G)) := by
  have T := Lw.T
  have TB := Lw.TB
  have hr := Lw.hr
  have hgd : (callerA.deeper (envOfC "law" (defScope s_law) s.heap.objs.size A.f_law (.ref ca))).guards = some [] := rfl
  exact PSd.le (psFor ownD (piSeq (pdVar 2)) (pgT (pgsCons (pgN (i := 3) sc_law.nd rfl (by first | exact Or.inl rfl | exact Or.inr rfl)) (pgsCons (pgN (i := 4) sc_law.nd rfl (by first | exact Or.inl rfl | exact Or.inr rfl)) (pgsCons (pgN (i := 5) sc_law.nd rfl (by first | exact Or.inl rfl | exact Or.inr rfl)) pgsNil)))) (psCons (psIf (ptNe hr.units (PEc.dat (pcRepr hgd (u65 hr) (by rfl) T.no_repr (PEc.vw (pcCall mono_prime_power (ok_prime_power T) (hr.mono (by decide)) passD (by rfl) T.mg_prime_power T.F_prime_power.2 (b_prime_power T) (pbCons (pdVar 3) pbNil))))) (PEc.dat (pcRepr hgd (u65 hr) (by rfl) T.no_repr (PEd.vw (pdTup (paCons (pdVar 4) (paCons (pdVar 5) paNil))))))) (psCons (psRet (PEd.cel pdBl)) psNil) psNil) psNil)) (Nat.le_of_ble_eq_true rfl)
theorem pl_3 {ca Pt : Addr} {s : Shared} {H : Hp} {E : XK} {G : Addr → List (Str × DV) → List Cell → Prop} {M : Nat} {hM : M ≤ LIM} (Lw : LawAt P w K mg base A ca Pt s) :
    PSd (xLaw P w K mg base A ca s H E) ⟨E, G, [(Pt, qL)], M, hM⟩ ((defBody s_law).getD 3 (.Pass ⟨0, 0, 0, 0⟩)) 16777219 (wSet 6 (dCall (con_law_large A) G (bBor 1 bNil))) := by
  have T := Lw.T
  have TB := Lw.TB
  have hr := Lw.hr
  have hgd : (callerA.deeper (envOfC "law" (defScope s_law) s.heap.objs.size A.f_law (.ref ca))).guards = some [] := rfl
  exact PSd.le (psSet (i := 6) sc_law.nd rfl (by first | exact Or.inl rfl | exact Or.inr rfl) (pcCall mono_law_large (ok_law_large T) (hr.mono (by decide)) passD (by rfl) T.mg_law_large T.F_law_large.2 (b_law_large T) (pbBor 1 pbNil))) (Nat.le_of_ble_eq_true rfl)
theorem pl_4 {ca Pt : Addr} {s : Shared} {H : Hp} {E : XK} {G : Addr → List (Str × DV) → List Cell → Prop} {M : Nat} {hM : M ≤ LIM} (Lw : LawAt P w K mg base A ca Pt s) :
    PSd (xLaw P w K mg base A ca s H E) ⟨E, G, [(Pt, qL)], M, hM⟩ ((defBody s_law).getD 4 (.Pass ⟨0, 0, 0, 0⟩)) 1 (wSet 7 (dCall (con_law_pick A) G (bBor 1 (bCons (dDat (dLst (aCons (dC (.int 0)) (aCons (dC (.int 1)) (aCons (dC (.int 6)) (aCons (dC (.int 32)) (aCons (dC (.int 81)) (aCons (dC (.int 49)) (aCons (dC (.int 125)) (aCons (dC (.int 10)) (aCons (dNeg (dC (.int 2))) (aCons (dC (.bl true)) (aCons (dC .non) (aCons (dC (.str "2")) (aCons (dTup (aCons (dC (.int 2)) aNil)) (aCons (dDat (dLst (aCons (dC (.int 4)) aNil))) (aCons (dDat (dOp2 gAdd (dVar 6) (dC (.int 28)))) (aCons (dNeg (dVar 6)) (aCons (dPow (dC (.int 4)) (dC (.int 50))) aNil))))))))))))))))))) bNil)))) := by
  have T := Lw.T
  have TB := Lw.TB
  have hr := Lw.hr
  have hgd : (callerA.deeper (envOfC "law" (defScope s_law) s.heap.objs.size A.f_law (.ref ca))).guards = some [] := rfl
  exact PSd.le (psSet (i := 7) sc_law.nd rfl (by first | exact Or.inl rfl | exact Or.inr rfl) (pcCall mono_law_pick (ok_law_pick T) (hr.mono (by decide)) passD (by rfl) T.mg_law_pick T.F_law_pick.2 (b_law_pick T) (pbBor 1 (pbCons (PEc.dat (pcLst (paCons pdInt (paCons pdInt (paCons pdInt (paCons pdInt (paCons pdInt (paCons pdInt (paCons pdInt (paCons pdInt (paCons (pdNeg pdInt) (paCons pdBl (paCons pdNon (paCons pdStr (paCons (pdTup (paCons pdInt paNil)) (paCons (PEc.dat (pcLst (paCons pdInt paNil))) (paCons (PEc.dat (pcAdd (pdVar 6) pdInt)) (paCons (pdNeg (pdVar 6)) (paCons (pdPow pdInt pdInt) paNil))))))))))))))))))) pbNil)))) (Nat.le_of_ble_eq_true rfl)
theorem pl_5 {ca Pt : Addr} {s : Shared} {H : Hp} {E : XK} {G : Addr → List (Str × DV) → List Cell → Prop} {M : Nat} {hM : M ≤ LIM} (Lw : LawAt P w K mg base A ca Pt s) :
    PSd (xLaw P w K mg base A ca s H E) ⟨E, G, [(Pt, qL)], M, hM⟩ ((defBody s_law).getD 5 (.Pass ⟨0, 0, 0, 0⟩)) 0 (wIf (dOr (tNe (dDat (dCall (con_prime_power A) G (bCons (dC (.int 7)) bNil))) (dTup (aCons (dC (.int 7)) (aCons (dC (.int 1)) aNil)))) (tNe (dDat (dWhy (wyW K A) (fun _ => .non) fun G => dDat (dCall (con_prime_power A) G (bCons (dVar 7) bNil)))) (dTup (aCons (dC (.str "number")) (aCons (dC (.str "modulus")) (aCons (dDat (dOp1 gReprA (dPeek 7))) aNil)))))) (wSeq (wRet (dCel (dC (.bl false)))) wNil) wNil) := by
  have T := Lw.T
  have TB := Lw.TB
  have hr := Lw.hr
  have hgd : (callerA.deeper (envOfC "law" (defScope s_law) s.heap.objs.size A.f_law (.ref ca))).guards = some [] := rfl
  obtain ⟨cdv1, CW⟩ := caller_law_why (X := xLaw P w K mg base A ca s H E) T rfl
  have Mk : Maker (xLaw P w K mg base A ca s H E) [(Pt, qL)] ca Pt := ⟨TB, rfl, List.mem_singleton.mpr rfl, fun p hp _ => by rw [List.mem_singleton.mp hp]; rfl⟩
  exact PSd.le (psIf (PWd.pt (pwOr (ptNe hr.units (PEc.dat (pcCall mono_prime_power (ok_prime_power T) (hr.mono (by decide)) passD (by rfl) T.mg_prime_power T.F_prime_power.2 (b_prime_power T) (pbCons pdInt pbNil))) (pdTup (paCons pdInt (paCons pdInt paNil)))) (pwOr1 (ptNe hr.units (PEc.dat (pcWhy (k := 3) (wish := wishW K (wyW K A)) (nrm := fun Q _ => Q .non) CW (whyG T hgd (u200 hr)) Mk ⟨lamS_by (by rfl), rfl, fun _ _ _ _ _ => rfl⟩ (hr.mono (by decide)) (fun _ _ _ h => h) (fun F H v d Q sm hv g => g.1 _ .non) (fun F H C d fs x Q sm he hwy g => ⟨F, C, fs, d, x, ⟨rfl, rfl, sm, he, hwy⟩, g⟩) (fm_call mono_prime_power (mono_bCons (mono_var _) mono_bNil)) (fun A1 outer1 s1 H1 E1 G1 M1 hM1 fl c1 hr2 => (PEc.dat (pcCall mono_prime_power (ok_prime_power T) (hr2.mono (by decide)) passL (by rfl) T.mg_prime_power T.F_prime_power.2 (b_prime_power T) (pbCons (pdVar 7) pbNil)))))) (pdTup (paCons pdStr (paCons pdStr (paCons (PEc.dat (pcRepr hgd (u65 hr) (by rfl) T.no_repr (pvName 7))) paNil)))))))) (psCons (psRet (PEd.cel pdBl)) psNil) psNil) (Nat.le_of_ble_eq_true rfl)
theorem pl_6 {ca Pt : Addr} {s : Shared} {H : Hp} {E : XK} {G : Addr → List (Str × DV) → List Cell → Prop} {M : Nat} {hM : M ≤ LIM} (Lw : LawAt P w K mg base A ca Pt s) :
    PSd (xLaw P w K mg base A ca s H E) ⟨E, G, [(Pt, qL)], M, hM⟩ ((defBody s_law).getD 6 (.Pass ⟨0, 0, 0, 0⟩)) 281475144482816 (wFor (iR1 (dC (.int 4))) (gN 8) (bd_law_2 A G)) := by
  have T := Lw.T
  have TB := Lw.TB
  have hr := Lw.hr
  have hgd : (callerA.deeper (envOfC "law" (defScope s_law) s.heap.objs.size A.f_law (.ref ca))).guards = some [] := rfl
  exact PSd.le (psFor ownD (piRange1 (by rfl) T.no_range pdInt) (pgN (i := 8) sc_law.nd rfl (by first | exact Or.inl rfl | exact Or.inr rfl)) (psCons (psAsg (pdTup (paCons (PEc.dat (pcCall mono_law_pick (ok_law_pick T) (hr.mono (by decide)) passD (by rfl) T.mg_law_pick T.F_law_pick.2 (b_law_pick T) (pbBor 1 (pbCons (PEc.dat (pcLst (paCons pdInt (paCons pdInt (paCons pdInt (paCons pdInt paNil)))))) pbNil)))) (paCons (PEc.dat (pcCall mono_law_pick (ok_law_pick T) (hr.mono (by decide)) passD (by rfl) T.mg_law_pick T.F_law_pick.2 (b_law_pick T) (pbBor 1 (pbCons (PEc.dat (pcLst (paCons (PEc.dat (pcCall mono_law_large (ok_law_large T) (hr.mono (by decide)) passD (by rfl) T.mg_law_large T.F_law_large.2 (b_law_large T) (pbBor 1 pbNil))) (paCons (PEc.dat (pcCall mono_law_draw (ok_law_draw T) (hr.mono (by decide)) passD (by rfl) T.mg_law_draw T.F_law_draw.2 (b_law_draw T) (pbBor 1 (pbCons pdInt pbNil)))) paNil)))) pbNil)))) paNil))) (pgT (pgsCons (pgN (i := 4) sc_law.nd rfl (by first | exact Or.inl rfl | exact Or.inr rfl)) (pgsCons (pgN (i := 9) sc_law.nd rfl (by first | exact Or.inl rfl | exact Or.inr rfl)) pgsNil)))) (psCons (psSet (i := 9) sc_law.nd rfl (by first | exact Or.inl rfl | exact Or.inr rfl) (pcCall mono_law_pick (ok_law_pick T) (hr.mono (by decide)) passD (by rfl) T.mg_law_pick T.F_law_pick.2 (b_law_pick T) (pbBor 1 (pbCons (PEc.dat (pcLst (paCons (pdVar 9) (paCons (PEc.dat (pcCall mono_law_raised (ok_law_raised T) (hr.mono (by decide)) passD (by rfl) T.mg_law_raised T.F_law_raised.2 (b_law_raised T) (pbCons (pdVar 4) (pbCons (PEc.dat (pcCall mono_law_draw (ok_law_draw T) (hr.mono (by decide)) passD (by rfl) T.mg_law_draw T.F_law_draw.2 (b_law_draw T) (pbBor 1 (pbCons pdInt pbNil)))) pbNil)))) (paCons (pdSub (PEc.dat (pcCall mono_law_raised (ok_law_raised T) (hr.mono (by decide)) passD (by rfl) T.mg_law_raised T.F_law_raised.2 (b_law_raised T) (pbCons (pdVar 4) (pbCons (PEc.dat (pcAdd pdInt (PEc.dat (pcCall mono_law_draw (ok_law_draw T) (hr.mono (by decide)) passD (by rfl) T.mg_law_draw T.F_law_draw.2 (b_law_draw T) (pbBor 1 (pbCons pdInt pbNil)))))) pbNil)))) pdInt) paNil))))) pbNil)))) (psCons (psSet (i := 10) sc_law.nd rfl (by first | exact Or.inl rfl | exact Or.inr rfl) (pcCall mono_digits (ok_digits T) (hr.mono (by decide)) passD (by rfl) T.mg_digits T.F_digits.2 (b_digits T) (pbCons (pdVar 9) (pbCons (pdVar 4) pbNil)))) (psCons (psIf (ptNe hr.units (PEc.dat (pcRepr hgd (u65 hr) (by rfl) T.no_repr (pvName 10))) (PEc.dat (pcRepr hgd (u65 hr) (by rfl) T.no_repr (PEc.vw (pcTuple (by rfl) T.no_tuple (PEc.vw (pcCall mono_law_digits (ok_law_digits T) (hr.mono (by decide)) passD (by rfl) T.mg_law_digits T.F_law_digits.2 (b_law_digits T) (pbCons (pdVar 9) (pbCons (pdVar 4) pbNil))))))))) (psCons (psRet (PEd.cel pdBl)) psNil) psNil) (psCons (psSet (i := 11) sc_law.nd rfl (by first | exact Or.inl rfl | exact Or.inr rfl) (pcAdd (pdVar 10) (PEc.dat (pcMulT (pdTup (paCons pdInt paNil)) (PEc.dat (pcCall mono_law_draw (ok_law_draw T) (hr.mono (by decide)) passD (by rfl) T.mg_law_draw T.F_law_draw.2 (b_law_draw T) (pbBor 1 (pbCons pdInt pbNil)))))))) (psCons (psIf (PWd.pt (pwOr (ptNe hr.units (PEc.dat (pcCall mono_number_of (ok_number_of T) (hr.mono (by decide)) passD (by rfl) T.mg_number_of T.F_number_of.2 (b_number_of T) (pbCons (pdVar 11) (pbCons (pdVar 4) pbNil)))) (pdVar 9)) (pwOr (ptNe hr.units (PEc.dat (pcCall mono_number_of (ok_number_of T) (hr.mono (by decide)) passD (by rfl) T.mg_number_of T.F_number_of.2 (b_number_of T) (pbCons (PEc.dat (pcList (by rfl) T.no_list (pvName 11))) (pbCons (pdVar 4) pbNil)))) (pdVar 9)) (pwOr1 (ptNot (ptVal (PEc.dat (pcCall mono_law_is_whole (ok_law_is_whole T) (hr.mono (by decide)) passD (by rfl) T.mg_law_is_whole T.F_law_is_whole.2 (b_law_is_whole T) (pbCons (PEc.dat (pcCall mono_number_of (ok_number_of T) (hr.mono (by decide)) passD (by rfl) T.mg_number_of T.F_number_of.2 (b_number_of T) (pbCons (pdVar 10) (pbCons (pdVar 4) pbNil)))) pbNil))))))))) (psCons (psRet (PEd.cel pdBl)) psNil) psNil) psNil))))))) (Nat.le_of_ble_eq_true rfl)
theorem pl_7 {ca Pt : Addr} {s : Shared} {H : Hp} {E : XK} {G : Addr → List (Str × DV) → List Cell → Prop} {M : Nat} {hM : M ≤ LIM} (Lw : LawAt P w K mg base A ca Pt s) :
    PSd (xLaw P w K mg base A ca s H E) ⟨E, G, [(Pt, qL)], M, hM⟩ ((defBody s_law).getD 7 (.Pass ⟨0, 0, 0, 0⟩)) 2 (wAsg (dTup (aCons (dDat (dCall (con_law_pick A) G (bBor 1 (bCons (dDat (dLst (aCons (dC (.int 2)) (aCons (dC (.int 3)) (aCons (dC (.int 5)) (aCons (dC (.int 7)) aNil)))))) bNil)))) (aCons (dDat (dCall (con_law_pick A) G (bBor 1 (bCons (dDat (dLst (aCons (dNeg (dC (.int 1))) (aCons (dSub (dNeg (dVar 6)) (dC (.int 1))) (aCons (dC (.bl true)) (aCons (dC .non) (aCons (dC (.str "5")) (aCons (dTup (aCons (dC (.int 3)) aNil)) (aCons (dDat (dLst (aCons (dC (.int 1)) aNil))) aNil))))))))) bNil)))) aNil))) (gT 2 (gsCons (gN 4) (gsCons (gN 12) gsNil)))) := by
  have T := Lw.T
  have TB := Lw.TB
  have hr := Lw.hr
  have hgd : (callerA.deeper (envOfC "law" (defScope s_law) s.heap.objs.size A.f_law (.ref ca))).guards = some [] := rfl
  exact PSd.le (psAsg (pdTup (paCons (PEc.dat (pcCall mono_law_pick (ok_law_pick T) (hr.mono (by decide)) passD (by rfl) T.mg_law_pick T.F_law_pick.2 (b_law_pick T) (pbBor 1 (pbCons (PEc.dat (pcLst (paCons pdInt (paCons pdInt (paCons pdInt (paCons pdInt paNil)))))) pbNil)))) (paCons (PEc.dat (pcCall mono_law_pick (ok_law_pick T) (hr.mono (by decide)) passD (by rfl) T.mg_law_pick T.F_law_pick.2 (b_law_pick T) (pbBor 1 (pbCons (PEc.dat (pcLst (paCons (pdNeg pdInt) (paCons (pdSub (pdNeg (pdVar 6)) pdInt) (paCons pdBl (paCons pdNon (paCons pdStr (paCons (pdTup (paCons pdInt paNil)) (paCons (PEc.dat (pcLst (paCons pdInt paNil))) paNil))))))))) pbNil)))) paNil))) (pgT (pgsCons (pgN (i := 4) sc_law.nd rfl (by first | exact Or.inl rfl | exact Or.inr rfl)) (pgsCons (pgN (i := 12) sc_law.nd rfl (by first | exact Or.inl rfl | exact Or.inr rfl)) pgsNil)))) (Nat.le_of_ble_eq_true rfl)
theorem pl_8 {ca Pt : Addr} {s : Shared} {H : Hp} {E : XK} {G : Addr → List (Str × DV) → List Cell → Prop} {M : Nat} {hM : M ≤ LIM} (Lw : LawAt P w K mg base A ca Pt s) :
    PSd (xLaw P w K mg base A ca s H E) ⟨E, G, [(Pt, qL)], M, hM⟩ ((defBody s_law).getD 8 (.Pass ⟨0, 0, 0, 0⟩)) 1 (wSet 13 (dCall (con_law_pick A) G (bBor 1 (bCons (dDat (dLst (aCons (dC (.int 0)) (aCons (dC (.int 1)) (aCons (dC (.int 4)) (aCons (dC (.int 6)) (aCons (dC (.int 9)) (aCons (dC (.int 11)) (aCons (dC (.bl true)) (aCons (dC .non) (aCons (dC (.str "3")) (aCons (dTup (aCons (dC (.int 2)) aNil)) (aCons (dNeg (dC (.int 2))) (aCons (dDat (dOp2 gAdd (dVar 6) (dC (.int 8)))) aNil)))))))))))))) bNil)))) := by
  have T := Lw.T
  have TB := Lw.TB
  have hr := Lw.hr
  have hgd : (callerA.deeper (envOfC "law" (defScope s_law) s.heap.objs.size A.f_law (.ref ca))).guards = some [] := rfl
  exact PSd.le (psSet (i := 13) sc_law.nd rfl (by first | exact Or.inl rfl | exact Or.inr rfl) (pcCall mono_law_pick (ok_law_pick T) (hr.mono (by decide)) passD (by rfl) T.mg_law_pick T.F_law_pick.2 (b_law_pick T) (pbBor 1 (pbCons (PEc.dat (pcLst (paCons pdInt (paCons pdInt (paCons pdInt (paCons pdInt (paCons pdInt (paCons pdInt (paCons pdBl (paCons pdNon (paCons pdStr (paCons (pdTup (paCons pdInt paNil)) (paCons (pdNeg pdInt) (paCons (PEc.dat (pcAdd (pdVar 6) pdInt)) paNil)))))))))))))) pbNil)))) (Nat.le_of_ble_eq_true rfl)
theorem pl_9 {ca Pt : Addr} {s : Shared} {H : Hp} {E : XK} {G : Addr → List (Str × DV) → List Cell → Prop} {M : Nat} {hM : M ≤ LIM} (Lw : LawAt P w K mg base A ca Pt s) :
    PSd (xLaw P w K mg base A ca s H E) ⟨E, G, [(Pt, qL)], M, hM⟩ ((defBody s_law).getD 9 (.Pass ⟨0, 0, 0, 0⟩)) 0 (wIf (tNe (dDat (dWhy (wyW K A) (fun _ => .non) fun G => dDat (dCall (con_digits A) G (bCons (dVar 12) (bCons (dVar 13) bNil))))) (dTup (aCons (dC (.str "number")) (aCons (dC (.str "n")) (aCons (dDat (dOp1 gReprA (dPeek 12))) aNil))))) (wSeq (wRet (dCel (dC (.bl false)))) wNil) wNil) := by
  have T := Lw.T
  have TB := Lw.TB
  have hr := Lw.hr
  have hgd : (callerA.deeper (envOfC "law" (defScope s_law) s.heap.objs.size A.f_law (.ref ca))).guards = some [] := rfl
  obtain ⟨cdv1, CW⟩ := caller_law_why (X := xLaw P w K mg base A ca s H E) T rfl
  have Mk : Maker (xLaw P w K mg base A ca s H E) [(Pt, qL)] ca Pt := ⟨TB, rfl, List.mem_singleton.mpr rfl, fun p hp _ => by rw [List.mem_singleton.mp hp]; rfl⟩
  exact PSd.le (psIf (ptNe hr.units (PEc.dat (pcWhy (k := 4) (wish := wishW K (wyW K A)) (nrm := fun Q _ => Q .non) CW (whyG T hgd (u200 hr)) Mk ⟨lamS_by (by rfl), rfl, fun _ _ _ _ _ => rfl⟩ (hr.mono (by decide)) (fun _ _ _ h => h) (fun F H v d Q sm hv g => g.1 _ .non) (fun F H C d fs x Q sm he hwy g => ⟨F, C, fs, d, x, ⟨rfl, rfl, sm, he, hwy⟩, g⟩) (fm_call mono_digits (mono_bCons (mono_var _) (mono_bCons (mono_var _) mono_bNil))) (fun A1 outer1 s1 H1 E1 G1 M1 hM1 fl c1 hr2 => (PEc.dat (pcCall mono_digits (ok_digits T) (hr2.mono (by decide)) passL (by rfl) T.mg_digits T.F_digits.2 (b_digits T) (pbCons (pdVar 12) (pbCons (pdVar 13) pbNil))))))) (pdTup (paCons pdStr (paCons pdStr (paCons (PEc.dat (pcRepr hgd (u65 hr) (by rfl) T.no_repr (pvName 12))) paNil))))) (psCons (psRet (PEd.cel pdBl)) psNil) psNil) (Nat.le_of_ble_eq_true rfl)
theorem pl_10 {ca Pt : Addr} {s : Shared} {H : Hp} {E : XK} {G : Addr → List (Str × DV) → List Cell → Prop} {M : Nat} {hM : M ≤ LIM} (Lw : LawAt P w K mg base A ca Pt s) :
    PSd (xLaw P w K mg base A ca s H E) ⟨E, G, [(Pt, qL)], M, hM⟩ ((defBody s_law).getD 10 (.Pass ⟨0, 0, 0, 0⟩)) 0 (wIf (tNe (dDat (dWhy (wyW K A) (fun _ => .non) fun G => dDat (dCall (con_digits A) G (bCons (dVar 6) (bCons (dVar 13) bNil))))) (dTup (aCons (dC (.str "number")) (aCons (dC (.str "p")) (aCons (dDat (dOp1 gReprA (dPeek 13))) aNil))))) (wSeq (wRet (dCel (dC (.bl false)))) wNil) wNil) := by
  have T := Lw.T
  have TB := Lw.TB
  have hr := Lw.hr
  have hgd : (callerA.deeper (envOfC "law" (defScope s_law) s.heap.objs.size A.f_law (.ref ca))).guards = some [] := rfl
  obtain ⟨cdv1, CW⟩ := caller_law_why (X := xLaw P w K mg base A ca s H E) T rfl
  have Mk : Maker (xLaw P w K mg base A ca s H E) [(Pt, qL)] ca Pt := ⟨TB, rfl, List.mem_singleton.mpr rfl, fun p hp _ => by rw [List.mem_singleton.mp hp]; rfl⟩
  exact PSd.le (psIf (ptNe hr.units (PEc.dat (pcWhy (k := 4) (wish := wishW K (wyW K A)) (nrm := fun Q _ => Q .non) CW (whyG T hgd (u200 hr)) Mk ⟨lamS_by (by rfl), rfl, fun _ _ _ _ _ => rfl⟩ (hr.mono (by decide)) (fun _ _ _ h => h) (fun F H v d Q sm hv g => g.1 _ .non) (fun F H C d fs x Q sm he hwy g => ⟨F, C, fs, d, x, ⟨rfl, rfl, sm, he, hwy⟩, g⟩) (fm_call mono_digits (mono_bCons (mono_var _) (mono_bCons (mono_var _) mono_bNil))) (fun A1 outer1 s1 H1 E1 G1 M1 hM1 fl c1 hr2 => (PEc.dat (pcCall mono_digits (ok_digits T) (hr2.mono (by decide)) passL (by rfl) T.mg_digits T.F_digits.2 (b_digits T) (pbCons (pdVar 6) (pbCons (pdVar 13) pbNil))))))) (pdTup (paCons pdStr (paCons pdStr (paCons (PEc.dat (pcRepr hgd (u65 hr) (by rfl) T.no_repr (pvName 13))) paNil))))) (psCons (psRet (PEd.cel pdBl)) psNil) psNil) (Nat.le_of_ble_eq_true rfl)
theorem pl_11 {ca Pt : Addr} {s : Shared} {H : Hp} {E : XK} {G : Addr → List (Str × DV) → List Cell → Prop} {M : Nat} {hM : M ≤ LIM} (Lw : LawAt P w K mg base A ca Pt s) :
    PSd (xLaw P w K mg base A ca s H E) ⟨E, G, [(Pt, qL)], M, hM⟩ ((defBody s_law).getD 11 (.Pass ⟨0, 0, 0, 0⟩)) 0 (wIf (tNe (dDat (dWhy (wyW K A) (fun _ => .non) fun G => dDat (dCall (con_number_of A) G (bCons (dVar 12) (bCons (dVar 13) bNil))))) (dTup (aCons (dC (.str "number")) (aCons (dC (.str "p")) (aCons (dDat (dOp1 gReprA (dPeek 13))) aNil))))) (wSeq (wRet (dCel (dC (.bl false)))) wNil) wNil) := by
  have T := Lw.T
  have TB := Lw.TB
  have hr := Lw.hr
  have hgd : (callerA.deeper (envOfC "law" (defScope s_law) s.heap.objs.size A.f_law (.ref ca))).guards = some [] := rfl
  obtain ⟨cdv1, CW⟩ := caller_law_why (X := xLaw P w K mg base A ca s H E) T rfl
  have Mk : Maker (xLaw P w K mg base A ca s H E) [(Pt, qL)] ca Pt := ⟨TB, rfl, List.mem_singleton.mpr rfl, fun p hp _ => by rw [List.mem_singleton.mp hp]; rfl⟩
  exact PSd.le (psIf (ptNe hr.units (PEc.dat (pcWhy (k := 4) (wish := wishW K (wyW K A)) (nrm := fun Q _ => Q .non) CW (whyG T hgd (u200 hr)) Mk ⟨lamS_by (by rfl), rfl, fun _ _ _ _ _ => rfl⟩ (hr.mono (by decide)) (fun _ _ _ h => h) (fun F H v d Q sm hv g => g.1 _ .non) (fun F H C d fs x Q sm he hwy g => ⟨F, C, fs, d, x, ⟨rfl, rfl, sm, he, hwy⟩, g⟩) (fm_call mono_number_of (mono_bCons (mono_var _) (mono_bCons (mono_var _) mono_bNil))) (fun A1 outer1 s1 H1 E1 G1 M1 hM1 fl c1 hr2 => (PEc.dat (pcCall mono_number_of (ok_number_of T) (hr2.mono (by decide)) passL (by rfl) T.mg_number_of T.F_number_of.2 (b_number_of T) (pbCons (pdVar 12) (pbCons (pdVar 13) pbNil))))))) (pdTup (paCons pdStr (paCons pdStr (paCons (PEc.dat (pcRepr hgd (u65 hr) (by rfl) T.no_repr (pvName 13))) paNil))))) (psCons (psRet (PEd.cel pdBl)) psNil) psNil) (Nat.le_of_ble_eq_true rfl)
theorem pl_12 {ca Pt : Addr} {s : Shared} {H : Hp} {E : XK} {G : Addr → List (Str × DV) → List Cell → Prop} {M : Nat} {hM : M ≤ LIM} (Lw : LawAt P w K mg base A ca Pt s) :
    PSd (xLaw P w K mg base A ca s H E) ⟨E, G, [(Pt, qL)], M, hM⟩ ((defBody s_law).getD 12 (.Pass ⟨0, 0, 0, 0⟩)) 1 (wSet 14 (dCall (con_law_pick A) G (bBor 1 (bCons (dDat (dLst (aCons (dC .non) (aCons (dC (.int 5)) (aCons (dC (.str "01")) (aCons (dTup (aCons (dVar 4) aNil)) (aCons (dTup (aCons (dC (.int 0)) (aCons (dNeg (dC (.int 1))) aNil))) (aCons (dTup (aCons (dC (.bl true)) aNil)) (aCons (dDat (dLst (aCons (dC (.int 0)) (aCons (dC (.str "1")) aNil)))) (aCons (dTup (aCons (dC (.int 0)) (aCons (dC .non) aNil))) (aCons (dDat (dDisp (ppC (dC (.str "a")) (dC (.int 1)) ppN))) (aCons (dTup (aCons (dC (.int 0)) (aCons (dTup (aCons (dC (.int 1)) aNil)) aNil))) (aCons (dTup (aCons (dDat (dOp2 gAdd (dVar 6) (dVar 4))) aNil)) aNil))))))))))))) bNil)))) := by
  have T := Lw.T
  have TB := Lw.TB
  have hr := Lw.hr
  have hgd : (callerA.deeper (envOfC "law" (defScope s_law) s.heap.objs.size A.f_law (.ref ca))).guards = some [] := rfl
  exact PSd.le (psSet (i := 14) sc_law.nd rfl (by first | exact Or.inl rfl | exact Or.inr rfl) (pcCall mono_law_pick (ok_law_pick T) (hr.mono (by decide)) passD (by rfl) T.mg_law_pick T.F_law_pick.2 (b_law_pick T) (pbBor 1 (pbCons (PEc.dat (pcLst (paCons pdNon (paCons pdInt (paCons pdStr (paCons (pdTup (paCons (pdVar 4) paNil)) (paCons (pdTup (paCons pdInt (paCons (pdNeg pdInt) paNil))) (paCons (pdTup (paCons pdBl paNil)) (paCons (PEc.dat (pcLst (paCons pdInt (paCons pdStr paNil)))) (paCons (pdTup (paCons pdInt (paCons pdNon paNil))) (paCons (PEc.dat (pcDisp (ppCons pdStr pdInt ppNil))) (paCons (pdTup (paCons pdInt (paCons (pdTup (paCons pdInt paNil)) paNil))) (paCons (pdTup (paCons (PEc.dat (pcAdd (pdVar 6) (pdVar 4))) paNil)) paNil))))))))))))) pbNil)))) (Nat.le_of_ble_eq_true rfl)
theorem pl_13 {ca Pt : Addr} {s : Shared} {H : Hp} {E : XK} {G : Addr → List (Str × DV) → List Cell → Prop} {M : Nat} {hM : M ≤ LIM} (Lw : LawAt P w K mg base A ca Pt s) :
    PSd (xLaw P w K mg base A ca s H E) ⟨E, G, [(Pt, qL)], M, hM⟩ ((defBody s_law).getD 13 (.Pass ⟨0, 0, 0, 0⟩)) 0 (wRet (dCel (dBl (tEq (dDat (dWhy (wyW K A) (fun _ => .non) fun G => dDat (dCall (con_number_of A) G (bCons (dVar 14) (bCons (dVar 4) bNil))))) (dTup (aCons (dC (.str "row")) (aCons (dDat (dOp1 gReprA (dPeek 14))) aNil))))))) := by
  have T := Lw.T
  have TB := Lw.TB
  have hr := Lw.hr
  have hgd : (callerA.deeper (envOfC "law" (defScope s_law) s.heap.objs.size A.f_law (.ref ca))).guards = some [] := rfl
  obtain ⟨cdv1, CW⟩ := caller_law_why (X := xLaw P w K mg base A ca s H E) T rfl
  have Mk : Maker (xLaw P w K mg base A ca s H E) [(Pt, qL)] ca Pt := ⟨TB, rfl, List.mem_singleton.mpr rfl, fun p hp _ => by rw [List.mem_singleton.mp hp]; rfl⟩
  exact PSd.le (psRet (PEd.cel (pdEq hr.units (PEc.dat (pcWhy (k := 4) (wish := wishW K (wyW K A)) (nrm := fun Q _ => Q .non) CW (whyG T hgd (u200 hr)) Mk ⟨lamS_by (by rfl), rfl, fun _ _ _ _ _ => rfl⟩ (hr.mono (by decide)) (fun _ _ _ h => h) (fun F H v d Q sm hv g => g.1 _ .non) (fun F H C d fs x Q sm he hwy g => ⟨F, C, fs, d, x, ⟨rfl, rfl, sm, he, hwy⟩, g⟩) (fm_call mono_number_of (mono_bCons (mono_var _) (mono_bCons (mono_var _) mono_bNil))) (fun A1 outer1 s1 H1 E1 G1 M1 hM1 fl c1 hr2 => (PEc.dat (pcCall mono_number_of (ok_number_of T) (hr2.mono (by decide)) passL (by rfl) T.mg_number_of T.F_number_of.2 (b_number_of T) (pbCons (pdVar 14) (pbCons (pdVar 4) pbNil))))))) (pdTup (paCons pdStr (paCons (PEc.dat (pcRepr hgd (u65 hr) (by rfl) T.no_repr (pvName 14))) paNil)))))) (Nat.le_of_ble_eq_true rfl)
theorem pls_law {ca Pt : Addr} {s : Shared} {H : Hp} {E : XK} {G : Addr → List (Str × DV) → List Cell → Prop} {M : Nat} {hM : M ≤ LIM} (Lw : LawAt P w K mg base A ca Pt s) :
    PSSd (xLaw P w K mg base A ca s H E) ⟨E, G, [(Pt, qL)], M, hM⟩ (defBody s_law) 281475161260040 (wd_law K A G) := (psCons (pl_0 Lw) (psCons (pl_1 Lw) (psCons (pl_2 Lw) (psCons (pl_3 Lw) (psCons (pl_4 Lw) (psCons (pl_5 Lw) (psCons (pl_6 Lw) (psCons (pl_7 Lw) (psCons (pl_8 Lw) (psCons (pl_9 Lw) (psCons (pl_10 Lw) (psCons (pl_11 Lw) (psCons (pl_12 Lw) (psCons (pl_13 Lw) psNil))))))))))))))
theorem ok_law (T : Txt K mg A) {ca Pt : Addr} {kV doc pm ct oc : Value} {an od : Option Addr} {osl : Array (Option Value)}
    (lk : K.lookup A.f_law = some ⟨oc, od, .func (PySem.W.fnOf "law" "law" (defArgs s_law) (defBody s_law) (defScope s_law) .none kV doc pm an (.ref ca) ct), osl⟩) (hcd : PySem.W.codeIn K (.ref ca) "law" = true) (TB : TabB base mg ca Pt)
    (hdata : ∀ cs P Y, conLaw cs P Y → runD 15 (wd_law K A fun C fs e => Y C fs (borsAt e (ownIx 0 cs))) cs P) :
    FnAt P w K mg base (L2.CX P w) 7 A.f_law (PySem.W.fnOf "law" "law" (defArgs s_law) (defBody s_law) (defScope s_law) .none kV doc pm an (.ref ca) ct) ["_law_script"] (SpD K [(Pt, qL)] 281475161260040 conLaw) :=
  okAt (c := 281475161260040) (wd := wd_law K A) lk hcd sc_law (fun cs P Y ⟨ns, ⟨e, _⟩, _⟩ => by rw [e]; rfl) (Nat.le_refl _) (fun s H E G M hM hr => pls_law ⟨T, TB, hr⟩) hdata
end
end K01
set_option maxRecDepth 100000
set_option maxHeartbeats 4000000
namespace K01
open PySem PySem.Spec PyProof.Rows L2 DL LamX
def powL : List (Int × DV) := [(2, .ktup [.int 2, .int 1]), (4, .ktup [.int 2, .int 2]), (8, .ktup [.int 2, .int 3]), (16, .ktup [.int 2, .int 4]), (3, .ktup [.int 3, .int 1]), (9, .ktup [.int 3, .int 2]), (27, .ktup [.int 3, .int 3]), (5, .ktup [.int 5, .int 1]), (25, .ktup [.int 5, .int 2]), (7, .ktup [.int 7, .int 1])]
/-- what the head tells of the table and of the errors' classes -/
structure Fac (K : PySem.W.Frag) (A : Adr) : Prop where
  pow : A.k_POWERS.map (fun q => (q.1, q.2.2)) = powL
  e1 : PySem.W.exmOne K (.ref A.c_BadNumber) (.ref A.c_BadNumber) = some true
  e2 : PySem.W.exmOne K (.ref A.c_BadRow) (.ref A.c_BadNumber) = some false
  e3 : PySem.W.exmOne K (.ref A.c_BadRow) (.ref A.c_BadRow) = some true
theorem lookup_snd (m : Int) : ∀ l : List (Int × (V × DV)), (l.map fun q => (q.1, q.2.2)).lookup m = (l.lookup m).map (·.2)
  | [] => rfl
  | (k, p) :: l => by
    rw [List.map_cons, List.lookup_cons, List.lookup_cons]
    cases m == k with
    | true => rfl
    | false => exact lookup_snd m l
section
variable {K : PySem.W.Frag} {A : Adr}
theorem pp_known (Fa : Fac K A) {m : Int} {d : DV} (h : powL.lookup m = some d) : f_prime_power A [.int m] = some (.ret d) := by
  rw [← Fa.pow, lookup_snd] at h
  unfold f_prime_power
  dsimp only
  cases e : A.k_POWERS.lookup m with
  | none =>
    rw [e] at h
    cases h
  | some p =>
    rw [e] at h
    cases h
    rfl
theorem pp_other (Fa : Fac K A) {m : Int} (h : powL.lookup m = none) : f_prime_power A [.int m] = some (badN A "modulus" (.int m)) := by
  rw [← Fa.pow, lookup_snd] at h
  unfold f_prime_power
  dsimp only
  cases e : A.k_POWERS.lookup m with
  | some p =>
    rw [e] at h
    cases h
  | none => rfl
theorem pow_none {m : Int} (h : m < 2 ∨ 27 < m) : powL.lookup m = none := by
  have k : ∀ (l : List (Int × DV)), (∀ q ∈ l, (2 : Int) ≤ q.1 ∧ q.1 ≤ 27) → l.lookup m = none := by
    intro l
    induction l with
    | nil => exact fun _ => rfl
    | cons q l ih =>
      intro hq
      have hq0 := hq q List.mem_cons_self
      rw [List.lookup_cons, show (m == q.1) = false from beq_eq_false_iff_ne.mpr (by omega)]
      exact ih fun x hx => hq x (List.mem_cons_of_mem _ hx)
  exact k powL (by decide +kernel)
theorem why_n (Fa : Fac K A) {x : DV} {s wh : Str} (h : reprD x = some s) : wyW K A A.c_BadNumber [("number", x), ("what", .str wh)] = some (.tup [.str "number", .str wh, .str s]) := by
  unfold wyW wyL
  rw [Fa.e1]
  show gBN A A.c_BadNumber _ = _
  unfold gBN
  rw [if_pos rfl, if_pos rfl]
  rw [show ([("number", x), ("what", .str wh)] : List (Str × DV)).lookup ("what" : Str) = some (.str wh) from by rw [List.lookup_cons, List.lookup_cons]; rfl]
  rw [show ([("number", x), ("what", .str wh)] : List (Str × DV)).lookup ("number" : Str) = some x from by rw [List.lookup_cons]; rfl]
  rw [Option.bind_some, Option.bind_some, Option.bind_some, h]
  rfl
theorem why_r (Fa : Fac K A) {x : DV} {s : Str} (h : reprD x = some s) : wyW K A A.c_BadRow [("row", x)] = some (.tup [.str "row", .str s]) := by
  unfold wyW wyL
  rw [Fa.e2]
  show wyL K [(A.c_BadRow, gBR A)] A.c_BadRow _ = _
  unfold wyL
  rw [Fa.e3]
  show gBR A A.c_BadRow _ = _
  unfold gBR
  rw [if_pos rfl]
  rw [show ([("row", x)] : List (Str × DV)).lookup ("row" : Str) = some x from by rw [List.lookup_cons]; rfl]
  rw [Option.bind_some, Option.bind_some, h]
  rfl
theorem callF {n : Nat} {f : List DV → Option Out} {cs : List Cell} {xs : List DV} {r : Out} {P : Cell → List OC → Prop} {Y : Addr → List (Str × DV) → List OC → Prop} (e : dataOf cs = some xs) (hl : xs.length = n) (h : f xs = some r) (q : r.to P Y) : conF n f cs P Y := by
  unfold conF
  rw [e]
  show xs.length = n ∧ optP (f xs) _
  rw [h]
  exact ⟨hl, q⟩
theorem ok_of {c : Cell} (h : c.own = false) : (match some c with
  | some (.o true _) => False
  | _ => True) := by
  cases c with
  | un => trivial
  | d x => trivial
  | o b oc => cases h
def trip (t : Int × Int × Int) : DV := .tup [.int t.1, .int t.2.1, .int t.2.2]
theorem l1_go (Fa : Fac K A) {G : Addr → List (Str × DV) → List Cell → Prop} {s : DV} {kc : Cell} {D : EndsD} : ∀ (ts : List (Int × Int × Int)) (c3 c4 c5 : Cell), (∀ t ∈ ts, powL.lookup t.1 = some (.ktup [.int t.2.1, .int t.2.2]) ∧ t.2.1.natAbs.log2 < 1920 ∧ t.2.2.natAbs.log2 < 1920) →
    c3.own = false → c4.own = false → c5.own = false →
    (∀ c3 c4 c5 : Cell, c3.own = false → c4.own = false → c5.own = false → D.nx [.d s, .o false .pen, kc, c3, c4, c5, .un, .un, .un, .un, .un, .un, .un, .un, .un]) →
    goFor (gT 3 (gsCons (gN 3) (gsCons (gN 4) (gsCons (gN 5) gsNil)))) (bd_law_1 A G) D (ts.map trip) [.d s, .o false .pen, kc, c3, c4, c5, .un, .un, .un, .un, .un, .un, .un, .un, .un]
  | [], c3, c4, c5, _, h3, h4, h5, h => h c3 c4 c5 h3 h4 h5
  | (m, p, k) :: ts, c3, c4, c5, ht, h3, h4, h5, h => by
    have h0 := ht (m, p, k) List.mem_cons_self
    dsimp only at h0
    obtain ⟨h1, h2, h6⟩ := h0
    rw [List.map_cons]
    unfold goFor trip
    simp (config := { decide := false }) only [runD, wNil, wBreak, wCont, wSet, wDrop, wRet, wRetN, wIf, wFor, gN, gsNil, gsCons, gT, wAsg, wPar, dCel, dDat, dVar, dC, dOp2, dOp2d, gI2, gI0, dCmp, dBl, dAsB, gB2, gEq, dAnd, dOr, dNot, dAndV, dOrV, dNotV, gAdd, gMul, dNeg, iData, dI_lst, dI_klst, dI_tup, dI_ktup, iD_lst, iD_klst, iD_tup, iD_ktup, ln_lst, ln_klst, ln_tup, ln_ktup, iR1, iR2, iZipD, iEnumD, dYes, dLc, dIx, dIxN, ixD, optP, dVw, dPeek, dOp1, gInts, gBls, gList, gTuple, gLen, gInt, aNil, aCons, dTup, dLst, dDk, dDt, dAppend, dPop, wPutL, wPutD, DV.key, dDisp, ppN, ppC, DL.kvsOf, dPopAt, wAugI, dIf, exists_and_left, exists_and_right, exists_eq_left, exists_eq_left', exists_eq', exists_eq, exists_const, exists_false, or_false, false_or, false_and, and_false, and_assoc, Option.some.injEq, Cell.o.injEq, Cell.d.injEq, OC.k.injEq, OC.l.injEq, OC.t.injEq, OC.ins.injEq, DV.int.injEq, DV.bl.injEq, DV.str.injEq,  oNone, oSome, dSl, dSlN, gSl, dRev, dCmpV, dBlV, gIn, dIsN, gIsB, dGetN1, dGetN2, gIsi, dFld, wFld, wRaise, dChain, dCall, bNil, bCons, bBor, DL.cellOf, DL.borIx, DL.putB, DL.allOwn, DL.borsAt, ownIx, parC, okSet, Cell.view, Cell.frz, OC.frz, Cell.own, Cell.bor, List.map_cons, List.map_nil, List.cons_append, List.nil_append, List.length_cons, List.length_nil, List.replicate_succ, List.replicate_zero, List.getElem?_cons_zero, List.getElem?_cons_succ, List.set_cons_zero, List.set_cons_succ, List.getD_cons_zero, List.getD_cons_succ, Option.bind_some, List.nodup_nil, List.nodup_cons, List.not_mem_nil, not_false_eq_true, true_and, and_true, if_true, if_false, ite_true, ite_false, reduceCtorEq, Nat.reduceAdd, Nat.reduceSub, Nat.zero_add, Nat.sub_self, Bool.not_true, Bool.not_false, Bool.false_eq_true, Bool.true_eq, DL.dataOf, conF, Option.map_some, Out.to]
    refine ⟨ok_of h3, ok_of h4, ok_of h5, ?_⟩
    unfold bd_law_1
    refine seq_gen fun k2 hk2 => ?_
    simp (config := { decide := false }) only [runD, wNil, wBreak, wCont, wSet, wDrop, wRet, wRetN, wIf, wFor, gN, gsNil, gsCons, gT, wAsg, wPar, dCel, dDat, dVar, dC, dOp2, dOp2d, gI2, gI0, dCmp, dBl, dAsB, gB2, gEq, dAnd, dOr, dNot, dAndV, dOrV, dNotV, gAdd, gMul, dNeg, iData, dI_lst, dI_klst, dI_tup, dI_ktup, iD_lst, iD_klst, iD_tup, iD_ktup, ln_lst, ln_klst, ln_tup, ln_ktup, iR1, iR2, iZipD, iEnumD, dYes, dLc, dIx, dIxN, ixD, optP, dVw, dPeek, dOp1, gInts, gBls, gList, gTuple, gLen, gInt, aNil, aCons, dTup, dLst, dDk, dDt, dAppend, dPop, wPutL, wPutD, DV.key, dDisp, ppN, ppC, DL.kvsOf, dPopAt, wAugI, dIf, exists_and_left, exists_and_right, exists_eq_left, exists_eq_left', exists_eq', exists_eq, exists_const, exists_false, or_false, false_or, false_and, and_false, and_assoc, Option.some.injEq, Cell.o.injEq, Cell.d.injEq, OC.k.injEq, OC.l.injEq, OC.t.injEq, OC.ins.injEq, DV.int.injEq, DV.bl.injEq, DV.str.injEq,  oNone, oSome, dSl, dSlN, gSl, dRev, dCmpV, dBlV, gIn, dIsN, gIsB, dGetN1, dGetN2, gIsi, dFld, wFld, wRaise, dChain, dCall, bNil, bCons, bBor, DL.cellOf, DL.borIx, DL.putB, DL.allOwn, DL.borsAt, ownIx, parC, okSet, Cell.view, Cell.frz, OC.frz, Cell.own, Cell.bor, List.map_cons, List.map_nil, List.cons_append, List.nil_append, List.length_cons, List.length_nil, List.replicate_succ, List.replicate_zero, List.getElem?_cons_zero, List.getElem?_cons_succ, List.set_cons_zero, List.set_cons_succ, List.getD_cons_zero, List.getD_cons_succ, Option.bind_some, List.nodup_nil, List.nodup_cons, List.not_mem_nil, not_false_eq_true, true_and, and_true, if_true, if_false, ite_true, ite_false, reduceCtorEq, Nat.reduceAdd, Nat.reduceSub, Nat.zero_add, Nat.sub_self, Bool.not_true, Bool.not_false, Bool.false_eq_true, Bool.true_eq, DL.dataOf, conF, Option.map_some, Out.to]
    refine callF rfl rfl (pp_known Fa h1) ?_
    show gReprA (.ktup [.int p, .int k]) _
    have hs : ∀ d ∈ [DV.int p, DV.int k], Shw 59 2000 d := fun d hd => by
      simp only [List.mem_cons, List.not_mem_nil, or_false] at hd
      rcases hd with rfl | rfl
      · exact .int h2
      · exact .int h6
    refine gRepr_of (reprD_shw (Shw.ktup hs) (show 2 * 2002 + 3 ≤ sizeLine by decide)) ?_
    simp (config := { decide := false }) only [runD, wNil, wBreak, wCont, wSet, wDrop, wRet, wRetN, wIf, wFor, gN, gsNil, gsCons, gT, wAsg, wPar, dCel, dDat, dVar, dC, dOp2, dOp2d, gI2, gI0, dCmp, dBl, dAsB, gB2, gEq, dAnd, dOr, dNot, dAndV, dOrV, dNotV, gAdd, gMul, dNeg, iData, dI_lst, dI_klst, dI_tup, dI_ktup, iD_lst, iD_klst, iD_tup, iD_ktup, ln_lst, ln_klst, ln_tup, ln_ktup, iR1, iR2, iZipD, iEnumD, dYes, dLc, dIx, dIxN, ixD, optP, dVw, dPeek, dOp1, gInts, gBls, gList, gTuple, gLen, gInt, aNil, aCons, dTup, dLst, dDk, dDt, dAppend, dPop, wPutL, wPutD, DV.key, dDisp, ppN, ppC, DL.kvsOf, dPopAt, wAugI, dIf, exists_and_left, exists_and_right, exists_eq_left, exists_eq_left', exists_eq', exists_eq, exists_const, exists_false, or_false, false_or, false_and, and_false, and_assoc, Option.some.injEq, Cell.o.injEq, Cell.d.injEq, OC.k.injEq, OC.l.injEq, OC.t.injEq, OC.ins.injEq, DV.int.injEq, DV.bl.injEq, DV.str.injEq,  oNone, oSome, dSl, dSlN, gSl, dRev, dCmpV, dBlV, gIn, dIsN, gIsB, dGetN1, dGetN2, gIsi, dFld, wFld, wRaise, dChain, dCall, bNil, bCons, bBor, DL.cellOf, DL.borIx, DL.putB, DL.allOwn, DL.borsAt, ownIx, parC, okSet, Cell.view, Cell.frz, OC.frz, Cell.own, Cell.bor, List.map_cons, List.map_nil, List.cons_append, List.nil_append, List.length_cons, List.length_nil, List.replicate_succ, List.replicate_zero, List.getElem?_cons_zero, List.getElem?_cons_succ, List.set_cons_zero, List.set_cons_succ, List.getD_cons_zero, List.getD_cons_succ, Option.bind_some, List.nodup_nil, List.nodup_cons, List.not_mem_nil, not_false_eq_true, true_and, and_true, if_true, if_false, ite_true, ite_false, reduceCtorEq, Nat.reduceAdd, Nat.reduceSub, Nat.zero_add, Nat.sub_self, Bool.not_true, Bool.not_false, Bool.false_eq_true, Bool.true_eq, DL.dataOf, conF, Option.map_some, Out.to]
    refine ⟨by decide, ?_⟩
    refine gRepr_of (reprD_shw (Shw.tup hs) (show 2 * 2002 + 3 ≤ sizeLine by decide)) ?_
    simp (config := { decide := false }) only [runD, wNil, wBreak, wCont, wSet, wDrop, wRet, wRetN, wIf, wFor, gN, gsNil, gsCons, gT, wAsg, wPar, dCel, dDat, dVar, dC, dOp2, dOp2d, gI2, gI0, dCmp, dBl, dAsB, gB2, gEq, dAnd, dOr, dNot, dAndV, dOrV, dNotV, gAdd, gMul, dNeg, iData, dI_lst, dI_klst, dI_tup, dI_ktup, iD_lst, iD_klst, iD_tup, iD_ktup, ln_lst, ln_klst, ln_tup, ln_ktup, iR1, iR2, iZipD, iEnumD, dYes, dLc, dIx, dIxN, ixD, optP, dVw, dPeek, dOp1, gInts, gBls, gList, gTuple, gLen, gInt, aNil, aCons, dTup, dLst, dDk, dDt, dAppend, dPop, wPutL, wPutD, DV.key, dDisp, ppN, ppC, DL.kvsOf, dPopAt, wAugI, dIf, exists_and_left, exists_and_right, exists_eq_left, exists_eq_left', exists_eq', exists_eq, exists_const, exists_false, or_false, false_or, false_and, and_false, and_assoc, Option.some.injEq, Cell.o.injEq, Cell.d.injEq, OC.k.injEq, OC.l.injEq, OC.t.injEq, OC.ins.injEq, DV.int.injEq, DV.bl.injEq, DV.str.injEq,  oNone, oSome, dSl, dSlN, gSl, dRev, dCmpV, dBlV, gIn, dIsN, gIsB, dGetN1, dGetN2, gIsi, dFld, wFld, wRaise, dChain, dCall, bNil, bCons, bBor, DL.cellOf, DL.borIx, DL.putB, DL.allOwn, DL.borsAt, ownIx, parC, okSet, Cell.view, Cell.frz, OC.frz, Cell.own, Cell.bor, List.map_cons, List.map_nil, List.cons_append, List.nil_append, List.length_cons, List.length_nil, List.replicate_succ, List.replicate_zero, List.getElem?_cons_zero, List.getElem?_cons_succ, List.set_cons_zero, List.set_cons_succ, List.getD_cons_zero, List.getD_cons_succ, Option.bind_some, List.nodup_nil, List.nodup_cons, List.not_mem_nil, not_false_eq_true, true_and, and_true, if_true, if_false, ite_true, ite_false, reduceCtorEq, Nat.reduceAdd, Nat.reduceSub, Nat.zero_add, Nat.sub_self, Bool.not_true, Bool.not_false, Bool.false_eq_true, Bool.true_eq, DL.dataOf, conF, Option.map_some, Out.to]
    have e : (DV.ktup [.int p, .int k]).py = (DV.tup [.int p, .int k]).py := by rw [DV.py, DV.py]
    rw [e]
    have st := ok_str (k := 60) (Shw.tup hs).st
    refine ⟨st, st, ?_⟩
    rw [eqD_refl st]
    subst hk2
    exact l1_go Fa ts _ _ _ (fun t h => ht t (List.mem_cons_of_mem _ h)) rfl rfl rfl h
end
end K01
set_option maxRecDepth 100000
set_option maxHeartbeats 4000000
namespace K01
open PySem PySem.Spec PyProof.Rows L2 DL LamX
/-- its repr is told -/
def Rp (d : DV) : Prop := ∃ s, reprD d = some s ∧ PyData.strOk s = true
theorem Rp.of {m : Nat} {d : DV} (h : Shw 60 m d) (hm : m ≤ sizeLine) : Rp d := ⟨_, reprD_shw h hm, h.st⟩
theorem big_log {n : Int} (h : n.natAbs < 2 ^ 200) : n.natAbs.log2 < 1920 := Nat.lt_trans (log_lt (b := 200) h (by decide)) (by decide)
theorem Rp.int {i : Int} (h : i.natAbs < 2 ^ 200) : Rp (.int i) := .of (.int (big_log h)) (by decide)
theorem Rp.non : Rp .non := .of .non (by decide)
theorem Rp.bl {b : Bool} : Rp (.bl b) := .of .bl (by decide)
theorem Rp.str {s : Str} (h : PyData.strOk s = true ∧ (PyData.str s).shown.length ≤ 2000 ∧ PyData.strOk (PyData.str s).shown = true) : Rp (.str s) := .of (.str h) (by decide)
theorem Rp.tup {xs : List DV} (hl : xs.length ≤ 100) (h : ∀ d ∈ xs, Shw 59 10000 d) : Rp (.tup xs) := .of (.tup h) (Nat.le_trans (Nat.add_le_add_right (Nat.mul_le_mul_right _ hl) _) (by decide))
theorem Rp.lst {xs : List DV} (hl : xs.length ≤ 100) (h : ∀ d ∈ xs, Shw 59 10000 d) : Rp (.lst xs) := .of (.lst h) (Nat.le_trans (Nat.add_le_add_right (Nat.mul_le_mul_right _ hl) _) (by decide))
theorem shi {k : Nat} {i : Int} (h : i.natAbs < 2 ^ 200) : Shw k 10000 (.int i) := (Shw.int (big_log h)).mono (by decide)
theorem Rp.dict : Rp (.dk [(.inr "a", .int 1)]) := ⟨"{'a': 1}", by decide +kernel, by decide +kernel⟩
theorem Rp.s2 : Rp (.str "2") := .str ⟨by decide +kernel, by decide +kernel, by decide +kernel⟩
section
variable {K : PySem.W.Frag} {A : Adr}
theorem odd_ok (Fa : Fac K A) {far : Int} (f0 : 0 ≤ far) (f1 : far < 10 ^ 57) {d : DV} (h : d ∈ [DV.int 0, DV.int 1, DV.int 6, DV.int 32, DV.int 81, DV.int 49, DV.int 125, DV.int 10, DV.int (-2), DV.bl true, DV.non, DV.str (Str.ofString "2"), DV.tup [DV.int 2], DV.lst [DV.int 4], DV.int (far + 28), DV.int (-far), DV.int (4 ^ Int.toNat 50)]) :
    f_prime_power A [d] = some (badN A "modulus" d) ∧ Rp d := by
  simp only [List.mem_cons, List.not_mem_nil, or_false] at h
  rcases h with rfl | rfl | rfl | rfl | rfl | rfl | rfl | rfl | rfl | rfl | rfl | rfl | rfl | rfl | rfl | rfl | rfl
  · exact ⟨pp_other Fa rfl, .int (by decide)⟩
  · exact ⟨pp_other Fa rfl, .int (by decide)⟩
  · exact ⟨pp_other Fa rfl, .int (by decide)⟩
  · exact ⟨pp_other Fa rfl, .int (by decide)⟩
  · exact ⟨pp_other Fa rfl, .int (by decide)⟩
  · exact ⟨pp_other Fa rfl, .int (by decide)⟩
  · exact ⟨pp_other Fa rfl, .int (by decide)⟩
  · exact ⟨pp_other Fa rfl, .int (by decide)⟩
  · exact ⟨pp_other Fa rfl, .int (by decide)⟩
  · exact ⟨rfl, .bl⟩
  · exact ⟨rfl, .non⟩
  · exact ⟨rfl, .s2⟩
  · exact ⟨rfl, .tup (by decide) fun d hd => by rw [List.mem_singleton.mp hd]; exact shi (by decide)⟩
  · exact ⟨rfl, .lst (by decide) fun d hd => by rw [List.mem_singleton.mp hd]; exact shi (by decide)⟩
  · exact ⟨pp_other Fa (pow_none (by omega)), .int (by omega)⟩
  · exact ⟨pp_other Fa (pow_none (by omega)), .int (by omega)⟩
  · exact ⟨pp_other Fa rfl, .int (by decide)⟩
theorem bad_ok {far : Int} (f0 : 0 ≤ far) (f1 : far < 10 ^ 57) {d : DV} (h : d ∈ [DV.int (-1), DV.int (-far - 1), DV.bl true, DV.non, DV.str (Str.ofString "5"), DV.tup [DV.int 3], DV.lst [DV.int 1]]) :
    (∀ p, f_digits A [d, p] = some (badN A "n" d)) ∧ Rp d := by
  simp only [List.mem_cons, List.not_mem_nil, or_false] at h
  rcases h with rfl | rfl | rfl | rfl | rfl | rfl | rfl
  · exact ⟨fun p => rfl, .int (by decide)⟩
  · refine ⟨fun p => ?_, .int (by omega)⟩
    dsimp only [f_digits]
    rw [isInt_int, Option.bind_some, if_neg (by omega)]
  · exact ⟨fun p => rfl, .bl⟩
  · exact ⟨fun p => rfl, .non⟩
  · exact ⟨fun p => rfl, .str ⟨by decide +kernel, by decide +kernel, by decide +kernel⟩⟩
  · exact ⟨fun p => rfl, .tup (by decide) fun d hd => by rw [List.mem_singleton.mp hd]; exact shi (by decide)⟩
  · exact ⟨fun p => rfl, .lst (by decide) fun d hd => by rw [List.mem_singleton.mp hd]; exact shi (by decide)⟩
structure BaseOk (d : DV) : Prop where
  i : ∃ b, isInt? d = some b
  p : primeOk d = false
  r : Rp d
theorem BaseOk.ints {i : Int} (h : ¬ (i = 2 ∨ i = 3 ∨ i = 5 ∨ i = 7)) (hb : i.natAbs < 2 ^ 200) : BaseOk (.int i) := by
  refine ⟨⟨true, rfl⟩, ?_, .int hb⟩
  cases e : primeOk (.int i) with
  | false => rfl
  | true =>
    unfold primeOk at e
    simp only [Bool.or_eq_true, beq_iff_eq] at e
    omega
theorem base_ok {far : Int} (f0 : 0 ≤ far) (f1 : far < 10 ^ 57) {d : DV} (h : d ∈ [DV.int 0, DV.int 1, DV.int 4, DV.int 6, DV.int 9, DV.int 11, DV.bl true, DV.non, DV.str (Str.ofString "3"), DV.tup [DV.int 2], DV.int (-2), DV.int (far + 8)]) : BaseOk d := by
  simp only [List.mem_cons, List.not_mem_nil, or_false] at h
  rcases h with rfl | rfl | rfl | rfl | rfl | rfl | rfl | rfl | rfl | rfl | rfl | rfl
  · exact .ints (by decide) (by decide)
  · exact .ints (by decide) (by decide)
  · exact .ints (by decide) (by decide)
  · exact .ints (by decide) (by decide)
  · exact .ints (by decide) (by decide)
  · exact .ints (by decide) (by decide)
  · exact ⟨⟨_, rfl⟩, rfl, .bl⟩
  · exact ⟨⟨_, rfl⟩, rfl, .non⟩
  · exact ⟨⟨_, rfl⟩, rfl, .str ⟨by decide +kernel, by decide +kernel, by decide +kernel⟩⟩
  · exact ⟨⟨_, rfl⟩, rfl, .tup (by decide) fun d hd => by rw [List.mem_singleton.mp hd]; exact shi (by decide)⟩
  · exact .ints (by decide) (by decide)
  · exact .ints (by omega) (by omega)
theorem BaseOk.digits {d : DV} (h : BaseOk d) {far : Int} (f0 : 0 ≤ far) : f_digits A [.int far, d] = some (badN A "p" d) := by
  obtain ⟨b, hb⟩ := h.i
  dsimp only [f_digits]
  rw [isInt_int, Option.bind_some, if_pos f0, hb, Option.bind_some]
  cases d <;> first | rfl | (dsimp only; rw [if_neg (by rw [h.p]; decide)])
theorem BaseOk.number {d x : DV} (h : BaseOk d) : f_number_of A [x, d] = some (badN A "p" d) := by
  obtain ⟨b, hb⟩ := h.i
  dsimp only [f_number_of]
  rw [hb, Option.bind_some]
  cases d <;> first | rfl | (dsimp only; rw [if_neg (by rw [h.p]; decide)])
theorem row_seq {p : Int} (ho : primeOk (.int p) = true) {x : DV} {ds : List DV} (e : dSeq x = some ds) (hi : ds.all (fun d => (isInt? d).isSome) = true) (hn : ds.all (inR p) = false) : f_number_of A [x, .int p] = some (badR A x) := by
  dsimp only [f_number_of]
  rw [isInt_int, Option.bind_some, if_pos ho, e]
  dsimp only
  rw [if_pos hi, if_neg (by rw [hn]; decide)]
theorem row_not {p : Int} (ho : primeOk (.int p) = true) {x : DV} (e : dSeq x = none) (hs : seqB x = some false) : f_number_of A [x, .int p] = some (badR A x) := by
  dsimp only [f_number_of]
  rw [isInt_int, Option.bind_some, if_pos ho, e]
  dsimp only
  rw [if_pos hs]
theorem inR_off {p i : Int} (h : ¬ (0 ≤ i ∧ i < p)) : inR p (.int i) = false := by
  show (decide (0 ≤ i) && decide (i < p)) = false
  by_cases h0 : 0 ≤ i
  · rw [decide_eq_true h0, decide_eq_false (by omega)]
    rfl
  · rw [decide_eq_false h0]
    rfl
theorem row_ok {far p : Int} (f0 : 0 ≤ far) (f1 : far < 10 ^ 57) (hp : 2 ≤ p ∧ p ≤ 7) (ho : primeOk (.int p) = true) {d : DV} (h : d ∈ [DV.non, DV.int 5, DV.str (Str.ofString "01"), DV.tup [DV.int p], DV.tup [DV.int 0, DV.int (-1)], DV.tup [DV.bl true], DV.lst [DV.int 0, DV.str (Str.ofString "1")], DV.tup [DV.int 0, DV.non], DV.dk [(.inr (Str.ofString "a"), DV.int 1)], DV.tup [DV.int 0, DV.tup [DV.int 1]], DV.tup [DV.int (far + p)]]) :
    f_number_of A [d, .int p] = some (badR A d) ∧ Rp d := by
  have two : ∀ {a b : DV}, Shw 59 10000 a → Shw 59 10000 b → ∀ d ∈ [a, b], Shw 59 10000 d := fun {a b} ha hb d hd => by
    simp only [List.mem_cons, List.not_mem_nil, or_false] at hd
    rcases hd with rfl | rfl
    · exact ha
    · exact hb
  have one : ∀ {a : DV}, Shw 59 10000 a → ∀ d ∈ [a], Shw 59 10000 d := fun {a} ha d hd => by
    rw [List.mem_singleton.mp hd]
    exact ha
  simp only [List.mem_cons, List.not_mem_nil, or_false] at h
  rcases h with rfl | rfl | rfl | rfl | rfl | rfl | rfl | rfl | rfl | rfl | rfl
  · exact ⟨row_not ho rfl rfl, .non⟩
  · exact ⟨row_not ho rfl rfl, .int (by decide)⟩
  · exact ⟨row_not ho rfl rfl, .str ⟨by decide +kernel, by decide +kernel, by decide +kernel⟩⟩
  · exact ⟨row_seq ho rfl rfl (by rw [List.all_cons, inR_off (by omega)]; rfl), .tup (Nat.le_of_ble_eq_true rfl) (one (shi (by omega)))⟩
  · exact ⟨row_seq ho rfl rfl (by rw [List.all_cons, List.all_cons, inR_off (i := -1) (by omega), Bool.false_and, Bool.and_false]), .tup (by decide) (two (shi (by decide)) (shi (by decide)))⟩
  · exact ⟨row_seq ho rfl rfl rfl, .tup (by decide) (one (Shw.bl.mono (by decide)))⟩
  · exact ⟨row_seq ho rfl rfl (by rw [List.all_cons, List.all_cons]; exact Bool.and_false _), .lst (by decide) (two (shi (by decide)) (.str ⟨by decide +kernel, by decide +kernel, by decide +kernel⟩))⟩
  · exact ⟨row_seq ho rfl rfl (by rw [List.all_cons, List.all_cons]; exact Bool.and_false _), .tup (by decide) (two (shi (by decide)) (Shw.non.mono (by decide)))⟩
  · exact ⟨row_not ho rfl rfl, .dict⟩
  · exact ⟨row_seq ho rfl rfl (by rw [List.all_cons, List.all_cons]; exact Bool.and_false _), .tup (by decide) (two (shi (by decide)) ((Shw.tup (k := 58) (m := 2000) fun d hd => by rw [List.mem_singleton.mp hd]; exact .int (by decide)).mono (by decide)))⟩
  · exact ⟨row_seq ho rfl rfl (by rw [List.all_cons, inR_off (by omega)]; rfl), .tup (Nat.le_of_ble_eq_true rfl) (one (shi (by omega)))⟩
end
end K01
set_option maxRecDepth 100000
set_option maxHeartbeats 4000000
namespace K01
open PySem PySem.Spec PyProof.Rows L2 DL LamX
theorem digs_len {p : Int} (hp : 2 ≤ p) : ∀ (k : Nat) (n : Int), n < 2 ^ k → (digs p n).length ≤ k
  | 0, n, h => by
    rw [digs_zero (by rw [Int.pow_zero] at h; omega)]
    exact Nat.le_refl _
  | k + 1, n, h => by
    by_cases hn : 0 < n
    · rw [digs_pos hp hn, List.length_cons]
      have h2 : n / p ≤ n / 2 := by
        rw [Int.le_ediv_iff_mul_le (by decide)]
        have e1 := Int.ediv_mul_le n (b := p) (by omega)
        have e0 : 0 ≤ n / p := Int.ediv_nonneg (by omega) (by omega)
        have e2 : n / p * 2 ≤ n / p * p := Int.mul_le_mul_of_nonneg_left hp e0
        omega
      rw [Int.pow_succ] at h
      have := digs_len hp k (n / p) (by omega)
      omega
    · rw [digs_zero hn]
      exact Nat.zero_le _
theorem digs_val {p : Int} (hp : 2 ≤ p) (zs : List DV) (hz : numb p zs = 0) : ∀ (k : Nat) (n : Int), 0 ≤ n → n.toNat ≤ k → numb p ((digs p n).map DV.int ++ zs) = n
  | 0, n, h0, h => by
    rw [digs_zero (by omega)]
    show numb p zs = n
    omega
  | k + 1, n, h0, h => by
    by_cases hn : 0 < n
    · have hd : n / p < n := Int.ediv_lt_self_of_pos_of_ne_one hn (by omega)
      have e0 : 0 ≤ n / p := Int.ediv_nonneg (by omega) (by omega)
      rw [digs_pos hp hn, List.map_cons, List.cons_append]
      show numb p ((digs p (n / p)).map DV.int ++ zs) * p + n % p = n
      rw [digs_val hp zs hz k (n / p) e0 (by omega)]
      exact Int.ediv_mul_add_emod n p
    · rw [digs_zero hn]
      show numb p zs = n
      omega
theorem digs_in {p : Int} (hp : 2 ≤ p) : ∀ (k : Nat) (n : Int), 0 ≤ n → n.toNat ≤ k → ∀ i ∈ digs p n, 0 ≤ i ∧ i < p
  | 0, n, h0, h => by
    rw [digs_zero (by omega)]
    exact fun i hi => by cases hi
  | k + 1, n, h0, h => by
    by_cases hn : 0 < n
    · have hd : n / p < n := Int.ediv_lt_self_of_pos_of_ne_one hn (by omega)
      have e0 : 0 ≤ n / p := Int.ediv_nonneg (by omega) (by omega)
      rw [digs_pos hp hn]
      intro i hi
      rcases List.mem_cons.mp hi with rfl | hi
      · exact ⟨Int.emod_nonneg _ (by omega), Int.emod_lt_of_pos _ (by omega)⟩
      · exact digs_in hp k (n / p) e0 (by omega) i hi
    · rw [digs_zero hn]
      exact fun i hi => by cases hi
theorem numb_zeros (p : Int) : ∀ r : Nat, numb p (List.replicate r (.int 0)) = 0
  | 0 => rfl
  | r + 1 => by
    show numb p (List.replicate r (.int 0)) * p + 0 = 0
    rw [numb_zeros p r]
    omega
theorem flat_one (x : DV) : ∀ r : Nat, (List.replicate r [x]).flatten = List.replicate r x
  | 0 => rfl
  | r + 1 => by rw [List.replicate_succ, List.flatten_cons, flat_one x r, List.replicate_succ]; rfl
section
variable {K : PySem.W.Frag} {A : Adr}
theorem four_of {d : DV} (h : d ∈ [DV.int 2, .int 3, .int 5, .int 7]) : ∃ p : Int, d = .int p ∧ (2 ≤ p ∧ p ≤ 7) ∧ primeOk (.int p) = true := by
  simp only [List.mem_cons, List.not_mem_nil, or_false] at h
  rcases h with rfl | rfl | rfl | rfl
  · exact ⟨2, rfl, by decide, by decide⟩
  · exact ⟨3, rfl, by decide, by decide⟩
  · exact ⟨5, rfl, by decide, by decide⟩
  · exact ⟨7, rfl, by decide, by decide⟩
theorem digits_ok {n p : Int} (h0 : 0 ≤ n) (h1 : n < 2 ^ 400) (hp : 2 ≤ p ∧ p ≤ 7) (ho : primeOk (.int p) = true) : f_digits A [.int n, .int p] = some (.ret (.tup ((digs p n).map DV.int))) := by
  have l := digs_len hp.1 400 n h1
  dsimp only [f_digits]
  rw [isInt_int, isInt_int, Option.bind_some, if_pos h0, Option.bind_some, if_pos ho, if_pos (Nat.lt_of_le_of_lt l (by decide))]
theorem ldigits_ok {n p : Int} (h0 : 0 ≤ n) (h1 : n < 2 ^ 400) (hp : 2 ≤ p ∧ p ≤ 7) : f_law_digits [.int n, .int p] = some (.ret (.lst ((digs p n).map DV.int))) := if_pos ⟨h0, hp.1, hp.2, digs_len hp.1 400 n h1⟩
theorem number_ok {n p : Int} {row : DV} {r : Nat} (h0 : 0 ≤ n) (hp : 2 ≤ p ∧ p ≤ 7) (ho : primeOk (.int p) = true) (hr : dSeq row = some ((digs p n).map DV.int ++ List.replicate r (.int 0))) : f_number_of A [row, .int p] = some (.ret (.int n)) := by
  have hin : ∀ d ∈ (digs p n).map DV.int ++ List.replicate r (.int 0), (isInt? d).isSome = true ∧ inR p d = true := by
    intro d hd
    rcases List.mem_append.mp hd with hd | hd
    · obtain ⟨i, hi, rfl⟩ := List.mem_map.mp hd
      obtain ⟨a, b⟩ := digs_in hp.1 _ n h0 (Nat.le_refl _) i hi
      refine ⟨rfl, ?_⟩
      show (decide (0 ≤ i) && decide (i < p)) = true
      rw [decide_eq_true a, decide_eq_true b]
      rfl
    · obtain ⟨_, rfl⟩ := List.mem_replicate.mp hd
      refine ⟨rfl, ?_⟩
      show (decide (0 ≤ (0 : Int)) && decide (0 < p)) = true
      rw [decide_eq_true (by omega : (0 : Int) < p)]
      rfl
  dsimp only [f_number_of]
  rw [isInt_int, Option.bind_some, if_pos ho, hr]
  dsimp only
  rw [if_pos (List.all_eq_true.mpr fun d hd => (hin d hd).1), if_pos (List.all_eq_true.mpr fun d hd => (hin d hd).2), digs_val hp.1 _ (numb_zeros p r) _ n h0 (Nat.le_refl _)]
theorem raised_ok {p m : Int} (hp : 2 ≤ p ∧ p ≤ 7) (h0 : 0 ≤ m) (h1 : m ≤ 40) : f_law_raised [.int p, .int m] = some (.ret (.int (p ^ m.toNat))) ∧ 1 ≤ p ^ m.toNat ∧ p ^ m.toNat < 10 ^ 60 := by
  refine ⟨if_pos (by omega), ?_, ?_⟩
  · obtain ⟨q, rfl⟩ : ∃ q : Nat, p = (q : Int) := ⟨p.toNat, by omega⟩
    have h2 : 0 < q ^ m.toNat := Nat.pow_pos (by omega)
    have h4 : ((0 : Nat) : Int) < ((q ^ m.toNat : Nat) : Int) := Int.ofNat_lt.mpr h2
    rw [Int.natCast_pow] at h4
    omega
  · obtain ⟨q, rfl⟩ : ∃ q : Nat, p = (q : Int) := ⟨p.toNat, by omega⟩
    have h2 : q ^ m.toNat ≤ 7 ^ 40 := Nat.le_trans (Nat.pow_le_pow_left (by omega) _) (Nat.pow_le_pow_right (by decide) (by omega))
    have h3 : q ^ m.toNat < 10 ^ 60 := Nat.lt_of_le_of_lt h2 (by decide)
    have h4 : ((q ^ m.toNat : Nat) : Int) < ((10 ^ 60 : Nat) : Int) := Int.ofNat_lt.mpr h3
    rw [Int.natCast_pow, Int.natCast_pow] at h4
    exact h4
theorem l2_go {G : Addr → List (Str × DV) → List Cell → Prop} {a0 a2 a3 a5 a6 a7 a12 a13 a14 : Cell} {D : EndsD} : ∀ (k : Nat) (lo : Int) (c4 c8 c9 c10 c11 : Cell),
    c4.own = false → c8.own = false → c9.own = false → c10.own = false → c11.own = false →
    (∀ c4 c8 c9 c10 c11 : Cell, c4.own = false → c8.own = false → c9.own = false → c10.own = false → c11.own = false → D.nx [a0, .o false .pen, a2, a3, c4, a5, a6, a7, c8, c9, c10, c11, a12, a13, a14]) →
    goFor (gN 8) (bd_law_2 A G) D (ramp lo k) [a0, .o false .pen, a2, a3, c4, a5, a6, a7, c8, c9, c10, c11, a12, a13, a14]
  | 0, lo, c4, c8, c9, c10, c11, h4, h8, h9, h10, h11, h => h c4 c8 c9 c10 c11 h4 h8 h9 h10 h11
  | k + 1, lo, c4, c8, c9, c10, c11, h4, h8, h9, h10, h11, h => by
    rw [ramp_succ]
    unfold goFor
    refine And.intro (ok_of h8) ?_
    show bd_law_2 A G _ _
    have ih := l2_go (G := G) (D := D) (a0 := a0) (a2 := a2) (a3 := a3) (a5 := a5) (a6 := a6) (a7 := a7) (a12 := a12) (a13 := a13) (a14 := a14) k (lo + 1)
    generalize goFor (gN 8) (bd_law_2 A G) D (ramp (lo + 1) k) = KK at *
    unfold bd_law_2
    refine seq_gen fun k1 hk1 => ?_
    simp (config := { decide := false }) only [runD, wNil, wBreak, wCont, wSet, wDrop, wRet, wRetN, wIf, wFor, gN, gsNil, gsCons, gT, wAsg, wPar, dCel, dDat, dVar, dC, dOp2, dOp2d, gI2, gI0, dCmp, dBl, dAsB, gB2, gEq, dAnd, dOr, dNot, dAndV, dOrV, dNotV, gAdd, gMul, dNeg, iData, dI_lst, dI_klst, dI_tup, dI_ktup, iD_lst, iD_klst, iD_tup, iD_ktup, ln_lst, ln_klst, ln_tup, ln_ktup, iR1, iR2, iZipD, iEnumD, dYes, dLc, dIx, dIxN, ixD, optP, dVw, dPeek, dOp1, gInts, gBls, gList, gTuple, gLen, gInt, aNil, aCons, dTup, dLst, dDk, dDt, dAppend, dPop, wPutL, wPutD, DV.key, dDisp, ppN, ppC, DL.kvsOf, dPopAt, wAugI, dIf, exists_and_left, exists_and_right, exists_eq_left, exists_eq_left', exists_eq', exists_eq, exists_const, exists_false, or_false, false_or, false_and, and_false, and_assoc, Option.some.injEq, Cell.o.injEq, Cell.d.injEq, OC.k.injEq, OC.l.injEq, OC.t.injEq, OC.ins.injEq, DV.int.injEq, DV.bl.injEq, DV.str.injEq,  oNone, oSome, dSl, dSlN, gSl, dRev, dCmpV, dBlV, gIn, dIsN, gIsB, dGetN1, dGetN2, gIsi, dFld, wFld, wRaise, dChain, dCall, bNil, bCons, bBor, DL.cellOf, DL.borIx, DL.putB, DL.allOwn, DL.borsAt, ownIx, parC, okSet, Cell.view, Cell.frz, OC.frz, Cell.own, Cell.bor, List.map_cons, List.map_nil, List.cons_append, List.nil_append, List.length_cons, List.length_nil, List.replicate_succ, List.replicate_zero, List.getElem?_cons_zero, List.getElem?_cons_succ, List.set_cons_zero, List.set_cons_succ, List.getD_cons_zero, List.getD_cons_succ, Option.bind_some, List.nodup_nil, List.nodup_cons, List.not_mem_nil, not_false_eq_true, true_and, and_true, if_true, if_false, ite_true, ite_false, reduceCtorEq, Nat.reduceAdd, Nat.reduceSub, Nat.zero_add, Nat.sub_self, Bool.not_true, Bool.not_false, Bool.false_eq_true, Bool.true_eq, DL.dataOf, conF, Option.map_some, Out.to, con_law_pick]
    refine ⟨by decide, conPick_mk rfl ⟨List.cons_ne_nil _ _, by decide⟩ fun d hd => ?_⟩
    obtain ⟨p, rfl, hp, ho⟩ := four_of hd
    simp (config := { decide := false }) only [runD, wNil, wBreak, wCont, wSet, wDrop, wRet, wRetN, wIf, wFor, gN, gsNil, gsCons, gT, wAsg, wPar, dCel, dDat, dVar, dC, dOp2, dOp2d, gI2, gI0, dCmp, dBl, dAsB, gB2, gEq, dAnd, dOr, dNot, dAndV, dOrV, dNotV, gAdd, gMul, dNeg, iData, dI_lst, dI_klst, dI_tup, dI_ktup, iD_lst, iD_klst, iD_tup, iD_ktup, ln_lst, ln_klst, ln_tup, ln_ktup, iR1, iR2, iZipD, iEnumD, dYes, dLc, dIx, dIxN, ixD, optP, dVw, dPeek, dOp1, gInts, gBls, gList, gTuple, gLen, gInt, aNil, aCons, dTup, dLst, dDk, dDt, dAppend, dPop, wPutL, wPutD, DV.key, dDisp, ppN, ppC, DL.kvsOf, dPopAt, wAugI, dIf, exists_and_left, exists_and_right, exists_eq_left, exists_eq_left', exists_eq', exists_eq, exists_const, exists_false, or_false, false_or, false_and, and_false, and_assoc, Option.some.injEq, Cell.o.injEq, Cell.d.injEq, OC.k.injEq, OC.l.injEq, OC.t.injEq, OC.ins.injEq, DV.int.injEq, DV.bl.injEq, DV.str.injEq,  oNone, oSome, dSl, dSlN, gSl, dRev, dCmpV, dBlV, gIn, dIsN, gIsB, dGetN1, dGetN2, gIsi, dFld, wFld, wRaise, dChain, dCall, bNil, bCons, bBor, DL.cellOf, DL.borIx, DL.putB, DL.allOwn, DL.borsAt, ownIx, parC, okSet, Cell.view, Cell.frz, OC.frz, Cell.own, Cell.bor, List.map_cons, List.map_nil, List.cons_append, List.nil_append, List.length_cons, List.length_nil, List.replicate_succ, List.replicate_zero, List.getElem?_cons_zero, List.getElem?_cons_succ, List.set_cons_zero, List.set_cons_succ, List.getD_cons_zero, List.getD_cons_succ, Option.bind_some, List.nodup_nil, List.nodup_cons, List.not_mem_nil, not_false_eq_true, true_and, and_true, if_true, if_false, ite_true, ite_false, reduceCtorEq, Nat.reduceAdd, Nat.reduceSub, Nat.zero_add, Nat.sub_self, Bool.not_true, Bool.not_false, Bool.false_eq_true, Bool.true_eq, DL.dataOf, conF, Option.map_some, Out.to, con_law_large, conLarge, con_law_draw, conDraw]
    refine fun r r0 r1 => ⟨by decide, by decide, fun q q0 q1 => ⟨by decide, conPick_mk rfl ⟨List.cons_ne_nil _ _, (by decide : 2 ≤ 1000000)⟩ fun d2 hd2 => ?_⟩⟩
    obtain ⟨n9, rfl, n90, n91⟩ : ∃ n : Int, d2 = .int n ∧ 0 ≤ n ∧ n < 10 ^ 60 := by
      simp only [List.mem_cons, List.not_mem_nil, or_false] at hd2
      rcases hd2 with rfl | rfl
      · exact ⟨r, rfl, r0, Int.lt_trans r1 (by decide)⟩
      · exact ⟨q, rfl, q0, Int.lt_trans q1 (by decide)⟩
    simp (config := { decide := false }) only [runD, wNil, wBreak, wCont, wSet, wDrop, wRet, wRetN, wIf, wFor, gN, gsNil, gsCons, gT, wAsg, wPar, dCel, dDat, dVar, dC, dOp2, dOp2d, gI2, gI0, dCmp, dBl, dAsB, gB2, gEq, dAnd, dOr, dNot, dAndV, dOrV, dNotV, gAdd, gMul, dNeg, iData, dI_lst, dI_klst, dI_tup, dI_ktup, iD_lst, iD_klst, iD_tup, iD_ktup, ln_lst, ln_klst, ln_tup, ln_ktup, iR1, iR2, iZipD, iEnumD, dYes, dLc, dIx, dIxN, ixD, optP, dVw, dPeek, dOp1, gInts, gBls, gList, gTuple, gLen, gInt, aNil, aCons, dTup, dLst, dDk, dDt, dAppend, dPop, wPutL, wPutD, DV.key, dDisp, ppN, ppC, DL.kvsOf, dPopAt, wAugI, dIf, exists_and_left, exists_and_right, exists_eq_left, exists_eq_left', exists_eq', exists_eq, exists_const, exists_false, or_false, false_or, false_and, and_false, and_assoc, Option.some.injEq, Cell.o.injEq, Cell.d.injEq, OC.k.injEq, OC.l.injEq, OC.t.injEq, OC.ins.injEq, DV.int.injEq, DV.bl.injEq, DV.str.injEq,  oNone, oSome, dSl, dSlN, gSl, dRev, dCmpV, dBlV, gIn, dIsN, gIsB, dGetN1, dGetN2, gIsi, dFld, wFld, wRaise, dChain, dCall, bNil, bCons, bBor, DL.cellOf, DL.borIx, DL.putB, DL.allOwn, DL.borsAt, ownIx, parC, okSet, Cell.view, Cell.frz, OC.frz, Cell.own, Cell.bor, List.map_cons, List.map_nil, List.cons_append, List.nil_append, List.length_cons, List.length_nil, List.replicate_succ, List.replicate_zero, List.getElem?_cons_zero, List.getElem?_cons_succ, List.set_cons_zero, List.set_cons_succ, List.getD_cons_zero, List.getD_cons_succ, Option.bind_some, List.nodup_nil, List.nodup_cons, List.not_mem_nil, not_false_eq_true, true_and, and_true, if_true, if_false, ite_true, ite_false, reduceCtorEq, Nat.reduceAdd, Nat.reduceSub, Nat.zero_add, Nat.sub_self, Bool.not_true, Bool.not_false, Bool.false_eq_true, Bool.true_eq, DL.dataOf, conF, Option.map_some, Out.to]
    refine ⟨by decide, ok_of h4, ok_of h9, ?_⟩
    subst hk1
    refine seq_gen fun k1 hk1 => ?_
    simp (config := { decide := false }) only [runD, wNil, wBreak, wCont, wSet, wDrop, wRet, wRetN, wIf, wFor, gN, gsNil, gsCons, gT, wAsg, wPar, dCel, dDat, dVar, dC, dOp2, dOp2d, gI2, gI0, dCmp, dBl, dAsB, gB2, gEq, dAnd, dOr, dNot, dAndV, dOrV, dNotV, gAdd, gMul, dNeg, iData, dI_lst, dI_klst, dI_tup, dI_ktup, iD_lst, iD_klst, iD_tup, iD_ktup, ln_lst, ln_klst, ln_tup, ln_ktup, iR1, iR2, iZipD, iEnumD, dYes, dLc, dIx, dIxN, ixD, optP, dVw, dPeek, dOp1, gInts, gBls, gList, gTuple, gLen, gInt, aNil, aCons, dTup, dLst, dDk, dDt, dAppend, dPop, wPutL, wPutD, DV.key, dDisp, ppN, ppC, DL.kvsOf, dPopAt, wAugI, dIf, exists_and_left, exists_and_right, exists_eq_left, exists_eq_left', exists_eq', exists_eq, exists_const, exists_false, or_false, false_or, false_and, and_false, and_assoc, Option.some.injEq, Cell.o.injEq, Cell.d.injEq, OC.k.injEq, OC.l.injEq, OC.t.injEq, OC.ins.injEq, DV.int.injEq, DV.bl.injEq, DV.str.injEq,  oNone, oSome, dSl, dSlN, gSl, dRev, dCmpV, dBlV, gIn, dIsN, gIsB, dGetN1, dGetN2, gIsi, dFld, wFld, wRaise, dChain, dCall, bNil, bCons, bBor, DL.cellOf, DL.borIx, DL.putB, DL.allOwn, DL.borsAt, ownIx, parC, okSet, Cell.view, Cell.frz, OC.frz, Cell.own, Cell.bor, List.map_cons, List.map_nil, List.cons_append, List.nil_append, List.length_cons, List.length_nil, List.replicate_succ, List.replicate_zero, List.getElem?_cons_zero, List.getElem?_cons_succ, List.set_cons_zero, List.set_cons_succ, List.getD_cons_zero, List.getD_cons_succ, Option.bind_some, List.nodup_nil, List.nodup_cons, List.not_mem_nil, not_false_eq_true, true_and, and_true, if_true, if_false, ite_true, ite_false, reduceCtorEq, Nat.reduceAdd, Nat.reduceSub, Nat.zero_add, Nat.sub_self, Bool.not_true, Bool.not_false, Bool.false_eq_true, Bool.true_eq, DL.dataOf, conF, Option.map_some, Out.to, con_law_pick, con_law_draw, conDraw]
    refine ⟨by decide, by decide, fun x x0 x1 => ?_⟩
    obtain ⟨e1, e2, e3⟩ := raised_ok hp x0 (show x ≤ 40 by omega)
    refine callF rfl rfl e1 ?_
    simp (config := { decide := false }) only [runD, wNil, wBreak, wCont, wSet, wDrop, wRet, wRetN, wIf, wFor, gN, gsNil, gsCons, gT, wAsg, wPar, dCel, dDat, dVar, dC, dOp2, dOp2d, gI2, gI0, dCmp, dBl, dAsB, gB2, gEq, dAnd, dOr, dNot, dAndV, dOrV, dNotV, gAdd, gMul, dNeg, iData, dI_lst, dI_klst, dI_tup, dI_ktup, iD_lst, iD_klst, iD_tup, iD_ktup, ln_lst, ln_klst, ln_tup, ln_ktup, iR1, iR2, iZipD, iEnumD, dYes, dLc, dIx, dIxN, ixD, optP, dVw, dPeek, dOp1, gInts, gBls, gList, gTuple, gLen, gInt, aNil, aCons, dTup, dLst, dDk, dDt, dAppend, dPop, wPutL, wPutD, DV.key, dDisp, ppN, ppC, DL.kvsOf, dPopAt, wAugI, dIf, exists_and_left, exists_and_right, exists_eq_left, exists_eq_left', exists_eq', exists_eq, exists_const, exists_false, or_false, false_or, false_and, and_false, and_assoc, Option.some.injEq, Cell.o.injEq, Cell.d.injEq, OC.k.injEq, OC.l.injEq, OC.t.injEq, OC.ins.injEq, DV.int.injEq, DV.bl.injEq, DV.str.injEq,  oNone, oSome, dSl, dSlN, gSl, dRev, dCmpV, dBlV, gIn, dIsN, gIsB, dGetN1, dGetN2, gIsi, dFld, wFld, wRaise, dChain, dCall, bNil, bCons, bBor, DL.cellOf, DL.borIx, DL.putB, DL.allOwn, DL.borsAt, ownIx, parC, okSet, Cell.view, Cell.frz, OC.frz, Cell.own, Cell.bor, List.map_cons, List.map_nil, List.cons_append, List.nil_append, List.length_cons, List.length_nil, List.replicate_succ, List.replicate_zero, List.getElem?_cons_zero, List.getElem?_cons_succ, List.set_cons_zero, List.set_cons_succ, List.getD_cons_zero, List.getD_cons_succ, Option.bind_some, List.nodup_nil, List.nodup_cons, List.not_mem_nil, not_false_eq_true, true_and, and_true, if_true, if_false, ite_true, ite_false, reduceCtorEq, Nat.reduceAdd, Nat.reduceSub, Nat.zero_add, Nat.sub_self, Bool.not_true, Bool.not_false, Bool.false_eq_true, Bool.true_eq, DL.dataOf, conF, Option.map_some, Out.to]
    refine ⟨by decide, by decide, fun y y0 y1 => ?_⟩
    obtain ⟨f1, f2, f3⟩ := raised_ok hp (show 0 ≤ 1 + y by omega) (show 1 + y ≤ 40 by omega)
    refine callF rfl rfl f1 ?_
    simp (config := { decide := false }) only [runD, wNil, wBreak, wCont, wSet, wDrop, wRet, wRetN, wIf, wFor, gN, gsNil, gsCons, gT, wAsg, wPar, dCel, dDat, dVar, dC, dOp2, dOp2d, gI2, gI0, dCmp, dBl, dAsB, gB2, gEq, dAnd, dOr, dNot, dAndV, dOrV, dNotV, gAdd, gMul, dNeg, iData, dI_lst, dI_klst, dI_tup, dI_ktup, iD_lst, iD_klst, iD_tup, iD_ktup, ln_lst, ln_klst, ln_tup, ln_ktup, iR1, iR2, iZipD, iEnumD, dYes, dLc, dIx, dIxN, ixD, optP, dVw, dPeek, dOp1, gInts, gBls, gList, gTuple, gLen, gInt, aNil, aCons, dTup, dLst, dDk, dDt, dAppend, dPop, wPutL, wPutD, DV.key, dDisp, ppN, ppC, DL.kvsOf, dPopAt, wAugI, dIf, exists_and_left, exists_and_right, exists_eq_left, exists_eq_left', exists_eq', exists_eq, exists_const, exists_false, or_false, false_or, false_and, and_false, and_assoc, Option.some.injEq, Cell.o.injEq, Cell.d.injEq, OC.k.injEq, OC.l.injEq, OC.t.injEq, OC.ins.injEq, DV.int.injEq, DV.bl.injEq, DV.str.injEq,  oNone, oSome, dSl, dSlN, gSl, dRev, dCmpV, dBlV, gIn, dIsN, gIsB, dGetN1, dGetN2, gIsi, dFld, wFld, wRaise, dChain, dCall, bNil, bCons, bBor, DL.cellOf, DL.borIx, DL.putB, DL.allOwn, DL.borsAt, ownIx, parC, okSet, Cell.view, Cell.frz, OC.frz, Cell.own, Cell.bor, List.map_cons, List.map_nil, List.cons_append, List.nil_append, List.length_cons, List.length_nil, List.replicate_succ, List.replicate_zero, List.getElem?_cons_zero, List.getElem?_cons_succ, List.set_cons_zero, List.set_cons_succ, List.getD_cons_zero, List.getD_cons_succ, Option.bind_some, List.nodup_nil, List.nodup_cons, List.not_mem_nil, not_false_eq_true, true_and, and_true, if_true, if_false, ite_true, ite_false, reduceCtorEq, Nat.reduceAdd, Nat.reduceSub, Nat.zero_add, Nat.sub_self, Bool.not_true, Bool.not_false, Bool.false_eq_true, Bool.true_eq, DL.dataOf, conF, Option.map_some, Out.to]
    refine ⟨by decide, conPick_mk rfl ⟨List.cons_ne_nil _ _, (by decide : 3 ≤ 1000000)⟩ fun d3 hd3 => ?_⟩
    obtain ⟨n, rfl, n0, n1⟩ : ∃ n : Int, d3 = .int n ∧ 0 ≤ n ∧ n < 10 ^ 60 := by
      simp only [List.mem_cons, List.not_mem_nil, or_false] at hd3
      rcases hd3 with rfl | rfl | rfl
      · exact ⟨_, rfl, n90, n91⟩
      · exact ⟨_, rfl, by omega, e3⟩
      · exact ⟨_, rfl, by omega, by omega⟩
    simp (config := { decide := false }) only [runD, wNil, wBreak, wCont, wSet, wDrop, wRet, wRetN, wIf, wFor, gN, gsNil, gsCons, gT, wAsg, wPar, dCel, dDat, dVar, dC, dOp2, dOp2d, gI2, gI0, dCmp, dBl, dAsB, gB2, gEq, dAnd, dOr, dNot, dAndV, dOrV, dNotV, gAdd, gMul, dNeg, iData, dI_lst, dI_klst, dI_tup, dI_ktup, iD_lst, iD_klst, iD_tup, iD_ktup, ln_lst, ln_klst, ln_tup, ln_ktup, iR1, iR2, iZipD, iEnumD, dYes, dLc, dIx, dIxN, ixD, optP, dVw, dPeek, dOp1, gInts, gBls, gList, gTuple, gLen, gInt, aNil, aCons, dTup, dLst, dDk, dDt, dAppend, dPop, wPutL, wPutD, DV.key, dDisp, ppN, ppC, DL.kvsOf, dPopAt, wAugI, dIf, exists_and_left, exists_and_right, exists_eq_left, exists_eq_left', exists_eq', exists_eq, exists_const, exists_false, or_false, false_or, false_and, and_false, and_assoc, Option.some.injEq, Cell.o.injEq, Cell.d.injEq, OC.k.injEq, OC.l.injEq, OC.t.injEq, OC.ins.injEq, DV.int.injEq, DV.bl.injEq, DV.str.injEq,  oNone, oSome, dSl, dSlN, gSl, dRev, dCmpV, dBlV, gIn, dIsN, gIsB, dGetN1, dGetN2, gIsi, dFld, wFld, wRaise, dChain, dCall, bNil, bCons, bBor, DL.cellOf, DL.borIx, DL.putB, DL.allOwn, DL.borsAt, ownIx, parC, okSet, Cell.view, Cell.frz, OC.frz, Cell.own, Cell.bor, List.map_cons, List.map_nil, List.cons_append, List.nil_append, List.length_cons, List.length_nil, List.replicate_succ, List.replicate_zero, List.getElem?_cons_zero, List.getElem?_cons_succ, List.set_cons_zero, List.set_cons_succ, List.getD_cons_zero, List.getD_cons_succ, Option.bind_some, List.nodup_nil, List.nodup_cons, List.not_mem_nil, not_false_eq_true, true_and, and_true, if_true, if_false, ite_true, ite_false, reduceCtorEq, Nat.reduceAdd, Nat.reduceSub, Nat.zero_add, Nat.sub_self, Bool.not_true, Bool.not_false, Bool.false_eq_true, Bool.true_eq, DL.dataOf, conF, Option.map_some, Out.to]
    subst hk1
    refine seq_gen fun k1 hk1 => ?_
    have n2 : n < 2 ^ 400 := Int.lt_trans n1 (by decide)
    simp (config := { decide := false }) only [runD, wNil, wBreak, wCont, wSet, wDrop, wRet, wRetN, wIf, wFor, gN, gsNil, gsCons, gT, wAsg, wPar, dCel, dDat, dVar, dC, dOp2, dOp2d, gI2, gI0, dCmp, dBl, dAsB, gB2, gEq, dAnd, dOr, dNot, dAndV, dOrV, dNotV, gAdd, gMul, dNeg, iData, dI_lst, dI_klst, dI_tup, dI_ktup, iD_lst, iD_klst, iD_tup, iD_ktup, ln_lst, ln_klst, ln_tup, ln_ktup, iR1, iR2, iZipD, iEnumD, dYes, dLc, dIx, dIxN, ixD, optP, dVw, dPeek, dOp1, gInts, gBls, gList, gTuple, gLen, gInt, aNil, aCons, dTup, dLst, dDk, dDt, dAppend, dPop, wPutL, wPutD, DV.key, dDisp, ppN, ppC, DL.kvsOf, dPopAt, wAugI, dIf, exists_and_left, exists_and_right, exists_eq_left, exists_eq_left', exists_eq', exists_eq, exists_const, exists_false, or_false, false_or, false_and, and_false, and_assoc, Option.some.injEq, Cell.o.injEq, Cell.d.injEq, OC.k.injEq, OC.l.injEq, OC.t.injEq, OC.ins.injEq, DV.int.injEq, DV.bl.injEq, DV.str.injEq,  oNone, oSome, dSl, dSlN, gSl, dRev, dCmpV, dBlV, gIn, dIsN, gIsB, dGetN1, dGetN2, gIsi, dFld, wFld, wRaise, dChain, dCall, bNil, bCons, bBor, DL.cellOf, DL.borIx, DL.putB, DL.allOwn, DL.borsAt, ownIx, parC, okSet, Cell.view, Cell.frz, OC.frz, Cell.own, Cell.bor, List.map_cons, List.map_nil, List.cons_append, List.nil_append, List.length_cons, List.length_nil, List.replicate_succ, List.replicate_zero, List.getElem?_cons_zero, List.getElem?_cons_succ, List.set_cons_zero, List.set_cons_succ, List.getD_cons_zero, List.getD_cons_succ, Option.bind_some, List.nodup_nil, List.nodup_cons, List.not_mem_nil, not_false_eq_true, true_and, and_true, if_true, if_false, ite_true, ite_false, reduceCtorEq, Nat.reduceAdd, Nat.reduceSub, Nat.zero_add, Nat.sub_self, Bool.not_true, Bool.not_false, Bool.false_eq_true, Bool.true_eq, DL.dataOf, conF, Option.map_some, Out.to]
    refine callF rfl rfl (digits_ok n0 n2 hp ho) ?_
    refine And.intro (ok_of h10) ?_
    subst hk1
    refine seq_gen fun k1 hk1 => ?_
    have hs : ∀ d ∈ (digs p n).map DV.int, Shw 59 2000 d := shw_ints fun i hi => by
      obtain ⟨i0, i1⟩ := digs_in hp.1 _ n n0 (Nat.le_refl _) i hi
      exact Nat.lt_trans (log_lt (b := 3) (show i.natAbs < 2 ^ 3 by omega) (by decide)) (by decide)
    have hl : ((digs p n).map DV.int).length ≤ 400 := by
      rw [List.length_map]
      exact digs_len hp.1 400 n n2
    have hsh := Shw.tup hs
    have hle : ((digs p n).map DV.int).length * (2000 + 2) + 3 ≤ sizeLine := Nat.le_trans (Nat.add_le_add_right (Nat.mul_le_mul_right _ hl) _) (by decide)
    have hrep := reprD_shw hsh hle
    have st := ok_str (k := 60) hsh.st
    simp (config := { decide := false }) only [runD, wNil, wBreak, wCont, wSet, wDrop, wRet, wRetN, wIf, wFor, gN, gsNil, gsCons, gT, wAsg, wPar, dCel, dDat, dVar, dC, dOp2, dOp2d, gI2, gI0, dCmp, dBl, dAsB, gB2, gEq, dAnd, dOr, dNot, dAndV, dOrV, dNotV, gAdd, gMul, dNeg, iData, dI_lst, dI_klst, dI_tup, dI_ktup, iD_lst, iD_klst, iD_tup, iD_ktup, ln_lst, ln_klst, ln_tup, ln_ktup, iR1, iR2, iZipD, iEnumD, dYes, dLc, dIx, dIxN, ixD, optP, dVw, dPeek, dOp1, gInts, gBls, gList, gTuple, gLen, gInt, aNil, aCons, dTup, dLst, dDk, dDt, dAppend, dPop, wPutL, wPutD, DV.key, dDisp, ppN, ppC, DL.kvsOf, dPopAt, wAugI, dIf, exists_and_left, exists_and_right, exists_eq_left, exists_eq_left', exists_eq', exists_eq, exists_const, exists_false, or_false, false_or, false_and, and_false, and_assoc, Option.some.injEq, Cell.o.injEq, Cell.d.injEq, OC.k.injEq, OC.l.injEq, OC.t.injEq, OC.ins.injEq, DV.int.injEq, DV.bl.injEq, DV.str.injEq,  oNone, oSome, dSl, dSlN, gSl, dRev, dCmpV, dBlV, gIn, dIsN, gIsB, dGetN1, dGetN2, gIsi, dFld, wFld, wRaise, dChain, dCall, bNil, bCons, bBor, DL.cellOf, DL.borIx, DL.putB, DL.allOwn, DL.borsAt, ownIx, parC, okSet, Cell.view, Cell.frz, OC.frz, Cell.own, Cell.bor, List.map_cons, List.map_nil, List.cons_append, List.nil_append, List.length_cons, List.length_nil, List.replicate_succ, List.replicate_zero, List.getElem?_cons_zero, List.getElem?_cons_succ, List.set_cons_zero, List.set_cons_succ, List.getD_cons_zero, List.getD_cons_succ, Option.bind_some, List.nodup_nil, List.nodup_cons, List.not_mem_nil, not_false_eq_true, true_and, and_true, if_true, if_false, ite_true, ite_false, reduceCtorEq, Nat.reduceAdd, Nat.reduceSub, Nat.zero_add, Nat.sub_self, Bool.not_true, Bool.not_false, Bool.false_eq_true, Bool.true_eq, DL.dataOf, conF, Option.map_some, Out.to]
    refine gRepr_of hrep ?_
    simp (config := { decide := false }) only [runD, wNil, wBreak, wCont, wSet, wDrop, wRet, wRetN, wIf, wFor, gN, gsNil, gsCons, gT, wAsg, wPar, dCel, dDat, dVar, dC, dOp2, dOp2d, gI2, gI0, dCmp, dBl, dAsB, gB2, gEq, dAnd, dOr, dNot, dAndV, dOrV, dNotV, gAdd, gMul, dNeg, iData, dI_lst, dI_klst, dI_tup, dI_ktup, iD_lst, iD_klst, iD_tup, iD_ktup, ln_lst, ln_klst, ln_tup, ln_ktup, iR1, iR2, iZipD, iEnumD, dYes, dLc, dIx, dIxN, ixD, optP, dVw, dPeek, dOp1, gInts, gBls, gList, gTuple, gLen, gInt, aNil, aCons, dTup, dLst, dDk, dDt, dAppend, dPop, wPutL, wPutD, DV.key, dDisp, ppN, ppC, DL.kvsOf, dPopAt, wAugI, dIf, exists_and_left, exists_and_right, exists_eq_left, exists_eq_left', exists_eq', exists_eq, exists_const, exists_false, or_false, false_or, false_and, and_false, and_assoc, Option.some.injEq, Cell.o.injEq, Cell.d.injEq, OC.k.injEq, OC.l.injEq, OC.t.injEq, OC.ins.injEq, DV.int.injEq, DV.bl.injEq, DV.str.injEq,  oNone, oSome, dSl, dSlN, gSl, dRev, dCmpV, dBlV, gIn, dIsN, gIsB, dGetN1, dGetN2, gIsi, dFld, wFld, wRaise, dChain, dCall, bNil, bCons, bBor, DL.cellOf, DL.borIx, DL.putB, DL.allOwn, DL.borsAt, ownIx, parC, okSet, Cell.view, Cell.frz, OC.frz, Cell.own, Cell.bor, List.map_cons, List.map_nil, List.cons_append, List.nil_append, List.length_cons, List.length_nil, List.replicate_succ, List.replicate_zero, List.getElem?_cons_zero, List.getElem?_cons_succ, List.set_cons_zero, List.set_cons_succ, List.getD_cons_zero, List.getD_cons_succ, Option.bind_some, List.nodup_nil, List.nodup_cons, List.not_mem_nil, not_false_eq_true, true_and, and_true, if_true, if_false, ite_true, ite_false, reduceCtorEq, Nat.reduceAdd, Nat.reduceSub, Nat.zero_add, Nat.sub_self, Bool.not_true, Bool.not_false, Bool.false_eq_true, Bool.true_eq, DL.dataOf, conF, Option.map_some, Out.to]
    refine callF rfl rfl (ldigits_ok n0 n2 hp) ?_
    simp (config := { decide := false }) only [runD, wNil, wBreak, wCont, wSet, wDrop, wRet, wRetN, wIf, wFor, gN, gsNil, gsCons, gT, wAsg, wPar, dCel, dDat, dVar, dC, dOp2, dOp2d, gI2, gI0, dCmp, dBl, dAsB, gB2, gEq, dAnd, dOr, dNot, dAndV, dOrV, dNotV, gAdd, gMul, dNeg, iData, dI_lst, dI_klst, dI_tup, dI_ktup, iD_lst, iD_klst, iD_tup, iD_ktup, ln_lst, ln_klst, ln_tup, ln_ktup, iR1, iR2, iZipD, iEnumD, dYes, dLc, dIx, dIxN, ixD, optP, dVw, dPeek, dOp1, gInts, gBls, gList, gTuple, gLen, gInt, aNil, aCons, dTup, dLst, dDk, dDt, dAppend, dPop, wPutL, wPutD, DV.key, dDisp, ppN, ppC, DL.kvsOf, dPopAt, wAugI, dIf, exists_and_left, exists_and_right, exists_eq_left, exists_eq_left', exists_eq', exists_eq, exists_const, exists_false, or_false, false_or, false_and, and_false, and_assoc, Option.some.injEq, Cell.o.injEq, Cell.d.injEq, OC.k.injEq, OC.l.injEq, OC.t.injEq, OC.ins.injEq, DV.int.injEq, DV.bl.injEq, DV.str.injEq,  oNone, oSome, dSl, dSlN, gSl, dRev, dCmpV, dBlV, gIn, dIsN, gIsB, dGetN1, dGetN2, gIsi, dFld, wFld, wRaise, dChain, dCall, bNil, bCons, bBor, DL.cellOf, DL.borIx, DL.putB, DL.allOwn, DL.borsAt, ownIx, parC, okSet, Cell.view, Cell.frz, OC.frz, Cell.own, Cell.bor, List.map_cons, List.map_nil, List.cons_append, List.nil_append, List.length_cons, List.length_nil, List.replicate_succ, List.replicate_zero, List.getElem?_cons_zero, List.getElem?_cons_succ, List.set_cons_zero, List.set_cons_succ, List.getD_cons_zero, List.getD_cons_succ, Option.bind_some, List.nodup_nil, List.nodup_cons, List.not_mem_nil, not_false_eq_true, true_and, and_true, if_true, if_false, ite_true, ite_false, reduceCtorEq, Nat.reduceAdd, Nat.reduceSub, Nat.zero_add, Nat.sub_self, Bool.not_true, Bool.not_false, Bool.false_eq_true, Bool.true_eq, DL.dataOf, conF, Option.map_some, Out.to]
    refine gRepr_of hrep ?_
    simp (config := { decide := false }) only [runD, wNil, wBreak, wCont, wSet, wDrop, wRet, wRetN, wIf, wFor, gN, gsNil, gsCons, gT, wAsg, wPar, dCel, dDat, dVar, dC, dOp2, dOp2d, gI2, gI0, dCmp, dBl, dAsB, gB2, gEq, dAnd, dOr, dNot, dAndV, dOrV, dNotV, gAdd, gMul, dNeg, iData, dI_lst, dI_klst, dI_tup, dI_ktup, iD_lst, iD_klst, iD_tup, iD_ktup, ln_lst, ln_klst, ln_tup, ln_ktup, iR1, iR2, iZipD, iEnumD, dYes, dLc, dIx, dIxN, ixD, optP, dVw, dPeek, dOp1, gInts, gBls, gList, gTuple, gLen, gInt, aNil, aCons, dTup, dLst, dDk, dDt, dAppend, dPop, wPutL, wPutD, DV.key, dDisp, ppN, ppC, DL.kvsOf, dPopAt, wAugI, dIf, exists_and_left, exists_and_right, exists_eq_left, exists_eq_left', exists_eq', exists_eq, exists_const, exists_false, or_false, false_or, false_and, and_false, and_assoc, Option.some.injEq, Cell.o.injEq, Cell.d.injEq, OC.k.injEq, OC.l.injEq, OC.t.injEq, OC.ins.injEq, DV.int.injEq, DV.bl.injEq, DV.str.injEq,  oNone, oSome, dSl, dSlN, gSl, dRev, dCmpV, dBlV, gIn, dIsN, gIsB, dGetN1, dGetN2, gIsi, dFld, wFld, wRaise, dChain, dCall, bNil, bCons, bBor, DL.cellOf, DL.borIx, DL.putB, DL.allOwn, DL.borsAt, ownIx, parC, okSet, Cell.view, Cell.frz, OC.frz, Cell.own, Cell.bor, List.map_cons, List.map_nil, List.cons_append, List.nil_append, List.length_cons, List.length_nil, List.replicate_succ, List.replicate_zero, List.getElem?_cons_zero, List.getElem?_cons_succ, List.set_cons_zero, List.set_cons_succ, List.getD_cons_zero, List.getD_cons_succ, Option.bind_some, List.nodup_nil, List.nodup_cons, List.not_mem_nil, not_false_eq_true, true_and, and_true, if_true, if_false, ite_true, ite_false, reduceCtorEq, Nat.reduceAdd, Nat.reduceSub, Nat.zero_add, Nat.sub_self, Bool.not_true, Bool.not_false, Bool.false_eq_true, Bool.true_eq, DL.dataOf, conF, Option.map_some, Out.to]
    refine ⟨st, st, ?_⟩
    rw [eqD_refl st]
    subst hk1
    rw [if_neg (by decide)]
    refine seq_gen fun k1 hk1 => ?_
    simp (config := { decide := false }) only [runD, wNil, wBreak, wCont, wSet, wDrop, wRet, wRetN, wIf, wFor, gN, gsNil, gsCons, gT, wAsg, wPar, dCel, dDat, dVar, dC, dOp2, dOp2d, gI2, gI0, dCmp, dBl, dAsB, gB2, gEq, dAnd, dOr, dNot, dAndV, dOrV, dNotV, gAdd, gMul, dNeg, iData, dI_lst, dI_klst, dI_tup, dI_ktup, iD_lst, iD_klst, iD_tup, iD_ktup, ln_lst, ln_klst, ln_tup, ln_ktup, iR1, iR2, iZipD, iEnumD, dYes, dLc, dIx, dIxN, ixD, optP, dVw, dPeek, dOp1, gInts, gBls, gList, gTuple, gLen, gInt, aNil, aCons, dTup, dLst, dDk, dDt, dAppend, dPop, wPutL, wPutD, DV.key, dDisp, ppN, ppC, DL.kvsOf, dPopAt, wAugI, dIf, exists_and_left, exists_and_right, exists_eq_left, exists_eq_left', exists_eq', exists_eq, exists_const, exists_false, or_false, false_or, false_and, and_false, and_assoc, Option.some.injEq, Cell.o.injEq, Cell.d.injEq, OC.k.injEq, OC.l.injEq, OC.t.injEq, OC.ins.injEq, DV.int.injEq, DV.bl.injEq, DV.str.injEq,  oNone, oSome, dSl, dSlN, gSl, dRev, dCmpV, dBlV, gIn, dIsN, gIsB, dGetN1, dGetN2, gIsi, dFld, wFld, wRaise, dChain, dCall, bNil, bCons, bBor, DL.cellOf, DL.borIx, DL.putB, DL.allOwn, DL.borsAt, ownIx, parC, okSet, Cell.view, Cell.frz, OC.frz, Cell.own, Cell.bor, List.map_cons, List.map_nil, List.cons_append, List.nil_append, List.length_cons, List.length_nil, List.replicate_succ, List.replicate_zero, List.getElem?_cons_zero, List.getElem?_cons_succ, List.set_cons_zero, List.set_cons_succ, List.getD_cons_zero, List.getD_cons_succ, Option.bind_some, List.nodup_nil, List.nodup_cons, List.not_mem_nil, not_false_eq_true, true_and, and_true, if_true, if_false, ite_true, ite_false, reduceCtorEq, Nat.reduceAdd, Nat.reduceSub, Nat.zero_add, Nat.sub_self, Bool.not_true, Bool.not_false, Bool.false_eq_true, Bool.true_eq, DL.dataOf, conF, Option.map_some, Out.to, con_law_draw, conDraw]
    refine ⟨by decide, by decide, by decide, fun z z0 z1 => ?_⟩
    simp (config := { decide := false }) only [runD, wNil, wBreak, wCont, wSet, wDrop, wRet, wRetN, wIf, wFor, gN, gsNil, gsCons, gT, wAsg, wPar, dCel, dDat, dVar, dC, dOp2, dOp2d, gI2, gI0, dCmp, dBl, dAsB, gB2, gEq, dAnd, dOr, dNot, dAndV, dOrV, dNotV, gAdd, gMul, dNeg, iData, dI_lst, dI_klst, dI_tup, dI_ktup, iD_lst, iD_klst, iD_tup, iD_ktup, ln_lst, ln_klst, ln_tup, ln_ktup, iR1, iR2, iZipD, iEnumD, dYes, dLc, dIx, dIxN, ixD, optP, dVw, dPeek, dOp1, gInts, gBls, gList, gTuple, gLen, gInt, aNil, aCons, dTup, dLst, dDk, dDt, dAppend, dPop, wPutL, wPutD, DV.key, dDisp, ppN, ppC, DL.kvsOf, dPopAt, wAugI, dIf, exists_and_left, exists_and_right, exists_eq_left, exists_eq_left', exists_eq', exists_eq, exists_const, exists_false, or_false, false_or, false_and, and_false, and_assoc, Option.some.injEq, Cell.o.injEq, Cell.d.injEq, OC.k.injEq, OC.l.injEq, OC.t.injEq, OC.ins.injEq, DV.int.injEq, DV.bl.injEq, DV.str.injEq,  oNone, oSome, dSl, dSlN, gSl, dRev, dCmpV, dBlV, gIn, dIsN, gIsB, dGetN1, dGetN2, gIsi, dFld, wFld, wRaise, dChain, dCall, bNil, bCons, bBor, DL.cellOf, DL.borIx, DL.putB, DL.allOwn, DL.borsAt, ownIx, parC, okSet, Cell.view, Cell.frz, OC.frz, Cell.own, Cell.bor, List.map_cons, List.map_nil, List.cons_append, List.nil_append, List.length_cons, List.length_nil, List.replicate_succ, List.replicate_zero, List.getElem?_cons_zero, List.getElem?_cons_succ, List.set_cons_zero, List.set_cons_succ, List.getD_cons_zero, List.getD_cons_succ, Option.bind_some, List.nodup_nil, List.nodup_cons, List.not_mem_nil, not_false_eq_true, true_and, and_true, if_true, if_false, ite_true, ite_false, reduceCtorEq, Nat.reduceAdd, Nat.reduceSub, Nat.zero_add, Nat.sub_self, Bool.not_true, Bool.not_false, Bool.false_eq_true, Bool.true_eq, DL.dataOf, conF, Option.map_some, Out.to, gMulT]
    rw [flat_one]
    refine ⟨List.cons_ne_nil _ _, z0, by omega, by decide, ?_, ok_of h11, ?_⟩
    · rw [List.length_replicate]
      exact Nat.le_trans (Nat.add_le_add hl (show z.toNat ≤ 5 by omega)) (by decide)
    subst hk1
    refine seq_gen fun k1 hk1 => ?_
    simp (config := { decide := false }) only [runD, wNil, wBreak, wCont, wSet, wDrop, wRet, wRetN, wIf, wFor, gN, gsNil, gsCons, gT, wAsg, wPar, dCel, dDat, dVar, dC, dOp2, dOp2d, gI2, gI0, dCmp, dBl, dAsB, gB2, gEq, dAnd, dOr, dNot, dAndV, dOrV, dNotV, gAdd, gMul, dNeg, iData, dI_lst, dI_klst, dI_tup, dI_ktup, iD_lst, iD_klst, iD_tup, iD_ktup, ln_lst, ln_klst, ln_tup, ln_ktup, iR1, iR2, iZipD, iEnumD, dYes, dLc, dIx, dIxN, ixD, optP, dVw, dPeek, dOp1, gInts, gBls, gList, gTuple, gLen, gInt, aNil, aCons, dTup, dLst, dDk, dDt, dAppend, dPop, wPutL, wPutD, DV.key, dDisp, ppN, ppC, DL.kvsOf, dPopAt, wAugI, dIf, exists_and_left, exists_and_right, exists_eq_left, exists_eq_left', exists_eq', exists_eq, exists_const, exists_false, or_false, false_or, false_and, and_false, and_assoc, Option.some.injEq, Cell.o.injEq, Cell.d.injEq, OC.k.injEq, OC.l.injEq, OC.t.injEq, OC.ins.injEq, DV.int.injEq, DV.bl.injEq, DV.str.injEq,  oNone, oSome, dSl, dSlN, gSl, dRev, dCmpV, dBlV, gIn, dIsN, gIsB, dGetN1, dGetN2, gIsi, dFld, wFld, wRaise, dChain, dCall, bNil, bCons, bBor, DL.cellOf, DL.borIx, DL.putB, DL.allOwn, DL.borsAt, ownIx, parC, okSet, Cell.view, Cell.frz, OC.frz, Cell.own, Cell.bor, List.map_cons, List.map_nil, List.cons_append, List.nil_append, List.length_cons, List.length_nil, List.replicate_succ, List.replicate_zero, List.getElem?_cons_zero, List.getElem?_cons_succ, List.set_cons_zero, List.set_cons_succ, List.getD_cons_zero, List.getD_cons_succ, Option.bind_some, List.nodup_nil, List.nodup_cons, List.not_mem_nil, not_false_eq_true, true_and, and_true, if_true, if_false, ite_true, ite_false, reduceCtorEq, Nat.reduceAdd, Nat.reduceSub, Nat.zero_add, Nat.sub_self, Bool.not_true, Bool.not_false, Bool.false_eq_true, Bool.true_eq, DL.dataOf, conF, Option.map_some, Out.to]
    refine callF rfl rfl (number_ok n0 hp ho (r := z.toNat) rfl) ?_
    simp (config := { decide := false }) only [runD, wNil, wBreak, wCont, wSet, wDrop, wRet, wRetN, wIf, wFor, gN, gsNil, gsCons, gT, wAsg, wPar, dCel, dDat, dVar, dC, dOp2, dOp2d, gI2, gI0, dCmp, dBl, dAsB, gB2, gEq, dAnd, dOr, dNot, dAndV, dOrV, dNotV, gAdd, gMul, dNeg, iData, dI_lst, dI_klst, dI_tup, dI_ktup, iD_lst, iD_klst, iD_tup, iD_ktup, ln_lst, ln_klst, ln_tup, ln_ktup, iR1, iR2, iZipD, iEnumD, dYes, dLc, dIx, dIxN, ixD, optP, dVw, dPeek, dOp1, gInts, gBls, gList, gTuple, gLen, gInt, aNil, aCons, dTup, dLst, dDk, dDt, dAppend, dPop, wPutL, wPutD, DV.key, dDisp, ppN, ppC, DL.kvsOf, dPopAt, wAugI, dIf, exists_and_left, exists_and_right, exists_eq_left, exists_eq_left', exists_eq', exists_eq, exists_const, exists_false, or_false, false_or, false_and, and_false, and_assoc, Option.some.injEq, Cell.o.injEq, Cell.d.injEq, OC.k.injEq, OC.l.injEq, OC.t.injEq, OC.ins.injEq, DV.int.injEq, DV.bl.injEq, DV.str.injEq,  oNone, oSome, dSl, dSlN, gSl, dRev, dCmpV, dBlV, gIn, dIsN, gIsB, dGetN1, dGetN2, gIsi, dFld, wFld, wRaise, dChain, dCall, bNil, bCons, bBor, DL.cellOf, DL.borIx, DL.putB, DL.allOwn, DL.borsAt, ownIx, parC, okSet, Cell.view, Cell.frz, OC.frz, Cell.own, Cell.bor, List.map_cons, List.map_nil, List.cons_append, List.nil_append, List.length_cons, List.length_nil, List.replicate_succ, List.replicate_zero, List.getElem?_cons_zero, List.getElem?_cons_succ, List.set_cons_zero, List.set_cons_succ, List.getD_cons_zero, List.getD_cons_succ, Option.bind_some, List.nodup_nil, List.nodup_cons, List.not_mem_nil, not_false_eq_true, true_and, and_true, if_true, if_false, ite_true, ite_false, reduceCtorEq, Nat.reduceAdd, Nat.reduceSub, Nat.zero_add, Nat.sub_self, Bool.not_true, Bool.not_false, Bool.false_eq_true, Bool.true_eq, DL.dataOf, conF, Option.map_some, Out.to]
    refine ⟨ok_int _ _, ok_int _ _, ?_⟩
    rw [eqD_int, decide_eq_true rfl]
    rw [if_neg (by decide)]
    refine callF rfl rfl (number_ok n0 hp ho (r := z.toNat) rfl) ?_
    simp (config := { decide := false }) only [runD, wNil, wBreak, wCont, wSet, wDrop, wRet, wRetN, wIf, wFor, gN, gsNil, gsCons, gT, wAsg, wPar, dCel, dDat, dVar, dC, dOp2, dOp2d, gI2, gI0, dCmp, dBl, dAsB, gB2, gEq, dAnd, dOr, dNot, dAndV, dOrV, dNotV, gAdd, gMul, dNeg, iData, dI_lst, dI_klst, dI_tup, dI_ktup, iD_lst, iD_klst, iD_tup, iD_ktup, ln_lst, ln_klst, ln_tup, ln_ktup, iR1, iR2, iZipD, iEnumD, dYes, dLc, dIx, dIxN, ixD, optP, dVw, dPeek, dOp1, gInts, gBls, gList, gTuple, gLen, gInt, aNil, aCons, dTup, dLst, dDk, dDt, dAppend, dPop, wPutL, wPutD, DV.key, dDisp, ppN, ppC, DL.kvsOf, dPopAt, wAugI, dIf, exists_and_left, exists_and_right, exists_eq_left, exists_eq_left', exists_eq', exists_eq, exists_const, exists_false, or_false, false_or, false_and, and_false, and_assoc, Option.some.injEq, Cell.o.injEq, Cell.d.injEq, OC.k.injEq, OC.l.injEq, OC.t.injEq, OC.ins.injEq, DV.int.injEq, DV.bl.injEq, DV.str.injEq,  oNone, oSome, dSl, dSlN, gSl, dRev, dCmpV, dBlV, gIn, dIsN, gIsB, dGetN1, dGetN2, gIsi, dFld, wFld, wRaise, dChain, dCall, bNil, bCons, bBor, DL.cellOf, DL.borIx, DL.putB, DL.allOwn, DL.borsAt, ownIx, parC, okSet, Cell.view, Cell.frz, OC.frz, Cell.own, Cell.bor, List.map_cons, List.map_nil, List.cons_append, List.nil_append, List.length_cons, List.length_nil, List.replicate_succ, List.replicate_zero, List.getElem?_cons_zero, List.getElem?_cons_succ, List.set_cons_zero, List.set_cons_succ, List.getD_cons_zero, List.getD_cons_succ, Option.bind_some, List.nodup_nil, List.nodup_cons, List.not_mem_nil, not_false_eq_true, true_and, and_true, if_true, if_false, ite_true, ite_false, reduceCtorEq, Nat.reduceAdd, Nat.reduceSub, Nat.zero_add, Nat.sub_self, Bool.not_true, Bool.not_false, Bool.false_eq_true, Bool.true_eq, DL.dataOf, conF, Option.map_some, Out.to]
    refine ⟨ok_int _ _, ok_int _ _, ?_⟩
    rw [eqD_int, decide_eq_true rfl, if_neg (by decide)]
    refine callF rfl rfl (number_ok n0 hp ho (r := 0) (by rw [List.replicate_zero, List.append_nil]; rfl)) ?_
    simp (config := { decide := false }) only [runD, wNil, wBreak, wCont, wSet, wDrop, wRet, wRetN, wIf, wFor, gN, gsNil, gsCons, gT, wAsg, wPar, dCel, dDat, dVar, dC, dOp2, dOp2d, gI2, gI0, dCmp, dBl, dAsB, gB2, gEq, dAnd, dOr, dNot, dAndV, dOrV, dNotV, gAdd, gMul, dNeg, iData, dI_lst, dI_klst, dI_tup, dI_ktup, iD_lst, iD_klst, iD_tup, iD_ktup, ln_lst, ln_klst, ln_tup, ln_ktup, iR1, iR2, iZipD, iEnumD, dYes, dLc, dIx, dIxN, ixD, optP, dVw, dPeek, dOp1, gInts, gBls, gList, gTuple, gLen, gInt, aNil, aCons, dTup, dLst, dDk, dDt, dAppend, dPop, wPutL, wPutD, DV.key, dDisp, ppN, ppC, DL.kvsOf, dPopAt, wAugI, dIf, exists_and_left, exists_and_right, exists_eq_left, exists_eq_left', exists_eq', exists_eq, exists_const, exists_false, or_false, false_or, false_and, and_false, and_assoc, Option.some.injEq, Cell.o.injEq, Cell.d.injEq, OC.k.injEq, OC.l.injEq, OC.t.injEq, OC.ins.injEq, DV.int.injEq, DV.bl.injEq, DV.str.injEq,  oNone, oSome, dSl, dSlN, gSl, dRev, dCmpV, dBlV, gIn, dIsN, gIsB, dGetN1, dGetN2, gIsi, dFld, wFld, wRaise, dChain, dCall, bNil, bCons, bBor, DL.cellOf, DL.borIx, DL.putB, DL.allOwn, DL.borsAt, ownIx, parC, okSet, Cell.view, Cell.frz, OC.frz, Cell.own, Cell.bor, List.map_cons, List.map_nil, List.cons_append, List.nil_append, List.length_cons, List.length_nil, List.replicate_succ, List.replicate_zero, List.getElem?_cons_zero, List.getElem?_cons_succ, List.set_cons_zero, List.set_cons_succ, List.getD_cons_zero, List.getD_cons_succ, Option.bind_some, List.nodup_nil, List.nodup_cons, List.not_mem_nil, not_false_eq_true, true_and, and_true, if_true, if_false, ite_true, ite_false, reduceCtorEq, Nat.reduceAdd, Nat.reduceSub, Nat.zero_add, Nat.sub_self, Bool.not_true, Bool.not_false, Bool.false_eq_true, Bool.true_eq, DL.dataOf, conF, Option.map_some, Out.to]
    refine callF rfl rfl (show f_is_number [.int n] = some (.ret (.bl true)) from rfl) ?_
    simp (config := { decide := false }) only [runD, wNil, wBreak, wCont, wSet, wDrop, wRet, wRetN, wIf, wFor, gN, gsNil, gsCons, gT, wAsg, wPar, dCel, dDat, dVar, dC, dOp2, dOp2d, gI2, gI0, dCmp, dBl, dAsB, gB2, gEq, dAnd, dOr, dNot, dAndV, dOrV, dNotV, gAdd, gMul, dNeg, iData, dI_lst, dI_klst, dI_tup, dI_ktup, iD_lst, iD_klst, iD_tup, iD_ktup, ln_lst, ln_klst, ln_tup, ln_ktup, iR1, iR2, iZipD, iEnumD, dYes, dLc, dIx, dIxN, ixD, optP, dVw, dPeek, dOp1, gInts, gBls, gList, gTuple, gLen, gInt, aNil, aCons, dTup, dLst, dDk, dDt, dAppend, dPop, wPutL, wPutD, DV.key, dDisp, ppN, ppC, DL.kvsOf, dPopAt, wAugI, dIf, exists_and_left, exists_and_right, exists_eq_left, exists_eq_left', exists_eq', exists_eq, exists_const, exists_false, or_false, false_or, false_and, and_false, and_assoc, Option.some.injEq, Cell.o.injEq, Cell.d.injEq, OC.k.injEq, OC.l.injEq, OC.t.injEq, OC.ins.injEq, DV.int.injEq, DV.bl.injEq, DV.str.injEq,  oNone, oSome, dSl, dSlN, gSl, dRev, dCmpV, dBlV, gIn, dIsN, gIsB, dGetN1, dGetN2, gIsi, dFld, wFld, wRaise, dChain, dCall, bNil, bCons, bBor, DL.cellOf, DL.borIx, DL.putB, DL.allOwn, DL.borsAt, ownIx, parC, okSet, Cell.view, Cell.frz, OC.frz, Cell.own, Cell.bor, List.map_cons, List.map_nil, List.cons_append, List.nil_append, List.length_cons, List.length_nil, List.replicate_succ, List.replicate_zero, List.getElem?_cons_zero, List.getElem?_cons_succ, List.set_cons_zero, List.set_cons_succ, List.getD_cons_zero, List.getD_cons_succ, Option.bind_some, List.nodup_nil, List.nodup_cons, List.not_mem_nil, not_false_eq_true, true_and, and_true, if_true, if_false, ite_true, ite_false, reduceCtorEq, Nat.reduceAdd, Nat.reduceSub, Nat.zero_add, Nat.sub_self, Bool.not_true, Bool.not_false, Bool.false_eq_true, Bool.true_eq, DL.dataOf, conF, Option.map_some, Out.to]
    subst hk1
    exact ih _ _ _ _ _ rfl rfl rfl rfl rfl h
/-! ### the law -/
theorem ok3 {a b c : Str} (ha : PyData.strOk a = true) (hb : PyData.strOk b = true) (hc : PyData.strOk c = true) : (DV.tup [.str a, .str b, .str c]).ok 60 = true := by
  show (PyData.strOk a && (PyData.strOk b && (PyData.strOk c && true))) = true
  rw [ha, hb, hc]
  rfl
theorem ok2 {a b : Str} (ha : PyData.strOk a = true) (hb : PyData.strOk b = true) : (DV.tup [.str a, .str b]).ok 60 = true := by
  show (PyData.strOk a && (PyData.strOk b && true)) = true
  rw [ha, hb]
  rfl
theorem dat_law (Fa : Fac K A) : ∀ cs P Y, conLaw cs P Y → runD 15 (wd_law K A fun C fs e => Y C fs (borsAt e (ownIx 0 cs))) cs P := by
  rintro cs P Y ⟨ns, ⟨rfl, hl⟩, hp⟩
  unfold wd_law runD
  refine seq_gen fun k hk => ?_
  simp (config := { decide := false }) only [runD, wNil, wBreak, wCont, wSet, wDrop, wRet, wRetN, wIf, wFor, gN, gsNil, gsCons, gT, wAsg, wPar, dCel, dDat, dVar, dC, dOp2, dOp2d, gI2, gI0, dCmp, dBl, dAsB, gB2, gEq, dAnd, dOr, dNot, dAndV, dOrV, dNotV, gAdd, gMul, dNeg, iData, dI_lst, dI_klst, dI_tup, dI_ktup, iD_lst, iD_klst, iD_tup, iD_ktup, ln_lst, ln_klst, ln_tup, ln_ktup, iR1, iR2, iZipD, iEnumD, dYes, dLc, dIx, dIxN, ixD, optP, dVw, dPeek, dOp1, gInts, gBls, gList, gTuple, gLen, gInt, aNil, aCons, dTup, dLst, dDk, dDt, dAppend, dPop, wPutL, wPutD, DV.key, dDisp, ppN, ppC, DL.kvsOf, dPopAt, wAugI, dIf, exists_and_left, exists_and_right, exists_eq_left, exists_eq_left', exists_eq', exists_eq, exists_const, exists_false, or_false, false_or, false_and, and_false, and_assoc, Option.some.injEq, Cell.o.injEq, Cell.d.injEq, OC.k.injEq, OC.l.injEq, OC.t.injEq, OC.ins.injEq, DV.int.injEq, DV.bl.injEq, DV.str.injEq,  oNone, oSome, dSl, dSlN, gSl, dRev, dCmpV, dBlV, gIn, dIsN, gIsB, dGetN1, dGetN2, gIsi, dFld, wFld, wRaise, dChain, dCall, bNil, bCons, bBor, DL.cellOf, DL.borIx, DL.putB, DL.allOwn, DL.borsAt, ownIx, parC, okSet, Cell.view, Cell.frz, OC.frz, Cell.own, Cell.bor, List.map_cons, List.map_nil, List.cons_append, List.nil_append, List.length_cons, List.length_nil, List.replicate_succ, List.replicate_zero, List.getElem?_cons_zero, List.getElem?_cons_succ, List.set_cons_zero, List.set_cons_succ, List.getD_cons_zero, List.getD_cons_succ, Option.bind_some, List.nodup_nil, List.nodup_cons, List.not_mem_nil, not_false_eq_true, true_and, and_true, if_true, if_false, ite_true, ite_false, reduceCtorEq, Nat.reduceAdd, Nat.reduceSub, Nat.zero_add, Nat.sub_self, Bool.not_true, Bool.not_false, Bool.false_eq_true, Bool.true_eq, DL.dataOf, conF, Option.map_some, Out.to]
  refine ⟨ns, ⟨rfl, by omega⟩, ?_⟩
  simp (config := { decide := false }) only [runD, wNil, wBreak, wCont, wSet, wDrop, wRet, wRetN, wIf, wFor, gN, gsNil, gsCons, gT, wAsg, wPar, dCel, dDat, dVar, dC, dOp2, dOp2d, gI2, gI0, dCmp, dBl, dAsB, gB2, gEq, dAnd, dOr, dNot, dAndV, dOrV, dNotV, gAdd, gMul, dNeg, iData, dI_lst, dI_klst, dI_tup, dI_ktup, iD_lst, iD_klst, iD_tup, iD_ktup, ln_lst, ln_klst, ln_tup, ln_ktup, iR1, iR2, iZipD, iEnumD, dYes, dLc, dIx, dIxN, ixD, optP, dVw, dPeek, dOp1, gInts, gBls, gList, gTuple, gLen, gInt, aNil, aCons, dTup, dLst, dDk, dDt, dAppend, dPop, wPutL, wPutD, DV.key, dDisp, ppN, ppC, DL.kvsOf, dPopAt, wAugI, dIf, exists_and_left, exists_and_right, exists_eq_left, exists_eq_left', exists_eq', exists_eq, exists_const, exists_false, or_false, false_or, false_and, and_false, and_assoc, Option.some.injEq, Cell.o.injEq, Cell.d.injEq, OC.k.injEq, OC.l.injEq, OC.t.injEq, OC.ins.injEq, DV.int.injEq, DV.bl.injEq, DV.str.injEq,  oNone, oSome, dSl, dSlN, gSl, dRev, dCmpV, dBlV, gIn, dIsN, gIsB, dGetN1, dGetN2, gIsi, dFld, wFld, wRaise, dChain, dCall, bNil, bCons, bBor, DL.cellOf, DL.borIx, DL.putB, DL.allOwn, DL.borsAt, ownIx, parC, okSet, Cell.view, Cell.frz, OC.frz, Cell.own, Cell.bor, List.map_cons, List.map_nil, List.cons_append, List.nil_append, List.length_cons, List.length_nil, List.replicate_succ, List.replicate_zero, List.getElem?_cons_zero, List.getElem?_cons_succ, List.set_cons_zero, List.set_cons_succ, List.getD_cons_zero, List.getD_cons_succ, Option.bind_some, List.nodup_nil, List.nodup_cons, List.not_mem_nil, not_false_eq_true, true_and, and_true, if_true, if_false, ite_true, ite_false, reduceCtorEq, Nat.reduceAdd, Nat.reduceSub, Nat.zero_add, Nat.sub_self, Bool.not_true, Bool.not_false, Bool.false_eq_true, Bool.true_eq, DL.dataOf, conF, Option.map_some, Out.to]
  subst hk
  refine seq_gen fun k hk => ?_
  simp (config := { decide := false }) only [runD, wNil, wBreak, wCont, wSet, wDrop, wRet, wRetN, wIf, wFor, gN, gsNil, gsCons, gT, wAsg, wPar, dCel, dDat, dVar, dC, dOp2, dOp2d, gI2, gI0, dCmp, dBl, dAsB, gB2, gEq, dAnd, dOr, dNot, dAndV, dOrV, dNotV, gAdd, gMul, dNeg, iData, dI_lst, dI_klst, dI_tup, dI_ktup, iD_lst, iD_klst, iD_tup, iD_ktup, ln_lst, ln_klst, ln_tup, ln_ktup, iR1, iR2, iZipD, iEnumD, dYes, dLc, dIx, dIxN, ixD, optP, dVw, dPeek, dOp1, gInts, gBls, gList, gTuple, gLen, gInt, aNil, aCons, dTup, dLst, dDk, dDt, dAppend, dPop, wPutL, wPutD, DV.key, dDisp, ppN, ppC, DL.kvsOf, dPopAt, wAugI, dIf, exists_and_left, exists_and_right, exists_eq_left, exists_eq_left', exists_eq', exists_eq, exists_const, exists_false, or_false, false_or, false_and, and_false, and_assoc, Option.some.injEq, Cell.o.injEq, Cell.d.injEq, OC.k.injEq, OC.l.injEq, OC.t.injEq, OC.ins.injEq, DV.int.injEq, DV.bl.injEq, DV.str.injEq,  oNone, oSome, dSl, dSlN, gSl, dRev, dCmpV, dBlV, gIn, dIsN, gIsB, dGetN1, dGetN2, gIsi, dFld, wFld, wRaise, dChain, dCall, bNil, bCons, bBor, DL.cellOf, DL.borIx, DL.putB, DL.allOwn, DL.borsAt, ownIx, parC, okSet, Cell.view, Cell.frz, OC.frz, Cell.own, Cell.bor, List.map_cons, List.map_nil, List.cons_append, List.nil_append, List.length_cons, List.length_nil, List.replicate_succ, List.replicate_zero, List.getElem?_cons_zero, List.getElem?_cons_succ, List.set_cons_zero, List.set_cons_succ, List.getD_cons_zero, List.getD_cons_succ, Option.bind_some, List.nodup_nil, List.nodup_cons, List.not_mem_nil, not_false_eq_true, true_and, and_true, if_true, if_false, ite_true, ite_false, reduceCtorEq, Nat.reduceAdd, Nat.reduceSub, Nat.zero_add, Nat.sub_self, Bool.not_true, Bool.not_false, Bool.false_eq_true, Bool.true_eq, DL.dataOf, conF, Option.map_some, Out.to]
  refine ⟨by decide, by decide, by decide, by decide, by decide, by decide, by decide, by decide, by decide, by decide, ?_⟩
  subst hk
  refine seq_gen fun k hk => ?_
  simp (config := { decide := false }) only [runD, wNil, wBreak, wCont, wSet, wDrop, wRet, wRetN, wIf, wFor, gN, gsNil, gsCons, gT, wAsg, wPar, dCel, dDat, dVar, dC, dOp2, dOp2d, gI2, gI0, dCmp, dBl, dAsB, gB2, gEq, dAnd, dOr, dNot, dAndV, dOrV, dNotV, gAdd, gMul, dNeg, iData, dI_lst, dI_klst, dI_tup, dI_ktup, iD_lst, iD_klst, iD_tup, iD_ktup, ln_lst, ln_klst, ln_tup, ln_ktup, iR1, iR2, iZipD, iEnumD, dYes, dLc, dIx, dIxN, ixD, optP, dVw, dPeek, dOp1, gInts, gBls, gList, gTuple, gLen, gInt, aNil, aCons, dTup, dLst, dDk, dDt, dAppend, dPop, wPutL, wPutD, DV.key, dDisp, ppN, ppC, DL.kvsOf, dPopAt, wAugI, dIf, exists_and_left, exists_and_right, exists_eq_left, exists_eq_left', exists_eq', exists_eq, exists_const, exists_false, or_false, false_or, false_and, and_false, and_assoc, Option.some.injEq, Cell.o.injEq, Cell.d.injEq, OC.k.injEq, OC.l.injEq, OC.t.injEq, OC.ins.injEq, DV.int.injEq, DV.bl.injEq, DV.str.injEq,  oNone, oSome, dSl, dSlN, gSl, dRev, dCmpV, dBlV, gIn, dIsN, gIsB, dGetN1, dGetN2, gIsi, dFld, wFld, wRaise, dChain, dCall, bNil, bCons, bBor, DL.cellOf, DL.borIx, DL.putB, DL.allOwn, DL.borsAt, ownIx, parC, okSet, Cell.view, Cell.frz, OC.frz, Cell.own, Cell.bor, List.map_cons, List.map_nil, List.cons_append, List.nil_append, List.length_cons, List.length_nil, List.replicate_succ, List.replicate_zero, List.getElem?_cons_zero, List.getElem?_cons_succ, List.set_cons_zero, List.set_cons_succ, List.getD_cons_zero, List.getD_cons_succ, Option.bind_some, List.nodup_nil, List.nodup_cons, List.not_mem_nil, not_false_eq_true, true_and, and_true, if_true, if_false, ite_true, ite_false, reduceCtorEq, Nat.reduceAdd, Nat.reduceSub, Nat.zero_add, Nat.sub_self, Bool.not_true, Bool.not_false, Bool.false_eq_true, Bool.true_eq, DL.dataOf, conF, Option.map_some, Out.to]
  refine l1_go Fa [(2, 2, 1), (4, 2, 2), (8, 2, 3), (16, 2, 4), (3, 3, 1), (9, 3, 2), (27, 3, 3), (5, 5, 1), (25, 5, 2)] .un .un .un (fun t ht => ?_) rfl rfl rfl fun c3 c4 c5 h3 h4 h5 => ?_
  · simp only [List.mem_cons, List.not_mem_nil, or_false] at ht
    rcases ht with rfl | rfl | rfl | rfl | rfl | rfl | rfl | rfl | rfl <;> exact ⟨rfl, by decide, by decide⟩
  show k _
  subst hk
  refine seq_gen fun k hk => ?_
  simp (config := { decide := false }) only [runD, wNil, wBreak, wCont, wSet, wDrop, wRet, wRetN, wIf, wFor, gN, gsNil, gsCons, gT, wAsg, wPar, dCel, dDat, dVar, dC, dOp2, dOp2d, gI2, gI0, dCmp, dBl, dAsB, gB2, gEq, dAnd, dOr, dNot, dAndV, dOrV, dNotV, gAdd, gMul, dNeg, iData, dI_lst, dI_klst, dI_tup, dI_ktup, iD_lst, iD_klst, iD_tup, iD_ktup, ln_lst, ln_klst, ln_tup, ln_ktup, iR1, iR2, iZipD, iEnumD, dYes, dLc, dIx, dIxN, ixD, optP, dVw, dPeek, dOp1, gInts, gBls, gList, gTuple, gLen, gInt, aNil, aCons, dTup, dLst, dDk, dDt, dAppend, dPop, wPutL, wPutD, DV.key, dDisp, ppN, ppC, DL.kvsOf, dPopAt, wAugI, dIf, exists_and_left, exists_and_right, exists_eq_left, exists_eq_left', exists_eq', exists_eq, exists_const, exists_false, or_false, false_or, false_and, and_false, and_assoc, Option.some.injEq, Cell.o.injEq, Cell.d.injEq, OC.k.injEq, OC.l.injEq, OC.t.injEq, OC.ins.injEq, DV.int.injEq, DV.bl.injEq, DV.str.injEq,  oNone, oSome, dSl, dSlN, gSl, dRev, dCmpV, dBlV, gIn, dIsN, gIsB, dGetN1, dGetN2, gIsi, dFld, wFld, wRaise, dChain, dCall, bNil, bCons, bBor, DL.cellOf, DL.borIx, DL.putB, DL.allOwn, DL.borsAt, ownIx, parC, okSet, Cell.view, Cell.frz, OC.frz, Cell.own, Cell.bor, List.map_cons, List.map_nil, List.cons_append, List.nil_append, List.length_cons, List.length_nil, List.replicate_succ, List.replicate_zero, List.getElem?_cons_zero, List.getElem?_cons_succ, List.set_cons_zero, List.set_cons_succ, List.getD_cons_zero, List.getD_cons_succ, Option.bind_some, List.nodup_nil, List.nodup_cons, List.not_mem_nil, not_false_eq_true, true_and, and_true, if_true, if_false, ite_true, ite_false, reduceCtorEq, Nat.reduceAdd, Nat.reduceSub, Nat.zero_add, Nat.sub_self, Bool.not_true, Bool.not_false, Bool.false_eq_true, Bool.true_eq, DL.dataOf, conF, Option.map_some, Out.to, con_law_large, conLarge]
  intro far f0 f1
  subst hk
  refine seq_gen fun k hk => ?_
  simp (config := { decide := false }) only [runD, wNil, wBreak, wCont, wSet, wDrop, wRet, wRetN, wIf, wFor, gN, gsNil, gsCons, gT, wAsg, wPar, dCel, dDat, dVar, dC, dOp2, dOp2d, gI2, gI0, dCmp, dBl, dAsB, gB2, gEq, dAnd, dOr, dNot, dAndV, dOrV, dNotV, gAdd, gMul, dNeg, iData, dI_lst, dI_klst, dI_tup, dI_ktup, iD_lst, iD_klst, iD_tup, iD_ktup, ln_lst, ln_klst, ln_tup, ln_ktup, iR1, iR2, iZipD, iEnumD, dYes, dLc, dIx, dIxN, ixD, optP, dVw, dPeek, dOp1, gInts, gBls, gList, gTuple, gLen, gInt, aNil, aCons, dTup, dLst, dDk, dDt, dAppend, dPop, wPutL, wPutD, DV.key, dDisp, ppN, ppC, DL.kvsOf, dPopAt, wAugI, dIf, exists_and_left, exists_and_right, exists_eq_left, exists_eq_left', exists_eq', exists_eq, exists_const, exists_false, or_false, false_or, false_and, and_false, and_assoc, Option.some.injEq, Cell.o.injEq, Cell.d.injEq, OC.k.injEq, OC.l.injEq, OC.t.injEq, OC.ins.injEq, DV.int.injEq, DV.bl.injEq, DV.str.injEq,  oNone, oSome, dSl, dSlN, gSl, dRev, dCmpV, dBlV, gIn, dIsN, gIsB, dGetN1, dGetN2, gIsi, dFld, wFld, wRaise, dChain, dCall, bNil, bCons, bBor, DL.cellOf, DL.borIx, DL.putB, DL.allOwn, DL.borsAt, ownIx, parC, okSet, Cell.view, Cell.frz, OC.frz, Cell.own, Cell.bor, List.map_cons, List.map_nil, List.cons_append, List.nil_append, List.length_cons, List.length_nil, List.replicate_succ, List.replicate_zero, List.getElem?_cons_zero, List.getElem?_cons_succ, List.set_cons_zero, List.set_cons_succ, List.getD_cons_zero, List.getD_cons_succ, Option.bind_some, List.nodup_nil, List.nodup_cons, List.not_mem_nil, not_false_eq_true, true_and, and_true, if_true, if_false, ite_true, ite_false, reduceCtorEq, Nat.reduceAdd, Nat.reduceSub, Nat.zero_add, Nat.sub_self, Bool.not_true, Bool.not_false, Bool.false_eq_true, Bool.true_eq, DL.dataOf, conF, Option.map_some, Out.to, con_law_pick]
  refine ⟨by decide, by decide, ⟨by decide, by decide⟩, by decide, conPick_mk rfl ⟨List.cons_ne_nil _ _, (by decide : 17 ≤ 1000000)⟩ fun odd hd => ?_⟩
  obtain ⟨o1, so, o2, o3⟩ := odd_ok Fa f0 f1 hd
  simp (config := { decide := false }) only [runD, wNil, wBreak, wCont, wSet, wDrop, wRet, wRetN, wIf, wFor, gN, gsNil, gsCons, gT, wAsg, wPar, dCel, dDat, dVar, dC, dOp2, dOp2d, gI2, gI0, dCmp, dBl, dAsB, gB2, gEq, dAnd, dOr, dNot, dAndV, dOrV, dNotV, gAdd, gMul, dNeg, iData, dI_lst, dI_klst, dI_tup, dI_ktup, iD_lst, iD_klst, iD_tup, iD_ktup, ln_lst, ln_klst, ln_tup, ln_ktup, iR1, iR2, iZipD, iEnumD, dYes, dLc, dIx, dIxN, ixD, optP, dVw, dPeek, dOp1, gInts, gBls, gList, gTuple, gLen, gInt, aNil, aCons, dTup, dLst, dDk, dDt, dAppend, dPop, wPutL, wPutD, DV.key, dDisp, ppN, ppC, DL.kvsOf, dPopAt, wAugI, dIf, exists_and_left, exists_and_right, exists_eq_left, exists_eq_left', exists_eq', exists_eq, exists_const, exists_false, or_false, false_or, false_and, and_false, and_assoc, Option.some.injEq, Cell.o.injEq, Cell.d.injEq, OC.k.injEq, OC.l.injEq, OC.t.injEq, OC.ins.injEq, DV.int.injEq, DV.bl.injEq, DV.str.injEq,  oNone, oSome, dSl, dSlN, gSl, dRev, dCmpV, dBlV, gIn, dIsN, gIsB, dGetN1, dGetN2, gIsi, dFld, wFld, wRaise, dChain, dCall, bNil, bCons, bBor, DL.cellOf, DL.borIx, DL.putB, DL.allOwn, DL.borsAt, ownIx, parC, okSet, Cell.view, Cell.frz, OC.frz, Cell.own, Cell.bor, List.map_cons, List.map_nil, List.cons_append, List.nil_append, List.length_cons, List.length_nil, List.replicate_succ, List.replicate_zero, List.getElem?_cons_zero, List.getElem?_cons_succ, List.set_cons_zero, List.set_cons_succ, List.getD_cons_zero, List.getD_cons_succ, Option.bind_some, List.nodup_nil, List.nodup_cons, List.not_mem_nil, not_false_eq_true, true_and, and_true, if_true, if_false, ite_true, ite_false, reduceCtorEq, Nat.reduceAdd, Nat.reduceSub, Nat.zero_add, Nat.sub_self, Bool.not_true, Bool.not_false, Bool.false_eq_true, Bool.true_eq, DL.dataOf, conF, Option.map_some, Out.to]
  subst hk
  refine seq_gen fun k hk => ?_
  simp (config := { decide := false }) only [runD, wNil, wBreak, wCont, wSet, wDrop, wRet, wRetN, wIf, wFor, gN, gsNil, gsCons, gT, wAsg, wPar, dCel, dDat, dVar, dC, dOp2, dOp2d, gI2, gI0, dCmp, dBl, dAsB, gB2, gEq, dAnd, dOr, dNot, dAndV, dOrV, dNotV, gAdd, gMul, dNeg, iData, dI_lst, dI_klst, dI_tup, dI_ktup, iD_lst, iD_klst, iD_tup, iD_ktup, ln_lst, ln_klst, ln_tup, ln_ktup, iR1, iR2, iZipD, iEnumD, dYes, dLc, dIx, dIxN, ixD, optP, dVw, dPeek, dOp1, gInts, gBls, gList, gTuple, gLen, gInt, aNil, aCons, dTup, dLst, dDk, dDt, dAppend, dPop, wPutL, wPutD, DV.key, dDisp, ppN, ppC, DL.kvsOf, dPopAt, wAugI, dIf, exists_and_left, exists_and_right, exists_eq_left, exists_eq_left', exists_eq', exists_eq, exists_const, exists_false, or_false, false_or, false_and, and_false, and_assoc, Option.some.injEq, Cell.o.injEq, Cell.d.injEq, OC.k.injEq, OC.l.injEq, OC.t.injEq, OC.ins.injEq, DV.int.injEq, DV.bl.injEq, DV.str.injEq,  oNone, oSome, dSl, dSlN, gSl, dRev, dCmpV, dBlV, gIn, dIsN, gIsB, dGetN1, dGetN2, gIsi, dFld, wFld, wRaise, dChain, dCall, bNil, bCons, bBor, DL.cellOf, DL.borIx, DL.putB, DL.allOwn, DL.borsAt, ownIx, parC, okSet, Cell.view, Cell.frz, OC.frz, Cell.own, Cell.bor, List.map_cons, List.map_nil, List.cons_append, List.nil_append, List.length_cons, List.length_nil, List.replicate_succ, List.replicate_zero, List.getElem?_cons_zero, List.getElem?_cons_succ, List.set_cons_zero, List.set_cons_succ, List.getD_cons_zero, List.getD_cons_succ, Option.bind_some, List.nodup_nil, List.nodup_cons, List.not_mem_nil, not_false_eq_true, true_and, and_true, if_true, if_false, ite_true, ite_false, reduceCtorEq, Nat.reduceAdd, Nat.reduceSub, Nat.zero_add, Nat.sub_self, Bool.not_true, Bool.not_false, Bool.false_eq_true, Bool.true_eq, DL.dataOf, conF, Option.map_some, Out.to, dWhy, hide, hideC]
  refine callF rfl rfl (pp_known Fa (m := 7) rfl) ?_
  simp (config := { decide := false }) only [runD, wNil, wBreak, wCont, wSet, wDrop, wRet, wRetN, wIf, wFor, gN, gsNil, gsCons, gT, wAsg, wPar, dCel, dDat, dVar, dC, dOp2, dOp2d, gI2, gI0, dCmp, dBl, dAsB, gB2, gEq, dAnd, dOr, dNot, dAndV, dOrV, dNotV, gAdd, gMul, dNeg, iData, dI_lst, dI_klst, dI_tup, dI_ktup, iD_lst, iD_klst, iD_tup, iD_ktup, ln_lst, ln_klst, ln_tup, ln_ktup, iR1, iR2, iZipD, iEnumD, dYes, dLc, dIx, dIxN, ixD, optP, dVw, dPeek, dOp1, gInts, gBls, gList, gTuple, gLen, gInt, aNil, aCons, dTup, dLst, dDk, dDt, dAppend, dPop, wPutL, wPutD, DV.key, dDisp, ppN, ppC, DL.kvsOf, dPopAt, wAugI, dIf, exists_and_left, exists_and_right, exists_eq_left, exists_eq_left', exists_eq', exists_eq, exists_const, exists_false, or_false, false_or, false_and, and_false, and_assoc, Option.some.injEq, Cell.o.injEq, Cell.d.injEq, OC.k.injEq, OC.l.injEq, OC.t.injEq, OC.ins.injEq, DV.int.injEq, DV.bl.injEq, DV.str.injEq,  oNone, oSome, dSl, dSlN, gSl, dRev, dCmpV, dBlV, gIn, dIsN, gIsB, dGetN1, dGetN2, gIsi, dFld, wFld, wRaise, dChain, dCall, bNil, bCons, bBor, DL.cellOf, DL.borIx, DL.putB, DL.allOwn, DL.borsAt, ownIx, parC, okSet, Cell.view, Cell.frz, OC.frz, Cell.own, Cell.bor, List.map_cons, List.map_nil, List.cons_append, List.nil_append, List.length_cons, List.length_nil, List.replicate_succ, List.replicate_zero, List.getElem?_cons_zero, List.getElem?_cons_succ, List.set_cons_zero, List.set_cons_succ, List.getD_cons_zero, List.getD_cons_succ, Option.bind_some, List.nodup_nil, List.nodup_cons, List.not_mem_nil, not_false_eq_true, true_and, and_true, if_true, if_false, ite_true, ite_false, reduceCtorEq, Nat.reduceAdd, Nat.reduceSub, Nat.zero_add, Nat.sub_self, Bool.not_true, Bool.not_false, Bool.false_eq_true, Bool.true_eq, DL.dataOf, conF, Option.map_some, Out.to]
  refine ⟨by decide, rfl, rfl, ?_⟩
  rw [show eqD (DV.ktup [.int 7, .int 1]) (DV.tup [.int 7, .int 1]) = true from eqD_refl (k := 60) (x := DV.tup [.int 7, .int 1]) rfl, if_neg (by decide)]
  refine callF rfl rfl o1 ?_
  show optP (wyW K A _ _) _
  rw [why_n Fa o2]
  show gReprA odd _
  refine gRepr_of o2 ?_
  have k3 := ok3 (a := "number") (b := "modulus") (strOk_lit _) (strOk_lit _) o3
  simp (config := { decide := false }) only [runD, wNil, wBreak, wCont, wSet, wDrop, wRet, wRetN, wIf, wFor, gN, gsNil, gsCons, gT, wAsg, wPar, dCel, dDat, dVar, dC, dOp2, dOp2d, gI2, gI0, dCmp, dBl, dAsB, gB2, gEq, dAnd, dOr, dNot, dAndV, dOrV, dNotV, gAdd, gMul, dNeg, iData, dI_lst, dI_klst, dI_tup, dI_ktup, iD_lst, iD_klst, iD_tup, iD_ktup, ln_lst, ln_klst, ln_tup, ln_ktup, iR1, iR2, iZipD, iEnumD, dYes, dLc, dIx, dIxN, ixD, optP, dVw, dPeek, dOp1, gInts, gBls, gList, gTuple, gLen, gInt, aNil, aCons, dTup, dLst, dDk, dDt, dAppend, dPop, wPutL, wPutD, DV.key, dDisp, ppN, ppC, DL.kvsOf, dPopAt, wAugI, dIf, exists_and_left, exists_and_right, exists_eq_left, exists_eq_left', exists_eq', exists_eq, exists_const, exists_false, or_false, false_or, false_and, and_false, and_assoc, Option.some.injEq, Cell.o.injEq, Cell.d.injEq, OC.k.injEq, OC.l.injEq, OC.t.injEq, OC.ins.injEq, DV.int.injEq, DV.bl.injEq, DV.str.injEq,  oNone, oSome, dSl, dSlN, gSl, dRev, dCmpV, dBlV, gIn, dIsN, gIsB, dGetN1, dGetN2, gIsi, dFld, wFld, wRaise, dChain, dCall, bNil, bCons, bBor, DL.cellOf, DL.borIx, DL.putB, DL.allOwn, DL.borsAt, ownIx, parC, okSet, Cell.view, Cell.frz, OC.frz, Cell.own, Cell.bor, List.map_cons, List.map_nil, List.cons_append, List.nil_append, List.length_cons, List.length_nil, List.replicate_succ, List.replicate_zero, List.getElem?_cons_zero, List.getElem?_cons_succ, List.set_cons_zero, List.set_cons_succ, List.getD_cons_zero, List.getD_cons_succ, Option.bind_some, List.nodup_nil, List.nodup_cons, List.not_mem_nil, not_false_eq_true, true_and, and_true, if_true, if_false, ite_true, ite_false, reduceCtorEq, Nat.reduceAdd, Nat.reduceSub, Nat.zero_add, Nat.sub_self, Bool.not_true, Bool.not_false, Bool.false_eq_true, Bool.true_eq, DL.dataOf, conF, Option.map_some, Out.to]
  refine ⟨by decide, k3, k3, ?_⟩
  rw [eqD_refl k3, if_neg (by decide)]
  subst hk
  refine seq_gen fun k hk => ?_
  simp (config := { decide := false }) only [runD, wNil, wBreak, wCont, wSet, wDrop, wRet, wRetN, wIf, wFor, gN, gsNil, gsCons, gT, wAsg, wPar, dCel, dDat, dVar, dC, dOp2, dOp2d, gI2, gI0, dCmp, dBl, dAsB, gB2, gEq, dAnd, dOr, dNot, dAndV, dOrV, dNotV, gAdd, gMul, dNeg, iData, dI_lst, dI_klst, dI_tup, dI_ktup, iD_lst, iD_klst, iD_tup, iD_ktup, ln_lst, ln_klst, ln_tup, ln_ktup, iR1, iR2, iZipD, iEnumD, dYes, dLc, dIx, dIxN, ixD, optP, dVw, dPeek, dOp1, gInts, gBls, gList, gTuple, gLen, gInt, aNil, aCons, dTup, dLst, dDk, dDt, dAppend, dPop, wPutL, wPutD, DV.key, dDisp, ppN, ppC, DL.kvsOf, dPopAt, wAugI, dIf, exists_and_left, exists_and_right, exists_eq_left, exists_eq_left', exists_eq', exists_eq, exists_const, exists_false, or_false, false_or, false_and, and_false, and_assoc, Option.some.injEq, Cell.o.injEq, Cell.d.injEq, OC.k.injEq, OC.l.injEq, OC.t.injEq, OC.ins.injEq, DV.int.injEq, DV.bl.injEq, DV.str.injEq,  oNone, oSome, dSl, dSlN, gSl, dRev, dCmpV, dBlV, gIn, dIsN, gIsB, dGetN1, dGetN2, gIsi, dFld, wFld, wRaise, dChain, dCall, bNil, bCons, bBor, DL.cellOf, DL.borIx, DL.putB, DL.allOwn, DL.borsAt, ownIx, parC, okSet, Cell.view, Cell.frz, OC.frz, Cell.own, Cell.bor, List.map_cons, List.map_nil, List.cons_append, List.nil_append, List.length_cons, List.length_nil, List.replicate_succ, List.replicate_zero, List.getElem?_cons_zero, List.getElem?_cons_succ, List.set_cons_zero, List.set_cons_succ, List.getD_cons_zero, List.getD_cons_succ, Option.bind_some, List.nodup_nil, List.nodup_cons, List.not_mem_nil, not_false_eq_true, true_and, and_true, if_true, if_false, ite_true, ite_false, reduceCtorEq, Nat.reduceAdd, Nat.reduceSub, Nat.zero_add, Nat.sub_self, Bool.not_true, Bool.not_false, Bool.false_eq_true, Bool.true_eq, DL.dataOf, conF, Option.map_some, Out.to]
  refine ⟨by decide, by decide, ?_⟩
  refine l2_go 4 0 c4 .un .un .un .un h4 rfl rfl rfl rfl fun c4 c8 c9 c10 c11 h4 h8 h9 h10 h11 => ?_
  show k _
  subst hk
  refine seq_gen fun k hk => ?_
  simp (config := { decide := false }) only [runD, wNil, wBreak, wCont, wSet, wDrop, wRet, wRetN, wIf, wFor, gN, gsNil, gsCons, gT, wAsg, wPar, dCel, dDat, dVar, dC, dOp2, dOp2d, gI2, gI0, dCmp, dBl, dAsB, gB2, gEq, dAnd, dOr, dNot, dAndV, dOrV, dNotV, gAdd, gMul, dNeg, iData, dI_lst, dI_klst, dI_tup, dI_ktup, iD_lst, iD_klst, iD_tup, iD_ktup, ln_lst, ln_klst, ln_tup, ln_ktup, iR1, iR2, iZipD, iEnumD, dYes, dLc, dIx, dIxN, ixD, optP, dVw, dPeek, dOp1, gInts, gBls, gList, gTuple, gLen, gInt, aNil, aCons, dTup, dLst, dDk, dDt, dAppend, dPop, wPutL, wPutD, DV.key, dDisp, ppN, ppC, DL.kvsOf, dPopAt, wAugI, dIf, exists_and_left, exists_and_right, exists_eq_left, exists_eq_left', exists_eq', exists_eq, exists_const, exists_false, or_false, false_or, false_and, and_false, and_assoc, Option.some.injEq, Cell.o.injEq, Cell.d.injEq, OC.k.injEq, OC.l.injEq, OC.t.injEq, OC.ins.injEq, DV.int.injEq, DV.bl.injEq, DV.str.injEq,  oNone, oSome, dSl, dSlN, gSl, dRev, dCmpV, dBlV, gIn, dIsN, gIsB, dGetN1, dGetN2, gIsi, dFld, wFld, wRaise, dChain, dCall, bNil, bCons, bBor, DL.cellOf, DL.borIx, DL.putB, DL.allOwn, DL.borsAt, ownIx, parC, okSet, Cell.view, Cell.frz, OC.frz, Cell.own, Cell.bor, List.map_cons, List.map_nil, List.cons_append, List.nil_append, List.length_cons, List.length_nil, List.replicate_succ, List.replicate_zero, List.getElem?_cons_zero, List.getElem?_cons_succ, List.set_cons_zero, List.set_cons_succ, List.getD_cons_zero, List.getD_cons_succ, Option.bind_some, List.nodup_nil, List.nodup_cons, List.not_mem_nil, not_false_eq_true, true_and, and_true, if_true, if_false, ite_true, ite_false, reduceCtorEq, Nat.reduceAdd, Nat.reduceSub, Nat.zero_add, Nat.sub_self, Bool.not_true, Bool.not_false, Bool.false_eq_true, Bool.true_eq, DL.dataOf, conF, Option.map_some, Out.to, con_law_pick]
  refine ⟨by decide, conPick_mk rfl ⟨List.cons_ne_nil _ _, by decide⟩ fun dp hdp => ?_⟩
  obtain ⟨p, rfl, hpp, ho⟩ := four_of hdp
  simp (config := { decide := false }) only [runD, wNil, wBreak, wCont, wSet, wDrop, wRet, wRetN, wIf, wFor, gN, gsNil, gsCons, gT, wAsg, wPar, dCel, dDat, dVar, dC, dOp2, dOp2d, gI2, gI0, dCmp, dBl, dAsB, gB2, gEq, dAnd, dOr, dNot, dAndV, dOrV, dNotV, gAdd, gMul, dNeg, iData, dI_lst, dI_klst, dI_tup, dI_ktup, iD_lst, iD_klst, iD_tup, iD_ktup, ln_lst, ln_klst, ln_tup, ln_ktup, iR1, iR2, iZipD, iEnumD, dYes, dLc, dIx, dIxN, ixD, optP, dVw, dPeek, dOp1, gInts, gBls, gList, gTuple, gLen, gInt, aNil, aCons, dTup, dLst, dDk, dDt, dAppend, dPop, wPutL, wPutD, DV.key, dDisp, ppN, ppC, DL.kvsOf, dPopAt, wAugI, dIf, exists_and_left, exists_and_right, exists_eq_left, exists_eq_left', exists_eq', exists_eq, exists_const, exists_false, or_false, false_or, false_and, and_false, and_assoc, Option.some.injEq, Cell.o.injEq, Cell.d.injEq, OC.k.injEq, OC.l.injEq, OC.t.injEq, OC.ins.injEq, DV.int.injEq, DV.bl.injEq, DV.str.injEq,  oNone, oSome, dSl, dSlN, gSl, dRev, dCmpV, dBlV, gIn, dIsN, gIsB, dGetN1, dGetN2, gIsi, dFld, wFld, wRaise, dChain, dCall, bNil, bCons, bBor, DL.cellOf, DL.borIx, DL.putB, DL.allOwn, DL.borsAt, ownIx, parC, okSet, Cell.view, Cell.frz, OC.frz, Cell.own, Cell.bor, List.map_cons, List.map_nil, List.cons_append, List.nil_append, List.length_cons, List.length_nil, List.replicate_succ, List.replicate_zero, List.getElem?_cons_zero, List.getElem?_cons_succ, List.set_cons_zero, List.set_cons_succ, List.getD_cons_zero, List.getD_cons_succ, Option.bind_some, List.nodup_nil, List.nodup_cons, List.not_mem_nil, not_false_eq_true, true_and, and_true, if_true, if_false, ite_true, ite_false, reduceCtorEq, Nat.reduceAdd, Nat.reduceSub, Nat.zero_add, Nat.sub_self, Bool.not_true, Bool.not_false, Bool.false_eq_true, Bool.true_eq, DL.dataOf, conF, Option.map_some, Out.to, con_law_pick]
  refine ⟨by decide, by decide, by decide, conPick_mk rfl ⟨List.cons_ne_nil _ _, (by decide : 7 ≤ 1000000)⟩ fun bad hb => ?_⟩
  obtain ⟨b1, sb, b2, b3⟩ := bad_ok (A := A) f0 f1 hb
  simp (config := { decide := false }) only [runD, wNil, wBreak, wCont, wSet, wDrop, wRet, wRetN, wIf, wFor, gN, gsNil, gsCons, gT, wAsg, wPar, dCel, dDat, dVar, dC, dOp2, dOp2d, gI2, gI0, dCmp, dBl, dAsB, gB2, gEq, dAnd, dOr, dNot, dAndV, dOrV, dNotV, gAdd, gMul, dNeg, iData, dI_lst, dI_klst, dI_tup, dI_ktup, iD_lst, iD_klst, iD_tup, iD_ktup, ln_lst, ln_klst, ln_tup, ln_ktup, iR1, iR2, iZipD, iEnumD, dYes, dLc, dIx, dIxN, ixD, optP, dVw, dPeek, dOp1, gInts, gBls, gList, gTuple, gLen, gInt, aNil, aCons, dTup, dLst, dDk, dDt, dAppend, dPop, wPutL, wPutD, DV.key, dDisp, ppN, ppC, DL.kvsOf, dPopAt, wAugI, dIf, exists_and_left, exists_and_right, exists_eq_left, exists_eq_left', exists_eq', exists_eq, exists_const, exists_false, or_false, false_or, false_and, and_false, and_assoc, Option.some.injEq, Cell.o.injEq, Cell.d.injEq, OC.k.injEq, OC.l.injEq, OC.t.injEq, OC.ins.injEq, DV.int.injEq, DV.bl.injEq, DV.str.injEq,  oNone, oSome, dSl, dSlN, gSl, dRev, dCmpV, dBlV, gIn, dIsN, gIsB, dGetN1, dGetN2, gIsi, dFld, wFld, wRaise, dChain, dCall, bNil, bCons, bBor, DL.cellOf, DL.borIx, DL.putB, DL.allOwn, DL.borsAt, ownIx, parC, okSet, Cell.view, Cell.frz, OC.frz, Cell.own, Cell.bor, List.map_cons, List.map_nil, List.cons_append, List.nil_append, List.length_cons, List.length_nil, List.replicate_succ, List.replicate_zero, List.getElem?_cons_zero, List.getElem?_cons_succ, List.set_cons_zero, List.set_cons_succ, List.getD_cons_zero, List.getD_cons_succ, Option.bind_some, List.nodup_nil, List.nodup_cons, List.not_mem_nil, not_false_eq_true, true_and, and_true, if_true, if_false, ite_true, ite_false, reduceCtorEq, Nat.reduceAdd, Nat.reduceSub, Nat.zero_add, Nat.sub_self, Bool.not_true, Bool.not_false, Bool.false_eq_true, Bool.true_eq, DL.dataOf, conF, Option.map_some, Out.to]
  refine ⟨by decide, ok_of h4, ?_⟩
  subst hk
  refine seq_gen fun k hk => ?_
  simp (config := { decide := false }) only [runD, wNil, wBreak, wCont, wSet, wDrop, wRet, wRetN, wIf, wFor, gN, gsNil, gsCons, gT, wAsg, wPar, dCel, dDat, dVar, dC, dOp2, dOp2d, gI2, gI0, dCmp, dBl, dAsB, gB2, gEq, dAnd, dOr, dNot, dAndV, dOrV, dNotV, gAdd, gMul, dNeg, iData, dI_lst, dI_klst, dI_tup, dI_ktup, iD_lst, iD_klst, iD_tup, iD_ktup, ln_lst, ln_klst, ln_tup, ln_ktup, iR1, iR2, iZipD, iEnumD, dYes, dLc, dIx, dIxN, ixD, optP, dVw, dPeek, dOp1, gInts, gBls, gList, gTuple, gLen, gInt, aNil, aCons, dTup, dLst, dDk, dDt, dAppend, dPop, wPutL, wPutD, DV.key, dDisp, ppN, ppC, DL.kvsOf, dPopAt, wAugI, dIf, exists_and_left, exists_and_right, exists_eq_left, exists_eq_left', exists_eq', exists_eq, exists_const, exists_false, or_false, false_or, false_and, and_false, and_assoc, Option.some.injEq, Cell.o.injEq, Cell.d.injEq, OC.k.injEq, OC.l.injEq, OC.t.injEq, OC.ins.injEq, DV.int.injEq, DV.bl.injEq, DV.str.injEq,  oNone, oSome, dSl, dSlN, gSl, dRev, dCmpV, dBlV, gIn, dIsN, gIsB, dGetN1, dGetN2, gIsi, dFld, wFld, wRaise, dChain, dCall, bNil, bCons, bBor, DL.cellOf, DL.borIx, DL.putB, DL.allOwn, DL.borsAt, ownIx, parC, okSet, Cell.view, Cell.frz, OC.frz, Cell.own, Cell.bor, List.map_cons, List.map_nil, List.cons_append, List.nil_append, List.length_cons, List.length_nil, List.replicate_succ, List.replicate_zero, List.getElem?_cons_zero, List.getElem?_cons_succ, List.set_cons_zero, List.set_cons_succ, List.getD_cons_zero, List.getD_cons_succ, Option.bind_some, List.nodup_nil, List.nodup_cons, List.not_mem_nil, not_false_eq_true, true_and, and_true, if_true, if_false, ite_true, ite_false, reduceCtorEq, Nat.reduceAdd, Nat.reduceSub, Nat.zero_add, Nat.sub_self, Bool.not_true, Bool.not_false, Bool.false_eq_true, Bool.true_eq, DL.dataOf, conF, Option.map_some, Out.to, con_law_pick]
  refine ⟨by decide, by decide, conPick_mk rfl ⟨List.cons_ne_nil _ _, (by decide : 12 ≤ 1000000)⟩ fun bs hbs => ?_⟩
  have B := base_ok f0 f1 hbs
  obtain ⟨ss, s2, s3⟩ := B.r
  simp (config := { decide := false }) only [runD, wNil, wBreak, wCont, wSet, wDrop, wRet, wRetN, wIf, wFor, gN, gsNil, gsCons, gT, wAsg, wPar, dCel, dDat, dVar, dC, dOp2, dOp2d, gI2, gI0, dCmp, dBl, dAsB, gB2, gEq, dAnd, dOr, dNot, dAndV, dOrV, dNotV, gAdd, gMul, dNeg, iData, dI_lst, dI_klst, dI_tup, dI_ktup, iD_lst, iD_klst, iD_tup, iD_ktup, ln_lst, ln_klst, ln_tup, ln_ktup, iR1, iR2, iZipD, iEnumD, dYes, dLc, dIx, dIxN, ixD, optP, dVw, dPeek, dOp1, gInts, gBls, gList, gTuple, gLen, gInt, aNil, aCons, dTup, dLst, dDk, dDt, dAppend, dPop, wPutL, wPutD, DV.key, dDisp, ppN, ppC, DL.kvsOf, dPopAt, wAugI, dIf, exists_and_left, exists_and_right, exists_eq_left, exists_eq_left', exists_eq', exists_eq, exists_const, exists_false, or_false, false_or, false_and, and_false, and_assoc, Option.some.injEq, Cell.o.injEq, Cell.d.injEq, OC.k.injEq, OC.l.injEq, OC.t.injEq, OC.ins.injEq, DV.int.injEq, DV.bl.injEq, DV.str.injEq,  oNone, oSome, dSl, dSlN, gSl, dRev, dCmpV, dBlV, gIn, dIsN, gIsB, dGetN1, dGetN2, gIsi, dFld, wFld, wRaise, dChain, dCall, bNil, bCons, bBor, DL.cellOf, DL.borIx, DL.putB, DL.allOwn, DL.borsAt, ownIx, parC, okSet, Cell.view, Cell.frz, OC.frz, Cell.own, Cell.bor, List.map_cons, List.map_nil, List.cons_append, List.nil_append, List.length_cons, List.length_nil, List.replicate_succ, List.replicate_zero, List.getElem?_cons_zero, List.getElem?_cons_succ, List.set_cons_zero, List.set_cons_succ, List.getD_cons_zero, List.getD_cons_succ, Option.bind_some, List.nodup_nil, List.nodup_cons, List.not_mem_nil, not_false_eq_true, true_and, and_true, if_true, if_false, ite_true, ite_false, reduceCtorEq, Nat.reduceAdd, Nat.reduceSub, Nat.zero_add, Nat.sub_self, Bool.not_true, Bool.not_false, Bool.false_eq_true, Bool.true_eq, DL.dataOf, conF, Option.map_some, Out.to]
  subst hk
  refine seq_gen fun k hk => ?_
  simp (config := { decide := false }) only [runD, wNil, wBreak, wCont, wSet, wDrop, wRet, wRetN, wIf, wFor, gN, gsNil, gsCons, gT, wAsg, wPar, dCel, dDat, dVar, dC, dOp2, dOp2d, gI2, gI0, dCmp, dBl, dAsB, gB2, gEq, dAnd, dOr, dNot, dAndV, dOrV, dNotV, gAdd, gMul, dNeg, iData, dI_lst, dI_klst, dI_tup, dI_ktup, iD_lst, iD_klst, iD_tup, iD_ktup, ln_lst, ln_klst, ln_tup, ln_ktup, iR1, iR2, iZipD, iEnumD, dYes, dLc, dIx, dIxN, ixD, optP, dVw, dPeek, dOp1, gInts, gBls, gList, gTuple, gLen, gInt, aNil, aCons, dTup, dLst, dDk, dDt, dAppend, dPop, wPutL, wPutD, DV.key, dDisp, ppN, ppC, DL.kvsOf, dPopAt, wAugI, dIf, exists_and_left, exists_and_right, exists_eq_left, exists_eq_left', exists_eq', exists_eq, exists_const, exists_false, or_false, false_or, false_and, and_false, and_assoc, Option.some.injEq, Cell.o.injEq, Cell.d.injEq, OC.k.injEq, OC.l.injEq, OC.t.injEq, OC.ins.injEq, DV.int.injEq, DV.bl.injEq, DV.str.injEq,  oNone, oSome, dSl, dSlN, gSl, dRev, dCmpV, dBlV, gIn, dIsN, gIsB, dGetN1, dGetN2, gIsi, dFld, wFld, wRaise, dChain, dCall, bNil, bCons, bBor, DL.cellOf, DL.borIx, DL.putB, DL.allOwn, DL.borsAt, ownIx, parC, okSet, Cell.view, Cell.frz, OC.frz, Cell.own, Cell.bor, List.map_cons, List.map_nil, List.cons_append, List.nil_append, List.length_cons, List.length_nil, List.replicate_succ, List.replicate_zero, List.getElem?_cons_zero, List.getElem?_cons_succ, List.set_cons_zero, List.set_cons_succ, List.getD_cons_zero, List.getD_cons_succ, Option.bind_some, List.nodup_nil, List.nodup_cons, List.not_mem_nil, not_false_eq_true, true_and, and_true, if_true, if_false, ite_true, ite_false, reduceCtorEq, Nat.reduceAdd, Nat.reduceSub, Nat.zero_add, Nat.sub_self, Bool.not_true, Bool.not_false, Bool.false_eq_true, Bool.true_eq, DL.dataOf, conF, Option.map_some, Out.to, dWhy, hide, hideC]
  refine callF rfl rfl (b1 bs) ?_
  show optP (wyW K A _ _) _
  rw [why_n Fa b2]
  show gReprA bad _
  refine gRepr_of b2 ?_
  have kb := ok3 (a := "number") (b := "n") (strOk_lit _) (strOk_lit _) b3
  simp (config := { decide := false }) only [runD, wNil, wBreak, wCont, wSet, wDrop, wRet, wRetN, wIf, wFor, gN, gsNil, gsCons, gT, wAsg, wPar, dCel, dDat, dVar, dC, dOp2, dOp2d, gI2, gI0, dCmp, dBl, dAsB, gB2, gEq, dAnd, dOr, dNot, dAndV, dOrV, dNotV, gAdd, gMul, dNeg, iData, dI_lst, dI_klst, dI_tup, dI_ktup, iD_lst, iD_klst, iD_tup, iD_ktup, ln_lst, ln_klst, ln_tup, ln_ktup, iR1, iR2, iZipD, iEnumD, dYes, dLc, dIx, dIxN, ixD, optP, dVw, dPeek, dOp1, gInts, gBls, gList, gTuple, gLen, gInt, aNil, aCons, dTup, dLst, dDk, dDt, dAppend, dPop, wPutL, wPutD, DV.key, dDisp, ppN, ppC, DL.kvsOf, dPopAt, wAugI, dIf, exists_and_left, exists_and_right, exists_eq_left, exists_eq_left', exists_eq', exists_eq, exists_const, exists_false, or_false, false_or, false_and, and_false, and_assoc, Option.some.injEq, Cell.o.injEq, Cell.d.injEq, OC.k.injEq, OC.l.injEq, OC.t.injEq, OC.ins.injEq, DV.int.injEq, DV.bl.injEq, DV.str.injEq,  oNone, oSome, dSl, dSlN, gSl, dRev, dCmpV, dBlV, gIn, dIsN, gIsB, dGetN1, dGetN2, gIsi, dFld, wFld, wRaise, dChain, dCall, bNil, bCons, bBor, DL.cellOf, DL.borIx, DL.putB, DL.allOwn, DL.borsAt, ownIx, parC, okSet, Cell.view, Cell.frz, OC.frz, Cell.own, Cell.bor, List.map_cons, List.map_nil, List.cons_append, List.nil_append, List.length_cons, List.length_nil, List.replicate_succ, List.replicate_zero, List.getElem?_cons_zero, List.getElem?_cons_succ, List.set_cons_zero, List.set_cons_succ, List.getD_cons_zero, List.getD_cons_succ, Option.bind_some, List.nodup_nil, List.nodup_cons, List.not_mem_nil, not_false_eq_true, true_and, and_true, if_true, if_false, ite_true, ite_false, reduceCtorEq, Nat.reduceAdd, Nat.reduceSub, Nat.zero_add, Nat.sub_self, Bool.not_true, Bool.not_false, Bool.false_eq_true, Bool.true_eq, DL.dataOf, conF, Option.map_some, Out.to]
  refine ⟨by decide, kb, kb, ?_⟩
  rw [eqD_refl kb, if_neg (by decide)]
  have ks := ok3 (a := "number") (b := "p") (strOk_lit _) (strOk_lit _) s3
  subst hk
  refine seq_gen fun k hk => ?_
  simp (config := { decide := false }) only [runD, wNil, wBreak, wCont, wSet, wDrop, wRet, wRetN, wIf, wFor, gN, gsNil, gsCons, gT, wAsg, wPar, dCel, dDat, dVar, dC, dOp2, dOp2d, gI2, gI0, dCmp, dBl, dAsB, gB2, gEq, dAnd, dOr, dNot, dAndV, dOrV, dNotV, gAdd, gMul, dNeg, iData, dI_lst, dI_klst, dI_tup, dI_ktup, iD_lst, iD_klst, iD_tup, iD_ktup, ln_lst, ln_klst, ln_tup, ln_ktup, iR1, iR2, iZipD, iEnumD, dYes, dLc, dIx, dIxN, ixD, optP, dVw, dPeek, dOp1, gInts, gBls, gList, gTuple, gLen, gInt, aNil, aCons, dTup, dLst, dDk, dDt, dAppend, dPop, wPutL, wPutD, DV.key, dDisp, ppN, ppC, DL.kvsOf, dPopAt, wAugI, dIf, exists_and_left, exists_and_right, exists_eq_left, exists_eq_left', exists_eq', exists_eq, exists_const, exists_false, or_false, false_or, false_and, and_false, and_assoc, Option.some.injEq, Cell.o.injEq, Cell.d.injEq, OC.k.injEq, OC.l.injEq, OC.t.injEq, OC.ins.injEq, DV.int.injEq, DV.bl.injEq, DV.str.injEq,  oNone, oSome, dSl, dSlN, gSl, dRev, dCmpV, dBlV, gIn, dIsN, gIsB, dGetN1, dGetN2, gIsi, dFld, wFld, wRaise, dChain, dCall, bNil, bCons, bBor, DL.cellOf, DL.borIx, DL.putB, DL.allOwn, DL.borsAt, ownIx, parC, okSet, Cell.view, Cell.frz, OC.frz, Cell.own, Cell.bor, List.map_cons, List.map_nil, List.cons_append, List.nil_append, List.length_cons, List.length_nil, List.replicate_succ, List.replicate_zero, List.getElem?_cons_zero, List.getElem?_cons_succ, List.set_cons_zero, List.set_cons_succ, List.getD_cons_zero, List.getD_cons_succ, Option.bind_some, List.nodup_nil, List.nodup_cons, List.not_mem_nil, not_false_eq_true, true_and, and_true, if_true, if_false, ite_true, ite_false, reduceCtorEq, Nat.reduceAdd, Nat.reduceSub, Nat.zero_add, Nat.sub_self, Bool.not_true, Bool.not_false, Bool.false_eq_true, Bool.true_eq, DL.dataOf, conF, Option.map_some, Out.to, dWhy, hide, hideC]
  refine callF rfl rfl (B.digits f0) ?_
  show optP (wyW K A _ _) _
  rw [why_n Fa s2]
  show gReprA bs _
  refine gRepr_of s2 ?_
  simp (config := { decide := false }) only [runD, wNil, wBreak, wCont, wSet, wDrop, wRet, wRetN, wIf, wFor, gN, gsNil, gsCons, gT, wAsg, wPar, dCel, dDat, dVar, dC, dOp2, dOp2d, gI2, gI0, dCmp, dBl, dAsB, gB2, gEq, dAnd, dOr, dNot, dAndV, dOrV, dNotV, gAdd, gMul, dNeg, iData, dI_lst, dI_klst, dI_tup, dI_ktup, iD_lst, iD_klst, iD_tup, iD_ktup, ln_lst, ln_klst, ln_tup, ln_ktup, iR1, iR2, iZipD, iEnumD, dYes, dLc, dIx, dIxN, ixD, optP, dVw, dPeek, dOp1, gInts, gBls, gList, gTuple, gLen, gInt, aNil, aCons, dTup, dLst, dDk, dDt, dAppend, dPop, wPutL, wPutD, DV.key, dDisp, ppN, ppC, DL.kvsOf, dPopAt, wAugI, dIf, exists_and_left, exists_and_right, exists_eq_left, exists_eq_left', exists_eq', exists_eq, exists_const, exists_false, or_false, false_or, false_and, and_false, and_assoc, Option.some.injEq, Cell.o.injEq, Cell.d.injEq, OC.k.injEq, OC.l.injEq, OC.t.injEq, OC.ins.injEq, DV.int.injEq, DV.bl.injEq, DV.str.injEq,  oNone, oSome, dSl, dSlN, gSl, dRev, dCmpV, dBlV, gIn, dIsN, gIsB, dGetN1, dGetN2, gIsi, dFld, wFld, wRaise, dChain, dCall, bNil, bCons, bBor, DL.cellOf, DL.borIx, DL.putB, DL.allOwn, DL.borsAt, ownIx, parC, okSet, Cell.view, Cell.frz, OC.frz, Cell.own, Cell.bor, List.map_cons, List.map_nil, List.cons_append, List.nil_append, List.length_cons, List.length_nil, List.replicate_succ, List.replicate_zero, List.getElem?_cons_zero, List.getElem?_cons_succ, List.set_cons_zero, List.set_cons_succ, List.getD_cons_zero, List.getD_cons_succ, Option.bind_some, List.nodup_nil, List.nodup_cons, List.not_mem_nil, not_false_eq_true, true_and, and_true, if_true, if_false, ite_true, ite_false, reduceCtorEq, Nat.reduceAdd, Nat.reduceSub, Nat.zero_add, Nat.sub_self, Bool.not_true, Bool.not_false, Bool.false_eq_true, Bool.true_eq, DL.dataOf, conF, Option.map_some, Out.to]
  refine ⟨by decide, ks, ks, ?_⟩
  rw [eqD_refl ks, if_neg (by decide)]
  subst hk
  refine seq_gen fun k hk => ?_
  simp (config := { decide := false }) only [runD, wNil, wBreak, wCont, wSet, wDrop, wRet, wRetN, wIf, wFor, gN, gsNil, gsCons, gT, wAsg, wPar, dCel, dDat, dVar, dC, dOp2, dOp2d, gI2, gI0, dCmp, dBl, dAsB, gB2, gEq, dAnd, dOr, dNot, dAndV, dOrV, dNotV, gAdd, gMul, dNeg, iData, dI_lst, dI_klst, dI_tup, dI_ktup, iD_lst, iD_klst, iD_tup, iD_ktup, ln_lst, ln_klst, ln_tup, ln_ktup, iR1, iR2, iZipD, iEnumD, dYes, dLc, dIx, dIxN, ixD, optP, dVw, dPeek, dOp1, gInts, gBls, gList, gTuple, gLen, gInt, aNil, aCons, dTup, dLst, dDk, dDt, dAppend, dPop, wPutL, wPutD, DV.key, dDisp, ppN, ppC, DL.kvsOf, dPopAt, wAugI, dIf, exists_and_left, exists_and_right, exists_eq_left, exists_eq_left', exists_eq', exists_eq, exists_const, exists_false, or_false, false_or, false_and, and_false, and_assoc, Option.some.injEq, Cell.o.injEq, Cell.d.injEq, OC.k.injEq, OC.l.injEq, OC.t.injEq, OC.ins.injEq, DV.int.injEq, DV.bl.injEq, DV.str.injEq,  oNone, oSome, dSl, dSlN, gSl, dRev, dCmpV, dBlV, gIn, dIsN, gIsB, dGetN1, dGetN2, gIsi, dFld, wFld, wRaise, dChain, dCall, bNil, bCons, bBor, DL.cellOf, DL.borIx, DL.putB, DL.allOwn, DL.borsAt, ownIx, parC, okSet, Cell.view, Cell.frz, OC.frz, Cell.own, Cell.bor, List.map_cons, List.map_nil, List.cons_append, List.nil_append, List.length_cons, List.length_nil, List.replicate_succ, List.replicate_zero, List.getElem?_cons_zero, List.getElem?_cons_succ, List.set_cons_zero, List.set_cons_succ, List.getD_cons_zero, List.getD_cons_succ, Option.bind_some, List.nodup_nil, List.nodup_cons, List.not_mem_nil, not_false_eq_true, true_and, and_true, if_true, if_false, ite_true, ite_false, reduceCtorEq, Nat.reduceAdd, Nat.reduceSub, Nat.zero_add, Nat.sub_self, Bool.not_true, Bool.not_false, Bool.false_eq_true, Bool.true_eq, DL.dataOf, conF, Option.map_some, Out.to, dWhy, hide, hideC]
  refine callF rfl rfl B.number ?_
  show optP (wyW K A _ _) _
  rw [why_n Fa s2]
  show gReprA bs _
  refine gRepr_of s2 ?_
  simp (config := { decide := false }) only [runD, wNil, wBreak, wCont, wSet, wDrop, wRet, wRetN, wIf, wFor, gN, gsNil, gsCons, gT, wAsg, wPar, dCel, dDat, dVar, dC, dOp2, dOp2d, gI2, gI0, dCmp, dBl, dAsB, gB2, gEq, dAnd, dOr, dNot, dAndV, dOrV, dNotV, gAdd, gMul, dNeg, iData, dI_lst, dI_klst, dI_tup, dI_ktup, iD_lst, iD_klst, iD_tup, iD_ktup, ln_lst, ln_klst, ln_tup, ln_ktup, iR1, iR2, iZipD, iEnumD, dYes, dLc, dIx, dIxN, ixD, optP, dVw, dPeek, dOp1, gInts, gBls, gList, gTuple, gLen, gInt, aNil, aCons, dTup, dLst, dDk, dDt, dAppend, dPop, wPutL, wPutD, DV.key, dDisp, ppN, ppC, DL.kvsOf, dPopAt, wAugI, dIf, exists_and_left, exists_and_right, exists_eq_left, exists_eq_left', exists_eq', exists_eq, exists_const, exists_false, or_false, false_or, false_and, and_false, and_assoc, Option.some.injEq, Cell.o.injEq, Cell.d.injEq, OC.k.injEq, OC.l.injEq, OC.t.injEq, OC.ins.injEq, DV.int.injEq, DV.bl.injEq, DV.str.injEq,  oNone, oSome, dSl, dSlN, gSl, dRev, dCmpV, dBlV, gIn, dIsN, gIsB, dGetN1, dGetN2, gIsi, dFld, wFld, wRaise, dChain, dCall, bNil, bCons, bBor, DL.cellOf, DL.borIx, DL.putB, DL.allOwn, DL.borsAt, ownIx, parC, okSet, Cell.view, Cell.frz, OC.frz, Cell.own, Cell.bor, List.map_cons, List.map_nil, List.cons_append, List.nil_append, List.length_cons, List.length_nil, List.replicate_succ, List.replicate_zero, List.getElem?_cons_zero, List.getElem?_cons_succ, List.set_cons_zero, List.set_cons_succ, List.getD_cons_zero, List.getD_cons_succ, Option.bind_some, List.nodup_nil, List.nodup_cons, List.not_mem_nil, not_false_eq_true, true_and, and_true, if_true, if_false, ite_true, ite_false, reduceCtorEq, Nat.reduceAdd, Nat.reduceSub, Nat.zero_add, Nat.sub_self, Bool.not_true, Bool.not_false, Bool.false_eq_true, Bool.true_eq, DL.dataOf, conF, Option.map_some, Out.to]
  refine ⟨by decide, ks, ks, ?_⟩
  rw [eqD_refl ks, if_neg (by decide)]
  subst hk
  refine seq_gen fun k hk => ?_
  simp (config := { decide := false }) only [runD, wNil, wBreak, wCont, wSet, wDrop, wRet, wRetN, wIf, wFor, gN, gsNil, gsCons, gT, wAsg, wPar, dCel, dDat, dVar, dC, dOp2, dOp2d, gI2, gI0, dCmp, dBl, dAsB, gB2, gEq, dAnd, dOr, dNot, dAndV, dOrV, dNotV, gAdd, gMul, dNeg, iData, dI_lst, dI_klst, dI_tup, dI_ktup, iD_lst, iD_klst, iD_tup, iD_ktup, ln_lst, ln_klst, ln_tup, ln_ktup, iR1, iR2, iZipD, iEnumD, dYes, dLc, dIx, dIxN, ixD, optP, dVw, dPeek, dOp1, gInts, gBls, gList, gTuple, gLen, gInt, aNil, aCons, dTup, dLst, dDk, dDt, dAppend, dPop, wPutL, wPutD, DV.key, dDisp, ppN, ppC, DL.kvsOf, dPopAt, wAugI, dIf, exists_and_left, exists_and_right, exists_eq_left, exists_eq_left', exists_eq', exists_eq, exists_const, exists_false, or_false, false_or, false_and, and_false, and_assoc, Option.some.injEq, Cell.o.injEq, Cell.d.injEq, OC.k.injEq, OC.l.injEq, OC.t.injEq, OC.ins.injEq, DV.int.injEq, DV.bl.injEq, DV.str.injEq,  oNone, oSome, dSl, dSlN, gSl, dRev, dCmpV, dBlV, gIn, dIsN, gIsB, dGetN1, dGetN2, gIsi, dFld, wFld, wRaise, dChain, dCall, bNil, bCons, bBor, DL.cellOf, DL.borIx, DL.putB, DL.allOwn, DL.borsAt, ownIx, parC, okSet, Cell.view, Cell.frz, OC.frz, Cell.own, Cell.bor, List.map_cons, List.map_nil, List.cons_append, List.nil_append, List.length_cons, List.length_nil, List.replicate_succ, List.replicate_zero, List.getElem?_cons_zero, List.getElem?_cons_succ, List.set_cons_zero, List.set_cons_succ, List.getD_cons_zero, List.getD_cons_succ, Option.bind_some, List.nodup_nil, List.nodup_cons, List.not_mem_nil, not_false_eq_true, true_and, and_true, if_true, if_false, ite_true, ite_false, reduceCtorEq, Nat.reduceAdd, Nat.reduceSub, Nat.zero_add, Nat.sub_self, Bool.not_true, Bool.not_false, Bool.false_eq_true, Bool.true_eq, DL.dataOf, conF, Option.map_some, Out.to, con_law_pick]
  refine ⟨by decide, by decide, by decide, by decide, by decide, by decide, by decide, by decide, by decide, by decide, conPick_mk rfl ⟨List.cons_ne_nil _ _, (by decide : 11 ≤ 1000000)⟩ fun row hrow => ?_⟩
  obtain ⟨r1, sr, r2, r3⟩ := row_ok (A := A) f0 f1 hpp ho hrow
  simp (config := { decide := false }) only [runD, wNil, wBreak, wCont, wSet, wDrop, wRet, wRetN, wIf, wFor, gN, gsNil, gsCons, gT, wAsg, wPar, dCel, dDat, dVar, dC, dOp2, dOp2d, gI2, gI0, dCmp, dBl, dAsB, gB2, gEq, dAnd, dOr, dNot, dAndV, dOrV, dNotV, gAdd, gMul, dNeg, iData, dI_lst, dI_klst, dI_tup, dI_ktup, iD_lst, iD_klst, iD_tup, iD_ktup, ln_lst, ln_klst, ln_tup, ln_ktup, iR1, iR2, iZipD, iEnumD, dYes, dLc, dIx, dIxN, ixD, optP, dVw, dPeek, dOp1, gInts, gBls, gList, gTuple, gLen, gInt, aNil, aCons, dTup, dLst, dDk, dDt, dAppend, dPop, wPutL, wPutD, DV.key, dDisp, ppN, ppC, DL.kvsOf, dPopAt, wAugI, dIf, exists_and_left, exists_and_right, exists_eq_left, exists_eq_left', exists_eq', exists_eq, exists_const, exists_false, or_false, false_or, false_and, and_false, and_assoc, Option.some.injEq, Cell.o.injEq, Cell.d.injEq, OC.k.injEq, OC.l.injEq, OC.t.injEq, OC.ins.injEq, DV.int.injEq, DV.bl.injEq, DV.str.injEq,  oNone, oSome, dSl, dSlN, gSl, dRev, dCmpV, dBlV, gIn, dIsN, gIsB, dGetN1, dGetN2, gIsi, dFld, wFld, wRaise, dChain, dCall, bNil, bCons, bBor, DL.cellOf, DL.borIx, DL.putB, DL.allOwn, DL.borsAt, ownIx, parC, okSet, Cell.view, Cell.frz, OC.frz, Cell.own, Cell.bor, List.map_cons, List.map_nil, List.cons_append, List.nil_append, List.length_cons, List.length_nil, List.replicate_succ, List.replicate_zero, List.getElem?_cons_zero, List.getElem?_cons_succ, List.set_cons_zero, List.set_cons_succ, List.getD_cons_zero, List.getD_cons_succ, Option.bind_some, List.nodup_nil, List.nodup_cons, List.not_mem_nil, not_false_eq_true, true_and, and_true, if_true, if_false, ite_true, ite_false, reduceCtorEq, Nat.reduceAdd, Nat.reduceSub, Nat.zero_add, Nat.sub_self, Bool.not_true, Bool.not_false, Bool.false_eq_true, Bool.true_eq, DL.dataOf, conF, Option.map_some, Out.to]
  subst hk
  refine seq_gen fun k hk => ?_
  simp (config := { decide := false }) only [runD, wNil, wBreak, wCont, wSet, wDrop, wRet, wRetN, wIf, wFor, gN, gsNil, gsCons, gT, wAsg, wPar, dCel, dDat, dVar, dC, dOp2, dOp2d, gI2, gI0, dCmp, dBl, dAsB, gB2, gEq, dAnd, dOr, dNot, dAndV, dOrV, dNotV, gAdd, gMul, dNeg, iData, dI_lst, dI_klst, dI_tup, dI_ktup, iD_lst, iD_klst, iD_tup, iD_ktup, ln_lst, ln_klst, ln_tup, ln_ktup, iR1, iR2, iZipD, iEnumD, dYes, dLc, dIx, dIxN, ixD, optP, dVw, dPeek, dOp1, gInts, gBls, gList, gTuple, gLen, gInt, aNil, aCons, dTup, dLst, dDk, dDt, dAppend, dPop, wPutL, wPutD, DV.key, dDisp, ppN, ppC, DL.kvsOf, dPopAt, wAugI, dIf, exists_and_left, exists_and_right, exists_eq_left, exists_eq_left', exists_eq', exists_eq, exists_const, exists_false, or_false, false_or, false_and, and_false, and_assoc, Option.some.injEq, Cell.o.injEq, Cell.d.injEq, OC.k.injEq, OC.l.injEq, OC.t.injEq, OC.ins.injEq, DV.int.injEq, DV.bl.injEq, DV.str.injEq,  oNone, oSome, dSl, dSlN, gSl, dRev, dCmpV, dBlV, gIn, dIsN, gIsB, dGetN1, dGetN2, gIsi, dFld, wFld, wRaise, dChain, dCall, bNil, bCons, bBor, DL.cellOf, DL.borIx, DL.putB, DL.allOwn, DL.borsAt, ownIx, parC, okSet, Cell.view, Cell.frz, OC.frz, Cell.own, Cell.bor, List.map_cons, List.map_nil, List.cons_append, List.nil_append, List.length_cons, List.length_nil, List.replicate_succ, List.replicate_zero, List.getElem?_cons_zero, List.getElem?_cons_succ, List.set_cons_zero, List.set_cons_succ, List.getD_cons_zero, List.getD_cons_succ, Option.bind_some, List.nodup_nil, List.nodup_cons, List.not_mem_nil, not_false_eq_true, true_and, and_true, if_true, if_false, ite_true, ite_false, reduceCtorEq, Nat.reduceAdd, Nat.reduceSub, Nat.zero_add, Nat.sub_self, Bool.not_true, Bool.not_false, Bool.false_eq_true, Bool.true_eq, DL.dataOf, conF, Option.map_some, Out.to, dWhy, hide, hideC]
  refine callF rfl rfl r1 ?_
  show optP (wyW K A _ _) _
  rw [why_r Fa r2]
  show gReprA row _
  refine gRepr_of r2 ?_
  have kr := ok2 (a := "row") (strOk_lit _) r3
  simp (config := { decide := false }) only [runD, wNil, wBreak, wCont, wSet, wDrop, wRet, wRetN, wIf, wFor, gN, gsNil, gsCons, gT, wAsg, wPar, dCel, dDat, dVar, dC, dOp2, dOp2d, gI2, gI0, dCmp, dBl, dAsB, gB2, gEq, dAnd, dOr, dNot, dAndV, dOrV, dNotV, gAdd, gMul, dNeg, iData, dI_lst, dI_klst, dI_tup, dI_ktup, iD_lst, iD_klst, iD_tup, iD_ktup, ln_lst, ln_klst, ln_tup, ln_ktup, iR1, iR2, iZipD, iEnumD, dYes, dLc, dIx, dIxN, ixD, optP, dVw, dPeek, dOp1, gInts, gBls, gList, gTuple, gLen, gInt, aNil, aCons, dTup, dLst, dDk, dDt, dAppend, dPop, wPutL, wPutD, DV.key, dDisp, ppN, ppC, DL.kvsOf, dPopAt, wAugI, dIf, exists_and_left, exists_and_right, exists_eq_left, exists_eq_left', exists_eq', exists_eq, exists_const, exists_false, or_false, false_or, false_and, and_false, and_assoc, Option.some.injEq, Cell.o.injEq, Cell.d.injEq, OC.k.injEq, OC.l.injEq, OC.t.injEq, OC.ins.injEq, DV.int.injEq, DV.bl.injEq, DV.str.injEq,  oNone, oSome, dSl, dSlN, gSl, dRev, dCmpV, dBlV, gIn, dIsN, gIsB, dGetN1, dGetN2, gIsi, dFld, wFld, wRaise, dChain, dCall, bNil, bCons, bBor, DL.cellOf, DL.borIx, DL.putB, DL.allOwn, DL.borsAt, ownIx, parC, okSet, Cell.view, Cell.frz, OC.frz, Cell.own, Cell.bor, List.map_cons, List.map_nil, List.cons_append, List.nil_append, List.length_cons, List.length_nil, List.replicate_succ, List.replicate_zero, List.getElem?_cons_zero, List.getElem?_cons_succ, List.set_cons_zero, List.set_cons_succ, List.getD_cons_zero, List.getD_cons_succ, Option.bind_some, List.nodup_nil, List.nodup_cons, List.not_mem_nil, not_false_eq_true, true_and, and_true, if_true, if_false, ite_true, ite_false, reduceCtorEq, Nat.reduceAdd, Nat.reduceSub, Nat.zero_add, Nat.sub_self, Bool.not_true, Bool.not_false, Bool.false_eq_true, Bool.true_eq, DL.dataOf, conF, Option.map_some, Out.to]
  refine ⟨by decide, kr, kr, ?_⟩
  rw [eqD_refl kr]
  exact hp
end
end K01
set_option maxRecDepth 100000
set_option maxHeartbeats 4000000
namespace K01
open PySem PySem.Spec PyProof.Rows L2 DL LamX
/-! ### the head -/
def fn_ : List He.DefD := [⟨("BadNumber", some "__init__"), "__init__", "BadNumber.__init__", defArgs s_BadNumber_init, defBody s_BadNumber_init, defScope s_BadNumber_init, [], []⟩, ⟨("BadRow", some "__init__"), "__init__", "BadRow.__init__", defArgs s_BadRow_init, defBody s_BadRow_init, defScope s_BadRow_init, [], []⟩, ⟨("is_number", none), "is_number", "is_number", defArgs s_is_number, defBody s_is_number, defScope s_is_number, [], []⟩, ⟨("need_prime", none), "need_prime", "need_prime", defArgs s_need_prime, defBody s_need_prime, defScope s_need_prime, [], []⟩, ⟨("prime_power", none), "prime_power", "prime_power", defArgs s_prime_power, defBody s_prime_power, defScope s_prime_power, [], []⟩, ⟨("digits", none), "digits", "digits", defArgs s_digits, defBody s_digits, defScope s_digits, [], []⟩, ⟨("number_of", none), "number_of", "number_of", defArgs s_number_of, defBody s_number_of, defScope s_number_of, [], []⟩, ⟨("_law_pen", none), "_law_pen", "_law_pen", defArgs s_law_pen, defBody s_law_pen, defScope s_law_pen, [], []⟩, ⟨("_law_draw", none), "_law_draw", "_law_draw", defArgs s_law_draw, defBody s_law_draw, defScope s_law_draw, [], []⟩, ⟨("_law_pick", none), "_law_pick", "_law_pick", defArgs s_law_pick, defBody s_law_pick, defScope s_law_pick, [], []⟩, ⟨("_law_is_whole", none), "_law_is_whole", "_law_is_whole", defArgs s_law_is_whole, defBody s_law_is_whole, defScope s_law_is_whole, [], []⟩, ⟨("_law_raised", none), "_law_raised", "_law_raised", defArgs s_law_raised, defBody s_law_raised, defScope s_law_raised, [], []⟩, ⟨("_law_digits", none), "_law_digits", "_law_digits", defArgs s_law_digits, defBody s_law_digits, defScope s_law_digits, [], []⟩, ⟨("_law_large", none), "_law_large", "_law_large", defArgs s_law_large, defBody s_law_large, defScope s_law_large, [], []⟩, ⟨("_law_why", none), "_law_why", "_law_why", defArgs s_law_why, defBody s_law_why, defScope s_law_why, [], []⟩, ⟨("law", none), "law", "law", defArgs s_law, defBody s_law, defScope s_law, [], []⟩]
def fa_ : List He.Fa := [.glo "CountError", .glo "BadNumber", .glo "BadRow", .glo "PRIMES", .glo "POWERS", .glo "is_number", .glo "prime_power", .glo "need_prime", .glo "digits", .glo "number_of", .glo "_law_pen", .glo "_law_draw", .glo "_law_pick", .glo "_law_is_whole", .glo "_law_large", .glo "_law_digits", .glo "_law_raised", .glo "_law_why", .glo "law", .free "all", .free "bool", .free "int", .free "isinstance", .free "len", .free "list", .free "range", .free "repr", .free "tuple", .exm "BadNumber" "BadNumber" true, .exm "BadRow" "BadNumber" false, .exm "BadRow" "BadRow" true, .noat "BadNumber" "what", .noat "BadNumber" "number", .noat "BadRow" "row"]
def ex_ (K : PySem.W.Frag) : Bool := errB K (He.ga K "BadNumber") (He.ma K (He.ga K "BadNumber") "__init__") ["what", "number"] && (errB K (He.ga K "BadRow") (He.ma K (He.ga K "BadRow") "__init__") ["row"] && (baseB K (He.ga K "CountError") && (xfB K (He.ga K "BadNumber") && (xfB K (He.ga K "BadRow") && (datB K 9 (.ref (He.ga K "PRIMES")) d_PRIMES && (wdB K (He.ga K "POWERS") powL))))))
def tf_ : List He.Defn := [("law", none)]
abbrev R_ : PySem.W.OpenRow := PySem.W.OpenLaw.row PySem.Challenge.rw_restcounts_k01_moduli_and_digits
abbrev hk_ : PySem.W.Hook := hookY 6 fa_ fn_ tf_ ex_
def ob_ (s : PySem.W.SharedT) : He.AlD × Bool := obsY 6 fa_ fn_ tf_ ex_ (HandSHeadRun.getT s)
theorem ob_eq (s : PySem.W.SharedT) : ob_ s = hk_.obs s.abs := obsY_eq s
theorem run_ (w : World) : HandSHeadRun.RunEq R_ (PySem.W.view R_.prog [21]) hk_ ob_ 3000 ["CountError", "BadNumber", "BadRow", "PRIMES", "POWERS", "is_number", "prime_power", "need_prime", "digits", "number_of", "_law_pen", "_law_draw", "_law_pick", "_law_is_whole", "_law_large", "_law_digits", "_law_raised", "_law_why"] w := by
  refine PySem.W.byRow2 "special-get-raises" (P := fun w => HandSHeadRun.RunEq R_ (PySem.W.view R_.prog [21]) hk_ ob_ 3000 ["CountError", "BadNumber", "BadRow", "PRIMES", "POWERS", "is_number", "prime_power", "need_prime", "digits", "number_of", "_law_pen", "_law_draw", "_law_pick", "_law_is_whole", "_law_large", "_law_digits", "_law_raised", "_law_why"] w) (fun w => ?_) (fun w => ?_) w
  · intro os
    kernel_rfl
  · intro os
    kernel_rfl
def ga_ (K : PySem.W.Frag) : Addr := He.ga K "law"
theorem facts_ {P : Program} {w : World} {K : PySem.W.Frag} {h : Heap} {mg : Str → Option Value} (X : K.In h) (G : h.Ns mainGlobals mg) (c : SaysY fa_ fn_ tf_ ex_ h K) :
    ∃ A : Adr, Txt K mg A ∧ Fac K A ∧ A.f_law = ga_ K := by
  obtain ⟨d0, D0⟩ := c.d.def_ 0 rfl
  obtain ⟨d1, D1⟩ := c.d.def_ 1 rfl
  obtain ⟨d2, D2⟩ := c.d.def_ 2 rfl
  obtain ⟨d3, D3⟩ := c.d.def_ 3 rfl
  obtain ⟨d4, D4⟩ := c.d.def_ 4 rfl
  obtain ⟨d5, D5⟩ := c.d.def_ 5 rfl
  obtain ⟨d6, D6⟩ := c.d.def_ 6 rfl
  obtain ⟨d7, D7⟩ := c.d.def_ 7 rfl
  obtain ⟨d8, D8⟩ := c.d.def_ 8 rfl
  obtain ⟨d9, D9⟩ := c.d.def_ 9 rfl
  obtain ⟨d10, D10⟩ := c.d.def_ 10 rfl
  obtain ⟨d11, D11⟩ := c.d.def_ 11 rfl
  obtain ⟨d12, D12⟩ := c.d.def_ 12 rfl
  obtain ⟨d13, D13⟩ := c.d.def_ 13 rfl
  obtain ⟨d14, D14⟩ := c.d.def_ 14 rfl
  obtain ⟨d15, D15⟩ := c.d.def_ 15 rfl
  have ex := c.more
  obtain ⟨x0, ex⟩ := and_t ex
  obtain ⟨x1, ex⟩ := and_t ex
  obtain ⟨x2, ex⟩ := and_t ex
  obtain ⟨x3, ex⟩ := and_t ex
  obtain ⟨x4, ex⟩ := and_t ex
  obtain ⟨x5, ex⟩ := and_t ex
  have x6 := ex
  exact ⟨{ rel := fun _ _ => none, c_CountError := He.ga K "CountError", c_BadNumber := He.ga K "BadNumber", c_BadRow := He.ga K "BadRow", a_PRIMES := He.ga K "PRIMES", a_POWERS := He.ga K "POWERS", k_POWERS := wdK K (He.ga K "POWERS") powL, f_BadNumber_init := He.ma K (He.ga K "BadNumber") "__init__", fd_BadNumber_init := d0, f_BadRow_init := He.ma K (He.ga K "BadRow") "__init__", fd_BadRow_init := d1, f_is_number := He.ga K "is_number", fd_is_number := d2, f_need_prime := He.ga K "need_prime", fd_need_prime := d3, f_prime_power := He.ga K "prime_power", fd_prime_power := d4, f_digits := He.ga K "digits", fd_digits := d5, f_number_of := He.ga K "number_of", fd_number_of := d6, f_law_pen := He.ga K "_law_pen", fd_law_pen := d7, f_law_draw := He.ga K "_law_draw", fd_law_draw := d8, f_law_pick := He.ga K "_law_pick", fd_law_pick := d9, f_law_is_whole := He.ga K "_law_is_whole", fd_law_is_whole := d10, f_law_raised := He.ga K "_law_raised", fd_law_raised := d11, f_law_digits := He.ga K "_law_digits", fd_law_digits := d12, f_law_large := He.ga K "_law_large", fd_law_large := d13, f_law_why := He.ga K "_law_why", fd_law_why := d14, f_law := He.ga K "law", fd_law := d15 },
    { rel := (fun x C b e => by cases e),
      ini := ⟨He.glo_ok X G (c.d.fact 0 (f := .glo "CountError") rfl), baseB_ok x2⟩,
      mg_BadNumber := He.glo_ok X G (c.d.fact 1 (f := .glo "BadNumber") rfl),
      mg_BadRow := He.glo_ok X G (c.d.fact 2 (f := .glo "BadRow") rfl),
      mg_POWERS := He.glo_ok X G (c.d.fact 4 (f := .glo "POWERS") rfl),
      mg_PRIMES := He.glo_ok X G (c.d.fact 3 (f := .glo "PRIMES") rfl),
      wd_POWERS := (wdB_ok x6).1,
      h_PRIMES := fun F => (datB_ok (F := F) 9 _ _ x5).2,
      no_all := He.free_ok X G (c.d.fact 19 (f := .free "all") rfl),
      no_bool := He.free_ok X G (c.d.fact 20 (f := .free "bool") rfl),
      no_int := He.free_ok X G (c.d.fact 21 (f := .free "int") rfl),
      no_isinstance := He.free_ok X G (c.d.fact 22 (f := .free "isinstance") rfl),
      no_len := He.free_ok X G (c.d.fact 23 (f := .free "len") rfl),
      no_list := He.free_ok X G (c.d.fact 24 (f := .free "list") rfl),
      no_range := He.free_ok X G (c.d.fact 25 (f := .free "range") rfl),
      no_repr := He.free_ok X G (c.d.fact 26 (f := .free "repr") rfl),
      no_tuple := He.free_ok X G (c.d.fact 27 (f := .free "tuple") rfl),
      F_BadNumber_init := fun_of (st := s_BadNumber_init) D0,
      F_BadRow_init := fun_of (st := s_BadRow_init) D1,
      mg_is_number := He.glo_ok X G (c.d.fact 5 (f := .glo "is_number") rfl),
      F_is_number := fun_of (st := s_is_number) D2,
      mg_need_prime := He.glo_ok X G (c.d.fact 7 (f := .glo "need_prime") rfl),
      F_need_prime := fun_of (st := s_need_prime) D3,
      mg_prime_power := He.glo_ok X G (c.d.fact 6 (f := .glo "prime_power") rfl),
      F_prime_power := fun_of (st := s_prime_power) D4,
      mg_digits := He.glo_ok X G (c.d.fact 8 (f := .glo "digits") rfl),
      F_digits := fun_of (st := s_digits) D5,
      mg_number_of := He.glo_ok X G (c.d.fact 9 (f := .glo "number_of") rfl),
      F_number_of := fun_of (st := s_number_of) D6,
      mg_law_pen := He.glo_ok X G (c.d.fact 10 (f := .glo "_law_pen") rfl),
      F_law_pen := fun_of (st := s_law_pen) D7,
      mg_law_draw := He.glo_ok X G (c.d.fact 11 (f := .glo "_law_draw") rfl),
      F_law_draw := fun_of (st := s_law_draw) D8,
      mg_law_pick := He.glo_ok X G (c.d.fact 12 (f := .glo "_law_pick") rfl),
      F_law_pick := fun_of (st := s_law_pick) D9,
      mg_law_is_whole := He.glo_ok X G (c.d.fact 13 (f := .glo "_law_is_whole") rfl),
      F_law_is_whole := fun_of (st := s_law_is_whole) D10,
      mg_law_raised := He.glo_ok X G (c.d.fact 16 (f := .glo "_law_raised") rfl),
      F_law_raised := fun_of (st := s_law_raised) D11,
      mg_law_digits := He.glo_ok X G (c.d.fact 15 (f := .glo "_law_digits") rfl),
      F_law_digits := fun_of (st := s_law_digits) D12,
      mg_law_large := He.glo_ok X G (c.d.fact 14 (f := .glo "_law_large") rfl),
      F_law_large := fun_of (st := s_law_large) D13,
      mg_law_why := He.glo_ok X G (c.d.fact 17 (f := .glo "_law_why") rfl),
      F_law_why := fun_of (st := s_law_why) D14,
      mg_law := He.glo_ok X G (c.d.fact 18 (f := .glo "law") rfl),
      F_law := fun_of (st := s_law) D15,
      xf_BadNumber := xfB_ok x3,
      xf_BadRow := xfB_ok x4,
      nf_what := He.noat_ok (c.d.fact 31 (f := .noat "BadNumber" "what") rfl),
      nf_number := He.noat_ok (c.d.fact 32 (f := .noat "BadNumber" "number") rfl),
      nf_row := He.noat_ok (c.d.fact 33 (f := .noat "BadRow" "row") rfl),
      er_BadNumber := errB_ok x0,
      er_BadRow := errB_ok x1 },
    ⟨(wdB_ok x6).2, He.exm_ok (c.d.fact 28 (f := .exm "BadNumber" "BadNumber" true) rfl), He.exm_ok (c.d.fact 29 (f := .exm "BadRow" "BadNumber" false) rfl), He.exm_ok (c.d.fact 30 (f := .exm "BadRow" "BadRow" true) rfl)⟩, rfl⟩
theorem at_ {w : World} {K : PySem.W.Frag} {h : Heap} {mg : Str → Option Value} {f : Addr} (X : K.In h) (G : h.Ns mainGlobals mg) (hfa : mg ("law" : Str) = some (.ref f)) (c : SaysY fa_ fn_ tf_ ex_ h K) :
    LawAtA PySem.Challenge.rw_restcounts_k01_moduli_and_digits w K (L2.CX PySem.Challenge.pw_restcounts_k01_moduli_and_digits w) 7 63 "_law_script" mg f h := by
  obtain ⟨A, T, Fa, eA⟩ := facts_ (P := PySem.Challenge.pw_restcounts_k01_moduli_and_digits) (w := w) X G c
  have e := hfa.symm.trans T.mg_law
  cases e
  obtain ⟨oc, od, kV, doc, pm, an, cdv, ct, osl, efd, lk, hcd⟩ := T.F_law.ex
  obtain ⟨ca, rfl⟩ := He.codeIn_ref hcd
  have b := b_law T
  rw [efd] at lk b
  have m0 : (("law" : Str), (none : Option Str)) ∈ tf_ := List.mem_cons_self
  have eg : A.f_law = He.fAd K (("law" : Str), (none : Option Str)) := eA
  have ec : He.codeOf K (("law" : Str), (none : Option Str)) = ca := He.codeOf_eq (by rw [← eg]; exact lk) rfl
  have hd := c.hd _ m0
  have ho := c.out _ m0
  have he := c.empty _ m0
  have e1 : (He.cT K (("law" : Str), (none : Option Str))).1 = ca := ec
  generalize hP : (He.cT K (("law" : Str), (none : Option Str))).2 = Pt at hd ho he
  rw [e1] at hd
  refine ⟨_, [(ca, Pt)], SpD K [(Pt, qL)] 281475161260040 conLaw, ⟨fun p hp => ?_, fun p hp => ?_, fun p hp => ?_⟩, fun s v => .of_eq rfl, fun H a ns hl _ hT hS => ?_, fun base _ _ hTB => ok_law T lk hcd (hTB _ List.mem_cons_self) (dat_law Fa)⟩
  · rw [List.mem_singleton.mp hp]
    exact he
  · rw [List.mem_singleton.mp hp]
    exact ho
  · rw [List.mem_singleton.mp hp]
    exact PySem.W.codeHd_of_K X hd
  · refine law_sp (by decide) H a ns hl (fun p hp => ?_) hS
    rw [List.mem_singleton.mp hp]
    exact hT (ca, Pt) List.mem_cons_self
end K01
open PySem PySem.W PySem.Calls PyProof.Rows
set_option maxRecDepth 100000 in
set_option maxHeartbeats 0 in
theorem PySem.Challenge.cw_restcounts_k01_moduli_and_digits_holds : PySem.Challenge.rw_restcounts_k01_moduli_and_digits.Holds := by
  w_on; o_law
  refine HandSHeadRun.head_any (r := OpenLaw.row PySem.Challenge.rw_restcounts_k01_moduli_and_digits) (q := view (OpenLaw.row PySem.Challenge.rw_restcounts_k01_moduli_and_digits).prog [21]) (H := K01.hk_) (ob := K01.ob_) (M := 3000) (loose := ["CountError", "BadNumber", "BadRow", "PRIMES", "POWERS", "is_number", "prime_power", "need_prime", "digits", "number_of", "_law_pen", "_law_draw", "_law_pick", "_law_is_whole", "_law_large", "_law_digits", "_law_raised", "_law_why"]) (d := HandSHeadRun.topDef (OpenLaw.row PySem.Challenge.rw_restcounts_k01_moduli_and_digits).prog 21) (kwd := []) K01.ob_eq
    (by kernel_rfl) (fun s => by kernel_rfl) K01.run_ (by kernel_rfl) (by kernel_rfl) (by kernel_rfl) (by rfl) (by first | assumption | decide +kernel) (by decide +kernel) ⟨rfl, rfl, rfl, rfl, rfl, by decide +kernel⟩ ?hw ?hc
  case hw => w_witness2
  case hc =>
    refine DL.walk_ofX (l := PySem.Challenge.rw_restcounts_k01_moduli_and_digits) (n := 63) (k := 7) (x := "_law_script") (CX := fun w => L2.CX PySem.Challenge.pw_restcounts_k01_moduli_and_digits w) rfl (by decide) (by kernel_rfl) ⟨rfl, by decide, by decide⟩ ?F (fun _ _ _ _ _ z => DL.cx_false z)
    intro w mg fa h Y G hmg0
    obtain ⟨K, KX, c⟩ := Y
    have hmg : mg ("law" : PySem.Str) = some (.ref fa) := by
      have e : (HandSHeadRun.topDef (OpenLaw.row PySem.Challenge.rw_restcounts_k01_moduli_and_digits).prog 21).name = ("law" : PySem.Str) := by kernel_rfl
      rw [← e]
      exact hmg0
    exact ⟨K, KX, K01.at_ KX G hmg c⟩
#print axioms PySem.Challenge.cw_restcounts_k01_moduli_and_digits_holds
