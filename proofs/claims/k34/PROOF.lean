import PyProof.Rows.All
import Wide.All
import OpenK.AllK
import Wide.FinOn
import HandS.ForMost
import HandS.IsInst
import HandS.Style
import HandS.Wide
import HandS.Flow
import HandS.Deep
import HandS.TupAny
import HandS.Exc
import HandS.Rev
import PyProof.StrOps
import HandS.Defaults
import HandS.Text
import HandS.StrMore
import HandS.Codes
import HandS.NoneIn
import HandS.RevTup
import HandS.Dict
import HandS.ReplaceLit
import HandS.ExcInit
import HandS.ExcField
import HandS.WordsExc
import KE.KExcIs
import HandS.More
import KE.DataMinMax
import HandS.SortKw
import KE.KEqDict
import HandS.TupLen
import HandS.WordsDict
import KE.KDictZip
import HandS.Walk
import HandS.TupSets
import HandS.SetTxt0
import HandS.Strs
import PyProof.Rows.SortShellAny
import HandS.Conv
import KE.KRevSl
import PyProof.SliceStr2
import PySem.Challenge.RW_oneofall_k34_rules_that_are_made
set_option Elab.async false
set_option maxRecDepth 100000
set_option maxHeartbeats 4000000
set_option linter.all false
/-! Z0: data over ground heaps; the state of slots; what a reading tells of data -/
namespace Z
open PySem PySem.Spec PyProof.Rows L2

abbrev D := PyData
def kD : Key → D
  | .inl i => .int i
  | .inr x => .str x

/-! ### ground heaps: what is owned is hidden -/
def hid (H : Hp) (O : List Addr) : Hp := fun a => if a ∈ O then none else H a
theorem hid_in {H : Hp} {O : List Addr} {a : Addr} (h : a ∈ O) : hid H O a = none := by
  unfold hid; rw [if_pos h]
theorem hid_out {H : Hp} {O : List Addr} {a : Addr} (h : a ∉ O) : hid H O a = H a := by
  unfold hid; rw [if_neg h]
theorem of_hid {H : Hp} {O : List Addr} {a : Addr} {o : HO} (h : hid H O a = some o) : a ∉ O ∧ H a = some o := by
  by_cases q : a ∈ O
  · rw [hid_in q] at h; cases h
  · rw [hid_out q] at h; exact ⟨q, h⟩
theorem hid_grow {H H' : Hp} {O : List Addr} (e : Same H H') : Same (hid H O) (hid H' O) := fun a o h => by
  obtain ⟨q, h⟩ := of_hid h
  rw [hid_out q]; exact e a o h
theorem hid_less {H : Hp} {O O' : List Addr} (e : ∀ a ∈ O', a ∈ O) : Same (hid H O) (hid H O') := fun a o h => by
  obtain ⟨q, h⟩ := of_hid h
  rw [hid_out fun z => q (e a z)]; exact h
theorem hid_self (H : Hp) (O : List Addr) : Same (hid H O) H := fun _ _ h => (of_hid h).2
theorem hid_new {H : Hp} {O : List Addr} {l : Addr} (o : HO) (n : H l = none) : Same (hid H O) (hid (upd H l o) (l :: O)) := fun a u h => by
  obtain ⟨q, h⟩ := of_hid h
  have ne : a ≠ l := ne_of_none h n
  rw [hid_out (by simp only [List.mem_cons, not_or]; exact ⟨ne, q⟩), upd_ne ne]; exact h
theorem hid_write {H : Hp} {O : List Addr} {l : Addr} (o : HO) (m : l ∈ O) : hid (upd H l o) O = hid H O := by
  funext a
  by_cases q : a ∈ O
  · rw [hid_in q, hid_in q]
  · rw [hid_out q, hid_out q, upd_ne (fun e : a = l => q (by rw [e]; exact m))]
theorem same_new {H : Hp} {p : Addr} (o : HO) (h : H p = none) : Same H (upd H p o) := fun b u q => by rw [upd_ne (ne_of_none q h)]; exact q

theorem Rd.mono {G G' : Hp} {a : Addr} {u : HO} (e : Same G G') (h : Rd G a u) : Rd G' a u := by
  rcases h with h | ⟨o, h⟩
  · exact .inl (e _ _ h)
  · exact .inr ⟨o, e _ _ h⟩
theorem SqL.mono {K : PySem.W.Frag} {G G' : Hp} {a : Addr} {xs : List V} (e : Same G G') (h : SqL K G a xs) : SqL K G' a xs := by
  rcases h with h | h
  · exact .inl (Rd.mono e h)
  · exact .inr h
theorem SqT.mono {K : PySem.W.Frag} {G G' : Hp} {a : Addr} {xs : List V} (e : Same G G') (h : SqT K G a xs) : SqT K G' a xs := by
  rcases h with h | h
  · exact .inl (Rd.mono e h)
  · exact .inr h

/-! ### data -/
/-- the class of a name -/
def clsOf (K : PySem.W.Frag) (nm : Str) : Option Addr := match PySem.W.nsIn K mainGlobals nm with
  | some (some (.ref C)) => some C
  | _ => none
mutual
inductive Dq (K : PySem.W.Frag) (G : Hp) : V → PyData → Prop
  | non : Dq K G .non .none
  | bl (b : Bool) : Dq K G (.bl b) (.bool b)
  | int (i : Int) : Dq K G (.int i) (.int i)
  | str (x : Str) : Dq K G (.str x) (.str x)
  | lst {a : Addr} {xs : List V} {ds : List PyData} : SqL K G a xs → DqAll K G xs ds → Dq K G (.ref a) (.list ds)
  | tup {a : Addr} {xs : List V} {ds : List PyData} : SqT K G a xs → DqAll K G xs ds → Dq K G (.ref a) (.tuple ds)
  | dic {a : Addr} {kvs : List (Key × V)} {ds : List (PyData × PyData)} : G a = some (.dK kvs) → DqKv K G kvs ds → Dq K G (.ref a) (.dict ds)
  | dct {a : Addr} {kvs : List (List Key × V)} {ds : List (PyData × PyData)} : G a = some (.dT kvs) → DqTv K G kvs ds → Dq K G (.ref a) (.dict ds)
  | ins {a C dx : Addr} {nm : Str} {fs : List (Str × V)} {ds : List (PyData × PyData)} : G a = some (.ins C dx fs) → clsOf K nm = some C → DqFs K G fs ds → Dq K G (.ref a) (.dict ((.list [.str nm], .none) :: ds))
inductive DqAll (K : PySem.W.Frag) (G : Hp) : List V → List PyData → Prop
  | nil : DqAll K G [] []
  | cons {v : V} {vs : List V} {d : PyData} {ds : List PyData} : Dq K G v d → DqAll K G vs ds → DqAll K G (v :: vs) (d :: ds)
inductive DqKv (K : PySem.W.Frag) (G : Hp) : List (Key × V) → List (PyData × PyData) → Prop
  | nil : DqKv K G [] []
  | cons {k : Key} {v : V} {kvs : List (Key × V)} {d : PyData} {ds : List (PyData × PyData)} : Dq K G v d → DqKv K G kvs ds → DqKv K G ((k, v) :: kvs) ((kD k, d) :: ds)
/-- a dict whose keys are tuples: a mark behind its pairs -/
inductive DqTv (K : PySem.W.Frag) (G : Hp) : List (List Key × V) → List (PyData × PyData) → Prop
  | nil : DqTv K G [] [(.none, .none)]
  | cons {k : List Key} {v : V} {kvs : List (List Key × V)} {d : PyData} {ds : List (PyData × PyData)} : Dq K G v d → DqTv K G kvs ds → DqTv K G ((k, v) :: kvs) ((.tuple (k.map kD), d) :: ds)
/-- the attributes of an instance: its class's name stands ahead of them -/
inductive DqFs (K : PySem.W.Frag) (G : Hp) : List (Str × V) → List (PyData × PyData) → Prop
  | nil : DqFs K G [] []
  | cons {x : Str} {v : V} {fs : List (Str × V)} {d : PyData} {ds : List (PyData × PyData)} : Dq K G v d → DqFs K G fs ds → DqFs K G ((x, v) :: fs) ((.str x, d) :: ds)
end

mutual
theorem Dq.mono {K : PySem.W.Frag} {G G' : Hp} (e : Same G G') : ∀ (d : PyData) (v : V), Dq K G v d → Dq K G' v d
  | .none, _, h => by cases h; exact .non
  | .bool b, _, h => by cases h; exact .bl b
  | .int i, _, h => by cases h; exact .int i
  | .str x, _, h => by cases h; exact .str x
  | .list ds, _, h => by
    cases h with
    | lst hs ha => exact .lst (SqL.mono e hs) (DqAll.mono e ds _ ha)
  | .tuple ds, _, h => by
    cases h with
    | tup hs ha => exact .tup (SqT.mono e hs) (DqAll.mono e ds _ ha)
  | .dict [], _, h => by
    cases h with
    | dic hs ha => exact .dic (e _ _ hs) (DqKv.mono e [] _ ha)
    | dct hs ha => cases ha
  | .dict (p :: ds), _, h => by
    cases h with
    | dic hs ha => exact .dic (e _ _ hs) (DqKv.mono e (p :: ds) _ ha)
    | dct hs ha => exact .dct (e _ _ hs) (DqTv.mono e (p :: ds) _ ha)
    | ins hs hc ha => exact .ins (e _ _ hs) hc (DqFs.mono e ds _ ha)
theorem DqAll.mono {K : PySem.W.Frag} {G G' : Hp} (e : Same G G') : ∀ (ds : List PyData) (vs : List V), DqAll K G vs ds → DqAll K G' vs ds
  | [], _, h => by cases h; exact .nil
  | d :: ds, _, h => by
    cases h with
    | cons h1 h2 => exact .cons (Dq.mono e d _ h1) (DqAll.mono e ds _ h2)
theorem DqKv.mono {K : PySem.W.Frag} {G G' : Hp} (e : Same G G') : ∀ (ds : List (PyData × PyData)) (kvs : List (Key × V)), DqKv K G kvs ds → DqKv K G' kvs ds
  | [], _, h => by cases h; exact .nil
  | (_, d) :: ds, _, h => by
    cases h with
    | cons h1 h2 => exact .cons (Dq.mono e d _ h1) (DqKv.mono e ds _ h2)
theorem DqTv.mono {K : PySem.W.Frag} {G G' : Hp} (e : Same G G') : ∀ (ds : List (PyData × PyData)) (kvs : List (List Key × V)), DqTv K G kvs ds → DqTv K G' kvs ds
  | [], _, h => by cases h
  | (_, d) :: ds, _, h => by
    cases h with
    | nil => exact .nil
    | cons h1 h2 => exact .cons (Dq.mono e d _ h1) (DqTv.mono e ds _ h2)
theorem DqFs.mono {K : PySem.W.Frag} {G G' : Hp} (e : Same G G') : ∀ (ds : List (PyData × PyData)) (fs : List (Str × V)), DqFs K G fs ds → DqFs K G' fs ds
  | [], _, h => by cases h; exact .nil
  | (_, d) :: ds, _, h => by
    cases h with
    | cons h1 h2 => exact .cons (Dq.mono e d _ h1) (DqFs.mono e ds _ h2)
end

mutual
/-- no list, no dict within -/
def imm : PyData → Bool
  | .none => true
  | .bool _ => true
  | .int _ => true
  | .str _ => true
  | .list _ => false
  | .tuple ds => immAll ds
  | .dict _ => false
def immAll : List PyData → Bool
  | [] => true
  | d :: ds => imm d && immAll ds
end
mutual
theorem Dq.move {K : PySem.W.Frag} {G G' : Hp} (e : ∀ a xs, SqT K G a xs → SqT K G' a xs) : ∀ (d : PyData) (v : V), imm d = true → Dq K G v d → Dq K G' v d
  | .none, _, _, h => by cases h; exact .non
  | .bool b, _, _, h => by cases h; exact .bl b
  | .int i, _, _, h => by cases h; exact .int i
  | .str x, _, _, h => by cases h; exact .str x
  | .list ds, _, i, _ => by simp [imm] at i
  | .tuple ds, _, i, h => by
    cases h with
    | tup hs ha => exact .tup (e _ _ hs) (DqAll.move e ds _ (by simpa [imm] using i) ha)
  | .dict ds, _, i, _ => by simp [imm] at i
theorem DqAll.move {K : PySem.W.Frag} {G G' : Hp} (e : ∀ a xs, SqT K G a xs → SqT K G' a xs) : ∀ (ds : List PyData) (vs : List V), immAll ds = true → DqAll K G vs ds → DqAll K G' vs ds
  | [], _, _, h => by cases h; exact .nil
  | d :: ds, _, i, h => by
    have i' : imm d = true ∧ immAll ds = true := by simpa [immAll] using i
    cases h with
    | cons h1 h2 => exact .cons (Dq.move e d _ i'.1 h1) (DqAll.move e ds _ i'.2 h2)
end
mutual
/-- to the library's data (for ==): no dict within -/
theorem Dq.toDp {K : PySem.W.Frag} {G : Hp} : ∀ (d : PyData) (v : V), PyData.canLay0 d = true → Dq K G v d → Dp K G v d
  | .none, _, _, h => by cases h; exact .non
  | .bool b, _, _, h => by cases h; exact .bl b
  | .int i, _, _, h => by cases h; exact .int i
  | .str x, _, _, h => by cases h; exact .str x
  | .list ds, _, c, h => by
    cases h with
    | lst hs ha => exact .lst hs (DqAll.toDp ds _ (by simpa [PyData.canLay0] using c) ha)
  | .tuple ds, _, c, h => by
    cases h with
    | tup hs ha => exact .tup hs (DqAll.toDp ds _ (by simpa [PyData.canLay0] using c) ha)
  | .dict ds, _, c, _ => by simp [PyData.canLay0] at c
theorem DqAll.toDp {K : PySem.W.Frag} {G : Hp} : ∀ (ds : List PyData) (vs : List V), PyData.canLayAll0 ds = true → DqAll K G vs ds → DpAll K G vs ds
  | [], _, _, h => by cases h; exact .nil
  | d :: ds, _, c, h => by
    have c' : PyData.canLay0 d = true ∧ PyData.canLayAll0 ds = true := by simpa [PyData.canLayAll0] using c
    cases h with
    | cons h1 h2 => exact .cons (Dq.toDp d _ c'.1 h1) (DqAll.toDp ds _ c'.2 h2)
end
section
variable {K : PySem.W.Frag} {G : Hp}
theorem DqAll.length : ∀ {vs : List V} {ds : List PyData}, DqAll K G vs ds → vs.length = ds.length
  | _, _, .nil => rfl
  | _, _, .cons _ t => congrArg (· + 1) (DqAll.length t)
theorem DqAll.get : ∀ {vs : List V} {ds : List PyData} {i : Nat} {d : PyData}, DqAll K G vs ds → ds[i]? = some d → ∃ v, vs[i]? = some v ∧ Dq K G v d
  | _, _, _, _, .nil, e => by simp at e
  | _, _, 0, _, .cons r _, e => by simp at e; subst e; exact ⟨_, rfl, r⟩
  | _, _, i + 1, d, .cons _ t, e => by
    obtain ⟨v, h1, h2⟩ := DqAll.get (i := i) (d := d) t (by simpa using e)
    exact ⟨v, by simpa using h1, h2⟩
theorem DqAll.getV : ∀ {vs : List V} {ds : List PyData} {i : Nat} {v : V}, DqAll K G vs ds → vs[i]? = some v → ∃ d, ds[i]? = some d ∧ Dq K G v d
  | _, _, _, _, .nil, e => by simp at e
  | _, _, 0, _, .cons r _, e => by simp at e; subst e; exact ⟨_, rfl, r⟩
  | _, _, i + 1, d, .cons _ t, e => by
    obtain ⟨v, h1, h2⟩ := DqAll.getV (i := i) (v := d) t (by simpa using e)
    exact ⟨v, by simpa using h1, h2⟩
theorem DqAll.append : ∀ {vs ws : List V} {ds es : List PyData}, DqAll K G vs ds → DqAll K G ws es → DqAll K G (vs ++ ws) (ds ++ es)
  | _, _, _, _, .nil, s => s
  | _, _, _, _, .cons r t, s => .cons r (DqAll.append t s)
theorem DqAll.take : ∀ {vs : List V} {ds : List PyData} (n : Nat), DqAll K G vs ds → DqAll K G (vs.take n) (ds.take n)
  | _, _, 0, _ => by simp only [List.take_zero]; exact .nil
  | _, _, _ + 1, .nil => .nil
  | _, _, n + 1, .cons r t => .cons r (DqAll.take n t)
theorem DqAll.drop : ∀ {vs : List V} {ds : List PyData} (n : Nat), DqAll K G vs ds → DqAll K G (vs.drop n) (ds.drop n)
  | _, _, 0, r => r
  | _, _, _ + 1, .nil => .nil
  | _, _, n + 1, .cons _ t => DqAll.drop n t
theorem DqAll.set {v : V} {d : PyData} (r : Dq K G v d) : ∀ {vs : List V} {ds : List PyData} (i : Nat), DqAll K G vs ds → DqAll K G (vs.set i v) (ds.set i d)
  | _, _, _, .nil => .nil
  | _, _, 0, .cons _ t => .cons r t
  | _, _, i + 1, .cons q t => .cons q (DqAll.set r i t)
theorem DqAll.eraseIdx : ∀ {vs : List V} {ds : List PyData} (i : Nat), DqAll K G vs ds → DqAll K G (vs.eraseIdx i) (ds.eraseIdx i)
  | _, _, _, .nil => .nil
  | _, _, 0, .cons _ t => t
  | _, _, i + 1, .cons q t => .cons q (DqAll.eraseIdx i t)
theorem DqAll.dropLast : ∀ {vs : List V} {ds : List PyData}, DqAll K G vs ds → DqAll K G vs.dropLast ds.dropLast
  | _, _, .nil => .nil
  | _, _, .cons _ .nil => .nil
  | _, _, .cons q (.cons r t) => .cons q (DqAll.dropLast (.cons r t))
theorem DqAll.reverse {vs : List V} {ds : List PyData} (h : DqAll K G vs ds) : DqAll K G vs.reverse ds.reverse := by
  induction vs generalizing ds with
  | nil => cases h; exact .nil
  | cons v vs ih =>
    cases h with
    | cons a b => rw [List.reverse_cons, List.reverse_cons]; exact (ih b).append (.cons a .nil)
theorem DqAll.map {α : Type} {f : α → V} {g : α → D} (h : ∀ x, Dq K G (f x) (g x)) : ∀ xs : List α, DqAll K G (xs.map f) (xs.map g)
  | [] => .nil
  | x :: xs => .cons (h x) (DqAll.map h xs)
theorem DqAll.ints : ∀ {vs : List V} {ns : List Int}, DqAll K G vs (ns.map .int) → vs = ns.map V.int
  | _, [], h => by cases h; rfl
  | _, n :: ns, h => by
    cases h with
    | cons a b => cases a; rw [DqAll.ints b]; rfl
theorem DqAll.strs : ∀ {vs : List V} {ns : List Str}, DqAll K G vs (ns.map .str) → vs = ns.map V.str
  | _, [], h => by cases h; rfl
  | _, n :: ns, h => by
    cases h with
    | cons a b => cases a; rw [DqAll.strs b]; rfl
theorem DqAll.bls : ∀ {vs : List V} {ns : List Bool}, DqAll K G vs (ns.map .bool) → vs = ns.map V.bl
  | _, [], h => by cases h; rfl
  | _, n :: ns, h => by
    cases h with
    | cons a b => cases a; rw [DqAll.bls b]; rfl
theorem DqAll.one {v : V} {d : D} (h : Dq K G v d) : DqAll K G [v] [d] := .cons h .nil
end

/-! ### the state: slots of ground data, of owned lists and dicts -/
inductive SV
  | ro (d : D)
  | ow (ds : List D)
  | oK (tt : Bool) (ds : List (D × D))
  | lr (ds : List D)
  | xc (nm : Str) (at_ : D)
abbrev En := List (Option SV)
def SV.owned : SV → Bool
  | .ro _ => false
  | .ow _ => true
  | .oK _ _ => true
  | .lr _ => false
  | .xc _ _ => false
def mark : D × D := (.none, .none)
def tails (tt : Bool) (ds : List (D × D)) : List (D × D) := if tt = true then ds ++ [mark] else ds
def DObj (K : PySem.W.Frag) (G : Hp) (tt : Bool) (o : HO) (ds : List (D × D)) : Prop :=
  (tt = false ∧ ∃ vs, o = .dK vs ∧ DqKv K G vs ds) ∨ (tt = true ∧ ∃ vs, o = .dT vs ∧ DqTv K G vs (ds ++ [mark]))
theorem DObj.mono {K : PySem.W.Frag} {G G' : Hp} (e : Same G G') {tt : Bool} {o : HO} {ds : List (D × D)} (h : DObj K G tt o ds) : DObj K G' tt o ds := by
  rcases h with ⟨a, vs, b, c⟩ | ⟨a, vs, b, c⟩
  · exact .inl ⟨a, vs, b, DqKv.mono e _ _ c⟩
  · exact .inr ⟨a, vs, b, DqTv.mono e _ _ c⟩
def isMut : HO → Bool
  | .lst _ => true
  | .dK _ => true
  | .dT _ => true
  | .ins _ _ _ => true
  | _ => false
/-- an exception object that was caught, tracked: its class, its own dict -/
def ExK (cls : Value) (d : Option Addr) (a : Addr) : HO := .ext fun h => ∃ (oe : Obj) (vs : Array Value), h.get? a = some oe ∧ L2.Zc cls d oe ∧ oe.data = .fields vs
def SOk (K : PySem.W.Frag) (O0 : List Addr) (H : Hp) (O : List Addr) (v : V) : SV → Prop
  | .ro d => Dq K (hid H O) v d
  | .ow ds => ∃ l vs, v = .ref l ∧ l ∈ O ∧ l ∉ O0 ∧ H l = some (.lst vs) ∧ DqAll K (hid H O) vs ds
  | .oK tt ds => ∃ l o, v = .ref l ∧ l ∈ O ∧ l ∉ O0 ∧ H l = some o ∧ DObj K (hid H O) tt o ds
  | .lr ds => ∃ l vs, v = .ref l ∧ hid H O l = some (.lst vs) ∧ DqAll K (hid H O) vs ds
  | .xc nm at_ => ∃ a d C u, v = .ref a ∧ hid H O a = some (ExK (.ref C) (some d) a) ∧ clsOf K nm = some C ∧ hid H O d = some (.xd [(("at" : Str), u)]) ∧ Dq K (hid H O) u at_

/-- the entry of a def: its heap, what is hidden there, what may be changed -/
structure Bs where
  K : PySem.W.Frag
  H0 : Hp
  O0 : List Addr
  L : List Addr
  pin : Option (Nat × Addr)
  W : L2.WX
/-- no exception leaves -/
def W0 : L2.WX := fun _ _ _ _ => False
/-- a slot that may be stored in -/
def free (B : Bs) (i : Nat) : Bool := match B.pin with
  | none => true
  | some p => p.1 != i
theorem free_ne {B : Bs} {i j : Nat} {l : Addr} (h : free B i = true) (e : B.pin = some (j, l)) : i ≠ j := fun z => by
  unfold free at h
  rw [e] at h
  subst z
  simp at h

structure RS (K : PySem.W.Frag) (B : Bs) (ρ : En) (σ : L2.St) (H : Hp) (O : List Addr) : Prop where
  len : ρ.length = σ.length
  slot : ∀ (i : Nat) s, ρ[i]? = some (some s) → ∃ v, σ[i]? = some (some v) ∧ SOk K B.O0 H O v s
  uniq : ∀ (i j : Nat) s s' l, i ≠ j → ρ[i]? = some (some s) → ρ[j]? = some (some s') → s.owned = true → s'.owned = true → σ[i]? = some (some (V.ref l)) → σ[j]? = some (some (V.ref l)) → False
  same : ∀ a o, a ∉ B.L → B.H0 a = some o → H a = some o
  own : ∀ a ∈ O, a ∈ B.O0 ∨ a ∈ B.L ∨ B.H0 a = none
  mu : ∀ a ∈ O, ∃ o, H a = some o ∧ isMut o = true
  sub0 : ∀ a ∈ B.O0, a ∈ O ∧ a ∉ B.L ∧ ∃ o, B.H0 a = some o
  lo : ∀ a ∈ B.L, a ∈ O
  pin : ∀ i l, B.pin = some (i, l) → σ[i]? = some (some (V.ref l))

theorem pin_set {K : PySem.W.Frag} {B : Bs} {ρ : En} {σ : L2.St} {H : Hp} {O : List Addr} (R : RS K B ρ σ H O) {i : Nat} {v : Option V} (hp : free B i = true) : ∀ j l', B.pin = some (j, l') → (σ.set i v)[j]? = some (some (V.ref l')) := fun j l' e => by
  rw [List.getElem?_set_ne (free_ne hp e)]
  exact R.pin j l' e
section
variable {K : PySem.W.Frag} {B : Bs} {ρ : En} {σ : L2.St} {H H' : Hp} {O : List Addr}
theorem Paired.imp {α β : Type} {F G : α → β → Prop} (f : ∀ a b, F a b → G a b) : ∀ {l₁ : List α} {l₂ : List β}, Paired F l₁ l₂ → Paired G l₁ l₂
  | _, _, .nil => .nil
  | _, _, .cons r t => .cons (f _ _ r) (Paired.imp f t)
theorem SOk.grow {O0 O' : List Addr} {v : V} (e : ∀ l, l ∈ O → l ∉ O0 → l ∈ O' ∧ H' l = H l) (g : Same (hid H O) (hid H' O')) : ∀ {s : SV}, SOk K O0 H O v s → SOk K O0 H' O' v s
  | .ro d, h => Dq.mono g d v h
  | .ow ds, ⟨l, vs, a, b, c, d, f⟩ => ⟨l, vs, a, (e l b c).1, c, (e l b c).2.trans d, DqAll.mono g _ _ f⟩
  | .oK tt ds, ⟨l, o, a, b, c, d, f⟩ => ⟨l, o, a, (e l b c).1, c, (e l b c).2.trans d, DObj.mono g f⟩
  | .lr ds, ⟨l, vs, a, b, f⟩ => ⟨l, vs, a, g _ _ b, DqAll.mono g _ _ f⟩
  | .xc nm at_, ⟨a, d, C, u, e1, e2, e3, e4, e5⟩ => ⟨a, d, C, u, e1, g _ _ e2, e3, g _ _ e4, Dq.mono g _ _ e5⟩
theorem RS.fresh (R : RS K B ρ σ H O) {p : Addr} (h : H p = none) : p ∉ O := fun z => by
  obtain ⟨o, e, _⟩ := R.mu p z
  rw [h] at e; cases e
/-- all that was tracked stays -/
theorem RS.grow (R : RS K B ρ σ H O) (e : Same H H') : RS K B ρ σ H' O where
  len := R.len
  slot := fun i s h => by
    obtain ⟨v, a, b⟩ := R.slot i s h
    refine ⟨v, a, SOk.grow (fun l hl _ => ⟨hl, ?_⟩) (hid_grow e) b⟩
    obtain ⟨o, q, _⟩ := R.mu l hl
    rw [q, e l o q]
  uniq := R.uniq
  same := fun a o h1 h2 => e a o (R.same a o h1 h2)
  own := R.own
  mu := fun a h => let ⟨o, q, m⟩ := R.mu a h; ⟨o, e a o q, m⟩
  sub0 := R.sub0
  lo := R.lo
  pin := R.pin
theorem RS.fresh0 (R : RS K B ρ σ H O) {p : Addr} (h : H p = none) : B.H0 p = none := by
  cases q : B.H0 p with
  | none => rfl
  | some o =>
    by_cases hl : p ∈ B.L
    · exact absurd (R.lo p hl) (R.fresh h)
    · have := R.same p o hl q
      rw [h] at this; cases this
/-- a fresh object becomes owned -/
theorem RS.take (R : RS K B ρ σ H O) {l : Addr} (n : l ∉ O) (n0 : B.H0 l = none) {o : HO} (h : H l = some o) (m : isMut o = true) (g : ∀ (i : Nat) s, ρ[i]? = some (some s) → ∃ v, σ[i]? = some (some v) ∧ SOk K B.O0 H (l :: O) v s) : RS K B ρ σ H (l :: O) where
  len := R.len
  slot := g
  uniq := R.uniq
  same := R.same
  own := fun a ha => by
    rcases List.mem_cons.mp ha with rfl | ha
    · exact .inr (.inr n0)
    · exact R.own a ha
  mu := fun a ha => by
    rcases List.mem_cons.mp ha with rfl | ha
    · exact ⟨o, h, m⟩
    · exact R.mu a ha
  sub0 := fun a ha => let ⟨x, y, z⟩ := R.sub0 a ha; ⟨List.mem_cons_of_mem _ x, y, z⟩
  lo := fun a ha => List.mem_cons_of_mem _ (R.lo a ha)
  pin := R.pin
/-- a tuple of the heap is never hidden -/
theorem RS.tups (R : RS K B ρ σ H O) (O' : List Addr) : ∀ a xs, SqT K (hid H O') a xs → SqT K (hid H O) a xs := fun a xs h => by
  rcases h with h | h
  · refine .inl ?_
    have q : ∀ o, hid H O' a = some o → isMut o = false → hid H O a = some o := fun o e m => by
      obtain ⟨_, e⟩ := of_hid e
      rw [hid_out]
      · exact e
      · intro z
        obtain ⟨o', e', m'⟩ := R.mu a z
        rw [e] at e'; cases e'
        rw [m] at m'; cases m'
    rcases h with h | ⟨o, h⟩
    · exact .inl (q _ h rfl)
    · exact .inr ⟨o, q _ h rfl⟩
  · exact .inr h
end
end Z

set_option Elab.async false
set_option maxRecDepth 100000
set_option maxHeartbeats 4000000
set_option linter.all false
/-! Z1: expressions -/
namespace Z
open PySem PySem.Spec PyProof.Rows L2

/-! ### a value that is read: ground, or an owned one -/
def Bo (K : PySem.W.Frag) (H : Hp) (O : List Addr) (v : V) (d : D) : Prop :=
  Dq K (hid H O) v d ∨ (∃ l vs ds, v = .ref l ∧ d = .list ds ∧ l ∈ O ∧ H l = some (.lst vs) ∧ DqAll K (hid H O) vs ds) ∨
  ∃ l o tt ds, v = .ref l ∧ d = .dict (tails tt ds) ∧ l ∈ O ∧ H l = some o ∧ DObj K (hid H O) tt o ds
inductive BoAll (K : PySem.W.Frag) (H : Hp) (O : List Addr) : List V → List D → Prop
  | nil : BoAll K H O [] []
  | cons {v : V} {vs : List V} {d : D} {ds : List D} : Bo K H O v d → BoAll K H O vs ds → BoAll K H O (v :: vs) (d :: ds)
theorem dobj_dq {K : PySem.W.Frag} {G : Hp} {l : Addr} {tt : Bool} {o : HO} {ds : List (D × D)} (h : G l = some o) (a : DObj K G tt o ds) : Dq K G (.ref l) (.dict (tails tt ds)) := by
  rcases a with ⟨rfl, vs, rfl, c⟩ | ⟨rfl, vs, rfl, c⟩
  · exact .dic h c
  · exact .dct h c
section
variable {K : PySem.W.Frag} {B : Bs} {ρ : En} {σ : L2.St} {H H' : Hp} {O : List Addr}
theorem Bo.full {v : V} {d : D} (h : Bo K H O v d) : Dq K H v d := by
  rcases h with h | ⟨l, vs, ds, rfl, rfl, _, h, a⟩ | ⟨l, o, tt, kvs, rfl, rfl, _, h, a⟩
  · exact Dq.mono (hid_self H O) _ _ h
  · exact .lst (SqL.of h) (DqAll.mono (hid_self H O) _ _ a)
  · exact dobj_dq h (DObj.mono (hid_self H O) a)
theorem Bo.grow {v : V} {d : D} (R : RS K B ρ σ H O) (e : Same H H') (h : Bo K H O v d) : Bo K H' O v d := by
  rcases h with h | ⟨l, vs, ds, rfl, rfl, m, h, a⟩ | ⟨l, o, tt, kvs, rfl, rfl, m, h, a⟩
  · exact .inl (Dq.mono (hid_grow e) _ _ h)
  · exact .inr (.inl ⟨l, vs, ds, rfl, rfl, m, e _ _ h, DqAll.mono (hid_grow e) _ _ a⟩)
  · exact .inr (.inr ⟨l, o, tt, kvs, rfl, rfl, m, e _ _ h, DObj.mono (hid_grow e) a⟩)
theorem BoAll.grow (R : RS K B ρ σ H O) (e : Same H H') : ∀ {vs : List V} {ds : List D}, BoAll K H O vs ds → BoAll K H' O vs ds
  | _, _, .nil => .nil
  | _, _, .cons h t => .cons (h.grow R e) (BoAll.grow R e t)
/-- a list that is read: its items are ground -/
theorem Bo.list {v : V} {ds : List D} (h : Bo K H O v (.list ds)) : ∃ a vs, v = .ref a ∧ SqL K H a vs ∧ DqAll K (hid H O) vs ds := by
  rcases h with h | ⟨l, vs, ds', rfl, e, m, h, a⟩ | ⟨l, o, tt, kvs, rfl, e, m, h, a⟩
  · cases h with
    | lst hs ha => exact ⟨_, _, rfl, SqL.mono (hid_self H O) hs, ha⟩
  · cases e; exact ⟨l, vs, rfl, SqL.of h, a⟩
  · cases e
theorem Bo.tup {v : V} {ds : List D} (h : Bo K H O v (.tuple ds)) : ∃ a vs, v = .ref a ∧ SqT K (hid H O) a vs ∧ DqAll K (hid H O) vs ds := by
  rcases h with h | ⟨l, vs, ds', rfl, e, m, h, a⟩ | ⟨l, o, tt, kvs, rfl, e, m, h, a⟩
  · cases h with
    | tup hs ha => exact ⟨_, _, rfl, hs, ha⟩
  · cases e
  · cases e
theorem Bo.int {v : V} {i : Int} (h : Bo K H O v (.int i)) : v = .int i := by
  rcases h with h | ⟨l, vs, ds', rfl, e, m, h, a⟩ | ⟨l, o, tt, kvs, rfl, e, m, h, a⟩
  · cases h; rfl
  · cases e
  · cases e
theorem Bo.str {v : V} {i : Str} (h : Bo K H O v (.str i)) : v = .str i := by
  rcases h with h | ⟨l, vs, ds', rfl, e, m, h, a⟩ | ⟨l, o, tt, kvs, rfl, e, m, h, a⟩
  · cases h; rfl
  · cases e
  · cases e
theorem Bo.bl {v : V} {i : Bool} (h : Bo K H O v (.bool i)) : v = .bl i := by
  rcases h with h | ⟨l, vs, ds', rfl, e, m, h, a⟩ | ⟨l, o, tt, kvs, rfl, e, m, h, a⟩
  · cases h; rfl
  · cases e
  · cases e
theorem Bo.non {v : V} (h : Bo K H O v .none) : v = .non := by
  rcases h with h | ⟨l, vs, ds', rfl, e, m, h, a⟩ | ⟨l, o, tt, kvs, rfl, e, m, h, a⟩
  · cases h; rfl
  · cases e
  · cases e
theorem Bo.ne_non {v : V} {d : D} (h : Bo K H O v d) : decide (v = V.non) = (match d with | .none => true | _ => false) := by
  rcases h with h | ⟨l, vs, ds', rfl, rfl, m, h, a⟩ | ⟨l, o, tt, kvs, rfl, rfl, m, h, a⟩
  · cases h <;> simp
  · simp
  · simp
end

/-! ### what a reading tells -/
section
variable (K : PySem.W.Frag) (B : Bs)
/-- ground data; data that may be owned; a new list; a truth; arguments -/
def DE (t : TE) (f : En → Option D) : Prop := ∀ ρ σ H O d, RS K B ρ σ H O → f ρ = some d → ∀ Q : VK, (∀ v H', Same H H' → Dq K (hid H' O) v d → Q v H') → t σ H Q
def DB (t : TE) (f : En → Option D) : Prop := ∀ ρ σ H O d, RS K B ρ σ H O → f ρ = some d → ∀ Q : VK, (∀ v H', Same H H' → Bo K H' O v d → Q v H') → t σ H Q
def DL (t : TE) (f : En → Option (List D)) : Prop := ∀ ρ σ H O ds, RS K B ρ σ H O → f ρ = some ds → ∀ Q : VK, (∀ l vs H', Same H H' → H l = none → H' l = some (.lst vs) → DqAll K (hid H' (l :: O)) vs ds → Q (.ref l) H') → t σ H Q
def DT (t : TT) (f : En → Option Bool) : Prop := ∀ ρ σ H O b, RS K B ρ σ H O → f ρ = some b → ∀ Q : Bool → Hp → Prop, (∀ H', Same H H' → Q b H') → t σ H Q
def DA (t : TA) (f : En → Option (List D)) : Prop := ∀ ρ σ H O ds, RS K B ρ σ H O → f ρ = some ds → ∀ Q : List V → Hp → Prop, (∀ vs H', Same H H' → DqAll K (hid H' O) vs ds → Q vs H') → t σ H Q
def DAB (t : TA) (f : En → Option (List D)) : Prop := ∀ ρ σ H O ds, RS K B ρ σ H O → f ρ = some ds → ∀ Q : List V → Hp → Prop, (∀ vs H', Same H H' → BoAll K H' O vs ds → Q vs H') → t σ H Q
end
structure XE (X : Cx) (B : Bs) (e : Expr) (t : TE) (f : En → Option D) : Prop where
  pe : PE X e t
  de : DE B.K B t f
structure XB (X : Cx) (B : Bs) (e : Expr) (t : TE) (f : En → Option D) : Prop where
  pe : PE X e t
  de : DB B.K B t f
structure XL (X : Cx) (B : Bs) (e : Expr) (t : TE) (f : En → Option (List D)) : Prop where
  pe : PE X e t
  de : DL B.K B t f
structure XT (X : Cx) (B : Bs) (e : Expr) (t : TT) (f : En → Option Bool) : Prop where
  pe : PT X e t
  de : DT B.K B t f
structure XW (X : Cx) (B : Bs) (e : Expr) (t : TT) (f : En → Option Bool) : Prop where
  pe : PW X e t
  de : DT B.K B t f
structure XA (X : Cx) (B : Bs) (es : List Expr) (t : TA) (f : En → Option (List D)) : Prop where
  pe : PA X es t
  de : DA B.K B t f
structure XAB (X : Cx) (B : Bs) (es : List Expr) (t : TA) (f : En → Option (List D)) : Prop where
  pe : PA X es t
  de : DAB B.K B t f

/-! ### from one to the other -/
def liL (f : En → Option (List D)) : En → Option D := fun ρ => (f ρ).map .list
theorem DE.db {K : PySem.W.Frag} {B : Bs} {t : TE} {f : En → Option D} (h : DE K B t f) : DB K B t f := fun ρ σ H O d R e Q q => h ρ σ H O d R e Q fun v H' s x => q v H' s (.inl x)
theorem DL.de {K : PySem.W.Frag} {B : Bs} {t : TE} {f : En → Option (List D)} (h : DL K B t f) : DE K B t (liL f) := fun ρ σ H O d R e Q q => by
  unfold liL at e
  cases hf : f ρ with
  | none => rw [hf] at e; cases e
  | some ds =>
    rw [hf] at e
    cases e
    refine h ρ σ H O ds R hf Q fun l vs H' s n x a => q _ H' s (.lst (SqL.of ?_) (DqAll.mono (hid_less fun a ha => List.mem_cons_of_mem _ ha) _ _ a))
    rw [hid_out (R.fresh n)]; exact x
section
variable {X : Cx} {B : Bs} {ex : Expr} {t : TE} {f : En → Option D} {fl : En → Option (List D)}
theorem XE.b (h : XE X B ex t f) : XB X B ex t f := ⟨h.pe, h.de.db⟩
theorem XL.e (h : XL X B ex t fl) : XE X B ex t (liL fl) := ⟨h.pe, h.de.de⟩
theorem XL.b (h : XL X B ex t fl) : XB X B ex t (liL fl) := h.e.b
end

/-! ### names, constants -/
def eVar (i : Nat) : En → Option D := fun ρ => match ρ[i]? with
  | some (some (.ro d)) => some d
  | some (some (.lr ds)) => some (.list ds)
  | _ => none
def bVar (i : Nat) : En → Option D := fun ρ => match ρ[i]? with
  | some (some (.ro d)) => some d
  | some (some (.ow ds)) => some (.list ds)
  | some (some (.oK tt kvs)) => some (.dict (tails tt kvs))
  | some (some (.lr ds)) => some (.list ds)
  | _ => none
def eC (d : D) : En → Option D := fun _ => some d
section
variable {K : PySem.W.Frag} {B : Bs}
theorem de_var {i : Nat} : DE K B (tVar i) (eVar i) := fun ρ σ H O d R e Q q => by
  unfold eVar at e
  split at e
  · rename_i d' h
    cases e
    obtain ⟨v, a, b⟩ := R.slot _ _ h
    exact ⟨v, a, q v H (Same.refl H) b⟩
  · rename_i d' h
    cases e
    obtain ⟨v, a, l, vs, b1, b2, b3⟩ := R.slot _ _ h
    subst b1
    exact ⟨_, a, q _ H (Same.refl H) (.lst (SqL.of b2) b3)⟩
  · cases e
theorem db_var {i : Nat} : DB K B (tVar i) (bVar i) := fun ρ σ H O d R e Q q => by
  unfold bVar at e
  split at e
  · rename_i d' h
    cases e
    obtain ⟨v, a, b⟩ := R.slot _ _ h
    exact ⟨v, a, q v H (Same.refl H) (.inl b)⟩
  · rename_i d' h
    cases e
    obtain ⟨v, a, l, vs, b1, b2, b3, b4, b5⟩ := R.slot _ _ h
    exact ⟨v, a, q v H (Same.refl H) (.inr (.inl ⟨l, vs, d', b1, rfl, b2, b4, b5⟩))⟩
  · rename_i tt d' h
    cases e
    obtain ⟨v, a, l, vs, b1, b2, b3, b4, b5⟩ := R.slot _ _ h
    exact ⟨v, a, q v H (Same.refl H) (.inr (.inr ⟨l, vs, tt, d', b1, rfl, b2, b4, b5⟩))⟩
  · rename_i d' h
    cases e
    obtain ⟨v, a, l, vs, b1, b2, b3⟩ := R.slot _ _ h
    subst b1
    exact ⟨_, a, q _ H (Same.refl H) (.inl (.lst (SqL.of b2) b3))⟩
  · cases e
theorem de_c {v : V} {d : D} (h : ∀ G, Dq K G v d) : DE K B (tC v) (eC d) := fun ρ σ H O d' R e Q q => by
  have e : d = d' := Option.some.inj e
  subst e
  exact q v H (Same.refl H) (h _)
end
section
variable {X : Cx} {B : Bs}
theorem xv (i : Nat) {x : Str} {pos : Pos} (hN : X.N[i]? = some x := by rfl) (hv : Vis X.env.scope x := by first | exact Or.inl rfl | exact Or.inr (Or.inl rfl) | exact Or.inr (Or.inr rfl)) (hd : (x == ("__debug__" : Str)) = false := by decide)
    (hcd : (x == ("__classdict__" : Str)) = false := by decide) : XE X B (.Name x pos) (tVar i) (eVar i) := ⟨pe_var hN hv hd hcd, de_var⟩
theorem xvb (i : Nat) {x : Str} {pos : Pos} (hN : X.N[i]? = some x := by rfl) (hv : Vis X.env.scope x := by first | exact Or.inl rfl | exact Or.inr (Or.inl rfl) | exact Or.inr (Or.inr rfl)) (hd : (x == ("__debug__" : Str)) = false := by decide)
    (hcd : (x == ("__classdict__" : Str)) = false := by decide) : XB X B (.Name x pos) (tVar i) (bVar i) := ⟨pe_var hN hv hd hcd, db_var⟩
theorem x_int {i j pos} : XE X B (.Constant (.int i) j pos) (tC (.int i)) (eC (.int i)) := ⟨pe_int, de_c fun _ => .int i⟩
theorem x_bl {b j pos} : XE X B (.Constant (.bool b) j pos) (tC (.bl b)) (eC (.bool b)) := ⟨pe_bl, de_c fun _ => .bl b⟩
theorem x_non {j pos} : XE X B (.Constant .none j pos) (tC .non) (eC .none) := ⟨pe_non, de_c fun _ => .non⟩
theorem x_str {x j pos} : XE X B (.Constant (.str x) j pos) (tC (.str x)) (eC (.str x)) := ⟨pe_str, de_c fun _ => .str x⟩
/-- a module's text or number -/
theorem x_gstr {x z : Str} {t : Tok} {pos : Pos} (hg : Gl X x) (hm : X.mg x = some (.str z t)) (hd : (x == ("__debug__" : Str)) = false := by decide) : XE X B (.Name x pos) (tC (.str z)) (eC (.str z)) := ⟨pe_glob hg hm ⟨t, rfl⟩ hd, de_c fun _ => .str z⟩
theorem x_gint {x : Str} {z : Int} {t : Tok} {pos : Pos} (hg : Gl X x) (hm : X.mg x = some (.int z t)) (hd : (x == ("__debug__" : Str)) = false := by decide) : XE X B (.Name x pos) (tC (.int z)) (eC (.int z)) := ⟨pe_glob hg hm ⟨t, rfl⟩ hd, de_c fun _ => .int z⟩
end

/-! ### two operands -/
/-- an operation on two values, as data -/
def OpD (K : PySem.W.Frag) (B : Bs) (r : R2) (g : D → D → Option D) : Prop := ∀ ρ σ H O x y d e z, RS K B ρ σ H O → Bo K H O x d → Bo K H O y e → g d e = some z → ∀ Q : VK, (∀ v H', Same H H' → Dq K (hid H' O) v z → Q v H') → r x y H Q
def OpL (K : PySem.W.Frag) (B : Bs) (r : R2) (g : D → D → Option (List D)) : Prop := ∀ ρ σ H O x y d e zs, RS K B ρ σ H O → Bo K H O x d → Bo K H O y e → g d e = some zs → ∀ Q : VK, (∀ l vs H', Same H H' → H l = none → H' l = some (.lst vs) → DqAll K (hid H' (l :: O)) vs zs → Q (.ref l) H') → r x y H Q
def e2 {α : Type} (g : D → D → Option α) (f f' : En → Option D) : En → Option α := fun ρ => (f ρ).bind fun x => (f' ρ).bind fun y => g x y
def e1 {α : Type} (g : D → Option α) (f : En → Option D) : En → Option α := fun ρ => (f ρ).bind g
theorem bind_some {α β : Type} {o : Option α} {k : α → Option β} {b : β} (h : o.bind k = some b) : ∃ a, o = some a ∧ k a = some b := by
  cases o with
  | none => cases h
  | some a => exact ⟨a, rfl, h⟩
theorem map_some {α β : Type} {o : Option α} {k : α → β} {b : β} (h : o.map k = some b) : ∃ a, o = some a ∧ k a = b := by
  cases o with
  | none => cases h
  | some a => exact ⟨a, rfl, Option.some.inj h⟩
section
variable {K : PySem.W.Frag} {B : Bs} {ta tb : TE} {f f' : En → Option D} {r : R2}
theorem de_op {g : D → D → Option D} (hr : OpD K B r g) (ha : DB K B ta f) (hb : DB K B tb f') : DE K B (tOp r ta tb) (e2 g f f') := fun ρ σ H O z R e Q q => by
  obtain ⟨d, h1, e⟩ := bind_some e
  obtain ⟨d', h2, e⟩ := bind_some e
  refine ha ρ σ H O d R h1 _ fun x H1 s1 a => hb ρ σ H1 O d' (R.grow s1) h2 _ fun y H2 s2 b => ?_
  have R2 := R.grow (s1.trans s2)
  exact hr ρ σ H2 O x y d d' z R2 (a.grow (R.grow s1) s2) b e Q fun v H3 s3 c => q v H3 (s1.trans (s2.trans s3)) c
theorem dl_op {g : D → D → Option (List D)} (hr : OpL K B r g) (ha : DB K B ta f) (hb : DB K B tb f') : DL K B (tOp r ta tb) (e2 g f f') := fun ρ σ H O z R e Q q => by
  obtain ⟨d, h1, e⟩ := bind_some e
  obtain ⟨d', h2, e⟩ := bind_some e
  refine ha ρ σ H O d R h1 _ fun x H1 s1 a => hb ρ σ H1 O d' (R.grow s1) h2 _ fun y H2 s2 b => ?_
  have R2 := R.grow (s1.trans s2)
  exact hr ρ σ H2 O x y d d' z R2 (a.grow (R.grow s1) s2) b e Q fun l vs H3 s3 n c a => q l vs H3 (s1.trans (s2.trans s3)) ((s1.trans s2).free n) c a
/-- two ints -/
theorem opd_int {C : Int → Int → Prop} {h : Int → Int → V} {g : D → D → Option D} (hg : ∀ d e z, g d e = some z → ∃ i j, d = .int i ∧ e = .int j ∧ C i j ∧ ∀ G, Dq K G (h i j) z) : OpD K B (rI C h) g := fun ρ σ H O x y d e z R a b k Q q => by
  obtain ⟨i, j, e1, e2, c, w⟩ := hg _ _ _ k
  subst e1 e2
  cases a.int
  cases b.int
  exact ⟨i, j, rfl, rfl, c, q _ H (Same.refl H) (w _)⟩
theorem opd_int0 {h : Int → Int → V} {g : D → D → Option D} (hg : ∀ d e z, g d e = some z → ∃ i j, d = .int i ∧ e = .int j ∧ ∀ G, Dq K G (h i j) z) : OpD K B (rI0 h) g := fun ρ σ H O x y d e z R a b k Q q => by
  obtain ⟨i, j, e1, e2, w⟩ := hg _ _ _ k
  subst e1 e2
  cases a.int
  cases b.int
  exact ⟨i, j, rfl, rfl, q _ H (Same.refl H) (w _)⟩
end
/-- of ints -/
def iiD {α : Type} (h : Int → Int → Option α) : D → D → Option α := fun d e => match d, e with
  | .int i, .int j => h i j
  | _, _ => none
theorem iiD_some {α : Type} {h : Int → Int → Option α} {d e : D} {z : α} (k : iiD h d e = some z) : ∃ i j, d = .int i ∧ e = .int j ∧ h i j = some z := by
  unfold iiD at k
  split at k
  · exact ⟨_, _, rfl, rfl, k⟩
  · cases k
def subD : D → D → Option D := iiD fun i j => some (.int (i - j))
def mulD : D → D → Option D := iiD fun i j => if (-18446744073709551616 < i ∧ i < 18446744073709551616) ∨ (-18446744073709551616 < j ∧ j < 18446744073709551616) then some (.int (i * j)) else none
def divD : D → D → Option D := iiD fun i j => if 0 < j ∧ j < 18446744073709551616 then some (.int (i / j)) else none
def modD : D → D → Option D := iiD fun i j => if 0 < j then some (.int (i % j)) else none
def powD : D → D → Option D := iiD fun i j => if 0 ≤ j ∧ j ≤ 1000 ∧ -18446744073709551616 < i ∧ i < 18446744073709551616 then some (.int (i ^ j.toNat)) else none
def ltD : D → D → Option D := iiD fun i j => some (.bool (decide (i < j)))
def leD : D → D → Option D := iiD fun i j => some (.bool (decide (i ≤ j)))
def gtD : D → D → Option D := iiD fun i j => some (.bool (decide (j < i)))
def geD : D → D → Option D := iiD fun i j => some (.bool (decide (j ≤ i)))
def addD (d e : D) : Option D := match d, e with
  | .int i, .int j => some (.int (i + j))
  | .str x, .str y => if x.length + y.length ≤ 1000000 then some (.str (x ++ y)) else none
  | .tuple xs, .tuple ys => if xs.length + ys.length ≤ 1000000 then some (.tuple (xs ++ ys)) else none
  | _, _ => none
def addS (d e : D) : Option D := match d, e with
  | .str x, .str y => if x.length + y.length ≤ 1000000 then some (.str (x ++ y)) else none
  | _, _ => none
def addT (d e : D) : Option D := match d, e with
  | .tuple xs, .tuple ys => if xs.length + ys.length ≤ 1000000 then some (.tuple (xs ++ ys)) else none
  | _, _ => none
theorem line {n : Nat} (h : n ≤ 1000000) : n ≤ sizeLine := Nat.le_trans h (by decide)
theorem lineL {n : Nat} (h : n < 1000000) : n < sizeLine := Nat.lt_of_lt_of_le h (by decide)
section
variable {K : PySem.W.Frag} {B : Bs}
theorem opd_or {r r' : R2} {g g' : D → D → Option D} (h : OpD K B r g) (h' : OpD K B r' g') : OpD K B (fun x y H Q => r x y H Q ∨ r' x y H Q) (fun d e => (g d e).or (g' d e)) := fun ρ σ H O x y d e z R a b k Q q => by
  cases hg : g d e with
  | some w =>
    have k : (g d e).or (g' d e) = some z := k
    rw [hg] at k
    cases k
    exact .inl (h ρ σ H O x y d e _ R a b hg Q q)
  | none =>
    have k : (g d e).or (g' d e) = some z := k
    rw [hg] at k
    exact .inr (h' ρ σ H O x y d e z R a b k Q q)
theorem opd_imp {r : R2} {g g' : D → D → Option D} (h : OpD K B r g) (f : ∀ d e z, g' d e = some z → g d e = some z) : OpD K B r g' := fun ρ σ H O x y d e z R a b k Q q => h ρ σ H O x y d e z R a b (f _ _ _ k) Q q
theorem opd_sub : OpD K B (rI0 fun i j => .int (i - j)) subD := opd_int0 fun d e z k => by
  obtain ⟨i, j, rfl, rfl, k2⟩ := iiD_some k
  cases k2
  exact ⟨i, j, rfl, rfl, fun _ => .int _⟩
theorem opd_mul : OpD K B (rI CMul fun i j => .int (i * j)) mulD := opd_int fun d e z k => by
  obtain ⟨i, j, rfl, rfl, k2⟩ := iiD_some k
  split at k2
  · rename_i c
    cases k2
    refine ⟨i, j, rfl, rfl, ?_, fun _ => .int _⟩
    unfold CMul
    simp only [show ((2 : Int) ^ 64) = 18446744073709551616 from by decide]
    exact c
  · cases k2
theorem log2_small {n : Nat} (h : n < 18446744073709551616) : n.log2 < 9000 := by
  by_cases z : n = 0
  · subst z; decide
  · exact (Nat.log2_lt z).mpr (Nat.lt_trans h (by
      have : (18446744073709551616 : Nat) = 2 ^ 64 := by decide
      rw [this]; exact Nat.pow_lt_pow_right (by decide) (by decide)))
theorem opd_div : OpD K B (rI CDivW fun i j => .int (i / j)) divD := opd_int fun d e z k => by
  obtain ⟨i, j, rfl, rfl, k2⟩ := iiD_some k
  split at k2
  · rename_i c
    cases k2
    exact ⟨i, j, rfl, rfl, ⟨c.1, log2_small (by omega)⟩, fun _ => .int _⟩
  · cases k2
theorem opd_mod : OpD K B (rI (fun _ j => 0 < j) fun i j => .int (i % j)) modD := opd_int fun d e z k => by
  obtain ⟨i, j, rfl, rfl, k2⟩ := iiD_some k
  split at k2
  · rename_i c
    cases k2
    exact ⟨i, j, rfl, rfl, c, fun _ => .int _⟩
  · cases k2
theorem opd_pow : OpD K B (rI CPow fun i j => .int (i ^ j.toNat)) powD := opd_int fun d e z k => by
  obtain ⟨i, j, rfl, rfl, k2⟩ := iiD_some k
  split at k2
  · rename_i c
    cases k2
    refine ⟨i, j, rfl, rfl, ⟨c.1, by omega, ?_⟩, fun _ => .int _⟩
    have : ((2 : Nat) ^ 64) = 18446744073709551616 := by decide
    rw [this]; omega
  · cases k2
theorem opd_cmp {h : Int → Int → Bool} : OpD K B (rI0 fun i j => .bl (h i j)) (iiD fun i j => some (.bool (h i j))) := opd_int0 fun d e z k => by
  obtain ⟨i, j, rfl, rfl, k2⟩ := iiD_some k
  cases k2
  exact ⟨i, j, rfl, rfl, fun _ => .bl _⟩
/-- a new tuple of the heap -/
theorem new_tup {H : Hp} {O : List Addr} {vs : List V} {ds : List D} {p : Addr} (hp : H p = none) (n : p ∉ O) (h : DqAll K (hid H O) vs ds) : Dq K (hid (upd H p (.tup vs)) O) (.ref p) (.tuple ds) :=
  .tup (SqT.of (by rw [hid_out n, upd_same])) (DqAll.mono (hid_grow (same_new _ hp)) _ _ h)
theorem new_lst {H : Hp} {O : List Addr} {vs : List V} {ds : List D} {p : Addr} (hp : H p = none) (h : DqAll K (hid H O) vs ds) : DqAll K (hid (upd H p (.lst vs)) (p :: O)) vs ds := DqAll.mono (hid_new _ hp) _ _ h
theorem opd_addI : OpD K B (rI0 fun i j => .int (i + j)) (iiD fun i j => some (.int (i + j))) := opd_int0 fun d e z k => by
  obtain ⟨i, j, rfl, rfl, k2⟩ := iiD_some k
  cases k2
  exact ⟨i, j, rfl, rfl, fun _ => .int _⟩
def rAddS : R2 := fun x y H Q => ∃ i j, x = .str i ∧ y = .str j ∧ i.length + j.length ≤ sizeLine ∧ Q (.str (i ++ j)) H
theorem opd_addS : OpD K B rAddS addS := fun ρ σ H O x y d e z R a b k Q q => by
  unfold addS at k
  split at k
  · rename_i i j
    split at k
    · rename_i c
      cases k
      cases a.str
      cases b.str
      exact ⟨i, j, rfl, rfl, line c, q _ H (Same.refl H) (.str _)⟩
    · cases k
  · cases k
theorem opd_addT : OpD K B (rCatA K) addT := fun ρ σ H O x y d e z R a b k Q q => by
  unfold addT at k
  split at k
  · rename_i xs ys
    split at k
    · rename_i c
      cases k
      obtain ⟨p, vs, rfl, hp, ap⟩ := a.tup
      obtain ⟨p2, vs2, rfl, hp2, ap2⟩ := b.tup
      have l1 := ap.length
      have l2 := ap2.length
      refine ⟨p, p2, vs, vs2, rfl, rfl, SqT.mono (hid_self H O) hp, SqT.mono (hid_self H O) hp2, line (by omega), fun e => ?_, fun _ e => ?_, fun _ _ r hr => q _ _ (same_new _ hr) (new_tup hr (R.fresh hr) (ap.append ap2))⟩
      · subst e
        cases ap
        exact q _ H (Same.refl H) (.tup hp2 ap2)
      · subst e
        cases ap2
        exact q _ H (Same.refl H) (by rw [List.append_nil]; exact .tup hp ap)
    · cases k
  · cases k
def rAddA (K : PySem.W.Frag) : R2 := fun x y H Q => rI0 (fun i j => .int (i + j)) x y H Q ∨ (rAddS x y H Q ∨ rCatA K x y H Q)
theorem opd_add : OpD K B (rAddA K) addD := opd_imp (opd_or opd_addI (opd_or opd_addS opd_addT)) fun d e z k => by
  unfold addD at k
  split at k
  · cases k; rfl
  · have k' : addS (.str _) (.str _) = some z := k
    show (Option.or none ((addS (.str _) (.str _)).or none)) = some z
    rw [k']; rfl
  · exact k
  · cases k
theorem op_addA {X : Cx} {K : PySem.W.Frag} (hk : X.K = K := by rfl) : OpR X (binaryOp .Add) (rAddA K) := by
  subst hk
  exact op_add.or (op_add_str.or op_catA)
end
/-! ### list + list: both tracked -/
def DM (K : PySem.W.Frag) (B : Bs) (t : TE) (f : En → Option (List D)) : Prop := ∀ ρ σ H O ds, RS K B ρ σ H O → f ρ = some ds → ∀ Q : VK, (∀ l vs H', Same H H' → H' l = some (.lst vs) → DqAll K (hid H' O) vs ds → Q (.ref l) H') → t σ H Q
structure XM (X : Cx) (B : Bs) (e : Expr) (t : TE) (f : En → Option (List D)) : Prop where
  pe : PE X e t
  de : DM B.K B t f
def mVar (i : Nat) : En → Option (List D) := fun ρ => match ρ[i]? with
  | some (some (.ow ds)) => some ds
  | some (some (.lr ds)) => some ds
  | _ => none
def lCat (f g : En → Option (List D)) : En → Option (List D) := fun ρ => (f ρ).bind fun xs => (g ρ).bind fun ys => if xs.length + ys.length ≤ 1000000 then some (xs ++ ys) else none
section
variable {K : PySem.W.Frag} {B : Bs} {ta tb : TE} {f g : En → Option (List D)}
theorem dm_var {i : Nat} : DM K B (tVar i) (mVar i) := fun ρ σ H O ds R e Q q => by
  unfold mVar at e
  split at e
  · rename_i ds' h
    cases e
    obtain ⟨v, a, l, vs, b1, b2, b3, b4, b5⟩ := R.slot _ _ h
    subst b1
    exact ⟨_, a, q l vs H (Same.refl H) b4 b5⟩
  · rename_i ds' h
    cases e
    obtain ⟨v, a, l, vs, b1, b2, b3⟩ := R.slot _ _ h
    subst b1
    exact ⟨_, a, q l vs H (Same.refl H) (of_hid b2).2 b3⟩
  · cases e
theorem DL.dm {t : TE} (h : DL K B t f) : DM K B t f := fun ρ σ H O ds R e Q q => h ρ σ H O ds R e Q fun l vs H' s n c a => q l vs H' s c (DqAll.mono (hid_less fun a ha => List.mem_cons_of_mem _ ha) _ _ a)
theorem dl_cat (ha : DM K B ta f) (hb : DM K B tb g) : DL K B (tOp rCat ta tb) (lCat f g) := fun ρ σ H O zs R e Q q => by
  obtain ⟨xs, h1, e⟩ := bind_some e
  obtain ⟨ys, h2, e⟩ := bind_some e
  split at e
  · rename_i c
    have e := Option.some.inj e
    subst e
    refine ha ρ σ H O xs R h1 _ fun l vs H1 s1 c1 a1 => hb ρ σ H1 O ys (R.grow s1) h2 _ fun b us H2 s2 c2 a2 => ?_
    have a1' := DqAll.mono (hid_grow (O := O) s2) _ _ a1
    refine ⟨l, b, vs, us, rfl, rfl, s2 _ _ c1, c2, line (by rw [a1.length, a2.length]; exact c), fun p hp => ?_⟩
    exact q p _ _ ((s1.trans s2).trans (same_new _ hp)) ((s1.trans s2).free hp) upd_same (new_lst hp (a1'.append a2))
  · cases e
end
section
variable {X : Cx} {B : Bs} {a b : Expr} {ta tb : TE} {f g : En → Option (List D)} {pos : Pos}
theorem XL.m (h : XL X B a ta f) : XM X B a ta f := ⟨h.pe, h.de.dm⟩
theorem m_var (i : Nat) {x : Str} {pos : Pos} (hN : X.N[i]? = some x := by rfl) (hv : Vis X.env.scope x := by first | exact Or.inl rfl | exact Or.inr (Or.inl rfl) | exact Or.inr (Or.inr rfl)) (hd : (x == ("__debug__" : Str)) = false := by decide)
    (hcd : (x == ("__classdict__" : Str)) = false := by decide) : XM X B (.Name x pos) (tVar i) (mVar i) := ⟨pe_var hN hv hd hcd, dm_var⟩
theorem l_cat (ha : XM X B a ta f) (hb : XM X B b tb g) : XL X B (.BinOp a .Add b pos) (tOp rCat ta tb) (lCat f g) := ⟨pe_op op_cat ha.pe hb.pe, dl_cat ha.de hb.de⟩
end

/-! ### list + list: any lists that are read -/
def rCatL (K : PySem.W.Frag) : R2 := fun x y H Q => ∃ l b xs zs, x = .ref l ∧ y = .ref b ∧ SqL K H l xs ∧ SqL K H b zs ∧ xs.length + zs.length ≤ sizeLine ∧ ∀ p, H p = none → Q (.ref p) (upd H p (.lst (xs ++ zs)))
theorem op_catL {X : Cx} {K : PySem.W.Frag} (hk : X.K = K := by rfl) : OpR X (binaryOp .Add) (rCatL K) := by
  subst hk
  intro pins s σ H x y v u Q I rx ry h
  obtain ⟨l, b, xs, zs, rfl, rfl, hH, hB, hz, q⟩ := h
  cases rx
  cases ry
  obtain ⟨its, r, hl, z1⟩ := I.list hH
  obtain ⟨its2, r2, hl2, z2⟩ := I.list hB
  obtain ⟨⟨cls, dd, data, sl⟩, n, ho, hc, hdd, hd⟩ := hl
  obtain ⟨⟨cls2, dd2, data2, sl2⟩, n2, ho2, hc2, hdd2, hd2⟩ := hl2
  simp only at hc hd hc2 hd2
  subst hc hd hc2 hd2
  have e : its.toArray ++ its2.toArray = (its ++ its2).toArray := by simp
  have k1 := r.length
  have k2 := r2.length
  refine concat_meets ⟨_, ho, rfl⟩ ⟨_, ho2, rfl⟩ noFill_list_add seq_list_add PySem.F.slot_list_add PySem.F.entry_list_add (PySem.F.args_list_add_2 _ _) (PyProof.Rows.list_addW l b its.toArray its2.toArray n n2 dd dd2 sl sl2 (by rw [List.size_toArray, List.size_toArray]; omega)) ⟨ho, ho2, ?_⟩
  rw [e]
  exact ⟨.ref _, _, I.lnew (t' := s.toks) (r.append r2) (by rw [List.length_append]; exact hz), rfl, q _ I.fresh⟩
def DN (K : PySem.W.Frag) (B : Bs) (t : TE) (f : En → Option (List D)) : Prop := ∀ ρ σ H O ds, RS K B ρ σ H O → f ρ = some ds → ∀ Q : VK, (∀ l vs H', Same H H' → SqL K H' l vs → DqAll K (hid H' O) vs ds → Q (.ref l) H') → t σ H Q
structure XN (X : Cx) (B : Bs) (e : Expr) (t : TE) (f : En → Option (List D)) : Prop where
  pe : PE X e t
  de : DN B.K B t f
def nVar (i : Nat) : En → Option (List D) := fun ρ => match ρ[i]? with
  | some (some (.ow ds)) => some ds
  | some (some (.lr ds)) => some ds
  | some (some (.ro (.list ds))) => some ds
  | _ => none
section
variable {K : PySem.W.Frag} {B : Bs} {ta tb : TE} {f g : En → Option (List D)}
theorem dn_var {i : Nat} : DN K B (tVar i) (nVar i) := fun ρ σ H O ds R e Q q => by
  unfold nVar at e
  split at e
  · rename_i ds' h
    cases e
    obtain ⟨v, a, l, vs, b1, b2, b3, b4, b5⟩ := R.slot _ _ h
    subst b1
    exact ⟨_, a, q l vs H (Same.refl H) (SqL.of b4) b5⟩
  · rename_i ds' h
    cases e
    obtain ⟨v, a, l, vs, b1, b2, b3⟩ := R.slot _ _ h
    subst b1
    exact ⟨_, a, q l vs H (Same.refl H) (SqL.of (of_hid b2).2) b3⟩
  · rename_i ds' h
    cases e
    obtain ⟨v, a, b⟩ := R.slot _ _ h
    obtain ⟨l, vs, rfl, b2, b3⟩ := Bo.list (H := H) (O := O) (.inl b)
    exact ⟨_, a, q l vs H (Same.refl H) b2 b3⟩
  · cases e
theorem DM.dn {t : TE} (h : DM K B t f) : DN K B t f := fun ρ σ H O ds R e Q q => h ρ σ H O ds R e Q fun l vs H' s c a => q l vs H' s (SqL.of c) a
theorem dl_catN (ha : DN K B ta f) (hb : DN K B tb g) : DL K B (tOp (rCatL K) ta tb) (lCat f g) := fun ρ σ H O zs R e Q q => by
  obtain ⟨xs, h1, e⟩ := bind_some e
  obtain ⟨ys, h2, e⟩ := bind_some e
  split at e
  · rename_i c
    have e := Option.some.inj e
    subst e
    refine ha ρ σ H O xs R h1 _ fun l vs H1 s1 c1 a1 => hb ρ σ H1 O ys (R.grow s1) h2 _ fun b us H2 s2 c2 a2 => ?_
    have a1' := DqAll.mono (hid_grow (O := O) s2) _ _ a1
    refine ⟨l, b, vs, us, rfl, rfl, SqL.mono s2 c1, c2, line (by rw [a1.length, a2.length]; exact c), fun p hp => ?_⟩
    exact q p _ _ ((s1.trans s2).trans (same_new _ hp)) ((s1.trans s2).free hp) upd_same (new_lst hp (a1'.append a2))
  · cases e
end
section
variable {X : Cx} {B : Bs} {a b : Expr} {ta tb : TE} {f g : En → Option (List D)} {pos : Pos}
theorem XL.n (h : XL X B a ta f) : XN X B a ta f := ⟨h.pe, h.de.dm.dn⟩
theorem n_var (i : Nat) {x : Str} {pos : Pos} (hN : X.N[i]? = some x := by rfl) (hv : Vis X.env.scope x := by first | exact Or.inl rfl | exact Or.inr (Or.inl rfl) | exact Or.inr (Or.inr rfl)) (hd : (x == ("__debug__" : Str)) = false := by decide)
    (hcd : (x == ("__classdict__" : Str)) = false := by decide) : XN X B (.Name x pos) (tVar i) (nVar i) := ⟨pe_var hN hv hd hcd, dn_var⟩
theorem l_catN (hk : X.K = B.K) (ha : XN X B a ta f) (hb : XN X B b tb g) : XL X B (.BinOp a .Add b pos) (tOp (rCatL B.K) ta tb) (lCat f g) := ⟨pe_op (op_catL hk) ha.pe hb.pe, dl_catN ha.de hb.de⟩
end

/-! ### == and != -/
def scD : D → D → Bool
  | .none, .none => true | .none, .int _ => true | .int _, .none => true | .none, .bool _ => true | .bool _, .none => true | .none, .str _ => true | .str _, .none => true
  | .int _, .int _ => true | .bool _, .bool _ => true | .str _, .str _ => true
  | .int _, .str _ => true | .str _, .int _ => true | .bool _, .str _ => true | .str _, .bool _ => true
  | _, _ => false
def eqOk (n : Nat) (d e : D) : Bool := scD d e || (PyData.canLay0 d && PyData.canLay0 e && decide (min d.depth e.depth ≤ n))
def eqD (n : Nat) (d e : D) : Option D := if eqOk n d e = true then some (.bool (PyData.eqv d e)) else none
def neD (n : Nat) (d e : D) : Option D := if eqOk n d e = true then some (.bool (!PyData.eqv d e)) else none
def rEqN (K : PySem.W.Frag) (n : Nat) : R2 := fun x y H Q => ∃ d e, Dp K H x d ∧ Dp K H y e ∧ PyData.canLay0 d = true ∧ PyData.canLay0 e = true ∧ min d.depth e.depth ≤ n ∧ Q (.bl (PyData.eqv d e)) H
def rNeN (K : PySem.W.Frag) (n : Nat) : R2 := fun x y H Q => ∃ d e, Dp K H x d ∧ Dp K H y e ∧ PyData.canLay0 d = true ∧ PyData.canLay0 e = true ∧ min d.depth e.depth ≤ n ∧ Q (.bl (!PyData.eqv d e)) H
theorem op_eqN {X : Cx} {n : Nat} (hu : X.A.units + n < cLine) : OpR X (compareOp .Eq) (rEqN X.K n) := by
  intro pins s σ H x y v u Q I rx ry h
  obtain ⟨d, e, hd, he, sd, se, m, q⟩ := h
  obtain ⟨as, r1⟩ := Dp.reads I d x v hd rx
  obtain ⟨bs, r2⟩ := Dp.reads I e y u he ry
  exact SeqAt.compareEq_reads r1 r2 sd se (by omega) ⟨.bl _, H, I, rfl, q⟩
theorem op_neN {X : Cx} {n : Nat} (hu : X.A.units + n < cLine) : OpR X (compareOp .NotEq) (rNeN X.K n) := by
  intro pins s σ H x y v u Q I rx ry h
  obtain ⟨d, e, hd, he, sd, se, m, q⟩ := h
  obtain ⟨as, r1⟩ := Dp.reads I d x v hd rx
  obtain ⟨bs, r2⟩ := Dp.reads I e y u he ry
  exact SeqAt.compareNe_reads r1 r2 sd se (by omega) ⟨.bl _, H, I, rfl, q⟩
def rEqA (K : PySem.W.Frag) (n : Nat) : R2 := fun x y H Q => rEq x y H Q ∨ rEqN K n x y H Q
def rNeA (K : PySem.W.Frag) (n : Nat) : R2 := fun x y H Q => rNe x y H Q ∨ rNeN K n x y H Q
theorem op_eqA {X : Cx} {K : PySem.W.Frag} {n : Nat} (hu : X.A.units + n < cLine) (hk : X.K = K := by rfl) : OpR X (compareOp .Eq) (rEqA K n) := by
  subst hk
  exact op_eq.or (op_eqN hu)
theorem op_neA {X : Cx} {K : PySem.W.Frag} {n : Nat} (hu : X.A.units + n < cLine) (hk : X.K = K := by rfl) : OpR X (compareOp .NotEq) (rNeA K n) := by
  subst hk
  exact op_ne.or (op_neN hu)
section
variable {K : PySem.W.Frag} {B : Bs}
theorem scD_v {H : Hp} {O : List Addr} {x y : V} {d e : D} (h : scD d e = true) (a : Bo K H O x d) (b : Bo K H O y e) : scal x y = true ∧ decide (x = y) = PyData.eqv d e := by
  unfold scD at h
  split at h
  all_goals first
    | exact absurd h Bool.false_ne_true
    | (first | have a := a.non | have a := a.int | have a := a.bl | have a := a.str
       first | have b := b.non | have b := b.int | have b := b.bl | have b := b.str
       subst a b
       refine ⟨rfl, ?_⟩
       first
         | rfl
         | (simp only [PyData.eqv]; rw [Bool.eq_iff_iff]; simp)
         | simp [PyData.eqv])
theorem opd_eq {n : Nat} : OpD K B (rEqA K n) (eqD n) := fun ρ σ H O x y d e z R a b k Q q => by
  unfold eqD at k
  split at k
  · rename_i c
    have k := Option.some.inj k
    subst k
    by_cases hs : scD d e = true
    · obtain ⟨h1, h2⟩ := scD_v hs a b
      exact .inl ⟨h1, q _ H (Same.refl H) (by rw [h2]; exact .bl _)⟩
    · unfold eqOk at c
      rw [Bool.eq_false_iff.mpr hs, Bool.false_or, Bool.and_eq_true, Bool.and_eq_true] at c
      exact .inr ⟨d, e, Dq.toDp _ _ c.1.1 a.full, Dq.toDp _ _ c.1.2 b.full, c.1.1, c.1.2, of_decide_eq_true c.2, q _ H (Same.refl H) (.bl _)⟩
  · cases k
theorem opd_ne {n : Nat} : OpD K B (rNeA K n) (neD n) := fun ρ σ H O x y d e z R a b k Q q => by
  unfold neD at k
  split at k
  · rename_i c
    have k := Option.some.inj k
    subst k
    by_cases hs : scD d e = true
    · obtain ⟨h1, h2⟩ := scD_v hs a b
      exact .inl ⟨h1, q _ H (Same.refl H) (by rw [h2]; exact .bl _)⟩
    · unfold eqOk at c
      rw [Bool.eq_false_iff.mpr hs, Bool.false_or, Bool.and_eq_true, Bool.and_eq_true] at c
      exact .inr ⟨d, e, Dq.toDp _ _ c.1.1 a.full, Dq.toDp _ _ c.1.2 b.full, c.1.1, c.1.2, of_decide_eq_true c.2, q _ H (Same.refl H) (.bl _)⟩
  · cases k
/-- is None, is not None; is True .. -/
def isND (neg : Bool) : D → D → Option D := fun d e => match d, e with
  | .none, .none => some (.bool (!neg))
  | _, .none => some (.bool neg)
  | .bool a, .bool b => some (.bool (decide (a = b) != neg))
  | _, _ => none
def rIsA : R2 := fun x y H Q => (y = .non ∧ Q (.bl (decide (x = .non))) H) ∨ rIsB x y H Q
def rNotA : R2 := fun x y H Q => (y = .non ∧ Q (.bl (!decide (x = .non))) H) ∨ rNotB x y H Q
theorem op_isA {X : Cx} : OpR X (compareOp .Is) rIsA := op_isN.or op_isBl
theorem op_notA {X : Cx} : OpR X (compareOp .IsNot) rNotA := op_notN.or op_notBl
theorem opd_is : OpD K B rIsA (isND false) := fun ρ σ H O x y d e z R a b k Q q => by
  unfold isND at k
  split at k
  · cases k
    exact .inl ⟨b.non, q _ H (Same.refl H) (by rw [a.ne_non]; exact .bl _)⟩
  · rename_i hn
    cases k
    refine .inl ⟨b.non, q _ H (Same.refl H) ?_⟩
    rw [a.ne_non]
    cases d <;> first | exact .bl _ | exact absurd rfl hn
  · cases k
    exact .inr ⟨_, _, a.bl, b.bl, q _ H (Same.refl H) (by rw [Bool.bne_false]; exact .bl _)⟩
  · cases k
theorem opd_isnot : OpD K B rNotA (isND true) := fun ρ σ H O x y d e z R a b k Q q => by
  unfold isND at k
  split at k
  · cases k
    exact .inl ⟨b.non, q _ H (Same.refl H) (by rw [a.ne_non]; exact .bl _)⟩
  · rename_i hn
    cases k
    refine .inl ⟨b.non, q _ H (Same.refl H) ?_⟩
    rw [a.ne_non]
    cases d <;> first | exact .bl _ | exact absurd rfl hn
  · cases k
    exact .inr ⟨_, _, a.bl, b.bl, q _ H (Same.refl H) (by rw [Bool.bne_true]; exact .bl _)⟩
  · cases k
end

/-! ### the rules: two operands -/
section
variable {X : Cx} {B : Bs} {a b : Expr} {ta tb : TE} {f f' : En → Option D} {pos : Pos}
theorem x_add (ha : XB X B a ta f) (hb : XB X B b tb f') (hk : X.K = B.K := by rfl) : XE X B (.BinOp a .Add b pos) (tOp (rAddA B.K) ta tb) (e2 addD f f') := ⟨pe_op (op_addA hk) ha.pe hb.pe, de_op opd_add ha.de hb.de⟩
theorem x_sub (ha : XE X B a ta f) (hb : XE X B b tb f') : XE X B (.BinOp a .Sub b pos) (tOp (rI0 fun i j => .int (i - j)) ta tb) (e2 subD f f') := ⟨pe_op op_sub ha.pe hb.pe, de_op opd_sub ha.de.db hb.de.db⟩
theorem x_mul (ha : XE X B a ta f) (hb : XE X B b tb f') : XE X B (.BinOp a .Mult b pos) (tOp (rI CMul fun i j => .int (i * j)) ta tb) (e2 mulD f f') := ⟨pe_op op_mul ha.pe hb.pe, de_op opd_mul ha.de.db hb.de.db⟩
theorem x_div (ha : XE X B a ta f) (hb : XE X B b tb f') : XE X B (.BinOp a .FloorDiv b pos) (tOp (rI CDivW fun i j => .int (i / j)) ta tb) (e2 divD f f') := ⟨pe_op op_fdivW ha.pe hb.pe, de_op opd_div ha.de.db hb.de.db⟩
theorem x_mod (ha : XE X B a ta f) (hb : XE X B b tb f') : XE X B (.BinOp a .Mod b pos) (tOp (rI (fun _ j => 0 < j) fun i j => .int (i % j)) ta tb) (e2 modD f f') := ⟨pe_op op_mod ha.pe hb.pe, de_op opd_mod ha.de.db hb.de.db⟩
theorem x_pow (ha : XE X B a ta f) (hb : XE X B b tb f') : XE X B (.BinOp a .Pow b pos) (tOp (rI CPow fun i j => .int (i ^ j.toNat)) ta tb) (e2 powD f f') := ⟨pe_op op_pow ha.pe hb.pe, de_op opd_pow ha.de.db hb.de.db⟩
/-- a comparison, as a value, as a test -/
theorem x_cmp {op : CmpOp} {r : R2} {g : D → D → Option D} (ho : OpR X (compareOp op) r) (hr : OpD B.K B r g) (hm : behindInMarks op b = false) (ha : XB X B a ta f) (hb : XB X B b tb f') : XE X B (.Compare a [op] [b] pos) (tOp r ta tb) (e2 g f f') :=
  ⟨pe_cmpR ho ha.pe hb.pe hm, de_op hr ha.de hb.de⟩
def asB (f : En → Option D) : En → Option Bool := fun ρ => match f ρ with
  | some (.bool b) => some b
  | _ => none
theorem asB_some {f : En → Option D} {ρ : En} {b : Bool} (h : asB f ρ = some b) : f ρ = some (.bool b) := by
  unfold asB at h
  split at h
  · rename_i e; cases h; exact e
  · cases h
theorem dt_test {K : PySem.W.Frag} {t : TE} {f : En → Option D} (h : DE K B t f) : DT K B (tTest t) (asB f) := fun ρ σ H O b R e Q q => by
  refine h ρ σ H O _ R (asB_some e) _ fun v H' s x => ?_
  cases x
  exact ⟨b, rfl, q H' s⟩
theorem dt_tB {K : PySem.W.Frag} {t : TE} {f : En → Option D} (h : DE K B t f) : DT K B (tB t) (asB f) := fun ρ σ H O b R e Q q => by
  refine h ρ σ H O _ R (asB_some e) _ fun v H' s x => ?_
  cases x
  exact ⟨b, rfl, q H' s⟩
theorem t_cmp {op : CmpOp} {r : R2} {g : D → D → Option D} (ho : OpR X (compareOp op) r) (hr : OpD B.K B r g) (hm : behindInMarks op b = false) (ha : XB X B a ta f) (hb : XB X B b tb f') : XT X B (.Compare a [op] [b] pos) (tTest (tOp r ta tb)) (asB (e2 g f f')) :=
  ⟨pt_cmpR ho ha.pe hb.pe hm, dt_test (de_op hr ha.de hb.de)⟩
theorem t_val {e : Expr} {t : TE} (h : XE X B e t f) (he : ∀ whole, isTrue e X.env whole = (do let v ← whole; standAt e.pos; holding [v] (truthy v)) := by intro _; rfl) : XT X B e (tB t) (asB f) := ⟨pt_val h.pe he, dt_tB h.de⟩
end
end Z

set_option Elab.async false
set_option maxRecDepth 100000
set_option maxHeartbeats 4000000
set_option linter.all false
/-! Z2: logic, displays, places, slices, walks, comprehensions, calls -/
namespace Z
open PySem PySem.Spec PyProof.Rows L2

/-! ### and, or, not -/
def eAnd (f g : En → Option D) : En → Option D := fun ρ => match f ρ with
  | some (.bool true) => g ρ
  | some (.bool false) => some (.bool false)
  | _ => none
def eOr (f g : En → Option D) : En → Option D := fun ρ => match f ρ with
  | some (.bool true) => some (.bool true)
  | some (.bool false) => g ρ
  | _ => none
def notD : D → Option D
  | .bool b => some (.bool (!b))
  | _ => none
def bAnd (f g : En → Option Bool) : En → Option Bool := fun ρ => (f ρ).bind fun b => if b = true then g ρ else some false
def bOr (f g : En → Option Bool) : En → Option Bool := fun ρ => (f ρ).bind fun b => if b = true then some true else g ρ
def bNot (f : En → Option Bool) : En → Option Bool := fun ρ => (f ρ).map (!·)
section
variable {K : PySem.W.Frag} {B : Bs} {ta tb : TE} {t u : TT} {f f' : En → Option D} {g g' : En → Option Bool}
theorem de_and (ha : DE K B ta f) (hb : DE K B tb f') : DE K B (tAndV ta tb) (eAnd f f') := fun ρ σ H O d R e Q q => by
  unfold eAnd at e
  split at e
  · rename_i h
    refine ha ρ σ H O _ R h _ fun v H1 s x => ?_
    cases x
    exact ⟨true, rfl, iteT (hb ρ σ H1 O d (R.grow s) e Q fun v H2 s2 y => q v H2 (s.trans s2) y)⟩
  · rename_i h
    cases e
    refine ha ρ σ H O _ R h _ fun v H1 s x => ?_
    cases x
    exact ⟨false, rfl, iteF (q _ H1 s (.bl _))⟩
  · cases e
theorem de_or (ha : DE K B ta f) (hb : DE K B tb f') : DE K B (tOrV ta tb) (eOr f f') := fun ρ σ H O d R e Q q => by
  unfold eOr at e
  split at e
  · rename_i h
    cases e
    refine ha ρ σ H O _ R h _ fun v H1 s x => ?_
    cases x
    exact ⟨true, rfl, iteT (q _ H1 s (.bl _))⟩
  · rename_i h
    refine ha ρ σ H O _ R h _ fun v H1 s x => ?_
    cases x
    exact ⟨false, rfl, iteF (hb ρ σ H1 O d (R.grow s) e Q fun v H2 s2 y => q v H2 (s.trans s2) y)⟩
  · cases e
theorem de_not (ha : DE K B ta f) : DE K B (tNotV ta) (e1 notD f) := fun ρ σ H O d R e Q q => by
  obtain ⟨z, h, e⟩ := bind_some e
  unfold notD at e
  split at e
  · cases e
    refine ha ρ σ H O _ R h _ fun v H1 s x => ?_
    cases x
    exact ⟨_, rfl, q _ H1 s (.bl _)⟩
  · cases e
theorem dt_and (ha : DT K B t g) (hb : DT K B u g') : DT K B (tAnd t u) (bAnd g g') := fun ρ σ H O b R e Q q => by
  obtain ⟨c, h, e⟩ := bind_some e
  refine ha ρ σ H O c R h _ fun H1 s => ?_
  cases c
  · have e : some false = some b := e
    cases e
    exact iteF (q H1 s)
  · exact iteT (hb ρ σ H1 O b (R.grow s) e Q fun H2 s2 => q H2 (s.trans s2))
theorem dt_or (ha : DT K B t g) (hb : DT K B u g') : DT K B (tOr t u) (bOr g g') := fun ρ σ H O b R e Q q => by
  obtain ⟨c, h, e⟩ := bind_some e
  refine ha ρ σ H O c R h _ fun H1 s => ?_
  cases c
  · exact iteF (hb ρ σ H1 O b (R.grow s) e Q fun H2 s2 => q H2 (s.trans s2))
  · have e : some true = some b := e
    cases e
    exact iteT (q H1 s)
theorem dt_not (ha : DT K B t g) : DT K B (tNot t) (bNot g) := fun ρ σ H O b R e Q q => by
  obtain ⟨c, h, e⟩ := map_some e
  subst e
  exact ha ρ σ H O c R h _ fun H1 s => q H1 s
end
section
variable {X : Cx} {B : Bs} {a b : Expr} {rest : List Expr} {ta tb : TE} {t u : TT} {f f' : En → Option D} {g g' : En → Option Bool} {pos : Pos}
theorem x_one {op} (h : XE X B a ta f) : XE X B (.BoolOp op [a] pos) ta f := ⟨pe_one h.pe, h.de⟩
theorem x_and (ha : XE X B a ta f) (hb : XE X B (.BoolOp .And (b :: rest) pos) tb f') : XE X B (.BoolOp .And (a :: b :: rest) pos) (tAndV ta tb) (eAnd f f') := ⟨pe_and ha.pe hb.pe, de_and ha.de hb.de⟩
theorem x_or (ha : XE X B a ta f) (hb : XE X B (.BoolOp .Or (b :: rest) pos) tb f') : XE X B (.BoolOp .Or (a :: b :: rest) pos) (tOrV ta tb) (eOr f f') := ⟨pe_or ha.pe hb.pe, de_or ha.de hb.de⟩
theorem x_not (ha : XE X B a ta f) : XE X B (.UnaryOp .Not a pos) (tNotV ta) (e1 notD f) := ⟨pe_not ha.pe, de_not ha.de⟩
theorem w_and1 (h : XT X B a t g) : XW X B (.BoolOp .And [a] pos) t g := ⟨pw_and1 h.pe, h.de⟩
theorem w_or1 (h : XT X B a t g) : XW X B (.BoolOp .Or [a] pos) t g := ⟨pw_or1 h.pe, h.de⟩
theorem w_and (ha : XT X B a t g) (hb : XW X B (.BoolOp .And (b :: rest) pos) u g') : XW X B (.BoolOp .And (a :: b :: rest) pos) (tAnd t u) (bAnd g g') := ⟨pw_and ha.pe hb.pe, dt_and ha.de hb.de⟩
theorem w_or (ha : XT X B a t g) (hb : XW X B (.BoolOp .Or (b :: rest) pos) u g') : XW X B (.BoolOp .Or (a :: b :: rest) pos) (tOr t u) (bOr g g') := ⟨pw_or ha.pe hb.pe, dt_or ha.de hb.de⟩
theorem t_w (h : XW X B a t g) : XT X B a t g := ⟨h.pe.pt, h.de⟩
theorem t_not (h : XT X B a t g) : XT X B (.UnaryOp .Not a pos) (tNot t) (bNot g) := ⟨pt_not h.pe, dt_not h.de⟩
/-- -e -/
def negD : D → Option D
  | .int i => some (.int (-i))
  | _ => none
theorem de_neg {K : PySem.W.Frag} (ha : DE K B ta f) : DE K B (tUn (rU fun i => .int (-i)) ta) (e1 negD f) := fun ρ σ H O d R e Q q => by
  obtain ⟨z, h, e⟩ := bind_some e
  unfold negD at e
  split at e
  · cases e
    refine ha ρ σ H O _ R h _ fun v H1 s x => ?_
    cases x
    exact ⟨_, rfl, q _ H1 s (.int _)⟩
  · cases e
theorem x_neg (ha : XE X B a ta f) : XE X B (.UnaryOp .USub a pos) (tUn (rU fun i => .int (-i)) ta) (e1 negD f) := ⟨pe_un un_neg ha.pe, de_neg ha.de⟩
end

/-! ### arguments, displays -/
def aNil : En → Option (List D) := fun _ => some []
def aCons (f : En → Option D) (g : En → Option (List D)) : En → Option (List D) := fun ρ => (f ρ).bind fun d => (g ρ).bind fun ds => some (d :: ds)
def eTup (f : En → Option (List D)) : En → Option D := fun ρ => (f ρ).bind fun ds => if ds.length ≤ 1000000 then some (.tuple ds) else none
def lLst (f : En → Option (List D)) : En → Option (List D) := fun ρ => (f ρ).bind fun ds => if ds.length ≤ 1000000 then some ds else none
section
variable {K : PySem.W.Frag} {B : Bs} {te : TE} {ta : TA} {f : En → Option D} {g : En → Option (List D)}
theorem da_nil : DA K B tNil aNil := fun ρ σ H O ds R e Q q => by
  have e : [] = ds := Option.some.inj e
  subst e
  exact q [] H (Same.refl H) .nil
theorem da_cons (hf : DE K B te f) (hg : DA K B ta g) : DA K B (tCons te ta) (aCons f g) := fun ρ σ H O ds R e Q q => by
  obtain ⟨d, h1, e⟩ := bind_some e
  obtain ⟨es, h2, e⟩ := bind_some e
  have e : d :: es = ds := Option.some.inj e
  subst e
  refine hf ρ σ H O d R h1 _ fun v H1 s x => hg ρ σ H1 O es (R.grow s) h2 _ fun vs H2 s2 y => ?_
  exact q _ H2 (s.trans s2) (.cons (Dq.mono (hid_grow s2) _ _ x) y)
theorem dab_nil : DAB K B tNil aNil := fun ρ σ H O ds R e Q q => by
  have e : [] = ds := Option.some.inj e
  subst e
  exact q [] H (Same.refl H) .nil
theorem dab_cons (hf : DB K B te f) (hg : DAB K B ta g) : DAB K B (tCons te ta) (aCons f g) := fun ρ σ H O ds R e Q q => by
  obtain ⟨d, h1, e⟩ := bind_some e
  obtain ⟨es, h2, e⟩ := bind_some e
  have e : d :: es = ds := Option.some.inj e
  subst e
  refine hf ρ σ H O d R h1 _ fun v H1 s x => hg ρ σ H1 O es (R.grow s) h2 _ fun vs H2 s2 y => ?_
  exact q _ H2 (s.trans s2) (.cons (x.grow (R.grow s) s2) y)
theorem de_tup (h : DA K B ta g) : DE K B (tTup ta) (eTup g) := fun ρ σ H O d R e Q q => by
  obtain ⟨ds, h1, e⟩ := bind_some e
  split at e
  · rename_i c
    cases e
    refine h ρ σ H O ds R h1 _ fun vs H1 s x => ⟨line (by rw [x.length]; exact c), fun p hp => ?_⟩
    exact q _ _ (s.trans (same_new _ hp)) (new_tup hp ((R.grow s).fresh hp) x)
  · cases e
theorem dl_lst (h : DA K B ta g) : DL K B (tLst ta) (lLst g) := fun ρ σ H O d R e Q q => by
  obtain ⟨ds, h1, e⟩ := bind_some e
  split at e
  · rename_i c
    have e := Option.some.inj e
    subst e
    refine h ρ σ H O ds R h1 _ fun vs H1 s x => ⟨line (by rw [x.length]; exact c), fun p hp => ?_⟩
    exact q _ vs _ (s.trans (same_new _ hp)) (s.free hp) upd_same (new_lst hp x)
  · cases e
end
section
variable {X : Cx} {B : Bs} {ex : Expr} {es : List Expr} {te : TE} {t : TA} {f : En → Option D} {g : En → Option (List D)} {pos : Pos}
theorem a_nil : XA X B [] tNil aNil := ⟨pa_nil, da_nil⟩
theorem a_cons (ha : XE X B ex te f) (hr : XA X B es t g) (hs : starEach (ex :: es) X.env = (false, eval ex X.env) :: starEach es X.env := by rfl) : XA X B (ex :: es) (tCons te t) (aCons f g) := ⟨pa_cons ha.pe hr.pe hs, da_cons ha.de hr.de⟩
theorem ab_nil : XAB X B [] tNil aNil := ⟨pa_nil, dab_nil⟩
theorem ab_cons (ha : XB X B ex te f) (hr : XAB X B es t g) (hs : starEach (ex :: es) X.env = (false, eval ex X.env) :: starEach es X.env := by rfl) : XAB X B (ex :: es) (tCons te t) (aCons f g) := ⟨pa_cons ha.pe hr.pe hs, dab_cons ha.de hr.de⟩
theorem x_tup {x1} (h : XA X B es t g) : XE X B (.Tuple es x1 pos) (tTup t) (eTup g) := ⟨pe_tup h.pe, de_tup h.de⟩
theorem l_lst (h : XA X B es t g) : XL X B (.List es pos) (tLst t) (lLst g) := ⟨pe_lst h.pe, dl_lst h.de⟩
end

/-! ### places -/
def ixD (d e : D) : Option D := match d, e with
  | .list ds, .int i => atI ds i
  | .tuple ds, .int i => atI ds i
  | .str z, .int i => if z.length ≤ 1000000 then (atI z.cps.toList i).map fun c => .str ⟨#[c]⟩ else none
  | _, _ => none
theorem atI_all {K : PySem.W.Frag} {G : Hp} {vs : List V} {ds : List D} (h : DqAll K G vs ds) {i : Int} {d : D} (e : atI ds i = some d) : ∃ v, atI vs i = some v ∧ Dq K G v d := by
  unfold atI at e ⊢
  obtain ⟨j, h1, h2⟩ := bind_some e
  obtain ⟨v, h3, h4⟩ := h.get h2
  rw [h.length, h1]
  exact ⟨v, h3, h4⟩
section
variable {K : PySem.W.Frag} {B : Bs}
theorem opd_ix : OpD K B (rIx K) ixD := fun ρ σ H O x y d e z R a b k Q q => by
  unfold ixD at k
  split at k
  · rename_i ds i
    obtain ⟨p, vs, rfl, hp, ap⟩ := a.list
    cases b.int
    obtain ⟨v, h1, h2⟩ := atI_all ap k
    exact .inl ⟨p, vs, i, v, rfl, rfl, hp, h1, q v H (Same.refl H) h2⟩
  · rename_i ds i
    obtain ⟨p, vs, rfl, hp, ap⟩ := a.tup
    cases b.int
    obtain ⟨v, h1, h2⟩ := atI_all ap k
    exact .inr (.inl ⟨p, vs, i, v, rfl, rfl, SqT.mono (hid_self H O) hp, h1, q v H (Same.refl H) h2⟩)
  · rename_i w i
    split at k
    · rename_i c
      obtain ⟨n, h1, h2⟩ := map_some k
      subst h2
      cases a.str
      cases b.int
      exact .inr (.inr ⟨w, i, n, rfl, rfl, line c, h1, q _ H (Same.refl H) (.str _)⟩)
    · cases k
  · cases k
end
section
variable {X : Cx} {B : Bs} {a b : Expr} {ta tb : TE} {f f' : En → Option D} {pos : Pos}
theorem x_ix (ha : XB X B a ta f) (hb : XE X B b tb f') (hs : PlainIx b := by intro _ _; rfl) (hk : X.K = B.K := by rfl) : XE X B (.Subscript a b pos) (tOp (rIx B.K) ta tb) (e2 ixD f f') := ⟨hk ▸ pe_ix ix_seq ha.pe hb.pe hs, de_op opd_ix ha.de hb.de.db⟩
end

/-! ### slices -/
def oNone : En → Option (Option Int) := fun _ => some none
def oSome (f : En → Option D) : En → Option (Option Int) := fun ρ => match f ρ with
  | some (.int i) => some (some i)
  | _ => none
def DO (K : PySem.W.Frag) (B : Bs) (t : TO) (f : En → Option (Option Int)) : Prop := ∀ ρ σ H O o, RS K B ρ σ H O → f ρ = some o → ∀ Q : Option Int → Hp → Prop, (∀ H', Same H H' → Q o H') → t σ H Q
structure XO (X : Cx) (B : Bs) (e : Option Expr) (t : TO) (f : En → Option (Option Int)) : Prop where
  pe : PO X e t
  de : DO B.K B t f
def cutD {α : Type} (xs : List α) (lo hi : Option Int) : List α := (xs.drop (HT.sIx xs.length 0 lo)).take (HT.sIx xs.length xs.length hi - HT.sIx xs.length 0 lo)
theorem cut_all {K : PySem.W.Frag} {G : Hp} {vs : List V} {ds : List D} (h : DqAll K G vs ds) (lo hi : Option Int) : DqAll K G (cutV vs lo hi) (cutD ds lo hi) := by
  unfold cutV cutD
  rw [h.length]
  exact (h.drop _).take _
def slD (d : D) (lo hi : Option Int) : Option D := match d with
  | .tuple ds => some (.tuple (cutD ds lo hi))
  | .str z => if z.length ≤ 1000000 then some (.str (cutS z lo hi)) else none
  | .list ds => some (.list (cutD ds lo hi))
  | _ => none
def slL (d : D) (lo hi : Option Int) : Option (List D) := match d with
  | .list ds => some (cutD ds lo hi)
  | _ => none
def e3 {α : Type} (g : D → Option Int → Option Int → Option α) (f : En → Option D) (fl fh : En → Option (Option Int)) : En → Option α := fun ρ => (f ρ).bind fun d => (fl ρ).bind fun l => (fh ρ).bind fun h => g d l h
def rSlX (K : PySem.W.Frag) : V → Option Int → Option Int → Hp → VK → Prop := fun x lo hi H Q => L2.rSlA K x lo hi H Q ∨ (rSlS x lo hi H Q ∨ rSlL K x lo hi H Q)
section
variable {K : PySem.W.Frag} {B : Bs} {te : TE} {tl th : TO} {f : En → Option D} {fl fh : En → Option (Option Int)}
theorem do_none : DO K B tNoPart oNone := fun ρ σ H O o R e Q q => by
  have e : none = o := Option.some.inj e
  subst e
  exact q H (Same.refl H)
theorem do_some (h : DE K B te f) : DO K B (tPart te) (oSome f) := fun ρ σ H O o R e Q q => by
  unfold oSome at e
  split at e
  · rename_i hf
    cases e
    refine h ρ σ H O _ R hf _ fun v H1 s x => ?_
    cases x
    exact ⟨_, rfl, q H1 s⟩
  · cases e
theorem de_sl (he : DB K B te f) (hl : DO K B tl fl) (hh : DO K B th fh) : DE K B (tSl (rSlX K) te tl th) (e3 slD f fl fh) := fun ρ σ H O z R e Q q => by
  obtain ⟨d, h1, e⟩ := bind_some e
  obtain ⟨l, h2, e⟩ := bind_some e
  obtain ⟨h, h3, e⟩ := bind_some e
  refine he ρ σ H O d R h1 _ fun v H1 s1 x => hl ρ σ H1 O l (R.grow s1) h2 _ fun H2 s2 => hh ρ σ H2 O h (R.grow (s1.trans s2)) h3 _ fun H3 s3 => ?_
  have R3 := R.grow (s1.trans (s2.trans s3))
  have x := x.grow (R.grow s1) (s2.trans s3)
  unfold slD at e
  split at e
  · rename_i ds
    cases e
    obtain ⟨p, vs, rfl, hp, ap⟩ := x.tup
    refine .inl ⟨p, vs, rfl, SqT.mono (hid_self _ _) hp, fun c => ?_, fun _ r hr => ?_⟩
    · refine q _ _ (s1.trans (s2.trans s3)) ?_
      rw [ap.length] at c
      unfold cutD
      rw [c.1, c.2, List.drop_zero, Nat.sub_zero, List.take_length]
      exact .tup hp ap
    · exact q _ _ ((s1.trans (s2.trans s3)).trans (same_new _ hr)) (new_tup hr (R3.fresh hr) (cut_all ap l h))
  · rename_i w
    split at e
    · rename_i c
      cases e
      cases x.str
      exact .inr (.inl ⟨_, rfl, line c, q _ _ (s1.trans (s2.trans s3)) (.str _)⟩)
    · cases e
  · rename_i ds
    cases e
    obtain ⟨p, vs, rfl, hp, ap⟩ := x.list
    have ss := s1.trans (s2.trans s3)
    refine .inr (.inr ⟨p, vs, rfl, hp, fun r hr => q _ _ (ss.trans (same_new _ hr)) (.lst (SqL.of ?_) (DqAll.mono (hid_grow (same_new _ hr)) _ _ (cut_all ap l h)))⟩)
    rw [hid_out (R3.fresh hr), upd_same]
  · cases e
theorem dl_sl (he : DB K B te f) (hl : DO K B tl fl) (hh : DO K B th fh) : DL K B (tSl (rSlL K) te tl th) (e3 slL f fl fh) := fun ρ σ H O z R e Q q => by
  obtain ⟨d, h1, e⟩ := bind_some e
  obtain ⟨l, h2, e⟩ := bind_some e
  obtain ⟨h, h3, e⟩ := bind_some e
  refine he ρ σ H O d R h1 _ fun v H1 s1 x => hl ρ σ H1 O l (R.grow s1) h2 _ fun H2 s2 => hh ρ σ H2 O h (R.grow (s1.trans s2)) h3 _ fun H3 s3 => ?_
  have x := x.grow (R.grow s1) (s2.trans s3)
  have ss := s1.trans (s2.trans s3)
  unfold slL at e
  split at e
  · rename_i ds
    have e := Option.some.inj e
    subst e
    obtain ⟨p, vs, rfl, hp, ap⟩ := x.list
    exact ⟨p, vs, rfl, hp, fun r hr => q r _ _ (ss.trans (same_new _ hr)) (ss.free hr) upd_same (new_lst hr (cut_all ap l h))⟩
  · cases e
end
section
variable {X : Cx} {B : Bs} {ex : Expr} {lo hi : Option Expr} {te : TE} {tl th : TO} {f : En → Option D} {fl fh : En → Option (Option Int)} {pos p2 : Pos}
theorem o_none : XO X B none tNoPart oNone := ⟨po_none, do_none⟩
theorem o_some (h : XE X B ex te f) : XO X B (some ex) (tPart te) (oSome f) := ⟨po_some h.pe, do_some h.de⟩
/-- a slice of a tuple (not the whole) or a text; of a list: a new one -/
theorem x_sl (he : XB X B ex te f) (hl : XO X B lo tl fl) (hh : XO X B hi th fh) (hk : X.K = B.K := by rfl) : XE X B (.Subscript ex (.Slice lo hi none p2) pos) (tSl (rSlX B.K) te tl th) (e3 slD f fl fh) := ⟨hk ▸ pe_slice (SlR.or sl_tupA (SlR.or sl_str sl_list)) he.pe hl.pe hh.pe, de_sl he.de hl.de hh.de⟩
theorem l_sl (he : XB X B ex te f) (hl : XO X B lo tl fl) (hh : XO X B hi th fh) (hk : X.K = B.K := by rfl) : XL X B (.Subscript ex (.Slice lo hi none p2) pos) (tSl (rSlL B.K) te tl th) (e3 slL f fl fh) := ⟨hk ▸ pe_slice sl_list he.pe hl.pe hh.pe, dl_sl he.de hl.de hh.de⟩
end
end Z

set_option Elab.async false
set_option maxRecDepth 100000
set_option maxHeartbeats 4000000
set_option linter.all false
/-! Z3: calls of built-ins, walks, targets, comprehensions -/
namespace Z
open PySem PySem.Spec PyProof.Rows L2

/-! ### calls of built-ins -/
def OpC (K : PySem.W.Frag) (B : Bs) (r : List V → Hp → VK → Prop) (g : List D → Option D) : Prop := ∀ ρ σ H O vs ds z, RS K B ρ σ H O → BoAll K H O vs ds → g ds = some z → ∀ Q : VK, (∀ v H', Same H H' → Dq K (hid H' O) v z → Q v H') → r vs H Q
def OpCL (K : PySem.W.Frag) (B : Bs) (r : List V → Hp → VK → Prop) (g : List D → Option (List D)) : Prop := ∀ ρ σ H O vs ds zs, RS K B ρ σ H O → BoAll K H O vs ds → g ds = some zs → ∀ Q : VK, (∀ l us H', Same H H' → H l = none → H' l = some (.lst us) → DqAll K (hid H' (l :: O)) us zs → Q (.ref l) H') → r vs H Q
def eCall {α : Type} (g : List D → Option α) (a : En → Option (List D)) : En → Option α := fun ρ => (a ρ).bind g
section
variable {K : PySem.W.Frag} {B : Bs} {ta : TA} {a : En → Option (List D)} {r r' : List V → Hp → VK → Prop}
theorem de_cb {g : List D → Option D} (hr : OpC K B r g) (h : DAB K B ta a) : DE K B (tCB r ta) (eCall g a) := fun ρ σ H O z R e Q q => by
  obtain ⟨ds, h1, e⟩ := bind_some e
  exact h ρ σ H O ds R h1 _ fun vs H1 s x => hr ρ σ H1 O vs ds z (R.grow s) x e Q fun v H2 s2 y => q v H2 (s.trans s2) y
theorem dl_cb {g : List D → Option (List D)} (hr : OpCL K B r g) (h : DAB K B ta a) : DL K B (tCB r ta) (eCall g a) := fun ρ σ H O z R e Q q => by
  obtain ⟨ds, h1, e⟩ := bind_some e
  exact h ρ σ H O ds R h1 _ fun vs H1 s x => hr ρ σ H1 O vs ds z (R.grow s) x e Q fun v us H2 s2 n c y => q v us H2 (s.trans s2) (s.free n) c y
theorem opc_or {g g' : List D → Option D} (h : OpC K B r g) (h' : OpC K B r' g') : OpC K B (fun xs H Q => r xs H Q ∨ r' xs H Q) (fun ds => (g ds).or (g' ds)) := fun ρ σ H O vs ds z R a k Q q => by
  cases hg : g ds with
  | some w =>
    have k : (g ds).or (g' ds) = some z := k
    rw [hg] at k
    cases k
    exact .inl (h ρ σ H O vs ds _ R a hg Q q)
  | none =>
    have k : (g ds).or (g' ds) = some z := k
    rw [hg] at k
    exact .inr (h' ρ σ H O vs ds z R a k Q q)
theorem bo1 {H : Hp} {O : List Addr} {vs : List V} {d : D} (h : BoAll K H O vs [d]) : ∃ v, vs = [v] ∧ Bo K H O v d := by
  cases h with
  | cons a b => cases b; exact ⟨_, rfl, a⟩
theorem bo2 {H : Hp} {O : List Addr} {vs : List V} {d e : D} (h : BoAll K H O vs [d, e]) : ∃ v u, vs = [v, u] ∧ Bo K H O v d ∧ Bo K H O u e := by
  cases h with
  | cons a b =>
    cases b with
    | cons c d => cases d; exact ⟨_, _, rfl, a, c⟩
/-- len -/
def lenD : List D → Option D
  | [.list ds] => some (.int ds.length)
  | [.tuple ds] => some (.int ds.length)
  | [.str z] => if z.length ≤ 1000000 then some (.int z.length) else none
  | _ => none
def rLen (K : PySem.W.Frag) : List V → Hp → VK → Prop := fun xs H Q => ∃ x n, xs = [x] ∧ LenV K x H n ∧ Q (.int n) H
theorem opc_len : OpC K B (rLen K) lenD := fun ρ σ H O vs ds z R a k Q q => by
  unfold lenD at k
  split at k
  · rename_i es
    cases k
    obtain ⟨v, rfl, b⟩ := bo1 a
    obtain ⟨p, us, rfl, hp, ap⟩ := b.list
    exact ⟨_, es.length, rfl, .inl ⟨us, hp, ap.length.symm⟩, q _ H (Same.refl H) (.int _)⟩
  · rename_i es
    cases k
    obtain ⟨v, rfl, b⟩ := bo1 a
    obtain ⟨p, us, rfl, hp, ap⟩ := b.tup
    exact ⟨_, es.length, rfl, .inr ⟨us, SqT.mono (hid_self H O) hp, ap.length.symm⟩, q _ H (Same.refl H) (.int _)⟩
  · rename_i y
    split at k
    · rename_i c
      cases k
      obtain ⟨v, rfl, b⟩ := bo1 a
      cases b.str
      exact ⟨_, y.length, rfl, ⟨line c, rfl⟩, q _ H (Same.refl H) (.int _)⟩
    · cases k
  · cases k
/-- int of a number, of a truth -/
def intD : List D → Option D
  | [.int i] => some (.int i)
  | [.bool b] => some (.int (if b = true then 1 else 0))
  | _ => none
def rInt : List V → Hp → VK → Prop := fun xs H Q => (∃ i, xs = [.int i] ∧ Q (.int i) H) ∨ ∃ k, xs = [.bl k] ∧ Q (.int (if k then 1 else 0)) H
theorem opc_int : OpC K B rInt intD := fun ρ σ H O vs ds z R a k Q q => by
  unfold intD at k
  split at k
  · cases k
    obtain ⟨v, rfl, b⟩ := bo1 a
    cases b.int
    exact .inl ⟨_, rfl, q _ H (Same.refl H) (.int _)⟩
  · cases k
    obtain ⟨v, rfl, b⟩ := bo1 a
    cases b.bl
    exact .inr ⟨_, rfl, q _ H (Same.refl H) (.int _)⟩
  · cases k
/-- min, max of two -/
def minD : List D → Option D
  | [.int i, .int j] => some (.int (min i j))
  | _ => none
def maxD : List D → Option D
  | [.int i, .int j] => some (.int (max i j))
  | _ => none
def rMin2 : List V → Hp → VK → Prop := fun xs H Q => ∃ i j, xs = [.int i, .int j] ∧ Q (.int (if j < i then j else i)) H
def rMax2 : List V → Hp → VK → Prop := fun xs H Q => ∃ i j, xs = [.int i, .int j] ∧ Q (.int (if j > i then j else i)) H
theorem opc_min : OpC K B rMin2 minD := fun ρ σ H O vs ds z R a k Q q => by
  unfold minD at k
  split at k
  · cases k
    obtain ⟨v, u, rfl, b, c⟩ := bo2 a
    cases b.int
    cases c.int
    refine ⟨_, _, rfl, q _ H (Same.refl H) ?_⟩
    rename_i i j
    have e : (if j < i then j else i) = min i j := by split <;> omega
    rw [e]; exact .int _
  · cases k
theorem opc_max : OpC K B rMax2 maxD := fun ρ σ H O vs ds z R a k Q q => by
  unfold maxD at k
  split at k
  · cases k
    obtain ⟨v, u, rfl, b, c⟩ := bo2 a
    cases b.int
    cases c.int
    refine ⟨_, _, rfl, q _ H (Same.refl H) ?_⟩
    rename_i i j
    have e : (if j > i then j else i) = max i j := by split <;> omega
    rw [e]; exact .int _
  · cases k
/-- str of a number -/
def strD : List D → Option D
  | [.int i] => if -18446744073709551616 < i ∧ i < 18446744073709551616 then some (.str (toString i)) else none
  | _ => none
def rStr : List V → Hp → VK → Prop := fun xs H Q => ∃ i, xs = [.int i] ∧ i.natAbs.log2 < 1920 ∧ Q (.str (toString i)) H
theorem log2_small2 {n : Nat} (h : n < 18446744073709551616) : n.log2 < 1920 := by
  by_cases z : n = 0
  · subst z; decide
  · have e : (18446744073709551616 : Nat) = 2 ^ 64 := by decide
    have : n.log2 < 64 := (Nat.log2_lt z).mpr (by rw [← e]; exact h)
    omega
theorem opc_str : OpC K B rStr strD := fun ρ σ H O vs ds z R a k Q q => by
  unfold strD at k
  split at k
  · split at k
    · rename_i c
      cases k
      obtain ⟨v, rfl, b⟩ := bo1 a
      cases b.int
      exact ⟨_, rfl, log2_small2 (by omega), q _ H (Same.refl H) (.str _)⟩
    · cases k
  · cases k
/-- lists of one kind -/
def allI : List D → Option (List Int)
  | [] => some []
  | .int i :: ds => (allI ds).map (i :: ·)
  | _ :: _ => none
def allBl : List D → Option (List Bool)
  | [] => some []
  | .bool i :: ds => (allBl ds).map (i :: ·)
  | _ :: _ => none
def allS : List D → Option (List Str)
  | [] => some []
  | .str i :: ds => (allS ds).map (i :: ·)
  | _ :: _ => none
theorem allI_some : ∀ {ds : List D} {ns : List Int}, allI ds = some ns → ds = ns.map .int
  | [], ns, h => by cases h; rfl
  | .int i :: ds, ns, h => by
    obtain ⟨ms, h1, h2⟩ := map_some (show (allI ds).map (i :: ·) = some ns from h)
    subst h2
    rw [allI_some h1]; rfl
  | .none :: _, _, h => by cases h
  | .bool _ :: _, _, h => by cases h
  | .str _ :: _, _, h => by cases h
  | .list _ :: _, _, h => by cases h
  | .tuple _ :: _, _, h => by cases h
  | .dict _ :: _, _, h => by cases h
theorem allBl_some : ∀ {ds : List D} {ns : List Bool}, allBl ds = some ns → ds = ns.map .bool
  | [], ns, h => by cases h; rfl
  | .bool i :: ds, ns, h => by
    obtain ⟨ms, h1, h2⟩ := map_some (show (allBl ds).map (i :: ·) = some ns from h)
    subst h2
    rw [allBl_some h1]; rfl
  | .none :: _, _, h => by cases h
  | .int _ :: _, _, h => by cases h
  | .str _ :: _, _, h => by cases h
  | .list _ :: _, _, h => by cases h
  | .tuple _ :: _, _, h => by cases h
  | .dict _ :: _, _, h => by cases h
theorem allS_some : ∀ {ds : List D} {ns : List Str}, allS ds = some ns → ds = ns.map .str
  | [], ns, h => by cases h; rfl
  | .str i :: ds, ns, h => by
    obtain ⟨ms, h1, h2⟩ := map_some (show (allS ds).map (i :: ·) = some ns from h)
    subst h2
    rw [allS_some h1]; rfl
  | .none :: _, _, h => by cases h
  | .int _ :: _, _, h => by cases h
  | .bool _ :: _, _, h => by cases h
  | .list _ :: _, _, h => by cases h
  | .tuple _ :: _, _, h => by cases h
  | .dict _ :: _, _, h => by cases h
theorem allI_ints : ∀ ns : List Int, allI (ns.map .int) = some ns
  | [] => rfl
  | n :: ns => by show (allI (ns.map .int)).map (n :: ·) = _; rw [allI_ints ns]; rfl
theorem allBl_bls : ∀ ns : List Bool, allBl (ns.map .bool) = some ns
  | [] => rfl
  | n :: ns => by show (allBl (ns.map .bool)).map (n :: ·) = _; rw [allBl_bls ns]; rfl
theorem allS_strs : ∀ ns : List Str, allS (ns.map .str) = some ns
  | [] => rfl
  | n :: ns => by show (allS (ns.map .str)).map (n :: ·) = _; rw [allS_strs ns]; rfl
def sumD : List D → Option D
  | [.list ds] => (allI ds).map fun ns => .int ns.sum
  | [.tuple ds] => (allI ds).map fun ns => .int ns.sum
  | _ => none
/-- sum of a list or a tuple of numbers -/
def rSumT (K : PySem.W.Frag) : List V → Hp → VK → Prop := fun vs H Q => ∃ (a : Addr) (ns : List Int), vs = [V.ref a] ∧ SqT K H a (ns.map V.int) ∧ Q (.int ns.sum) H
def rSumA (K : PySem.W.Frag) : List V → Hp → VK → Prop := fun vs H Q => rSum K vs H Q ∨ rSumT K vs H Q
theorem sum_tup {prog : Program} {w : World} {A : Around} {E : Value → Shared → Prop} {s : Shared} {l : Addr} {its : List Value} {ns : List Int} {Q : Value → Shared → Prop} (hh : A.handled = none) (hl : s.heap.IsTuple l its.toArray) (hi : IntsAre its ns)
    (h : ∀ h' tk t', (∀ b o, s.heap.get? b = some o → h'.get? b = some o) → Q (.int ns.sum t') { s with heap := h', toks := tk }) : wpAny (model prog w) A (call (.builtin "sum") [.ref l]) Q E s := by
  obtain ⟨xs, e⟩ := hi.allInts.items
  have hn : numsOf (intItems xs).toList = ns := by rw [← e]; exact hi.numsOf
  rw [nums_intItems] at hn
  rw [e] at hl
  have hlt : l < s.heap.objs.size := by
    obtain ⟨o, eo, _⟩ := hl
    exact Heap.lt_size eo
  have hne : l ≠ s.heap.objs.size := Nat.ne_of_lt hlt
  refine PySem.call_sum_walkG (wpAny_pyIter_tuple hl ?_)
  have hl2 := hl.at (h' := s.heap.push { cls := .type "tuple_iterator", data := .fields #[.ref l, .int 0 0] }) fun o eo => Heap.get?_push_of_some _ eo
  refine ⟨_, _, _, _, _, _, numAt xs, rfl, Walks.tuple (A := A.in1) hh s.heap.objs.size l hne (intItems xs), ⟨⟨_, Heap.get?_push_size _ rfl, rfl, rfl⟩, hl2⟩, fun b hb => ?_, fun i v hv => intItems_at hv, fun h' tk t' hk => ?_⟩
  · show b < (s.heap.push _).objs.size
    rw [Heap.size_push]
    rcases List.mem_cons.mp hb with eb | hb
    · rw [eb]; exact Nat.lt_succ_self _
    · rw [List.mem_singleton.mp hb]; exact Nat.lt_succ_of_lt hlt
  · have q := h h' tk t' fun b o eo => hk b o (fun hm => by
      have z := Heap.lt_size eo
      rw [List.mem_singleton.mp hm] at z
      exact Nat.lt_irrefl _ z) (Heap.get?_push_of_some _ eo)
    rw [preSum_eq, List.take_of_length_le (by simp [intItems]), hn]
    exact q
theorem cr_sumT {X : Cx} (hc : X.calm = true) : CallR X (.builtin "sum") (rSumT X.K) := by
  intro pins s σ H vs us Q I r h
  obtain ⟨a, ns, rfl, hs, q⟩ := h
  obtain ⟨its, rv, hl, _⟩ := I.tuple hs
  rw [Vals.ref1 r]
  exact sum_tup (I.ok.hd hc) (show s.heap.IsTuple a its.toArray from hl) rv.ints fun h' tk t' hk => ⟨.int _, H, I.kept hk, ⟨_, rfl⟩, q⟩
theorem cr_sumA {X : Cx} (hc : X.calm = true) : CallR X (.builtin "sum") (rSumA X.K) := by
  intro pins s σ H vs us Q I r h
  rcases h with h | h
  · exact cr_sum hc pins s σ H vs us Q I r h
  · exact cr_sumT hc pins s σ H vs us Q I r h
def allD : List D → Option D
  | [.list ds] => (allBl ds).map fun ns => .bool (ns.all id)
  | _ => none
def leastI : List Int → Int
  | [] => 0
  | [n] => n
  | n :: m :: ns => min n (leastI (m :: ns))
def mostI : List Int → Int
  | [] => 0
  | [n] => n
  | n :: m :: ns => max n (mostI (m :: ns))
theorem leastI_is : ∀ {ns : List Int} {m : Int}, m ∈ ns → (∀ y, y ∈ ns → m ≤ y) → leastI ns = m
  | [n], m, h, _ => (List.mem_singleton.mp h).symm
  | n :: k :: ns, m, h, l => by
    show min n (leastI (k :: ns)) = m
    have h0 := l n List.mem_cons_self
    have key : ∀ {ns : List Int}, ns ≠ [] → leastI ns ∈ ns := by
      intro ns
      induction ns with
      | nil => intro h; exact absurd rfl h
      | cons a r ih =>
        intro _
        cases r with
        | nil => exact List.mem_cons_self
        | cons b r =>
          show min a (leastI (b :: r)) ∈ a :: b :: r
          have := ih (by simp)
          rcases Int.le_total a (leastI (b :: r)) with q | q
          · rw [Int.min_eq_left q]; exact List.mem_cons_self
          · rw [Int.min_eq_right q]; exact List.mem_cons_of_mem _ this
    have h1 := l _ (List.mem_cons_of_mem n (key (ns := k :: ns) (by simp)))
    rcases List.mem_cons.mp h with e | h
    · subst e; exact Int.min_eq_left h1
    · have e := leastI_is h fun y hy => l y (List.mem_cons_of_mem _ hy)
      rw [e]; exact Int.min_eq_right h0
theorem mostI_is : ∀ {ns : List Int} {m : Int}, m ∈ ns → (∀ y, y ∈ ns → y ≤ m) → mostI ns = m
  | [n], m, h, _ => (List.mem_singleton.mp h).symm
  | n :: k :: ns, m, h, l => by
    show max n (mostI (k :: ns)) = m
    have h0 := l n List.mem_cons_self
    have key : ∀ {ns : List Int}, ns ≠ [] → mostI ns ∈ ns := by
      intro ns
      induction ns with
      | nil => intro h; exact absurd rfl h
      | cons a r ih =>
        intro _
        cases r with
        | nil => exact List.mem_cons_self
        | cons b r =>
          show max a (mostI (b :: r)) ∈ a :: b :: r
          have := ih (by simp)
          rcases Int.le_total a (mostI (b :: r)) with q | q
          · rw [Int.max_eq_right q]; exact List.mem_cons_of_mem _ this
          · rw [Int.max_eq_left q]; exact List.mem_cons_self
    have h1 := l _ (List.mem_cons_of_mem n (key (ns := k :: ns) (by simp)))
    rcases List.mem_cons.mp h with e | h
    · subst e; exact Int.max_eq_left h1
    · have e := mostI_is h fun y hy => l y (List.mem_cons_of_mem _ hy)
      rw [e]; exact Int.max_eq_right h0
def minLD : List D → Option D
  | [.list ds] => (allI ds).bind fun ns => if ns.isEmpty then none else some (.int (leastI ns))
  | _ => none
def maxLD : List D → Option D
  | [.list ds] => (allI ds).bind fun ns => if ns.isEmpty then none else some (.int (mostI ns))
  | _ => none
theorem opc_sum : OpC K B (rSumA K) sumD := fun ρ σ H O vs ds z R a k Q q => by
  unfold sumD at k
  split at k
  · obtain ⟨ns, h1, h2⟩ := map_some k
    subst h2
    have h1 := allI_some h1
    subst h1
    obtain ⟨v, rfl, b⟩ := bo1 a
    obtain ⟨p, us, rfl, hp, ap⟩ := b.list
    rw [ap.ints] at hp
    exact .inl ⟨p, ns, rfl, hp, q _ H (Same.refl H) (.int _)⟩
  · obtain ⟨ns, h1, h2⟩ := map_some k
    subst h2
    have h1 := allI_some h1
    subst h1
    obtain ⟨v, rfl, b⟩ := bo1 a
    obtain ⟨p, us, rfl, hp, ap⟩ := b.tup
    rw [ap.ints] at hp
    exact .inr ⟨p, ns, rfl, SqT.mono (hid_self H O) hp, q _ H (Same.refl H) (.int _)⟩
  · cases k
theorem opc_all : OpC K B (rAll K) allD := fun ρ σ H O vs ds z R a k Q q => by
  unfold allD at k
  split at k
  · obtain ⟨ns, h1, h2⟩ := map_some k
    subst h2
    have h1 := allBl_some h1
    subst h1
    obtain ⟨v, rfl, b⟩ := bo1 a
    obtain ⟨p, us, rfl, hp, ap⟩ := b.list
    rw [ap.bls] at hp
    exact ⟨p, ns, rfl, hp, q _ H (Same.refl H) (.bl _)⟩
  · cases k
theorem opc_minL : OpC K B (rMin K) minLD := fun ρ σ H O vs ds z R a k Q q => by
  unfold minLD at k
  split at k
  · obtain ⟨ns, h1, k⟩ := bind_some k
    split at k
    · cases k
    · rename_i c
      cases k
      have h1 := allI_some h1
      subst h1
      obtain ⟨v, rfl, b⟩ := bo1 a
      obtain ⟨p, us, rfl, hp, ap⟩ := b.list
      rw [ap.ints] at hp
      refine ⟨p, ns, rfl, hp, ?_, fun m hm hl => ?_⟩
      · cases ns with
        | nil => exact absurd rfl c
        | cons _ _ => exact Nat.succ_pos _
      · rw [← leastI_is hm hl]
        exact q _ H (Same.refl H) (.int _)
  · cases k
theorem opc_maxL : OpC K B (rMax K) maxLD := fun ρ σ H O vs ds z R a k Q q => by
  unfold maxLD at k
  split at k
  · obtain ⟨ns, h1, k⟩ := bind_some k
    split at k
    · cases k
    · rename_i c
      cases k
      have h1 := allI_some h1
      subst h1
      obtain ⟨v, rfl, b⟩ := bo1 a
      obtain ⟨p, us, rfl, hp, ap⟩ := b.list
      rw [ap.ints] at hp
      refine ⟨p, ns, rfl, hp, ?_, fun m hm hl => ?_⟩
      · cases ns with
        | nil => exact absurd rfl c
        | cons _ _ => exact Nat.succ_pos _
      · rw [← mostI_is hm hl]
        exact q _ H (Same.refl H) (.int _)
  · cases k
/-- list(x), tuple(x) -/
def listL : List D → Option (List D)
  | [.list ds] => some ds
  | [.tuple ds] => some ds
  | _ => none
def tupD : List D → Option D
  | [.list ds] => some (.tuple ds)
  | [.tuple ds] => some (.tuple ds)
  | _ => none
def rList (K : PySem.W.Frag) : List V → Hp → VK → Prop := fun xs H Q => ∃ p ys, xs = [.ref p] ∧ (SqL K H p ys ∨ SqT K H p ys) ∧ ∀ l, H l = none → Q (.ref l) (upd H l (.lst ys))
def rTuple (K : PySem.W.Frag) : List V → Hp → VK → Prop := fun xs H Q => ∃ p ys, xs = [.ref p] ∧ ((SqL K H p ys ∧ ∀ l, H l = none → Q (.ref l) (upd H l (.tup ys))) ∨ (SqT K H p ys ∧ Q (.ref p) H))
theorem opc_list : OpCL K B (rList K) listL := fun ρ σ H O vs ds z R a k Q q => by
  unfold listL at k
  split at k
  · have k := Option.some.inj k
    subst k
    obtain ⟨v, rfl, b⟩ := bo1 a
    obtain ⟨p, us, rfl, hp, ap⟩ := b.list
    exact ⟨p, us, rfl, .inl hp, fun l hl => q l us _ (same_new _ hl) hl upd_same (new_lst hl ap)⟩
  · have k := Option.some.inj k
    subst k
    obtain ⟨v, rfl, b⟩ := bo1 a
    obtain ⟨p, us, rfl, hp, ap⟩ := b.tup
    exact ⟨p, us, rfl, .inr (SqT.mono (hid_self H O) hp), fun l hl => q l us _ (same_new _ hl) hl upd_same (new_lst hl ap)⟩
  · cases k
theorem opc_tuple : OpC K B (rTuple K) tupD := fun ρ σ H O vs ds z R a k Q q => by
  unfold tupD at k
  split at k
  · cases k
    obtain ⟨v, rfl, b⟩ := bo1 a
    obtain ⟨p, us, rfl, hp, ap⟩ := b.list
    exact ⟨p, us, rfl, .inl ⟨hp, fun l hl => q _ _ (same_new _ hl) (new_tup hl (R.fresh hl) ap)⟩⟩
  · cases k
    obtain ⟨v, rfl, b⟩ := bo1 a
    obtain ⟨p, us, rfl, hp, ap⟩ := b.tup
    exact ⟨p, us, rfl, .inr ⟨SqT.mono (hid_self H O) hp, q _ H (Same.refl H) (.tup hp ap)⟩⟩
  · cases k
end
section
variable {X : Cx} {B : Bs} {x : Str} {p pos : Pos} {ex : Expr} {es : List Expr} {t : TA} {a : En → Option (List D)} {id T : String} {r : List V → Hp → VK → Prop}
theorem x_cb {g : List D → Option D} (hc : CallR X (.builtin id) r) (hr : OpC B.K B r g) (hm : X.mg x = none) (hv : bootBuiltins x = some (.builtin id)) (ha : XAB X B (ex :: es) t a) (hg : Gl X x := by rfl) (hn : x ≠ "__name__" := by decide) (hdb : (x == ("__debug__" : Str)) = false := by decide)
    (he : starEach (ex :: es) X.env = (false, eval ex X.env) :: starEach es X.env := by rfl) (hpl : (backTo pos (starEach es X.env)).any (·.1) = false := by rfl) : XE X B (.Call (.Name x p) (ex :: es) [] pos) (tCB r t) (eCall g a) := ⟨pe_callB hc hg hm hv ha.pe hn hdb he hpl, de_cb hr ha.de⟩
theorem x_ct {g : List D → Option D} (hc : CallR X (.type T) r) (hr : OpC B.K B r g) (hm : X.mg x = none) (hv : bootBuiltins x = some (.type T)) (ha : XAB X B (ex :: es) t a) (hg : Gl X x := by rfl) (hn : x ≠ "__name__" := by decide) (hdb : (x == ("__debug__" : Str)) = false := by decide)
    (he : starEach (ex :: es) X.env = (false, eval ex X.env) :: starEach es X.env := by rfl) (hpl : (backTo pos (starEach es X.env)).any (·.1) = false := by rfl) : XE X B (.Call (.Name x p) (ex :: es) [] pos) (tCB r t) (eCall g a) := ⟨pe_callTy hc hg hm hv ha.pe hn hdb he hpl, de_cb hr ha.de⟩
theorem l_ct {g : List D → Option (List D)} (hc : CallR X (.type T) r) (hr : OpCL B.K B r g) (hm : X.mg x = none) (hv : bootBuiltins x = some (.type T)) (ha : XAB X B (ex :: es) t a) (hg : Gl X x := by rfl) (hn : x ≠ "__name__" := by decide) (hdb : (x == ("__debug__" : Str)) = false := by decide)
    (he : starEach (ex :: es) X.env = (false, eval ex X.env) :: starEach es X.env := by rfl) (hpl : (backTo pos (starEach es X.env)).any (·.1) = false := by rfl) : XL X B (.Call (.Name x p) (ex :: es) [] pos) (tCB r t) (eCall g a) := ⟨pe_callTy hc hg hm hv ha.pe hn hdb he hpl, dl_cb hr ha.de⟩
end
section
variable {X : Cx} {K : PySem.W.Frag}
theorem cw_len (hk : X.K = K := by rfl) : CallR X (.builtin "len") (rLen K) := hk ▸ call_len
theorem cw_list (hk : X.K = K := by rfl) : CallR X (.type "list") (rList K) := hk ▸ call_list_of
theorem cw_tuple (hk : X.K = K := by rfl) : CallR X (.type "tuple") (rTuple K) := hk ▸ call_tuple_of
theorem cw_sum (hc : X.calm = true) (hk : X.K = K := by rfl) : CallR X (.builtin "sum") (rSumA K) := hk ▸ cr_sumA hc
theorem cw_all (hc : X.calm = true) (hk : X.K = K := by rfl) : CallR X (.builtin "all") (rAll K) := hk ▸ cr_all hc
theorem cw_minL (hc : X.calm = true) (hk : X.K = K := by rfl) : CallR X (.builtin "min") (rMin K) := hk ▸ cr_min hc
theorem cw_maxL (hc : X.calm = true) (hk : X.K = K := by rfl) : CallR X (.builtin "max") (rMax K) := hk ▸ cr_max hc
end
/-! ### isinstance of a built-in class -/
def tyD : D → String
  | .none => "NoneType"
  | .bool _ => "bool"
  | .int _ => "int"
  | .str _ => "str"
  | .list _ => "list"
  | .tuple _ => "tuple"
  | .dict _ => "dict"
/-- no instance -/
def plainD : D → Bool
  | .dict ((.list _, _) :: _) => false
  | _ => true
def isiD (T : String) (d : D) : Option D := if plainD d = true then (kitB (tyD d) T).map .bool else none
section
variable {K : PySem.W.Frag} {B : Bs}
theorem ty_of {H : Hp} {O : List Addr} {v : V} {d : D} (hp : plainD d = true) (h : Bo K H O v d) : TyX K H v (.type (tyD d)) := by
  have f := h.full
  cases f with
  | non => exact .base .non
  | bl b => exact .base (.bl b)
  | int b => exact .base (.int b)
  | str b => exact .base (.str b)
  | lst s _ =>
    rcases s with (s | ⟨o, s⟩) | ⟨o, its, n, s, c, _⟩
    · exact .base (.lst s)
    · exact .base (.frz s)
    · exact .kList s c
  | tup s _ =>
    rcases s with (s | ⟨o, s⟩) | ⟨o, its, n, s, c, _⟩
    · exact .base (.tup s)
    · exact .fTuple s
    · exact .kTuple s c
  | dic s _ => exact .base (.dK s)
  | dct s _ => exact .base (.dT s)
  | ins _ _ _ => cases hp
theorem de_isi {te : TE} {f : En → Option D} {T : String} (h : DB K B te f) : DE K B (tCB (rIsi K) (tCons te (tCons (tC (.ty T)) tNil))) (e1 (isiD T) f) := fun ρ σ H O z R e Q q => by
  obtain ⟨d, h1, e⟩ := bind_some e
  unfold isiD at e
  split at e
  · rename_i hp
    obtain ⟨b, h2, h3⟩ := map_some e
    subst h3
    refine h ρ σ H O d R h1 _ fun v H1 s x => ⟨v, .ty T, .type (tyD d), .type T, b, rfl, .ty T, ty_of hp x, kit_ty h2, q _ H1 s (.bl b)⟩
  · cases e
end
section
variable {X : Cx} {B : Bs} {p p2 pos : Pos} {ex : Expr} {te : TE} {f : En → Option D} {T : Str} {T' : String}
theorem x_isi (hm : X.mg "isinstance" = none) (ht : X.mg T = none) (hv : bootBuiltins T = some (.type T')) (ha : XB X B ex te f) (hg : Gl X "isinstance" := by rfl) (hg2 : Gl X T := by rfl) (hn : T ≠ "__name__" := by decide) (hdb : (T == ("__debug__" : Str)) = false := by decide)
    (h1 : starEach (ex :: [.Name T p2]) X.env = (false, eval ex X.env) :: starEach [.Name T p2] X.env := by rfl) (hpl : (backTo pos (starEach [.Name T p2] X.env)).any (·.1) = false := by rfl) (hk : X.K = B.K := by rfl) :
    XE X B (.Call (.Name "isinstance" p) [ex, .Name T p2] [] pos) (tCB (rIsi B.K) (tCons te (tCons (tC (.ty T')) tNil))) (e1 (isiD T') f) :=
  ⟨hk ▸ pe_callB call_isi hg hm PyProof.Rows.boot_isinstance (pa_cons ha.pe (pa_cons (pe_bltn hg2 ht hv rfl hn hdb) pa_nil) h1) (by decide) (by decide) h1 hpl, de_isi ha.de⟩
end
theorem kit_int_int : kitB "int" "int" = some true := by decide +kernel
theorem kit_bool_int : kitB "bool" "int" = some true := by decide +kernel
theorem kit_str_int : kitB "str" "int" = some false := by decide +kernel
theorem kit_list_int : kitB "list" "int" = some false := by decide +kernel
theorem kit_tuple_int : kitB "tuple" "int" = some false := by decide +kernel
theorem kit_non_int : kitB "NoneType" "int" = some false := by decide +kernel
theorem kit_int_bool : kitB "int" "bool" = some false := by decide +kernel
theorem kit_bool_bool : kitB "bool" "bool" = some true := by decide +kernel
theorem kit_str_bool : kitB "str" "bool" = some false := by decide +kernel
theorem kit_list_bool : kitB "list" "bool" = some false := by decide +kernel
theorem kit_tuple_bool : kitB "tuple" "bool" = some false := by decide +kernel
theorem kit_non_bool : kitB "NoneType" "bool" = some false := by decide +kernel
theorem kit_int_str : kitB "int" "str" = some false := by decide +kernel
theorem kit_bool_str : kitB "bool" "str" = some false := by decide +kernel
theorem kit_str_str : kitB "str" "str" = some true := by decide +kernel
theorem kit_list_str : kitB "list" "str" = some false := by decide +kernel
theorem kit_tuple_str : kitB "tuple" "str" = some false := by decide +kernel
theorem kit_non_str : kitB "NoneType" "str" = some false := by decide +kernel
theorem kit_int_tuple : kitB "int" "tuple" = some false := by decide +kernel
theorem kit_bool_tuple : kitB "bool" "tuple" = some false := by decide +kernel
theorem kit_str_tuple : kitB "str" "tuple" = some false := by decide +kernel
theorem kit_list_tuple : kitB "list" "tuple" = some false := by decide +kernel
theorem kit_tuple_tuple : kitB "tuple" "tuple" = some true := by decide +kernel
theorem kit_non_tuple : kitB "NoneType" "tuple" = some false := by decide +kernel
theorem kit_int_list : kitB "int" "list" = some false := by decide +kernel
theorem kit_bool_list : kitB "bool" "list" = some false := by decide +kernel
theorem kit_str_list : kitB "str" "list" = some false := by decide +kernel
theorem kit_list_list : kitB "list" "list" = some true := by decide +kernel
theorem kit_tuple_list : kitB "tuple" "list" = some false := by decide +kernel
theorem kit_non_list : kitB "NoneType" "list" = some false := by decide +kernel
end Z

set_option Elab.async false
set_option maxRecDepth 100000
set_option maxHeartbeats 4000000
set_option linter.all false
/-! ZV: reversed(a text) -/
namespace Z
open PySem PySem.Spec PyProof.Rows L2
theorem txt_norev : typeLookup (.type "str") "__reversed__" = pure none := by
  rw [typeLookup_type]
  rw [builtinLookup_eq_fast]
  kernel_rfl
theorem txt_get : typeLookup (.type "str") "__getitem__" = pure (some (.builtin "str.__getitem__")) := by
  rw [typeLookup_type]
  rw [builtinLookup_eq_fast]
  kernel_rfl
/-- the iterator over a text backwards, its next place -/
def RvS (h : Heap) (a : Addr) (z : Str) (t : Tok) (i : Int) : Prop := ∃ o : Obj, h.get? a = some o ∧ o.cls = .type "reversed" ∧ o.data = .fields #[.str z t, rawInt i]
section
variable {P : Program} {w : World} {A : Around} {E : Value → Shared → Prop} {s : Shared} {z : Str} {t : Tok}
theorem RvS.ty {a : Addr} {i : Int} (x : RvS s.heap a z t i) : s.TypeIs (.ref a) "reversed" := by
  obtain ⟨o, h1, h2, _⟩ := x
  exact ⟨o, h1, h2⟩
theorem rvs_new {Q : Value → Shared → Prop} (hz : ¬ (z.length : Int) ≥ 2 ^ 63) (h : Q (.ref s.heap.objs.size) { s with heap := s.heap.push { cls := .type "reversed", data := .fields #[.str z t, rawInt ((z.length : Int) - 1)] }, toks := s.toks + 1 + 1 }) :
    codeAny (model P w) A (.call (.builtin "reversed.__new__") ⟨[.type "reversed", .str z t], []⟩) (wants Q E) s := by
  have hT := typeIs_str s z t
  refine codeAny_of_tree ?_
  show wpAny _ A.in1 (checkBuiltinCall "reversed.__new__" ⟨[.type "reversed", .str z t], []⟩ >>= fun _ => again (.builtin "reversed.__new__" ⟨[.type "reversed", .str z t], []⟩)) _ _ s
  refine wpAny_bind (wpAny_of_eq (PySem.F.newCall_reversed_1 _) (wpAny_pure ⟨plainId_quiet PySem.F.plain_reversed_new _, codeAny_builtin PySem.F.entry_reversed_new ?_⟩))
  rw [Around.under_plainId PySem.F.plain_reversed_new _]; unfold Builtin.«reversed.__new__»
  refine wpAny_bind (wpAny_of_eq (newClass_reversed _) (wpAny_bind (wpAny_of_eq (a := ()) (by first | rfl | kernel_rfl) ?_)))
  dsimp only
  refine wpAny_bind (wpAny_of_eq (a := ()) (by first | rfl | kernel_rfl) (wpAny_bind (wpAny_specialOf hT txt_norev ?_)))
  dsimp only
  apply wpAny_bind
  wp_delta
  refine wpAny_bind (wpAny_isInstance (b := false) hT PySem.F.sub_str_dict ?_); try dsimp only
  try rw [if_neg Bool.false_ne_true]
  try dsimp only
  refine wpAny_bind (wpAny_specialOf hT txt_get ?_); try dsimp only
  try rw [if_pos (by decide +kernel)]
  apply wpAny_pure; try dsimp only
  try rw [if_neg (by decide)]
  try dsimp only
  refine wpAny_bind (PySem.P.len_str hz (wpAny_bind (wpAny_of_eq (a := some ((z.length : Nat) : Int)) rfl ?_)))
  try dsimp only
  apply wpAny_bind
  show wpAny _ _ (newObj (.type "reversed") (.fields #[.str z t, rawInt ((z.length : Int) - 1)])) _ _ _
  exact wpAny_newObj_type (wpAny_pure h)
theorem rvs_call {Q : Value → Shared → Prop} (hz : ¬ (z.length : Int) ≥ 2 ^ 63) (h : Q (.ref s.heap.objs.size) { s with heap := s.heap.push { cls := .type "reversed", data := .fields #[.str z t, rawInt ((z.length : Int) - 1)] }, toks := s.toks + 1 + 1 }) :
    wpAny (model P w) A (call (.type "reversed") [.str z t]) Q E s := by
  refine callType_codes (Q₁ := fun o s' => s'.TypeIs o "reversed" ∧ Q o s') RT.called_rt (PySem.F.typeCall_reversed_1 _) PySem.F.entry_object_init (rvs_new (A := A.in1) hz ⟨⟨_, Heap.get?_push_size _ rfl, rfl⟩, h⟩) fun o s' h' => ?_
  exact ⟨h'.1, PySem.F.args_object_init_2 o _, object_init_meets RT.called_rt.init.lookup RT.called_rt.made (by decide) P w A.in1 _ s' ⟨h'.1, rfl, h'.2⟩⟩
theorem rvs_item {it : Addr} {i c : Nat} {Q : Option Value → Shared → Prop} (hit : RvS s.heap it z t (i : Int)) (hc : z.cps[i]? = some c) (hz : z.length ≤ sizeLine)
    (hQ : ∀ h' u tk, RvS h' it z t ((i : Int) - 1) → Heap.SameBut it s.heap h' → Q (some (.str ⟨#[c]⟩ u)) { s with heap := h', toks := tk }) : wpAny (model P w) A (pyNext (.ref it)) Q E s := by
  obtain ⟨o, ho, hc1, hd⟩ := id hit
  have hi : i < z.cps.size := (Array.getElem?_eq_some_iff.mp hc).1
  have hi2 : i < z.length := hi
  rw [sizeLine_eq] at hz
  unfold pyNext
  refine wpAny_bind (wpAny_attempt (wpAny_callSpecial?_slot (name := Str.ofString "__next__") hit.ty RT.slot_rt_next (wpAny_call_entry RT.slot_rt_next hit.ty RT.entry_rt_next ?_ (RT.args_rt_next _))))
  unfold Builtin.«reversed.__next__»
  refine wpAny_bind (wpAny_of_eq (a := (Value.ref it, [])) rfl (wpAny_bind (wpAny_field ho hd (x := .str z t) rfl ?_)))
  dsimp only
  refine wpAny_bind (wpAny_field ho hd (x := rawInt (i : Int)) rfl ?_)
  show wpAny _ _ (if (i : Int) < 0 then _ else _) _ _ s
  rw [if_neg (by omega)]; try dsimp only
  refine wpAny_bind (wpAny_specialOf (typeIs_str s z t) txt_get ?_); try dsimp only
  try rw [if_neg (by decide)]
  try dsimp only
  refine wpAny_bind (wpAny_mkInt (wpAny_bind (wpAny_attempt ?_)))
  have fin : seqIndex? (i : Int) z.length = some i := seqIndex_of (by omega) (by omega)
  refine PySem.P.getItem_str (s := { s with toks := s.toks + 1 }) (c := c) (by rw [Bool.or_eq_false_iff]; exact ⟨decide_eq_false (by omega), decide_eq_false (by omega)⟩) (by rw [fin]; exact hc) ?_
  try dsimp only
  refine wpAny_bind (wpAny_field (s := { s with toks := s.toks + 1 + 1 }) ho hd (x := rawInt (i : Int)) rfl ?_); try dsimp only
  refine wpAny_bind (wpAny_setField (s := { s with toks := s.toks + 1 + 1 }) ho hd (by simp) ?_)
  first
  | refine wpAny_pure ⟨_, rfl, wpAny_pure (hQ _ _ _ ?_ (Heap.SameBut.update ..))⟩
  | refine wpAny_bind (wpAny_pure (wpAny_pure ⟨_, rfl, wpAny_pure (hQ _ _ _ ?_ (Heap.SameBut.update ..))⟩))
  exact ⟨_, Heap.get?_update_self _ ho (Obj.isFreed_of_fields (Obj.data_mapFields hd _)), (Obj.cls_mapFields ..).trans hc1, by rw [Obj.data_mapFields hd]; simp⟩
theorem rvs_end {it : Addr} {Q : Option Value → Shared → Prop} (hh : A.handled = none) (hit : RvS s.heap it z t (-1)) (hQ : ∀ h', Heap.ExtBut it s.heap h' → Q none { s with heap := h' }) : wpAny (model P w) A (pyNext (.ref it)) Q E s := by
  obtain ⟨o, ho, hc1, hd⟩ := id hit
  unfold pyNext
  refine wpAny_bind (wpAny_attempt (wpAny_callSpecial?_slot (name := Str.ofString "__next__") hit.ty RT.slot_rt_next (wpAny_call_entry RT.slot_rt_next hit.ty RT.entry_rt_next ?_ (RT.args_rt_next _))))
  unfold Builtin.«reversed.__next__»
  refine wpAny_bind (wpAny_of_eq (a := (Value.ref it, [])) rfl (wpAny_bind (wpAny_field ho hd (x := .str z t) rfl ?_)))
  dsimp only
  refine wpAny_bind (wpAny_field ho hd (x := rawInt (-1)) rfl ?_)
  show wpAny _ _ (if (-1 : Int) < 0 then _ else _) _ _ s
  rw [if_pos (by decide)]; try dsimp only
  refine wpAny_bind (wpAny_rule (wpAny_bind ?_))
  wp_delta
  refine wpAny_bind (wpAny_setField ho hd (by simp) ?_)
  have ho2 := Heap.get?_update_self (Obj.mapFields (·.setIfInBounds 1 (rawInt (-1)))) ho (Obj.isFreed_of_fields (Obj.data_mapFields hd _))
  refine wpAny_setField (s := { s with heap := s.heap.update it (Obj.mapFields (·.setIfInBounds 1 (rawInt (-1)))) }) ho2 (Obj.data_mapFields hd _) (by simp) ?_; try dsimp only
  first
  | show wpAny _ _ (newExc (.type "StopIteration") [] >>= _) _ _ _
  | (apply wpAny_bind; show wpAny _ _ (newExc (.type "StopIteration") [] >>= _) _ _ _)
  | (apply wpAny_bind; wp_delta; show wpAny _ _ (newExc (.type "StopIteration") [] >>= _) _ _ _)
  apply wpAny_bind
  simp only [newExc, newTuple]
  refine wpAny_bind (wpAny_newObj_type (wpAny_bind (m := firstArgMember _ _) (wpAny_of_eq (a := Value.none) (by first | rfl | (simp only [firstArgMember]; rfl)) ?_)) (by size_fits))
  refine wpAny_newObj_type ?_ (by size_fits); simp only [raiseNew]
  refine wpAny_bind (wpAny_handled ?_)
  first | rw [show A.in1.handled = none from hh] | rw [hh]
  refine (wpAny_bind ((wpAny_pure (wpAny_throw ?_))))
  apply wpAny_bind; refine wpAny_isInstance (b := true) (T := "StopIteration") ⟨_, Heap.get?_push_size _ rfl, rfl⟩ isSubtype_stop ?_
  refine wpAny_pure (hQ _ (((?_ : Heap.ExtBut it s.heap _).push _).push _))
  intro b ob hb e
  exact (Heap.get?_update_other _ _ (Ne.symm hb)).trans ((Heap.get?_update_other _ _ (Ne.symm hb)).trans e)
theorem rvs_iter {it : Addr} {i : Int} {Q : Value → Shared → Prop} (hit : RvS s.heap it z t i) (h : Q (.ref it) s) : wpAny (model P w) A (pyIter (.ref it)) Q E s := by
  refine wpAny_pyIter_slot hit.ty RT.slot_rt_iter (wpAny_call_entry RT.slot_rt_iter hit.ty RT.entry_rt_iter ?_ (RT.args_rt_iter _))
  exact wpAny_pure ⟨_, rfl, "reversed", _, hit.ty, RT.slot_rt_next.lookup, h⟩
end
/-- the signs of a text, the last first -/
def ItrS (z : Str) : It := ⟨fun i _ => i < z.cps.size, fun i H v H' => H' = H ∧ ∃ c, z.cps[z.cps.size - 1 - i]? = some c ∧ v = .str ⟨#[c]⟩, fun i _ => z.cps.size ≤ i⟩
theorem turn_rvs {P : Program} {w : World} {K : PySem.W.Frag} {tg : Expr} (it : Addr) (z : Str) (t : Tok) (hz : z.length ≤ sizeLine) : Turn P w K tg (ItrS z) [it] it (fun i h => i ≤ z.cps.size ∧ RvS h it z t ((z.cps.size : Int) - 1 - (i : Nat))) where
  mem := by simp
  obj := fun i h st b hb => by
    obtain rfl : b = it := by simpa using hb
    obtain ⟨_, o, e, c, d⟩ := st
    exact ⟨o, e, fun v q => by rw [d] at q; cases q⟩
  keep := fun i h h' st k => let ⟨a, o, e, r⟩ := st; ⟨a, o, k it (by simp) o e, r⟩
  item := by
    rintro X rfl rfl rfl hc i pins s σ H E I hf ⟨_, st⟩ hg
    have hg : i < z.cps.size := hg
    obtain ⟨f0, f1, f2, f3, f4, f5⟩ := hf it (by simp)
    have e1 : (z.cps.size : Int) - 1 - ((i : Nat) : Int) = ((z.cps.size - 1 - i : Nat) : Int) := by omega
    have e2 : ((z.cps.size - 1 - i : Nat) : Int) - 1 = (z.cps.size : Int) - 1 - ((i + 1 : Nat) : Int) := by omega
    rw [e1] at st
    have hx := Array.getElem?_eq_getElem (xs := z.cps) (i := z.cps.size - 1 - i) (by omega)
    refine rvs_item st hx hz fun h' u tk st' sb => ?_
    rw [e2] at st'
    have I1 : Inv X pins σ H { s with heap := h', toks := tk } := I.turned (t' := tk) (fun b o hb e => (sb.2 b hb).trans e) f0 f1 f3 f4 f5
    obtain ⟨o, e, c, d⟩ := id st'
    exact ⟨_, rfl, go_of (s := { s with heap := h', toks := tk }) e c d (by decide) ⟨.str ⟨#[_]⟩, H, I1, ⟨u, rfl⟩, ⟨rfl, _, hx, rfl⟩, ⟨hg, st'⟩, fun b hb => (hf b hb).1⟩⟩
  done := by
    rintro X rfl rfl rfl hc i pins s σ H E I hf ⟨hi, st⟩ hg
    have hg : z.cps.size ≤ i := hg
    obtain ⟨f0, f1, f2, f3, f4, f5⟩ := hf it (by simp)
    rw [show (z.cps.size : Int) - 1 - ((i : Nat) : Int) = -1 from by omega] at st
    exact rvs_end (I.ok.hd hc) st fun h' eb => ⟨rfl, I.turned (t' := s.toks) (fun b o hb e => eb b o hb e) f0 f1 f3 f4 f5⟩
  self := fun A i s Q E st h => rvs_iter st.2 h
def iRevS (ta : TA) : TI := fun σ H R => ta σ H fun vs H1 => ∃ z : Str, vs = [.str z] ∧ z.length ≤ sizeLine ∧ R (ItrS z) H1
theorem pi_revS {X : Cx} {tg e : Expr} {ta : TA} {p pos : Pos} (hg : Gl X "reversed") (hm : X.mg "reversed" = none) (ha : PA X [e] ta) (hs : starEach [e] X.env = [(false, eval e X.env)] := by rfl) : PI X tg (.Call (.Name "reversed" p) [e] [] pos) (iRevS ta) := by
  refine ⟨fun pins s σ H R I h => ?_⟩
  refine Call_ (ld_blt I hg hm boot_reversed (callWith_type1 (thn (ha.run pos pins s σ H _ I h) fun us s1 ⟨vs, H1, I1, r1, z, ez, hz, q⟩ => ?_) hs rfl))
  subst ez
  cases r1 with
  | cons r rr =>
    cases rr
    obtain ⟨t, rfl⟩ := r
    have hz2 := hz
    rw [sizeLine_eq] at hz2
    have e1 : (z.length : Int) - 1 = (z.cps.size : Int) - 1 - ((0 : Nat) : Int) := by show (z.cps.size : Int) - 1 = _; omega
    refine rvs_call (by omega) (rvs_iter (i := (z.length : Int) - 1) ⟨_, Heap.get?_push_size _ rfl, rfl, rfl⟩ ?_)
    refine pi_one (tk := s1.toks + 1 + 1) I1 _ (turn_rvs _ z t hz) ⟨Nat.zero_le _, ?_⟩ q
    rw [← e1]
    exact ⟨_, Heap.get?_push_size _ rfl, rfl, rfl⟩
end Z

set_option Elab.async false
set_option maxRecDepth 100000
set_option maxHeartbeats 4000000
set_option linter.all false
/-! Z4: walks, targets, comprehensions -/
namespace Z
open PySem PySem.Spec PyProof.Rows L2

/-! ### walks -/
def There (H : Hp) (O : List Addr) : Prop := ∀ a ∈ O, H a ≠ none
theorem RS.there {K : PySem.W.Frag} {B : Bs} {ρ : En} {σ : L2.St} {H : Hp} {O : List Addr} (R : RS K B ρ σ H O) : There H O := fun a ha z => by
  obtain ⟨o, e, _⟩ := R.mu a ha
  rw [z] at e; cases e
def ItOk (K : PySem.W.Frag) (G1 : Hp) (J : It) (ds : List D) : Prop := ∀ H2 O2, Same G1 (hid H2 O2) → There H2 O2 → ∀ i,
  (∀ d, ds[i]? = some d → J.go i H2 ∧ ∀ x H', J.yld i H2 x H' → Same H2 H' ∧ Dq K (hid H' O2) x d) ∧ (ds.length ≤ i → J.stop i H2)
def DI (K : PySem.W.Frag) (B : Bs) (wi : TI) (f : En → Option (List D)) : Prop := ∀ ρ σ H O ds, RS K B ρ σ H O → f ρ = some ds → ∀ R : It → Hp → Prop, (∀ J H', Same H H' → ItOk K (hid H' O) J ds → R J H') → wi σ H R
structure XI (X : Cx) (B : Bs) (tg iter : Expr) (wi : TI) (f : En → Option (List D)) : Prop where
  pe : PI X tg iter wi
  de : DI B.K B wi f
theorem PI.or {X : Cx} {tg iter : Expr} {wi wi' : TI} (h : PI X tg iter wi) (h' : PI X tg iter wi') : PI X tg iter (fun σ H R => wi σ H R ∨ wi' σ H R) := ⟨fun pins s σ H R I q => by
  rcases q with q | q
  · exact h.run pins s σ H R I q
  · exact h'.run pins s σ H R I q⟩
/-! ### a text, enumerated -/
def IteS (x : Str) : It :=
  ⟨fun i _ => i < x.cps.size, fun i H v H' => ∃ T c, v = .ref T ∧ H T = none ∧ H' = upd H T (.tup [.int (i : Nat), .str ⟨#[c]⟩]) ∧ x.cps[i]? = some c, fun i _ => x.cps.size ≤ i⟩
theorem turn_enumS {P : Program} {w : World} {K : PySem.W.Frag} {elts : List Expr} {kk : Nat} {tpos : Pos} (e it : Addr) (x : Str) (t : Tok) (ty : String) (hty : ty = "str_ascii_iterator" ∨ ty = "str_iterator") :
    Turn P w K (.Tuple elts kk tpos) (IteS x) [e, it] e (fun i h => (∃ old, IsEnum h e it ((i : Nat) : Int) old) ∧ h.IsStrIter it ty x t i ∧ e ≠ it ∧ i ≤ x.cps.size) where
  mem := by simp
  obj := fun i h st b hb => by
    obtain ⟨⟨old, he⟩, ⟨o, ho, hc, hd⟩, _⟩ := st
    have e' : b = e ∨ b = it := by simpa using hb
    rcases e' with z | z
    · rw [z]; exact ⟨_, he, fun v q => nomatch q⟩
    · rw [z]; exact ⟨o, ho, fun v q => by rw [hd] at q; cases q⟩
  keep := fun i h h' st k => let ⟨⟨old, he⟩, ⟨o, ho, r⟩, hne⟩ := st; ⟨⟨old, k e (by simp) _ he⟩, ⟨o, k it (by simp) o ho, r⟩, hne⟩
  item := by
    intro X hP hw hK hc i pins s σ H E I hf st hg
    subst hP hw hK
    obtain ⟨⟨old, he⟩, hit, hne, hle⟩ := st
    have D : Draws X.prog X.w X.A.in1 it [it] x.cps.size (fun i v => ∃ c u, x.cps[i]? = some c ∧ v = .str ⟨#[c]⟩ u) (fun i h => h.IsStrIter it ty x t i) := by
      rcases hty with e | e
      · rw [e]; exact Draws.strAscii (A := X.A.in1) (I.ok.hd hc) it x t
      · rw [e]; exact Draws.strWide (A := X.A.in1) (I.ok.hd hc) it x t
    have hel : e < s.heap.objs.size := Heap.lt_size he
    have hil : it < s.heap.objs.size := by obtain ⟨_, q, _⟩ := hit; exact Heap.lt_size q
    have hg : i < x.cps.size := hg
    refine wpAny_pyNext_enum_itemD D he hit hg hne (by simpa using hne) fun xv h' tk hv ho hit' hT hsz hk => ?_
    obtain ⟨c, u, hcx, rfl⟩ := hv
    refine ⟨_, rfl, wpAny_letOwnedTupleGo_enum (s := { s with heap := h', toks := tk + 1 }) ho fun h'' he' sb => ?_⟩
    have hT2 : h''.get? s.heap.objs.size = some { cls := .type "tuple", data := .seq #[.int i tk, .str ⟨#[c]⟩ u] } := (sb.2 _ (Nat.ne_of_gt hel)).trans hT
    have new : ObjOk X.prog X.w (upd H s.heap.objs.size (.tup [.int (i : Nat), .str ⟨#[c]⟩])) h'' s.heap.objs.size (.tup [.int (i : Nat), .str ⟨#[c]⟩]) :=
      ⟨by show 2 ≤ sizeLine; decide, [.int i tk, .str ⟨#[c]⟩ u], .cons ⟨_, rfl⟩ (.cons ⟨_, rfl⟩ .nil), ⟨_, hT2, rfl, _, rfl⟩⟩
    have I1 : Inv X pins σ (upd H s.heap.objs.size (.tup [.int (i : Nat), .str ⟨#[c]⟩])) { s with heap := h'', toks := tk + 1 } :=
      I.turnedNew (ch := [e, it]) (fun b ob hb q => (sb.2 b (fun z => hb (by simp [z]))).trans (hk b ob (fun z => hb (by simp [z])) (fun z => hb (by simp [z])) q)) hf (Nat.le_refl _) new
    refine ⟨.ref s.heap.objs.size, _, I1, rfl, ⟨_, c, rfl, I.hok.fresh (Nat.le_refl _), rfl, hcx⟩, ⟨⟨.str ⟨#[c]⟩ u, ?_⟩, ?_, hne, hg⟩, fun b hb => ?_⟩
    · have e1 : ((i + 1 : Nat) : Int) = (i : Int) + 1 := by omega
      rw [e1]; exact he'
    · obtain ⟨o, ho', r⟩ := hit'
      exact ⟨o, (sb.2 it (Ne.symm hne)).trans ho', r⟩
    · have hb' : b < s.heap.objs.size := by
        have e' : b = e ∨ b = it := by simpa using hb
        rcases e' with z | z
        · rw [z]; exact hel
        · rw [z]; exact hil
      rw [upd_ne (Nat.ne_of_lt hb')]
      exact (hf b hb).1
  done := by
    intro X hP hw hK hc i pins s σ H E I hf st hg
    subst hP hw hK
    obtain ⟨⟨old, he⟩, hit, hne, hle⟩ := st
    have hg : x.cps.size ≤ i := hg
    have hi : i = x.cps.size := Nat.le_antisymm hle hg
    have D : Draws X.prog X.w X.A.in1 it [it] x.cps.size (fun i v => ∃ c u, x.cps[i]? = some c ∧ v = .str ⟨#[c]⟩ u) (fun i h => h.IsStrIter it ty x t i) := by
      rcases hty with e | e
      · rw [e]; exact Draws.strAscii (A := X.A.in1) (I.ok.hd hc) it x t
      · rw [e]; exact Draws.strWide (A := X.A.in1) (I.ok.hd hc) it x t
    obtain ⟨f0, f1, f2, f3, f4, f5⟩ := hf it (by simp)
    rw [hi] at hit
    exact wpAny_pyNext_enum_endD D he hit fun h' eb => ⟨rfl, I.turned (t' := s.toks) (fun b o hb q => eb b o hb q) f0 f1 f3 f4 f5⟩
  self := fun A i s Q E st h => let ⟨⟨_, he⟩, _⟩ := st; wpAny_pyIter_enum he h
def iEnumS (ta : TA) : TI := fun σ H R => ta σ H fun vs H1 => ∃ x, vs = [.str x] ∧ R (IteS x) H1
theorem pi_enumS {X : Cx} {e : Expr} {ta : TA} {p pos tpos : Pos} {elts : List Expr} {kk : Nat} (hg : Gl X "enumerate") (hm : X.mg "enumerate" = none) (ha : PA X [e] ta) (hs : starEach [e] X.env = [(false, eval e X.env)] := by rfl) :
    PI X (.Tuple elts kk tpos) (.Call (.Name "enumerate" p) [e] [] pos) (iEnumS ta) := by
  refine ⟨fun pins s σ H R I h => ?_⟩
  refine Call_ (ld_blt I hg hm boot_enumerate (PyProof.Rows.callWith_type1 (thn (ha.run pos pins s σ H _ I h) fun us s1 ⟨vs, H1, I1, r1, q1⟩ => ?_) hs rfl))
  obtain ⟨x, ex, q⟩ := q1
  subst ex
  cases r1 with
  | cons r rr =>
    cases rr
    obtain ⟨t, rfl⟩ := r
    refine call_enumerate_str fun h' he hit hsz hk => wpAny_pyIter_enum he ?_
    have I2 : Inv X pins σ H1 { s1 with heap := h' } := I1.kept (t' := s1.toks) hk
    refine ⟨s1.heap.objs.size + 1, [s1.heap.objs.size + 1, s1.heap.objs.size], _, _, H1, rfl, I2, turn_enumS (s1.heap.objs.size + 1) s1.heap.objs.size x t (strIterType x) ?_, ⟨⟨.none, he⟩, hit, Nat.succ_ne_self _, Nat.zero_le _⟩, fun b hb => ?_, q⟩
    · unfold strIterType
      split
      · exact .inl rfl
      · exact .inr rfl
    have e' : b = s1.heap.objs.size + 1 ∨ b = s1.heap.objs.size := by simpa using hb
    have hle : s1.heap.objs.size ≤ b := by
      rcases e' with z | z
      · rw [z]; exact Nat.le_add_right _ _
      · rw [z]; exact Nat.le_refl _
    exact I1.fpOk hle (I1.hok.fresh hle)
def iEnum2 (K : PySem.W.Frag) (ta : TA) : TI := fun σ H R => iEnum K ta σ H R ∨ iEnumS ta σ H R
def iSeqD (f : En → Option D) : En → Option (List D) := fun ρ => match f ρ with
  | some (.list ds) => some ds
  | some (.tuple ds) => some ds
  | some (.str z) => some (z.cps.toList.map fun c => .str ⟨#[c]⟩)
  | _ => none
def iSeq (K : PySem.W.Frag) (te : TE) : TI := fun σ H R => iList K te σ H R ∨ (iTup K te σ H R ∨ iStr te σ H R)
def iRg1D (a : En → Option (List D)) : En → Option (List D) := fun ρ => match a ρ with
  | some [.int j] => if -4611686018427387904 ≤ j ∧ j < 4611686018427387904 then some ((List.range j.toNat).map fun (i : Nat) => .int (i : Int)) else none
  | _ => none
def iRg2D (a : En → Option (List D)) : En → Option (List D) := fun ρ => match a ρ with
  | some [.int i, .int j] => if -4611686018427387904 ≤ i ∧ i < 4611686018427387904 ∧ -4611686018427387904 ≤ j ∧ j < 4611686018427387904 then some ((List.range (j - i).toNat).map fun (k : Nat) => .int (i + k)) else none
  | _ => none
def iRevD (a : En → Option (List D)) : En → Option (List D) := fun ρ => match a ρ with
  | some [.list ds] => some ds.reverse
  | some [.str z] => if z.length ≤ 1000000 then some (z.cps.toList.map fun c => .str ⟨#[c]⟩).reverse else none
  | _ => none
def iRev2 (K : PySem.W.Frag) (ta : TA) : TI := fun σ H R => iRev K ta σ H R ∨ iRevS ta σ H R
def enumD : Nat → List D → List D
  | _, [] => []
  | n, d :: ds => .tuple [.int (n : Int), d] :: enumD (n + 1) ds
def iEnumD (a : En → Option (List D)) : En → Option (List D) := fun ρ => match a ρ with
  | some [.list ds] => some (enumD 0 ds)
  | some [.str z] => some (enumD 0 (z.cps.toList.map fun c => .str ⟨#[c]⟩))
  | _ => none
def zipD : List D → List D → List D
  | d :: ds, e :: es => .tuple [d, e] :: zipD ds es
  | _, _ => []
def iZipD (a : En → Option (List D)) : En → Option (List D) := fun ρ => match a ρ with
  | some [.list ds, .list es] => some (zipD ds es)
  | _ => none
theorem enumD_get : ∀ (ds : List D) (n i : Nat) (z : D), (enumD n ds)[i]? = some z → ∃ d, ds[i]? = some d ∧ z = .tuple [.int ((n + i : Nat) : Int), d]
  | [], n, i, z, h => by simp [enumD] at h
  | d :: ds, n, 0, z, h => by
    simp [enumD] at h
    exact ⟨d, by simp, h.symm⟩
  | d :: ds, n, i + 1, z, h => by
    have h : (enumD (n + 1) ds)[i]? = some z := by simpa [enumD] using h
    obtain ⟨d', h1, h2⟩ := enumD_get ds (n + 1) i z h
    exact ⟨d', by simpa using h1, by rw [h2, show n + 1 + i = n + (i + 1) from by omega]⟩
theorem enumD_length : ∀ (ds : List D) (n : Nat), (enumD n ds).length = ds.length
  | [], _ => rfl
  | d :: ds, n => by show (enumD (n + 1) ds).length + 1 = _; rw [enumD_length ds (n + 1)]; rfl
theorem zipD_get : ∀ (ds es : List D) (i : Nat) (z : D), (zipD ds es)[i]? = some z → ∃ d e, ds[i]? = some d ∧ es[i]? = some e ∧ z = .tuple [d, e]
  | [], es, i, z, h => by cases es <;> simp [zipD] at h
  | d :: ds, [], i, z, h => by simp [zipD] at h
  | d :: ds, e :: es, 0, z, h => by
    simp [zipD] at h
    exact ⟨d, e, by simp, by simp, h.symm⟩
  | d :: ds, e :: es, i + 1, z, h => by
    have h : (zipD ds es)[i]? = some z := by simpa [zipD] using h
    obtain ⟨d', e', h1, h2, h3⟩ := zipD_get ds es i z h
    exact ⟨d', e', by simpa using h1, by simpa using h2, h3⟩
theorem zipD_length : ∀ (ds es : List D), (zipD ds es).length = min ds.length es.length
  | [], es => by cases es <;> simp [zipD]
  | d :: ds, [] => by simp [zipD]
  | d :: ds, e :: es => by show (zipD ds es).length + 1 = _; rw [zipD_length ds es]; simp only [List.length_cons]; omega
section
variable {K : PySem.W.Frag} {G1 : Hp}
theorem sqL_of {H2 : Hp} {O2 : List Addr} {a : Addr} {vs : List V} (s : Same G1 (hid H2 O2)) (h : SqL K G1 a vs) : SqL K H2 a vs := SqL.mono (s.trans (hid_self _ _)) h
theorem sqT_of {H2 : Hp} {O2 : List Addr} {a : Addr} {vs : List V} (s : Same G1 (hid H2 O2)) (h : SqT K G1 a vs) : SqT K H2 a vs := SqT.mono (s.trans (hid_self _ _)) h
theorem it_list {a : Addr} {vs : List V} {ds : List D} (h : SqL K G1 a vs) (ha : DqAll K G1 vs ds) : ItOk K G1 (Itl K a) ds := fun H2 O2 s th i => by
  have hs := sqL_of s h
  refine ⟨fun d hd => ?_, fun hl => ⟨vs, hs, by rw [ha.length]; exact hl⟩⟩
  obtain ⟨v, h1, h2⟩ := ha.get hd
  refine ⟨⟨vs, v, hs, h1⟩, fun x H' y => ?_⟩
  obtain ⟨rfl, y⟩ := y
  have e := y vs hs
  rw [h1] at e; cases e
  exact ⟨Same.refl _, Dq.mono s _ _ h2⟩
theorem it_tup {a : Addr} {vs : List V} {ds : List D} (h : SqT K G1 a vs) (ha : DqAll K G1 vs ds) : ItOk K G1 (Itt K a) ds := fun H2 O2 s th i => by
  have hs := sqT_of s h
  refine ⟨fun d hd => ?_, fun hl => ⟨vs, hs, by rw [ha.length]; exact hl⟩⟩
  obtain ⟨v, h1, h2⟩ := ha.get hd
  refine ⟨⟨vs, v, hs, h1⟩, fun x H' y => ?_⟩
  obtain ⟨rfl, y⟩ := y
  have e := y vs hs
  rw [h1] at e; cases e
  exact ⟨Same.refl _, Dq.mono s _ _ h2⟩
theorem it_str {z : Str} : ItOk K G1 (Its z) (z.cps.toList.map fun c => .str ⟨#[c]⟩) := fun H2 O2 s th i => by
  refine ⟨fun d hd => ?_, fun hl => ?_⟩
  · rw [List.getElem?_map] at hd
    obtain ⟨c, h1, h2⟩ := map_some hd
    subst h2
    rw [Array.getElem?_toList] at h1
    refine ⟨(Array.getElem?_eq_some_iff.mp h1).1, fun x H' y => ?_⟩
    obtain ⟨rfl, c', h3, rfl⟩ := y
    rw [h1] at h3; cases h3
    exact ⟨Same.refl _, .str _⟩
  · show z.cps.size ≤ i
    simpa using hl
theorem it_range {lo : Int} {n : Nat} : ItOk K G1 (Itr lo n) ((List.range n).map fun (k : Nat) => .int (lo + k)) := fun H2 O2 s th i => by
  refine ⟨fun d hd => ?_, fun hl => ?_⟩
  · rw [List.getElem?_map] at hd
    obtain ⟨c, h1, h2⟩ := map_some hd
    subst h2
    obtain ⟨h3, h4⟩ := List.getElem?_eq_some_iff.mp h1
    rw [List.getElem_range] at h4
    rw [List.length_range] at h3
    subst h4
    refine ⟨h3, fun x H' y => ?_⟩
    obtain ⟨rfl, rfl⟩ := y
    exact ⟨Same.refl _, .int _⟩
  · show n ≤ i
    simpa using hl
theorem it_revS {z : Str} : ItOk K G1 (ItrS z) (z.cps.toList.map fun c => .str ⟨#[c]⟩).reverse := fun H2 O2 s th i => by
  refine ⟨fun d hd => ?_, fun hl => ?_⟩
  · obtain ⟨hi, _⟩ := List.getElem?_eq_some_iff.mp hd
    rw [List.length_reverse] at hi
    rw [List.getElem?_reverse hi, List.getElem?_map] at hd
    rw [List.length_map, Array.length_toList] at hi hd
    obtain ⟨c, h1, h2⟩ := map_some hd
    subst h2
    rw [Array.getElem?_toList] at h1
    refine ⟨hi, fun x H' y => ?_⟩
    obtain ⟨rfl, c', h3, rfl⟩ := y
    rw [h1] at h3; cases h3
    exact ⟨Same.refl _, .str _⟩
  · show z.cps.size ≤ i
    rw [List.length_reverse, List.length_map, Array.length_toList] at hl
    exact hl
theorem it_rev {a : Addr} {vs : List V} {ds : List D} (h : SqL K G1 a vs) (ha : DqAll K G1 vs ds) : ItOk K G1 (Itv K a vs.length) ds.reverse := fun H2 O2 s th i => by
  have hs := sqL_of s h
  refine ⟨fun d hd => ?_, fun hl => ?_⟩
  · obtain ⟨hi, _⟩ := List.getElem?_eq_some_iff.mp hd
    rw [List.length_reverse] at hi
    rw [List.getElem?_reverse hi] at hd
    obtain ⟨v, h1, h2⟩ := ha.get hd
    rw [← ha.length] at h1 hi
    refine ⟨⟨hi, vs, v, hs, h1⟩, fun x H' y => ?_⟩
    obtain ⟨rfl, y⟩ := y
    have e := y vs hs
    rw [h1] at e; cases e
    exact ⟨Same.refl _, Dq.mono s _ _ h2⟩
  · show vs.length ≤ i
    rw [List.length_reverse] at hl
    rw [ha.length]; exact hl
theorem it_enum {a : Addr} {vs : List V} {ds : List D} (h : SqL K G1 a vs) (ha : DqAll K G1 vs ds) : ItOk K G1 (Ite K a) (enumD 0 ds) := fun H2 O2 s th i => by
  have hs := sqL_of s h
  refine ⟨fun d hd => ?_, fun hl => ⟨vs, hs, by rw [ha.length, ← enumD_length ds 0]; exact hl⟩⟩
  obtain ⟨d', h0, rfl⟩ := enumD_get ds 0 i d hd
  obtain ⟨v, h1, h2⟩ := ha.get h0
  refine ⟨⟨vs, v, hs, h1⟩, fun x H' y => ?_⟩
  obtain ⟨T, v', rfl, hT, rfl, y⟩ := y
  have e := y vs hs
  rw [h1] at e; cases e
  refine ⟨same_new _ hT, new_tup hT (fun z => th _ z hT) ?_⟩
  rw [Nat.zero_add]
  exact .cons (.int _) (.cons (Dq.mono s _ _ h2) .nil)
theorem it_enumS {z : Str} : ItOk K G1 (IteS z) (enumD 0 (z.cps.toList.map fun c => .str ⟨#[c]⟩)) := fun H2 O2 s th i => by
  refine ⟨fun d hd => ?_, fun hl => ?_⟩
  · obtain ⟨d', h0, rfl⟩ := enumD_get _ 0 i d hd
    rw [List.getElem?_map] at h0
    obtain ⟨c, h1, h2⟩ := map_some h0
    subst h2
    rw [Array.getElem?_toList] at h1
    refine ⟨(Array.getElem?_eq_some_iff.mp h1).1, fun x H' y => ?_⟩
    obtain ⟨T, c', rfl, hT, rfl, y⟩ := y
    rw [h1] at y; cases y
    refine ⟨same_new _ hT, new_tup hT (fun z => th _ z hT) ?_⟩
    rw [Nat.zero_add]
    exact .cons (.int _) (.cons (.str _) .nil)
  · show z.cps.size ≤ i
    rw [enumD_length] at hl
    simpa using hl
theorem it_zip {a b : Addr} {vs us : List V} {ds es : List D} (h : SqL K G1 a vs) (ha : DqAll K G1 vs ds) (h' : SqL K G1 b us) (hb : DqAll K G1 us es) : ItOk K G1 (Itz K a b) (zipD ds es) := fun H2 O2 s th i => by
  have hs := sqL_of s h
  have hs' := sqL_of s h'
  refine ⟨fun d hd => ?_, fun hl => ⟨vs, us, hs, hs', ?_⟩⟩
  · obtain ⟨d', e', h0, h0', rfl⟩ := zipD_get ds es i d hd
    obtain ⟨v, h1, h2⟩ := ha.get h0
    obtain ⟨u, h3, h4⟩ := hb.get h0'
    refine ⟨⟨vs, us, v, u, hs, hs', h1, h3⟩, fun x H' y => ?_⟩
    obtain ⟨T, v', u', rfl, hT, rfl, y, y'⟩ := y
    have e := y vs hs
    rw [h1] at e; cases e
    have e := y' us hs'
    rw [h3] at e; cases e
    exact ⟨same_new _ hT, new_tup hT (fun z => th _ z hT) (.cons (Dq.mono s _ _ h2) (.cons (Dq.mono s _ _ h4) .nil))⟩
  · rw [zipD_length] at hl
    rw [ha.length, hb.length]; omega
end
section
variable {K : PySem.W.Frag} {B : Bs} {te : TE} {ta : TA} {f : En → Option D} {a : En → Option (List D)}
theorem di_seq (h : DE K B te f) : DI K B (iSeq K te) (iSeqD f) := fun ρ σ H O ds R e Q q => by
  unfold iSeqD at e
  split at e
  · rename_i hf
    have e := Option.some.inj e
    subst e
    refine .inl (h ρ σ H O _ R hf _ fun v H1 s x => ?_)
    cases x with
    | lst hs ha => exact ⟨_, rfl, ⟨_, SqL.mono (hid_self _ _) hs⟩, q _ H1 s (it_list hs ha)⟩
  · rename_i hf
    have e := Option.some.inj e
    subst e
    refine .inr (.inl (h ρ σ H O _ R hf _ fun v H1 s x => ?_))
    cases x with
    | tup hs ha => exact ⟨_, rfl, ⟨_, SqT.mono (hid_self _ _) hs⟩, q _ H1 s (it_tup hs ha)⟩
  · rename_i hf
    have e := Option.some.inj e
    subst e
    refine .inr (.inr (h ρ σ H O _ R hf _ fun v H1 s x => ?_))
    cases x
    exact ⟨_, rfl, q _ H1 s it_str⟩
  · cases e
theorem di_rg1 (h : DA K B ta a) : DI K B (iRng1 ta) (iRg1D a) := fun ρ σ H O ds R e Q q => by
  unfold iRg1D at e
  split at e
  · rename_i hf
    split at e
    · rename_i c
      have e := Option.some.inj e
      subst e
      refine h ρ σ H O _ R hf _ fun vs H1 s x => ?_
      cases x with
      | cons x y =>
        cases y
        cases x
        refine ⟨_, rfl, c.1, c.2, q _ H1 s ?_⟩
        have := it_range (K := K) (G1 := hid H1 O) (lo := 0) (n := (by assumption : Int).toNat)
        simpa using this
    · cases e
  · cases e
theorem di_rg2 (h : DA K B ta a) : DI K B (iRng2 ta) (iRg2D a) := fun ρ σ H O ds R e Q q => by
  unfold iRg2D at e
  split at e
  · rename_i hf
    split at e
    · rename_i c
      have e := Option.some.inj e
      subst e
      refine h ρ σ H O _ R hf _ fun vs H1 s x => ?_
      cases x with
      | cons x y =>
        cases y with
        | cons y z =>
          cases z
          cases x
          cases y
          exact ⟨_, _, rfl, c, q _ H1 s it_range⟩
    · cases e
  · cases e
theorem di_rev (h : DA K B ta a) : DI K B (iRev2 K ta) (iRevD a) := fun ρ σ H O ds R e Q q => by
  unfold iRevD at e
  split at e
  rotate_left
  · rename_i hf
    split at e
    · rename_i hz
      have e := Option.some.inj e
      subst e
      refine .inr (h ρ σ H O _ R hf _ fun vs H1 s x => ?_)
      cases x with
      | cons x y =>
        cases y
        cases x
        exact ⟨_, rfl, line hz, q _ H1 s it_revS⟩
    · cases e
  · cases e
  · rename_i hf
    have e := Option.some.inj e
    subst e
    refine .inl ?_
    refine h ρ σ H O _ R hf _ fun vs H1 s x => ?_
    cases x with
    | cons x y =>
      cases y
      cases x with
      | lst hs ha => exact ⟨_, _, rfl, SqL.mono (hid_self _ _) hs, q _ H1 s (it_rev hs ha)⟩
theorem di_enum (h : DA K B ta a) : DI K B (iEnum2 K ta) (iEnumD a) := fun ρ σ H O ds R e Q q => by
  unfold iEnumD at e
  split at e
  rotate_left
  · rename_i hf
    have e := Option.some.inj e
    subst e
    refine .inr (h ρ σ H O _ R hf _ fun vs H1 s x => ?_)
    cases x with
    | cons x y =>
      cases y
      cases x
      exact ⟨_, rfl, q _ H1 s it_enumS⟩
  · cases e
  · rename_i hf
    have e := Option.some.inj e
    subst e
    refine .inl ?_
    refine h ρ σ H O _ R hf _ fun vs H1 s x => ?_
    cases x with
    | cons x y =>
      cases y
      cases x with
      | lst hs ha => exact ⟨_, _, rfl, SqL.mono (hid_self _ _) hs, q _ H1 s (it_enum hs ha)⟩
theorem di_zip (h : DA K B ta a) : DI K B (iZip K ta) (iZipD a) := fun ρ σ H O ds R e Q q => by
  unfold iZipD at e
  split at e
  · rename_i hf
    have e := Option.some.inj e
    subst e
    refine h ρ σ H O _ R hf _ fun vs H1 s x => ?_
    cases x with
    | cons x y =>
      cases y with
      | cons y z =>
        cases z
        cases x with
        | lst hs ha =>
          cases y with
          | lst hs' ha' => exact ⟨_, _, _, _, rfl, SqL.mono (hid_self _ _) hs, SqL.mono (hid_self _ _) hs', q _ H1 s (it_zip hs ha hs' ha')⟩
  · cases e
end
section
variable {X : Cx} {B : Bs} {tg ex ey : Expr} {te : TE} {ta : TA} {f : En → Option D} {a : En → Option (List D)} {p pos tpos : Pos} {elts : List Expr} {kk : Nat}
theorem i_seq (h : XE X B ex te f) (hk : X.K = B.K := by rfl) : XI X B tg ex (iSeq B.K te) (iSeqD f) := ⟨hk ▸ PI.or (pi_list h.pe) (PI.or (pi_tup h.pe) (pi_str h.pe)), di_seq h.de⟩
theorem i_rg1 (hm : X.mg "range" = none) (ha : XA X B [ex] ta a) (hg : Gl X "range" := by rfl) (hs : starEach [ex] X.env = [(false, eval ex X.env)] := by rfl) : XI X B tg (.Call (.Name "range" p) [ex] [] pos) (iRng1 ta) (iRg1D a) := ⟨pi_range1 hg hm ha.pe hs, di_rg1 ha.de⟩
theorem i_rg2 (hm : X.mg "range" = none) (ha : XA X B [ex, ey] ta a) (hg : Gl X "range" := by rfl) (hs : starEach [ex, ey] X.env = [(false, eval ex X.env), (false, eval ey X.env)] := by rfl) (hs2 : starEach [ey] X.env = [(false, eval ey X.env)] := by rfl) :
    XI X B tg (.Call (.Name "range" p) [ex, ey] [] pos) (iRng2 ta) (iRg2D a) := ⟨pi_range2 hg hm ha.pe hs hs2, di_rg2 ha.de⟩
theorem i_rev (hm : X.mg "reversed" = none) (ha : XA X B [ex] ta a) (hg : Gl X "reversed" := by rfl) (hs : starEach [ex] X.env = [(false, eval ex X.env)] := by rfl) (hk : X.K = B.K := by rfl) : XI X B tg (.Call (.Name "reversed" p) [ex] [] pos) (iRev2 B.K ta) (iRevD a) := ⟨hk ▸ PI.or (pi_reversed hg hm ha.pe hs) (pi_revS hg hm ha.pe hs), di_rev ha.de⟩
theorem i_enum (hm : X.mg "enumerate" = none) (ha : XA X B [ex] ta a) (hg : Gl X "enumerate" := by rfl) (hs : starEach [ex] X.env = [(false, eval ex X.env)] := by rfl) (hk : X.K = B.K := by rfl) : XI X B (.Tuple elts kk tpos) (.Call (.Name "enumerate" p) [ex] [] pos) (iEnum2 B.K ta) (iEnumD a) := ⟨hk ▸ PI.or (pi_enum hg hm ha.pe hs) (pi_enumS hg hm ha.pe hs), di_enum ha.de⟩
theorem i_zip (hm : X.mg "zip" = none) (ha : XA X B [ex, ey] ta a) (hg : Gl X "zip" := by rfl) (hs : starEach [ex, ey] X.env = (false, eval ex X.env) :: starEach [ey] X.env := by rfl) (hpl : (backTo pos (starEach [ey] X.env)).any (·.1) = false := by rfl) (hk : X.K = B.K := by rfl) :
    XI X B (.Tuple elts kk tpos) (.Call (.Name "zip" p) [ex, ey] [] pos) (iZip B.K ta) (iZipD a) := ⟨hk ▸ pi_zip hg hm ha.pe hs hpl, di_zip ha.de⟩
end

/-! ### targets -/
section
variable {K : PySem.W.Frag} {B : Bs} {ρ : En} {σ : L2.St} {H H' : Hp} {O : List Addr}
/-- a slot gets ground data -/
theorem RS.setRo (R : RS K B ρ σ H O) {i : Nat} {v : V} {d : D} (hp : free B i = true) (h : Dq K (hid H O) v d) : RS K B (ρ.set i (some (.ro d))) (σ.set i (some v)) H O where
  len := by rw [List.length_set, List.length_set]; exact R.len
  slot := fun j s e => by
    by_cases hj : i = j
    · subst hj
      by_cases hl : i < ρ.length
      · rw [List.getElem?_set_self hl] at e
        have e := Option.some.inj (Option.some.inj e)
        subst e
        exact ⟨v, List.getElem?_set_self (by rw [← R.len]; exact hl), h⟩
      · rw [List.getElem?_eq_none (by rw [List.length_set]; omega)] at e; cases e
    · rw [List.getElem?_set_ne hj] at e
      obtain ⟨u, a, b⟩ := R.slot j s e
      exact ⟨u, by rw [List.getElem?_set_ne hj]; exact a, b⟩
  uniq := fun j k s s' l hjk e1 e2 o1 o2 z1 z2 => by
    have cut : ∀ {j : Nat} {s : SV}, (ρ.set i (some (.ro d)))[j]? = some (some s) → s.owned = true → i ≠ j := fun {j s} e o hj => by
      subst hj
      by_cases hl : i < ρ.length
      · rw [List.getElem?_set_self hl] at e
        have e := Option.some.inj (Option.some.inj e)
        subst e
        cases o
      · rw [List.getElem?_eq_none (by rw [List.length_set]; omega)] at e; cases e
    have n1 := cut e1 o1
    have n2 := cut e2 o2
    rw [List.getElem?_set_ne n1] at e1 z1
    rw [List.getElem?_set_ne n2] at e2 z2
    exact R.uniq j k s s' l hjk e1 e2 o1 o2 z1 z2
  same := R.same
  own := R.own
  mu := R.mu
  sub0 := R.sub0
  lo := R.lo
  pin := pin_set R hp
/-- slots are forgotten -/
theorem RS.clear (R : RS K B ρ σ H O) (i : Nat) (hp : free B i = true) : RS K B (ρ.set i none) (σ.set i none) H O where
  len := by rw [List.length_set, List.length_set]; exact R.len
  slot := fun j s e => by
    by_cases hj : i = j
    · subst hj
      by_cases hl : i < ρ.length
      · rw [List.getElem?_set_self hl] at e; cases e
      · rw [List.getElem?_eq_none (by rw [List.length_set]; omega)] at e; cases e
    · rw [List.getElem?_set_ne hj] at e
      obtain ⟨u, a, b⟩ := R.slot j s e
      exact ⟨u, by rw [List.getElem?_set_ne hj]; exact a, b⟩
  uniq := fun j k s s' l hjk e1 e2 o1 o2 z1 z2 => by
    have cut : ∀ {j : Nat} {s : SV}, (ρ.set i none)[j]? = some (some s) → i ≠ j := fun {j s} e hj => by
      subst hj
      by_cases hl : i < ρ.length
      · rw [List.getElem?_set_self hl] at e; cases e
      · rw [List.getElem?_eq_none (by rw [List.length_set]; omega)] at e; cases e
    have n1 := cut e1
    have n2 := cut e2
    rw [List.getElem?_set_ne n1] at e1 z1
    rw [List.getElem?_set_ne n2] at e2 z2
    exact R.uniq j k s s' l hjk e1 e2 o1 o2 z1 z2
  same := R.same
  own := R.own
  mu := R.mu
  sub0 := R.sub0
  lo := R.lo
  pin := pin_set R hp
def wipeE (ρ : En) : List Nat → En
  | [] => ρ
  | v :: vs => (wipeE ρ vs).set v none
theorem RS.wipe (R : RS K B ρ σ H O) : ∀ vs : List Nat, vs.all (free B) = true → RS K B (wipeE ρ vs) (wipe σ vs) H O
  | [], _ => R
  | v :: vs, h => (R.wipe vs (by rw [List.all_cons, Bool.and_eq_true] at h; exact h.2)).clear v (by rw [List.all_cons, Bool.and_eq_true] at h; exact h.1)
end
def DG (K : PySem.W.Frag) (B : Bs) (g : TG) (h : D → En → Option En) : Prop := ∀ ρ σ H O v d ρ', RS K B ρ σ H O → Dq K (hid H O) v d → h d ρ = some ρ' → ∀ Q : L2.St → Hp → Prop, (∀ σ' H', Same H H' → RS K B ρ' σ' H' O → Q σ' H') → g v σ H Q
def DGs (K : PySem.W.Frag) (B : Bs) (g : TGs) (h : List D → En → Option En) : Prop := ∀ ρ σ H O vs ds ρ', RS K B ρ σ H O → DqAll K (hid H O) vs ds → h ds ρ = some ρ' → ∀ Q : L2.St → Hp → Prop, (∀ σ' H', Same H H' → RS K B ρ' σ' H' O → Q σ' H') → g vs σ H Q
/-- a target stores among the places vs alone (a comprehension's) -/
def GW (g : TG) (vs : List Nat) : Prop := ∀ v σ H (Q Q' : L2.St → Hp → Prop), g v σ H Q → (∀ σ2 H2, wipe σ2 vs = wipe σ vs → Q σ2 H2 → Q' σ2 H2) → g v σ H Q'
def GWs (g : TGs) (vs : List Nat) : Prop := ∀ us σ H (Q Q' : L2.St → Hp → Prop), g us σ H Q → (∀ σ2 H2, wipe σ2 vs = wipe σ vs → Q σ2 H2 → Q' σ2 H2) → g us σ H Q'
structure XG (X : Cx) (B : Bs) (target : Expr) (t : TG) (h : D → En → Option En) : Prop where
  pe : PG X target t
  de : DG B.K B t h
structure XGs (X : Cx) (B : Bs) (ts : List Expr) (t : TGs) (h : List D → En → Option En) : Prop where
  pe : PGs X ts t
  de : DGs B.K B t h
def hName (i : Nat) : D → En → Option En := fun d ρ => some (ρ.set i (some (.ro d)))
def hNil : List D → En → Option En := fun ds ρ => match ds with
  | [] => some ρ
  | _ => none
def hCons (h : D → En → Option En) (k : List D → En → Option En) : List D → En → Option En := fun ds ρ => match ds with
  | d :: ds => (h d ρ).bind (k ds)
  | _ => none
def hTup (n : Nat) (k : List D → En → Option En) : D → En → Option En := fun d ρ => match d with
  | .tuple ds => if ds.length = n then k ds ρ else none
  | _ => none
theorem wipe_set {i : Nat} {x : Option V} : ∀ {vs : List Nat} {σ : L2.St}, i ∈ vs → wipe (σ.set i x) vs = wipe σ vs
  | v :: vs, σ, h => by
    show (wipe (σ.set i x) vs).set v none = (wipe σ vs).set v none
    by_cases hv : i = v
    · subst hv
      have key : ∀ (vs : List Nat) (σ : L2.St), (wipe (σ.set i x) vs).set i none = (wipe σ vs).set i none := by
        intro vs
        induction vs with
        | nil => intro σ; show (σ.set i x).set i none = σ.set i none; rw [List.set_set]
        | cons w ws ih =>
          intro σ
          show ((wipe (σ.set i x) ws).set w none).set i none = ((wipe σ ws).set w none).set i none
          by_cases hw : i = w
          · subst hw
            rw [ih σ]
          · rw [List.set_comm _ _ (Ne.symm hw), List.set_comm _ _ (Ne.symm hw), ih σ]
      exact key vs σ
    · rcases List.mem_cons.mp h with e | h
      · exact absurd e hv
      · rw [wipe_set h]
section
variable {K : PySem.W.Frag} {B : Bs} {g : TG} {gs : TGs} {h : D → En → Option En} {hs : List D → En → Option En}
theorem dg_name {i : Nat} (hp : free B i = true) : DG K B (gName i) (hName i) := fun ρ σ H O v d ρ' R x e Q q => by
  have e : ρ.set i (some (.ro d)) = ρ' := Option.some.inj e
  subst e
  exact q _ H (Same.refl H) (R.setRo hp x)
theorem dgs_nil : DGs K B gNil hNil := fun ρ σ H O vs ds ρ' R x e Q q => by
  unfold hNil at e
  split at e
  · have e := Option.some.inj e
    subst e
    cases x
    exact ⟨rfl, q _ H (Same.refl H) R⟩
  · cases e
theorem dgs_cons (hg : DG K B g h) (hk : DGs K B gs hs) : DGs K B (gCons g gs) (hCons h hs) := fun ρ σ H O vs ds ρ' R x e Q q => by
  unfold hCons at e
  split at e
  · obtain ⟨ρ1, h1, h2⟩ := bind_some e
    cases x with
    | cons a b =>
      refine ⟨_, _, rfl, hg ρ σ H O _ _ ρ1 R a h1 _ fun σ1 H1 s1 R1 => ?_⟩
      exact hk ρ1 σ1 H1 O _ _ ρ' R1 (DqAll.mono (hid_grow s1) _ _ b) h2 _ fun σ2 H2 s2 R2 => q σ2 H2 (s1.trans s2) R2
  · cases e
theorem dg_tup {n : Nat} (hk : DGs K B gs hs) : DG K B (gTup K n gs) (hTup n hs) := fun ρ σ H O v d ρ' R x e Q q => by
  unfold hTup at e
  split at e
  · split at e
    · rename_i c
      cases x with
      | tup hx ha => exact ⟨_, _, rfl, SqT.mono (hid_self _ _) hx, by rw [ha.length]; exact c, hk ρ σ H O _ _ ρ' R ha e Q q⟩
    · cases e
  · cases e
theorem gw_name {i : Nat} {vs : List Nat} (h : i ∈ vs) : GW (gName i) vs := fun v σ H Q Q' q f => f _ _ (wipe_set h) q
theorem gws_nil {vs : List Nat} : GWs gNil vs := fun us σ H Q Q' q f => ⟨q.1, f _ _ rfl q.2⟩
theorem gws_cons {vs : List Nat} (h1 : GW g vs) (h2 : GWs gs vs) : GWs (gCons g gs) vs := fun us σ H Q Q' q f => by
  obtain ⟨v, r, e, q⟩ := q
  exact ⟨v, r, e, h1 v σ H _ _ q fun σ1 H1 w1 q1 => h2 r σ1 H1 _ _ q1 fun σ2 H2 w2 q2 => f σ2 H2 (w2.trans w1) q2⟩
theorem gw_tup {vs : List Nat} {n : Nat} (h : GWs gs vs) : GW (gTup K n gs) vs := fun v σ H Q Q' q f => by
  obtain ⟨a, xs, e1, e2, e3, q⟩ := q
  exact ⟨a, xs, e1, e2, e3, h _ σ H _ _ q f⟩
end
section
variable {X : Cx} {B : Bs} {pos : Pos}
theorem g_name {i : Nat} {x : Str} (hN : X.N.Nodup) (hi : X.N[i]? = some x) (hx : Loc X.env.scope x) (hf : X.fn x = true ∨ X.env.scope.names.lookup x = some .local := by first | exact .inl rfl | exact .inr rfl | assumption) (hp : free B i = true := by rfl) : XG X B (.Name x pos) (gName i) (hName i) := ⟨pg_name hN hi hx hf, dg_name hp⟩
theorem gs_nil : XGs X B [] gNil hNil := ⟨pgs_nil, dgs_nil⟩
end

/-! ### list comprehensions -/
def compGo (tg : D → En → Option En) (cond : En → Option Bool) (elt : En → Option D) (ρ : En) : List D → Option (List D)
  | [] => some []
  | d :: ds => (tg d ρ).bind fun ρ1 => (cond ρ1).bind fun b => if b = true then (elt ρ1).bind fun y => (compGo tg cond elt ρ ds).map (y :: ·) else compGo tg cond elt ρ ds
def lComp (src : En → Option (List D)) (tg : D → En → Option En) (cond : En → Option Bool) (elt : En → Option D) (vs : List Nat) : En → Option (List D) := fun ρ =>
  (src ρ).bind fun ds => if ds.length ≤ 1000000 then compGo tg cond elt (wipeE ρ vs) ds else none
theorem compGo_length {tg : D → En → Option En} {cond : En → Option Bool} {elt : En → Option D} {ρ : En} : ∀ {ds zs : List D}, compGo tg cond elt ρ ds = some zs → zs.length ≤ ds.length
  | [], zs, h => by cases h; exact Nat.le_refl _
  | d :: ds, zs, h => by
    unfold compGo at h
    obtain ⟨ρ1, _, h⟩ := bind_some h
    obtain ⟨b, _, h⟩ := bind_some h
    split at h
    · obtain ⟨y, _, h⟩ := bind_some h
      obtain ⟨r, h1, h2⟩ := map_some h
      subst h2
      have := compGo_length h1
      simp only [List.length_cons]; omega
    · have := compGo_length h
      simp only [List.length_cons]; omega
section
variable {K : PySem.W.Frag} {B : Bs} {wi : TI} {g : TG} {tt : TT} {te : TE} {vs : List Nat} {src : En → Option (List D)} {tg : D → En → Option En} {cond : En → Option Bool} {elt : En → Option D}
theorem dl_comp (hp : vs.all (free B) = true) (hi : DI K B wi src) (hg : DG K B g tg) (hw : GW g vs) (ht : DT K B tt cond) (he : DE K B te elt) : DL K B (tLc wi g tt te vs) (lComp src tg cond elt vs) := fun ρ σ H O zs R e Q q => by
  obtain ⟨ds, h1, e⟩ := bind_some e
  split at e
  · rename_i hlen
    refine hi ρ σ H O ds R h1 _ fun J H1 s1 io Dl hD => ?_
    have R1 := R.grow s1
    have nD : Dl ∉ O := R1.fresh hD
    have g1 : Same (hid H1 O) (hid (upd H1 Dl (.lst [])) (Dl :: O)) := hid_new _ hD
    refine ⟨fun i m H2 => m = ds.length - i ∧ i ≤ ds.length ∧ Same H1 H2 ∧ ∃ acc accD rest, H2 Dl = some (.lst acc) ∧ DqAll K (hid H2 (Dl :: O)) acc accD ∧ compGo tg cond elt (wipeE ρ vs) (ds.drop i) = some rest ∧ accD ++ rest = zs ∧ accD.length ≤ i,
      ⟨ds.length, by simp, Nat.zero_le _, same_new _ hD, [], [], zs, upd_same, .nil, by simpa using e, rfl, Nat.le_refl _⟩, ?_⟩
    rintro i m H2 ⟨rfl, hin, s2, acc, accD, rest, hl, ha, hr, hz, hacc⟩
    -- the state within the block: the new list is owned
    have RB : ∀ {H3 : Hp} {acc' : List V}, Same H1 H3 → H3 Dl = some (.lst acc') → RS K B (wipeE ρ vs) (wipe σ vs) H3 (Dl :: O) := fun {H3 acc'} s3 hl3 => by
      have R3 : RS K B (wipeE ρ vs) (wipe σ vs) H3 O := (R1.grow s3).wipe vs hp
      refine R3.take nD (R1.fresh0 hD) hl3 rfl fun j s ej => ?_
      obtain ⟨v, a, b⟩ := (R1.wipe vs hp).slot j s ej
      refine ⟨v, a, SOk.grow (fun l hlO _ => ⟨List.mem_cons_of_mem _ hlO, ?_⟩) ?_ b⟩
      · obtain ⟨o, q, _⟩ := R1.mu l hlO
        rw [q, s3 l o q]
      · intro a o h
        obtain ⟨x, y⟩ := of_hid h
        rw [hid_out]
        · exact s3 a o y
        · simp only [List.mem_cons, not_or]; exact ⟨ne_of_none y hD, x⟩
    have gr : ∀ {H3 : Hp}, Same H1 H3 → Same (hid H1 O) (hid H3 (Dl :: O)) := fun {H3} s3 a o h => by
      obtain ⟨x, y⟩ := of_hid h
      rw [hid_out]
      · exact s3 a o y
      · simp only [List.mem_cons, not_or]; exact ⟨ne_of_none y hD, x⟩
    have RB2 := RB s2 hl
    obtain ⟨it1, it2⟩ := io H2 (Dl :: O) (gr s2) RB2.there i
    by_cases hlt : i < ds.length
    · obtain ⟨go, yld⟩ := it1 _ (List.getElem?_eq_getElem hlt)
      rw [List.drop_eq_getElem_cons hlt] at hr
      unfold compGo at hr
      obtain ⟨ρ1, hr1, hr⟩ := bind_some hr
      obtain ⟨b, hr2, hr⟩ := bind_some hr
      refine .inr ⟨go, fun H' => Same H1 H' ∧ ∃ acc accD rest, H' Dl = some (.lst acc) ∧ DqAll K (hid H' (Dl :: O)) acc accD ∧ compGo tg cond elt (wipeE ρ vs) (ds.drop (i + 1)) = some rest ∧ accD ++ rest = zs ∧ accD.length ≤ i + 1, fun H' ⟨a, b⟩ => ⟨_, by omega, rfl, hlt, a, b⟩, fun x H' y => ?_⟩
      obtain ⟨s3, hx⟩ := yld x H' y
      have RB3 := RB2.grow s3
      have ha3 := DqAll.mono (hid_grow s3) _ _ ha
      have hl3 := s3 _ _ hl
      refine hw x (wipe σ vs) H' _ _ (hg _ _ H' (Dl :: O) x _ ρ1 RB3 hx hr1 _ fun σ2 H4 s4 R4 => (⟨s4, R4⟩ : Same H' H4 ∧ RS K B ρ1 σ2 H4 (Dl :: O))) fun σ2 H4 w2 ⟨s4, R4⟩ => ⟨?_, ?_⟩
      · have ww : ∀ (vs : List Nat) (σ : L2.St), wipe (wipe σ vs) vs = wipe σ vs := by
          have key : ∀ (us vs : List Nat) (σ : L2.St), (∀ u ∈ us, u ∈ vs) → wipe (wipe σ us) vs = wipe σ vs := by
            intro us
            induction us with
            | nil => intro vs σ _; rfl
            | cons u us ih => intro vs σ hu; show wipe ((wipe σ us).set u none) vs = _; rw [wipe_set (hu u List.mem_cons_self), ih vs σ fun w hw => hu w (List.mem_cons_of_mem _ hw)]
          intro vs σ
          exact key vs vs σ fun _ h => h
        rw [w2, ww]
      · refine ht _ _ H4 _ b R4 hr2 _ fun H5 s5 => ?_
        have s15 := s2.trans (s3.trans (s4.trans s5))
        cases b with
        | true =>
          rw [if_pos rfl] at hr ⊢
          obtain ⟨yd, hr3, hr⟩ := bind_some hr
          obtain ⟨rest', hr4, hr5⟩ := map_some hr
          refine he _ _ H5 _ yd (R4.grow s5) hr3 _ fun yv H6 s6 hy => ?_
          have hl6 := s6 _ _ (s5 _ _ (s4 _ _ hl3))
          have ha6 := DqAll.mono (hid_grow (s4.trans (s5.trans s6))) _ _ ha3
          refine ⟨acc, hl6, lineL (by rw [ha.length]; omega), (fun a o h => by rw [upd_ne (ne_of_none h hD)]; exact (s15.trans s6) a o h), acc ++ [yv], accD ++ [yd], rest', upd_same, ?_, hr4, ?_, by rw [List.length_append, List.length_singleton]; omega⟩
          · rw [hid_write _ List.mem_cons_self]
            exact ha6.append (.one hy)
          · rw [← hz, ← hr5, List.append_assoc]; rfl
        | false =>
          rw [if_neg Bool.false_ne_true] at hr ⊢
          exact ⟨s15, acc, accD, rest, s5 _ _ (s4 _ _ hl3), DqAll.mono (hid_grow (s4.trans s5)) _ _ ha3, hr, hz, by omega⟩
    · have hi : i = ds.length := by omega
      refine .inl ⟨it2 (by omega), ?_⟩
      rw [hi, List.drop_length] at hr
      have hr : [] = rest := Option.some.inj hr
      subst hr
      rw [List.append_nil] at hz
      subst hz
      exact q Dl acc H2 (s1.trans s2) (s1.free hD) hl ha
  · cases e
end
structure XTs (X : Cx) (B : Bs) (ifs : List Expr) (t : TT) (f : En → Option Bool) : Prop where
  pe : PTs X ifs t
  de : DT B.K B t f
def cYes : En → Option Bool := fun _ => some true
section
variable {X : Cx} {B : Bs} {pos : Pos}
theorem dt_yes {K : PySem.W.Frag} : DT K B tYes cYes := fun ρ σ H O b R e Q q => by
  have e : true = b := Option.some.inj e
  subst e
  exact q H (Same.refl H)
theorem ts_nil : XTs X B [] tYes cYes := ⟨pts_nil, dt_yes⟩
theorem ts_one {c : Expr} {t : TT} {f : En → Option Bool} (h : XT X B c t f) : XTs X B [c] t f := ⟨pts_one h.pe, h.de⟩
theorem gs_cons {e : Expr} {es : List Expr} {t : TG} {u : TGs} {h : D → En → Option En} {k : List D → En → Option En} (h1 : XG X B e t h) (h2 : XGs X B es u k) (hs : (assignEach (e :: es) X.env).map (·.2) = assign e X.env :: (assignEach es X.env).map (·.2) := by rfl) : XGs X B (e :: es) (gCons t u) (hCons h k) := ⟨pgs_cons h1.pe h2.pe hs, dgs_cons h1.de h2.de⟩
/-- a comprehension as a value -/
theorem l_lc {elt tg iter : Expr} {ifs : List Expr} {scope : Scope} {own : List (Str × Nat)} {wi : TI} {g : TG} {tt : TT} {te : TE} {src : En → Option (List D)} {ht : D → En → Option En} {cond : En → Option Bool} {fe : En → Option D} (hc : X.calm = true) (hN : X.N.Nodup) (hi : XI X B tg iter wi src) (ok : BlkOk X.N X.env.scope scope own)
    (hw : GW g (own.map (·.2)))
    (hg : ∀ (s : Shared) (H : Hp) (C : Addr) (cl : List (Str × Addr)) (fp : List Addr), XG (X.blk s H scope (compEnvC scope cl C X.env) fp) B tg g ht) (ht' : ∀ (s : Shared) (H : Hp) (C : Addr) (cl : List (Str × Addr)) (fp : List Addr), XTs (X.blk s H scope (compEnvC scope cl C X.env) fp) B ifs tt cond)
    (he : ∀ (s : Shared) (H : Hp) (C : Addr) (cl : List (Str × Addr)) (fp : List Addr), XE (X.blk s H scope (compEnvC scope cl C X.env) fp) B elt te fe) (hs : ∀ x, foldedSetIterable iter X.env x = pure x := by intro _; rfl) (hp : (own.map (·.2)).all (free B) = true := by rfl) :
    XL X B (.ListComp elt [⟨tg, iter, ifs, 0⟩] scope pos) (tLc wi g tt te (own.map (·.2))) (lComp src ht cond fe (own.map (·.2))) :=
  ⟨pe_lc hc hN hi.pe ok (fun s H C cl fp => (hg s H C cl fp).pe) (fun s H C cl fp => (ht' s H C cl fp).pe) (fun s H C cl fp => (he s H C cl fp).pe) hs,
   dl_comp hp hi.de (hg X.s_0 X.H_0 0 [] []).de hw (ht' X.s_0 X.H_0 0 [] []).de (he X.s_0 X.H_0 0 [] []).de⟩
end
/-! ### a comprehension in a comprehension -/
def relabelS (scope sc : Scope) : Scope := { scope with names := scope.names.map fun (n, k) => if (k == .free && sc.kind == .function && sc.names.lookup n == some .cell) then (n, .cell) else (n, k) }
theorem blkOk_nest {X : Cx} {s : Shared} {H : Hp} {C : Addr} {cl : List (Str × Addr)} {fp : List Addr} {N : List Str} {scO scope : Scope} {own : List (Str × Nat)} (sc : Scope) (e : X.env.scope = sc) (h : blkC N (relabelS scO sc) scope own = true) : BlkOk N (X.blk s H scO (compEnvC scO cl C X.env) fp).env.scope scope own := by
  subst e
  exact blkOk_by h
end Z

set_option Elab.async false
set_option maxRecDepth 100000
set_option maxHeartbeats 4000000
set_option linter.all false
/-! Z5: calls of own defs, statements, a def's promise -/
namespace Z
open PySem PySem.Spec PyProof.Rows L2

/-! ### what a def hands back: ground data, or a list of its own making -/
inductive Rv
  | v (d : D)
  | l (ds : List D)
def Rv.d : Rv → D
  | .v d => d
  | .l ds => .list ds
def Rv.ls : Rv → Option (List D)
  | .v _ => none
  | .l ds => some ds
def RvOk (K : PySem.W.Frag) (H H' : Hp) (O : List Addr) (v : V) : Rv → Prop
  | .v d => Dq K (hid H' O) v d
  | .l ds => ∃ l vs, v = .ref l ∧ H l = none ∧ H' l = some (.lst vs) ∧ DqAll K (hid H' (l :: O)) vs ds
def spD (K : PySem.W.Frag) (n : Nat) (g : List D → Option Rv) : Sp := fun vs H Q _ => vs.length = n ∧ ∃ O ds r, (∀ a ∈ O, ∃ o, H a = some o ∧ isMut o = true) ∧ DqAll K (hid H O) vs ds ∧ g ds = some r ∧ ∀ v H', Same H H' → RvOk K H H' O v r → Q v H'
def immR : Rv → Bool
  | .v d => imm d
  | .l ds => immAll ds
/-- the addresses among values -/
def refs : List V → List Addr
  | [] => []
  | .ref a :: vs => a :: refs vs
  | _ :: vs => refs vs
theorem refs_mem : ∀ {vs : List V} {a : Addr}, V.ref a ∈ vs → a ∈ refs vs
  | .ref b :: vs, a, h => by
    rcases List.mem_cons.mp h with e | h
    · cases e; exact List.mem_cons_self
    · exact List.mem_cons_of_mem _ (refs_mem h)
  | .non :: vs, a, h => by rcases List.mem_cons.mp h with e | h; cases e; exact @refs_mem vs a h
  | .bl _ :: vs, a, h => by rcases List.mem_cons.mp h with e | h; cases e; exact @refs_mem vs a h
  | .int _ :: vs, a, h => by rcases List.mem_cons.mp h with e | h; cases e; exact @refs_mem vs a h
  | .str _ :: vs, a, h => by rcases List.mem_cons.mp h with e | h; cases e; exact @refs_mem vs a h
  | .byt _ :: vs, a, h => by rcases List.mem_cons.mp h with e | h; cases e; exact @refs_mem vs a h
  | .flt _ :: vs, a, h => by rcases List.mem_cons.mp h with e | h; cases e; exact @refs_mem vs a h
  | .ty _ :: vs, a, h => by rcases List.mem_cons.mp h with e | h; cases e; exact @refs_mem vs a h
section
variable {K : PySem.W.Frag} {B : Bs} {ρ : En} {σ : L2.St} {H H' : Hp} {O : List Addr}
theorem RvOk.grow {H0 : Hp} (s : Same H0 H) {v : V} : ∀ {r : Rv}, RvOk K H H' O v r → RvOk K H0 H' O v r
  | .v _, h => h
  | .l _, ⟨l, vs, a, b, c, d⟩ => ⟨l, vs, a, s.free b, c, d⟩
theorem RvOk.d (R : RS K B ρ σ H O) {v : V} : ∀ {r : Rv}, RvOk K H H' O v r → Dq K (hid H' O) v r.d
  | .v _, h => h
  | .l _, ⟨l, vs, e, b, c, d⟩ => by
    subst e
    exact .lst (SqL.of (by rw [hid_out (R.fresh b)]; exact c)) (DqAll.mono (hid_less fun a ha => List.mem_cons_of_mem _ ha) _ _ d)
/-- arguments of which some are owned: read by the callee, the rest hidden -/
def lent (O : List Addr) (vs : List V) : List Addr := O.filter fun a => !(refs vs).contains a
theorem lent_sub {O : List Addr} {vs : List V} : ∀ a ∈ lent O vs, a ∈ O := fun a h => (List.mem_filter.mp h).1
theorem lent_out {O : List Addr} {vs : List V} {a : Addr} (h : V.ref a ∈ vs) : a ∉ lent O vs := fun z => by
  have := (List.mem_filter.mp z).2
  rw [List.contains_iff_mem.mpr (refs_mem h)] at this
  cases this
theorem lent_one (vs : List V) {v : V} {d : D} (m : v ∈ vs) (h : Bo K H O v d) : Dq K (hid H (lent O vs)) v d := by
  have g : Same (hid H O) (hid H (lent O vs)) := hid_less lent_sub
  rcases h with h | ⟨l, us, ds, rfl, rfl, _, h, a⟩ | ⟨l, us, tt, kvs, rfl, rfl, _, h, a⟩
  · exact Dq.mono g _ _ h
  · exact .lst (SqL.of (by rw [hid_out (lent_out m)]; exact h)) (DqAll.mono g _ _ a)
  · exact dobj_dq (by rw [hid_out (lent_out m)]; exact h) (DObj.mono g a)
theorem lent_all (ws : List V) : ∀ {vs : List V} {ds : List D}, (∀ v ∈ vs, v ∈ ws) → BoAll K H O vs ds → DqAll K (hid H (lent O ws)) vs ds
  | _, _, _, .nil => .nil
  | _, _, m, .cons a t => .cons (lent_one ws (m _ List.mem_cons_self) a) (lent_all ws (fun v hv => m v (List.mem_cons_of_mem _ hv)) t)
def toD (o : Option Rv) : Option D := o.map Rv.d
def toL (o : Option Rv) : Option (List D) := o.bind Rv.ls
def immG (o : Option Rv) : Option Rv := o.bind fun r => if immR r = true then some r else none
theorem de_call {n : Nat} {g : List D → Option Rv} {E : XK} {ta : TA} {a : En → Option (List D)} (hn : ∀ ds, g ds ≠ none → ds.length = n) (h : DA K B ta a) : DE K B (tCall (spD K n g) [] E ta) (eCall (fun ds => toD (g ds)) a) := fun ρ σ H O z R e Q q => by
  obtain ⟨ds, h1, e⟩ := bind_some e
  obtain ⟨r, h2, h3⟩ := map_some e
  subst h3
  refine h ρ σ H O ds R h1 _ fun vs H1 s x => ?_
  rw [List.append_nil]
  have R1 := R.grow s
  exact ⟨by rw [x.length]; exact hn ds (by rw [h2]; simp), O, ds, r, R1.mu, x, h2, fun v H2 s2 y => q v H2 (s.trans s2) (y.d R1)⟩
theorem dl_call {n : Nat} {g : List D → Option Rv} {E : XK} {ta : TA} {a : En → Option (List D)} (hn : ∀ ds, g ds ≠ none → ds.length = n) (h : DA K B ta a) : DL K B (tCall (spD K n g) [] E ta) (eCall (fun ds => toL (g ds)) a) := fun ρ σ H O z R e Q q => by
  obtain ⟨ds, h1, e⟩ := bind_some e
  obtain ⟨r, h2, h3⟩ := bind_some e
  refine h ρ σ H O ds R h1 _ fun vs H1 s x => ?_
  rw [List.append_nil]
  have R1 := R.grow s
  refine ⟨by rw [x.length]; exact hn ds (by rw [h2]; simp), O, ds, r, R1.mu, x, h2, fun v H2 s2 y => ?_⟩
  cases r with
  | v d => cases h3
  | l es =>
    have h3 : es = z := Option.some.inj h3
    subst h3
    obtain ⟨l, us, rfl, b, c, d⟩ := y
    exact q l us H2 (s.trans s2) (s.free b) c d
theorem de_callB {n : Nat} {g : List D → Option Rv} {E : XK} {ta : TA} {a : En → Option (List D)} (hn : ∀ ds, g ds ≠ none → ds.length = n) (h : DAB K B ta a) : DE K B (tCall (spD K n g) [] E ta) (eCall (fun ds => toD (immG (g ds))) a) := fun ρ σ H O z R e Q q => by
  obtain ⟨ds, h1, e⟩ := bind_some e
  obtain ⟨r, h2, h3⟩ := map_some e
  subst h3
  obtain ⟨r', h2, h4⟩ := bind_some h2
  split at h4
  · rename_i him
    cases h4
    refine h ρ σ H O ds R h1 _ fun vs H1 s x => ?_
    rw [List.append_nil]
    have R1 := R.grow s
    have hl : vs.length = ds.length := by
      have : ∀ {vs : List V} {ds : List D}, BoAll K H1 O vs ds → vs.length = ds.length := by
        intro vs ds h
        induction h with
        | nil => rfl
        | cons _ _ ih => exact congrArg (· + 1) ih
      exact this x
    refine ⟨by rw [hl]; exact hn ds (by rw [h2]; simp), lent O vs, ds, r, fun a ha => R1.mu a (lent_sub a ha), lent_all vs (fun _ h => h) x, h2, fun v H2 s2 y => ?_⟩
    have R2 := R1.grow s2
    refine q v H2 (s.trans s2) ?_
    cases r with
    | v d => exact Dq.move (R2.tups _) d v him y
    | l es =>
      obtain ⟨l, us, e, b, c, d⟩ := y
      subst e
      exact .lst (SqL.of (by rw [hid_out (R1.fresh b)]; exact c)) (DqAll.move (R2.tups _) _ _ him d)
  · cases h4
theorem dl_callB {n : Nat} {g : List D → Option Rv} {E : XK} {ta : TA} {a : En → Option (List D)} (hn : ∀ ds, g ds ≠ none → ds.length = n) (h : DAB K B ta a) : DL K B (tCall (spD K n g) [] E ta) (eCall (fun ds => toL (immG (g ds))) a) := fun ρ σ H O z R e Q q => by
  obtain ⟨ds, h1, e⟩ := bind_some e
  obtain ⟨r, h2, h3⟩ := bind_some e
  obtain ⟨r', h2, h4⟩ := bind_some h2
  split at h4
  · rename_i him
    cases h4
    refine h ρ σ H O ds R h1 _ fun vs H1 s x => ?_
    rw [List.append_nil]
    have R1 := R.grow s
    have hl : vs.length = ds.length := by
      have : ∀ {vs : List V} {ds : List D}, BoAll K H1 O vs ds → vs.length = ds.length := by
        intro vs ds h
        induction h with
        | nil => rfl
        | cons _ _ ih => exact congrArg (· + 1) ih
      exact this x
    refine ⟨by rw [hl]; exact hn ds (by rw [h2]; simp), lent O vs, ds, r, fun a ha => R1.mu a (lent_sub a ha), lent_all vs (fun _ h => h) x, h2, fun v H2 s2 y => ?_⟩
    have R2 := R1.grow s2
    cases r with
    | v d => cases h3
    | l es =>
      have h3 : es = z := Option.some.inj h3
      subst h3
      obtain ⟨l, us, e, b, c, d⟩ := y
      subst e
      refine q l us H2 (s.trans s2) (s.free b) c (DqAll.move (fun a xs h => ?_) _ _ him d)
      -- a tuple is seen whatever is hidden
      rcases h with h | h
      · refine .inl ?_
        have key : ∀ o, hid H2 (l :: lent O vs) a = some o → isMut o = false → hid H2 (l :: O) a = some o := fun o e m => by
          obtain ⟨x1, e⟩ := of_hid e
          rw [hid_out]
          · exact e
          · simp only [List.mem_cons, not_or] at x1 ⊢
            refine ⟨x1.1, fun zz => ?_⟩
            obtain ⟨o', e', m'⟩ := R2.mu a zz
            rw [e] at e'; cases e'
            rw [m] at m'; cases m'
        rcases h with h | ⟨o, h⟩
        · exact .inl (key _ h rfl)
        · exact .inr ⟨o, key _ h rfl⟩
      · exact .inr h
  · cases h4
end
/-- a def of the program, by what it computes -/
structure DF (P : Program) (w : World) (K : PySem.W.Frag) (mg : Str → Option Value) (base : Heap) (k : Nat) (x : Str) (n : Nat) (g : List D → Option Rv) : Prop where
  ex : ∃ f fd ps, FnOk P w K mg base CX0 k f fd ps (spD K n g) ∧ mg x = some (.ref f) ∧ PySem.W.keepIn K (.ref f) = true ∧ Binds K fd ps []
  len : ∀ ds, g ds ≠ none → ds.length = n
section
variable {X : Cx} {B : Bs} {x : Str} {k n : Nat} {g : List D → Option Rv} {p pos : Pos} {ex : Expr} {es : List Expr} {ta : TA} {a : En → Option (List D)}
theorem DF.mono {P : Program} {w : World} {K : PySem.W.Frag} {mg : Str → Option Value} {base : Heap} {j k : Nat} (F : DF P w K mg base j x n g) (h : j ≤ k) : DF P w K mg base k x n g := by
  obtain ⟨⟨f, fd, ps, a, b⟩, l⟩ := F
  exact ⟨⟨f, fd, ps, a.mono h, b⟩, l⟩
theorem x_call (F : DF X.prog X.w X.K X.mg X.base k x n g) (hr : Room k X.A) (ha : XA X B (ex :: es) ta a) (hg : Gl X x := by rfl) (hdb : (x == ("__debug__" : Str)) = false := by decide) (he : starEach (ex :: es) X.env = (false, eval ex X.env) :: starEach es X.env := by rfl) (hpl : (backTo pos (starEach es X.env)).any (·.1) = false := by rfl) (hk : X.K = B.K := by rfl) :
    XE X B (.Call (.Name x p) (ex :: es) [] pos) (tCall (spD B.K n g) [] E0 ta) (eCall (fun ds => toD (g ds)) a) := by
  obtain ⟨⟨f, fd, ps, F, hm, hkp, hb⟩, hn⟩ := F
  exact ⟨hk ▸ pe_call F hr hg hm hkp hb .nil pass0 ha.pe hdb he hpl, de_call hn ha.de⟩
theorem l_call (F : DF X.prog X.w X.K X.mg X.base k x n g) (hr : Room k X.A) (ha : XA X B (ex :: es) ta a) (hg : Gl X x := by rfl) (hdb : (x == ("__debug__" : Str)) = false := by decide) (he : starEach (ex :: es) X.env = (false, eval ex X.env) :: starEach es X.env := by rfl) (hpl : (backTo pos (starEach es X.env)).any (·.1) = false := by rfl) (hk : X.K = B.K := by rfl) :
    XL X B (.Call (.Name x p) (ex :: es) [] pos) (tCall (spD B.K n g) [] E0 ta) (eCall (fun ds => toL (g ds)) a) := by
  obtain ⟨⟨f, fd, ps, F, hm, hkp, hb⟩, hn⟩ := F
  exact ⟨hk ▸ pe_call F hr hg hm hkp hb .nil pass0 ha.pe hdb he hpl, dl_call hn ha.de⟩
theorem x_callB (F : DF X.prog X.w X.K X.mg X.base k x n g) (hr : Room k X.A) (ha : XAB X B (ex :: es) ta a) (hg : Gl X x := by rfl) (hdb : (x == ("__debug__" : Str)) = false := by decide) (he : starEach (ex :: es) X.env = (false, eval ex X.env) :: starEach es X.env := by rfl) (hpl : (backTo pos (starEach es X.env)).any (·.1) = false := by rfl) (hk : X.K = B.K := by rfl) :
    XE X B (.Call (.Name x p) (ex :: es) [] pos) (tCall (spD B.K n g) [] E0 ta) (eCall (fun ds => toD (immG (g ds))) a) := by
  obtain ⟨⟨f, fd, ps, F, hm, hkp, hb⟩, hn⟩ := F
  exact ⟨hk ▸ pe_call F hr hg hm hkp hb .nil pass0 ha.pe hdb he hpl, de_callB hn ha.de⟩
theorem l_callB (F : DF X.prog X.w X.K X.mg X.base k x n g) (hr : Room k X.A) (ha : XAB X B (ex :: es) ta a) (hg : Gl X x := by rfl) (hdb : (x == ("__debug__" : Str)) = false := by decide) (he : starEach (ex :: es) X.env = (false, eval ex X.env) :: starEach es X.env := by rfl) (hpl : (backTo pos (starEach es X.env)).any (·.1) = false := by rfl) (hk : X.K = B.K := by rfl) :
    XL X B (.Call (.Name x p) (ex :: es) [] pos) (tCall (spD B.K n g) [] E0 ta) (eCall (fun ds => toL (immG (g ds))) a) := by
  obtain ⟨⟨f, fd, ps, F, hm, hkp, hb⟩, hn⟩ := F
  exact ⟨hk ▸ pe_call F hr hg hm hkp hb .nil pass0 ha.pe hdb he hpl, dl_callB hn ha.de⟩
theorem x_call0 (F : DF X.prog X.w X.K X.mg X.base k x n g) (hr : Room k X.A) (hg : Gl X x := by rfl) (hdb : (x == ("__debug__" : Str)) = false := by decide) (hk : X.K = B.K := by rfl) :
    XE X B (.Call (.Name x p) [] [] pos) (tCall (spD B.K n g) [] E0 tNil) (eCall (fun ds => toD (g ds)) aNil) := by
  obtain ⟨⟨f, fd, ps, F, hm, hkp, hb⟩, hn⟩ := F
  exact ⟨hk ▸ pe_call0 F hr hg hm hkp hb .nil pass0 hdb, de_call hn da_nil⟩
theorem l_call0 (F : DF X.prog X.w X.K X.mg X.base k x n g) (hr : Room k X.A) (hg : Gl X x := by rfl) (hdb : (x == ("__debug__" : Str)) = false := by decide) (hk : X.K = B.K := by rfl) :
    XL X B (.Call (.Name x p) [] [] pos) (tCall (spD B.K n g) [] E0 tNil) (eCall (fun ds => toL (g ds)) aNil) := by
  obtain ⟨⟨f, fd, ps, F, hm, hkp, hb⟩, hn⟩ := F
  exact ⟨hk ▸ pe_call0 F hr hg hm hkp hb .nil pass0 hdb, dl_call hn da_nil⟩
end

/-! ### statements -/
inductive Out
  | nx (ρ : En)
  | rt (d : D)
  | rl (ds : List D)
  | bk (ρ : En)
  | ct (ρ : En)
  | rp (d : D) (ρ : En)
  | ex (nm : Str) (d : D)
def Good (K : PySem.W.Frag) (B : Bs) (H : Hp) (O : List Addr) (o : Out) (D : Ends) : Prop := match o with
  | .nx ρ' => ∀ σ' H' O', RS K B ρ' σ' H' O' → Same (hid H O) (hid H' O') → D.nx σ' H'
  | .rt d => ∀ v ρ' σ' H' O', RS K B ρ' σ' H' O' → Dq K (hid H' O') v d → D.rt v H'
  | .rl ds => ∀ l vs ρ' σ' H' O', RS K B ρ' σ' H' O' → B.H0 l = none → H' l = some (.lst vs) → DqAll K (hid H' O') vs ds → (l ∉ O' → DqAll K (hid H' (l :: O')) vs ds) → D.rt (.ref l) H'
  | .bk ρ' => ∀ σ' H' O', RS K B ρ' σ' H' O' → Same (hid H O) (hid H' O') → D.bk σ' H'
  | .ct ρ' => ∀ σ' H' O', RS K B ρ' σ' H' O' → Same (hid H O) (hid H' O') → D.ct σ' H'
  | .rp d ρ' => ∀ v σ' H' O', RS K B ρ' σ' H' O' → Dq K (hid H' O') v d → D.rt v H'
  | .ex nm at_ => ∀ C d v ρ' σ' H' O', RS K B ρ' σ' H' O' → clsOf K nm = some C → B.H0 d = none → H' d = some (.xd [(("at" : Str), v)]) → d ∉ O' → Dq K (hid H' O') v at_ → B.W (.ref C) (some d) σ' H'
def DS (K : PySem.W.Frag) (B : Bs) (t : TS) (F : En → Option Out) : Prop := ∀ ρ σ H O o, RS K B ρ σ H O → F ρ = some o → ∀ D : Ends, Good K B H O o D → t D σ H
structure XS (X : Cx) (B : Bs) (s : Stmt) (t : TS) (F : En → Option Out) : Prop where
  pe : PS X s t
  de : DS B.K B t F
structure XSs (X : Cx) (B : Bs) (s : List Stmt) (t : TS) (F : En → Option Out) : Prop where
  pe : PSs X s t
  de : DS B.K B t F
theorem Good.step {K : PySem.W.Frag} {B : Bs} {H H1 : Hp} {O O1 : List Addr} (s : Same (hid H O) (hid H1 O1)) {D : Ends} : ∀ {o : Out}, Good K B H O o D → Good K B H1 O1 o D
  | .nx _, h => fun σ' H' O' R e => h σ' H' O' R (s.trans e)
  | .rt _, h => h
  | .rl _, h => h
  | .bk _, h => fun σ' H' O' R e => h σ' H' O' R (s.trans e)
  | .ct _, h => fun σ' H' O' R e => h σ' H' O' R (s.trans e)
  | .rp _ _, h => h
  | .ex _ _, h => h
def sNil : En → Option Out := fun ρ => some (.nx ρ)
def sSeq (F G : En → Option Out) : En → Option Out := fun ρ => match F ρ with
  | some (.nx ρ') => G ρ'
  | o => o
def sIf (c : En → Option Bool) (F G : En → Option Out) : En → Option Out := fun ρ => (c ρ).bind fun b => if b = true then F ρ else G ρ
def sSet (i : Nat) (f : En → Option D) : En → Option Out := fun ρ => (f ρ).map fun d => .nx (ρ.set i (some (.ro d)))
def sSetL (i : Nat) (f : En → Option (List D)) : En → Option Out := fun ρ => (f ρ).map fun ds => .nx (ρ.set i (some (.ow ds)))
def sSetR (i : Nat) (f : En → Option (List D)) : En → Option Out := fun ρ => (f ρ).map fun ds => .nx (ρ.set i (some (.lr ds)))
def sAsg (f : En → Option D) (h : D → En → Option En) : En → Option Out := fun ρ => (f ρ).bind fun d => (h d ρ).map .nx
def sDrop (f : En → Option D) : En → Option Out := fun ρ => (f ρ).map fun _ => .nx ρ
def sRet (f : En → Option D) : En → Option Out := fun ρ => (f ρ).map .rt
def sRetL (f : En → Option (List D)) : En → Option Out := fun ρ => (f ρ).map .rl
def sRetO (i : Nat) : En → Option Out := fun ρ => match ρ[i]? with
  | some (some (.ow ds)) => some (.rl ds)
  | _ => none
def sRetN : En → Option Out := fun _ => some (.rt .none)
def sBk : En → Option Out := fun ρ => some (.bk ρ)
def sCt : En → Option Out := fun ρ => some (.ct ρ)
def sBad : En → Option Out := fun _ => none
def sFz (i : Nat) (F : En → Option Out) : En → Option Out := fun ρ => match ρ[i]? with
  | some (some (.ow ds)) => F (ρ.set i (some (.lr ds)))
  | _ => F ρ
def sApp (i : Nat) (f : En → Option D) : En → Option Out := fun ρ => match ρ[i]? with
  | some (some (.ow ds)) => (f ρ).bind fun d => if ds.length < 1000000 then some (.nx (ρ.set i (some (.ow (ds ++ [d]))))) else none
  | _ => none
def sPut (i : Nat) (fi f : En → Option D) : En → Option Out := fun ρ => match ρ[i]? with
  | some (some (.ow ds)) => (f ρ).bind fun d => match fi ρ with
    | some (.int k) => (ixN ds.length k).map fun j => .nx (ρ.set i (some (.ow (ds.set j d))))
    | _ => none
  | _ => none
section
variable {K : PySem.W.Frag} {B : Bs} {ρ : En} {σ : L2.St} {H H' : Hp} {O : List Addr}
/-- a fresh list is owned -/
theorem RS.own1 (R : RS K B ρ σ H O) (e : Same H H') {l : Addr} (n : H l = none) {o : HO} (h : H' l = some o) (m : isMut o = true) : RS K B ρ σ H' (l :: O) ∧ Same (hid H O) (hid H' (l :: O)) := by
  have g : Same (hid H O) (hid H' (l :: O)) := fun a u h => by
    obtain ⟨x, y⟩ := of_hid h
    rw [hid_out]
    · exact e a u y
    · simp only [List.mem_cons, not_or]; exact ⟨ne_of_none y n, x⟩
  refine ⟨(R.grow e).take (R.fresh n) (R.fresh0 n) h m fun j s ej => ?_, g⟩
  obtain ⟨v, a, b⟩ := R.slot j s ej
  refine ⟨v, a, SOk.grow (fun l' hl _ => ⟨List.mem_cons_of_mem _ hl, ?_⟩) g b⟩
  obtain ⟨o, q, _⟩ := R.mu l' hl
  rw [q, e l' o q]
theorem RS.setOw (R : RS K B ρ σ H O) {i : Nat} {l : Addr} {vs : List V} {ds : List D} (hO : l ∈ O) (h0 : l ∉ B.O0) (hl : H l = some (.lst vs)) (ha : DqAll K (hid H O) vs ds)
    (hpin : ∀ j l', B.pin = some (j, l') → (σ.set i (some (V.ref l)))[j]? = some (some (V.ref l'))) (no : ∀ (j : Nat) s, ρ[j]? = some (some s) → s.owned = true → i ≠ j → σ[j]? = some (some (V.ref l)) → False) : RS K B (ρ.set i (some (.ow ds))) (σ.set i (some (.ref l))) H O where
  len := by rw [List.length_set, List.length_set]; exact R.len
  slot := fun j s e => by
    by_cases hj : i = j
    · subst hj
      by_cases hi : i < ρ.length
      · rw [List.getElem?_set_self hi] at e
        have e := Option.some.inj (Option.some.inj e)
        subst e
        exact ⟨_, List.getElem?_set_self (by rw [← R.len]; exact hi), l, vs, rfl, hO, h0, hl, ha⟩
      · rw [List.getElem?_eq_none (by rw [List.length_set]; omega)] at e; cases e
    · rw [List.getElem?_set_ne hj] at e
      obtain ⟨u, a, b⟩ := R.slot j s e
      exact ⟨u, by rw [List.getElem?_set_ne hj]; exact a, b⟩
  uniq := fun j k s s' l' hjk e1 e2 o1 o2 z1 z2 => by
    have self : ∀ {s : SV} {l' : Addr}, (σ.set i (some (V.ref l)))[i]? = some (some (V.ref l')) → l' = l := fun {s l'} z => by
      by_cases hi : i < σ.length
      · rw [List.getElem?_set_self hi] at z
        cases z; rfl
      · rw [List.getElem?_eq_none (by rw [List.length_set]; omega)] at z; cases z
    by_cases hj : i = j
    · subst hj
      have e := self (s := s) z1
      subst e
      rw [List.getElem?_set_ne hjk] at e2 z2
      exact no k s' e2 o2 hjk z2
    · rw [List.getElem?_set_ne hj] at e1 z1
      by_cases hk : i = k
      · subst hk
        have e := self (s := s) z2
        subst e
        exact no j s e1 o1 hj z1
      · rw [List.getElem?_set_ne hk] at e2 z2
        exact R.uniq j k s s' l' hjk e1 e2 o1 o2 z1 z2
  same := R.same
  own := R.own
  mu := R.mu
  sub0 := R.sub0
  lo := R.lo
  pin := hpin
/-- an owned list is written -/
theorem RS.write (R : RS K B ρ σ H O) {i : Nat} {ds ds' : List D} {l : Addr} {vs' : List V} (e : ρ[i]? = some (some (.ow ds))) (es : σ[i]? = some (some (.ref l))) (ha : DqAll K (hid H O) vs' ds') : RS K B (ρ.set i (some (.ow ds'))) σ (upd H l (.lst vs')) O := by
  obtain ⟨v, e1, l', vs, rfl, hO, h0, hl, _⟩ := R.slot i _ e
  rw [es] at e1
  cases e1
  have hid_eq := hid_write (H := H) (O := O) (l := l) (.lst vs') hO
  have ne : ∀ a ∈ O, a ≠ l → upd H l (.lst vs') a = H a := fun a _ h => upd_ne h
  have R1 : RS K B (ρ.set i none) σ (upd H l (.lst vs')) O := {
    len := by rw [List.length_set]; exact R.len
    slot := fun j s ej => by
      have hj : i ≠ j := fun hj => by
        subst hj
        by_cases hi : i < ρ.length
        · rw [List.getElem?_set_self hi] at ej; cases ej
        · rw [List.getElem?_eq_none (by rw [List.length_set]; omega)] at ej; cases ej
      rw [List.getElem?_set_ne hj] at ej
      obtain ⟨u, a, b⟩ := R.slot j s ej
      refine ⟨u, a, ?_⟩
      have nl : ∀ l2, u = .ref l2 → s.owned = true → l2 ≠ l := fun l2 eu ow z => by
        subst eu z
        exact R.uniq i j _ _ _ hj e ej rfl ow es a
      cases s with
      | ro d => show Dq K (hid _ O) u d; rw [hid_eq]; exact b
      | ow es' =>
        obtain ⟨l2, vs2, eu, b1, b2, b3, b4⟩ := b
        exact ⟨l2, vs2, eu, b1, b2, by rw [upd_ne (nl l2 eu rfl)]; exact b3, by rw [hid_eq]; exact b4⟩
      | oK tt kvs =>
        obtain ⟨l2, vs2, eu, b1, b2, b3, b4⟩ := b
        exact ⟨l2, vs2, eu, b1, b2, by rw [upd_ne (nl l2 eu rfl)]; exact b3, by rw [hid_eq]; exact b4⟩
      | lr es' =>
        obtain ⟨l2, vs2, eu, b3, b4⟩ := b
        exact ⟨l2, vs2, eu, by rw [hid_eq]; exact b3, by rw [hid_eq]; exact b4⟩
      | xc nm at_ =>
        obtain ⟨a9, d9, C9, u9, f1, f2, f3, f4, f5⟩ := b
        exact ⟨a9, d9, C9, u9, f1, by rw [hid_eq]; exact f2, f3, by rw [hid_eq]; exact f4, by rw [hid_eq]; exact f5⟩
    uniq := fun j k s s' l' hjk e1 e2 o1 o2 z1 z2 => by
      have cut : ∀ {j : Nat} {s : SV}, (ρ.set i none)[j]? = some (some s) → i ≠ j := fun {j s} ej hj => by
        subst hj
        by_cases hi : i < ρ.length
        · rw [List.getElem?_set_self hi] at ej; cases ej
        · rw [List.getElem?_eq_none (by rw [List.length_set]; omega)] at ej; cases ej
      have n1 := cut e1
      have n2 := cut e2
      rw [List.getElem?_set_ne n1] at e1
      rw [List.getElem?_set_ne n2] at e2
      exact R.uniq j k s s' l' hjk e1 e2 o1 o2 z1 z2
    same := fun a o hL h => by
      have : a ≠ l := fun z => by
        subst z
        rcases R.own a hO with q | q | q
        · exact h0 q
        · exact hL q
        · rw [q] at h; cases h
      rw [upd_ne this]; exact R.same a o hL h
    own := R.own
    mu := fun a ha => by
      by_cases z : a = l
      · subst z; exact ⟨_, upd_same, rfl⟩
      · rw [upd_ne z]; exact R.mu a ha
    sub0 := R.sub0
    lo := R.lo
    pin := R.pin }
  have hsig : σ.set i (some (.ref l)) = σ := by
    apply List.ext_getElem?
    intro j
    by_cases hj : i = j
    · subst hj
      rw [List.getElem?_set_self (by
        have := (List.getElem?_eq_some_iff.mp es).1; exact this), es]
    · rw [List.getElem?_set_ne hj]
  have R2 := R1.setOw (i := i) (ds := ds') hO h0 upd_same (by rw [hid_eq]; exact ha) (fun j l' e => by rw [hsig]; exact R.pin j l' e) fun j s ej ow hj z => by
    rw [List.getElem?_set_ne hj] at ej
    exact R.uniq i j _ _ _ hj e ej rfl ow es z
  have hset : (ρ.set i none).set i (some (.ow ds')) = ρ.set i (some (.ow ds')) := List.set_set ..
  rw [hset, hsig] at R2
  exact R2
/-- a slot gets a tracked list, to be read -/
theorem RS.setLr (R : RS K B ρ σ H O) {i : Nat} {l : Addr} {vs : List V} {ds : List D} (hl : hid H O l = some (.lst vs)) (ha : DqAll K (hid H O) vs ds) (hpin : ∀ j l', B.pin = some (j, l') → (σ.set i (some (V.ref l)))[j]? = some (some (V.ref l'))) : RS K B (ρ.set i (some (.lr ds))) (σ.set i (some (.ref l))) H O where
  len := by rw [List.length_set, List.length_set]; exact R.len
  slot := fun j s e => by
    by_cases hj : i = j
    · subst hj
      by_cases hi : i < ρ.length
      · rw [List.getElem?_set_self hi] at e
        have e := Option.some.inj (Option.some.inj e)
        subst e
        exact ⟨_, List.getElem?_set_self (by rw [← R.len]; exact hi), l, vs, rfl, hl, ha⟩
      · rw [List.getElem?_eq_none (by rw [List.length_set]; omega)] at e; cases e
    · rw [List.getElem?_set_ne hj] at e
      obtain ⟨u, a, b⟩ := R.slot j s e
      exact ⟨u, by rw [List.getElem?_set_ne hj]; exact a, b⟩
  uniq := fun j k s s' l hjk e1 e2 o1 o2 z1 z2 => by
    have cut : ∀ {j : Nat} {s : SV}, (ρ.set i (some (.lr ds)))[j]? = some (some s) → s.owned = true → i ≠ j := fun {j s} e o hj => by
      subst hj
      by_cases hi : i < ρ.length
      · rw [List.getElem?_set_self hi] at e
        have e := Option.some.inj (Option.some.inj e)
        subst e
        cases o
      · rw [List.getElem?_eq_none (by rw [List.length_set]; omega)] at e; cases e
    have n1 := cut e1 o1
    have n2 := cut e2 o2
    rw [List.getElem?_set_ne n1] at e1 z1
    rw [List.getElem?_set_ne n2] at e2 z2
    exact R.uniq j k s s' l hjk e1 e2 o1 o2 z1 z2
  same := R.same
  own := R.own
  mu := R.mu
  sub0 := R.sub0
  lo := R.lo
  pin := hpin
/-- an owned list is given away -/
theorem RS.freeze (R : RS K B ρ σ H O) {i : Nat} (hL : ∀ l, σ[i]? = some (some (V.ref l)) → l ∉ B.L) {ds : List D} (e : ρ[i]? = some (some (.ow ds))) : ∃ O', RS K B (ρ.set i (some (.lr ds))) σ H O' ∧ Same (hid H O) (hid H O') := by
  obtain ⟨v, e1, l, vs, rfl, hO, h0, hl, ha⟩ := R.slot i _ e
  have g : Same (hid H O) (hid H (O.filter fun a => decide (a ≠ l))) := hid_less fun a h => (List.mem_filter.mp h).1
  have inO : ∀ {a}, a ∈ O → a ≠ l → a ∈ O.filter fun a => decide (a ≠ l) := fun h n => List.mem_filter.mpr ⟨h, by simpa using n⟩
  refine ⟨O.filter fun a => decide (a ≠ l), ?_, g⟩
  have hsig : σ.set i (some (.ref l)) = σ := by
    apply List.ext_getElem?
    intro j
    by_cases hj : i = j
    · subst hj
      rw [List.getElem?_set_self (List.getElem?_eq_some_iff.mp e1).1, e1]
    · rw [List.getElem?_set_ne hj]
  have R1 : RS K B (ρ.set i none) σ H (O.filter fun a => decide (a ≠ l)) := {
    len := by rw [List.length_set]; exact R.len
    slot := fun j s ej => by
      have hj : i ≠ j := fun hj => by
        subst hj
        by_cases hi : i < ρ.length
        · rw [List.getElem?_set_self hi] at ej; cases ej
        · rw [List.getElem?_eq_none (by rw [List.length_set]; omega)] at ej; cases ej
      rw [List.getElem?_set_ne hj] at ej
      obtain ⟨u, a, b⟩ := R.slot j s ej
      refine ⟨u, a, ?_⟩
      have nl : ∀ l2, u = .ref l2 → s.owned = true → l2 ≠ l := fun l2 eu ow z => by
        subst eu z
        exact R.uniq i j _ _ _ hj e ej rfl ow e1 a
      cases s with
      | ro d => exact Dq.mono g _ _ b
      | ow es' =>
        obtain ⟨l2, vs2, eu, b1, b2, b3, b4⟩ := b
        exact ⟨l2, vs2, eu, inO b1 (nl l2 eu rfl), b2, b3, DqAll.mono g _ _ b4⟩
      | oK tt kvs =>
        obtain ⟨l2, vs2, eu, b1, b2, b3, b4⟩ := b
        exact ⟨l2, vs2, eu, inO b1 (nl l2 eu rfl), b2, b3, DObj.mono g b4⟩
      | lr es' =>
        obtain ⟨l2, vs2, eu, b3, b4⟩ := b
        exact ⟨l2, vs2, eu, g _ _ b3, DqAll.mono g _ _ b4⟩
      | xc nm at_ =>
        obtain ⟨a9, d9, C9, u9, f1, f2, f3, f4, f5⟩ := b
        exact ⟨a9, d9, C9, u9, f1, g _ _ f2, f3, g _ _ f4, Dq.mono g _ _ f5⟩
    uniq := fun j k s s' l' hjk e1 e2 o1 o2 z1 z2 => by
      have cut : ∀ {j : Nat} {s : SV}, (ρ.set i none)[j]? = some (some s) → i ≠ j := fun {j s} ej hj => by
        subst hj
        by_cases hi : i < ρ.length
        · rw [List.getElem?_set_self hi] at ej; cases ej
        · rw [List.getElem?_eq_none (by rw [List.length_set]; omega)] at ej; cases ej
      have n1 := cut e1
      have n2 := cut e2
      rw [List.getElem?_set_ne n1] at e1
      rw [List.getElem?_set_ne n2] at e2
      exact R.uniq j k s s' l' hjk e1 e2 o1 o2 z1 z2
    same := R.same
    own := fun a ha => R.own a (List.mem_filter.mp ha).1
    mu := fun a ha => R.mu a (List.mem_filter.mp ha).1
    sub0 := fun a ha => by
      obtain ⟨x, y, z⟩ := R.sub0 a ha
      exact ⟨inO x fun q => h0 (by rw [← q]; exact ha), y, z⟩
    lo := fun a ha => inO (R.lo a ha) fun q => hL l e1 (by rw [← q]; exact ha)
    pin := R.pin }
  have R2 := R1.setLr (i := i) (l := l) (vs := vs) (ds := ds) (by rw [hid_out (by simp)]; exact hl) (DqAll.mono g _ _ ha) (fun j l' e => by rw [hsig]; exact R.pin j l' e)
  rw [hsig, List.set_set] at R2
  exact R2
end
end Z

set_option Elab.async false
set_option maxRecDepth 100000
set_option maxHeartbeats 4000000
set_option linter.all false
/-! Z6: the statements' rules, a def's promise -/
namespace Z
open PySem PySem.Spec PyProof.Rows L2

def afterTurn (k : En → Option Out) : Option Out → Option Out
  | some (.nx ρ) => k ρ
  | some (.ct ρ) => k ρ
  | some (.bk ρ) => some (.nx ρ)
  | o => o
def sWhile (c : En → Option Bool) (F : En → Option Out) : Nat → En → Option Out
  | 0 => fun _ => none
  | n + 1 => fun ρ => (c ρ).bind fun b => if b = true then afterTurn (sWhile c F n) (F ρ) else some (.nx ρ)
def forGo (tg : D → En → Option En) (F : En → Option Out) : List D → En → Option Out
  | [] => fun ρ => some (.nx ρ)
  | d :: ds => fun ρ => (tg d ρ).bind fun ρ1 => afterTurn (forGo tg F ds) (F ρ1)
def sFor (src : En → Option (List D)) (tg : D → En → Option En) (F : En → Option Out) : En → Option Out := fun ρ => (src ρ).bind fun ds => forGo tg F ds ρ

section
variable {K : PySem.W.Frag} {B : Bs} {t u : TS} {F G : En → Option Out} {te : TE} {f : En → Option D} {fl : En → Option (List D)} {tt : TT} {c : En → Option Bool}
theorem ds_nil : DS K B tNext sNil := fun ρ σ H O o R e D q => by
  have e : Out.nx ρ = o := Option.some.inj e
  subst e
  exact q σ H O R (Same.refl _)
theorem ds_seq (h : DS K B t F) (k : DS K B u G) : DS K B (tSeq t u) (sSeq F G) := fun ρ σ H O o R e D q => by
  unfold sSeq at e
  split at e
  · rename_i ρ1 h1
    refine h ρ σ H O _ R h1 _ ?_
    intro σ1 H1 O1 R1 s1
    exact k ρ1 σ1 H1 O1 o R1 e D (q.step s1)
  · rename_i hn
    refine h ρ σ H O o R e _ ?_
    cases o with
    | nx ρ1 => exact absurd e (hn ρ1)
    | rt d => exact q
    | rl ds => exact q
    | bk ρ1 => exact q
    | ct ρ1 => exact q
    | rp d ρ1 => exact q
    | ex _ _ => exact q
theorem ds_if (hc : DT K B tt c) (h : DS K B t F) (k : DS K B u G) : DS K B (tIfS tt t u) (sIf c F G) := fun ρ σ H O o R e D q => by
  obtain ⟨b, h1, e⟩ := bind_some e
  refine hc ρ σ H O b R h1 _ fun H1 s => ?_
  cases b with
  | true => exact iteT (h ρ σ H1 O o (R.grow s) e D (q.step (hid_grow s)))
  | false => exact iteF (k ρ σ H1 O o (R.grow s) e D (q.step (hid_grow s)))
theorem ds_set {i : Nat} (hp : free B i = true) (h : DE K B te f) : DS K B (tAsg te (gName i)) (sSet i f) := fun ρ σ H O o R e D q => by
  obtain ⟨d, h1, e⟩ := map_some e
  subst e
  exact h ρ σ H O d R h1 _ fun v H1 s x => q _ H1 O ((R.grow s).setRo hp x) (hid_grow s)
theorem ds_setL {i : Nat} (hp : free B i = true) (h : DL K B te fl) : DS K B (tAsg te (gName i)) (sSetL i fl) := fun ρ σ H O o R e D q => by
  obtain ⟨ds, h1, e⟩ := map_some e
  subst e
  refine h ρ σ H O ds R h1 _ fun l vs H1 s n hl x => ?_
  obtain ⟨R1, g⟩ := R.own1 s n hl rfl
  have h0 : l ∉ B.O0 := fun z => R.fresh n (R.sub0 l z).1
  refine q _ H1 (l :: O) (R1.setOw List.mem_cons_self h0 hl x (pin_set R1 hp) fun j s' ej ow hj z => ?_) g
  obtain ⟨u, a, b⟩ := R.slot j s' ej
  rw [a] at z
  cases z
  cases s' with
  | ro d => cases ow
  | ow es => obtain ⟨l2, vs2, eu, b1, _⟩ := b; cases eu; exact R.fresh n b1
  | oK tt es => obtain ⟨l2, vs2, eu, b1, _⟩ := b; cases eu; exact R.fresh n b1
  | lr d => cases ow
  | xc _ _ => cases ow
theorem ds_setR {i : Nat} (hp : free B i = true) (h : DL K B te fl) : DS K B (tAsg te (gName i)) (sSetR i fl) := fun ρ σ H O o R e D q => by
  obtain ⟨ds, h1, e⟩ := map_some e
  subst e
  exact h ρ σ H O ds R h1 _ fun l vs H1 s n hl x => q _ H1 O ((R.grow s).setLr (by rw [hid_out (R.fresh n)]; exact hl) (DqAll.mono (hid_less fun a ha => List.mem_cons_of_mem _ ha) _ _ x) (pin_set (R.grow s) hp)) (hid_grow s)
theorem ds_asg {g : TG} {h : D → En → Option En} (he : DE K B te f) (hg : DG K B g h) : DS K B (tAsg te g) (sAsg f h) := fun ρ σ H O o R e D q => by
  obtain ⟨d, h1, e⟩ := bind_some e
  obtain ⟨ρ1, h2, e⟩ := map_some e
  subst e
  exact he ρ σ H O d R h1 _ fun v H1 s x => hg ρ σ H1 O v d ρ1 (R.grow s) x h2 _ fun σ2 H2 s2 R2 => q σ2 H2 O R2 (hid_grow (s.trans s2))
theorem ds_drop (h : DE K B te f) : DS K B (tDrop te) (sDrop f) := fun ρ σ H O o R e D q => by
  obtain ⟨d, h1, e⟩ := map_some e
  subst e
  exact h ρ σ H O d R h1 _ fun v H1 s x => q _ H1 O (R.grow s) (hid_grow s)
theorem ds_ret (h : DE K B te f) : DS K B (tRet te) (sRet f) := fun ρ σ H O o R e D q => by
  obtain ⟨d, h1, e⟩ := map_some e
  subst e
  exact h ρ σ H O d R h1 _ fun v H1 s x => q v ρ σ H1 O (R.grow s) x
theorem ds_retL (h : DL K B te fl) : DS K B (tRet te) (sRetL fl) := fun ρ σ H O o R e D q => by
  obtain ⟨ds, h1, e⟩ := map_some e
  subst e
  exact h ρ σ H O ds R h1 _ fun l vs H1 s n hl x => q l vs ρ σ H1 O (R.grow s) (R.fresh0 n) hl (DqAll.mono (hid_less fun a ha => List.mem_cons_of_mem _ ha) _ _ x) fun _ => x
theorem ds_retO {i : Nat} (hL : B.L = []) : DS K B (tRet (tVar i)) (sRetO i) := fun ρ σ H O o R e D q => by
  unfold sRetO at e
  split at e
  · rename_i ds h
    have e := Option.some.inj e
    subst e
    obtain ⟨v, a, l, vs, rfl, b1, b2, b3, b4⟩ := R.slot _ _ h
    refine ⟨_, a, q l vs ρ σ H O R ?_ b3 b4 fun n => absurd b1 n⟩
    rcases R.own l b1 with z | z | z
    · exact absurd z b2
    · rw [hL] at z; cases z
    · exact z
  · cases e
theorem ds_retN : DS K B tRetN sRetN := fun ρ σ H O o R e D q => by
  have e : Out.rt .none = o := Option.some.inj e
  subst e
  exact q .non ρ σ H O R .non
theorem ds_bk : DS K B tBreak sBk := fun ρ σ H O o R e D q => by
  have e : Out.bk ρ = o := Option.some.inj e
  subst e
  exact q σ H O R (Same.refl _)
theorem ds_ct : DS K B tCont sCt := fun ρ σ H O o R e D q => by
  have e : Out.ct ρ = o := Option.some.inj e
  subst e
  exact q σ H O R (Same.refl _)
theorem ds_bad : DS K B tNever sBad := fun ρ σ H O o R e D q => by cases e
theorem ds_fz {i : Nat} (hL : B.L = []) (h : DS K B t F) : DS K B t (sFz i F) := fun ρ σ H O o R e D q => by
  unfold sFz at e
  split at e
  · rename_i ds hs
    obtain ⟨O', R', g⟩ := R.freeze (fun l _ => by rw [hL]; simp) hs
    exact h _ σ H O' o R' e D (q.step g)
  · exact h ρ σ H O o R e D q
theorem ds_while {n : Nat} (hc : DT K B tt c) (h : DS K B t F) : DS K B (tWhile tt t) (sWhile c F n) := fun ρ σ H O o R e D q => by
  refine ⟨fun m σ1 H1 => ∃ ρ1 O1, RS K B ρ1 σ1 H1 O1 ∧ Same (hid H O) (hid H1 O1) ∧ sWhile c F m ρ1 = some o, ⟨n, ρ, O, R, Same.refl _, e⟩, ?_⟩
  rintro m σ1 H1 ⟨ρ1, O1, R1, s1, e1⟩
  cases m with
  | zero => cases e1
  | succ m =>
    obtain ⟨b, h1, e1⟩ := bind_some e1
    refine hc ρ1 σ1 H1 O1 b R1 h1 _ fun H2 s2 => ?_
    have R2 := R1.grow s2
    have s12 := s1.trans (hid_grow (O := O1) s2)
    cases b with
    | true =>
      rw [if_pos rfl] at e1
      rw [if_pos rfl]
      refine ⟨fun σ' H' => ∃ ρ1 O1, RS K B ρ1 σ' H' O1 ∧ Same (hid H O) (hid H' O1) ∧ sWhile c F m ρ1 = some o, fun σ' H' h => ⟨m, Nat.lt_succ_self m, h⟩, ?_⟩
      cases hF : F ρ1 with
      | none => rw [hF] at e1; cases e1
      | some o1 =>
        rw [hF] at e1
        refine h ρ1 σ1 H2 O1 o1 R2 hF _ ?_
        cases o1 with
        | nx ρ2 => exact fun σ' H' O' R' s' => ⟨ρ2, O', R', s12.trans s', e1⟩
        | ct ρ2 => exact fun σ' H' O' R' s' => ⟨ρ2, O', R', s12.trans s', e1⟩
        | bk ρ2 =>
          have e1 : Out.nx ρ2 = o := Option.some.inj e1
          subst e1
          exact fun σ' H' O' R' s' => q σ' H' O' R' (s12.trans s')
        | rt d =>
          have e1 : Out.rt d = o := Option.some.inj e1
          subst e1
          exact q
        | rl d =>
          have e1 : Out.rl d = o := Option.some.inj e1
          subst e1
          exact q
        | rp d ρ9 =>
          have e1 : Out.rp d ρ9 = o := Option.some.inj e1
          subst e1
          exact q
        | ex nm9 d9 =>
          have e1 : Out.ex nm9 d9 = o := Option.some.inj e1
          subst e1
          exact q
    | false =>
      rw [if_neg Bool.false_ne_true] at e1
      rw [if_neg Bool.false_ne_true]
      have e1 : Out.nx ρ1 = o := Option.some.inj e1
      subst e1
      exact q σ1 H2 O1 R2 s12
theorem ds_for {wi : TI} {g : TG} {src : En → Option (List D)} {tg : D → En → Option En} (hi : DI K B wi src) (hg : DG K B g tg) (h : DS K B t F) : DS K B (tFor wi g t) (sFor src tg F) := fun ρ σ H O o R e D q => by
  obtain ⟨ds, h1, e⟩ := bind_some e
  refine hi ρ σ H O ds R h1 _ fun J H1 s1 io => ?_
  refine ⟨fun i m σ2 H2 => m = ds.length - i ∧ i ≤ ds.length ∧ ∃ ρ2 O2, RS K B ρ2 σ2 H2 O2 ∧ Same (hid H1 O) (hid H2 O2) ∧ forGo tg F (ds.drop i) ρ2 = some o, ⟨ds.length, by simp, Nat.zero_le _, ρ, O, R.grow s1, Same.refl _, by simpa using e⟩, ?_⟩
  rintro i m σ2 H2 ⟨rfl, hin, ρ2, O2, R2, s2, e2⟩
  obtain ⟨it1, it2⟩ := io H2 O2 s2 R2.there i
  have s0 := hid_grow (O := O) s1
  by_cases hlt : i < ds.length
  · obtain ⟨go, yld⟩ := it1 _ (List.getElem?_eq_getElem hlt)
    rw [List.drop_eq_getElem_cons hlt] at e2
    obtain ⟨ρ3, h3, e3⟩ := bind_some e2
    refine .inr ⟨go, fun σ' H' => ∃ ρ2 O2, RS K B ρ2 σ' H' O2 ∧ Same (hid H1 O) (hid H' O2) ∧ forGo tg F (ds.drop (i + 1)) ρ2 = some o, fun σ' H' h => ⟨_, by omega, rfl, hlt, h⟩, fun x H' y => ?_⟩
    obtain ⟨s3, hx⟩ := yld x H' y
    refine hg ρ2 σ2 H' O2 x _ ρ3 (R2.grow s3) hx h3 _ fun σ4 H4 s4 R4 => ?_
    have s24 := s2.trans (hid_grow (O := O2) (s3.trans s4))
    cases hF : F ρ3 with
    | none => rw [hF] at e3; cases e3
    | some o1 =>
      rw [hF] at e3
      refine h ρ3 σ4 H4 O2 o1 R4 hF _ ?_
      cases o1 with
      | nx ρ5 => exact fun σ' H' O' R' s' => ⟨ρ5, O', R', s24.trans s', e3⟩
      | ct ρ5 => exact fun σ' H' O' R' s' => ⟨ρ5, O', R', s24.trans s', e3⟩
      | bk ρ5 =>
        have e1 : Out.nx ρ5 = o := Option.some.inj e3
        subst e1
        exact fun σ' H' O' R' s' => q σ' H' O' R' (s0.trans (s24.trans s'))
      | rt d =>
        have e1 : Out.rt d = o := Option.some.inj e3
        subst e1
        exact q
      | rl d =>
        have e1 : Out.rl d = o := Option.some.inj e3
        subst e1
        exact q
      | rp d ρ9 =>
        have e1 : Out.rp d ρ9 = o := Option.some.inj e3
        subst e1
        exact q
      | ex nm9 d9 =>
        have e1 : Out.ex nm9 d9 = o := Option.some.inj e3
        subst e1
        exact q
  · have hi : i = ds.length := by omega
    rw [hi, List.drop_length] at e2
    have e2 : Out.nx ρ2 = o := Option.some.inj e2
    subst e2
    exact .inl ⟨it2 (by omega), q σ2 H2 O2 R2 (s0.trans s2)⟩
end
section
variable {X : Cx} {B : Bs} {s : Stmt} {rest body : List Stmt} {t u : TS} {F G : En → Option Out} {te : TE} {f : En → Option D} {fl : En → Option (List D)} {tt : TT} {c : En → Option Bool} {ex : Expr} {pos : Pos}
theorem ss_nil : XSs X B [] tNext sNil := ⟨pss_nil, ds_nil⟩
theorem ss_cons (h : XS X B s t F) (k : XSs X B rest u G) : XSs X B (s :: rest) (tSeq t u) (sSeq F G) := ⟨pss_cons h.pe k.pe, ds_seq h.de k.de⟩
theorem ss_one (h : XS X B s t F) : XSs X B [s] t F := ⟨pss_one h.pe, h.de⟩
theorem ss_fz (i : Nat) (h : XSs X B rest t F) (hL : B.L = [] := by rfl) : XSs X B rest t (sFz i F) := ⟨h.pe, ds_fz hL h.de⟩
theorem s_if {c' : Expr} {a b : List Stmt} (hc : XT X B c' tt c) (h : XSs X B a t F) (k : XSs X B b u G) : XS X B (.If c' a b pos) (tIfS tt t u) (sIf c F G) := ⟨ps_if hc.pe h.pe k.pe, ds_if hc.de h.de k.de⟩
theorem s_set {i : Nat} {x : Str} {pos' : Pos} (hN : X.N.Nodup) (hi : X.N[i]? = some x) (hx : Loc X.env.scope x) (he : XE X B ex te f) (hs : swapsWith ex (some (.Name x pos')) pos.line X.env = pure false := by rfl) (hf : X.fn x = true ∨ X.env.scope.names.lookup x = some .local := by first | exact .inl rfl | exact .inr rfl | assumption) (hp : free B i = true := by rfl) :
    XS X B (.Assign [.Name x pos'] ex pos) (tAsg te (gName i)) (sSet i f) := ⟨ps_set hN hi hx he.pe hs hf, ds_set hp he.de⟩
theorem s_setL {i : Nat} {x : Str} {pos' : Pos} (hN : X.N.Nodup) (hi : X.N[i]? = some x) (hx : Loc X.env.scope x) (he : XL X B ex te fl) (hs : swapsWith ex (some (.Name x pos')) pos.line X.env = pure false := by rfl) (hf : X.fn x = true ∨ X.env.scope.names.lookup x = some .local := by first | exact .inl rfl | exact .inr rfl | assumption) (hp : free B i = true := by rfl) :
    XS X B (.Assign [.Name x pos'] ex pos) (tAsg te (gName i)) (sSetL i fl) := ⟨ps_set hN hi hx he.pe hs hf, ds_setL hp he.de⟩
theorem s_setR {i : Nat} {x : Str} {pos' : Pos} (hN : X.N.Nodup) (hi : X.N[i]? = some x) (hx : Loc X.env.scope x) (he : XL X B ex te fl) (hs : swapsWith ex (some (.Name x pos')) pos.line X.env = pure false := by rfl) (hf : X.fn x = true ∨ X.env.scope.names.lookup x = some .local := by first | exact .inl rfl | exact .inr rfl | assumption) (hp : free B i = true := by rfl) :
    XS X B (.Assign [.Name x pos'] ex pos) (tAsg te (gName i)) (sSetR i fl) := ⟨ps_set hN hi hx he.pe hs hf, ds_setR hp he.de⟩
theorem s_asg {tg : Expr} {g : TG} {h : D → En → Option En} (he : XE X B ex te f) (hg : XG X B tg g h) (hs : swapsWithSole [tg] ex pos.line X.env = pure false := by rfl) (hw : swappedStores [tg] ex X.env = pure none := by rfl) (h1 : (assignEach [tg] X.env).map (·.2) = [assign tg X.env] := by rfl) : XS X B (.Assign [tg] ex pos) (tAsg te g) (sAsg f h) := ⟨ps_asg he.pe hg.pe hs hw h1, ds_asg he.de hg.de⟩
theorem s_drop (he : XE X B ex te f) (hs : swapsWith ex none pos.line X.env = pure false := by rfl) : XS X B (.Expr ex pos) (tDrop te) (sDrop f) := ⟨ps_expr he.pe hs, ds_drop he.de⟩
theorem s_ret (he : XE X B ex te f) : XS X B (.Return (some ex) pos) (tRet te) (sRet f) := ⟨ps_ret he.pe, ds_ret he.de⟩
theorem s_retL (he : XL X B ex te fl) : XS X B (.Return (some ex) pos) (tRet te) (sRetL fl) := ⟨ps_ret he.pe, ds_retL he.de⟩
theorem s_retO (i : Nat) {ex : Expr} (he : PE X ex (tVar i)) (hL : B.L = [] := by rfl) : XS X B (.Return (some ex) pos) (tRet (tVar i)) (sRetO i) := ⟨ps_ret he, ds_retO hL⟩
theorem s_retN : XS X B (.Return none pos) tRetN sRetN := ⟨ps_retN, ds_retN⟩
theorem s_pass : XS X B (.Pass pos) tNext sNil := ⟨ps_pass, ds_nil⟩
theorem s_bk : XS X B (.Break pos) tBreak sBk := ⟨ps_break, ds_bk⟩
theorem s_ct : XS X B (.Continue pos) tCont sCt := ⟨ps_continue, ds_ct⟩
theorem s_bad : XS X B s tNever sBad := ⟨ps_never, ds_bad⟩
theorem s_while {c' : Expr} (n : Nat) (hp : PassesOwn (model X.prog X.w) X.A X.env X.xe) (hc : XT X B c' tt c) (hb : XSs X B body t F) : XS X B (.While c' body [] pos) (tWhile tt t) (sWhile c F n) := ⟨ps_while hp hc.pe hb.pe, ds_while hc.de hb.de⟩
theorem s_for {iter tg : Expr} {wi : TI} {g : TG} {src : En → Option (List D)} {ht : D → En → Option En} (hp : PassesOwn (model X.prog X.w) X.A X.env X.xe) (hc : X.calm = true) (hi : XI X B tg iter wi src) (hg : XG X B tg g ht) (hb : XSs X B body t F) (hs : ∀ x, foldedSetIterable iter X.env x = pure x := by intro _; rfl) :
    XS X B (.For tg iter body [] pos) (tFor wi g t) (sFor src ht F) := ⟨ps_for hp hc hi.pe hg.pe hb.pe hs, ds_for hi.de hg.de hb.de⟩
/-- name = [..] on one line -/
theorem s_setLc {i : Nat} {y : Str} {py : Pos} {elt tg iter : Expr} {ifs : List Expr} {scope : Scope} {own : List (Str × Nat)} {spos : Pos} {wi : TI} {g : TG} {tt : TT} {te : TE} {src : En → Option (List D)} {ht : D → En → Option En} {cond : En → Option Bool} {fe : En → Option D}
    (hc : X.calm = true) (hN : X.N.Nodup) (hy : X.N[i]? = some y) (hyl : X.env.scope.names.lookup y = some .local)
    (hsw : swapsWith (.ListComp elt [⟨tg, iter, ifs, 0⟩] scope pos) (some (.Name y py)) spos.line X.env = pure true) (hi : XI X B tg iter wi src) (ok : BlkOk X.N X.env.scope scope own)
    (hw : GW g (own.map (·.2)))
    (hg : ∀ (s : Shared) (H : Hp) (C : Addr) (cl : List (Str × Addr)) (fp : List Addr), XG (X.blk s H scope (compEnvC scope cl C X.env) fp) B tg g ht) (ht' : ∀ (s : Shared) (H : Hp) (C : Addr) (cl : List (Str × Addr)) (fp : List Addr), XTs (X.blk s H scope (compEnvC scope cl C X.env) fp) B ifs tt cond)
    (he : ∀ (s : Shared) (H : Hp) (C : Addr) (cl : List (Str × Addr)) (fp : List Addr), XE (X.blk s H scope (compEnvC scope cl C X.env) fp) B elt te fe) (hs : ∀ x, foldedSetIterable iter X.env x = pure x := by intro _; rfl) (hp : free B i = true := by rfl) (hq : (own.map (·.2)).all (free B) = true := by rfl) :
    XS X B (.Assign [.Name y py] (.ListComp elt [⟨tg, iter, ifs, 0⟩] scope pos) spos) (tAsg (tLc wi g tt te (own.map (·.2))) (gName i)) (sSetL i (lComp src ht cond fe (own.map (·.2)))) :=
  ⟨ps_setLc hc hN hy hyl hsw hi.pe ok (fun s H C cl fp => (hg s H C cl fp).pe) (fun s H C cl fp => (ht' s H C cl fp).pe) (fun s H C cl fp => (he s H C cl fp).pe) hs,
   ds_setL hp (dl_comp hq hi.de (hg X.s_0 X.H_0 0 [] []).de hw (ht' X.s_0 X.H_0 0 [] []).de (he X.s_0 X.H_0 0 [] []).de)⟩
/-- the same, the name is read alone -/
theorem s_setLcR {i : Nat} {y : Str} {py : Pos} {elt tg iter : Expr} {ifs : List Expr} {scope : Scope} {own : List (Str × Nat)} {spos : Pos} {wi : TI} {g : TG} {tt : TT} {te : TE} {src : En → Option (List D)} {ht : D → En → Option En} {cond : En → Option Bool} {fe : En → Option D}
    (hc : X.calm = true) (hN : X.N.Nodup) (hy : X.N[i]? = some y) (hyl : X.env.scope.names.lookup y = some .local)
    (hsw : swapsWith (.ListComp elt [⟨tg, iter, ifs, 0⟩] scope pos) (some (.Name y py)) spos.line X.env = pure true) (hi : XI X B tg iter wi src) (ok : BlkOk X.N X.env.scope scope own)
    (hw : GW g (own.map (·.2)))
    (hg : ∀ (s : Shared) (H : Hp) (C : Addr) (cl : List (Str × Addr)) (fp : List Addr), XG (X.blk s H scope (compEnvC scope cl C X.env) fp) B tg g ht) (ht' : ∀ (s : Shared) (H : Hp) (C : Addr) (cl : List (Str × Addr)) (fp : List Addr), XTs (X.blk s H scope (compEnvC scope cl C X.env) fp) B ifs tt cond)
    (he : ∀ (s : Shared) (H : Hp) (C : Addr) (cl : List (Str × Addr)) (fp : List Addr), XE (X.blk s H scope (compEnvC scope cl C X.env) fp) B elt te fe) (hs : ∀ x, foldedSetIterable iter X.env x = pure x := by intro _; rfl) (hp : free B i = true := by rfl) (hq : (own.map (·.2)).all (free B) = true := by rfl) :
    XS X B (.Assign [.Name y py] (.ListComp elt [⟨tg, iter, ifs, 0⟩] scope pos) spos) (tAsg (tLc wi g tt te (own.map (·.2))) (gName i)) (sSetR i (lComp src ht cond fe (own.map (·.2)))) :=
  ⟨ps_setLc hc hN hy hyl hsw hi.pe ok (fun s H C cl fp => (hg s H C cl fp).pe) (fun s H C cl fp => (ht' s H C cl fp).pe) (fun s H C cl fp => (he s H C cl fp).pe) hs,
   ds_setR hp (dl_comp hq hi.de (hg X.s_0 X.H_0 0 [] []).de hw (ht' X.s_0 X.H_0 0 [] []).de (he X.s_0 X.H_0 0 [] []).de)⟩
end

/-! ### lists that change -/
section
variable {K : PySem.W.Frag} {B : Bs} {te ti : TE} {f fi : En → Option D}
theorem ds_app {i : Nat} (h : DE K B te f) : DS K B (tDrop (tBM K "list" rAppend (tVar i) (tCons te tNil))) (sApp i f) := fun ρ σ H O o R e D q => by
  unfold sApp at e
  split at e
  · rename_i ds hs
    obtain ⟨d, h1, e⟩ := bind_some e
    split at e
    · rename_i c
      have e := Option.some.inj e
      subst e
      obtain ⟨v, a, l, vs, rfl, b1, b2, b3, b4⟩ := R.slot _ _ hs
      refine ⟨_, a, .inl ⟨rfl, vs, SqL.of b3⟩, h ρ σ H O d R h1 _ fun x H1 s y => ⟨l, vs, x, rfl, rfl, s _ _ b3, lineL (by rw [b4.length]; exact c), ?_⟩⟩
      have R1 := R.grow s
      refine q σ _ O (R1.write hs a ((DqAll.mono (hid_grow s) _ _ b4).append (.one y))) ?_
      rw [hid_write _ b1]
      exact hid_grow s
    · cases e
  · cases e
theorem ds_put {i : Nat} (h : DE K B te f) (hi : DE K B ti fi) : DS K B (tAsg te (gSub (tVar i) ti rSetL)) (sPut i fi f) := fun ρ σ H O o R e D q => by
  unfold sPut at e
  split at e
  · rename_i ds hs
    obtain ⟨d, h1, e⟩ := bind_some e
    split at e
    · rename_i k hk
      obtain ⟨j, h2, e⟩ := map_some e
      subst e
      obtain ⟨v, a, l, vs, rfl, b1, b2, b3, b4⟩ := R.slot _ _ hs
      refine h ρ σ H O d R h1 _ fun x H1 s y => ⟨_, a, hi ρ σ H1 O _ (R.grow s) hk _ fun z H2 s2 w => ?_⟩
      cases w
      have s12 := s.trans s2
      refine ⟨l, vs, k, j, rfl, rfl, s12 _ _ b3, by rw [b4.length]; exact h2, ?_⟩
      have R1 := R.grow s12
      refine q σ _ O (R1.write hs a ((DqAll.mono (hid_grow s12) _ _ b4).set (Dq.mono (hid_grow s2) _ _ y) j)) ?_
      rw [hid_write _ b1]
      exact hid_grow s12
    · cases e
  · cases e
end
section
variable {X : Cx} {B : Bs} {x : Str} {p p2 pos apos cpos : Pos} {ex ei : Expr} {te ti : TE} {f fi : En → Option D}
theorem s_app (i : Nat) {on : Expr} (ho : PE X on (tVar i)) (he : XE X B ex te f) 
    (hbase : attributeBase on "append" X.env (eval on X.env) = eval on X.env := by rfl)
    (hfew : ((backTo cpos (starEach (ex :: []) X.env)).all (fun x => !x.1) && (backToKw cpos (keywordEach [] X.env)).all (fun x => x.1.isSome)
      && decide ((ex :: []).length + ([] : List Keyword).length + (if ([] : List Keyword).isEmpty then 0 else 1) < 30)) = true := by rfl)
    (hline : (apos.endLine == cpos.line) = true := by rfl) (hs1 : starEach (ex :: []) X.env = (false, eval ex X.env) :: starEach [] X.env := by rfl) (hplain : (backTo cpos (starEach [] X.env)).any (·.1) = false := by rfl)
    (hs : swapsWith (.Call (.Attribute on "append" apos) [ex] [] cpos) none pos.line X.env = pure false := by rfl) (hk : X.K = B.K := by rfl) :
    XS X B (.Expr (.Call (.Attribute on "append" apos) [ex] [] cpos) pos) (tDrop (tBM B.K "list" rAppend (tVar i) (tCons te tNil))) (sApp i f) :=
  ⟨hk ▸ ps_expr (pe_bm PySem.F.plainAttrs_list PySem.F.slot_list_append PySem.F.type_list_append mt_append ho (pa_cons he.pe pa_nil hs1) hbase hfew hline hs1 hplain) hs, ds_app he.de⟩
theorem s_put (i : Nat) {on : Expr} (ho : PE X on (tVar i)) (hi : XE X B ei ti fi) (he : XE X B ex te f) (hs : swapsWithSole [.Subscript on ei p] ex pos.line X.env = pure false := by rfl) (hw : swappedStores [.Subscript on ei p] ex X.env = pure none := by rfl) (h1 : (assignEach [.Subscript on ei p] X.env).map (·.2) = [assign (.Subscript on ei p) X.env] := by rfl)
    (ha : ∀ v, assign (.Subscript on ei p) X.env v = (do
      let ov ← holding [v] (eval on X.env)
      let iv ← holding [v, ov] (eval ei X.env)
      standAt p
      holding [v, ov, iv] (setItem ov iv v)
      release [v, ov, iv] []) := by intro _; rfl) :
    XS X B (.Assign [.Subscript on ei p] ex pos) (tAsg te (gSub (tVar i) ti rSetL)) (sPut i fi f) := ⟨ps_asg he.pe (pg_sub ho hi.pe set_list ha) hs hw h1, ds_put he.de hi.de⟩
end

/-! ### a def's promise -/
def env0 (m : Nat) (ds : List D) : En := ds.map (fun d => some (SV.ro d)) ++ List.replicate (m - ds.length) none
def Out.rv : Out → Option Rv
  | .rt d => some (.v d)
  | .rl ds => some (.l ds)
  | .nx _ => some (.v .none)
  | _ => none
def gF (n m : Nat) (F : En → Option Out) (ds : List D) : Option Rv := if ds.length = n then (F (env0 m ds)).bind Out.rv else none
theorem gF_len {n m : Nat} {F : En → Option Out} : ∀ ds, gF n m F ds ≠ none → ds.length = n := fun ds h => by
  unfold gF at h
  split at h
  · assumption
  · exact absurd rfl h
theorem rs_start {K : PySem.W.Frag} {H : Hp} {O : List Addr} {N : List Str} {vs : List V} {ds : List D} (mu : ∀ a ∈ O, ∃ o, H a = some o ∧ isMut o = true) (h : DqAll K (hid H O) vs ds) : RS K ⟨K, H, O, [], none, W0⟩ (env0 N.length ds) (L2.start N vs) H O where
  len := by
    unfold env0 L2.start
    rw [List.length_append, List.length_append, List.length_map, List.length_map, List.length_replicate, List.length_replicate, h.length]
  slot := fun i s e => by
    unfold env0 at e
    unfold L2.start
    by_cases hi : i < ds.length
    · rw [List.getElem?_append_left (by rw [List.length_map]; exact hi), List.getElem?_map] at e
      obtain ⟨d, h1, h2⟩ := map_some e
      have h2 := Option.some.inj h2
      subst h2
      obtain ⟨v, h3, h4⟩ := h.get h1
      refine ⟨v, ?_, h4⟩
      rw [List.getElem?_append_left (by rw [List.length_map, h.length]; exact hi), List.getElem?_map, h3] <;> rfl
    · rw [List.getElem?_append_right (by rw [List.length_map]; omega), List.getElem?_replicate] at e
      split at e <;> cases e
  uniq := fun i j s s' l _ e _ o _ _ _ => by
    unfold env0 at e
    by_cases hi : i < ds.length
    · rw [List.getElem?_append_left (by rw [List.length_map]; exact hi), List.getElem?_map] at e
      obtain ⟨d, h1, h2⟩ := map_some e
      have h2 := Option.some.inj h2
      subst h2
      cases o
    · rw [List.getElem?_append_right (by rw [List.length_map]; omega), List.getElem?_replicate] at e
      split at e <;> cases e
  same := fun _ _ _ h => h
  own := fun a ha => .inl ha
  mu := mu
  sub0 := fun a ha => ⟨ha, by simp, let ⟨o, e, _⟩ := mu a ha; ⟨o, e⟩⟩
  lo := fun a ha => by cases ha
  pin := fun i l e => by cases e
theorem fn_ok {P : Program} {w : World} {K : PySem.W.Frag} {mg : Str → Option Value} {base : Heap} {x qual : Str} {st : Stmt} {f : Addr} {fd : FuncData} {N ps : List Str} {k : Nat} {F : En → Option Out} (Fu : Fun K x qual st f fd) (S : FnScope N ps (defScope st))
    (body : ∀ (cdv : Value) (A : Around) (outer : List Env) (s : Shared) (H : Hp) (O : List Addr) (E : XK), Room k (A.deeper (envOfC qual (defScope st) s.heap.objs.size f cdv)) → ∃ t, XSs (cxOf CX0 P w K mg base N qual (defScope st) f cdv A outer s H E).nox ⟨K, H, O, [], none, W0⟩ (defBody st) t F) :
    FnOk P w K mg base CX0 (k + 1) f fd ps (spD K ps.length (gF ps.length N.length F)) := by
  refine Fu.ok S (fun vs H Q E h => h.1) fun cdv A outer s H vs Q E hr hsp => ?_
  obtain ⟨hl, O, ds, r, mu, ha, hg, q⟩ := hsp
  obtain ⟨t, ht⟩ := body cdv A outer s H O E hr
  refine ⟨t, ht.pe, ?_⟩
  unfold gF at hg
  split at hg
  · obtain ⟨o, h1, h2⟩ := bind_some hg
    refine ht.de _ _ H O o (rs_start mu ha) h1 _ ?_
    have fin : ∀ {ρ' : En} {σ' : L2.St} {H' : Hp} {O' : List Addr}, RS K ⟨K, H, O, [], none, W0⟩ ρ' σ' H' O' → Same H H' ∧ ∀ a ∈ O, a ∈ O' := fun R => ⟨fun a o e => R.same a o (by simp) e, fun a ha => (R.sub0 a ha).1⟩
    cases o with
    | nx ρ1 =>
      have h2 : Rv.v .none = r := Option.some.inj h2
      subst h2
      exact fun σ' H' O' R _ => q _ H' (fin R).1 Dq.non
    | rt d =>
      have h2 : Rv.v d = r := Option.some.inj h2
      subst h2
      exact fun v ρ' σ' H' O' R x => q v H' (fin R).1 (Dq.mono (hid_less (fin R).2) _ _ x)
    | rl es =>
      have h2 : Rv.l es = r := Option.some.inj h2
      subst h2
      refine fun l us ρ' σ' H' O' R n hl x y => q _ H' (fin R).1 ⟨l, us, rfl, n, hl, ?_⟩
      by_cases hm : l ∈ O'
      · refine DqAll.mono (hid_less fun a ha => ?_) _ _ x
        rcases List.mem_cons.mp ha with e | ha
        · rw [e]; exact hm
        · exact (fin R).2 a ha
      · refine DqAll.mono (hid_less fun a ha => ?_) _ _ (y hm)
        rcases List.mem_cons.mp ha with e | ha
        · rw [e]; exact List.mem_cons_self
        · exact List.mem_cons_of_mem _ ((fin R).2 a ha)
    | bk _ => cases h2
    | ct _ => cases h2
    | rp _ _ => cases h2
    | ex _ _ => cases h2
  · cases hg
/-- nothing is computed with no turn left -/
theorem fn_zero {P : Program} {w : World} {K : PySem.W.Frag} {mg : Str → Option Value} {base : Heap} {f : Addr} {fd : FuncData} {ps : List Str} {k : Nat} : FnOk P w K mg base CX0 k f fd ps (spD K ps.length fun _ => none) := by
  have no : ∀ vs H Q E, ¬ spD K ps.length (fun _ => none) vs H Q E := fun vs H Q E h => by
    obtain ⟨_, O, ds, r, _, _, z, _⟩ := h
    cases z
  exact ⟨fun vs H Q E h => absurd h (no vs H Q E), fun A outer s H args us vs Q E _ _ _ _ h => absurd h (no vs H Q E)⟩
/-- the built-ins that a law may ask -/
structure Bi (mg : Str → Option Value) : Prop where
  len : mg "len" = none
  isi : mg "isinstance" = none
  int : mg "int" = none
  bool : mg "bool" = none
  str : mg "str" = none
  tup : mg "tuple" = none
  lst : mg "list" = none
  rng : mg "range" = none
  enm : mg "enumerate" = none
  zip : mg "zip" = none
  rev : mg "reversed" = none
  min : mg "min" = none
  max : mg "max" = none
  sum : mg "sum" = none
  all : mg "all" = none
  dict : mg "dict" = none
  set : mg "set" = none
  sorted : mg "sorted" = none
theorem df_mk {P : Program} {w : World} {K : PySem.W.Frag} {mg : Str → Option Value} {base : Heap} {k n m : Nat} {x qual : Str} {st : Stmt} {f : Addr} {fd : FuncData} {ps : List Str} {F : En → Option Out} (Fu : Fun K x qual st f fd) (hn : ps.length = n) (h : FnOk P w K mg base CX0 k f fd ps (spD K n (gF n m F))) (hm : mg x = some (.ref f)) (hb : Binds K fd ps []) :
    DF P w K mg base k x n (gF n m F) := ⟨⟨f, fd, ps, h, hm, Fu.kp, hb⟩, gF_len⟩
end Z

set_option Elab.async false
set_option maxRecDepth 100000
set_option maxHeartbeats 4000000
set_option linter.all false
/-! Z7: what the printed walks name -/
namespace Z
open PySem PySem.Spec PyProof.Rows L2
/-- the turns of a while -/
def FU : Nat := 1000000
theorem Room.unN {k n : Nat} {A : Around} (r : Room k A) (h : n ≤ 16 * k + 199) : A.units + n < cLine := by have := r.un; omega
section
variable {X : Cx} {B : Bs} {es : List Expr} {t : TGs} {hs : List D → En → Option En} {pos : Pos} {n kk : Nat}
theorem g_tup (hc : X.calm = true) (h : XGs X B es t hs) (hn : (assignEach es X.env).length = n := by rfl) (hst : (assignEach es X.env).findIdx? (·.1) = none := by rfl) (hk : X.K = B.K := by rfl) : XG X B (.Tuple es kk pos) (gTup B.K n t) (hTup n hs) := ⟨hk ▸ pg_tup hc h.pe hn hst, dg_tup h.de⟩
theorem s_doc {x j p p'} : XS X B (.Expr (.Constant (.str x) j p) p') tNext sNil := ⟨ps_doc, ds_nil⟩
end
theorem law_sp {K : PySem.W.Frag} {H : Hp} {a : Addr} {ns : List Int} {g : List D → Option Rv} {E : XK} (h : g [.list (ns.map .int)] = some (.v (.bool true))) (hS : SqL K H a (ns.map V.int)) : spD K 1 g [.ref a] H (fun v _ => v = .bl true) E := by
  have hh : hid H [] = H := by funext a; exact hid_out (by simp)
  refine ⟨rfl, [], [.list (ns.map .int)], .v (.bool true), (fun a ha => by cases ha), ?_, h, fun v H' s r => ?_⟩
  · rw [hh]
    exact .cons (.lst hS (DqAll.map (fun i => .int i) ns)) .nil
  · cases r; rfl
end Z

set_option Elab.async false
set_option maxRecDepth 100000
set_option maxHeartbeats 4000000
set_option linter.all false
/-! ZA: values that change an owned list as they are made; clear, extend; defaults; in; texts' methods; chains -/
namespace Z
open PySem PySem.Spec PyProof.Rows L2

/-! ### an expression that changes slots (pop) -/
def DX (K : PySem.W.Frag) (B : Bs) (t : TE) (F : En → Option (D × En)) : Prop := ∀ ρ σ H O d ρ', RS K B ρ σ H O → F ρ = some (d, ρ') → ∀ Q : VK, (∀ v H', RS K B ρ' σ H' O → Same (hid H O) (hid H' O) → Dq K (hid H' O) v d → Q v H') → t σ H Q
def DXA (K : PySem.W.Frag) (B : Bs) (t : TA) (F : En → Option (List D × En)) : Prop := ∀ ρ σ H O ds ρ', RS K B ρ σ H O → F ρ = some (ds, ρ') → ∀ Q : List V → Hp → Prop, (∀ vs H', RS K B ρ' σ H' O → Same (hid H O) (hid H' O) → DqAll K (hid H' O) vs ds → Q vs H') → t σ H Q
structure XX (X : Cx) (B : Bs) (e : Expr) (t : TE) (F : En → Option (D × En)) : Prop where
  pe : PE X e t
  de : DX B.K B t F
structure XXA (X : Cx) (B : Bs) (es : List Expr) (t : TA) (F : En → Option (List D × En)) : Prop where
  pe : PA X es t
  de : DXA B.K B t F
def xPop (i : Nat) : En → Option (D × En) := fun ρ => match ρ[i]? with
  | some (some (.ow ds)) => ds.getLast?.map fun d => (d, ρ.set i (some (.ow ds.dropLast)))
  | _ => none
def xPopAt (i : Nat) (f : En → Option D) : En → Option (D × En) := fun ρ => match ρ[i]? with
  | some (some (.ow ds)) => match f ρ with
    | some (.int k) => if 0 ≤ k ∧ k < 1000000 then (ds[k.toNat]?).map fun d => (d, ρ.set i (some (.ow (ds.eraseIdx k.toNat)))) else none
    | _ => none
  | _ => none
def xE (f : En → Option D) : En → Option (D × En) := fun ρ => (f ρ).map fun d => (d, ρ)
def xaNil : En → Option (List D × En) := fun ρ => some ([], ρ)
def xaCons (F : En → Option (D × En)) (G : En → Option (List D × En)) : En → Option (List D × En) := fun ρ => (F ρ).bind fun p => (G p.2).map fun q => (p.1 :: q.1, q.2)
def xTup (G : En → Option (List D × En)) : En → Option (D × En) := fun ρ => (G ρ).bind fun q => if q.1.length ≤ 1000000 then some (.tuple q.1, q.2) else none
def xCall (g : List D → Option D) (G : En → Option (List D × En)) : En → Option (D × En) := fun ρ => (G ρ).bind fun q => (g q.1).map fun d => (d, q.2)
def sSetX (i : Nat) (F : En → Option (D × En)) : En → Option Out := fun ρ => (F ρ).map fun p => .nx (p.2.set i (some (.ro p.1)))
def sAsgX (F : En → Option (D × En)) (h : D → En → Option En) : En → Option Out := fun ρ => (F ρ).bind fun p => (h p.1 p.2).map .nx
def sDropX (F : En → Option (D × En)) : En → Option Out := fun ρ => (F ρ).map fun p => .nx p.2
def sRetX (F : En → Option (D × En)) : En → Option Out := fun ρ => (F ρ).map fun p => .rt p.1
def sAppX (i : Nat) (F : En → Option (D × En)) : En → Option Out := fun ρ => match ρ[i]? with
  | some (some (.ow _)) => (F ρ).bind fun p => match p.2[i]? with
    | some (some (.ow ds)) => if ds.length < 1000000 then some (.nx (p.2.set i (some (.ow (ds ++ [p.1]))))) else none
    | _ => none
  | _ => none
def sClear (i : Nat) : En → Option Out := fun ρ => match ρ[i]? with
  | some (some (.ow _)) => some (.nx (ρ.set i (some (.ow []))))
  | _ => none
def sReverse (i : Nat) : En → Option Out := fun ρ => match ρ[i]? with
  | some (some (.ow ds)) => some (.nx (ρ.set i (some (.ow ds.reverse))))
  | _ => none
def sExt (i : Nat) (f : En → Option (List D)) : En → Option Out := fun ρ => match ρ[i]? with
  | some (some (.ow ds)) => (f ρ).bind fun es => if ds.length + es.length ≤ 1000000 then some (.nx (ρ.set i (some (.ow (ds ++ es))))) else none
  | _ => none
section
variable {K : PySem.W.Frag} {B : Bs} {te : TE} {ta : TA} {f : En → Option D} {F : En → Option (D × En)} {G : En → Option (List D × En)} {fl : En → Option (List D)}
theorem dx_pop {i : Nat} : DX K B (tBM0 K "list" rPop (tVar i)) (xPop i) := fun ρ σ H O d ρ' R e Q q => by
  unfold xPop at e
  split at e
  · rename_i ds hs
    obtain ⟨d', h1, e⟩ := map_some e
    cases e
    obtain ⟨v, a, l, vs, rfl, b1, b2, b3, b4⟩ := R.slot _ _ hs
    rw [List.getLast?_eq_getElem?] at h1
    obtain ⟨y, h2, h3⟩ := b4.get h1
    refine ⟨_, a, .inl ⟨rfl, vs, SqL.of b3⟩, l, vs, y, rfl, rfl, b3, by rw [b4.length]; exact h2, ?_⟩
    have hw := hid_write (H := H) (.lst vs.dropLast) b1
    exact q y _ (R.write hs a b4.dropLast) (by rw [hw]; exact Same.refl _) (by rw [hw]; exact h3)
  · cases e
theorem dx_popAt {i : Nat} {ti : TE} (h : DE K B ti f) : DX K B (tBM K "list" rPopAt (tVar i) (tCons ti tNil)) (xPopAt i f) := fun ρ σ H O d ρ' R e Q q => by
  unfold xPopAt at e
  split at e
  · rename_i ds hs
    split at e
    · rename_i k hk
      split at e
      · rename_i hc
        obtain ⟨d', h1, e⟩ := map_some e
        cases e
        obtain ⟨v, a, l, vs, rfl, b1, b2, b3, b4⟩ := R.slot _ _ hs
        refine ⟨_, a, .inl ⟨rfl, vs, SqL.of b3⟩, h ρ σ H O _ R hk _ fun x H1 s y => ?_⟩
        cases y
        obtain ⟨y, h2, h3⟩ := b4.get h1
        have hlt : k.toNat < vs.length := by
          obtain ⟨z, _⟩ := List.getElem?_eq_some_iff.mp h2
          exact z
        have R1 := R.grow s
        refine ⟨l, vs, k, k.toNat, y, rfl, rfl, s _ _ b3, by omega, by omega, ?_, h2, ?_⟩
        · unfold seqIndex?
          have h0 : ¬ k < 0 := by omega
          simp only [h0, if_false]
          rw [if_pos]
          simp only [Bool.and_eq_true, decide_eq_true_eq]
          omega
        · have hw := hid_write (H := H1) (.lst (vs.eraseIdx k.toNat)) b1
          exact q y _ (R1.write hs a ((DqAll.mono (hid_grow s) _ _ b4).eraseIdx _)) (by rw [hw]; exact hid_grow s) (by rw [hw]; exact Dq.mono (hid_grow s) _ _ h3)
      · cases e
    · cases e
  · cases e
theorem DE.dx (h : DE K B te f) : DX K B te (xE f) := fun ρ σ H O d ρ' R e Q q => by
  obtain ⟨d', h1, e⟩ := map_some e
  cases e
  exact h ρ σ H O d R h1 _ fun v H1 s x => q v H1 (R.grow s) (hid_grow s) x
theorem dxa_nil : DXA K B tNil xaNil := fun ρ σ H O ds ρ' R e Q q => by
  cases e
  exact q [] H R (Same.refl _) .nil
theorem dxa_cons (h : DX K B te F) (k : DXA K B ta G) : DXA K B (tCons te ta) (xaCons F G) := fun ρ σ H O ds ρ' R e Q q => by
  obtain ⟨⟨d, ρ1⟩, h1, e⟩ := bind_some e
  obtain ⟨⟨es, ρ2⟩, h2, e⟩ := map_some e
  cases e
  exact h ρ σ H O d ρ1 R h1 _ fun v H1 R1 s1 x => k ρ1 σ H1 O es _ R1 h2 _ fun vs H2 R2 s2 y => q _ H2 R2 (s1.trans s2) (.cons (Dq.mono s2 _ _ x) y)
theorem dx_tup (h : DXA K B ta G) : DX K B (tTup ta) (xTup G) := fun ρ σ H O d ρ' R e Q q => by
  obtain ⟨⟨ds, ρ1⟩, h1, e⟩ := bind_some e
  split at e
  · rename_i c
    cases e
    refine h ρ σ H O ds _ R h1 _ fun vs H1 R1 s x => ⟨line (by rw [x.length]; exact c), fun p hp => ?_⟩
    have s2 := same_new (H := H1) (.tup vs) hp
    exact q _ _ (R1.grow s2) (s.trans (hid_grow s2)) (new_tup hp (R1.fresh hp) x)
  · cases e
theorem dx_call {n : Nat} {g : List D → Option Rv} {E : XK} (hn : ∀ ds, g ds ≠ none → ds.length = n) (h : DXA K B ta G) : DX K B (tCall (spD K n g) [] E ta) (xCall (fun ds => toD (g ds)) G) := fun ρ σ H O z ρ' R e Q q => by
  obtain ⟨⟨ds, ρ1⟩, h1, e⟩ := bind_some e
  obtain ⟨d, h2, e⟩ := map_some e
  cases e
  obtain ⟨r, h4, h3⟩ := map_some (show (g ds).map Rv.d = some z from h2)
  subst h3
  refine h ρ σ H O ds _ R h1 _ fun vs H1 R1 s x => ?_
  rw [List.append_nil]
  exact ⟨by rw [x.length]; exact hn ds (by rw [h4]; simp), O, ds, r, R1.mu, x, h4, fun v H2 s2 y => q v H2 (R1.grow s2) (s.trans (hid_grow s2)) (y.d R1)⟩
theorem ds_setX {i : Nat} (hp : free B i = true) (h : DX K B te F) : DS K B (tAsg te (gName i)) (sSetX i F) := fun ρ σ H O o R e D q => by
  obtain ⟨⟨d, ρ1⟩, h1, e⟩ := map_some e
  subst e
  exact h ρ σ H O d ρ1 R h1 _ fun v H1 R1 s x => q _ H1 O (R1.setRo hp x) s
theorem ds_asgX {g : TG} {ht : D → En → Option En} (h : DX K B te F) (hg : DG K B g ht) : DS K B (tAsg te g) (sAsgX F ht) := fun ρ σ H O o R e D q => by
  obtain ⟨⟨d, ρ1⟩, h1, e⟩ := bind_some e
  obtain ⟨ρ2, h2, e⟩ := map_some e
  subst e
  exact h ρ σ H O d ρ1 R h1 _ fun v H1 R1 s x => hg ρ1 σ H1 O v d ρ2 R1 x h2 _ fun σ' H2 s2 R2 => q σ' H2 O R2 (s.trans (hid_grow s2))
theorem ds_dropX (h : DX K B te F) : DS K B (tDrop te) (sDropX F) := fun ρ σ H O o R e D q => by
  obtain ⟨⟨d, ρ1⟩, h1, e⟩ := map_some e
  subst e
  exact h ρ σ H O d ρ1 R h1 _ fun v H1 R1 s x => q σ H1 O R1 s
theorem ds_retX (h : DX K B te F) : DS K B (tRet te) (sRetX F) := fun ρ σ H O o R e D q => by
  obtain ⟨⟨d, ρ1⟩, h1, e⟩ := map_some e
  subst e
  exact h ρ σ H O d ρ1 R h1 _ fun v H1 R1 s x => q v ρ1 σ H1 O R1 x
theorem ds_appX {i : Nat} (h : DX K B te F) : DS K B (tDrop (tBM K "list" rAppend (tVar i) (tCons te tNil))) (sAppX i F) := fun ρ σ H O o R e D q => by
  unfold sAppX at e
  split at e
  · rename_i ds0 hs0
    obtain ⟨⟨d, ρ1⟩, h1, e⟩ := bind_some e
    dsimp only at e
    split at e
    · rename_i ds hs
      split at e
      · rename_i c
        have e := Option.some.inj e
        subst e
        obtain ⟨v, a, l, vs0, rfl, _, _, b30, _⟩ := R.slot _ _ hs0
        refine ⟨_, a, .inl ⟨rfl, vs0, SqL.of b30⟩, h ρ σ H O d ρ1 R h1 _ fun x H1 R1 s y => ?_⟩
        obtain ⟨v, a', l', vs, e1, b1, b2, b3, b4⟩ := R1.slot _ _ hs
        rw [a] at a'
        cases a'
        cases e1
        refine ⟨l, vs, x, rfl, rfl, b3, lineL (by rw [b4.length]; exact c), ?_⟩
        refine q σ _ O (R1.write hs a (b4.append (.one y))) ?_
        rw [hid_write _ b1]
        exact s
      · cases e
    · cases e
  · cases e
theorem ds_clear {i : Nat} : DS K B (tDrop (tBM0 K "list" rClear (tVar i))) (sClear i) := fun ρ σ H O o R e D q => by
  unfold sClear at e
  split at e
  · rename_i ds hs
    have e := Option.some.inj e
    subst e
    obtain ⟨v, a, l, vs, rfl, b1, b2, b3, b4⟩ := R.slot _ _ hs
    refine ⟨_, a, .inl ⟨rfl, vs, SqL.of b3⟩, l, vs, rfl, rfl, b3, q σ _ O (R.write hs a .nil) ?_⟩
    rw [hid_write _ b1]
    exact Same.refl _
  · cases e
theorem ds_reverse {i : Nat} : DS K B (tDrop (tBM0 K "list" rReverse (tVar i))) (sReverse i) := fun ρ σ H O o R e D q => by
  unfold sReverse at e
  split at e
  · rename_i ds hs
    have e := Option.some.inj e
    subst e
    obtain ⟨v, a, l, vs, rfl, b1, b2, b3, b4⟩ := R.slot _ _ hs
    refine ⟨_, a, .inl ⟨rfl, vs, SqL.of b3⟩, l, vs, rfl, rfl, b3, q σ _ O (R.write hs a b4.reverse) ?_⟩
    rw [hid_write _ b1]
    exact Same.refl _
  · cases e
theorem ds_ext {i : Nat} (h : DM K B te fl) : DS K B (tDrop (tBM K "list" rExtend (tVar i) (tCons te tNil))) (sExt i fl) := fun ρ σ H O o R e D q => by
  unfold sExt at e
  split at e
  · rename_i ds hs
    obtain ⟨es, h1, e⟩ := bind_some e
    split at e
    · rename_i c
      have e := Option.some.inj e
      subst e
      obtain ⟨v, a, l, vs, rfl, b1, b2, b3, b4⟩ := R.slot _ _ hs
      refine ⟨_, a, .inl ⟨rfl, vs, SqL.of b3⟩, h ρ σ H O es R h1 _ fun b us H1 s c1 a1 => ⟨l, b, vs, us, rfl, rfl, s _ _ b3, c1, line (by rw [b4.length, a1.length]; exact c), ?_⟩⟩
      have R1 := R.grow s
      refine q σ _ O (R1.write hs a ((DqAll.mono (hid_grow s) _ _ b4).append a1)) ?_
      rw [hid_write _ b1]
      exact hid_grow s
    · cases e
  · cases e
end
section
variable {X : Cx} {B : Bs} {x : Str} {p p2 pos apos cpos : Pos} {ex ei : Expr} {es : List Expr} {te ti : TE} {ta : TA} {f : En → Option D} {F : En → Option (D × En)} {G : En → Option (List D × En)} {fl : En → Option (List D)} {k n : Nat} {g : List D → Option Rv}
theorem x_pop (i : Nat) {on : Expr} (ho : PE X on (tVar i)) (hbase : attributeBase on "pop" X.env (eval on X.env) = eval on X.env := by rfl) (hline : (apos.endLine == cpos.line) = true := by rfl) (hk : X.K = B.K := by rfl) :
    XX X B (.Call (.Attribute on "pop" apos) [] [] cpos) (tBM0 B.K "list" rPop (tVar i)) (xPop i) := ⟨hk ▸ pe_bm0 PySem.F.plainAttrs_list PySem.F.slot_list_pop PySem.F.type_list_pop mt_pop ho hbase hline, dx_pop⟩
theorem x_popAt (i : Nat) {on : Expr} (ho : PE X on (tVar i)) (he : XE X B ex te f)
    (hbase : attributeBase on "pop" X.env (eval on X.env) = eval on X.env := by rfl)
    (hfew : ((backTo cpos (starEach (ex :: []) X.env)).all (fun x => !x.1) && (backToKw cpos (keywordEach [] X.env)).all (fun x => x.1.isSome)
      && decide ((ex :: []).length + ([] : List Keyword).length + (if ([] : List Keyword).isEmpty then 0 else 1) < 30)) = true := by rfl)
    (hline : (apos.endLine == cpos.line) = true := by rfl) (hs1 : starEach (ex :: []) X.env = (false, eval ex X.env) :: starEach [] X.env := by rfl) (hplain : (backTo cpos (starEach [] X.env)).any (·.1) = false := by rfl) (hk : X.K = B.K := by rfl) :
    XX X B (.Call (.Attribute on "pop" apos) [ex] [] cpos) (tBM B.K "list" rPopAt (tVar i) (tCons te tNil)) (xPopAt i f) :=
  ⟨hk ▸ pe_bm PySem.F.plainAttrs_list PySem.F.slot_list_pop PySem.F.type_list_pop mt_popAt ho (pa_cons he.pe pa_nil hs1) hbase hfew hline hs1 hplain, dx_popAt he.de⟩
theorem XE.xx (h : XE X B ex te f) : XX X B ex te (xE f) := ⟨h.pe, h.de.dx⟩
theorem xa_nil : XXA X B [] tNil xaNil := ⟨pa_nil, dxa_nil⟩
theorem xa_cons (h : XX X B ex te F) (k : XXA X B es ta G) (hs1 : starEach (ex :: es) X.env = (false, eval ex X.env) :: starEach es X.env := by rfl) : XXA X B (ex :: es) (tCons te ta) (xaCons F G) := ⟨pa_cons h.pe k.pe hs1, dxa_cons h.de k.de⟩
theorem xx_tup {x1} (h : XXA X B es ta G) : XX X B (.Tuple es x1 pos) (tTup ta) (xTup G) := ⟨pe_tup h.pe, dx_tup h.de⟩
theorem xx_call (F : DF X.prog X.w X.K X.mg X.base k x n g) (hr : Room k X.A) (ha : XXA X B (ex :: es) ta G) (hg : Gl X x := by rfl) (hdb : (x == ("__debug__" : Str)) = false := by decide) (he : starEach (ex :: es) X.env = (false, eval ex X.env) :: starEach es X.env := by rfl) (hpl : (backTo pos (starEach es X.env)).any (·.1) = false := by rfl) (hk : X.K = B.K := by rfl) :
    XX X B (.Call (.Name x p) (ex :: es) [] pos) (tCall (spD B.K n g) [] E0 ta) (xCall (fun ds => toD (g ds)) G) := by
  obtain ⟨⟨f, fd, ps, F, hm, hkp, hb⟩, hn⟩ := F
  exact ⟨hk ▸ pe_call F hr hg hm hkp hb .nil pass0 ha.pe hdb he hpl, dx_call hn ha.de⟩
theorem s_setX {i : Nat} {x : Str} {pos' : Pos} (hN : X.N.Nodup) (hi : X.N[i]? = some x) (hx : Loc X.env.scope x) (he : XX X B ex te F) (hs : swapsWith ex (some (.Name x pos')) pos.line X.env = pure false := by rfl) (hf : X.fn x = true ∨ X.env.scope.names.lookup x = some .local := by first | exact .inl rfl | exact .inr rfl | assumption) (hp : free B i = true := by rfl) :
    XS X B (.Assign [.Name x pos'] ex pos) (tAsg te (gName i)) (sSetX i F) := ⟨ps_set hN hi hx he.pe hs hf, ds_setX hp he.de⟩
theorem s_asgX {tg : Expr} {g : TG} {h : D → En → Option En} (he : XX X B ex te F) (hg : XG X B tg g h) (hs : swapsWithSole [tg] ex pos.line X.env = pure false := by rfl) (hw : swappedStores [tg] ex X.env = pure none := by rfl) (h1 : (assignEach [tg] X.env).map (·.2) = [assign tg X.env] := by rfl) : XS X B (.Assign [tg] ex pos) (tAsg te g) (sAsgX F h) := ⟨ps_asg he.pe hg.pe hs hw h1, ds_asgX he.de hg.de⟩
theorem s_dropX (he : XX X B ex te F) (hs : swapsWith ex none pos.line X.env = pure false := by rfl) : XS X B (.Expr ex pos) (tDrop te) (sDropX F) := ⟨ps_expr he.pe hs, ds_dropX he.de⟩
theorem s_retX (he : XX X B ex te F) : XS X B (.Return (some ex) pos) (tRet te) (sRetX F) := ⟨ps_ret he.pe, ds_retX he.de⟩
theorem s_appX (i : Nat) {on : Expr} (ho : PE X on (tVar i)) (he : XX X B ex te F) 
    (hbase : attributeBase on "append" X.env (eval on X.env) = eval on X.env := by rfl)
    (hfew : ((backTo cpos (starEach (ex :: []) X.env)).all (fun x => !x.1) && (backToKw cpos (keywordEach [] X.env)).all (fun x => x.1.isSome)
      && decide ((ex :: []).length + ([] : List Keyword).length + (if ([] : List Keyword).isEmpty then 0 else 1) < 30)) = true := by rfl)
    (hline : (apos.endLine == cpos.line) = true := by rfl) (hs1 : starEach (ex :: []) X.env = (false, eval ex X.env) :: starEach [] X.env := by rfl) (hplain : (backTo cpos (starEach [] X.env)).any (·.1) = false := by rfl)
    (hs : swapsWith (.Call (.Attribute on "append" apos) [ex] [] cpos) none pos.line X.env = pure false := by rfl) (hk : X.K = B.K := by rfl) :
    XS X B (.Expr (.Call (.Attribute on "append" apos) [ex] [] cpos) pos) (tDrop (tBM B.K "list" rAppend (tVar i) (tCons te tNil))) (sAppX i F) :=
  ⟨hk ▸ ps_expr (pe_bm PySem.F.plainAttrs_list PySem.F.slot_list_append PySem.F.type_list_append mt_append ho (pa_cons he.pe pa_nil hs1) hbase hfew hline hs1 hplain) hs, ds_appX he.de⟩
theorem s_ext (i : Nat) {on : Expr} (ho : PE X on (tVar i)) (he : XM X B ex te fl) 
    (hbase : attributeBase on "extend" X.env (eval on X.env) = eval on X.env := by rfl)
    (hfew : ((backTo cpos (starEach (ex :: []) X.env)).all (fun x => !x.1) && (backToKw cpos (keywordEach [] X.env)).all (fun x => x.1.isSome)
      && decide ((ex :: []).length + ([] : List Keyword).length + (if ([] : List Keyword).isEmpty then 0 else 1) < 30)) = true := by rfl)
    (hline : (apos.endLine == cpos.line) = true := by rfl) (hs1 : starEach (ex :: []) X.env = (false, eval ex X.env) :: starEach [] X.env := by rfl) (hplain : (backTo cpos (starEach [] X.env)).any (·.1) = false := by rfl)
    (hs : swapsWith (.Call (.Attribute on "extend" apos) [ex] [] cpos) none pos.line X.env = pure false := by rfl) (hk : X.K = B.K := by rfl) :
    XS X B (.Expr (.Call (.Attribute on "extend" apos) [ex] [] cpos) pos) (tDrop (tBM B.K "list" rExtend (tVar i) (tCons te tNil))) (sExt i fl) :=
  ⟨hk ▸ ps_expr (pe_bm PySem.F.plainAttrs_list PySem.F.slot_list_extend PySem.F.type_list_extend mt_extend ho (pa_cons he.pe pa_nil hs1) hbase hfew hline hs1 hplain) hs, ds_ext he.de⟩
theorem s_clear (i : Nat) {on : Expr} (ho : PE X on (tVar i)) (hbase : attributeBase on "clear" X.env (eval on X.env) = eval on X.env := by rfl) (hline : (apos.endLine == cpos.line) = true := by rfl)
    (hs : swapsWith (.Call (.Attribute on "clear" apos) [] [] cpos) none pos.line X.env = pure false := by rfl) (hk : X.K = B.K := by rfl) :
    XS X B (.Expr (.Call (.Attribute on "clear" apos) [] [] cpos) pos) (tDrop (tBM0 B.K "list" rClear (tVar i))) (sClear i) :=
  ⟨hk ▸ ps_expr (pe_bm0 PySem.F.plainAttrs_list PySem.F.slot_list_clear PySem.F.type_list_clear mt_clear ho hbase hline) hs, ds_clear⟩
theorem s_reverse (i : Nat) {on : Expr} (ho : PE X on (tVar i)) (hbase : attributeBase on "reverse" X.env (eval on X.env) = eval on X.env := by rfl) (hline : (apos.endLine == cpos.line) = true := by rfl)
    (hs : swapsWith (.Call (.Attribute on "reverse" apos) [] [] cpos) none pos.line X.env = pure false := by rfl) (hk : X.K = B.K := by rfl) :
    XS X B (.Expr (.Call (.Attribute on "reverse" apos) [] [] cpos) pos) (tDrop (tBM0 B.K "list" rReverse (tVar i))) (sReverse i) :=
  ⟨hk ▸ ps_expr (pe_bm0 PySem.F.plainAttrs_list PySem.F.slot_list_reverse PySem.F.type_list_reverse mt_reverse ho hbase hline) hs, ds_reverse⟩
end

/-! ### a def with a default -/
/-- called without its last parameter, which is then the int c -/
structure DFd (P : Program) (w : World) (K : PySem.W.Frag) (mg : Str → Option Value) (base : Heap) (k : Nat) (x : Str) (n : Nat) (g : List D → Option Rv) (c : Int) : Prop where
  ex : ∃ f fd ps u, FnOk P w K mg base CX0 k f fd ps (spD K n g) ∧ mg x = some (.ref f) ∧ PySem.W.keepIn K (.ref f) = true ∧ Binds K fd ps [u] ∧ RelV (.int c) u
  len : ∀ ds, g ds ≠ none → ds.length = n
section
variable {X : Cx} {B : Bs} {x : Str} {k n : Nat} {g : List D → Option Rv} {p pos : Pos} {ex : Expr} {es : List Expr} {ta : TA} {a : En → Option (List D)} {c : Int}
theorem de_callD {K : PySem.W.Frag} {E : XK} (hn : ∀ ds, g ds ≠ none → ds.length = n) (h : DA K B ta a) : DE K B (tCall (spD K n g) [V.int c] E ta) (eCall (fun ds => toD (g (ds ++ [.int c]))) a) := fun ρ σ H O z R e Q q => by
  obtain ⟨ds, h1, e⟩ := bind_some e
  obtain ⟨r, h2, h3⟩ := map_some e
  subst h3
  refine h ρ σ H O ds R h1 _ fun vs H1 s x => ?_
  have R1 := R.grow s
  have x2 := x.append (.one (Dq.int c))
  exact ⟨by rw [x2.length]; exact hn _ (by rw [h2]; simp), O, _, r, R1.mu, x2, h2, fun v H2 s2 y => q v H2 (s.trans s2) (y.d R1)⟩
theorem dl_callD {K : PySem.W.Frag} {E : XK} (hn : ∀ ds, g ds ≠ none → ds.length = n) (h : DA K B ta a) : DL K B (tCall (spD K n g) [V.int c] E ta) (eCall (fun ds => toL (g (ds ++ [.int c]))) a) := fun ρ σ H O z R e Q q => by
  obtain ⟨ds, h1, e⟩ := bind_some e
  obtain ⟨r, h2, h3⟩ := bind_some e
  refine h ρ σ H O ds R h1 _ fun vs H1 s x => ?_
  have R1 := R.grow s
  have x2 := x.append (.one (Dq.int c))
  refine ⟨by rw [x2.length]; exact hn _ (by rw [h2]; simp), O, _, r, R1.mu, x2, h2, fun v H2 s2 y => ?_⟩
  cases r with
  | v d => cases h3
  | l es =>
    have h3 : es = z := Option.some.inj h3
    subst h3
    obtain ⟨l, us, rfl, b, c, d⟩ := y
    exact q l us H2 (s.trans s2) (s.free b) c d
theorem x_callD (F : DFd X.prog X.w X.K X.mg X.base k x n g c) (hr : Room k X.A) (ha : XA X B (ex :: es) ta a) (hg : Gl X x := by rfl) (hdb : (x == ("__debug__" : Str)) = false := by decide) (he : starEach (ex :: es) X.env = (false, eval ex X.env) :: starEach es X.env := by rfl) (hpl : (backTo pos (starEach es X.env)).any (·.1) = false := by rfl) (hk : X.K = B.K := by rfl) :
    XE X B (.Call (.Name x p) (ex :: es) [] pos) (tCall (spD B.K n g) [V.int c] E0 ta) (eCall (fun ds => toD (g (ds ++ [.int c]))) a) := by
  obtain ⟨⟨f, fd, ps, u, F, hm, hkp, hb, hu⟩, hn⟩ := F
  exact ⟨hk ▸ pe_call F hr hg hm hkp hb (.cons hu .nil) pass0 ha.pe hdb he hpl, de_callD hn ha.de⟩
theorem l_callD (F : DFd X.prog X.w X.K X.mg X.base k x n g c) (hr : Room k X.A) (ha : XA X B (ex :: es) ta a) (hg : Gl X x := by rfl) (hdb : (x == ("__debug__" : Str)) = false := by decide) (he : starEach (ex :: es) X.env = (false, eval ex X.env) :: starEach es X.env := by rfl) (hpl : (backTo pos (starEach es X.env)).any (·.1) = false := by rfl) (hk : X.K = B.K := by rfl) :
    XL X B (.Call (.Name x p) (ex :: es) [] pos) (tCall (spD B.K n g) [V.int c] E0 ta) (eCall (fun ds => toL (g (ds ++ [.int c]))) a) := by
  obtain ⟨⟨f, fd, ps, u, F, hm, hkp, hb, hu⟩, hn⟩ := F
  exact ⟨hk ▸ pe_call F hr hg hm hkp hb (.cons hu .nil) pass0 ha.pe hdb he hpl, dl_callD hn ha.de⟩
end
theorem fun_mkD {K : PySem.W.Frag} {x qual : Str} {st : Stmt} {f T : Addr} {oc : Value} {od an : Option Addr} {osl : Array (Option Value)} {kV doc pm cdv ct : Value} {oT : Obj} {t : Tok} {n : Nat} {i : Int}
    (l : K.lookup f = some ⟨oc, od, .func (PySem.W.fnOf x qual (defArgs st) (defBody st) (defScope st) (.ref T) kV doc pm an cdv ct), osl⟩)
    (c : PySem.W.codeIn K cdv qual = true) (k : PySem.W.keepIn K (.ref f) = true) (lT : K.lookup T = some oT) (dT : oT.data = .seq #[.int i t] n) :
    FunD K x qual (defArgs st) (defBody st) (defScope st) [V.int i] [] f (PySem.W.fnOf x qual (defArgs st) (defBody st) (defScope st) (.ref T) kV doc pm an cdv ct) :=
  ⟨⟨oc, od, .ref T, kV, doc, pm, an, cdv, ct, osl, rfl, l, c, .inr ⟨by simp, T, oT, [.int i t], n, rfl, lT, dT, .cons ⟨t, rfl⟩ .nil⟩, .inl rfl⟩, k⟩
theorem fn_okD {P : Program} {w : World} {K : PySem.W.Frag} {mg : Str → Option Value} {base : Heap} {x qual : Str} {st : Stmt} {f : Addr} {fd : FuncData} {N ps : List Str} {k : Nat} {F : En → Option Out} {dvs : List V} (Fu : FunD K x qual (defArgs st) (defBody st) (defScope st) dvs [] f fd) (S : FnScope N ps (defScope st))
    (body : ∀ (cdv : Value) (A : Around) (outer : List Env) (s : Shared) (H : Hp) (O : List Addr) (E : XK), Room k (A.deeper (envOfC qual (defScope st) s.heap.objs.size f cdv)) → ∃ t, XSs (cxOf CX0 P w K mg base N qual (defScope st) f cdv A outer s H E).nox ⟨K, H, O, [], none, W0⟩ (defBody st) t F) :
    FnOk P w K mg base CX0 (k + 1) f fd ps (spD K ps.length (gF ps.length N.length F)) := by
  refine Fu.ok S (fun vs H Q E h => h.1) fun cdv A outer s H vs Q E hr hsp => ?_
  obtain ⟨hl, O, ds, r, mu, ha, hg, q⟩ := hsp
  obtain ⟨t, ht⟩ := body cdv A outer s H O E hr
  refine ⟨t, ht.pe.nox, ?_⟩
  unfold gF at hg
  split at hg
  · obtain ⟨o, h1, h2⟩ := bind_some hg
    refine ht.de _ _ H O o (rs_start mu ha) h1 _ ?_
    have fin : ∀ {ρ' : En} {σ' : L2.St} {H' : Hp} {O' : List Addr}, RS K ⟨K, H, O, [], none, W0⟩ ρ' σ' H' O' → Same H H' ∧ ∀ a ∈ O, a ∈ O' := fun R => ⟨fun a o e => R.same a o (by simp) e, fun a ha => (R.sub0 a ha).1⟩
    cases o with
    | nx ρ1 =>
      have h2 : Rv.v .none = r := Option.some.inj h2
      subst h2
      exact fun σ' H' O' R _ => q _ H' (fin R).1 Dq.non
    | rt d =>
      have h2 : Rv.v d = r := Option.some.inj h2
      subst h2
      exact fun v ρ' σ' H' O' R x => q v H' (fin R).1 (Dq.mono (hid_less (fin R).2) _ _ x)
    | rl es =>
      have h2 : Rv.l es = r := Option.some.inj h2
      subst h2
      refine fun l us ρ' σ' H' O' R n hl x y => q _ H' (fin R).1 ⟨l, us, rfl, n, hl, ?_⟩
      by_cases hm : l ∈ O'
      · refine DqAll.mono (hid_less fun a ha => ?_) _ _ x
        rcases List.mem_cons.mp ha with e | ha
        · rw [e]; exact hm
        · exact (fin R).2 a ha
      · refine DqAll.mono (hid_less fun a ha => ?_) _ _ (y hm)
        rcases List.mem_cons.mp ha with e | ha
        · rw [e]; exact List.mem_cons_self
        · exact List.mem_cons_of_mem _ ((fin R).2 a ha)
    | bk _ => cases h2
    | ct _ => cases h2
    | rp _ _ => cases h2
    | ex _ _ => cases h2
  · cases hg
theorem df_mkD {P : Program} {w : World} {K : PySem.W.Frag} {mg : Str → Option Value} {base : Heap} {k n m : Nat} {x qual : Str} {st : Stmt} {f : Addr} {fd : FuncData} {ps : List Str} {F : En → Option Out} {i : Int} (Fu : FunD K x qual (defArgs st) (defBody st) (defScope st) [V.int i] [] f fd) (hn : ps.length = n + 1) (h : FnOk P w K mg base CX0 k f fd ps (spD K (n + 1) (gF (n + 1) m F))) (hm : mg x = some (.ref f))
    (hb : ∀ (T : Addr) (kV doc pm : Value) (an : Option Addr) (cdv ct : Value) (us its : List Value), us.length = n + 1 → its.length = 1 →
      ∃ k, bindArgs (PySem.W.fnOf x qual (defArgs st) (defBody st) (defScope st) (.ref T) kV doc pm an cdv ct) ⟨us, []⟩ = seqItems? (.ref T) >>= k ∧ k (some its.toArray) = pure (ps.zip (us ++ its.drop 1)))
    (hb2 : ∀ (T : Addr) (kV doc pm : Value) (an : Option Addr) (cdv ct : Value) (us its : List Value), us.length = n → its.length = 1 →
      ∃ k, bindArgs (PySem.W.fnOf x qual (defArgs st) (defBody st) (defScope st) (.ref T) kV doc pm an cdv ct) ⟨us, []⟩ = seqItems? (.ref T) >>= k ∧ k (some its.toArray) = pure (ps.zip (us ++ its.drop 0))) :
    DF P w K mg base k x (n + 1) (gF (n + 1) m F) ∧ DFd P w K mg base k x (n + 1) (gF (n + 1) m F) i := by
  obtain ⟨ds, h1, h2⟩ := Fu.binds1 (ps := ps) (n + 1) 1 (by simp) (by rw [hn]; rfl) hb
  obtain ⟨es, h3, h4⟩ := Fu.binds1 (ps := ps) n 0 (by simp) (by rw [hn]; rfl) hb2
  cases h1
  cases h3 with
  | cons hu t =>
    cases t
    exact ⟨⟨⟨f, fd, ps, h, hm, Fu.kp, h2⟩, gF_len⟩, ⟨⟨f, fd, ps, _, h, hm, Fu.kp, h4, hu⟩, gF_len⟩⟩
end Z

set_option Elab.async false
set_option maxRecDepth 100000
set_option maxHeartbeats 4000000
set_option linter.all false
/-! ZB: texts: times, in, the methods -/
namespace Z
open PySem PySem.Spec PyProof.Rows L2
def repS (a : Str) (n : Int) : Str := ⟨(List.replicate n.toNat a.cps.toList).flatten.toArray⟩
theorem foldl_app (b : Array Nat) : ∀ (k : Nat) (a : Array Nat), List.foldl (fun x y => x ++ y) a (List.replicate k b) = (a.toList ++ (List.replicate k b.toList).flatten).toArray
  | 0, a => by simp
  | k + 1, a => by
    rw [List.replicate_succ, List.foldl_cons, foldl_app b k (a ++ b), List.replicate_succ, List.flatten_cons]
    simp
theorem gives_repB (m : String) (x : Str) (t : Tok) (b : Bool) : PySem.Gives (Builtin.Str.strRepeat m ⟨[.str x t, .bool b], []⟩) (if b = true then .val (.str x t) else .str Str.empty) := by
  cases b
  · first
      | exact .rule (.of_eq rfl)
      | exact .of_eq rfl
  · first
      | exact .rule (.of_eq rfl)
      | exact .of_eq rfl
theorem int_rmul_bs (a : Bool) (b : Str) (u : Tok) : PySem.Gives (Builtin.«int.__rmul__» ⟨[.bool a, .str b u], []⟩) (.val (Value.notImplemented)) :=
  .of_wp fun M A E s Q h => by obtain ⟨hp, g, d, tk, os⟩ := s; wp_walk; exact ⟨_, rfl, h⟩
def rMulS : R2 := fun x y H Q => (∃ a n, x = .str a ∧ y = .int n ∧ -1000000 ≤ n ∧ n ≤ 1000000 ∧ a.length ≤ 1000000 ∧ a.length * n.toNat ≤ 1000000 ∧ Q (.str (repS a n)) H) ∨ ∃ a b, x = .str a ∧ y = .bl b ∧ Q (.str (if b = true then a else Str.empty)) H
theorem op_mulS {X : Cx} : OpR X (binaryOp .Mult) rMulS := by
  intro pins s σ H x y v u Q I rx ry h
  rcases h with ⟨a, n, rfl, rfl, h1, h2, hz0, hz, q⟩ | ⟨a, b, rfl, rfl, q⟩
  rotate_left
  · obtain ⟨t, rfl⟩ := rx
    obtain rfl := ry
    refine wpAny_binaryOp_repeat (T := "str") (U := "bool") (by decide) (fun s' => typeIs_str s' a t) (fun s' => PySem.typeIs_bool s' b) noFill_str_mul F.fills_bool_mul F.slot_bool_rmul repeat_str F.slot_bool_index.lookup
      (call_gives F.slot_bool_rmul (PySem.typeIs_bool s b) F.entry_int_rmul (F.args_int_rmul_2 _ _) (int_rmul_bs b a t)
        ⟨rfl, call_gives F.slot_str_mul (typeIs_str s a t) F.entry_str_mul (F.args_str_mul_2 _ _) (gives_repB _ a t b) ?_⟩)
    cases b with
    | true => exact ⟨.str a, H, I, ⟨_, rfl⟩, q⟩
    | false => exact ⟨by decide, .str Str.empty, H, I.tok _, ⟨_, rfl⟩, q⟩
  obtain ⟨t, rfl⟩ := rx
  obtain ⟨t', rfl⟩ := ry
  have e63 : (2 : Int) ^ 63 = 9223372036854775808 := by decide
  refine PySem.P.mul_str ?_ (fun hn _ => ?_) (fun hn _ => ?_) ?_
  · rw [e63, decide_eq_false (by omega), decide_eq_false (by omega)]; rfl
  · have h3 : 1 ≤ n := by omega
    have h4 : (a.length : Int) * n ≤ 1000000 := by
      have : ((a.length * n.toNat : Nat) : Int) ≤ 1000000 := by omega
      rw [Int.natCast_mul, Int.toNat_of_nonneg (by omega)] at this
      exact this
    have h5 : (a.length : Int) ≤ (2 ^ 63 - 1) / n := by
      rw [Int.le_ediv_iff_mul_le (by omega), e63]; omega
    omega
  · unfold Builtin.Str.tooLong sizeLine
    exact decide_eq_false (by omega)
  · by_cases hn : n < 1
    · rw [if_pos hn]
      have e : repS a n = Str.empty := by
        unfold repS
        rw [show n.toNat = 0 from by omega]; rfl
      rw [e] at q
      exact ⟨by decide, .str Str.empty, H, I.tok _, ⟨_, rfl⟩, q⟩
    · rw [if_neg hn]
      split
      · rename_i hc
        have e : repS a n = a := by
          unfold repS
          have hc : n = 1 ∨ a.length = 0 := by simpa using hc
          rcases hc with hc | hc
          · rw [hc]; simp
          · have : a.cps = #[] := Array.eq_empty_of_size_eq_zero hc
            obtain ⟨cps⟩ := a
            dsimp only at this
            subst this
            have : (List.replicate n.toNat (#[] : Array Nat).toList).flatten = [] := by simp
            rw [this]
        rw [e] at q
        exact ⟨.str a, H, I, ⟨_, rfl⟩, q⟩
      · have e : repS a n = ⟨(List.replicate n.toNat a.cps).foldl (· ++ ·) #[]⟩ := by
          unfold repS
          rw [foldl_app]; simp
        have hl : (repS a n).length ≤ sizeLine := by
          have : (repS a n).length = n.toNat * a.length := by
            unfold repS
            show (List.flatten _).toArray.size = _
            rw [List.size_toArray, List.length_flatten, List.map_replicate, List.sum_replicate_nat]; rfl
          rw [this, Nat.mul_comm]
          exact line hz
        rw [e] at q hl
        exact ⟨hl, .str _, H, I.tok _, ⟨_, rfl⟩, q⟩
def mulSD (d e : D) : Option D := match d, e with
  | .str a, .int n => if -1000000 ≤ n ∧ n ≤ 1000000 ∧ a.length ≤ 1000000 ∧ a.length * n.toNat ≤ 1000000 then some (.str (repS a n)) else none
  | .str a, .bool b => some (.str (if b = true then a else Str.empty))
  | _, _ => none
def inD (neg : Bool) (d e : D) : Option D := match d, e with
  | .str a, .str z => if a.length = 1 then some (.bool (decide (a.cps.toList.headD 0 ∈ z.cps.toList) != neg)) else none
  | _, _ => none
def rstripD (d e : D) : Option D := match d, e with
  | .str a, .str b => if a.length ≤ 1000000 then some (.str (Txt.rstripChars a b)) else none
  | _, _ => none
section
variable {K : PySem.W.Frag} {B : Bs}
theorem opd_mulS : OpD K B rMulS mulSD := fun ρ σ H O x y d e z R a b k Q q => by
  unfold mulSD at k
  split at k
  · split at k
    · rename_i c
      cases k
      cases a.str
      cases b.int
      exact .inl ⟨_, _, rfl, rfl, c.1, c.2.1, c.2.2.1, c.2.2.2, q _ H (Same.refl H) (.str _)⟩
    · cases k
  · cases k
    cases a.str
    cases b.bl
    exact .inr ⟨_, _, rfl, rfl, q _ H (Same.refl H) (.str _)⟩
  · cases k
theorem one_sign {a : Str} (h : a.length = 1) : a = ⟨#[a.cps.toList.headD 0]⟩ := by
  obtain ⟨⟨l⟩⟩ := a
  match l, h with
  | [c], _ => rfl
theorem opd_in : OpD K B (fun x y H Q => ∃ (c : Nat) (z : Str), x = .str ⟨#[c]⟩ ∧ y = .str z ∧ Q (.bl (decide (c ∈ z.cps.toList))) H) (inD false) := fun ρ σ H O x y d e z R a b k Q q => by
  unfold inD at k
  split at k
  · split at k
    · rename_i c
      rw [Bool.bne_false] at k
      cases k
      cases a.str
      cases b.str
      exact ⟨_, _, congrArg V.str (one_sign c), rfl, q _ H (Same.refl H) (.bl _)⟩
    · cases k
  · cases k
theorem opd_notin : OpD K B (fun x y H Q => ∃ (c : Nat) (z : Str), x = .str ⟨#[c]⟩ ∧ y = .str z ∧ Q (.bl (!decide (c ∈ z.cps.toList))) H) (inD true) := fun ρ σ H O x y d e z R a b k Q q => by
  unfold inD at k
  split at k
  · split at k
    · rename_i c
      rw [Bool.bne_true] at k
      cases k
      cases a.str
      cases b.str
      exact ⟨_, _, congrArg V.str (one_sign c), rfl, q _ H (Same.refl H) (.bl _)⟩
    · cases k
  · cases k
end
section
variable {X : Cx} {B : Bs} {a b : Expr} {ta tb : TE} {f f' : En → Option D} {pos apos : Pos}
theorem x_mulS (ha : XE X B a ta f) (hb : XE X B b tb f') : XE X B (.BinOp a .Mult b pos) (tOp rMulS ta tb) (e2 mulSD f f') := ⟨pe_op op_mulS ha.pe hb.pe, de_op opd_mulS ha.de.db hb.de.db⟩
/-- a text's method of one text -/
theorem de_m1 {K : PySem.W.Frag} {r : V → List V → Hp → VK → Prop} {g : D → D → Option D}
    (hr : ∀ ρ σ H O x y d e z, RS K B ρ σ H O → Dq K (hid H O) x d → Bo K H O y e → g d e = some z → (∃ w, x = .str w) ∧ ∀ Q : VK, (∀ v H', Same H H' → Dq K (hid H' O) v z → Q v H') → r x [y] H Q)
    (hs : ∀ d e z, g d e = some z → ∃ w, d = .str w) (ha : DE K B ta f) (hb : DB K B tb f') : DE K B (tM1 r ta tb) (e2 g f f') := fun ρ σ H O z R e Q q => by
  obtain ⟨d, h1, e⟩ := bind_some e
  obtain ⟨d2, h2, e⟩ := bind_some e
  refine ha ρ σ H O d R h1 _ fun x H1 s1 y => ?_
  obtain ⟨w, rfl⟩ := hs d d2 z e
  have y' := y
  cases y'
  refine ⟨⟨w, rfl⟩, hb ρ σ H1 O d2 (R.grow s1) h2 _ fun x2 H2 s2 y2 => ?_⟩
  exact (hr ρ σ H2 O _ x2 _ d2 z ((R.grow s1).grow s2) (Dq.mono (hid_grow s2) _ _ y) y2 e).2 _ fun v H3 s3 y3 => q v H3 ((s1.trans s2).trans s3) y3
theorem x_rstrip {o : Expr} (ho : XE X B o ta f) (he : XE X B b tb f') (hs : starEach [b] X.env = [(false, eval b X.env)] := by rfl) (hbase : attributeBase o "rstrip" X.env (eval o X.env) = eval o X.env := by rfl) (hline : (apos.endLine == pos.line) = true := by rfl) :
    XE X B (.Call (.Attribute o "rstrip" apos) [b] [] pos) (tM1 (fun x xs H Q => ∃ a b, x = .str a ∧ xs = [.str b] ∧ a.length ≤ sizeLine ∧ Q (.str (Txt.rstripChars a b)) H) ta tb) (e2 rstripD f f') :=
  ⟨pe_m1 PySem.F.slot_str_rstrip PySem.F.type_str_rstrip mt_rstripChars ho.pe he.pe hs hbase hline, de_m1 (fun ρ σ H O x y d e z R a b k => by
    unfold rstripD at k
    split at k
    · split at k
      · rename_i c
        cases k
        cases a
        cases b.str
        exact ⟨⟨_, rfl⟩, fun Q q => ⟨_, _, rfl, rfl, line c, q _ H (Same.refl H) (.str _)⟩⟩
      · cases k
    · cases k) (fun d e z k => by
    unfold rstripD at k
    split at k
    · exact ⟨_, rfl⟩
    · cases k) ho.de he.de.db⟩
end
end Z

set_option Elab.async false
set_option maxRecDepth 100000
set_option maxHeartbeats 4000000
set_option linter.all false
/-! ZC: defs that change their last argument, a list of the caller -/
namespace Z
open PySem PySem.Spec PyProof.Rows L2
def spIO (K : PySem.W.Frag) (n : Nat) (g : List D → List D → Option (D × List D)) : Sp := fun vs H Q _ => vs.length = n ∧ ∃ O vs0 ds l ws us d us', vs = vs0 ++ [V.ref l] ∧ (∀ a ∈ O, ∃ o, H a = some o ∧ isMut o = true) ∧ l ∈ O ∧ H l = some (.lst ws) ∧
  DqAll K (hid H O) ws us ∧ DqAll K (hid H O) vs0 ds ∧ g ds us = some (d, us') ∧ ∀ v H' ws', (∀ a o, a ≠ l → H a = some o → H' a = some o) → H' l = some (.lst ws') → DqAll K (hid H' O) ws' us' → Dq K (hid H' O) v d → Q v H'
def envIO (m : Nat) (ds us : List D) : En := ds.map (fun d => some (SV.ro d)) ++ (some (SV.ow us) :: List.replicate (m - ds.length - 1) none)
def ioK (d : D) : Option (Option SV) → Option (D × List D)
  | some (some (.ow us)) => some (d, us)
  | _ => none
def ioR (i : Nat) : Option Out → Option (D × List D)
  | some (.rp d ρ) => ioK d ρ[i]?
  | some (.nx ρ) => ioK .none ρ[i]?
  | _ => none
def gIO (n m : Nat) (F : En → Option Out) (ds us : List D) : Option (D × List D) := if ds.length + 1 = n then ioR ds.length (F (envIO m ds us)) else none
theorem gIO_len {n m : Nat} {F : En → Option Out} : ∀ ds us, gIO n m F ds us ≠ none → ds.length + 1 = n := fun ds us h => by
  unfold gIO at h
  split at h
  · assumption
  · exact absurd rfl h
theorem envIO_get {m : Nat} {ds us : List D} {i : Nat} {s : SV} (e : (envIO m ds us)[i]? = some (some s)) : (∃ d, ds[i]? = some d ∧ s = .ro d) ∨ (i = ds.length ∧ s = .ow us) := by
  unfold envIO at e
  by_cases hi : i < ds.length
  · rw [List.getElem?_append_left (by rw [List.length_map]; exact hi), List.getElem?_map] at e
    obtain ⟨d, h1, h2⟩ := map_some e
    exact .inl ⟨d, h1, (Option.some.inj h2).symm⟩
  · rw [List.getElem?_append_right (by rw [List.length_map]; omega), List.length_map] at e
    by_cases hz : i = ds.length
    · subst hz
      rw [Nat.sub_self, List.getElem?_cons_zero] at e
      exact .inr ⟨rfl, (Option.some.inj (Option.some.inj e)).symm⟩
    · obtain ⟨k, hk⟩ : ∃ k, i - ds.length = k + 1 := ⟨i - ds.length - 1, by omega⟩
      rw [hk, List.getElem?_cons_succ, List.getElem?_replicate] at e
      split at e <;> cases e
theorem rs_startIO {K : PySem.W.Frag} {H : Hp} {O : List Addr} {N : List Str} {vs : List V} {ds us : List D} {l : Addr} {ws : List V} (mu : ∀ a ∈ O, ∃ o, H a = some o ∧ isMut o = true) (hl : l ∈ O) (hH : H l = some (.lst ws)) (hw : DqAll K (hid H O) ws us) (h : DqAll K (hid H O) vs ds) (hN : ds.length < N.length) :
    RS K ⟨K, H, O.filter (fun a => decide (a ≠ l)), [l], some (ds.length, l), W0⟩ (envIO N.length ds us) (L2.start N (vs ++ [V.ref l])) H O where
  len := by
    unfold envIO L2.start
    simp only [List.length_append, List.length_map, List.length_cons, List.length_replicate, List.length_nil, h.length]
    omega
  slot := fun i s e => by
    unfold L2.start
    rcases envIO_get e with ⟨d, h1, rfl⟩ | ⟨rfl, rfl⟩
    · obtain ⟨v, h3, h4⟩ := h.get h1
      have hi : i < vs.length := (List.getElem?_eq_some_iff.mp h3).1
      refine ⟨v, ?_, h4⟩
      rw [List.getElem?_append_left (by rw [List.length_map, List.length_append]; omega), List.getElem?_map, List.getElem?_append_left hi, h3] <;> rfl
    · refine ⟨V.ref l, ?_, l, ws, rfl, hl, fun z => ?_, hH, hw⟩
      · rw [List.getElem?_append_left (by rw [List.length_map, List.length_append, List.length_singleton, h.length]; omega), List.getElem?_map, List.getElem?_append_right (by rw [h.length]; exact Nat.le_refl _), h.length, Nat.sub_self] <;> rfl
      · have := (List.mem_filter.mp z).2
        simp at this
  uniq := fun i j s s' l' hij e1 e2 o1 o2 _ _ => by
    rcases envIO_get e1 with ⟨d, _, rfl⟩ | ⟨h1, _⟩
    · cases o1
    · rcases envIO_get e2 with ⟨d, _, rfl⟩ | ⟨h2, _⟩
      · cases o2
      · exact hij (h1.trans h2.symm)
  same := fun _ _ _ h => h
  own := fun a ha => by
    by_cases q : a = l
    · subst q; exact .inr (.inl List.mem_cons_self)
    · exact .inl (List.mem_filter.mpr ⟨ha, by simpa using q⟩)
  mu := mu
  sub0 := fun a ha => by
    obtain ⟨h1, h2⟩ := List.mem_filter.mp ha
    have h2 : a ≠ l := by simpa using h2
    obtain ⟨o, e, _⟩ := mu a h1
    exact ⟨h1, by simpa using h2, o, e⟩
  lo := fun a ha => by rcases List.mem_singleton.mp ha with rfl; exact hl
  pin := fun i l' e => by
    cases e
    unfold L2.start
    rw [List.getElem?_append_left (by rw [List.length_map, List.length_append, List.length_singleton, h.length]; omega), List.getElem?_map, List.getElem?_append_right (by rw [h.length]; exact Nat.le_refl _), h.length, Nat.sub_self] <;> rfl
theorem fn_okIO {P : Program} {w : World} {K : PySem.W.Frag} {mg : Str → Option Value} {base : Heap} {x qual : Str} {st : Stmt} {f : Addr} {fd : FuncData} {N ps : List Str} {k : Nat} {F : En → Option Out} (Fu : Fun K x qual st f fd) (S : FnScope N ps (defScope st)) (hN : ps.length ≤ N.length)
    (body : ∀ (cdv : Value) (A : Around) (outer : List Env) (s : Shared) (H : Hp) (O : List Addr) (l : Addr) (E : XK), Room k (A.deeper (envOfC qual (defScope st) s.heap.objs.size f cdv)) → ∃ t, XSs (cxOf CX0 P w K mg base N qual (defScope st) f cdv A outer s H E).nox ⟨K, H, O, [l], some (ps.length - 1, l), W0⟩ (defBody st) t F) :
    FnOk P w K mg base CX0 (k + 1) f fd ps (spIO K ps.length (gIO ps.length N.length F)) := by
  refine Fu.ok S (fun vs H Q E h => h.1) fun cdv A outer s H vs Q E hr hsp => ?_
  obtain ⟨hlen, O, vs0, ds, l, ws, us, d, us', rfl, mu, hl, hH, hw, ha, hg, q⟩ := hsp
  rw [List.length_append, List.length_singleton, ha.length] at hlen
  obtain ⟨t, ht⟩ := body cdv A outer s H (O.filter fun a => decide (a ≠ l)) l E hr
  refine ⟨t, ht.pe, ?_⟩
  rw [← hlen, Nat.add_sub_cancel] at ht
  unfold gIO at hg
  rw [if_pos hlen] at hg
  have R0 := rs_startIO (N := N) mu hl hH hw ha (by omega)
  have fin : ∀ {ρ' : En} {σ' : L2.St} {H' : Hp} {O' : List Addr} {d2 : D} {v : V}, RS K ⟨K, H, O.filter (fun a => decide (a ≠ l)), [l], some (ds.length, l), W0⟩ ρ' σ' H' O' → ioK d2 ρ'[ds.length]? = some (d, us') → Dq K (hid H' O') v d2 → Q v H' := fun {ρ' σ' H' O' d2 v} R e x => by
    have sub : ∀ a ∈ O, a ∈ O' := fun a ha => by
      by_cases z : a = l
      · subst z; exact R.lo a List.mem_cons_self
      · exact (R.sub0 a (List.mem_filter.mpr ⟨ha, by simpa using z⟩)).1
    unfold ioK at e
    split at e
    · rename_i us2 hs
      cases e
      obtain ⟨v1, a, l1, ws1, rfl, b1, b2, b3, b4⟩ := R.slot _ _ hs
      have p := R.pin ds.length l rfl
      rw [a] at p
      cases p
      exact q v H' ws1 (fun a o hne e => R.same a o (by simpa using hne) e) b3 (DqAll.mono (hid_less sub) _ _ b4) (Dq.mono (hid_less sub) _ _ x)
    · cases e
  cases hF : F (envIO N.length ds us) with
  | none => rw [hF] at hg; cases hg
  | some o =>
    rw [hF] at hg
    refine ht.de _ _ H O o R0 hF _ ?_
    cases o with
    | nx ρ1 => exact fun σ' H' O' R _ => fin R hg Dq.non
    | rp d2 ρ1 => exact fun v σ' H' O' R x => fin R hg x
    | rt d => cases hg
    | rl es => cases hg
    | bk _ => cases hg
    | ct _ => cases hg
    | ex _ _ => cases hg
def sRetP (f : En → Option D) : En → Option Out := fun ρ => (f ρ).map fun d => .rp d ρ
def sRetPX (F : En → Option (D × En)) : En → Option Out := fun ρ => (F ρ).map fun p => .rp p.1 p.2
structure DFio (P : Program) (w : World) (K : PySem.W.Frag) (mg : Str → Option Value) (base : Heap) (k : Nat) (x : Str) (n : Nat) (g : List D → List D → Option (D × List D)) : Prop where
  ex : ∃ f fd ps, FnOk P w K mg base CX0 k f fd ps (spIO K n g) ∧ mg x = some (.ref f) ∧ PySem.W.keepIn K (.ref f) = true ∧ Binds K fd ps []
  len : ∀ ds us, g ds us ≠ none → ds.length + 1 = n
theorem df_mkIO {P : Program} {w : World} {K : PySem.W.Frag} {mg : Str → Option Value} {base : Heap} {k n m : Nat} {x qual : Str} {st : Stmt} {f : Addr} {fd : FuncData} {ps : List Str} {F : En → Option Out} (Fu : Fun K x qual st f fd) (hn : ps.length = n) (h : FnOk P w K mg base CX0 k f fd ps (spIO K n (gIO n m F))) (hm : mg x = some (.ref f)) (hb : Binds K fd ps []) :
    DFio P w K mg base k x n (gIO n m F) := ⟨⟨f, fd, ps, h, hm, Fu.kp, hb⟩, gIO_len⟩
/-- arguments, the last of them an owned list's name -/
def DIO (K : PySem.W.Frag) (B : Bs) (j : Nat) (t : TA) (a : En → Option (List D)) : Prop := ∀ ρ σ H O ds l, RS K B ρ σ H O → a ρ = some ds → σ[j]? = some (some (V.ref l)) → ∀ Q : List V → Hp → Prop, (∀ vs H', Same H H' → DqAll K (hid H' O) vs ds → Q (vs ++ [V.ref l]) H') → t σ H Q
structure XIO (X : Cx) (B : Bs) (j : Nat) (es : List Expr) (t : TA) (a : En → Option (List D)) : Prop where
  pe : PA X es t
  de : DIO B.K B j t a
def xIO (g : List D → List D → Option (D × List D)) (j : Nat) (a : En → Option (List D)) : En → Option (D × En) := fun ρ => match ρ[j]? with
  | some (some (.ow us)) => (a ρ).bind fun ds => (g ds us).map fun p => (p.1, ρ.set j (some (.ow p.2)))
  | _ => none
section
variable {K : PySem.W.Frag} {B : Bs} {te : TE} {ta : TA} {f : En → Option D} {F : En → Option (D × En)} {a : En → Option (List D)} {j : Nat}
theorem ds_retP (h : DE K B te f) : DS K B (tRet te) (sRetP f) := fun ρ σ H O o R e D q => by
  obtain ⟨d, h1, e⟩ := map_some e
  subst e
  exact h ρ σ H O d R h1 _ fun v H1 s x => q v σ H1 O (R.grow s) x
theorem ds_retPX (h : DX K B te F) : DS K B (tRet te) (sRetPX F) := fun ρ σ H O o R e D q => by
  obtain ⟨⟨d, ρ1⟩, h1, e⟩ := map_some e
  subst e
  exact h ρ σ H O d ρ1 R h1 _ fun v H1 R1 s x => q v σ H1 O R1 x
theorem dio_nil : DIO K B j (tCons (tVar j) tNil) aNil := fun ρ σ H O ds l R e es Q q => by
  cases e
  exact ⟨_, es, q [] H (Same.refl H) .nil⟩
theorem dio_cons (h : DE K B te f) (k : DIO K B j ta a) : DIO K B j (tCons te ta) (aCons f a) := fun ρ σ H O ds l R e es Q q => by
  obtain ⟨d, h1, e⟩ := bind_some e
  obtain ⟨ds1, h2, e⟩ := bind_some e
  have e := Option.some.inj e
  subst e
  exact h ρ σ H O d R h1 _ fun v H1 s x => k ρ σ H1 O ds1 l (R.grow s) h2 es _ fun vs H2 s2 y => q (v :: vs) H2 (s.trans s2) (.cons (Dq.mono (hid_grow s2) _ _ x) y)
theorem dx_io {n : Nat} {g : List D → List D → Option (D × List D)} {E : XK} (hn : ∀ ds us, g ds us ≠ none → ds.length + 1 = n) (h : DIO K B j ta a) : DX K B (tCall (spIO K n g) [] E ta) (xIO g j a) := fun ρ σ H O d ρ' R e Q q => by
  unfold xIO at e
  split at e
  · rename_i us hs
    obtain ⟨ds, h1, e⟩ := bind_some e
    obtain ⟨⟨d1, us1⟩, h2, e⟩ := map_some e
    cases e
    obtain ⟨v, es, l, ws, rfl, b1, b2, b3, b4⟩ := R.slot _ _ hs
    refine h ρ σ H O ds l R h1 es _ fun vs H1 s x => ?_
    rw [List.append_nil]
    have R1 := R.grow s
    refine ⟨by rw [List.length_append, List.length_singleton, x.length]; exact hn ds us (by rw [h2]; simp), O, vs, ds, l, ws, us, d1, us1, rfl, R1.mu, b1, s _ _ b3, DqAll.mono (hid_grow s) _ _ b4, x, h2, fun v H' ws' c1 c2 c3 c4 => ?_⟩
    -- the heap but for the list
    have s2 : Same H1 (upd H' l (.lst ws)) := fun a o e => by
      by_cases z : a = l
      · subst z
        rw [upd_same, ← e, s _ _ b3]
      · rw [upd_ne z]; exact c1 a o z e
    have R2 := R1.grow s2
    have hid2 : hid (upd H' l (.lst ws)) O = hid H' O := hid_write _ b1
    have hup : upd (upd H' l (.lst ws)) l (.lst ws') = H' := by
      funext a
      by_cases z : a = l
      · subst z; rw [upd_same, c2]
      · rw [upd_ne z, upd_ne z]
    have R3 := R2.write hs es (vs' := ws') (ds' := us1) (by rw [hid2]; exact c3)
    rw [hup] at R3
    refine q v H' R3 ?_ c4
    rw [← hid2]
    exact hid_grow (s.trans s2)
  · cases e
end
section
variable {X : Cx} {B : Bs} {x : Str} {p pos : Pos} {ex : Expr} {es : List Expr} {te : TE} {ta : TA} {f : En → Option D} {F : En → Option (D × En)} {a : En → Option (List D)} {j k n : Nat} {g : List D → List D → Option (D × List D)}
theorem s_retP (he : XE X B ex te f) : XS X B (.Return (some ex) pos) (tRet te) (sRetP f) := ⟨ps_ret he.pe, ds_retP he.de⟩
theorem s_retPX (he : XX X B ex te F) : XS X B (.Return (some ex) pos) (tRet te) (sRetPX F) := ⟨ps_ret he.pe, ds_retPX he.de⟩
theorem io_nil (j : Nat) (ho : PE X ex (tVar j)) (hs1 : starEach (ex :: []) X.env = (false, eval ex X.env) :: starEach [] X.env := by rfl) : XIO X B j [ex] (tCons (tVar j) tNil) aNil := ⟨pa_cons ho pa_nil hs1, dio_nil⟩
theorem io_cons (h : XE X B ex te f) (k : XIO X B j es ta a) (hs1 : starEach (ex :: es) X.env = (false, eval ex X.env) :: starEach es X.env := by rfl) : XIO X B j (ex :: es) (tCons te ta) (aCons f a) := ⟨pa_cons h.pe k.pe hs1, dio_cons h.de k.de⟩
theorem xx_io (F : DFio X.prog X.w X.K X.mg X.base k x n g) (hr : Room k X.A) (ha : XIO X B j (ex :: es) ta a) (hg : Gl X x := by rfl) (hdb : (x == ("__debug__" : Str)) = false := by decide) (he : starEach (ex :: es) X.env = (false, eval ex X.env) :: starEach es X.env := by rfl) (hpl : (backTo pos (starEach es X.env)).any (·.1) = false := by rfl) (hk : X.K = B.K := by rfl) :
    XX X B (.Call (.Name x p) (ex :: es) [] pos) (tCall (spIO B.K n g) [] E0 ta) (xIO g j a) := by
  obtain ⟨⟨f, fd, ps, F, hm, hkp, hb⟩, hn⟩ := F
  exact ⟨hk ▸ pe_call F hr hg hm hkp hb .nil pass0 ha.pe hdb he hpl, dx_io hn ha.de⟩
end
end Z

set_option Elab.async false
set_option maxRecDepth 100000
set_option maxHeartbeats 4000000
set_option linter.all false
/-! ZD: chained comparisons -/
namespace Z
open PySem PySem.Spec PyProof.Rows L2
def eChain (g g' : D → D → Option D) (fa fb fc : En → Option D) : En → Option D := fun ρ => (fa ρ).bind fun x => (fb ρ).bind fun y => (g x y).bind fun z => match z with
  | .bool true => (fc ρ).bind fun w => g' y w
  | .bool false => some (.bool false)
  | _ => none
section
variable {K : PySem.W.Frag} {B : Bs} {r r' : R2} {g g' : D → D → Option D} {ta tb tc : TE} {fa fb fc : En → Option D}
theorem de_chain (hr : OpD K B r g) (hr' : OpD K B r' g') (ha : DE K B ta fa) (hb : DE K B tb fb) (hc : DE K B tc fc) : DE K B (tChain r r' ta tb tc) (eChain g g' fa fb fc) := fun ρ σ H O d R e Q q => by
  obtain ⟨x, h1, e⟩ := bind_some e
  obtain ⟨y, h2, e⟩ := bind_some e
  obtain ⟨z, h3, e⟩ := bind_some e
  refine ha ρ σ H O x R h1 _ fun vx H1 s1 a => hb ρ σ H1 O y (R.grow s1) h2 _ fun vy H2 s2 b => ?_
  have R2 := R.grow (s1.trans s2)
  refine hr ρ σ H2 O vx vy x y z R2 (.inl (Dq.mono (hid_grow s2) _ _ a)) (.inl b) h3 _ fun vz H3 s3 c => ?_
  have R3 := R2.grow s3
  cases z with
  | bool k =>
    cases c
    refine ⟨k, rfl, ?_⟩
    cases k with
    | true =>
      rw [if_pos rfl]
      obtain ⟨w, h4, e⟩ := bind_some e
      refine hc ρ σ H3 O w R3 h4 _ fun vw H4 s4 cw => ?_
      exact hr' ρ σ H4 O vy vw y w d (R3.grow s4) (.inl (Dq.mono (hid_grow (s3.trans s4)) _ _ b)) (.inl cw) e Q fun v H5 s5 c5 => q v H5 ((s1.trans s2).trans (s3.trans (s4.trans s5))) c5
    | false =>
      rw [if_neg Bool.false_ne_true]
      have e := Option.some.inj e
      subst e
      exact q _ H3 ((s1.trans s2).trans s3) (.bl false)
  | none => cases e
  | int _ => cases e
  | str _ => cases e
  | list _ => cases e
  | tuple _ => cases e
  | dict _ => cases e
end
section
variable {X : Cx} {B : Bs} {a b c : Expr} {ta tb tc : TE} {fa fb fc : En → Option D} {pos : Pos} {op op' : CmpOp} {r r' : R2} {g g' : D → D → Option D}
theorem x_chain (ho : OpR X (compareOp op) r) (hr : OpD B.K B r g) (ho' : OpR X (compareOp op') r') (hr' : OpD B.K B r' g') (ha : XE X B a ta fa) (hb : XE X B b tb fb) (hc : XE X B c tc fc)
    (hm : lastMarks [op, op'] [b, c] = false := by with_unfolding_all rfl) : XE X B (.Compare a [op, op'] [b, c] pos) (tChain r r' ta tb tc) (eChain g g' fa fb fc) := ⟨pe_chain ho ho' ha.pe hb.pe hc.pe hm, de_chain hr hr' ha.de hb.de hc.de⟩
theorem t_chain (ho : OpR X (compareOp op) r) (hr : OpD B.K B r g) (ho' : OpR X (compareOp op') r') (hr' : OpD B.K B r' g') (ha : XE X B a ta fa) (hb : XE X B b tb fb) (hc : XE X B c tc fc)
    (hm : lastMarks [op, op'] [b, c] = false := by with_unfolding_all rfl) : XT X B (.Compare a [op, op'] [b, c] pos) (tTest (tChain r r' ta tb tc)) (asB (eChain g g' fa fb fc)) := ⟨pt_chain ho ho' ha.pe hb.pe hc.pe hm, dt_test (de_chain hr hr' ha.de hb.de hc.de)⟩
end
end Z

set_option Elab.async false
set_option maxRecDepth 100000
set_option maxHeartbeats 4000000
set_option linter.all false
/-! ZE: texts joined and split; in a list -/
namespace Z
open PySem PySem.Spec PyProof.Rows L2
def strsOf : List D → Option (List Str)
  | [] => some []
  | .str x :: ds => (strsOf ds).map (x :: ·)
  | _ :: _ => none
theorem strsOf_some : ∀ {ds : List D} {ys : List Str}, strsOf ds = some ys → ds = ys.map .str
  | [], ys, h => by cases h; rfl
  | .str x :: ds, ys, h => by
    obtain ⟨zs, h1, h2⟩ := map_some (show (strsOf ds).map (x :: ·) = some ys from h)
    subst h2
    rw [strsOf_some h1]; rfl
  | .none :: _, _, h => by cases h
  | .bool _ :: _, _, h => by cases h
  | .int _ :: _, _, h => by cases h
  | .list _ :: _, _, h => by cases h
  | .tuple _ :: _, _, h => by cases h
  | .dict _ :: _, _, h => by cases h
def joinD (d e : D) : Option D := match d, e with
  | .str a, .list ds => (strsOf ds).bind fun ys => if (ys.map (·.length)).sum + ys.length * a.length ≤ 16777216 then some (.str (Txt.join a ys)) else none
  | _, _ => none
def splitL (d e : D) : Option (List D) := match d, e with
  | .str a, .str b => if (b.length == 0) = false ∧ a.length ≤ 1000000 then some ((Txt.split a b).map .str) else none
  | _, _ => none
def inLD (neg : Bool) (d e : D) : Option D := match e with
  | .list ds => if SeqAt.shaped d = true ∧ SeqAt.shaped (.list ds) = true then some (.bool ((ds.any fun z => PyData.eqv z d) != neg)) else none
  | _ => none
def rJoin (K : PySem.W.Frag) : V → List V → Hp → VK → Prop := fun x xs H Q => ∃ a p, ∃ ys : List Str, x = .str a ∧ xs = [.ref p] ∧ (SqL K H p (ys.map V.str) ∨ SqT K H p (ys.map V.str)) ∧
    (ys.map (·.length)).sum + ys.length * a.length ≤ 16777216 ∧ Q (.str (Txt.join a ys)) H
def rSplit : V → List V → Hp → VK → Prop := fun x xs H Q => ∃ a b, x = .str a ∧ xs = [.str b] ∧ (b.length == 0) = false ∧ a.length + 2 ≤ sizeLine ∧ rNewStrs (Txt.split a b) H Q
section
variable {K : PySem.W.Frag} {B : Bs}
theorem opd_inL : OpD K B (rInD K) (inLD false) := fun ρ σ H O x y d e z R a b k Q q => by
  unfold inLD at k
  split at k
  · rename_i ds
    split at k
    · rename_i c
      rw [Bool.bne_false] at k
      cases k
      obtain ⟨p, vs, rfl, hp, ap⟩ := b.list
      have cl := SeqAt.canLay_of_shaped c.2
      have cd := SeqAt.canLay_of_shaped c.1
      have hd : Dq K H x d := by
        rcases a with a | ⟨l, us, es, rfl, rfl, _, h, a⟩ | ⟨l, us, tt, kvs, rfl, rfl, _, h, a⟩
        · exact Dq.mono (hid_self _ _) _ _ a
        · exact .lst (SqL.of h) (DqAll.mono (hid_self _ _) _ _ a)
        · exact dobj_dq h (DObj.mono (hid_self _ _) a)
      exact ⟨d, ds, Dq.toDp d _ cd hd, Dq.toDp (.list ds) _ cl (.lst hp (DqAll.mono (hid_self _ _) _ _ ap)), c.1, c.2, q _ H (Same.refl H) (.bl _)⟩
    · cases k
  · cases k
theorem opd_notinL : OpD K B (rNotInD K) (inLD true) := fun ρ σ H O x y d e z R a b k Q q => by
  unfold inLD at k
  split at k
  · rename_i ds
    split at k
    · rename_i c
      rw [Bool.bne_true] at k
      cases k
      obtain ⟨p, vs, rfl, hp, ap⟩ := b.list
      have cl := SeqAt.canLay_of_shaped c.2
      have cd := SeqAt.canLay_of_shaped c.1
      have hd : Dq K H x d := by
        rcases a with a | ⟨l, us, es, rfl, rfl, _, h, a⟩ | ⟨l, us, tt, kvs, rfl, rfl, _, h, a⟩
        · exact Dq.mono (hid_self _ _) _ _ a
        · exact .lst (SqL.of h) (DqAll.mono (hid_self _ _) _ _ a)
        · exact dobj_dq h (DObj.mono (hid_self _ _) a)
      exact ⟨d, ds, Dq.toDp d _ cd hd, Dq.toDp (.list ds) _ cl (.lst hp (DqAll.mono (hid_self _ _) _ _ ap)), c.1, c.2, q _ H (Same.refl H) (.bl _)⟩
    · cases k
  · cases k
end
section
variable {X : Cx} {B : Bs} {a b o : Expr} {ta tb : TE} {f f' : En → Option D} {pos apos : Pos}
theorem x_join (ho : XE X B o ta f) (he : XB X B b tb f') (hs : starEach [b] X.env = [(false, eval b X.env)] := by rfl) (hbase : attributeBase o "join" X.env (eval o X.env) = eval o X.env := by rfl) (hline : (apos.endLine == pos.line) = true := by rfl) (hk : X.K = B.K := by rfl) :
    XE X B (.Call (.Attribute o "join" apos) [b] [] pos) (tM1 (rJoin B.K) ta tb) (e2 joinD f f') :=
  ⟨hk ▸ pe_m1 PySem.F.slot_str_join PySem.F.type_str_join mt_join ho.pe he.pe hs hbase hline, de_m1 (fun ρ σ H O x y d e z R a b k => by
    unfold joinD at k
    split at k
    · obtain ⟨ys, h1, k⟩ := bind_some k
      split at k
      · rename_i c
        cases k
        cases a
        obtain ⟨p, vs, rfl, hp, ap⟩ := b.list
        have e := strsOf_some h1
        subst e
        have e := DqAll.strs ap
        subst e
        exact ⟨⟨_, rfl⟩, fun Q q => ⟨_, _, ys, rfl, rfl, .inl hp, c, q _ H (Same.refl H) (.str _)⟩⟩
      · cases k
    · cases k) (fun d e z k => by
    unfold joinD at k
    split at k
    · exact ⟨_, rfl⟩
    · cases k) ho.de he.de⟩
theorem l_split (ho : XE X B o ta f) (he : XE X B b tb f') (hs : starEach [b] X.env = [(false, eval b X.env)] := by rfl) (hbase : attributeBase o "split" X.env (eval o X.env) = eval o X.env := by rfl) (hline : (apos.endLine == pos.line) = true := by rfl) :
    XL X B (.Call (.Attribute o "split" apos) [b] [] pos) (tM1 rSplit ta tb) (e2 splitL f f') :=
  ⟨pe_m1 PySem.F.slot_str_split PySem.F.type_str_split mt_split ho.pe he.pe hs hbase hline, fun ρ σ H O zs R e Q q => by
    obtain ⟨d, h1, e⟩ := bind_some e
    obtain ⟨d2, h2, e⟩ := bind_some e
    unfold splitL at e
    split at e
    · split at e
      · rename_i c
        have e := Option.some.inj e
        subst e
        refine ho.de ρ σ H O _ R h1 _ fun x H1 s1 y => ?_
        cases y
        refine ⟨⟨_, rfl⟩, he.de ρ σ H1 O _ (R.grow s1) h2 _ fun x2 H2 s2 y2 => ?_⟩
        cases y2
        refine ⟨_, _, rfl, rfl, c.1, Nat.le_trans (Nat.add_le_add_right c.2 2) (by decide), fun p hp => ?_⟩
        exact q p _ _ ((s1.trans s2).trans (same_new _ hp)) ((s1.trans s2).free hp) upd_same (DqAll.map (fun x => Dq.str x) _)
      · cases e
    · cases e⟩
end
/-! ### a def with a default, handed owned lists -/
section
variable {X : Cx} {B : Bs} {x : Str} {k n : Nat} {g : List D → Option Rv} {p pos : Pos} {ex : Expr} {es : List Expr} {ta : TA} {a : En → Option (List D)} {c : Int}
theorem bo_len {K : PySem.W.Frag} {H : Hp} {O : List Addr} {vs : List V} {ds : List D} (h : BoAll K H O vs ds) : vs.length = ds.length := by
  induction h with
  | nil => rfl
  | cons _ _ ih => exact congrArg (· + 1) ih
theorem dl_callDB {K : PySem.W.Frag} {E : XK} (hn : ∀ ds, g ds ≠ none → ds.length = n) (h : DAB K B ta a) : DL K B (tCall (spD K n g) [V.int c] E ta) (eCall (fun ds => toL (immG (g (ds ++ [.int c])))) a) := fun ρ σ H O z R e Q q => by
  obtain ⟨ds, h1, e⟩ := bind_some e
  obtain ⟨r, h2, h3⟩ := bind_some e
  obtain ⟨r', h2, h4⟩ := bind_some h2
  split at h4
  · rename_i him
    cases h4
    refine h ρ σ H O ds R h1 _ fun vs H1 s x => ?_
    have R1 := R.grow s
    have hl := bo_len x
    refine ⟨by rw [List.length_append, List.length_singleton, hl]; have := hn _ (by rw [h2]; simp); rw [List.length_append, List.length_singleton] at this; exact this, lent O vs, ds ++ [.int c], r, fun a ha => R1.mu a (lent_sub a ha), (lent_all vs (fun _ h => h) x).append (.one (Dq.int c)), h2, fun v H2 s2 y => ?_⟩
    have R2 := R1.grow s2
    cases r with
    | v d => cases h3
    | l es =>
      have h3 : es = z := Option.some.inj h3
      subst h3
      obtain ⟨l, us, e, b, c, d⟩ := y
      subst e
      refine q l us H2 (s.trans s2) (s.free b) c (DqAll.move (fun a xs h => ?_) _ _ him d)
      rcases h with h | h
      · refine .inl ?_
        have key : ∀ o, hid H2 (l :: lent O vs) a = some o → isMut o = false → hid H2 (l :: O) a = some o := fun o e m => by
          obtain ⟨x1, e⟩ := of_hid e
          rw [hid_out]
          · exact e
          · simp only [List.mem_cons, not_or] at x1 ⊢
            refine ⟨x1.1, fun zz => ?_⟩
            obtain ⟨o', e', m'⟩ := R2.mu a zz
            rw [e] at e'; cases e'
            rw [m] at m'; cases m'
        rcases h with h | ⟨o, h⟩
        · exact .inl (key _ h rfl)
        · exact .inr ⟨o, key _ h rfl⟩
      · exact .inr h
  · cases h4
theorem l_callDB (F : DFd X.prog X.w X.K X.mg X.base k x n g c) (hr : Room k X.A) (ha : XAB X B (ex :: es) ta a) (hg : Gl X x := by rfl) (hdb : (x == ("__debug__" : Str)) = false := by decide) (he : starEach (ex :: es) X.env = (false, eval ex X.env) :: starEach es X.env := by rfl) (hpl : (backTo pos (starEach es X.env)).any (·.1) = false := by rfl) (hk : X.K = B.K := by rfl) :
    XL X B (.Call (.Name x p) (ex :: es) [] pos) (tCall (spD B.K n g) [V.int c] E0 ta) (eCall (fun ds => toL (immG (g (ds ++ [.int c])))) a) := by
  obtain ⟨⟨f, fd, ps, u, F, hm, hkp, hb, hu⟩, hn⟩ := F
  exact ⟨hk ▸ pe_call F hr hg hm hkp hb (.cons hu .nil) pass0 ha.pe hdb he hpl, dl_callDB hn ha.de⟩
end
end Z

set_option Elab.async false
set_option maxRecDepth 100000
set_option maxHeartbeats 4000000
set_option linter.all false
/-! ZF: lists unpacked; list(reversed(..)) -/
namespace Z
open PySem PySem.Spec PyProof.Rows L2
def hUnl (n : Nat) (k : List D → En → Option En) : D → En → Option En := fun d ρ => match d with
  | .list ds => if ds.length = n then k ds ρ else none
  | _ => none
theorem dg_unl {K : PySem.W.Frag} {B : Bs} {gs : TGs} {hs : List D → En → Option En} {n : Nat} (hk : DGs K B gs hs) : DG K B (gUnl K n gs) (hUnl n hs) := fun ρ σ H O v d ρ' R x e Q q => by
  unfold hUnl at e
  split at e
  · split at e
    · rename_i c
      cases x with
      | lst hx ha => exact ⟨_, _, rfl, SqL.mono (hid_self _ _) hx, by rw [ha.length]; exact c, hk ρ σ H O _ _ ρ' R ha e Q q⟩
    · cases e
  · cases e
section
variable {X : Cx} {B : Bs} {es : List Expr} {t : TGs} {hs : List D → En → Option En} {pos : Pos} {n kk : Nat}
theorem g_unl (hc : X.calm = true) (h : XGs X B es t hs) (hn : (assignEach es X.env).length = n := by rfl) (hst : (assignEach es X.env).findIdx? (·.1) = none := by rfl) (hk : X.K = B.K := by rfl) : XG X B (.Tuple es kk pos) (gUnl B.K n t) (hUnl n hs) := ⟨hk ▸ pg_unl hc h.pe hn hst, dg_unl h.de⟩
end
end Z
namespace Z
open PySem PySem.Spec PyProof.Rows L2 RT
open Sem (wp)
section
variable {prog : Program} {w : World} {A : Around} {E : Value → Shared → Prop} {s : Shared}
theorem init_rev {R : Result → Shared → Prop} {it l : Addr} {items : Array Value} (hh : A.handled = none) (hit : s.heap.IsRevIter it l ((items.size : Int) - 1)) (hl : s.heap.IsList l items) (hne : l ≠ it) (hn : items.size ≤ sizeLine)
    (S : Addr) (hS : s.heap.get? S = some { cls := .type "list", data := .seq #[] }) (hSi : S ≠ it) (hSl : S ≠ l)
    (hR : ∀ h' tk acc' c', (∀ b o, b ≠ S → b ≠ it → s.heap.get? b = some o → h'.get? b = some o) → h'.get? S = some { cls := .type "list", dict := none, data := .seq acc' c', slots := #[] } →
      ItemsOf (fun i v => items[items.size - 1 - i]? = some v) acc' items.size → R (.ok (.ret .none)) { s with heap := h', toks := tk }) :
    wpAny (model prog w) A.in1 (Builtin.«list.__init__» ⟨[.ref S, .ref it], []⟩)
      (fun fin s' => match fin with | .done f => R (.ok f) s' | .again c' => c'.quiet = true ∧ codeAny (model prog w) A c' R s') (fun e s' => R (.error e) s') s := by
  show wpAny _ _ (do let old ← Builtin.List.listItems (.ref S); Builtin.List.listUpdate (.ref S) (fun _ => #[]); letGo old.toList.reverse; Builtin.List.listExtendWith (.ref S) (.ref it) .none) _ _ s
  refine wpAny_bind ?_
  unfold Builtin.List.listItems
  refine wpAny_bind (wpAny_seqItems hS rfl (wpAny_pure ?_))
  show wpAny _ _ (updateSeq S (fun _ => #[]) >>= fun _ => letGo (#[] : Array Value).toList.reverse >>= fun _ => Builtin.List.listExtendWith (.ref S) (.ref it) .none) _ _ s
  refine wpAny_bind (wpAny_updateSeq hS rfl ?_)
  have hS₁ := Heap.get?_update_self (Obj.mapSeq (fun _ => (#[] : Array Value))) hS rfl
  have oth : ∀ b o, b ≠ S → s.heap.get? b = some o → (s.heap.update S (Obj.mapSeq (fun _ => (#[] : Array Value)))).get? b = some o :=
    fun b o hb e => (Heap.get?_update_other _ _ (Ne.symm hb)).trans e
  refine wpAny_bind (wpAny_letGo ?_)
  generalize hH : s.heap.update S (Obj.mapSeq (fun _ => (#[] : Array Value))) = h1 at *
  have W := (Walks.listRev (prog := prog) (w := w) (A := A.in1) hh it l hne items).toS
  have hSf : S ∉ [it, l] := by simp only [List.mem_cons, List.not_mem_nil, or_false, not_or]; exact ⟨hSi, hSl⟩
  have hit1 : h1.IsRevIter it l ((items.size : Int) - 1) := hit.at fun o e => oth it o (Ne.symm hSi) e
  have hl1 : h1.IsList l items := by
    obtain ⟨ol, a, b⟩ := hl
    exact ⟨ol, oth l ol (Ne.symm hSl) a, b⟩
  have hT : ({ s with heap := h1 } : Shared).TypeIs (.ref it) "list_reverseiterator" := Heap.IsRevIter.typeIs (s := { s with heap := h1 }) hit1
  have e1 : Builtin.List.listSameRef (.ref S) (.ref it) = false := by simp [Builtin.List.listSameRef, hSi]
  unfold Builtin.List.listExtendWith
  refine wpAny_bind (wpAny_typeOf hT ?_)
  rw [if_neg (by rw [e1]; decide)]
  refine wpAny_bind (wpAny_pyIter_revIter (s := { s with heap := h1 }) hit1 ?_)
  refine wpAny_bind (wpAny_holding ?_)
  unfold Builtin.List.listLengthHint
  refine wpAny_bind (wpAny_specialOf hT nolen_lri ?_)
  show wpAny _ A.in1 (specialOf (Value.ref it) (Str.ofString "__length_hint__") >>= _) _ _ _
  refine wpAny_bind (wpAny_specialOf hT hint_lri ?_)
  generalize hid : ("list_reverseiterator.__length_hint__" : String) = id0
  wp_delta
  rw [show splitId id0 = some ("list_reverseiterator", "__length_hint__") from by subst hid; decide +kernel]
  subst hid
  refine wpAny_bind (wpAny_isInstance (b := true) hT (by rw [isSubtype_type]; kernel_rfl) ?_)
  refine wpAny_pure ?_
  rw [if_neg (by decide)]
  have e0 : ((items.size : Nat) : Int) - 1 - ((0 : Nat) : Int) = (items.size : Int) - 1 := by omega
  refine wpAny_pure ⟨plainId_quiet F.plain_extend_loop _, codeAny_extend_loopS W hn S hSf _ items.size 0 _ #[] _ rfl (Nat.zero_le _) ⟨Nat.zero_le _, by rw [e0]; exact hit1, hl1⟩ hS₁ (ItemsOf.nil _) fun s' acc' c' hm hS' hacc => ?_⟩
  rw [Moved.eq_with hm]
  refine hR s'.heap s'.toks acc' c' (fun b o hb hb2 e => hm.heap b o (fun hmem => ?_) (oth b o hb e)) hS' hacc
  rcases List.mem_cons.mp hmem with e' | hmem
  · exact hb e'
  · exact hb2 (List.mem_singleton.mp hmem)
theorem call_list_rev {it l : Addr} {items : Array Value} {Q : Value → Shared → Prop} (hh : A.handled = none) (hit : s.heap.IsRevIter it l ((items.size : Int) - 1)) (hl : s.heap.IsList l items) (hne : l ≠ it) (hn : items.size ≤ sizeLine)
    (hQ : ∀ h' tk acc' c', (∀ b o, b ≠ it → s.heap.get? b = some o → h'.get? b = some o) →
      h'.get? s.heap.objs.size = some { cls := .type "list", dict := none, data := .seq acc' c', slots := #[] } → ItemsOf (fun i v => items[items.size - 1 - i]? = some v) acc' items.size → Q (.ref s.heap.objs.size) { s with heap := h', toks := tk }) :
    wpAny (model prog w) A (call (.type "list") [.ref it]) Q E s := by
  refine callType_codes (Q₁ := fun obj s₁ => obj = .ref s.heap.objs.size ∧ s₁ = { s with heap := s.heap.push { cls := .type "list", data := .seq #[] } }) F.called_list (F.typeCall_list_1 _) F.entry_list_init
    (code_list_new _ ⟨rfl, rfl⟩) fun obj s₁ h₁ => ?_
  obtain ⟨rfl, rfl⟩ := h₁
  have hS : (s.heap.push { cls := .type "list", data := .seq #[] }).get? s.heap.objs.size = some { cls := .type "list", data := .seq #[] } := Heap.get?_push_size _ rfl
  obtain ⟨oi, hoi, _⟩ := id hit
  obtain ⟨ol, hol, _⟩ := id hl
  refine ⟨⟨_, hS, rfl⟩, F.args_list_init_2 _ _, init_rev (A := A.in1) hh (hit.at fun o e => Heap.get?_push_of_some _ e) (hl.push _) hne hn _ hS (Nat.ne_of_gt (Heap.lt_size hoi)) (Nat.ne_of_gt (Heap.lt_size hol)) fun h' tk acc' c' hk hS' hacc => ?_⟩
  exact ⟨rfl, hQ h' tk acc' c' (fun b o hb e => hk b o (Nat.ne_of_lt (Heap.lt_size e)) hb (Heap.get?_push_of_some _ e)) hS' hacc⟩
end
def tLstRev (K : PySem.W.Frag) (te : TE) : TE := fun σ H Q => te σ H fun v H1 => ∃ (a : Addr) (xs : List V), v = .ref a ∧ SqL K H1 a xs ∧ ∀ q, H1 q = none → Q (.ref q) (upd H1 q (.lst xs.reverse))
section
variable {X : Cx}
theorem pe_lstRev {e : Expr} {te : TE} {p p2 pos pos2 : Pos} (hc : X.calm = true) (hg : Gl X "list") (hm : X.mg "list" = none) (hg2 : Gl X "reversed") (hm2 : X.mg "reversed" = none) (he : PE X e te)
    (hs : starEach [e] X.env = (false, eval e X.env) :: starEach [] X.env := by rfl)
    (hs2 : starEach [.Call (.Name "reversed" p2) [e] [] pos2] X.env = (false, eval (.Call (.Name "reversed" p2) [e] [] pos2) X.env) :: starEach [] X.env := by rfl) :
    PE X (.Call (.Name "list" p) [.Call (.Name "reversed" p2) [e] [] pos2] [] pos) (tLstRev X.K te) := by
  refine ⟨fun pins s σ H Q I h => ?_⟩
  refine Call_ (ld_blt I hg hm boot_list (PyProof.Rows.callWith_type1 (args_cons (Call_ (ld_blt I hg2 hm2 PyProof.Rows.boot_reversed (PyProof.Rows.callWith_type1 (args_cons (thn (he.run pins s σ H _ I h) fun u s1 ⟨v, H1, I1, r1, q1⟩ => args_nil ?_) hs) hs rfl))) hs2) hs2 rfl))
  obtain ⟨a, xs, ev, hq, q⟩ := q1
  subst ev
  obtain rfl : u = Value.ref a := r1
  obtain ⟨its, rv, p', hz⟩ := I1.list hq
  refine call_reversed_list p'.isList (args_nil ?_)
  have k0 : ∀ b o, s1.heap.get? b = some o → (s1.heap.push (revObj a ((its.toArray.size : Int) - 1))).get? b = some o := fun b o e => Heap.get?_push_of_some _ e
  have I2 : Inv X pins σ H1 { s1 with heap := s1.heap.push (revObj a ((its.toArray.size : Int) - 1)) } := I1.kept (t' := s1.toks) k0
  obtain ⟨f0, f1, f2, f3, f4, f5⟩ := I1.fpOk (H' := H1) (b := s1.heap.objs.size) (Nat.le_refl _) (I1.hok.fresh (Nat.le_refl _))
  have hl := p'.isList
  obtain ⟨ol, hol, _⟩ := id hl
  have hne : a ≠ s1.heap.objs.size := Nat.ne_of_lt (Heap.lt_size hol)
  have hn : its.toArray.size ≤ sizeLine := by rw [List.size_toArray, ← rv.length]; exact hz
  refine call_list_rev (s := { s1 with heap := s1.heap.push (revObj a ((its.toArray.size : Int) - 1)) }) (I1.ok.hd hc) ⟨_, Heap.get?_push_size _ rfl, rfl, rfl⟩ (hl.push _) hne hn fun h' tk acc c' hk e' hi => ?_
  have hsz : (s1.heap.push (revObj a ((its.toArray.size : Int) - 1))).objs.size = s1.heap.objs.size + 1 := Heap.size_push _ _
  have hk' : ∀ b o, s1.heap.get? b = some o → h'.get? b = some o := fun b o e => hk b o (Nat.ne_of_lt (Heap.lt_size e)) (k0 b o e)
  have e' : h'.get? (s1.heap.push (revObj a ((its.toArray.size : Int) - 1))).objs.size = _ := e'
  show EP X pins σ Q (.ref (s1.heap.push (revObj a ((its.toArray.size : Int) - 1))).objs.size) _
  rw [hsz] at e' ⊢
  refine ⟨.ref (s1.heap.objs.size + 1), upd H1 (s1.heap.objs.size + 1) (.lst xs.reverse), I1.laid hk' (Nat.le_succ _) (show ObjOk X.prog X.w _ _ _ (.lst xs.reverse) from ⟨by rw [List.length_reverse]; exact hz, acc.toList, c', vals_rev rv hi, ?_⟩), rfl, q _ (I1.hok.fresh (Nat.le_succ _))⟩
  rw [Array.toArray_toList]; exact e'
end
def revL (f : En → Option (List D)) : En → Option (List D) := fun ρ => (f ρ).map List.reverse
theorem dl_rev {K : PySem.W.Frag} {B : Bs} {te : TE} {f : En → Option (List D)} (h : DM K B te f) : DL K B (tLstRev K te) (revL f) := fun ρ σ H O zs R e Q q => by
  obtain ⟨ds, h1, h2⟩ := map_some e
  subst h2
  refine h ρ σ H O ds R h1 _ fun l vs H1 s1 c1 a1 => ⟨l, vs, rfl, SqL.of c1, fun p hp => ?_⟩
  exact q p _ _ (s1.trans (same_new _ hp)) (s1.free hp) upd_same (new_lst hp a1.reverse)
theorem l_rev {X : Cx} {B : Bs} {e : Expr} {te : TE} {f : En → Option (List D)} {p p2 pos pos2 : Pos} (hc : X.calm = true) (hm : X.mg "list" = none) (hm2 : X.mg "reversed" = none) (h : XM X B e te f) (hg : Gl X "list" := by rfl) (hg2 : Gl X "reversed" := by rfl) (hs : starEach [e] X.env = (false, eval e X.env) :: starEach [] X.env := by rfl)
    (hs2 : starEach [.Call (.Name "reversed" p2) [e] [] pos2] X.env = (false, eval (.Call (.Name "reversed" p2) [e] [] pos2) X.env) :: starEach [] X.env := by rfl) (hk : X.K = B.K := by rfl) :
    XL X B (.Call (.Name "list" p) [.Call (.Name "reversed" p2) [e] [] pos2] [] pos) (tLstRev B.K te) (revL f) := ⟨hk ▸ pe_lstRev hc hg hm hg2 hm2 h.pe hs hs2, dl_rev h.de⟩
/-! ### an owned list, read only for one expression -/
def fzE (i : Nat) (f : En → Option D) : En → Option D := fun ρ => match ρ[i]? with
  | some (some (.ow ds)) => (f (ρ.set i (some (.lr ds)))).bind fun d => if imm d = true then some d else none
  | _ => f ρ
def fzT (i : Nat) (c : En → Option Bool) : En → Option Bool := fun ρ => match ρ[i]? with
  | some (some (.ow ds)) => c (ρ.set i (some (.lr ds)))
  | _ => c ρ
def fzL (i : Nat) (f : En → Option (List D)) : En → Option (List D) := fun ρ => match ρ[i]? with
  | some (some (.ow ds)) => (f (ρ.set i (some (.lr ds)))).bind fun zs => if immAll zs = true then some zs else none
  | _ => f ρ
section
variable {K : PySem.W.Frag} {B : Bs} {i : Nat}
theorem de_fz {t : TE} {f : En → Option D} (hL : B.L = []) (h : DE K B t f) : DE K B t (fzE i f) := fun ρ σ H O d R e Q q => by
  unfold fzE at e
  split at e
  · rename_i ds hs
    obtain ⟨O', R', g⟩ := R.freeze (fun l _ => by rw [hL]; simp) hs
    obtain ⟨d', h1, e⟩ := bind_some e
    split at e
    · rename_i hi
      have e := Option.some.inj e
      subst e
      exact h _ σ H O' d' R' h1 Q fun v H' s x => q v H' s (Dq.move ((R.grow s).tups O') d' v hi x)
    · cases e
  · exact h ρ σ H O d R e Q q
theorem dt_fz {t : TT} {c : En → Option Bool} (hL : B.L = []) (h : DT K B t c) : DT K B t (fzT i c) := fun ρ σ H O b R e Q q => by
  unfold fzT at e
  split at e
  · rename_i ds hs
    obtain ⟨O', R', g⟩ := R.freeze (fun l _ => by rw [hL]; simp) hs
    exact h _ σ H O' b R' e Q q
  · exact h ρ σ H O b R e Q q
theorem dl_fz {t : TE} {f : En → Option (List D)} (hL : B.L = []) (h : DL K B t f) : DL K B t (fzL i f) := fun ρ σ H O zs R e Q q => by
  unfold fzL at e
  split at e
  · rename_i ds hs
    obtain ⟨O', R', g⟩ := R.freeze (fun l _ => by rw [hL]; simp) hs
    obtain ⟨zs', h1, e⟩ := bind_some e
    split at e
    · rename_i hi
      have e := Option.some.inj e
      subst e
      refine h _ σ H O' zs' R' h1 Q fun l vs H' s n hl a => q l vs H' s n hl ?_
      obtain ⟨R1, _⟩ := R.own1 s n hl rfl
      exact DqAll.move (R1.tups (l :: O')) zs' vs hi a
    · cases e
  · exact h ρ σ H O zs R e Q q
end
section
variable {X : Cx} {B : Bs} {ex : Expr}
theorem x_fz (i : Nat) {t : TE} {f : En → Option D} (h : XE X B ex t f) (hL : B.L = [] := by rfl) : XE X B ex t (fzE i f) := ⟨h.pe, de_fz hL h.de⟩
theorem t_fz (i : Nat) {t : TT} {c : En → Option Bool} (h : XT X B ex t c) (hL : B.L = [] := by rfl) : XT X B ex t (fzT i c) := ⟨h.pe, dt_fz hL h.de⟩
theorem l_fz (i : Nat) {t : TE} {f : En → Option (List D)} (h : XL X B ex t f) (hL : B.L = [] := by rfl) : XL X B ex t (fzL i f) := ⟨h.pe, dl_fz hL h.de⟩
end
end Z

set_option Elab.async false
set_option maxRecDepth 100000
set_option maxHeartbeats 4000000
set_option linter.all false
/-! ZG: dicts, keys ints and texts, or tuples of these -/
namespace Z
open PySem PySem.Spec PyProof.Rows L2
/-! ### keys -/
def toK : D → Option Key
  | .int i => some (.inl i)
  | .str x => some (.inr x)
  | _ => none
def toKs : List D → Option (List Key)
  | [] => some []
  | d :: ds => (toK d).bind fun k => (toKs ds).map (k :: ·)
abbrev Ky := Key ⊕ List Key
def toKy : D → Option Ky
  | .tuple ds => (toKs ds).map .inr
  | d => (toK d).map .inl
def kyD : Ky → D
  | .inl k => kD k
  | .inr ks => .tuple (ks.map kD)
theorem toK_kD : ∀ k : Key, toK (kD k) = some k
  | .inl _ => rfl
  | .inr _ => rfl
theorem toKs_kD : ∀ ks : List Key, toKs (ks.map kD) = some ks
  | [] => rfl
  | k :: ks => by
    show (toK (kD k)).bind (fun k => (toKs (ks.map kD)).map (k :: ·)) = _
    rw [toK_kD, toKs_kD ks]; rfl
theorem toKy_kyD : ∀ k : Ky, toKy (kyD k) = some k
  | .inl (.inl _) => rfl
  | .inl (.inr _) => rfl
  | .inr ks => by show (toKs (ks.map kD)).map Sum.inr = _; rw [toKs_kD]; rfl
theorem kD_of {d : D} {k : Key} (h : toK d = some k) : d = kD k := by
  unfold toK at h
  split at h
  · cases h; rfl
  · cases h; rfl
  · cases h
theorem kDs_of : ∀ {ds : List D} {ks : List Key}, toKs ds = some ks → ds = ks.map kD
  | [], ks, h => by cases h; rfl
  | d :: ds, ks, h => by
    have h : (toK d).bind (fun k => (toKs ds).map (k :: ·)) = some ks := h
    obtain ⟨k, h1, h2⟩ := bind_some h
    obtain ⟨r, h3, h4⟩ := map_some h2
    subst h4
    rw [kD_of h1, kDs_of h3]; rfl
def look (k : Ky) (ds : List (D × D)) : Option D := (ds.find? fun p => decide (toKy p.1 = some k)).map (·.2)
def isT (ds : List (D × D)) : Bool := ds.any fun p => match p.1 with | .none => true | .list _ => true | _ => false
/-- an instance -/
def isI : List (D × D) → Bool
  | (.list _, _) :: _ => true
  | _ => false
theorem isI_of : ∀ {ds : List (D × D)}, isT ds = false → isI ds = false
  | [], _ => rfl
  | (.list _, _) :: _, h => by cases h
  | (.none, _) :: _, _ => rfl
  | (.bool _, _) :: _, _ => rfl
  | (.int _, _) :: _, _ => rfl
  | (.str _, _) :: _, _ => rfl
  | (.tuple _, _) :: _, _ => rfl
  | (.dict _, _) :: _, _ => rfl
def putD (k : Ky) (d : D) (ds : List (D × D)) : List (D × D) :=
  if (ds.any fun p => decide (toKy p.1 = some k)) = true then ds.map (fun p => if toKy p.1 = some k then (p.1, d) else p) else ds ++ [(kyD k, d)]
def kindK : Ky → Bool
  | .inl _ => false
  | .inr _ => true
def dLook (d : D) (k : Ky) : Option (Option D) := match d with
  | .dict ds => if isT ds = kindK k ∧ isI ds = false then some (look k ds) else none
  | _ => none
theorem look_nil {k : Ky} : look k [] = none := rfl
theorem look_pos {p : D × D} {ds : List (D × D)} {k : Ky} (e : toKy p.1 = some k) : look k (p :: ds) = some p.2 := by simp [look, List.find?_cons, e]
theorem look_neg {p : D × D} {ds : List (D × D)} {k : Ky} (e : ¬ toKy p.1 = some k) : look k (p :: ds) = look k ds := by simp [look, List.find?_cons, e]
section
variable {K : PySem.W.Frag} {G : Hp}
/-- a reading of both sides -/
def ValR (K : PySem.W.Frag) (G : Hp) (o : Option V) (r : Option D) : Prop := (o = none ∧ r = none) ∨ ∃ v d, o = some v ∧ r = some d ∧ Dq K G v d
theorem kv_isT : ∀ {vs : List (Key × V)} {ds : List (D × D)}, DqKv K G vs ds → isT ds = false
  | _, _, .nil => rfl
  | (k, v) :: _, _, .cons (d := d) (ds := ds) _ t => by
    have ih := kv_isT t
    cases k <;> exact ih
theorem tv_isT : ∀ {vs : List (List Key × V)} {ds : List (D × D)}, DqTv K G vs ds → isT ds = true
  | _, _, .nil => rfl
  | _, _, .cons _ t => by
    have ih := tv_isT t
    exact ih
theorem kv_look (k : Key) : ∀ {vs : List (Key × V)} {ds : List (D × D)}, DqKv K G vs ds → ValR K G (valV vs k) (look (.inl k) ds)
  | _, _, .nil => .inl ⟨rfl, rfl⟩
  | (k', v) :: vs, _, .cons (d := d) (ds := ds) h t => by
    have e0 : toKy (kD k') = some (.inl k') := toKy_kyD (.inl k')
    by_cases e : k' = k
    · subst e
      rw [valV_pos (p := (k', v)) rfl, look_pos (p := (kD k', d)) e0]
      exact .inr ⟨v, d, rfl, rfl, h⟩
    · rw [valV_neg (p := (k', v)) e, look_neg (p := (kD k', d)) (fun z => by rw [e0] at z; injection z with z; injection z with z; exact e z)]
      exact kv_look k t
theorem tv_look (k : List Key) : ∀ {vs : List (List Key × V)} {ds : List (D × D)}, DqTv K G vs ds → ValR K G (valV vs k) (look (.inr k) ds)
  | _, _, .nil => .inl ⟨rfl, rfl⟩
  | (k', v) :: vs, _, .cons (d := d) (ds := ds) h t => by
    have e0 : toKy (.tuple (k'.map kD)) = some (.inr k') := toKy_kyD (.inr k')
    by_cases e : k' = k
    · subst e
      rw [valV_pos (p := (k', v)) rfl, look_pos (p := (.tuple (k'.map kD), d)) e0]
      exact .inr ⟨v, d, rfl, rfl, h⟩
    · rw [valV_neg (p := (k', v)) e, look_neg (p := (.tuple (k'.map kD), d)) (fun z => by rw [e0] at z; injection z with z; injection z with z; exact e z)]
      exact tv_look k t
theorem tv_isI : ∀ {vs : List (List Key × V)} {ds : List (D × D)}, DqTv K G vs ds → isI ds = false
  | _, _, .nil => rfl
  | _, _, .cons _ _ => rfl
theorem isI_tails {tt : Bool} {ds : List (D × D)} (h : isI ds = false) : isI (tails tt ds) = false := by
  cases tt with
  | false => exact h
  | true =>
    cases ds with
    | nil => rfl
    | cons p ds =>
      obtain ⟨k, v⟩ := p
      cases k <;> first | rfl | exact h
theorem isT_tails {tt : Bool} {ds : List (D × D)} (h : isT ds = false) : isT (tails tt ds) = tt := by
  cases tt with
  | false => exact h
  | true => show isT (ds ++ [mark]) = true; unfold isT; rw [List.any_append]; simp [mark]
theorem look_mark (k : Ky) : ∀ ds : List (D × D), look k (ds ++ [mark]) = look k ds
  | [] => rfl
  | p :: ds => by
    by_cases e : toKy p.1 = some k
    · rw [List.cons_append, look_pos e, look_pos e]
    · rw [List.cons_append, look_neg e, look_neg e, look_mark k ds]
theorem look_tails (k : Ky) (tt : Bool) (ds : List (D × D)) : look k (tails tt ds) = look k ds := by
  cases tt with
  | false => rfl
  | true => exact look_mark k ds
/-! putting -/
theorem kv_app : ∀ {vs : List (Key × V)} {ds : List (D × D)} {k : Key} {v : V} {d : D}, DqKv K G vs ds → Dq K G v d → DqKv K G (vs ++ [(k, v)]) (ds ++ [(kD k, d)])
  | _, _, _, _, _, .nil, h => .cons h .nil
  | _, _, _, _, _, .cons a t, h => .cons a (kv_app t h)
theorem kv_map {k : Key} {v : V} {d : D} (h : Dq K G v d) : ∀ {vs : List (Key × V)} {ds : List (D × D)}, DqKv K G vs ds → DqKv K G (vs.map fun kv => if kv.1 = k then (kv.1, v) else kv) (ds.map fun p => if toKy p.1 = some (.inl k) then (p.1, d) else p)
  | _, _, .nil => .nil
  | (k', v') :: vs, _, .cons (d := d') (ds := ds) a t => by
    have e0 : toKy (kD k') = some (.inl k') := toKy_kyD (.inl k')
    rw [List.map_cons, List.map_cons]
    by_cases e : k' = k
    · subst e
      rw [if_pos rfl, if_pos e0]
      exact .cons h (kv_map h t)
    · rw [if_neg e, if_neg (fun z => by rw [e0] at z; injection z with z; injection z with z; exact e z)]
      exact .cons a (kv_map h t)
theorem kv_any {k : Key} : ∀ {vs : List (Key × V)} {ds : List (D × D)}, DqKv K G vs ds → (vs.any fun kv => decide (kv.1 = k)) = (ds.any fun p => decide (toKy p.1 = some (.inl k)))
  | _, _, .nil => rfl
  | (k', v') :: vs, _, .cons (d := d') (ds := ds) a t => by
    have e0 : toKy (kD k') = some (.inl k') := toKy_kyD (.inl k')
    rw [List.any_cons, List.any_cons, kv_any t]
    by_cases e : k' = k
    · rw [decide_eq_true e, decide_eq_true (by rw [e0, e])]
    · rw [decide_eq_false e, decide_eq_false (fun z => by rw [e0] at z; injection z with z; injection z with z; exact e z)]
theorem kv_put {k : Key} {v : V} {d : D} (h : Dq K G v d) {vs : List (Key × V)} {ds : List (D × D)} (t : DqKv K G vs ds) : DqKv K G (putK vs k v) (putD (.inl k) d ds) := by
  unfold putK putD
  rw [kv_any t]
  split
  · exact kv_map h t
  · exact kv_app t h
theorem tv_app : ∀ {vs : List (List Key × V)} {ds : List (D × D)} {k : List Key} {v : V} {d : D}, DqTv K G vs (ds ++ [mark]) → Dq K G v d → DqTv K G (vs ++ [(k, v)]) (ds ++ [(.tuple (k.map kD), d)] ++ [mark])
  | vs, [], k, v, d, t, h => by
    cases t
    exact .cons h .nil
  | vs, p :: ds, k, v, d, t, h => by
    have t : DqTv K G vs (p :: (ds ++ [mark])) := t
    generalize hz : ds ++ [mark] = zs at t
    cases t with
    | nil => exact absurd hz (by simp)
    | cons a t =>
      subst hz
      exact .cons a (tv_app t h)
theorem tv_map {k : List Key} {v : V} {d : D} (h : Dq K G v d) : ∀ {vs : List (List Key × V)} {ds : List (D × D)}, DqTv K G vs (ds ++ [mark]) → DqTv K G (vs.map fun kv => if kv.1 = k then (kv.1, v) else kv) ((ds.map fun p => if toKy p.1 = some (.inr k) then (p.1, d) else p) ++ [mark])
  | vs, [], t => by cases t; exact .nil
  | vs, p :: ds, t => by
    have t : DqTv K G vs (p :: (ds ++ [mark])) := t
    generalize hz : ds ++ [mark] = zs at t
    cases t with
    | nil => exact absurd hz (by simp)
    | @cons k' v' vs d' _ a t =>
      subst hz
      have e0 : toKy (.tuple (k'.map kD)) = some (.inr k') := toKy_kyD (.inr k')
      rw [List.map_cons, List.map_cons, List.cons_append]
      by_cases e : k' = k
      · subst e
        rw [if_pos rfl, if_pos e0]
        exact .cons h (tv_map h t)
      · rw [if_neg e, if_neg (fun z => by rw [e0] at z; injection z with z; injection z with z; exact e z)]
        exact .cons a (tv_map h t)
theorem tv_any {k : List Key} : ∀ {vs : List (List Key × V)} {ds : List (D × D)}, DqTv K G vs (ds ++ [mark]) → (vs.any fun kv => decide (kv.1 = k)) = (ds.any fun p => decide (toKy p.1 = some (.inr k)))
  | vs, [], t => by cases t; rfl
  | vs, p :: ds, t => by
    have t : DqTv K G vs (p :: (ds ++ [mark])) := t
    generalize hz : ds ++ [mark] = zs at t
    cases t with
    | nil => exact absurd hz (by simp)
    | @cons k' v' vs d' _ a t =>
      subst hz
      have e0 : toKy (.tuple (k'.map kD)) = some (.inr k') := toKy_kyD (.inr k')
      rw [List.any_cons, List.any_cons, tv_any t]
      by_cases e : k' = k
      · rw [decide_eq_true e, decide_eq_true (by rw [e0, e])]
      · rw [decide_eq_false e, decide_eq_false (fun z => by rw [e0] at z; injection z with z; injection z with z; exact e z)]
theorem tv_put {k : List Key} {v : V} {d : D} (h : Dq K G v d) {vs : List (List Key × V)} {ds : List (D × D)} (t : DqTv K G vs (ds ++ [mark])) : DqTv K G (putK vs k v) (putD (.inr k) d ds ++ [mark]) := by
  unfold putK putD
  rw [tv_any t]
  split
  · exact tv_map h t
  · exact tv_app t h
theorem kv_len : ∀ {vs : List (Key × V)} {ds : List (D × D)}, DqKv K G vs ds → vs.length = ds.length
  | _, _, .nil => rfl
  | _, _, .cons _ t => congrArg (· + 1) (kv_len t)
theorem tv_len : ∀ {vs : List (List Key × V)} {ds : List (D × D)}, DqTv K G vs ds → vs.length + 1 = ds.length
  | _, _, .nil => rfl
  | _, _, .cons _ t => congrArg (· + 1) (tv_len t)
end
section
variable {K : PySem.W.Frag} {B : Bs} {ρ : En} {σ : L2.St} {H H' : Hp} {O : List Addr}
theorem RS.setSV (R : RS K B ρ σ H O) {i : Nat} {l : Addr} {s0 : SV} (hs0 : SOk K B.O0 H O (.ref l) s0)
    (hpin : ∀ j l', B.pin = some (j, l') → (σ.set i (some (V.ref l)))[j]? = some (some (V.ref l'))) (no : ∀ (j : Nat) s, ρ[j]? = some (some s) → s.owned = true → i ≠ j → σ[j]? = some (some (V.ref l)) → False) : RS K B (ρ.set i (some s0)) (σ.set i (some (.ref l))) H O where
  len := by rw [List.length_set, List.length_set]; exact R.len
  slot := fun j s e => by
    by_cases hj : i = j
    · subst hj
      by_cases hi : i < ρ.length
      · rw [List.getElem?_set_self hi] at e
        have e := Option.some.inj (Option.some.inj e)
        subst e
        exact ⟨_, List.getElem?_set_self (by rw [← R.len]; exact hi), hs0⟩
      · rw [List.getElem?_eq_none (by rw [List.length_set]; omega)] at e; cases e
    · rw [List.getElem?_set_ne hj] at e
      obtain ⟨u, a, b⟩ := R.slot j s e
      exact ⟨u, by rw [List.getElem?_set_ne hj]; exact a, b⟩
  uniq := fun j k s s' l' hjk e1 e2 o1 o2 z1 z2 => by
    have self : ∀ {s : SV} {l' : Addr}, (σ.set i (some (V.ref l)))[i]? = some (some (V.ref l')) → l' = l := fun {s l'} z => by
      by_cases hi : i < σ.length
      · rw [List.getElem?_set_self hi] at z
        cases z; rfl
      · rw [List.getElem?_eq_none (by rw [List.length_set]; omega)] at z; cases z
    by_cases hj : i = j
    · subst hj
      have e := self (s := s) z1
      subst e
      rw [List.getElem?_set_ne hjk] at e2 z2
      exact no k s' e2 o2 hjk z2
    · rw [List.getElem?_set_ne hj] at e1 z1
      by_cases hk : i = k
      · subst hk
        have e := self (s := s) z2
        subst e
        exact no j s e1 o1 hj z1
      · rw [List.getElem?_set_ne hk] at e2 z2
        exact R.uniq j k s s' l' hjk e1 e2 o1 o2 z1 z2
  same := R.same
  own := R.own
  mu := R.mu
  sub0 := R.sub0
  lo := R.lo
  pin := hpin
theorem RS.writeK (R : RS K B ρ σ H O) {i : Nat} {tt : Bool} {ds ds' : List (D × D)} {l : Addr} {o' : HO} (mo : isMut o' = true) (e : ρ[i]? = some (some (.oK tt ds))) (es : σ[i]? = some (some (.ref l))) (ha : DObj K (hid H O) tt o' ds') : RS K B (ρ.set i (some (.oK tt ds'))) σ (upd H l o') O := by
  obtain ⟨v, e1, l', vs, rfl, hO, h0, hl, _⟩ := R.slot i _ e
  rw [es] at e1
  cases e1
  have hid_eq := hid_write (H := H) (O := O) (l := l) o' hO
  have ne : ∀ a ∈ O, a ≠ l → upd H l o' a = H a := fun a _ h => upd_ne h
  have R1 : RS K B (ρ.set i none) σ (upd H l o') O := {
    len := by rw [List.length_set]; exact R.len
    slot := fun j s ej => by
      have hj : i ≠ j := fun hj => by
        subst hj
        by_cases hi : i < ρ.length
        · rw [List.getElem?_set_self hi] at ej; cases ej
        · rw [List.getElem?_eq_none (by rw [List.length_set]; omega)] at ej; cases ej
      rw [List.getElem?_set_ne hj] at ej
      obtain ⟨u, a, b⟩ := R.slot j s ej
      refine ⟨u, a, ?_⟩
      have nl : ∀ l2, u = .ref l2 → s.owned = true → l2 ≠ l := fun l2 eu ow z => by
        subst eu z
        exact R.uniq i j _ _ _ hj e ej rfl ow es a
      cases s with
      | ro d => show Dq K (hid _ O) u d; rw [hid_eq]; exact b
      | ow es' =>
        obtain ⟨l2, vs2, eu, b1, b2, b3, b4⟩ := b
        exact ⟨l2, vs2, eu, b1, b2, by rw [upd_ne (nl l2 eu rfl)]; exact b3, by rw [hid_eq]; exact b4⟩
      | oK tt kvs =>
        obtain ⟨l2, vs2, eu, b1, b2, b3, b4⟩ := b
        exact ⟨l2, vs2, eu, b1, b2, by rw [upd_ne (nl l2 eu rfl)]; exact b3, by rw [hid_eq]; exact b4⟩
      | lr es' =>
        obtain ⟨l2, vs2, eu, b3, b4⟩ := b
        exact ⟨l2, vs2, eu, by rw [hid_eq]; exact b3, by rw [hid_eq]; exact b4⟩
      | xc nm at_ =>
        obtain ⟨a9, d9, C9, u9, f1, f2, f3, f4, f5⟩ := b
        exact ⟨a9, d9, C9, u9, f1, by rw [hid_eq]; exact f2, f3, by rw [hid_eq]; exact f4, by rw [hid_eq]; exact f5⟩
    uniq := fun j k s s' l' hjk e1 e2 o1 o2 z1 z2 => by
      have cut : ∀ {j : Nat} {s : SV}, (ρ.set i none)[j]? = some (some s) → i ≠ j := fun {j s} ej hj => by
        subst hj
        by_cases hi : i < ρ.length
        · rw [List.getElem?_set_self hi] at ej; cases ej
        · rw [List.getElem?_eq_none (by rw [List.length_set]; omega)] at ej; cases ej
      have n1 := cut e1
      have n2 := cut e2
      rw [List.getElem?_set_ne n1] at e1
      rw [List.getElem?_set_ne n2] at e2
      exact R.uniq j k s s' l' hjk e1 e2 o1 o2 z1 z2
    same := fun a o hL h => by
      have : a ≠ l := fun z => by
        subst z
        rcases R.own a hO with q | q | q
        · exact h0 q
        · exact hL q
        · rw [q] at h; cases h
      rw [upd_ne this]; exact R.same a o hL h
    own := R.own
    mu := fun a ha => by
      by_cases z : a = l
      · subst z; exact ⟨_, upd_same, mo⟩
      · rw [upd_ne z]; exact R.mu a ha
    sub0 := R.sub0
    lo := R.lo
    pin := R.pin }
  have hsig : σ.set i (some (.ref l)) = σ := by
    apply List.ext_getElem?
    intro j
    by_cases hj : i = j
    · subst hj
      rw [List.getElem?_set_self (by
        have := (List.getElem?_eq_some_iff.mp es).1; exact this), es]
    · rw [List.getElem?_set_ne hj]
  have R2 := R1.setSV (i := i) (s0 := .oK tt ds') ⟨l, o', rfl, hO, h0, upd_same, by rw [hid_eq]; exact ha⟩ (fun j l' e => by rw [hsig]; exact R.pin j l' e) fun j s ej ow hj z => by
    rw [List.getElem?_set_ne hj] at ej
    exact R.uniq i j _ _ _ hj e ej rfl ow es z
  have hset : (ρ.set i none).set i (some (.oK tt ds')) = ρ.set i (some (.oK tt ds')) := List.set_set ..
  rw [hset, hsig] at R2
  exact R2
theorem RS.freezeK (R : RS K B ρ σ H O) {i : Nat} (hL : ∀ l, σ[i]? = some (some (V.ref l)) → l ∉ B.L) (hp : free B i = true) {tt : Bool} {ds : List (D × D)} (e : ρ[i]? = some (some (.oK tt ds))) : ∃ O', RS K B (ρ.set i (some (.ro (.dict (tails tt ds))))) σ H O' ∧ Same (hid H O) (hid H O') := by
  obtain ⟨v, e1, l, vs, rfl, hO, h0, hl, ha⟩ := R.slot i _ e
  have g : Same (hid H O) (hid H (O.filter fun a => decide (a ≠ l))) := hid_less fun a h => (List.mem_filter.mp h).1
  have inO : ∀ {a}, a ∈ O → a ≠ l → a ∈ O.filter fun a => decide (a ≠ l) := fun h n => List.mem_filter.mpr ⟨h, by simpa using n⟩
  refine ⟨O.filter fun a => decide (a ≠ l), ?_, g⟩
  have hsig : σ.set i (some (.ref l)) = σ := by
    apply List.ext_getElem?
    intro j
    by_cases hj : i = j
    · subst hj
      rw [List.getElem?_set_self (List.getElem?_eq_some_iff.mp e1).1, e1]
    · rw [List.getElem?_set_ne hj]
  have R1 : RS K B (ρ.set i none) σ H (O.filter fun a => decide (a ≠ l)) := {
    len := by rw [List.length_set]; exact R.len
    slot := fun j s ej => by
      have hj : i ≠ j := fun hj => by
        subst hj
        by_cases hi : i < ρ.length
        · rw [List.getElem?_set_self hi] at ej; cases ej
        · rw [List.getElem?_eq_none (by rw [List.length_set]; omega)] at ej; cases ej
      rw [List.getElem?_set_ne hj] at ej
      obtain ⟨u, a, b⟩ := R.slot j s ej
      refine ⟨u, a, ?_⟩
      have nl : ∀ l2, u = .ref l2 → s.owned = true → l2 ≠ l := fun l2 eu ow z => by
        subst eu z
        exact R.uniq i j _ _ _ hj e ej rfl ow e1 a
      cases s with
      | ro d => exact Dq.mono g _ _ b
      | ow es' =>
        obtain ⟨l2, vs2, eu, b1, b2, b3, b4⟩ := b
        exact ⟨l2, vs2, eu, inO b1 (nl l2 eu rfl), b2, b3, DqAll.mono g _ _ b4⟩
      | oK tt kvs =>
        obtain ⟨l2, vs2, eu, b1, b2, b3, b4⟩ := b
        exact ⟨l2, vs2, eu, inO b1 (nl l2 eu rfl), b2, b3, DObj.mono g b4⟩
      | lr es' =>
        obtain ⟨l2, vs2, eu, b3, b4⟩ := b
        exact ⟨l2, vs2, eu, g _ _ b3, DqAll.mono g _ _ b4⟩
      | xc nm at_ =>
        obtain ⟨a9, d9, C9, u9, f1, f2, f3, f4, f5⟩ := b
        exact ⟨a9, d9, C9, u9, f1, g _ _ f2, f3, g _ _ f4, Dq.mono g _ _ f5⟩
    uniq := fun j k s s' l' hjk e1 e2 o1 o2 z1 z2 => by
      have cut : ∀ {j : Nat} {s : SV}, (ρ.set i none)[j]? = some (some s) → i ≠ j := fun {j s} ej hj => by
        subst hj
        by_cases hi : i < ρ.length
        · rw [List.getElem?_set_self hi] at ej; cases ej
        · rw [List.getElem?_eq_none (by rw [List.length_set]; omega)] at ej; cases ej
      have n1 := cut e1
      have n2 := cut e2
      rw [List.getElem?_set_ne n1] at e1
      rw [List.getElem?_set_ne n2] at e2
      exact R.uniq j k s s' l' hjk e1 e2 o1 o2 z1 z2
    same := R.same
    own := fun a ha => R.own a (List.mem_filter.mp ha).1
    mu := fun a ha => R.mu a (List.mem_filter.mp ha).1
    sub0 := fun a ha => by
      obtain ⟨x, y, z⟩ := R.sub0 a ha
      exact ⟨inO x fun q => h0 (by rw [← q]; exact ha), y, z⟩
    lo := fun a ha => inO (R.lo a ha) fun q => hL l e1 (by rw [← q]; exact ha)
    pin := R.pin }
  have R2 := R1.setRo (i := i) hp (v := .ref l) (d := .dict (tails tt ds)) (dobj_dq (by rw [hid_out (by simp)]; exact hl) (DObj.mono g ha))
  rw [hsig, List.set_set] at R2
  exact R2
end
/-! ### keys that are read -/
def KyV (H : Hp) (v : V) : Ky → Prop
  | .inl k => v = kV k
  | .inr ks => ∃ b, v = .ref b ∧ H b = some (.tup (ks.map kV))
def DKy (K : PySem.W.Frag) (B : Bs) (t : TE) (f : En → Option Ky) : Prop := ∀ ρ σ H O k, RS K B ρ σ H O → f ρ = some k → ∀ Q : VK, (∀ v H', Same H H' → KyV H' v k → Q v H') → t σ H Q
structure XKy (X : Cx) (B : Bs) (e : Expr) (t : TE) (f : En → Option Ky) : Prop where
  pe : PE X e t
  de : DKy B.K B t f
def kyE (f : En → Option D) : En → Option Ky := fun ρ => (f ρ).bind fun d => (toK d).map .inl
def kyT (f : En → Option (List D)) : En → Option Ky := fun ρ => (f ρ).bind fun ds => if ds.length ≤ 1000000 then (toKs ds).map .inr else none
section
variable {K : PySem.W.Frag} {B : Bs} {te ty tx : TE} {ta : TA} {f g : En → Option D} {fk : En → Option Ky} {fl : En → Option (List D)}
theorem dq_key {G : Hp} {v : V} {d : D} {k : Key} (h : Dq K G v d) (e : toK d = some k) : v = kV k := by
  have e := kD_of e
  subst e
  cases k with
  | inl i => cases h; rfl
  | inr x => cases h; rfl
theorem dq_keys {G : Hp} : ∀ {vs : List V} {ds : List D} {ks : List Key}, DqAll K G vs ds → toKs ds = some ks → vs = ks.map kV
  | [], [], ks, .nil, e => by cases e; rfl
  | v :: vs, d :: ds, ks, .cons h t, e => by
    have e : (toK d).bind (fun k => (toKs ds).map (k :: ·)) = some ks := e
    obtain ⟨k, h1, h2⟩ := bind_some e
    obtain ⟨r, h3, h4⟩ := map_some h2
    subst h4
    rw [dq_key h h1, dq_keys t h3]; rfl
theorem dky_e (h : DE K B te f) : DKy K B te (kyE f) := fun ρ σ H O k R e Q q => by
  obtain ⟨d, h1, e⟩ := bind_some e
  obtain ⟨k', h2, e⟩ := map_some e
  subst e
  exact h ρ σ H O d R h1 _ fun v H1 s x => q v H1 s (dq_key x h2)
theorem dky_t (h : DA K B ta fl) : DKy K B (tTup ta) (kyT fl) := fun ρ σ H O k R e Q q => by
  obtain ⟨ds, h1, e⟩ := bind_some e
  split at e
  · rename_i c
    obtain ⟨ks, h2, e⟩ := map_some e
    subst e
    refine h ρ σ H O ds R h1 _ fun vs H1 s x => ⟨line (by rw [x.length]; exact c), fun p hp => ?_⟩
    refine q _ _ (s.trans (same_new _ hp)) ⟨p, rfl, ?_⟩
    rw [upd_same, dq_keys x h2]
  · cases e
theorem bo_dget {H : Hp} {O : List Addr} {x y : V} {d : D} {k : Ky} {r : Option D} (h : Bo K H O x d) (hk : KyV H y k) (e : dLook d k = some r) : ∃ a o, x = .ref a ∧ DGet H a y o ∧ ValR K (hid H O) o r := by
  have key : ∀ {a : Addr} {ds : List (D × D)}, ((∃ vs, H a = some (.dK vs) ∧ DqKv K (hid H O) vs ds) ∨ ∃ vs, H a = some (.dT vs) ∧ DqTv K (hid H O) vs ds) → dLook (.dict ds) k = some r → ∃ o, DGet H a y o ∧ ValR K (hid H O) o r := fun {a ds} hd e => by
    have e : (if isT ds = kindK k ∧ isI ds = false then some (look k ds) else none) = some r := e
    split at e
    · rename_i c
      have c := c.1
      have e := Option.some.inj e
      subst e
      rcases hd with ⟨vs, h1, h2⟩ | ⟨vs, h1, h2⟩
      · cases k with
        | inr ks => rw [kv_isT h2] at c; cases c
        | inl k =>
          have hk : y = kV k := hk
          subst hk
          exact ⟨_, DGet.k h1, kv_look k h2⟩
      · cases k with
        | inl k => rw [tv_isT h2] at c; cases c
        | inr ks =>
          obtain ⟨b, rfl, hb⟩ := hk
          exact ⟨_, DGet.t h1 hb, tv_look ks h2⟩
    · cases e
  rcases h with h | ⟨l, vs, ds, rfl, rfl, _, _, _⟩ | ⟨l, o, tt, ds, rfl, rfl, m, h, a⟩
  · cases h with
    | dic h1 h2 =>
      obtain ⟨o, g1, g2⟩ := key (.inl ⟨_, (of_hid h1).2, h2⟩) e
      exact ⟨_, o, rfl, g1, g2⟩
    | dct h1 h2 =>
      obtain ⟨o, g1, g2⟩ := key (.inr ⟨_, (of_hid h1).2, h2⟩) e
      exact ⟨_, o, rfl, g1, g2⟩
    | ins _ _ _ =>
      unfold dLook at e
      dsimp only at e
      rw [if_neg (by intro z; cases z.2)] at e
      cases e
    | non => cases e
    | bl _ => cases e
    | int _ => cases e
    | str _ => cases e
    | lst _ _ => cases e
    | tup _ _ => cases e
  · cases e
  · rcases a with ⟨rfl, vs, rfl, c⟩ | ⟨rfl, vs, rfl, c⟩
    · obtain ⟨o, g1, g2⟩ := key (.inl ⟨_, h, c⟩) e
      exact ⟨_, o, rfl, g1, g2⟩
    · obtain ⟨o, g1, g2⟩ := key (.inr ⟨_, h, c⟩) e
      exact ⟨_, o, rfl, g1, g2⟩
theorem bo_isd {H : Hp} {O : List Addr} {x : V} {ds : List (D × D)} (hi : isI ds = false) (h : Bo K H O x (.dict ds)) : ∃ a, x = .ref a ∧ IsD H a := by
  rcases h with h | ⟨l, vs, ds, rfl, e, _, _, _⟩ | ⟨l, o, tt, ds, rfl, e, m, h, a⟩
  · cases h with
    | dic h1 h2 => exact ⟨_, rfl, .inl ⟨_, .inl (of_hid h1).2⟩⟩
    | dct h1 h2 => exact ⟨_, rfl, .inr ⟨_, .inl (of_hid h1).2⟩⟩
    | ins _ _ _ => cases hi
  · cases e
  · rcases a with ⟨rfl, vs, rfl, c⟩ | ⟨rfl, vs, rfl, c⟩
    · exact ⟨_, rfl, .inl ⟨_, .inl h⟩⟩
    · exact ⟨_, rfl, .inr ⟨_, .inl h⟩⟩
def eDGet (f : En → Option D) (fk : En → Option Ky) : En → Option D := fun ρ => (f ρ).bind fun d => (fk ρ).bind fun k => (dLook d k).bind fun r => r
def eDIn (neg : Bool) (fk : En → Option Ky) (f : En → Option D) : En → Option D := fun ρ => (f ρ).bind fun d => (fk ρ).bind fun k => (dLook d k).map fun r => .bool (r.isSome != neg)
def eDGet1 (f : En → Option D) (fk : En → Option Ky) : En → Option D := fun ρ => (f ρ).bind fun d => (fk ρ).bind fun k => (dLook d k).map fun r => r.getD .none
def eDGet2 (f : En → Option D) (fk : En → Option Ky) (g : En → Option D) : En → Option D := fun ρ => (f ρ).bind fun d => (fk ρ).bind fun k => (g ρ).bind fun z => (dLook d k).map fun r => r.getD z
theorem KyV.grow {H H' : Hp} (s : Same H H') {v : V} : ∀ {k : Ky}, KyV H v k → KyV H' v k
  | .inl _, h => h
  | .inr _, ⟨b, e, h⟩ => ⟨b, e, s _ _ h⟩
theorem de_dget (h : DB K B te f) (hk : DKy K B ty fk) : DE K B (tDGet te ty) (eDGet f fk) := fun ρ σ H O z R e Q q => by
  obtain ⟨d, h1, e⟩ := bind_some e
  obtain ⟨k, h2, e⟩ := bind_some e
  obtain ⟨r, h3, e⟩ := bind_some e
  subst e
  refine h ρ σ H O d R h1 _ fun x H1 s1 b1 => hk ρ σ H1 O k (R.grow s1) h2 _ fun y H2 s2 b2 => ?_
  obtain ⟨a, o, rfl, g, v⟩ := bo_dget (b1.grow (R.grow s1) s2) b2 h3
  rcases v with ⟨_, v⟩ | ⟨v, d', rfl, e, v3⟩
  · cases v
  · cases e
    exact ⟨a, v, rfl, g, q v H2 (s1.trans s2) v3⟩
theorem isD_of {d : D} {k : Ky} {r : Option D} (e : dLook d k = some r) : ∃ ds, d = .dict ds ∧ isI ds = false := by
  unfold dLook at e
  split at e
  · split at e
    · rename_i c
      exact ⟨_, rfl, c.2⟩
    · cases e
  · cases e
theorem IsD.grow {H H' : Hp} {a : Addr} (s : Same H H') (h : IsD H a) : IsD H' a := by
  rcases h with ⟨k, h⟩ | ⟨k, h⟩
  · exact .inl ⟨k, Rd.mono s h⟩
  · exact .inr ⟨k, Rd.mono s h⟩
theorem de_din (h : DB K B te f) (hk : DKy K B ty fk) : DE K B (tDIn ty te) (eDIn false fk f) := fun ρ σ H O z R e Q q => by
  obtain ⟨d, h1, e⟩ := bind_some e
  obtain ⟨k, h2, e⟩ := bind_some e
  obtain ⟨r, h3, e⟩ := map_some e
  subst e
  refine hk ρ σ H O k R h2 _ fun y H1 s1 b1 => h ρ σ H1 O d (R.grow s1) h1 _ fun x H2 s2 b2 => ?_
  obtain ⟨a, o, rfl, g, v⟩ := bo_dget b2 (b1.grow s2) h3
  have eo : o.isSome = r.isSome := by
    rcases v with ⟨v, v'⟩ | ⟨v, d', v', e, v3⟩
    · rw [v, v']; rfl
    · rw [v', e]; rfl
  exact ⟨a, o, rfl, g, q _ H2 (s1.trans s2) (by rw [eo, Bool.bne_false]; exact .bl _)⟩
theorem de_dnotin (h : DB K B te f) (hk : DKy K B ty fk) : DE K B (tDNotIn ty te) (eDIn true fk f) := fun ρ σ H O z R e Q q => by
  obtain ⟨d, h1, e⟩ := bind_some e
  obtain ⟨k, h2, e⟩ := bind_some e
  obtain ⟨r, h3, e⟩ := map_some e
  subst e
  refine hk ρ σ H O k R h2 _ fun y H1 s1 b1 => h ρ σ H1 O d (R.grow s1) h1 _ fun x H2 s2 b2 => ?_
  obtain ⟨a, o, rfl, g, v⟩ := bo_dget b2 (b1.grow s2) h3
  have eo : o.isSome = r.isSome := by
    rcases v with ⟨v, v'⟩ | ⟨v, d', v', e, v3⟩
    · rw [v, v']; rfl
    · rw [v', e]; rfl
  exact ⟨a, o, rfl, g, q _ H2 (s1.trans s2) (by rw [eo, Bool.bne_true]; exact .bl _)⟩
theorem de_dget1 (h : DB K B te f) (hk : DKy K B ty fk) : DE K B (tDGet1 te ty) (eDGet1 f fk) := fun ρ σ H O z R e Q q => by
  obtain ⟨d, h1, e⟩ := bind_some e
  obtain ⟨k, h2, e⟩ := bind_some e
  obtain ⟨r, h3, e⟩ := map_some e
  subst e
  refine h ρ σ H O d R h1 _ fun x H1 s1 b1 => ?_
  obtain ⟨ds, rfl, hni⟩ := isD_of h3
  obtain ⟨a, rfl, hd⟩ := bo_isd hni b1
  refine ⟨a, rfl, hd, hk ρ σ H1 O k (R.grow s1) h2 _ fun y H2 s2 b2 => ?_⟩
  obtain ⟨a', o, ea, g, v⟩ := bo_dget (b1.grow (R.grow s1) s2) b2 h3
  cases ea
  refine ⟨o, g, ?_⟩
  rcases v with ⟨v, v'⟩ | ⟨v, d', v', e, v3⟩
  · subst v v'; exact q _ H2 (s1.trans s2) .non
  · subst v' e; exact q _ H2 (s1.trans s2) v3
theorem de_dget2 (h : DB K B te f) (hk : DKy K B ty fk) (hz : DE K B tx g) : DE K B (tDGet2 te ty tx) (eDGet2 f fk g) := fun ρ σ H O z R e Q q => by
  obtain ⟨d, h1, e⟩ := bind_some e
  obtain ⟨k, h2, e⟩ := bind_some e
  obtain ⟨w, h4, e⟩ := bind_some e
  obtain ⟨r, h3, e⟩ := map_some e
  subst e
  refine h ρ σ H O d R h1 _ fun x H1 s1 b1 => ?_
  obtain ⟨ds, rfl, hni⟩ := isD_of h3
  obtain ⟨a, rfl, hd⟩ := bo_isd hni b1
  refine ⟨a, rfl, hd, hk ρ σ H1 O k (R.grow s1) h2 _ fun y H2 s2 b2 => hz ρ σ H2 O w ((R.grow s1).grow s2) h4 _ fun u H3 s3 b3 => ?_⟩
  obtain ⟨a', o, ea, g, v⟩ := bo_dget ((b1.grow (R.grow s1) s2).grow ((R.grow s1).grow s2) s3) (b2.grow s3) h3
  cases ea
  refine ⟨o, g, ?_⟩
  rcases v with ⟨v, v'⟩ | ⟨v, d', v', e, v3⟩
  · subst v v'; exact q _ H3 (s1.trans (s2.trans s3)) b3
  · subst v' e; exact q _ H3 (s1.trans (s2.trans s3)) v3
/-! statements -/
def sDNew (i : Nat) (tt : Bool) : En → Option Out := fun ρ => some (.nx (ρ.set i (some (.oK tt []))))
def sDPutD (i : Nat) (fk : En → Option Ky) (f : En → Option D) : En → Option Out := fun ρ => match ρ[i]? with
  | some (some (.oK tt ds)) => (f ρ).bind fun d => (fk ρ).bind fun k => if ds.length < 1000000 ∧ tt = kindK k then some (.nx (ρ.set i (some (.oK tt (putD k d ds))))) else none
  | _ => none
def sFzK (i : Nat) (F : En → Option Out) : En → Option Out := fun ρ => match ρ[i]? with
  | some (some (.oK tt ds)) => F (ρ.set i (some (.ro (.dict (tails tt ds)))))
  | _ => F ρ
theorem ds_dnew {i : Nat} {tt : Bool} (hp : free B i = true) : DS K B (tAsg (if tt = true then tDNewT else tDNewK) (gName i)) (sDNew i tt) := fun ρ σ H O o R e D q => by
  have e : Out.nx (ρ.set i (some (.oK tt []))) = o := Option.some.inj e
  subst e
  have key : ∀ (l : Addr) (ob : HO), H l = none → isMut ob = true → (∀ G, DObj K G tt ob []) → D.nx (σ.set i (some (.ref l))) (upd H l ob) := fun l ob hl mo hd => by
    obtain ⟨R1, g⟩ := R.own1 (same_new ob hl) hl (upd_same (H := H) (a := l) (o := ob)) mo
    have h0 : l ∉ B.O0 := fun z => R.fresh hl (R.sub0 l z).1
    refine q _ _ (l :: O) (R1.setSV ⟨l, ob, rfl, List.mem_cons_self, h0, upd_same, hd _⟩ (pin_set R1 hp) fun j s' ej ow hj z => ?_) g
    obtain ⟨u, a, b⟩ := R.slot j s' ej
    rw [a] at z
    cases z
    cases s' with
    | ro d => cases ow
    | ow es => obtain ⟨l2, vs2, eu, b1, _⟩ := b; cases eu; exact R.fresh hl b1
    | oK tt es => obtain ⟨l2, vs2, eu, b1, _⟩ := b; cases eu; exact R.fresh hl b1
    | lr d => cases ow
    | xc _ _ => cases ow
  cases tt with
  | false => exact fun p hp' => key p _ hp' rfl fun G => .inl ⟨rfl, [], rfl, .nil⟩
  | true => exact fun p hp' => key p _ hp' rfl fun G => .inr ⟨rfl, [], rfl, .nil⟩
theorem ds_dput {i : Nat} (h : DE K B te f) (hk : DKy K B ty fk) : DS K B (L2.sDPut (tVar i) ty te) (sDPutD i fk f) := fun ρ σ H O o R e D q => by
  unfold sDPutD at e
  split at e
  · rename_i tt ds hs
    obtain ⟨d, h1, e⟩ := bind_some e
    obtain ⟨k, h2, e⟩ := bind_some e
    split at e
    · rename_i c
      have e := Option.some.inj e
      subst e
      refine h ρ σ H O d R h1 _ fun v H1 s1 x => ?_
      have R1 := R.grow s1
      obtain ⟨v0, a0, l, ob, rfl, b1, b2, b3, b4⟩ := R1.slot _ _ hs
      refine ⟨_, a0, hk ρ σ H1 O k R1 h2 _ fun y H2 s2 ky => ?_⟩
      have R2 := R1.grow s2
      have b3' := s2 _ _ b3
      have b4' := DObj.mono (hid_grow (O := O) s2) b4
      have x' := Dq.mono (hid_grow (O := O) s2) _ _ x
      have hg : Same (hid H O) (hid H2 O) := hid_grow (s1.trans s2)
      rcases b4' with ⟨et, vs, rfl, c4⟩ | ⟨et, vs, rfl, c4⟩
      · rw [et] at c hs q
        cases k with
        | inr ks => cases c.2
        | inl k =>
          have ky : y = kV k := ky
          subst ky
          refine ⟨l, _, rfl, DPut.k b3' (lineL (by rw [kv_len c4]; exact c.1)), ?_⟩
          refine q σ _ O (R2.writeK (ds' := putD (.inl k) d ds) rfl hs a0 (.inl ⟨rfl, _, rfl, kv_put x' c4⟩)) ?_
          rw [hid_write _ b1]
          exact hg
      · rw [et] at c hs q
        cases k with
        | inl k => cases c.2
        | inr ks =>
          obtain ⟨b, rfl, hb⟩ := ky
          have hl := tv_len c4
          rw [List.length_append, List.length_singleton] at hl
          refine ⟨l, _, rfl, DPut.t b3' hb (lineL (by have := c.1; omega)), ?_⟩
          refine q σ _ O (R2.writeK (ds' := putD (.inr ks) d ds) rfl hs a0 (.inr ⟨rfl, _, rfl, tv_put x' c4⟩)) ?_
          rw [hid_write _ b1]
          exact hg
    · cases e
  · cases e
theorem ds_fzK {i : Nat} {t : TS} {F : En → Option Out} (hL : B.L = []) (hp : free B i = true) (h : DS K B t F) : DS K B t (sFzK i F) := fun ρ σ H O o R e D q => by
  unfold sFzK at e
  split at e
  · rename_i tt ds hs
    obtain ⟨O', R', g⟩ := R.freezeK (fun l _ => by rw [hL]; simp) hp hs
    exact h _ σ H O' o R' e D (q.step g)
  · exact h ρ σ H O o R e D q
end
section
variable {X : Cx} {B : Bs} {e e2 ed ex : Expr} {te ty tx : TE} {ta : TA} {f g : En → Option D} {fk : En → Option Ky} {fl : En → Option (List D)} {pos apos cpos : Pos} {es : List Expr} {x1 : Nat}
theorem ky_e (h : XE X B e te f) : XKy X B e te (kyE f) := ⟨h.pe, dky_e h.de⟩
theorem ky_t (h : XA X B es ta fl) : XKy X B (.Tuple es x1 pos) (tTup ta) (kyT fl) := ⟨pe_tup h.pe, dky_t h.de⟩
theorem x_dget (hu : X.A.units + 1 < cLine) (h : XB X B ed te f) (hk : XKy X B e ty fk) (hs : NoSl e := by intro _ _; rfl) : XE X B (.Subscript ed e pos) (tDGet te ty) (eDGet f fk) := ⟨pe_dget hu h.pe hk.pe hs, de_dget h.de hk.de⟩
theorem x_din (hu : X.A.units + 1 < cLine) (hk : XKy X B e ty fk) (h : XB X B ed te f) (h1 : behindInMarks .In ed = false := by with_unfolding_all rfl) : XE X B (.Compare e [.In] [ed] pos) (tDIn ty te) (eDIn false fk f) := ⟨pe_cmp (pc_din hu hk.pe h.pe) h1, de_din h.de hk.de⟩
theorem x_dnotin (hu : X.A.units + 1 < cLine) (hk : XKy X B e ty fk) (h : XB X B ed te f) (h1 : behindInMarks .NotIn ed = false := by with_unfolding_all rfl) : XE X B (.Compare e [.NotIn] [ed] pos) (tDNotIn ty te) (eDIn true fk f) := ⟨pe_cmp (pc_dnotin hu hk.pe h.pe) h1, de_dnotin h.de hk.de⟩
theorem t_din (hu : X.A.units + 1 < cLine) (hk : XKy X B e ty fk) (h : XB X B ed te f) (h1 : behindInMarks .In ed = false := by with_unfolding_all rfl) : XT X B (.Compare e [.In] [ed] pos) (tB (tDIn ty te)) (asB (eDIn false fk f)) := ⟨pt_cmp (pc_din hu hk.pe h.pe) h1, dt_tB (de_din h.de hk.de)⟩
theorem t_dnotin (hu : X.A.units + 1 < cLine) (hk : XKy X B e ty fk) (h : XB X B ed te f) (h1 : behindInMarks .NotIn ed = false := by with_unfolding_all rfl) : XT X B (.Compare e [.NotIn] [ed] pos) (tB (tDNotIn ty te)) (asB (eDIn true fk f)) := ⟨pt_cmp (pc_dnotin hu hk.pe h.pe) h1, dt_tB (de_dnotin h.de hk.de)⟩
theorem x_dget1 (hu : X.A.units + 1 < cLine) (h : XB X B ed te f) (hk : XKy X B e ty fk) (m : M1 X ed "get" apos e cpos := by exact ⟨rfl, rfl, rfl, rfl⟩) : XE X B (.Call (.Attribute ed "get" apos) [e] [] cpos) (tDGet1 te ty) (eDGet1 f fk) := ⟨pe_dget1 hu h.pe hk.pe m, de_dget1 h.de hk.de⟩
theorem x_dget2 (hu : X.A.units + 1 < cLine) (h : XB X B ed te f) (hk : XKy X B e ty fk) (hz : XE X B e2 tx g) (m : M2 X ed "get" apos e e2 cpos := by exact ⟨rfl, rfl, rfl, rfl⟩) : XE X B (.Call (.Attribute ed "get" apos) [e, e2] [] cpos) (tDGet2 te ty tx) (eDGet2 f fk g) := ⟨pe_dget2 hu h.pe hk.pe hz.pe m, de_dget2 h.de hk.de hz.de⟩
theorem s_dnewK {i : Nat} {x : Str} {pos' pos2 : Pos} (hN : X.N.Nodup) (hi : X.N[i]? = some x) (hx : Loc X.env.scope x) (hs : swapsWith (.Dict [] [] pos2) (some (.Name x pos')) pos.line X.env = pure false := by rfl) (hf : X.fn x = true ∨ X.env.scope.names.lookup x = some .local := by first | exact .inl rfl | exact .inr rfl | assumption) (hp : free B i = true := by rfl) :
    XS X B (.Assign [.Name x pos'] (.Dict [] [] pos2) pos) (tAsg tDNewK (gName i)) (sDNew i false) := ⟨ps_set hN hi hx pe_dnewK hs hf, ds_dnew (tt := false) hp⟩
theorem s_dnewT {i : Nat} {x : Str} {pos' pos2 : Pos} (hN : X.N.Nodup) (hi : X.N[i]? = some x) (hx : Loc X.env.scope x) (hs : swapsWith (.Dict [] [] pos2) (some (.Name x pos')) pos.line X.env = pure false := by rfl) (hf : X.fn x = true ∨ X.env.scope.names.lookup x = some .local := by first | exact .inl rfl | exact .inr rfl | assumption) (hp : free B i = true := by rfl) :
    XS X B (.Assign [.Name x pos'] (.Dict [] [] pos2) pos) (tAsg tDNewT (gName i)) (sDNew i true) := ⟨ps_set hN hi hx pe_dnewT hs hf, ds_dnew (tt := true) hp⟩
theorem s_dput (i : Nat) (hu : X.A.units + 1 < cLine) {on : Expr} {pos' : Pos} (ho : PE X on (tVar i)) (hk : XKy X B e ty fk) (h : XE X B ex te f) (hs : swapsWith ex (some (.Subscript on e pos')) pos.line X.env = pure false := by rfl) :
    XS X B (.Assign [.Subscript on e pos'] ex pos) (L2.sDPut (tVar i) ty te) (sDPutD i fk f) := ⟨ps_dput hu ho hk.pe h.pe hs, ds_dput h.de hk.de⟩
theorem ss_fzK (i : Nat) {rest : List Stmt} {t : TS} {F : En → Option Out} (h : XSs X B rest t F) (hp : free B i = true := by rfl) (hL : B.L = [] := by rfl) : XSs X B rest t (sFzK i F) := ⟨h.pe, ds_fzK hL hp h.de⟩
end
end Z
namespace Z
open PySem PySem.Spec PyProof.Rows L2
/-! ### displays, {} as a value, copies -/
section
variable {K : PySem.W.Frag} {B : Bs}
theorem de_dempty : DE K B tDNewK (eC (.dict [])) := fun ρ σ H O d R e Q q p hp => by
  have e : PyData.dict [] = d := Option.some.inj e
  subst e
  refine q _ _ (same_new _ hp) (.dic (kvs := []) ?_ .nil)
  rw [hid_out (R.fresh hp), upd_same]
end
theorem x_dempty {X : Cx} {B : Bs} {pos : Pos} : XE X B (.Dict [] [] pos) tDNewK (eC (.dict [])) := ⟨pe_dnewK, de_dempty⟩
/-- the pairs of a display -/
def DPs (K : PySem.W.Frag) (B : Bs) (trs : List (TE × TE)) (f : En → Option (List (D × D))) : Prop := ∀ ρ σ H O ds, RS K B ρ σ H O → f ρ = some ds →
  ∀ Q : List (V × V) → Hp → Prop, (∀ kvs H', Same H H' → DqKv K (hid H' O) kvs ds → Q (kvs.map fun kv => (kV kv.1, kv.2)) H') → tPairs trs σ H Q
structure XPs (X : Cx) (B : Bs) (pos : Pos) (keys : List (Option Expr)) (values : List Expr) (trs : List (TE × TE)) (f : En → Option (List (D × D))) : Prop where
  pe : PPs X pos keys values trs
  de : DPs B.K B trs f
def pNil : En → Option (List (D × D)) := fun _ => some []
def pCons (f g : En → Option D) (h : En → Option (List (D × D))) : En → Option (List (D × D)) := fun ρ => (f ρ).bind fun k => (g ρ).bind fun v => (h ρ).bind fun r => if (toK k).isSome = true then some ((k, v) :: r) else none
def nodupK : List (D × D) → Bool
  | [] => true
  | p :: r => (r.all fun q => decide (toKy q.1 ≠ toKy p.1)) && nodupK r
def eDisp (h : En → Option (List (D × D))) : En → Option D := fun ρ => (h ρ).bind fun r => if r.length ≤ 15 ∧ nodupK r = true then some (.dict r) else none
section
variable {K : PySem.W.Frag} {B : Bs} {tk tv : TE} {trs : List (TE × TE)} {f g : En → Option D} {h h' : En → Option (List (D × D))}
theorem dps_nil : DPs K B [] pNil := fun ρ σ H O ds R e Q q => by
  have e : [] = ds := Option.some.inj e
  subst e
  exact q [] H (Same.refl H) .nil
theorem dps_cons (hk : DE K B tk f) (hv : DE K B tv g) (hr : DPs K B trs h) : DPs K B ((tk, tv) :: trs) (pCons f g h) := fun ρ σ H O ds R e Q q => by
  obtain ⟨k, h1, e⟩ := bind_some e
  obtain ⟨v, h2, e⟩ := bind_some e
  obtain ⟨r, h3, e⟩ := bind_some e
  split at e
  · rename_i c
    have e := Option.some.inj e
    subst e
    refine hk ρ σ H O k R h1 _ fun x H1 s1 a1 => hv ρ σ H1 O v (R.grow s1) h2 _ fun y H2 s2 a2 => hr ρ σ H2 O r ((R.grow s1).grow s2) h3 _ fun kvs H3 s3 a3 => ?_
    obtain ⟨k', hk'⟩ := Option.isSome_iff_exists.mp c
    have ex := dq_key a1 hk'
    have ed := kD_of hk'
    subst ex ed
    exact q ((k', y) :: kvs) H3 (s1.trans (s2.trans s3)) (.cons (Dq.mono (hid_grow s3) _ _ a2) a3)
  · cases e
theorem kv_all {G : Hp} {k : Key} : ∀ {vs : List (Key × V)} {ds : List (D × D)}, DqKv K G vs ds → (ds.all fun q => decide (toKy q.1 ≠ toKy (kD k))) = true → ∀ p ∈ vs, p.1 ≠ k
  | _, _, .nil, _, p, hp => by cases hp
  | (k', v') :: vs, _, .cons (d := d') (ds := ds) a t, e, p, hp => by
    rw [List.all_cons, Bool.and_eq_true] at e
    rcases List.mem_cons.mp hp with h | hp
    · subst h
      have := of_decide_eq_true e.1
      intro z
      exact this (by show toKy (kD k') = _; rw [show k' = k from z])
    · exact kv_all t e.2 p hp
theorem valV_no {k : Key} : ∀ {acc : List (Key × V)}, (∀ p ∈ acc, p.1 ≠ k) → valV acc k = none
  | [], _ => rfl
  | p :: acc, h => by rw [valV_neg (h p List.mem_cons_self)]; exact valV_no fun q hq => h q (List.mem_cons_of_mem _ hq)
theorem merge_new {G : Hp} : ∀ {vs : List (Key × V)} {ds : List (D × D)} (acc : List (Key × V)), DqKv K G vs ds → nodupK ds = true → (∀ p ∈ acc, ∀ q ∈ vs, q.1 ≠ p.1) → mergeK acc vs = acc ++ vs
  | _, _, acc, .nil, _, _ => by rw [List.append_nil]; rfl
  | (k, v) :: vs, _, acc, .cons (d := d) (ds := ds) a t, e, h => by
    have e : ((ds.all fun q => decide (toKy q.1 ≠ toKy (kD k))) && nodupK ds) = true := e
    rw [Bool.and_eq_true] at e
    have hk := kv_all t e.1
    show mergeK (putK acc k v) vs = _
    rw [putK_new v (valV_no fun p hp z => h p hp (k, v) List.mem_cons_self z.symm)]
    rw [merge_new (acc ++ [(k, v)]) t e.2 fun p hp q hq => ?_]
    · rw [List.append_assoc]; rfl
    · rcases List.mem_append.mp hp with hp | hp
      · exact h p hp q (List.mem_cons_of_mem _ hq)
      · rcases List.mem_singleton.mp hp with rfl
        exact hk q hq
theorem de_disp (h : DPs K B trs h') : DE K B (tDisp trs) (eDisp h') := fun ρ σ H O d R e Q q p hp => by
  obtain ⟨r, h1, e⟩ := bind_some e
  split at e
  · rename_i c
    have e := Option.some.inj e
    subst e
    obtain ⟨R1, g⟩ := R.own1 (same_new (.dK []) hp) hp (upd_same (H := H) (a := p) (o := .dK [])) rfl
    refine h ρ σ _ (p :: O) r R1 h1 _ fun kvs H2 s2 a2 => ⟨s2 _ _ upd_same, kvs, rfl, by rw [kv_len a2]; exact c.1, ?_⟩
    have hm : mergeK [] kvs = kvs := merge_new [] a2 c.2 fun p hp => by cases hp
    rw [hm]
    refine q _ _ (fun a o ha => ?_) (.dic (kvs := kvs) ?_ (DqKv.mono (fun a o ha => ?_) _ _ a2))
    · have ne : a ≠ p := ne_of_none ha hp
      rw [upd_ne ne]
      exact s2 _ _ (by rw [upd_ne ne]; exact ha)
    · rw [hid_out (R.fresh hp), upd_same]
    · obtain ⟨x, y⟩ := of_hid ha
      rw [List.mem_cons, not_or] at x
      rw [hid_out x.2, upd_ne x.1]; exact y
  · cases e
end
section
variable {X : Cx} {B : Bs} {pos : Pos} {ek ev : Expr} {tk tv : TE} {f g : En → Option D} {keys : List (Option Expr)} {values : List Expr} {trs : List (TE × TE)} {h : En → Option (List (D × D))}
theorem p_nil : XPs X B pos [] [] [] pNil := ⟨pps_nil, dps_nil⟩
theorem p_cons (hk : XE X B ek tk f) (hv : XE X B ev tv g) (hr : XPs X B pos keys values trs h) : XPs X B pos (some ek :: keys) (ev :: values) ((tk, tv) :: trs) (pCons f g h) := ⟨pps_cons hk.pe hv.pe hr.pe, dps_cons hk.de hv.de hr.de⟩
theorem x_disp (hr : XPs X B pos keys values trs h) (hall : keys.all (·.isSome) = true := by rfl) (hl : keys.length = values.length := by rfl) (h0 : keys ≠ [] := by exact List.cons_ne_nil _ _) (h15 : keys.length ≤ 15 := by decide) : XE X B (.Dict keys values pos) (tDisp trs) (eDisp h) := ⟨pe_disp hr.pe hall hl h0 h15, de_disp hr.de⟩
end
end Z

set_option Elab.async false
set_option maxRecDepth 100000
set_option maxHeartbeats 4000000
set_option linter.all false
/-! ZH: str.replace of written texts: behind a written text a token is out -/
namespace Z
open PySem PySem.Spec PyProof.Rows L2

/-! ### what is run once a token is out -/
abbrev Tk1 (s : Shared) : Prop := 1 ≤ s.toks
def PET1 (X : Cx) (e : Expr) (t : TE) : Prop := ∀ (pins : List (Addr × Obj)) (s : Shared) (σ : L2.St) (H : Hp) (Q : VK), Inv X pins σ H s → t σ H Q → wpAny (model X.prog X.w) X.A (eval e X.env) (fun v s' => Tk1 s' ∧ EP X pins σ Q v s') X.xe s
def PST1 (X : Cx) (st : Stmt) (t : TS) : Prop := ∀ (pins : List (Addr × Obj)) (s : Shared) (σ : L2.St) (H : Hp) (D : Ends), Inv X pins σ H s → t D σ H → wpAny (model X.prog X.w) X.A (exec st X.env) (fun f s' => Tk1 s' ∧ SP X pins D f s') X.xe s
def PTT (X : Cx) (e : Expr) (t : TT) : Prop := ∀ (pins : List (Addr × Obj)) (s : Shared) (σ : L2.St) (H : Hp) (Q : Bool → Hp → Prop), Tk1 s → Inv X pins σ H s → t σ H Q → wpAny (model X.prog X.w) X.A (isTrue e X.env (eval e X.env)) (TP X pins σ Q) X.xe s
/-- tokens never get fewer -/
theorem thnT {α : Type} {t : Sem α} {Q Q' : α → Shared → Prop} {M : Model} {A : Around} {E : Value → Shared → Prop} {s : Shared} (h0 : Tk1 s) (h : wpAny M A t Q E s) (hQ : ∀ a s', Tk1 s' → Q a s' → Q' a s') : wpAny M A t Q' E s :=
  wpAny_mono (PySem.wpAny_toks h) (fun a s' q => hQ a s' (Nat.le_trans h0 q.1) q.2) fun _ _ x => x.2
section
variable {X : Cx} {o e a b : Expr} {to te ta tb : TE} {st : Stmt} {rest body : List Stmt} {t u : TS} {pos apos p : Pos}
theorem pss_tok (h1 : PST1 X st t) (h2 : PSsT X rest u) : PSs X (st :: rest) (tSeq t u) := by
  constructor
  intro pins s σ H D I h
  refine wpAny_execs_cons (thn (h1 pins s σ H { D with nx := u D } I h) fun f s1 q => ?_)
  cases f with
  | next =>
    obtain ⟨k, σ', H', I', q⟩ := q
    exact h2 pins s1 σ' H' D k I' q
  | ret v => exact q.2
  | brk => exact q.2
  | cont => exact q.2
theorem pst1_set {i : Nat} {x : Str} {pos' : Pos} (hN : X.N.Nodup) (hi : X.N[i]? = some x) (hx : Loc X.env.scope x) (he : PET1 X e te) (hs : swapsWith e (some (.Name x pos')) pos.line X.env = pure false := by rfl) (hf : X.fn x = true ∨ X.env.scope.names.lookup x = some .local := by first | exact .inl rfl | exact .inr rfl | assumption) :
    PST1 X (.Assign [.Name x pos'] e pos) (tAsg te (gName i)) := by
  intro pins s σ H D I h
  refine wpAny_Assign_Name (thn (he pins s σ H _ I h) fun v s1 q => ?_) hs
  obtain ⟨k, y, H1, I1, r1, q1⟩ := q
  exact thnT k (store_ok (Q := fun _ s2 => SP X pins D .next s2) I1 hN hi hx r1 (fun s2 I2 => ⟨_, H1, I2, q1⟩) hf) fun _ _ k2 q2 => ⟨k2, q2⟩
/-- a text's method of one written text -/
theorem pet1_m1 {id : String} {name : Str} {c : Str} {j : Nat} {r : V → List V → Hp → VK → Prop} (slot : Slot "str" name id) (ty : typeOf (.builtin id) = pure (.type "method_descriptor")) (rule : MtR X id r) (ho : PE X o to)
    (hs : starEach [.Constant (.str c) j p] X.env = [(false, eval (.Constant (.str c) j p) X.env)] := by rfl) (hbase : attributeBase o name X.env (eval o X.env) = eval o X.env := by rfl) (hline : (apos.endLine == pos.line) = true := by rfl) :
    PET1 X (.Call (.Attribute o name apos) [.Constant (.str c) j p] [] pos) (tM1 r to (tC (.str c))) := by
  intro pins s σ H Q I h
  refine PySem.Call_method1 hbase hs hline (thn (ho.run pins s σ H _ I h) fun v s1 q => ?_)
  obtain ⟨x, H1, I1, r1, ⟨w, ew⟩, q1⟩ := q
  subst ew
  obtain ⟨tx, ev⟩ := _root_.id r1
  subst ev
  refine ⟨"str", _, F.plainAttrs_str, slot, ty, typeIs_str _ _ _, (fun _ z => nomatch z), Calls.callWith_builtin rfl (Calls.evalArgs_plain (Calls.spliced_cons (Calls.Constant_str (Calls.spliced_nil ?_))))⟩
  have k : Tk1 { s1 with toks := s1.toks + 1 } := Nat.le_add_left 1 s1.toks
  exact thnT k (rule pins { s1 with toks := s1.toks + 1 } σ H1 (V.str w) [.str c] _ [.str c s1.toks] Q (I1.tok _) ⟨tx, rfl⟩ (.cons ⟨_, rfl⟩ .nil) q1) fun _ _ k2 q2 => ⟨k2, q2⟩
theorem ptt_of {c : Expr} {tc : TT} (h : PT X c tc) : PTT X c tc := fun pins s σ H Q _ I q => h.run pins s σ H Q I q
theorem ptt_cmp {op : CmpOp} {r : R2} (ho : OpR X (compareOp op) r) (ha : PET X a ta) (hb : PET X b tb) (hm : behindInMarks op b = false) : PTT X (.Compare a [op] [b] pos) (tTest (tOp r ta tb)) := by
  intro pins s σ H Q k I h
  refine wpAny_isTrue_Compare1 (thnT k (ha pins s σ H _ k I h) fun v s1 k1 q => ?_) hm
  obtain ⟨x, H1, I1, r1, q1⟩ := q
  refine thnT k1 (hb pins s1 σ H1 _ k1 I1 q1) fun u s2 k2 q => ?_
  obtain ⟨y, H2, I2, r2, q2⟩ := q
  refine thn (ho pins s2 σ H2 x y v u _ I2 r1 r2 q2) fun c s3 q => ?_
  obtain ⟨z, H3, I3, r3, d, ed, q3⟩ := q
  subst ed
  cases r3
  exact wpAny_truthy_bool ⟨H3, I3, q3⟩
theorem pst_ifT {c : Expr} {x y : List Stmt} {tc : TT} (hc : PTT X c tc) (ha : PSsT X x t) (hb : PSsT X y u) : PST X (.If c x y pos) (tIfS tc t u) := by
  intro pins s σ H D k I h
  refine wpAny_If (thnT k (hc pins s σ H _ k I h) fun d s1 k1 q => ?_)
  obtain ⟨H1, I1, q1⟩ := q
  cases d with
  | true => exact ha pins s1 σ H1 D k1 I1 q1
  | false => exact hb pins s1 σ H1 D k1 I1 q1
theorem pst_setT {i : Nat} {x : Str} {pos' : Pos} (hN : X.N.Nodup) (hi : X.N[i]? = some x) (hx : Loc X.env.scope x) (he : PET X e te) (hs : swapsWith e (some (.Name x pos')) pos.line X.env = pure false := by rfl) (hf : X.fn x = true ∨ X.env.scope.names.lookup x = some .local := by first | exact .inl rfl | exact .inr rfl | assumption) :
    PST X (.Assign [.Name x pos'] e pos) (tAsg te (gName i)) := by
  intro pins s σ H D k I h
  refine wpAny_Assign_Name (thn (he pins s σ H _ k I h) fun v s1 q => ?_) hs
  obtain ⟨y, H1, I1, r1, q1⟩ := q
  exact store_ok I1 hN hi hx r1 (fun s2 I2 => ⟨_, H1, I2, q1⟩) hf
/-- for, tokens out in its body -/
theorem pst_forB {tg iter : Expr} {wi : TI} {g : TG} {tb : TS} (hp : PassesOwn (model X.prog X.w) X.A X.env X.xe) (hc : X.calm = true) (hi : PI X tg iter wi) (hg : PG X tg g) (hb : PSsT X body tb)
    (hs : ∀ x, foldedSetIterable iter X.env x = pure x := by intro _; rfl) : PST X (.For tg iter body [] pos) (tFor wi g tb) := by
  intro pins s σ H D k I h
  refine wpAny_For (thnT k (hi.run pins s σ H _ I h) fun v s1 k1 h1 => thnT k1 h1 fun itv s2 k2 h2 => ?_) hs
  obtain ⟨it, fp, tn, J, H2, ei, I2, T, st2, f2, W, ⟨m0, w0⟩, turn⟩ := h2
  subst ei
  have stat : ∀ {G : Hp}, (∀ c ∈ fp, G c = none) → ∀ c ∈ fp, FpOk X pins G c := fun hn c hc' => ⟨hn c hc', (f2 c hc').2⟩
  let Turn (n : Nat) (s' : Shared) : Prop := Tk1 s' ∧ ∃ i σ' G, Inv X pins σ' G s' ∧ tn i s'.heap ∧ (∀ c ∈ fp, G c = none) ∧ W i n σ' G
  refine codeAny_forLoop_any Turn ?_ m0 ⟨k2, 0, σ, H2, I2, st2, fun c hc' => (f2 c hc').1, w0⟩
  rintro n s3 ⟨k3, i, σ3, H3, I3, st3, fr3, w3⟩
  rcases turn i n σ3 H3 w3 with ⟨stop, qn⟩ | ⟨go, N, hN, step⟩
  · refine wpAny_passesOwn hp (thn (T.done X rfl rfl rfl hc i pins s3 σ3 H3 X.xe I3 (stat fr3) st3 stop) fun r s4 q => ?_)
    obtain ⟨hr, I4⟩ := q
    subst hr
    exact wpAny_execs_nil ⟨σ3, H3, I4, qn⟩
  · refine wpAny_passesOwn hp (thnT k3 (T.item X rfl rfl rfl hc i pins s3 σ3 H3 X.xe I3 (stat fr3) st3 go) fun r s4 k4 q => ?_)
    obtain ⟨w, hr, h4⟩ := q
    subst hr
    refine wpAny_passesOwn hp (thnT k4 h4 fun _ s5 k5 q => ?_)
    obtain ⟨x, H5, I5, r5, y5, st5, fr5⟩ := q
    refine wpAny_passesOwn hp (thnT k5 (hg.run _ s5 σ3 H5 x w _ (I5.pinned (stat fr5) (T.obj _ _ st5)) r5 (step x H5 y5)) fun _ s6 k6 q => ?_)
    obtain ⟨σ6, H6, I6, q6⟩ := q
    refine wpAny_passesOwn hp (thnT k6 (hb _ s6 σ6 H6 _ k6 I6 q6) fun f s7 k7 q7 => ?_)
    have again : ∀ {σ7 : L2.St} {H7 : Hp}, Inv X (pins ++ pinsAt fp s5.heap) σ7 H7 s7 → N σ7 H7 → ∃ m, m < n ∧ Turn m s7 := fun {σ7 H7} I7 n7 => by
      obtain ⟨m', hm, w7⟩ := hN σ7 H7 n7
      have at_ : ∀ c ∈ fp, ∀ ob, s5.heap.get? c = some ob → s7.heap.get? c = some ob ∧ H7 c = none := fun c hc' ob eo => by
        have z := I7.pin (c, ob) (List.mem_append_right _ (List.mem_append_right _ (mem_pinsAt hc' eo)))
        exact ⟨z.1, z.2.1⟩
      refine ⟨m', hm, k7, i + 1, σ7, H7, I7.unpinned, T.keep _ _ _ st5 fun c hc' ob eo => (at_ c hc' ob eo).1, fun c hc' => ?_, w7⟩
      obtain ⟨ob, eo, _⟩ := T.obj _ _ st5 c hc'
      exact (at_ c hc' ob eo).2
    cases f with
    | next => obtain ⟨σ7, H7, I7, n7⟩ := q7; exact again I7 n7
    | cont => obtain ⟨σ7, H7, I7, n7⟩ := q7; exact again I7 n7
    | brk => obtain ⟨σ7, H7, I7, q7⟩ := q7; exact ⟨σ7, H7, I7.unpinned, q7⟩
    | ret v => obtain ⟨x7, σ7, H7, I7, r7, q7⟩ := q7; exact ⟨x7, σ7, H7, I7.unpinned, r7, q7⟩
end
/-! ### the same with what is computed -/
structure XET (X : Cx) (B : Bs) (e : Expr) (t : TE) (f : En → Option D) : Prop where
  pe : PET X e t
  de : DE B.K B t f
structure XLT (X : Cx) (B : Bs) (e : Expr) (t : TE) (f : En → Option (List D)) : Prop where
  pe : PET X e t
  de : DL B.K B t f
structure XL1 (X : Cx) (B : Bs) (e : Expr) (t : TE) (f : En → Option (List D)) : Prop where
  pe : PET1 X e t
  de : DL B.K B t f
structure XAT (X : Cx) (B : Bs) (es : List Expr) (t : TA) (f : En → Option (List D)) : Prop where
  pe : PAT X es t
  de : DA B.K B t f
structure XTT (X : Cx) (B : Bs) (e : Expr) (t : TT) (f : En → Option Bool) : Prop where
  pe : PTT X e t
  de : DT B.K B t f
structure XS1 (X : Cx) (B : Bs) (s : Stmt) (t : TS) (F : En → Option Out) : Prop where
  pe : PST1 X s t
  de : DS B.K B t F
structure XST (X : Cx) (B : Bs) (s : Stmt) (t : TS) (F : En → Option Out) : Prop where
  pe : PST X s t
  de : DS B.K B t F
structure XSsT (X : Cx) (B : Bs) (s : List Stmt) (t : TS) (F : En → Option Out) : Prop where
  pe : PSsT X s t
  de : DS B.K B t F
def replD (y z : Str) : D → Option D
  | .str x => if x.length + (x.length + 1) * z.length ≤ 16777216 then some (.str (Txt.replace x y z)) else none
  | _ => none
section
variable {X : Cx} {B : Bs} {s : Stmt} {rest body : List Stmt} {t u : TS} {F G : En → Option Out} {te ta tb to : TE} {tl : TA} {f f' : En → Option D} {fl g : En → Option (List D)} {tt : TT} {c : En → Option Bool} {e a b o : Expr} {es : List Expr} {pos apos p : Pos}
theorem XE.tk (h : XE X B e te f) : XET X B e te f := ⟨CwR.PET.of h.pe, h.de⟩
theorem XT.tk (h : XT X B e tt c) : XTT X B e tt c := ⟨ptt_of h.pe, h.de⟩
theorem XS.tk (h : XS X B s t F) : XST X B s t F := ⟨PST.of h.pe, h.de⟩
theorem XSs.tk (h : XSs X B rest t F) : XSsT X B rest t F := ⟨PSsT.of h.pe, h.de⟩
theorem ss_tok (h : XS1 X B s t F) (k : XSsT X B rest u G) : XSs X B (s :: rest) (tSeq t u) (sSeq F G) := ⟨pss_tok h.pe k.pe, ds_seq h.de k.de⟩
theorem st_cons (h : XST X B s t F) (k : XSsT X B rest u G) : XSsT X B (s :: rest) (tSeq t u) (sSeq F G) := ⟨psst_cons h.pe k.pe, ds_seq h.de k.de⟩
theorem st_one (h : XST X B s t F) : XSsT X B [s] t F := ⟨CwR.psst_one h.pe, h.de⟩
theorem st_nil : XSsT X B [] tNext sNil := ss_nil.tk
theorem st_fz (i : Nat) (h : XSsT X B rest t F) (hL : B.L = [] := by rfl) : XSsT X B rest t (sFz i F) := ⟨h.pe, ds_fz hL h.de⟩
theorem st_if {c' : Expr} {x y : List Stmt} (hc : XTT X B c' tt c) (h : XSsT X B x t F) (k : XSsT X B y u G) : XST X B (.If c' x y pos) (tIfS tt t u) (sIf c F G) := ⟨pst_ifT hc.pe h.pe k.pe, ds_if hc.de h.de k.de⟩
theorem st_for {iter tg : Expr} {wi : TI} {gg : TG} {src : En → Option (List D)} {ht : D → En → Option En} (hp : PassesOwn (model X.prog X.w) X.A X.env X.xe) (hc : X.calm = true) (hi : XI X B tg iter wi src) (hg : XG X B tg gg ht) (hb : XSsT X B body t F) (hs : ∀ x, foldedSetIterable iter X.env x = pure x := by intro _; rfl) :
    XST X B (.For tg iter body [] pos) (tFor wi gg t) (sFor src ht F) := ⟨pst_forB hp hc hi.pe hg.pe hb.pe hs, ds_for hi.de hg.de hb.de⟩
theorem s1_setR {i : Nat} {x : Str} {pos' : Pos} (hN : X.N.Nodup) (hi : X.N[i]? = some x) (hx : Loc X.env.scope x) (he : XL1 X B e te fl) (hs : swapsWith e (some (.Name x pos')) pos.line X.env = pure false := by rfl) (hf : X.fn x = true ∨ X.env.scope.names.lookup x = some .local := by first | exact .inl rfl | exact .inr rfl | assumption) (hp : free B i = true := by rfl) :
    XS1 X B (.Assign [.Name x pos'] e pos) (tAsg te (gName i)) (sSetR i fl) := ⟨pst1_set hN hi hx he.pe hs hf, ds_setR hp he.de⟩
theorem s1_setL {i : Nat} {x : Str} {pos' : Pos} (hN : X.N.Nodup) (hi : X.N[i]? = some x) (hx : Loc X.env.scope x) (he : XL1 X B e te fl) (hs : swapsWith e (some (.Name x pos')) pos.line X.env = pure false := by rfl) (hf : X.fn x = true ∨ X.env.scope.names.lookup x = some .local := by first | exact .inl rfl | exact .inr rfl | assumption) (hp : free B i = true := by rfl) :
    XS1 X B (.Assign [.Name x pos'] e pos) (tAsg te (gName i)) (sSetL i fl) := ⟨pst1_set hN hi hx he.pe hs hf, ds_setL hp he.de⟩
theorem st_setR {i : Nat} {x : Str} {pos' : Pos} (hN : X.N.Nodup) (hi : X.N[i]? = some x) (hx : Loc X.env.scope x) (he : XLT X B e te fl) (hs : swapsWith e (some (.Name x pos')) pos.line X.env = pure false := by rfl) (hf : X.fn x = true ∨ X.env.scope.names.lookup x = some .local := by first | exact .inl rfl | exact .inr rfl | assumption) (hp : free B i = true := by rfl) :
    XST X B (.Assign [.Name x pos'] e pos) (tAsg te (gName i)) (sSetR i fl) := ⟨pst_setT hN hi hx he.pe hs hf, ds_setR hp he.de⟩
theorem st_setL {i : Nat} {x : Str} {pos' : Pos} (hN : X.N.Nodup) (hi : X.N[i]? = some x) (hx : Loc X.env.scope x) (he : XLT X B e te fl) (hs : swapsWith e (some (.Name x pos')) pos.line X.env = pure false := by rfl) (hf : X.fn x = true ∨ X.env.scope.names.lookup x = some .local := by first | exact .inl rfl | exact .inr rfl | assumption) (hp : free B i = true := by rfl) :
    XST X B (.Assign [.Name x pos'] e pos) (tAsg te (gName i)) (sSetL i fl) := ⟨pst_setT hN hi hx he.pe hs hf, ds_setL hp he.de⟩
theorem at_nil : XAT X B [] tNil aNil := ⟨pat_nil, da_nil⟩
theorem at_cons (ha : XET X B e te f) (hr : XAT X B es tl g) (hs : starEach (e :: es) X.env = (false, eval e X.env) :: starEach es X.env := by rfl) : XAT X B (e :: es) (tCons te tl) (aCons f g) := ⟨pat_cons ha.pe hr.pe hs, da_cons ha.de hr.de⟩
theorem lt_lst (h : XAT X B es tl g) : XLT X B (.List es pos) (tLst tl) (lLst g) := ⟨pet_lst h.pe, dl_lst h.de⟩
theorem lt_catN (hk : X.K = B.K) (ha : XN X B a ta fl) (hb : XLT X B b tb g) : XLT X B (.BinOp a .Add b pos) (tOp (rCatL B.K) ta tb) (lCat fl g) := ⟨CwR.pet_op (op_catL hk) (CwR.PET.of ha.pe) hb.pe, dl_catN ha.de hb.de.dm.dn⟩
theorem tt_cmp {op : CmpOp} {r : R2} {gg : D → D → Option D} (ho : OpR X (compareOp op) r) (hr : OpD B.K B r gg) (hm : behindInMarks op b = false) (ha : XET X B a ta f) (hb : XB X B b tb f') : XTT X B (.Compare a [op] [b] pos) (tTest (tOp r ta tb)) (asB (e2 gg f f')) :=
  ⟨ptt_cmp ho ha.pe (CwR.PET.of hb.pe) hm, dt_test (de_op hr ha.de.db hb.de)⟩
theorem de_repl {K : PySem.W.Frag} {y z : Str} (h : DE K B to f) : DE K B (CwR.tReplC to y z) (e1 (replD y z) f) := fun ρ σ H O d R k Q q => by
  obtain ⟨d0, h1, k⟩ := bind_some k
  unfold replD at k
  split at k
  · rename_i x
    split at k
    · rename_i hc
      cases k
      refine h ρ σ H O _ R h1 _ fun v H1 s1 w => ?_
      cases w
      exact ⟨x, rfl, hc, q _ H1 s1 (.str _)⟩
    · cases k
  · cases k
theorem xt_repl {y z : Str} {j k : Nat} {c0 c1 : Pos} (ho : XE X B o to f) (hyz : (y == z) = false := by decide)
    (hst : starEach [.Constant (.str y) j c0, .Constant (.str z) k c1] X.env = [(false, eval (.Constant (.str y) j c0) X.env), (false, eval (.Constant (.str z) k c1) X.env)] := by rfl)
    (hbase : attributeBase o "replace" X.env (eval o X.env) = eval o X.env := by rfl) (hline : (apos.endLine == pos.line) = true := by rfl) :
    XET X B (.Call (.Attribute o "replace" apos) [.Constant (.str y) j c0, .Constant (.str z) k c1] [] pos) (CwR.tReplC to y z) (e1 (replD y z) f) := ⟨CwR.pet_replC ho.pe hyz hst hbase hline, de_repl ho.de⟩
/-- split at a written text: a token is out -/
theorem l1_split {y : Str} {j : Nat} {c0 : Pos} (ho : XE X B o to f) (hs : starEach [.Constant (.str y) j c0] X.env = [(false, eval (.Constant (.str y) j c0) X.env)] := by rfl) (hbase : attributeBase o "split" X.env (eval o X.env) = eval o X.env := by rfl) (hline : (apos.endLine == pos.line) = true := by rfl) :
    XL1 X B (.Call (.Attribute o "split" apos) [.Constant (.str y) j c0] [] pos) (tM1 rSplit to (tC (.str y))) (e2 splitL f (eC (.str y))) :=
  ⟨pet1_m1 PySem.F.slot_str_split PySem.F.type_str_split mt_split ho.pe hs hbase hline, (l_split ho x_str hs hbase hline).de⟩
end
/-! ### int of a text -/
def intSD : List D → Option D
  | [.str a] => if a.length ≤ 640 then (PySem.intText? a).map .int else none
  | _ => none
def rIntS : List V → Hp → VK → Prop := fun xs H Q => ∃ a n, xs = [.str a] ∧ PySem.intText? a = some n ∧ a.length ≤ 640 ∧ Q (.int n) H
section
variable {K : PySem.W.Frag} {B : Bs}
theorem opc_intS : OpC K B rIntS intSD := fun ρ σ H O vs ds z R a k Q q => by
  unfold intSD at k
  split at k
  · split at k
    · rename_i x c
      obtain ⟨n, hn, rfl⟩ := Option.map_eq_some_iff.mp k
      obtain ⟨v, rfl, b⟩ := bo1 a
      cases b.str
      exact ⟨_, n, rfl, hn, c, q _ H (Same.refl H) (.int _)⟩
    · cases k
  · cases k
end
end Z

set_option Elab.async false
set_option maxRecDepth 100000
set_option maxHeartbeats 4000000
set_option linter.all false
/-! ZI: own exceptions: raised, caught and kept, asked -/
namespace Z
open PySem PySem.Spec PyProof.Rows L2

/-! ### what the class of an own exception must say -/
structure ExF (K : PySem.W.Frag) (C : Addr) : Prop where
  cl : (PySem.W.clsIn K C).isSome = true
  ga : PySem.W.findIn K (.ref C) "__getattribute__" = some (some (.builtin "BaseException.__getattribute__"))
  gg : PySem.W.findIn K (.ref C) "__getattr__" = some none
  sb : PySem.W.subIn K (.ref C) (.type "BaseException") = some true
  hd : PySem.W.hasDictIn K C = true
  ha : PySem.W.findIn K (.ref C) "__class__" = some (some (.builtin "object.__class__"))
  hm : PySem.W.mroIn K C (.type "object") = some true
  na : PySem.W.findIn K (.ref C) "at" = some none
structure ClF (K : PySem.W.Frag) : Prop where
  hn : PySem.W.specialIn K (.builtin "object.__class__") "__get__" = some (some (.builtin "getset_descriptor.__get__"))
  ht : PySem.W.takesIn K (.builtin "object.__class__") = some true
theorem exK_ok {P : Program} {w : World} {H : Hp} {h : Heap} {a : Addr} {cls : Value} {d : Option Addr} {oe : Obj} {vs : Array Value} (e : h.get? a = some oe) (z : Zc cls d oe) (dd : oe.data = .fields vs) : ObjOk P w H h a (ExK cls d a) :=
  ⟨⟨oe, vs, e, z, dd⟩, ⟨oe, e⟩, fun _ _ ⟨o, v, q, r⟩ k => ⟨o, v, k o q, r⟩⟩
section
variable {X : Cx} {pins : List (Addr × Obj)} {σ : L2.St} {H : Hp} {s : Shared}
/-- a caught exception, new since the entry, is tracked -/
theorem inv_track {a : Addr} {oe : Obj} {vs : Array Value} {cls : Value} {d : Option Addr} (I : Inv X ((a, oe) :: pins) σ H s) (hz : Zc cls d oe) (hd : oe.data = .fields vs) (n0 : X.s_0.heap.get? a = none) (hp : ∀ p ∈ X.pn ++ pins, p.1 ≠ a) :
    Inv X pins σ (upd H a (ExK cls d a)) s := by
  obtain ⟨p1, p2, p3, p4, p5⟩ := I.pin (a, oe) (List.mem_append_right _ List.mem_cons_self)
  dsimp only at p1 p2 p3 p4 p5
  have far : ∀ b o, X.s_0.heap.get? b = some o → b ≠ a := fun b o e z => by
    rw [z, n0] at e; cases e
  have ne : ∀ {b : Addr} {o : HO}, H b = some o → b ≠ a := fun {b o} e z => by
    rw [z, p2] at e; cases e
  refine ⟨I.ok, I.os, I.bare, ?_, I.loc, I.cell, (upd_ne (Ne.symm p3)).trans I.free, fun y c e => ?_, fun p hm => ?_, fun b u e => ?_, I.len⟩
  · refine ⟨I.base.keep, I.base.slot, fun b o e n hx => (upd_ne (far b o e)).trans (I.base.free b o e n hx), I.base.there, fun b xs e => ?_, fun b o u e => ?_, fun b ps e => ?_⟩
    · have z := I.base.tups b xs e
      rw [upd_ne (ne z)]; exact z
    · have z := I.base.frzs b o u e
      rw [upd_ne (ne z)]; exact z
    · obtain ⟨m, z⟩ := I.base.tbls b ps e
      exact ⟨m, by rw [upd_ne (ne z)]; exact z⟩
  · have hc := I.freeC y c e
    obtain ⟨v, o, e1, e2⟩ := I.cell y c e
    refine (upd_ne fun z => ?_).trans hc
    rw [z, p1] at e1
    cases e1
    exact p5 _ e2
  · have hm' : p ∈ X.pn ++ ((a, oe) :: pins) := by
      rcases List.mem_append.mp hm with z | z
      · exact List.mem_append_left _ z
      · exact List.mem_append_right _ (List.mem_cons_of_mem _ z)
    obtain ⟨q1, q2, q3⟩ := I.pin p hm'
    exact ⟨q1, (upd_ne (hp p hm)).trans q2, q3⟩
  · by_cases hb : b = a
    · subst hb
      rw [upd_same] at e
      cases e
      exact exK_ok p1 hz hd
    · rw [upd_ne hb] at e
      refine (I.hok b u e).stay (fun c v _ q => q) (fun c q => ?_) fun c xs q => ?_
      · rw [upd_ne (ne q)]; exact q
      · rw [upd_ne (ne q)]; exact q
end
/-- what the clause wishes of an exception of the body: it is one of the class, it is kept -/
def wKeep (K : PySem.W.Frag) (c : Value) (i : Nat) (ts : Addr → Value → Option Addr → TS) (D : Ends) : WX := fun cls d σ H =>
  PySem.W.exmOne K cls c = some true ∧ ∀ a, H a = none → ts a cls d { nx := fun σ' H' => D.nx (σ'.set i none) (upd H' a (ExK cls d a)), rt := fun _ _ => False, bk := fun _ _ => False, ct := fun _ _ => False } (σ.set i (some (.ref a))) H
section
variable {X : Cx} {x n : Str} {c : Value} {i : Nat} {body suite : List Stmt} {b₀ : Stmt} {np pos pos' : Pos} {tb : WX → TS} {ts : Addr → Value → Option Addr → TS}
theorem ps_try_keep (hs : X.stack = X.env :: X.outer) (hf : X.env.frame = some X.env.locals) (hex : X.ex = []) (hN : X.N.Nodup) (hi : X.N[i]? = some n) (hln : X.env.kindOf n = some .local) (hc : Names X x c)
    (hb : ∀ (W : WX) (pn : List (Addr × Obj)) (xe : Value → Shared → Prop), Takes (X.tr pn xe) W → PSs (X.tr pn xe) body (tb W))
    (hsu : ∀ (a : Addr) (oe : Obj) (cls : Value) (d : Option Addr) (pn : List (Addr × Obj)), PSs (X.suite a ((a, oe) :: pn)) (b₀ :: suite) (ts a cls d)) :
    PS X (.Try body [.ExceptHandler (some (.Name x np)) (some n) (b₀ :: suite) pos'] [] [] pos) (fun D σ H => tb (wKeep X.K c i ts D) D σ H) := by
  constructor
  intro pins s σ H D I0 h
  have okX := I0.ok
  have hstk : X.A.frames = some (X.env :: X.outer) := okX.frames.trans (by rw [hs])
  have hloc : Loc X.env.scope n := Or.inl hln
  refine wpAny_Try_except ?_
  have run := (hb (wKeep X.K c i ts D) (X.pn ++ pins) (fun e s₁ => wpAny (model X.prog X.w) X.A (noteFrame e X.env) (fun _ s₂ =>
      wpAny (model X.prog X.w) X.A (setFlight e none) (fun _ s₃ => wpAny (model X.prog X.w) X.A
        (handleBy e X.env [.ExceptHandler (some (.Name x np)) (some n) (b₀ :: suite) pos']) (SP X pins D) X.xe s₃) X.xe s₂) X.xe s₁) (fun u s' got => ?_)).run [] s σ H D (I0.toTry _) h
  · refine wpAny_mono run (fun fl s1 got => ?_) (fun _ _ he => he)
    cases fl with
    | next => obtain ⟨σ1, H1, J1, q⟩ := got; exact wpAny_execs_nil ⟨σ1, H1, J1.ofTry okX, q⟩
    | brk => obtain ⟨σ1, H1, J1, q⟩ := got; exact ⟨σ1, H1, J1.ofTry okX, q⟩
    | cont => obtain ⟨σ1, H1, J1, q⟩ := got; exact ⟨σ1, H1, J1.ofTry okX, q⟩
    | ret u => obtain ⟨v, σ1, H1, J1, r, q⟩ := got; exact ⟨v, σ1, H1, J1.ofTry okX, r, q⟩
  obtain ⟨a, B, sI, pins', σ1, H1, cls, d, rfl, J0, nb, up, sky, na, os, ag, hb1, hyes⟩ := got
  have J : Inv X pins σ1 H1 sI := J0.ofTry okX
  rw [hs] at sky
  show wpAny (model X.prog X.w) X.A (noteFrame (.ref a) X.env) _ _ _
  refine Sky.land Zc.steady hstk hf sky fun h3 fl3 up3 => ?_
  have J3 : Inv X pins σ1 H1 { s' with heap := h3 } := J.landed nb fl3.1 (up.trans up3) os ag
  obtain ⟨oe3, vs3, he3, hz3, hd3⟩ := fl3.there
  have nfr : a ∉ frs (X.env :: X.outer) := fun hm => by
    obtain ⟨_, o, e, hnf⟩ := fl3.2.2.1.mem hm
    rw [he3] at e
    cases e
    exact hnf _ hd3
  have nL : a ≠ X.env.locals := fun z => nfr (List.mem_filterMap.mpr ⟨X.env, List.mem_cons_self, hf.trans (by rw [z])⟩)
  have nF : a ∉ X.fs := fun hm => by
    obtain ⟨e, he, q⟩ := List.mem_filterMap.mp hm
    exact nfr (List.mem_filterMap.mpr ⟨e, List.mem_cons_of_mem _ he, q⟩)
  have gB : B.get? a = none := fl3.2.1
  have gI : sI.heap.get? a = none := by
    cases e : sI.heap.get? a with
    | none => rfl
    | some o =>
      have := nb a o e (by rw [hs]; exact nfr)
      rw [gB] at this; cases this
  have n0 : X.s_0.heap.get? a = none := by
    cases e : X.s_0.heap.get? a with
    | none => rfl
    | some o =>
      obtain ⟨o', e'⟩ := J.base.there a o e (by rw [hex]; exact fun z => nomatch z)
      rw [gI] at e'; cases e'
  have hpa : ∀ p ∈ X.pn ++ pins, p.1 ≠ a := fun p hp z => by
    have e := (J.pin p hp).1
    rw [z, gI] at e; cases e
  have S3 := J3.suite he3 hd3 na nL nF
  refine wpAny_handleBy_cons (codeAny_handlers_test ?_) (by intro q; cases q)
  have LT : PySem.W.Looks (model X.prog X.w) h3 (typeOf (.ref a)) cls := fun A Q E s k q => wpAny_typeOf_ref (k _ _ he3) (by rw [hz3.1]; exact q)
  have LM := PySem.W.exm_one (M := model X.prog X.w) (J3.kIn) LT hb1
  have test : ∀ {Q : Value → Shared → Prop} {E : Value → Shared → Prop}, Q c { s' with heap := h3 } →
      wpAny (model X.prog X.w) (X.A.mark (some (.ref a))) (eval (.Name x np) X.env) Q E { s' with heap := h3 } := fun {Q E} q => by
    obtain ⟨hg, hdbg, hm | ⟨hm, hv, hnn⟩⟩ := hc
    · exact ld_glob (X := X.suite a ((a, oe3) :: (X.pn ++ pins))) S3 hg hm q hdbg
    · exact ld_blt (X := X.suite a ((a, oe3) :: (X.pn ++ pins))) S3 hg hm hv q hnn hdbg
  refine test (LM.here ?_)
  refine codeAny_handlers_suite_as ?_
  refine PySem.HandSPX.lands_againZ fl3 fun h4 fl4 up4 => ?_
  have J4 : Inv X pins σ1 H1 { s' with heap := h4 } := J.landed nb fl4.1 ((up.trans up3).trans up4) os ag
  obtain ⟨oe4, vs4, he4, hz4, hd4⟩ := fl4.there
  have S4 := J4.suite he4 hd4 na nL nF
  refine store_ok (X := X.suite a ((a, oe4) :: (X.pn ++ pins))) (v := .ref a) S4 hN hi hloc rfl (fun s5 S5 => ?_) (.inr hln)
  have run2 := (hsu a oe4 cls d (X.pn ++ pins)).run [] s5 _ H1 _ S5 (hyes a na)
  refine wpAny_mono run2 (fun fl s6 got => ?_) (fun _ _ z => False.elim z)
  cases fl with
  | next =>
    obtain ⟨σ6, H6, S6, q6⟩ := got
    have U6 : Inv X ((a, oe4) :: pins) σ6 H6 s6 := by
      refine ⟨okX, S6.os, S6.bare, S6.base, S6.loc, S6.cell, S6.free, S6.freeC, fun p hp => S6.pin p (List.mem_append_left _ ?_), S6.hok, S6.len⟩
      rcases List.mem_append.mp hp with z | z
      · exact List.mem_cons_of_mem _ (List.mem_append_left _ z)
      · rcases List.mem_cons.mp z with z | z
        · rw [z]; exact List.mem_cons_self
        · exact List.mem_cons_of_mem _ (List.mem_append_right _ z)
    exact gone_ok U6 hN hi hln fun s7 J7 => ⟨_, _, inv_track J7 hz4 hd4 n0 hpa, q6⟩
  | brk => obtain ⟨_, _, _, q6⟩ := got; exact q6.elim
  | cont => obtain ⟨_, _, _, q6⟩ := got; exact q6.elim
  | ret u => obtain ⟨_, _, _, _, _, q6⟩ := got; exact q6.elim
end

/-! ### an exception that was kept: its kind, its field, is it None -/
def rIsX (K : PySem.W.Frag) : List V → Hp → VK → Prop := fun xs H Q => ∃ (a D d : Addr) (fs : List (Str × V)) (c : V) (cv : Value) (b : Bool), xs = [.ref a, c] ∧ H a = some (ExK (.ref D) (some d) a) ∧ H d = some (.xd fs) ∧ ClsV c cv ∧ ExF K D ∧ ClF K ∧ PySem.W.kitOne K (.ref D) cv = some b ∧ Q (.bl b) H
def rIsiX (K : PySem.W.Frag) : List V → Hp → VK → Prop := fun xs H Q => rIsi K xs H Q ∨ rIsX K xs H Q
section
variable {X : Cx} {pins : List (Addr × Obj)} {σ : L2.St} {H : Hp} {s : Shared}
theorem inst_of (I : Inv X pins σ H s) {a D d : Addr} {fs : List (Str × V)} (ha : H a = some (ExK (.ref D) (some d) a)) (hd : H d = some (.xd fs)) :
    ∃ (oe od : Obj) (mA : Str → Option Value), PySem.W.InstAt s.heap a oe D (some od) ∧ (∀ f, RelO (fs.lookup f) (mA f)) ∧ ∀ f, PySem.W.lookIn f od = some (mA f) := by
  have hx : ObjOk X.prog X.w H s.heap a (ExK (.ref D) (some d) a) := I.hok a _ ha
  obtain ⟨⟨oe, vs, e1, z, e2⟩, _, _⟩ := hx
  have hy : ObjOk X.prog X.w H s.heap d (.xd fs) := I.hok d _ hd
  obtain ⟨mA, hns, hr⟩ := hy
  obtain ⟨od, ho, hl⟩ := lookIn_ns hns
  exact ⟨oe, od, mA, ⟨e1, z.1, by unfold PySem.W.notCls; rw [e2] <;> rfl, by rw [z.2]; exact ho⟩, hr, hl⟩
theorem call_isX : CallR X (.builtin "isinstance") (rIsiX X.K) := by
  intro pins s σ H xs us Q I r h
  rcases h with h | ⟨a, D, d, fs, c, cv, b, rfl, ha, hd, hcv, F, G, e, q⟩
  · exact call_isi pins s σ H xs us Q I r h
  · cases r with
    | cons rx rr =>
      cases rr with
      | cons rt rr =>
        cases rr
        cases rx
        have ec := hcv.eq rt
        subst ec
        obtain ⟨oe, od, mA, J, _, _⟩ := inst_of I ha hd
        exact PySem.W.kia_one (PySem.W.kitx_exc F.cl F.ga F.gg F.sb F.ha G.hn G.ht F.hm) I.kIn J e (fun z => nomatch z) fun tk => ⟨.bl b, H, I.kept (t' := tk) fun _ _ z => z, rfl, q⟩
/-- e.at, e an exception that was kept -/
def tXat (K : PySem.W.Frag) (te : TE) : TE := fun σ H Q => te σ H fun x H1 => ∃ (a C d : Addr) (fs : List (Str × V)) (v : V), x = .ref a ∧ H1 a = some (ExK (.ref C) (some d) a) ∧ H1 d = some (.xd fs) ∧ fs.lookup ("at" : Str) = some v ∧ ExF K C ∧ Q v H1
theorem pe_xat {e : Expr} {te : TE} {pos : Pos} (he : PE X e te) (hb : attributeBase e "at" X.env (eval e X.env) = eval e X.env := by rfl) : PE X (.Attribute e "at" pos) (tXat X.K te) := by
  constructor
  intro pins s σ H Q I h
  refine attr_of hb (thn (he.run pins s σ H _ I h) fun u s1 got => ?_)
  obtain ⟨x, H1, I1, rx, a, C, d, fs, v, rfl, ha, hd, l, F, q⟩ := got
  obtain rfl : u = Value.ref a := rx
  obtain ⟨oe, od, mA, J, hr, hl⟩ := inst_of I1 ha hd
  obtain ⟨u, hu, ru⟩ := RelO.some_of (v := v) (o := mA "at") (by rw [← l]; exact hr "at")
  exact PySem.HandSPX.exc_get I1.kIn J F.ga F.gg F.sb (PySem.W.findObj_own F.hd F.na rfl (by rw [hl, hu])) (handed_of ru) ⟨v, H1, I1.tok _, ru, q⟩
/-- a class of our own by its name -/
theorem pe_cls {x : Str} {C : Addr} {p : Pos} (hg : Gl X x) (hm : X.mg x = some (.ref C)) (hdb : (x == ("__debug__" : Str)) = false := by decide) : PE X (.Name x p) (tC (.ref C)) :=
  ⟨fun pins s σ H Q I h => ld_glob I hg hm ⟨.ref C, H, I, rfl, h⟩ hdb⟩
end
/-- which kinds there are: NoProgram and NoTree, both OneErrors and ValueErrors -/
def subN (a b : Str) : Option Bool :=
  if a = "NoProgram" then (if b = "NoProgram" then some true else if b = "NoTree" then some false else if b = "ValueError" then some true else if b = "OneError" then some true else none)
  else if a = "NoTree" then (if b = "NoProgram" then some false else if b = "NoTree" then some true else if b = "ValueError" then some true else if b = "OneError" then some true else none)
  else none
def exN (a : Str) : Bool := a == "NoProgram" || a == "NoTree"
/-- what the written part says of the exceptions: their classes; which is which -/
structure ExAll (K : PySem.W.Frag) (mg : Str → Option Value) : Prop where
  F : ∀ nm C, clsOf K nm = some C → exN nm = true → ExF K C
  G : ClF K
  own : ∀ (nm : Str) (C : Addr) (b : Str) (C' : Addr), clsOf K nm = some C → (b = "NoProgram" ∨ b = "NoTree") → clsOf K b = some C' → ∀ r, subN nm b = some r → PySem.W.kitOne K (.ref C) (.ref C') = some r
  ve : ∀ nm C, clsOf K nm = some C → exN nm = true → PySem.W.kitOne K (.ref C) (.type "ValueError") = some true
  non : ∀ (b : Str) (C' : Addr), (b = "NoProgram" ∨ b = "NoTree") → clsOf K b = some C' → PySem.W.kitOne K (.type "NoneType") (.ref C') = some false
  nve : PySem.W.kitOne K (.type "NoneType") (.type "ValueError") = some false
  one : ∀ nm C C', clsOf K nm = some C → exN nm = true → clsOf K "OneError" = some C' → PySem.W.exmOne K (.ref C) (.ref C') = some true
  mgN : ∀ (b : Str) (C : Addr), (b = "NoProgram" ∨ b = "NoTree" ∨ b = "OneError") → clsOf K b = some C → mg b = some (.ref C)
  has : ∀ b : Str, (b = "NoProgram" ∨ b = "NoTree" ∨ b = "OneError") → ∃ C, clsOf K b = some C
  mgV : mg "ValueError" = none
def kIsI (i : Nat) (b : Str) : En → Option D := fun ρ => match ρ[i]? with
  | some (some (.xc nm _)) => if exN nm = true then (subN nm b).map .bool else none
  | some (some (.ro .none)) => some (.bool false)
  | _ => none
def kAt (i : Nat) : En → Option D := fun ρ => match ρ[i]? with
  | some (some (.xc nm d)) => if exN nm = true then some d else none
  | _ => none
def kNon (neg : Bool) (i : Nat) : En → Option D := fun ρ => match ρ[i]? with
  | some (some (.xc _ _)) => some (.bool neg)
  | some (some (.ro .none)) => some (.bool (!neg))
  | _ => none
theorem of_hidS {H : Hp} {O : List Addr} {a : Addr} {o : HO} (h : hid H O a = some o) : H a = some o := (of_hid h).2
section
variable {X : Cx} {B : Bs} {i : Nat} {b : Str} {p p2 pos : Pos} {ex : Expr}
theorem de_kIs {te : V} {cv : Value} (A : ExAll B.K mg) (hcv : ClsV te cv) (hx : ∀ nm C, clsOf B.K nm = some C → exN nm = true → ∀ r, subN nm b = some r → PySem.W.kitOne B.K (.ref C) cv = some r) (hn : PySem.W.kitOne B.K (.type "NoneType") cv = some false) :
    DE B.K B (tCB (rIsiX B.K) (tCons (tVar i) (tCons (tC te) tNil))) (kIsI i b) := fun ρ σ H O z R e Q q => by
  unfold kIsI at e
  split at e
  · rename_i nm d h
    split at e
    · rename_i hnm
      obtain ⟨r, h2, rfl⟩ := Option.map_eq_some_iff.mp e
      obtain ⟨v, hv, a, d', C, u, rfl, e2, e3, e4, e5⟩ := R.slot _ _ h
      exact ⟨_, hv, .inr ⟨a, C, d', _, te, cv, r, rfl, of_hidS e2, of_hidS e4, hcv, A.F _ _ e3 hnm, A.G, hx _ _ e3 hnm _ h2, q _ H (Same.refl H) (.bl _)⟩⟩
    · cases e
  · rename_i h
    cases e
    obtain ⟨v, hv, e2⟩ := R.slot _ _ h
    cases (show Dq B.K (hid H O) v .none from e2)
    exact ⟨_, hv, .inl ⟨.non, te, .type "NoneType", cv, false, rfl, hcv, .base .non, hn, q _ H (Same.refl H) (.bl _)⟩⟩
  · cases e
theorem x_kIs {C : Addr} (A : ExAll B.K X.mg) (hi : X.mg "isinstance" = none) (hb : b = "NoProgram" ∨ b = "NoTree") (hC : clsOf B.K b = some C) (ha : PE X ex (tVar i)) (hg : Gl X "isinstance" := by rfl) (hg2 : Gl X b := by rfl) (hdb : (b == ("__debug__" : Str)) = false := by decide)
    (h1 : starEach (ex :: [.Name b p2]) X.env = (false, eval ex X.env) :: starEach [.Name b p2] X.env := by rfl) (hpl : (backTo pos (starEach [.Name b p2] X.env)).any (·.1) = false := by rfl) (hk : X.K = B.K := by rfl) :
    XE X B (.Call (.Name "isinstance" p) [ex, .Name b p2] [] pos) (tCB (rIsiX B.K) (tCons (tVar i) (tCons (tC (.ref C)) tNil))) (kIsI i b) :=
  ⟨hk ▸ pe_callB call_isX hg hi PyProof.Rows.boot_isinstance (pa_cons ha (pa_cons (pe_cls hg2 (A.mgN b C (by rcases hb with h | h; exact .inl h; exact .inr (.inl h)) hC) hdb) pa_nil) h1) (by decide) (by decide) h1 hpl,
    de_kIs A (.own C) (fun nm C' h1 _ r h2 => A.own nm C' b C h1 hb hC r h2) (A.non b C hb hC)⟩
theorem x_kIsV (A : ExAll B.K X.mg) (hi : X.mg "isinstance" = none) (ha : PE X ex (tVar i)) (hg : Gl X "isinstance" := by rfl) (hg2 : Gl X "ValueError" := by rfl)
    (h1 : starEach (ex :: [.Name "ValueError" p2]) X.env = (false, eval ex X.env) :: starEach [.Name "ValueError" p2] X.env := by rfl) (hpl : (backTo pos (starEach [.Name "ValueError" p2] X.env)).any (·.1) = false := by rfl) (hk : X.K = B.K := by rfl) :
    XE X B (.Call (.Name "isinstance" p) [ex, .Name "ValueError" p2] [] pos) (tCB (rIsiX B.K) (tCons (tVar i) (tCons (tC (.ty "ValueError")) tNil))) (kIsI i "ValueError") :=
  ⟨hk ▸ pe_callB call_isX hg hi PyProof.Rows.boot_isinstance (pa_cons ha (pa_cons (pe_bltn hg2 A.mgV PyProof.Rows.Boot.«ValueError» rfl (by decide) (by decide)) pa_nil) h1) (by decide) (by decide) h1 hpl,
    de_kIs A (.ty "ValueError") (fun nm C' h1 h3 r h2 => by
      have : r = true := by
        unfold subN at h2
        unfold exN at h3
        split at h2
        · revert h2; decide +revert
        · split at h2
          · revert h2; decide +revert
          · cases h2
      rw [this]
      exact A.ve nm C' h1 h3) A.nve⟩
theorem x_kAt (A : ExAll B.K X.mg) (ha : PE X ex (tVar i)) (hb : attributeBase ex "at" X.env (eval ex X.env) = eval ex X.env := by rfl) (hk : X.K = B.K := by rfl) : XE X B (.Attribute ex "at" pos) (tXat B.K (tVar i)) (kAt i) := by
  refine ⟨hk ▸ pe_xat ha hb, fun ρ σ H O z R e Q q => ?_⟩
  unfold kAt at e
  split at e
  · rename_i nm d h
    split at e
    · rename_i hnm
      cases e
      obtain ⟨v, hv, a, d', C, u, rfl, e2, e3, e4, e5⟩ := R.slot _ _ h
      refine ⟨_, hv, a, C, d', _, u, rfl, of_hidS e2, of_hidS e4, ?_, A.F _ _ e3 hnm, q _ H (Same.refl H) e5⟩
      simp [List.lookup]
    · cases e
  · cases e
theorem x_kNon (ha : PE X ex (tVar i)) {e0 : Expr} (hz : PE X e0 (tC .non)) (hm : behindInMarks .Is e0 = false := by rfl) : XE X B (.Compare ex [.Is] [e0] pos) (tOp rIsA (tVar i) (tC .non)) (kNon false i) := by
  refine ⟨pe_cmpR op_isA ha hz hm, fun ρ σ H O z R e Q q => ?_⟩
  unfold kNon at e
  split at e
  · rename_i nm d h
    cases e
    obtain ⟨v, hv, a, d', C, u, rfl, _⟩ := R.slot _ _ h
    exact ⟨_, hv, .inl ⟨rfl, q _ H (Same.refl H) (.bl false)⟩⟩
  · rename_i h
    cases e
    obtain ⟨v, hv, e2⟩ := R.slot _ _ h
    cases (show Dq B.K (hid H O) v .none from e2)
    exact ⟨_, hv, .inl ⟨rfl, q _ H (Same.refl H) (.bl true)⟩⟩
  · cases e
end

/-! ### defs that may raise -/
inductive RvX
  | ok (r : Rv)
  | ex (nm : Str) (d : D)
def RxOk (K : PySem.W.Frag) (H : Hp) (O : List Addr) (Q : VK) (E : XK) : RvX → Prop
  | .ok r => ∀ v H', Same H H' → RvOk K H H' O v r → Q v H'
  | .ex nm a => ∀ C d v H', clsOf K nm = some C → Same H H' → H d = none → H' d = some (.xd [(("at" : Str), v)]) → Dq K (hid H' O) v a → E (.ref C) (some d) H'
def spX (K : PySem.W.Frag) (n : Nat) (g : List D → Option RvX) : Sp := fun vs H Q E => vs.length = n ∧ ∃ O ds r, (∀ a ∈ O, ∃ o, H a = some o ∧ isMut o = true) ∧ DqAll K (hid H O) vs ds ∧ g ds = some r ∧ RxOk K H O Q E r
def Out.rvx : Out → Option RvX
  | .ex nm d => some (.ex nm d)
  | .rt d => some (.ok (.v d))
  | .rl ds => some (.ok (.l ds))
  | .nx _ => some (.ok (.v .none))
  | _ => none
def gX (n m : Nat) (F : En → Option Out) (ds : List D) : Option RvX := if ds.length = n then (F (env0 m ds)).bind Out.rvx else none
theorem gX_len {n m : Nat} {F : En → Option Out} : ∀ ds, gX n m F ds ≠ none → ds.length = n := fun ds h => by
  unfold gX at h
  split at h
  · assumption
  · exact absurd rfl h
/-- what is handed back where nothing is raised -/
def noX (g : List D → Option RvX) : List D → Option Rv := fun ds => match g ds with
  | some (.ok r) => some r
  | _ => none
theorem rs_startW {K : PySem.W.Frag} {H : Hp} {O : List Addr} {N : List Str} {vs : List V} {ds : List D} {W : WX} (mu : ∀ a ∈ O, ∃ o, H a = some o ∧ isMut o = true) (h : DqAll K (hid H O) vs ds) : RS K ⟨K, H, O, [], none, W⟩ (env0 N.length ds) (L2.start N vs) H O :=
  have R := rs_start (N := N) mu h
  ⟨R.len, R.slot, R.uniq, R.same, R.own, R.mu, R.sub0, R.lo, R.pin⟩
theorem fn_okX {P : Program} {w : World} {K : PySem.W.Frag} {mg : Str → Option Value} {base : Heap} {x qual : Str} {st : Stmt} {f : Addr} {fd : FuncData} {N ps : List Str} {k : Nat} {F : En → Option Out} (Fu : Fun K x qual st f fd) (S : FnScope N ps (defScope st))
    (body : ∀ (cdv : Value) (A : Around) (outer : List Env) (s : Shared) (H : Hp) (O : List Addr) (E : XK), Room k (A.deeper (envOfC qual (defScope st) s.heap.objs.size f cdv)) →
      ∃ t, XSs (cxOf (L2.CX P w) P w K mg base N qual (defScope st) f cdv A outer s H E) ⟨K, H, O, [], none, fun cls d _ H => E cls d H⟩ (defBody st) t F) :
    FnOk P w K mg base (L2.CX P w) (k + 1) f fd ps (spX K ps.length (gX ps.length N.length F)) := by
  refine Fu.okX S (fun vs H Q E h => h.1) fun cdv A outer s H vs Q E hr hsp => ?_
  obtain ⟨hl, O, ds, r, mu, ha, hg, q⟩ := hsp
  obtain ⟨t, ht⟩ := body cdv A outer s H O E hr
  refine ⟨t, ht.pe, ?_⟩
  unfold gX at hg
  split at hg
  · obtain ⟨o, h1, h2⟩ := bind_some hg
    refine ht.de _ _ H O o (rs_startW mu ha) h1 _ ?_
    have fin : ∀ {ρ' : En} {σ' : L2.St} {H' : Hp} {O' : List Addr}, RS K ⟨K, H, O, [], none, fun cls d _ H => E cls d H⟩ ρ' σ' H' O' → Same H H' ∧ ∀ a ∈ O, a ∈ O' :=
      fun R => ⟨fun a o e => R.same a o (by simp) e, fun a ha => (R.sub0 a ha).1⟩
    cases o with
    | nx ρ1 =>
      have h2 : RvX.ok (.v .none) = r := Option.some.inj h2
      subst h2
      exact fun σ' H' O' R _ => q _ H' (fin R).1 Dq.non
    | rt d =>
      have h2 : RvX.ok (.v d) = r := Option.some.inj h2
      subst h2
      exact fun v ρ' σ' H' O' R x => q v H' (fin R).1 (Dq.mono (hid_less (fin R).2) _ _ x)
    | rl es =>
      have h2 : RvX.ok (.l es) = r := Option.some.inj h2
      subst h2
      refine fun l us ρ' σ' H' O' R n hl x y => q _ H' (fin R).1 ⟨l, us, rfl, n, hl, ?_⟩
      have sub : ∀ a ∈ l :: O, a ∈ l :: O' := fun a ha => by
        rcases List.mem_cons.mp ha with e | ha
        · rw [e]; exact List.mem_cons_self
        · exact List.mem_cons_of_mem _ ((fin R).2 a ha)
      by_cases hm : l ∈ O'
      · refine DqAll.mono (hid_less fun a ha => ?_) _ _ x
        rcases List.mem_cons.mp (sub a ha) with e | ha
        · rw [e]; exact hm
        · exact ha
      · exact DqAll.mono (hid_less sub) _ _ (y hm)
    | bk _ => cases h2
    | ct _ => cases h2
    | rp _ _ => cases h2
    | ex nm d =>
      have h2 : RvX.ex nm d = r := Option.some.inj h2
      subst h2
      exact fun C dd v ρ' σ' H' O' R hC h0 h3 h4 x => q C dd v H' hC (fin R).1 h0 h3 (Dq.mono (hid_less (fin R).2) _ _ x)
  · cases hg
structure DFX (P : Program) (w : World) (K : PySem.W.Frag) (mg : Str → Option Value) (base : Heap) (k : Nat) (x : Str) (n : Nat) (g : List D → Option RvX) : Prop where
  ex : ∃ f fd ps, FnOk P w K mg base (L2.CX P w) k f fd ps (spX K n g) ∧ mg x = some (.ref f) ∧ PySem.W.keepIn K (.ref f) = true ∧ Binds K fd ps []
  len : ∀ ds, g ds ≠ none → ds.length = n
theorem dfx_mk {P : Program} {w : World} {K : PySem.W.Frag} {mg : Str → Option Value} {base : Heap} {k n m : Nat} {x qual : Str} {st : Stmt} {f : Addr} {fd : FuncData} {ps : List Str} {F : En → Option Out} (Fu : Fun K x qual st f fd) (hn : ps.length = n) (h : FnOk P w K mg base (L2.CX P w) k f fd ps (spX K n (gX n m F))) (hm : mg x = some (.ref f)) (hb : Binds K fd ps []) :
    DFX P w K mg base k x n (gX n m F) := ⟨⟨f, fd, ps, h, hm, Fu.kp, hb⟩, gX_len⟩
/-! ### such a def is called where nothing is raised -/
def EF : L2.St → XK := fun _ _ _ _ => False
theorem pass_no {X : Cx} {P : Program} {w : World} (σ : L2.St) : PassesAt (L2.CX P w) X σ (EF σ) := fun _ _ _ _ _ _ c => by
  obtain ⟨_, _, _, _, _, _, _, _, _, _, _, _, z⟩ := c
  exact z.elim
theorem noX_some {g : List D → Option RvX} {ds : List D} {r : Rv} (h : noX g ds = some r) : g ds = some (.ok r) := by
  unfold noX at h
  split at h
  · rename_i h1; cases h; exact h1
  · cases h
section
variable {X : Cx} {B : Bs} {k n : Nat} {x : Str} {g : List D → Option RvX} {ex : Expr} {es : List Expr} {p pos : Pos} {ta : TA} {a : En → Option (List D)}
theorem x_callN (F : DFX X.prog X.w X.K X.mg X.base k x n g) (hr : Room k X.A) (ha : XA X B (ex :: es) ta a) (hg : Gl X x := by rfl) (hdb : (x == ("__debug__" : Str)) = false := by decide) (he : starEach (ex :: es) X.env = (false, eval ex X.env) :: starEach es X.env := by rfl)
    (hpl : (backTo pos (starEach es X.env)).any (·.1) = false := by rfl) (hk : X.K = B.K := by rfl) :
    XE X B (.Call (.Name x p) (ex :: es) [] pos) (tCallS (spX B.K n g) EF ta) (eCall (fun ds => toD (noX g ds)) a) := by
  obtain ⟨⟨f, fd, ps, F, hm, hkp, hb⟩, hn⟩ := F
  refine ⟨hk ▸ pe_callS F hr hg hm hkp hb (fun σ => pass_no σ) ha.pe hdb he hpl, fun ρ σ H O z R e Q q => ?_⟩
  obtain ⟨ds, h1, e⟩ := bind_some e
  obtain ⟨r, h2, h3⟩ := map_some e
  subst h3
  refine ha.de ρ σ H O ds R h1 _ fun vs H1 s y => ?_
  have h2 := noX_some h2
  have R1 := R.grow s
  exact ⟨by rw [y.length]; exact hn ds (by rw [h2]; simp), O, ds, _, R1.mu, y, h2, fun v H2 s2 y2 => q v H2 (s.trans s2) (y2.d R1)⟩
theorem l_callN (F : DFX X.prog X.w X.K X.mg X.base k x n g) (hr : Room k X.A) (ha : XA X B (ex :: es) ta a) (hg : Gl X x := by rfl) (hdb : (x == ("__debug__" : Str)) = false := by decide) (he : starEach (ex :: es) X.env = (false, eval ex X.env) :: starEach es X.env := by rfl)
    (hpl : (backTo pos (starEach es X.env)).any (·.1) = false := by rfl) (hk : X.K = B.K := by rfl) :
    XL X B (.Call (.Name x p) (ex :: es) [] pos) (tCallS (spX B.K n g) EF ta) (eCall (fun ds => toL (noX g ds)) a) := by
  obtain ⟨⟨f, fd, ps, F, hm, hkp, hb⟩, hn⟩ := F
  refine ⟨hk ▸ pe_callS F hr hg hm hkp hb (fun σ => pass_no σ) ha.pe hdb he hpl, fun ρ σ H O z R e Q q => ?_⟩
  obtain ⟨ds, h1, e⟩ := bind_some e
  obtain ⟨r, h2, h3⟩ := bind_some e
  refine ha.de ρ σ H O ds R h1 _ fun vs H1 s y => ?_
  have h2 := noX_some h2
  have R1 := R.grow s
  refine ⟨by rw [y.length]; exact hn ds (by rw [h2]; simp), O, ds, _, R1.mu, y, h2, fun v H2 s2 y2 => ?_⟩
  cases r with
  | v d => cases h3
  | l es =>
    have h3 : es = z := Option.some.inj h3
    subst h3
    obtain ⟨l, us, rfl, b, c, d⟩ := y2
    exact q l us H2 (s.trans s2) (s.free b) c d
end

/-! ### try: [x =] f(..) / except OneError as e: kept = e -/
def tryK (i j : Nat) (ok : Rv → En → En) (g : List D → Option RvX) (a : En → Option (List D)) : En → Option Out := fun ρ => (a ρ).bind fun ds => match g ds with
  | some (.ok r) => some (.nx (ok r ρ))
  | some (.ex nm d) => if exN nm = true ∧ i < ρ.length then some (.nx ((ρ.set j (some (.xc nm d))).set i none)) else none
  | none => none
def sTryA (i j k : Nat) (g : List D → Option RvX) (a : En → Option (List D)) : En → Option Out := tryK i j (fun r ρ => ρ.set k (some (.ro r.d))) g a
def sTryB (i j : Nat) (g : List D → Option RvX) (a : En → Option (List D)) : En → Option Out := tryK i j (fun _ ρ => ρ) g a
def tsK (i j : Nat) : Addr → Value → Option Addr → TS := fun _ _ _ => tAsg (tVar i) (gName j)
section
variable {K : PySem.W.Frag} {B : Bs} {ρ : En} {σ : L2.St} {H H' : Hp} {O : List Addr}
theorem set_out {α : Type} {σ : List α} {i j : Nat} {x y z : α} : ((σ.set i x).set j y).set i z = (σ.set j y).set i z := by
  by_cases h : i = j
  · subst h; rw [List.set_set, List.set_set, List.set_set]
  · rw [List.set_comm _ _ h, List.set_set]
theorem wish_kept {i j : Nat} {En1 : Ends} {H1 H2 : Hp} {C d C1 : Addr} {v : V} {nm : Str} {at_ : D} {mg : Str → Option Value} (A : ExAll B.K mg) (hC1 : clsOf B.K "OneError" = some C1) (R1 : RS B.K B ρ σ H1 O) (hnm : exN nm = true) (hlt : i < ρ.length) (hi : free B i = true) (hj : free B j = true)
    (hC : clsOf B.K nm = some C) (s2 : Same H1 H2) (d0 : H1 d = none) (hd : H2 d = some (.xd [(("at" : Str), v)])) (hv : Dq B.K (hid H2 O) v at_)
    (q : ∀ σ' H', RS B.K B ((ρ.set j (some (.xc nm at_))).set i none) σ' H' O → Same (hid H1 O) (hid H' O) → En1.nx σ' H') : wKeep B.K (.ref C1) i (tsK i j) En1 (.ref C) (some d) σ H2 := by
  refine ⟨A.one nm C C1 hC hnm hC1, fun a ha => ?_⟩
  have hl : i < σ.length := by rw [← R1.len]; exact hlt
  refine ⟨.ref a, List.getElem?_set_self hl, ?_⟩
  show En1.nx (((σ.set i (some (V.ref a))).set j (some (V.ref a))).set i none) (upd H2 a (ExK (.ref C) (some d) a))
  rw [set_out]
  have R2 : RS B.K B ρ σ H2 O := R1.grow s2
  have aO : a ∉ O := R2.fresh ha
  have s3 : Same H2 (upd H2 a (ExK (.ref C) (some d) a)) := fun b o e => by
    rw [upd_ne (ne_of_none e ha)]; exact e
  have R3 : RS B.K B ρ σ (upd H2 a (ExK (.ref C) (some d) a)) O := R2.grow s3
  have dO : d ∉ O := R1.fresh d0
  have R4 : RS B.K B (ρ.set j (some (.xc nm at_))) (σ.set j (some (V.ref a))) (upd H2 a (ExK (.ref C) (some d) a)) O := by
    refine R3.setSV ⟨a, d, C, v, rfl, ?_, hC, ?_, ?_⟩ (pin_set R3 hj) fun k s' e ow _ z => ?_
    · rw [hid_out aO, upd_same]
    · rw [hid_out dO]; exact s3 _ _ hd
    · exact Dq.mono (hid_grow s3) _ _ hv
    · obtain ⟨u, e1, e2⟩ := R3.slot k s' e
      rw [e1] at z
      cases z
      cases s' with
      | ro _ => cases ow
      | lr _ => cases ow
      | xc _ _ => cases ow
      | ow _ => obtain ⟨l2, vs2, eu, b1, _⟩ := e2; cases eu; exact aO b1
      | oK _ _ => obtain ⟨l2, vs2, eu, b1, _⟩ := e2; cases eu; exact aO b1
  exact q _ _ (R4.clear i hi) (hid_grow (s2.trans s3))
theorem ds_tryA {i j k n : Nat} {g : List D → Option RvX} {ta : TA} {a : En → Option (List D)} {C1 : Addr} {mg : Str → Option Value} (A : ExAll B.K mg) (hC1 : clsOf B.K "OneError" = some C1) (hn : ∀ ds, g ds ≠ none → ds.length = n) (hi : free B i = true) (hj : free B j = true) (hk : free B k = true) (h : DA B.K B ta a) :
    DS B.K B (fun D σ H => tAsg (tCallS (spX B.K n g) (WE (wKeep B.K (.ref C1) i (tsK i j) D)) ta) (gName k) D σ H) (sTryA i j k g a) := fun ρ σ H O o R e D q => by
  obtain ⟨ds, h1, e⟩ := bind_some e
  refine h ρ σ H O ds R h1 _ fun vs H1 s x => ?_
  have R1 := R.grow s
  cases hg : g ds with
  | none => rw [hg] at e; cases e
  | some r =>
    rw [hg] at e
    refine ⟨by rw [x.length]; exact hn ds (by rw [hg]; simp), O, ds, r, R1.mu, x, hg, ?_⟩
    cases r with
    | ok r =>
      cases e
      exact fun v H2 s2 y => q _ H2 O ((R1.grow s2).setRo hk (y.d R1)) (hid_grow (s.trans s2))
    | ex nm d =>
      dsimp only at e
      split at e
      · rename_i hc
        cases e
        exact fun C dd v H2 hC s2 d0 hd hv => wish_kept A hC1 R1 hc.1 hc.2 hi hj hC s2 d0 hd hv fun σ' H' R' s' => q σ' H' O R' ((hid_grow s).trans s')
      · cases e
theorem ds_tryB {i j n : Nat} {g : List D → Option RvX} {ta : TA} {a : En → Option (List D)} {C1 : Addr} {mg : Str → Option Value} (A : ExAll B.K mg) (hC1 : clsOf B.K "OneError" = some C1) (hn : ∀ ds, g ds ≠ none → ds.length = n) (hi : free B i = true) (hj : free B j = true) (h : DA B.K B ta a) :
    DS B.K B (fun D σ H => tDrop (tCallS (spX B.K n g) (WE (wKeep B.K (.ref C1) i (tsK i j) D)) ta) D σ H) (sTryB i j g a) := fun ρ σ H O o R e D q => by
  obtain ⟨ds, h1, e⟩ := bind_some e
  refine h ρ σ H O ds R h1 _ fun vs H1 s x => ?_
  have R1 := R.grow s
  cases hg : g ds with
  | none => rw [hg] at e; cases e
  | some r =>
    rw [hg] at e
    refine ⟨by rw [x.length]; exact hn ds (by rw [hg]; simp), O, ds, r, R1.mu, x, hg, ?_⟩
    cases r with
    | ok r =>
      cases e
      exact fun v H2 s2 y => q _ H2 O (R1.grow s2) (hid_grow (s.trans s2))
    | ex nm d =>
      dsimp only at e
      split at e
      · rename_i hc
        cases e
        exact fun C dd v H2 hC s2 d0 hd hv => wish_kept A hC1 R1 hc.1 hc.2 hi hj hC s2 d0 hd hv fun σ' H' R' s' => q σ' H' O R' ((hid_grow s).trans s')
      · cases e
end
section
variable {X : Cx} {B : Bs} {i j k m n : Nat} {x en kn tn : Str} {g : List D → Option RvX} {ex : Expr} {es : List Expr} {p pos p1 p3 np p5 p6 p7 p8 p9 : Pos} {ta : TA} {a : En → Option (List D)} {C1 : Addr}
theorem s_tryA (i j k : Nat) (F : DFX X.prog X.w X.K X.mg X.base m x n g) (A : ExAll B.K X.mg) (hC1 : clsOf B.K "OneError" = some C1) (hr : Room m X.A) (ha : ∀ pn xe, XA (X.tr pn xe) B (ex :: es) ta a) (hN : X.N.Nodup)
    (hs : X.stack = X.env :: X.outer := by rfl) (hf : X.env.frame = some X.env.locals := by rfl) (hex : X.ex = [] := by rfl) (hi : X.N[i]? = some en := by rfl) (hj : X.N[j]? = some kn := by rfl) (hk : X.N[k]? = some tn := by rfl)
    (li : X.env.kindOf en = some .local := by rfl) (lj : X.env.kindOf kn = some .local := by rfl) (lk : X.env.kindOf tn = some .local := by rfl) (vi : Vis X.env.scope en := by exact Or.inl rfl)
    (hg : Gl X x := by rfl) (hg1 : Gl X "OneError" := by rfl) (hdb : (x == ("__debug__" : Str)) = false := by decide) (hde : (en == ("__debug__" : Str)) = false := by decide) (hcd : (en == ("__classdict__" : Str)) = false := by decide) (he : starEach (ex :: es) X.env = (false, eval ex X.env) :: starEach es X.env := by rfl)
    (hpl : (backTo pos (starEach es X.env)).any (·.1) = false := by rfl) (hsw : swapsWith (.Call (.Name x p) (ex :: es) [] pos) (some (.Name tn p1)) p3.line X.env = pure false := by rfl) (hsw2 : swapsWith (.Name en p6) (some (.Name kn p5)) p7.line X.env = pure false := by rfl)
    (fi : free B i = true := by rfl) (fj : free B j = true := by rfl) (fk : free B k = true := by rfl) (hK : X.K = B.K := by rfl) :
    XS X B (.Try [.Assign [.Name tn p1] (.Call (.Name x p) (ex :: es) [] pos) p3] [.ExceptHandler (some (.Name "OneError" np)) (some en) [.Assign [.Name kn p5] (.Name en p6) p7] p8] [] [] p9)
      (fun D σ H => tAsg (tCallS (spX B.K n g) (WE (wKeep B.K (.ref C1) i (tsK i j) D)) ta) (gName k) D σ H) (sTryA i j k g a) := by
  have ha0 := ha [] (fun _ _ => True)
  obtain ⟨⟨f, fd, ps, F, hm, hkp, hb⟩, hn⟩ := F
  refine ⟨?_, ds_tryA A hC1 hn fi fj fk ha0.de⟩
  have m1 : X.mg "OneError" = some (.ref C1) := A.mgN "OneError" C1 (.inr (.inr rfl)) hC1
  have PS1 := ps_try_keep (X := X) (i := i) (x := "OneError") (n := en) (c := .ref C1) (np := np) (pos := p9) (pos' := p8) (body := [.Assign [.Name tn p1] (.Call (.Name x p) (ex :: es) [] pos) p3]) (b₀ := .Assign [.Name kn p5] (.Name en p6) p7) (suite := [])
    (tb := fun W => tAsg (tCallS (spX X.K n g) (WE W) ta) (gName k)) (ts := tsK i j) hs hf hex hN hi li ⟨hg1, by decide, .inl m1⟩
    (fun W pn xe tk => pss_one (ps_set (X := X.tr pn xe) (i := k) hN hk (Or.inl lk) (pe_callS (X := X.tr pn xe) F hr hg hm hkp hb (fun σ => passAt tk σ) (ha pn xe).pe hdb he hpl) hsw (.inr lk)))
    (fun a oe cls d pn => pss_one (ps_set (X := X.suite a ((a, oe) :: pn)) (i := j) hN hj (Or.inl lj) (pe_var (X := X.suite a ((a, oe) :: pn)) hi vi hde hcd) hsw2 (.inr lj)))
  rw [hK] at PS1
  exact PS1
theorem s_tryB (i j : Nat) (F : DFX X.prog X.w X.K X.mg X.base m x n g) (A : ExAll B.K X.mg) (hC1 : clsOf B.K "OneError" = some C1) (hr : Room m X.A) (ha : ∀ pn xe, XA (X.tr pn xe) B (ex :: es) ta a) (hN : X.N.Nodup)
    (hs : X.stack = X.env :: X.outer := by rfl) (hf : X.env.frame = some X.env.locals := by rfl) (hex : X.ex = [] := by rfl) (hi : X.N[i]? = some en := by rfl) (hj : X.N[j]? = some kn := by rfl)
    (li : X.env.kindOf en = some .local := by rfl) (lj : X.env.kindOf kn = some .local := by rfl) (vi : Vis X.env.scope en := by exact Or.inl rfl)
    (hg : Gl X x := by rfl) (hg1 : Gl X "OneError" := by rfl) (hdb : (x == ("__debug__" : Str)) = false := by decide) (hde : (en == ("__debug__" : Str)) = false := by decide) (hcd : (en == ("__classdict__" : Str)) = false := by decide) (he : starEach (ex :: es) X.env = (false, eval ex X.env) :: starEach es X.env := by rfl)
    (hpl : (backTo pos (starEach es X.env)).any (·.1) = false := by rfl) (hsw : swapsWith (.Call (.Name x p) (ex :: es) [] pos) none p3.line X.env = pure false := by rfl) (hsw2 : swapsWith (.Name en p6) (some (.Name kn p5)) p7.line X.env = pure false := by rfl)
    (fi : free B i = true := by rfl) (fj : free B j = true := by rfl) (hK : X.K = B.K := by rfl) :
    XS X B (.Try [.Expr (.Call (.Name x p) (ex :: es) [] pos) p3] [.ExceptHandler (some (.Name "OneError" np)) (some en) [.Assign [.Name kn p5] (.Name en p6) p7] p8] [] [] p9)
      (fun D σ H => tDrop (tCallS (spX B.K n g) (WE (wKeep B.K (.ref C1) i (tsK i j) D)) ta) D σ H) (sTryB i j g a) := by
  have ha0 := ha [] (fun _ _ => True)
  obtain ⟨⟨f, fd, ps, F, hm, hkp, hb⟩, hn⟩ := F
  refine ⟨?_, ds_tryB A hC1 hn fi fj ha0.de⟩
  have m1 : X.mg "OneError" = some (.ref C1) := A.mgN "OneError" C1 (.inr (.inr rfl)) hC1
  have PS1 := ps_try_keep (X := X) (i := i) (x := "OneError") (n := en) (c := .ref C1) (np := np) (pos := p9) (pos' := p8) (body := [.Expr (.Call (.Name x p) (ex :: es) [] pos) p3]) (b₀ := .Assign [.Name kn p5] (.Name en p6) p7) (suite := [])
    (tb := fun W => tDrop (tCallS (spX X.K n g) (WE W) ta)) (ts := tsK i j) hs hf hex hN hi li ⟨hg1, by decide, .inl m1⟩
    (fun W pn xe tk => pss_one (ps_expr (X := X.tr pn xe) (pe_callS (X := X.tr pn xe) F hr hg hm hkp hb (fun σ => passAt tk σ) (ha pn xe).pe hdb he hpl) hsw))
    (fun a oe cls d pn => pss_one (ps_set (X := X.suite a ((a, oe) :: pn)) (i := j) hN hj (Or.inl lj) (pe_var (X := X.suite a ((a, oe) :: pn)) hi vi hde hcd) hsw2 (.inr lj)))
  rw [hK] at PS1
  exact PS1
end

/-! ### such an exception is made and raised -/
def spInit (K : PySem.W.Frag) : Sp := fun vs H Q _ => ∃ (a C : Addr) (wv v : V), vs = [.ref a, wv, v] ∧ OexC K C ∧ PySem.W.findIn K (.ref C) "at" = some none ∧ H a = some (exo a C none) ∧
  ∀ dx, H dx = none → dx ≠ a → Q .non (upd (upd H dx (exd dx [(("at" : Str), v)])) a (exo a C (some dx)))
def tInit (K : PySem.W.Frag) : TS := tSeq (tDrop (tVeI K (tCons (tVar 0) (tCons (tVar 1) tNil)))) (tOst K "at" (tVar 0) (tVar 2))
theorem pure_init {K : PySem.W.Frag} (vs : List V) (H : Hp) (Q : VK) (E : XK) (h : spInit K vs H Q E) : tInit K { nx := fun _ H' => Q .non H', rt := Q } (start ["self", "words", "at"] vs) H := by
  obtain ⟨a, C, wv, v, rfl, T, na, ha, q⟩ := h
  exact ⟨_, rfl, _, rfl, a, C, [wv], rfl, by show 1 ≤ 1000; decide, T, ha, _, rfl, _, rfl, a, C, rfl, T, na, .inl ⟨ha, fun dx h1 h2 => q dx h1 h2⟩⟩
/-- what the written part says of the making -/
structure RaiseF (P : Program) (w : World) (K : PySem.W.Frag) (mg : Str → Option Value) (base : Heap) (k : Nat) : Prop where
  ini : ∃ f1 fd, FnOk P w K mg base CX0 k f1 fd ["self", "words", "at"] (spInit K) ∧ Binds K fd ["self", "words", "at"] [] ∧ PySem.W.typeIn K (.ref f1) = some (.type "function") ∧
    ∀ nm C, clsOf K nm = some C → exN nm = true → OexC K C ∧ PySem.W.findIn K (.ref C) "__init__" = some (some (.ref f1))
  all : ExAll K mg
def sRaise (nm : Str) (f : En → Option D) : En → Option Out := fun ρ => (f ρ).map fun d => .ex nm d
section
variable {X : Cx} {B : Bs} {k : Nat} {nm wd : Str} {C : Addr} {ex : Expr} {te : TE} {f : En → Option D} {jk : Option Str} {p pos pos2 pw : Pos}
theorem s_raise (RF : RaiseF X.prog X.w X.K X.mg X.base k) (hC : clsOf X.K nm = some C) (hn : nm = "NoProgram" ∨ nm = "NoTree") (hr : Room (k + 1) X.A) (tk : Takes X B.W) (hw : PE X (.Constant (.str wd) 0 pw) (tC (.str wd))) (ha : XE X B ex te f)
    (hc : X.calm = true := by rfl) (hg : Gl X nm := by rfl) (hdb : (nm == ("__debug__" : Str)) = false := by decide)
    (he : starEach (.Constant (.str wd) 0 pw :: [ex]) X.env = (false, eval (.Constant (.str wd) 0 pw) X.env) :: starEach [ex] X.env := by rfl) (h1 : starEach (ex :: []) X.env = (false, eval ex X.env) :: starEach [] X.env := by rfl)
    (hpl : (backTo pos (starEach [ex] X.env)).any (·.1) = false := by rfl) (hK : X.K = B.K := by rfl) :
    XS X B (.Raise (some (.Call (.Name nm p) [.Constant (.str wd) 0 pw, ex] [] pos)) none pos2) (fun _ σ H => tMkO C (spInit X.K) [] (tCons (tC (.str wd)) (tCons te tNil)) σ H fun cls d H' => B.W cls d σ H') (sRaise nm f) := by
  obtain ⟨⟨f1, fd, F1, hb, tI, hcl⟩, A⟩ := RF
  have hnm : exN nm = true := by
    rcases hn with h | h <;> (subst h; decide +kernel)
  obtain ⟨T, iC⟩ := hcl nm C hC hnm
  have hm : X.mg nm = some (.ref C) := A.mgN nm C (by rcases hn with h | h; exact .inl h; exact .inr (.inl h)) hC
  have na := (A.F nm C hC hnm).na
  refine ⟨ps_raise hc tk (pmk_oex T iC tI F1 hr hb .nil pass0 hg hm (pa_cons hw (pa_cons ha.pe pa_nil h1) he) hdb he hpl), fun ρ σ H O o R e D q => ?_⟩
  obtain ⟨d, h2, e⟩ := map_some e
  subst e
  show te σ H _
  refine ha.de ρ σ H O d R h2 _ fun v H1 s x => ⟨by show 2 ≤ 1000; decide, fun a ha => ⟨a, C, _, v, rfl, T, na, upd_same, fun dx hdx hne => ?_⟩⟩
  have R1 := R.grow s
  have h0 : H1 dx = none := by rw [upd_ne hne] at hdx; exact hdx
  refine ⟨rfl, dx, [(("at" : Str), v)], upd_same, by rw [upd_ne hne, upd_same], h0, ?_⟩
  have s3 : Same H1 (upd (del (upd (upd (upd H1 a (exo a C none)) dx (exd dx [(("at" : Str), v)])) a (exo a C (some dx))) a) dx (.xd [(("at" : Str), v)])) := fun b o e => by
    have n1 : b ≠ a := ne_of_none e ha
    have n2 : b ≠ dx := ne_of_none e h0
    rw [upd_ne n2, del_ne n1, upd_ne n1, upd_ne n2, upd_ne n1]
    exact e
  exact q C dx v ρ σ _ O (R1.grow s3) (hK ▸ hC) (R1.fresh0 h0) upd_same (R1.fresh h0) (Dq.mono (hid_grow s3) _ _ x)
end
section
variable {X : Cx} {B : Bs} {i : Nat} {pos : Pos} {ex e0 : Expr}
theorem t_kNon (ha : PE X ex (tVar i)) (hz : PE X e0 (tC .non)) (hm : behindInMarks .Is e0 = false := by rfl) : XT X B (.Compare ex [.Is] [e0] pos) (tTest (tOp rIsA (tVar i) (tC .non))) (asB (kNon false i)) :=
  ⟨pt_cmpR op_isA ha hz hm, dt_test (x_kNon (pos := pos) ha hz hm).de⟩
end
theorem exn_cases {nm : Str} (h : exN nm = true) : nm = "NoProgram" ∨ nm = "NoTree" := by
  unfold exN at h
  rcases Bool.or_eq_true_iff.mp h with h | h
  · exact .inl (eq_of_beq h)
  · exact .inr (eq_of_beq h)
/-- from what the written part says of each class -/
theorem exall_mk {K : PySem.W.Frag} {mg : Str → Option Value} {CP CT C1 : Addr} (hP : clsOf K "NoProgram" = some CP) (hT : clsOf K "NoTree" = some CT) (h1 : clsOf K "OneError" = some C1) (fP : ExF K CP) (fT : ExF K CT) (G : ClF K)
    (pp : PySem.W.kitOne K (.ref CP) (.ref CP) = some true) (pt : PySem.W.kitOne K (.ref CP) (.ref CT) = some false) (tp : PySem.W.kitOne K (.ref CT) (.ref CP) = some false) (tt : PySem.W.kitOne K (.ref CT) (.ref CT) = some true)
    (pv : PySem.W.kitOne K (.ref CP) (.type "ValueError") = some true) (tv : PySem.W.kitOne K (.ref CT) (.type "ValueError") = some true)
    (np : PySem.W.kitOne K (.type "NoneType") (.ref CP) = some false) (nt : PySem.W.kitOne K (.type "NoneType") (.ref CT) = some false) (nv : PySem.W.kitOne K (.type "NoneType") (.type "ValueError") = some false)
    (op : PySem.W.exmOne K (.ref CP) (.ref C1) = some true) (ot : PySem.W.exmOne K (.ref CT) (.ref C1) = some true) (mP : mg "NoProgram" = some (.ref CP)) (mT : mg "NoTree" = some (.ref CT)) (m1 : mg "OneError" = some (.ref C1)) (mV : mg "ValueError" = none) : ExAll K mg where
  F := fun nm C hC h => by
    rcases exn_cases h with rfl | rfl
    · rw [hP] at hC; cases hC; exact fP
    · rw [hT] at hC; cases hC; exact fT
  G := G
  own := fun nm C b C' hC hb hC' r hr => by
    have c0 : ((Str.ofString "NoTree") = (Str.ofString "NoProgram")) = False := eq_false (by decide +kernel)
    have c1 : ((Str.ofString "NoProgram") = (Str.ofString "NoTree")) = False := eq_false (by decide +kernel)
    have hn : nm = "NoProgram" ∨ nm = "NoTree" := by
      unfold subN at hr
      split at hr
      · rename_i h; exact .inl h
      · split at hr
        · rename_i h; exact .inr h
        · cases hr
    rcases hn with rfl | rfl <;> rcases hb with rfl | rfl
    · rw [hP] at hC hC'; cases hC; cases hC'
      have : true = r := by unfold subN at hr; simpa using hr
      subst this; exact pp
    · rw [hP] at hC; rw [hT] at hC'; cases hC; cases hC'
      have : false = r := by unfold subN at hr; rw [if_pos rfl, if_neg (by rw [c0]; exact id), if_pos rfl] at hr; exact Option.some.inj hr
      subst this; exact pt
    · rw [hT] at hC; rw [hP] at hC'; cases hC; cases hC'
      have : false = r := by unfold subN at hr; rw [if_neg (by rw [c0]; exact id), if_pos rfl, if_pos rfl] at hr; exact Option.some.inj hr
      subst this; exact tp
    · rw [hT] at hC hC'; cases hC; cases hC'
      have : true = r := by unfold subN at hr; rw [if_neg (by rw [c0]; exact id), if_pos rfl, if_neg (by rw [c0]; exact id), if_pos rfl] at hr; exact Option.some.inj hr
      subst this; exact tt
  ve := fun nm C hC h => by
    rcases exn_cases h with rfl | rfl
    · rw [hP] at hC; cases hC; exact pv
    · rw [hT] at hC; cases hC; exact tv
  non := fun b C' hb hC' => by
    rcases hb with rfl | rfl
    · rw [hP] at hC'; cases hC'; exact np
    · rw [hT] at hC'; cases hC'; exact nt
  nve := nv
  one := fun nm C C' hC h hC' => by
    rw [h1] at hC'; cases hC'
    rcases exn_cases h with rfl | rfl
    · rw [hP] at hC; cases hC; exact op
    · rw [hT] at hC; cases hC; exact ot
  mgN := fun b C hb hC => by
    rcases hb with rfl | rfl | rfl
    · rw [hP] at hC; cases hC; exact mP
    · rw [hT] at hC; cases hC; exact mT
    · rw [h1] at hC; cases hC; exact m1
  has := fun b hb => by
    rcases hb with rfl | rfl | rfl
    · exact ⟨_, hP⟩
    · exact ⟨_, hT⟩
    · exact ⟨_, h1⟩
  mgV := mV
theorem cls_of {K : PySem.W.Frag} {nm : Str} {C : Addr} (h : PySem.W.nsIn K mainGlobals nm = some (some (.ref C))) : clsOf K nm = some C := by
  unfold clsOf; rw [h]
theorem raise_mk {P : Program} {w : World} {K : PySem.W.Frag} {mg : Str → Option Value} {base : Heap} {k : Nat} {CP CT f1 : Addr} {fd : FuncData} (A : ExAll K mg) (hP : clsOf K "NoProgram" = some CP) (hT : clsOf K "NoTree" = some CT) (F : FnOk P w K mg base CX0 k f1 fd ["self", "words", "at"] (spInit K))
    (hb : Binds K fd ["self", "words", "at"] []) (tI : PySem.W.typeIn K (.ref f1) = some (.type "function")) (oP : OexC K CP) (oT : OexC K CT) (iP : PySem.W.findIn K (.ref CP) "__init__" = some (some (.ref f1))) (iT : PySem.W.findIn K (.ref CT) "__init__" = some (some (.ref f1))) : RaiseF P w K mg base k :=
  ⟨⟨f1, fd, F, hb, tI, fun nm C hC h => by
    rcases exn_cases h with rfl | rfl
    · rw [hP] at hC; cases hC; exact ⟨oP, iP⟩
    · rw [hT] at hC; cases hC; exact ⟨oT, iT⟩⟩, A⟩
theorem kit_cl {K : PySem.W.Frag} {t : Value} {C : Addr} {b : Bool} (i : PySem.W.isClsIn K C = true) (y : PySem.W.typeIn K (.ref C) = some (.type "type")) (s : PySem.W.subIn K t (.ref C) = some b) : PySem.W.kitCls K t (.ref C) = some b := by
  have i' : (PySem.W.clsIn K C).isSome = true := i
  show (if ((PySem.W.clsIn K C).isSome && PySem.W.typeIn K (.ref C) == some (.type "type")) = true then PySem.W.subIn K t (.ref C) else none) = some b
  rw [if_pos (by rw [i', y]; rfl)]
  exact s
theorem kit_self {K : PySem.W.Frag} {t : Value} : PySem.W.kitOne K t t = some true := if_pos (by simp)
theorem kit_two {K : PySem.W.Frag} {C C' : Addr} {b : Bool} (i : PySem.W.isClsIn K C' = true) (y : PySem.W.typeIn K (.ref C') = some (.type "type")) (s : PySem.W.subIn K (.ref C) (.ref C') = some b) (s' : PySem.W.subIn K (.ref C) (.ref C) = some true) : PySem.W.kitOne K (.ref C) (.ref C') = some b := by
  unfold PySem.W.kitOne
  split
  · rename_i h
    cases eq_of_beq h
    rw [s] at s'
    exact s'.symm
  · exact kit_cl i y s
theorem kit_ve {K : PySem.W.Frag} {C : Addr} {b : Bool} (s : PySem.W.subIn K (.ref C) (.type "ValueError") = some b) : PySem.W.kitOne K (.ref C) (.type "ValueError") = some b := by
  have m : PySem.W.kitMeta "ValueError" = true := by decide +kernel
  unfold PySem.W.kitOne
  rw [if_neg fun z => by cases eq_of_beq z]
  show (if PySem.W.kitMeta "ValueError" = true then PySem.W.subIn K (.ref C) (.type "ValueError") else none) = some b
  rw [if_pos m]
  exact s
theorem kit_nn {K : PySem.W.Frag} {C : Addr} {b : Bool} (i : PySem.W.isClsIn K C = true) (y : PySem.W.typeIn K (.ref C) = some (.type "type")) (s : PySem.W.subIn K (.type "NoneType") (.ref C) = some b) : PySem.W.kitOne K (.type "NoneType") (.ref C) = some b := by
  unfold PySem.W.kitOne
  rw [if_neg fun z => by cases eq_of_beq z]
  exact kit_cl i y s
theorem kit_nv {K : PySem.W.Frag} : PySem.W.kitOne K (.type "NoneType") (.type "ValueError") = some false := kit_ty (by decide +kernel)
theorem exm_cl {K : PySem.W.Frag} {t : Value} {C : Addr} {b : Bool} (i : PySem.W.isClsIn K C = true) (y : PySem.W.typeIn K (.ref C) = some (.type "type")) (e : PySem.W.subIn K (.ref C) (.type "BaseException") = some true) (s : PySem.W.subIn K t (.ref C) = some b) : PySem.W.exmOne K t (.ref C) = some b := by
  unfold PySem.W.exmOne
  rw [if_pos (by rw [e]; rfl)]
  exact kit_cl i y s
/-! ### a part of a tuple as a key -/
def kysD (d : D) (l h : Option Int) : Option Ky := match d with
  | .tuple ds => if HT.sIx ds.length 0 l = 0 ∧ HT.sIx ds.length ds.length h = ds.length then none else (toKs (cutD ds l h)).map .inr
  | _ => none
def kyS (f : En → Option D) (fl fh : En → Option (Option Int)) : En → Option Ky := fun ρ => (f ρ).bind fun d => (fl ρ).bind fun l => (fh ρ).bind fun h => kysD d l h
theorem dky_sl {K : PySem.W.Frag} {B : Bs} {te : TE} {tl th : TO} {f : En → Option D} {fl fh : En → Option (Option Int)} (he : DB K B te f) (hl : DO K B tl fl) (hh : DO K B th fh) : DKy K B (tSl (rSlX K) te tl th) (kyS f fl fh) := fun ρ σ H O k R e Q q => by
  obtain ⟨d, h1, e⟩ := bind_some e
  obtain ⟨l, h2, e⟩ := bind_some e
  obtain ⟨h, h3, e⟩ := bind_some e
  refine he ρ σ H O d R h1 _ fun v H1 s1 x => hl ρ σ H1 O l (R.grow s1) h2 _ fun H2 s2 => hh ρ σ H2 O h (R.grow (s1.trans s2)) h3 _ fun H3 s3 => ?_
  have y := x.grow (R.grow s1) (s2.trans s3)
  unfold kysD at e
  split at e
  · rename_i ds
    split at e
    · cases e
    · rename_i hw
      obtain ⟨ks, h4, e⟩ := map_some e
      subst e
      obtain ⟨p, vs, rfl, hp, ap⟩ := y.tup
      refine .inl ⟨p, vs, rfl, SqT.mono (hid_self _ _) hp, fun c => ?_, fun _ r hr => ?_⟩
      · rw [ap.length] at c
        exact absurd c hw
      · refine q _ _ ((s1.trans (s2.trans s3)).trans (same_new _ hr)) ⟨r, rfl, ?_⟩
        rw [upd_same, dq_keys (cut_all ap l h) h4]
  · cases e
theorem ky_sl {X : Cx} {B : Bs} {ex : Expr} {lo hi : Option Expr} {p2 pos : Pos} {te : TE} {tl th : TO} {f : En → Option D} {fl fh : En → Option (Option Int)} (he : XB X B ex te f) (hl : XO X B lo tl fl) (hh : XO X B hi th fh) (hk : X.K = B.K := by rfl) :
    XKy X B (.Subscript ex (.Slice lo hi none p2) pos) (tSl (rSlX B.K) te tl th) (kyS f fl fh) := ⟨(x_sl he hl hh hk).pe, dky_sl he.de hl.de hh.de⟩
/-! ### list.insert -/
def rIns : V → List V → Hp → VK → Prop := fun x vs H Q => ∃ (l : Addr) (xs : List V) (i : Int) (y : V), x = .ref l ∧ vs = [.int i, y] ∧ H l = some (.lst xs) ∧ xs.length < sizeLine ∧ 0 ≤ i ∧ i < 2 ^ 63 ∧ Q .non (upd H l (.lst (xs.take i.toNat ++ [y] ++ xs.drop i.toNat)))
def sIns (i : Nat) (a : En → Option (List D)) : En → Option Out := fun ρ => match ρ[i]? with
  | some (some (.ow ds)) => match a ρ with
    | some [.int k, d] => if ds.length < 1000000 ∧ 0 ≤ k ∧ k < 1000000 then some (.nx (ρ.set i (some (.ow (ds.take k.toNat ++ [d] ++ ds.drop k.toNat))))) else none
    | _ => none
  | _ => none
theorem ds_ins {K : PySem.W.Frag} {B : Bs} {i : Nat} {ta : TA} {a : En → Option (List D)} (h : DA K B ta a) : DS K B (tDrop (tBM K "list" rIns (tVar i) ta)) (sIns i a) := fun ρ σ H O o R e D q => by
  unfold sIns at e
  split at e
  · rename_i ds hs
    split at e
    · rename_i k d ha
      split at e
      · rename_i c
        have e := Option.some.inj e
        subst e
        obtain ⟨v, hv, l, vs, rfl, b1, b2, b3, b4⟩ := R.slot _ _ hs
        refine ⟨_, hv, .inl ⟨rfl, vs, SqL.of b3⟩, h ρ σ H O _ R ha _ fun xs H1 s y => ?_⟩
        cases y with
        | cons y1 y2 =>
          cases y2 with
          | cons y2 y3 =>
            cases y3
            cases y1
            rename_i u
            refine ⟨l, vs, k, u, rfl, rfl, s _ _ b3, lineL (by rw [b4.length]; exact c.1), c.2.1, by omega, ?_⟩
            have R1 := R.grow s
            have b5 := DqAll.mono (hid_grow s) _ _ b4
            refine q σ _ O (R1.write hs hv (((b5.take k.toNat).append (.one y2)).append (b5.drop k.toNat))) ?_
            rw [hid_write _ b1]
            exact hid_grow s
      · cases e
    · cases e
  · cases e
section
variable {X : Cx} {B : Bs} {p p2 pos apos cpos : Pos} {ei ex : Expr} {ta : TA} {a : En → Option (List D)}
theorem s_ins (i : Nat) {on : Expr} (ho : PE X on (tVar i)) (ha : XA X B (ei :: [ex]) ta a)
    (hbase : attributeBase on "insert" X.env (eval on X.env) = eval on X.env := by rfl)
    (hfew : ((backTo cpos (starEach (ei :: [ex]) X.env)).all (fun x => !x.1) && (backToKw cpos (keywordEach [] X.env)).all (fun x => x.1.isSome)
      && decide ((ei :: [ex]).length + ([] : List Keyword).length + (if ([] : List Keyword).isEmpty then 0 else 1) < 30)) = true := by rfl)
    (hline : (apos.endLine == cpos.line) = true := by rfl) (hs1 : starEach (ei :: [ex]) X.env = (false, eval ei X.env) :: starEach [ex] X.env := by rfl) (hplain : (backTo cpos (starEach [ex] X.env)).any (·.1) = false := by rfl)
    (hs : swapsWith (.Call (.Attribute on "insert" apos) (ei :: [ex]) [] cpos) none pos.line X.env = pure false := by rfl) (hk : X.K = B.K := by rfl) :
    XS X B (.Expr (.Call (.Attribute on "insert" apos) (ei :: [ex]) [] cpos) pos) (tDrop (tBM B.K "list" rIns (tVar i) ta)) (sIns i a) :=
  ⟨hk ▸ ps_expr (pe_bm PySem.F.plainAttrs_list PySem.F.slot_list_insert PySem.F.type_list_insert mt_insert ho ha.pe hbase hfew hline hs1 hplain) hs, ds_ins ha.de⟩
end
end Z

set_option Elab.async false
set_option maxRecDepth 100000
set_option maxHeartbeats 4000000
set_option linter.all false
/-! ZJ: min of a list of numbers, with a default -/
namespace Z
open PySem PySem.Spec PyProof.Rows L2
def rMinD (K : PySem.W.Frag) : List V → List V → Hp → VK → Prop := fun xs zs H Q => ∃ (a : Addr) (ns : List Int) (d : Int), xs = [V.ref a] ∧ zs = [V.int d] ∧ SqL K H a (ns.map V.int) ∧ (ns = [] → Q (.int d) H) ∧ ∀ m, m ∈ ns → (∀ y, y ∈ ns → m ≤ y) → Q (.int m) H
theorem depth_ints : ∀ ns : List Int, PyData.depthAll (ns.map PyData.int) = 0
  | [] => rfl
  | n :: ns => by
    show max (PyData.int n).depth (PyData.depthAll (ns.map PyData.int)) = 0
    rw [depth_ints ns]; rfl
theorem foldl_min : ∀ (n : Int) (ns : List Int), ns.foldl min n ∈ n :: ns ∧ ∀ y ∈ n :: ns, ns.foldl min n ≤ y
  | n, [] => ⟨List.mem_cons_self, fun y hy => by rcases List.mem_singleton.mp hy with rfl; exact Int.le_refl _⟩
  | n, k :: ns => by
    obtain ⟨h1, h2⟩ := foldl_min (min n k) ns
    show ns.foldl min (min n k) ∈ _ ∧ ∀ y ∈ n :: k :: ns, ns.foldl min (min n k) ≤ y
    have h3 := h2 (min n k) List.mem_cons_self
    refine ⟨?_, fun y hy => ?_⟩
    · rcases List.mem_cons.mp h1 with h | h
      · rw [h]
        rcases (show min n k = n ∨ min n k = k by omega) with e | e
        · rw [e]; exact List.mem_cons_self
        · rw [e]; exact List.mem_cons_of_mem _ List.mem_cons_self
      · exact List.mem_cons_of_mem _ (List.mem_cons_of_mem _ h)
    · rcases List.mem_cons.mp hy with rfl | hy
      · omega
      · rcases List.mem_cons.mp hy with rfl | hy
        · omega
        · exact h2 y (List.mem_cons_of_mem _ hy)
theorem cr_minD {X : Cx} (hc : X.calm = true) (hu : X.A.units + 1 < cLine) : CallRK X (.builtin "min") ["default"] (rMinD X.K) := by
  intro pins s σ H xs zs us ws Q I r rz h
  obtain ⟨a, ns, d, rfl, rfl, hs, h0, h1⟩ := h
  obtain ⟨its, rv, hl, _⟩ := I.list hs
  rw [Vals.ref1 r]
  cases rz with
  | cons r1 r2 =>
    cases r2
    obtain ⟨t, rfl⟩ := r1
    have hi := rv.ints
    have hr := ints_readAll s.heap hi
    refine PySem.W.min_list_default (I.ok.hd hc) hl.isList hr ⟨fun x hx y hy => ?_, fun x hx => ?_⟩ (by rw [depth_ints]; omega) (fun e h' tk hk => ?_) fun y ys i v h' tk bs e hv hrd hk => ?_
    · obtain ⟨i, _, rfl⟩ := List.mem_map.mp hx
      obtain ⟨j, _, rfl⟩ := List.mem_map.mp hy
      rfl
    · obtain ⟨i, _, rfl⟩ := List.mem_map.mp hx
      exact fun z => nomatch z
    · exact ⟨.int d, H, I.kept hk, ⟨_, rfl⟩, h0 (List.map_eq_nil_iff.mp e)⟩
    · cases ns with
      | nil => cases e
      | cons n ns =>
        rw [List.map_cons] at e
        obtain ⟨rfl, rfl⟩ := List.cons.inj e
        rw [PySem.W.minD_ints] at hrd
        cases hrd
        obtain ⟨m1, m2⟩ := foldl_min n ns
        exact ⟨.int _, H, I.kept hk, ⟨_, rfl⟩, h1 _ m1 m2⟩
def minDD (ds : List D) (d : D) : Option D := match ds, d with
  | [.list es], .int k => (allI es).map fun ns => .int (if ns.isEmpty then k else leastI ns)
  | _, _ => none
def eMinD (a : En → Option (List D)) (fd : En → Option D) : En → Option D := fun ρ => (a ρ).bind fun ds => (fd ρ).bind fun d => minDD ds d
theorem de_minD {K : PySem.W.Frag} {B : Bs} {ta : TA} {tk : TE} {a : En → Option (List D)} {fd : En → Option D} (ha : DAB K B ta a) (hk : DE K B tk fd) : DE K B (tCKw (rMinD K) ta (tCons tk tNil)) (eMinD a fd) := fun ρ σ H O z R e Q q => by
  obtain ⟨ds, h1, e⟩ := bind_some e
  obtain ⟨d, h2, e⟩ := bind_some e
  refine ha ρ σ H O ds R h1 _ fun vs H1 s1 x => hk ρ σ H1 O d (R.grow s1) h2 _ fun v H2 s2 y => ?_
  have x2 := BoAll.grow (R.grow s1) s2 x
  unfold minDD at e
  split at e
  · obtain ⟨ns, h3, e⟩ := map_some e
    subst e
    have h3 := allI_some h3
    subst h3
    obtain ⟨u, rfl, b⟩ := bo1 x2
    obtain ⟨p, us, rfl, hp, ap⟩ := b.list
    rw [ap.ints] at hp
    cases y
    refine ⟨p, ns, _, rfl, rfl, hp, fun e => ?_, fun m hm hl => ?_⟩
    · subst e
      exact q _ H2 (s1.trans s2) (.int _)
    · have hne : ns.isEmpty = false := by
        cases ns with
        | nil => cases hm
        | cons _ _ => rfl
      have := leastI_is hm hl
      rw [hne, if_neg Bool.false_ne_true, this] at q
      exact q _ H2 (s1.trans s2) (.int _)
  · cases e
theorem x_minD {X : Cx} {B : Bs} {ex ek : Expr} {p kp pos : Pos} {ta : TA} {tk : TE} {a : En → Option (List D)} {fd : En → Option D} (hu : X.A.units + 1 < cLine) (hm : X.mg "min" = none) (ha : XAB X B [ex] ta a) (hk : XE X B ek tk fd) (hc : X.calm = true := by rfl) (hg : Gl X "min" := by rfl)
    (he : backTo pos (starEach (ex :: []) X.env) = (false, eval ex X.env) :: backTo pos (starEach [] X.env) := by rfl) (hpl : (backTo pos (starEach (ex :: []) X.env)).any (·.1) = false := by rfl)
    (hall : (backToKw pos (keywordEach [⟨some "default", ek, kp⟩] X.env)).all (·.1.isSome) = true := by rfl) (hnone : (backToKw pos (keywordEach [⟨some "default", ek, kp⟩] X.env)).any (·.1.isNone) = false := by rfl)
    (hks : (backToKw pos (keywordEach [⟨some "default", ek, kp⟩] X.env)).filterMap (·.1) = [("default" : Str)] := by rfl) (hK : X.K = B.K := by rfl) :
    XE X B (.Call (.Name "min" p) [ex] [⟨some "default", ek, kp⟩] pos) (tCKw (rMinD B.K) ta (tCons tk tNil)) (eMinD a fd) :=
  ⟨hK ▸ pe_callBK (cr_minD hc hu) hg hm PyProof.Rows.boot_min ha.pe (pk_cons hk.pe pk_nil) (by decide) (by decide) he hpl hall hnone hks, de_minD ha.de hk.de⟩
def upD (d : D) : Option D := match d with
  | .str a => if a.length ≤ 5592405 then some (.str (Txt.upper a)) else none
  | _ => none
theorem x_upper {X : Cx} {B : Bs} {o : Expr} {to : TE} {f : En → Option D} {apos pos : Pos} (ho : XE X B o to f) (hbase : attributeBase o "upper" X.env (eval o X.env) = eval o X.env := by rfl) (hline : (apos.endLine == pos.line) = true := by rfl) :
    XE X B (.Call (.Attribute o "upper" apos) [] [] pos) (tM0 (fun x xs H Q => ∃ a, x = .str a ∧ xs = [] ∧ a.length ≤ 5592405 ∧ Q (.str (Txt.upper a)) H) to) (e1 upD f) :=
  ⟨pe_upper ho.pe hbase hline, fun ρ σ H O z R e Q q => by
    obtain ⟨d, h1, e⟩ := bind_some e
    unfold upD at e
    split at e
    · split at e
      · rename_i c
        cases e
        refine ho.de ρ σ H O _ R h1 _ fun v H1 s x => ?_
        cases x
        exact ⟨⟨_, rfl⟩, _, rfl, rfl, c, q _ H1 s (.str _)⟩
      · cases e
    · cases e⟩
end Z

set_option Elab.async false
set_option maxRecDepth 100000
set_option maxHeartbeats 4000000
set_option linter.all false
/-! ZK: i << j, dict(d), != of dicts -/
namespace Z
open PySem PySem.Spec PyProof.Rows L2
def shlD : D → D → Option D := iiD fun i j => if 0 ≤ j ∧ j ≤ 1000 ∧ -18446744073709551616 < i ∧ i < 18446744073709551616 then some (.int (i * 2 ^ j.toNat)) else none
section
variable {K : PySem.W.Frag} {B : Bs}
theorem opd_shl : OpD K B (rI CPow fun i j => .int (i * 2 ^ j.toNat)) shlD := opd_int fun d e z k => by
  obtain ⟨i, j, rfl, rfl, k2⟩ := iiD_some k
  split at k2
  · rename_i c
    cases k2
    refine ⟨i, j, rfl, rfl, ⟨c.1, by omega, ?_⟩, fun _ => .int _⟩
    have : ((2 : Nat) ^ 64) = 18446744073709551616 := by decide
    rw [this]; omega
  · cases k2
/-! ### dict(d), a copy -/
def keyOf : D → Option Key
  | .int i => some (.inl i)
  | .str s => some (.inr s)
  | _ => none
theorem keyOf_kD (k : Key) : keyOf (kD k) = some k := by cases k <;> rfl
def plainK (ds : List (D × D)) : Bool := ds.all fun p => (keyOf p.1).isSome
def dictD : List D → Option D
  | [.dict ds] => if plainK ds = true then some (.dict ds) else none
  | _ => none
theorem not_marked {G : Hp} : ∀ {kvs : List (List Key × V)} {ds : List (D × D)}, DqTv K G kvs ds → plainK ds = false
  | _, _, .nil => rfl
  | _, _, .cons _ _ => rfl
def rDict : List V → Hp → VK → Prop := fun xs H Q => ∃ (a : Addr) (kvs : List (Key × V)), xs = [.ref a] ∧ Rd H a (.dK kvs) ∧ ∀ p, H p = none → Q (.ref p) (upd H p (.dK kvs))
theorem bo_dict {H : Hp} {O : List Addr} {v : V} {ds : List (D × D)} (h : Bo K H O v (.dict ds)) (hp : plainK ds = true) : ∃ a kvs, v = .ref a ∧ H a = some (.dK kvs) ∧ DqKv K (hid H O) kvs ds := by
  rcases h with h | ⟨l, vs, ds', rfl, e, m, h, a⟩ | ⟨l, o, tt, kvs, rfl, e, m, h, a⟩
  · cases h with
    | dic h1 h2 => exact ⟨_, _, rfl, (of_hid h1).2, h2⟩
    | dct h1 h2 => rw [not_marked h2] at hp; cases hp
    | ins _ _ _ => cases hp
  · cases e
  · injection e with e
    rcases a with ⟨rfl, vs, rfl, c⟩ | ⟨rfl, vs, rfl, c⟩
    · exact ⟨_, _, rfl, h, by rw [e]; exact c⟩
    · rw [e] at hp
      rw [show tails true kvs = kvs ++ [mark] from rfl, not_marked c] at hp; cases hp
theorem opc_dict : OpC K B rDict dictD := fun ρ σ H O vs ds z R a k Q q => by
  unfold dictD at k
  split at k
  · rename_i es
    split at k
    · rename_i hp
      cases k
      obtain ⟨v, rfl, b⟩ := bo1 a
      obtain ⟨p, kvs, rfl, h1, h2⟩ := bo_dict b hp
      refine ⟨p, kvs, rfl, .inl h1, fun r hr => q _ _ (same_new _ hr) (.dic ?_ (DqKv.mono (hid_grow (same_new _ hr)) _ _ h2))⟩
      rw [hid_out (R.fresh hr), upd_same]
    · cases k
  · cases k
/-! ### dicts that are alike -/
def kvLike (n : Nat) : List (D × D) → List (D × D) → Bool
  | [], [] => true
  | p :: ps, q :: qs => decide (keyOf p.1 = keyOf q.1) && (keyOf q.1).isSome && (qs.all fun r => decide (keyOf r.1 ≠ keyOf q.1)) && PyData.eqv p.2 q.2 && PyData.canLay0 p.2 && PyData.canLay0 q.2 && decide (p.2.depth ≤ n) && kvLike n ps qs
  | _, _ => false
def neKD (n : Nat) (d e : D) : Option D := match d, e with
  | .dict ds, .dict es => if kvLike n ds es = true then some (.bool false) else none
  | _, _ => none
def eqKD (n : Nat) (d e : D) : Option D := match d, e with
  | .dict ds, .dict es => if kvLike n ds es = true then some (.bool true) else none
  | _, _ => none
theorem kvLike_plain {n : Nat} : ∀ {ds es : List (D × D)}, kvLike n ds es = true → plainK ds = true ∧ plainK es = true ∧ ds.length = es.length
  | [], [], _ => ⟨rfl, rfl, rfl⟩
  | p :: ps, q :: qs, h => by
    simp only [kvLike, Bool.and_eq_true, decide_eq_true_eq] at h
    obtain ⟨⟨⟨⟨⟨⟨⟨h1, h2⟩, h3⟩, h4⟩, h5⟩, h6⟩, h7⟩, h8⟩ := h
    obtain ⟨a, b, c⟩ := kvLike_plain h8
    refine ⟨?_, ?_, by rw [List.length_cons, List.length_cons, c]⟩
    · show ((keyOf p.1).isSome && plainK ps) = true
      rw [h1, h2, a]; rfl
    · show ((keyOf q.1).isSome && plainK qs) = true
      rw [h2, b]; rfl
  | [], _ :: _, h => by cases h
  | _ :: _, [], h => by cases h
theorem kv_at {G : Hp} : ∀ {ls : List (Key × V)} {es : List (D × D)} {k : Key} {e : D}, DqKv K G ls es → (∀ q ∈ es, keyOf q.1 = some k → q.2 = e) → (∃ q ∈ es, keyOf q.1 = some k) → ∃ y, valV ls k = some y ∧ Dq K G y e
  | _, _, k, e, .nil, _, h => by obtain ⟨_, h, _⟩ := h; cases h
  | _, _, k, e, .cons (k := k0) (v := v0) (d := d0) h t, hu, hx => by
    by_cases c : k0 = k
    · subst c
      have := hu _ List.mem_cons_self (keyOf_kD k0)
      refine ⟨v0, valV_pos rfl, ?_⟩
      rw [← this]; exact h
    · obtain ⟨y, h1, h2⟩ := kv_at (k := k) (e := e) t (fun q hq => hu q (List.mem_cons_of_mem _ hq)) (by
        obtain ⟨q, hq, hk⟩ := hx
        rcases List.mem_cons.mp hq with rfl | hq
        · rw [keyOf_kD] at hk
          exact absurd (Option.some.inj hk) c
        · exact ⟨q, hq, hk⟩)
      exact ⟨y, by rw [valV_neg (fun z => c z)]; exact h1, h2⟩
/-- what kvLike tells of each key -/
theorem kvLike_at {n : Nat} : ∀ {ds es : List (D × D)}, kvLike n ds es = true → ∀ p ∈ ds, ∃ q ∈ es, keyOf q.1 = keyOf p.1 ∧ (∀ r ∈ es, keyOf r.1 = keyOf p.1 → r.2 = q.2) ∧ PyData.eqv p.2 q.2 = true ∧ PyData.canLay0 p.2 = true ∧ PyData.canLay0 q.2 = true ∧ p.2.depth ≤ n
  | [], [], _, p, hp => by cases hp
  | p :: ps, q :: qs, h, x, hx => by
    simp only [kvLike, Bool.and_eq_true, decide_eq_true_eq] at h
    obtain ⟨⟨⟨⟨⟨⟨⟨h1, h2⟩, h3⟩, h4⟩, h5⟩, h6⟩, h7⟩, h8⟩ := h
    have h3' : ∀ r ∈ qs, keyOf r.1 ≠ keyOf q.1 := fun r hr => of_decide_eq_true (List.all_eq_true.mp h3 r hr)
    rcases List.mem_cons.mp hx with rfl | hx
    · refine ⟨q, List.mem_cons_self, h1.symm, fun r hr e => ?_, h4, h5, h6, h7⟩
      rcases List.mem_cons.mp hr with rfl | hr
      · rfl
      · exact absurd (e.trans h1) (h3' r hr)
    · obtain ⟨r, hr, a1, a2, a3⟩ := kvLike_at h8 x hx
      refine ⟨r, List.mem_cons_of_mem _ hr, a1, fun s hs e => ?_, a3⟩
      rcases List.mem_cons.mp hs with rfl | hs
      · exact absurd (a1.trans e.symm) (h3' r hr)
      · exact a2 s hs e
  | [], _ :: _, h, _, _ => by cases h
  | _ :: _, [], h, _, _ => by cases h
end
section
variable {X : Cx} {pins : List (Addr × Obj)} {σ : L2.St} {H : Hp} {s : Shared}
theorem hits_data (I : Inv X pins σ H s) {n : Nat} {A : Around} (hu : A.units + n < cLine) {ls : List (Key × V)} {vb : List (Key × Value)} (rb : KV ls vb) {es : List (D × D)} (hes : DqKv X.K H ls es) : ∀ {ks : List (Key × V)} {va : List (Key × Value)} {ds : List (D × D)}, DqKv X.K H ks ds → KV ks va →
    (∀ p ∈ ds, ∃ q ∈ es, keyOf q.1 = keyOf p.1 ∧ (∀ r ∈ es, keyOf r.1 = keyOf p.1 → r.2 = q.2) ∧ PyData.eqv p.2 q.2 = true ∧ PyData.canLay0 p.2 = true ∧ PyData.canLay0 q.2 = true ∧ p.2.depth ≤ n) → PySem.W.KeqHits A s vb va true
  | _, _, _, .nil, ra, _ => by
    unfold KV at ra
    cases ra
    exact .nil
  | _, va, _, .cons (k := k0) (v := v0) (d := d0) h t, ra, hp => by
    unfold KV at ra
    cases ra with
    | @cons p q ps qs h2 t2 =>
      obtain ⟨j1, j2⟩ := h2
      obtain ⟨r, hr, e1, e2, e3, e4, e5, e6⟩ := hp _ List.mem_cons_self
      rw [keyOf_kD] at e1 e2
      obtain ⟨y, hy1, hy2⟩ := kv_at (e := r.2) hes e2 ⟨r, hr, e1⟩
      have rr : RelO (some y) (valueAt vb k0) := by rw [← hy1]; exact rb.val k0
      obtain ⟨z, hz, rz⟩ := rr.some_of
      obtain ⟨as, r1⟩ := Dp.reads I d0 v0 q.2 (Dq.toDp _ _ e4 h) j2
      obtain ⟨bs, r2⟩ := Dp.reads I r.2 y z (Dq.toDp _ _ e5 hy2) rz
      have e6 : d0.depth ≤ n := e6
      have he := SeqAt.eqAt_reads d0 r.2 A s q.2 z as bs r1 r2 e4 e5 (by have := Nat.min_le_left d0.depth r.2.depth; omega)
      rw [e3] at he
      obtain ⟨k, v⟩ := q
      have j1' : k0 = k := j1
      subst j1'
      show PySem.W.KeqHits A s vb ((k0, v) :: qs) (true && true)
      exact .hit hz he (hits_data I hu rb hes t t2 fun p hm => hp p (List.mem_cons_of_mem _ hm))
end
def rNeK (K : PySem.W.Frag) (n : Nat) : R2 := fun x y H Q => ∃ a b ks ls ds es, x = .ref a ∧ y = .ref b ∧ H a = some (.dK ks) ∧ H b = some (.dK ls) ∧ DqKv K H ks ds ∧ DqKv K H ls es ∧ kvLike n ds es = true ∧ Q (.bl false) H
def rEqK (K : PySem.W.Frag) (n : Nat) : R2 := fun x y H Q => ∃ a b ks ls ds es, x = .ref a ∧ y = .ref b ∧ H a = some (.dK ks) ∧ H b = some (.dK ls) ∧ DqKv K H ks ds ∧ DqKv K H ls es ∧ kvLike n ds es = true ∧ Q (.bl true) H
theorem dqkv_len {K : PySem.W.Frag} {G : Hp} : ∀ {ks : List (Key × V)} {ds : List (D × D)}, DqKv K G ks ds → ks.length = ds.length
  | _, _, .nil => rfl
  | _, _, .cons _ t => congrArg (· + 1) (dqkv_len t)
theorem op_neK {X : Cx} {K : PySem.W.Frag} {n : Nat} (hu : X.A.units + (n + 1) < cLine) (hk : X.K = K := by rfl) : OpR X (compareOp .NotEq) (rNeK K n) := by
  subst hk
  intro pins s σ H x y v u Q I rx ry h
  obtain ⟨a, b, ks, ls, ds, es, rfl, rfl, ea, eb, hd, he, hl, q⟩ := h
  obtain rfl : v = Value.ref a := rx
  obtain rfl : u = Value.ref b := ry
  obtain ⟨_, ya, va, ra, da⟩ := (show ObjOk X.prog X.w H s.heap a (.dK ks) from I.hok a _ ea)
  obtain ⟨_, yb, vb, rb, db⟩ := (show ObjOk X.prog X.w H s.heap b (.dK ls) from I.hok b _ eb)
  have hlen : va.length = vb.length := by rw [← ra.length, ← rb.length, dqkv_len hd, dqkv_len he]; exact (kvLike_plain hl).2.2
  exact PySem.W.keq_ne (knd := mixKind X.prog X.w) (r := true) ya yb da db (by omega) (fun _ => hits_data I (n := n) (A := X.A.in1) (by show X.A.units + 1 + n < cLine; omega) rb he hd ra (kvLike_at hl)) (fin_bl I q (by simp [hlen]))
theorem op_eqK {X : Cx} {K : PySem.W.Frag} {n : Nat} (hu : X.A.units + (n + 1) < cLine) (hk : X.K = K := by rfl) : OpR X (compareOp .Eq) (rEqK K n) := by
  subst hk
  intro pins s σ H x y v u Q I rx ry h
  obtain ⟨a, b, ks, ls, ds, es, rfl, rfl, ea, eb, hd, he, hl, q⟩ := h
  obtain rfl : v = Value.ref a := rx
  obtain rfl : u = Value.ref b := ry
  obtain ⟨_, ya, va, ra, da⟩ := (show ObjOk X.prog X.w H s.heap a (.dK ks) from I.hok a _ ea)
  obtain ⟨_, yb, vb, rb, db⟩ := (show ObjOk X.prog X.w H s.heap b (.dK ls) from I.hok b _ eb)
  have hlen : va.length = vb.length := by rw [← ra.length, ← rb.length, dqkv_len hd, dqkv_len he]; exact (kvLike_plain hl).2.2
  exact PySem.W.keq_eq (knd := mixKind X.prog X.w) (r := true) ya yb da db (by omega) (fun _ => hits_data I (n := n) (A := X.A.in1) (by show X.A.units + 1 + n < cLine; omega) rb he hd ra (kvLike_at hl)) (fin_bl I q (by simp [hlen]))
section
variable {K : PySem.W.Frag} {B : Bs}
theorem opd_neK {n : Nat} : OpD K B (rNeK K n) (neKD n) := fun ρ σ H O x y d e z R a b k Q q => by
  unfold neKD at k
  split at k
  · rename_i ds es
    split at k
    · rename_i c
      cases k
      obtain ⟨p1, p2, _⟩ := kvLike_plain c
      obtain ⟨l, ks, rfl, h1, h2⟩ := bo_dict a p1
      obtain ⟨m, ls, rfl, h3, h4⟩ := bo_dict b p2
      exact ⟨l, m, ks, ls, ds, es, rfl, rfl, h1, h3, DqKv.mono (hid_self H O) _ _ h2, DqKv.mono (hid_self H O) _ _ h4, c, q _ H (Same.refl H) (.bl _)⟩
    · cases k
  · cases k
theorem opd_eqK {n : Nat} : OpD K B (rEqK K n) (eqKD n) := fun ρ σ H O x y d e z R a b k Q q => by
  unfold eqKD at k
  split at k
  · rename_i ds es
    split at k
    · rename_i c
      cases k
      obtain ⟨p1, p2, _⟩ := kvLike_plain c
      obtain ⟨l, ks, rfl, h1, h2⟩ := bo_dict a p1
      obtain ⟨m, ls, rfl, h3, h4⟩ := bo_dict b p2
      exact ⟨l, m, ks, ls, ds, es, rfl, rfl, h1, h3, DqKv.mono (hid_self H O) _ _ h2, DqKv.mono (hid_self H O) _ _ h4, c, q _ H (Same.refl H) (.bl _)⟩
    · cases k
  · cases k
end
section
variable {X : Cx} {B : Bs} {a b : Expr} {ta tb : TE} {f f' : En → Option D} {pos : Pos}
theorem x_shl (ha : XE X B a ta f) (hb : XE X B b tb f') : XE X B (.BinOp a .LShift b pos) (tOp (rI CPow fun i j => .int (i * 2 ^ j.toNat)) ta tb) (e2 shlD f f') := ⟨pe_op op_shl ha.pe hb.pe, de_op opd_shl ha.de.db hb.de.db⟩
end
end Z

set_option Elab.async false
set_option maxRecDepth 100000
set_option maxHeartbeats 4000000
set_option linter.all false
/-! ZL: a def walked by hand: ground data at any heap, what stays -/
namespace Z
open PySem PySem.Spec PyProof.Rows L2
/-- the place of a reading within a def that is walked by hand -/
def Bk (K : PySem.W.Frag) (H : Hp) (O : List Addr) : Bs := ⟨K, H, O, [], none, W0⟩
def Muts (H : Hp) (O : List Addr) : Prop := ∀ a ∈ O, ∃ o, H a = some o ∧ isMut o = true
theorem rs_at {K : PySem.W.Frag} {σ : L2.St} {H : Hp} {O : List Addr} {ρ : En} (hl : ρ.length = σ.length) (hs : ∀ (i : Nat) s, ρ[i]? = some (some s) → ∃ v d, s = .ro d ∧ σ[i]? = some (some v) ∧ Dq K (hid H O) v d) (mu : Muts H O) : RS K (Bk K H O) ρ σ H O where
  len := hl
  slot := fun i s e => by
    obtain ⟨v, d, rfl, h1, h2⟩ := hs i s e
    exact ⟨v, h1, h2⟩
  uniq := fun i j s s' l _ e _ o _ _ _ => by
    obtain ⟨v, d, rfl, h1, h2⟩ := hs i s e
    cases o
  same := fun _ _ _ h => h
  own := fun a ha => .inl ha
  mu := mu
  sub0 := fun a ha => ⟨ha, by show a ∉ ([] : List Addr); simp, let ⟨o, e, _⟩ := mu a ha; ⟨o, e⟩⟩
  lo := fun a ha => by cases ha
  pin := fun i l e => by cases e
/-! ### a reading of the layer, as a rule of the hand's -/
def tZE (K : PySem.W.Frag) (f : En → Option D) : TE := fun σ H Q => ∃ O ρ d, RS K (Bk K H O) ρ σ H O ∧ f ρ = some d ∧ ∀ v H', Same H H' → Dq K (hid H' O) v d → Q v H'
def tZL (K : PySem.W.Frag) (f : En → Option (List D)) : TE := fun σ H Q => ∃ O ρ ds, RS K (Bk K H O) ρ σ H O ∧ f ρ = some ds ∧ ∀ l vs H', Same H H' → H l = none → H' l = some (.lst vs) → DqAll K (hid H' (l :: O)) vs ds → Q (.ref l) H'
def tZT (K : PySem.W.Frag) (f : En → Option Bool) : TT := fun σ H Q => ∃ O ρ b, RS K (Bk K H O) ρ σ H O ∧ f ρ = some b ∧ ∀ H', Same H H' → Q b H'
section
variable {X : Cx} {K : PySem.W.Frag} {e : Expr}
theorem pe_z {f : En → Option D} (h : ∀ H O, ∃ t, XE X (Bk K H O) e t f) : PE X e (tZE K f) := ⟨fun pins s σ H Q I z => by
  obtain ⟨O, ρ, d, R, e1, k⟩ := z
  obtain ⟨t, x⟩ := h H O
  exact x.pe.run pins s σ H Q I (x.de ρ σ H O d R e1 Q k)⟩
theorem pe_zl {f : En → Option (List D)} (h : ∀ H O, ∃ t, XL X (Bk K H O) e t f) : PE X e (tZL K f) := ⟨fun pins s σ H Q I z => by
  obtain ⟨O, ρ, d, R, e1, k⟩ := z
  obtain ⟨t, x⟩ := h H O
  exact x.pe.run pins s σ H Q I (x.de ρ σ H O d R e1 Q k)⟩
theorem pt_z {f : En → Option Bool} (h : ∀ H O, ∃ t, XT X (Bk K H O) e t f) : PT X e (tZT K f) := ⟨fun pins s σ H Q I z => by
  obtain ⟨O, ρ, d, R, e1, k⟩ := z
  obtain ⟨t, x⟩ := h H O
  exact x.pe.run pins s σ H Q I (x.de ρ σ H O d R e1 Q k)⟩
end
section
variable {X : Cx} {K : PySem.W.Frag}
theorem ps_zl {i : Nat} {st : Stmt} {f : En → Option (List D)} (h : ∀ H O, ∃ tl, PS X st (tAsg tl (gName i)) ∧ DL K (Bk K H O) tl f) : PS X st (tAsg (tZL K f) (gName i)) := ⟨fun pins s σ H D I z => by
  obtain ⟨O, ρ, ds, R, e1, k⟩ := z
  obtain ⟨tl, p, d⟩ := h H O
  exact p.run pins s σ H D I (d ρ σ H O ds R e1 _ k)⟩
end
theorem setLc_pd {X : Cx} {B : Bs} {pos : Pos} {i : Nat} {y : Str} {py : Pos} {elt tg iter : Expr} {ifs : List Expr} {scope : Scope} {own : List (Str × Nat)} {spos : Pos} {wi : TI} {g : TG} {tt : TT} {te : TE} {src : En → Option (List D)} {ht : D → En → Option En} {cond : En → Option Bool} {fe : En → Option D}
    (hc : X.calm = true) (hN : X.N.Nodup) (hy : X.N[i]? = some y) (hyl : X.env.scope.names.lookup y = some .local)
    (hsw : swapsWith (.ListComp elt [⟨tg, iter, ifs, 0⟩] scope pos) (some (.Name y py)) spos.line X.env = pure true) (hi : XI X B tg iter wi src) (ok : BlkOk X.N X.env.scope scope own)
    (hw : GW g (own.map (·.2)))
    (hg : ∀ (s : Shared) (H : Hp) (C : Addr) (cl : List (Str × Addr)) (fp : List Addr), XG (X.blk s H scope (compEnvC scope cl C X.env) fp) B tg g ht) (ht' : ∀ (s : Shared) (H : Hp) (C : Addr) (cl : List (Str × Addr)) (fp : List Addr), XTs (X.blk s H scope (compEnvC scope cl C X.env) fp) B ifs tt cond)
    (he : ∀ (s : Shared) (H : Hp) (C : Addr) (cl : List (Str × Addr)) (fp : List Addr), XE (X.blk s H scope (compEnvC scope cl C X.env) fp) B elt te fe) (hs : ∀ x, foldedSetIterable iter X.env x = pure x := by intro _; rfl) (hp : free B i = true := by rfl) (hq : (own.map (·.2)).all (free B) = true := by rfl) :
    PS X (.Assign [.Name y py] (.ListComp elt [⟨tg, iter, ifs, 0⟩] scope pos) spos) (tAsg (tLc wi g tt te (own.map (·.2))) (gName i)) ∧ DL B.K B (tLc wi g tt te (own.map (·.2))) (lComp src ht cond fe (own.map (·.2))) :=
  ⟨ps_setLc hc hN hy hyl hsw hi.pe ok (fun s H C cl fp => (hg s H C cl fp).pe) (fun s H C cl fp => (ht' s H C cl fp).pe) (fun s H C cl fp => (he s H C cl fp).pe) hs,
   dl_comp hq hi.de (hg X.s_0 X.H_0 0 [] []).de hw (ht' X.s_0 X.H_0 0 [] []).de (he X.s_0 X.H_0 0 [] []).de⟩
/-! ### tuples stay where lists and dicts change -/
/-- all but some places stays -/
def Sm (M : List Addr) (H H' : Hp) : Prop := ∀ b o, b ∉ M → H b = some o → H' b = some o
theorem Sm.refl {M : List Addr} {H : Hp} : Sm M H H := fun _ _ _ h => h
theorem Sm.trans {M : List Addr} {H H1 H2 : Hp} (a : Sm M H H1) (b : Sm M H1 H2) : Sm M H H2 := fun x o n h => b x o n (a x o n h)
theorem Sm.of {M : List Addr} {H H' : Hp} (s : Same H H') : Sm M H H' := fun b o _ h => s b o h
theorem Sm.upd {M : List Addr} {H : Hp} {l : Addr} (o : HO) (h : l ∈ M) : Sm M H (L2.upd H l o) := fun b u n e => by
  rw [upd_ne fun q : b = l => n (by rw [q]; exact h)]; exact e
theorem Sm.less {M N : List Addr} {H H' : Hp} (h : Sm M H H') (k : ∀ a ∈ M, a ∈ N) : Sm N H H' := fun b o n e => h b o (fun z => n (k b z)) e
theorem sm_tup {K : PySem.W.Frag} {M : List Addr} {H H' : Hp} (s : Sm M H H') (mu : Muts H M) {a : Addr} {xs : List V} (h : SqT K H a xs) : SqT K H' a xs := by
  rcases h with h | h
  · refine .inl ?_
    have q : ∀ o, H a = some o → isMut o = false → H' a = some o := fun o e m => s a o (fun z => by
      obtain ⟨o', e', m'⟩ := mu a z
      rw [e] at e'; cases e'
      rw [m] at m'; cases m') e
    rcases h with h | ⟨o, h⟩
    · exact .inl (q _ h rfl)
    · exact .inr ⟨o, q _ h rfl⟩
  · exact .inr h
theorem sm_dq {K : PySem.W.Frag} {M : List Addr} {H H' : Hp} (s : Sm M H H') (mu : Muts H M) {v : V} {d : D} (i : imm d = true) (h : Dq K H v d) : Dq K H' v d := Dq.move (fun _ _ => sm_tup s mu) d v i h
theorem sm_dqs {K : PySem.W.Frag} {M : List Addr} {H H' : Hp} (s : Sm M H H') (mu : Muts H M) {vs : List V} {ds : List D} (i : immAll ds = true) (h : DqAll K H vs ds) : DqAll K H' vs ds := DqAll.move (fun _ _ => sm_tup s mu) ds vs i h
theorem hid_sm {H : Hp} {O : List Addr} : Sm O H (hid H O) := fun b o n h => by rw [hid_out n]; exact h
theorem dq_hide {K : PySem.W.Frag} {H : Hp} {O : List Addr} (mu : Muts H O) {v : V} {d : D} (i : imm d = true) (h : Dq K H v d) : Dq K (hid H O) v d := sm_dq hid_sm mu i h
theorem dqs_hide {K : PySem.W.Frag} {H : Hp} {O : List Addr} (mu : Muts H O) {vs : List V} {ds : List D} (i : immAll ds = true) (h : DqAll K H vs ds) : DqAll K (hid H O) vs ds := sm_dqs hid_sm mu i h
theorem dq_full {K : PySem.W.Frag} {H : Hp} {O : List Addr} {v : V} {d : D} (h : Dq K (hid H O) v d) : Dq K H v d := Dq.mono (hid_self H O) _ _ h
theorem dqs_full {K : PySem.W.Frag} {H : Hp} {O : List Addr} {vs : List V} {ds : List D} (h : DqAll K (hid H O) vs ds) : DqAll K H vs ds := DqAll.mono (hid_self H O) _ _ h
theorem Muts.nil {H : Hp} : Muts H [] := fun a h => by cases h
theorem Muts.cons {H : Hp} {O : List Addr} {l : Addr} {o : HO} (h : H l = some o) (m : isMut o = true) (k : Muts H O) : Muts H (l :: O) := fun a ha => by
  rcases List.mem_cons.mp ha with rfl | ha
  · exact ⟨o, h, m⟩
  · exact k a ha
theorem ifF {b : Bool} {A B : Prop} (e : b = false) (h : B) : if b = true then A else B := by subst e; exact h
theorem ifT {b : Bool} {A B : Prop} (e : b = true) (h : A) : if b = true then A else B := by subst e; exact h
theorem immAll_app : ∀ {ds es : List D}, immAll ds = true → immAll es = true → immAll (ds ++ es) = true
  | [], _, _, h => h
  | d :: ds, es, h, k => by
    have h : (imm d && immAll ds) = true := h
    rw [Bool.and_eq_true] at h
    show (imm d && immAll (ds ++ es)) = true
    rw [h.1, immAll_app h.2 k]; rfl
theorem immAll_of : ∀ {ds : List D}, (∀ d ∈ ds, imm d = true) → immAll ds = true
  | [], _ => rfl
  | d :: ds, h => by
    show (imm d && immAll ds) = true
    rw [h d List.mem_cons_self, immAll_of fun e he => h e (List.mem_cons_of_mem _ he)]; rfl
theorem dq_list {K : PySem.W.Frag} {H : Hp} {l : Addr} {xs : List V} {ds : List D} (h : H l = some (.lst xs)) (k : DqAll K H xs ds) : Dq K H (.ref l) (.list ds) := .lst (SqL.of h) k
end Z

set_option Elab.async false
set_option maxRecDepth 100000
set_option maxHeartbeats 4000000
set_option linter.all false
/-! ZM: the states between images: what is kept, what is computed -/
namespace Z
open PySem PySem.Spec PyProof.Rows L2
/-- what a state between does -/
structure Kt where
  b : Bool
  w : List Nat
  g : Int
  deriving DecidableEq
def kword (b : Bool) : Str := if b then "back" else "go"
theorem kword_inj : ∀ {a b : Bool}, kword a = kword b → a = b
  | true, true, _ => rfl
  | false, false, _ => rfl
  | true, false, h => absurd h (by decide +kernel)
  | false, true, h => absurd h (by decide +kernel)
def Kt.kl (k : Kt) : List Key := [.inr (kword k.b), .inr ⟨k.w.toArray⟩, .inl k.g]
def Kt.vl (k : Kt) : List V := [.str (kword k.b), .str ⟨k.w.toArray⟩, .int k.g]
theorem Kt.kv (k : Kt) : k.kl.map kV = k.vl := rfl
theorem Kt.inj {k k' : Kt} (h : k.kl = k'.kl) : k = k' := by
  obtain ⟨b, w, g⟩ := k
  obtain ⟨b', w', g'⟩ := k'
  unfold Kt.kl at h
  dsimp only at h
  obtain ⟨h1, h⟩ := List.cons.inj h
  obtain ⟨h2, h⟩ := List.cons.inj h
  obtain ⟨h3, _⟩ := List.cons.inj h
  injection h1 with h1
  injection h2 with h2
  injection h3 with h3
  injection h2 with h2
  have h2 := congrArg Array.toList h2
  simp only at h2
  rw [kword_inj h1, h2, h3]
def IsK (H : Hp) (x : V) (k : Kt) : Prop := ∃ b, x = .ref b ∧ H b = some (.tup k.vl)
theorem IsK.sm {M : List Addr} {H H' : Hp} (s : Sm M H H') (mu : Muts H M) {x : V} {k : Kt} (h : IsK H x k) : IsK H' x k := by
  obtain ⟨b, rfl, e⟩ := h
  refine ⟨b, rfl, s b _ (fun z => ?_) e⟩
  obtain ⟨o, e', m⟩ := mu b z
  rw [e] at e'; cases e'; cases m
theorem IsK.dq {K : PySem.W.Frag} {H : Hp} {x : V} {k : Kt} (h : IsK H x k) : Dq K H x (.tuple [.str (kword k.b), .str ⟨k.w.toArray⟩, .int k.g]) := by
  obtain ⟨b, rfl, e⟩ := h
  exact .tup (SqT.of e) (.cons (.str _) (.cons (.str _) (.cons (.int _) .nil)))
def numd : Int → List Kt → List (List Key × V)
  | _, [] => []
  | n, k :: ks => (k.kl, .int n) :: numd (n + 1) ks
theorem numd_len : ∀ (n : Int) (ks : List Kt), (numd n ks).length = ks.length
  | _, [] => rfl
  | n, _ :: ks => congrArg (· + 1) (numd_len (n + 1) ks)
theorem numd_get (k : Kt) : ∀ (n : Int) (ks : List Kt), valV (numd n ks) k.kl = if k ∈ ks then some (.int (n + (ks.idxOf k : Nat))) else none
  | _, [] => by rw [if_neg (by simp)]; rfl
  | n, j :: ks => by
    by_cases h : j = k
    · subst h
      rw [if_pos List.mem_cons_self, List.idxOf_cons_self]
      show valV ((j.kl, V.int n) :: _) j.kl = _
      rw [valV_pos rfl]; simp
    · have h1 : ¬ j.kl = k.kl := fun z => h (Kt.inj z)
      show valV ((j.kl, V.int n) :: _) k.kl = _
      rw [valV_neg h1, numd_get k (n + 1) ks]
      have hb : (j == k) = false := beq_eq_false_iff_ne.mpr h
      rw [List.idxOf_cons, hb]
      by_cases hk : k ∈ ks
      · rw [if_pos hk, if_pos (List.mem_cons_of_mem _ hk)]
        simp only [cond_false]
        congr 2
        omega
      · rw [if_neg hk, if_neg fun z => by
          rcases List.mem_cons.mp z with z | z
          · exact h z.symm
          · exact hk z]
theorem numd_any (k : Kt) : ∀ (n : Int) (ks : List Kt), ((numd n ks).any fun kv => decide (kv.1 = k.kl)) = decide (k ∈ ks)
  | _, [] => by simp [numd]
  | n, j :: ks => by
    show (decide (j.kl = k.kl) || (numd (n + 1) ks).any fun kv => decide (kv.1 = k.kl)) = _
    rw [numd_any k (n + 1) ks]
    by_cases h : j = k
    · subst h; simp
    · rw [decide_eq_false fun z => h (Kt.inj z), Bool.false_or]
      rw [Bool.eq_iff_iff, decide_eq_true_eq, decide_eq_true_eq, List.mem_cons]
      constructor
      · exact .inr
      · rintro (z | z)
        · exact absurd z.symm h
        · exact z
theorem numd_snoc (k : Kt) : ∀ (n : Int) (ks : List Kt), numd n (ks ++ [k]) = numd n ks ++ [(k.kl, .int (n + (ks.length : Nat)))]
  | n, [] => by show [(k.kl, V.int n)] = [(k.kl, V.int (n + 0))]; rw [Int.add_zero]
  | n, j :: ks => by
    show (j.kl, V.int n) :: numd (n + 1) (ks ++ [k]) = (j.kl, V.int n) :: (numd (n + 1) ks ++ _)
    rw [numd_snoc k (n + 1) ks, List.length_cons]
    congr 5
    push_cast
    omega
theorem numd_put {k : Kt} {n : Int} {ks : List Kt} (h : k ∉ ks) : putK (numd n ks) k.kl (.int (n + (ks.length : Nat))) = numd n (ks ++ [k]) := by
  unfold putK
  rw [numd_any, decide_eq_false h, if_neg Bool.false_ne_true, numd_snoc]
/-- the states told, those that wait -/
structure BS where
  ks : List Kt
  ws : List Kt
def BS.put (s : BS) (k : Kt) : BS := if k ∈ s.ks then s else ⟨s.ks ++ [k], s.ws ++ [k]⟩
def BS.num (s : BS) (top : Int) (k : Kt) : Int := top + 1 + (s.ks.idxOf k : Nat)
theorem BS.put_len (s : BS) (k : Kt) : (s.put k).ks.length ≤ s.ks.length + 1 ∧ (s.put k).ws.length ≤ s.ws.length + 1 := by
  unfold BS.put
  split
  · exact ⟨Nat.le_succ _, Nat.le_succ _⟩
  · exact ⟨by rw [List.length_append]; exact Nat.le_refl _, by rw [List.length_append]; exact Nat.le_refl _⟩
theorem idx_snoc {k : Kt} {ks : List Kt} (h : k ∉ ks) : (ks ++ [k]).idxOf k = ks.length := by
  rw [List.idxOf_append, if_neg h, List.idxOf_cons_self, Nat.zero_add]
theorem idx_no {k : Kt} {ks : List Kt} (h : k ∉ ks) : ks.idxOf k = ks.length := List.idxOf_eq_length h
def btF (top : Int) (ld lw : Addr) : List (Str × V) := putF "waiting" (.ref lw) (putF "numbers" (.ref ld) (putF "top" (.int top) []))
theorem wn_ : ¬ ("waiting" : Str) = "numbers" := by decide +kernel
theorem wt_ : ¬ ("waiting" : Str) = "top" := by decide +kernel
theorem nw_ : ¬ ("numbers" : Str) = "waiting" := by decide +kernel
theorem nt_ : ¬ ("numbers" : Str) = "top" := by decide +kernel
theorem tw_ : ¬ ("top" : Str) = "waiting" := by decide +kernel
theorem tn_ : ¬ ("top" : Str) = "numbers" := by decide +kernel
theorem bt_top {top : Int} {ld lw : Addr} : (btF top ld lw).lookup ("top" : Str) = some (.int top) := by
  unfold btF; rw [lookup_putF, if_neg tw_, lookup_putF, if_neg tn_, lookup_putF, if_pos rfl]
theorem bt_num {top : Int} {ld lw : Addr} : (btF top ld lw).lookup ("numbers" : Str) = some (.ref ld) := by
  unfold btF; rw [lookup_putF, if_neg nw_, lookup_putF, if_pos rfl]
theorem bt_wait {top : Int} {ld lw : Addr} : (btF top ld lw).lookup ("waiting" : Str) = some (.ref lw) := by
  unfold btF; rw [lookup_putF, if_pos rfl]
theorem bt_no {top : Int} {ld lw : Addr} {m : Str} (h1 : ¬ m = "waiting") (h2 : ¬ m = "numbers") (h3 : ¬ m = "top") : (btF top ld lw).lookup m = none := by
  unfold btF; rw [lookup_putF, if_neg h1, lookup_putF, if_neg h2, lookup_putF, if_neg h3]; rfl
structure BtAt (C p dx ld lw : Addr) (top : Int) (s : BS) (H : Hp) : Prop where
  hp : H p = some (.ins C dx (btF top ld lw))
  hd : H ld = some (.dT (numd (top + 1) s.ks))
  hw : ∃ xs, H lw = some (.lst xs) ∧ Paired (IsK H) xs s.ws
theorem ne_ho {H : Hp} {a b : Addr} {o u : HO} (h : H a = some o) (k : H b = some u) (n : o ≠ u) : a ≠ b := fun e => n (by rw [e, k] at h; exact (Option.some.inj h).symm)
section
variable {C p dx ld lw : Addr} {top : Int} {s : BS} {H H' : Hp}
theorem BtAt.dw (h : BtAt C p dx ld lw top s H) : ld ≠ lw := by
  obtain ⟨xs, e, _⟩ := h.hw
  exact ne_ho h.hd e (by intro z; cases z)
theorem BtAt.pd (h : BtAt C p dx ld lw top s H) : p ≠ ld := ne_ho h.hp h.hd (by intro z; cases z)
theorem BtAt.pw (h : BtAt C p dx ld lw top s H) : p ≠ lw := by
  obtain ⟨xs, e, _⟩ := h.hw
  exact ne_ho h.hp e (by intro z; cases z)
theorem BtAt.mu (h : BtAt C p dx ld lw top s H) : Muts H [ld, lw] := by
  obtain ⟨xs, e, _⟩ := h.hw
  exact .cons h.hd rfl (.cons e rfl .nil)
theorem paired_imp {α β : Type} {F G : α → β → Prop} (f : ∀ a b, F a b → G a b) : ∀ {l₁ : List α} {l₂ : List β}, Paired F l₁ l₂ → Paired G l₁ l₂
  | _, _, .nil => .nil
  | _, _, .cons r t => .cons (f _ _ r) (paired_imp f t)
theorem paired_snoc {α β : Type} {F : α → β → Prop} {a : α} {b : β} (h : F a b) : ∀ {l₁ : List α} {l₂ : List β}, Paired F l₁ l₂ → Paired F (l₁ ++ [a]) (l₂ ++ [b])
  | _, _, .nil => .cons h .nil
  | _, _, .cons r t => .cons r (paired_snoc h t)
/-- all of it stays -/
theorem BtAt.keep (h : BtAt C p dx ld lw top s H) (e : Same H H') : BtAt C p dx ld lw top s H' := by
  obtain ⟨xs, e1, e2⟩ := h.hw
  exact ⟨e _ _ h.hp, e _ _ h.hd, xs, e _ _ e1, paired_imp (fun a b k => by obtain ⟨t, rfl, z⟩ := k; exact ⟨t, rfl, e _ _ z⟩) e2⟩
/-- some other list or dict changes -/
theorem BtAt.other (h : BtAt C p dx ld lw top s H) {l : Addr} {u : HO} (n1 : l ≠ p) (n2 : l ≠ ld) (n3 : l ≠ lw) (e : ∃ o, H l = some o ∧ isMut o = true) : BtAt C p dx ld lw top s (L2.upd H l u) := by
  obtain ⟨xs, e1, e2⟩ := h.hw
  refine ⟨by rw [upd_ne n1.symm]; exact h.hp, by rw [upd_ne n2.symm]; exact h.hd, xs, by rw [upd_ne n3.symm]; exact e1, paired_imp (fun a b k => ?_) e2⟩
  obtain ⟨t, rfl, z⟩ := k
  refine ⟨t, rfl, ?_⟩
  obtain ⟨o, e3, m⟩ := e
  rw [upd_ne fun q => ?_]
  · exact z
  · subst q
    rw [z] at e3; cases e3; cases m
/-- a state told -/
theorem BtAt.put (h : BtAt C p dx ld lw top s H) {y : V} {k : Kt} (hy : IsK H y k) (hk : k ∉ s.ks) {xs : List V} (e1 : H lw = some (.lst xs)) (e2 : Paired (IsK H) xs s.ws) :
    BtAt C p dx ld lw top (s.put k) (L2.upd (L2.upd H ld (.dT (putK (numd (top + 1) s.ks) k.kl (.int (top + 1 + (s.ks.length : Nat)))))) lw (.lst (xs ++ [y]))) := by
  have sm : Sm [ld, lw] H (L2.upd (L2.upd H ld (.dT (putK (numd (top + 1) s.ks) k.kl (.int (top + 1 + (s.ks.length : Nat)))))) lw (.lst (xs ++ [y]))) := (Sm.upd _ List.mem_cons_self).trans (Sm.upd _ (List.mem_cons_of_mem _ List.mem_cons_self))
  refine ⟨?_, ?_, xs ++ [y], upd_same, ?_⟩
  · rw [upd_ne h.pw, upd_ne h.pd]; exact h.hp
  · rw [upd_ne h.dw, upd_same, numd_put hk]
    unfold BS.put
    rw [if_neg hk]
  · unfold BS.put
    rw [if_neg hk]
    exact paired_snoc (hy.sm sm h.mu) (paired_imp (fun a b z => z.sm sm h.mu) e2)
end
/-! ### what is made -/
def tx (xs : List Nat) : D := .str ⟨xs.toArray⟩
def rlD (st : Int) (x y : List Nat) (m : Str) (g : Int) : D := .tuple [.int st, tx x, tx y, .str m, .int g]
theorem rl_imm (st : Int) (x y : List Nat) (m : Str) (g : Int) : imm (rlD st x y m g) = true := rfl
def BL : List Nat := [95]
def rfD (top : Int) (s : BS) (k : Kt) (sg : List Nat) : List D × BS :=
  if k.b = true then (sg.map (fun c => rlD (s.num top k) [c] [c] "l" (s.num top k)) ++ [rlD (s.num top k) BL BL "r" k.g], s.put k)
  else match k.w with
    | [] => (sg.map (fun c => rlD (s.num top k) [c] [c] "r" (s.num top k)) ++ [rlD (s.num top k) BL BL "l" ((s.put k).num top ⟨true, [], k.g⟩)], (s.put k).put ⟨true, [], k.g⟩)
    | a :: w => (sg.map (fun c => rlD (s.num top k) [c] [c] "r" (s.num top k)) ++ [rlD (s.num top k) BL [a] "r" ((s.put k).num top ⟨false, w, k.g⟩)], (s.put k).put ⟨false, w, k.g⟩)
/-- rules of rows: state, sign, word, goal -/
structure Rr where
  st : Int
  sn : List Nat
  w : List Nat
  g : Int
def Rr.enc (r : Rr) : D := .tuple [.int r.st, tx r.sn, tx r.w, .int r.g]
def mkA (top : Int) : List Rr → BS → List D × BS
  | [], s => ([], s)
  | r :: rs, s => (rlD r.st r.sn BL "r" (s.num top ⟨false, r.w, r.g⟩) :: (mkA top rs (s.put ⟨false, r.w, r.g⟩)).1, (mkA top rs (s.put ⟨false, r.w, r.g⟩)).2)
def mkB (top : Int) (sg : List Nat) : Nat → BS → Option (List D)
  | 0, _ => none
  | n + 1, s => match s.ws with
    | [] => some []
    | k :: ws => (mkB top sg n (rfD top ⟨s.ks, ws⟩ k sg).2).map ((rfD top ⟨s.ks, ws⟩ k sg).1 ++ ·)
def toRr : D → Option Rr
  | .tuple [.int st, .str sn, .str w, .int g] => some ⟨st, sn.cps.toList, w.cps.toList, g⟩
  | _ => none
def toRrs : List D → Option (List Rr)
  | [] => some []
  | d :: ds => (toRr d).bind fun r => (toRrs ds).map (r :: ·)
theorem toRr_enc (r : Rr) : toRr r.enc = some r := rfl
theorem toRrs_enc : ∀ rs : List Rr, toRrs (rs.map Rr.enc) = some rs
  | [] => rfl
  | r :: rs => by
    show (toRr r.enc).bind (fun r => (toRrs (rs.map Rr.enc)).map (r :: ·)) = _
    rw [toRr_enc, Option.bind_some, toRrs_enc rs]; rfl
theorem str_cps (z : Str) : (⟨z.cps.toList.toArray⟩ : Str) = z := by cases z; simp
theorem enc_of {d : D} {r : Rr} (h : toRr d = some r) : d = r.enc := by
  unfold toRr at h
  split at h
  · cases h
    unfold Rr.enc tx
    rw [str_cps, str_cps]
  · cases h
theorem encs_of : ∀ {ds : List D} {rs : List Rr}, toRrs ds = some rs → ds = rs.map Rr.enc
  | [], rs, h => by cases h; rfl
  | d :: ds, rs, h => by
    have h : (toRr d).bind (fun r => (toRrs ds).map (r :: ·)) = some rs := h
    obtain ⟨r, h1, h⟩ := bind_some h
    obtain ⟨rs', h2, rfl⟩ := map_some h
    rw [enc_of h1, encs_of h2]; rfl
def mkFuel : Nat := 10000
def g_mk : List D → Option Rv
  | [.list ds, .str sg, .int top] => (toRrs ds).bind fun rs => if rs.length ≤ 10000 ∧ (∀ r ∈ rs, r.w.length ≤ 1000 ∧ ∀ c ∈ r.w, c < 1114112) ∧ sg.cps.toList.length ≤ 1000 then (mkB top sg.cps.toList mkFuel (mkA top rs ⟨[], []⟩).2).map fun es => .l ((mkA top rs ⟨[], []⟩).1 ++ es) else none
  | _ => none
theorem mkA_snoc (top : Int) (r : Rr) : ∀ (rs : List Rr) (s : BS), mkA top (rs ++ [r]) s = ((mkA top rs s).1 ++ [rlD r.st r.sn BL "r" ((mkA top rs s).2.num top ⟨false, r.w, r.g⟩)], (mkA top rs s).2.put ⟨false, r.w, r.g⟩)
  | [], s => rfl
  | q :: rs, s => by
    have ih := mkA_snoc top r rs (s.put ⟨false, q.w, q.g⟩)
    show (rlD q.st q.sn BL "r" (s.num top ⟨false, q.w, q.g⟩) :: (mkA top (rs ++ [r]) (s.put ⟨false, q.w, q.g⟩)).1, (mkA top (rs ++ [r]) (s.put ⟨false, q.w, q.g⟩)).2) = _
    rw [ih]; rfl
/-- words that may stand in a key -/
def WOk (w : List Nat) : Prop := w.length ≤ 1000 ∧ ∀ c ∈ w, c < 1114112
def BS.ok (s : BS) (n : Nat) : Prop := s.ks.length ≤ n ∧ s.ws.length ≤ n ∧ ∀ k ∈ s.ws, WOk k.w
theorem BS.ok_put {s : BS} {n : Nat} (h : s.ok n) {k : Kt} (hk : WOk k.w) : (s.put k).ok (n + 1) := by
  obtain ⟨h1, h2, h3⟩ := h
  obtain ⟨p1, p2⟩ := s.put_len k
  refine ⟨by omega, by omega, fun j hj => ?_⟩
  unfold BS.put at hj
  split at hj
  · exact h3 j hj
  · rcases List.mem_append.mp hj with hj | hj
    · exact h3 j hj
    · rcases List.mem_singleton.mp hj with rfl; exact hk
theorem wok_nil : WOk [] := ⟨Nat.zero_le _, fun c h => by cases h⟩
theorem WOk.tail {a : Nat} {w : List Nat} (h : WOk (a :: w)) : WOk w := ⟨Nat.le_of_succ_le h.1, fun c hc => h.2 c (List.mem_cons_of_mem _ hc)⟩
theorem rf_ok {top : Int} {s : BS} {n : Nat} {k : Kt} {sg : List Nat} (h : s.ok n) (hk : WOk k.w) : (rfD top s k sg).2.ok (n + 2) ∧ (rfD top s k sg).1.length = sg.length + 1 ∧ immAll (rfD top s k sg).1 = true := by
  have im : ∀ (st : Int) (m : Str) (d : D), imm d = true → immAll (sg.map (fun c => rlD st [c] [c] m st) ++ [d]) = true := fun st m d hd => immAll_app (immAll_of fun e he => by
    obtain ⟨c, _, rfl⟩ := List.mem_map.mp he
    exact rl_imm _ _ _ _ _) (by show (imm d && true) = true; rw [hd]; rfl)
  unfold rfD
  split
  · obtain ⟨a, b, c⟩ := BS.ok_put h hk
    exact ⟨⟨Nat.le_succ_of_le a, Nat.le_succ_of_le b, c⟩, by rw [List.length_append, List.length_map]; rfl, im _ _ _ (rl_imm _ _ _ _ _)⟩
  · cases hw : k.w with
    | nil => exact ⟨BS.ok_put (BS.ok_put h hk) wok_nil, by rw [List.length_append, List.length_map]; rfl, im _ _ _ (rl_imm _ _ _ _ _)⟩
    | cons a w =>
      rw [hw] at hk
      exact ⟨BS.ok_put (BS.ok_put h (k := k) (by rw [hw]; exact hk)) hk.tail, by rw [List.length_append, List.length_map]; rfl, im _ _ _ (rl_imm _ _ _ _ _)⟩
theorem mkA_ok {top : Int} : ∀ {rs : List Rr} {s : BS} {n : Nat}, s.ok n → (∀ r ∈ rs, WOk r.w) → (mkA top rs s).2.ok (n + rs.length) ∧ (mkA top rs s).1.length = rs.length ∧ immAll (mkA top rs s).1 = true
  | [], s, n, h, _ => ⟨h, rfl, rfl⟩
  | r :: rs, s, n, h, hr => by
    obtain ⟨a, b, c⟩ := mkA_ok (top := top) (rs := rs) (BS.ok_put h (k := ⟨false, r.w, r.g⟩) (hr r List.mem_cons_self)) fun q hq => hr q (List.mem_cons_of_mem _ hq)
    refine ⟨?_, congrArg (· + 1) b, c⟩
    rw [List.length_cons, show n + (rs.length + 1) = n + 1 + rs.length from by omega]
    exact a
theorem g_mk_len : ∀ ds, g_mk ds ≠ none → ds.length = 3 := fun ds h => by
  unfold g_mk at h
  split at h
  · rfl
  · exact absurd rfl h
end Z

set_option Elab.async false
set_option maxRecDepth 100000
set_option maxHeartbeats 4000000
set_option linter.all false
/-! ZN: list(zip(..)) -/
namespace Z
open PySem PySem.Spec PyProof.Rows L2 RT
open Sem (wp)
theorem nolen_zip : typeLookup (.type "zip") "__len__" = pure none := by rw [typeLookup_type, builtinLookup_eq_fast]; kernel_rfl
theorem nohint_zip : typeLookup (.type "zip") "__length_hint__" = pure none := by rw [typeLookup_type, builtinLookup_eq_fast]; kernel_rfl
def lstObj (acc : Array Value) (c : Nat) : Obj := { cls := .type "list", dict := none, data := .seq acc c, slots := #[] }
section
variable {prog : Program} {w : World} {A : Around} {E : Value → Shared → Prop} {s : Shared}
theorem init_zip {R : Result → Shared → Prop} {z TI TO : Addr} (hz : IsZip s.heap z TI TO .none)
    (S : Addr) (hS : s.heap.get? S = some { cls := .type "list", data := .seq #[] }) (hSz : S ≠ z)
    (hR : ∀ h' c', (∀ b o, b ≠ S → s.heap.get? b = some o → h'.get? b = some o) → h'.get? S = some (lstObj #[] c') → codeAny (model prog w) A (.builtin "list.extend.loop" ⟨[.ref S, .ref z, .none], []⟩) R { s with heap := h' }) :
    wpAny (model prog w) A.in1 (Builtin.«list.__init__» ⟨[.ref S, .ref z], []⟩)
      (fun fin s' => match fin with | .done f => R (.ok f) s' | .again c' => c'.quiet = true ∧ codeAny (model prog w) A c' R s') (fun e s' => R (.error e) s') s := by
  show wpAny _ _ (do let old ← Builtin.List.listItems (.ref S); Builtin.List.listUpdate (.ref S) (fun _ => #[]); letGo old.toList.reverse; Builtin.List.listExtendWith (.ref S) (.ref z) .none) _ _ s
  refine wpAny_bind ?_
  unfold Builtin.List.listItems
  refine wpAny_bind (wpAny_seqItems hS rfl (wpAny_pure ?_))
  show wpAny _ _ (updateSeq S (fun _ => #[]) >>= fun _ => letGo (#[] : Array Value).toList.reverse >>= fun _ => Builtin.List.listExtendWith (.ref S) (.ref z) .none) _ _ s
  refine wpAny_bind (wpAny_updateSeq hS rfl ?_)
  have hS₁ := Heap.get?_update_self (Obj.mapSeq (fun _ => (#[] : Array Value))) hS rfl
  have oth : ∀ b o, b ≠ S → s.heap.get? b = some o → (s.heap.update S (Obj.mapSeq (fun _ => (#[] : Array Value)))).get? b = some o :=
    fun b o hb e => (Heap.get?_update_other _ _ (Ne.symm hb)).trans e
  refine wpAny_bind (wpAny_letGo ?_)
  generalize hH : s.heap.update S (Obj.mapSeq (fun _ => (#[] : Array Value))) = h1 at *
  have hz1 : IsZip h1 z TI TO .none := oth _ _ (Ne.symm hSz) hz
  have hT : ({ s with heap := h1 } : Shared).TypeIs (.ref z) "zip" := ⟨_, hz1, rfl⟩
  have e1 : Builtin.List.listSameRef (.ref S) (.ref z) = false := by simp [Builtin.List.listSameRef, hSz]
  unfold Builtin.List.listExtendWith
  refine wpAny_bind (wpAny_typeOf hT ?_)
  have h2 : (Value.type "zip" == Value.type "list") = false := by decide
  have h3 : (Value.type "zip" == Value.type "tuple") = false := by decide
  simp only [e1, h2, h3, Bool.or_false, Bool.false_eq_true, if_false]
  refine wpAny_bind (wpAny_pyIter_zip (s := { s with heap := h1 }) hz1 ?_)
  refine wpAny_bind (wpAny_holding ?_)
  unfold Builtin.List.listLengthHint
  refine wpAny_bind (wpAny_specialOf hT nolen_zip ?_)
  show wpAny _ A.in1 (specialOf (Value.ref z) (Str.ofString "__length_hint__") >>= _) _ _ _
  refine wpAny_bind (wpAny_specialOf hT nohint_zip ?_)
  refine wpAny_pure ?_
  show wpAny _ A.in1 (rule "list.extend.makes-room" >>= fun _ => Builtin.List.listTouch (.ref S) >>= fun _ => again (.builtin "list.extend.loop" ⟨[.ref S, .ref z, .none], []⟩)) _ _ _
  refine wpAny_bind (wpAny_rule ?_)
  refine wpAny_bind ?_
  show wpAny _ A.in1 (updateSeq S (·.push .none) >>= fun _ => updateSeq S (·.pop)) _ _ _
  refine wpAny_bind (wpAny_updateSeq hS₁ rfl ?_)
  have hS₂ := Heap.get?_update_self (Obj.mapSeq (·.push Value.none)) hS₁ rfl
  refine wpAny_updateSeq hS₂ rfl ?_
  have hS₃ := Heap.get?_update_self (Obj.mapSeq (·.pop)) hS₂ rfl
  have oth2 : ∀ b o, b ≠ S → h1.get? b = some o → ((h1.update S (Obj.mapSeq (·.push Value.none))).update S (Obj.mapSeq (·.pop))).get? b = some o :=
    fun b o hb e => (Heap.get?_update_other _ _ (Ne.symm hb)).trans ((Heap.get?_update_other _ _ (Ne.symm hb)).trans e)
  exact wpAny_pure ⟨plainId_quiet F.plain_extend_loop _, hR _ _ (fun b o hb e => oth2 b o hb (oth b o hb e)) hS₃⟩
theorem call_list_zip {z TI TO : Addr} {Q : Value → Shared → Prop} (hh : A.handled = none) (hz : IsZip s.heap z TI TO .none)
    (hQ : ∀ h' c' A' R, A'.handled = none → (∀ b o, s.heap.get? b = some o → h'.get? b = some o) → h'.get? s.heap.objs.size = some (lstObj #[] c') → (∀ s', Q (.ref s.heap.objs.size) s' → R (.ok (.ret .none)) s') →
      codeAny (model prog w) A' (.builtin "list.extend.loop" ⟨[.ref s.heap.objs.size, .ref z, .none], []⟩) R { s with heap := h' }) :
    wpAny (model prog w) A (call (.type "list") [.ref z]) Q E s := by
  refine callType_codes (Q₁ := fun obj s₁ => obj = .ref s.heap.objs.size ∧ s₁ = { s with heap := s.heap.push { cls := .type "list", data := .seq #[] } }) F.called_list (F.typeCall_list_1 _) F.entry_list_init
    (code_list_new _ ⟨rfl, rfl⟩) fun obj s₁ h₁ => ?_
  obtain ⟨rfl, rfl⟩ := h₁
  have hS : (s.heap.push { cls := .type "list", data := .seq #[] }).get? s.heap.objs.size = some { cls := .type "list", data := .seq #[] } := Heap.get?_push_size _ rfl
  refine ⟨⟨_, hS, rfl⟩, F.args_list_init_2 _ _, init_zip (A := A.in1) (Heap.get?_push_of_some _ hz) _ hS (Nat.ne_of_gt (Heap.lt_size hz)) fun h' c' hk hS' => ?_⟩
  exact hQ h' c' A.in1 _ hh (fun b o e => hk b o (Nat.ne_of_lt (Heap.lt_size e)) (Heap.get?_push_of_some _ e)) hS' fun s' q => ⟨rfl, q⟩
end
/-- a zip of two lists, at its turn i -/
def ZSt (S z TI TO i1 i2 a b : Addr) (i : Nat) (h : Heap) : Prop :=
  ((IsZip h z TI TO .none ∧ ∃ x y, IsPair h TO x y) ∨ ∃ T f o, IsZipHeld h z TI TO T f ∧ h.get? T = some o ∧ T ≠ S ∧ T ≠ z ∧ T ≠ i1 ∧ T ≠ i2 ∧ T ≠ TO) ∧ IsPair h TI (.ref i1) (.ref i2) ∧ h.IsListIter i1 a i ∧ h.IsListIter i2 b i
section
variable {prog : Program} {w : World} {A : Around} {E : Value → Shared → Prop} {s : Shared}
theorem next_zip {S z TI TO i1 i2 a b : Addr} {i : Nat} {xs ys : Array Value} {x y : Value} {Q : Option Value → Shared → Prop} (D : ZipApart z TI TO i1 i2 a b) (hSl : S < s.heap.objs.size) (hi1 : i1 < s.heap.objs.size) (hi2 : i2 < s.heap.objs.size) (hTOl : TO < s.heap.objs.size)
    (st : ZSt S z TI TO i1 i2 a b i s.heap) (hl1 : s.heap.IsList a xs) (hl2 : s.heap.IsList b ys) (hx : xs[i]? = some x) (hy : ys[i]? = some y)
    (hQ : ∀ h', ZSt S z TI TO i1 i2 a b (i + 1) h' → IsPair h' s.heap.objs.size x y → h'.objs.size = s.heap.objs.size + 1 →
      (∀ c o, c ∉ [z, TO, i1, i2] → s.heap.get? c = some o → h'.get? c = some o) → Q (some (.ref s.heap.objs.size)) { s with heap := h' }) : wpAny (model prog w) A (pyNext (.ref z)) Q E s := by
  obtain ⟨hz, hTI, h1, h2⟩ := st
  have hfr : ∀ {c}, c < s.heap.objs.size → s.heap.objs.size ≠ c := fun h => Nat.ne_of_gt h
  rcases hz with ⟨hz, x0, y0, hTO⟩ | ⟨T, f, o, hz, hT, t1, t2, t3, t4, t5⟩
  · refine wpAny_pyNext_zip_item D hz hTI hTO h1 h2 hl1 hl2 hx hy fun h' a1 a2 a3 a4 a5 a6 hk => ?_
    refine hQ h' ⟨.inr ⟨s.heap.objs.size, false, _, a1, a5, hfr hSl, hfr (Heap.lt_size hz), hfr hi1, hfr hi2, hfr hTOl⟩, hk _ _ D.TIz D.TITO D.TIi1 D.TIi2 hTI, a3, a4⟩ a5 a6 fun c o hc e => ?_
    simp only [List.mem_cons, List.not_mem_nil, or_false, not_or] at hc
    exact hk c o hc.1 hc.2.1 hc.2.2.1 hc.2.2.2 e
  · refine wpAny_pyNext_zip_item_held D hz hT hTI h1 h2 hl1 hl2 hx hy fun h' a1 a3 a4 a5 a6 hk => ?_
    refine hQ h' ⟨.inr ⟨T, true, o, a1, hk _ _ t2 t3 t4 hT, t1, t2, t3, t4, t5⟩, hk _ _ D.TIz D.TIi1 D.TIi2 hTI, a3, a4⟩ a5 a6 fun c o hc e => ?_
    simp only [List.mem_cons, List.not_mem_nil, or_false, not_or] at hc
    exact hk c o hc.1 hc.2.2.1 hc.2.2.2 e
theorem end_zip {S z TI TO i1 i2 a b : Addr} {i : Nat} {xs ys : Array Value} {Q : Option Value → Shared → Prop} (hh : A.handled = none) (D : ZipApart z TI TO i1 i2 a b)
    (st : ZSt S z TI TO i1 i2 a b i s.heap) (hl1 : s.heap.IsList a xs) (hl2 : s.heap.IsList b ys) (he : xs[i]? = none ∨ ys[i]? = none)
    (hQ : ∀ h', (∀ c o, c ∉ [z, TO, i1, i2] → s.heap.get? c = some o → h'.get? c = some o) → Q none { s with heap := h' }) : wpAny (model prog w) A (pyNext (.ref z)) Q E s := by
  obtain ⟨hz, hTI, h1, h2⟩ := st
  rcases hz with ⟨hz, x0, y0, hTO⟩ | ⟨T, f, o, hz, hT, t1, t2, t3, t4, t5⟩
  · refine wpAny_pyNext_zip_end hh D hz hTI hTO h1 h2 hl1 hl2 he fun h' hk => hQ h' fun c o hc e => ?_
    simp only [List.mem_cons, List.not_mem_nil, or_false, not_or] at hc
    exact hk c o hc.1 hc.2.1 hc.2.2.1 hc.2.2.2 e
  · refine wpAny_pyNext_zip_end_held hh D hz hT hTI h1 h2 hl1 hl2 he fun h' hk => hQ h' fun c o hc e => ?_
    simp only [List.mem_cons, List.not_mem_nil, or_false, not_or] at hc
    exact hk c o hc.1 hc.2.2.1 hc.2.2.2 e
end
/-- the pairs of a list that was made of a zip -/
def Prs (H0 H : Hp) (xs ys us : List V) : Prop := ∀ (j : Nat) (u : V), us[j]? = some u → ∃ T x y, u = V.ref T ∧ H0 T = none ∧ H T = some (HO.tup [x, y]) ∧ xs[j]? = some x ∧ ys[j]? = some y
theorem ext_zip {X : Cx} {A : Around} {pins : List (Addr × Obj)} {σ : L2.St} {S z TI TO i1 i2 a b : Addr} {n0 : Nat} {xs ys : List V} {H0 : Hp} {R : Result → Shared → Prop} (hh : A.handled = none) (D : ZipApart z TI TO i1 i2 a b)
    (hn0 : S ∉ [z, TI, TO, i1, i2]) (hlt0 : ∀ ch ∈ [S, z, TI, TO, i1, i2], ch < n0) (h0 : H0 S = none) (hSp : ∀ p ∈ X.pn ++ pins, p.1 ≠ S) (hqx : SqL X.K H0 a xs) (hqy : SqL X.K H0 b ys) :
    ∀ (k i : Nat) (H : Hp) (s : Shared) (acc : Array Value) (c : Nat) (us : List V), min xs.length ys.length - i = k → i ≤ min xs.length ys.length → n0 ≤ s.heap.objs.size → Inv X pins σ H s → (∀ ch ∈ [z, TO, i1, i2], FpOk X pins H ch) → ZSt S z TI TO i1 i2 a b i s.heap →
      Same H0 H → H S = some (.lst us) → s.heap.get? S = some (lstObj acc c) → Vals us acc.toList → us.length = i → Prs H0 H xs ys us →
      (∀ H' s' us', Inv X pins σ H' s' → Same H0 H' → H' S = some (.lst us') → us'.length = min xs.length ys.length → Prs H0 H' xs ys us' → R (.ok (.ret .none)) s') →
      codeAny (model X.prog X.w) A (.builtin "list.extend.loop" ⟨[.ref S, .ref z, .none], []⟩) R s := by
  intro k
  induction k with
  | zero =>
    intro i H s acc c us hk hi hn I hf st hs hS hSo hv hul hp hR
    have hin : i = min xs.length ys.length := by omega
    obtain ⟨its, rv, p, _⟩ := I.list (SqL.mono hs hqx)
    obtain ⟨its2, rv2, p2, _⟩ := I.list (SqL.mono hs hqy)
    have l1 := rv.length
    have l2 := rv2.length
    refine codeAny_builtin F.entry_extend_loop ?_
    rw [Around.under_plainId F.plain_extend_loop _]
    show wpAny _ A.in1 (pyNext (.ref z) >>= _) _ _ s
    have he : its.toArray[i]? = none ∨ its2.toArray[i]? = none := by
      rcases Nat.le_total xs.length ys.length with h | h
      · exact .inl (by simp; omega)
      · exact .inr (by simp; omega)
    refine wpAny_bind (end_zip (A := A.in1) hh D st p.isList p2.isList he fun h' hk => ?_)
    exact wpAny_pure (hR H _ us (I.turnedL (t' := s.toks) (ch := [z, TO, i1, i2]) hk hf) hs hS (by omega) hp)
  | succ k ih =>
    intro i H s acc c us hk hi hn I hf st hs hS hSo hv hul hp hR
    have hlt : i < min xs.length ys.length := by omega
    obtain ⟨its, rv, p, hz1⟩ := I.list (SqL.mono hs hqx)
    obtain ⟨its2, rv2, p2, _⟩ := I.list (SqL.mono hs hqy)
    obtain ⟨x, hx⟩ : ∃ x, xs[i]? = some x := ⟨_, List.getElem?_eq_getElem (by omega)⟩
    obtain ⟨y, hy⟩ : ∃ y, ys[i]? = some y := ⟨_, List.getElem?_eq_getElem (by omega)⟩
    obtain ⟨u, hu, ru⟩ := rv.get hx
    obtain ⟨u2, hu2, ru2⟩ := rv2.get hy
    have hlt1 : ∀ ch ∈ [S, z, TI, TO, i1, i2], ch < s.heap.objs.size := fun ch hc => Nat.lt_of_lt_of_le (hlt0 ch hc) hn
    simp only [List.mem_cons, List.not_mem_nil, or_false, not_or] at hn0
    obtain ⟨m1, m2, m3, m4, m5⟩ := hn0
    refine codeAny_builtin F.entry_extend_loop ?_
    rw [Around.under_plainId F.plain_extend_loop _]
    show wpAny _ A.in1 (pyNext (.ref z) >>= _) _ _ s
    refine wpAny_bind (next_zip (A := A.in1) D (hlt1 S (by simp)) (hlt1 i1 (by simp)) (hlt1 i2 (by simp)) (hlt1 TO (by simp)) st p.isList p2.isList (x := u) (y := u2) (by simpa using hu) (by simpa using hu2) fun h' st' hT hsz hk' => ?_)
    have new : ObjOk X.prog X.w (upd H s.heap.objs.size (.tup [x, y])) h' s.heap.objs.size (.tup [x, y]) := ⟨by show 2 ≤ sizeLine; decide, [u, u2], .cons ru (.cons ru2 .nil), ⟨_, hT, rfl, _, rfl⟩⟩
    have I1 : Inv X pins σ (upd H s.heap.objs.size (.tup [x, y])) { s with heap := h' } := I.turnedNew (t' := s.toks) (ch := [z, TO, i1, i2]) hk' hf (Nat.le_refl _) new
    have hSne : S ≠ s.heap.objs.size := Nat.ne_of_lt (hlt1 S (by simp))
    have hSo' : h'.get? S = some (lstObj acc c) := hk' S _ (by simp only [List.mem_cons, List.not_mem_nil, or_false, not_or]; exact ⟨m1, m3, m4, m5⟩) hSo
    show wpAny _ A.in1 (updateSeq S (·.push (.ref s.heap.objs.size)) >>= _) _ _ _
    have hacc : acc.size = i := by
      have := hv.length
      simp at this; omega
    refine wpAny_bind ?_
    have hzl : i ≤ sizeLine := by omega
    have hn1 : H s.heap.objs.size = none := I.hok.fresh (Nat.le_refl _)
    refine wpAny_updateSeq hSo' rfl (wpAny_pure ⟨plainId_quiet F.plain_extend_loop _, ih (i + 1) (upd (upd H s.heap.objs.size (.tup [x, y])) S (.lst (us ++ [.ref s.heap.objs.size]))) _ (acc.push (.ref s.heap.objs.size)) _ (us ++ [.ref s.heap.objs.size]) (by omega) hlt ?_ ?_ ?_ ?_ ?_ upd_same (Heap.get?_update_self _ hSo' rfl) ?_ (by rw [List.length_append, List.length_singleton, hul]) ?_ hR⟩)
      (by rw [hacc]; omega) (by show (acc.push _).size ≤ sizeLine + 1; rw [Array.size_push, hacc]; omega)
    · show n0 ≤ (h'.update S _).objs.size
      rw [Heap.size_update]; omega
    · refine I1.write (h' := h'.update S _) (x := S) (e := S) ?_ (.inl rfl) (fun b u hb e => (Heap.get?_update_other _ _ (Ne.symm hb)).trans e) ⟨_, Heap.get?_update_self _ hSo' rfl⟩ ?_
      · rw [upd_ne hSne, hS]; trivial
      · refine ⟨by rw [List.length_append, List.length_singleton]; omega, (acc.push (.ref s.heap.objs.size)).toList, ?n, ?v, ?g⟩
        case g =>
          rw [Array.toArray_toList]
          exact Heap.get?_update_self (Obj.mapSeq fun x => x.push (Value.ref s.heap.objs.size)) hSo' rfl
        case v =>
          rw [Array.toList_push]
          exact Vals.append hv (.cons rfl .nil)
    · intro ch hc
      have hne : ch ≠ S := fun e => by
        subst e
        simp only [List.mem_cons, List.not_mem_nil, or_false] at hc
        rcases hc with e | e | e | e
        · exact m1 e
        · exact m3 e
        · exact m4 e
        · exact m5 e
      refine ⟨?_, (hf ch hc).2⟩
      rw [upd_ne hne, upd_ne (Nat.ne_of_lt (hlt1 ch (by simp only [List.mem_cons, List.not_mem_nil, or_false] at hc ⊢; rcases hc with e | e | e | e <;> simp [e])))]
      exact (hf ch hc).1
    · obtain ⟨q1, q2, q3, q4⟩ := st'
      have oth : ∀ b o, b ≠ S → h'.get? b = some o → (h'.update S (Obj.mapSeq fun x => x.push (Value.ref s.heap.objs.size))).get? b = some o := fun b o hb e => (Heap.get?_update_other _ _ (Ne.symm hb)).trans e
      refine ⟨?_, oth _ _ (Ne.symm m2) q2, q3.at fun o e => oth _ o (Ne.symm m4) e, q4.at fun o e => oth _ o (Ne.symm m5) e⟩
      rcases q1 with ⟨q1, x0, y0, q⟩ | ⟨T, f, o, q1, q, t1, t2⟩
      · exact .inl ⟨oth _ _ (Ne.symm m1) q1, x0, y0, oth _ _ (Ne.symm m3) q⟩
      · exact .inr ⟨T, f, o, oth _ _ (Ne.symm m1) q1, oth _ _ t1 q, t1, t2⟩
    · intro b o e
      rw [upd_ne (ne_of_none e h0), upd_ne (ne_of_none (hs _ _ e) hn1)]
      exact hs _ _ e
    · rw [Array.toList_push]
      exact Vals.append hv (.cons rfl .nil)
    · intro j v hv'
      by_cases hj : j < us.length
      · rw [List.getElem?_append_left hj] at hv'
        obtain ⟨T, x', y', e1, e2, e3, e4⟩ := hp j v hv'
        refine ⟨T, x', y', e1, e2, ?_, e4⟩
        rw [upd_ne (fun z => by subst z; rw [hS] at e3; cases e3), upd_ne (ne_of_none e3 hn1)]
        exact e3
      · have hj2 := (List.getElem?_eq_some_iff.mp hv').1
        rw [List.length_append, List.length_singleton] at hj2
        have : j = us.length := by omega
        subst this
        rw [List.getElem?_append_right (Nat.le_refl _), Nat.sub_self] at hv'
        obtain rfl := Option.some.inj hv'
        refine ⟨s.heap.objs.size, x, y, rfl, ?_, ?_, by rw [hul]; exact hx, by rw [hul]; exact hy⟩
        · cases e : H0 s.heap.objs.size with
          | none => rfl
          | some o => rw [hs _ _ e] at hn1; cases hn1
        · rw [upd_ne (Ne.symm hSne), upd_same]
def tLstZip (K : PySem.W.Frag) (ta : TA) : TE := fun σ H Q => ta σ H fun vs H1 => ∃ a b xs ys, vs = [.ref a, .ref b] ∧ SqL K H1 a xs ∧ SqL K H1 b ys ∧
  ∀ q H' us, Same H1 H' → H1 q = none → H' q = some (.lst us) → us.length = min xs.length ys.length → Prs H1 H' xs ys us → Q (.ref q) H'
section
variable {X : Cx}
theorem pe_lstZip {e e2 : Expr} {ta : TA} {p p2 pos pos2 : Pos} (hc : X.calm = true) (hg : Gl X "list") (hm : X.mg "list" = none) (hg2 : Gl X "zip") (hm2 : X.mg "zip" = none) (ha : PA X [e, e2] ta)
    (hs : starEach [e, e2] X.env = (false, eval e X.env) :: starEach [e2] X.env) (hpl : (backTo pos2 (starEach [e2] X.env)).any (·.1) = false)
    (hs2 : starEach [.Call (.Name "zip" p2) [e, e2] [] pos2] X.env = (false, eval (.Call (.Name "zip" p2) [e, e2] [] pos2) X.env) :: starEach [] X.env) :
    PE X (.Call (.Name "list" p) [.Call (.Name "zip" p2) [e, e2] [] pos2] [] pos) (tLstZip X.K ta) := by
  refine ⟨fun pins s σ H Q I h => ?_⟩
  refine Call_ (ld_blt I hg hm boot_list (PyProof.Rows.callWith_type1 (args_cons (Call_ (ld_blt I hg2 hm2 PyProof.Rows.boot_zip (PyProof.Rows.callWith_type1 (thn (ha.run pos2 pins s σ H _ I h) fun us s1 ⟨vs, H1, I1, r1, q1⟩ => ?_) hs hpl))) hs2) hs2 rfl))
  obtain ⟨a, b, xs, ys, ex, hqx, hqy, q⟩ := q1
  subst ex
  cases r1 with
  | cons r rr =>
    cases rr with
    | cons r' rr =>
      cases rr
      cases r
      cases r'
      obtain ⟨its, rv, p1, _⟩ := I1.list hqx
      obtain ⟨its2, rv2, p2, _⟩ := I1.list hqy
      have la : a < s1.heap.objs.size := p1.lt
      have lb : b < s1.heap.objs.size := p2.lt
      refine call_zip_2 p1.isList p2.isList fun h' hz hTI hTO h1 h2 hsz hk => args_nil ?_
      have D := PySem.W.ktu_apart s1.heap.objs.size a b la lb
      refine call_list_zip (s := { s1 with heap := h' }) (I1.ok.hd hc) hz fun h'' c' A' R hA hk2 hS hR => ?_
      have hS' : h''.get? h'.objs.size = some (lstObj #[] c') := hS
      show codeAny _ _ (.builtin "list.extend.loop" ⟨[.ref h'.objs.size, _, _], []⟩) _ _
      have hkk : ∀ b o, s1.heap.get? b = some o → h''.get? b = some o := fun b o e => hk2 b o (hk b o e)
      have hle0 : (s1.heap.objs.size : Nat) ≤ h'.objs.size := by omega
      have hS1 : H1 h'.objs.size = none := I1.hok.fresh hle0
      have I2 : Inv X pins σ (upd H1 h'.objs.size (.lst [])) { s1 with heap := h'' } := I1.laid (t' := s1.toks) hkk hle0 ⟨by simp, [], c', .nil, hS'⟩
      have hl2 : (h'.objs.size : Nat) < h''.objs.size := Heap.lt_size hS'
      have hfp : ∀ ch ∈ [s1.heap.objs.size + 4, s1.heap.objs.size + 3, s1.heap.objs.size, s1.heap.objs.size + 1], FpOk X pins (upd H1 h'.objs.size (.lst [])) ch := fun ch hc => by
        have hle : s1.heap.objs.size ≤ ch ∧ ch < h'.objs.size := by
          simp only [List.mem_cons, List.not_mem_nil, or_false] at hc
          rcases hc with e | e | e | e <;> subst e <;> constructor <;> show @LE.le Nat _ _ _ <;> omega
        refine I1.fpOk hle.1 ?_
        rw [upd_ne (Nat.ne_of_lt hle.2)]
        exact I1.hok.fresh hle.1
      refine ext_zip (n0 := h''.objs.size) (xs := xs) (ys := ys) (H0 := H1) hA D ?_ ?_ hS1 (fun p hp z => ?_) hqx hqy _ 0 (upd H1 h'.objs.size (.lst [])) _ #[] c' [] rfl (Nat.zero_le _) (Nat.le_refl _) I2 hfp ?_ (same_new _ hS1) upd_same hS' .nil rfl (fun j u e => by simp at e) fun H' s' us' I' a1 a2 a3 a4 => hR s' ⟨.ref h'.objs.size, H', I', rfl, q _ H' us' a1 hS1 a2 a3 a4⟩
      · intro hc
        simp only [List.mem_cons, List.not_mem_nil, or_false] at hc
        rcases hc with e | e | e | e | e
        all_goals
          have e : @Eq Nat _ _ := e
          omega
      · intro ch hc
        simp only [List.mem_cons, List.not_mem_nil, or_false] at hc
        rcases hc with e | e | e | e | e | e <;> subst e <;> show @LT.lt Nat _ _ _ <;> omega
      · have h1 : @LT.lt Nat _ _ _ := Heap.lt_size (I1.pin p hp).1
        have z : @Eq Nat _ _ := z
        omega
      · refine ⟨.inl ⟨hk2 _ _ hz, .none, .none, hk2 _ _ hTO⟩, hk2 _ _ hTI, h1.at fun o e => hk2 _ o e, h2.at fun o e => hk2 _ o e⟩
end
def zipL (a : En → Option (List D)) : En → Option (List D) := fun ρ => match a ρ with
  | some [.list ds, .list es] => some (zipD ds es)
  | _ => none
theorem prs_dq {K : PySem.W.Frag} {H0 H : Hp} {O : List Addr} {l : Addr} {ws : List V} (mu : ∀ a ∈ O, ∃ o, H0 a = some o) (hl : H l = some (.lst ws)) : ∀ {xs ys us : List V} {ds es : List D}, DqAll K (hid H (l :: O)) xs ds → DqAll K (hid H (l :: O)) ys es → us.length = min xs.length ys.length → Prs H0 H xs ys us → DqAll K (hid H (l :: O)) us (zipD ds es)
  | [], ys, us, _, es, .nil, h2, h3, h4 => by
    have : us = [] := List.eq_nil_of_length_eq_zero (by simpa using h3)
    subst this
    cases es <;> exact .nil
  | x :: xs, [], us, _, _, .cons a b, .nil, h3, h4 => by
    have : us = [] := List.eq_nil_of_length_eq_zero (by simpa using h3)
    subst this
    exact .nil
  | x :: xs, y :: ys, us, _, _, .cons a b, .cons c d, h3, h4 => by
    cases us with
    | nil => simp at h3
    | cons u us =>
      obtain ⟨T, x', y', rfl, e1, e2, e3, e4⟩ := h4 0 u rfl
      obtain rfl : x = x' := by simpa using e3
      obtain rfl : y = y' := by simpa using e4
      refine .cons (.tup (.inl (.inl ?_)) (.cons a (.cons c .nil))) (prs_dq mu hl b d (by simp only [List.length_cons] at h3; omega) fun j v e => h4 (j + 1) v (by simpa using e))
      rw [hid_out]
      · exact e2
      · intro z
        rcases List.mem_cons.mp z with z | z
        · subst z; rw [hl] at e2; cases e2
        · obtain ⟨o, q⟩ := mu T z
          rw [q] at e1; cases e1
theorem dl_zip {K : PySem.W.Frag} {B : Bs} {ta : TA} {f : En → Option (List D)} (h : DA K B ta f) : DL K B (tLstZip K ta) (zipL f) := fun ρ σ H O zs R e Q q => by
  unfold zipL at e
  split at e
  · rename_i ds es hf
    cases e
    refine h ρ σ H O _ R hf _ fun vs H1 s x => ?_
    cases x with
    | cons x y =>
      cases y with
      | cons y z =>
        cases z
        cases x with
        | @lst _ xs _ hs1 ha1 =>
          cases y with
          | @lst _ ys _ hs2 ha2 =>
            refine ⟨_, _, xs, ys, rfl, SqL.mono (hid_self _ _) hs1, SqL.mono (hid_self _ _) hs2, fun l H' us b1 b2 b3 b4 b5 => q l us H' (s.trans b1) ?_ b3 ?_⟩
            · cases e : H l with
              | none => rfl
              | some o => rw [s _ _ e] at b2; cases b2
            · have hl0 : H1 l = none := b2
              have g1 : Same (hid H1 O) (hid H' (l :: O)) := fun a o e => by
                obtain ⟨q1, q2⟩ := of_hid e
                rw [hid_out (by simp only [List.mem_cons, not_or]; exact ⟨ne_of_none q2 hl0, q1⟩)]
                exact b1 _ _ q2
              exact prs_dq (fun a ha => by
                obtain ⟨o, e, _⟩ := R.mu a ha
                exact ⟨o, s _ _ e⟩) b3 (DqAll.mono g1 _ _ ha1) (DqAll.mono g1 _ _ ha2) b4 b5
  · cases e
theorem l_zip {X : Cx} {B : Bs} {e e2 : Expr} {ta : TA} {f : En → Option (List D)} {p p2 pos pos2 : Pos} (hc : X.calm = true) (hm : X.mg "list" = none) (hm2 : X.mg "zip" = none) (h : XA X B [e, e2] ta f) (hg : Gl X "list" := by rfl) (hg2 : Gl X "zip" := by rfl)
    (hs : starEach [e, e2] X.env = (false, eval e X.env) :: starEach [e2] X.env := by rfl) (hpl : (backTo pos2 (starEach [e2] X.env)).any (·.1) = false := by rfl)
    (hs2 : starEach [.Call (.Name "zip" p2) [e, e2] [] pos2] X.env = (false, eval (.Call (.Name "zip" p2) [e, e2] [] pos2) X.env) :: starEach [] X.env := by rfl) (hk : X.K = B.K := by rfl) :
    XL X B (.Call (.Name "list" p) [.Call (.Name "zip" p2) [e, e2] [] pos2] [] pos) (tLstZip B.K ta) (zipL f) := ⟨hk ▸ pe_lstZip hc hg hm hg2 hm2 h.pe hs hpl hs2, dl_zip h.de⟩
end Z

set_option Elab.async false
set_option maxRecDepth 100000
set_option maxHeartbeats 4000000
set_option linter.all false
/-! ZO: trees read of texts: a list of lists, by hand -/
namespace Z
open PySem PySem.Spec PyProof.Rows L2
theorem walk_enumS {z : Str} : Walk (IteS z) z.cps.size (fun _ => True) (fun i H v H' => ∃ T c, v = .ref T ∧ H T = none ∧ H' = upd H T (.tup [.int (i : Nat), .str ⟨#[c]⟩]) ∧ z.cps[i]? = some c) :=
  ⟨fun _ _ hi _ => hi, fun _ _ => Nat.le_refl _, fun _ _ _ _ _ _ y => y⟩
/-- rows: lists, each at a place of its own -/
inductive Rws (K : PySem.W.Frag) (G H : Hp) : List Addr → List (List D) → Prop
  | nil : Rws K G H [] []
  | snoc {ls : List Addr} {rows : List (List D)} {a : Addr} {vs : List V} {ds : List D} : Rws K G H ls rows → H a = some (.lst vs) → DqAll K G vs ds → Rws K G H (ls ++ [a]) (rows ++ [ds])
section
variable {K : PySem.W.Frag} {G G' H H' : Hp}
theorem Rws.len {ls : List Addr} {rows : List (List D)} (h : Rws K G H ls rows) : ls.length = rows.length := by
  induction h with
  | nil => rfl
  | snoc _ _ _ ih => rw [List.length_append, List.length_append, ih]; rfl
theorem Rws.mono {ls : List Addr} {rows : List (List D)} (h : Rws K G H ls rows) (s : Same G G') (k : ∀ a ∈ ls, ∀ o, H a = some o → H' a = some o) : Rws K G' H' ls rows := by
  induction h with
  | nil => exact .nil
  | snoc _ h2 h3 ih => exact .snoc (ih fun a ha => k a (List.mem_append_left _ ha)) (k _ (List.mem_append_right _ List.mem_cons_self) _ h2) (DqAll.mono s _ _ h3)
theorem Rws.at {ls : List Addr} {rows : List (List D)} (h : Rws K G H ls rows) : ∀ a ∈ ls, ∃ vs, H a = some (.lst vs) := by
  induction h with
  | nil => intro a ha; cases ha
  | snoc _ h2 _ ih =>
    intro a ha
    rcases List.mem_append.mp ha with ha | ha
    · exact ih a ha
    · rcases List.mem_singleton.mp ha with rfl; exact ⟨_, h2⟩
theorem DqAll.snoc' {G : Hp} : ∀ {vs us : List V} {ds es : List D}, DqAll K G vs ds → DqAll K G us es → DqAll K G (vs ++ us) (ds ++ es)
  | [], _, [], _, .nil, h => h
  | _ :: _, _, _ :: _, _, .cons a b, h => .cons a (DqAll.snoc' b h)
/-- read as data -/
theorem Rws.dq {ls : List Addr} {rows : List (List D)} (h : Rws K G H ls rows) (s : Same G H) : DqAll K H (ls.map V.ref) (rows.map PyData.list) := by
  induction h with
  | nil => exact .nil
  | snoc _ h2 h3 ih =>
    rw [List.map_append, List.map_append]
    exact DqAll.snoc' ih (.cons (.lst (SqL.of h2) (DqAll.mono s _ _ h3)) .nil)
end
/-- what one sign does to the rows; none: it raises -/
def trS (gf gj : List D → Option Rv) (rows : List (List D)) (c : Nat) : Option (Option (List (List D))) :=
  match toD (gf [.list (rows.map .list), .str ⟨#[c]⟩]) with
  | some (.bool true) =>
    if c = 40 then (if rows.length < 1000000 then some (some (rows ++ [[]])) else none)
    else if c = 41 then (match rows.getLast?, rows.dropLast.getLast? with
      | some [x, y], some r1 => if r1.length < 1000000 then (toD (gj [x, y])).map fun t => some (rows.dropLast.dropLast ++ [r1 ++ [t]]) else none
      | _, _ => none)
    else (match rows.getLast? with
      | some r1 => if r1.length < 1000000 then some (some (rows.dropLast ++ [r1 ++ [.str ⟨#[c]⟩]])) else none
      | none => none)
  | some (.bool false) => some none
  | _ => none
def trGo (gf gj : List D → Option Rv) : Nat → List Nat → List (List D) → Option (Nat ⊕ List (List D))
  | _, [], rows => some (.inr rows)
  | i, c :: cs, rows => (trS gf gj rows c).bind fun
    | none => some (.inl i)
    | some rows' => trGo gf gj (i + 1) cs rows'
def trEnd (n : Nat) : Nat ⊕ List (List D) → Option RvX
  | .inl i => some (.ex "NoTree" (.int i))
  | .inr rows => if 1 < rows.length then some (.ex "NoTree" (.int n)) else match rows with
    | [[]] => some (.ex "NoTree" (.int n))
    | [d :: ds] => if immAll (d :: ds) = true ∧ PyData.canLayAll0 (d :: ds) = true then some (.ok (.v d)) else none
    | _ => none
def trX (gf gj : List D → Option Rv) : List D → Option RvX
  | [.str z] => if z.cps.size ≤ 1000000 then (trGo gf gj 0 z.cps.toList [[]]).bind (trEnd z.cps.size) else none
  | _ => none
theorem tr_none {gf gj : List D → Option Rv} {rows : List (List D)} {c : Nat} (h : trS gf gj rows c = some none) : toD (gf [.list (rows.map .list), .str ⟨#[c]⟩]) = some (.bool false) := by
  unfold trS at h
  split at h
  · exfalso
    repeat' (split at h)
    all_goals first | (cases h; done) | (obtain ⟨t, _, e⟩ := map_some h; cases e)
  · assumption
  · cases h
theorem trGo_snoc (gf gj : List D → Option Rv) (c : Nat) : ∀ (cs : List Nat) (i : Nat) (rows : List (List D)), trGo gf gj i (cs ++ [c]) rows = (trGo gf gj i cs rows).bind fun
    | .inl j => some (.inl j)
    | .inr r => trGo gf gj (i + cs.length) [c] r
  | [], i, rows => rfl
  | d :: cs, i, rows => by
    show (trS gf gj rows d).bind _ = ((trS gf gj rows d).bind _).bind _
    cases trS gf gj rows d with
    | none => rfl
    | some o =>
      cases o with
      | none => rfl
      | some r =>
        show trGo gf gj (i + 1) (cs ++ [c]) r = (trGo gf gj (i + 1) cs r).bind _
        rw [trGo_snoc gf gj c cs (i + 1) r, List.length_cons, show i + 1 + cs.length = i + (cs.length + 1) from by omega]
theorem Rws.inv {K : PySem.W.Frag} {G H : Hp} {ls : List Addr} {rows : List (List D)} {ds : List D} (h : Rws K G H ls rows) (e : rows.getLast? = some ds) : ∃ ls' rows' a vs, ls = ls' ++ [a] ∧ rows = rows' ++ [ds] ∧ Rws K G H ls' rows' ∧ H a = some (.lst vs) ∧ DqAll K G vs ds := by
  cases h with
  | nil => cases e
  | @snoc ls' rows' a vs ds' h1 h2 h3 =>
    rw [List.getLast?_concat] at e
    cases e
    exact ⟨ls', rows', a, vs, rfl, rfl, h1, h2, h3⟩
theorem tr_atl {α : Type} {xs : List α} {a : α} : atI (xs ++ [a]) (-1) = some a := by
  unfold atI ixN
  rw [if_neg (by decide), if_pos (by rw [List.length_append, List.length_singleton]; omega)]
  show (xs ++ [a])[_]? = _
  rw [show (-1 + ((xs ++ [a]).length : Int)).toNat = xs.length from by rw [List.length_append, List.length_singleton]; omega]
  rw [List.getElem?_append_right (Nat.le_refl _), Nat.sub_self]
  rfl
/-! ### a statement of the layer (a raise) as a rule of the hand's -/
def BkW (K : PySem.W.Frag) (H : Hp) (O : List Addr) (W : WX) : Bs := ⟨K, H, O, [], none, W⟩
theorem rs_w {K : PySem.W.Frag} {H : Hp} {O : List Addr} {ρ : En} {σ : L2.St} (W : WX) (R : RS K (Bk K H O) ρ σ H O) : RS K (BkW K H O W) ρ σ H O := ⟨R.len, R.slot, R.uniq, R.same, R.own, R.mu, R.sub0, R.lo, R.pin⟩
def tZS (K : PySem.W.Frag) (W : WX) (F : En → Option Out) : TS := fun D σ H => ∃ O ρ o, RS K (BkW K H O W) ρ σ H O ∧ F ρ = some o ∧ Good K (BkW K H O W) H O o D
theorem ps_zs {X : Cx} {K : PySem.W.Frag} {st : Stmt} {W : WX} {F : En → Option Out} (h : ∀ H O, ∃ t, PS X st t ∧ DS K (BkW K H O W) t F) : PS X st (tZS K W F) := ⟨fun pins s σ H D I z => by
  obtain ⟨O, ρ, o, R, e, g⟩ := z
  obtain ⟨t, p, d⟩ := h H O
  exact p.run pins s σ H D I (d ρ σ H O o R e D g)⟩
theorem ps_zsx {X : Cx} {K : PySem.W.Frag} {st : Stmt} {W : WX} {F : En → Option Out} (h : ∀ H O, ∃ t, XS X (BkW K H O W) st t F) : PS X st (tZS K W F) := ps_zs fun H O => let ⟨t, x⟩ := h H O; ⟨t, x.pe, x.de⟩
/-- what a raise asks, of the promise that is to be kept -/
theorem ex_good {K : PySem.W.Frag} {H0 H : Hp} {O : List Addr} {E : XK} {Q : VK} {nm : Str} {i : Int} {D : Ends} (s : Same H0 H) (q : RxOk K H0 O Q E (.ex nm (.int i))) : Good K (BkW K H [] fun cls d _ H => E cls d H) H [] (.ex nm (.int i)) D := fun C d v ρ' σ' H' O' R hC h0 h1 _ x => by
  cases x
  refine q C d (.int i) H' hC (s.trans fun a o e => R.same a o (by simp [BkW]) e) ?_ h1 (.int i)
  cases e : H0 d with
  | none => rfl
  | some o =>
    have h0 : H d = none := h0
    rw [s _ _ e] at h0; cases h0
/-! ### sums whose parts change slots -/
def xOp (g : D → D → Option D) (F G : En → Option (D × En)) : En → Option (D × En) := fun ρ => (F ρ).bind fun p => (G p.2).bind fun q => (g p.1 q.1).map fun d => (d, q.2)
theorem dx_op {K : PySem.W.Frag} {B : Bs} {r : R2} {g : D → D → Option D} {te te' : TE} {F G : En → Option (D × En)} (hr : OpD K B r g) (h : DX K B te F) (k : DX K B te' G) : DX K B (tOp r te te') (xOp g F G) := fun ρ σ H O d ρ' R e Q q => by
  obtain ⟨⟨d1, ρ1⟩, h1, e⟩ := bind_some e
  obtain ⟨⟨d2, ρ2⟩, h2, e⟩ := bind_some e
  obtain ⟨z, h3, e⟩ := map_some e
  cases e
  exact h ρ σ H O d1 ρ1 R h1 _ fun v H1 R1 s1 x => k ρ1 σ H1 O d2 ρ2 R1 h2 _ fun u H2 R2 s2 y => hr ρ2 σ H2 O v u d1 d2 _ R2 (.inl (Dq.mono s2 _ _ x)) (.inl y) h3 Q fun w H3 s3 t => q w H3 (R2.grow s3) ((s1.trans s2).trans (hid_grow s3)) t
theorem xx_add {X : Cx} {B : Bs} {a b : Expr} {ta tb : TE} {F G : En → Option (D × En)} {pos : Pos} (ha : XX X B a ta F) (hb : XX X B b tb G) (hk : X.K = B.K := by rfl) : XX X B (.BinOp a .Add b pos) (tOp (rAddA B.K) ta tb) (xOp addD F G) := ⟨pe_op (op_addA hk) ha.pe hb.pe, dx_op opd_add ha.de hb.de⟩
/-! ### conditions that change slots -/
def DTX (K : PySem.W.Frag) (B : Bs) (t : TT) (c : En → Option (Bool × En)) : Prop := ∀ ρ σ H O b ρ', RS K B ρ σ H O → c ρ = some (b, ρ') → ∀ Q : Bool → Hp → Prop, (∀ H', RS K B ρ' σ H' O → Same (hid H O) (hid H' O) → Q b H') → t σ H Q
structure XTX (X : Cx) (B : Bs) (e : Expr) (t : TT) (c : En → Option (Bool × En)) : Prop where
  pe : PT X e t
  de : DTX B.K B t c
structure XWX (X : Cx) (B : Bs) (e : Expr) (t : TT) (c : En → Option (Bool × En)) : Prop where
  pe : PW X e t
  de : DTX B.K B t c
def cE (c : En → Option Bool) : En → Option (Bool × En) := fun ρ => (c ρ).map fun b => (b, ρ)
def cT (F : En → Option (D × En)) : En → Option (Bool × En) := fun ρ => (F ρ).bind fun p => match p.1 with
  | .bool b => some (b, p.2)
  | _ => none
def cOr (c d : En → Option (Bool × En)) : En → Option (Bool × En) := fun ρ => (c ρ).bind fun p => if p.1 = true then some (true, p.2) else d p.2
def cAnd (c d : En → Option (Bool × En)) : En → Option (Bool × En) := fun ρ => (c ρ).bind fun p => if p.1 = true then d p.2 else some (false, p.2)
def sIfX (c : En → Option (Bool × En)) (F G : En → Option Out) : En → Option Out := fun ρ => (c ρ).bind fun p => if p.1 = true then F p.2 else G p.2
section
variable {K : PySem.W.Frag} {B : Bs} {te : TE} {t u : TT} {c d : En → Option (Bool × En)} {f : En → Option Bool} {F : En → Option (D × En)}
theorem dtx_of (h : DT K B t f) : DTX K B t (cE f) := fun ρ σ H O b ρ' R e Q q => by
  obtain ⟨b1, h1, e⟩ := map_some e
  cases e
  exact h ρ σ H O _ R h1 Q fun H1 s => q H1 (R.grow s) (hid_grow s)
theorem dtx_test (h : DX K B te F) : DTX K B (tTest te) (cT F) := fun ρ σ H O b ρ' R e Q q => by
  obtain ⟨⟨v, ρ1⟩, h1, e⟩ := bind_some e
  dsimp only at e
  split at e
  · rename_i b1
    cases e
    refine h ρ σ H O _ _ R h1 _ fun v H1 R1 s x => ?_
    cases x
    exact ⟨_, rfl, q H1 R1 s⟩
  · cases e
theorem dtx_or (h : DTX K B t c) (k : DTX K B u d) : DTX K B (tOr t u) (cOr c d) := fun ρ σ H O b ρ' R e Q q => by
  obtain ⟨⟨b1, ρ1⟩, h1, e⟩ := bind_some e
  refine h ρ σ H O b1 ρ1 R h1 _ fun H1 R1 s => ?_
  cases b1 with
  | true => cases e; exact iteT (q H1 R1 s)
  | false => exact iteF (k ρ1 σ H1 O b ρ' R1 e Q fun H2 R2 s2 => q H2 R2 (s.trans s2))
theorem dtx_and (h : DTX K B t c) (k : DTX K B u d) : DTX K B (tAnd t u) (cAnd c d) := fun ρ σ H O b ρ' R e Q q => by
  obtain ⟨⟨b1, ρ1⟩, h1, e⟩ := bind_some e
  refine h ρ σ H O b1 ρ1 R h1 _ fun H1 R1 s => ?_
  cases b1 with
  | true => exact iteT (k ρ1 σ H1 O b ρ' R1 e Q fun H2 R2 s2 => q H2 R2 (s.trans s2))
  | false => cases e; exact iteF (q H1 R1 s)
theorem ds_ifX {tt : TT} {ta tb : TS} {F G : En → Option Out} (hc : DTX K B tt c) (h : DS K B ta F) (k : DS K B tb G) : DS K B (tIfS tt ta tb) (sIfX c F G) := fun ρ σ H O o R e D q => by
  obtain ⟨⟨b, ρ1⟩, h1, e⟩ := bind_some e
  refine hc ρ σ H O b ρ1 R h1 _ fun H1 R1 s => ?_
  cases b with
  | true => exact iteT (h ρ1 σ H1 O o R1 e D (q.step s))
  | false => exact iteF (k ρ1 σ H1 O o R1 e D (q.step s))
end
section
variable {X : Cx} {B : Bs} {a b : Expr} {rest : List Expr} {ta tb : TE} {t u : TT} {f : En → Option Bool} {c d : En → Option (Bool × En)} {F G : En → Option (D × En)} {pos : Pos}
theorem tx_of (h : XT X B a t f) : XTX X B a t (cE f) := ⟨h.pe, dtx_of h.de⟩
theorem tx_cmp {op : CmpOp} {r : R2} {g : D → D → Option D} (ho : OpR X (compareOp op) r) (hr : OpD B.K B r g) (hm : behindInMarks op b = false) (ha : XX X B a ta F) (hb : XX X B b tb G) : XTX X B (.Compare a [op] [b] pos) (tTest (tOp r ta tb)) (cT (xOp g F G)) :=
  ⟨pt_cmpR ho ha.pe hb.pe hm, dtx_test (dx_op hr ha.de hb.de)⟩
theorem wx_or1 (h : XTX X B a t c) : XWX X B (.BoolOp .Or [a] pos) t c := ⟨pw_or1 h.pe, h.de⟩
theorem wx_and1 (h : XTX X B a t c) : XWX X B (.BoolOp .And [a] pos) t c := ⟨pw_and1 h.pe, h.de⟩
theorem wx_or (ha : XTX X B a t c) (hb : XWX X B (.BoolOp .Or (b :: rest) pos) u d) : XWX X B (.BoolOp .Or (a :: b :: rest) pos) (tOr t u) (cOr c d) := ⟨pw_or ha.pe hb.pe, dtx_or ha.de hb.de⟩
theorem wx_and (ha : XTX X B a t c) (hb : XWX X B (.BoolOp .And (b :: rest) pos) u d) : XWX X B (.BoolOp .And (a :: b :: rest) pos) (tAnd t u) (cAnd c d) := ⟨pw_and ha.pe hb.pe, dtx_and ha.de hb.de⟩
theorem tx_w (h : XWX X B a t c) : XTX X B a t c := ⟨h.pe.pt, h.de⟩
theorem s_ifX {c' : Expr} {sa sb : List Stmt} {tt : TT} {t1 t2 : TS} {F1 F2 : En → Option Out} (hc : XTX X B c' tt c) (h : XSs X B sa t1 F1) (k : XSs X B sb t2 F2) : XS X B (.If c' sa sb pos) (tIfS tt t1 t2) (sIfX c F1 F2) := ⟨ps_if hc.pe h.pe k.pe, ds_ifX hc.de h.de k.de⟩
end
end Z

set_option Elab.async false
set_option maxRecDepth 100000
set_option maxHeartbeats 4000000
set_option linter.all false
/-! ZP: defs that change their first argument, a list of the caller; values, ranges, tests within which such are called -/
namespace Z
open PySem PySem.Spec PyProof.Rows L2
def spIOf (K : PySem.W.Frag) (n : Nat) (g : List D → List D → Option (D × List D)) : Sp := fun vs H Q _ => vs.length = n ∧ ∃ O vs0 ds l ws us d us', vs = V.ref l :: vs0 ∧ (∀ a ∈ O, ∃ o, H a = some o ∧ isMut o = true) ∧ l ∈ O ∧ H l = some (.lst ws) ∧
  DqAll K (hid H O) ws us ∧ DqAll K (hid H O) vs0 ds ∧ g ds us = some (d, us') ∧ ∀ v H' ws', (∀ a o, a ≠ l → H a = some o → H' a = some o) → H' l = some (.lst ws') → DqAll K (hid H' O) ws' us' → Dq K (hid H' O) v d → Q v H'
def envIOf (m : Nat) (ds us : List D) : En := some (SV.ow us) :: (ds.map (fun d => some (SV.ro d)) ++ List.replicate (m - ds.length - 1) none)
def gIOf (n m : Nat) (F : En → Option Out) (ds us : List D) : Option (D × List D) := if ds.length + 1 = n then ioR 0 (F (envIOf m ds us)) else none
theorem gIOf_len {n m : Nat} {F : En → Option Out} : ∀ ds us, gIOf n m F ds us ≠ none → ds.length + 1 = n := fun ds us h => by
  unfold gIOf at h
  split at h
  · assumption
  · exact absurd rfl h
theorem envIOf_get {m : Nat} {ds us : List D} {i : Nat} {s : SV} (e : (envIOf m ds us)[i]? = some (some s)) : (∃ j d, i = j + 1 ∧ ds[j]? = some d ∧ s = .ro d) ∨ (i = 0 ∧ s = .ow us) := by
  unfold envIOf at e
  cases i with
  | zero =>
    rw [List.getElem?_cons_zero] at e
    exact .inr ⟨rfl, (Option.some.inj (Option.some.inj e)).symm⟩
  | succ i =>
    rw [List.getElem?_cons_succ] at e
    by_cases hi : i < ds.length
    · rw [List.getElem?_append_left (by rw [List.length_map]; exact hi), List.getElem?_map] at e
      obtain ⟨d, h1, h2⟩ := map_some e
      exact .inl ⟨i, d, rfl, h1, (Option.some.inj h2).symm⟩
    · rw [List.getElem?_append_right (by rw [List.length_map]; omega), List.length_map, List.getElem?_replicate] at e
      split at e <;> cases e
theorem rs_startIOf {K : PySem.W.Frag} {H : Hp} {O : List Addr} {N : List Str} {vs : List V} {ds us : List D} {l : Addr} {ws : List V} (mu : ∀ a ∈ O, ∃ o, H a = some o ∧ isMut o = true) (hl : l ∈ O) (hH : H l = some (.lst ws)) (hw : DqAll K (hid H O) ws us) (h : DqAll K (hid H O) vs ds) (hN : ds.length < N.length) :
    RS K ⟨K, H, O.filter (fun a => decide (a ≠ l)), [l], some (0, l), W0⟩ (envIOf N.length ds us) (L2.start N (V.ref l :: vs)) H O where
  len := by
    unfold envIOf L2.start
    simp only [List.length_append, List.length_map, List.length_cons, List.length_replicate, h.length]
    omega
  slot := fun i s e => by
    unfold L2.start
    rcases envIOf_get e with ⟨j, d, rfl, h1, rfl⟩ | ⟨rfl, rfl⟩
    · obtain ⟨v, h3, h4⟩ := h.get h1
      have hi : j < vs.length := (List.getElem?_eq_some_iff.mp h3).1
      refine ⟨v, ?_, h4⟩
      rw [List.getElem?_append_left (by rw [List.length_map, List.length_cons]; omega), List.getElem?_map, List.getElem?_cons_succ, h3] <;> rfl
    · refine ⟨V.ref l, rfl, l, ws, rfl, hl, fun z => ?_, hH, hw⟩
      have := (List.mem_filter.mp z).2
      simp at this
  uniq := fun i j s s' l' hij e1 e2 o1 o2 _ _ => by
    rcases envIOf_get e1 with ⟨_, d, _, _, rfl⟩ | ⟨h1, _⟩
    · cases o1
    · rcases envIOf_get e2 with ⟨_, d, _, _, rfl⟩ | ⟨h2, _⟩
      · cases o2
      · exact hij (h1.trans h2.symm)
  same := fun _ _ _ h => h
  own := fun a ha => by
    by_cases q : a = l
    · subst q; exact .inr (.inl List.mem_cons_self)
    · exact .inl (List.mem_filter.mpr ⟨ha, by simpa using q⟩)
  mu := mu
  sub0 := fun a ha => by
    obtain ⟨h1, h2⟩ := List.mem_filter.mp ha
    have h2 : a ≠ l := by simpa using h2
    obtain ⟨o, e, _⟩ := mu a h1
    exact ⟨h1, by simpa using h2, o, e⟩
  lo := fun a ha => by rcases List.mem_singleton.mp ha with rfl; exact hl
  pin := fun i l' e => by
    cases e
    rfl
theorem fn_okIOf {P : Program} {w : World} {K : PySem.W.Frag} {mg : Str → Option Value} {base : Heap} {x qual : Str} {st : Stmt} {f : Addr} {fd : FuncData} {N ps : List Str} {k : Nat} {F : En → Option Out} (Fu : Fun K x qual st f fd) (S : FnScope N ps (defScope st)) (hN : ps.length ≤ N.length)
    (body : ∀ (cdv : Value) (A : Around) (outer : List Env) (s : Shared) (H : Hp) (O : List Addr) (l : Addr) (E : XK), Room k (A.deeper (envOfC qual (defScope st) s.heap.objs.size f cdv)) → ∃ t, XSs (cxOf CX0 P w K mg base N qual (defScope st) f cdv A outer s H E).nox ⟨K, H, O, [l], some (0, l), W0⟩ (defBody st) t F) :
    FnOk P w K mg base CX0 (k + 1) f fd ps (spIOf K ps.length (gIOf ps.length N.length F)) := by
  refine Fu.ok S (fun vs H Q E h => h.1) fun cdv A outer s H vs Q E hr hsp => ?_
  obtain ⟨hlen, O, vs0, ds, l, ws, us, d, us', rfl, mu, hl, hH, hw, ha, hg, q⟩ := hsp
  rw [List.length_cons, ha.length] at hlen
  obtain ⟨t, ht⟩ := body cdv A outer s H (O.filter fun a => decide (a ≠ l)) l E hr
  refine ⟨t, ht.pe, ?_⟩
  unfold gIOf at hg
  rw [if_pos hlen] at hg
  have R0 := rs_startIOf (N := N) mu hl hH hw ha (by omega)
  have fin : ∀ {ρ' : En} {σ' : L2.St} {H' : Hp} {O' : List Addr} {d2 : D} {v : V}, RS K ⟨K, H, O.filter (fun a => decide (a ≠ l)), [l], some (0, l), W0⟩ ρ' σ' H' O' → ioK d2 ρ'[0]? = some (d, us') → Dq K (hid H' O') v d2 → Q v H' := fun {ρ' σ' H' O' d2 v} R e x => by
    have sub : ∀ a ∈ O, a ∈ O' := fun a ha => by
      by_cases z : a = l
      · subst z; exact R.lo a List.mem_cons_self
      · exact (R.sub0 a (List.mem_filter.mpr ⟨ha, by simpa using z⟩)).1
    unfold ioK at e
    split at e
    · rename_i us2 hs
      cases e
      obtain ⟨v1, a, l1, ws1, rfl, b1, b2, b3, b4⟩ := R.slot _ _ hs
      have p := R.pin 0 l rfl
      rw [a] at p
      cases p
      exact q v H' ws1 (fun a o hne e => R.same a o (by simpa using hne) e) b3 (DqAll.mono (hid_less sub) _ _ b4) (Dq.mono (hid_less sub) _ _ x)
    · cases e
  cases hF : F (envIOf N.length ds us) with
  | none => rw [hF] at hg; cases hg
  | some o =>
    rw [hF] at hg
    refine ht.de _ _ H O o R0 hF _ ?_
    cases o with
    | nx ρ1 => exact fun σ' H' O' R _ => fin R hg Dq.non
    | rp d2 ρ1 => exact fun v σ' H' O' R x => fin R hg x
    | rt d => cases hg
    | rl es => cases hg
    | bk _ => cases hg
    | ct _ => cases hg
    | ex _ _ => cases hg
structure DFiof (P : Program) (w : World) (K : PySem.W.Frag) (mg : Str → Option Value) (base : Heap) (k : Nat) (x : Str) (n : Nat) (g : List D → List D → Option (D × List D)) : Prop where
  ex : ∃ f fd ps, FnOk P w K mg base CX0 k f fd ps (spIOf K n g) ∧ mg x = some (.ref f) ∧ PySem.W.keepIn K (.ref f) = true ∧ Binds K fd ps []
  len : ∀ ds us, g ds us ≠ none → ds.length + 1 = n
theorem df_mkIOf {P : Program} {w : World} {K : PySem.W.Frag} {mg : Str → Option Value} {base : Heap} {k n m : Nat} {x qual : Str} {st : Stmt} {f : Addr} {fd : FuncData} {ps : List Str} {F : En → Option Out} (Fu : Fun K x qual st f fd) (hn : ps.length = n) (h : FnOk P w K mg base CX0 k f fd ps (spIOf K n (gIOf n m F))) (hm : mg x = some (.ref f)) (hb : Binds K fd ps []) :
    DFiof P w K mg base k x n (gIOf n m F) := ⟨⟨f, fd, ps, h, hm, Fu.kp, hb⟩, gIOf_len⟩
/-- a call that changes the list of a slot; the other arguments may change slots too -/
def xIOf (g : List D → List D → Option (D × List D)) (j : Nat) (G : En → Option (List D × En)) : En → Option (D × En) := fun ρ => match ρ[j]? with
  | some (some (.ow _)) => (G ρ).bind fun q => match q.2[j]? with
    | some (some (.ow us)) => (g q.1 us).map fun p => (p.1, q.2.set j (some (.ow p.2)))
    | _ => none
  | _ => none
section
variable {K : PySem.W.Frag} {B : Bs} {te : TE} {ta : TA} {f : En → Option D} {F : En → Option (D × En)} {G : En → Option (List D × En)} {j : Nat}
theorem dx_iof {n : Nat} {g : List D → List D → Option (D × List D)} {E : XK} (hn : ∀ ds us, g ds us ≠ none → ds.length + 1 = n) (h : DXA K B ta G) : DX K B (tCall (spIOf K n g) [] E (tCons (tVar j) ta)) (xIOf g j G) := fun ρ σ H O d ρ' R e Q q => by
  unfold xIOf at e
  split at e
  · rename_i us0 hs0
    obtain ⟨⟨ds, ρ1⟩, h1, e⟩ := bind_some e
    dsimp only at e
    split at e
    · rename_i us hs
      obtain ⟨⟨d1, us1⟩, h2, e⟩ := map_some e
      cases e
      obtain ⟨v, es, l, _, rfl, _, _, _, _⟩ := R.slot _ _ hs0
      refine ⟨_, es, h ρ σ H O ds ρ1 R h1 _ fun vs H1 R1 s x => ?_⟩
      obtain ⟨v, es', l', ws, e1, b1, b2, b3, b4⟩ := R1.slot _ _ hs
      rw [es] at es'
      cases es'
      cases e1
      rw [List.append_nil]
      refine ⟨by rw [List.length_cons, x.length]; exact hn ds us (by rw [h2]; simp), O, vs, ds, l, ws, us, d1, us1, rfl, R1.mu, b1, b3, b4, x, h2, fun v H' ws' c1 c2 c3 c4 => ?_⟩
      -- the heap but for the list
      have s2 : Same H1 (upd H' l (.lst ws)) := fun a o e => by
        by_cases z : a = l
        · subst z
          rw [upd_same, ← e, b3]
        · rw [upd_ne z]; exact c1 a o z e
      have R2 := R1.grow s2
      have hid2 : hid (upd H' l (.lst ws)) O = hid H' O := hid_write _ b1
      have hup : upd (upd H' l (.lst ws)) l (.lst ws') = H' := by
        funext a
        by_cases z : a = l
        · subst z; rw [upd_same, c2]
        · rw [upd_ne z, upd_ne z]
      have R3 := R2.write hs es (vs' := ws') (ds' := us1) (by rw [hid2]; exact c3)
      rw [hup] at R3
      refine q v H' R3 ?_ c4
      rw [← hid2]
      exact s.trans (hid_grow s2)
    · cases e
  · cases e
/-- built-ins, and, of values that change slots -/
theorem dx_cb {r : List V → Hp → VK → Prop} {g : List D → Option D} (hr : OpC K B r g) (h : DXA K B ta G) : DX K B (tCB r ta) (xCall g G) := fun ρ σ H O z ρ' R e Q q => by
  obtain ⟨⟨ds, ρ1⟩, h1, e⟩ := bind_some e
  obtain ⟨d, h2, e⟩ := map_some e
  cases e
  refine h ρ σ H O ds _ R h1 _ fun vs H1 R1 s x => ?_
  have bo : ∀ {vs : List V} {ds : List D}, DqAll K (hid H1 O) vs ds → BoAll K H1 O vs ds := fun {vs ds} y => by
    induction vs generalizing ds with
    | nil => cases y; exact .nil
    | cons v vs ih =>
      cases y with
      | cons a b => exact .cons (.inl a) (ih b)
  exact hr _ σ H1 O vs ds _ R1 (bo x) h2 Q fun v H2 s2 y => q v H2 (R1.grow s2) (s.trans (hid_grow s2)) y
def xAnd (F G : En → Option (D × En)) : En → Option (D × En) := fun ρ => (F ρ).bind fun p => match p.1 with
  | .bool true => G p.2
  | .bool false => some (.bool false, p.2)
  | _ => none
theorem dx_and {tb : TE} {F' : En → Option (D × En)} (h : DX K B te F) (k : DX K B tb F') : DX K B (tAndV te tb) (xAnd F F') := fun ρ σ H O z ρ' R e Q q => by
  obtain ⟨⟨d, ρ1⟩, h1, e⟩ := bind_some e
  dsimp only at e
  split at e
  · refine h ρ σ H O _ ρ1 R h1 _ fun v H1 R1 s x => ?_
    cases x
    exact ⟨true, rfl, iteT (k ρ1 σ H1 O z ρ' R1 e Q fun v H2 R2 s2 y => q v H2 R2 (s.trans s2) y)⟩
  · cases e
    refine h ρ σ H O _ ρ' R h1 _ fun v H1 R1 s x => ?_
    cases x
    exact ⟨false, rfl, iteF (q _ H1 R1 s (.bl _))⟩
  · cases e
/-! ### for over what changes slots -/
def DIX (K : PySem.W.Frag) (B : Bs) (wi : TI) (f : En → Option (List D × En)) : Prop := ∀ ρ σ H O ds ρ', RS K B ρ σ H O → f ρ = some (ds, ρ') → ∀ R : It → Hp → Prop, (∀ J H', RS K B ρ' σ H' O → Same (hid H O) (hid H' O) → ItOk K (hid H' O) J ds → R J H') → wi σ H R
structure XIX (X : Cx) (B : Bs) (tg iter : Expr) (wi : TI) (f : En → Option (List D × En)) : Prop where
  pe : PI X tg iter wi
  de : DIX B.K B wi f
def rgX : List D × En → Option (List D × En)
  | ([.int j], ρ) => if -4611686018427387904 ≤ j ∧ j < 4611686018427387904 then some ((List.range j.toNat).map fun (i : Nat) => .int (i : Int), ρ) else none
  | _ => none
def iRg1X (G : En → Option (List D × En)) : En → Option (List D × En) := fun ρ => (G ρ).bind rgX
theorem dix_rg1 (h : DXA K B ta G) : DIX K B (iRng1 ta) (iRg1X G) := fun ρ σ H O ds ρ' R e Q q => by
  obtain ⟨p, hf, e⟩ := bind_some e
  unfold rgX at e
  split at e
  · rename_i j ρ1
    split at e
    · rename_i c
      have e := Option.some.inj e
      obtain ⟨e1, e2⟩ := Prod.mk.inj e
      subst e1 e2
      refine h ρ σ H O _ ρ1 R hf _ fun vs H1 R1 s x => ?_
      cases x with
      | cons x y =>
        cases y
        cases x
        refine ⟨_, rfl, c.1, c.2, q _ H1 R1 s ?_⟩
        have := it_range (K := K) (G1 := hid H1 O) (lo := 0) (n := j.toNat)
        simpa using this
    · cases e
  · cases e
def sForX (src : En → Option (List D × En)) (tg : D → En → Option En) (F : En → Option Out) : En → Option Out := fun ρ => (src ρ).bind fun p => forGo tg F p.1 p.2
theorem ds_forX {wi : TI} {g : TG} {t : TS} {F : En → Option Out} {src : En → Option (List D × En)} {tg : D → En → Option En} (hi : DIX K B wi src) (hg : DG K B g tg) (h : DS K B t F) : DS K B (tFor wi g t) (sForX src tg F) := fun ρ σ H O o R e D q => by
  obtain ⟨⟨ds, ρ0⟩, h1, e⟩ := bind_some e
  refine hi ρ σ H O ds ρ0 R h1 _ fun J H1 R0 s0 io => ?_
  refine ⟨fun i m σ2 H2 => m = ds.length - i ∧ i ≤ ds.length ∧ ∃ ρ2 O2, RS K B ρ2 σ2 H2 O2 ∧ Same (hid H1 O) (hid H2 O2) ∧ forGo tg F (ds.drop i) ρ2 = some o, ⟨ds.length, by simp, Nat.zero_le _, ρ0, O, R0, Same.refl _, by simpa using e⟩, ?_⟩
  rintro i m σ2 H2 ⟨rfl, hin, ρ2, O2, R2, s2, e2⟩
  obtain ⟨it1, it2⟩ := io H2 O2 s2 R2.there i
  by_cases hlt : i < ds.length
  · obtain ⟨go, yld⟩ := it1 _ (List.getElem?_eq_getElem hlt)
    rw [List.drop_eq_getElem_cons hlt] at e2
    obtain ⟨ρ3, h3, e3⟩ := bind_some e2
    refine .inr ⟨go, fun σ' H' => ∃ ρ2 O2, RS K B ρ2 σ' H' O2 ∧ Same (hid H1 O) (hid H' O2) ∧ forGo tg F (ds.drop (i + 1)) ρ2 = some o, fun σ' H' h => ⟨_, by omega, rfl, hlt, h⟩, fun x H' y => ?_⟩
    obtain ⟨s3, hx⟩ := yld x H' y
    refine hg ρ2 σ2 H' O2 x _ ρ3 (R2.grow s3) hx h3 _ fun σ4 H4 s4 R4 => ?_
    have s24 := s2.trans (hid_grow (O := O2) (s3.trans s4))
    cases hF : F ρ3 with
    | none => rw [hF] at e3; cases e3
    | some o1 =>
      rw [hF] at e3
      refine h ρ3 σ4 H4 O2 o1 R4 hF _ ?_
      cases o1 with
      | nx ρ5 => exact fun σ' H' O' R' s' => ⟨ρ5, O', R', s24.trans s', e3⟩
      | ct ρ5 => exact fun σ' H' O' R' s' => ⟨ρ5, O', R', s24.trans s', e3⟩
      | bk ρ5 =>
        have e1 : Out.nx ρ5 = o := Option.some.inj e3
        subst e1
        exact fun σ' H' O' R' s' => q σ' H' O' R' (s0.trans (s24.trans s'))
      | rt d =>
        have e1 : Out.rt d = o := Option.some.inj e3
        subst e1
        exact q
      | rl d =>
        have e1 : Out.rl d = o := Option.some.inj e3
        subst e1
        exact q
      | rp d ρ9 =>
        have e1 : Out.rp d ρ9 = o := Option.some.inj e3
        subst e1
        exact q
      | ex nm9 d9 =>
        have e1 : Out.ex nm9 d9 = o := Option.some.inj e3
        subst e1
        exact q
  · have hi : i = ds.length := by omega
    rw [hi, List.drop_length] at e2
    have e2 : Out.nx ρ2 = o := Option.some.inj e2
    subst e2
    exact .inl ⟨it2 (by omega), q σ2 H2 O2 R2 (s0.trans s2)⟩
end
section
variable {X : Cx} {B : Bs} {x id T : Str} {p pos : Pos} {a b ex on : Expr} {es rest : List Expr} {te tb : TE} {ta : TA} {f : En → Option D} {F F' : En → Option (D × En)} {G : En → Option (List D × En)} {j k n : Nat} {g : List D → List D → Option (D × List D)}
theorem xx_iof (j : Nat) (F : DFiof X.prog X.w X.K X.mg X.base k x n g) (hr : Room k X.A) (ho : PE X on (tVar j)) (ha : XXA X B es ta G) (hs1 : starEach (on :: es) X.env = (false, eval on X.env) :: starEach es X.env := by rfl) (hg : Gl X x := by rfl) (hdb : (x == ("__debug__" : Str)) = false := by decide) (hpl : (backTo pos (starEach es X.env)).any (·.1) = false := by rfl) (hk : X.K = B.K := by rfl) :
    XX X B (.Call (.Name x p) (on :: es) [] pos) (tCall (spIOf B.K n g) [] E0 (tCons (tVar j) ta)) (xIOf g j G) := by
  obtain ⟨⟨f, fd, ps, F, hm, hkp, hb⟩, hn⟩ := F
  exact ⟨hk ▸ pe_call F hr hg hm hkp hb .nil pass0 (pa_cons ho ha.pe hs1) hdb hs1 hpl, dx_iof hn ha.de⟩
theorem xx_cb {id : String} {r : List V → Hp → VK → Prop} {g : List D → Option D} (hc : CallR X (.builtin id) r) (hr : OpC B.K B r g) (hm : X.mg x = none) (hv : bootBuiltins x = some (.builtin id)) (ha : XXA X B (ex :: es) ta G) (hg : Gl X x := by rfl) (hn : x ≠ "__name__" := by decide) (hdb : (x == ("__debug__" : Str)) = false := by decide)
    (he : starEach (ex :: es) X.env = (false, eval ex X.env) :: starEach es X.env := by rfl) (hpl : (backTo pos (starEach es X.env)).any (·.1) = false := by rfl) : XX X B (.Call (.Name x p) (ex :: es) [] pos) (tCB r ta) (xCall g G) := ⟨pe_callB hc hg hm hv ha.pe hn hdb he hpl, dx_cb hr ha.de⟩
theorem xx_ct {T : String} {r : List V → Hp → VK → Prop} {g : List D → Option D} (hc : CallR X (.type T) r) (hr : OpC B.K B r g) (hm : X.mg x = none) (hv : bootBuiltins x = some (.type T)) (ha : XXA X B (ex :: es) ta G) (hg : Gl X x := by rfl) (hn : x ≠ "__name__" := by decide) (hdb : (x == ("__debug__" : Str)) = false := by decide)
    (he : starEach (ex :: es) X.env = (false, eval ex X.env) :: starEach es X.env := by rfl) (hpl : (backTo pos (starEach es X.env)).any (·.1) = false := by rfl) : XX X B (.Call (.Name x p) (ex :: es) [] pos) (tCB r ta) (xCall g G) := ⟨pe_callTy hc hg hm hv ha.pe hn hdb he hpl, dx_cb hr ha.de⟩
theorem xx_one {op} (h : XX X B a te F) : XX X B (.BoolOp op [a] pos) te F := ⟨pe_one h.pe, h.de⟩
theorem xx_and (ha : XX X B a te F) (hb : XX X B (.BoolOp .And (b :: rest) pos) tb F') : XX X B (.BoolOp .And (a :: b :: rest) pos) (tAndV te tb) (xAnd F F') := ⟨pe_and ha.pe hb.pe, dx_and ha.de hb.de⟩
theorem xx_sub (ha : XX X B a te F) (hb : XX X B b tb F') : XX X B (.BinOp a .Sub b pos) (tOp (rI0 fun i j => .int (i - j)) te tb) (xOp subD F F') := ⟨pe_op op_sub ha.pe hb.pe, dx_op opd_sub ha.de hb.de⟩
theorem xx_mul (ha : XX X B a te F) (hb : XX X B b tb F') : XX X B (.BinOp a .Mult b pos) (tOp (rI CMul fun i j => .int (i * j)) te tb) (xOp mulD F F') := ⟨pe_op op_mul ha.pe hb.pe, dx_op opd_mul ha.de hb.de⟩
theorem xx_mod (ha : XX X B a te F) (hb : XX X B b tb F') : XX X B (.BinOp a .Mod b pos) (tOp (rI (fun _ j => 0 < j) fun i j => .int (i % j)) te tb) (xOp modD F F') := ⟨pe_op op_mod ha.pe hb.pe, dx_op opd_mod ha.de hb.de⟩
theorem xx_ix (ha : XX X B a te F) (hb : XX X B b tb F') (hs : PlainIx b := by intro _ _; rfl) (hk : X.K = B.K := by rfl) : XX X B (.Subscript a b pos) (tOp (rIx B.K) te tb) (xOp ixD F F') := ⟨hk ▸ pe_ix ix_seq ha.pe hb.pe hs, dx_op opd_ix ha.de hb.de⟩
theorem xx_cmp {op : CmpOp} {r : R2} {g : D → D → Option D} (ho : OpR X (compareOp op) r) (hr : OpD B.K B r g) (hm : behindInMarks op b = false) (ha : XX X B a te F) (hb : XX X B b tb F') : XX X B (.Compare a [op] [b] pos) (tOp r te tb) (xOp g F F') := ⟨pe_cmpR ho ha.pe hb.pe hm, dx_op hr ha.de hb.de⟩
theorem ix_rg1 {tg : Expr} (hm : X.mg "range" = none) (ha : XXA X B [ex] ta G) (hg : Gl X "range" := by rfl) (hs : starEach [ex] X.env = [(false, eval ex X.env)] := by rfl) : XIX X B tg (.Call (.Name "range" p) [ex] [] pos) (iRng1 ta) (iRg1X G) := ⟨pi_range1 hg hm ha.pe hs, dix_rg1 ha.de⟩
theorem s_forX {iter tg : Expr} {body : List Stmt} {wi : TI} {g : TG} {t : TS} {F : En → Option Out} {src : En → Option (List D × En)} {ht : D → En → Option En} (hp : PassesOwn (model X.prog X.w) X.A X.env X.xe) (hc : X.calm = true) (hi : XIX X B tg iter wi src) (hg : XG X B tg g ht) (hb : XSs X B body t F) (hs : ∀ x, foldedSetIterable iter X.env x = pure x := by intro _; rfl) :
    XS X B (.For tg iter body [] pos) (tFor wi g t) (sForX src ht F) := ⟨ps_for hp hc hi.pe hg.pe hb.pe hs, ds_forX hi.de hg.de hb.de⟩
end
/-! ### an owned list or dict is given away, in a def with a list of its caller (slot j) -/
def isOw : Option (Option SV) → Bool
  | some (some (.ow _)) => true
  | _ => false
def sFzP (j i : Nat) (F : En → Option Out) : En → Option Out := fun ρ => if isOw ρ[j]? = true then sFz i F ρ else none
def sFzKP (j i : Nat) (F : En → Option Out) : En → Option Out := fun ρ => if isOw ρ[j]? = true then sFzK i F ρ else none
def fzLP (j i : Nat) (f : En → Option (List D)) : En → Option (List D) := fun ρ => if isOw ρ[j]? = true then fzL i f ρ else none
def Pinned (B : Bs) (j : Nat) : Prop := ∃ l, B.L = [l] ∧ B.pin = some (j, l)
section
variable {K : PySem.W.Frag} {B : Bs} {i j : Nat} {ρ : En} {σ : L2.St} {H : Hp} {O : List Addr}
theorem not_low (R : RS K B ρ σ H O) (hp : Pinned B j) (hij : i ≠ j) (ho : isOw ρ[j]? = true) {s : SV} (hs : ρ[i]? = some (some s)) (ow : s.owned = true) : ∀ l, σ[i]? = some (some (V.ref l)) → l ∉ B.L := fun l hl hm => by
  obtain ⟨l', e1, e2⟩ := hp
  rw [e1] at hm
  rcases List.mem_singleton.mp hm with rfl
  have p := R.pin j l e2
  unfold isOw at ho
  split at ho
  · rename_i us hj
    exact R.uniq i j _ _ l hij hs hj ow rfl hl p
  · cases ho
theorem ds_fzP {t : TS} {F : En → Option Out} (hp : Pinned B j) (hij : i ≠ j) (h : DS K B t F) : DS K B t (sFzP j i F) := fun ρ σ H O o R e D q => by
  unfold sFzP at e
  split at e
  · rename_i ho
    unfold sFz at e
    split at e
    · rename_i ds hs
      obtain ⟨O', R', g⟩ := R.freeze (not_low R hp hij ho hs rfl) hs
      exact h _ σ H O' o R' e D (q.step g)
    · exact h ρ σ H O o R e D q
  · cases e
theorem ds_fzKP {t : TS} {F : En → Option Out} (hp : Pinned B j) (hij : i ≠ j) (hf : free B i = true) (h : DS K B t F) : DS K B t (sFzKP j i F) := fun ρ σ H O o R e D q => by
  unfold sFzKP at e
  split at e
  · rename_i ho
    unfold sFzK at e
    split at e
    · rename_i tt ds hs
      obtain ⟨O', R', g⟩ := R.freezeK (not_low R hp hij ho hs rfl) hf hs
      exact h _ σ H O' o R' e D (q.step g)
    · exact h ρ σ H O o R e D q
  · cases e
theorem dl_fzP {t : TE} {f : En → Option (List D)} (hp : Pinned B j) (hij : i ≠ j) (h : DL K B t f) : DL K B t (fzLP j i f) := fun ρ σ H O zs R e Q q => by
  unfold fzLP at e
  split at e
  · rename_i ho
    unfold fzL at e
    split at e
    · rename_i ds hs
      obtain ⟨O', R', g⟩ := R.freeze (not_low R hp hij ho hs rfl) hs
      obtain ⟨zs', h1, e⟩ := bind_some e
      split at e
      · rename_i hi
        have e := Option.some.inj e
        subst e
        refine h _ σ H O' zs' R' h1 Q fun l vs H' s n hl a => q l vs H' s n hl ?_
        obtain ⟨R1, _⟩ := R.own1 s n hl rfl
        exact DqAll.move (R1.tups (l :: O')) zs' vs hi a
      · cases e
    · exact h ρ σ H O zs R e Q q
  · cases e
end
section
variable {X : Cx} {B : Bs} {rest : List Stmt} {t : TS} {F : En → Option Out} {ex : Expr}
theorem ss_fzP (j i : Nat) (h : XSs X B rest t F) (hij : i ≠ j := by decide) (hp : Pinned B j := by exact ⟨_, rfl, rfl⟩) : XSs X B rest t (sFzP j i F) := ⟨h.pe, ds_fzP hp hij h.de⟩
theorem ss_fzKP (j i : Nat) (h : XSs X B rest t F) (hij : i ≠ j := by decide) (hp : Pinned B j := by exact ⟨_, rfl, rfl⟩) (hf : free B i = true := by rfl) : XSs X B rest t (sFzKP j i F) := ⟨h.pe, ds_fzKP hp hij hf h.de⟩
theorem l_fzP (j i : Nat) {t : TE} {f : En → Option (List D)} (h : XL X B ex t f) (hij : i ≠ j := by decide) (hp : Pinned B j := by exact ⟨_, rfl, rfl⟩) : XL X B ex t (fzLP j i f) := ⟨h.pe, dl_fzP hp hij h.de⟩
end
end Z

set_option Elab.async false
set_option maxRecDepth 100000
set_option maxHeartbeats 4000000
set_option linter.all false
/-! ZQ: sets made of lists; sorted(set(list(text))) -/
namespace Z
open PySem PySem.Spec PyProof.Rows L2
abbrev newSetObj (w : World) : Obj := { cls := .type "set", dict := none, data := .set #[] 0 (.fresh 0 0 (!w.params.followText "set-order")) }
/-- items that come into a set one by one: what its object is behind so many -/
def Steps (P : Program) (w : World) (S : Addr) (n0 : Nat) (base : Heap) (its : List Value) (J : Nat → Obj → Prop) : Prop :=
  ∀ (A : Around) (E : Value → Shared → Prop) (s : Shared) (i : Nat) (v : Value) (o : Obj) (Q : Bool → Shared → Prop), A.units ≤ n0 → A.handled = none → its[i]? = some v → s.heap.get? S = some o → J i o → (∀ b u, base.get? b = some u → s.heap.get? b = some u) →
    (∀ (r : Bool) (h' : Heap) (tk : Nat) (o' : Obj), s.toks ≤ tk → h'.get? S = some o' → J (i + 1) o' → Heap.SameBut S s.heap h' → Q r { s with heap := h', toks := tk }) → wpAny (model P w) A (setAdd S v) Q E s
section
variable {P : Program} {w : World} {A : Around} {R : Result → Shared → Prop} {I : Addr} {fp wr : List Addr} {G : Array GenState → Array GenState → Prop} {n : Nat} {Pv : Nat → Value → Prop} {St : Nat → Shared → Prop}
theorem set_loop (W : WalksS P w A.in1 I fp wr G n Pv St) {S : Addr} (nS : S ∉ fp) {its : List Value} (hv : ∀ i v, Pv i v → its[i]? = some v) {base : Heap} (bS : base.get? S = none) (bw : ∀ b ∈ wr, base.get? b = none) {J : Nat → Obj → Prop} {n0 : Nat} (hn0 : A.in1.units ≤ n0) (hh : A.in1.handled = none) (step : Steps P w S n0 base its J) :
    ∀ (k i : Nat) (s : Shared), i + k = n → St i s → (∀ b u, base.get? b = some u → s.heap.get? b = some u) → (∃ o, s.heap.get? S = some o ∧ J i o) →
      (∀ s' o, Moved (S :: wr) G s s' → s'.heap.get? S = some o → J n o → (∀ b u, base.get? b = some u → s'.heap.get? b = some u) → R (.ok (.ret .none)) s') → codeAny (model P w) A (.builtin "set.update.loop" ⟨[.ref S, .ref I], []⟩) R s := by
  have nw : S ∉ wr := fun z => nS (W.sub _ z)
  have up : ∀ b ∈ wr, b ∈ S :: wr := fun b z => .tail _ z
  have still : ∀ {s s' : Shared}, Moved wr G s s' → (∀ b u, base.get? b = some u → s.heap.get? b = some u) → ∀ b u, base.get? b = some u → s'.heap.get? b = some u := fun m q b u e => m.heap b u (fun z => by rw [bw b z] at e; cases e) (q b u e)
  intro k
  induction k with
  | zero =>
    rintro i s rfl st q ⟨o, ho, hJ⟩ fin
    refine codeAny_builtin F.entry_set_update_loop (by
      rw [Around.under_plainId F.plain_set_update_loop _]
      show wpAny _ A.in1 (pyNext (.ref I) >>= _) _ _ s
      refine wpAny_bind (W.done s _ _ st fun s1 m => ?_)
      show wpAny _ A.in1 (ret Value.none) _ _ s1
      exact wpAny_pure (fin s1 o (m.mono up) (m.heap S o nw ho) hJ (still m q)))
  | succ k ih =>
    rintro i s hi st q ⟨o, ho, hJ⟩ fin
    refine codeAny_builtin F.entry_set_update_loop (by
      rw [Around.under_plainId F.plain_set_update_loop _]
      show wpAny _ A.in1 (pyNext (.ref I) >>= _) _ _ s
      refine wpAny_bind (W.item i s _ _ (by omega) st fun v s1 hP st1 m => ?_)
      show wpAny _ A.in1 (holding [v] (setAdd S v) >>= _) _ _ s1
      refine wpAny_bind (wpAny_holding ?_)
      have q1 := still m q
      refine step A.in1 _ s1 i v o _ hn0 hh (hv i v hP) (m.heap S o nw ho) hJ q1 fun r h2 tk o2 tl ho2 hJ2 sb => ?_
      have q2 : ∀ b u, base.get? b = some u → h2.get? b = some u := fun b u e => (sb.2 b (fun z => by rw [z, bS] at e; cases e)).trans (q1 b u e)
      refine wpAny_pure ⟨plainId_quiet F.plain_set_update_loop _, ih (i + 1) _ (by omega) (W.frame _ s1 _ _ st1 tl fun b z u e => (sb.2 b (fun y => nS (y ▸ z))).trans e) q2 ⟨o2, ho2, hJ2⟩ fun s3 o3 m3 ho3 hJ3 q3 => ?_⟩
      refine fin s3 o3 (Moved.trans W.gtrans ((m.mono up).then_heap tl fun b u z e => (sb.2 b (fun y => z (by rw [y]; exact List.mem_cons_self))).trans e) m3) ho3 hJ3 q3)
end
section
variable {P : Program} {w : World} {A : Around} {E : Value → Shared → Prop} {s : Shared}
set_option maxRecDepth 100000 in
set_option maxHeartbeats 6400000 in
/-- set(xs) of a list -/
theorem call_set_gen {l : Addr} {its : List Value} {J : Nat → Obj → Prop} {Q : Value → Shared → Prop} (hh : A.handled = none) (hl : s.heap.IsList l its.toArray) (J0 : J 0 (newSetObj w)) (step : Steps P w s.heap.objs.size (A.units + 8) s.heap its J)
    (h : ∀ (h' : Heap) (tk : Nat) o, h'.get? s.heap.objs.size = some o → J its.length o → (∀ b u, s.heap.get? b = some u → h'.get? b = some u) → Q (.ref s.heap.objs.size) { s with heap := h', toks := tk }) :
    wpAny (model P w) A (call (.type "set") [.ref l]) Q E s := by
  obtain ⟨c, tl, hmro⟩ := F.called_set.mro
  have m1 := F.called_set.made
  have m2 := F.called_set.sub
  have m3 := F.called_set.notType
  have m4 := F.called_set.canCreate
  have m5 := F.typeCall_set_1 (.ref l)
  refine wpAny_call (codeAny_of_tree ?_)
  show wpAny _ _ (callAny (.type "set") _) _ _ _
  refine wpAny_pure ⟨Code.quiet_builtin _ (by decide +kernel), codeAny_builtin F.entry_type_call (by
    rw [Around.under_plain (weight_type_call_type "set" [.ref l] []) rfl]
    repeat (any_goals (first | assumption | wp_step))
    refine codeAny_mono (code_set_led1 (.ref l) (E := E) (Q₁ := fun ob s1 => ob = .ref s.heap.objs.size ∧ s1 = { s with heap := s.heap.push (newSetObj w) }) ⟨rfl, rfl⟩) fun r s1 hr => ?_
    cases r with
    | error e => exact hr
    | ok fl =>
    cases fl with
    | ret ob =>
      obtain ⟨rfl, rfl⟩ := hr
      have g0 : (s.heap.push (newSetObj w)).get? s.heap.objs.size = some (newSetObj w) := Heap.get?_push_size _ rfl
      have gT : Shared.TypeIs { s with heap := s.heap.push (newSetObj w) } (.ref s.heap.objs.size) "set" := ⟨_, g0, rfl⟩
      have m6 := F.called_set.init.lookup
      have m7 := F.called_set.init.bind (.ref s.heap.objs.size)
      repeat (any_goals (first | assumption | wp_step))
      refine codeAny_mono (codeAny_call_builtin (R := wants (fun r s2 => r = .none ∧ ∃ h' tk o, s2 = { s with heap := h', toks := tk } ∧ h'.get? s.heap.objs.size = some o ∧ J its.length o ∧ ∀ b u, s.heap.get? b = some u → h'.get? b = some u) E) F.called_set.init.plain F.entry_set_init (check_set_init_1 gT ?_)) fun r2 s2 hr2 => ?_
      · obtain ⟨⟨oc, od, odt, osl⟩, ho, hc, nl, hd⟩ := hl
        simp only at hc hd
        subst hc; subst hd
        have g1 : (s.heap.push (newSetObj w)).get? l = some { cls := .type "list", dict := od, data := .seq its.toArray nl, slots := osl } := Heap.get?_push_of_some _ ho
        have w1 := F.sub_list_set
        have w2 := F.sub_list_frozenset
        have w3 : (Value.type "list" == Value.type "dict") = false := by decide
        have gl : (s.heap.push (newSetObj w)).IsList l its.toArray := ⟨_, g1, rfl, nl, rfl⟩
        unfold Builtin.«set.__init__» noKeywords Builtin.Frozenset.updateFrom
        generalize hPI : pyIter = PI
        wp_walk
        subst hPI
        refine wpAny_pyIter_list gl (wpAny_bind (wpAny_runValue ?_))
        have ll : l < s.heap.objs.size := Heap.lt_size ho
        have h3 : A.in1.in1.in1.handled = none := by simp [hh]
        have sz : (s.heap.push (newSetObj w)).objs.size = s.heap.objs.size + 1 := Heap.size_push ..
        have nI : l ≠ (s.heap.push (newSetObj w)).objs.size := fun z => by rw [sz] at z; exact absurd (z ▸ ll) (Nat.not_lt_of_le (Nat.le_succ _))
        have nS : s.heap.objs.size ∉ [(s.heap.push (newSetObj w)).objs.size, l] := by
          rw [sz]; simp only [List.mem_cons, List.not_mem_nil, or_false, not_or]
          exact ⟨Nat.ne_of_lt (Nat.lt_succ_self _), Nat.ne_of_gt ll⟩
        have free : ∀ b, s.heap.objs.size ≤ b → s.heap.get? b = none := fun b hb => by
          cases q : s.heap.get? b with
          | none => rfl
          | some o => exact absurd (Heap.lt_size q) (Nat.not_lt_of_le hb)
        refine set_loop ((Walks.list h3 _ l nI its.toArray).toS) nS (its := its) (fun i v z => by rw [← z]; simp) (base := s.heap) (free _ (Nat.le_refl _)) (fun b hb => free b (by rw [List.mem_singleton.mp hb, sz]; exact Nat.le_succ _)) (n0 := A.units + 8) (by simp only [units_in1]; omega) (by simp [hh]) step its.toArray.size 0 _ (by simp)
          ⟨⟨_, Heap.get?_push_size _ rfl, rfl, rfl⟩, (gl.push _)⟩ (fun b u e => Heap.get?_push_of_some _ (Heap.get?_push_of_some _ e)) ⟨_, Heap.get?_push_of_some _ g0, J0⟩ fun s3 o3 mv ho3 hJ3 q3 => ?_
        obtain ⟨h', g2, d2, tk2, os2⟩ := s3
        have eg : g2 = s.gens := mv.gens
        have ed : d2 = s.drawn := mv.drawn
        have eo : os2 = s.os := mv.os
        subst eg; subst ed; subst eo
        show wpAny _ _ _ _ _ _
        refine wpAny_pure ?_
        show wpAny _ _ (ret Value.none) _ _ _
        exact wpAny_pure ⟨rfl, h', tk2, o3, rfl, ho3, by simpa using hJ3, q3⟩
      · cases r2 with
        | error e => exact hr2
        | ok fl2 =>
          cases fl2 with
          | ret r =>
            obtain ⟨rfl, h', tk, o, rfl, ho, hJ, hk⟩ := hr2
            repeat (any_goals (first | assumption | wp_step))
            exact h _ _ _ ho hJ hk
          | _ => exact hr2.elim
    | _ => exact hr.elim)⟩
end
end Z

set_option Elab.async false
set_option maxRecDepth 100000
set_option maxHeartbeats 4000000
set_option linter.all false
/-! ZR: sets of texts made of lists; sorted(set(list(text))) -/
namespace Z
open PySem PySem.Spec PyProof.Rows L2
theorem nodup_le {α : Type} [DecidableEq α] : ∀ {l D : List α}, l.Nodup → (∀ x ∈ l, x ∈ D) → l.length ≤ D.length
  | [], _, _, _ => Nat.zero_le _
  | x :: l, D, nd, h => by
    obtain ⟨n1, n2⟩ := List.nodup_cons.mp nd
    have hx := h x List.mem_cons_self
    have := nodup_le (l := l) (D := D.erase x) n2 fun y hy => (List.mem_erase_of_ne fun e => n1 (by rw [← e]; exact hy)).mpr (h y (List.mem_cons_of_mem _ hy))
    rw [List.length_erase_of_mem hx] at this
    have := List.length_pos_of_mem hx
    rw [List.length_cons]; omega
/-- a set's payload of just these texts, its places rising -/
structure TxSet (P : Program) (w : World) (us : List Str) (o : Obj) : Prop where
  ex : ∃ D, o = Froz.sObj "set" D ∧ Froz.TxOk P w D us ∧ us.Nodup ∧ Ris D.2.2.place.toList ∧ (w.params.followText "set-order" = true ∨ D.2.2.led = true)
section
variable {P : Program} {w : World} {A : Around} {E : Value → Shared → Prop} {s : Shared}
theorem tail_ris {ep : Nat} {es : Array (Int × Value)} {t : SetTable} {b : Bool} (r : Ris t.place.toList) : Ris (Froz.tailTx ep es t b).2.2.place.toList ∧ (Froz.tailTx ep es t b).2.2.led = t.led := by
  unfold Froz.tailTx
  split
  · exact ⟨relayAll_ris _ _ _, relayAll_led _ _ _⟩
  · exact ⟨r, rfl⟩
theorem add_ris {h : Int} {v : Value} {D : Froz.SD} (r : Ris D.2.2.place.toList) : Ris (Froz.addTx h v D).2.2.place.toList ∧ (Froz.addTx h v D).2.2.led = D.2.2.led := by
  have r1 := layNew_ris D.2.2 D.1 h v r
  have l1 := layNew_led D.2.2 D.1 h v
  unfold Froz.addTx
  by_cases c : (layNew D.2.2 D.1 h v).2.1.plain = true
  · rw [if_pos c]
    obtain ⟨a, b⟩ := tail_ris (ep := D.2.1) (es := (layNew D.2.2 D.1 h v).1) (t := { (layNew D.2.2 D.1 h v).2.1 with plain := false }) (b := (layNew D.2.2 D.1 h v).2.2.1) r1
    exact ⟨a, b.trans l1⟩
  · rw [if_neg c]
    obtain ⟨a, b⟩ := tail_ris (ep := D.2.1) (es := (layNew D.2.2 D.1 h v).1) (t := (layNew D.2.2 D.1 h v).2.1) (b := (layNew D.2.2 D.1 h v).2.2.1) r1
    exact ⟨a, b.trans l1⟩
/-- a text that the set has -/
theorem again_x {a : Addr} {T : String} {D : Froz.SD} {us : List Str} {k : Str} {u : Tok} {Q : Bool → Shared → Prop} (ho : s.heap.get? a = some (Froz.sObj T D)) (F : Froz.TxOk P w D us) (hk : k ∈ us) (hb : us.length < scanBound) (h : Q false s) : wpAny (model P w) A (setAddHashed a (.str k u) (hashStr w k)) Q E s := by
  obtain ⟨es, ep, t⟩ := D
  have d0 : (Froz.sObj T (es, ep, t)).data = .set es ep t := rfl
  have f0 : t.fits es.size = true := F.fit
  have e0 : ElemsOf (strKind P w) es.toList := F.el
  have z0 : es.size = us.length := F.sz
  obtain ⟨e, he, hp⟩ := (F.mem k).mp hk
  obtain ⟨j, hj⟩ : ∃ j, List.findIdx? (fun e => (strKind P w).is k e.2) es.toList = some j := by
    cases q : List.findIdx? (fun e => (strKind P w).is k e.2) es.toList with
    | some j => exact ⟨j, rfl⟩
    | none =>
      have := List.findIdx?_eq_none_iff.mp q e he
      rw [hp] at this; cases this
  unfold setAddHashed setAddHashedIn
  refine wpAny_holding (wpAny_bind (wpAny_setState_of ho d0 f0 (by
    dsimp only
    rw [byScan_of (knd := strKind P w) (x := .str k u) rfl (by omega) e0, if_pos rfl]
    unfold setAddByScan
    refine wpAny_bind (wpAny_bind (wpAny_rule (wpAny_bind (wpAny_setScan_of (knd := strKind P w) (k := k) (Froz.is_str k u) ho d0 f0 e0 ?_))))
    rw [hj]
    exact wpAny_pure (wpAny_pure h))))
theorem upd_but {h : Heap} {a : Addr} {o : Obj} (X : Obj) (ho : h.get? a = some o) : Heap.SameBut a h (h.update a fun _ => X) := ⟨Heap.size_after_update _ _ _, fun b hb => Heap.get?_update_other _ _ (Ne.symm hb)⟩
theorem tx_steps {S : Addr} {n0 : Nat} {base : Heap} {its : List Value} {xs : List Str} (hv : StrsAre its xs) (hl : xs.length + 1 < scanBound) : Steps P w S n0 base its fun i o => ∃ us, TxSet P w us o ∧ ∀ k, k ∈ us ↔ k ∈ xs.take i := by
  rintro A E s i v o Q - - hi ho ⟨us, ⟨D, rfl, F, nd, r, ld⟩, hm⟩ - q
  obtain ⟨u, rfl⟩ := SS.strs_at hv i v hi
  have hil : i < xs.length := by
    rw [← StrsAre.length hv]
    exact (List.getElem?_eq_some_iff.mp hi).1
  have hk : xs[i]? = some (xs.getD i Str.empty) := by
    rw [List.getD_eq_getElem?_getD, List.getElem?_eq_getElem hil]; rfl
  generalize xs.getD i Str.empty = k at *
  have ht : xs.take (i + 1) = xs.take i ++ [k] := by rw [List.take_add_one, hk]; rfl
  have hul : us.length ≤ i := by
    have h1 := nodup_le nd (D := xs.take i) fun x hx => (hm x).mp hx
    have h2 : (xs.take i).length ≤ i := by rw [List.length_take]; omega
    omega
  unfold setAdd
  refine wpAny_holding (wpAny_bind ((strKind P w).pyHash (Froz.is_str k u) ?_))
  by_cases hin : k ∈ us
  · refine again_x (s := { s with toks := s.toks + 1 }) ho F hin (by omega) ?_
    exact q false s.heap (s.toks + 1) _ (Nat.le_succ _) ho ⟨us, ⟨D, rfl, F, nd, r, ld⟩, fun j => by
      rw [ht, List.mem_append, hm j, List.mem_singleton]
      exact ⟨.inl, fun z => z.elim id fun z => by rw [z]; exact (hm k).mp hin⟩⟩ (Heap.SameBut.refl _ _)
  · refine Froz.add_x (s := { s with toks := s.toks + 1 }) ho F hin (by omega) ?_
    obtain ⟨r2, l2⟩ := add_ris (h := hashStr w k) (v := .str k u) r
    refine q true _ (s.toks + 1) _ (Nat.le_succ _) (Froz.get_upd _ ho rfl) ⟨k :: us, ⟨_, rfl, Froz.add_ok u F, List.nodup_cons.mpr ⟨hin, nd⟩, r2, ld.imp id fun z => l2.trans z⟩, fun j => ?_⟩ (upd_but _ ho)
    rw [ht, List.mem_append, List.mem_cons, hm j, List.mem_singleton]
    exact ⟨fun z => z.elim .inr .inl, fun z => z.elim .inr .inl⟩
theorem tx_fresh : TxSet P w [] (newSetObj w) := ⟨(#[], 0, .fresh 0 0 (!w.params.followText "set-order")), rfl, Froz.TxOk.nil rfl, List.nodup_nil, List.Pairwise.nil, by
  cases w.params.followText "set-order" with
  | true => exact .inl rfl
  | false => exact .inr rfl⟩
/-! ### as rules -/
def SetTx (P : Program) (w : World) (a : Addr) (us : List Str) : HO := .ext fun h => ∃ o, h.get? a = some o ∧ TxSet P w us o
end
section
variable {X : Cx}
def rSetTx (K : PySem.W.Frag) (P : Program) (w : World) : List V → Hp → VK → Prop := fun xs H Q => ∃ (l : Addr) (zs : List Str), xs = [V.ref l] ∧ SqL K H l (zs.map V.str) ∧ zs.length < 4000 ∧ ∀ p us, H p = none → us.Nodup → (∀ k, k ∈ us ↔ k ∈ zs) → Q (.ref p) (upd H p (SetTx P w p us))
theorem cr_setTx (hc : X.calm = true) : CallR X (.type "set") (rSetTx X.K X.prog X.w) := by
  intro pins s σ H xs us Q I r h
  obtain ⟨l, zs, rfl, hs, hz, q⟩ := h
  obtain ⟨its, rv, hl, _⟩ := I.list hs
  rw [Vals.ref1 r]
  have rs := rv.strs
  have e1 : its.length = zs.length := StrsAre.length rs
  refine call_set_gen (I.ok.hd hc) hl.isList ⟨[], tx_fresh, fun k => by simp⟩ (tx_steps (P := X.prog) (w := X.w) rs (by show _ < 4096; omega)) fun h' tk o ho hJ hk => ?_
  obtain ⟨us, T, hm⟩ := hJ
  rw [e1, List.take_length] at hm
  obtain ⟨D, hD, F, nd, rr, ld⟩ := T.ex
  have new : ObjOk X.prog X.w (upd H s.heap.objs.size (SetTx X.prog X.w s.heap.objs.size us)) h' s.heap.objs.size (SetTx X.prog X.w s.heap.objs.size us) := ⟨⟨o, ho, ⟨D, hD, F, nd, rr, ld⟩⟩, ⟨o, ho⟩, fun h1 h2 p k => let ⟨o, a, b⟩ := p; ⟨o, k _ a, b⟩⟩
  exact ⟨.ref _, upd H s.heap.objs.size (SetTx X.prog X.w s.heap.objs.size us), I.laid (t' := tk) hk (Nat.le_refl _) new, rfl, q _ us (I.hok.fresh (Nat.le_refl _)) nd hm⟩
end
end Z

set_option Elab.async false
set_option maxRecDepth 100000
set_option maxHeartbeats 4000000
set_option linter.all false
/-! ZS: a set of texts sorted; list(text) -/
namespace Z
open PySem PySem.Spec PyProof.Rows L2
theorem perm_of_sub {α : Type} [DecidableEq α] : ∀ {l D : List α}, l.Nodup → (∀ x ∈ l, x ∈ D) → l.length = D.length → D.Perm l
  | [], D, _, _, e => by
    cases D with
    | nil => exact .nil
    | cons d D => cases e
  | x :: l, D, nd, h, e => by
    obtain ⟨n1, n2⟩ := List.nodup_cons.mp nd
    have hx := h x List.mem_cons_self
    have ih := perm_of_sub (l := l) (D := D.erase x) n2 (fun y hy => (List.mem_erase_of_ne fun e => n1 (by rw [← e]; exact hy)).mpr (h y (List.mem_cons_of_mem _ hy))) (by
      rw [List.length_erase_of_mem hx]
      rw [List.length_cons] at e; omega)
    exact (List.perm_cons_erase hx).trans (ih.cons x)
def txtOf : Value → Str
  | .str k _ => k
  | _ => Str.empty
theorem strs_of : ∀ (vs : List Value), (∀ v ∈ vs, ∃ k u, v = Value.str k u) → StrsAre vs (vs.map txtOf)
  | [], _ => .nil
  | v :: vs, h => by
    obtain ⟨k, u, rfl⟩ := h v List.mem_cons_self
    exact .cons k u (strs_of vs fun x hx => h x (List.mem_cons_of_mem _ hx))
section
variable {P : Program} {w : World} {A : Around} {E : Value → Shared → Prop} {s : Shared}
theorem sorted_tx {a : Addr} {o : Obj} {us : List Str} {Q : Value → Shared → Prop} (hh : A.handled = none) (ho : s.heap.get? a = some o) (T : TxSet P w us o) (hz : us.length < 4000)
    (h : ∀ s' p (out : Array Value) (c : Nat) (ys : List Str), (∀ b u, s.heap.get? b = some u → s'.heap.get? b = some u) → s'.gens = s.gens → s'.os = s.os → s.heap.objs.size ≤ p → s'.heap.get? p = some (seqObj "list" out c) → StrsAre out.toList ys → ys.Perm us → sortedS ys = true → Q (.ref p) s') :
    wpAny (model P w) A (call (.builtin "sorted") [.ref a]) Q E s := by
  obtain ⟨⟨es, ep, t⟩, rfl, F, nd, rr, ld⟩ := T.ex
  have z0 : es.size = us.length := F.sz
  have el : ∀ e ∈ es.toList, ∃ k u, e.2 = Value.str k u := fun e he => by
    obtain ⟨⟨k, h1, _⟩, _⟩ := F.el e he
    obtain ⟨u, h2⟩ := Value.isStrOf_shape (v := e.2) (x := k) h1
    exact ⟨k, u, h2⟩
  have pk : (es.toList.map fun e => txtOf e.2).Perm us := perm_of_sub nd (fun k hk => by
    obtain ⟨e, he, h1⟩ := (F.mem k).mp hk
    obtain ⟨u, h2⟩ := Value.isStrOf_shape (v := e.2) (x := k) h1
    exact List.mem_map.mpr ⟨e, he, by rw [h2]; rfl⟩) (by rw [List.length_map]; exact z0.symm)
  refine Calls.call_function_entry kind_sorted plain_sorted entry_sorted (args_sorted1 _) (by
    unfold Builtin.«sorted»
    refine wpAny_bind (m := checkCount "sorted" 1 1 _) (wpAny_pure ?_)
    refine wpAny_bind (collect_set (A := A.in1) hh ⟨_, ho, rfl, rfl⟩ F.fit (by rw [z0]; show _ < 4096; omega) rr ld fun s1 vs k1 sz g1 o1 pm => ?_)
    have vl : vs.length = us.length := by rw [pm.length_eq, List.length_map, Array.length_toList]; exact z0
    have vS : StrsAre vs (vs.map txtOf) := strs_of vs fun v hv => by
      obtain ⟨e, he, rfl⟩ := List.mem_map.mp (pm.mem_iff.mp hv)
      exact el e he
    have pv : (vs.map txtOf).Perm us := by
      have q := pm.map txtOf
      rw [List.map_map] at q
      exact q.trans pk
    have vL : vs.length ≤ sizeLine := by rw [vl, sizeLine_eq]; omega
    refine wpAny_bind (wpAny_newList ?_ vL)
    have g0 : (s1.heap.push (seqObj "list" vs.toArray 0)).get? s1.heap.objs.size = some (seqObj "list" vs.toArray 0) := Heap.get?_push_size _ rfl
    refine wpAny_bind (wpAny_holding (wpAny_call_entry slot_list_sort ⟨_, g0, rfl⟩ entry_list_sort (list_sort_treeKAny strKind_oneLt g0 vS.keysOf (fun v1 v2 rest e => keyKind_strs (by rw [← e]; exact vS)) vL fun st hp hs => ?_) (args_list_sort _)))
    obtain ⟨ys, y1, y2, y3⟩ := sorted_out_str vS hp hs
    obtain ⟨c, hc⟩ := sortedHeap_at (vs := vs) (out := (arrOf st).map (·.2)) g0
    refine ⟨_, rfl, wpAny_pure ⟨_, rfl, h _ s1.heap.objs.size _ c ys (fun b u e => ?_) g1 o1 sz hc y1 (y2.trans pv) y3⟩⟩
    have q := k1 b u e
    have lt := Heap.lt_size q
    show (sortedHeap (s1.heap.push (seqObj "list" vs.toArray 0)) s1.heap.objs.size vs _).get? b = some u
    rw [sortedHeap_old (Nat.ne_of_lt lt) (by rw [size_push']; exact Nat.lt_succ_of_lt lt)]
    exact Heap.get?_push_of_some _ q)
end
section
variable {X : Cx}
def rSortTx (P : Program) (w : World) : List V → Hp → VK → Prop := fun vs H Q => ∃ (a : Addr) (us : List Str), vs = [V.ref a] ∧ H a = some (SetTx P w a us) ∧ us.length < 4000 ∧ ∀ (ys : List Str) (p : Addr), ys.Perm us → sortedS ys = true → H p = none → Q (.ref p) (upd H p (.lst (ys.map V.str)))
theorem cr_sortTx (hc : X.calm = true) : CallR X (.builtin "sorted") (rSortTx X.prog X.w) := by
  intro pins s σ H vs rs Q I r h
  obtain ⟨a, us, rfl, ha, hz, q⟩ := h
  obtain ⟨o, ho, T⟩ := (I.hok a _ ha).1
  rw [Vals.ref1 r]
  refine sorted_tx (I.ok.hd hc) ho T hz fun s' p out c ys k g os hp hg hi pm so => ?_
  have hl : (ys.map V.str).length ≤ sizeLine := by rw [List.length_map, pm.length_eq, sizeLine_eq]; omega
  have hn : H p = none := I.hok.fresh hp
  have J : Inv X pins σ (upd H p (.lst (ys.map V.str))) { s with heap := s'.heap, gens := s'.gens, drawn := s'.drawn, toks := s'.toks } :=
    I.call (ch := []) (Un.laid k hp hn) (I.hok.laid k hp ⟨hl, out.toList, c, vals_of_strs hi, hg⟩) (by rw [g]; exact I.bare) (fun _ z => nomatch z)
  have e : s' = { s with heap := s'.heap, gens := s'.gens, drawn := s'.drawn, toks := s'.toks } := by
    obtain ⟨_, _, _, _, _⟩ := s'
    cases os; rfl
  rw [e]
  exact ⟨.ref p, _, J, rfl, q ys p pm so hn⟩
end
/-! ### list(text) -/
section
variable {X : Cx}
def rListS : List V → Hp → VK → Prop := fun xs H Q => ∃ z : Str, xs = [V.str z] ∧ z.length ≤ sizeLine ∧ ∀ p, H p = none → Q (.ref p) (upd H p (.lst (z.cps.toList.map fun c => V.str ⟨#[c]⟩)))
theorem cr_listS (hc : X.calm = true) : CallR X (.type "list") rListS := by
  intro pins s σ H xs us Q I r h
  obtain ⟨z, rfl, hz, q⟩ := h
  obtain ⟨u, rfl, t, rfl⟩ := vals1 r
  refine call_list_str (I.ok.hd hc) z t (hn := hz) fun h' tk acc c k hS hacc => ?_
  have hlen : acc.size = z.cps.size := hacc.1
  have new : ObjOk X.prog X.w (upd H s.heap.objs.size (.lst (z.cps.toList.map fun c => V.str ⟨#[c]⟩))) h' s.heap.objs.size (.lst (z.cps.toList.map fun c => V.str ⟨#[c]⟩)) := by
    refine ⟨by rw [List.length_map, Array.length_toList]; exact hz, acc.toList, c, ?_, by simpa using hS⟩
    refine vals_of_at (by rw [List.length_map, Array.length_toList, Array.length_toList, hlen]) fun j x v h1 h2 => ?_
    obtain ⟨d, y, h3, h4⟩ := hacc.2 j v (by rw [← Array.getElem?_toList]; exact h2)
    rw [List.getElem?_map, Array.getElem?_toList, h3] at h1
    cases h1
    exact ⟨y, h4⟩
  exact ⟨.ref _, upd H s.heap.objs.size _, I.laid (t' := tk) k (Nat.le_refl _) new, rfl, q _ (I.hok.fresh (Nat.le_refl _))⟩
end
/-! ### sorted(set(list(text))) -/
theorem inc_ext : ∀ {l m : List Nat}, l.Pairwise (· < ·) → m.Pairwise (· < ·) → (∀ x, x ∈ l ↔ x ∈ m) → l = m
  | [], [], _, _, _ => rfl
  | [], y :: m, _, _, h => by have := (h y).mpr List.mem_cons_self; cases this
  | x :: l, [], _, _, h => by have := (h x).mp List.mem_cons_self; cases this
  | x :: l, y :: m, p, q, h => by
    obtain ⟨p1, p2⟩ := List.pairwise_cons.mp p
    obtain ⟨q1, q2⟩ := List.pairwise_cons.mp q
    have e : x = y := by
      have a : y ≤ x := by
        rcases List.mem_cons.mp ((h x).mp List.mem_cons_self) with z | z
        · exact Nat.le_of_eq z.symm
        · exact Nat.le_of_lt (q1 x z)
      have b : x ≤ y := by
        rcases List.mem_cons.mp ((h y).mpr List.mem_cons_self) with z | z
        · exact Nat.le_of_eq z.symm
        · exact Nat.le_of_lt (p1 y z)
      exact Nat.le_antisymm b a
    subst e
    rw [inc_ext p2 q2 fun z => ⟨fun hz => by
      rcases List.mem_cons.mp ((h z).mp (List.mem_cons_of_mem _ hz)) with k | k
      · exact absurd (p1 z hz) (by rw [k]; exact Nat.lt_irrefl _)
      · exact k, fun hz => by
      rcases List.mem_cons.mp ((h z).mpr (List.mem_cons_of_mem _ hz)) with k | k
      · exact absurd (q1 z hz) (by rw [k]; exact Nat.lt_irrefl _)
      · exact k⟩]
def sgn (c : Nat) : Str := ⟨#[c]⟩
theorem sgn_inj {a b : Nat} (h : sgn a = sgn b) : a = b := by
  have h1 : (#[a] : Array Nat) = #[b] := congrArg Str.cps h
  have h2 := congrArg Array.toList h1
  exact List.cons.inj h2 |>.1
theorem rise_sgn : ∀ (p : Nat) (cs : List Nat), risingS (sgn p) (cs.map sgn) = true → (p :: cs).Pairwise (· ≤ ·)
  | p, [], _ => by simp
  | p, c :: cs, h => by
    have h : (!ltCps [c] [p] && risingS (sgn c) (cs.map sgn)) = true := h
    rw [Bool.and_eq_true] at h
    have ih := rise_sgn c cs h.2
    have hpc : p ≤ c := by
      have h1 := h.1
      by_cases z : c < p
      · exfalso
        have : ltCps [c] [p] = true := by simp [ltCps, z]
        rw [this] at h1; cases h1
      · omega
    refine List.pairwise_cons.mpr ⟨fun x hx => ?_, ih⟩
    rcases List.mem_cons.mp hx with k | k
    · omega
    · have := (List.pairwise_cons.mp ih).1 x k
      omega
theorem sort_sgn {cs : List Nat} (h : sortedS (cs.map sgn) = true) : cs.Pairwise (· ≤ ·) := by
  cases cs with
  | nil => exact List.Pairwise.nil
  | cons c cs => exact rise_sgn c cs h
theorem lt_of_nodup : ∀ {l : List Nat}, l.Pairwise (· ≤ ·) → l.Nodup → l.Pairwise (· < ·)
  | [], _, _ => .nil
  | x :: l, h, d => by
    obtain ⟨h1, h2⟩ := List.pairwise_cons.mp h
    obtain ⟨d1, d2⟩ := List.nodup_cons.mp d
    refine List.pairwise_cons.mpr ⟨fun y hy => ?_, lt_of_nodup h2 d2⟩
    have a := h1 y hy
    have b : x ≠ y := fun z => d1 (z ▸ hy)
    omega
def ssC (cs : List Nat) : List Nat := (List.range 128).filter fun c => decide (c ∈ cs)
def ssL : D → Option (List D)
  | .str z => if z.length ≤ 3000 ∧ (z.cps.toList.all fun c => decide (c < 128)) = true then some ((ssC z.cps.toList).map fun c => .str ⟨#[c]⟩) else none
  | _ => none
theorem ss_sorted {cs : List Nat} (hc : ∀ c ∈ cs, c < 128) {us ys : List Str} (nd : us.Nodup) (hm : ∀ k, k ∈ us ↔ k ∈ cs.map sgn) (pm : ys.Perm us) (so : sortedS ys = true) : ys = (ssC cs).map sgn := by
  obtain ⟨ds, rfl⟩ : ∃ ds : List Nat, ys = ds.map sgn := by
    have : ∀ ys : List Str, (∀ y ∈ ys, y ∈ cs.map sgn) → ∃ ds : List Nat, ys = ds.map sgn := fun ys => by
      induction ys with
      | nil => intro _; exact ⟨[], rfl⟩
      | cons y ys ih =>
        intro h
        obtain ⟨ds, e⟩ := ih fun x hx => h x (List.mem_cons_of_mem _ hx)
        obtain ⟨c, _, e2⟩ := List.mem_map.mp (h y List.mem_cons_self)
        exact ⟨c :: ds, by rw [e, ← e2]; rfl⟩
    exact this ys fun y hy => (hm y).mp (pm.mem_iff.mp hy)
  have nd2 : ds.Nodup := by
    have := pm.nodup_iff.mpr nd
    exact List.Pairwise.of_map sgn (fun a b hne e => hne (by rw [e])) this
  have mem : ∀ c, c ∈ ds ↔ c ∈ cs := fun c => by
    have h1 : c ∈ ds ↔ sgn c ∈ ds.map sgn := ⟨fun h => List.mem_map.mpr ⟨c, h, rfl⟩, fun h => by
      obtain ⟨d, h1, h2⟩ := List.mem_map.mp h
      rw [← sgn_inj h2]; exact h1⟩
    have h2 : c ∈ cs ↔ sgn c ∈ cs.map sgn := ⟨fun h => List.mem_map.mpr ⟨c, h, rfl⟩, fun h => by
      obtain ⟨d, h1, h2⟩ := List.mem_map.mp h
      rw [← sgn_inj h2]; exact h1⟩
    rw [h1, h2, pm.mem_iff, hm]
  have e : ds = ssC cs := inc_ext (lt_of_nodup (sort_sgn so) nd2) (List.Pairwise.filter _ List.pairwise_lt_range) fun c => by
    rw [mem c]
    unfold ssC
    rw [List.mem_filter, List.mem_range, decide_eq_true_eq]
    exact ⟨fun h => ⟨hc c h, h⟩, fun h => h.2⟩
  rw [e]
def tSS (K : PySem.W.Frag) (P : Program) (w : World) (te : TE) : TE := tCB (rSortTx P w) (tCons (tCB (rSetTx K P w) (tCons (tCB rListS (tCons te tNil)) tNil)) tNil)
theorem dl_ss {K : PySem.W.Frag} {B : Bs} {P : Program} {w : World} {te : TE} {f : En → Option D} (h : DE K B te f) : DL K B (tSS K P w te) (e1 ssL f) := fun ρ σ H O zs R e Q q => by
  obtain ⟨d, h1, e⟩ := bind_some e
  unfold ssL at e
  split at e
  · rename_i z
    split at e
    · rename_i c
      have e := Option.some.inj e
      subst e
      have hc : ∀ c ∈ z.cps.toList, c < 128 := fun x hx => of_decide_eq_true (List.all_eq_true.mp c.2 x hx)
      have hz : z.cps.toList.length ≤ 3000 := by rw [Array.length_toList]; exact c.1
      refine h ρ σ H O _ R h1 _ fun v H1 s x => ?_
      cases x
      refine ⟨z, rfl, Nat.le_trans c.1 (by decide), fun p hp => ?_⟩
      refine ⟨p, z.cps.toList.map sgn, rfl, SqL.of ?_, by rw [List.length_map]; omega, fun p2 us hp2 nd hm => ?_⟩
      · rw [upd_same, List.map_map]; rfl
      refine ⟨p2, us, rfl, upd_same, ?_, fun ys p3 pm so hp3 => ?_⟩
      · have := nodup_le nd (D := z.cps.toList.map sgn) fun k hk => (hm k).mp hk
        rw [List.length_map] at this; omega
      have s1 := s.trans (same_new (.lst (z.cps.toList.map fun c => V.str ⟨#[c]⟩)) hp)
      have s2 := s1.trans (same_new (SetTx P w p2 us) hp2)
      have s3 := s2.trans (same_new (.lst (ys.map V.str)) hp3)
      refine q p3 _ _ s3 (s2.free hp3) upd_same ?_
      rw [ss_sorted hc nd hm pm so, List.map_map]
      exact DqAll.map (fun x => .str _) _
    · cases e
  · cases e
theorem l_ss {X : Cx} {B : Bs} {e : Expr} {te : TE} {f : En → Option D} {p1 p2 p3 q1 q2 q3 : Pos} (hc : X.calm = true) (m1 : X.mg "sorted" = none) (m2 : X.mg "set" = none) (m3 : X.mg "list" = none) (h : XE X B e te f) (g1 : Gl X "sorted" := by rfl) (g2 : Gl X "set" := by rfl) (g3 : Gl X "list" := by rfl)
    (a1 : starEach [.Call (.Name "set" p2) [.Call (.Name "list" p3) [e] [] q3] [] q2] X.env = (false, eval (.Call (.Name "set" p2) [.Call (.Name "list" p3) [e] [] q3] [] q2) X.env) :: starEach [] X.env := by rfl) (a2 : starEach [.Call (.Name "list" p3) [e] [] q3] X.env = (false, eval (.Call (.Name "list" p3) [e] [] q3) X.env) :: starEach [] X.env := by rfl) (a3 : starEach [e] X.env = (false, eval e X.env) :: starEach [] X.env := by rfl) (hk : X.K = B.K := by rfl) :
    XL X B (.Call (.Name "sorted" p1) [.Call (.Name "set" p2) [.Call (.Name "list" p3) [e] [] q3] [] q2] [] q1) (tSS B.K X.prog X.w te) (e1 ssL f) :=
  ⟨hk ▸ pe_callB (cr_sortTx hc) g1 m1 PyProof.Rows.boot_sorted (pa_cons (pe_callTy (cr_setTx hc) g2 m2 PyProof.Rows.boot_set (pa_cons (pe_callTy (cr_listS hc) g3 m3 PyProof.Rows.boot_list (pa_cons h.pe pa_nil a3) (by decide) (by decide) a3) pa_nil a2) (by decide) (by decide) a2) pa_nil a1) (by decide) (by decide) a1, dl_ss h.de⟩
/-! ### len of a dict whose keys are tuples -/
def lenTD : List D → Option D
  | [.dict ds] => if isT ds = true ∧ isI ds = false then some (.int ((ds.length - 1 : Nat) : Int)) else none
  | _ => none
theorem opc_lenT {K : PySem.W.Frag} {B : Bs} : OpC K B rLenT lenTD := fun ρ σ H O vs ds z R a k Q q => by
  unfold lenTD at k
  split at k
  · rename_i es
    split at k
    · rename_i c
      obtain ⟨c, c2⟩ := c
      have k := Option.some.inj k
      subst k
      obtain ⟨v, rfl, b⟩ := bo1 a
      have fin : ∀ {G : Hp} {kvs : List (List Key × V)} {p : Addr}, H p = some (.dT kvs) → DqTv K G kvs es → rLenT [.ref p] H Q := fun {G kvs p} h1 h2 => by
        have := tv_len h2
        refine ⟨_, kvs, rfl, h1, q _ H (Same.refl H) ?_⟩
        rw [show es.length - 1 = kvs.length from by omega]
        exact .int _
      rcases b with b | ⟨l, vs, ds, _, e, _⟩ | ⟨l, o, tt, ds, rfl, e, m, h, x⟩
      · cases b with
        | dic h1 h2 => rw [kv_isT h2] at c; cases c
        | dct h1 h2 => exact fin (of_hid h1).2 h2
        | ins _ _ _ => cases c2
      · cases e
      · cases e
        rcases x with ⟨rfl, vs, rfl, x⟩ | ⟨rfl, vs, rfl, x⟩
        · rw [show tails false ds = ds from rfl, kv_isT x] at c; cases c
        · exact fin h x
    · cases k
  · cases k
end Z

set_option Elab.async false
set_option maxRecDepth 100000
set_option maxHeartbeats 4000000
set_option linter.all false
/-! ZT: an instance as data: its attributes, its methods, made anew; find, index, a text backwards -/
namespace Z
open PySem PySem.Spec PyProof.Rows L2
/-! ### an instance as data -/
def insD (nm : Str) (fs : List (D × D)) : D := .dict ((.list [.str nm], .none) :: fs)
/-- the attributes, where it is one of that class -/
def insOf (nm : Str) : D → Option (List (D × D))
  | .dict ((.list [.str n], .none) :: fs) => if n = nm then some fs else none
  | _ => none
theorem insOf_some {nm : Str} {d : D} {fs : List (D × D)} (h : insOf nm d = some fs) : d = insD nm fs := by
  unfold insOf at h
  split at h
  · split at h
    · rename_i e
      cases h
      rw [e]; rfl
    · cases h
  · cases h
theorem insOf_d (nm : Str) (fs : List (D × D)) : insOf nm (insD nm fs) = some fs := if_pos rfl
def fldD (nm x : Str) (d : D) : Option D := (insOf nm d).bind fun fs => look (.inl (.inr x)) fs
section
variable {K : PySem.W.Frag} {G : Hp}
theorem kv_isI : ∀ {vs : List (Key × V)} {ds : List (D × D)}, DqKv K G vs ds → isI ds = false := fun h => isI_of (kv_isT h)
theorem dq_ins {v : V} {nm : Str} {ds : List (D × D)} (h : Dq K G v (insD nm ds)) : ∃ a C dx fs, v = .ref a ∧ G a = some (.ins C dx fs) ∧ clsOf K nm = some C ∧ DqFs K G fs ds := by
  unfold insD at h
  cases h with
  | dic h1 h2 => exact absurd (kv_isI h2) (by intro z; cases z)
  | dct h1 h2 => exact absurd (tv_isI h2) (by intro z; cases z)
  | ins h1 h2 h3 => exact ⟨_, _, _, _, rfl, h1, h2, h3⟩
theorem toKy_str (x : Str) : toKy (.str x) = some (.inl (.inr x)) := rfl
theorem fs_look (x : Str) : ∀ {fs : List (Str × V)} {ds : List (D × D)}, DqFs K G fs ds → ValR K G (fs.lookup x) (look (.inl (.inr x)) ds)
  | _, _, .nil => .inl ⟨rfl, rfl⟩
  | (y, v) :: fs, _, .cons (d := d) (ds := ds) h t => by
    by_cases e : y = x
    · subst e
      rw [look_pos (p := (.str y, d)) (toKy_str y), show List.lookup y ((y, v) :: fs) = some v by simp [List.lookup]]
      exact .inr ⟨v, d, rfl, rfl, h⟩
    · rw [look_neg (p := (.str y, d)) (fun z => by rw [toKy_str] at z; injection z with z; injection z with z; injection z with z; exact e z)]
      have hb : (x == y) = false := beq_eq_false_iff_ne.mpr fun q => e q.symm
      rw [show List.lookup x ((y, v) :: fs) = List.lookup x fs by simp only [List.lookup, hb]]
      exact fs_look x t
theorem fs_some {x : Str} {fs : List (Str × V)} {ds : List (D × D)} {d : D} (h : DqFs K G fs ds) (e : look (.inl (.inr x)) ds = some d) : ∃ v, fs.lookup x = some v ∧ Dq K G v d := by
  rcases fs_look x h with ⟨_, h2⟩ | ⟨v, d', h1, h2, h3⟩
  · rw [h2] at e; cases e
  · rw [h2] at e; cases e; exact ⟨v, h1, h3⟩
theorem fs_none {x : Str} {fs : List (Str × V)} {ds : List (D × D)} (h : DqFs K G fs ds) (e : look (.inl (.inr x)) ds = none) : fs.lookup x = none := by
  rcases fs_look x h with ⟨h1, _⟩ | ⟨v, d', h1, h2, h3⟩
  · exact h1
  · rw [h2] at e; cases e
theorem fs_len : ∀ {fs : List (Str × V)} {ds : List (D × D)}, DqFs K G fs ds → fs.length = ds.length
  | _, _, .nil => rfl
  | _, _, .cons _ t => congrArg (· + 1) (fs_len t)
/-- an attribute more -/
theorem fs_put {x : Str} {v : V} {d : D} (hv : Dq K G v d) : ∀ {fs : List (Str × V)} {ds : List (D × D)}, DqFs K G fs ds → look (.inl (.inr x)) ds = none → DqFs K G (putF x v fs) (ds ++ [(.str x, d)])
  | _, _, .nil, _ => .cons hv .nil
  | (y, w) :: fs, _, .cons (d := d') (ds := ds) h t, e => by
    by_cases q : y = x
    · subst q
      rw [look_pos (p := (.str y, d')) (toKy_str y)] at e
      cases e
    · rw [look_neg (p := (.str y, d')) (fun z => by rw [toKy_str] at z; injection z with z; injection z with z; injection z with z; exact q z)] at e
      rw [show putF x v ((y, w) :: fs) = (if y = x then (y, v) :: fs else (y, w) :: putF x v fs) from rfl, if_neg q]
      exact .cons h (fs_put hv t e)
end
/-- an attribute that no class of it has -/
def CF (K : PySem.W.Frag) (nm x : Str) : Prop := ∃ C, clsOf K nm = some C ∧ Cls K C ∧ NoAttr K C x
section
variable {K : PySem.W.Frag} {B : Bs}
theorem de_fld {nm x : Str} {te : TE} {f : En → Option D} (c : CF K nm x) (h : DE K B te f) : DE K B (tFld K te x) (e1 (fldD nm x) f) := fun ρ σ H O z R e Q q => by
  obtain ⟨d, h1, e⟩ := bind_some e
  have e5 : (insOf nm d).bind (fun fs => look (.inl (.inr x)) fs) = some z := e
  clear e
  obtain ⟨ds, h2, e⟩ := bind_some e5
  clear e5
  have h2 := insOf_some h2
  subst h2
  refine h ρ σ H O _ R h1 _ fun v H1 s y => ?_
  obtain ⟨a, C, dx, fs, rfl, g1, g2, g3⟩ := dq_ins y
  obtain ⟨C', c1, c2, c3⟩ := c
  rw [g2] at c1
  cases c1
  obtain ⟨v, k1, k2⟩ := fs_some g3 e
  exact ⟨a, C, dx, fs, v, rfl, (of_hid g1).2, c2, c3, k1, q v H1 s k2⟩
end
theorem x_fld {X : Cx} {B : Bs} {eo : Expr} {x : Str} {pos : Pos} {te : TE} {f : En → Option D} (nm : Str) (c : CF B.K nm x) (h : XE X B eo te f) (hb : attributeBase eo x X.env (eval eo X.env) = eval eo X.env := by rfl) (hk : X.K = B.K := by rfl) : XE X B (.Attribute eo x pos) (tFld B.K te x) (e1 (fldD nm x) f) :=
  ⟨hk ▸ pe_fld h.pe hb, de_fld c h.de⟩
/-! ### a method -/
structure MF (P : Program) (w : World) (K : PySem.W.Frag) (mg : Str → Option Value) (base : Heap) (k : Nat) (nm m : Str) (n : Nat) (g : List D → Option Rv) : Prop where
  ex : ∃ C f fd ps, clsOf K nm = some C ∧ Cls K C ∧ Meth K C m f ∧ FnOk P w K mg base CX0 k f fd ps (spD K n g) ∧ Binds K fd ps []
  len : ∀ ds, g ds ≠ none → ds.length = n
def gMe (nm m : Str) (g : List D → Option Rv) (ds : List D) : Option Rv := match ds with
  | d :: r => (insOf nm d).bind fun fs => if (look (.inl (.inr m)) fs).isNone = true then g (d :: r) else none
  | [] => none
theorem gMe_s {nm m : Str} {g : List D → Option Rv} {fs : List (D × D)} {r : List D} (h : look (.inl (.inr m)) fs = none) : gMe nm m g (insD nm fs :: r) = g (insD nm fs :: r) := by
  show ((insOf nm (insD nm fs)).bind fun fs' => if (look (.inl (.inr m)) fs').isNone = true then g (insD nm fs :: r) else none) = _
  rw [insOf_d, Option.bind_some, h]; rfl
section
variable {K : PySem.W.Frag} {B : Bs}
theorem de_meth {P : Program} {w : World} {mg : Str → Option Value} {base : Heap} {k n : Nat} {nm m : Str} {C : Addr} {g : List D → Option Rv} {E : XK} {te : TE} {ta : TA} {f : En → Option D} {a : En → Option (List D)} (hc : clsOf K nm = some C) (hn : ∀ ds, g ds ≠ none → ds.length = n) (h : DE K B te f) (ha : DA K B ta a) :
    DE K B (tMeth C m (spD K n g) [] E te ta) (eCall (fun ds => toD (gMe nm m g ds)) (aCons f a)) := fun ρ σ H O z R e Q q => by
  obtain ⟨ds, h1, e⟩ := bind_some e
  obtain ⟨r, h2, h3⟩ := map_some e
  subst h3
  obtain ⟨d, h4, h1⟩ := bind_some h1
  obtain ⟨es, h5, h1⟩ := bind_some h1
  cases h1
  obtain ⟨fds, h6, h2⟩ := bind_some h2
  have h6 := insOf_some h6
  subst h6
  split at h2
  · rename_i hno
    have hno := Option.isNone_iff_eq_none.mp hno
    refine h ρ σ H O _ R h4 _ fun v H1 s x => ?_
    obtain ⟨p, C', dx, fs, rfl, g1, g2, g3⟩ := dq_ins x
    rw [hc] at g2
    cases g2
    refine ⟨p, dx, fs, rfl, (of_hid g1).2, fs_none g3 hno, ?_⟩
    have R1 := R.grow s
    refine ha ρ σ H1 O es R1 h5 _ fun vs H2 s2 y => ?_
    rw [List.append_nil]
    have R2 := R1.grow s2
    refine ⟨?_, O, insD nm fds :: es, r, R2.mu, .cons (Dq.mono (hid_grow s2) _ _ x) y, h2, fun v H3 s3 z => q v H3 ((s.trans s2).trans s3) (z.d R2)⟩
    rw [List.length_cons, y.length]
    exact hn (insD nm fds :: es) (by rw [h2]; simp)
  · cases h2
end
/-- o.m(..) of an instance of the class of that name -/
def tMethN (K : PySem.W.Frag) (nm m : Str) (sp : Sp) (E : XK) (te : TE) (ta : TA) : TE := fun σ H Q => ∃ C, clsOf K nm = some C ∧ tMeth C m sp [] E te ta σ H Q
section
variable {X : Cx} {B : Bs} {k n : Nat} {nm m : Str} {g : List D → Option Rv} {eo ex : Expr} {es : List Expr} {apos pos : Pos} {te : TE} {ta : TA} {f : En → Option D} {a : En → Option (List D)}
theorem pe_methN {pl : Sem Bool} (M : MF X.prog X.w X.K X.mg X.base k nm m n g) (hr : Room k X.A) (h : PE X eo te) (ha : PA X (ex :: es) ta) (hst : starEach (ex :: es) X.env = (false, eval ex X.env) :: starEach es X.env := by rfl) (hpl : (backTo pos (starEach es X.env)).any (·.1) = false := by rfl)
    (ht : eval (.Call (.Attribute eo m apos) (ex :: es) [] pos) X.env = (do
      let ov ← eval eo X.env
      standAt apos.atName
      let (f, first) ← holding [ov] (getMethod ov m pl)
      callWith pos f first (backTo pos (starEach (ex :: es) X.env)) (backToKw pos (keywordEach [] X.env))) := by rfl) :
    PE X (.Call (.Attribute eo m apos) (ex :: es) [] pos) (tMethN X.K nm m (spD X.K n g) E0 te ta) := by
  obtain ⟨⟨C, fa, fd, ps, hc, c, hm, F, hb⟩, hn⟩ := M
  refine ⟨fun pins s σ H Q I z => ?_⟩
  obtain ⟨C', z1, z2⟩ := z
  rw [hc] at z1
  cases z1
  exact (pe_meth (E := E0) (dvs := []) h c hm F hr hb .nil pass0 ha hst hpl ht).run pins s σ H Q I z2
theorem x_meth {pl : Sem Bool} (M : MF X.prog X.w X.K X.mg X.base k nm m n g) (hr : Room k X.A) (h : XE X B eo te f) (ha : XA X B (ex :: es) ta a) (hst : starEach (ex :: es) X.env = (false, eval ex X.env) :: starEach es X.env := by rfl) (hpl : (backTo pos (starEach es X.env)).any (·.1) = false := by rfl)
    (ht : eval (.Call (.Attribute eo m apos) (ex :: es) [] pos) X.env = (do
      let ov ← eval eo X.env
      standAt apos.atName
      let (f, first) ← holding [ov] (getMethod ov m pl)
      callWith pos f first (backTo pos (starEach (ex :: es) X.env)) (backToKw pos (keywordEach [] X.env))) := by rfl) (hk : X.K = B.K := by rfl) :
    XE X B (.Call (.Attribute eo m apos) (ex :: es) [] pos) (tMethN B.K nm m (spD B.K n g) E0 te ta) (eCall (fun ds => toD (gMe nm m g ds)) (aCons f a)) := by
  refine ⟨hk ▸ pe_methN M hr h.pe ha.pe hst hpl ht, fun ρ σ H O z R e Q q => ?_⟩
  obtain ⟨⟨C, fa, fd, ps, hc, _⟩, hn⟩ := M
  rw [hk] at hc
  exact ⟨C, hc, de_meth (P := X.prog) (w := X.w) (mg := X.mg) (base := X.base) (k := k) hc hn h.de ha.de ρ σ H O z R e Q q⟩
end
theorem mf_mk {P : Program} {w : World} {K : PySem.W.Frag} {mg : Str → Option Value} {base : Heap} {k n m : Nat} {nm x x' qual : Str} {st : Stmt} {C f : Addr} {fd : FuncData} {ps : List Str} {F : En → Option Out} (Fu : Fun K x' qual st f fd) (hn : ps.length = n) (h : FnOk P w K mg base CX0 k f fd ps (spD K n (gF n m F))) (hc : clsOf K nm = some C) (c : Cls K C) (hm : Meth K C x f) (hb : Binds K fd ps []) :
    MF P w K mg base k nm x n (gF n m F) := ⟨⟨C, f, fd, ps, hc, c, hm, h, hb⟩, gF_len⟩
/-! ### made anew -/
/-- __init__ makes of the arguments an instance that holds nothing old that may change -/
def spMk (K : PySem.W.Frag) (C : Addr) (n : Nat) (g : List D → Option D) : Sp := fun vs H Q _ => ∃ p dx us, vs = V.ref p :: us ∧ us.length = n ∧ H p = some (.ins C dx []) ∧ ∃ O ds d, Muts H O ∧ p ∉ O ∧ DqAll K (hid H (p :: O)) us ds ∧ g ds = some d ∧
  ∀ H', Sm [p] H H' → (∀ O2, Muts H O2 → p ∉ O2 → Dq K (hid H' O2) (.ref p) d) → Q .non H'
structure MkF (P : Program) (w : World) (K : PySem.W.Frag) (mg : Str → Option Value) (base : Heap) (k : Nat) (nm : Str) (n : Nat) (g : List D → Option D) : Prop where
  ex : ∃ C f fd ps, mg nm = some (.ref C) ∧ clsOf K nm = some C ∧ Mk K C f ∧ FnOk P w K mg base CX0 k f fd ps (spMk K C n g) ∧ Binds K fd ps []
  len : ∀ ds, g ds ≠ none → ds.length = n
def tMakeN (K : PySem.W.Frag) (nm : Str) (n : Nat) (g : List D → Option D) (t : TA) : TE := fun σ H Q => ∃ C, clsOf K nm = some C ∧ tMake C (spMk K C n g) [] E0 t σ H Q
section
variable {K : PySem.W.Frag} {B : Bs} {n : Nat} {nm : Str} {C : Addr} {g : List D → Option D} {ta : TA} {a : En → Option (List D)}
theorem make_in {H1 H2 : Hp} {O O' : List Addr} {σ : L2.St} {ρ : En} {E : XK} {Q : VK} {vs : List V} {ds : List D} {d : D} (R : RS K B ρ σ H1 O) (hO : ∀ x ∈ O', x ∈ O) (hl : vs.length = n) (h : DqAll K (hid H1 O') vs ds) (e : g ds = some d) (q : ∀ v H', Same H1 H' → Dq K (hid H' O) v d → Q v H') :
    ∀ x dx, H1 x = none → H1 dx = none → dx ≠ x → spMk K C n g (V.ref x :: (vs ++ [])) (upd (upd H1 dx (.own x)) x (.ins C dx [])) (fun v H2 => v = .non ∧ Q (.ref x) H2) E := fun x dx nx nd ne => by
  have S : Same H1 (upd (upd H1 dx (.own x)) x (.ins C dx [])) := fun b o z => by rw [upd_ne (ne_of_none z nx), upd_ne (ne_of_none z nd)]; exact z
  have mu : Muts (upd (upd H1 dx (.own x)) x (.ins C dx [])) O := fun b hb => let ⟨o, e, m⟩ := R.mu b hb; ⟨o, S _ _ e, m⟩
  refine ⟨x, dx, vs, by rw [List.append_nil], hl, upd_same, O', ds, d, fun b hb => mu b (hO b hb), fun z => R.fresh nx (hO x z), DqAll.mono ((hid_grow (same_new _ nd)).trans (hid_new _ (by rw [upd_ne ne.symm]; exact nx))) _ _ h, e, fun H' sm hd => ⟨rfl, q _ H' (fun b o z => sm b o ?_ (S b o z)) (hd O mu (R.fresh nx))⟩⟩
  intro z9
  rw [List.mem_singleton.mp z9, nx] at z
  cases z
theorem de_make (hc : clsOf K nm = some C) (hn : ∀ ds, g ds ≠ none → ds.length = n) (ha : DA K B ta a) : DE K B (tMakeN K nm n g ta) (eCall g a) := fun ρ σ H O z R e Q q => by
  obtain ⟨ds, h1, e⟩ := bind_some e
  refine ⟨C, hc, ha ρ σ H O ds R h1 _ fun vs H1 s y => ?_⟩
  exact make_in (H2 := H1) (R.grow s) (fun _ h => h) (by rw [y.length]; exact hn ds (by rw [e]; simp)) y e fun v H' s2 x => q v H' (s.trans s2) x
theorem bo_length {H : Hp} {O : List Addr} : ∀ {vs : List V} {ds : List D}, BoAll K H O vs ds → vs.length = ds.length
  | _, _, .nil => rfl
  | _, _, .cons _ t => congrArg (· + 1) (bo_length t)
theorem de_makeB (hc : clsOf K nm = some C) (hn : ∀ ds, g ds ≠ none → ds.length = n) (ha : DAB K B ta a) : DE K B (tMakeN K nm n g ta) (eCall g a) := fun ρ σ H O z R e Q q => by
  obtain ⟨ds, h1, e⟩ := bind_some e
  refine ⟨C, hc, ha ρ σ H O ds R h1 _ fun vs H1 s y => ?_⟩
  exact make_in (H2 := H1) (O' := lent O vs) (R.grow s) (fun _ h => lent_sub _ h) (by rw [bo_length y]; exact hn ds (by rw [e]; simp)) (lent_all vs (fun _ h => h) y) e fun v H' s2 x => q v H' (s.trans s2) x
end
section
variable {X : Cx} {B : Bs} {k n : Nat} {x : Str} {g : List D → Option D} {ex : Expr} {es : List Expr} {p pos : Pos} {ta : TA} {a : En → Option (List D)}
theorem pe_makeN (M : MkF X.prog X.w X.K X.mg X.base k x n g) (hr : Room (k + 1) X.A) (ha : PA X (ex :: es) ta) (hg : Gl X x := by rfl) (hdb : (x == ("__debug__" : Str)) = false := by decide) (he : starEach (ex :: es) X.env = (false, eval ex X.env) :: starEach es X.env := by rfl) (hpl : (backTo pos (starEach es X.env)).any (·.1) = false := by rfl) :
    PE X (.Call (.Name x p) (ex :: es) [] pos) (tMakeN X.K x n g ta) := by
  obtain ⟨⟨C, f, fd, ps, hm, hc, M, F, hb⟩, hn⟩ := M
  refine ⟨fun pins s σ H Q I z => ?_⟩
  obtain ⟨C', z1, z2⟩ := z
  rw [hc] at z1
  cases z1
  exact (pe_make M F hr hg hm hb .nil pass0 ha hdb he hpl).run pins s σ H Q I z2
theorem x_make (M : MkF X.prog X.w X.K X.mg X.base k x n g) (hr : Room (k + 1) X.A) (ha : XA X B (ex :: es) ta a) (hg : Gl X x := by rfl) (hdb : (x == ("__debug__" : Str)) = false := by decide) (he : starEach (ex :: es) X.env = (false, eval ex X.env) :: starEach es X.env := by rfl) (hpl : (backTo pos (starEach es X.env)).any (·.1) = false := by rfl) (hk : X.K = B.K := by rfl) :
    XE X B (.Call (.Name x p) (ex :: es) [] pos) (tMakeN B.K x n g ta) (eCall g a) := by
  refine ⟨hk ▸ pe_makeN M hr ha.pe hg hdb he hpl, ?_⟩
  obtain ⟨⟨C, f, fd, ps, hm, hc, _⟩, hn⟩ := M
  exact de_make (hk ▸ hc) hn ha.de
theorem x_makeB (M : MkF X.prog X.w X.K X.mg X.base k x n g) (hr : Room (k + 1) X.A) (ha : XAB X B (ex :: es) ta a) (hg : Gl X x := by rfl) (hdb : (x == ("__debug__" : Str)) = false := by decide) (he : starEach (ex :: es) X.env = (false, eval ex X.env) :: starEach es X.env := by rfl) (hpl : (backTo pos (starEach es X.env)).any (·.1) = false := by rfl) (hk : X.K = B.K := by rfl) :
    XE X B (.Call (.Name x p) (ex :: es) [] pos) (tMakeN B.K x n g ta) (eCall g a) := by
  refine ⟨hk ▸ pe_makeN M hr ha.pe hg hdb he hpl, ?_⟩
  obtain ⟨⟨C, f, fd, ps, hm, hc, _⟩, hn⟩ := M
  exact de_makeB (hk ▸ hc) hn ha.de
end
/-! ### find, index -/
def findD (d e : D) : Option D := match d, e with
  | .str a, .str b => some (.int (Txt.find a b))
  | _, _ => none
def indexD (d e : D) : Option D := match d, e with
  | .list ds, .int n => (allI ds).bind fun ns => if n ∈ ns then some (.int ((ns.idxOf n : Nat) : Int)) else none
  | _, _ => none
theorem indexD_some : ∀ {d e z : D}, indexD d e = some z → ∃ (ns : List Int) (n : Int), d = .list (ns.map .int) ∧ e = .int n ∧ n ∈ ns ∧ z = .int ((ns.idxOf n : Nat) : Int)
  | .list ds, .int n, z, h => by
    have h : (allI ds).bind (fun ns => if n ∈ ns then some (PyData.int ((ns.idxOf n : Nat) : Int)) else none) = some z := h
    obtain ⟨ns, h1, h⟩ := bind_some h
    split at h
    · rename_i hm
      cases h
      exact ⟨ns, n, by rw [allI_some h1], rfl, hm, rfl⟩
    · cases h
  | .list _, .none, _, h => by cases h
  | .list _, .bool _, _, h => by cases h
  | .list _, .str _, _, h => by cases h
  | .list _, .list _, _, h => by cases h
  | .list _, .tuple _, _, h => by cases h
  | .list _, .dict _, _, h => by cases h
  | .none, _, _, h => by cases h
  | .bool _, _, _, h => by cases h
  | .int _, _, _, h => by cases h
  | .str _, _, _, h => by cases h
  | .tuple _, _, _, h => by cases h
  | .dict _, _, _, h => by cases h
section
variable {X : Cx} {B : Bs} {a b o : Expr} {ta tb : TE} {f f' : En → Option D} {pos apos : Pos}
theorem x_find (ho : XE X B o ta f) (he : XE X B b tb f') (hs : starEach [b] X.env = [(false, eval b X.env)] := by rfl) (hbase : attributeBase o "find" X.env (eval o X.env) = eval o X.env := by rfl) (hline : (apos.endLine == pos.line) = true := by rfl) :
    XE X B (.Call (.Attribute o "find" apos) [b] [] pos) (tM1 (fun x xs H Q => ∃ a b, x = .str a ∧ xs = [.str b] ∧ Q (.int (Txt.find a b)) H) ta tb) (e2 findD f f') :=
  ⟨pe_m1 PySem.F.slot_str_find PySem.F.type_str_find mt_find ho.pe he.pe hs hbase hline, de_m1 (fun ρ σ H O x y d e z R a b k => by
    unfold findD at k
    split at k
    · cases k
      cases a
      cases b.str
      exact ⟨⟨_, rfl⟩, fun Q q => ⟨_, _, rfl, rfl, q _ H (Same.refl H) (.int _)⟩⟩
    · cases k) (fun d e z k => by
    unfold findD at k
    split at k
    · exact ⟨_, rfl⟩
    · cases k) ho.de he.de.db⟩
theorem flat_ints : ∀ ns : List Int, (ns.map V.int).all flatV = true
  | [] => rfl
  | n :: ns => flat_ints ns
theorem de_index {K : PySem.W.Frag} (ha : DE K B ta f) (hb : DE K B tb f') : DE K B (tBM K "list" (rIndex K) ta (tCons tb tNil)) (e2 indexD f f') := fun ρ σ H O z R e Q q => by
  obtain ⟨d, h1, e⟩ := bind_some e
  obtain ⟨d2, h2, e⟩ := bind_some e
  obtain ⟨ns, n, rfl, rfl, hm, rfl⟩ := indexD_some e
  refine ha ρ σ H O _ R h1 _ fun x H1 s1 y => ?_
  cases y with
  | @lst p xs _ hs hall =>
  have hi := hall.ints
  subst hi
  refine ⟨.inl ⟨rfl, _, SqL.mono (hid_self H1 O) hs⟩, hb ρ σ H1 O _ (R.grow s1) h2 _ fun v H2 s2 w => ?_⟩
  cases w
  have hlt : ns.idxOf n < ns.length := List.idxOf_lt_length_iff.mpr hm
  refine ⟨p, _, .int n, ns.idxOf n, .int n, rfl, rfl, SqL.mono (s2) (SqL.mono (hid_self H1 O) hs), rfl, flat_ints ns, ?_, ?_, fun m z' hlm hz => ?_, q _ H2 (s1.trans s2) (.int _)⟩
  · rw [List.getElem?_map, List.getElem?_eq_getElem hlt, List.getElem_idxOf]; rfl
  · show (n == n) = true; simp
  · rw [List.getElem?_map] at hz
    obtain ⟨k, h5, rfl⟩ := Option.map_eq_some_iff.mp hz
    show (k == n) = false
    have hml : m < ns.length := by omega
    have := List.not_of_lt_findIdx (p := (· == n)) (xs := ns) (i := m) hlm
    rw [List.getElem?_eq_getElem hml] at h5
    cases h5
    simpa using this
theorem x_index (ho : XE X B o ta f) (he : XE X B b tb f') (hbase : attributeBase o "index" X.env (eval o X.env) = eval o X.env := by rfl)
    (hfew : ((backTo pos (starEach [b] X.env)).all (fun x => !x.1) && (backToKw pos (keywordEach [] X.env)).all (fun x => x.1.isSome)
      && decide (([b] : List Expr).length + ([] : List Keyword).length + (if ([] : List Keyword).isEmpty then 0 else 1) < 30)) = true := by rfl)
    (hline : (apos.endLine == pos.line) = true := by rfl) (hs : starEach [b] X.env = (false, eval b X.env) :: starEach [] X.env := by rfl) (hplain : (backTo pos (starEach [] X.env)).any (·.1) = false := by rfl) (hk : X.K = B.K := by rfl) :
    XE X B (.Call (.Attribute o "index" apos) [b] [] pos) (tBM B.K "list" (rIndex B.K) ta (tCons tb tNil)) (e2 indexD f f') :=
  ⟨hk ▸ pe_bm PySem.F.plainAttrs_list PySem.F.slot_list_index PySem.F.type_list_index mt_index ho.pe (pa_cons he.pe pa_nil hs) hbase hfew hline hs hplain, de_index ho.de he.de⟩
end
/-! ### a text backwards -/
def revSD (d : D) : Option D := match d with
  | .str a => if a.length ≤ 1000000 then some (.str ⟨a.cps.toList.reverse.toArray⟩) else none
  | _ => none
def tRevS (te : TE) : TE := fun σ H Q => te σ H fun x H1 => ∃ a : Str, x = .str a ∧ a.length ≤ sizeLine ∧ Q (.str ⟨a.cps.toList.reverse.toArray⟩) H1
theorem rev_picked (a : Str) : ((Builtin.Str.strSliceIndices none none (-1) a.length).filterMap (a.cps[·]?)).toArray = a.cps.toList.reverse.toArray := by
  have h : Builtin.Str.strSliceIndices none none (-1) a.length = sliceRange ((a.cps.size : Int) - 1) (-1) (-1) := by
    unfold Builtin.Str.strSliceIndices
    simp only [show ¬ ((-1 : Int) > 0) by decide, if_false]
    rfl
  rw [h, PySem.W.krv_sliceRange, PySem.W.krv_range, List.filterMap_reverse, PySem.W.krv_all]
section
variable {X : Cx} {B : Bs} {e : Expr} {te : TE} {f : En → Option D} {k : Nat} {p1 p2 p3 pos : Pos}
theorem pe_revS (he : PE X e te) : PE X (.Subscript e (.Slice none none (some (.UnaryOp .USub (.Constant (.int 1) k p1) p2)) p3) pos) (tRevS te) := by
  refine ⟨fun pins s σ H Q I h => ?_⟩
  refine Subscript_ (thn (he.run pins s σ H _ I h) fun v s1 ⟨x, H1, I1, r1, q1⟩ => ?_)
  obtain ⟨a, rfl, hz, q⟩ := q1
  obtain ⟨t, rfl⟩ := r1
  have hst : PO X (some (.UnaryOp .USub (.Constant (.int 1) k p1) p2)) (tPart (tUn (rU fun i => .int (-i)) (tC (.int 1)))) := po_some (pe_un un_neg pe_int)
  refine wpAny_Slice (thn (po_none.run pins s1 σ H1 (fun o H2 => o = none ∧ H2 = H1) I1 ⟨rfl, rfl⟩) fun vl s2 ⟨l, H2, I2, pl, el, e2⟩ => ?_)
  subst el e2
  refine thn (po_none.run pins s2 σ H2 (fun o H3 => o = none ∧ H3 = H2) I2 ⟨rfl, rfl⟩) fun vu s3 ⟨u, H3, I3, pu, eu, e3⟩ => ?_
  subst eu e3
  refine thn (hst.run pins s3 σ H3 (fun o H4 => o = some (-1) ∧ H4 = H3) I3 ⟨1, rfl, -1, rfl, rfl, rfl⟩) fun vs s4 ⟨o, H4, I4, ps, eo, e4⟩ => ?_
  subst eo e4
  have I5 : Inv X pins σ H4 { s4 with heap := s4.heap.push { cls := .type "slice", data := .fields #[vl, vu, vs] } } := I4.kept (t' := s4.toks) fun b ob q => Heap.get?_push_of_some _ q
  obtain ⟨l, rfl, hl⟩ := IsPart.raw pl
  obtain ⟨u, rfl, hu⟩ := IsPart.raw pu
  obtain ⟨w, rfl, hw⟩ := IsPart.raw ps
  have hl : l = none := by cases l with | none => rfl | some _ => cases hl
  have hu : u = none := by cases u with | none => rfl | some _ => cases hu
  subst hl hu
  show wpAny (model X.prog X.w) X.A (subscriptTail e (.Slice none none (some (.UnaryOp .USub (.Constant (.int 1) k p1) p2)) p3) (.str a t) (.ref s4.heap.objs.size)) (EP X pins σ Q) X.xe { s4 with heap := s4.heap.push { cls := .type "slice", data := .fields #[partValue none, partValue none, partValue w] } }
  refine tail_any (ops := [.str a t, .ref s4.heap.objs.size]) (typeIs_str _ _ _) PySem.F.slot_str_getitem.lookup ?_ (by with_unfolding_all rfl)
  refine wpAny_getItem_str_slice (l := none) (u := none) (st := w) (Heap.IsSliceOf.new _ _ _ _) (by rw [hw]; rfl) ?_
  show Made.post (sliceMade a t none none w) (EP X pins σ Q) _
  have hm : sliceMade a t none none w = Made.str ⟨a.cps.toList.reverse.toArray⟩ := by
    unfold sliceMade slicePicked
    rw [hw]
    show (if ((-1 : Int) == 1 && _) = true then _ else Made.str ⟨((Builtin.Str.strSliceIndices none none (-1) a.length).filterMap (a.cps[·]?)).toArray⟩) = _
    rw [rev_picked, if_neg (by rw [show ((-1 : Int) == 1) = false by decide, Bool.false_and]; simp)]
  rw [hm]
  refine ⟨?_, .str _, H4, I5.tok _, ⟨_, rfl⟩, q⟩
  show a.cps.toList.reverse.toArray.size ≤ sizeLine
  rw [List.size_toArray, List.length_reverse]
  exact hz
theorem x_revS (h : XE X B e te f) : XE X B (.Subscript e (.Slice none none (some (.UnaryOp .USub (.Constant (.int 1) k p1) p2)) p3) pos) (tRevS te) (e1 revSD f) := ⟨pe_revS h.pe, fun ρ σ H O z R e Q q => by
  obtain ⟨d, h1, e⟩ := bind_some e
  unfold revSD at e
  split at e
  · split at e
    · rename_i c
      have e := Option.some.inj e
      subst e
      refine h.de ρ σ H O _ R h1 _ fun v H1 s x => ?_
      cases x
      exact ⟨_, rfl, line c, q _ H1 s (.str _)⟩
    · cases e
  · cases e⟩
end
end Z

set_option Elab.async false
set_option maxRecDepth 100000
set_option maxHeartbeats 4000000
set_option linter.all false
/-! ZU: an instance in the making, by hand -/
namespace Z
open PySem PySem.Spec PyProof.Rows L2
section
variable {K : PySem.W.Frag}
theorem muts_keep {H0 H' : Hp} {O : List Addr} {p : Addr} (mu : Muts H0 O) (s : Sm [p] H0 H') (hp : ∃ o, H' p = some o ∧ isMut o = true) : Muts H' O := fun a ha => by
  by_cases e : a = p
  · subst e; exact hp
  · obtain ⟨o, h, m⟩ := mu a ha
    exact ⟨o, s _ _ (fun z => e (List.mem_singleton.mp z)) h, m⟩
theorem fresh_list {H H' : Hp} {N : List Addr} {l : Addr} {us : List V} {ds : List D} (n : H l = none) (hN : ∀ a ∈ N, ∃ o, H a = some o) (mu : Muts H' N) (e : H' l = some (.lst us)) (a : DqAll K H' us ds) (im : immAll ds = true) : Dq K (hid H' N) (.ref l) (.list ds) := by
  refine .lst (SqL.of ?_) (dqs_hide mu im a)
  rw [hid_out (fun z => by obtain ⟨o, q⟩ := hN l z; rw [n] at q; cases q)]
  exact e
/-- what is hidden stays hidden: the rest is as it was -/
theorem hid_same {H H' : Hp} {N M : List Addr} (s : Sm N H H') (h : ∀ a ∈ M, a ∈ N ∨ H a = none) (hN : ∀ a ∈ N, a ∈ M ∨ H a = none) : Same (hid H M) (hid H' M) := fun a o e => by
  obtain ⟨q, e⟩ := of_hid e
  rw [hid_out q]
  refine s a o (fun z => ?_) e
  rcases hN a z with y | y
  · exact q y
  · rw [y] at e; cases e
def immKv (ds : List (D × D)) : Bool := ds.all fun p => imm p.2
theorem DqTv.move {G G' : Hp} (e : ∀ a xs, SqT K G a xs → SqT K G' a xs) : ∀ {ds : List (D × D)} {kvs : List (List Key × V)}, immKv ds = true → DqTv K G kvs (ds ++ [mark]) → DqTv K G' kvs (ds ++ [mark])
  | [], _, _, h => by cases h; exact .nil
  | p :: ds, kvs, i, h => by
    have h : DqTv K G kvs (p :: (ds ++ [mark])) := h
    show DqTv K G' kvs (p :: (ds ++ [mark]))
    have i : (imm p.2 && immKv ds) = true := i
    rw [Bool.and_eq_true] at i
    generalize hz : ds ++ [mark] = zs at h ⊢
    cases h with
    | nil => exact absurd hz (by simp)
    | cons a t =>
      subst hz
      exact .cons (Dq.move e _ _ i.1 a) (DqTv.move e i.2 t)
theorem immKv_put {k : Ky} {d : D} {ds : List (D × D)} (h : immKv ds = true) (hd : imm d = true) : immKv (putD k d ds) = true := by
  unfold immKv at h ⊢
  rw [List.all_eq_true] at h ⊢
  intro p hp
  unfold putD at hp
  split at hp
  · obtain ⟨q, hq, rfl⟩ := List.mem_map.mp hp
    split
    · exact hd
    · exact h q hq
  · rcases List.mem_append.mp hp with hp | hp
    · exact h p hp
    · rcases List.mem_singleton.mp hp with rfl
      exact hd
theorem putF_new {x : Str} {v : V} : ∀ {fs : List (Str × V)}, fs.lookup x = none → putF x v fs = fs ++ [(x, v)]
  | [], _ => rfl
  | (y, w) :: fs, h => by
    by_cases q : y = x
    · subst q
      rw [show List.lookup y ((y, w) :: fs) = some w by simp [List.lookup]] at h
      cases h
    · have hb : (x == y) = false := beq_eq_false_iff_ne.mpr fun z => q z.symm
      rw [show List.lookup x ((y, w) :: fs) = List.lookup x fs by simp only [List.lookup, hb]] at h
      rw [show putF x v ((y, w) :: fs) = (if y = x then (y, v) :: fs else (y, w) :: putF x v fs) from rfl, if_neg q, putF_new h]
      rfl
/-- an instance in the making: its attributes so far -/
structure ObA (K : PySem.W.Frag) (C p dx : Addr) (H0 : Hp) (fds : List (D × D)) (H : Hp) : Prop where
  st : ∃ fs, H p = some (.ins C dx fs) ∧ ∀ O2, Muts H0 O2 → DqFs K (hid H (p :: O2)) fs fds
  sm : Sm [p] H0 H
section
variable {C p dx : Addr} {H0 H H' : Hp} {fds : List (D × D)} {O : List Addr}
theorem ObA.muts (o : ObA K C p dx H0 fds H) {O : List Addr} (mu : Muts H0 O) : Muts H (p :: O) := by
  obtain ⟨fs, h, _⟩ := o.st
  exact .cons h rfl (muts_keep mu o.sm ⟨_, h, rfl⟩)
theorem ObA.mu1 (o : ObA K C p dx H0 fds H) {O : List Addr} (mu : Muts H0 O) : Muts H O := fun a ha => o.muts mu a (List.mem_cons_of_mem _ ha)
theorem ObA.grow (o : ObA K C p dx H0 fds H) (s : Same H H') : ObA K C p dx H0 fds H' := by
  obtain ⟨fs, h, g⟩ := o.st
  exact ⟨⟨fs, s _ _ h, fun O2 mu => DqFs.mono (hid_grow s) _ _ (g O2 mu)⟩, o.sm.trans (.of s)⟩
theorem ObA.put (o : ObA K C p dx H0 fds H) {x : Str} {v : V} {d : D} {fs : List (Str × V)} (hp : H p = some (.ins C dx fs)) (hx : look (.inl (.inr x)) fds = none) (hv : ∀ O2, Muts H0 O2 → Dq K (hid H (p :: O2)) v d) : ObA K C p dx H0 (fds ++ [(.str x, d)]) (upd H p (.ins C dx (putF x v fs))) := by
  obtain ⟨fs', h, g⟩ := o.st
  rw [hp] at h
  cases h
  refine ⟨⟨_, upd_same, fun O2 mu => ?_⟩, o.sm.trans (.upd _ List.mem_cons_self)⟩
  rw [hid_write _ List.mem_cons_self]
  exact fs_put (hv O2 mu) (g O2 mu) hx
theorem ObA.self (o : ObA K C p dx H0 fds H) {nm : Str} (hc : clsOf K nm = some C) (mu : Muts H0 O) (hO : p ∉ O) : Dq K (hid H O) (.ref p) (insD nm fds) := by
  obtain ⟨fs, h, g⟩ := o.st
  refine .ins (dx := dx) (fs := fs) (by rw [hid_out hO]; exact h) hc ?_
  exact DqFs.mono (hid_less fun a ha => List.mem_cons_of_mem _ ha) _ _ (g O mu)
theorem Sm.hid1 (s : Sm [p] H0 H) : Same (hid H0 (p :: O)) (hid H O) := fun a o e => by
  obtain ⟨q, e⟩ := of_hid e
  rw [List.mem_cons, not_or] at q
  rw [hid_out q.2]
  exact s a o (fun z => q.1 (List.mem_singleton.mp z)) e
theorem ObA.setE (o : ObA K C p dx H0 fds H) {F : En → Option D} {ρ : En} {d : D} {σ : L2.St} {E : Ends} {x : Str} (T : Cls K C) (nx : NoAttr K C x) (hl : fds.length < 1000) (hx : look (.inl (.inr x)) fds = none) (hσ : σ[0]? = some (some (.ref p))) (R : RS K (Bk K H O) ρ σ H O) (e : F ρ = some d) (im : imm d = true)
    (k : ∀ H', ObA K C p dx H0 (fds ++ [(.str x, d)]) H' → E.nx σ H') : sFld K (tVar 0) (tZE K F) x E σ H := by
  refine ⟨O, ρ, d, R, e, fun v H' s h => ?_⟩
  have o' := o.grow s
  obtain ⟨fs, h1, h2⟩ := o'.st
  exact ⟨_, hσ, p, C, dx, fs, rfl, h1, T, nx, by rw [fs_len (h2 [] Muts.nil)]; exact hl, k _ (o'.put h1 hx fun O2 mu => dq_hide (o'.muts mu) im (dq_full h))⟩
theorem ObA.setL (o : ObA K C p dx H0 fds H) {F : En → Option (List D)} {ρ : En} {ds : List D} {σ : L2.St} {E : Ends} {x : Str} (T : Cls K C) (nx : NoAttr K C x) (hl : fds.length < 1000) (hx : look (.inl (.inr x)) fds = none) (hσ : σ[0]? = some (some (.ref p))) (R : RS K (Bk K H O) ρ σ H O) (e : F ρ = some ds) (im : immAll ds = true)
    (k : ∀ H', ObA K C p dx H0 (fds ++ [(.str x, .list ds)]) H' → E.nx σ H') : sFld K (tVar 0) (tZL K F) x E σ H := by
  refine ⟨O, ρ, ds, R, e, fun l us H' s n h1 h2 => ?_⟩
  have o' := o.grow s
  obtain ⟨fs, g1, g2⟩ := o'.st
  refine ⟨_, hσ, p, C, dx, fs, rfl, g1, T, nx, by rw [fs_len (g2 [] Muts.nil)]; exact hl, k _ (o'.put g1 hx fun O2 mu => ?_)⟩
  exact fresh_list n (fun a ha => let ⟨o, q, _⟩ := o.muts mu a ha; ⟨o, q⟩) (o'.muts mu) h1 (dqs_full h2) im
end
end
/-- a reading of a key -/
def tZK (K : PySem.W.Frag) (fk : En → Option Ky) : TE := fun σ H Q => ∃ O ρ k, RS K (Bk K H O) ρ σ H O ∧ fk ρ = some k ∧ ∀ y H', Same H H' → KyV H' y k → Q y H'
theorem pe_zk {X : Cx} {K : PySem.W.Frag} {e : Expr} {fk : En → Option Ky} (h : ∀ H O, ∃ t, XKy X (Bk K H O) e t fk) : PE X e (tZK K fk) := ⟨fun pins s σ H Q I z => by
  obtain ⟨O, ρ, k, R, e1, q⟩ := z
  obtain ⟨t, x⟩ := h H O
  exact x.pe.run pins s σ H Q I (x.de ρ σ H O k R e1 Q q)⟩
end Z
namespace Z
open PySem PySem.Spec PyProof.Rows L2
theorem lk_ne {α : Type} {x y : Str} {v : α} {fs : List (Str × α)} (h : x ≠ y) : List.lookup x ((y, v) :: fs) = List.lookup x fs := by
  have hb : (x == y) = false := beq_eq_false_iff_ne.mpr h
  simp only [List.lookup, hb]
theorem lk_eq {α : Type} {x : Str} {v : α} {fs : List (Str × α)} : List.lookup x ((x, v) :: fs) = some v := by simp [List.lookup]
theorem look_ne {x y : Str} {d : D} {ds : List (D × D)} (h : x ≠ y) : look (.inl (.inr x)) ((.str y, d) :: ds) = look (.inl (.inr x)) ds := look_neg fun z => by
  rw [toKy_str] at z
  injection z with z; injection z with z; injection z with z
  exact h z.symm
theorem look_eq {x : Str} {d : D} {ds : List (D × D)} : look (.inl (.inr x)) ((.str x, d) :: ds) = some d := look_pos (p := (.str x, d)) (toKy_str x)
section
variable {K : PySem.W.Frag}
theorem fs_app {G : Hp} : ∀ {fs fs' : List (Str × V)} {ds ds' : List (D × D)}, DqFs K G fs ds → DqFs K G fs' ds' → DqFs K G (fs ++ fs') (ds ++ ds')
  | _, _, _, _, .nil, h => h
  | _, _, _, _, .cons a t, h => .cons a (fs_app t h)
/-! a book in the making -/
structure BkA (K : PySem.W.Frag) (C p dx la : Addr) (H3 : Hp) (fs : List (Str × V)) (acts : List (D × D)) (H : Hp) : Prop where
  hp : H p = some (.ins C dx (fs ++ [(("acts" : Str), V.ref la)]))
  sm : Sm [p] H3 H
  nla : H3 la = none
  ha : ∃ kvs, H la = some (.dT kvs) ∧ DqTv K H kvs (acts ++ [mark])
  im : immKv acts = true
structure BkB (K : PySem.W.Frag) (C p dx la lf lc : Addr) (H3 : Hp) (fs : List (Str × V)) (acts fr co : List (D × D)) (H : Hp) : Prop where
  hp : H p = some (.ins C dx (fs ++ [(("acts" : Str), V.ref la), (("frames" : Str), V.ref lf), (("costs" : Str), V.ref lc)]))
  sm : Sm [p] H3 H
  nl : H3 la = none ∧ H3 lf = none ∧ H3 lc = none
  ne : la ≠ lf ∧ la ≠ lc ∧ lf ≠ lc
  ha : ∃ kvs, H la = some (.dT kvs) ∧ DqTv K H kvs (acts ++ [mark])
  im : immKv acts = true
  hf : ∃ kf, H lf = some (.dK kf) ∧ ∀ O2, Muts H3 O2 → DqKv K (hid H (p :: lf :: lc :: O2)) kf fr
  hc : ∃ kc, H lc = some (.dK kc) ∧ ∀ O2, Muts H3 O2 → DqKv K (hid H (p :: lf :: lc :: O2)) kc co
section
variable {C p dx la lf lc : Addr} {H0 H3 H H' : Hp} {fs : List (Str × V)} {acts fr co : List (D × D)}
theorem acts_move {M : List Addr} (s : Sm M H H') (mu : Muts H M) {kvs : List (List Key × V)} (im : immKv acts = true) (h : DqTv K H kvs (acts ++ [mark])) : DqTv K H' kvs (acts ++ [mark]) := DqTv.move (fun _ _ q => sm_tup s mu q) im h
theorem BkB.muts (h : BkB K C p dx la lf lc H3 fs acts fr co H) : Muts H [lf, lc] := by
  obtain ⟨kf, h1, _⟩ := h.hf
  obtain ⟨kc, h2, _⟩ := h.hc
  exact .cons h1 rfl (.cons h2 rfl .nil)
theorem BkB.big (h : BkB K C p dx la lf lc H3 fs acts fr co H) {O2 : List Addr} (mu : Muts H3 O2) : Muts H (p :: lf :: lc :: O2) := by
  obtain ⟨kf, h1, _⟩ := h.hf
  obtain ⟨kc, h2, _⟩ := h.hc
  exact .cons h.hp rfl (.cons h1 rfl (.cons h2 rfl (muts_keep mu h.sm ⟨_, h.hp, rfl⟩)))
theorem BkB.grow (h : BkB K C p dx la lf lc H3 fs acts fr co H) (s : Same H H') : BkB K C p dx la lf lc H3 fs acts fr co H' := by
  obtain ⟨ka, a1, a2⟩ := h.ha
  obtain ⟨kf, f1, f2⟩ := h.hf
  obtain ⟨kc, c1, c2⟩ := h.hc
  exact ⟨s _ _ h.hp, h.sm.trans (.of s), h.nl, h.ne, ⟨ka, s _ _ a1, DqTv.mono s _ _ a2⟩, h.im, ⟨kf, s _ _ f1, fun O2 mu => DqKv.mono (hid_grow s) _ _ (f2 O2 mu)⟩, ⟨kc, s _ _ c1, fun O2 mu => DqKv.mono (hid_grow s) _ _ (c2 O2 mu)⟩⟩
theorem BkB.frame (h : BkB K C p dx la lf lc H3 fs acts fr co H) {kf kc : List (Key × V)} {l1 l2 : Addr} {us1 us2 : List V} {w : Str} {as bs : List D} (hkf : H lf = some (.dK kf)) (hkc : H lc = some (.dK kc)) (i1 : immAll as = true) (i2 : immAll bs = true)
    (sm : Sm [lf, lc] H H') (n1 : H l1 = none) (n2 : H l2 = none) (e1 : H' l1 = some (.lst us1)) (a1 : DqAll K H' us1 as) (e2 : H' l2 = some (.lst us2)) (a2 : DqAll K H' us2 bs) (ef : H' lf = some (.dK (putK kf (.inr w) (.ref l1)))) (ec : H' lc = some (.dK (putK kc (.inr w) (.ref l2)))) :
    BkB K C p dx la lf lc H3 fs acts (putD (.inl (.inr w)) (.list as) fr) (putD (.inl (.inr w)) (.list bs) co) H' := by
  obtain ⟨ka, g1, g2⟩ := h.ha
  obtain ⟨kf', f1, f2⟩ := h.hf
  obtain ⟨kc', c1, c2⟩ := h.hc
  rw [hkf] at f1; cases f1
  rw [hkc] at c1; cases c1
  have hp := h.hp
  have npf : p ≠ lf := fun e => by rw [e, hkf] at hp; cases hp
  have npc : p ≠ lc := fun e => by rw [e, hkc] at hp; cases hp
  have hp' : H' p = some (.ins C dx (fs ++ [(("acts" : Str), V.ref la), (("frames" : Str), V.ref lf), (("costs" : Str), V.ref lc)])) := sm _ _ (by simp [npf, npc]) hp
  have S : ∀ O2, Same (hid H (p :: lf :: lc :: O2)) (hid H' (p :: lf :: lc :: O2)) := fun O2 a o e => by
    obtain ⟨q, e⟩ := of_hid e
    rw [hid_out q]
    simp only [List.mem_cons, not_or] at q
    exact sm a o (by simp [q.2.1, q.2.2.1]) e
  have sm3 : Sm [p] H3 H' := fun b o nb e => by
    refine sm b o (fun z => ?_) (h.sm b o nb e)
    rcases List.mem_cons.mp z with z | z
    · rw [z, h.nl.2.1] at e; cases e
    · rw [List.mem_singleton.mp z, h.nl.2.2] at e; cases e
  have mu' : ∀ O2, Muts H3 O2 → Muts H' (p :: lf :: lc :: O2) := fun O2 mu => .cons hp' rfl (.cons ef rfl (.cons ec rfl (muts_keep mu sm3 ⟨_, hp', rfl⟩)))
  have old : ∀ O2, Muts H3 O2 → ∀ a ∈ p :: lf :: lc :: O2, ∃ o, H a = some o := fun O2 mu a ha => let ⟨o, e, _⟩ := h.big mu a ha; ⟨o, e⟩
  exact ⟨hp', sm3, h.nl, h.ne, ⟨ka, sm _ _ (by simp [h.ne.1, h.ne.2.1]) g1, acts_move sm h.muts h.im g2⟩, h.im,
    ⟨_, ef, fun O2 mu => kv_put (fresh_list n1 (old O2 mu) (mu' O2 mu) e1 a1 i1) (DqKv.mono (S O2) _ _ (f2 O2 mu))⟩,
    ⟨_, ec, fun O2 mu => kv_put (fresh_list n2 (old O2 mu) (mu' O2 mu) e2 a2 i2) (DqKv.mono (S O2) _ _ (c2 O2 mu))⟩⟩
theorem BkB.done (h : BkB K C p dx la lf lc H3 fs acts fr co H) {fds : List (D × D)} (mu3 : ∀ O2, Muts H0 O2 → Muts H3 O2) (sm : Sm [p] H0 H3) (g : ∀ O2, Muts H0 O2 → DqFs K (hid H3 (p :: O2)) fs fds) :
    ObA K C p dx H0 (fds ++ [(.str "acts", .dict (tails true acts)), (.str "frames", .dict fr), (.str "costs", .dict co)]) H := by
  obtain ⟨ka, g1, g2⟩ := h.ha
  obtain ⟨kf, f1, f2⟩ := h.hf
  obtain ⟨kc, c1, c2⟩ := h.hc
  refine ⟨⟨_, h.hp, fun O2 mu => fs_app (DqFs.mono (fun a o e => ?_) _ _ (g O2 mu)) ?_⟩, sm.trans h.sm⟩
  · obtain ⟨q, e⟩ := of_hid e
    rw [hid_out q]
    rw [List.mem_cons, not_or] at q
    exact h.sm a o (fun z => q.1 (List.mem_singleton.mp z)) e
  · have out : ∀ {l : Addr} {o : HO}, H3 l = none → H l = some o → (∀ fs', o ≠ .ins C dx fs') → hid H (p :: O2) l = some o := fun {l o} n e ne => by
      rw [hid_out]
      · exact e
      · intro z
        rcases List.mem_cons.mp z with z | z
        · rw [z, h.hp] at e
          cases e
          exact ne _ rfl
        · obtain ⟨o', e', _⟩ := mu3 O2 mu l z
          rw [n] at e'; cases e'
    have less : ∀ a ∈ p :: O2, a ∈ p :: lf :: lc :: O2 := fun a ha => by
      rcases List.mem_cons.mp ha with z | z
      · rw [z]; exact List.mem_cons_self
      · exact List.mem_cons_of_mem _ (List.mem_cons_of_mem _ (List.mem_cons_of_mem _ z))
    have mu' : Muts H (p :: O2) := fun a ha => h.big (mu3 O2 mu) a (less a ha)
    refine .cons (.dct (out h.nl.1 g1 fun _ z => by cases z) (DqTv.move (fun _ _ q => sm_tup hid_sm mu' q) h.im g2)) (.cons (.dic (out h.nl.2.1 f1 fun _ z => by cases z) ?_) (.cons (.dic (out h.nl.2.2 c1 fun _ z => by cases z) ?_) .nil))
    · exact DqKv.mono (hid_less less) _ _ (f2 O2 (mu3 O2 mu))
    · exact DqKv.mono (hid_less less) _ _ (c2 O2 (mu3 O2 mu))
end
end
end Z

set_option Elab.async false
set_option maxRecDepth 100000
set_option maxHeartbeats 4000000
set_option linter.all false
/-! ZW: two lists handed to a class within a list, and cleared behind: one statement of the layer -/
namespace Z
open PySem PySem.Spec PyProof.Rows L2
def sGv (gi bi : Nat) (g : List D → Option D) (fl1 fl2 : En → Option (List D)) (fs : En → Option D) : En → Option Out := fun ρ => if gi < ρ.length then
  (fl1 ρ).bind fun as => (fl2 ρ).bind fun bs => (fs (ρ.set gi none)).bind fun s => (g [.list as, s, .list bs]).map fun d => .nx ((ρ.set gi none).set bi (some (.ro d))) else none
section
variable {K : PySem.W.Frag} {B : Bs} {ρ : En} {σ : L2.St} {H H' : Hp} {O : List Addr}
theorem RS.setNone (R : RS K B ρ σ H O) {i : Nat} {v : V} (hp : free B i = true) : RS K B (ρ.set i none) (σ.set i (some v)) H O where
  len := by rw [List.length_set, List.length_set]; exact R.len
  slot := fun j s e => by
    by_cases hj : i = j
    · subst hj
      by_cases hi : i < ρ.length
      · rw [List.getElem?_set_self hi] at e; cases e
      · rw [List.getElem?_eq_none (by rw [List.length_set]; omega)] at e; cases e
    · rw [List.getElem?_set_ne hj] at e
      obtain ⟨v, a, b⟩ := R.slot j s e
      exact ⟨v, by rw [List.getElem?_set_ne hj]; exact a, b⟩
  uniq := fun j k s s' l hjk e e' o o' a a' => by
    by_cases hj : i = j
    · subst hj
      by_cases hi : i < ρ.length
      · rw [List.getElem?_set_self hi] at e; cases e
      · rw [List.getElem?_eq_none (by rw [List.length_set]; omega)] at e; cases e
    · by_cases hk : i = k
      · subst hk
        by_cases hi : i < ρ.length
        · rw [List.getElem?_set_self hi] at e'; cases e'
        · rw [List.getElem?_eq_none (by rw [List.length_set]; omega)] at e'; cases e'
      · rw [List.getElem?_set_ne hj] at e a
        rw [List.getElem?_set_ne hk] at e' a'
        exact R.uniq j k s s' l hjk e e' o o' a a'
  same := R.same
  own := R.own
  mu := R.mu
  sub0 := R.sub0
  lo := R.lo
  pin := pin_set R hp
theorem hid_part {H H' : Hp} {O O' : List Addr} (s : ∀ a o, a ∉ O → H a = some o → a ∉ O' ∧ H' a = some o) : Same (hid H O) (hid H' O') := fun a o e => by
  obtain ⟨q1, q2⟩ := of_hid e
  obtain ⟨p1, p2⟩ := s a o q1 q2
  rw [hid_out p1]
  exact p2
end
section
variable {K : PySem.W.Frag} {B : Bs} {gi bi : Nat} {nm : Str} {C : Addr} {g : List D → Option D} {te1 te2 ts ti0 ti1 : TE} {fl1 fl2 : En → Option (List D)} {fs : En → Option D} {u : TS} {Fu : En → Option Out}
theorem ds_given (hpg : free B gi = true) (hpb : free B bi = true) (hne : gi ≠ bi) (h1 : DL K B te1 fl1) (h2 : DL K B te2 fl2) (hs : DE K B ts fs) (hc : clsOf K nm = some C) (hi0 : ∀ σ H Q, Q (V.int 0) H → ti0 σ H Q) (hi1 : ∀ σ H Q, Q (V.int 1) H → ti1 σ H Q) (rest : DS K B u Fu) :
    DS K B (tSeq (tAsg (tLst (tCons te1 (tCons te2 tNil))) (gName gi)) (tSeq (tAsg (tMakeN K nm 3 g (tCons (tOp (rIx K) (tVar gi) ti0) (tCons ts (tCons (tOp (rIx K) (tVar gi) ti1) tNil)))) (gName bi))
      (tSeq (tDrop (tBM0 K "list" rClear (tOp (rIx K) (tVar gi) ti0))) (tSeq (tDrop (tBM0 K "list" rClear (tOp (rIx K) (tVar gi) ti1))) u)))) (sSeq (sGv gi bi g fl1 fl2 fs) Fu) := fun ρ σ H O o R e D q => by
  have e : (match sGv gi bi g fl1 fl2 fs ρ with | some (.nx ρ') => Fu ρ' | o => o) = some o := e
  have hgi : gi < ρ.length := by
    by_cases h : gi < ρ.length
    · exact h
    · unfold sGv at e; rw [if_neg h] at e; cases e
  have ee : ∃ as bs s d, fl1 ρ = some as ∧ fl2 ρ = some bs ∧ fs (ρ.set gi none) = some s ∧ g [.list as, s, .list bs] = some d ∧ Fu ((ρ.set gi none).set bi (some (.ro d))) = some o := by
    unfold sGv at e
    rw [if_pos hgi] at e
    cases e1 : fl1 ρ with
    | none => rw [e1] at e; cases e
    | some as =>
      rw [e1, Option.bind_some] at e
      cases e2 : fl2 ρ with
      | none => rw [e2] at e; cases e
      | some bs =>
        rw [e2, Option.bind_some] at e
        cases e3 : fs (ρ.set gi none) with
        | none => rw [e3] at e; cases e
        | some s =>
          rw [e3, Option.bind_some] at e
          cases e4 : g [.list as, s, .list bs] with
          | none => rw [e4] at e; cases e
          | some d =>
            rw [e4, Option.map_some] at e
            exact ⟨as, bs, s, d, rfl, rfl, rfl, e4, e⟩
  obtain ⟨as, bs, s, d, e1, e2, e3, e4, e5⟩ := ee
  rw [R.len] at hgi
  refine h1 ρ σ H O as R e1 _ fun p1 vs1 H1 s1 n1 hl1 x1 => ?_
  obtain ⟨R1, g1⟩ := R.own1 s1 n1 hl1 rfl
  refine h2 ρ σ H1 (p1 :: O) bs R1 e2 _ fun p2 vs2 H2 s2 n2 hl2 x2 => ?_
  obtain ⟨R2, g2⟩ := R1.own1 s2 n2 hl2 rfl
  refine ⟨by show 2 ≤ sizeLine; decide, fun p3 n3 => ?_⟩
  have s3 : Same H2 (upd H2 p3 (.lst [.ref p1, .ref p2])) := same_new _ n3
  obtain ⟨R3, g3⟩ := R2.own1 s3 n3 upd_same rfl
  generalize hH3 : upd H2 p3 (.lst [.ref p1, .ref p2]) = H3 at *
  have hp3 : H3 p3 = some (.lst [.ref p1, .ref p2]) := by rw [← hH3, upd_same]
  have hp1 : H3 p1 = some (.lst vs1) := s3 _ _ (s2 _ _ hl1)
  have hp2 : H3 p2 = some (.lst vs2) := s3 _ _ hl2
  have ne12 : p2 ≠ p1 := fun z => by rw [z, hl1] at n2; cases n2
  have ne13 : p3 ≠ p1 := fun z => by rw [z, s2 _ _ hl1] at n3; cases n3
  have ne23 : p3 ≠ p2 := fun z => by rw [z, hl2] at n3; cases n3
  have R4 := R3.setNone (i := gi) (v := .ref p3) hpg
  have hget : (σ.set gi (some (V.ref p3)))[gi]? = some (some (.ref p3)) := List.getElem?_set_self hgi
  refine ⟨C, hc, ?_⟩
  -- the first list
  refine ⟨_, hget, hi0 _ _ _ (.inl ⟨p3, _, 0, .ref p1, rfl, rfl, SqL.of hp3, rfl, ?_⟩)⟩
  refine hs _ _ H3 _ s R4 e3 _ fun v H4 s4 dq4 => ?_
  refine ⟨_, hget, hi1 _ _ _ (.inl ⟨p3, _, 1, .ref p2, rfl, rfl, SqL.of (s4 _ _ hp3), rfl, ?_⟩)⟩
  have a1 : DqAll K (hid H4 (p3 :: O)) vs1 as := DqAll.mono (hid_part fun a o z1 z2 => by
    rw [List.mem_cons, not_or] at z1
    refine ⟨?_, s4 _ _ (s3 _ _ (s2 _ _ z2))⟩
    rw [List.mem_cons, not_or]
    exact ⟨fun z => (by rw [z] at z2; rw [s2 _ _ z2] at n3; cases n3), z1.2⟩) _ _ x1
  have a2 : DqAll K (hid H4 (p3 :: O)) vs2 bs := DqAll.mono (hid_part fun a o z1 z2 => by
    rw [List.mem_cons, List.mem_cons, not_or, not_or] at z1
    refine ⟨?_, s4 _ _ (s3 _ _ z2)⟩
    rw [List.mem_cons, not_or]
    exact ⟨fun z => (by rw [z, n3] at z2; cases z2), z1.2.2⟩) _ _ x2
  have dq4' : Dq K (hid H4 (p3 :: O)) v s := Dq.mono (hid_less fun a ha => by
    rcases List.mem_cons.mp ha with rfl | ha
    · exact List.mem_cons_self
    · exact List.mem_cons_of_mem _ (List.mem_cons_of_mem _ (List.mem_cons_of_mem _ ha))) _ _ dq4
  have q1 : p1 ∉ p3 :: O := by
    rw [List.mem_cons, not_or]
    exact ⟨ne13.symm, R.fresh n1⟩
  have q2 : p2 ∉ p3 :: O := by
    rw [List.mem_cons, not_or]
    exact ⟨ne23.symm, fun z => R1.fresh n2 (List.mem_cons_of_mem _ z)⟩
  have l1 : Dq K (hid H4 (p3 :: O)) (.ref p1) (.list as) := .lst (SqL.of (by rw [hid_out q1]; exact s4 _ _ hp1)) a1
  have l2 : Dq K (hid H4 (p3 :: O)) (.ref p2) (.list bs) := .lst (SqL.of (by rw [hid_out q2]; exact s4 _ _ hp2)) a2
  have hsub : ∀ a ∈ p3 :: O, a ∈ p3 :: p2 :: p1 :: O := fun a ha => by
    rcases List.mem_cons.mp ha with rfl | ha
    · exact List.mem_cons_self
    · exact List.mem_cons_of_mem _ (List.mem_cons_of_mem _ (List.mem_cons_of_mem _ ha))
  intro x dx nx nd ne
  refine make_in (H2 := H4) (C := C) (E := E0) (Q := fun x H1 => gName bi x (σ.set gi (some (V.ref p3))) H1 (tSeq (tDrop (tBM0 K "list" rClear (tOp (rIx K) (tVar gi) ti0))) (tSeq (tDrop (tBM0 K "list" rClear (tOp (rIx K) (tVar gi) ti1))) u) D)) (n := 3) (R4.grow s4) (O' := p3 :: O) hsub rfl (.cons l1 (.cons dq4' (.cons l2 .nil))) e4 (fun w H5 s5 dq5 => ?_) x dx nx nd ne
  have s35 := s4.trans s5
  have hget2 : ((σ.set gi (some (V.ref p3))).set bi (some w))[gi]? = some (some (.ref p3)) := by rw [List.getElem?_set_ne hne.symm]; exact hget
  -- cleared
  refine ⟨_, hget2, hi0 _ _ _ (.inl ⟨p3, _, 0, .ref p1, rfl, rfl, SqL.of (s35 _ _ hp3), rfl, .inl ⟨rfl, _, SqL.of (s35 _ _ hp1)⟩, p1, _, rfl, rfl, s35 _ _ hp1, ?_⟩)⟩
  have hp3' : upd H5 p1 (.lst []) p3 = some (.lst [.ref p1, .ref p2]) := by rw [upd_ne ne13]; exact s35 _ _ hp3
  have hp2' : upd H5 p1 (.lst []) p2 = some (.lst vs2) := by rw [upd_ne ne12]; exact s35 _ _ hp2
  refine ⟨_, hget2, hi1 _ _ _ (.inl ⟨p3, _, 1, .ref p2, rfl, rfl, SqL.of hp3', rfl, .inl ⟨rfl, _, SqL.of hp2'⟩, p2, _, rfl, rfl, hp2', ?_⟩)⟩
  -- what was before is as it was
  have S05 : Same H H5 := fun a o z => s35 _ _ (s3 _ _ (s2 _ _ (s1 _ _ z)))
  have S07 : Same H (upd (upd H5 p1 (.lst [])) p2 (.lst [])) := fun a o z => by
    rw [upd_ne (fun y => by rw [y] at z; rw [s1 _ _ z] at n2; cases n2), upd_ne (fun y => by rw [y, n1] at z; cases z)]
    exact S05 _ _ z
  have R7 := ((R.grow S07).setNone (i := gi) (v := .ref p3) hpg).setRo (i := bi) (v := w) (d := d) hpb (Dq.mono (hid_part fun a o z1 z2 => by
    rw [List.mem_cons, List.mem_cons, List.mem_cons, not_or, not_or, not_or] at z1
    exact ⟨z1.2.2.2, by rw [upd_ne z1.2.1, upd_ne z1.2.2.1]; exact z2⟩) _ _ dq5)
  exact rest _ _ _ O o R7 e5 D (q.step (hid_grow S07))
end
section
variable {X : Cx} {B : Bs} {gi bi : Nat} {nm : Str} {C : Addr} {g : List D → Option D} {te1 te2 ts ti0 ti1 : TE} {fl1 fl2 : En → Option (List D)} {fs : En → Option D} {u : TS} {F1 F2 Fu : En → Option Out} {a1 a2 a3 a4 : Stmt} {rs : List Stmt}
/-- a list that an expression tells is cleared -/
structure XC (X : Cx) (B : Bs) (s : Stmt) (to : TE) : Prop where
  pe : PS X s (tDrop (tBM0 B.K "list" rClear to))
theorem ss_given {gx bx cx : Str} {p1 p2 p3 q1 q2 q3 q4 : Pos} {ex1 ex2 ex3 sub1 sub2 : Expr} (g1 : XS X B (.Assign [.Name gx p1] (.List [ex1, ex2] p2) p3) (tAsg (tLst (tCons te1 (tCons te2 tNil))) (gName gi)) F1) (g2 : XS X B (.Assign [.Name bx q1] (.Call (.Name cx q2) [sub1, ex3, sub2] [] q3) q4) (tAsg (tMakeN B.K nm 3 g (tCons (tOp (rIx B.K) (tVar gi) ti0) (tCons ts (tCons (tOp (rIx B.K) (tVar gi) ti1) tNil)))) (gName bi)) F2)
    (g3 : XC X B a3 (tOp (rIx B.K) (tVar gi) ti0)) (g4 : XC X B a4 (tOp (rIx B.K) (tVar gi) ti1))
    (h1 : XL X B ex1 te1 fl1) (h2 : XL X B ex2 te2 fl2) (hs : XE X B ex3 ts fs) (hc : ∃ C, clsOf B.K nm = some C) (hi0 : ∀ σ H Q, Q (V.int 0) H → ti0 σ H Q) (hi1 : ∀ σ H Q, Q (V.int 1) H → ti1 σ H Q) (rest : XSs X B rs u Fu) (hpg : free B gi = true := by rfl) (hpb : free B bi = true := by rfl) (hne : gi ≠ bi := by decide) :
    XSs X B (.Assign [.Name gx p1] (.List [ex1, ex2] p2) p3 :: .Assign [.Name bx q1] (.Call (.Name cx q2) [sub1, ex3, sub2] [] q3) q4 :: a3 :: a4 :: rs) (tSeq (tAsg (tLst (tCons te1 (tCons te2 tNil))) (gName gi)) (tSeq (tAsg (tMakeN B.K nm 3 g (tCons (tOp (rIx B.K) (tVar gi) ti0) (tCons ts (tCons (tOp (rIx B.K) (tVar gi) ti1) tNil)))) (gName bi))
      (tSeq (tDrop (tBM0 B.K "list" rClear (tOp (rIx B.K) (tVar gi) ti0))) (tSeq (tDrop (tBM0 B.K "list" rClear (tOp (rIx B.K) (tVar gi) ti1))) u)))) (sSeq (sGv gi bi g fl1 fl2 fs) Fu) := by
  obtain ⟨C, hc⟩ := hc
  exact ⟨pss_cons g1.pe (pss_cons g2.pe (pss_cons g3.pe (pss_cons g4.pe rest.pe))), ds_given hpg hpb hne h1.de h2.de hs.de hc hi0 hi1 rest.de⟩
theorem s_clearI {on : Expr} {to : TE} {f : En → Option D} {pos cpos apos : Pos} (ho : XE X B on to f) (hbase : attributeBase on "clear" X.env (eval on X.env) = eval on X.env := by rfl) (hline : (apos.endLine == cpos.line) = true := by rfl)
    (hs : swapsWith (.Call (.Attribute on "clear" apos) [] [] cpos) none pos.line X.env = pure false := by rfl) (hk : X.K = B.K := by rfl) :
    XC X B (.Expr (.Call (.Attribute on "clear" apos) [] [] cpos) pos) to :=
  ⟨hk ▸ ps_expr (pe_bm0 PySem.F.plainAttrs_list PySem.F.slot_list_clear PySem.F.type_list_clear mt_clear ho.pe hbase hline) hs⟩
end
theorem MkF.cls {P : Program} {w : World} {K : PySem.W.Frag} {mg : Str → Option Value} {base : Heap} {k : Nat} {nm : Str} {n : Nat} {g : List D → Option D} (h : MkF P w K mg base k nm n g) : ∃ C, clsOf K nm = some C :=
  let ⟨⟨C, _, _, _, _, hc, _⟩, _⟩ := h; ⟨C, hc⟩
/-! a list times a number -/
def lRep (fl : En → Option (List D)) (f : En → Option D) : En → Option (List D) := fun ρ => (fl ρ).bind fun ds => match f ρ with
  | some (.int k) => if -1000 ≤ k ∧ k ≤ 1000 ∧ ds.length ≤ 1000 then some (List.replicate k.toNat ds).flatten else none
  | _ => none
section
variable {X : Cx} {B : Bs} {a b : Expr} {ta tb : TE} {fl : En → Option (List D)} {f : En → Option D}
theorem dq_rep {K : PySem.W.Frag} {G : Hp} {vs : List V} {ds : List D} (h : DqAll K G vs ds) : ∀ k : Nat, DqAll K G (List.replicate k vs).flatten (List.replicate k ds).flatten
  | 0 => .nil
  | k + 1 => by
    rw [List.replicate_succ, List.replicate_succ, List.flatten_cons, List.flatten_cons]
    exact DqAll.append h (dq_rep h k)
theorem dl_rep {K : PySem.W.Frag} (ha : DL K B ta fl) (hb : DE K B tb f) : DL K B (tOp rRep ta tb) (lRep fl f) := fun ρ σ H O es R e Q q => by
  unfold lRep at e
  obtain ⟨ds, e1, e⟩ := bind_some e
  split at e
  · rename_i k e2
    split at e
    · rename_i hc
      obtain ⟨c1, c2, c3⟩ := hc
      cases e
      refine ha ρ σ H O ds R e1 _ fun l vs H1 s1 n1 hl1 x1 => ?_
      refine hb ρ σ H1 O _ (R.grow s1) e2 _ fun v H2 s2 dq => ?_
      cases dq
      have hlen := x1.length
      have hz : vs.length * k.toNat ≤ sizeLine := by
        have : vs.length * k.toNat ≤ 1000 * 1000 := Nat.mul_le_mul (by omega) (by omega)
        exact Nat.le_trans this (by decide)
      refine ⟨l, k, vs, rfl, rfl, s2 _ _ hl1, by omega, by omega, hz, fun p np => ?_⟩
      have nH : H p = none := by
        cases hp : H p with
        | none => rfl
        | some o => rw [s2 _ _ (s1 _ _ hp)] at np; cases np
      refine q p _ _ (fun a o z => by rw [upd_ne (ne_of_none z nH)]; exact s2 _ _ (s1 _ _ z)) nH upd_same (dq_rep (DqAll.mono (hid_part fun a o z1 z2 => ?_) _ _ x1) _)
      rw [List.mem_cons, not_or] at z1
      have hap : a ≠ p := fun z => by rw [z] at z2; rw [s2 _ _ z2] at np; cases np
      rw [List.mem_cons, not_or]
      exact ⟨⟨hap, z1.2⟩, by rw [upd_ne hap]; exact s2 _ _ z2⟩
    · cases e
  · cases e
theorem l_rep {pos : Pos} (ha : XL X B a ta fl) (hb : XE X B b tb f) : XL X B (.BinOp a .Mult b pos) (tOp rRep ta tb) (lRep fl f) := ⟨pe_op op_rep ha.pe hb.pe, dl_rep ha.de hb.de⟩
end
/-! an item of a list of deep data -/
def inNLD (n : Nat) (d e : D) : Option D := match e with
  | .list ds => if d.canLay0 = true ∧ (PyData.list ds).canLay0 = true ∧ min (PyData.depthAll ds) d.depth ≤ n then some (.bool (ds.any fun z => PyData.eqv z d)) else none
  | _ => none
def rInDN (K : PySem.W.Frag) (n : Nat) : R2 := fun x y H Q => ∃ d ds, Dp K H x d ∧ Dp K H y (.list ds) ∧ d.canLay0 = true ∧ (PyData.list ds).canLay0 = true ∧ min (PyData.depthAll ds) d.depth ≤ n ∧ Q (.bl (ds.any fun z => PyData.eqv z d)) H
theorem op_inDN {X : Cx} {n : Nat} (hu : X.A.units + (n + 1) < cLine) : OpR X (compareOp .In) (rInDN X.K n) := by
  intro pins s σ H x y v u Q I rx ry h
  obtain ⟨d, ds, hd, he, sd, se, hn, q⟩ := h
  obtain ⟨as, r1⟩ := Dp.reads I d x v hd rx
  obtain ⟨bs, r2⟩ := Dp.reads I (.list ds) y u he ry
  exact SeqAt.in_list_reads r2 r1 se sd (by omega) ⟨.bl _, H, I, rfl, q⟩
section
variable {K : PySem.W.Frag} {B : Bs}
theorem opd_inNL {n : Nat} : OpD K B (rInDN K n) (inNLD n) := fun ρ σ H O x y d e z R a b k Q q => by
  unfold inNLD at k
  split at k
  · rename_i ds
    split at k
    · rename_i c
      cases k
      obtain ⟨p, vs, rfl, hp, ap⟩ := b.list
      have cl := c.2.1
      have cd := c.1
      have hd : Dq K H x d := by
        rcases a with a | ⟨l, us, es, rfl, rfl, _, h, a⟩ | ⟨l, us, tt, kvs, rfl, rfl, _, h, a⟩
        · exact Dq.mono (hid_self _ _) _ _ a
        · exact .lst (SqL.of h) (DqAll.mono (hid_self _ _) _ _ a)
        · exact dobj_dq h (DObj.mono (hid_self _ _) a)
      exact ⟨d, ds, Dq.toDp d _ cd hd, Dq.toDp (.list ds) _ cl (.lst hp (DqAll.mono (hid_self _ _) _ _ ap)), c.1, c.2.1, c.2.2, q _ H (Same.refl H) (.bl _)⟩
    · cases k
  · cases k
end
end Z

set_option Elab.async false
set_option maxRecDepth 100000
set_option maxHeartbeats 4000000
set_option linter.all false
/-! ZX: sorted of a dict whose keys are numbers -/
namespace Z
open PySem PySem.Spec PyProof.Rows L2
def insI (k : Int) : List Int → List Int
  | [] => [k]
  | x :: xs => if k ≤ x then k :: x :: xs else x :: insI k xs
def isortI : List Int → List Int
  | [] => []
  | x :: xs => insI x (isortI xs)
theorem insI_perm (k : Int) : ∀ xs, (insI k xs).Perm (k :: xs)
  | [] => .refl _
  | x :: xs => by
    unfold insI
    split
    · exact .refl _
    · exact ((insI_perm k xs).cons x).trans (.swap k x xs)
theorem insI_sorted (k : Int) : ∀ {xs : List Int}, xs.Pairwise (· ≤ ·) → (insI k xs).Pairwise (· ≤ ·)
  | [], _ => List.pairwise_singleton _ _
  | x :: xs, h => by
    have h2 := List.pairwise_cons.mp h
    unfold insI
    split
    · rename_i hk
      exact List.pairwise_cons.mpr ⟨fun y hy => by
        rcases List.mem_cons.mp hy with rfl | hy
        · exact hk
        · exact Int.le_trans hk (h2.1 y hy), h⟩
    · rename_i hk
      refine List.pairwise_cons.mpr ⟨fun y hy => ?_, insI_sorted k h2.2⟩
      rcases List.mem_cons.mp ((insI_perm k xs).mem_iff.mp hy) with rfl | hy
      · omega
      · exact h2.1 y hy
theorem isortI_perm : ∀ xs, (isortI xs).Perm xs
  | [] => .refl _
  | x :: xs => (insI_perm x _).trans ((isortI_perm xs).cons x)
theorem isortI_sorted : ∀ xs, (isortI xs).Pairwise (· ≤ ·)
  | [] => List.Pairwise.nil
  | x :: xs => insI_sorted x (isortI_sorted xs)
theorem sorted_one : ∀ {xs ys : List Int}, xs.Perm ys → xs.Pairwise (· ≤ ·) → ys.Pairwise (· ≤ ·) → xs = ys
  | [], ys, p, _, _ => p.nil_eq
  | x :: xs, [], p, _, _ => absurd p.length_eq (by simp)
  | x :: xs, y :: ys, p, h, k => by
    have h2 := List.pairwise_cons.mp h
    have k2 := List.pairwise_cons.mp k
    have e : x = y := by
      have a : x ∈ y :: ys := p.mem_iff.mp List.mem_cons_self
      have b : y ∈ x :: xs := p.mem_iff.mpr List.mem_cons_self
      have a : x = y ∨ y ≤ x := by
        rcases List.mem_cons.mp a with a | a
        · exact .inl a
        · exact .inr (k2.1 x a)
      have b : y = x ∨ x ≤ y := by
        rcases List.mem_cons.mp b with b | b
        · exact .inl b
        · exact .inr (h2.1 y b)
      omega
    subst e
    rw [sorted_one (List.perm_cons _ |>.mp p) h2.2 k2.2]
def keysI : List (D × D) → Option (List Int)
  | [] => some []
  | (.int k, _) :: r => (keysI r).map (k :: ·)
  | _ :: _ => none
theorem kv_keys {K : PySem.W.Frag} {G : Hp} : ∀ {kvs : List (Key × V)} {ds : List (D × D)} {ks : List Int}, DqKv K G kvs ds → keysI ds = some ks → kvs.map (·.1) = ks.map Sum.inl
  | _, _, ks, .nil, e => by cases e; rfl
  | _, _, ks, .cons (k := k) _ t, e => by
    cases k with
    | inl i =>
      obtain ⟨r, e1, rfl⟩ := map_some (show (keysI _).map (i :: ·) = some ks from e)
      rw [List.map_cons, List.map_cons, kv_keys t e1]
    | inr s => cases e
theorem tv_keys {K : PySem.W.Frag} {G : Hp} : ∀ {kvs : List (List Key × V)} {ds : List (D × D)}, DqTv K G kvs ds → keysI ds = none
  | _, _, .nil => rfl
  | _, _, .cons _ _ => rfl
def sdL : List D → Option (List D)
  | [.dict ds] => (keysI ds).bind fun ks => if ks.length < 64 then some ((isortI ks).map .int) else none
  | _ => none
def rSd : List V → Hp → VK → Prop := fun xs H Q => ∃ (a : Addr) (kvs : List (Key × V)) (ks : List Int), xs = [.ref a] ∧ Rd H a (.dK kvs) ∧ kvs.map (·.1) = ks.map Sum.inl ∧ ks.length < 64 ∧
    ∀ (ys : List Int) (p : Addr), ys.Perm ks → ys.Pairwise (· ≤ ·) → H p = none → Q (.ref p) (upd H p (.lst (ys.map V.int)))
theorem opc_sd {K : PySem.W.Frag} {B : Bs} : OpCL K B rSd sdL := fun ρ σ H O vs ds zs R a e Q q => by
  unfold sdL at e
  split at e
  · rename_i es
    obtain ⟨ks, e1, e⟩ := bind_some e
    split at e
    · rename_i hl
      cases e
      obtain ⟨v, rfl, b⟩ := bo1 a
      have key : ∃ l kvs, v = .ref l ∧ H l = some (.dK kvs) ∧ kvs.map (·.1) = ks.map Sum.inl := by
        rcases b with b | ⟨_, _, _, _, h, _⟩ | ⟨l, o, tt, des, rfl, hd, _, hlo, hob⟩
        · cases b with
          | dic h t => exact ⟨_, _, rfl, (of_hid h).2, kv_keys t e1⟩
          | dct h t => rw [tv_keys t] at e1; cases e1
          | ins h _ t => cases e1
        · cases h
        · injection hd with hd
          rcases hob with ⟨rfl, vs', rfl, t⟩ | ⟨rfl, vs', rfl, t⟩
          · have hd : es = des := hd
            subst hd
            exact ⟨l, vs', rfl, hlo, kv_keys t e1⟩
          · have hd : es = des ++ [mark] := hd
            rw [hd, tv_keys t] at e1; cases e1
      obtain ⟨l, kvs, rfl, h1, h2⟩ := key
      refine ⟨l, kvs, ks, rfl, .inl h1, h2, hl, fun ys p pm so np => ?_⟩
      have ey : ys = isortI ks := sorted_one (pm.trans (isortI_perm ks).symm) so (isortI_sorted ks)
      subst ey
      exact q p _ _ (same_new _ np) np upd_same (DqAll.map (fun x => .int x) _)
    · cases e
  · cases e
theorem l_sd {X : Cx} {B : Bs} {e : Expr} {te : TE} {f : En → Option D} {p1 q1 : Pos} (hc : X.calm = true) (m1 : X.mg "sorted" = none) (h : XB X B e te f) (g1 : Gl X "sorted" := by rfl)
    (a1 : starEach [e] X.env = (false, eval e X.env) :: starEach [] X.env := by rfl) :
    XL X B (.Call (.Name "sorted" p1) [e] [] q1) (tCB rSd (tCons te tNil)) (eCall sdL (aCons f aNil)) :=
  ⟨pe_callB (call_sortedDI hc) g1 m1 PyProof.Rows.boot_sorted (pa_cons h.pe pa_nil a1) (by decide) (by decide) a1, dl_cb opc_sd (dab_cons h.de dab_nil)⟩
/-! a made instance stored in an instance in the making -/
theorem ObA.setM {K : PySem.W.Frag} {C C' p dx : Addr} {H0 H : Hp} {fds : List (D × D)} {O : List Addr} (o : ObA K C p dx H0 fds H) {nm : Str} {n : Nat} {g : List D → Option D} {ta : TA} {ρ : En} {ds : List D} {d : D} {σ : L2.St} {E : Ends} {x : Str} (T : Cls K C) (nx : NoAttr K C x) (hl : fds.length < 1000) (hx : look (.inl (.inr x)) fds = none) (hσ : σ[0]? = some (some (.ref p)))
    (hc : clsOf K nm = some C') (hn : ∀ ds, g ds ≠ none → ds.length = n) (ha : ∀ Q : List V → Hp → Prop, (∀ vs H', Same H H' → DqAll K (hid H' O) vs ds → Q vs H') → ta σ H Q) (R : RS K (Bk K H O) ρ σ H O) (eg : g ds = some d)
    (k : ∀ H', ObA K C p dx H0 (fds ++ [(.str x, d)]) H' → E.nx σ H') : sFld K (tVar 0) (tMakeN K nm n g ta) x E σ H := by
  refine ⟨C', hc, ha _ fun vs H1 s y => ?_⟩
  intro q dq nq nd ne
  have S1 : Same H1 (upd (upd H1 dq (.own q)) q (.ins C' dq [])) := fun b u z => by rw [upd_ne (ne_of_none z nq), upd_ne (ne_of_none z nd)]; exact z
  have S : Same H (upd (upd H1 dq (.own q)) q (.ins C' dq [])) := s.trans S1
  have mu : Muts (upd (upd H1 dq (.own q)) q (.ins C' dq [])) O := fun b hb => let ⟨u, z, m⟩ := R.mu b hb; ⟨u, S _ _ z, m⟩
  have nqH : H q = none := by
    cases z : H q with
    | none => rfl
    | some u => rw [s _ _ z] at nq; cases nq
  refine ⟨q, dq, vs, by rw [List.append_nil], by rw [y.length]; exact hn ds (by rw [eg]; simp), upd_same, O, ds, d, mu, R.fresh nqH, DqAll.mono ((hid_grow (same_new _ nd)).trans (hid_new _ (by rw [upd_ne ne.symm]; exact nq))) _ _ y, eg, fun H' sm hd => ⟨rfl, ?_⟩⟩
  have SH : Same H H' := fun b u z => sm b u (fun w => by rw [List.mem_singleton.mp w, nqH] at z; cases z) (S b u z)
  have o' := o.grow SH
  obtain ⟨fs, h1, h2⟩ := o'.st
  refine ⟨_, hσ, p, C, dx, fs, rfl, h1, T, nx, by rw [fs_len (h2 [] Muts.nil)]; exact hl, k _ (o'.put h1 hx fun O2 mu2 => hd (p :: O2) (fun b hb => ?_) fun w => ?_)⟩
  · obtain ⟨u, z, m⟩ := o.muts mu2 b hb
    exact ⟨u, S _ _ z, m⟩
  · obtain ⟨u, z, _⟩ := o.muts mu2 q w
    rw [nqH] at z; cases z
end Z

set_option Elab.async false
set_option maxRecDepth 100000
set_option maxHeartbeats 4000000
set_option linter.all false
/-! ZY: sorted(set(a list of numbers)) -/
namespace Z
open PySem PySem.Spec PyProof.Rows L2
/-- a set's payload of just these numbers -/
def IntO (w : World) (us : List Int) (o : Obj) : Prop := us.Nodup ∧ ∃ F : Int → Bool, (∀ k, F k = true ↔ k ∈ us) ∧ ∀ (h : Heap) (a : Addr), h.get? a = some o → SetR w h a F us.length
section
variable {P : Program} {w : World} {A : Around} {E : Value → Shared → Prop} {s : Shared}
theorem int_at : ∀ {vs : List Value} {ks : List Int}, IntsAre vs ks → ∀ (i : Nat) (v : Value), vs[i]? = some v → ∃ k t, v = .int k t ∧ ks[i]? = some k
  | _, _, .nil, i, v, h => by simp at h
  | _, _, .cons n t hr, 0, v, h => by
    simp at h
    exact ⟨n, t, h.symm, rfl⟩
  | _, _, .cons n t hr, i + 1, v, h => by
    simp only [List.getElem?_cons_succ] at h
    obtain ⟨k, t', e, e2⟩ := int_at hr i v h
    exact ⟨k, t', e, by rw [List.getElem?_cons_succ]; exact e2⟩
theorem setR_obj {h : Heap} {a : Addr} {F : Int → Bool} {n : Nat} {o : Obj} (ho : h.get? a = some o) (R : SetR w h a F n) : ∀ (h' : Heap) (b : Addr), h'.get? b = some o → SetR w h' b F n := fun h' b hb => by
  obtain ⟨o', es, ep, t, ho', r⟩ := R
  rw [ho] at ho'
  cases ho'
  exact ⟨o, es, ep, t, hb, r⟩
theorem int_steps {S : Addr} {n0 : Nat} {base : Heap} {its : List Value} {ks : List Int} (hv : IntsAre its ks) (hl : ks.length + 1 < scanBound) : Steps P w S n0 base its fun i o => ∃ us, IntO w us o ∧ ∀ k, k ∈ us ↔ k ∈ ks.take i := by
  rintro A E s i v o Q - - hi ho ⟨us, ⟨nd, F, hF, hR⟩, hm⟩ - q
  obtain ⟨k, u, rfl, hk⟩ := int_at hv i v hi
  have hil : i < ks.length := (List.getElem?_eq_some_iff.mp hk).1
  have ht : ks.take (i + 1) = ks.take i ++ [k] := by rw [List.take_add_one, hk]; rfl
  have hul : us.length ≤ i := by
    have h1 := nodup_le nd (D := ks.take i) fun x hx => (hm x).mp hx
    have h2 : (ks.take i).length ≤ i := by rw [List.length_take]; omega
    omega
  have R := hR s.heap S ho
  unfold setAdd
  refine wpAny_holding (wpAny_bind ((intKind P w).pyHash (intKind_is P w k u) ?_))
  refine setR_add_hashed (s := { s with toks := s.toks + 1 }) R (by omega) fun h' sb r => ?_
  obtain ⟨o', es, ep, t, ho', r'⟩ := id r
  refine q _ h' (s.toks + 1) o' (Nat.le_succ _) ho' ⟨if k ∈ us then us else k :: us, ⟨?_, fun j => F j || decide (j = k), fun j => ?_, ?_⟩, fun j => ?_⟩ sb
  · split
    · exact nd
    · rename_i h; exact List.nodup_cons.mpr ⟨h, nd⟩
  · rw [Bool.or_eq_true, hF j, decide_eq_true_eq]
    split
    · rename_i h
      exact ⟨fun z => z.elim id fun z => z ▸ h, .inl⟩
    · rw [List.mem_cons]; exact ⟨fun z => z.elim .inr .inl, fun z => z.elim .inr .inl⟩
  · have e : (if k ∈ us then us else k :: us).length = if F k = true then us.length else us.length + 1 := by
      by_cases h : k ∈ us
      · rw [if_pos h, if_pos ((hF k).mpr h)]
      · rw [if_neg h, if_neg (fun z => h ((hF k).mp z)), List.length_cons]
    rw [e]
    exact setR_obj ho' r
  · rw [ht, List.mem_append, List.mem_singleton]
    split
    · rename_i h
      rw [hm j]
      exact ⟨.inl, fun z => z.elim id fun z => by rw [z]; exact (hm k).mp h⟩
    · rw [List.mem_cons, hm j]; exact ⟨fun z => z.elim .inr .inl, fun z => z.elim .inr .inl⟩
theorem int_fresh : IntO w [] (newSetObj w) := by
  refine ⟨List.nodup_nil, fun _ => false, fun k => by simp, fun h a ha => ?_⟩
  have R := setR_fresh (h := h) w
  exact setR_obj (Heap.get?_push_size h rfl) R h a ha
def SetIn (w : World) (a : Addr) (us : List Int) : HO := .ext fun h => ∃ o, h.get? a = some o ∧ IntO w us o
end
section
variable {X : Cx}
def rSetIn (K : PySem.W.Frag) (w : World) : List V → Hp → VK → Prop := fun xs H Q => ∃ (l : Addr) (ks : List Int), xs = [V.ref l] ∧ SqL K H l (ks.map V.int) ∧ ks.length < 4000 ∧ ∀ p us, H p = none → us.Nodup → (∀ k, k ∈ us ↔ k ∈ ks) → Q (.ref p) (upd H p (SetIn w p us))
theorem cr_setIn (hc : X.calm = true) : CallR X (.type "set") (rSetIn X.K X.w) := by
  intro pins s σ H xs us Q I r h
  obtain ⟨l, ks, rfl, hs, hz, q⟩ := h
  obtain ⟨its, rv, hl, _⟩ := I.list hs
  rw [Vals.ref1 r]
  have rs := rv.ints
  have e1 : its.length = ks.length := IntsAre.length rs
  refine call_set_gen (I.ok.hd hc) hl.isList ⟨[], int_fresh, fun k => by simp⟩ (int_steps (P := X.prog) (w := X.w) rs (by show _ < 4096; omega)) fun h' tk o ho hJ hk => ?_
  obtain ⟨us, T, hm⟩ := hJ
  rw [e1, List.take_length] at hm
  have new : ObjOk X.prog X.w (upd H s.heap.objs.size (SetIn X.w s.heap.objs.size us)) h' s.heap.objs.size (SetIn X.w s.heap.objs.size us) := ⟨⟨o, ho, T⟩, ⟨o, ho⟩, fun h1 h2 p k => let ⟨o, a, b⟩ := p; ⟨o, k _ a, b⟩⟩
  exact ⟨.ref _, upd H s.heap.objs.size (SetIn X.w s.heap.objs.size us), I.laid (t' := tk) hk (Nat.le_refl _) new, rfl, q _ us (I.hok.fresh (Nat.le_refl _)) T.1 hm⟩
def rSortIn (w : World) : List V → Hp → VK → Prop := fun vs H Q => ∃ (a : Addr) (us : List Int), vs = [V.ref a] ∧ H a = some (SetIn w a us) ∧ us.length < 64 ∧ ∀ (ys : List Int) (p : Addr), ys.Pairwise (· < ·) → (∀ k, k ∈ ys ↔ k ∈ us) → H p = none → Q (.ref p) (upd H p (.lst (ys.map V.int)))
theorem cr_sortIn (hc : X.calm = true) : CallR X (.builtin "sorted") (rSortIn X.w) := by
  intro pins s σ H vs rs Q I r h
  obtain ⟨a, us, rfl, ha, hz, q⟩ := h
  obtain ⟨o, ho, T⟩ := (I.hok a _ ha).1
  rw [Vals.ref1 r]
  obtain ⟨nd, F, hF, hR⟩ := T
  refine sorted_set (hR _ _ ho) (I.ok.hd hc) hz fun s' p out c ys k g os hp hg hi so hm hn' => ?_
  have hl : (ys.map V.int).length ≤ sizeLine := by rw [List.length_map, hn', sizeLine_eq]; omega
  have hn : H p = none := I.hok.fresh hp
  have J : Inv X pins σ (upd H p (.lst (ys.map V.int))) { s with heap := s'.heap, gens := s'.gens, drawn := s'.drawn, toks := s'.toks } :=
    I.call (ch := []) (Un.laid k hp hn) (I.hok.laid k hp ⟨hl, out.toList, c, vals_of_ints hi, hg⟩) (by rw [g]; exact I.bare) (fun _ z => nomatch z)
  have e : s' = { s with heap := s'.heap, gens := s'.gens, drawn := s'.drawn, toks := s'.toks } := by
    obtain ⟨_, _, _, _, _⟩ := s'
    cases os; rfl
  rw [e]
  exact ⟨.ref p, _, J, rfl, q ys p so (fun k => (hm k).trans (hF k)) hn⟩
end
/-! as data -/
def insU (k : Int) : List Int → List Int
  | [] => [k]
  | x :: xs => if k < x then k :: x :: xs else if k = x then x :: xs else x :: insU k xs
def usort : List Int → List Int
  | [] => []
  | x :: xs => insU x (usort xs)
theorem insU_mem (k j : Int) : ∀ xs, j ∈ insU k xs ↔ j = k ∨ j ∈ xs
  | [] => by unfold insU; rw [List.mem_singleton]; simp
  | x :: xs => by
    unfold insU
    split
    · rw [List.mem_cons]
    · split
      · rename_i e
        rw [List.mem_cons, e]
        exact ⟨.inr, fun z => z.elim .inl id⟩
      · rw [List.mem_cons, List.mem_cons, insU_mem k j xs]
        exact ⟨fun z => z.elim (fun h => .inr (.inl h)) fun z => z.elim .inl fun h => .inr (.inr h), fun z => z.elim (fun h => .inr (.inl h)) fun z => z.elim .inl fun h => .inr (.inr h)⟩
theorem insU_inc (k : Int) : ∀ {xs : List Int}, xs.Pairwise (· < ·) → (insU k xs).Pairwise (· < ·)
  | [], _ => List.pairwise_singleton _ _
  | x :: xs, h => by
    have h2 := List.pairwise_cons.mp h
    unfold insU
    split
    · rename_i hk
      exact List.pairwise_cons.mpr ⟨fun y hy => by
        rcases List.mem_cons.mp hy with rfl | hy
        · exact hk
        · exact Int.lt_trans hk (h2.1 y hy), h⟩
    · split
      · exact h
      · rename_i h3 h4
        refine List.pairwise_cons.mpr ⟨fun y hy => ?_, insU_inc k h2.2⟩
        rcases (insU_mem k y xs).mp hy with rfl | hy
        · omega
        · exact h2.1 y hy
theorem usort_mem (j : Int) : ∀ xs, j ∈ usort xs ↔ j ∈ xs
  | [] => Iff.rfl
  | x :: xs => by
    show j ∈ insU x (usort xs) ↔ _
    rw [insU_mem, usort_mem j xs, List.mem_cons]
theorem usort_inc : ∀ xs, (usort xs).Pairwise (· < ·)
  | [] => List.Pairwise.nil
  | x :: xs => insU_inc x (usort_inc xs)
theorem inc_one : ∀ {xs ys : List Int}, xs.Pairwise (· < ·) → ys.Pairwise (· < ·) → (∀ k, k ∈ xs ↔ k ∈ ys) → xs = ys
  | [], [], _, _, _ => rfl
  | [], y :: ys, _, _, h => by have := (h y).mpr List.mem_cons_self; cases this
  | x :: xs, [], _, _, h => by have := (h x).mp List.mem_cons_self; cases this
  | x :: xs, y :: ys, p, q, h => by
    obtain ⟨p1, p2⟩ := List.pairwise_cons.mp p
    obtain ⟨q1, q2⟩ := List.pairwise_cons.mp q
    have e : x = y := by
      have a : x = y ∨ y < x := by
        rcases List.mem_cons.mp ((h x).mp List.mem_cons_self) with z | z
        · exact .inl z
        · exact .inr (q1 x z)
      have b : y = x ∨ x < y := by
        rcases List.mem_cons.mp ((h y).mpr List.mem_cons_self) with z | z
        · exact .inl z
        · exact .inr (p1 y z)
      omega
    subst e
    rw [inc_one p2 q2 fun z => ⟨fun hz => by
      rcases List.mem_cons.mp ((h z).mp (List.mem_cons_of_mem _ hz)) with k | k
      · have := p1 z hz; omega
      · exact k, fun hz => by
      rcases List.mem_cons.mp ((h z).mpr (List.mem_cons_of_mem _ hz)) with k | k
      · have := q1 z hz; omega
      · exact k⟩]
def siL (ds : List D) : Option (List D) := (allI ds).bind fun ks => if ks.length < 4000 ∧ (usort ks).length < 64 then some ((usort ks).map .int) else none
def lSi (fl : En → Option (List D)) : En → Option (List D) := fun ρ => (fl ρ).bind siL
theorem dl_si {K : PySem.W.Frag} {B : Bs} {w : World} {te : TE} {fl : En → Option (List D)} (h : DL K B te fl) : DL K B (tCB (rSortIn w) (tCons (tCB (rSetIn K w) (tCons te tNil)) tNil)) (lSi fl) := fun ρ σ H O zs R e Q q => by
  obtain ⟨ds, h1, e⟩ := bind_some e
  obtain ⟨ks, e1, e⟩ := bind_some e
  split at e
  · rename_i c
    cases e
    refine h ρ σ H O _ R h1 _ fun l vs H1 s n hl x => ?_
    rw [allI_some e1] at x
    have ev := DqAll.ints x
    subst ev
    refine ⟨l, ks, rfl, SqL.of hl, c.1, fun p us hp nd hm => ?_⟩
    have s1 := s.trans (same_new (SetIn w p us) hp)
    refine ⟨p, us, rfl, upd_same, ?_, fun ys p3 so hy hp3 => ?_⟩
    · have := nodup_le nd (D := usort ks) fun k hk => (usort_mem k ks).mpr ((hm k).mp hk)
      omega
    · have s2 := s1.trans (same_new (.lst (ys.map V.int)) hp3)
      have ey : ys = usort ks := inc_one so (usort_inc ks) fun k => ((hy k).trans (hm k)).trans (usort_mem k ks).symm
      subst ey
      exact q p3 _ _ s2 (s1.free hp3) upd_same (DqAll.map (fun x => .int x) _)
  · cases e
theorem l_si {X : Cx} {B : Bs} {e : Expr} {te : TE} {fl : En → Option (List D)} {p1 p2 q1 q2 : Pos} (hc : X.calm = true) (m1 : X.mg "sorted" = none) (m2 : X.mg "set" = none) (h : XL X B e te fl) (g1 : Gl X "sorted" := by rfl) (g2 : Gl X "set" := by rfl)
    (a1 : starEach [.Call (.Name "set" p2) [e] [] q2] X.env = (false, eval (.Call (.Name "set" p2) [e] [] q2) X.env) :: starEach [] X.env := by rfl) (a2 : starEach [e] X.env = (false, eval e X.env) :: starEach [] X.env := by rfl) (hk : X.K = B.K := by rfl) :
    XL X B (.Call (.Name "sorted" p1) [.Call (.Name "set" p2) [e] [] q2] [] q1) (tCB (rSortIn X.w) (tCons (tCB (rSetIn B.K X.w) (tCons te tNil)) tNil)) (lSi fl) :=
  ⟨hk ▸ pe_callB (cr_sortIn hc) g1 m1 PyProof.Rows.boot_sorted (pa_cons (pe_callTy (cr_setIn hc) g2 m2 PyProof.Rows.boot_set (pa_cons h.pe pa_nil a2) (by decide) (by decide) a2) pa_nil a1) (by decide) (by decide) a1, dl_si h.de⟩
/-! list(range(n)) -/
def lRg (f : En → Option D) : En → Option (List D) := fun ρ => match f ρ with
  | some (.int b) => if 0 ≤ b ∧ b ≤ 1000000 then some ((List.range b.toNat).map fun i : Nat => .int (i : Int)) else none
  | _ => none
theorem rgV_0 (b : Int) : rgV 0 b = ((List.range b.toNat).map fun i : Nat => (i : Int)).map V.int := by
  unfold rgV
  rw [Int.sub_zero, List.map_map]
  refine List.map_congr_left fun i _ => ?_
  show V.int (0 + (i : Int)) = V.int (i : Int)
  rw [Int.zero_add]
theorem dl_rg {K : PySem.W.Frag} {B : Bs} {te : TE} {f : En → Option D} (h : DE K B te f) : DL K B (tLstRg (tRg1 te)) (lRg f) := fun ρ σ H O zs R e Q q => by
  unfold lRg at e
  split at e
  · rename_i b e1
    split at e
    · rename_i c
      cases e
      refine h ρ σ H O _ R e1 _ fun v H1 s x => ?_
      cases x
      refine ⟨b, rfl, RgOk.of_le (by omega) (by omega) (by omega) (by omega), fun p hp => ?_⟩
      have e2 : ((List.range b.toNat).map fun i : Nat => PyData.int (i : Int)) = ((List.range b.toNat).map fun i : Nat => (i : Int)).map PyData.int := by rw [List.map_map]; rfl
      rw [e2] at q
      refine q p _ _ (s.trans (same_new _ hp)) (s.free hp) upd_same ?_
      rw [rgV_0]
      exact DqAll.map (fun x => .int x) _
    · cases e
  · cases e
theorem l_lrg {X : Cx} {B : Bs} {e : Expr} {te : TE} {f : En → Option D} {p1 p2 q1 q2 : Pos} (hc : X.calm = true) (m1 : X.mg "list" = none) (m2 : X.mg "range" = none) (h : XE X B e te f) (g1 : Gl X "list" := by rfl) (g2 : Gl X "range" := by rfl)
    (a1 : starEach [.Call (.Name "range" p2) [e] [] q2] X.env = (false, eval (.Call (.Name "range" p2) [e] [] q2) X.env) :: starEach [] X.env := by rfl) (a2 : starEach [e] X.env = (false, eval e X.env) :: starEach [] X.env := by rfl) :
    XL X B (.Call (.Name "list" p1) [.Call (.Name "range" p2) [e] [] q2] [] q1) (tLstRg (tRg1 te)) (lRg f) :=
  ⟨pe_listRg hc g1 m1 (prg_1 g2 m2 h.pe a2) a1, dl_rg h.de⟩
end Z

set_option Elab.async false
set_option maxRecDepth 100000
set_option maxHeartbeats 4000000
set_option linter.all false
/-! Z8: the operations' values, for simp -/
namespace Z
open PySem PySem.Spec PyProof.Rows L2
section
variable {i j : Int} {n : Nat} {x y : Str} {a b : Bool} {ds es : List D}
theorem add_ii : addD (.int i) (.int j) = some (.int (i + j)) := rfl
theorem add_ss (h : x.length + y.length ≤ 1000000) : addD (.str x) (.str y) = some (.str (x ++ y)) := if_pos h
theorem add_tt (h2 : ds.length + es.length ≤ 1000000) : addD (.tuple ds) (.tuple es) = some (.tuple (ds ++ es)) := if_pos h2
theorem sub_ii : subD (.int i) (.int j) = some (.int (i - j)) := rfl
theorem mul_l (h : -18446744073709551616 < i ∧ i < 18446744073709551616) : mulD (.int i) (.int j) = some (.int (i * j)) := if_pos (.inl h)
theorem mul_r (h : -18446744073709551616 < j ∧ j < 18446744073709551616) : mulD (.int i) (.int j) = some (.int (i * j)) := if_pos (.inr h)
theorem div_ii (h : 0 < j ∧ j < 18446744073709551616) : divD (.int i) (.int j) = some (.int (i / j)) := if_pos h
theorem mod_ii (h : 0 < j) : modD (.int i) (.int j) = some (.int (i % j)) := if_pos h
theorem pow_ii (h : 0 ≤ j ∧ j ≤ 1000 ∧ -18446744073709551616 < i ∧ i < 18446744073709551616) : powD (.int i) (.int j) = some (.int (i ^ j.toNat)) := if_pos h
theorem lt_ii : ltD (.int i) (.int j) = some (.bool (decide (i < j))) := rfl
theorem le_ii : leD (.int i) (.int j) = some (.bool (decide (i ≤ j))) := rfl
theorem gt_ii : gtD (.int i) (.int j) = some (.bool (decide (j < i))) := rfl
theorem ge_ii : geD (.int i) (.int j) = some (.bool (decide (j ≤ i))) := rfl
theorem eq_ii : eqD n (.int i) (.int j) = some (.bool (decide (i = j))) := by
  unfold eqD eqOk; simp only [scD, Bool.true_or, if_true, PyData.eqv]
  rw [Bool.beq_eq_decide_eq]
theorem eq_bb : eqD n (.bool a) (.bool b) = some (.bool (decide (a = b))) := by
  unfold eqD eqOk; simp only [scD, Bool.true_or, if_true, PyData.eqv]
  rw [Bool.beq_eq_decide_eq]
theorem eq_ss : eqD n (.str x) (.str y) = some (.bool (decide (x = y))) := by
  unfold eqD eqOk; simp only [scD, Bool.true_or, if_true, PyData.eqv]
  rw [Bool.beq_eq_decide_eq]
theorem ne_ii : neD n (.int i) (.int j) = some (.bool (!decide (i = j))) := by
  unfold neD eqOk; simp only [scD, Bool.true_or, if_true, PyData.eqv]
  rw [Bool.beq_eq_decide_eq]
theorem ne_ss : neD n (.str x) (.str y) = some (.bool (!decide (x = y))) := by
  unfold neD eqOk; simp only [scD, Bool.true_or, if_true, PyData.eqv]
  rw [Bool.beq_eq_decide_eq]
theorem len_l : lenD [.list ds] = some (.int ds.length) := rfl
theorem len_t : lenD [.tuple ds] = some (.int ds.length) := rfl
theorem len_s (h : x.length ≤ 1000000) : lenD [.str x] = some (.int x.length) := if_pos h
theorem int_i : intD [.int i] = some (.int i) := rfl
theorem int_b : intD [.bool b] = some (.int (if b = true then 1 else 0)) := rfl
theorem min_ii : minD [.int i, .int j] = some (.int (min i j)) := rfl
theorem max_ii : maxD [.int i, .int j] = some (.int (max i j)) := rfl
theorem tup_l : tupD [.list ds] = some (.tuple ds) := rfl
theorem tup_t : tupD [.tuple ds] = some (.tuple ds) := rfl
theorem list_l : listL [.list ds] = some ds := rfl
theorem list_t : listL [.tuple ds] = some ds := rfl
theorem neg_i : negD (.int i) = some (.int (-i)) := rfl
theorem not_b : notD (.bool b) = some (.bool (!b)) := rfl
theorem isN_n : isND false .none .none = some (.bool true) := rfl
theorem isN_i : isND false (.int i) .none = some (.bool false) := rfl
theorem isN_s : isND false (.str x) .none = some (.bool false) := rfl
theorem isN_b : isND false (.bool b) .none = some (.bool false) := rfl
theorem isN_t : isND false (.tuple ds) .none = some (.bool false) := rfl
theorem isN_l : isND false (.list ds) .none = some (.bool false) := rfl
theorem notN_n : isND true .none .none = some (.bool false) := rfl
theorem notN_i : isND true (.int i) .none = some (.bool true) := rfl
theorem notN_s : isND true (.str x) .none = some (.bool true) := rfl
theorem notN_b : isND true (.bool b) .none = some (.bool true) := rfl
theorem notN_t : isND true (.tuple ds) .none = some (.bool true) := rfl
theorem notN_l : isND true (.list ds) .none = some (.bool true) := rfl
theorem isB : isND false (.bool a) (.bool b) = some (.bool (decide (a = b))) := by show some (PyData.bool (decide (a = b) != false)) = _; rw [Bool.bne_false]
theorem notB : isND true (.bool a) (.bool b) = some (.bool (!decide (a = b))) := by show some (PyData.bool (decide (a = b) != true)) = _; rw [Bool.bne_true]
theorem isi_i_int : isiD "int" (.int i) = some (.bool true) := by unfold isiD tyD; rw [kit_int_int]; rfl
theorem isi_b_int : isiD "int" (.bool b) = some (.bool true) := by unfold isiD tyD; rw [kit_bool_int]; rfl
theorem isi_s_int : isiD "int" (.str x) = some (.bool false) := by unfold isiD tyD; rw [kit_str_int]; rfl
theorem isi_t_int : isiD "int" (.tuple ds) = some (.bool false) := by unfold isiD tyD; rw [kit_tuple_int]; rfl
theorem isi_l_int : isiD "int" (.list ds) = some (.bool false) := by unfold isiD tyD; rw [kit_list_int]; rfl
theorem isi_n_int : isiD "int" .none = some (.bool false) := by unfold isiD tyD; rw [kit_non_int]; rfl
theorem isi_i_bool : isiD "bool" (.int i) = some (.bool false) := by unfold isiD tyD; rw [kit_int_bool]; rfl
theorem isi_b_bool : isiD "bool" (.bool b) = some (.bool true) := by unfold isiD tyD; rw [kit_bool_bool]; rfl
theorem isi_s_bool : isiD "bool" (.str x) = some (.bool false) := by unfold isiD tyD; rw [kit_str_bool]; rfl
theorem isi_t_bool : isiD "bool" (.tuple ds) = some (.bool false) := by unfold isiD tyD; rw [kit_tuple_bool]; rfl
theorem isi_l_bool : isiD "bool" (.list ds) = some (.bool false) := by unfold isiD tyD; rw [kit_list_bool]; rfl
theorem isi_n_bool : isiD "bool" .none = some (.bool false) := by unfold isiD tyD; rw [kit_non_bool]; rfl
theorem isi_i_str : isiD "str" (.int i) = some (.bool false) := by unfold isiD tyD; rw [kit_int_str]; rfl
theorem isi_b_str : isiD "str" (.bool b) = some (.bool false) := by unfold isiD tyD; rw [kit_bool_str]; rfl
theorem isi_s_str : isiD "str" (.str x) = some (.bool true) := by unfold isiD tyD; rw [kit_str_str]; rfl
theorem isi_t_str : isiD "str" (.tuple ds) = some (.bool false) := by unfold isiD tyD; rw [kit_tuple_str]; rfl
theorem isi_l_str : isiD "str" (.list ds) = some (.bool false) := by unfold isiD tyD; rw [kit_list_str]; rfl
theorem isi_n_str : isiD "str" .none = some (.bool false) := by unfold isiD tyD; rw [kit_non_str]; rfl
theorem isi_i_tuple : isiD "tuple" (.int i) = some (.bool false) := by unfold isiD tyD; rw [kit_int_tuple]; rfl
theorem isi_b_tuple : isiD "tuple" (.bool b) = some (.bool false) := by unfold isiD tyD; rw [kit_bool_tuple]; rfl
theorem isi_s_tuple : isiD "tuple" (.str x) = some (.bool false) := by unfold isiD tyD; rw [kit_str_tuple]; rfl
theorem isi_t_tuple : isiD "tuple" (.tuple ds) = some (.bool true) := by unfold isiD tyD; rw [kit_tuple_tuple]; rfl
theorem isi_l_tuple : isiD "tuple" (.list ds) = some (.bool false) := by unfold isiD tyD; rw [kit_list_tuple]; rfl
theorem isi_n_tuple : isiD "tuple" .none = some (.bool false) := by unfold isiD tyD; rw [kit_non_tuple]; rfl
theorem isi_i_list : isiD "list" (.int i) = some (.bool false) := by unfold isiD tyD; rw [kit_int_list]; rfl
theorem isi_b_list : isiD "list" (.bool b) = some (.bool false) := by unfold isiD tyD; rw [kit_bool_list]; rfl
theorem isi_s_list : isiD "list" (.str x) = some (.bool false) := by unfold isiD tyD; rw [kit_str_list]; rfl
theorem isi_t_list : isiD "list" (.tuple ds) = some (.bool false) := by unfold isiD tyD; rw [kit_tuple_list]; rfl
theorem isi_l_list : isiD "list" (.list ds) = some (.bool true) := by unfold isiD tyD; rw [kit_list_list]; rfl
theorem isi_n_list : isiD "list" .none = some (.bool false) := by unfold isiD tyD; rw [kit_non_list]; rfl
end
section
variable {lo hi : Option Int} {ds : List D} {x : Str}
theorem sl_t : slD (.tuple ds) lo hi = some (.tuple (cutD ds lo hi)) := rfl
theorem sl_l : slD (.list ds) lo hi = some (.list (cutD ds lo hi)) := rfl
theorem sl_s (h : x.length ≤ 1000000) : slD (.str x) lo hi = some (.str (cutS x lo hi)) := if_pos h
theorem slL_l : slL (.list ds) lo hi = some (cutD ds lo hi) := rfl
theorem cut_lo {α : Type} {xs : List α} {i : Int} (h : 0 ≤ i) : cutD xs (some i) none = xs.drop i.toNat := by
  have e : HT.sIx xs.length 0 (some i) = min i.toNat xs.length := by
    have := HT.sIx_nat xs.length 0 i.toNat
    rw [Int.toNat_of_nonneg h] at this
    exact this
  unfold cutD
  rw [e, HT.sIx_none, List.take_of_length_le (by rw [List.length_drop]; omega)]
  by_cases q : i.toNat ≤ xs.length
  · rw [Nat.min_eq_left q]
  · rw [Nat.min_eq_right (by omega), List.drop_length, List.drop_eq_nil_of_le (by omega)]
theorem cut_hi {α : Type} {xs : List α} {i : Int} (h : 0 ≤ i) : cutD xs none (some i) = xs.take i.toNat := by
  have e : HT.sIx xs.length xs.length (some i) = min i.toNat xs.length := by
    have := HT.sIx_nat xs.length xs.length i.toNat
    rw [Int.toNat_of_nonneg h] at this
    exact this
  unfold cutD
  rw [e, HT.sIx_none, List.drop_zero, Nat.sub_zero]
  by_cases q : i.toNat ≤ xs.length
  · rw [Nat.min_eq_left q]
  · rw [Nat.min_eq_right (by omega), List.take_length, List.take_of_length_le (by omega)]
theorem cut_lh {α : Type} {xs : List α} {i j : Int} (h : 0 ≤ i) (h' : 0 ≤ j) : cutD xs (some i) (some j) = (xs.drop i.toNat).take (j.toNat - i.toNat) := by
  have e : HT.sIx xs.length 0 (some i) = min i.toNat xs.length := by
    have := HT.sIx_nat xs.length 0 i.toNat
    rw [Int.toNat_of_nonneg h] at this
    exact this
  have e2 : HT.sIx xs.length xs.length (some j) = min j.toNat xs.length := by
    have := HT.sIx_nat xs.length xs.length j.toNat
    rw [Int.toNat_of_nonneg h'] at this
    exact this
  unfold cutD
  rw [e, e2]
  by_cases q : i.toNat ≤ xs.length
  · rw [Nat.min_eq_left q]
    by_cases r : j.toNat ≤ xs.length
    · rw [Nat.min_eq_left r]
    · rw [Nat.min_eq_right (by omega), List.take_of_length_le (by rw [List.length_drop]; omega), List.take_of_length_le (by rw [List.length_drop]; omega)]
  · rw [Nat.min_eq_right (show xs.length ≤ i.toNat by omega), List.drop_length, List.drop_eq_nil_of_le (show xs.length ≤ i.toNat by omega), List.take_nil, List.take_nil]
theorem cut_nn {α : Type} {xs : List α} : cutD xs none none = xs := by
  unfold cutD
  rw [HT.sIx_none, HT.sIx_none, List.drop_zero, Nat.sub_zero, List.take_length]
end
/-- places -/
theorem atI_nat' {α : Type} {xs : List α} {i : Int} (h0 : 0 ≤ i) (h : i < xs.length) : atI xs i = xs[i.toNat]? := by
  unfold atI ixN
  rw [if_pos h0, if_pos h]; rfl
theorem ix_l {ds : List D} {i : Int} : ixD (.list ds) (.int i) = atI ds i := rfl
theorem ix_t {ds : List D} {i : Int} : ixD (.tuple ds) (.int i) = atI ds i := rfl
theorem atI_0 {α : Type} {a : α} {xs : List α} : atI (a :: xs) 0 = some a := by
  unfold atI ixN
  rw [if_pos (Int.le_refl 0), if_pos (by simp only [List.length_cons]; omega)]; rfl
theorem atI_1 {α : Type} {a b : α} {xs : List α} : atI (a :: b :: xs) 1 = some b := by
  unfold atI ixN
  rw [if_pos (by decide), if_pos (by simp only [List.length_cons]; omega)]; rfl
theorem atI_2 {α : Type} {a b c : α} {xs : List α} : atI (a :: b :: c :: xs) 2 = some c := by
  unfold atI ixN
  rw [if_pos (by decide), if_pos (by simp only [List.length_cons]; omega)]; rfl
theorem atI_3 {α : Type} {a b c d : α} {xs : List α} : atI (a :: b :: c :: d :: xs) 3 = some d := by
  unfold atI ixN
  rw [if_pos (by decide), if_pos (by simp only [List.length_cons]; omega)]; rfl
theorem atI_4 {α : Type} {a b c d e : α} {xs : List α} : atI (a :: b :: c :: d :: e :: xs) 4 = some e := by
  unfold atI ixN
  rw [if_pos (by decide), if_pos (by simp only [List.length_cons]; omega)]; rfl

/-! ### one step at a time -/
def sqK (o : Option Out) (G : En → Option Out) : Option Out := match o with
  | some (.nx ρ) => G ρ
  | o => o
def ifK (o : Option Bool) (F G : En → Option Out) (ρ : En) : Option Out := match o with
  | some true => F ρ
  | some false => G ρ
  | none => none
def rdV : Option (Option SV) → Option D
  | some (some (.ro d)) => some d
  | some (some (.lr ds)) => some (.list ds)
  | _ => none
def rdB : Option (Option SV) → Option D
  | some (some (.ro d)) => some d
  | some (some (.ow ds)) => some (.list ds)
  | some (some (.oK tt kvs)) => some (.dict (tails tt kvs))
  | some (some (.lr ds)) => some (.list ds)
  | _ => none
def rdN : Option (Option SV) → Option (List D)
  | some (some (.ow ds)) => some ds
  | some (some (.lr ds)) => some ds
  | some (some (.ro (.list ds))) => some ds
  | _ => none
def rdM : Option (Option SV) → Option (List D)
  | some (some (.ow ds)) => some ds
  | some (some (.lr ds)) => some ds
  | _ => none
def b1 {α : Type} (g : D → Option α) : Option D → Option α
  | some x => g x
  | none => none
def b2 {α : Type} (g : D → D → Option α) : Option D → Option D → Option α
  | some x, some y => g x y
  | _, _ => none
def b3 {α : Type} (g : D → Option Int → Option Int → Option α) : Option D → Option (Option Int) → Option (Option Int) → Option α
  | some x, some l, some h => g x l h
  | _, _, _ => none
def cnK : Option D → Option (List D) → Option (List D)
  | some d, some ds => some (d :: ds)
  | _, _ => none
def caK {α : Type} (g : List D → Option α) : Option (List D) → Option α
  | some ds => g ds
  | none => none
def tupK : Option (List D) → Option D
  | some ds => if ds.length ≤ 1000000 then some (.tuple ds) else none
  | none => none
def lstK : Option (List D) → Option (List D)
  | some ds => if ds.length ≤ 1000000 then some ds else none
  | none => none
def liK : Option (List D) → Option D
  | some ds => some (.list ds)
  | none => none
def catK : Option (List D) → Option (List D) → Option (List D)
  | some xs, some ys => if xs.length + ys.length ≤ 1000000 then some (xs ++ ys) else none
  | _, _ => none
def oSK : Option D → Option (Option Int)
  | some (.int i) => some (some i)
  | _ => none
def boK : Option D → Option Bool
  | some (.bool b) => some b
  | _ => none
def andK (o : Option D) (g : En → Option D) (ρ : En) : Option D := match o with
  | some (.bool true) => g ρ
  | some (.bool false) => some (.bool false)
  | _ => none
def orK (o : Option D) (g : En → Option D) (ρ : En) : Option D := match o with
  | some (.bool true) => some (.bool true)
  | some (.bool false) => g ρ
  | _ => none
def bAndK (o : Option Bool) (g : En → Option Bool) (ρ : En) : Option Bool := match o with
  | some true => g ρ
  | some false => some false
  | none => none
def bOrK (o : Option Bool) (g : En → Option Bool) (ρ : En) : Option Bool := match o with
  | some true => some true
  | some false => g ρ
  | none => none
def stK (i : Nat) (ρ : En) : Option D → Option Out
  | some d => some (.nx (ρ.set i (some (.ro d))))
  | none => none
def slK (i : Nat) (ρ : En) : Option (List D) → Option Out
  | some d => some (.nx (ρ.set i (some (.ow d))))
  | none => none
def srK (i : Nat) (ρ : En) : Option (List D) → Option Out
  | some d => some (.nx (ρ.set i (some (.lr d))))
  | none => none
def asK (h : D → En → Option En) (ρ : En) : Option D → Option Out
  | some d => (h d ρ).map .nx
  | none => none
def drK (ρ : En) : Option D → Option Out
  | some _ => some (.nx ρ)
  | none => none
def rtK : Option D → Option Out
  | some d => some (.rt d)
  | none => none
def rlK : Option (List D) → Option Out
  | some d => some (.rl d)
  | none => none
def roK : Option (Option SV) → Option Out
  | some (some (.ow ds)) => some (.rl ds)
  | _ => none
def fzK (i : Nat) (F : En → Option Out) (ρ : En) : Option (Option SV) → Option Out
  | some (some (.ow ds)) => F (ρ.set i (some (.lr ds)))
  | _ => F ρ
def apK (i : Nat) (ρ : En) : Option (Option SV) → Option D → Option Out
  | some (some (.ow ds)), some d => if ds.length < 1000000 then some (.nx (ρ.set i (some (.ow (ds ++ [d]))))) else none
  | _, _ => none
def puK (i : Nat) (ρ : En) : Option (Option SV) → Option D → Option D → Option Out
  | some (some (.ow ds)), some d, some (.int k) => (ixN ds.length k).map fun j => .nx (ρ.set i (some (.ow (ds.set j d))))
  | _, _, _ => none
def foK (tg : D → En → Option En) (F : En → Option Out) (ρ : En) : Option (List D) → Option Out
  | some ds => forGo tg F ds ρ
  | none => none
def tgK (F : En → Option Out) (k : En → Option Out) : Option En → Option Out
  | some ρ => afterTurn k (F ρ)
  | none => none
def coK (tg : D → En → Option En) (cond : En → Option Bool) (elt : En → Option D) (ρ : En) : Option (List D) → Option (List D)
  | some ds => if ds.length ≤ 1000000 then compGo tg cond elt ρ ds else none
  | none => none
def wiK (c : En → Option Bool) (F : En → Option Out) (n : Nat) (ρ : En) : Option Bool → Option Out
  | some true => afterTurn (sWhile c F n) (F ρ)
  | some false => some (.nx ρ)
  | none => none
def rvK : Option Out → Option Rv
  | some o => o.rv
  | none => none
section
variable {F G : En → Option Out} {ρ ρ' : En} {f f' : En → Option D} {fl fl' : En → Option (List D)} {c c' : En → Option Bool} {fo fo' : En → Option (Option Int)} {i n m : Nat} {d : D} {ds es : List D} {b : Bool} {h : D → En → Option En} {k : List D → En → Option En}
theorem sSeq_ap : sSeq F G ρ = sqK (F ρ) G := by unfold sSeq sqK; rfl
theorem sqK_nx : sqK (some (.nx ρ')) G = G ρ' := rfl
theorem sqK_rt : sqK (some (.rt d)) G = some (.rt d) := rfl
theorem sqK_rl : sqK (some (.rl ds)) G = some (.rl ds) := rfl
theorem sqK_bk : sqK (some (.bk ρ')) G = some (.bk ρ') := rfl
theorem sqK_ct : sqK (some (.ct ρ')) G = some (.ct ρ') := rfl
theorem sqK_no : sqK none G = none := rfl
theorem sIf_ap : sIf c F G ρ = ifK (c ρ) F G ρ := by
  unfold sIf ifK
  cases c ρ with
  | none => rfl
  | some b => cases b <;> rfl
theorem ifK_t : ifK (some true) F G ρ = F ρ := rfl
theorem ifK_f : ifK (some false) F G ρ = G ρ := rfl
theorem ifK_d {p : Prop} [Decidable p] : ifK (some (decide p)) F G ρ = if p then F ρ else G ρ := by
  by_cases q : p
  · rw [decide_eq_true q, if_pos q]; rfl
  · rw [decide_eq_false q, if_neg q]; rfl
theorem ifK_nd {p : Prop} [Decidable p] : ifK (some (!decide p)) F G ρ = if p then G ρ else F ρ := by
  by_cases q : p
  · rw [decide_eq_true q, if_pos q]; rfl
  · rw [decide_eq_false q, if_neg q]; rfl
theorem sNil_ap : sNil ρ = some (.nx ρ) := rfl
theorem sBk_ap : sBk ρ = some (.bk ρ) := rfl
theorem sCt_ap : sCt ρ = some (.ct ρ) := rfl
theorem sRetN_ap : sRetN ρ = some (.rt .none) := rfl
theorem sBad_ap : sBad ρ = none := rfl
theorem eVar_ap : eVar i ρ = rdV ρ[i]? := by unfold eVar rdV; rfl
theorem bVar_ap : bVar i ρ = rdB ρ[i]? := by unfold bVar rdB; rfl
theorem mVar_ap : mVar i ρ = rdM ρ[i]? := by unfold mVar rdM; rfl
theorem nVar_ap : nVar i ρ = rdN ρ[i]? := by unfold nVar rdN; rfl
theorem rdN_ro : rdN (some (some (.ro (.list ds)))) = some ds := rfl
theorem rdN_lr : rdN (some (some (.lr ds))) = some ds := rfl
theorem rdN_ow : rdN (some (some (.ow ds))) = some ds := rfl
theorem rdV_ro : rdV (some (some (.ro d))) = some d := rfl
theorem rdV_lr : rdV (some (some (.lr ds))) = some (.list ds) := rfl
theorem rdB_ro : rdB (some (some (.ro d))) = some d := rfl
theorem rdB_lr : rdB (some (some (.lr ds))) = some (.list ds) := rfl
theorem rdB_ow : rdB (some (some (.ow ds))) = some (.list ds) := rfl
theorem rdM_lr : rdM (some (some (.lr ds))) = some ds := rfl
theorem rdM_ow : rdM (some (some (.ow ds))) = some ds := rfl
theorem eC_ap : eC d ρ = some d := rfl
theorem e1_ap {α : Type} {g : D → Option α} : e1 g f ρ = b1 g (f ρ) := by unfold e1 b1; cases f ρ <;> rfl
theorem e2_ap {α : Type} {g : D → D → Option α} : e2 g f f' ρ = b2 g (f ρ) (f' ρ) := by unfold e2 b2; cases f ρ <;> cases f' ρ <;> rfl
theorem e3_ap {α : Type} {g : D → Option Int → Option Int → Option α} : e3 g f fo fo' ρ = b3 g (f ρ) (fo ρ) (fo' ρ) := by unfold e3 b3; cases f ρ <;> cases fo ρ <;> cases fo' ρ <;> rfl
theorem b1_s {α : Type} {g : D → Option α} {x : D} : b1 g (some x) = g x := rfl
theorem b2_s {α : Type} {g : D → D → Option α} {x y : D} : b2 g (some x) (some y) = g x y := rfl
theorem b3_s {α : Type} {g : D → Option Int → Option Int → Option α} {x : D} {l h : Option Int} : b3 g (some x) (some l) (some h) = g x l h := rfl
theorem aNil_ap : aNil ρ = some [] := rfl
theorem aCons_ap : aCons f fl ρ = cnK (f ρ) (fl ρ) := by unfold aCons cnK; cases f ρ <;> cases fl ρ <;> rfl
theorem cnK_s : cnK (some d) (some ds) = some (d :: ds) := rfl
theorem eCall_ap {α : Type} {g : List D → Option α} : eCall g fl ρ = caK g (fl ρ) := by unfold eCall caK; cases fl ρ <;> rfl
theorem caK_s {α : Type} {g : List D → Option α} : caK g (some ds) = g ds := rfl
theorem eTup_ap : eTup fl ρ = tupK (fl ρ) := by unfold eTup tupK; cases fl ρ <;> rfl
theorem tupK_s (h : ds.length ≤ 1000000) : tupK (some ds) = some (.tuple ds) := if_pos h
theorem lLst_ap : lLst fl ρ = lstK (fl ρ) := by unfold lLst lstK; cases fl ρ <;> rfl
theorem lstK_s (h : ds.length ≤ 1000000) : lstK (some ds) = some ds := if_pos h
theorem liL_ap : liL fl ρ = liK (fl ρ) := by unfold liL liK; cases fl ρ <;> rfl
theorem liK_s : liK (some ds) = some (.list ds) := rfl
theorem lCat_ap : lCat fl fl' ρ = catK (fl ρ) (fl' ρ) := by unfold lCat catK; cases fl ρ <;> cases fl' ρ <;> rfl
theorem catK_s (h : ds.length + es.length ≤ 1000000) : catK (some ds) (some es) = some (ds ++ es) := if_pos h
theorem oNone_ap : oNone ρ = some none := rfl
theorem oSome_ap : oSome f ρ = oSK (f ρ) := by unfold oSome oSK; rfl
theorem oSK_i {j : Int} : oSK (some (.int j)) = some (some j) := rfl
theorem asB_ap : asB f ρ = boK (f ρ) := by unfold asB boK; rfl
theorem boK_b : boK (some (.bool b)) = some b := rfl
theorem eAnd_ap : eAnd f f' ρ = andK (f ρ) f' ρ := by unfold eAnd andK; rfl
theorem eOr_ap : eOr f f' ρ = orK (f ρ) f' ρ := by unfold eOr orK; rfl
theorem andK_t : andK (some (.bool true)) f ρ = f ρ := rfl
theorem andK_f : andK (some (.bool false)) f ρ = some (.bool false) := rfl
theorem orK_t : orK (some (.bool true)) f ρ = some (.bool true) := rfl
theorem orK_f : orK (some (.bool false)) f ρ = f ρ := rfl
theorem andK_d {p : Prop} [Decidable p] : andK (some (.bool (decide p))) f ρ = if p then f ρ else some (.bool false) := by
  by_cases q : p
  · rw [decide_eq_true q, if_pos q]; rfl
  · rw [decide_eq_false q, if_neg q]; rfl
theorem orK_d {p : Prop} [Decidable p] : orK (some (.bool (decide p))) f ρ = if p then some (.bool true) else f ρ := by
  by_cases q : p
  · rw [decide_eq_true q, if_pos q]; rfl
  · rw [decide_eq_false q, if_neg q]; rfl
theorem bAnd_ap : bAnd c c' ρ = bAndK (c ρ) c' ρ := by
  unfold bAnd bAndK
  cases c ρ with
  | none => rfl
  | some b => cases b <;> rfl
theorem bOr_ap : bOr c c' ρ = bOrK (c ρ) c' ρ := by
  unfold bOr bOrK
  cases c ρ with
  | none => rfl
  | some b => cases b <;> rfl
theorem bAndK_t : bAndK (some true) c ρ = c ρ := rfl
theorem bAndK_f : bAndK (some false) c ρ = some false := rfl
theorem bOrK_t : bOrK (some true) c ρ = some true := rfl
theorem bOrK_f : bOrK (some false) c ρ = c ρ := rfl
theorem bAndK_d {p : Prop} [Decidable p] : bAndK (some (decide p)) c ρ = if p then c ρ else some false := by
  by_cases q : p
  · rw [decide_eq_true q, if_pos q]; rfl
  · rw [decide_eq_false q, if_neg q]; rfl
theorem bOrK_d {p : Prop} [Decidable p] : bOrK (some (decide p)) c ρ = if p then some true else c ρ := by
  by_cases q : p
  · rw [decide_eq_true q, if_pos q]; rfl
  · rw [decide_eq_false q, if_neg q]; rfl
theorem bAndK_nd {p : Prop} [Decidable p] : bAndK (some (!decide p)) c ρ = if p then some false else c ρ := by
  by_cases q : p
  · rw [decide_eq_true q, if_pos q]; rfl
  · rw [decide_eq_false q, if_neg q]; rfl
theorem bOrK_nd {p : Prop} [Decidable p] : bOrK (some (!decide p)) c ρ = if p then c ρ else some true := by
  by_cases q : p
  · rw [decide_eq_true q, if_pos q]; rfl
  · rw [decide_eq_false q, if_neg q]; rfl
theorem bNot_ap : bNot c ρ = (c ρ).map (!·) := rfl
theorem toD_s {r : Rv} : toD (some r) = some r.d := rfl
theorem toL_l : toL (some (.l ds)) = some ds := rfl
theorem rv_v : Rv.d (.v d) = d := rfl
theorem rv_l : Rv.d (.l ds) = .list ds := rfl
theorem sSet_ap : sSet i f ρ = stK i ρ (f ρ) := by unfold sSet stK; cases f ρ <;> rfl
theorem stK_s : stK i ρ (some d) = some (.nx (ρ.set i (some (.ro d)))) := rfl
theorem sSetL_ap : sSetL i fl ρ = slK i ρ (fl ρ) := by unfold sSetL slK; cases fl ρ <;> rfl
theorem slK_s : slK i ρ (some ds) = some (.nx (ρ.set i (some (.ow ds)))) := rfl
theorem sSetR_ap : sSetR i fl ρ = srK i ρ (fl ρ) := by unfold sSetR srK; cases fl ρ <;> rfl
theorem srK_s : srK i ρ (some ds) = some (.nx (ρ.set i (some (.lr ds)))) := rfl
theorem sAsg_ap : sAsg f h ρ = asK h ρ (f ρ) := by unfold sAsg asK; cases f ρ <;> rfl
theorem asK_s : asK h ρ (some d) = (h d ρ).map .nx := rfl
theorem hName_ap : hName i d ρ = some (ρ.set i (some (.ro d))) := rfl
theorem hTup_ap (e : ds.length = n) : hTup n k (.tuple ds) ρ = k ds ρ := if_pos e
theorem hCons_ap : hCons h k (d :: ds) ρ = (h d ρ).bind (k ds) := rfl
theorem hNil_ap : hNil [] ρ = some ρ := rfl
theorem sDrop_ap : sDrop f ρ = drK ρ (f ρ) := by unfold sDrop drK; cases f ρ <;> rfl
theorem drK_s : drK ρ (some d) = some (.nx ρ) := rfl
theorem sRet_ap : sRet f ρ = rtK (f ρ) := by unfold sRet rtK; cases f ρ <;> rfl
theorem rtK_s : rtK (some d) = some (.rt d) := rfl
theorem sRetL_ap : sRetL fl ρ = rlK (fl ρ) := by unfold sRetL rlK; cases fl ρ <;> rfl
theorem rlK_s : rlK (some ds) = some (.rl ds) := rfl
theorem sRetO_ap : sRetO i ρ = roK ρ[i]? := by unfold sRetO roK; rfl
theorem roK_s : roK (some (some (.ow ds))) = some (.rl ds) := rfl
theorem sFz_ap : sFz i F ρ = fzK i F ρ ρ[i]? := by unfold sFz fzK; rfl
theorem fzK_s : fzK i F ρ (some (some (.ow ds))) = F (ρ.set i (some (.lr ds))) := rfl
theorem fzK_ro : fzK i F ρ (some (some (.ro d))) = F ρ := rfl
theorem fzK_lr : fzK i F ρ (some (some (.lr ds))) = F ρ := rfl
theorem sApp_ap : sApp i f ρ = apK i ρ ρ[i]? (f ρ) := by
  unfold sApp apK
  generalize ρ[i]? = o
  generalize f ρ = a
  match o, a with
  | some (some (.ow ds)), some d => rfl
  | some (some (.ow ds)), none => rfl
  | some (some (.ro _)), _ => rfl
  | some (some (.oK _ _)), _ => rfl
  | some (some (.lr _)), _ => rfl
  | some (some (.xc _ _)), _ => rfl
  | some none, _ => rfl
  | none, _ => rfl
theorem apK_s (h : ds.length < 1000000) : apK i ρ (some (some (.ow ds))) (some d) = some (.nx (ρ.set i (some (.ow (ds ++ [d]))))) := if_pos h
theorem sPut_ap : sPut i f f' ρ = puK i ρ ρ[i]? (f' ρ) (f ρ) := by
  unfold sPut puK
  generalize ρ[i]? = o
  generalize f ρ = a
  generalize f' ρ = b
  match o, b, a with
  | some (some (.ow ds)), some d, some (.int k) => rfl
  | some (some (.ow ds)), some d, some .none => rfl
  | some (some (.ow ds)), some d, some (.bool _) => rfl
  | some (some (.ow ds)), some d, some (.str _) => rfl
  | some (some (.ow ds)), some d, some (.list _) => rfl
  | some (some (.ow ds)), some d, some (.tuple _) => rfl
  | some (some (.ow ds)), some d, some (.dict _) => rfl
  | some (some (.ow ds)), some d, none => rfl
  | some (some (.ow ds)), none, _ => rfl
  | some (some (.ro _)), _, _ => rfl
  | some (some (.oK _ _)), _, _ => rfl
  | some (some (.lr _)), _, _ => rfl
  | some (some (.xc _ _)), _, _ => rfl
  | some none, _, _ => rfl
  | none, _, _ => rfl
theorem puK_s {j : Int} (h0 : 0 ≤ j) (h : j < ds.length) : puK i ρ (some (some (.ow ds))) (some d) (some (.int j)) = some (.nx (ρ.set i (some (.ow (ds.set j.toNat d))))) := by
  show (ixN ds.length j).map _ = _
  unfold ixN
  rw [if_pos h0, if_pos h]; rfl
theorem sFor_ap : sFor fl h F ρ = foK h F ρ (fl ρ) := by unfold sFor foK; cases fl ρ <;> rfl
theorem foK_s : foK h F ρ (some ds) = forGo h F ds ρ := rfl
theorem forGo_n : forGo h F [] ρ = some (.nx ρ) := rfl
theorem forGo_c : forGo h F (d :: ds) ρ = tgK F (forGo h F ds) (h d ρ) := by unfold tgK; show (h d ρ).bind _ = _; cases h d ρ <;> rfl
theorem tgK_s {q : En → Option Out} : tgK F q (some ρ) = afterTurn q (F ρ) := rfl
theorem at_nx {q : En → Option Out} : afterTurn q (some (.nx ρ)) = q ρ := rfl
theorem at_ct {q : En → Option Out} : afterTurn q (some (.ct ρ)) = q ρ := rfl
theorem at_bk {q : En → Option Out} : afterTurn q (some (.bk ρ)) = some (.nx ρ) := rfl
theorem at_rt {q : En → Option Out} : afterTurn q (some (.rt d)) = some (.rt d) := rfl
theorem at_rl {q : En → Option Out} : afterTurn q (some (.rl ds)) = some (.rl ds) := rfl
theorem lComp_ap {vs : List Nat} : lComp fl h c f vs ρ = coK h c f (wipeE ρ vs) (fl ρ) := by unfold lComp coK; cases fl ρ <;> rfl
theorem coK_s (e : ds.length ≤ 1000000) : coK h c f ρ (some ds) = compGo h c f ρ ds := if_pos e
theorem wipeE_n : wipeE ρ [] = ρ := rfl
theorem wipeE_c {v : Nat} {vs : List Nat} : wipeE ρ (v :: vs) = (wipeE ρ vs).set v none := rfl
theorem cYes_ap : cYes ρ = some true := rfl
theorem sWhile_ap : sWhile c F (n + 1) ρ = wiK c F n ρ (c ρ) := by
  show (c ρ).bind _ = _
  unfold wiK
  cases c ρ with
  | none => rfl
  | some b => cases b <;> rfl
theorem wiK_t : wiK c F n ρ (some true) = afterTurn (sWhile c F n) (F ρ) := rfl
theorem wiK_f : wiK c F n ρ (some false) = some (.nx ρ) := rfl
theorem gF_ap (e : ds.length = n) : gF n m F ds = rvK (F (env0 m ds)) := by
  unfold gF
  rw [if_pos e]
  unfold rvK
  cases F (env0 m ds) <;> rfl
theorem rvK_rt : rvK (some (.rt d)) = some (.v d) := rfl
theorem rvK_rl : rvK (some (.rl ds)) = some (.l ds) := rfl
theorem rvK_nx : rvK (some (.nx ρ)) = some (.v .none) := rfl
def cdK (tg : D → En → Option En) (cond : En → Option Bool) (elt : En → Option D) (ρ : En) (ds : List D) : Option En → Option (List D)
  | some ρ1 => match cond ρ1 with
    | some true => cnK (elt ρ1) (compGo tg cond elt ρ ds)
    | some false => compGo tg cond elt ρ ds
    | none => none
  | none => none
theorem compGo_n : compGo h c f ρ [] = some [] := rfl
theorem compGo_c : compGo h c f ρ (d :: ds) = cdK h c f ρ ds (h d ρ) := by
  unfold compGo cdK
  cases h d ρ with
  | none => rfl
  | some ρ1 =>
    show (c ρ1).bind _ = _
    dsimp only
    cases c ρ1 with
    | none => rfl
    | some b =>
      cases b
      · rfl
      · show (f ρ1).bind _ = _
        dsimp only
        cases f ρ1 with
        | none => rfl
        | some y => show (compGo h c f ρ ds).map _ = _; cases compGo h c f ρ ds <;> rfl
theorem cdK_t {ρ1 : En} (e : c ρ1 = some true) : cdK h c f ρ ds (some ρ1) = cnK (f ρ1) (compGo h c f ρ ds) := by unfold cdK; dsimp only; rw [e]
theorem cdK_f {ρ1 : En} (e : c ρ1 = some false) : cdK h c f ρ ds (some ρ1) = compGo h c f ρ ds := by unfold cdK; dsimp only; rw [e]
/-- a comprehension that maps -/
theorem compGo_map {g : D → D} : ∀ {ds : List D}, (∀ d ∈ ds, ∃ ρ1, h d ρ = some ρ1 ∧ c ρ1 = some true ∧ f ρ1 = some (g d)) → compGo h c f ρ ds = some (ds.map g)
  | [], _ => rfl
  | d :: ds, q => by
    obtain ⟨ρ1, h1, h2, h3⟩ := q d List.mem_cons_self
    have ih := compGo_map (ds := ds) fun e he => q e (List.mem_cons_of_mem _ he)
    rw [compGo_c, h1, cdK_t h2, h3, ih]; rfl
theorem sqK_ite {p : Prop} [Decidable p] {a b : Option Out} : sqK (if p then a else b) G = if p then sqK a G else sqK b G := by split <;> rfl
theorem rvK_ite {p : Prop} [Decidable p] {a b : Option Out} : rvK (if p then a else b) = if p then rvK a else rvK b := by split <;> rfl
theorem at_ite {q : En → Option Out} {p : Prop} [Decidable p] {a b : Option Out} : afterTurn q (if p then a else b) = if p then afterTurn q a else afterTurn q b := by split <;> rfl
theorem boK_ite {p : Prop} [Decidable p] {a b : Option D} : boK (if p then a else b) = if p then boK a else boK b := by split <;> rfl
theorem rtK_ite {p : Prop} [Decidable p] {a b : Option D} : rtK (if p then a else b) = if p then rtK a else rtK b := by split <;> rfl
theorem ifK_ite {p : Prop} [Decidable p] {a b : Option Bool} : ifK (if p then a else b) F G ρ = if p then ifK a F G ρ else ifK b F G ρ := by split <;> rfl
end

/-! ### walks, by their sources -/
def seqK : Option D → Option (List D)
  | some (.list ds) => some ds
  | some (.tuple ds) => some ds
  | some (.str z) => some (z.cps.toList.map fun c => .str ⟨#[c]⟩)
  | _ => none
def rg1K : Option (List D) → Option (List D)
  | some [.int j] => if -4611686018427387904 ≤ j ∧ j < 4611686018427387904 then some ((List.range j.toNat).map fun (i : Nat) => .int (i : Int)) else none
  | _ => none
def rg2K : Option (List D) → Option (List D)
  | some [.int i, .int j] => if -4611686018427387904 ≤ i ∧ i < 4611686018427387904 ∧ -4611686018427387904 ≤ j ∧ j < 4611686018427387904 then some ((List.range (j - i).toNat).map fun (k : Nat) => .int (i + k)) else none
  | _ => none
def revK : Option (List D) → Option (List D)
  | some [.list ds] => some ds.reverse
  | some [.str z] => if z.length ≤ 1000000 then some (z.cps.toList.map fun c => .str ⟨#[c]⟩).reverse else none
  | _ => none
def enuK : Option (List D) → Option (List D)
  | some [.list ds] => some (enumD 0 ds)
  | some [.str z] => some (enumD 0 (z.cps.toList.map fun c => .str ⟨#[c]⟩))
  | _ => none
def zipK : Option (List D) → Option (List D)
  | some [.list ds, .list es] => some (zipD ds es)
  | _ => none
section
variable {F : En → Option Out} {ρ : En} {f : En → Option D} {fl : En → Option (List D)} {c : En → Option Bool} {ds es : List D} {i j : Int} {z : Str} {h : D → En → Option En}
theorem iSeqD_ap : iSeqD f ρ = seqK (f ρ) := by unfold iSeqD seqK; rfl
theorem iRg1D_ap : iRg1D fl ρ = rg1K (fl ρ) := by unfold iRg1D rg1K; rfl
theorem iRg2D_ap : iRg2D fl ρ = rg2K (fl ρ) := by unfold iRg2D rg2K; rfl
theorem iRevD_ap : iRevD fl ρ = revK (fl ρ) := by unfold iRevD revK; rfl
theorem iEnumD_ap : iEnumD fl ρ = enuK (fl ρ) := by unfold iEnumD enuK; rfl
theorem iZipD_ap : iZipD fl ρ = zipK (fl ρ) := by unfold iZipD zipK; rfl
theorem zipL_ap : zipL fl ρ = zipK (fl ρ) := by unfold zipL zipK; rfl
theorem seqK_l : seqK (some (.list ds)) = some ds := rfl
theorem seqK_t : seqK (some (.tuple ds)) = some ds := rfl
theorem seqK_s : seqK (some (.str z)) = some (z.cps.toList.map fun c => .str ⟨#[c]⟩) := rfl
theorem rg1K_i (h : -4611686018427387904 ≤ j ∧ j < 4611686018427387904) : rg1K (some [.int j]) = some ((List.range j.toNat).map fun (i : Nat) => .int (i : Int)) := if_pos h
theorem rg2K_i (h : -4611686018427387904 ≤ i ∧ i < 4611686018427387904 ∧ -4611686018427387904 ≤ j ∧ j < 4611686018427387904) : rg2K (some [.int i, .int j]) = some ((List.range (j - i).toNat).map fun (k : Nat) => .int (i + k)) := if_pos h
theorem revK_l : revK (some [.list ds]) = some ds.reverse := rfl
theorem enuK_l : enuK (some [.list ds]) = some (enumD 0 ds) := rfl
theorem zipK_l : zipK (some [.list ds, .list es]) = some (zipD ds es) := rfl
/-- a loop by an invariant of its turns -/
theorem forGo_inv (I : Nat → En → Prop) : ∀ {ds : List D} {ρ : En} (n : Nat), I n ρ → (∀ i d ρ, ds[i]? = some d → I (n + i) ρ → ∃ ρ1 ρ2, h d ρ = some ρ1 ∧ (F ρ1 = some (.nx ρ2) ∨ F ρ1 = some (.ct ρ2)) ∧ I (n + i + 1) ρ2) → ∃ ρ', forGo h F ds ρ = some (.nx ρ') ∧ I (n + ds.length) ρ'
  | [], ρ, n, h0, _ => ⟨ρ, rfl, h0⟩
  | d :: ds, ρ, n, h0, q => by
    obtain ⟨ρ1, ρ2, h1, h2, h3⟩ := q 0 d ρ rfl h0
    obtain ⟨ρ', h4, h5⟩ := forGo_inv I (ds := ds) (ρ := ρ2) (n + 1) h3 fun i e ρ he hI => by
      have := q (i + 1) e ρ (by simpa using he) (by rw [show n + (i + 1) = n + 1 + i from by omega]; exact hI)
      rw [show n + (i + 1) + 1 = n + 1 + i + 1 from by omega] at this
      exact this
    refine ⟨ρ', ?_, by rw [List.length_cons, show n + (ds.length + 1) = n + 1 + ds.length from by omega]; exact h5⟩
    rw [forGo_c, h1, tgK_s]
    rcases h2 with h2 | h2
    · rw [h2, at_nx]; exact h4
    · rw [h2, at_ct]; exact h4
/-- a loop that leaves at most one thing behind each turn -/
theorem forGo_all {P : En → Prop} {ds : List D} {ρ : En} (h0 : P ρ) (q : ∀ d ∈ ds, ∀ ρ, P ρ → ∃ ρ1 ρ2, h d ρ = some ρ1 ∧ F ρ1 = some (.nx ρ2) ∧ P ρ2) : ∃ ρ', forGo h F ds ρ = some (.nx ρ') ∧ P ρ' := by
  obtain ⟨ρ', a, b⟩ := forGo_inv (h := h) (F := F) (fun _ ρ => P ρ) (ds := ds) 0 h0 fun i d ρ hd hp => by
    obtain ⟨ρ1, ρ2, x, y, z⟩ := q d (List.mem_of_getElem? hd) ρ hp
    exact ⟨ρ1, ρ2, x, .inl y, z⟩
  exact ⟨ρ', a, b⟩
/-- a comprehension each of whose items is some datum of a kind -/
theorem compGo_ex {β : Type} (enc : β → D) (Pr : D → β → Prop) : ∀ {ds : List D}, (∀ d ∈ ds, ∃ ρ1, h d ρ = some ρ1 ∧ c ρ1 = some true ∧ ∃ w : β, f ρ1 = some (enc w) ∧ Pr d w) → ∃ ws : List β, compGo h c f ρ ds = some (ws.map enc) ∧ ws.length = ds.length ∧ (∀ (i : Nat) d w, ds[i]? = some d → ws[i]? = some w → Pr d w) ∧ ∀ w ∈ ws, ∃ d ∈ ds, Pr d w
  | [], _ => ⟨[], rfl, rfl, (fun i d w h => by cases h), fun w h => by cases h⟩
  | d :: ds, q => by
    obtain ⟨ρ1, h1, h2, w, h3, hp⟩ := q d List.mem_cons_self
    obtain ⟨ws, i1, i2, i3, i4⟩ := compGo_ex enc Pr (ds := ds) fun e he => q e (List.mem_cons_of_mem _ he)
    refine ⟨w :: ws, ?_, by rw [List.length_cons, List.length_cons, i2], fun i e v he hv => ?_, fun v hv => ?_⟩
    · rw [compGo_c, h1, cdK_t h2, h3, i1]; rfl
    · cases i with
      | zero =>
        rw [List.getElem?_cons_zero] at he hv
        cases he; cases hv; exact hp
      | succ i =>
        rw [List.getElem?_cons_succ] at he hv
        exact i3 i e v he hv
    · rcases List.mem_cons.mp hv with e | hv
      · subst e; exact ⟨d, List.mem_cons_self, hp⟩
      · obtain ⟨e, he, hpe⟩ := i4 v hv
        exact ⟨e, List.mem_cons_of_mem _ he, hpe⟩
end
theorem enum_mem : ∀ (ds : List D) (n : Nat) (z : D), z ∈ enumD n ds → ∃ (j : Nat) (d : D), n ≤ j ∧ j < n + ds.length ∧ d ∈ ds ∧ z = .tuple [.int (j : Int), d]
  | [], n, z, h => by cases h
  | d :: ds, n, z, h => by
    rcases List.mem_cons.mp h with e | h
    · exact ⟨n, d, Nat.le_refl _, by simp only [List.length_cons]; omega, List.mem_cons_self, e⟩
    · obtain ⟨j, d', h1, h2, h3, h4⟩ := enum_mem ds (n + 1) z h
      exact ⟨j, d', by omega, by simp only [List.length_cons]; omega, List.mem_cons_of_mem _ h3, h4⟩
theorem range_mem {n : Nat} {z : D} (h : z ∈ (List.range n).map fun (i : Nat) => PyData.int (i : Int)) : ∃ i : Nat, i < n ∧ z = .int (i : Int) := by
  obtain ⟨i, hi, e⟩ := List.mem_map.mp h
  exact ⟨i, List.mem_range.mp hi, e.symm⟩
theorem range_get {n i : Nat} {z : D} (h : ((List.range n).map fun (i : Nat) => PyData.int (i : Int))[i]? = some z) : i < n ∧ z = .int (i : Int) := by
  rw [List.getElem?_map] at h
  obtain ⟨c, h1, h2⟩ := map_some h
  obtain ⟨h3, h4⟩ := List.getElem?_eq_some_iff.mp h1
  rw [List.length_range] at h3
  rw [List.getElem_range] at h4
  subst h4
  exact ⟨h3, h2.symm⟩
/-! ### equal data -/
def okd (n : Nat) (d : D) : Prop := PyData.canLay0 d = true ∧ d.depth ≤ n
theorem okd_all : ∀ {n : Nat} {ds : List D}, (∀ d ∈ ds, okd n d) → PyData.canLayAll0 ds = true ∧ PyData.depthAll ds ≤ n
  | n, [], _ => ⟨rfl, Nat.zero_le _⟩
  | n, d :: ds, h => by
    have h1 := h d List.mem_cons_self
    have h2 := okd_all (n := n) (ds := ds) fun e he => h e (List.mem_cons_of_mem _ he)
    refine ⟨?_, ?_⟩
    · show (d.canLay0 && PyData.canLayAll0 ds) = true
      rw [h1.1, h2.1]; rfl
    · show max d.depth (PyData.depthAll ds) ≤ n
      exact Nat.max_le.mpr ⟨h1.2, h2.2⟩
theorem okd_tup {n : Nat} {ds : List D} (h : ∀ d ∈ ds, okd n d) : okd (n + 1) (.tuple ds) := ⟨(okd_all h).1, Nat.succ_le_succ (okd_all h).2⟩
theorem okd_list {n : Nat} {ds : List D} (h : ∀ d ∈ ds, okd n d) : okd (n + 1) (.list ds) := ⟨(okd_all h).1, Nat.succ_le_succ (okd_all h).2⟩
theorem okd_int {n : Nat} {i : Int} : okd n (.int i) := ⟨rfl, Nat.zero_le _⟩
theorem okd_bool {n : Nat} {i : Bool} : okd n (.bool i) := ⟨rfl, Nat.zero_le _⟩
theorem okd_none {n : Nat} : okd n .none := ⟨rfl, Nat.zero_le _⟩
theorem okd_str {n : Nat} {x : Str} (h : PyData.strOk x = true) : okd n (.str x) := ⟨h, Nat.zero_le _⟩
theorem okd.mono {n m : Nat} {d : D} (h : okd n d) (e : n ≤ m) : okd m d := ⟨h.1, Nat.le_trans h.2 e⟩
theorem okd_ints {n : Nat} {ns : List Int} : ∀ d ∈ ns.map PyData.int, okd n d := fun d hd => by
  obtain ⟨i, _, e⟩ := List.mem_map.mp hd
  subst e; exact okd_int
theorem okd_c {n : Nat} {d : D} {ds : List D} (h : okd n d) (k : ∀ e ∈ ds, okd n e) : ∀ e ∈ d :: ds, okd n e := fun e he => by
  rcases List.mem_cons.mp he with z | he
  · subst z; exact h
  · exact k e he
theorem okd_n {n : Nat} : ∀ e ∈ ([] : List D), okd n e := fun e he => by cases he
theorem eqOk_of {n : Nat} {d e : D} (h : okd n d) (h' : PyData.canLay0 e = true) : eqOk n d e = true := by
  unfold eqOk
  rw [h.1, h', decide_eq_true (Nat.le_trans (Nat.min_le_left _ _) h.2)]
  cases scD d e <;> rfl
mutual
theorem eqv_self : ∀ d : D, PyData.canLay0 d = true → PyData.eqv d d = true
  | .none, _ => rfl
  | .bool a, _ => by simp [PyData.eqv]
  | .int a, _ => by simp [PyData.eqv]
  | .str a, _ => by simp [PyData.eqv]
  | .list ds, h => by
    show PyData.eqvAll ds ds = true
    exact eqvAll_self ds (by simpa [PyData.canLay0] using h)
  | .tuple ds, h => by
    show PyData.eqvAll ds ds = true
    exact eqvAll_self ds (by simpa [PyData.canLay0] using h)
  | .dict _, h => by simp [PyData.canLay0] at h
theorem eqvAll_self : ∀ ds : List D, PyData.canLayAll0 ds = true → PyData.eqvAll ds ds = true
  | [], _ => rfl
  | d :: ds, h => by
    have h' : PyData.canLay0 d = true ∧ PyData.canLayAll0 ds = true := by simpa [PyData.canLayAll0] using h
    show (PyData.eqv d d && PyData.eqvAll ds ds) = true
    rw [eqv_self d h'.1, eqvAll_self ds h'.2]; rfl
end
theorem eqD_self {n : Nat} {d : D} (h : okd n d) : eqD n d d = some (.bool true) := by
  unfold eqD
  rw [if_pos (eqOk_of h h.1), eqv_self d h.1]
theorem neD_self {n : Nat} {d : D} (h : okd n d) : neD n d d = some (.bool false) := by
  unfold neD
  rw [if_pos (eqOk_of h h.1), eqv_self d h.1]; rfl
theorem nat2 : ((2 : Nat) : Int) = 2 := rfl
theorem nat3 : ((3 : Nat) : Int) = 3 := rfl
theorem nat4 : ((4 : Nat) : Int) = 4 := rfl
theorem nat5 : ((5 : Nat) : Int) = 5 := rfl
theorem nat1 : ((1 : Nat) : Int) = 1 := rfl
theorem nat0 : ((0 : Nat) : Int) = 0 := rfl
/-! ### loops and comprehensions, told of what stands in the goal -/
section
variable {F : En → Option Out} {ρ : En} {f : En → Option D} {c : En → Option Bool} {ds : List D} {h : D → En → Option En} {X : Option Out} {Y : Option (List D)}
theorem cdK_s {ρ1 : En} : cdK h c f ρ ds (some ρ1) = match c ρ1 with | some true => cnK (f ρ1) (compGo h c f ρ ds) | some false => compGo h c f ρ ds | none => none := rfl
theorem cdK_y {ρ1 : En} : cdK h cYes f ρ ds (some ρ1) = cnK (f ρ1) (compGo h cYes f ρ ds) := rfl
theorem cdK_ap {ys : List D} {o : Option En} (e : cdK h c f ρ [] o = some ys) : cdK h c f ρ ds o = (compGo h c f ρ ds).map (ys ++ ·) := by
  cases o with
  | none => cases e
  | some ρ1 =>
    unfold cdK at e ⊢
    dsimp only at e ⊢
    cases hc : c ρ1 with
    | none => rw [hc] at e; cases e
    | some b =>
      rw [hc] at e
      cases b
      · dsimp only at e ⊢
        cases e
        cases compGo h c f ρ ds <;> rfl
      · dsimp only at e ⊢
        cases hf : f ρ1 with
        | none => rw [hf] at e; cases e
        | some d =>
          rw [hf] at e
          cases e
          cases compGo h c f ρ ds <;> rfl
theorem comp_ex {β : Type} (enc : β → D) (Pr : D → β → Prop) : ∀ {ds : List D} {Y : Option (List D)}, compGo h c f ρ ds = Y → (∀ d ∈ ds, ∃ w : β, cdK h c f ρ [] (h d ρ) = some [enc w] ∧ Pr d w) → ∃ ws : List β, Y = some (ws.map enc) ∧ ws.length = ds.length ∧ (∀ (i : Nat) d w, ds[i]? = some d → ws[i]? = some w → Pr d w) ∧ ∀ w ∈ ws, ∃ d ∈ ds, Pr d w
  | [], _, e, _ => ⟨[], e.symm, rfl, (fun i d w h => by cases h), fun w h => by cases h⟩
  | d :: ds, Y, e, q => by
    obtain ⟨w, h1, hp⟩ := q d List.mem_cons_self
    obtain ⟨ws, i1, i2, i3, i4⟩ := comp_ex enc Pr (ds := ds) rfl fun e he => q e (List.mem_cons_of_mem _ he)
    refine ⟨w :: ws, ?_, by rw [List.length_cons, List.length_cons, i2], fun i e v he hv => ?_, fun v hv => ?_⟩
    · rw [← e, compGo_c, cdK_ap h1, i1]; rfl
    · cases i with
      | zero =>
        rw [List.getElem?_cons_zero] at he hv
        cases he; cases hv; exact hp
      | succ i =>
        rw [List.getElem?_cons_succ] at he hv
        exact i3 i e v he hv
    · rcases List.mem_cons.mp hv with e | hv
      · subst e; exact ⟨d, List.mem_cons_self, hp⟩
      · obtain ⟨e, he, hpe⟩ := i4 v hv
        exact ⟨e, List.mem_cons_of_mem _ he, hpe⟩
theorem comp_map (g : D → D) : ∀ {ds : List D} {Y : Option (List D)}, compGo h c f ρ ds = Y → (∀ d ∈ ds, cdK h c f ρ [] (h d ρ) = some [g d]) → Y = some (ds.map g)
  | [], _, e, _ => e.symm
  | d :: ds, Y, e, q => by
    have ih := comp_map g (ds := ds) rfl fun e he => q e (List.mem_cons_of_mem _ he)
    rw [← e, compGo_c, cdK_ap (q d List.mem_cons_self), ih]; rfl
theorem loop_app {V β : Type} (E : V → List D → En) (enc : β → D) (Pr : D → β → Prop) : ∀ {ds : List D} {acc : List D} (v : V) {X : Option Out}, forGo h F ds (E v acc) = X → acc.length + ds.length ≤ 1000 →
    (∀ d ∈ ds, ∀ v acc, acc.length < 1000 → ∃ (w : β) (v' : V), ((h d (E v acc)).bind F = some (.nx (E v' (acc ++ [enc w]))) ∨ (h d (E v acc)).bind F = some (.ct (E v' (acc ++ [enc w])))) ∧ Pr d w) →
    ∃ (ws : List β) (v' : V), X = some (.nx (E v' (acc ++ ws.map enc))) ∧ ws.length = ds.length ∧ (∀ (i : Nat) d w, ds[i]? = some d → ws[i]? = some w → Pr d w) ∧ ∀ w ∈ ws, ∃ d ∈ ds, Pr d w
  | [], acc, v, _, e, _, _ => ⟨[], v, by rw [← e, List.map_nil, List.append_nil]; rfl, rfl, (fun i d w h => by cases h), fun w h => by cases h⟩
  | d :: ds, acc, v, X, e, hl, q => by
    rw [List.length_cons] at hl
    obtain ⟨w, v1, h1, hp⟩ := q d List.mem_cons_self v acc (by omega)
    obtain ⟨ws, v2, i1, i2, i3, i4⟩ := loop_app E enc Pr (ds := ds) (acc := acc ++ [enc w]) v1 rfl (by rw [List.length_append, List.length_singleton]; omega) fun e he => q e (List.mem_cons_of_mem _ he)
    refine ⟨w :: ws, v2, ?_, by rw [List.length_cons, List.length_cons, i2], fun i e v he hv => ?_, fun v hv => ?_⟩
    · rw [← e, forGo_c]
      cases hh : h d (E v acc) with
      | none => rw [hh] at h1; rcases h1 with h1 | h1 <;> cases h1
      | some ρ1 =>
        rw [hh, Option.bind_some] at h1
        rw [tgK_s]
        rcases h1 with h1 | h1
        · rw [h1, at_nx, i1, List.map_cons, List.append_assoc]; rfl
        · rw [h1, at_ct, i1, List.map_cons, List.append_assoc]; rfl
    · cases i with
      | zero =>
        rw [List.getElem?_cons_zero] at he hv
        cases he; cases hv; exact hp
      | succ i =>
        rw [List.getElem?_cons_succ] at he hv
        exact i3 i e v he hv
    · rcases List.mem_cons.mp hv with e | hv
      · subst e; exact ⟨d, List.mem_cons_self, hp⟩
      · obtain ⟨e, he, hpe⟩ := i4 v hv
        exact ⟨e, List.mem_cons_of_mem _ he, hpe⟩
/-- a loop over a state that is told at each turn's beginning -/
theorem loop_st {V : Type} (E : V → En) (I : Nat → V → Prop) : ∀ {ds : List D} (v : V) (n : Nat) {X : Option Out}, forGo h F ds (E v) = X → I n v →
    (∀ i d v, ds[i]? = some d → I (n + i) v → ∃ v', ((h d (E v)).bind F = some (.nx (E v')) ∨ (h d (E v)).bind F = some (.ct (E v'))) ∧ I (n + i + 1) v') →
    ∃ v', X = some (.nx (E v')) ∧ I (n + ds.length) v'
  | [], v, n, _, e, h0, _ => ⟨v, e.symm, h0⟩
  | d :: ds, v, n, X, e, h0, q => by
    obtain ⟨v1, h1, h3⟩ := q 0 d v rfl h0
    obtain ⟨v', h4, h5⟩ := loop_st E I (ds := ds) v1 (n + 1) rfl h3 fun i e v he hI => by
      have := q (i + 1) e v (by simpa using he) (by rw [show n + (i + 1) = n + 1 + i from by omega]; exact hI)
      rw [show n + (i + 1) + 1 = n + 1 + i + 1 from by omega] at this
      exact this
    refine ⟨v', ?_, by rw [List.length_cons, show n + (ds.length + 1) = n + 1 + ds.length from by omega]; exact h5⟩
    rw [← e, forGo_c]
    cases hh : h d (E v) with
    | none => rw [hh] at h1; rcases h1 with h1 | h1 <;> cases h1
    | some ρ1 =>
      rw [hh, Option.bind_some] at h1
      rw [tgK_s]
      rcases h1 with h1 | h1
      · rw [h1, at_nx]; exact h4
      · rw [h1, at_ct]; exact h4
theorem loop_chk {V : Type} (E : V → En) (v : V) (hX : forGo h F ds (E v) = X) (q : ∀ d ∈ ds, ∀ v, ∃ v', (h d (E v)).bind F = some (.nx (E v'))) : ∃ v', X = some (.nx (E v')) := by
  obtain ⟨v', a, _⟩ := loop_st (h := h) (F := F) E (fun _ _ => True) v 0 hX trivial fun i d v hd _ => by
    obtain ⟨v', z⟩ := q d (List.mem_of_getElem? hd) v
    exact ⟨v', .inl z, trivial⟩
  exact ⟨v', a⟩
end
theorem allBl_t : ∀ {ds : List D}, allBl (ds.map fun _ => PyData.bool true) = some (ds.map fun _ => true)
  | [] => rfl
  | d :: ds => by
    show (allBl (ds.map fun _ => PyData.bool true)).map _ = _
    rw [allBl_t]; rfl
theorem all_t {ds : List D} : allD [.list (ds.map fun _ => PyData.bool true)] = some (.bool true) := by
  show (allBl (ds.map fun _ => PyData.bool true)).map _ = _
  rw [allBl_t]
  have : ∀ ds : List D, (ds.map fun _ => true).all id = true := fun ds => by
    induction ds with
    | nil => rfl
    | cons d ds ih => rw [List.map_cons, List.all_cons, ih]; rfl
  show some (PyData.bool _) = _
  rw [this]
theorem zip_mem : ∀ {ds es : List D} {z : D}, z ∈ zipD ds es → ∃ (i : Nat) (d e : D), ds[i]? = some d ∧ es[i]? = some e ∧ z = .tuple [d, e]
  | [], _, _, h => by cases h
  | _ :: _, [], _, h => by cases h
  | d :: ds, e :: es, z, h => by
    rcases List.mem_cons.mp h with x | h
    · exact ⟨0, d, e, rfl, rfl, x⟩
    · obtain ⟨i, d', e', h1, h2, h3⟩ := zip_mem h
      exact ⟨i + 1, d', e', h1, h2, h3⟩
/-! ### whiles -/
section
variable {F : En → Option Out} {c : En → Option Bool}
theorem loop_wh {V : Type} (E : V → En) (I : V → Prop) (P : Out → Prop) (m : V → Nat) (q : ∀ v, I v → (c (E v) = some false ∧ P (.nx (E v))) ∨ (c (E v) = some true ∧
      ((∃ v', (F (E v) = some (.nx (E v')) ∨ F (E v) = some (.ct (E v'))) ∧ I v' ∧ m v' < m v) ∨ (∃ ρ', F (E v) = some (.bk ρ') ∧ P (.nx ρ')) ∨ (∃ d, F (E v) = some (.rt d) ∧ P (.rt d)) ∨ ∃ ds, F (E v) = some (.rl ds) ∧ P (.rl ds)))) :
    ∀ (n : Nat) (v : V) {X : Option Out}, sWhile c F n (E v) = X → m v < n → I v → ∃ o, X = some o ∧ P o
  | 0, v, _, _, h, _ => absurd h (Nat.not_lt_zero _)
  | n + 1, v, X, e, h, hI => by
    rcases q v hI with ⟨h1, h2⟩ | ⟨h1, h2⟩
    · exact ⟨_, by rw [← e, sWhile_ap, h1, wiK_f], h2⟩
    · rw [sWhile_ap, h1, wiK_t] at e
      rcases h2 with ⟨v', h2, h3, h4⟩ | ⟨ρ', h2, h3⟩ | ⟨d, h2, h3⟩ | ⟨ds, h2, h3⟩
      · rcases h2 with h2 | h2
        · rw [h2, at_nx] at e
          exact loop_wh E I P m q n v' e (by omega) h3
        · rw [h2, at_ct] at e
          exact loop_wh E I P m q n v' e (by omega) h3
      · rw [h2, at_bk] at e; exact ⟨_, e.symm, h3⟩
      · rw [h2, at_rt] at e; exact ⟨_, e.symm, h3⟩
      · rw [h2, at_rl] at e; exact ⟨_, e.symm, h3⟩
end
/-! ### the rules of ZA -/
def xbK (G : D × En → Option Out) : Option (D × En) → Option Out
  | some p => G p
  | none => none
def xcK {α : Type} (F : D → En → α) : Option (D × En) → Option α
  | some p => some (F p.1 p.2)
  | none => none
def paK (ρ : En) (i : Nat) : Option (Option SV) → Option (D × En)
  | some (some (.ow ds)) => ds.getLast?.map fun d => (d, ρ.set i (some (.ow ds.dropLast)))
  | _ => none
def exK (ρ : En) (i : Nat) : Option (Option SV) → Option (List D) → Option Out
  | some (some (.ow ds)), some es => if ds.length + es.length ≤ 1000000 then some (.nx (ρ.set i (some (.ow (ds ++ es))))) else none
  | _, _ => none
def clK (ρ : En) (i : Nat) : Option (Option SV) → Option Out
  | some (some (.ow _)) => some (.nx (ρ.set i (some (.ow []))))
  | _ => none
section
variable {i j : Nat} {ρ : En} {f : En → Option D} {fl : En → Option (List D)} {F : En → Option (D × En)} {G : En → Option (List D × En)} {g : List D → Option D} {d : D} {ds es : List D}
theorem sClear_ap : sClear i ρ = clK ρ i ρ[i]? := by unfold sClear clK; rfl
theorem clK_s : clK ρ i (some (some (.ow ds))) = some (.nx (ρ.set i (some (.ow [])))) := rfl
theorem sExt_ap : sExt i fl ρ = exK ρ i ρ[i]? (fl ρ) := by
  unfold sExt exK
  generalize ρ[i]? = o
  generalize fl ρ = a
  match o, a with
  | some (some (.ow ds)), some _ => rfl
  | some (some (.ow ds)), none => rfl
  | some (some (.ro _)), _ => rfl
  | some (some (.oK _ _)), _ => rfl
  | some (some (.lr _)), _ => rfl
  | some (some (.xc _ _)), _ => rfl
  | some none, _ => rfl
  | none, _ => rfl
theorem exK_s (h : ds.length + es.length ≤ 1000000) : exK ρ i (some (some (.ow ds))) (some es) = some (.nx (ρ.set i (some (.ow (ds ++ es))))) := if_pos h
end
/-! ### pops -/
def xsK (i : Nat) : Option (D × En) → Option Out
  | some p => some (.nx (p.2.set i (some (.ro p.1))))
  | none => none
def poK (i : Nat) (ρ : En) : Option (Option SV) → Option (D × En)
  | some (some (.ow ds)) => ds.getLast?.map fun d => (d, ρ.set i (some (.ow ds.dropLast)))
  | _ => none
def patK (i : Nat) (ρ : En) : Option (Option SV) → Option D → Option (D × En)
  | some (some (.ow ds)), some (.int k) => if 0 ≤ k ∧ k < 1000000 then (ds[k.toNat]?).map fun d => (d, ρ.set i (some (.ow (ds.eraseIdx k.toNat)))) else none
  | _, _ => none
def xacK (G : En → Option (List D × En)) : Option (D × En) → Option (List D × En)
  | some p => (G p.2).map fun q => (p.1 :: q.1, q.2)
  | none => none
def xtK : Option (List D × En) → Option (D × En)
  | some q => if q.1.length ≤ 1000000 then some (.tuple q.1, q.2) else none
  | none => none
def xeK (ρ : En) : Option D → Option (D × En)
  | some d => some (d, ρ)
  | none => none
def xclK (g : List D → Option D) : Option (List D × En) → Option (D × En)
  | some q => (g q.1).map fun d => (d, q.2)
  | none => none
def xagK (h : D → En → Option En) : Option (D × En) → Option Out
  | some p => (h p.1 p.2).map .nx
  | none => none
def xdK : Option (D × En) → Option Out
  | some p => some (.nx p.2)
  | none => none
def xrK : Option (D × En) → Option Out
  | some p => some (.rt p.1)
  | none => none
def ax2K (i : Nat) (d : D) (ρ : En) : Option (Option SV) → Option Out
  | some (some (.ow ds)) => if ds.length < 1000000 then some (.nx (ρ.set i (some (.ow (ds ++ [d]))))) else none
  | _ => none
def axK (i : Nat) (o : Option (D × En)) : Option (Option SV) → Option Out
  | some (some (.ow _)) => match o with
    | some p => ax2K i p.1 p.2 p.2[i]?
    | none => none
  | _ => none
section
variable {i j : Nat} {ρ ρ' : En} {f : En → Option D} {F : En → Option (D × En)} {G : En → Option (List D × En)} {g : List D → Option D} {d : D} {ds es : List D} {h : D → En → Option En}
theorem sSetX_ap : sSetX i F ρ = xsK i (F ρ) := by unfold sSetX xsK; cases F ρ <;> rfl
theorem xsK_s : xsK i (some (d, ρ)) = some (.nx (ρ.set i (some (.ro d)))) := rfl
theorem xPop_ap : xPop i ρ = poK i ρ ρ[i]? := by unfold xPop poK; rfl
theorem poK_s : poK i ρ (some (some (.ow (ds ++ [d])))) = some (d, ρ.set i (some (.ow ds))) := by
  show (ds ++ [d]).getLast?.map _ = _
  rw [List.getLast?_append, List.getLast?_singleton, List.dropLast_concat]; rfl
theorem poK_1 : poK i ρ (some (some (.ow [d]))) = some (d, ρ.set i (some (.ow []))) := rfl
theorem xPopAt_ap : xPopAt i f ρ = patK i ρ ρ[i]? (f ρ) := by
  unfold xPopAt patK
  generalize ρ[i]? = o
  generalize f ρ = a
  match o, a with
  | some (some (.ow ds)), some (.int _) => rfl
  | some (some (.ow ds)), some .none => rfl
  | some (some (.ow ds)), some (.bool _) => rfl
  | some (some (.ow ds)), some (.str _) => rfl
  | some (some (.ow ds)), some (.list _) => rfl
  | some (some (.ow ds)), some (.tuple _) => rfl
  | some (some (.ow ds)), some (.dict _) => rfl
  | some (some (.ow ds)), none => rfl
  | some (some (.ro _)), _ => rfl
  | some (some (.oK _ _)), _ => rfl
  | some (some (.lr _)), _ => rfl
  | some (some (.xc _ _)), _ => rfl
  | some none, _ => rfl
  | none, _ => rfl
theorem patK_0 : patK i ρ (some (some (.ow (d :: ds)))) (some (.int 0)) = some (d, ρ.set i (some (.ow ds))) := rfl
theorem xaNil_ap : xaNil ρ = some ([], ρ) := rfl
theorem xaCons_ap : xaCons F G ρ = xacK G (F ρ) := by unfold xaCons xacK; cases F ρ <;> rfl
theorem xacK_s : xacK G (some (d, ρ)) = (G ρ).map fun q => (d :: q.1, q.2) := rfl
theorem xTup_ap : xTup G ρ = xtK (G ρ) := by unfold xTup xtK; cases G ρ <;> rfl
theorem xtK_s (h : ds.length ≤ 1000000) : xtK (some (ds, ρ)) = some (.tuple ds, ρ) := if_pos h
theorem xE_ap : xE f ρ = xeK ρ (f ρ) := by unfold xE xeK; cases f ρ <;> rfl
theorem xeK_s : xeK ρ (some d) = some (d, ρ) := rfl
theorem xCall_ap : xCall g G ρ = xclK g (G ρ) := by unfold xCall xclK; cases G ρ <;> rfl
theorem xclK_s : xclK g (some (ds, ρ)) = (g ds).map fun d => (d, ρ) := rfl
theorem sAsgX_ap : sAsgX F h ρ = xagK h (F ρ) := by unfold sAsgX xagK; cases F ρ <;> rfl
theorem xagK_s : xagK h (some (d, ρ)) = (h d ρ).map .nx := rfl
theorem sDropX_ap : sDropX F ρ = xdK (F ρ) := by unfold sDropX xdK; cases F ρ <;> rfl
theorem xdK_s : xdK (some (d, ρ)) = some (.nx ρ) := rfl
theorem sRetX_ap : sRetX F ρ = xrK (F ρ) := by unfold sRetX xrK; cases F ρ <;> rfl
theorem xrK_s : xrK (some (d, ρ)) = some (.rt d) := rfl
theorem sAppX_ap : sAppX i F ρ = axK i (F ρ) ρ[i]? := by
  unfold sAppX axK
  generalize ρ[i]? = o
  match o with
  | some (some (.ow ds)) =>
    dsimp only
    cases F ρ with
    | none => rfl
    | some p => unfold ax2K; rfl
  | some (some (.ro _)) => rfl
  | some (some (.oK _ _)) => rfl
  | some (some (.lr _)) => rfl
  | some (some (.xc _ _)) => rfl
  | some none => rfl
  | none => rfl
theorem axK_s : axK i (some (d, ρ)) (some (some (.ow ds))) = ax2K i d ρ ρ[i]? := rfl
theorem ax2K_s (h : ds.length < 1000000) : ax2K i d ρ (some (some (.ow ds))) = some (.nx (ρ.set i (some (.ow (ds ++ [d]))))) := if_pos h
theorem sReverse_ap : sReverse i ρ = (match ρ[i]? with
  | some (some (.ow ds)) => some (.nx (ρ.set i (some (.ow ds.reverse))))
  | _ => none) := by unfold sReverse; rfl
end
/-! ### unlike data -/
section
variable {n : Nat} {x y : Str} {ds es : List D} {i : Int}
theorem eq_ts (h : PyData.canLayAll0 ds = true) (hx : PyData.strOk x = true) : eqD n (.tuple ds) (.str x) = some (.bool false) := by
  unfold eqD eqOk
  rw [if_pos]
  · rfl
  · show (_ || (PyData.canLayAll0 ds && PyData.strOk x && decide (min _ 0 ≤ n))) = true
    rw [h, hx, decide_eq_true (by omega)]; simp
theorem ne_ts (h : PyData.canLayAll0 ds = true) (hx : PyData.strOk x = true) : neD n (.tuple ds) (.str x) = some (.bool true) := by
  unfold neD eqOk
  rw [if_pos]
  · rfl
  · show (_ || (PyData.canLayAll0 ds && PyData.strOk x && decide (min _ 0 ≤ n))) = true
    rw [h, hx, decide_eq_true (by omega)]; simp
theorem eq_l0 (h : PyData.canLayAll0 ds = true) : eqD (n + 1) (.list ds) (.list []) = some (.bool ds.isEmpty) := by
  unfold eqD eqOk
  rw [if_pos]
  · cases ds <;> rfl
  · show (_ || (PyData.canLayAll0 ds && true && decide (min _ (0 + 1) ≤ n + 1))) = true
    rw [h, decide_eq_true (by omega)]; simp
theorem eq_bb2 {a b : Bool} : eqD n (.bool a) (.bool b) = some (.bool (decide (a = b))) := eq_bb
theorem ne_bb {a b : Bool} : neD n (.bool a) (.bool b) = some (.bool (!decide (a = b))) := by
  unfold neD eqOk; simp only [scD, Bool.true_or, if_true, PyData.eqv]
  rw [Bool.beq_eq_decide_eq]
end
section
variable {F G : En → Option Out} {ρ : En} {g : En → Option Bool} {f : En → Option D} {b : Bool}
theorem ifK_v : ifK (some b) F G ρ = if b = true then F ρ else G ρ := by cases b <;> rfl
theorem ifK_nv : ifK (some (!b)) F G ρ = if b = true then G ρ else F ρ := by cases b <;> rfl
theorem bOrK_v : bOrK (some b) g ρ = if b = true then some true else g ρ := by cases b <;> rfl
theorem bOrK_nv : bOrK (some (!b)) g ρ = if b = true then g ρ else some true := by cases b <;> rfl
theorem bAndK_v : bAndK (some b) g ρ = if b = true then g ρ else some false := by cases b <;> rfl
theorem bAndK_nv : bAndK (some (!b)) g ρ = if b = true then some false else g ρ := by cases b <;> rfl
theorem andK_v : andK (some (.bool b)) f ρ = if b = true then f ρ else some (.bool false) := by cases b <;> rfl
theorem orK_v : orK (some (.bool b)) f ρ = if b = true then some (.bool true) else f ρ := by cases b <;> rfl
theorem andK_nv : andK (some (.bool (!b))) f ρ = if b = true then some (.bool false) else f ρ := by cases b <;> rfl
theorem orK_nv : orK (some (.bool (!b))) f ρ = if b = true then f ρ else some (.bool true) := by cases b <;> rfl
end
theorem ix_s {z : Str} {i : Int} (h : z.length ≤ 1000000) : ixD (.str z) (.int i) = (atI z.cps.toList i).map fun c => .str ⟨#[c]⟩ := if_pos h
/-! ### texts as lists of signs -/
def sx (xs : List Nat) : D := .str ⟨xs.toArray⟩
section
variable {xs ys : List Nat} {i j : Int} {n : Nat}
theorem sx_len : (⟨xs.toArray⟩ : Str).length = xs.length := by show xs.toArray.size = _; rw [List.size_toArray]
theorem sx_inj : ((⟨xs.toArray⟩ : Str) = ⟨ys.toArray⟩) ↔ xs = ys := by
  constructor
  · intro h
    have h := congrArg Str.cps h
    have h := congrArg Array.toList h
    exact h
  · intro h; rw [h]
theorem add_x (h : xs.length + ys.length ≤ 1000000) : addD (sx xs) (sx ys) = some (sx (xs ++ ys)) := by
  unfold sx
  rw [add_ss (by rw [sx_len, sx_len]; exact h)]
  have : (⟨xs.toArray⟩ : Str) ++ (⟨ys.toArray⟩ : Str) = ⟨(xs ++ ys).toArray⟩ := by
    show (⟨xs.toArray ++ ys.toArray⟩ : Str) = _
    rw [List.append_toArray]
  rw [this]
theorem len_x (h : xs.length ≤ 1000000) : lenD [sx xs] = some (.int xs.length) := by
  unfold sx
  rw [len_s (by rw [sx_len]; exact h), sx_len]
theorem ix_x (h0 : 0 ≤ i) (h : i < xs.length) (hl : xs.length ≤ 1000000) : ixD (sx xs) (.int i) = some (sx [xs.getD i.toNat 0]) := by
  unfold sx
  rw [ix_s (by rw [sx_len]; exact hl)]
  show (atI xs i).map _ = _
  rw [atI_nat' h0 h, List.getD_eq_getElem?_getD, List.getElem?_eq_getElem (by omega)]
  rfl
theorem ix_xl {c : Nat} (hl : xs.length < 1000000) : ixD (sx (xs ++ [c])) (.int (-1)) = some (sx [c]) := by
  unfold sx
  rw [ix_s (by rw [sx_len, List.length_append, List.length_singleton]; omega)]
  show (atI (xs ++ [c]) (-1)).map _ = _
  unfold atI ixN
  rw [if_neg (by decide), if_pos (by rw [List.length_append, List.length_singleton]; omega)]
  have : (((xs ++ [c]).length : Nat) + (-1 : Int)).toNat = xs.length := by rw [List.length_append, List.length_singleton]; omega
  show ((xs ++ [c])[_]?).map _ = _
  rw [show (-1 + ((xs ++ [c]).length : Int)).toNat = xs.length from by rw [List.length_append, List.length_singleton]; omega]
  rw [List.getElem?_append_right (Nat.le_refl _), Nat.sub_self]
  rfl
theorem eq_x : eqD n (sx xs) (sx ys) = some (.bool (decide (xs = ys))) := by
  unfold sx
  rw [eq_ss]
  have : decide ((⟨xs.toArray⟩ : Str) = ⟨ys.toArray⟩) = decide (xs = ys) := by
    by_cases h : xs = ys
    · rw [decide_eq_true h, decide_eq_true (sx_inj.mpr h)]
    · rw [decide_eq_false h, decide_eq_false fun e => h (sx_inj.mp e)]
  rw [this]
theorem ne_x : neD n (sx xs) (sx ys) = some (.bool (!decide (xs = ys))) := by
  unfold sx
  rw [ne_ss]
  have : decide ((⟨xs.toArray⟩ : Str) = ⟨ys.toArray⟩) = decide (xs = ys) := by
    by_cases h : xs = ys
    · rw [decide_eq_true h, decide_eq_true (sx_inj.mpr h)]
    · rw [decide_eq_false h, decide_eq_false fun e => h (sx_inj.mp e)]
  rw [this]
theorem isx_int : isiD "int" (sx xs) = some (.bool false) := isi_s_int
theorem isx_bool : isiD "bool" (sx xs) = some (.bool false) := isi_s_bool
theorem isx_str : isiD "str" (sx xs) = some (.bool true) := isi_s_str
theorem isx_tuple : isiD "tuple" (sx xs) = some (.bool false) := isi_s_tuple
theorem isx_list : isiD "list" (sx xs) = some (.bool false) := isi_s_list
theorem isNx : isND false (sx xs) .none = some (.bool false) := rfl
theorem notNx : isND true (sx xs) .none = some (.bool true) := rfl
theorem okd_x (h : ∀ c ∈ xs, c < 1114112) : okd n (sx xs) := okd_str (by
  show xs.toArray.all (· < 0x110000) = true
  rw [List.all_toArray, List.all_eq_true]
  intro c hc; exact decide_eq_true (h c hc))
theorem revK_x (h : xs.length ≤ 1000000) : revK (some [sx xs]) = some (xs.reverse.map fun c => sx [c]) := by
  show (if xs.toArray.size ≤ 1000000 then some (xs.map fun c => PyData.str ⟨#[c]⟩).reverse else none) = _
  rw [if_pos (by rw [List.size_toArray]; exact h), ← List.map_reverse]; rfl
theorem enuK_x : enuK (some [sx xs]) = some (enumD 0 (xs.map fun c => sx [c])) := rfl
theorem seq_x : seqK (some (sx xs)) = some (xs.map fun c => sx [c]) := rfl
end
theorem sl_x {xs : List Nat} {lo hi : Option Int} (h : xs.length ≤ 1000000) : slD (sx xs) lo hi = some (sx (cutD xs lo hi)) := by
  unfold sx
  rw [sl_s (by rw [sx_len]; exact h)]
  have : cutS ⟨xs.toArray⟩ lo hi = ⟨(cutD xs lo hi).toArray⟩ := by
    unfold cutS cutD
    rw [sx_len]
  rw [this]
theorem sIx_m1 {n b : Nat} : HT.sIx n b (some (-1)) = n - 1 := by
  unfold HT.sIx
  simp
  omega
theorem cut_m1 {α : Type} {xs : List α} : cutD xs none (some (-1)) = xs.dropLast := by
  unfold cutD
  rw [HT.sIx_none, List.drop_zero, Nat.sub_zero, sIx_m1, List.dropLast_eq_take]
theorem cut_l1 {α : Type} {xs : List α} : cutD xs (some (-1)) none = xs.drop (xs.length - 1) := by
  unfold cutD
  rw [HT.sIx_none, sIx_m1, List.take_of_length_le (by rw [List.length_drop]; omega)]
/-- a loop that looks for the first item of a kind and hands back -/
theorem loop_find {β V : Type} {F : En → Option Out} {h : D → En → Option En} (E : V → En) (enc : β → D) (p : β → Bool) (r : β → D) : ∀ {bs : List β} (v : V) {X : Option Out}, forGo h F (bs.map enc) (E v) = X →
    (∀ b ∈ bs, ∀ v, (p b = true ∧ (h (enc b) (E v)).bind F = some (.rt (r b))) ∨ (p b = false ∧ ∃ v', (h (enc b) (E v)).bind F = some (.nx (E v')))) →
    (∃ b, bs.find? p = some b ∧ X = some (.rt (r b))) ∨ (bs.find? p = none ∧ ∃ v', X = some (.nx (E v')))
  | [], v, _, e, _ => .inr ⟨rfl, v, e.symm⟩
  | b :: bs, v, X, e, q => by
    rw [List.map_cons, forGo_c] at e
    rcases q b List.mem_cons_self v with ⟨h1, h2⟩ | ⟨h1, v', h2⟩
    · refine .inl ⟨b, by rw [List.find?_cons, h1], ?_⟩
      cases hh : h (enc b) (E v) with
      | none => rw [hh] at h2; cases h2
      | some ρ1 =>
        rw [hh, Option.bind_some] at h2
        rw [hh, tgK_s, h2, at_rt] at e
        exact e.symm
    · have e2 : forGo h F (bs.map enc) (E v') = X := by
        cases hh : h (enc b) (E v) with
        | none => rw [hh] at h2; cases h2
        | some ρ1 =>
          rw [hh, Option.bind_some] at h2
          rw [hh, tgK_s, h2, at_nx] at e
          exact e
      rcases loop_find E enc p r v' e2 (fun c hc => q c (List.mem_cons_of_mem _ hc)) with ⟨c, h3, h4⟩ | ⟨h3, h4⟩
      · exact .inl ⟨c, by rw [List.find?_cons, h1]; exact h3, h4⟩
      · exact .inr ⟨by rw [List.find?_cons, h1]; exact h3, h4⟩
/-! ### lists of the caller -/
def xiK (g : List D → List D → Option (D × List D)) (j : Nat) (ρ : En) : Option (Option SV) → Option (List D) → Option (D × En)
  | some (some (.ow us)), some ds => (g ds us).map fun p => (p.1, ρ.set j (some (.ow p.2)))
  | _, _ => none
def rpK (ρ : En) : Option D → Option Out
  | some d => some (.rp d ρ)
  | none => none
section
variable {g : List D → List D → Option (D × List D)} {i j n m : Nat} {ρ : En} {f : En → Option D} {F : En → Option Out} {a : En → Option (List D)} {d : D} {ds us : List D} {G H : En → Option Out}
theorem xIO_ap : xIO g j a ρ = xiK g j ρ ρ[j]? (a ρ) := by
  unfold xIO xiK
  generalize ρ[j]? = o
  generalize a ρ = b
  match o, b with
  | some (some (.ow us)), some _ => rfl
  | some (some (.ow us)), none => rfl
  | some (some (.ro _)), _ => rfl
  | some (some (.oK _ _)), _ => rfl
  | some (some (.lr _)), _ => rfl
  | some (some (.xc _ _)), _ => rfl
  | some none, _ => rfl
  | none, _ => rfl
theorem xiK_s : xiK g j ρ (some (some (.ow us))) (some ds) = (g ds us).map fun p => (p.1, ρ.set j (some (.ow p.2))) := rfl
theorem sRetP_ap : sRetP f ρ = rpK ρ (f ρ) := by unfold sRetP rpK; cases f ρ <;> rfl
theorem rpK_s : rpK ρ (some d) = some (.rp d ρ) := rfl
theorem gIO_ap (e : ds.length + 1 = n) : gIO n m F ds us = ioR ds.length (F (envIO m ds us)) := if_pos e
theorem ioR_rp : ioR i (some (.rp d ρ)) = ioK d ρ[i]? := rfl
theorem ioR_nx : ioR i (some (.nx ρ)) = ioK .none ρ[i]? := rfl
theorem ioK_s : ioK d (some (some (.ow us))) = some (d, us) := rfl
theorem sqK_rp : sqK (some (.rp d ρ)) G = some (.rp d ρ) := rfl
theorem ioR_ite {p : Prop} [Decidable p] {x y : Option Out} : ioR i (if p then x else y) = if p then ioR i x else ioR i y := by split <;> rfl
end
/-- a loop over a state, that may hand back -/
theorem loop_any {V : Type} {F : En → Option Out} {h : D → En → Option En} (E : V → En) (I : Nat → V → Prop) (R : D → Prop) : ∀ {ds : List D} (v : V) (n : Nat) {X : Option Out}, forGo h F ds (E v) = X → I n v →
    (∀ i d v, ds[i]? = some d → I (n + i) v → (∃ v', (h d (E v)).bind F = some (.nx (E v')) ∧ I (n + i + 1) v') ∨ ∃ r, (h d (E v)).bind F = some (.rt r) ∧ R r) →
    (∃ v', X = some (.nx (E v')) ∧ I (n + ds.length) v') ∨ ∃ r, X = some (.rt r) ∧ R r
  | [], v, n, _, e, h0, _ => .inl ⟨v, e.symm, h0⟩
  | d :: ds, v, n, X, e, h0, q => by
    rcases q 0 d v rfl h0 with ⟨v1, h1, h3⟩ | ⟨r, h1, h3⟩
    · rcases loop_any E I R (ds := ds) v1 (n + 1) rfl h3 (fun i e v he hI => by
        have := q (i + 1) e v (by simpa using he) (by rw [show n + (i + 1) = n + 1 + i from by omega]; exact hI)
        rw [show n + (i + 1) + 1 = n + 1 + i + 1 from by omega] at this
        exact this) with ⟨v', h4, h5⟩ | ⟨r, h4, h5⟩
      · refine .inl ⟨v', ?_, by rw [List.length_cons, show n + (ds.length + 1) = n + 1 + ds.length from by omega]; exact h5⟩
        rw [← e, forGo_c]
        cases hh : h d (E v) with
        | none => rw [hh] at h1; cases h1
        | some ρ1 =>
          rw [hh, Option.bind_some] at h1
          rw [tgK_s, h1, at_nx]; exact h4
      · refine .inr ⟨r, ?_, h5⟩
        rw [← e, forGo_c]
        cases hh : h d (E v) with
        | none => rw [hh] at h1; cases h1
        | some ρ1 =>
          rw [hh, Option.bind_some] at h1
          rw [tgK_s, h1, at_nx]; exact h4
    · refine .inr ⟨r, ?_, h3⟩
      rw [← e, forGo_c]
      cases hh : h d (E v) with
      | none => rw [hh] at h1; cases h1
      | some ρ1 =>
        rw [hh, Option.bind_some] at h1
        rw [tgK_s, h1, at_rt]
def chK (g g' : D → D → Option D) (fc : En → Option D) (ρ : En) : Option D → Option D → Option D
  | some x, some y => (g x y).bind fun z => match z with
    | .bool true => (fc ρ).bind fun w => g' y w
    | .bool false => some (.bool false)
    | _ => none
  | _, _ => none
theorem eChain_ap {g g' : D → D → Option D} {fa fb fc : En → Option D} {ρ : En} : eChain g g' fa fb fc ρ = chK g g' fc ρ (fa ρ) (fb ρ) := by
  unfold eChain chK
  cases fa ρ with
  | none => rfl
  | some x => cases fb ρ <;> rfl
theorem hUnl_ap {ds : List D} {n : Nat} {k : List D → En → Option En} {ρ : En} (e : ds.length = n) : hUnl n k (.list ds) ρ = k ds ρ := if_pos e
theorem revL_ap {fl : En → Option (List D)} {ρ : En} : revL fl ρ = (fl ρ).map List.reverse := rfl
/-! dicts -/
def kyeK : Option D → Option Ky
  | some d => (toK d).map .inl
  | none => none
def kytK : Option (List D) → Option Ky
  | some ds => if ds.length ≤ 1000000 then (toKs ds).map .inr else none
  | none => none
def dgK : Option D → Option Ky → Option D
  | some d, some k => (dLook d k).bind fun r => r
  | _, _ => none
def diK (neg : Bool) : Option Ky → Option D → Option D
  | some k, some d => (dLook d k).map fun r => .bool (r.isSome != neg)
  | _, _ => none
def dg1K : Option D → Option Ky → Option D
  | some d, some k => (dLook d k).map fun r => r.getD .none
  | _, _ => none
def dg2K : Option D → Option Ky → Option D → Option D
  | some d, some k, some z => (dLook d k).map fun r => r.getD z
  | _, _, _ => none
def dpK (i : Nat) (ρ : En) : Option (Option SV) → Option D → Option Ky → Option Out
  | some (some (.oK tt ds)), some d, some k => if ds.length < 1000000 ∧ tt = kindK k then some (.nx (ρ.set i (some (.oK tt (putD k d ds))))) else none
  | _, _, _ => none
def fzkK (i : Nat) (F : En → Option Out) (ρ : En) : Option (Option SV) → Option Out
  | some (some (.oK tt ds)) => F (ρ.set i (some (.ro (.dict (tails tt ds)))))
  | _ => F ρ
def pcK : Option D → Option D → Option (List (D × D)) → Option (List (D × D))
  | some k, some v, some r => if (toK k).isSome = true then some ((k, v) :: r) else none
  | _, _, _ => none
def dispK : Option (List (D × D)) → Option D
  | some r => if r.length ≤ 15 ∧ nodupK r = true then some (.dict r) else none
  | none => none
section
variable {ρ : En} {f g : En → Option D} {fk : En → Option Ky} {fl : En → Option (List D)} {i : Nat} {j : Int} {xs : List Nat} {tt neg : Bool} {ds : List (D × D)} {d z : D} {k : Ky} {F : En → Option Out} {fp : En → Option (List (D × D))} {r : Option D}
theorem kyE_ap : kyE f ρ = kyeK (f ρ) := by unfold kyE kyeK; cases f ρ <;> rfl
theorem kyeK_i : kyeK (some (.int j)) = some (.inl (.inl j)) := rfl
theorem kyeK_s {x : Str} : kyeK (some (.str x)) = some (.inl (.inr x)) := rfl
theorem kyeK_x : kyeK (some (sx xs)) = some (.inl (.inr ⟨xs.toArray⟩)) := rfl
theorem kyT_ap : kyT fl ρ = kytK (fl ρ) := by unfold kyT kytK; cases fl ρ <;> rfl
theorem kytK_ix : kytK (some [.int j, sx xs]) = some (.inr [.inl j, .inr ⟨xs.toArray⟩]) := rfl
theorem eDGet_ap : eDGet f fk ρ = dgK (f ρ) (fk ρ) := by unfold eDGet dgK; cases f ρ <;> cases fk ρ <;> rfl
theorem dgK_s (e : dLook d k = some (some z)) : dgK (some d) (some k) = some z := by unfold dgK; dsimp only; rw [e]; rfl
theorem eDIn_ap : eDIn neg fk f ρ = diK neg (fk ρ) (f ρ) := by unfold eDIn diK; cases f ρ <;> cases fk ρ <;> rfl
theorem diK_f (e : dLook d k = some r) : diK false (some k) (some d) = some (.bool r.isSome) := by unfold diK; dsimp only; rw [e]; show some (PyData.bool (r.isSome != false)) = _; rw [Bool.bne_false]
theorem diK_t (e : dLook d k = some r) : diK true (some k) (some d) = some (.bool (!r.isSome)) := by unfold diK; dsimp only; rw [e]; show some (PyData.bool (r.isSome != true)) = _; rw [Bool.bne_true]
theorem eDGet1_ap : eDGet1 f fk ρ = dg1K (f ρ) (fk ρ) := by unfold eDGet1 dg1K; cases f ρ <;> cases fk ρ <;> rfl
theorem dg1K_s (e : dLook d k = some r) : dg1K (some d) (some k) = some (r.getD .none) := by unfold dg1K; dsimp only; rw [e]; rfl
theorem eDGet2_ap : eDGet2 f fk g ρ = dg2K (f ρ) (fk ρ) (g ρ) := by unfold eDGet2 dg2K; cases f ρ <;> cases fk ρ <;> cases g ρ <;> rfl
theorem dg2K_s (e : dLook d k = some r) : dg2K (some d) (some k) (some z) = some (r.getD z) := by unfold dg2K; dsimp only; rw [e]; rfl
theorem sDNew_ap : sDNew i tt ρ = some (.nx (ρ.set i (some (.oK tt [])))) := rfl
theorem sDPutD_ap : sDPutD i fk f ρ = dpK i ρ ρ[i]? (f ρ) (fk ρ) := by
  unfold sDPutD dpK
  generalize ρ[i]? = o
  generalize f ρ = a
  generalize fk ρ = b
  match o, a, b with
  | some (some (.oK tt ds)), some _, some _ => rfl
  | some (some (.oK tt ds)), some _, none => rfl
  | some (some (.oK tt ds)), none, _ => rfl
  | some (some (.ro _)), _, _ => rfl
  | some (some (.ow _)), _, _ => rfl
  | some (some (.lr _)), _, _ => rfl
  | some (some (.xc _ _)), _, _ => rfl
  | some none, _, _ => rfl
  | none, _, _ => rfl
theorem dpK_T {ks : List Key} (h : ds.length < 1000000) : dpK i ρ (some (some (.oK true ds))) (some d) (some (.inr ks)) = some (.nx (ρ.set i (some (.oK true (putD (.inr ks) d ds))))) := if_pos ⟨h, rfl⟩
theorem dpK_K {ks : Key} (h : ds.length < 1000000) : dpK i ρ (some (some (.oK false ds))) (some d) (some (.inl ks)) = some (.nx (ρ.set i (some (.oK false (putD (.inl ks) d ds))))) := if_pos ⟨h, rfl⟩
theorem sFzK_ap : sFzK i F ρ = fzkK i F ρ ρ[i]? := by unfold sFzK fzkK; rfl
theorem fzkK_s : fzkK i F ρ (some (some (.oK tt ds))) = F (ρ.set i (some (.ro (.dict (tails tt ds))))) := rfl
theorem fzkK_ro : fzkK i F ρ (some (some (.ro d))) = F ρ := rfl
theorem rdB_oK : rdB (some (some (.oK tt ds))) = some (.dict (tails tt ds)) := rfl
theorem pNil_ap : pNil ρ = some [] := rfl
theorem pCons_ap : pCons f g fp ρ = pcK (f ρ) (g ρ) (fp ρ) := by unfold pCons pcK; cases f ρ <;> cases g ρ <;> cases fp ρ <;> rfl
theorem pcK_s {x : Str} {ps : List (D × D)} : pcK (some (.str x)) (some d) (some ps) = some ((.str x, d) :: ps) := rfl
theorem pcK_x {ps : List (D × D)} : pcK (some (sx xs)) (some d) (some ps) = some ((sx xs, d) :: ps) := rfl
theorem eDisp_ap : eDisp fp ρ = dispK (fp ρ) := by unfold eDisp dispK; cases fp ρ <;> rfl
theorem dispK_s {ps : List (D × D)} (h : ps.length ≤ 15) (h2 : nodupK ps = true) : dispK (some ps) = some (.dict ps) := if_pos ⟨h, h2⟩
theorem dispK_1 {p : D × D} : dispK (some [p]) = some (.dict [p]) := dispK_s (by show 1 ≤ 15; decide) rfl
theorem dLook_t (h : isT ds = false) (e : tt = kindK k) : dLook (.dict (tails tt ds)) k = some (look k ds) := by
  show (if isT (tails tt ds) = kindK k ∧ isI (tails tt ds) = false then some (look k (tails tt ds)) else none) = _
  rw [isT_tails h, if_pos ⟨e, isI_tails (isI_of h)⟩, look_tails]
end
def fzLK (i : Nat) (f : En → Option (List D)) (ρ : En) : Option (Option SV) → Option (List D)
  | some (some (.ow ds)) => (f (ρ.set i (some (.lr ds)))).bind fun zs => if immAll zs = true then some zs else none
  | _ => f ρ
theorem fzL_ap {i : Nat} {f : En → Option (List D)} {ρ : En} : fzL i f ρ = fzLK i f ρ ρ[i]? := by unfold fzL fzLK; rfl
theorem fzLK_s {i : Nat} {f : En → Option (List D)} {ρ : En} {ds : List D} : fzLK i f ρ (some (some (.ow ds))) = (f (ρ.set i (some (.lr ds)))).bind fun zs => if immAll zs = true then some zs else none := rfl
def fzTK (i : Nat) (f : En → Option Bool) (ρ : En) : Option (Option SV) → Option Bool
  | some (some (.ow ds)) => f (ρ.set i (some (.lr ds)))
  | _ => f ρ
theorem fzT_ap {i : Nat} {f : En → Option Bool} {ρ : En} : fzT i f ρ = fzTK i f ρ ρ[i]? := by unfold fzT fzTK; rfl
theorem fzTK_s {i : Nat} {f : En → Option Bool} {ρ : En} {ds : List D} : fzTK i f ρ (some (some (.ow ds))) = f (ρ.set i (some (.lr ds))) := rfl
def fzEK (i : Nat) (f : En → Option D) (ρ : En) : Option (Option SV) → Option D
  | some (some (.ow ds)) => (f (ρ.set i (some (.lr ds)))).bind fun d => if imm d = true then some d else none
  | _ => f ρ
theorem fzE_ap {i : Nat} {f : En → Option D} {ρ : En} : fzE i f ρ = fzEK i f ρ ρ[i]? := by unfold fzE fzEK; rfl
theorem fzEK_s {i : Nat} {f : En → Option D} {ρ : En} {ds : List D} : fzEK i f ρ (some (some (.ow ds))) = (f (ρ.set i (some (.lr ds)))).bind fun d => if imm d = true then some d else none := rfl
theorem chK_ll {fc : En → Option D} {ρ : En} {i j : Int} : chK leD leD fc ρ (some (.int i)) (some (.int j)) = if i ≤ j then b2 leD (some (.int j)) (fc ρ) else some (.bool false) := by
  unfold chK
  dsimp only
  rw [le_ii, Option.bind_some]
  by_cases h : i ≤ j
  · rw [if_pos h, decide_eq_true h]
    show (fc ρ).bind _ = _
    cases fc ρ <;> rfl
  · rw [if_neg h, decide_eq_false h]
end Z

set_option Elab.async false
set_option maxRecDepth 100000
set_option maxHeartbeats 4000000
set_option linter.all false
/-! YA: a set of unlike pairs, as large as may be -/
namespace Z
open PySem PySem.Spec PyProof.Rows L2

/-! ### i -> 5 i + 1 meets each slot of a table of 2 ^ e -/
def fI (x : Nat) : Nat → Nat
  | 0 => x
  | k + 1 => fI x k * 5 + 1
theorem fI_add (x a : Nat) : ∀ k, fI x (a + k) = fI (fI x a) k
  | 0 => rfl
  | k + 1 => by
    show fI x (a + k) * 5 + 1 = fI (fI x a) k * 5 + 1
    rw [fI_add x a k]
theorem fI_lin (x : Nat) : ∀ k, fI x k = 5 ^ k * x + fI 0 k
  | 0 => by
    show x = 5 ^ 0 * x + 0
    rw [Nat.pow_zero, Nat.one_mul, Nat.add_zero]
  | k + 1 => by
    show fI x k * 5 + 1 = 5 ^ (k + 1) * x + (fI 0 k * 5 + 1)
    rw [fI_lin x k, Nat.pow_succ, Nat.add_mul, Nat.mul_right_comm (5 ^ k) x 5, Nat.add_assoc]
theorem fI_four : ∀ k, 4 * fI 0 k + 1 = 5 ^ k
  | 0 => rfl
  | k + 1 => by
    have h := fI_four k
    show 4 * (fI 0 k * 5 + 1) + 1 = 5 ^ (k + 1)
    rw [Nat.pow_succ, ← h]; omega
theorem two_2 (e : Nat) : 2 ^ (e + 2) = 4 * 2 ^ e := by rw [Nat.pow_add, Nat.mul_comm]
theorem five_two : ∀ e, ∃ q, q % 2 = 1 ∧ 5 ^ 2 ^ e = 1 + 2 ^ (e + 2) * q
  | 0 => ⟨1, rfl, rfl⟩
  | e + 1 => by
    obtain ⟨q, h1, h2⟩ := five_two e
    refine ⟨q + 2 * (2 ^ e * (q * q)), by omega, ?_⟩
    have e1 : (2 : Nat) ^ (e + 1) = 2 ^ e * 2 := Nat.pow_succ ..
    have e3 : (2 : Nat) ^ (e + 1 + 2) = 8 * 2 ^ e := by rw [two_2, e1]; omega
    rw [e1, Nat.pow_mul, h2, e3, two_2]
    generalize (2 : Nat) ^ e = M
    have a1 : M * q * (M * q) = M * (M * (q * q)) := by
      rw [Nat.mul_mul_mul_comm, Nat.mul_assoc]
    have a2 : (1 + 4 * M * q) ^ 2 = 1 + 8 * (M * q) + 16 * (M * q * (M * q)) := by
      rw [Nat.pow_two, Nat.mul_assoc 4 M q]
      generalize M * q = y
      have z : 4 * y * (4 * y) = 16 * (y * y) := by rw [Nat.mul_mul_mul_comm]
      rw [Nat.mul_add, Nat.add_mul, Nat.add_mul, z]
      omega
    rw [a2, a1, Nat.mul_assoc 8 M, Nat.mul_add M, Nat.mul_left_comm M 2]
    omega
theorem fI_cover (j : Nat) : ∀ e x, ∃ k, k < 2 ^ e ∧ fI x k % 2 ^ e = j % 2 ^ e
  | 0, x => ⟨0, by decide, by rw [Nat.pow_zero, Nat.mod_one, Nat.mod_one]⟩
  | e + 1, x => by
    obtain ⟨k, h1, h2⟩ := fI_cover j e x
    obtain ⟨q, o, z⟩ := five_two e
    have pw : (2 : Nat) ^ (e + 1) = 2 ^ e * 2 := Nat.pow_succ ..
    have pos : 0 < (2 : Nat) ^ e := Nat.pow_pos (by decide)
    by_cases c : fI x k / 2 ^ e % 2 = j / 2 ^ e % 2
    · exact ⟨k, by omega, by rw [pw, Nat.mod_mul, Nat.mod_mul, h2, c]⟩
    · have g : fI 0 (2 ^ e) = 2 ^ e * q := by
        have h := fI_four (2 ^ e)
        rw [z, two_2, Nat.mul_assoc] at h
        omega
      refine ⟨k + 2 ^ e, by omega, ?_⟩
      have e1 : fI x (k + 2 ^ e) = fI x k + 2 ^ e * (4 * (q * fI x k) + q) := by
        rw [fI_add, fI_lin, z, g, two_2]
        generalize fI x k = y
        generalize (2 : Nat) ^ e = M
        rw [Nat.add_mul, Nat.one_mul, Nat.mul_add, Nat.mul_assoc 4 M q, Nat.mul_assoc 4, Nat.mul_left_comm M 4, Nat.mul_assoc M q y]
        omega
      rw [pw, Nat.mod_mul, Nat.mod_mul, e1, Nat.add_mul_mod_self_left, Nat.add_mul_div_left _ _ pos, h2]
      have e2 : (fI x k / 2 ^ e + (4 * (q * fI x k) + q)) % 2 = j / 2 ^ e % 2 := by
        generalize q * fI x k = y
        omega
      rw [e2]
/-- a table's mask -/
def MkOk (m : Nat) : Prop := ∃ e, m + 1 = 2 ^ e
theorem lcg_fI {m : Nat} (i : Nat) (hi : i ≤ m) : ∀ k, lcgI m i k = fI i k % (m + 1)
  | 0 => (Nat.mod_eq_of_lt (Nat.lt_succ_of_le hi)).symm
  | k + 1 => by
    show (lcgI m i k * 5 + 1) % (m + 1) = (fI i k * 5 + 1) % (m + 1)
    rw [lcg_fI i hi k, Nat.add_mod, Nat.mul_mod, Nat.mod_mod, ← Nat.mul_mod, ← Nat.add_mod]
theorem lcg_meets {m : Nat} (hm : MkOk m) {i j : Nat} (hi : i ≤ m) (hj : j ≤ m) : ∃ k, k ≤ m ∧ lcgI m i k = j := by
  obtain ⟨e, h⟩ := hm
  obtain ⟨k, k1, k2⟩ := fI_cover j e i
  exact ⟨k, by omega, by rw [lcg_fI i hi, h, k2]; exact Nat.mod_eq_of_lt (by omega)⟩
theorem run_all {m : Nat} (hm : MkOk m) (h : Int) {j : Nat} (hj : j ≤ m) : ∃ n, n ≤ m + 12 ∧ runI m (SetTable.bits h) n = j := by
  obtain ⟨k, h1, h2⟩ := lcg_meets hm (runI_le m (SetTable.bits h) 12) hj
  exact ⟨12 + k, by omega, (runI_tail (bits_lt h) k).trans h2⟩
theorem way_all {m : Nat} (hm : MkOk m) (h : Int) {j : Nat} (hj : j ≤ m) : ∃ k, k < 10 * SetTable.turns m ∧ way m h k = j := by
  obtain ⟨n, n1, n2⟩ := run_all hm h hj
  obtain ⟨k, k1, k2⟩ := run_nth m (SetTable.bits h) n
  exact ⟨k, by unfold SetTable.turns; omega, (congrArg SetTable.Probe.j k2).trans n2⟩
theorem way_in {m : Nat} {h : Int} {k : Nat} : way m h k ≤ m := by
  have b : SetTable.bits h % (m + 1) ≤ m := Nat.le_of_lt_succ (Nat.mod_lt _ (Nat.succ_pos _))
  have r := (runEnd_bd b).1
  have g := runEnd_ge m (SetTable.bits h % (m + 1))
  refine Nat.le_trans (Nat.le_add_right _ _) (nth_in (m := m) k (runAt m (SetTable.bits h % (m + 1)) (SetTable.bits h)) ?_)
  show SetTable.bits h % (m + 1) + (SetTable.runEnd m _ - SetTable.bits h % (m + 1)) ≤ m
  omega

/-! ### a table without gaps that were filled -/
structure Tb (t : SetTable) (n : Nat) : Prop where
  ris : Ris t.place.toList
  dm : t.dummies = #[]
  sz : t.place.size = n
  mo : MkOk t.mask
  le : n ≤ t.mask
theorem Tb.gap {t : SetTable} {n : Nat} (T : Tb t n) (h : Int) : ∃ K, K < 10 * SetTable.turns t.mask ∧ way t.mask h K ∉ t.place.toList ∧ ∀ k, k < K → way t.mask h k ∈ t.place.toList := by
  obtain ⟨j, j1, j2⟩ := st_missing t.place.toList (t.mask + 1) (by rw [Array.length_toList, T.sz]; exact Nat.lt_succ_of_le T.le)
  obtain ⟨k, k1, k2⟩ := way_all T.mo h (Nat.le_of_lt_succ j1)
  obtain ⟨K, a, b, c⟩ := st_least (p := fun k => way t.mask h k ∉ t.place.toList) k (by show way t.mask h k ∉ _; rw [k2]; exact j2)
  exact ⟨K, Nat.lt_of_le_of_lt a k1, b, fun i hi => Classical.byContradiction fun z => c i hi z⟩
theorem Tb.fit {t : SetTable} {n : Nat} (T : Tb t n) : t.fits n = true := by
  unfold SetTable.fits SetTable.fill
  rw [T.dm, T.sz, Bool.and_eq_true, beq_iff_eq, decide_eq_true_eq]
  exact ⟨rfl, T.le⟩
theorem MkOk.odd {m : Nat} (h : MkOk m) (h1 : 1 ≤ m) : m % 2 = 1 := by
  obtain ⟨e, h⟩ := h
  cases e with
  | zero => rw [Nat.pow_zero] at h; omega
  | succ e => rw [Nat.pow_succ] at h; omega
theorem Tb.put {t : SetTable} {n : Nat} (T : Tb t n) (hn : n < t.mask) {j : Nat} (hj : j ∉ t.place.toList) : Tb (t.put j).1 (n + 1) ∧ (t.put j).1.mask = t.mask ∧ (t.put j).1.fill = n + 1 := by
  have np : t.place[SetTable.below t.place j]? ≠ some j := fun e => hj (List.mem_of_getElem? (by rw [Array.getElem?_toList]; exact e))
  have pl : SetTable.below t.place j ≤ t.place.toList.length := by
    rw [Array.length_toList]; exact (below_cut T.ris j).1
  have sz : (t.put j).1.place.size = n + 1 := by
    rw [← Array.length_toList, put_place, len_ins _ pl, Array.length_toList, T.sz]
  refine ⟨⟨ris_insert T.ris np, put_dm T.dm j, sz, T.mo, hn⟩, rfl, ?_⟩
  show (t.put j).1.place.size + (t.put j).1.dummies.size = n + 1
  rw [sz, put_dm T.dm j]; rfl

/-! ### laid anew -/
theorem spot {m : Nat} (hm : MkOk m) (owner : Array (Option Nat)) (h : Int) {j : Nat} (hj : j ≤ m) (hf : oAt owner j = none) :
    ∃ y, y ≤ m ∧ SetTable.layClean.free m owner (SetTable.turns m) (SetTable.bits h % (m + 1)) (SetTable.bits h) = some y ∧ oAt owner y = none := by
  obtain ⟨n, n1, n2⟩ := run_all hm h hj
  have hw : way m h (off m (SetTable.bits h % (m + 1)) (SetTable.bits h) n) = j := by
    show (nth m (runAt m _ _) _).j = j
    rw [nth_off, itL_run]; exact n2
  obtain ⟨K, a, b, c⟩ := st_least (p := fun k => oAt owner (way m h k) = none) _ (by show oAt owner (way m h _) = none; rw [hw]; exact hf)
  refine ⟨way m h K, way_in, free_spec m owner (SetTable.turns m) n _ _ K (by unfold SetTable.turns; omega) a (fun k hk => ?_) ?_, b⟩
  · cases z : oAt owner (nth m (runAt m (SetTable.bits h % (m + 1)) (SetTable.bits h)) k).j with
    | none => exact absurd z (c k hk)
    | some _ => rfl
  · rw [show oAt owner (nth m (runAt m (SetTable.bits h % (m + 1)) (SetTable.bits h)) K).j = none from b]; rfl
structure Ow (m n : Nat) (owner : Array (Option Nat)) : Prop where
  sz : owner.size = m + 1
  all : ∀ k, k < n → ∃ j, j ≤ m ∧ oAt owner j = some k
  ps : ∃ ps : List Nat, ps.length = n ∧ ∀ j, j ≤ m → oAt owner j ≠ none → j ∈ ps
theorem Ow.zero (m : Nat) : Ow m 0 (Array.replicate (m + 1) none) := ⟨by simp, fun k hk => absurd hk (Nat.not_lt_zero _), [], rfl, fun j hj e => absurd (oAt_init hj) e⟩
theorem Ow.next {m n : Nat} (hm : MkOk m) {owner : Array (Option Nat)} (W : Ow m n owner) (hn : n ≤ m) (h : Int) :
    ∃ y, SetTable.layClean.free m owner (SetTable.turns m) (SetTable.bits h % (m + 1)) (SetTable.bits h) = some y ∧ Ow m (n + 1) (owner.setIfInBounds y (some n)) := by
  obtain ⟨ps, p1, p2⟩ := W.ps
  obtain ⟨j, j1, j2⟩ := st_missing ps (m + 1) (by omega)
  have hj : oAt owner j = none := by
    cases z : oAt owner j with
    | none => rfl
    | some k => exact absurd (p2 j (Nat.le_of_lt_succ j1) (by rw [z]; exact fun e => nomatch e)) j2
  obtain ⟨y, y1, y2, y3⟩ := spot hm owner h (Nat.le_of_lt_succ j1) hj
  have self := oAt_set_self (some n) (show y < owner.size by rw [W.sz]; exact Nat.lt_succ_of_le y1)
  refine ⟨y, y2, by rw [Array.size_setIfInBounds]; exact W.sz, fun k hk => ?_, y :: ps, by rw [List.length_cons, p1], fun i hi e => ?_⟩
  · rcases Nat.lt_or_ge k n with c | c
    · obtain ⟨i, i1, i2⟩ := W.all k c
      exact ⟨i, i1, (oAt_set_ne _ fun z => by rw [z, y3] at i2; cases i2).trans i2⟩
    · have e : k = n := by omega
      exact ⟨y, y1, by rw [e]; exact self⟩
  · by_cases c : i = y
    · rw [c]; exact List.mem_cons_self
    · rw [oAt_set_ne _ c] at e
      exact List.mem_cons_of_mem _ (p2 i hi e)
theorem Ow.fold {m : Nat} (hm : MkOk m) : ∀ (hs : List Int) (n : Nat) (owner : Array (Option Nat)), Ow m n owner → n + hs.length ≤ m →
    ∃ ow, hs.foldl (stepF m) (some (owner, n)) = some (ow, n + hs.length) ∧ Ow m (n + hs.length) ow
  | [], n, owner, W, _ => ⟨owner, rfl, W⟩
  | h :: hs, n, owner, W, hl => by
    rw [List.length_cons] at hl
    obtain ⟨y, y1, W2⟩ := W.next hm (by omega) h
    obtain ⟨ow, o1, o2⟩ := Ow.fold hm hs (n + 1) _ W2 (by omega)
    have e : n + 1 + hs.length = n + (h :: hs).length := by rw [List.length_cons]; omega
    rw [e] at o1 o2
    exact ⟨ow, by rw [List.foldl_cons, stepF_some y1]; exact o1, o2⟩
theorem lay_n {m : Nat} (hm : MkOk m) {hs : Array Int} (hn : hs.size ≤ m) : ∃ ow, SetTable.layClean m hs = some ow ∧ Ow m hs.size ow := by
  obtain ⟨ow, o1, o2⟩ := Ow.fold hm hs.toList 0 _ (Ow.zero m) (by rw [Array.length_toList]; omega)
  rw [Array.length_toList, Nat.zero_add] at o1 o2
  exact ⟨ow, by rw [layClean_eq, o1]; rfl, o2⟩
theorem relaid_n (t : SetTable) {hs : Array Int} {wanted M : Nat} (hw : SetTable.sizeAbove wanted - 1 = M) (hM : MkOk M) (hn : hs.size ≤ M) :
    ∃ t' order, t.relaid hs wanted = some (t', order) ∧ order.toList.Perm (List.range hs.size) ∧ Tb t' hs.size ∧ t'.mask = M := by
  obtain ⟨ow, e, W⟩ := lay_n hM hn
  have ris := ris_live (fun j => ow.getD j none) (List.range (M + 1)) (by unfold Ris; first | exact List.pairwise_lt_range | exact List.pairwise_lt_range _)
  have r1 : Ris ((liveOf M ow).map (·.1)) := ris.1
  have nd : ((liveOf M ow).map (·.1)).Nodup := List.Pairwise.imp (fun h => Nat.ne_of_lt h) r1
  obtain ⟨ps, p1, p2⟩ := W.ps
  have len : (liveOf M ow).length = hs.size := by
    have a := nat_nodup_len _ ps nd fun x hx => by
      obtain ⟨⟨y, k⟩, q1, rfl⟩ := List.mem_map.mp hx
      obtain ⟨b1, b2⟩ := (mem_live W.sz).1 q1
      exact p2 y b1 (by rw [b2]; exact fun z => nomatch z)
    have b := nat_nodup_len (List.range hs.size) ((liveOf M ow).map (·.2)) List.nodup_range fun k hk => by
      obtain ⟨j, b1, b2⟩ := W.all k (List.mem_range.mp hk)
      exact List.mem_map.mpr ⟨(j, k), (mem_live W.sz).2 ⟨b1, b2⟩, rfl⟩
    rw [List.length_map, p1] at a
    rw [List.length_map, List.length_range] at b
    omega
  refine ⟨tabOf t M ow, ((liveOf M ow).map (·.2)).toArray, by rw [relaid_eq, hw, e]; rfl, perm_range hs.size _ (by show ((liveOf M ow).map (·.2)).length = _; rw [List.length_map, len]) fun k hk => ?_, ⟨r1, rfl, ?_, hM, hn⟩, rfl⟩
  · obtain ⟨j, b1, b2⟩ := W.all k hk
    exact List.mem_map.mpr ⟨(j, k), (mem_live W.sz).2 ⟨b1, b2⟩, rfl⟩
  · show ((liveOf M ow).map (·.1)).toArray.size = hs.size
    rw [List.size_toArray, List.length_map, len]
theorem go_two (n : Nat) : ∀ (f a : Nat), n < 2 ^ (a + f) → ∃ e, SetTable.sizeAbove.go n f (2 ^ a) = 2 ^ e ∧ n < 2 ^ e ∧ (e = a ∨ 2 ^ e ≤ 2 * n)
  | 0, a, h => ⟨a, rfl, h, .inl rfl⟩
  | f + 1, a, h => by
    by_cases c : 2 ^ a ≤ n
    · obtain ⟨e, e1, e2, e3⟩ := go_two n f (a + 1) (by rw [show a + 1 + f = a + (f + 1) by omega]; exact h)
      refine ⟨e, ?_, e2, .inr ?_⟩
      · rw [← e1]
        show (if 2 ^ a ≤ n then SetTable.sizeAbove.go n f (2 ^ a * 2) else 2 ^ a) = _
        rw [if_pos c, Nat.pow_succ]
      · rcases e3 with z | z
        · rw [z, Nat.pow_succ]; omega
        · exact z
    · refine ⟨a, ?_, by omega, .inl rfl⟩
      show (if 2 ^ a ≤ n then SetTable.sizeAbove.go n f (2 ^ a * 2) else 2 ^ a) = _
      rw [if_neg c]
/-- the size of a table that grows, while there are few -/
theorem grown_ok {n : Nat} (h1 : 1 ≤ n) (h : n ≤ 2000) : ∃ M, SetTable.sizeAbove (SetTable.grown n) - 1 = M ∧ MkOk M ∧ M ≤ 8191 ∧ n * 4 ≤ M ∧ SetTable.sizeAbove (SetTable.grown n) ≤ 8192 := by
  have g : SetTable.grown n = n * 4 := by
    unfold SetTable.grown
    rw [if_neg (by omega)]
  obtain ⟨e, e1, e2, e3⟩ := go_two (n * 4) 64 3 (Nat.lt_of_lt_of_le (show n * 4 < 8192 by omega) (by decide))
  have e4 : SetTable.sizeAbove (SetTable.grown n) = 2 ^ e := by rw [g]; exact e1
  have le : 2 ^ e ≤ 8192 := by
    rcases e3 with z | z
    · rw [z]; decide
    · have lt : 2 ^ e < 2 ^ 14 := by
        have : (2 : Nat) ^ 14 = 16384 := rfl
        omega
      have : e < 14 := (Nat.pow_lt_pow_iff_right (by decide)).mp lt
      exact Nat.pow_le_pow_right (n := 2) (by decide) (show e ≤ 13 by omega)
  have pos : 0 < 2 ^ e := Nat.pow_pos (by decide)
  exact ⟨2 ^ e - 1, by rw [e4], ⟨e, by omega⟩, by omega, by omega, by rw [e4]; exact le⟩
end Z

set_option Elab.async false
set_option maxRecDepth 100000
set_option maxHeartbeats 4000000
set_option linter.all false
/-! YB: len(set(a list of unlike pairs)) -/
namespace Z
open PySem PySem.Spec PyProof.Rows L2
abbrev PT (P : Program) (w : World) (h : Heap) (k : List Key) (a : Addr) : Prop := IsTupleKey (mixKind P w) h k a
abbrev ptH (P : Program) (w : World) (k : List Key) : Int := tupleKeyHash (mixKind P w) k
section
variable {P : Program} {w : World} {A : Around} {E : Value → Shared → Prop} {s : Shared}
theorem items_mx {k : List Key} {vs : List Value} (h : ItemsAre (mixKind P w) k vs) : ∀ v ∈ vs, (∃ i t, v = Value.int i t) ∨ ∃ x t, v = Value.str x t := by
  induction h with
  | nil => intro v hv; cases hv
  | cons h1 _ ih =>
    intro v hv
    rcases List.mem_cons.mp hv with rfl | hv
    · rcases keyIs_shape h1 with ⟨i, t, _, e⟩ | ⟨x, t, _, e⟩
      · exact .inl ⟨i, t, e⟩
      · exact .inr ⟨x, t, e⟩
    · exact ih v hv
theorem cls_is (n : Nat) {v : Value} (h : (∃ i t, v = Value.int i t) ∨ ∃ x t, v = Value.str x t) : ofAClassStatement n v = pure false := by
  rcases h with ⟨i, t, rfl⟩ | ⟨x, t, rfl⟩ <;> cases n <;> rfl
theorem hby_is (n : Nat) {v : Value} (h : (∃ i t, v = Value.int i t) ∨ ∃ x t, v = Value.str x t) : ∃ b, hashByValue n v = pure b := by
  rcases h with ⟨i, t, rfl⟩ | ⟨x, t, rfl⟩
  · exact ⟨true, by cases n <;> rfl⟩
  · exact ⟨false, by cases n <;> rfl⟩
theorem cls_pr {k : List Key} {b : Addr} {Q : Bool → Shared → Prop} (hk : PT P w s.heap k b) (h : Q false s) : wpAny (model P w) A (ofAClassStatement 8 (.ref b)) Q E s := by
  have hT := hk.typeIs
  obtain ⟨o, items, n, ho, _, hd, hi⟩ := hk
  unfold ofAClassStatement
  refine wpAny_bind (wpAny_typeOf hT ?_)
  dsimp only
  have e : (("tuple" : String) == "tuple") = true := by decide
  simp only [e, if_true, Bool.not_true, Bool.false_eq_true, if_false]
  try refine wpAny_bind (wpAny_pure ?_)
  try simp only [Bool.not_true, Bool.false_eq_true, if_false]
  show wpAny _ _ (seqItems? (.ref b) >>= _) _ _ s
  refine wpAny_bind (wpAny_seqItems ho hd ?_)
  dsimp only
  refine wpAny_bind ?_
  show wpAny _ _ (forIn items _ _) _ _ s
  rw [← Array.forIn_toList]
  refine wpAny_forIn_list _ (fun rest r s' => r.1 = none ∧ s' = s ∧ ∀ v ∈ rest, (∃ i t, v = Value.int i t) ∨ ∃ x t, v = Value.str x t) _ ?_ ?_ _ _ ⟨rfl, rfl, items_mx hi⟩
  · rintro v rest r s' ⟨hr, rfl, all⟩
    rw [cls_is _ (all v List.mem_cons_self)]
    refine wpAny_bind (wpAny_pure ?_)
    simp only [Bool.false_eq_true, if_false]
    exact wpAny_pure ⟨rfl, rfl, fun u z => all u (List.mem_cons_of_mem _ z)⟩
  · rintro ⟨r1, r2⟩ s' ⟨hr, rfl, _⟩
    cases hr
    exact wpAny_pure h
theorem hby_pr {k : List Key} {b : Addr} {Q : Bool → Shared → Prop} (hk : PT P w s.heap k b) (h : ∀ r, Q r s) : wpAny (model P w) A (hashByValue 8 (.ref b)) Q E s := by
  have hT := hk.typeIs
  obtain ⟨o, items, n, ho, _, hd, hi⟩ := hk
  unfold hashByValue
  refine wpAny_bind (wpAny_specialOf hT F.slot_tuple_hash.lookup ?_)
  show wpAny _ _ (seqItems? (.ref b) >>= _) _ _ s
  refine wpAny_bind (wpAny_seqItems ho hd ?_)
  refine wpAny_bind ?_
  show wpAny _ _ (forIn items _ _) _ _ s
  rw [← Array.forIn_toList]
  refine wpAny_forIn_list _ (fun rest r s' => r.1 = none ∧ s' = s ∧ ∀ v ∈ rest, (∃ i t, v = Value.int i t) ∨ ∃ x t, v = Value.str x t) _ ?_ ?_ _ _ ⟨rfl, rfl, items_mx hi⟩
  · rintro v rest r s' ⟨hr, rfl, all⟩
    obtain ⟨c, e⟩ := hby_is 7 (all v List.mem_cons_self)
    rw [e]
    refine wpAny_bind (wpAny_pure ?_)
    cases c with
    | true =>
      simp only [Bool.not_true, Bool.false_eq_true, if_false]
      exact wpAny_pure ⟨rfl, rfl, fun u z => all u (List.mem_cons_of_mem _ z)⟩
    | false =>
      simp only [Bool.not_false, if_true]
      exact wpAny_pure (wpAny_pure (h false))
  · rintro ⟨r1, r2⟩ s' ⟨hr, rfl, _⟩
    cases hr
    exact wpAny_pure (h true)
theorem seen_pr {k : List Key} {b : Addr} {Q : Bool → Shared → Prop} (hk : PT P w s.heap k b) {ys : List Value} (hy : ∀ y ∈ ys, ∃ k' c, y = Value.ref c ∧ PT P w s.heap k' c) (h : Q false s) :
    wpAny (model P w) A (searchCouldBeSeen (.ref b) ys) Q E s := by
  unfold searchCouldBeSeen
  refine wpAny_bind ?_
  refine wpAny_forIn_list _ (fun rest r s' => r.1 = none ∧ s' = s ∧ ∀ y ∈ rest, ∃ k' c, y = Value.ref c ∧ PT P w s.heap k' c) _ ?_ ?_ _ _ ⟨rfl, rfl, hy⟩
  · rintro v rest r s' ⟨hr, rfl, all⟩
    obtain ⟨k', c, rfl, hc⟩ := all v List.mem_cons_self
    have more : ∀ y ∈ rest, ∃ k' c, y = Value.ref c ∧ PT P w s'.heap k' c := fun u z => all u (List.mem_cons_of_mem _ z)
    dsimp only
    by_cases hv : (b == c || (carriedByValue (.ref b) && carriedByValue (.ref c))) = true
    · exact wp_if_pos hv (wpAny_pure ⟨rfl, rfl, more⟩)
    · refine wp_if_neg hv ?_
      refine wpAny_bind (wpAny_eqIsQuiet_tuple hk ?_)
      simp only [Bool.not_true, Bool.false_eq_true, if_false]
      refine wpAny_bind (wpAny_eqIsQuiet_tuple hc ?_)
      simp only [Bool.not_true, Bool.false_eq_true, if_false]
      refine wpAny_bind (cls_pr hk ?_)
      simp only [Bool.false_eq_true, if_false]
      refine wpAny_bind (cls_pr hc ?_)
      simp only [Bool.false_eq_true, if_false]
      exact wpAny_pure ⟨rfl, rfl, more⟩
  · rintro ⟨r1, r2⟩ s' ⟨hr, rfl, _⟩
    cases hr
    exact wpAny_pure h

/-! ### the search for a pair that is not there -/
abbrev p0 (m : Nat) (h : Int) : SetTable.Probe := runAt m (SetTable.bits h % (m + 1)) (SetTable.bits h)
theorem nth_dm (m : Nat) : ∀ (n : Nat) (p : SetTable.Probe), p.dummy = none → (nth m p n).dummy = none
  | 0, _, h => h
  | n + 1, p, h => nth_dm m n (adv m p) (by unfold adv; split <;> exact h)
/-- who is in: pairs other than k -/
def Oth (P : Program) (w : World) (h : Heap) (k : List Key) (es : List (Int × Value)) : Prop := ∀ e ∈ es, ∃ b kb, e.2 = Value.ref b ∧ PT P w h kb b ∧ kb ≠ k
theorem hunt {a : Addr} {o : Obj} {es : Array (Int × Value)} {ep : Nat} {t : SetTable} (ho : s.heap.get? a = some o) (hd : o.data = .set es ep t) (T : Tb t es.size) (h7 : 1 ≤ t.mask) {x : Addr} {k : List Key} (hx : PT P w s.heap k x) (hu : A.units < cLine) {h : Int}
    (hE : Oth P w s.heap k es.toList) {K : Nat} (hKf : K < 10 * SetTable.turns t.mask) (hK : way t.mask h K ∉ t.place.toList) (hKb : ∀ c, c < K → way t.mask h c ∈ t.place.toList) {Q : SetFound → Shared → Prop} (hQ : Q (.free (way t.mask h K) false) s) :
    ∀ (f c : Nat) (stand : Option SetTable.Probe), stand.getD (t.probeStart h) = nth t.mask (p0 t.mask h) c → c ≤ K → K - c < f → wpAny (model P w) A (setSearchFrom a (.ref x) h true f stand) Q E s
  | 0, c, stand, _, _, hf => absurd hf (Nat.not_lt_zero _)
  | f + 1, c, stand, hst, hc, hf => by
    rw [setSearchFrom_succ]
    refine wpAny_bind (wpAny_setState_of ho hd T.fit ?_)
    dsimp only
    refine wp_if_neg (by unfold SetTable.gaveWay; rw [T.mo.odd h7]; decide) ?_
    try refine wpAny_bind (wpAny_pure ?_)
    have e1 : ∀ q, (nth t.mask (nth t.mask (p0 t.mask h) c) q).j = way t.mask h (c + q) := fun q => congrArg SetTable.Probe.j (nth_add t.mask c (p0 t.mask h) q).symm
    have eK : c + (K - c) = K := by omega
    rcases go_spec t T.ris T.dm (fun i => (es[i]?.map (·.1)).getD 0) h (10 * SetTable.turns t.mask) (K - c) _ (nth_dm t.mask c (p0 t.mask h) rfl) (by omega) (fun q hq => by rw [e1]; exact hKb _ (by omega)) (by rw [e1, eK]; exact hK) with ⟨q, i, hq, hi, _, _, hpr⟩ | ⟨_, hpr⟩
    · have pr : t.probe (fun i => (es[i]?.map (·.1)).getD 0) h (stand.getD (t.probeStart h)) = some (.candidate (way t.mask h (c + q)) i (nth t.mask (p0 t.mask h) (c + (q + 1)))) := by
        rw [hst, ← e1, nth_add t.mask c (p0 t.mask h) (q + 1)]
        exact hpr
      rw [pr]
      dsimp only
      rw [e1] at hi
      have hil : i < es.size := by
        have h1 := (List.getElem?_eq_some_iff.mp hi).1
        rw [Array.length_toList, T.sz] at h1
        exact h1
      have he : es[i]? = some es[i] := Array.getElem?_eq_getElem hil
      obtain ⟨b, kb, eb, hb, ne⟩ := hE es[i] (by simp)
      generalize es[i] = en at he eb
      obtain ⟨hh, y⟩ := en
      have eb : y = Value.ref b := eb
      subst eb
      have rest : wpAny (model P w) A (searchRest a (.ref x) h true f es t (way t.mask h (c + q)) i (nth t.mask (p0 t.mask h) (c + (q + 1)))) Q E s := by
        unfold searchRest
        rw [he]
        dsimp only
        refine wpAny_bind (wpAny_holding (wpAny_eqBool_tuple hu hb hx ?_))
        refine wpAny_bind (wpAny_setState_of ho hd T.fit ?_)
        dsimp only
        refine wp_if_neg (by simp [ne]) ?_
        try refine wpAny_bind (wpAny_pure ?_)
        rw [sameMem]
        dsimp only
        have sl : t.slot (way t.mask h (c + q)) = .live i := slot_live T.ris hi
        simp only [if_true, sl, he]
        refine wpAny_bind (wpAny_isSame_ref_self (wpAny_bind (wpAny_pure ?_)))
        simp only [if_true]
        refine wp_if_neg (by simp [ne]) ?_
        exact hunt ho hd T h7 hx hu hE hKf hK hKb hQ f (c + (q + 1)) _ rfl (by omega) (by omega)
      by_cases hl : t.led = true
      · refine wp_if_neg (by simp [hl]) ?_
        try refine wpAny_bind (wpAny_pure ?_)
        exact rest
      · refine wp_if_pos (by simp [hl]) ?_
        refine wpAny_bind (seen_pr hx (fun y hy => ?_) ?_)
        · obtain ⟨e, he2, ee⟩ := List.mem_map.mp hy
          have h1 : e ∈ es ∧ e.1 = h := by simpa using he2
          obtain ⟨b2, k2, a1, a2, _⟩ := hE e (by simpa using h1.1)
          exact ⟨k2, b2, by rw [← ee, a1], a2⟩
        · refine wp_if_neg (by decide) ?_
          try refine wpAny_bind (wpAny_pure ?_)
          exact rest
    · have pr : t.probe (fun i => (es[i]?.map (·.1)).getD 0) h (stand.getD (t.probeStart h)) = some (.empty (way t.mask h K) none) := by
        have e2 : way t.mask h K = (nth t.mask (nth t.mask (p0 t.mask h) c) (K - c)).j := by rw [e1, eK]
        rw [hst, e2]
        exact hpr
      rw [pr]
      exact wpAny_pure hQ

/-! ### the set -/
/-- a set of n things, each one with a property, its table whole -/
structure PrO (n : Nat) (G : Int × Value → Prop) (o : Obj) : Prop where
  ex : ∃ es ep t, o.ExactSet ∧ o.data = .set es ep t ∧ es.size = n ∧ (∀ e ∈ es.toList, G e) ∧ Tb t n ∧ 1 ≤ t.mask ∧ t.mask ≤ 8191 ∧ n * 5 < t.mask * 3
theorem same_pt {h h' : Heap} {k : List Key} {a b : Addr} {o : Obj} {es : Array (Int × Value)} {ep : Nat} {t : SetTable} (hb : PT P w h k b) (ho : h.get? a = some o) (hd : o.data = .set es ep t) (hs : Heap.SameBut a h h') : PT P w h' k b := by
  obtain ⟨u, items, n, hu, hc, hd2, hi⟩ := hb
  refine ⟨u, items, n, (hs.2 b fun e => ?_).trans hu, hc, hd2, hi⟩
  rw [e, ho] at hu
  cases hu
  rw [hd] at hd2
  cases hd2
theorem ord_perm {α : Type} (es : Array α) (order : Array Nat) (hp : order.toList.Perm (List.range es.size)) : (order.filterMap (es[·]?)).toList.Perm es.toList := by
  rw [Array.toList_filterMap]
  refine (hp.filterMap _).trans (.of_eq ?_)
  have key : ∀ n, n ≤ es.size → (List.range n).filterMap (fun i => es[i]?) = es.toList.take n := by
    intro n
    induction n with
    | zero => intro _; rfl
    | succ n ih =>
      intro hn
      have e : es[n]? = some es[n] := Array.getElem?_eq_getElem hn
      rw [List.range_succ, List.filterMap_append, ih (Nat.le_of_lt hn), List.filterMap_cons_some e, List.take_add_one, Array.getElem?_toList, e]; rfl
  rw [key _ (Nat.le_refl _), ← Array.length_toList, List.take_length]
/-- the table laid anew, larger -/
theorem relay_pr {a : Addr} {o : Obj} {es : Array (Int × Value)} {ep n : Nat} {t : SetTable} {G : Int × Value → Prop} (ho : s.heap.get? a = some o) (hex : o.ExactSet) (hd : o.data = .set es ep t) (hn : es.size = n) (hG : ∀ e ∈ es.toList, G e) (T : Tb t n) (h1 : 1 ≤ n) (h2 : n ≤ 2000) {Q : Unit → Shared → Prop}
    (hQ : ∀ h' o', Heap.SameBut a s.heap h' → h'.get? a = some o' → PrO n G o' → Q () { s with heap := h' }) : wpAny (model P w) A (setRelay a (SetTable.grown n)) Q E s := by
  obtain ⟨M, m1, m2, m3, m4, m5⟩ := grown_ok h1 h2
  obtain ⟨t', order, e, hp, T2, em⟩ := relaid_n t (hs := es.map (·.1)) m1 m2 (by rw [Array.size_map, hn]; omega)
  rw [Array.size_map] at hp T2
  have pm := ord_perm es order hp
  have sz : (order.filterMap (es[·]?)).size = es.size := by
    rw [← Array.length_toList, pm.length_eq, Array.length_toList]
  rw [setRelay_eq]
  refine wpAny_bind (wpAny_setState_of ho hd (by rw [hn]; exact T.fit) ?_)
  dsimp only
  refine wp_if_neg (by rw [sizeLine_eq]; omega) ?_
  try refine wpAny_bind (wpAny_pure ?_)
  rw [e]
  dsimp only
  refine wpAny_bind ?_
  refine wp_if_neg (by rw [sz]; simp) ?_
  try refine wpAny_bind (wpAny_pure ?_)
  refine wpAny_pure ?_
  dsimp only
  refine wpAny_storeSet_of ho hd ?_ (by rw [sz, hn, sizeLine_eq]; omega)
  refine hQ _ _ (Heap.SameBut.update ..) (store_at ho hd) ⟨_, ep + 1, t', ⟨hex.1, hex.2.1, hex.2.2⟩, rfl, sz.trans hn, fun u hu => hG u (pm.mem_iff.mp hu), by rw [← hn]; exact T2, by omega, by omega, by omega⟩
theorem mem_insAt {α : Type} {es : Array α} {p : Nat} {x y : α} (h : y ∈ (SetTable.insertAt es p x).toList) : y = x ∨ y ∈ es.toList := by
  rw [SetTable.toList_insertAt] at h
  exact mem_ins.1 h
theorem size_insAt {α : Type} {es : Array α} {p : Nat} {x : α} (hp : p ≤ es.size) : (SetTable.insertAt es p x).size = es.size + 1 := by
  rw [← Array.length_toList, SetTable.toList_insertAt, len_ins _ (by rw [Array.length_toList]; exact hp), Array.length_toList]
/-- a pair that is not in is put in -/
theorem put_pr {a x : Addr} {o : Obj} {n : Nat} {k : List Key} {G : Int × Value → Prop} (ho : s.heap.get? a = some o) (R : PrO n G o) (hx : PT P w s.heap k x) (hu : A.units < cLine) (hn : n + 1 ≤ 2000) (hG : ∀ e, G e → ∃ b kb, e.2 = Value.ref b ∧ PT P w s.heap kb b ∧ kb ≠ k) {Q : Bool → Shared → Prop}
    (hQ : ∀ h' o', Heap.SameBut a s.heap h' → h'.get? a = some o' → PrO (n + 1) (fun e => e = (ptH P w k, Value.ref x) ∨ G e) o' → Q true { s with heap := h' }) : wpAny (model P w) A (setAddHashed a (.ref x) (ptH P w k)) Q E s := by
  obtain ⟨es, ep, t, hex, hd, hz, hg, T, m1, m2, m3⟩ := R.ex
  have fit : t.fits es.size = true := by rw [hz]; exact T.fit
  obtain ⟨K, K1, K2, K3⟩ := T.gap (ptH P w k)
  unfold setAddHashed
  refine wpAny_holding ?_
  rw [show (100000 : Nat) = 99999 + 1 from rfl, setAddHashedIn_succ]
  refine wpAny_bind (wpAny_setState_of ho hd fit ?_)
  dsimp only
  refine wp_if_neg (by simp [byScan, Value.scannable]) ?_
  try refine wpAny_bind (wpAny_pure ?_)
  refine wpAny_bind ?_
  unfold setSearch
  refine hunt ho hd (by rw [hz]; exact T) m1 hx hu (fun e he => hG e (hg e he)) K1 K2 K3 ?_ 100000 0 none rfl (Nat.zero_le _) (by unfold SetTable.turns at K1; omega)
  dsimp only
  refine wpAny_bind (wpAny_setState_of ho hd fit ?_)
  dsimp only
  obtain ⟨q1, q2, q3⟩ := T.put (by omega) K2
  have pl : SetTable.below t.place (way t.mask (ptH P w k) K) ≤ es.size := by
    rw [hz, ← T.sz]; exact (below_cut T.ris _).1
  have fin : ∀ t1 : SetTable, Tb t1 (n + 1) → t1.mask = t.mask → t1.fill = n + 1 → ∀ p, p ≤ es.size → wpAny (model P w) A (do
      storeSet a (SetTable.insertAt es p (ptH P w k, .ref x)) t1
      if !false && t1.tooFull then setRelay a (SetTable.grown (es.size + 1))
      return true) Q E s := fun t1 T1 e1 e2 p hp => by
    have sz := size_insAt (x := (ptH P w k, Value.ref x)) hp
    have gg : ∀ e ∈ (SetTable.insertAt es p (ptH P w k, Value.ref x)).toList, e = (ptH P w k, Value.ref x) ∨ G e := fun e he => (mem_insAt he).imp id (hg e)
    generalize SetTable.insertAt es p (ptH P w k, Value.ref x) = es1 at sz gg ⊢
    refine wpAny_bind (wpAny_storeSet_of ho hd ?_ (by rw [sz, hz, sizeLine_eq]; omega))
    have sb : Heap.SameBut a s.heap (s.heap.update a (Obj.putSet es1 t1)) := Heap.SameBut.update ..
    have ho1 := store_at (es' := es1) (t' := t1) ho hd
    generalize s.heap.update a (Obj.putSet es1 t1) = h1 at sb ho1 ⊢
    by_cases hf : t1.tooFull = true
    · first
        | (refine wpAny_bind ?_; refine wp_if_pos (by simp [hf]) ?_)
        | (refine wp_if_pos (by simp [hf]) ?_; refine wpAny_bind ?_)
      rw [hz]
      refine relay_pr (s := { s with heap := h1 }) ho1 ⟨hex.1, hex.2.1, hex.2.2⟩ rfl (sz.trans (by rw [hz])) gg T1 (by omega) hn fun h2 o2 sb2 ho2 R2 => ?_
      exact wpAny_pure (hQ h2 o2 (sb.trans sb2) ho2 R2)
    · first
        | refine wp_if_neg (by simp [hf]) ?_
        | (refine wpAny_bind ?_; refine wp_if_neg (by simp [hf]) ?_; refine wpAny_pure ?_)
      have hf2 : ¬ (n + 1) * 5 ≥ t.mask * 3 := fun z => hf (by unfold SetTable.tooFull; rw [decide_eq_true_eq, e2, e1]; exact z)
      refine wpAny_pure (hQ h1 _ sb ho1 ⟨es1, ep + 1, t1, ⟨hex.1, hex.2.1, hex.2.2⟩, rfl, sz.trans (by rw [hz]), gg, T1, by omega, by omega, by omega⟩)
  have e2 : (t.put (way t.mask (ptH P w k) K)).2 = SetTable.below t.place (way t.mask (ptH P w k) K) := rfl
  generalize hpt : t.put (way t.mask (ptH P w k) K) = pt at q1 q2 q3 e2 ⊢
  obtain ⟨t1, p⟩ := pt
  dsimp only at q1 q2 q3 e2 ⊢
  subst e2
  have two : ∀ r : Bool, Tb (if r = true then t1 else { t1 with plain := false }) (n + 1) ∧ (if r = true then t1 else { t1 with plain := false }).mask = t.mask ∧ (if r = true then t1 else { t1 with plain := false }).fill = n + 1 := fun r => by
    cases r with
    | true => exact ⟨q1, q2, q3⟩
    | false => exact ⟨⟨q1.ris, q1.dm, q1.sz, q1.mo, q1.le⟩, q2, q3⟩
  by_cases hp1 : t1.plain = true
  · first
      | (refine wpAny_bind ?_; refine wp_if_pos hp1 ?_; refine hby_pr hx fun r => ?_)
      | refine wp_if_pos hp1 (wpAny_bind (hby_pr hx fun r => ?_))
    obtain ⟨a1, a2, a3⟩ := two r
    exact fin _ a1 a2 a3 _ pl
  · first
      | (refine wpAny_bind ?_; refine wp_if_neg hp1 ?_; refine wpAny_pure ?_)
      | (refine wp_if_neg hp1 ?_; refine wpAny_bind (wpAny_pure ?_))
    obtain ⟨a1, a2, a3⟩ := two true
    exact fin _ a1 a2 a3 _ pl

/-! ### the set of a list -/
def entG (P : Program) (w : World) (ks : List (Addr × List Key)) (e : Int × Value) : Prop := ∃ p ∈ ks, e.2 = Value.ref p.1
theorem PrO.mono {n : Nat} {G G' : Int × Value → Prop} {o : Obj} (h : ∀ e, G e → G' e) (R : PrO n G o) : PrO n G' o := by
  obtain ⟨es, ep, t, a, b, c, d, r⟩ := R.ex
  exact ⟨es, ep, t, a, b, c, fun e he => h e (d e he), r⟩
theorem pr_steps {S : Addr} {n0 : Nat} {base : Heap} {its : List Value} {ks : List (Addr × List Key)} (hv : its = ks.map fun p => Value.ref p.1) (hk : ∀ p ∈ ks, PT P w base p.2 p.1) (nd : (ks.map (·.2)).Nodup) (hl : ks.length ≤ 2000) (hS : base.get? S = none) (h0 : n0 < cLine) :
    Steps P w S n0 base its fun i o => PrO i (entG P w (ks.take i)) o := by
  rintro A E s i v o Q hu - hi ho R keep q
  have hil : i < ks.length := by
    have := (List.getElem?_eq_some_iff.mp hi).1
    rw [hv, List.length_map] at this
    exact this
  have hki : ks[i]? = some ks[i] := List.getElem?_eq_getElem hil
  generalize hp : ks[i] = p at hki
  have ev : v = Value.ref p.1 := by
    rw [hv, List.getElem?_map, hki] at hi
    exact (Option.some.inj hi).symm
  subst ev
  have up : ∀ p ∈ ks, PT P w s.heap p.2 p.1 := fun p z => by
    obtain ⟨o', items, n, ho', r⟩ := hk p z
    exact ⟨o', items, n, keep _ _ ho', r⟩
  have mem : p ∈ ks := List.mem_of_getElem? hki
  have ht : ks.take (i + 1) = ks.take i ++ [p] := by rw [List.take_add_one, hki]; rfl
  have new : ∀ r ∈ ks.take i, r.2 ≠ p.2 := fun r hr e => by
    have n2 : ((ks.take (i + 1)).map (·.2)).Nodup := (List.Sublist.map _ (List.take_sublist _ _)).nodup nd
    rw [ht, List.map_append, List.nodup_append] at n2
    exact n2.2.2 r.2 (List.mem_map.mpr ⟨r, hr, rfl⟩) p.2 (List.mem_map.mpr ⟨p, List.mem_singleton.mpr rfl, rfl⟩) e
  unfold setAdd
  refine wpAny_holding (wpAny_bind (wpAny_pyHash_tuple (by omega) (up p mem) ?_))
  refine put_pr (s := { s with toks := s.toks + (p.2.length + 1) }) ho R (up p mem) (by omega) (by omega) (fun e ⟨r, hr, e2⟩ => ⟨r.1, r.2, e2, up r (List.mem_of_mem_take hr), new r hr⟩) fun h' o' sb ho' R' => ?_
  refine q true h' _ o' (Nat.le_add_right _ _) ho' (R'.mono fun e z => ?_) sb
  rw [ht]
  rcases z with z | ⟨r, hr, z⟩
  · exact ⟨p, List.mem_append_right _ (List.mem_singleton.mpr rfl), by rw [z]⟩
  · exact ⟨r, List.mem_append_left _ hr, z⟩
theorem pr_fresh {ks : List (Addr × List Key)} : PrO 0 (entG P w (ks.take 0)) (newSetObj w) :=
  ⟨#[], 0, _, ⟨rfl, rfl, rfl⟩, rfl, rfl, fun e he => (by cases he), ⟨List.Pairwise.nil, rfl, rfl, ⟨3, rfl⟩, Nat.zero_le _⟩, by show 1 ≤ 7; decide, by show 7 ≤ 8191; decide, by show 0 * 5 < 7 * 3; decide⟩
def SetPn (a : Addr) (n : Nat) : HO := .ext fun h => ∃ o, h.get? a = some o ∧ PrO n (fun _ => True) o
end
section
variable {X : Cx}
def rSetPr (K : PySem.W.Frag) : List V → Hp → VK → Prop := fun xs H Q => ∃ (l : Addr) (ks : List (Addr × List Key)), xs = [V.ref l] ∧ SqL K H l (ks.map fun p => V.ref p.1) ∧ (∀ p ∈ ks, SqT K H p.1 (p.2.map kV)) ∧ (ks.map (·.2)).Nodup ∧ ks.length ≤ 2000 ∧ ∀ p, H p = none → Q (.ref p) (upd H p (SetPn p ks.length))
theorem refs_are : ∀ {ks : List (Addr × List Key)} {its : List Value}, Vals (ks.map fun p => V.ref p.1) its → its = ks.map fun p => Value.ref p.1
  | [], _, r => by cases r; rfl
  | p :: ks, _, r => by
    cases r with
    | cons a b => rw [refs_are b, show _ = Value.ref p.1 from a]; rfl
theorem cr_setPr (hc : X.calm = true) (hu : X.A.units + 8 < cLine) : CallR X (.type "set") (rSetPr X.K) := by
  intro pins s σ H xs us Q I r h
  obtain ⟨l, ks, rfl, hs, ht, nd, hz, q⟩ := h
  obtain ⟨its, rv, hl, _⟩ := I.list hs
  rw [Vals.ref1 r]
  have ei := refs_are rv
  have e1 : its.length = ks.length := by rw [ei, List.length_map]
  have free : s.heap.get? s.heap.objs.size = none := by
    cases z : s.heap.get? s.heap.objs.size with
    | none => rfl
    | some o => exact absurd (Heap.lt_size z) (Nat.lt_irrefl _)
  refine call_set_gen (I.ok.hd hc) hl.isList (pr_fresh (P := X.prog) (ks := ks)) (pr_steps (P := X.prog) (w := X.w) ei (fun p hp => ?_) nd hz free hu) fun h' tk o ho hJ hk => ?_
  · obtain ⟨its2, rv2, ⟨o, ho, hc2, n, hd⟩, _⟩ := I.tuple (ht p hp)
    exact ⟨o, _, n, ho, hc2, hd, by simpa using items_are rv2⟩
  have new : ObjOk X.prog X.w (upd H s.heap.objs.size (SetPn s.heap.objs.size ks.length)) h' s.heap.objs.size (SetPn s.heap.objs.size ks.length) := ⟨⟨o, ho, by rw [← e1]; exact hJ.mono fun _ _ => True.intro⟩, ⟨o, ho⟩, fun h1 h2 p k => let ⟨o, a, b⟩ := p; ⟨o, k _ a, b⟩⟩
  exact ⟨.ref _, upd H s.heap.objs.size (SetPn s.heap.objs.size ks.length), I.laid (t' := tk) hk (Nat.le_refl _) new, rfl, q _ (I.hok.fresh (Nat.le_refl _))⟩
def rLenPr : List V → Hp → VK → Prop := fun vs H Q => ∃ (a : Addr) (n : Nat), vs = [V.ref a] ∧ H a = some (SetPn a n) ∧ Q (.int n) H
theorem cr_lenPr : CallR X (.builtin "len") rLenPr := by
  intro pins s σ H vs us Q I r h
  obtain ⟨a, n, rfl, ha, q⟩ := h
  rw [Vals.ref1 r]
  obtain ⟨o, ho, R⟩ := (I.hok a _ ha).1
  obtain ⟨es, ep, t, hex, hd, hz, _, T, _, m2, m3⟩ := R.ex
  refine call_len_set ho hex hd (by rw [hz]; exact T.fit) (by rw [hz]; omega) ?_
  rw [hz]
  exact ⟨.int n, H, I.tok _, ⟨_, rfl⟩, q⟩
end
/-! as data -/
def unK : D → Option Key
  | .int i => some (.inl i)
  | .str x => some (.inr x)
  | _ => none
def unKs : List D → Option (List Key)
  | [] => some []
  | d :: ds => (unK d).bind fun k => (unKs ds).map (k :: ·)
def prK : D → Option (List Key)
  | .tuple ds => unKs ds
  | _ => none
def prKs : List D → Option (List (List Key))
  | [] => some []
  | d :: ds => (prK d).bind fun k => (prKs ds).map (k :: ·)
def setLenD : List D → Option D
  | [.list ds] => (prKs ds).bind fun ks => if ks.Nodup ∧ ks.length ≤ 2000 then some (.int ks.length) else none
  | _ => none
theorem un_all {K : PySem.W.Frag} {G : Hp} : ∀ {ds : List D} {vs : List V} {k : List Key}, unKs ds = some k → DqAll K G vs ds → vs = k.map kV
  | [], _, k, e, h => by cases e; cases h; rfl
  | d :: ds, _, k, e, h => by
    obtain ⟨k1, e1, e⟩ := bind_some e
    obtain ⟨ks, e2, rfl⟩ := map_some e
    cases h with
    | cons a b =>
      rw [un_all e2 b, List.map_cons]
      cases d with
      | int i => cases e1; cases a; rfl
      | str x => cases e1; cases a; rfl
      | _ => cases e1
theorem pr_all {K : PySem.W.Frag} {G : Hp} : ∀ {ds : List D} {vs : List V} {kss : List (List Key)}, prKs ds = some kss → DqAll K G vs ds → ∃ ks : List (Addr × List Key), vs = ks.map (fun p => V.ref p.1) ∧ ks.map (·.2) = kss ∧ ∀ p ∈ ks, SqT K G p.1 (p.2.map kV)
  | [], _, k, e, h => by cases e; cases h; exact ⟨[], rfl, rfl, fun p z => by cases z⟩
  | d :: ds, _, k, e, h => by
    obtain ⟨k1, e1, e⟩ := bind_some e
    obtain ⟨kr, e2, rfl⟩ := map_some e
    cases h with
    | cons a b =>
      obtain ⟨ks, r1, r2, r3⟩ := pr_all e2 b
      cases d with
      | tuple es =>
        cases a with
        | tup hs ha =>
          rw [un_all (show unKs es = some k1 from e1) ha] at hs
          exact ⟨(_, k1) :: ks, by rw [r1]; rfl, by rw [← r2]; rfl, fun p hp => by
            rcases List.mem_cons.mp hp with rfl | hp
            · exact hs
            · exact r3 p hp⟩
      | _ => cases e1
theorem de_setLen {K : PySem.W.Frag} {B : Bs} {ta : TA} {a : En → Option (List D)} (h : DAB K B ta a) : DE K B (tCB rLenPr (tCons (tCB (rSetPr K) ta) tNil)) (eCall setLenD a) := fun ρ σ H O z R e Q q => by
  obtain ⟨ds, h1, e⟩ := bind_some e
  refine h ρ σ H O ds R h1 _ fun vs H1 s x => ?_
  unfold setLenD at e
  split at e
  · rename_i es
    obtain ⟨kss, e1, e⟩ := bind_some e
    split at e
    · rename_i c
      cases e
      obtain ⟨v, rfl, b⟩ := bo1 x
      obtain ⟨p, us, rfl, hp, ap⟩ := b.list
      obtain ⟨ks, r1, r2, r3⟩ := pr_all e1 ap
      subst r1
      have el : kss.length = ks.length := by rw [← r2, List.length_map]
      refine ⟨p, ks, rfl, hp, fun p hp => SqT.mono (hid_self _ _) (r3 p hp), by rw [r2]; exact c.1, by rw [← el]; exact c.2, fun p2 n2 => ?_⟩
      refine ⟨p2, ks.length, rfl, upd_same, ?_⟩
      rw [el] at q
      exact q _ _ (s.trans (same_new _ n2)) (.int _)
    · cases e
  · cases e
section
variable {X : Cx} {B : Bs}
theorem x_setLen {e : Expr} {ta : TA} {a : En → Option (List D)} {p1 p2 q1 q2 : Pos} (hc : X.calm = true) (hu : X.A.units + 8 < cLine) (m1 : X.mg "len" = none) (m2 : X.mg "set" = none) (h : XAB X B [e] ta a) (g1 : Gl X "len" := by rfl) (g2 : Gl X "set" := by rfl)
    (a1 : starEach [.Call (.Name "set" p2) [e] [] q2] X.env = (false, eval (.Call (.Name "set" p2) [e] [] q2) X.env) :: starEach [] X.env := by rfl) (a2 : starEach [e] X.env = (false, eval e X.env) :: starEach [] X.env := by rfl) (hk : X.K = B.K := by rfl) :
    XE X B (.Call (.Name "len" p1) [.Call (.Name "set" p2) [e] [] q2] [] q1) (tCB rLenPr (tCons (tCB (rSetPr B.K) ta) tNil)) (eCall setLenD a) :=
  ⟨hk ▸ pe_callB cr_lenPr g1 m1 PySem.boot_len (pa_cons (pe_callTy (cr_setPr hc hu) g2 m2 PyProof.Rows.boot_set h.pe (by decide) (by decide) a2) pa_nil a1) (by decide) (by decide) a1, de_setLen h.de⟩
/-- name = [.. for .. in a list of its own] -/
theorem s_setLcRz (j : Nat) {pos : Pos} {i : Nat} {y : Str} {py : Pos} {elt tg iter : Expr} {ifs : List Expr} {scope : Scope} {own : List (Str × Nat)} {spos : Pos} {wi : TI} {g : TG} {tt : TT} {te : TE} {src : En → Option (List D)} {ht : D → En → Option En} {cond : En → Option Bool} {fe : En → Option D}
    (hc : X.calm = true) (hN : X.N.Nodup) (hy : X.N[i]? = some y) (hyl : X.env.scope.names.lookup y = some .local)
    (hsw : swapsWith (.ListComp elt [⟨tg, iter, ifs, 0⟩] scope pos) (some (.Name y py)) spos.line X.env = pure true) (hi : XI X B tg iter wi src) (ok : BlkOk X.N X.env.scope scope own)
    (hw : GW g (own.map (·.2)))
    (hg : ∀ (s : Shared) (H : Hp) (C : Addr) (cl : List (Str × Addr)) (fp : List Addr), XG (X.blk s H scope (compEnvC scope cl C X.env) fp) B tg g ht) (ht' : ∀ (s : Shared) (H : Hp) (C : Addr) (cl : List (Str × Addr)) (fp : List Addr), XTs (X.blk s H scope (compEnvC scope cl C X.env) fp) B ifs tt cond)
    (he : ∀ (s : Shared) (H : Hp) (C : Addr) (cl : List (Str × Addr)) (fp : List Addr), XE (X.blk s H scope (compEnvC scope cl C X.env) fp) B elt te fe) (hs : ∀ x, foldedSetIterable iter X.env x = pure x := by intro _; rfl) (hp : free B i = true := by rfl) (hq : (own.map (·.2)).all (free B) = true := by rfl) (hL : B.L = [] := by rfl) :
    XS X B (.Assign [.Name y py] (.ListComp elt [⟨tg, iter, ifs, 0⟩] scope pos) spos) (tAsg (tLc wi g tt te (own.map (·.2))) (gName i)) (sSetR i (fzL j (lComp src ht cond fe (own.map (·.2))))) :=
  ⟨ps_setLc hc hN hy hyl hsw hi.pe ok (fun s H C cl fp => (hg s H C cl fp).pe) (fun s H C cl fp => (ht' s H C cl fp).pe) (fun s H C cl fp => (he s H C cl fp).pe) hs,
   ds_setR hp (dl_fz hL (dl_comp hq hi.de (hg X.s_0 X.H_0 0 [] []).de hw (ht' X.s_0 X.H_0 0 [] []).de (he X.s_0 X.H_0 0 [] []).de))⟩
end
end Z

set_option Elab.async false
set_option maxRecDepth 100000
set_option maxHeartbeats 4000000
set_option linter.all false
namespace Q
open PySem PySem.Spec PyProof.Rows L2 Z
def topS (i : Nat) : Stmt := PySem.Challenge.pw_oneofall_k34_rules_that_are_made.main.body.getD i (.Pass ⟨0, 0, 0, 0⟩)
section
variable {P : Program} {w : World} {K : PySem.W.Frag} {mg : Str → Option Value} {base : Heap}
abbrev st_l_mixed : Stmt := topS 12
theorem sc_l_mixed : FnScope ["_law_cell", "_law_k", "_law_number"] ["_law_cell", "_law_k"] (defScope st_l_mixed) := ⟨rfl, rfl, rfl, by decide +kernel, rfl, by decide +kernel, by decide +kernel⟩
def F_l_mixed : En → Option Out :=
    sSeq (sSet 2 (e2 addD (e2 addD (e2 modD (eVar 0) (eC (.int 1000000007))) (e2 mulD (eC (.int 7919)) (eVar 1))) (eC (.int 13))))
    (sRet (e2 divD (e2 modD (e2 mulD (eVar 2) (eVar 2)) (eC (.int 998244353))) (eC (.int 3))))
def g_l_mixed : List D → Option Rv := gF 2 3 F_l_mixed
theorem ok_l_mixed {f : Addr} {fd : FuncData} (Fu : Fun K "_law_mixed" "_law_mixed" st_l_mixed f fd) (hm : mg "_law_mixed" = some (.ref f)) (bi : Bi mg) : DF P w K mg base 1 "_law_mixed" 2 g_l_mixed :=
  df_mk (ps := ["_law_cell", "_law_k"]) Fu rfl (fn_ok (N := ["_law_cell", "_law_k", "_law_number"]) (ps := ["_law_cell", "_law_k"]) (k := 0) (F := F_l_mixed) Fu sc_l_mixed fun cdv A outer s H O E hr => ⟨_,
    ss_cons (s_set (i := 2) sc_l_mixed.nd rfl (Or.inl rfl) (x_add ((x_add ((x_mod (xv 0) (x_int)).b) ((x_mul (x_int) (xv 1)).b)).b) ((x_int).b)))
    (ss_one (s_ret (x_div (x_mod (x_mul (xv 2) (xv 2)) (x_int)) (x_int))))⟩) hm (Fu.binds (ps := ["_law_cell", "_law_k"]) fun _ _ _ _ _ _ us hl => match us, hl with | [_, _], _ => rfl)
abbrev st_l_row_of : Stmt := topS 13
theorem sc_l_row_of : FnScope ["_law_cell", "_law_k", "_law_many", "_law_rows", "_law_left", "_law_places", "_law_draws"] ["_law_cell", "_law_k", "_law_many", "_law_rows"] (defScope st_l_row_of) := ⟨rfl, rfl, rfl, by decide +kernel, rfl, by decide +kernel, by decide +kernel⟩
def F_l_row_of : En → Option Out :=
    sSeq (sSet 4 (e2 divD (eVar 0) (eC (.int 2))))
    (sSeq (sSet 5 (e2 addD (bVar 3) (eC (.int 1))))
    (sSeq (sSetL 6 (lLst (aCons (e2 modD (eVar 4) (eC (.int 2))) (aCons (e2 modD (e2 divD (eVar 4) (eC (.int 2))) (eVar 2)) (aCons (e2 modD (e2 divD (e2 divD (eVar 4) (eC (.int 2))) (eVar 2)) (eVar 5)) (aCons (e2 modD (e2 divD (e2 divD (e2 divD (eVar 4) (eC (.int 2))) (eVar 2)) (eVar 5)) (eVar 5)) (aNil)))))))
    (sSeq (sIf (asB (e2 (eqD 64) (e2 modD (eVar 0) (eC (.int 2))) (eC (.int 1))))
    (sSeq (sSetL 6 (lLst (aCons (eCall intD (aCons (e2 gtD (e2 modD (e2 divD (eCall (fun ds => toD (g_l_mixed ds)) (aCons (eVar 0) (aCons (e2 mulD (eC (.int 5)) (eVar 1)) (aNil)))) (eC (.int 3))) (eC (.int 5))) (eC (.int 1))) (aNil))) (aCons (e2 modD (eCall (fun ds => toD (g_l_mixed ds)) (aCons (eVar 0) (aCons (e2 addD (e2 mulD (eC (.int 5)) (eVar 1)) (eC (.int 1))) (aNil)))) (eVar 2)) (aNil)))))
    (sSeq (sSetL 6 (lCat (nVar 6) (lLst (aCons (e2 modD (eCall (fun ds => toD (g_l_mixed ds)) (aCons (eVar 0) (aCons (e2 addD (e2 mulD (eC (.int 5)) (eVar 1)) (eC (.int 2))) (aNil)))) (eVar 5)) (aCons (e2 modD (eCall (fun ds => toD (g_l_mixed ds)) (aCons (eVar 0) (aCons (e2 addD (e2 mulD (eC (.int 5)) (eVar 1)) (eC (.int 3))) (aNil)))) (eVar 5)) (aNil))))))
    (sIf (asB (e2 (eqD 64) (e2 modD (eCall (fun ds => toD (g_l_mixed ds)) (aCons (eVar 0) (aCons (e2 mulD (eC (.int 5)) (eVar 1)) (aNil)))) (eC (.int 3))) (eC (.int 0))))
    (sPut 6 (eC (.int 2)) (eCall minD (aCons (e2 addD (bVar 1) (eC (.int 1))) (aCons (bVar 3) (aNil)))))
    (sNil))))
    (sNil))
    (sFz 6 (sSeq (sIf (asB (e2 (eqD 64) (e2 ixD (bVar 6) (eC (.int 0))) (eC (.int 0))))
    (sRet (eTup (aCons (eC (.str "up")) (aCons (e2 ixD (bVar 6) (eC (.int 1))) (aCons (e2 ixD (bVar 6) (eC (.int 2))) (aNil))))))
    (sNil))
    (sRet (eTup (aCons (eC (.str "down")) (aCons (e2 ixD (bVar 6) (eC (.int 1))) (aCons (e2 ixD (bVar 6) (eC (.int 2))) (aCons (e2 ixD (bVar 6) (eC (.int 3))) (aNil))))))))))))
def g_l_row_of : List D → Option Rv := gF 4 7 F_l_row_of
theorem ok_l_row_of {f : Addr} {fd : FuncData} (Fu : Fun K "_law_row_of" "_law_row_of" st_l_row_of f fd) (hm : mg "_law_row_of" = some (.ref f)) (bi : Bi mg) (c_l_mixed : DF P w K mg base 1 "_law_mixed" 2 g_l_mixed) : DF P w K mg base 2 "_law_row_of" 4 g_l_row_of :=
  df_mk (ps := ["_law_cell", "_law_k", "_law_many", "_law_rows"]) Fu rfl (fn_ok (N := ["_law_cell", "_law_k", "_law_many", "_law_rows", "_law_left", "_law_places", "_law_draws"]) (ps := ["_law_cell", "_law_k", "_law_many", "_law_rows"]) (k := 1) (F := F_l_row_of) Fu sc_l_row_of fun cdv A outer s H O E hr => ⟨_,
    ss_cons (s_set (i := 4) sc_l_row_of.nd rfl (Or.inl rfl) (x_div (xv 0) (x_int)))
    (ss_cons (s_set (i := 5) sc_l_row_of.nd rfl (Or.inl rfl) (x_add (xvb 3) ((x_int).b)))
    (ss_cons (s_setL (i := 6) sc_l_row_of.nd rfl (Or.inl rfl) (l_lst (a_cons (x_mod (xv 4) (x_int)) (a_cons (x_mod (x_div (xv 4) (x_int)) (xv 2)) (a_cons (x_mod (x_div (x_div (xv 4) (x_int)) (xv 2)) (xv 5)) (a_cons (x_mod (x_div (x_div (x_div (xv 4) (x_int)) (xv 2)) (xv 5)) (xv 5)) (a_nil)))))))
    (ss_cons (s_if (t_cmp (op_eqA hr.units) opd_eq (nomark _) ((x_mod (xv 0) (x_int)).b) ((x_int).b))
    (ss_cons (s_setL (i := 6) sc_l_row_of.nd rfl (Or.inl rfl) (l_lst (a_cons (x_ct call_int1 opc_int bi.int PyProof.Rows.boot_int (ab_cons ((x_cmp op_gt opd_cmp (nomark _) ((x_mod (x_div (x_call c_l_mixed (hr.mono (by decide)) (a_cons (xv 0) (a_cons (x_mul (x_int) (xv 1)) (a_nil)))) (x_int)) (x_int)).b) ((x_int).b)).b) (ab_nil))) (a_cons (x_mod (x_call c_l_mixed (hr.mono (by decide)) (a_cons (xv 0) (a_cons (x_add ((x_mul (x_int) (xv 1)).b) ((x_int).b)) (a_nil)))) (xv 2)) (a_nil)))))
    (ss_cons (s_setL (i := 6) sc_l_row_of.nd rfl (Or.inl rfl) (l_catN rfl (n_var 6) ((l_lst (a_cons (x_mod (x_call c_l_mixed (hr.mono (by decide)) (a_cons (xv 0) (a_cons (x_add ((x_mul (x_int) (xv 1)).b) ((x_int).b)) (a_nil)))) (xv 5)) (a_cons (x_mod (x_call c_l_mixed (hr.mono (by decide)) (a_cons (xv 0) (a_cons (x_add ((x_mul (x_int) (xv 1)).b) ((x_int).b)) (a_nil)))) (xv 5)) (a_nil)))).n)))
    (ss_one (s_if (t_cmp (op_eqA hr.units) opd_eq (nomark _) ((x_mod (x_call c_l_mixed (hr.mono (by decide)) (a_cons (xv 0) (a_cons (x_mul (x_int) (xv 1)) (a_nil)))) (x_int)).b) ((x_int).b))
    (ss_one (s_put 6 (pv 6) (x_int) (x_cb (call_min2 rfl) opc_min bi.min PyProof.Rows.boot_min (ab_cons ((x_add (xvb 1) ((x_int).b)).b) (ab_cons (xvb 3) (ab_nil))))))
    (ss_nil)))))
    (ss_nil))
    (ss_fz 6 (ss_cons (s_if (t_cmp (op_eqA hr.units) opd_eq (nomark _) ((x_ix (xvb 6) (x_int)).b) ((x_int).b))
    (ss_one (s_ret (x_tup (a_cons (x_str) (a_cons (x_ix (xvb 6) (x_int)) (a_cons (x_ix (xvb 6) (x_int)) (a_nil)))))))
    (ss_nil))
    (ss_one (s_ret (x_tup (a_cons (x_str) (a_cons (x_ix (xvb 6) (x_int)) (a_cons (x_ix (xvb 6) (x_int)) (a_cons (x_ix (xvb 6) (x_int)) (a_nil)))))))))))))⟩) hm (Fu.binds (ps := ["_law_cell", "_law_k", "_law_many", "_law_rows"]) fun _ _ _ _ _ _ us hl => match us, hl with | [_, _, _, _], _ => rfl)
abbrev st_l_program : Stmt := topS 14
theorem sc_l_program : FnScope ["_law_cells", "_law_many", "_law_k", "_law_cell"] ["_law_cells", "_law_many"] (defScope st_l_program) := ⟨rfl, rfl, rfl, by decide +kernel, rfl, by decide +kernel, by decide +kernel⟩
def F_l_program : En → Option Out :=
    sRetL (lComp (iEnumD (aCons (eVar 0) (aNil))) (hTup 2 (hCons (hName 2) (hCons (hName 3) (hNil)))) (cYes) (eCall (fun ds => toD (g_l_row_of ds)) (aCons (eVar 3) (aCons (eVar 2) (aCons (eVar 1) (aCons (eCall lenD (aCons (bVar 0) (aNil))) (aNil)))))) [2, 3])
def g_l_program : List D → Option Rv := gF 2 4 F_l_program
theorem ok_l_program {f : Addr} {fd : FuncData} (Fu : Fun K "_law_program" "_law_program" st_l_program f fd) (hm : mg "_law_program" = some (.ref f)) (bi : Bi mg) (c_l_row_of : DF P w K mg base 2 "_law_row_of" 4 g_l_row_of) : DF P w K mg base 3 "_law_program" 2 g_l_program :=
  df_mk (ps := ["_law_cells", "_law_many"]) Fu rfl (fn_ok (N := ["_law_cells", "_law_many", "_law_k", "_law_cell"]) (ps := ["_law_cells", "_law_many"]) (k := 2) (F := F_l_program) Fu sc_l_program fun cdv A outer s H O E hr => ⟨_,
    ss_one (s_retL (l_lc (own := [("_law_k", 2), ("_law_cell", 3)]) rfl sc_l_program.nd (i_enum bi.enm (a_cons (xv 0) (a_nil))) (blkOk_by (own := [("_law_k", 2), ("_law_cell", 3)]) (N := ["_law_cells", "_law_many", "_law_k", "_law_cell"]) (sc := defScope st_l_program) (by decide +kernel)) (gw_tup (gws_cons (gw_name (by decide)) (gws_cons (gw_name (by decide)) (gws_nil)))) (fun _ _ _ _ _ => g_tup (n := 2) rfl (gs_cons (g_name sc_l_program.nd rfl (Or.inl rfl)) (gs_cons (g_name sc_l_program.nd rfl (Or.inl rfl)) (gs_nil)))) (fun _ _ _ _ _ => ts_nil) (fun _ _ _ _ _ => x_call c_l_row_of (hr.mono (by decide)) (a_cons (xv 3) (a_cons (xv 2) (a_cons (xv 1) (a_cons (x_cb cw_len opc_len bi.len PySem.boot_len (ab_cons (xvb 0) (ab_nil))) (a_nil))))))))⟩) hm (Fu.binds (ps := ["_law_cells", "_law_many"]) fun _ _ _ _ _ _ us hl => match us, hl with | [_, _], _ => rfl)
abbrev st_p_lap_of : Stmt := topS 5
theorem sc_p_lap_of : FnScope ["first", "many", "phase", "at", "ends"] ["first", "many", "phase", "at", "ends"] (defScope st_p_lap_of) := ⟨rfl, rfl, rfl, by decide +kernel, rfl, by decide +kernel, by decide +kernel⟩
def F_p_lap_of : En → Option Out :=
    sSeq (sIf (asB (e2 (eqD 64) (bVar 3) (bVar 1)))
    (sRet (eVar 4))
    (sNil))
    (sRet (e2 addD (e2 addD (bVar 0) (e2 mulD (eVar 2) (eVar 1))) (bVar 3)))
def g_p_lap_of : List D → Option Rv := gF 5 5 F_p_lap_of
theorem ok_p_lap_of {f : Addr} {fd : FuncData} (Fu : Fun K "lap_of" "lap_of" st_p_lap_of f fd) (hm : mg "lap_of" = some (.ref f)) (bi : Bi mg) : DF P w K mg base 1 "lap_of" 5 g_p_lap_of :=
  df_mk (ps := ["first", "many", "phase", "at", "ends"]) Fu rfl (fn_ok (N := ["first", "many", "phase", "at", "ends"]) (ps := ["first", "many", "phase", "at", "ends"]) (k := 0) (F := F_p_lap_of) Fu sc_p_lap_of fun cdv A outer s H O E hr => ⟨_,
    ss_cons (s_if (t_cmp (op_eqA hr.units) opd_eq (nomark _) (xvb 3) (xvb 1))
    (ss_one (s_ret (xv 4)))
    (ss_nil))
    (ss_one (s_ret (x_add ((x_add (xvb 0) ((x_mul (xv 2) (xv 1)).b)).b) (xvb 3))))⟩) hm (Fu.binds (ps := ["first", "many", "phase", "at", "ends"]) fun _ _ _ _ _ _ us hl => match us, hl with | [_, _, _, _, _], _ => rfl)
abbrev st_p_copied : Stmt := topS 6
theorem sc_p_copied : FnScope ["first", "many", "phase", "at", "word", "ends", "here"] ["first", "many", "phase", "at", "word", "ends"] (defScope st_p_copied) := ⟨rfl, rfl, rfl, by decide +kernel, rfl, by decide +kernel, by decide +kernel⟩
def F_p_copied : En → Option Out :=
    sSeq (sSet 6 (eCall (fun ds => toD (g_p_lap_of ds)) (aCons (eVar 0) (aCons (eVar 1) (aCons (eVar 2) (aCons (eVar 3) (aCons (eVar 5) (aNil))))))))
    (sRetL (lLst (aCons (eTup (aCons (eVar 6) (aCons (eC (.str "i")) (aCons (eC (.str "i")) (aCons (eVar 6) (aNil)))))) (aCons (eTup (aCons (eVar 6) (aCons (eC (.str "e")) (aCons (eVar 4) (aCons (eCall (fun ds => toD (g_p_lap_of ds)) (aCons (eVar 0) (aCons (eVar 1) (aCons (eVar 2) (aCons (e2 addD (bVar 3) (eC (.int 1))) (aCons (eVar 5) (aNil))))))) (aNil)))))) (aNil)))))
def g_p_copied : List D → Option Rv := gF 6 7 F_p_copied
theorem ok_p_copied {f : Addr} {fd : FuncData} (Fu : Fun K "copied" "copied" st_p_copied f fd) (hm : mg "copied" = some (.ref f)) (bi : Bi mg) (c_p_lap_of : DF P w K mg base 1 "lap_of" 5 g_p_lap_of) : DF P w K mg base 2 "copied" 6 g_p_copied :=
  df_mk (ps := ["first", "many", "phase", "at", "word", "ends"]) Fu rfl (fn_ok (N := ["first", "many", "phase", "at", "word", "ends", "here"]) (ps := ["first", "many", "phase", "at", "word", "ends"]) (k := 1) (F := F_p_copied) Fu sc_p_copied fun cdv A outer s H O E hr => ⟨_,
    ss_cons (s_set (i := 6) sc_p_copied.nd rfl (Or.inl rfl) (x_call c_p_lap_of (hr.mono (by decide)) (a_cons (xv 0) (a_cons (xv 1) (a_cons (xv 2) (a_cons (xv 3) (a_cons (xv 5) (a_nil))))))))
    (ss_one (s_retL (l_lst (a_cons (x_tup (a_cons (xv 6) (a_cons (x_str) (a_cons (x_str) (a_cons (xv 6) (a_nil)))))) (a_cons (x_tup (a_cons (xv 6) (a_cons (x_str) (a_cons (xv 4) (a_cons (x_call c_p_lap_of (hr.mono (by decide)) (a_cons (xv 0) (a_cons (xv 1) (a_cons (xv 2) (a_cons (x_add (xvb 3) ((x_int).b)) (a_cons (xv 5) (a_nil))))))) (a_nil)))))) (a_nil))))))⟩) hm (Fu.binds (ps := ["first", "many", "phase", "at", "word", "ends"]) fun _ _ _ _ _ _ us hl => match us, hl with | [_, _, _, _, _, _], _ => rfl)
abbrev st_p_up_rules : Stmt := topS 7
theorem sc_p_up_rules : FnScope ["first", "many", "row", "found", "at", "word"] ["first", "many", "row"] (defScope st_p_up_rules) := ⟨rfl, rfl, rfl, by decide +kernel, rfl, by decide +kernel, by decide +kernel⟩
def F_p_up_rules : En → Option Out :=
    sSeq (sSetL 3 (lLst (aNil)))
    (sSeq (sFor (iRg1D (aCons (eVar 1) (aNil))) (hName 4)
    (sSeq (sSet 5 (eC (.str "e")))
    (sSeq (sIf (asB (e2 (eqD 64) (bVar 4) (e2 ixD (bVar 2) (eC (.int 1)))))
    (sSet 5 (eC (.str "ie")))
    (sNil))
    (sExt 3 (eCall (fun ds => toL (g_p_copied ds)) (aCons (eVar 0) (aCons (eVar 1) (aCons (eC (.int 0)) (aCons (eVar 4) (aCons (eVar 5) (aCons (e2 ixD (bVar 2) (eC (.int 2))) (aNil))))))))))))
    (sRetO 3))
def g_p_up_rules : List D → Option Rv := gF 3 6 F_p_up_rules
theorem ok_p_up_rules {f : Addr} {fd : FuncData} (Fu : Fun K "up_rules" "up_rules" st_p_up_rules f fd) (hm : mg "up_rules" = some (.ref f)) (bi : Bi mg) (c_p_copied : DF P w K mg base 2 "copied" 6 g_p_copied) {t_COPY : Tok} (k_COPY : mg "COPY" = some (.int 0 t_COPY)) : DF P w K mg base 3 "up_rules" 3 g_p_up_rules :=
  df_mk (ps := ["first", "many", "row"]) Fu rfl (fn_ok (N := ["first", "many", "row", "found", "at", "word"]) (ps := ["first", "many", "row"]) (k := 2) (F := F_p_up_rules) Fu sc_p_up_rules fun cdv A outer s H O E hr => ⟨_,
    ss_cons (s_setL (i := 3) sc_p_up_rules.nd rfl (Or.inl rfl) (l_lst (a_nil)))
    (ss_cons (s_for PassesOwn.never rfl (i_rg1 bi.rng (a_cons (xv 1) (a_nil))) (g_name sc_p_up_rules.nd rfl (Or.inl rfl))
    (ss_cons (s_set (i := 5) sc_p_up_rules.nd rfl (Or.inl rfl) (x_str))
    (ss_cons (s_if (t_cmp (op_eqA hr.units) opd_eq (nomark _) (xvb 4) ((x_ix (xvb 2) (x_int)).b))
    (ss_one (s_set (i := 5) sc_p_up_rules.nd rfl (Or.inl rfl) (x_str)))
    (ss_nil))
    (ss_one (s_ext 3 (pv 3) ((l_call c_p_copied (hr.mono (by decide)) (a_cons (xv 0) (a_cons (xv 1) (a_cons (x_gint (by rfl) k_COPY) (a_cons (xv 4) (a_cons (xv 5) (a_cons (x_ix (xvb 2) (x_int)) (a_nil)))))))).m))))))
    (ss_one (s_retO 3 (pv 3))))⟩) hm (Fu.binds (ps := ["first", "many", "row"]) fun _ _ _ _ _ _ us hl => match us, hl with | [_, _, _], _ => rfl)
abbrev st_p_down_rules : Stmt := topS 8
theorem sc_p_down_rules : FnScope ["first", "many", "row", "found", "at", "here"] ["first", "many", "row"] (defScope st_p_down_rules) := ⟨rfl, rfl, rfl, by decide +kernel, rfl, by decide +kernel, by decide +kernel⟩
def F_p_down_rules : En → Option Out :=
    sSeq (sSetL 3 (lLst (aNil)))
    (sSeq (sFor (iRg1D (aCons (e2 ixD (bVar 2) (eC (.int 1))) (aNil))) (hName 4)
    (sExt 3 (eCall (fun ds => toL (g_p_copied ds)) (aCons (eVar 0) (aCons (eVar 1) (aCons (eC (.int 0)) (aCons (eVar 4) (aCons (eC (.str "e")) (aCons (eC (.int 0)) (aNil))))))))))
    (sSeq (sSet 5 (eCall (fun ds => toD (g_p_lap_of ds)) (aCons (eVar 0) (aCons (eVar 1) (aCons (eC (.int 0)) (aCons (e2 ixD (bVar 2) (eC (.int 1))) (aCons (eC (.int 0)) (aNil))))))))
    (sSeq (sApp 3 (eTup (aCons (eVar 5) (aCons (eC (.str "i")) (aCons (eC (.str "")) (aCons (eCall (fun ds => toD (g_p_lap_of ds)) (aCons (eVar 0) (aCons (eVar 1) (aCons (eC (.int 1)) (aCons (e2 ixD (bVar 2) (eC (.int 1))) (aCons (eC (.int 0)) (aNil))))))) (aNil)))))))
    (sSeq (sApp 3 (eTup (aCons (eVar 5) (aCons (eC (.str "e")) (aCons (eC (.str "e")) (aCons (eCall (fun ds => toD (g_p_lap_of ds)) (aCons (eVar 0) (aCons (eVar 1) (aCons (eC (.int 2)) (aCons (e2 addD (e2 ixD (bVar 2) (eC (.int 1))) (eC (.int 1))) (aCons (e2 ixD (bVar 2) (eC (.int 3))) (aNil))))))) (aNil)))))))
    (sSeq (sFor (iRg2D (aCons (e2 ixD (bVar 2) (eC (.int 1))) (aCons (eVar 1) (aNil)))) (hName 4)
    (sExt 3 (eCall (fun ds => toL (g_p_copied ds)) (aCons (eVar 0) (aCons (eVar 1) (aCons (eC (.int 1)) (aCons (eVar 4) (aCons (eC (.str "e")) (aCons (e2 ixD (bVar 2) (eC (.int 2))) (aNil))))))))))
    (sSeq (sFor (iRg2D (aCons (e2 addD (e2 ixD (bVar 2) (eC (.int 1))) (eC (.int 1))) (aCons (eVar 1) (aNil)))) (hName 4)
    (sExt 3 (eCall (fun ds => toL (g_p_copied ds)) (aCons (eVar 0) (aCons (eVar 1) (aCons (eC (.int 2)) (aCons (eVar 4) (aCons (eC (.str "e")) (aCons (e2 ixD (bVar 2) (eC (.int 3))) (aNil))))))))))
    (sRetO 3)))))))
def g_p_down_rules : List D → Option Rv := gF 3 6 F_p_down_rules
theorem ok_p_down_rules {f : Addr} {fd : FuncData} (Fu : Fun K "down_rules" "down_rules" st_p_down_rules f fd) (hm : mg "down_rules" = some (.ref f)) (bi : Bi mg) (c_p_copied : DF P w K mg base 2 "copied" 6 g_p_copied) (c_p_lap_of : DF P w K mg base 1 "lap_of" 5 g_p_lap_of) {t_COPY : Tok} (k_COPY : mg "COPY" = some (.int 0 t_COPY)) {t_TAKEN : Tok} (k_TAKEN : mg "TAKEN" = some (.int 1 t_TAKEN)) {t_NOUGHT : Tok} (k_NOUGHT : mg "NOUGHT" = some (.int 2 t_NOUGHT)) : DF P w K mg base 3 "down_rules" 3 g_p_down_rules :=
  df_mk (ps := ["first", "many", "row"]) Fu rfl (fn_ok (N := ["first", "many", "row", "found", "at", "here"]) (ps := ["first", "many", "row"]) (k := 2) (F := F_p_down_rules) Fu sc_p_down_rules fun cdv A outer s H O E hr => ⟨_,
    ss_cons (s_setL (i := 3) sc_p_down_rules.nd rfl (Or.inl rfl) (l_lst (a_nil)))
    (ss_cons (s_for PassesOwn.never rfl (i_rg1 bi.rng (a_cons (x_ix (xvb 2) (x_int)) (a_nil))) (g_name sc_p_down_rules.nd rfl (Or.inl rfl))
    (ss_one (s_ext 3 (pv 3) ((l_call c_p_copied (hr.mono (by decide)) (a_cons (xv 0) (a_cons (xv 1) (a_cons (x_gint (by rfl) k_COPY) (a_cons (xv 4) (a_cons (x_str) (a_cons (x_int) (a_nil)))))))).m))))
    (ss_cons (s_set (i := 5) sc_p_down_rules.nd rfl (Or.inl rfl) (x_call c_p_lap_of (hr.mono (by decide)) (a_cons (xv 0) (a_cons (xv 1) (a_cons (x_gint (by rfl) k_COPY) (a_cons (x_ix (xvb 2) (x_int)) (a_cons (x_int) (a_nil))))))))
    (ss_cons (s_app 3 (pv 3) (x_tup (a_cons (xv 5) (a_cons (x_str) (a_cons (x_str) (a_cons (x_call c_p_lap_of (hr.mono (by decide)) (a_cons (xv 0) (a_cons (xv 1) (a_cons (x_gint (by rfl) k_TAKEN) (a_cons (x_ix (xvb 2) (x_int)) (a_cons (x_int) (a_nil))))))) (a_nil)))))))
    (ss_cons (s_app 3 (pv 3) (x_tup (a_cons (xv 5) (a_cons (x_str) (a_cons (x_str) (a_cons (x_call c_p_lap_of (hr.mono (by decide)) (a_cons (xv 0) (a_cons (xv 1) (a_cons (x_gint (by rfl) k_NOUGHT) (a_cons (x_add ((x_ix (xvb 2) (x_int)).b) ((x_int).b)) (a_cons (x_ix (xvb 2) (x_int)) (a_nil))))))) (a_nil)))))))
    (ss_cons (s_for PassesOwn.never rfl (i_rg2 bi.rng (a_cons (x_ix (xvb 2) (x_int)) (a_cons (xv 1) (a_nil)))) (g_name sc_p_down_rules.nd rfl (Or.inl rfl))
    (ss_one (s_ext 3 (pv 3) ((l_call c_p_copied (hr.mono (by decide)) (a_cons (xv 0) (a_cons (xv 1) (a_cons (x_gint (by rfl) k_TAKEN) (a_cons (xv 4) (a_cons (x_str) (a_cons (x_ix (xvb 2) (x_int)) (a_nil)))))))).m))))
    (ss_cons (s_for PassesOwn.never rfl (i_rg2 bi.rng (a_cons (x_add ((x_ix (xvb 2) (x_int)).b) ((x_int).b)) (a_cons (xv 1) (a_nil)))) (g_name sc_p_down_rules.nd rfl (Or.inl rfl))
    (ss_one (s_ext 3 (pv 3) ((l_call c_p_copied (hr.mono (by decide)) (a_cons (xv 0) (a_cons (xv 1) (a_cons (x_gint (by rfl) k_NOUGHT) (a_cons (xv 4) (a_cons (x_str) (a_cons (x_ix (xvb 2) (x_int)) (a_nil)))))))).m))))
    (ss_one (s_retO 3 (pv 3)))))))))⟩) hm (Fu.binds (ps := ["first", "many", "row"]) fun _ _ _ _ _ _ us hl => match us, hl with | [_, _, _], _ => rfl)
abbrev st_p_make_rows : Stmt := topS 9
theorem sc_p_make_rows : FnScope ["program", "many", "rules", "place", "row", "first"] ["program", "many"] (defScope st_p_make_rows) := ⟨rfl, rfl, rfl, by decide +kernel, rfl, by decide +kernel, by decide +kernel⟩
def F_p_make_rows : En → Option Out :=
    sSeq (sSetL 2 (lLst (aNil)))
    (sSeq (sFor (iEnumD (aCons (eVar 0) (aNil))) (hTup 2 (hCons (hName 3) (hCons (hName 4) (hNil))))
    (sSeq (sSet 5 (e2 addD (e2 addD (eCall lenD (aCons (bVar 0) (aNil))) (eC (.int 1))) (e2 mulD (e2 mulD (eVar 3) (eC (.int 3))) (eVar 1))))
    (sSeq (sApp 2 (eTup (aCons (eVar 3) (aCons (eC (.str "b")) (aCons (eC (.str "b")) (aCons (eVar 5) (aNil)))))))
    (sIf (asB (e2 (eqD 64) (e2 ixD (bVar 4) (eC (.int 0))) (eC (.str "up"))))
    (sExt 2 (eCall (fun ds => toL (g_p_up_rules ds)) (aCons (eVar 5) (aCons (eVar 1) (aCons (eVar 4) (aNil))))))
    (sExt 2 (eCall (fun ds => toL (g_p_down_rules ds)) (aCons (eVar 5) (aCons (eVar 1) (aCons (eVar 4) (aNil))))))))))
    (sRetO 2))
def g_p_make_rows : List D → Option Rv := gF 2 6 F_p_make_rows
theorem ok_p_make_rows {f : Addr} {fd : FuncData} (Fu : Fun K "make_rows" "make_rows" st_p_make_rows f fd) (hm : mg "make_rows" = some (.ref f)) (bi : Bi mg) (c_p_up_rules : DF P w K mg base 3 "up_rules" 3 g_p_up_rules) (c_p_down_rules : DF P w K mg base 3 "down_rules" 3 g_p_down_rules) {t_PHASES : Tok} (k_PHASES : mg "PHASES" = some (.int 3 t_PHASES)) : DF P w K mg base 4 "make_rows" 2 g_p_make_rows :=
  df_mk (ps := ["program", "many"]) Fu rfl (fn_ok (N := ["program", "many", "rules", "place", "row", "first"]) (ps := ["program", "many"]) (k := 3) (F := F_p_make_rows) Fu sc_p_make_rows fun cdv A outer s H O E hr => ⟨_,
    ss_cons (s_setL (i := 2) sc_p_make_rows.nd rfl (Or.inl rfl) (l_lst (a_nil)))
    (ss_cons (s_for PassesOwn.never rfl (i_enum bi.enm (a_cons (xv 0) (a_nil))) (g_tup (n := 2) rfl (gs_cons (g_name sc_p_make_rows.nd rfl (Or.inl rfl)) (gs_cons (g_name sc_p_make_rows.nd rfl (Or.inl rfl)) (gs_nil))))
    (ss_cons (s_set (i := 5) sc_p_make_rows.nd rfl (Or.inl rfl) (x_add ((x_add ((x_cb cw_len opc_len bi.len PySem.boot_len (ab_cons (xvb 0) (ab_nil))).b) ((x_int).b)).b) ((x_mul (x_mul (xv 3) (x_gint (by rfl) k_PHASES)) (xv 1)).b)))
    (ss_cons (s_app 2 (pv 2) (x_tup (a_cons (xv 3) (a_cons (x_str) (a_cons (x_str) (a_cons (xv 5) (a_nil)))))))
    (ss_one (s_if (t_cmp (op_eqA hr.units) opd_eq (nomark _) ((x_ix (xvb 4) (x_int)).b) ((x_str).b))
    (ss_one (s_ext 2 (pv 2) ((l_call c_p_up_rules (hr.mono (by decide)) (a_cons (xv 5) (a_cons (xv 1) (a_cons (xv 4) (a_nil))))).m)))
    (ss_one (s_ext 2 (pv 2) ((l_call c_p_down_rules (hr.mono (by decide)) (a_cons (xv 5) (a_cons (xv 1) (a_cons (xv 4) (a_nil))))).m))))))))
    (ss_one (s_retO 2 (pv 2))))⟩) hm (Fu.binds (ps := ["program", "many"]) fun _ _ _ _ _ _ us hl => match us, hl with | [_, _], _ => rfl)
abbrev st_l_cell_at : Stmt := topS 11
theorem sc_l_cell_at : FnScope ["_law_script", "_law_k"] ["_law_script", "_law_k"] (defScope st_l_cell_at) := ⟨rfl, rfl, rfl, by decide +kernel, rfl, by decide +kernel, by decide +kernel⟩
def F_l_cell_at : En → Option Out :=
    sSeq (sIf (asB (e2 ltD (bVar 1) (eCall lenD (aCons (bVar 0) (aNil)))))
    (sRet (e2 ixD (bVar 0) (eVar 1)))
    (sNil))
    (sRet (eC (.int 0)))
def g_l_cell_at : List D → Option Rv := gF 2 2 F_l_cell_at
theorem ok_l_cell_at {f : Addr} {fd : FuncData} (Fu : Fun K "_law_cell_at" "_law_cell_at" st_l_cell_at f fd) (hm : mg "_law_cell_at" = some (.ref f)) (bi : Bi mg) : DF P w K mg base 1 "_law_cell_at" 2 g_l_cell_at :=
  df_mk (ps := ["_law_script", "_law_k"]) Fu rfl (fn_ok (N := ["_law_script", "_law_k"]) (ps := ["_law_script", "_law_k"]) (k := 0) (F := F_l_cell_at) Fu sc_l_cell_at fun cdv A outer s H O E hr => ⟨_,
    ss_cons (s_if (t_cmp op_lt opd_cmp (nomark _) (xvb 1) ((x_cb cw_len opc_len bi.len PySem.boot_len (ab_cons (xvb 0) (ab_nil))).b))
    (ss_one (s_ret (x_ix (xvb 0) (xv 1))))
    (ss_nil))
    (ss_one (s_ret (x_int)))⟩) hm (Fu.binds (ps := ["_law_script", "_law_k"]) fun _ _ _ _ _ _ us hl => match us, hl with | [_, _], _ => rfl)
abbrev st_l_letters : Stmt := topS 16
theorem sc_l_letters : FnScope ["_law_word", "_law_sign"] ["_law_word"] (defScope st_l_letters) := ⟨rfl, rfl, rfl, by decide +kernel, rfl, by decide +kernel, by decide +kernel⟩
def F_l_letters : En → Option Out :=
    sSeq (sFor (iSeqD (eVar 0)) (hName 1)
    (sIf (asB (e2 (inD true) (bVar 1) (eC (.str "bei"))))
    (sRet (eC (.bool false)))
    (sNil)))
    (sRet (eC (.bool true)))
def g_l_letters : List D → Option Rv := gF 1 2 F_l_letters
theorem ok_l_letters {f : Addr} {fd : FuncData} (Fu : Fun K "_law_letters" "_law_letters" st_l_letters f fd) (hm : mg "_law_letters" = some (.ref f)) (bi : Bi mg) : DF P w K mg base 1 "_law_letters" 1 g_l_letters :=
  df_mk (ps := ["_law_word"]) Fu rfl (fn_ok (N := ["_law_word", "_law_sign"]) (ps := ["_law_word"]) (k := 0) (F := F_l_letters) Fu sc_l_letters fun cdv A outer s H O E hr => ⟨_,
    ss_cons (s_for PassesOwn.never rfl (i_seq (xv 0)) (g_name sc_l_letters.nd rfl (Or.inl rfl))
    (ss_one (s_if (t_cmp op_notIn_sign opd_notin (by with_unfolding_all rfl) (xvb 1) ((x_str).b))
    (ss_one (s_ret (x_bl)))
    (ss_nil))))
    (ss_one (s_ret (x_bl)))⟩) hm (Fu.binds (ps := ["_law_word"]) fun _ _ _ _ _ _ us hl => match us, hl with | [_], _ => rfl)
abbrev st_l_whole : Stmt := topS 15
theorem sc_l_whole : FnScope ["_law_found"] ["_law_found"] (defScope st_l_whole) := ⟨rfl, rfl, rfl, by decide +kernel, rfl, by decide +kernel, by decide +kernel⟩
def F_l_whole : En → Option Out :=
    sRet (eAnd (e1 (isiD "int") (bVar 0)) (e1 notD (e1 (isiD "bool") (bVar 0))))
def g_l_whole : List D → Option Rv := gF 1 1 F_l_whole
theorem ok_l_whole {f : Addr} {fd : FuncData} (Fu : Fun K "_law_whole" "_law_whole" st_l_whole f fd) (hm : mg "_law_whole" = some (.ref f)) (bi : Bi mg) : DF P w K mg base 1 "_law_whole" 1 g_l_whole :=
  df_mk (ps := ["_law_found"]) Fu rfl (fn_ok (N := ["_law_found"]) (ps := ["_law_found"]) (k := 0) (F := F_l_whole) Fu sc_l_whole fun cdv A outer s H O E hr => ⟨_,
    ss_one (s_ret (x_and (x_isi bi.isi bi.int PyProof.Rows.boot_int (xvb 0)) (x_one (x_not (x_isi bi.isi bi.bool PyProof.Rows.boot_bool (xvb 0))))))⟩) hm (Fu.binds (ps := ["_law_found"]) fun _ _ _ _ _ _ us hl => match us, hl with | [_], _ => rfl)
abbrev st_l_is_rule : Stmt := topS 17
theorem sc_l_is_rule : FnScope ["_law_rule"] ["_law_rule"] (defScope st_l_is_rule) := ⟨rfl, rfl, rfl, by decide +kernel, rfl, by decide +kernel, by decide +kernel⟩
def F_l_is_rule : En → Option Out :=
    sSeq (sIf (bOr (bNot (asB (e1 (isiD "tuple") (bVar 0)))) (asB (e2 (neD 64) (eCall lenD (aCons (bVar 0) (aNil))) (eC (.int 4)))))
    (sRet (eC (.bool false)))
    (sNil))
    (sSeq (sIf (bOr (bNot (asB (eCall (fun ds => toD (g_l_whole ds)) (aCons (e2 ixD (bVar 0) (eC (.int 0))) (aNil))))) (bOr (bNot (asB (eCall (fun ds => toD (g_l_whole ds)) (aCons (e2 ixD (bVar 0) (eC (.int 3))) (aNil))))) (bOr (asB (e2 ltD (e2 ixD (bVar 0) (eC (.int 0))) (eC (.int 0)))) (asB (e2 ltD (e2 ixD (bVar 0) (eC (.int 3))) (eC (.int 0)))))))
    (sRet (eC (.bool false)))
    (sNil))
    (sSeq (sIf (bOr (bNot (asB (e1 (isiD "str") (e2 ixD (bVar 0) (eC (.int 1)))))) (bOr (asB (e2 (neD 64) (eCall lenD (aCons (e2 ixD (bVar 0) (eC (.int 1))) (aNil))) (eC (.int 1)))) (bNot (asB (eCall (fun ds => toD (g_l_letters ds)) (aCons (e2 ixD (bVar 0) (eC (.int 1))) (aNil)))))))
    (sRet (eC (.bool false)))
    (sNil))
    (sRet (eAnd (e1 (isiD "str") (e2 ixD (bVar 0) (eC (.int 2)))) (eAnd (e2 leD (eCall lenD (aCons (e2 ixD (bVar 0) (eC (.int 2))) (aNil))) (eC (.int 8))) (eCall (fun ds => toD (g_l_letters ds)) (aCons (e2 ixD (bVar 0) (eC (.int 2))) (aNil))))))))
def g_l_is_rule : List D → Option Rv := gF 1 1 F_l_is_rule
theorem ok_l_is_rule {f : Addr} {fd : FuncData} (Fu : Fun K "_law_is_rule" "_law_is_rule" st_l_is_rule f fd) (hm : mg "_law_is_rule" = some (.ref f)) (bi : Bi mg) (c_l_whole : DF P w K mg base 1 "_law_whole" 1 g_l_whole) (c_l_letters : DF P w K mg base 1 "_law_letters" 1 g_l_letters) : DF P w K mg base 2 "_law_is_rule" 1 g_l_is_rule :=
  df_mk (ps := ["_law_rule"]) Fu rfl (fn_ok (N := ["_law_rule"]) (ps := ["_law_rule"]) (k := 1) (F := F_l_is_rule) Fu sc_l_is_rule fun cdv A outer s H O E hr => ⟨_,
    ss_cons (s_if (t_w (w_or (t_not (t_val (x_isi bi.isi bi.tup PyProof.Rows.boot_tuple (xvb 0)))) (w_or1 (t_cmp (op_neA hr.units) opd_ne (nomark _) ((x_cb cw_len opc_len bi.len PySem.boot_len (ab_cons (xvb 0) (ab_nil))).b) ((x_int).b)))))
    (ss_one (s_ret (x_bl)))
    (ss_nil))
    (ss_cons (s_if (t_w (w_or (t_not (t_val (x_call c_l_whole (hr.mono (by decide)) (a_cons (x_ix (xvb 0) (x_int)) (a_nil))))) (w_or (t_not (t_val (x_call c_l_whole (hr.mono (by decide)) (a_cons (x_ix (xvb 0) (x_int)) (a_nil))))) (w_or (t_cmp op_lt opd_cmp (nomark _) ((x_ix (xvb 0) (x_int)).b) ((x_int).b)) (w_or1 (t_cmp op_lt opd_cmp (nomark _) ((x_ix (xvb 0) (x_int)).b) ((x_int).b)))))))
    (ss_one (s_ret (x_bl)))
    (ss_nil))
    (ss_cons (s_if (t_w (w_or (t_not (t_val (x_isi bi.isi bi.str PyProof.Rows.boot_str ((x_ix (xvb 0) (x_int)).b)))) (w_or (t_cmp (op_neA hr.units) opd_ne (nomark _) ((x_cb cw_len opc_len bi.len PySem.boot_len (ab_cons ((x_ix (xvb 0) (x_int)).b) (ab_nil))).b) ((x_int).b)) (w_or1 (t_not (t_val (x_call c_l_letters (hr.mono (by decide)) (a_cons (x_ix (xvb 0) (x_int)) (a_nil)))))))))
    (ss_one (s_ret (x_bl)))
    (ss_nil))
    (ss_one (s_ret (x_and (x_isi bi.isi bi.str PyProof.Rows.boot_str ((x_ix (xvb 0) (x_int)).b)) (x_and (x_cmp op_le opd_cmp (nomark _) ((x_cb cw_len opc_len bi.len PySem.boot_len (ab_cons ((x_ix (xvb 0) (x_int)).b) (ab_nil))).b) ((x_int).b)) (x_one (x_call c_l_letters (hr.mono (by decide)) (a_cons (x_ix (xvb 0) (x_int)) (a_nil))))))))))⟩) hm (Fu.binds (ps := ["_law_rule"]) fun _ _ _ _ _ _ us hl => match us, hl with | [_], _ => rfl)
abbrev st_law : Stmt := topS 18
theorem sc_law : FnScope ["_law_script", "_law_many", "_law_program_here", "_law_given", "_law_rules", "_law_keys", "_law_kept", "_law_rule"] ["_law_script"] (defScope st_law) := ⟨rfl, rfl, rfl, by decide +kernel, rfl, by decide +kernel, by decide +kernel⟩
def F_law : En → Option Out :=
    sSeq (sSet 1 (e2 addD (eC (.int 1)) (e2 modD (eCall (fun ds => toD (g_l_cell_at ds)) (aCons (eVar 0) (aCons (eC (.int 0)) (aNil)))) (eC (.int 6)))))
    (sSeq (sSetR 2 (eCall (fun ds => toL (g_l_program ds)) (aCons (liL (e3 slL (bVar 0) (oSome (eC (.int 1))) (oSome (eC (.int 21))))) (aCons (eVar 1) (aNil)))))
    (sSeq (sSetR 3 (eCall listL (aCons (bVar 2) (aNil))))
    (sSeq (sSetL 4 (eCall (fun ds => toL (g_p_make_rows ds)) (aCons (eVar 3) (aCons (eVar 1) (aNil)))))
    (sSeq (sIf (bOr (bNot (asB (e1 (isiD "list") (bVar 4)))) (bNot (asB (eCall allD (aCons (liL (fzL 4 (lComp (iSeqD (eVar 4)) (hName 7) (cYes) (eCall (fun ds => toD (g_l_is_rule ds)) (aCons (eVar 7) (aNil))) [7]))) (aNil))))))
    (sRet (eC (.bool false)))
    (sNil))
    (sSeq (sSetR 5 (fzL 4 (lComp (iSeqD (eVar 4)) (hName 7) (cYes) (eTup (aCons (e2 ixD (bVar 7) (eC (.int 0))) (aCons (e2 ixD (bVar 7) (eC (.int 1))) (aNil)))) [7])))
    (sSeq (sIf (bOr (asB (e2 (neD 64) (eCall setLenD (aCons (bVar 5) (aNil))) (eCall lenD (aCons (bVar 5) (aNil))))) (asB (e2 (inLD false) (eTup (aCons (eCall lenD (aCons (bVar 2) (aNil))) (aCons (eC (.str "b")) (aNil)))) (bVar 5))))
    (sRet (eC (.bool false)))
    (sNil))
    (sSeq (sSetR 6 (eCall listL (aCons (bVar 4) (aNil))))
    (sSeq (sClear 4)
    (sRet (eAnd (e2 (eqD 64) (liL (eCall (fun ds => toL (g_p_make_rows ds)) (aCons (eVar 3) (aCons (eVar 1) (aNil))))) (bVar 6)) (e2 (eqD 64) (bVar 3) (bVar 2))))))))))))
def g_law : List D → Option Rv := gF 1 8 F_law
theorem ok_law {f : Addr} {fd : FuncData} (Fu : Fun K "law" "law" st_law f fd) (bi : Bi mg) (c_l_cell_at : DF P w K mg base 1 "_law_cell_at" 2 g_l_cell_at) (c_l_program : DF P w K mg base 3 "_law_program" 2 g_l_program) (c_p_make_rows : DF P w K mg base 4 "make_rows" 2 g_p_make_rows) (c_l_is_rule : DF P w K mg base 2 "_law_is_rule" 1 g_l_is_rule) : FnOk P w K mg base CX0 5 f fd ["_law_script"] (spD K 1 g_law) :=
  fn_ok (N := ["_law_script", "_law_many", "_law_program_here", "_law_given", "_law_rules", "_law_keys", "_law_kept", "_law_rule"]) (ps := ["_law_script"]) (k := 4) (F := F_law) Fu sc_law fun cdv A outer s H O E hr => ⟨_,
    ss_cons (s_set (i := 1) sc_law.nd rfl (Or.inl rfl) (x_add ((x_int).b) ((x_mod (x_call c_l_cell_at (hr.mono (by decide)) (a_cons (xv 0) (a_cons (x_int) (a_nil)))) (x_int)).b)))
    (ss_cons (s_setR (i := 2) sc_law.nd rfl (Or.inl rfl) (l_call c_l_program (hr.mono (by decide)) (a_cons ((l_sl (xvb 0) (o_some (x_int)) (o_some (x_int))).e) (a_cons (xv 1) (a_nil)))))
    (ss_cons (s_setR (i := 3) sc_law.nd rfl (Or.inl rfl) (l_ct cw_list opc_list bi.lst PyProof.Rows.boot_list (ab_cons (xvb 2) (ab_nil))))
    (ss_cons (s_setL (i := 4) sc_law.nd rfl (Or.inl rfl) (l_call c_p_make_rows (hr.mono (by decide)) (a_cons (xv 3) (a_cons (xv 1) (a_nil)))))
    (ss_cons (s_if (t_w (w_or (t_not (t_val (x_isi bi.isi bi.lst PyProof.Rows.boot_list (xvb 4)))) (w_or1 (t_not (t_val (x_cb (cw_all rfl) opc_all bi.all PyProof.Rows.boot_all (ab_cons (((l_fz 4 (l_lc (own := [("_law_rule", 7)]) rfl sc_law.nd (i_seq (xv 4)) (blkOk_by (own := [("_law_rule", 7)]) (N := ["_law_script", "_law_many", "_law_program_here", "_law_given", "_law_rules", "_law_keys", "_law_kept", "_law_rule"]) (sc := defScope st_law) (by decide +kernel)) (gw_name (by decide)) (fun _ _ _ _ _ => g_name sc_law.nd rfl (Or.inl rfl)) (fun _ _ _ _ _ => ts_nil) (fun _ _ _ _ _ => x_call c_l_is_rule (hr.mono (by decide)) (a_cons (xv 7) (a_nil))))).e).b) (ab_nil))))))))
    (ss_one (s_ret (x_bl)))
    (ss_nil))
    (ss_cons (s_setLcRz 4 (own := [("_law_rule", 7)]) rfl sc_law.nd rfl rfl (sw_true rfl rfl rfl (by decide +kernel)) (i_seq (xv 4)) (blkOk_by (own := [("_law_rule", 7)]) (N := ["_law_script", "_law_many", "_law_program_here", "_law_given", "_law_rules", "_law_keys", "_law_kept", "_law_rule"]) (sc := defScope st_law) (by decide +kernel)) (gw_name (by decide)) (fun _ _ _ _ _ => g_name sc_law.nd rfl (Or.inl rfl)) (fun _ _ _ _ _ => ts_nil) (fun _ _ _ _ _ => x_tup (a_cons (x_ix (xvb 7) (x_int)) (a_cons (x_ix (xvb 7) (x_int)) (a_nil)))))
    (ss_cons (s_if (t_w (w_or (t_cmp (op_neA hr.units) opd_ne (nomark _) ((x_setLen rfl (Z.Room.unN hr (by decide)) bi.len bi.set (ab_cons (xvb 5) (ab_nil))).b) ((x_cb cw_len opc_len bi.len PySem.boot_len (ab_cons (xvb 5) (ab_nil))).b)) (w_or1 (t_cmp (op_inD (Z.Room.unN hr (by decide))) opd_inL (by with_unfolding_all rfl) ((x_tup (a_cons (x_cb cw_len opc_len bi.len PySem.boot_len (ab_cons (xvb 2) (ab_nil))) (a_cons (x_str) (a_nil)))).b) (xvb 5)))))
    (ss_one (s_ret (x_bl)))
    (ss_nil))
    (ss_cons (s_setR (i := 6) sc_law.nd rfl (Or.inl rfl) (l_ct cw_list opc_list bi.lst PyProof.Rows.boot_list (ab_cons (xvb 4) (ab_nil))))
    (ss_cons (s_clear 4 (pv 4))
    (ss_one (s_ret (x_and (x_cmp (op_eqA hr.units) opd_eq (nomark _) (((l_call c_p_make_rows (hr.mono (by decide)) (a_cons (xv 3) (a_cons (xv 1) (a_nil)))).e).b) (xvb 6)) (x_one (x_cmp (op_eqA hr.units) opd_eq (nomark _) (xvb 3) (xvb 2))))))))))))))⟩
end
end Q

set_option Elab.async false
set_option maxRecDepth 100000
set_option maxHeartbeats 4000000
set_option linter.all false
namespace Q
open PySem PySem.Spec PyProof.Rows L2 Z
local macro_rules | `(tactic| walk_at "z") => `(tactic| simp -implicitDefEqProofs (disch := first | omega | (simp only [List.length_cons, List.length_nil, List.length_append, List.length_map, List.length_set, List.length_reverse, List.length_take, List.length_drop, List.length_range]; done) | (simp only [List.length_cons, List.length_nil, List.length_append, List.length_map, List.length_set, List.length_reverse, List.length_take, List.length_drop, List.length_range]; omega) | fail) only [List.length_map, gF_ap, env0, List.map_cons, List.map_nil, List.length_cons, List.length_nil, List.cons_append, List.nil_append, List.replicate_succ, List.replicate_zero, Nat.reduceAdd, Nat.reduceSub, if_true, if_false, eq_self, List.getD_cons_zero, Int.toNat_natCast, Nat.reduceEqDiff, reduceIte, reduceCtorEq, decide_true, decide_false, Bool.not_true, Bool.not_false, Bool.and_true, Bool.true_and, Bool.and_false, Bool.false_and, Bool.or_true, Bool.true_or, Bool.or_false, Bool.false_or,
  sSeq_ap, sqK_nx, sqK_rt, sqK_rl, sqK_bk, sqK_ct, sqK_no, sIf_ap, ifK_t, ifK_f, ifK_d, ifK_nd, sNil_ap, sBk_ap, sCt_ap, sRetN_ap, sBad_ap, eVar_ap, bVar_ap, mVar_ap, rdV_ro, rdV_lr, rdB_ro, rdB_lr, rdB_ow, rdM_lr, rdM_ow, nVar_ap, rdN_ro, rdN_lr, rdN_ow, eC_ap, e1_ap, e2_ap, e3_ap, b1_s, b2_s, b3_s, aNil_ap, aCons_ap, cnK_s, eCall_ap, caK_s, eTup_ap, tupK_s, lLst_ap, lstK_s, liL_ap, liK_s, lCat_ap, catK_s, oNone_ap, oSome_ap, oSK_i, asB_ap, boK_b, eAnd_ap, eOr_ap, andK_t, andK_f, orK_t, orK_f, andK_d, orK_d, bAnd_ap, bOr_ap, bAndK_t, bAndK_f, bOrK_t, bOrK_f, bAndK_d, bOrK_d, bAndK_nd, bOrK_nd, bNot_ap, toD_s, toL_l, rv_v, rv_l, sSet_ap, stK_s, sSetL_ap, slK_s, sSetR_ap, srK_s, sAsg_ap, asK_s, hName_ap, hTup_ap, hCons_ap, hNil_ap, sDrop_ap, drK_s, sRet_ap, rtK_s, sRetL_ap, rlK_s, sRetO_ap, roK_s, sFz_ap, fzK_s, fzK_ro, fzK_lr, sApp_ap, apK_s, sPut_ap, puK_s, sFor_ap, foK_s, forGo_n, forGo_c, tgK_s, at_nx, at_ct, at_bk, at_rt, at_rl, lComp_ap, coK_s, wipeE_n, wipeE_c, cYes_ap, wiK_t, wiK_f, sqK_ite, rvK_ite, at_ite, boK_ite, rtK_ite, ifK_ite, decide_eq_true_eq, Int.reduceToNat, Int.reduceLT, Int.reduceLE, Int.reduceEq, Int.reduceNeg, Int.reducePow, Int.reduceSub, Int.reduceAdd, Int.reduceMul, iSeqD_ap, iRg1D_ap, iRg2D_ap, iRevD_ap, iEnumD_ap, iZipD_ap, zipL_ap, seqK_l, seqK_t, seqK_s, rg1K_i, rg2K_i, revK_l, enuK_l, enuK_x, zipK_l, nat0, nat1, nat2, nat3, nat4, nat5, rvK_rt, rvK_rl, rvK_nx, compGo_n, compGo_c, cdK_y, cdK_s, all_t, eChain_ap, chK_ll, hUnl_ap, revL_ap, kyE_ap, kyeK_i, kyeK_s, kyeK_x, kyT_ap, kytK_ix, eDGet_ap, eDIn_ap, eDGet1_ap, eDGet2_ap, sDNew_ap, sDPutD_ap, dpK_T, dpK_K, sFzK_ap, fzkK_s, fzkK_ro, rdB_oK, pNil_ap, pCons_ap, pcK_s, pcK_x, eDisp_ap, dispK_1, fzL_ap, fzLK_s, fzT_ap, fzTK_s, fzE_ap, fzEK_s, xIO_ap, xiK_s, sRetP_ap, rpK_s, gIO_ap, ioR_rp, ioR_nx, ioK_s, sqK_rp, ioR_ite, envIO, sClear_ap, clK_s, sExt_ap, exK_s, sSetX_ap, xsK_s, xPop_ap, poK_s, poK_1, xPopAt_ap, patK_0, xaNil_ap, xaCons_ap, xacK_s, xTup_ap, xtK_s, xE_ap, xeK_s, xCall_ap, xclK_s, sAsgX_ap, xagK_s, sDropX_ap, xdK_s, sRetX_ap, xrK_s, sAppX_ap, axK_s, ax2K_s, ne_bb, ifK_v, ifK_nv, bOrK_v, bOrK_nv, bAndK_v, bAndK_nv, andK_v, orK_v, andK_nv, orK_nv,
  List.getElem?_cons_succ, List.getElem?_cons_zero, List.set_cons_succ, List.set_cons_zero, Option.bind_some, Option.map_some, Option.bind_none, Option.map_none,
  add_x, len_x, ix_x, eq_x, ne_x, isx_int, isx_bool, isx_str, isx_tuple, isx_list, isNx, notNx, sl_x, seq_x, cut_m1, cut_l1, sl_t, sl_l, sl_s, slL_l, cut_lo, cut_hi, cut_lh, cut_nn, add_ii, add_ss, add_tt, sub_ii, mul_l, mul_r, div_ii, mod_ii, pow_ii, lt_ii, le_ii, gt_ii, ge_ii, eq_ii, eq_bb, eq_ss, ne_ii, ne_ss, len_l, len_t, len_s, int_i, int_b, min_ii, max_ii, tup_l, tup_t, list_l, list_t, neg_i, not_b, ix_l, ix_t, atI_0, atI_1, atI_2, atI_3, atI_4,
  isN_n, isN_i, isN_s, isN_b, isN_t, isN_l, notN_n, notN_i, notN_s, notN_b, notN_t, notN_l, isB, notB, isi_i_int, isi_b_int, isi_s_int, isi_t_int, isi_l_int, isi_n_int, isi_i_bool, isi_b_bool, isi_s_bool, isi_t_bool, isi_l_bool, isi_n_bool, isi_i_str, isi_b_str, isi_s_str, isi_t_str, isi_l_str, isi_n_str, isi_i_tuple, isi_b_tuple, isi_s_tuple, isi_t_tuple, isi_l_tuple, isi_n_tuple, isi_i_list, isi_b_list, isi_s_list, isi_t_list, isi_l_list, isi_n_list])
local macro_rules | `(tactic| walk_at "y") => `(tactic| simp -implicitDefEqProofs (disch := first | omega | (simp only [List.length_cons, List.length_nil, List.length_append, List.length_map, List.length_set, List.length_reverse, List.length_take, List.length_drop, List.length_range]; done) | (simp only [List.length_cons, List.length_nil, List.length_append, List.length_map, List.length_set, List.length_reverse, List.length_take, List.length_drop, List.length_range]; omega) | fail) only [*, List.length_map, gF_ap, env0, List.map_cons, List.map_nil, List.length_cons, List.length_nil, List.cons_append, List.nil_append, List.replicate_succ, List.replicate_zero, Nat.reduceAdd, Nat.reduceSub, if_true, if_false, eq_self, List.getD_cons_zero, Int.toNat_natCast, Nat.reduceEqDiff, reduceIte, reduceCtorEq, decide_true, decide_false, Bool.not_true, Bool.not_false, Bool.and_true, Bool.true_and, Bool.and_false, Bool.false_and, Bool.or_true, Bool.true_or, Bool.or_false, Bool.false_or,
  sSeq_ap, sqK_nx, sqK_rt, sqK_rl, sqK_bk, sqK_ct, sqK_no, sIf_ap, ifK_t, ifK_f, ifK_d, ifK_nd, sNil_ap, sBk_ap, sCt_ap, sRetN_ap, sBad_ap, eVar_ap, bVar_ap, mVar_ap, rdV_ro, rdV_lr, rdB_ro, rdB_lr, rdB_ow, rdM_lr, rdM_ow, nVar_ap, rdN_ro, rdN_lr, rdN_ow, eC_ap, e1_ap, e2_ap, e3_ap, b1_s, b2_s, b3_s, aNil_ap, aCons_ap, cnK_s, eCall_ap, caK_s, eTup_ap, tupK_s, lLst_ap, lstK_s, liL_ap, liK_s, lCat_ap, catK_s, oNone_ap, oSome_ap, oSK_i, asB_ap, boK_b, eAnd_ap, eOr_ap, andK_t, andK_f, orK_t, orK_f, andK_d, orK_d, bAnd_ap, bOr_ap, bAndK_t, bAndK_f, bOrK_t, bOrK_f, bAndK_d, bOrK_d, bAndK_nd, bOrK_nd, bNot_ap, toD_s, toL_l, rv_v, rv_l, sSet_ap, stK_s, sSetL_ap, slK_s, sSetR_ap, srK_s, sAsg_ap, asK_s, hName_ap, hTup_ap, hCons_ap, hNil_ap, sDrop_ap, drK_s, sRet_ap, rtK_s, sRetL_ap, rlK_s, sRetO_ap, roK_s, sFz_ap, fzK_s, fzK_ro, fzK_lr, sApp_ap, apK_s, sPut_ap, puK_s, sFor_ap, foK_s, forGo_n, forGo_c, tgK_s, at_nx, at_ct, at_bk, at_rt, at_rl, lComp_ap, coK_s, wipeE_n, wipeE_c, cYes_ap, wiK_t, wiK_f, sqK_ite, rvK_ite, at_ite, boK_ite, rtK_ite, ifK_ite, decide_eq_true_eq, Int.reduceToNat, Int.reduceLT, Int.reduceLE, Int.reduceEq, Int.reduceNeg, Int.reducePow, Int.reduceSub, Int.reduceAdd, Int.reduceMul, iSeqD_ap, iRg1D_ap, iRg2D_ap, iRevD_ap, iEnumD_ap, iZipD_ap, zipL_ap, seqK_l, seqK_t, seqK_s, rg1K_i, rg2K_i, revK_l, enuK_l, enuK_x, zipK_l, nat0, nat1, nat2, nat3, nat4, nat5, rvK_rt, rvK_rl, rvK_nx, compGo_n, compGo_c, cdK_y, cdK_s, all_t, eChain_ap, chK_ll, hUnl_ap, revL_ap, kyE_ap, kyeK_i, kyeK_s, kyeK_x, kyT_ap, kytK_ix, eDGet_ap, eDIn_ap, eDGet1_ap, eDGet2_ap, sDNew_ap, sDPutD_ap, dpK_T, dpK_K, sFzK_ap, fzkK_s, fzkK_ro, rdB_oK, pNil_ap, pCons_ap, pcK_s, pcK_x, eDisp_ap, dispK_1, fzL_ap, fzLK_s, fzT_ap, fzTK_s, fzE_ap, fzEK_s, xIO_ap, xiK_s, sRetP_ap, rpK_s, gIO_ap, ioR_rp, ioR_nx, ioK_s, sqK_rp, ioR_ite, envIO, sClear_ap, clK_s, sExt_ap, exK_s, sSetX_ap, xsK_s, xPop_ap, poK_s, poK_1, xPopAt_ap, patK_0, xaNil_ap, xaCons_ap, xacK_s, xTup_ap, xtK_s, xE_ap, xeK_s, xCall_ap, xclK_s, sAsgX_ap, xagK_s, sDropX_ap, xdK_s, sRetX_ap, xrK_s, sAppX_ap, axK_s, ax2K_s, ne_bb, ifK_v, ifK_nv, bOrK_v, bOrK_nv, bAndK_v, bAndK_nv, andK_v, orK_v, andK_nv, orK_nv,
  List.getElem?_cons_succ, List.getElem?_cons_zero, List.set_cons_succ, List.set_cons_zero, Option.bind_some, Option.map_some, Option.bind_none, Option.map_none,
  add_x, len_x, ix_x, eq_x, ne_x, isx_int, isx_bool, isx_str, isx_tuple, isx_list, isNx, notNx, sl_x, seq_x, cut_m1, cut_l1, sl_t, sl_l, sl_s, slL_l, cut_lo, cut_hi, cut_lh, cut_nn, add_ii, add_ss, add_tt, sub_ii, mul_l, mul_r, div_ii, mod_ii, pow_ii, lt_ii, le_ii, gt_ii, ge_ii, eq_ii, eq_bb, eq_ss, ne_ii, ne_ss, len_l, len_t, len_s, int_i, int_b, min_ii, max_ii, tup_l, tup_t, list_l, list_t, neg_i, not_b, ix_l, ix_t, atI_0, atI_1, atI_2, atI_3, atI_4,
  isN_n, isN_i, isN_s, isN_b, isN_t, isN_l, notN_n, notN_i, notN_s, notN_b, notN_t, notN_l, isB, notB, isi_i_int, isi_b_int, isi_s_int, isi_t_int, isi_l_int, isi_n_int, isi_i_bool, isi_b_bool, isi_s_bool, isi_t_bool, isi_l_bool, isi_n_bool, isi_i_str, isi_b_str, isi_s_str, isi_t_str, isi_l_str, isi_n_str, isi_i_tuple, isi_b_tuple, isi_s_tuple, isi_t_tuple, isi_l_tuple, isi_n_tuple, isi_i_list, isi_b_list, isi_s_list, isi_t_list, isi_l_list, isi_n_list])
theorem atI_map {α β : Type} (g : α → β) (xs : List α) (i : Int) : atI (xs.map g) i = (atI xs i).map g := by
  unfold atI
  rw [List.length_map]
  cases ixN xs.length i with
  | none => rfl
  | some j => show (xs.map g)[j]? = _; rw [List.getElem?_map]; rfl
theorem atI_getD {α : Type} (xs : List α) (i : Int) (d : α) (h0 : 0 ≤ i) (h : i < xs.length) : atI xs i = some (xs.getD i.toNat d) := by
  rw [atI_nat' h0 h, List.getD_eq_getElem?_getD]
  have : i.toNat < xs.length := by omega
  rw [List.getElem?_eq_getElem this]; rfl
theorem ixm {ns : List Int} {i : Int} (h0 : 0 ≤ i) (h : i < ns.length) : atI (ns.map PyData.int) i = some (.int (ns.getD i.toNat 0)) := by
  rw [atI_map, atI_getD ns i 0 h0 h]; rfl
theorem one_last {α : Type} {xs : List α} (h : 1 ≤ xs.length) : ∃ ys a, xs = ys ++ [a] := by
  have hne : xs ≠ [] := fun e => by subst e; simp at h
  exact ⟨xs.dropLast, xs.getLast hne, (List.dropLast_concat_getLast hne).symm⟩
theorem two_last {α : Type} {xs : List α} (h : 2 ≤ xs.length) : ∃ ys a b, xs = ys ++ [a] ++ [b] := by
  obtain ⟨ys, b, rfl⟩ := one_last (show 1 ≤ xs.length by omega)
  rw [List.length_append, List.length_singleton] at h
  obtain ⟨zs, a, rfl⟩ := one_last (show 1 ≤ ys.length by omega)
  exact ⟨zs, a, b, rfl⟩
theorem ne_of_eq {n : Nat} {d e : D} {b : Bool} (h : eqD n d e = some (.bool b)) : neD n d e = some (.bool (!b)) := by
  unfold eqD at h
  unfold neD
  split at h
  · rename_i c
    rw [if_pos c]
    have h := Option.some.inj h
    injection h with h
    rw [h]
  · cases h
theorem chK_lelt {fc : En → Option D} {ρ : En} {i j : Int} : chK leD ltD fc ρ (some (.int i)) (some (.int j)) = if i ≤ j then b2 ltD (some (.int j)) (fc ρ) else some (.bool false) := by
  unfold chK
  dsimp only
  rw [le_ii, Option.bind_some]
  by_cases h : i ≤ j
  · rw [if_pos h, decide_eq_true h]
    show (fc ρ).bind _ = _
    cases fc ρ <;> rfl
  · rw [if_neg h, decide_eq_false h]
local macro_rules | `(tactic| walk_at "z") => `(tactic| simp -implicitDefEqProofs (disch := first | omega | (simp only [List.length_cons, List.length_nil, List.length_append, List.length_map, List.length_set, List.length_reverse, List.length_take, List.length_drop, List.length_range]; done) | (simp only [List.length_cons, List.length_nil, List.length_append, List.length_map, List.length_set, List.length_reverse, List.length_take, List.length_drop, List.length_range]; omega) | fail) only [List.length_map, chK_lelt, gF_ap, env0, List.map_cons, List.map_nil, List.length_cons, List.length_nil, List.cons_append, List.nil_append, List.replicate_succ, List.replicate_zero, Nat.reduceAdd, Nat.reduceSub, if_true, if_false, eq_self, List.getD_cons_zero, Int.toNat_natCast, Nat.reduceEqDiff, reduceIte, reduceCtorEq, decide_true, decide_false, Bool.not_true, Bool.not_false, Bool.and_true, Bool.true_and, Bool.and_false, Bool.false_and, Bool.or_true, Bool.true_or, Bool.or_false, Bool.false_or,
  sSeq_ap, sqK_nx, sqK_rt, sqK_rl, sqK_bk, sqK_ct, sqK_no, sIf_ap, ifK_t, ifK_f, ifK_d, ifK_nd, sNil_ap, sBk_ap, sCt_ap, sRetN_ap, sBad_ap, eVar_ap, bVar_ap, mVar_ap, rdV_ro, rdV_lr, rdB_ro, rdB_lr, rdB_ow, rdM_lr, rdM_ow, nVar_ap, rdN_ro, rdN_lr, rdN_ow, eC_ap, e1_ap, e2_ap, e3_ap, b1_s, b2_s, b3_s, aNil_ap, aCons_ap, cnK_s, eCall_ap, caK_s, eTup_ap, tupK_s, lLst_ap, lstK_s, liL_ap, liK_s, lCat_ap, catK_s, oNone_ap, oSome_ap, oSK_i, asB_ap, boK_b, eAnd_ap, eOr_ap, andK_t, andK_f, orK_t, orK_f, andK_d, orK_d, bAnd_ap, bOr_ap, bAndK_t, bAndK_f, bOrK_t, bOrK_f, bAndK_d, bOrK_d, bAndK_nd, bOrK_nd, bNot_ap, toD_s, toL_l, rv_v, rv_l, sSet_ap, stK_s, sSetL_ap, slK_s, sSetR_ap, srK_s, sAsg_ap, asK_s, hName_ap, hTup_ap, hCons_ap, hNil_ap, sDrop_ap, drK_s, sRet_ap, rtK_s, sRetL_ap, rlK_s, sRetO_ap, roK_s, sFz_ap, fzK_s, fzK_ro, fzK_lr, sApp_ap, apK_s, sPut_ap, puK_s, sFor_ap, foK_s, forGo_n, forGo_c, tgK_s, at_nx, at_ct, at_bk, at_rt, at_rl, lComp_ap, coK_s, wipeE_n, wipeE_c, cYes_ap, wiK_t, wiK_f, sqK_ite, rvK_ite, at_ite, boK_ite, rtK_ite, ifK_ite, decide_eq_true_eq, Int.reduceToNat, Int.reduceLT, Int.reduceLE, Int.reduceEq, Int.reduceNeg, Int.reducePow, Int.reduceSub, Int.reduceAdd, Int.reduceMul, iSeqD_ap, iRg1D_ap, iRg2D_ap, iRevD_ap, iEnumD_ap, iZipD_ap, zipL_ap, seqK_l, seqK_t, seqK_s, rg1K_i, rg2K_i, revK_l, enuK_l, enuK_x, zipK_l, nat0, nat1, nat2, nat3, nat4, nat5, rvK_rt, rvK_rl, rvK_nx, compGo_n, compGo_c, cdK_y, cdK_s, all_t, eChain_ap, chK_ll, hUnl_ap, revL_ap, kyE_ap, kyeK_i, kyeK_s, kyeK_x, kyT_ap, kytK_ix, eDGet_ap, eDIn_ap, eDGet1_ap, eDGet2_ap, sDNew_ap, sDPutD_ap, dpK_T, dpK_K, sFzK_ap, fzkK_s, fzkK_ro, rdB_oK, pNil_ap, pCons_ap, pcK_s, pcK_x, eDisp_ap, dispK_1, fzL_ap, fzLK_s, fzT_ap, fzTK_s, fzE_ap, fzEK_s, xIO_ap, xiK_s, sRetP_ap, rpK_s, gIO_ap, ioR_rp, ioR_nx, ioK_s, sqK_rp, ioR_ite, envIO, sClear_ap, clK_s, sExt_ap, exK_s, sSetX_ap, xsK_s, xPop_ap, poK_s, poK_1, xPopAt_ap, patK_0, xaNil_ap, xaCons_ap, xacK_s, xTup_ap, xtK_s, xE_ap, xeK_s, xCall_ap, xclK_s, sAsgX_ap, xagK_s, sDropX_ap, xdK_s, sRetX_ap, xrK_s, sAppX_ap, axK_s, ax2K_s, ne_bb, ifK_v, ifK_nv, bOrK_v, bOrK_nv, bAndK_v, bAndK_nv, andK_v, orK_v, andK_nv, orK_nv,
  List.getElem?_cons_succ, List.getElem?_cons_zero, List.set_cons_succ, List.set_cons_zero, Option.bind_some, Option.map_some, Option.bind_none, Option.map_none,
  add_x, len_x, ix_x, eq_x, ne_x, isx_int, isx_bool, isx_str, isx_tuple, isx_list, isNx, notNx, sl_x, seq_x, cut_m1, cut_l1, sl_t, sl_l, sl_s, slL_l, cut_lo, cut_hi, cut_lh, cut_nn, add_ii, add_ss, add_tt, sub_ii, mul_l, mul_r, div_ii, mod_ii, pow_ii, lt_ii, le_ii, gt_ii, ge_ii, eq_ii, eq_bb, eq_ss, ne_ii, ne_ss, len_l, len_t, len_s, int_i, int_b, min_ii, max_ii, tup_l, tup_t, list_l, list_t, neg_i, not_b, ix_l, ix_t, atI_0, atI_1, atI_2, atI_3, atI_4,
  isN_n, isN_i, isN_s, isN_b, isN_t, isN_l, notN_n, notN_i, notN_s, notN_b, notN_t, notN_l, isB, notB, isi_i_int, isi_b_int, isi_s_int, isi_t_int, isi_l_int, isi_n_int, isi_i_bool, isi_b_bool, isi_s_bool, isi_t_bool, isi_l_bool, isi_n_bool, isi_i_str, isi_b_str, isi_s_str, isi_t_str, isi_l_str, isi_n_str, isi_i_tuple, isi_b_tuple, isi_s_tuple, isi_t_tuple, isi_l_tuple, isi_n_tuple, isi_i_list, isi_b_list, isi_s_list, isi_t_list, isi_l_list, isi_n_list])
local macro_rules | `(tactic| walk_at "y") => `(tactic| simp -implicitDefEqProofs (disch := first | omega | (simp only [List.length_cons, List.length_nil, List.length_append, List.length_map, List.length_set, List.length_reverse, List.length_take, List.length_drop, List.length_range]; done) | (simp only [List.length_cons, List.length_nil, List.length_append, List.length_map, List.length_set, List.length_reverse, List.length_take, List.length_drop, List.length_range]; omega) | fail) only [*, List.length_map, chK_lelt, gF_ap, env0, List.map_cons, List.map_nil, List.length_cons, List.length_nil, List.cons_append, List.nil_append, List.replicate_succ, List.replicate_zero, Nat.reduceAdd, Nat.reduceSub, if_true, if_false, eq_self, List.getD_cons_zero, Int.toNat_natCast, Nat.reduceEqDiff, reduceIte, reduceCtorEq, decide_true, decide_false, Bool.not_true, Bool.not_false, Bool.and_true, Bool.true_and, Bool.and_false, Bool.false_and, Bool.or_true, Bool.true_or, Bool.or_false, Bool.false_or,
  sSeq_ap, sqK_nx, sqK_rt, sqK_rl, sqK_bk, sqK_ct, sqK_no, sIf_ap, ifK_t, ifK_f, ifK_d, ifK_nd, sNil_ap, sBk_ap, sCt_ap, sRetN_ap, sBad_ap, eVar_ap, bVar_ap, mVar_ap, rdV_ro, rdV_lr, rdB_ro, rdB_lr, rdB_ow, rdM_lr, rdM_ow, nVar_ap, rdN_ro, rdN_lr, rdN_ow, eC_ap, e1_ap, e2_ap, e3_ap, b1_s, b2_s, b3_s, aNil_ap, aCons_ap, cnK_s, eCall_ap, caK_s, eTup_ap, tupK_s, lLst_ap, lstK_s, liL_ap, liK_s, lCat_ap, catK_s, oNone_ap, oSome_ap, oSK_i, asB_ap, boK_b, eAnd_ap, eOr_ap, andK_t, andK_f, orK_t, orK_f, andK_d, orK_d, bAnd_ap, bOr_ap, bAndK_t, bAndK_f, bOrK_t, bOrK_f, bAndK_d, bOrK_d, bAndK_nd, bOrK_nd, bNot_ap, toD_s, toL_l, rv_v, rv_l, sSet_ap, stK_s, sSetL_ap, slK_s, sSetR_ap, srK_s, sAsg_ap, asK_s, hName_ap, hTup_ap, hCons_ap, hNil_ap, sDrop_ap, drK_s, sRet_ap, rtK_s, sRetL_ap, rlK_s, sRetO_ap, roK_s, sFz_ap, fzK_s, fzK_ro, fzK_lr, sApp_ap, apK_s, sPut_ap, puK_s, sFor_ap, foK_s, forGo_n, forGo_c, tgK_s, at_nx, at_ct, at_bk, at_rt, at_rl, lComp_ap, coK_s, wipeE_n, wipeE_c, cYes_ap, wiK_t, wiK_f, sqK_ite, rvK_ite, at_ite, boK_ite, rtK_ite, ifK_ite, decide_eq_true_eq, Int.reduceToNat, Int.reduceLT, Int.reduceLE, Int.reduceEq, Int.reduceNeg, Int.reducePow, Int.reduceSub, Int.reduceAdd, Int.reduceMul, iSeqD_ap, iRg1D_ap, iRg2D_ap, iRevD_ap, iEnumD_ap, iZipD_ap, zipL_ap, seqK_l, seqK_t, seqK_s, rg1K_i, rg2K_i, revK_l, enuK_l, enuK_x, zipK_l, nat0, nat1, nat2, nat3, nat4, nat5, rvK_rt, rvK_rl, rvK_nx, compGo_n, compGo_c, cdK_y, cdK_s, all_t, eChain_ap, chK_ll, hUnl_ap, revL_ap, kyE_ap, kyeK_i, kyeK_s, kyeK_x, kyT_ap, kytK_ix, eDGet_ap, eDIn_ap, eDGet1_ap, eDGet2_ap, sDNew_ap, sDPutD_ap, dpK_T, dpK_K, sFzK_ap, fzkK_s, fzkK_ro, rdB_oK, pNil_ap, pCons_ap, pcK_s, pcK_x, eDisp_ap, dispK_1, fzL_ap, fzLK_s, fzT_ap, fzTK_s, fzE_ap, fzEK_s, xIO_ap, xiK_s, sRetP_ap, rpK_s, gIO_ap, ioR_rp, ioR_nx, ioK_s, sqK_rp, ioR_ite, envIO, sClear_ap, clK_s, sExt_ap, exK_s, sSetX_ap, xsK_s, xPop_ap, poK_s, poK_1, xPopAt_ap, patK_0, xaNil_ap, xaCons_ap, xacK_s, xTup_ap, xtK_s, xE_ap, xeK_s, xCall_ap, xclK_s, sAsgX_ap, xagK_s, sDropX_ap, xdK_s, sRetX_ap, xrK_s, sAppX_ap, axK_s, ax2K_s, ne_bb, ifK_v, ifK_nv, bOrK_v, bOrK_nv, bAndK_v, bAndK_nv, andK_v, orK_v, andK_nv, orK_nv,
  List.getElem?_cons_succ, List.getElem?_cons_zero, List.set_cons_succ, List.set_cons_zero, Option.bind_some, Option.map_some, Option.bind_none, Option.map_none,
  add_x, len_x, ix_x, eq_x, ne_x, isx_int, isx_bool, isx_str, isx_tuple, isx_list, isNx, notNx, sl_x, seq_x, cut_m1, cut_l1, sl_t, sl_l, sl_s, slL_l, cut_lo, cut_hi, cut_lh, cut_nn, add_ii, add_ss, add_tt, sub_ii, mul_l, mul_r, div_ii, mod_ii, pow_ii, lt_ii, le_ii, gt_ii, ge_ii, eq_ii, eq_bb, eq_ss, ne_ii, ne_ss, len_l, len_t, len_s, int_i, int_b, min_ii, max_ii, tup_l, tup_t, list_l, list_t, neg_i, not_b, ix_l, ix_t, atI_0, atI_1, atI_2, atI_3, atI_4,
  isN_n, isN_i, isN_s, isN_b, isN_t, isN_l, notN_n, notN_i, notN_s, notN_b, notN_t, notN_l, isB, notB, isi_i_int, isi_b_int, isi_s_int, isi_t_int, isi_l_int, isi_n_int, isi_i_bool, isi_b_bool, isi_s_bool, isi_t_bool, isi_l_bool, isi_n_bool, isi_i_str, isi_b_str, isi_s_str, isi_t_str, isi_l_str, isi_n_str, isi_i_tuple, isi_b_tuple, isi_s_tuple, isi_t_tuple, isi_l_tuple, isi_n_tuple, isi_i_list, isi_b_list, isi_s_list, isi_t_list, isi_l_list, isi_n_list])
theorem patK_at {i : Nat} {ρ : En} {xs ys : List D} {d : D} {k : Int} (h : k = (xs.length : Int)) (hl : xs.length < 1000000) : patK i ρ (some (some (.ow (xs ++ d :: ys)))) (some (.int k)) = some (d, ρ.set i (some (.ow (xs ++ ys)))) := by
  subst h
  show (if 0 ≤ (xs.length : Int) ∧ (xs.length : Int) < 1000000 then ((xs ++ d :: ys)[(xs.length : Int).toNat]?).map fun e => (e, ρ.set i (some (SV.ow ((xs ++ d :: ys).eraseIdx (xs.length : Int).toNat)))) else none) = _
  rw [if_pos ⟨by omega, by omega⟩, Int.toNat_natCast, List.getElem?_append_right (Nat.le_refl _), Nat.sub_self, List.getElem?_cons_zero, List.eraseIdx_append_of_length_le (Nat.le_refl _), Nat.sub_self]
  rfl
theorem set_at {xs ys : List D} {d e : D} : (xs ++ e :: ys).set xs.length d = xs ++ d :: ys := by
  rw [List.set_append_right _ _ (Nat.le_refl _), Nat.sub_self]; rfl
theorem atI_at {xs ys : List D} {d : D} {k : Int} (h : k = (xs.length : Int)) : atI (xs ++ d :: ys) k = some d := by
  subst h
  rw [atI_nat' (by omega) (by rw [List.length_append, List.length_cons]; omega), Int.toNat_natCast, List.getElem?_append_right (Nat.le_refl _), Nat.sub_self]; rfl
theorem comp_nil {f : En → Option D} {c : En → Option Bool} {h : D → En → Option En} {ρ : En} : ∀ {ds : List D} {Y : Option (List D)}, compGo h c f ρ ds = Y → (∀ d ∈ ds, cdK h c f ρ [] (h d ρ) = some []) → Y = some []
  | [], _, e, _ => e.symm
  | d :: ds, Y, e, q => by
    have ih := comp_nil (ds := ds) rfl fun e he => q e (List.mem_cons_of_mem _ he)
    rw [← e, compGo_c, cdK_ap (q d List.mem_cons_self), ih]; rfl
/-! ### signs -/
def Sgs (xs : List Nat) : Prop := ∀ c ∈ xs, c < 1114112
theorem Sgs.app {xs ys : List Nat} (h : Sgs xs) (k : Sgs ys) : Sgs (xs ++ ys) := fun c hc => by
  rcases List.mem_append.mp hc with hc | hc
  · exact h c hc
  · exact k c hc
theorem Sgs.sub {xs ys : List Nat} (h : Sgs xs) (k : ∀ c ∈ ys, c ∈ xs) : Sgs ys := fun c hc => h c (k c hc)
theorem Sgs.one {c : Nat} {xs : List Nat} (h : Sgs xs) (i : Nat) : Sgs [xs.getD i 0] := fun c hc => by
  rcases List.mem_singleton.mp hc with rfl
  rw [List.getD_eq_getElem?_getD]
  cases e : xs[i]? with
  | none => decide
  | some v => exact h v (List.mem_of_getElem? e)
theorem Sgs.nil : Sgs [] := fun c hc => by cases hc
theorem Sgs.sg {c : Nat} (h : c < 1114112) : Sgs [c] := fun x hx => by rcases List.mem_singleton.mp hx with rfl; exact h
theorem getD_lt {xs : List Nat} (h : Sgs xs) (i : Nat) : xs.getD i 0 < 1114112 := Sgs.one (c := 0) h i _ List.mem_cons_self
def cellAt (ns : List Int) (k : Int) : Int := if k < ns.length then ns.getD k.toNat 0 else 0
theorem v_cell (ns : List Int) (k : Int) (h0 : 0 ≤ k) : g_l_cell_at [.list (ns.map .int), .int k] = some (.v (.int (cellAt ns k))) := by
  unfold g_l_cell_at F_l_cell_at
  walk_at "z"
  rw [atI_map]
  unfold cellAt
  by_cases h : k < ns.length
  · rw [if_pos h, if_pos h, atI_getD ns k 0 h0 h]; rfl
  · rw [if_neg h, if_neg h]
local macro_rules | `(tactic| walk_at "z") => `(tactic| simp -implicitDefEqProofs (disch := first | omega | (simp only [List.length_cons, List.length_nil, List.length_append, List.length_map, List.length_set, List.length_reverse, List.length_take, List.length_drop, List.length_range]; done) | (simp only [List.length_cons, List.length_nil, List.length_append, List.length_map, List.length_set, List.length_reverse, List.length_take, List.length_drop, List.length_range]; omega) | fail) only [List.length_map, chK_lelt, v_cell, gF_ap, env0, List.map_cons, List.map_nil, List.length_cons, List.length_nil, List.cons_append, List.nil_append, List.replicate_succ, List.replicate_zero, Nat.reduceAdd, Nat.reduceSub, if_true, if_false, eq_self, List.getD_cons_zero, Int.toNat_natCast, Nat.reduceEqDiff, reduceIte, reduceCtorEq, decide_true, decide_false, Bool.not_true, Bool.not_false, Bool.and_true, Bool.true_and, Bool.and_false, Bool.false_and, Bool.or_true, Bool.true_or, Bool.or_false, Bool.false_or,
  sSeq_ap, sqK_nx, sqK_rt, sqK_rl, sqK_bk, sqK_ct, sqK_no, sIf_ap, ifK_t, ifK_f, ifK_d, ifK_nd, sNil_ap, sBk_ap, sCt_ap, sRetN_ap, sBad_ap, eVar_ap, bVar_ap, mVar_ap, rdV_ro, rdV_lr, rdB_ro, rdB_lr, rdB_ow, rdM_lr, rdM_ow, nVar_ap, rdN_ro, rdN_lr, rdN_ow, eC_ap, e1_ap, e2_ap, e3_ap, b1_s, b2_s, b3_s, aNil_ap, aCons_ap, cnK_s, eCall_ap, caK_s, eTup_ap, tupK_s, lLst_ap, lstK_s, liL_ap, liK_s, lCat_ap, catK_s, oNone_ap, oSome_ap, oSK_i, asB_ap, boK_b, eAnd_ap, eOr_ap, andK_t, andK_f, orK_t, orK_f, andK_d, orK_d, bAnd_ap, bOr_ap, bAndK_t, bAndK_f, bOrK_t, bOrK_f, bAndK_d, bOrK_d, bAndK_nd, bOrK_nd, bNot_ap, toD_s, toL_l, rv_v, rv_l, sSet_ap, stK_s, sSetL_ap, slK_s, sSetR_ap, srK_s, sAsg_ap, asK_s, hName_ap, hTup_ap, hCons_ap, hNil_ap, sDrop_ap, drK_s, sRet_ap, rtK_s, sRetL_ap, rlK_s, sRetO_ap, roK_s, sFz_ap, fzK_s, fzK_ro, fzK_lr, sApp_ap, apK_s, sPut_ap, puK_s, sFor_ap, foK_s, forGo_n, forGo_c, tgK_s, at_nx, at_ct, at_bk, at_rt, at_rl, lComp_ap, coK_s, wipeE_n, wipeE_c, cYes_ap, wiK_t, wiK_f, sqK_ite, rvK_ite, at_ite, boK_ite, rtK_ite, ifK_ite, decide_eq_true_eq, Int.reduceToNat, Int.reduceLT, Int.reduceLE, Int.reduceEq, Int.reduceNeg, Int.reducePow, Int.reduceSub, Int.reduceAdd, Int.reduceMul, iSeqD_ap, iRg1D_ap, iRg2D_ap, iRevD_ap, iEnumD_ap, iZipD_ap, zipL_ap, seqK_l, seqK_t, seqK_s, rg1K_i, rg2K_i, revK_l, enuK_l, enuK_x, zipK_l, nat0, nat1, nat2, nat3, nat4, nat5, rvK_rt, rvK_rl, rvK_nx, compGo_n, compGo_c, cdK_y, cdK_s, all_t, eChain_ap, chK_ll, hUnl_ap, revL_ap, kyE_ap, kyeK_i, kyeK_s, kyeK_x, kyT_ap, kytK_ix, eDGet_ap, eDIn_ap, eDGet1_ap, eDGet2_ap, sDNew_ap, sDPutD_ap, dpK_T, dpK_K, sFzK_ap, fzkK_s, fzkK_ro, rdB_oK, pNil_ap, pCons_ap, pcK_s, pcK_x, eDisp_ap, dispK_1, fzL_ap, fzLK_s, fzT_ap, fzTK_s, fzE_ap, fzEK_s, xIO_ap, xiK_s, sRetP_ap, rpK_s, gIO_ap, ioR_rp, ioR_nx, ioK_s, sqK_rp, ioR_ite, envIO, sClear_ap, clK_s, sExt_ap, exK_s, sSetX_ap, xsK_s, xPop_ap, poK_s, poK_1, xPopAt_ap, patK_0, xaNil_ap, xaCons_ap, xacK_s, xTup_ap, xtK_s, xE_ap, xeK_s, xCall_ap, xclK_s, sAsgX_ap, xagK_s, sDropX_ap, xdK_s, sRetX_ap, xrK_s, sAppX_ap, axK_s, ax2K_s, ne_bb, ifK_v, ifK_nv, bOrK_v, bOrK_nv, bAndK_v, bAndK_nv, andK_v, orK_v, andK_nv, orK_nv,
  List.getElem?_cons_succ, List.getElem?_cons_zero, List.set_cons_succ, List.set_cons_zero, Option.bind_some, Option.map_some, Option.bind_none, Option.map_none,
  add_x, len_x, ix_x, eq_x, ne_x, isx_int, isx_bool, isx_str, isx_tuple, isx_list, isNx, notNx, sl_x, seq_x, cut_m1, cut_l1, sl_t, sl_l, sl_s, slL_l, cut_lo, cut_hi, cut_lh, cut_nn, add_ii, add_ss, add_tt, sub_ii, mul_l, mul_r, div_ii, mod_ii, pow_ii, lt_ii, le_ii, gt_ii, ge_ii, eq_ii, eq_bb, eq_ss, ne_ii, ne_ss, len_l, len_t, len_s, int_i, int_b, min_ii, max_ii, tup_l, tup_t, list_l, list_t, neg_i, not_b, ix_l, ix_t, atI_0, atI_1, atI_2, atI_3, atI_4,
  isN_n, isN_i, isN_s, isN_b, isN_t, isN_l, notN_n, notN_i, notN_s, notN_b, notN_t, notN_l, isB, notB, isi_i_int, isi_b_int, isi_s_int, isi_t_int, isi_l_int, isi_n_int, isi_i_bool, isi_b_bool, isi_s_bool, isi_t_bool, isi_l_bool, isi_n_bool, isi_i_str, isi_b_str, isi_s_str, isi_t_str, isi_l_str, isi_n_str, isi_i_tuple, isi_b_tuple, isi_s_tuple, isi_t_tuple, isi_l_tuple, isi_n_tuple, isi_i_list, isi_b_list, isi_s_list, isi_t_list, isi_l_list, isi_n_list])
local macro_rules | `(tactic| walk_at "y") => `(tactic| simp -implicitDefEqProofs (disch := first | omega | (simp only [List.length_cons, List.length_nil, List.length_append, List.length_map, List.length_set, List.length_reverse, List.length_take, List.length_drop, List.length_range]; done) | (simp only [List.length_cons, List.length_nil, List.length_append, List.length_map, List.length_set, List.length_reverse, List.length_take, List.length_drop, List.length_range]; omega) | fail) only [*, List.length_map, chK_lelt, v_cell, gF_ap, env0, List.map_cons, List.map_nil, List.length_cons, List.length_nil, List.cons_append, List.nil_append, List.replicate_succ, List.replicate_zero, Nat.reduceAdd, Nat.reduceSub, if_true, if_false, eq_self, List.getD_cons_zero, Int.toNat_natCast, Nat.reduceEqDiff, reduceIte, reduceCtorEq, decide_true, decide_false, Bool.not_true, Bool.not_false, Bool.and_true, Bool.true_and, Bool.and_false, Bool.false_and, Bool.or_true, Bool.true_or, Bool.or_false, Bool.false_or,
  sSeq_ap, sqK_nx, sqK_rt, sqK_rl, sqK_bk, sqK_ct, sqK_no, sIf_ap, ifK_t, ifK_f, ifK_d, ifK_nd, sNil_ap, sBk_ap, sCt_ap, sRetN_ap, sBad_ap, eVar_ap, bVar_ap, mVar_ap, rdV_ro, rdV_lr, rdB_ro, rdB_lr, rdB_ow, rdM_lr, rdM_ow, nVar_ap, rdN_ro, rdN_lr, rdN_ow, eC_ap, e1_ap, e2_ap, e3_ap, b1_s, b2_s, b3_s, aNil_ap, aCons_ap, cnK_s, eCall_ap, caK_s, eTup_ap, tupK_s, lLst_ap, lstK_s, liL_ap, liK_s, lCat_ap, catK_s, oNone_ap, oSome_ap, oSK_i, asB_ap, boK_b, eAnd_ap, eOr_ap, andK_t, andK_f, orK_t, orK_f, andK_d, orK_d, bAnd_ap, bOr_ap, bAndK_t, bAndK_f, bOrK_t, bOrK_f, bAndK_d, bOrK_d, bAndK_nd, bOrK_nd, bNot_ap, toD_s, toL_l, rv_v, rv_l, sSet_ap, stK_s, sSetL_ap, slK_s, sSetR_ap, srK_s, sAsg_ap, asK_s, hName_ap, hTup_ap, hCons_ap, hNil_ap, sDrop_ap, drK_s, sRet_ap, rtK_s, sRetL_ap, rlK_s, sRetO_ap, roK_s, sFz_ap, fzK_s, fzK_ro, fzK_lr, sApp_ap, apK_s, sPut_ap, puK_s, sFor_ap, foK_s, forGo_n, forGo_c, tgK_s, at_nx, at_ct, at_bk, at_rt, at_rl, lComp_ap, coK_s, wipeE_n, wipeE_c, cYes_ap, wiK_t, wiK_f, sqK_ite, rvK_ite, at_ite, boK_ite, rtK_ite, ifK_ite, decide_eq_true_eq, Int.reduceToNat, Int.reduceLT, Int.reduceLE, Int.reduceEq, Int.reduceNeg, Int.reducePow, Int.reduceSub, Int.reduceAdd, Int.reduceMul, iSeqD_ap, iRg1D_ap, iRg2D_ap, iRevD_ap, iEnumD_ap, iZipD_ap, zipL_ap, seqK_l, seqK_t, seqK_s, rg1K_i, rg2K_i, revK_l, enuK_l, enuK_x, zipK_l, nat0, nat1, nat2, nat3, nat4, nat5, rvK_rt, rvK_rl, rvK_nx, compGo_n, compGo_c, cdK_y, cdK_s, all_t, eChain_ap, chK_ll, hUnl_ap, revL_ap, kyE_ap, kyeK_i, kyeK_s, kyeK_x, kyT_ap, kytK_ix, eDGet_ap, eDIn_ap, eDGet1_ap, eDGet2_ap, sDNew_ap, sDPutD_ap, dpK_T, dpK_K, sFzK_ap, fzkK_s, fzkK_ro, rdB_oK, pNil_ap, pCons_ap, pcK_s, pcK_x, eDisp_ap, dispK_1, fzL_ap, fzLK_s, fzT_ap, fzTK_s, fzE_ap, fzEK_s, xIO_ap, xiK_s, sRetP_ap, rpK_s, gIO_ap, ioR_rp, ioR_nx, ioK_s, sqK_rp, ioR_ite, envIO, sClear_ap, clK_s, sExt_ap, exK_s, sSetX_ap, xsK_s, xPop_ap, poK_s, poK_1, xPopAt_ap, patK_0, xaNil_ap, xaCons_ap, xacK_s, xTup_ap, xtK_s, xE_ap, xeK_s, xCall_ap, xclK_s, sAsgX_ap, xagK_s, sDropX_ap, xdK_s, sRetX_ap, xrK_s, sAppX_ap, axK_s, ax2K_s, ne_bb, ifK_v, ifK_nv, bOrK_v, bOrK_nv, bAndK_v, bAndK_nv, andK_v, orK_v, andK_nv, orK_nv,
  List.getElem?_cons_succ, List.getElem?_cons_zero, List.set_cons_succ, List.set_cons_zero, Option.bind_some, Option.map_some, Option.bind_none, Option.map_none,
  add_x, len_x, ix_x, eq_x, ne_x, isx_int, isx_bool, isx_str, isx_tuple, isx_list, isNx, notNx, sl_x, seq_x, cut_m1, cut_l1, sl_t, sl_l, sl_s, slL_l, cut_lo, cut_hi, cut_lh, cut_nn, add_ii, add_ss, add_tt, sub_ii, mul_l, mul_r, div_ii, mod_ii, pow_ii, lt_ii, le_ii, gt_ii, ge_ii, eq_ii, eq_bb, eq_ss, ne_ii, ne_ss, len_l, len_t, len_s, int_i, int_b, min_ii, max_ii, tup_l, tup_t, list_l, list_t, neg_i, not_b, ix_l, ix_t, atI_0, atI_1, atI_2, atI_3, atI_4,
  isN_n, isN_i, isN_s, isN_b, isN_t, isN_l, notN_n, notN_i, notN_s, notN_b, notN_t, notN_l, isB, notB, isi_i_int, isi_b_int, isi_s_int, isi_t_int, isi_l_int, isi_n_int, isi_i_bool, isi_b_bool, isi_s_bool, isi_t_bool, isi_l_bool, isi_n_bool, isi_i_str, isi_b_str, isi_s_str, isi_t_str, isi_l_str, isi_n_str, isi_i_tuple, isi_b_tuple, isi_s_tuple, isi_t_tuple, isi_l_tuple, isi_n_tuple, isi_i_list, isi_b_list, isi_s_list, isi_t_list, isi_l_list, isi_n_list])
/-! ### programs of counters: rows, drawn -/
def mixed (c k : Int) : Int := (c % 1000000007 + 7919 * k + 13) * (c % 1000000007 + 7919 * k + 13) % 998244353 / 3
theorem v_mixed (c k : Int) (h0 : 0 ≤ k) (h1 : k ≤ 1000000000) : g_l_mixed [.int c, .int k] = some (.v (.int (mixed c k))) := by
  unfold g_l_mixed F_l_mixed
  walk_at "z"
  rfl
theorem mixed_nn (c k : Int) : 0 ≤ mixed c k := by
  unfold mixed
  have := Int.emod_nonneg ((c % 1000000007 + 7919 * k + 13) * (c % 1000000007 + 7919 * k + 13)) (show (998244353 : Int) ≠ 0 by decide)
  omega
theorem mixed_lt (c k : Int) : mixed c k < 998244353 := by
  unfold mixed
  have := Int.emod_lt_of_pos ((c % 1000000007 + 7919 * k + 13) * (c % 1000000007 + 7919 * k + 13)) (show (0 : Int) < 998244353 by decide)
  omega
local macro_rules | `(tactic| walk_at "z") => `(tactic| simp -implicitDefEqProofs (disch := first | omega | (simp only [List.length_cons, List.length_nil, List.length_append, List.length_map, List.length_set, List.length_reverse, List.length_take, List.length_drop, List.length_range]; done) | (simp only [List.length_cons, List.length_nil, List.length_append, List.length_map, List.length_set, List.length_reverse, List.length_take, List.length_drop, List.length_range]; omega) | fail) only [List.length_map, chK_lelt, v_cell, v_mixed, gF_ap, env0, List.map_cons, List.map_nil, List.length_cons, List.length_nil, List.cons_append, List.nil_append, List.replicate_succ, List.replicate_zero, Nat.reduceAdd, Nat.reduceSub, if_true, if_false, eq_self, List.getD_cons_zero, Int.toNat_natCast, Nat.reduceEqDiff, reduceIte, reduceCtorEq, decide_true, decide_false, Bool.not_true, Bool.not_false, Bool.and_true, Bool.true_and, Bool.and_false, Bool.false_and, Bool.or_true, Bool.true_or, Bool.or_false, Bool.false_or,
  sSeq_ap, sqK_nx, sqK_rt, sqK_rl, sqK_bk, sqK_ct, sqK_no, sIf_ap, ifK_t, ifK_f, ifK_d, ifK_nd, sNil_ap, sBk_ap, sCt_ap, sRetN_ap, sBad_ap, eVar_ap, bVar_ap, mVar_ap, rdV_ro, rdV_lr, rdB_ro, rdB_lr, rdB_ow, rdM_lr, rdM_ow, nVar_ap, rdN_ro, rdN_lr, rdN_ow, eC_ap, e1_ap, e2_ap, e3_ap, b1_s, b2_s, b3_s, aNil_ap, aCons_ap, cnK_s, eCall_ap, caK_s, eTup_ap, tupK_s, lLst_ap, lstK_s, liL_ap, liK_s, lCat_ap, catK_s, oNone_ap, oSome_ap, oSK_i, asB_ap, boK_b, eAnd_ap, eOr_ap, andK_t, andK_f, orK_t, orK_f, andK_d, orK_d, bAnd_ap, bOr_ap, bAndK_t, bAndK_f, bOrK_t, bOrK_f, bAndK_d, bOrK_d, bAndK_nd, bOrK_nd, bNot_ap, toD_s, toL_l, rv_v, rv_l, sSet_ap, stK_s, sSetL_ap, slK_s, sSetR_ap, srK_s, sAsg_ap, asK_s, hName_ap, hTup_ap, hCons_ap, hNil_ap, sDrop_ap, drK_s, sRet_ap, rtK_s, sRetL_ap, rlK_s, sRetO_ap, roK_s, sFz_ap, fzK_s, fzK_ro, fzK_lr, sApp_ap, apK_s, sPut_ap, puK_s, sFor_ap, foK_s, forGo_n, forGo_c, tgK_s, at_nx, at_ct, at_bk, at_rt, at_rl, lComp_ap, coK_s, wipeE_n, wipeE_c, cYes_ap, wiK_t, wiK_f, sqK_ite, rvK_ite, at_ite, boK_ite, rtK_ite, ifK_ite, decide_eq_true_eq, Int.reduceToNat, Int.reduceLT, Int.reduceLE, Int.reduceEq, Int.reduceNeg, Int.reducePow, Int.reduceSub, Int.reduceAdd, Int.reduceMul, iSeqD_ap, iRg1D_ap, iRg2D_ap, iRevD_ap, iEnumD_ap, iZipD_ap, zipL_ap, seqK_l, seqK_t, seqK_s, rg1K_i, rg2K_i, revK_l, enuK_l, enuK_x, zipK_l, nat0, nat1, nat2, nat3, nat4, nat5, rvK_rt, rvK_rl, rvK_nx, compGo_n, compGo_c, cdK_y, cdK_s, all_t, eChain_ap, chK_ll, hUnl_ap, revL_ap, kyE_ap, kyeK_i, kyeK_s, kyeK_x, kyT_ap, kytK_ix, eDGet_ap, eDIn_ap, eDGet1_ap, eDGet2_ap, sDNew_ap, sDPutD_ap, dpK_T, dpK_K, sFzK_ap, fzkK_s, fzkK_ro, rdB_oK, pNil_ap, pCons_ap, pcK_s, pcK_x, eDisp_ap, dispK_1, fzL_ap, fzLK_s, fzT_ap, fzTK_s, fzE_ap, fzEK_s, xIO_ap, xiK_s, sRetP_ap, rpK_s, gIO_ap, ioR_rp, ioR_nx, ioK_s, sqK_rp, ioR_ite, envIO, sClear_ap, clK_s, sExt_ap, exK_s, sSetX_ap, xsK_s, xPop_ap, poK_s, poK_1, xPopAt_ap, patK_0, xaNil_ap, xaCons_ap, xacK_s, xTup_ap, xtK_s, xE_ap, xeK_s, xCall_ap, xclK_s, sAsgX_ap, xagK_s, sDropX_ap, xdK_s, sRetX_ap, xrK_s, sAppX_ap, axK_s, ax2K_s, ne_bb, ifK_v, ifK_nv, bOrK_v, bOrK_nv, bAndK_v, bAndK_nv, andK_v, orK_v, andK_nv, orK_nv,
  List.getElem?_cons_succ, List.getElem?_cons_zero, List.set_cons_succ, List.set_cons_zero, Option.bind_some, Option.map_some, Option.bind_none, Option.map_none,
  add_x, len_x, ix_x, eq_x, ne_x, isx_int, isx_bool, isx_str, isx_tuple, isx_list, isNx, notNx, sl_x, seq_x, cut_m1, cut_l1, sl_t, sl_l, sl_s, slL_l, cut_lo, cut_hi, cut_lh, cut_nn, add_ii, add_ss, add_tt, sub_ii, mul_l, mul_r, div_ii, mod_ii, pow_ii, lt_ii, le_ii, gt_ii, ge_ii, eq_ii, eq_bb, eq_ss, ne_ii, ne_ss, len_l, len_t, len_s, int_i, int_b, min_ii, max_ii, tup_l, tup_t, list_l, list_t, neg_i, not_b, ix_l, ix_t, atI_0, atI_1, atI_2, atI_3, atI_4,
  isN_n, isN_i, isN_s, isN_b, isN_t, isN_l, notN_n, notN_i, notN_s, notN_b, notN_t, notN_l, isB, notB, isi_i_int, isi_b_int, isi_s_int, isi_t_int, isi_l_int, isi_n_int, isi_i_bool, isi_b_bool, isi_s_bool, isi_t_bool, isi_l_bool, isi_n_bool, isi_i_str, isi_b_str, isi_s_str, isi_t_str, isi_l_str, isi_n_str, isi_i_tuple, isi_b_tuple, isi_s_tuple, isi_t_tuple, isi_l_tuple, isi_n_tuple, isi_i_list, isi_b_list, isi_s_list, isi_t_list, isi_l_list, isi_n_list])
local macro_rules | `(tactic| walk_at "y") => `(tactic| simp -implicitDefEqProofs (disch := first | omega | (simp only [List.length_cons, List.length_nil, List.length_append, List.length_map, List.length_set, List.length_reverse, List.length_take, List.length_drop, List.length_range]; done) | (simp only [List.length_cons, List.length_nil, List.length_append, List.length_map, List.length_set, List.length_reverse, List.length_take, List.length_drop, List.length_range]; omega) | fail) only [*, List.length_map, chK_lelt, v_cell, v_mixed, gF_ap, env0, List.map_cons, List.map_nil, List.length_cons, List.length_nil, List.cons_append, List.nil_append, List.replicate_succ, List.replicate_zero, Nat.reduceAdd, Nat.reduceSub, if_true, if_false, eq_self, List.getD_cons_zero, Int.toNat_natCast, Nat.reduceEqDiff, reduceIte, reduceCtorEq, decide_true, decide_false, Bool.not_true, Bool.not_false, Bool.and_true, Bool.true_and, Bool.and_false, Bool.false_and, Bool.or_true, Bool.true_or, Bool.or_false, Bool.false_or,
  sSeq_ap, sqK_nx, sqK_rt, sqK_rl, sqK_bk, sqK_ct, sqK_no, sIf_ap, ifK_t, ifK_f, ifK_d, ifK_nd, sNil_ap, sBk_ap, sCt_ap, sRetN_ap, sBad_ap, eVar_ap, bVar_ap, mVar_ap, rdV_ro, rdV_lr, rdB_ro, rdB_lr, rdB_ow, rdM_lr, rdM_ow, nVar_ap, rdN_ro, rdN_lr, rdN_ow, eC_ap, e1_ap, e2_ap, e3_ap, b1_s, b2_s, b3_s, aNil_ap, aCons_ap, cnK_s, eCall_ap, caK_s, eTup_ap, tupK_s, lLst_ap, lstK_s, liL_ap, liK_s, lCat_ap, catK_s, oNone_ap, oSome_ap, oSK_i, asB_ap, boK_b, eAnd_ap, eOr_ap, andK_t, andK_f, orK_t, orK_f, andK_d, orK_d, bAnd_ap, bOr_ap, bAndK_t, bAndK_f, bOrK_t, bOrK_f, bAndK_d, bOrK_d, bAndK_nd, bOrK_nd, bNot_ap, toD_s, toL_l, rv_v, rv_l, sSet_ap, stK_s, sSetL_ap, slK_s, sSetR_ap, srK_s, sAsg_ap, asK_s, hName_ap, hTup_ap, hCons_ap, hNil_ap, sDrop_ap, drK_s, sRet_ap, rtK_s, sRetL_ap, rlK_s, sRetO_ap, roK_s, sFz_ap, fzK_s, fzK_ro, fzK_lr, sApp_ap, apK_s, sPut_ap, puK_s, sFor_ap, foK_s, forGo_n, forGo_c, tgK_s, at_nx, at_ct, at_bk, at_rt, at_rl, lComp_ap, coK_s, wipeE_n, wipeE_c, cYes_ap, wiK_t, wiK_f, sqK_ite, rvK_ite, at_ite, boK_ite, rtK_ite, ifK_ite, decide_eq_true_eq, Int.reduceToNat, Int.reduceLT, Int.reduceLE, Int.reduceEq, Int.reduceNeg, Int.reducePow, Int.reduceSub, Int.reduceAdd, Int.reduceMul, iSeqD_ap, iRg1D_ap, iRg2D_ap, iRevD_ap, iEnumD_ap, iZipD_ap, zipL_ap, seqK_l, seqK_t, seqK_s, rg1K_i, rg2K_i, revK_l, enuK_l, enuK_x, zipK_l, nat0, nat1, nat2, nat3, nat4, nat5, rvK_rt, rvK_rl, rvK_nx, compGo_n, compGo_c, cdK_y, cdK_s, all_t, eChain_ap, chK_ll, hUnl_ap, revL_ap, kyE_ap, kyeK_i, kyeK_s, kyeK_x, kyT_ap, kytK_ix, eDGet_ap, eDIn_ap, eDGet1_ap, eDGet2_ap, sDNew_ap, sDPutD_ap, dpK_T, dpK_K, sFzK_ap, fzkK_s, fzkK_ro, rdB_oK, pNil_ap, pCons_ap, pcK_s, pcK_x, eDisp_ap, dispK_1, fzL_ap, fzLK_s, fzT_ap, fzTK_s, fzE_ap, fzEK_s, xIO_ap, xiK_s, sRetP_ap, rpK_s, gIO_ap, ioR_rp, ioR_nx, ioK_s, sqK_rp, ioR_ite, envIO, sClear_ap, clK_s, sExt_ap, exK_s, sSetX_ap, xsK_s, xPop_ap, poK_s, poK_1, xPopAt_ap, patK_0, xaNil_ap, xaCons_ap, xacK_s, xTup_ap, xtK_s, xE_ap, xeK_s, xCall_ap, xclK_s, sAsgX_ap, xagK_s, sDropX_ap, xdK_s, sRetX_ap, xrK_s, sAppX_ap, axK_s, ax2K_s, ne_bb, ifK_v, ifK_nv, bOrK_v, bOrK_nv, bAndK_v, bAndK_nv, andK_v, orK_v, andK_nv, orK_nv,
  List.getElem?_cons_succ, List.getElem?_cons_zero, List.set_cons_succ, List.set_cons_zero, Option.bind_some, Option.map_some, Option.bind_none, Option.map_none,
  add_x, len_x, ix_x, eq_x, ne_x, isx_int, isx_bool, isx_str, isx_tuple, isx_list, isNx, notNx, sl_x, seq_x, cut_m1, cut_l1, sl_t, sl_l, sl_s, slL_l, cut_lo, cut_hi, cut_lh, cut_nn, add_ii, add_ss, add_tt, sub_ii, mul_l, mul_r, div_ii, mod_ii, pow_ii, lt_ii, le_ii, gt_ii, ge_ii, eq_ii, eq_bb, eq_ss, ne_ii, ne_ss, len_l, len_t, len_s, int_i, int_b, min_ii, max_ii, tup_l, tup_t, list_l, list_t, neg_i, not_b, ix_l, ix_t, atI_0, atI_1, atI_2, atI_3, atI_4,
  isN_n, isN_i, isN_s, isN_b, isN_t, isN_l, notN_n, notN_i, notN_s, notN_b, notN_t, notN_l, isB, notB, isi_i_int, isi_b_int, isi_s_int, isi_t_int, isi_l_int, isi_n_int, isi_i_bool, isi_b_bool, isi_s_bool, isi_t_bool, isi_l_bool, isi_n_bool, isi_i_str, isi_b_str, isi_s_str, isi_t_str, isi_l_str, isi_n_str, isi_i_tuple, isi_b_tuple, isi_s_tuple, isi_t_tuple, isi_l_tuple, isi_n_tuple, isi_i_list, isi_b_list, isi_s_list, isi_t_list, isi_l_list, isi_n_list])
inductive Row
  | up (c t : Int)
  | dn (c t o : Int)
def Row.enc : Row → D
  | .up c t => .tuple [.str "up", .int c, .int t]
  | .dn c t o => .tuple [.str "down", .int c, .int t, .int o]
def Row.fit (m r : Int) : Row → Prop
  | .up c t => 0 ≤ c ∧ c < m ∧ 0 ≤ t ∧ t ≤ r
  | .dn c t o => 0 ≤ c ∧ c < m ∧ 0 ≤ t ∧ t ≤ r ∧ 0 ≤ o ∧ o ≤ r
theorem emb (a b : Int) (h : 0 < b) : 0 ≤ a % b ∧ a % b < b := ⟨Int.emod_nonneg a (by omega), Int.emod_lt_of_pos a h⟩
theorem fin_row (a b c d m r : Int) (hb : 0 ≤ b ∧ b < m) (hc : 0 ≤ c ∧ c ≤ r) (hd : 0 ≤ d ∧ d ≤ r) :
    ∃ w : Row, (if a = 0 then some (Rv.v (.tuple [.str "up", .int b, .int c])) else some (Rv.v (.tuple [.str "down", .int b, .int c, .int d]))) = some (.v w.enc) ∧ w.fit m r := by
  by_cases h : a = 0
  · rw [if_pos h]; exact ⟨.up b c, rfl, hb.1, hb.2, hc.1, hc.2⟩
  · rw [if_neg h]; exact ⟨.dn b c d, rfl, hb.1, hb.2, hc.1, hc.2, hd.1, hd.2⟩
theorem v_row (c k m r : Int) (h0 : 0 ≤ k) (h1 : k ≤ 1000000) (hm : 0 < m) (hr : 0 ≤ r) (hm2 : m < 100) (hr2 : r < 100) : ∃ w : Row, g_l_row_of [.int c, .int k, .int m, .int r] = some (.v w.enc) ∧ w.fit m r := by
  unfold g_l_row_of F_l_row_of
  walk_at "z"
  have e1 := fun a => emb a m hm
  have e2 := fun a => emb a (r + 1) (by omega)
  have e2' : ∀ a : Int, 0 ≤ a % (r + 1) ∧ a % (r + 1) ≤ r := fun a => ⟨(e2 a).1, by have := (e2 a).2; omega⟩
  by_cases hc : c % 2 = 1
  · simp only [if_pos hc]
    by_cases h3 : mixed c (5 * k) % 3 = 0
    · simp only [if_pos h3]
      exact fin_row _ _ _ _ _ _ (e1 _) (by omega) (e2' _)
    · simp only [if_neg h3]
      exact fin_row _ _ _ _ _ _ (e1 _) (e2' _) (e2' _)
  · simp only [if_neg hc]
    exact fin_row _ _ _ _ _ _ (e1 _) (e2' _) (e2' _)
theorem enum_range : ∀ (ds : List D) (n : Nat) (z : D), z ∈ enumD n ds → ∃ (j : Nat) (d : D), n ≤ j ∧ j < n + ds.length ∧ d ∈ ds ∧ z = .tuple [.int (j : Int), d]
  | [], n, z, h => by cases h
  | d :: ds, n, z, h => by
    rcases List.mem_cons.mp h with e | h
    · exact ⟨n, d, Nat.le_refl _, by simp only [List.length_cons]; omega, List.mem_cons_self, e⟩
    · obtain ⟨j, d', h1, h2, h3, h4⟩ := enum_range ds (n + 1) z h
      exact ⟨j, d', by omega, by simp only [List.length_cons]; omega, List.mem_cons_of_mem _ h3, h4⟩
/-- a comprehension each of whose items is some row -/
theorem comp_rows {h : D → En → Option En} {f : En → Option D} {ρ : En} {Pr : Row → Prop} : ∀ {ds : List D}, (∀ d ∈ ds, ∃ ρ1, h d ρ = some ρ1 ∧ ∃ w : Row, f ρ1 = some w.enc ∧ Pr w) → ∃ ws : List Row, compGo h cYes f ρ ds = some (ws.map Row.enc) ∧ ws.length = ds.length ∧ ∀ w ∈ ws, Pr w
  | [], _ => ⟨[], rfl, rfl, fun w h => by cases h⟩
  | d :: ds, q => by
    obtain ⟨ρ1, h1, w, h3, hp⟩ := q d List.mem_cons_self
    obtain ⟨ws, i1, i2, i3⟩ := comp_rows (ds := ds) fun e he => q e (List.mem_cons_of_mem _ he)
    refine ⟨w :: ws, ?_, by rw [List.length_cons, List.length_cons, i2], fun v hv => ?_⟩
    · rw [compGo_c, h1, cdK_t rfl, h3, i1]; rfl
    · rcases List.mem_cons.mp hv with e | hv
      · subst e; exact hp
      · exact i3 v hv
theorem v_program (cs : List Int) (m : Int) (hl : cs.length ≤ 63) (hm : 0 < m) (hm2 : m < 100) : ∃ ws : List Row, g_l_program [.list (cs.map .int), .int m] = some (.l (ws.map Row.enc)) ∧ ws.length = cs.length ∧ ∀ w ∈ ws, w.fit m cs.length := by
  unfold g_l_program F_l_program
  walk_at "z"
  rw [coK_s (by rw [enumD_length, List.length_map]; omega)]
  obtain ⟨ws, h1, h2, h3⟩ := comp_rows (Pr := fun w => w.fit m cs.length) (h := hTup 2 (hCons (hName 2) (hCons (hName 3) hNil))) (f := eCall (fun ds => toD (g_l_row_of ds)) (aCons (eVar 3) (aCons (eVar 2) (aCons (eVar 1) (aCons (eCall lenD (aCons (bVar 0) aNil)) aNil)))))
    (ρ := [some (SV.ro (.list (cs.map .int))), some (SV.ro (.int m)), none, none]) (ds := enumD 0 (cs.map .int)) (fun d hd => by
      obtain ⟨j, d, h1, h2, h3, rfl⟩ := enum_range _ _ _ hd
      obtain ⟨c, hc, rfl⟩ := List.mem_map.mp h3
      rw [List.length_map] at h2
      obtain ⟨w, hw, hf⟩ := v_row c j m cs.length (by omega) (by omega) hm (by omega) hm2 (by omega)
      refine ⟨_, by walk_at "z"; rfl, w, ?_, hf⟩
      walk_at "z"
      rw [hw]
      rfl)
  refine ⟨ws, ?_, by rw [h2, enumD_length, List.length_map], h3⟩
  rw [h1]; rfl
theorem down_up : (Str.ofString "down" = Str.ofString "up") = False := eq_false (by decide)
theorem up_down : (Str.ofString "up" = Str.ofString "down") = False := eq_false (by decide)
local macro_rules | `(tactic| walk_at "z") => `(tactic| simp -implicitDefEqProofs (disch := first | omega | (simp only [List.length_cons, List.length_nil, List.length_append, List.length_map, List.length_set, List.length_reverse, List.length_take, List.length_drop, List.length_range]; done) | (simp only [List.length_cons, List.length_nil, List.length_append, List.length_map, List.length_set, List.length_reverse, List.length_take, List.length_drop, List.length_range]; omega) | fail) only [List.length_map, chK_lelt, v_cell, v_mixed, down_up, up_down, v_program, gF_ap, env0, List.map_cons, List.map_nil, List.length_cons, List.length_nil, List.cons_append, List.nil_append, List.replicate_succ, List.replicate_zero, Nat.reduceAdd, Nat.reduceSub, if_true, if_false, eq_self, List.getD_cons_zero, Int.toNat_natCast, Nat.reduceEqDiff, reduceIte, reduceCtorEq, decide_true, decide_false, Bool.not_true, Bool.not_false, Bool.and_true, Bool.true_and, Bool.and_false, Bool.false_and, Bool.or_true, Bool.true_or, Bool.or_false, Bool.false_or,
  sSeq_ap, sqK_nx, sqK_rt, sqK_rl, sqK_bk, sqK_ct, sqK_no, sIf_ap, ifK_t, ifK_f, ifK_d, ifK_nd, sNil_ap, sBk_ap, sCt_ap, sRetN_ap, sBad_ap, eVar_ap, bVar_ap, mVar_ap, rdV_ro, rdV_lr, rdB_ro, rdB_lr, rdB_ow, rdM_lr, rdM_ow, nVar_ap, rdN_ro, rdN_lr, rdN_ow, eC_ap, e1_ap, e2_ap, e3_ap, b1_s, b2_s, b3_s, aNil_ap, aCons_ap, cnK_s, eCall_ap, caK_s, eTup_ap, tupK_s, lLst_ap, lstK_s, liL_ap, liK_s, lCat_ap, catK_s, oNone_ap, oSome_ap, oSK_i, asB_ap, boK_b, eAnd_ap, eOr_ap, andK_t, andK_f, orK_t, orK_f, andK_d, orK_d, bAnd_ap, bOr_ap, bAndK_t, bAndK_f, bOrK_t, bOrK_f, bAndK_d, bOrK_d, bAndK_nd, bOrK_nd, bNot_ap, toD_s, toL_l, rv_v, rv_l, sSet_ap, stK_s, sSetL_ap, slK_s, sSetR_ap, srK_s, sAsg_ap, asK_s, hName_ap, hTup_ap, hCons_ap, hNil_ap, sDrop_ap, drK_s, sRet_ap, rtK_s, sRetL_ap, rlK_s, sRetO_ap, roK_s, sFz_ap, fzK_s, fzK_ro, fzK_lr, sApp_ap, apK_s, sPut_ap, puK_s, sFor_ap, foK_s, forGo_n, forGo_c, tgK_s, at_nx, at_ct, at_bk, at_rt, at_rl, lComp_ap, coK_s, wipeE_n, wipeE_c, cYes_ap, wiK_t, wiK_f, sqK_ite, rvK_ite, at_ite, boK_ite, rtK_ite, ifK_ite, decide_eq_true_eq, Int.reduceToNat, Int.reduceLT, Int.reduceLE, Int.reduceEq, Int.reduceNeg, Int.reducePow, Int.reduceSub, Int.reduceAdd, Int.reduceMul, iSeqD_ap, iRg1D_ap, iRg2D_ap, iRevD_ap, iEnumD_ap, iZipD_ap, zipL_ap, seqK_l, seqK_t, seqK_s, rg1K_i, rg2K_i, revK_l, enuK_l, enuK_x, zipK_l, nat0, nat1, nat2, nat3, nat4, nat5, rvK_rt, rvK_rl, rvK_nx, compGo_n, compGo_c, cdK_y, cdK_s, all_t, eChain_ap, chK_ll, hUnl_ap, revL_ap, kyE_ap, kyeK_i, kyeK_s, kyeK_x, kyT_ap, kytK_ix, eDGet_ap, eDIn_ap, eDGet1_ap, eDGet2_ap, sDNew_ap, sDPutD_ap, dpK_T, dpK_K, sFzK_ap, fzkK_s, fzkK_ro, rdB_oK, pNil_ap, pCons_ap, pcK_s, pcK_x, eDisp_ap, dispK_1, fzL_ap, fzLK_s, fzT_ap, fzTK_s, fzE_ap, fzEK_s, xIO_ap, xiK_s, sRetP_ap, rpK_s, gIO_ap, ioR_rp, ioR_nx, ioK_s, sqK_rp, ioR_ite, envIO, sClear_ap, clK_s, sExt_ap, exK_s, sSetX_ap, xsK_s, xPop_ap, poK_s, poK_1, xPopAt_ap, patK_0, xaNil_ap, xaCons_ap, xacK_s, xTup_ap, xtK_s, xE_ap, xeK_s, xCall_ap, xclK_s, sAsgX_ap, xagK_s, sDropX_ap, xdK_s, sRetX_ap, xrK_s, sAppX_ap, axK_s, ax2K_s, ne_bb, ifK_v, ifK_nv, bOrK_v, bOrK_nv, bAndK_v, bAndK_nv, andK_v, orK_v, andK_nv, orK_nv,
  List.getElem?_cons_succ, List.getElem?_cons_zero, List.set_cons_succ, List.set_cons_zero, Option.bind_some, Option.map_some, Option.bind_none, Option.map_none,
  add_x, len_x, ix_x, eq_x, ne_x, isx_int, isx_bool, isx_str, isx_tuple, isx_list, isNx, notNx, sl_x, seq_x, cut_m1, cut_l1, sl_t, sl_l, sl_s, slL_l, cut_lo, cut_hi, cut_lh, cut_nn, add_ii, add_ss, add_tt, sub_ii, mul_l, mul_r, div_ii, mod_ii, pow_ii, lt_ii, le_ii, gt_ii, ge_ii, eq_ii, eq_bb, eq_ss, ne_ii, ne_ss, len_l, len_t, len_s, int_i, int_b, min_ii, max_ii, tup_l, tup_t, list_l, list_t, neg_i, not_b, ix_l, ix_t, atI_0, atI_1, atI_2, atI_3, atI_4,
  isN_n, isN_i, isN_s, isN_b, isN_t, isN_l, notN_n, notN_i, notN_s, notN_b, notN_t, notN_l, isB, notB, isi_i_int, isi_b_int, isi_s_int, isi_t_int, isi_l_int, isi_n_int, isi_i_bool, isi_b_bool, isi_s_bool, isi_t_bool, isi_l_bool, isi_n_bool, isi_i_str, isi_b_str, isi_s_str, isi_t_str, isi_l_str, isi_n_str, isi_i_tuple, isi_b_tuple, isi_s_tuple, isi_t_tuple, isi_l_tuple, isi_n_tuple, isi_i_list, isi_b_list, isi_s_list, isi_t_list, isi_l_list, isi_n_list])
local macro_rules | `(tactic| walk_at "y") => `(tactic| simp -implicitDefEqProofs (disch := first | omega | (simp only [List.length_cons, List.length_nil, List.length_append, List.length_map, List.length_set, List.length_reverse, List.length_take, List.length_drop, List.length_range]; done) | (simp only [List.length_cons, List.length_nil, List.length_append, List.length_map, List.length_set, List.length_reverse, List.length_take, List.length_drop, List.length_range]; omega) | fail) only [*, List.length_map, chK_lelt, v_cell, v_mixed, down_up, up_down, v_program, gF_ap, env0, List.map_cons, List.map_nil, List.length_cons, List.length_nil, List.cons_append, List.nil_append, List.replicate_succ, List.replicate_zero, Nat.reduceAdd, Nat.reduceSub, if_true, if_false, eq_self, List.getD_cons_zero, Int.toNat_natCast, Nat.reduceEqDiff, reduceIte, reduceCtorEq, decide_true, decide_false, Bool.not_true, Bool.not_false, Bool.and_true, Bool.true_and, Bool.and_false, Bool.false_and, Bool.or_true, Bool.true_or, Bool.or_false, Bool.false_or,
  sSeq_ap, sqK_nx, sqK_rt, sqK_rl, sqK_bk, sqK_ct, sqK_no, sIf_ap, ifK_t, ifK_f, ifK_d, ifK_nd, sNil_ap, sBk_ap, sCt_ap, sRetN_ap, sBad_ap, eVar_ap, bVar_ap, mVar_ap, rdV_ro, rdV_lr, rdB_ro, rdB_lr, rdB_ow, rdM_lr, rdM_ow, nVar_ap, rdN_ro, rdN_lr, rdN_ow, eC_ap, e1_ap, e2_ap, e3_ap, b1_s, b2_s, b3_s, aNil_ap, aCons_ap, cnK_s, eCall_ap, caK_s, eTup_ap, tupK_s, lLst_ap, lstK_s, liL_ap, liK_s, lCat_ap, catK_s, oNone_ap, oSome_ap, oSK_i, asB_ap, boK_b, eAnd_ap, eOr_ap, andK_t, andK_f, orK_t, orK_f, andK_d, orK_d, bAnd_ap, bOr_ap, bAndK_t, bAndK_f, bOrK_t, bOrK_f, bAndK_d, bOrK_d, bAndK_nd, bOrK_nd, bNot_ap, toD_s, toL_l, rv_v, rv_l, sSet_ap, stK_s, sSetL_ap, slK_s, sSetR_ap, srK_s, sAsg_ap, asK_s, hName_ap, hTup_ap, hCons_ap, hNil_ap, sDrop_ap, drK_s, sRet_ap, rtK_s, sRetL_ap, rlK_s, sRetO_ap, roK_s, sFz_ap, fzK_s, fzK_ro, fzK_lr, sApp_ap, apK_s, sPut_ap, puK_s, sFor_ap, foK_s, forGo_n, forGo_c, tgK_s, at_nx, at_ct, at_bk, at_rt, at_rl, lComp_ap, coK_s, wipeE_n, wipeE_c, cYes_ap, wiK_t, wiK_f, sqK_ite, rvK_ite, at_ite, boK_ite, rtK_ite, ifK_ite, decide_eq_true_eq, Int.reduceToNat, Int.reduceLT, Int.reduceLE, Int.reduceEq, Int.reduceNeg, Int.reducePow, Int.reduceSub, Int.reduceAdd, Int.reduceMul, iSeqD_ap, iRg1D_ap, iRg2D_ap, iRevD_ap, iEnumD_ap, iZipD_ap, zipL_ap, seqK_l, seqK_t, seqK_s, rg1K_i, rg2K_i, revK_l, enuK_l, enuK_x, zipK_l, nat0, nat1, nat2, nat3, nat4, nat5, rvK_rt, rvK_rl, rvK_nx, compGo_n, compGo_c, cdK_y, cdK_s, all_t, eChain_ap, chK_ll, hUnl_ap, revL_ap, kyE_ap, kyeK_i, kyeK_s, kyeK_x, kyT_ap, kytK_ix, eDGet_ap, eDIn_ap, eDGet1_ap, eDGet2_ap, sDNew_ap, sDPutD_ap, dpK_T, dpK_K, sFzK_ap, fzkK_s, fzkK_ro, rdB_oK, pNil_ap, pCons_ap, pcK_s, pcK_x, eDisp_ap, dispK_1, fzL_ap, fzLK_s, fzT_ap, fzTK_s, fzE_ap, fzEK_s, xIO_ap, xiK_s, sRetP_ap, rpK_s, gIO_ap, ioR_rp, ioR_nx, ioK_s, sqK_rp, ioR_ite, envIO, sClear_ap, clK_s, sExt_ap, exK_s, sSetX_ap, xsK_s, xPop_ap, poK_s, poK_1, xPopAt_ap, patK_0, xaNil_ap, xaCons_ap, xacK_s, xTup_ap, xtK_s, xE_ap, xeK_s, xCall_ap, xclK_s, sAsgX_ap, xagK_s, sDropX_ap, xdK_s, sRetX_ap, xrK_s, sAppX_ap, axK_s, ax2K_s, ne_bb, ifK_v, ifK_nv, bOrK_v, bOrK_nv, bAndK_v, bAndK_nv, andK_v, orK_v, andK_nv, orK_nv,
  List.getElem?_cons_succ, List.getElem?_cons_zero, List.set_cons_succ, List.set_cons_zero, Option.bind_some, Option.map_some, Option.bind_none, Option.map_none,
  add_x, len_x, ix_x, eq_x, ne_x, isx_int, isx_bool, isx_str, isx_tuple, isx_list, isNx, notNx, sl_x, seq_x, cut_m1, cut_l1, sl_t, sl_l, sl_s, slL_l, cut_lo, cut_hi, cut_lh, cut_nn, add_ii, add_ss, add_tt, sub_ii, mul_l, mul_r, div_ii, mod_ii, pow_ii, lt_ii, le_ii, gt_ii, ge_ii, eq_ii, eq_bb, eq_ss, ne_ii, ne_ss, len_l, len_t, len_s, int_i, int_b, min_ii, max_ii, tup_l, tup_t, list_l, list_t, neg_i, not_b, ix_l, ix_t, atI_0, atI_1, atI_2, atI_3, atI_4,
  isN_n, isN_i, isN_s, isN_b, isN_t, isN_l, notN_n, notN_i, notN_s, notN_b, notN_t, notN_l, isB, notB, isi_i_int, isi_b_int, isi_s_int, isi_t_int, isi_l_int, isi_n_int, isi_i_bool, isi_b_bool, isi_s_bool, isi_t_bool, isi_l_bool, isi_n_bool, isi_i_str, isi_b_str, isi_s_str, isi_t_str, isi_l_str, isi_n_str, isi_i_tuple, isi_b_tuple, isi_s_tuple, isi_t_tuple, isi_l_tuple, isi_n_tuple, isi_i_list, isi_b_list, isi_s_list, isi_t_list, isi_l_list, isi_n_list])
theorem row_okd (w : Row) : okd 63 w.enc := by
  cases w with
  | up c t => exact okd_tup (n := 62) (okd_c (okd_str (by decide +kernel)) (okd_c okd_int (okd_c okd_int okd_n)))
  | dn c t o => exact okd_tup (n := 62) (okd_c (okd_str (by decide +kernel)) (okd_c okd_int (okd_c okd_int (okd_c okd_int okd_n))))
theorem rows_okd (ws : List Row) : okd 64 (.list (ws.map Row.enc)) := okd_list (n := 63) fun d hd => by
  obtain ⟨w, _, rfl⟩ := List.mem_map.mp hd
  exact row_okd w
/-! ### texts of rows -/
theorem lit_b : PyData.str (Str.ofString "b") = sx [98] := by
  unfold sx
  rw [show Str.ofString "b" = ⟨[98].toArray⟩ from by decide +kernel]
theorem lit_e : PyData.str (Str.ofString "e") = sx [101] := by
  unfold sx
  rw [show Str.ofString "e" = ⟨[101].toArray⟩ from by decide +kernel]
theorem lit_i : PyData.str (Str.ofString "i") = sx [105] := by
  unfold sx
  rw [show Str.ofString "i" = ⟨[105].toArray⟩ from by decide +kernel]
theorem lit_ie : PyData.str (Str.ofString "ie") = sx [105, 101] := by
  unfold sx
  rw [show Str.ofString "ie" = ⟨[105, 101].toArray⟩ from by decide +kernel]
theorem lit_0 : PyData.str (Str.ofString "") = sx [] := by
  unfold sx
  rw [show Str.ofString "" = ⟨([] : List Nat).toArray⟩ from by decide +kernel]
local macro_rules | `(tactic| walk_at "z") => `(tactic| simp -implicitDefEqProofs (disch := first | omega | (simp only [List.length_cons, List.length_nil, List.length_append, List.length_map, List.length_set, List.length_reverse, List.length_take, List.length_drop, List.length_range]; done) | (simp only [List.length_cons, List.length_nil, List.length_append, List.length_map, List.length_set, List.length_reverse, List.length_take, List.length_drop, List.length_range]; omega) | fail) only [List.length_map, chK_lelt, v_cell, v_mixed, down_up, up_down, v_program, lit_b, lit_e, lit_i, lit_ie, lit_0, gF_ap, env0, List.map_cons, List.map_nil, List.length_cons, List.length_nil, List.cons_append, List.nil_append, List.replicate_succ, List.replicate_zero, Nat.reduceAdd, Nat.reduceSub, if_true, if_false, eq_self, List.getD_cons_zero, Int.toNat_natCast, Nat.reduceEqDiff, reduceIte, reduceCtorEq, decide_true, decide_false, Bool.not_true, Bool.not_false, Bool.and_true, Bool.true_and, Bool.and_false, Bool.false_and, Bool.or_true, Bool.true_or, Bool.or_false, Bool.false_or,
  sSeq_ap, sqK_nx, sqK_rt, sqK_rl, sqK_bk, sqK_ct, sqK_no, sIf_ap, ifK_t, ifK_f, ifK_d, ifK_nd, sNil_ap, sBk_ap, sCt_ap, sRetN_ap, sBad_ap, eVar_ap, bVar_ap, mVar_ap, rdV_ro, rdV_lr, rdB_ro, rdB_lr, rdB_ow, rdM_lr, rdM_ow, nVar_ap, rdN_ro, rdN_lr, rdN_ow, eC_ap, e1_ap, e2_ap, e3_ap, b1_s, b2_s, b3_s, aNil_ap, aCons_ap, cnK_s, eCall_ap, caK_s, eTup_ap, tupK_s, lLst_ap, lstK_s, liL_ap, liK_s, lCat_ap, catK_s, oNone_ap, oSome_ap, oSK_i, asB_ap, boK_b, eAnd_ap, eOr_ap, andK_t, andK_f, orK_t, orK_f, andK_d, orK_d, bAnd_ap, bOr_ap, bAndK_t, bAndK_f, bOrK_t, bOrK_f, bAndK_d, bOrK_d, bAndK_nd, bOrK_nd, bNot_ap, toD_s, toL_l, rv_v, rv_l, sSet_ap, stK_s, sSetL_ap, slK_s, sSetR_ap, srK_s, sAsg_ap, asK_s, hName_ap, hTup_ap, hCons_ap, hNil_ap, sDrop_ap, drK_s, sRet_ap, rtK_s, sRetL_ap, rlK_s, sRetO_ap, roK_s, sFz_ap, fzK_s, fzK_ro, fzK_lr, sApp_ap, apK_s, sPut_ap, puK_s, sFor_ap, foK_s, forGo_n, forGo_c, tgK_s, at_nx, at_ct, at_bk, at_rt, at_rl, lComp_ap, coK_s, wipeE_n, wipeE_c, cYes_ap, wiK_t, wiK_f, sqK_ite, rvK_ite, at_ite, boK_ite, rtK_ite, ifK_ite, decide_eq_true_eq, Int.reduceToNat, Int.reduceLT, Int.reduceLE, Int.reduceEq, Int.reduceNeg, Int.reducePow, Int.reduceSub, Int.reduceAdd, Int.reduceMul, iSeqD_ap, iRg1D_ap, iRg2D_ap, iRevD_ap, iEnumD_ap, iZipD_ap, zipL_ap, seqK_l, seqK_t, seqK_s, rg1K_i, rg2K_i, revK_l, enuK_l, enuK_x, zipK_l, nat0, nat1, nat2, nat3, nat4, nat5, rvK_rt, rvK_rl, rvK_nx, compGo_n, compGo_c, cdK_y, cdK_s, all_t, eChain_ap, chK_ll, hUnl_ap, revL_ap, kyE_ap, kyeK_i, kyeK_s, kyeK_x, kyT_ap, kytK_ix, eDGet_ap, eDIn_ap, eDGet1_ap, eDGet2_ap, sDNew_ap, sDPutD_ap, dpK_T, dpK_K, sFzK_ap, fzkK_s, fzkK_ro, rdB_oK, pNil_ap, pCons_ap, pcK_s, pcK_x, eDisp_ap, dispK_1, fzL_ap, fzLK_s, fzT_ap, fzTK_s, fzE_ap, fzEK_s, xIO_ap, xiK_s, sRetP_ap, rpK_s, gIO_ap, ioR_rp, ioR_nx, ioK_s, sqK_rp, ioR_ite, envIO, sClear_ap, clK_s, sExt_ap, exK_s, sSetX_ap, xsK_s, xPop_ap, poK_s, poK_1, xPopAt_ap, patK_0, xaNil_ap, xaCons_ap, xacK_s, xTup_ap, xtK_s, xE_ap, xeK_s, xCall_ap, xclK_s, sAsgX_ap, xagK_s, sDropX_ap, xdK_s, sRetX_ap, xrK_s, sAppX_ap, axK_s, ax2K_s, ne_bb, ifK_v, ifK_nv, bOrK_v, bOrK_nv, bAndK_v, bAndK_nv, andK_v, orK_v, andK_nv, orK_nv,
  List.getElem?_cons_succ, List.getElem?_cons_zero, List.set_cons_succ, List.set_cons_zero, Option.bind_some, Option.map_some, Option.bind_none, Option.map_none,
  add_x, len_x, ix_x, eq_x, ne_x, isx_int, isx_bool, isx_str, isx_tuple, isx_list, isNx, notNx, sl_x, seq_x, cut_m1, cut_l1, sl_t, sl_l, sl_s, slL_l, cut_lo, cut_hi, cut_lh, cut_nn, add_ii, add_ss, add_tt, sub_ii, mul_l, mul_r, div_ii, mod_ii, pow_ii, lt_ii, le_ii, gt_ii, ge_ii, eq_ii, eq_bb, eq_ss, ne_ii, ne_ss, len_l, len_t, len_s, int_i, int_b, min_ii, max_ii, tup_l, tup_t, list_l, list_t, neg_i, not_b, ix_l, ix_t, atI_0, atI_1, atI_2, atI_3, atI_4,
  isN_n, isN_i, isN_s, isN_b, isN_t, isN_l, notN_n, notN_i, notN_s, notN_b, notN_t, notN_l, isB, notB, isi_i_int, isi_b_int, isi_s_int, isi_t_int, isi_l_int, isi_n_int, isi_i_bool, isi_b_bool, isi_s_bool, isi_t_bool, isi_l_bool, isi_n_bool, isi_i_str, isi_b_str, isi_s_str, isi_t_str, isi_l_str, isi_n_str, isi_i_tuple, isi_b_tuple, isi_s_tuple, isi_t_tuple, isi_l_tuple, isi_n_tuple, isi_i_list, isi_b_list, isi_s_list, isi_t_list, isi_l_list, isi_n_list])
local macro_rules | `(tactic| walk_at "y") => `(tactic| simp -implicitDefEqProofs (disch := first | omega | (simp only [List.length_cons, List.length_nil, List.length_append, List.length_map, List.length_set, List.length_reverse, List.length_take, List.length_drop, List.length_range]; done) | (simp only [List.length_cons, List.length_nil, List.length_append, List.length_map, List.length_set, List.length_reverse, List.length_take, List.length_drop, List.length_range]; omega) | fail) only [*, List.length_map, chK_lelt, v_cell, v_mixed, down_up, up_down, v_program, lit_b, lit_e, lit_i, lit_ie, lit_0, gF_ap, env0, List.map_cons, List.map_nil, List.length_cons, List.length_nil, List.cons_append, List.nil_append, List.replicate_succ, List.replicate_zero, Nat.reduceAdd, Nat.reduceSub, if_true, if_false, eq_self, List.getD_cons_zero, Int.toNat_natCast, Nat.reduceEqDiff, reduceIte, reduceCtorEq, decide_true, decide_false, Bool.not_true, Bool.not_false, Bool.and_true, Bool.true_and, Bool.and_false, Bool.false_and, Bool.or_true, Bool.true_or, Bool.or_false, Bool.false_or,
  sSeq_ap, sqK_nx, sqK_rt, sqK_rl, sqK_bk, sqK_ct, sqK_no, sIf_ap, ifK_t, ifK_f, ifK_d, ifK_nd, sNil_ap, sBk_ap, sCt_ap, sRetN_ap, sBad_ap, eVar_ap, bVar_ap, mVar_ap, rdV_ro, rdV_lr, rdB_ro, rdB_lr, rdB_ow, rdM_lr, rdM_ow, nVar_ap, rdN_ro, rdN_lr, rdN_ow, eC_ap, e1_ap, e2_ap, e3_ap, b1_s, b2_s, b3_s, aNil_ap, aCons_ap, cnK_s, eCall_ap, caK_s, eTup_ap, tupK_s, lLst_ap, lstK_s, liL_ap, liK_s, lCat_ap, catK_s, oNone_ap, oSome_ap, oSK_i, asB_ap, boK_b, eAnd_ap, eOr_ap, andK_t, andK_f, orK_t, orK_f, andK_d, orK_d, bAnd_ap, bOr_ap, bAndK_t, bAndK_f, bOrK_t, bOrK_f, bAndK_d, bOrK_d, bAndK_nd, bOrK_nd, bNot_ap, toD_s, toL_l, rv_v, rv_l, sSet_ap, stK_s, sSetL_ap, slK_s, sSetR_ap, srK_s, sAsg_ap, asK_s, hName_ap, hTup_ap, hCons_ap, hNil_ap, sDrop_ap, drK_s, sRet_ap, rtK_s, sRetL_ap, rlK_s, sRetO_ap, roK_s, sFz_ap, fzK_s, fzK_ro, fzK_lr, sApp_ap, apK_s, sPut_ap, puK_s, sFor_ap, foK_s, forGo_n, forGo_c, tgK_s, at_nx, at_ct, at_bk, at_rt, at_rl, lComp_ap, coK_s, wipeE_n, wipeE_c, cYes_ap, wiK_t, wiK_f, sqK_ite, rvK_ite, at_ite, boK_ite, rtK_ite, ifK_ite, decide_eq_true_eq, Int.reduceToNat, Int.reduceLT, Int.reduceLE, Int.reduceEq, Int.reduceNeg, Int.reducePow, Int.reduceSub, Int.reduceAdd, Int.reduceMul, iSeqD_ap, iRg1D_ap, iRg2D_ap, iRevD_ap, iEnumD_ap, iZipD_ap, zipL_ap, seqK_l, seqK_t, seqK_s, rg1K_i, rg2K_i, revK_l, enuK_l, enuK_x, zipK_l, nat0, nat1, nat2, nat3, nat4, nat5, rvK_rt, rvK_rl, rvK_nx, compGo_n, compGo_c, cdK_y, cdK_s, all_t, eChain_ap, chK_ll, hUnl_ap, revL_ap, kyE_ap, kyeK_i, kyeK_s, kyeK_x, kyT_ap, kytK_ix, eDGet_ap, eDIn_ap, eDGet1_ap, eDGet2_ap, sDNew_ap, sDPutD_ap, dpK_T, dpK_K, sFzK_ap, fzkK_s, fzkK_ro, rdB_oK, pNil_ap, pCons_ap, pcK_s, pcK_x, eDisp_ap, dispK_1, fzL_ap, fzLK_s, fzT_ap, fzTK_s, fzE_ap, fzEK_s, xIO_ap, xiK_s, sRetP_ap, rpK_s, gIO_ap, ioR_rp, ioR_nx, ioK_s, sqK_rp, ioR_ite, envIO, sClear_ap, clK_s, sExt_ap, exK_s, sSetX_ap, xsK_s, xPop_ap, poK_s, poK_1, xPopAt_ap, patK_0, xaNil_ap, xaCons_ap, xacK_s, xTup_ap, xtK_s, xE_ap, xeK_s, xCall_ap, xclK_s, sAsgX_ap, xagK_s, sDropX_ap, xdK_s, sRetX_ap, xrK_s, sAppX_ap, axK_s, ax2K_s, ne_bb, ifK_v, ifK_nv, bOrK_v, bOrK_nv, bAndK_v, bAndK_nv, andK_v, orK_v, andK_nv, orK_nv,
  List.getElem?_cons_succ, List.getElem?_cons_zero, List.set_cons_succ, List.set_cons_zero, Option.bind_some, Option.map_some, Option.bind_none, Option.map_none,
  add_x, len_x, ix_x, eq_x, ne_x, isx_int, isx_bool, isx_str, isx_tuple, isx_list, isNx, notNx, sl_x, seq_x, cut_m1, cut_l1, sl_t, sl_l, sl_s, slL_l, cut_lo, cut_hi, cut_lh, cut_nn, add_ii, add_ss, add_tt, sub_ii, mul_l, mul_r, div_ii, mod_ii, pow_ii, lt_ii, le_ii, gt_ii, ge_ii, eq_ii, eq_bb, eq_ss, ne_ii, ne_ss, len_l, len_t, len_s, int_i, int_b, min_ii, max_ii, tup_l, tup_t, list_l, list_t, neg_i, not_b, ix_l, ix_t, atI_0, atI_1, atI_2, atI_3, atI_4,
  isN_n, isN_i, isN_s, isN_b, isN_t, isN_l, notN_n, notN_i, notN_s, notN_b, notN_t, notN_l, isB, notB, isi_i_int, isi_b_int, isi_s_int, isi_t_int, isi_l_int, isi_n_int, isi_i_bool, isi_b_bool, isi_s_bool, isi_t_bool, isi_l_bool, isi_n_bool, isi_i_str, isi_b_str, isi_s_str, isi_t_str, isi_l_str, isi_n_str, isi_i_tuple, isi_b_tuple, isi_s_tuple, isi_t_tuple, isi_l_tuple, isi_n_tuple, isi_i_list, isi_b_list, isi_s_list, isi_t_list, isi_l_list, isi_n_list])
/-! ### rules of rows made of counters: the walk -/
structure RR where
  st : Int
  sg : Nat
  wd : List Nat
  gl : Int
def RR.enc (r : RR) : D := .tuple [.int r.st, sx [r.sg], sx r.wd, .int r.gl]
def lapI (f m ph a ends : Int) : Int := if a = m then ends else f + ph * m + a
def copL (f m ph a : Int) (wd : List Nat) (ends : Int) : List RR := [⟨lapI f m ph a ends, 105, [105], lapI f m ph a ends⟩, ⟨lapI f m ph a ends, 101, wd, lapI f m ph (a + 1) ends⟩]
def upL (f m c t : Int) (n : Nat) : List RR := (List.range n).flatMap fun (a : Nat) => copL f m 0 (a : Int) (if (a : Int) = c then [105, 101] else [101]) t
def segL (f m ph c g : Int) (n : Nat) : List RR := (List.range n).flatMap fun (a : Nat) => copL f m ph (c + (a : Int)) [101] g
def midL (f m c o : Int) : List RR := [⟨lapI f m 0 c 0, 105, [], lapI f m 1 c 0⟩, ⟨lapI f m 0 c 0, 101, [101], lapI f m 2 (c + 1) o⟩]
def downL (f m c t o : Int) : List RR := segL f m 0 0 0 c.toNat ++ midL f m c o ++ segL f m 1 c t (m - c).toNat ++ segL f m 2 (c + 1) o (m - (c + 1)).toNat
def rowL (f m : Int) : Row → List RR
  | .up c t => upL f m c t m.toNat
  | .dn c t o => downL f m c t o
def fst (P m p : Int) : Int := P + 1 + p * 3 * m
def plL (P m : Int) (ws : List Row) (p : Nat) : List RR := match ws[p]? with
  | some r => ⟨(p : Int), 98, [98], fst P m p⟩ :: rowL (fst P m p) m r
  | none => []
def mkL (m : Int) (ws : List Row) (n : Nat) : List RR := (List.range n).flatMap (plL ws.length m ws)
theorem flat_s {α : Type} (f : Nat → List α) (n : Nat) : (List.range (n + 1)).flatMap f = (List.range n).flatMap f ++ f n := by
  rw [List.range_succ, List.flatMap_append]; simp
theorem flat_len {α : Type} (f : Nat → List α) (k : Nat) (h : ∀ a, (f a).length ≤ k) : ∀ n, ((List.range n).flatMap f).length ≤ k * n
  | 0 => by simp
  | n + 1 => by
    rw [flat_s, List.length_append, Nat.mul_succ]
    exact Nat.add_le_add (flat_len f k h n) (h n)
theorem v_lap (f m ph a ends : Int) (h1 : 0 ≤ ph) (h2 : ph ≤ 2) : g_p_lap_of [.int f, .int m, .int ph, .int a, .int ends] = some (.v (.int (lapI f m ph a ends))) := by
  unfold g_p_lap_of F_p_lap_of lapI
  walk_at "z"
  split <;> rfl
local macro_rules | `(tactic| walk_at "z") => `(tactic| simp -implicitDefEqProofs (disch := first | omega | (simp only [List.length_cons, List.length_nil, List.length_append, List.length_map, List.length_set, List.length_reverse, List.length_take, List.length_drop, List.length_range]; done) | (simp only [List.length_cons, List.length_nil, List.length_append, List.length_map, List.length_set, List.length_reverse, List.length_take, List.length_drop, List.length_range]; omega) | fail) only [List.length_map, chK_lelt, v_cell, v_mixed, down_up, up_down, v_program, lit_b, lit_e, lit_i, lit_ie, lit_0, v_lap, gF_ap, env0, List.map_cons, List.map_nil, List.length_cons, List.length_nil, List.cons_append, List.nil_append, List.replicate_succ, List.replicate_zero, Nat.reduceAdd, Nat.reduceSub, if_true, if_false, eq_self, List.getD_cons_zero, Int.toNat_natCast, Nat.reduceEqDiff, reduceIte, reduceCtorEq, decide_true, decide_false, Bool.not_true, Bool.not_false, Bool.and_true, Bool.true_and, Bool.and_false, Bool.false_and, Bool.or_true, Bool.true_or, Bool.or_false, Bool.false_or,
  sSeq_ap, sqK_nx, sqK_rt, sqK_rl, sqK_bk, sqK_ct, sqK_no, sIf_ap, ifK_t, ifK_f, ifK_d, ifK_nd, sNil_ap, sBk_ap, sCt_ap, sRetN_ap, sBad_ap, eVar_ap, bVar_ap, mVar_ap, rdV_ro, rdV_lr, rdB_ro, rdB_lr, rdB_ow, rdM_lr, rdM_ow, nVar_ap, rdN_ro, rdN_lr, rdN_ow, eC_ap, e1_ap, e2_ap, e3_ap, b1_s, b2_s, b3_s, aNil_ap, aCons_ap, cnK_s, eCall_ap, caK_s, eTup_ap, tupK_s, lLst_ap, lstK_s, liL_ap, liK_s, lCat_ap, catK_s, oNone_ap, oSome_ap, oSK_i, asB_ap, boK_b, eAnd_ap, eOr_ap, andK_t, andK_f, orK_t, orK_f, andK_d, orK_d, bAnd_ap, bOr_ap, bAndK_t, bAndK_f, bOrK_t, bOrK_f, bAndK_d, bOrK_d, bAndK_nd, bOrK_nd, bNot_ap, toD_s, toL_l, rv_v, rv_l, sSet_ap, stK_s, sSetL_ap, slK_s, sSetR_ap, srK_s, sAsg_ap, asK_s, hName_ap, hTup_ap, hCons_ap, hNil_ap, sDrop_ap, drK_s, sRet_ap, rtK_s, sRetL_ap, rlK_s, sRetO_ap, roK_s, sFz_ap, fzK_s, fzK_ro, fzK_lr, sApp_ap, apK_s, sPut_ap, puK_s, sFor_ap, foK_s, forGo_n, forGo_c, tgK_s, at_nx, at_ct, at_bk, at_rt, at_rl, lComp_ap, coK_s, wipeE_n, wipeE_c, cYes_ap, wiK_t, wiK_f, sqK_ite, rvK_ite, at_ite, boK_ite, rtK_ite, ifK_ite, decide_eq_true_eq, Int.reduceToNat, Int.reduceLT, Int.reduceLE, Int.reduceEq, Int.reduceNeg, Int.reducePow, Int.reduceSub, Int.reduceAdd, Int.reduceMul, iSeqD_ap, iRg1D_ap, iRg2D_ap, iRevD_ap, iEnumD_ap, iZipD_ap, zipL_ap, seqK_l, seqK_t, seqK_s, rg1K_i, rg2K_i, revK_l, enuK_l, enuK_x, zipK_l, nat0, nat1, nat2, nat3, nat4, nat5, rvK_rt, rvK_rl, rvK_nx, compGo_n, compGo_c, cdK_y, cdK_s, all_t, eChain_ap, chK_ll, hUnl_ap, revL_ap, kyE_ap, kyeK_i, kyeK_s, kyeK_x, kyT_ap, kytK_ix, eDGet_ap, eDIn_ap, eDGet1_ap, eDGet2_ap, sDNew_ap, sDPutD_ap, dpK_T, dpK_K, sFzK_ap, fzkK_s, fzkK_ro, rdB_oK, pNil_ap, pCons_ap, pcK_s, pcK_x, eDisp_ap, dispK_1, fzL_ap, fzLK_s, fzT_ap, fzTK_s, fzE_ap, fzEK_s, xIO_ap, xiK_s, sRetP_ap, rpK_s, gIO_ap, ioR_rp, ioR_nx, ioK_s, sqK_rp, ioR_ite, envIO, sClear_ap, clK_s, sExt_ap, exK_s, sSetX_ap, xsK_s, xPop_ap, poK_s, poK_1, xPopAt_ap, patK_0, xaNil_ap, xaCons_ap, xacK_s, xTup_ap, xtK_s, xE_ap, xeK_s, xCall_ap, xclK_s, sAsgX_ap, xagK_s, sDropX_ap, xdK_s, sRetX_ap, xrK_s, sAppX_ap, axK_s, ax2K_s, ne_bb, ifK_v, ifK_nv, bOrK_v, bOrK_nv, bAndK_v, bAndK_nv, andK_v, orK_v, andK_nv, orK_nv,
  List.getElem?_cons_succ, List.getElem?_cons_zero, List.set_cons_succ, List.set_cons_zero, Option.bind_some, Option.map_some, Option.bind_none, Option.map_none,
  add_x, len_x, ix_x, eq_x, ne_x, isx_int, isx_bool, isx_str, isx_tuple, isx_list, isNx, notNx, sl_x, seq_x, cut_m1, cut_l1, sl_t, sl_l, sl_s, slL_l, cut_lo, cut_hi, cut_lh, cut_nn, add_ii, add_ss, add_tt, sub_ii, mul_l, mul_r, div_ii, mod_ii, pow_ii, lt_ii, le_ii, gt_ii, ge_ii, eq_ii, eq_bb, eq_ss, ne_ii, ne_ss, len_l, len_t, len_s, int_i, int_b, min_ii, max_ii, tup_l, tup_t, list_l, list_t, neg_i, not_b, ix_l, ix_t, atI_0, atI_1, atI_2, atI_3, atI_4,
  isN_n, isN_i, isN_s, isN_b, isN_t, isN_l, notN_n, notN_i, notN_s, notN_b, notN_t, notN_l, isB, notB, isi_i_int, isi_b_int, isi_s_int, isi_t_int, isi_l_int, isi_n_int, isi_i_bool, isi_b_bool, isi_s_bool, isi_t_bool, isi_l_bool, isi_n_bool, isi_i_str, isi_b_str, isi_s_str, isi_t_str, isi_l_str, isi_n_str, isi_i_tuple, isi_b_tuple, isi_s_tuple, isi_t_tuple, isi_l_tuple, isi_n_tuple, isi_i_list, isi_b_list, isi_s_list, isi_t_list, isi_l_list, isi_n_list])
local macro_rules | `(tactic| walk_at "y") => `(tactic| simp -implicitDefEqProofs (disch := first | omega | (simp only [List.length_cons, List.length_nil, List.length_append, List.length_map, List.length_set, List.length_reverse, List.length_take, List.length_drop, List.length_range]; done) | (simp only [List.length_cons, List.length_nil, List.length_append, List.length_map, List.length_set, List.length_reverse, List.length_take, List.length_drop, List.length_range]; omega) | fail) only [*, List.length_map, chK_lelt, v_cell, v_mixed, down_up, up_down, v_program, lit_b, lit_e, lit_i, lit_ie, lit_0, v_lap, gF_ap, env0, List.map_cons, List.map_nil, List.length_cons, List.length_nil, List.cons_append, List.nil_append, List.replicate_succ, List.replicate_zero, Nat.reduceAdd, Nat.reduceSub, if_true, if_false, eq_self, List.getD_cons_zero, Int.toNat_natCast, Nat.reduceEqDiff, reduceIte, reduceCtorEq, decide_true, decide_false, Bool.not_true, Bool.not_false, Bool.and_true, Bool.true_and, Bool.and_false, Bool.false_and, Bool.or_true, Bool.true_or, Bool.or_false, Bool.false_or,
  sSeq_ap, sqK_nx, sqK_rt, sqK_rl, sqK_bk, sqK_ct, sqK_no, sIf_ap, ifK_t, ifK_f, ifK_d, ifK_nd, sNil_ap, sBk_ap, sCt_ap, sRetN_ap, sBad_ap, eVar_ap, bVar_ap, mVar_ap, rdV_ro, rdV_lr, rdB_ro, rdB_lr, rdB_ow, rdM_lr, rdM_ow, nVar_ap, rdN_ro, rdN_lr, rdN_ow, eC_ap, e1_ap, e2_ap, e3_ap, b1_s, b2_s, b3_s, aNil_ap, aCons_ap, cnK_s, eCall_ap, caK_s, eTup_ap, tupK_s, lLst_ap, lstK_s, liL_ap, liK_s, lCat_ap, catK_s, oNone_ap, oSome_ap, oSK_i, asB_ap, boK_b, eAnd_ap, eOr_ap, andK_t, andK_f, orK_t, orK_f, andK_d, orK_d, bAnd_ap, bOr_ap, bAndK_t, bAndK_f, bOrK_t, bOrK_f, bAndK_d, bOrK_d, bAndK_nd, bOrK_nd, bNot_ap, toD_s, toL_l, rv_v, rv_l, sSet_ap, stK_s, sSetL_ap, slK_s, sSetR_ap, srK_s, sAsg_ap, asK_s, hName_ap, hTup_ap, hCons_ap, hNil_ap, sDrop_ap, drK_s, sRet_ap, rtK_s, sRetL_ap, rlK_s, sRetO_ap, roK_s, sFz_ap, fzK_s, fzK_ro, fzK_lr, sApp_ap, apK_s, sPut_ap, puK_s, sFor_ap, foK_s, forGo_n, forGo_c, tgK_s, at_nx, at_ct, at_bk, at_rt, at_rl, lComp_ap, coK_s, wipeE_n, wipeE_c, cYes_ap, wiK_t, wiK_f, sqK_ite, rvK_ite, at_ite, boK_ite, rtK_ite, ifK_ite, decide_eq_true_eq, Int.reduceToNat, Int.reduceLT, Int.reduceLE, Int.reduceEq, Int.reduceNeg, Int.reducePow, Int.reduceSub, Int.reduceAdd, Int.reduceMul, iSeqD_ap, iRg1D_ap, iRg2D_ap, iRevD_ap, iEnumD_ap, iZipD_ap, zipL_ap, seqK_l, seqK_t, seqK_s, rg1K_i, rg2K_i, revK_l, enuK_l, enuK_x, zipK_l, nat0, nat1, nat2, nat3, nat4, nat5, rvK_rt, rvK_rl, rvK_nx, compGo_n, compGo_c, cdK_y, cdK_s, all_t, eChain_ap, chK_ll, hUnl_ap, revL_ap, kyE_ap, kyeK_i, kyeK_s, kyeK_x, kyT_ap, kytK_ix, eDGet_ap, eDIn_ap, eDGet1_ap, eDGet2_ap, sDNew_ap, sDPutD_ap, dpK_T, dpK_K, sFzK_ap, fzkK_s, fzkK_ro, rdB_oK, pNil_ap, pCons_ap, pcK_s, pcK_x, eDisp_ap, dispK_1, fzL_ap, fzLK_s, fzT_ap, fzTK_s, fzE_ap, fzEK_s, xIO_ap, xiK_s, sRetP_ap, rpK_s, gIO_ap, ioR_rp, ioR_nx, ioK_s, sqK_rp, ioR_ite, envIO, sClear_ap, clK_s, sExt_ap, exK_s, sSetX_ap, xsK_s, xPop_ap, poK_s, poK_1, xPopAt_ap, patK_0, xaNil_ap, xaCons_ap, xacK_s, xTup_ap, xtK_s, xE_ap, xeK_s, xCall_ap, xclK_s, sAsgX_ap, xagK_s, sDropX_ap, xdK_s, sRetX_ap, xrK_s, sAppX_ap, axK_s, ax2K_s, ne_bb, ifK_v, ifK_nv, bOrK_v, bOrK_nv, bAndK_v, bAndK_nv, andK_v, orK_v, andK_nv, orK_nv,
  List.getElem?_cons_succ, List.getElem?_cons_zero, List.set_cons_succ, List.set_cons_zero, Option.bind_some, Option.map_some, Option.bind_none, Option.map_none,
  add_x, len_x, ix_x, eq_x, ne_x, isx_int, isx_bool, isx_str, isx_tuple, isx_list, isNx, notNx, sl_x, seq_x, cut_m1, cut_l1, sl_t, sl_l, sl_s, slL_l, cut_lo, cut_hi, cut_lh, cut_nn, add_ii, add_ss, add_tt, sub_ii, mul_l, mul_r, div_ii, mod_ii, pow_ii, lt_ii, le_ii, gt_ii, ge_ii, eq_ii, eq_bb, eq_ss, ne_ii, ne_ss, len_l, len_t, len_s, int_i, int_b, min_ii, max_ii, tup_l, tup_t, list_l, list_t, neg_i, not_b, ix_l, ix_t, atI_0, atI_1, atI_2, atI_3, atI_4,
  isN_n, isN_i, isN_s, isN_b, isN_t, isN_l, notN_n, notN_i, notN_s, notN_b, notN_t, notN_l, isB, notB, isi_i_int, isi_b_int, isi_s_int, isi_t_int, isi_l_int, isi_n_int, isi_i_bool, isi_b_bool, isi_s_bool, isi_t_bool, isi_l_bool, isi_n_bool, isi_i_str, isi_b_str, isi_s_str, isi_t_str, isi_l_str, isi_n_str, isi_i_tuple, isi_b_tuple, isi_s_tuple, isi_t_tuple, isi_l_tuple, isi_n_tuple, isi_i_list, isi_b_list, isi_s_list, isi_t_list, isi_l_list, isi_n_list])
theorem v_cop (f m ph a ends : Int) (wd : List Nat) (h1 : 0 ≤ ph) (h2 : ph ≤ 2) : g_p_copied [.int f, .int m, .int ph, .int a, sx wd, .int ends] = some (.l ((copL f m ph a wd ends).map RR.enc)) := by
  unfold g_p_copied F_p_copied
  walk_at "z"
  rfl
local macro_rules | `(tactic| walk_at "z") => `(tactic| simp -implicitDefEqProofs (disch := first | omega | (simp only [List.length_cons, List.length_nil, List.length_append, List.length_map, List.length_set, List.length_reverse, List.length_take, List.length_drop, List.length_range]; done) | (simp only [List.length_cons, List.length_nil, List.length_append, List.length_map, List.length_set, List.length_reverse, List.length_take, List.length_drop, List.length_range]; omega) | fail) only [List.length_map, chK_lelt, v_cell, v_mixed, down_up, up_down, v_program, lit_b, lit_e, lit_i, lit_ie, lit_0, v_lap, v_cop, gF_ap, env0, List.map_cons, List.map_nil, List.length_cons, List.length_nil, List.cons_append, List.nil_append, List.replicate_succ, List.replicate_zero, Nat.reduceAdd, Nat.reduceSub, if_true, if_false, eq_self, List.getD_cons_zero, Int.toNat_natCast, Nat.reduceEqDiff, reduceIte, reduceCtorEq, decide_true, decide_false, Bool.not_true, Bool.not_false, Bool.and_true, Bool.true_and, Bool.and_false, Bool.false_and, Bool.or_true, Bool.true_or, Bool.or_false, Bool.false_or,
  sSeq_ap, sqK_nx, sqK_rt, sqK_rl, sqK_bk, sqK_ct, sqK_no, sIf_ap, ifK_t, ifK_f, ifK_d, ifK_nd, sNil_ap, sBk_ap, sCt_ap, sRetN_ap, sBad_ap, eVar_ap, bVar_ap, mVar_ap, rdV_ro, rdV_lr, rdB_ro, rdB_lr, rdB_ow, rdM_lr, rdM_ow, nVar_ap, rdN_ro, rdN_lr, rdN_ow, eC_ap, e1_ap, e2_ap, e3_ap, b1_s, b2_s, b3_s, aNil_ap, aCons_ap, cnK_s, eCall_ap, caK_s, eTup_ap, tupK_s, lLst_ap, lstK_s, liL_ap, liK_s, lCat_ap, catK_s, oNone_ap, oSome_ap, oSK_i, asB_ap, boK_b, eAnd_ap, eOr_ap, andK_t, andK_f, orK_t, orK_f, andK_d, orK_d, bAnd_ap, bOr_ap, bAndK_t, bAndK_f, bOrK_t, bOrK_f, bAndK_d, bOrK_d, bAndK_nd, bOrK_nd, bNot_ap, toD_s, toL_l, rv_v, rv_l, sSet_ap, stK_s, sSetL_ap, slK_s, sSetR_ap, srK_s, sAsg_ap, asK_s, hName_ap, hTup_ap, hCons_ap, hNil_ap, sDrop_ap, drK_s, sRet_ap, rtK_s, sRetL_ap, rlK_s, sRetO_ap, roK_s, sFz_ap, fzK_s, fzK_ro, fzK_lr, sApp_ap, apK_s, sPut_ap, puK_s, sFor_ap, foK_s, forGo_n, forGo_c, tgK_s, at_nx, at_ct, at_bk, at_rt, at_rl, lComp_ap, coK_s, wipeE_n, wipeE_c, cYes_ap, wiK_t, wiK_f, sqK_ite, rvK_ite, at_ite, boK_ite, rtK_ite, ifK_ite, decide_eq_true_eq, Int.reduceToNat, Int.reduceLT, Int.reduceLE, Int.reduceEq, Int.reduceNeg, Int.reducePow, Int.reduceSub, Int.reduceAdd, Int.reduceMul, iSeqD_ap, iRg1D_ap, iRg2D_ap, iRevD_ap, iEnumD_ap, iZipD_ap, zipL_ap, seqK_l, seqK_t, seqK_s, rg1K_i, rg2K_i, revK_l, enuK_l, enuK_x, zipK_l, nat0, nat1, nat2, nat3, nat4, nat5, rvK_rt, rvK_rl, rvK_nx, compGo_n, compGo_c, cdK_y, cdK_s, all_t, eChain_ap, chK_ll, hUnl_ap, revL_ap, kyE_ap, kyeK_i, kyeK_s, kyeK_x, kyT_ap, kytK_ix, eDGet_ap, eDIn_ap, eDGet1_ap, eDGet2_ap, sDNew_ap, sDPutD_ap, dpK_T, dpK_K, sFzK_ap, fzkK_s, fzkK_ro, rdB_oK, pNil_ap, pCons_ap, pcK_s, pcK_x, eDisp_ap, dispK_1, fzL_ap, fzLK_s, fzT_ap, fzTK_s, fzE_ap, fzEK_s, xIO_ap, xiK_s, sRetP_ap, rpK_s, gIO_ap, ioR_rp, ioR_nx, ioK_s, sqK_rp, ioR_ite, envIO, sClear_ap, clK_s, sExt_ap, exK_s, sSetX_ap, xsK_s, xPop_ap, poK_s, poK_1, xPopAt_ap, patK_0, xaNil_ap, xaCons_ap, xacK_s, xTup_ap, xtK_s, xE_ap, xeK_s, xCall_ap, xclK_s, sAsgX_ap, xagK_s, sDropX_ap, xdK_s, sRetX_ap, xrK_s, sAppX_ap, axK_s, ax2K_s, ne_bb, ifK_v, ifK_nv, bOrK_v, bOrK_nv, bAndK_v, bAndK_nv, andK_v, orK_v, andK_nv, orK_nv,
  List.getElem?_cons_succ, List.getElem?_cons_zero, List.set_cons_succ, List.set_cons_zero, Option.bind_some, Option.map_some, Option.bind_none, Option.map_none,
  add_x, len_x, ix_x, eq_x, ne_x, isx_int, isx_bool, isx_str, isx_tuple, isx_list, isNx, notNx, sl_x, seq_x, cut_m1, cut_l1, sl_t, sl_l, sl_s, slL_l, cut_lo, cut_hi, cut_lh, cut_nn, add_ii, add_ss, add_tt, sub_ii, mul_l, mul_r, div_ii, mod_ii, pow_ii, lt_ii, le_ii, gt_ii, ge_ii, eq_ii, eq_bb, eq_ss, ne_ii, ne_ss, len_l, len_t, len_s, int_i, int_b, min_ii, max_ii, tup_l, tup_t, list_l, list_t, neg_i, not_b, ix_l, ix_t, atI_0, atI_1, atI_2, atI_3, atI_4,
  isN_n, isN_i, isN_s, isN_b, isN_t, isN_l, notN_n, notN_i, notN_s, notN_b, notN_t, notN_l, isB, notB, isi_i_int, isi_b_int, isi_s_int, isi_t_int, isi_l_int, isi_n_int, isi_i_bool, isi_b_bool, isi_s_bool, isi_t_bool, isi_l_bool, isi_n_bool, isi_i_str, isi_b_str, isi_s_str, isi_t_str, isi_l_str, isi_n_str, isi_i_tuple, isi_b_tuple, isi_s_tuple, isi_t_tuple, isi_l_tuple, isi_n_tuple, isi_i_list, isi_b_list, isi_s_list, isi_t_list, isi_l_list, isi_n_list])
local macro_rules | `(tactic| walk_at "y") => `(tactic| simp -implicitDefEqProofs (disch := first | omega | (simp only [List.length_cons, List.length_nil, List.length_append, List.length_map, List.length_set, List.length_reverse, List.length_take, List.length_drop, List.length_range]; done) | (simp only [List.length_cons, List.length_nil, List.length_append, List.length_map, List.length_set, List.length_reverse, List.length_take, List.length_drop, List.length_range]; omega) | fail) only [*, List.length_map, chK_lelt, v_cell, v_mixed, down_up, up_down, v_program, lit_b, lit_e, lit_i, lit_ie, lit_0, v_lap, v_cop, gF_ap, env0, List.map_cons, List.map_nil, List.length_cons, List.length_nil, List.cons_append, List.nil_append, List.replicate_succ, List.replicate_zero, Nat.reduceAdd, Nat.reduceSub, if_true, if_false, eq_self, List.getD_cons_zero, Int.toNat_natCast, Nat.reduceEqDiff, reduceIte, reduceCtorEq, decide_true, decide_false, Bool.not_true, Bool.not_false, Bool.and_true, Bool.true_and, Bool.and_false, Bool.false_and, Bool.or_true, Bool.true_or, Bool.or_false, Bool.false_or,
  sSeq_ap, sqK_nx, sqK_rt, sqK_rl, sqK_bk, sqK_ct, sqK_no, sIf_ap, ifK_t, ifK_f, ifK_d, ifK_nd, sNil_ap, sBk_ap, sCt_ap, sRetN_ap, sBad_ap, eVar_ap, bVar_ap, mVar_ap, rdV_ro, rdV_lr, rdB_ro, rdB_lr, rdB_ow, rdM_lr, rdM_ow, nVar_ap, rdN_ro, rdN_lr, rdN_ow, eC_ap, e1_ap, e2_ap, e3_ap, b1_s, b2_s, b3_s, aNil_ap, aCons_ap, cnK_s, eCall_ap, caK_s, eTup_ap, tupK_s, lLst_ap, lstK_s, liL_ap, liK_s, lCat_ap, catK_s, oNone_ap, oSome_ap, oSK_i, asB_ap, boK_b, eAnd_ap, eOr_ap, andK_t, andK_f, orK_t, orK_f, andK_d, orK_d, bAnd_ap, bOr_ap, bAndK_t, bAndK_f, bOrK_t, bOrK_f, bAndK_d, bOrK_d, bAndK_nd, bOrK_nd, bNot_ap, toD_s, toL_l, rv_v, rv_l, sSet_ap, stK_s, sSetL_ap, slK_s, sSetR_ap, srK_s, sAsg_ap, asK_s, hName_ap, hTup_ap, hCons_ap, hNil_ap, sDrop_ap, drK_s, sRet_ap, rtK_s, sRetL_ap, rlK_s, sRetO_ap, roK_s, sFz_ap, fzK_s, fzK_ro, fzK_lr, sApp_ap, apK_s, sPut_ap, puK_s, sFor_ap, foK_s, forGo_n, forGo_c, tgK_s, at_nx, at_ct, at_bk, at_rt, at_rl, lComp_ap, coK_s, wipeE_n, wipeE_c, cYes_ap, wiK_t, wiK_f, sqK_ite, rvK_ite, at_ite, boK_ite, rtK_ite, ifK_ite, decide_eq_true_eq, Int.reduceToNat, Int.reduceLT, Int.reduceLE, Int.reduceEq, Int.reduceNeg, Int.reducePow, Int.reduceSub, Int.reduceAdd, Int.reduceMul, iSeqD_ap, iRg1D_ap, iRg2D_ap, iRevD_ap, iEnumD_ap, iZipD_ap, zipL_ap, seqK_l, seqK_t, seqK_s, rg1K_i, rg2K_i, revK_l, enuK_l, enuK_x, zipK_l, nat0, nat1, nat2, nat3, nat4, nat5, rvK_rt, rvK_rl, rvK_nx, compGo_n, compGo_c, cdK_y, cdK_s, all_t, eChain_ap, chK_ll, hUnl_ap, revL_ap, kyE_ap, kyeK_i, kyeK_s, kyeK_x, kyT_ap, kytK_ix, eDGet_ap, eDIn_ap, eDGet1_ap, eDGet2_ap, sDNew_ap, sDPutD_ap, dpK_T, dpK_K, sFzK_ap, fzkK_s, fzkK_ro, rdB_oK, pNil_ap, pCons_ap, pcK_s, pcK_x, eDisp_ap, dispK_1, fzL_ap, fzLK_s, fzT_ap, fzTK_s, fzE_ap, fzEK_s, xIO_ap, xiK_s, sRetP_ap, rpK_s, gIO_ap, ioR_rp, ioR_nx, ioK_s, sqK_rp, ioR_ite, envIO, sClear_ap, clK_s, sExt_ap, exK_s, sSetX_ap, xsK_s, xPop_ap, poK_s, poK_1, xPopAt_ap, patK_0, xaNil_ap, xaCons_ap, xacK_s, xTup_ap, xtK_s, xE_ap, xeK_s, xCall_ap, xclK_s, sAsgX_ap, xagK_s, sDropX_ap, xdK_s, sRetX_ap, xrK_s, sAppX_ap, axK_s, ax2K_s, ne_bb, ifK_v, ifK_nv, bOrK_v, bOrK_nv, bAndK_v, bAndK_nv, andK_v, orK_v, andK_nv, orK_nv,
  List.getElem?_cons_succ, List.getElem?_cons_zero, List.set_cons_succ, List.set_cons_zero, Option.bind_some, Option.map_some, Option.bind_none, Option.map_none,
  add_x, len_x, ix_x, eq_x, ne_x, isx_int, isx_bool, isx_str, isx_tuple, isx_list, isNx, notNx, sl_x, seq_x, cut_m1, cut_l1, sl_t, sl_l, sl_s, slL_l, cut_lo, cut_hi, cut_lh, cut_nn, add_ii, add_ss, add_tt, sub_ii, mul_l, mul_r, div_ii, mod_ii, pow_ii, lt_ii, le_ii, gt_ii, ge_ii, eq_ii, eq_bb, eq_ss, ne_ii, ne_ss, len_l, len_t, len_s, int_i, int_b, min_ii, max_ii, tup_l, tup_t, list_l, list_t, neg_i, not_b, ix_l, ix_t, atI_0, atI_1, atI_2, atI_3, atI_4,
  isN_n, isN_i, isN_s, isN_b, isN_t, isN_l, notN_n, notN_i, notN_s, notN_b, notN_t, notN_l, isB, notB, isi_i_int, isi_b_int, isi_s_int, isi_t_int, isi_l_int, isi_n_int, isi_i_bool, isi_b_bool, isi_s_bool, isi_t_bool, isi_l_bool, isi_n_bool, isi_i_str, isi_b_str, isi_s_str, isi_t_str, isi_l_str, isi_n_str, isi_i_tuple, isi_b_tuple, isi_s_tuple, isi_t_tuple, isi_l_tuple, isi_n_tuple, isi_i_list, isi_b_list, isi_s_list, isi_t_list, isi_l_list, isi_n_list])
theorem cop_len {f m ph a ends : Int} {wd : List Nat} : (copL f m ph a wd ends).length = 2 := rfl
theorem v_up (f m c t : Int) (hm0 : 0 ≤ m) (hm : m ≤ 100) : g_p_up_rules [.int f, .int m, (Row.up c t).enc] = some (.l ((upL f m c t m.toNat).map RR.enc)) := by
  unfold g_p_up_rules F_p_up_rules Row.enc
  walk_at "z"
  generalize hX : forGo _ _ _ _ = X
  obtain ⟨⟨rs, u4, u5⟩, rfl, i1, i2⟩ := loop_st (fun v : List RR × Option SV × Option SV => [some (SV.ro (.int f)), some (SV.ro (.int m)), some (SV.ro (.tuple [.str "up", .int c, .int t])), some (SV.ow (v.1.map RR.enc)), v.2.1, v.2.2])
    (fun n v => v.1 = upL f m c t n ∧ v.1.length ≤ 2 * n) ([], none, none) 0 hX ⟨rfl, Nat.le_refl _⟩ fun i d v hd hI => by
      obtain ⟨rs, u4, u5⟩ := v
      dsimp only at hI ⊢
      rw [Nat.zero_add] at hI ⊢
      obtain ⟨i1, i2⟩ := hI
      obtain ⟨hi, rfl⟩ := range_get hd
      have e : upL f m c t (i + 1) = upL f m c t i ++ copL f m 0 (i : Int) (if (i : Int) = c then [105, 101] else [101]) t := flat_s _ i
      refine ⟨(rs ++ copL f m 0 (i : Int) (if (i : Int) = c then [105, 101] else [101]) t, some (.ro (.int (i : Int))), some (.ro (sx (if (i : Int) = c then [105, 101] else [101])))), .inl ?_, by dsimp only; rw [e, i1], by dsimp only; rw [List.length_append, cop_len]; omega⟩
      rw [List.map_append]
      clear hX hd i1
      have hcl : (copL f m 0 c [105, 101] t).length = 2 := rfl
      have hcl2 : (copL f m 0 (i : Int) [101] t).length = 2 := rfl
      by_cases hc : (i : Int) = c
      · simp only [if_pos hc]
        walk_at "y"
      · simp only [if_neg hc]
        walk_at "y"
  rw [List.length_map, List.length_range, Nat.zero_add] at i1
  dsimp only at i1
  subst i1
  walk_at "z"
theorem seg_len (f m ph c g : Int) (n : Nat) : (segL f m ph c g n).length ≤ 2 * n := flat_len _ 2 (fun _ => Nat.le_refl _) n
theorem seg_s (f m ph c g : Int) (n : Nat) : segL f m ph c g (n + 1) = segL f m ph c g n ++ copL f m ph (c + (n : Int)) [101] g := flat_s _ n
theorem v_down (f m c t o : Int) (hm : m ≤ 100) (h0 : 0 ≤ c) (h1 : c < m) : g_p_down_rules [.int f, .int m, (Row.dn c t o).enc] = some (.l ((downL f m c t o).map RR.enc)) := by
  unfold g_p_down_rules F_p_down_rules Row.enc
  walk_at "z"
  generalize hX : forGo _ _ _ _ = X
  obtain ⟨⟨rs, u4⟩, rfl, i1⟩ := loop_st (fun v : List RR × Option SV => [some (SV.ro (.int f)), some (SV.ro (.int m)), some (SV.ro (.tuple [.str "down", .int c, .int t, .int o])), some (SV.ow (v.1.map RR.enc)), v.2, none])
    (fun n v => v.1 = segL f m 0 0 0 n) ([], none) 0 hX rfl fun i d v hd hI => by
      obtain ⟨rs, u4⟩ := v
      dsimp only at hI ⊢
      rw [Nat.zero_add] at hI ⊢
      obtain ⟨hi, rfl⟩ := range_get hd
      have hl := seg_len f m 0 0 0 i
      rw [← hI] at hl
      have e := seg_s f m 0 0 0 i
      rw [Int.zero_add] at e
      refine ⟨(rs ++ copL f m 0 (i : Int) [101] 0, some (.ro (.int (i : Int)))), .inl ?_, by dsimp only; rw [e, hI]⟩
      rw [List.map_append]
      clear hX hd hI e
      have hcl : (copL f m 0 (i : Int) [101] 0).length = 2 := rfl
      walk_at "y"
  rw [List.length_map, List.length_range, Nat.zero_add] at i1
  dsimp only at i1
  clear hX
  have l1 := seg_len f m 0 0 0 c.toNat
  rw [← i1] at l1
  walk_at "z"
  have hmid : List.map RR.enc rs ++ [PyData.tuple [PyData.int (lapI f m 0 c 0), sx [105], sx [], PyData.int (lapI f m 1 c 0)]] ++ [PyData.tuple [PyData.int (lapI f m 0 c 0), sx [101], sx [101], PyData.int (lapI f m 2 (c + 1) o)]] = List.map RR.enc (rs ++ midL f m c o) := by
    rw [List.map_append, List.append_assoc]; rfl
  rw [hmid]
  generalize hX : forGo _ _ _ _ = X
  obtain ⟨⟨rs2, u4'⟩, rfl, j1⟩ := loop_st (fun v : List RR × Option SV => [some (SV.ro (.int f)), some (SV.ro (.int m)), some (SV.ro (.tuple [.str "down", .int c, .int t, .int o])), some (SV.ow (v.1.map RR.enc)), v.2, some (SV.ro (.int (lapI f m 0 c 0)))])
    (fun n v => v.1 = rs ++ midL f m c o ++ segL f m 1 c t n) (rs ++ midL f m c o, u4) 0 hX (by simp [segL]) fun i d v hd hI => by
      obtain ⟨rs2, u4⟩ := v
      dsimp only at hI ⊢
      rw [Nat.zero_add] at hI ⊢
      rw [List.getElem?_map] at hd
      obtain ⟨k, hk, rfl⟩ := Option.map_eq_some_iff.mp hd
      obtain ⟨hi, hk2⟩ := List.getElem?_eq_some_iff.mp hk
      rw [List.length_range] at hi
      rw [List.getElem_range] at hk2
      subst hk2
      have hl := seg_len f m 1 c t i
      have hl2 : rs2.length ≤ 2 * c.toNat + 2 + 2 * i := by rw [hI, List.length_append, List.length_append]; show _ + 2 + _ ≤ _; omega
      refine ⟨(rs2 ++ copL f m 1 (c + (i : Int)) [101] t, some (.ro (.int (c + (i : Int))))), .inl ?_, by dsimp only; rw [seg_s, hI, List.append_assoc]⟩
      rw [List.map_append]
      clear hX hd hI hk
      have hcl : (copL f m 1 (c + (i : Int)) [101] t).length = 2 := rfl
      walk_at "y"
  rw [List.length_map, List.length_range, Nat.zero_add] at j1
  dsimp only at j1
  clear hX
  have l2 := seg_len f m 1 c t (m - c).toNat
  have l2' : rs2.length ≤ 2 * c.toNat + 2 + 2 * (m - c).toNat := by rw [j1, List.length_append, List.length_append]; show _ + 2 + _ ≤ _; omega
  walk_at "z"
  generalize hX : forGo _ _ _ _ = X
  obtain ⟨⟨rs3, u4''⟩, rfl, k1⟩ := loop_st (fun v : List RR × Option SV => [some (SV.ro (.int f)), some (SV.ro (.int m)), some (SV.ro (.tuple [.str "down", .int c, .int t, .int o])), some (SV.ow (v.1.map RR.enc)), v.2, some (SV.ro (.int (lapI f m 0 c 0)))])
    (fun n v => v.1 = rs2 ++ segL f m 2 (c + 1) o n) (rs2, u4') 0 hX (by simp [segL]) fun i d v hd hI => by
      obtain ⟨rs3, u4⟩ := v
      dsimp only at hI ⊢
      rw [Nat.zero_add] at hI ⊢
      rw [List.getElem?_map] at hd
      obtain ⟨k, hk, rfl⟩ := Option.map_eq_some_iff.mp hd
      obtain ⟨hi, hk2⟩ := List.getElem?_eq_some_iff.mp hk
      rw [List.length_range] at hi
      rw [List.getElem_range] at hk2
      subst hk2
      have hl := seg_len f m 2 (c + 1) o i
      have hl2 : rs3.length ≤ rs2.length + 2 * i := by rw [hI, List.length_append]; omega
      refine ⟨(rs3 ++ copL f m 2 (c + 1 + (i : Int)) [101] o, some (.ro (.int (c + 1 + (i : Int))))), .inl ?_, by dsimp only; rw [seg_s, hI, List.append_assoc]⟩
      rw [List.map_append]
      clear hX hd hI hk
      have hcl : (copL f m 2 (c + 1 + (i : Int)) [101] o).length = 2 := rfl
      walk_at "y"
  rw [List.length_map, List.length_range, Nat.zero_add] at k1
  dsimp only at k1
  clear hX
  have : rs3 = downL f m c t o := by rw [k1, j1, i1]; rfl
  subst this
  walk_at "z"
theorem row_len (f m : Int) (r : Row) (hm : m ≤ 100) (k : r.fit m P) : (rowL f m r).length ≤ 700 := by
  cases r with
  | up c t =>
    have := flat_len (fun (a : Nat) => copL f m 0 (a : Int) (if (a : Int) = c then [105, 101] else [101]) t) 2 (fun _ => Nat.le_refl _) m.toNat
    show (upL f m c t m.toNat).length ≤ _
    unfold upL; omega
  | dn c t o =>
    obtain ⟨k1, k2, _⟩ := k
    have l1 := seg_len f m 0 0 0 c.toNat
    have l2 := seg_len f m 1 c t (m - c).toNat
    have l3 := seg_len f m 2 (c + 1) o (m - (c + 1)).toNat
    show (downL f m c t o).length ≤ _
    unfold downL
    rw [List.length_append, List.length_append, List.length_append]
    show _ + 2 + _ + _ ≤ _
    omega
theorem pl_len (P m : Int) (ws : List Row) (p : Nat) (hm : m ≤ 100) (hf : ∀ w ∈ ws, w.fit m Q) : (plL P m ws p).length ≤ 701 := by
  unfold plL
  cases e : ws[p]? with
  | none => show 0 ≤ _; omega
  | some r => exact Nat.succ_le_succ (row_len _ m r hm (hf r (List.mem_of_getElem? e)))
theorem v_make (ws : List Row) (m : Int) (hl : ws.length ≤ 100) (hm : 0 < m) (hm2 : m ≤ 100) (hf : ∀ w ∈ ws, w.fit m ws.length) : g_p_make_rows [.list (ws.map Row.enc), .int m] = some (.l ((mkL m ws ws.length).map RR.enc)) := by
  unfold g_p_make_rows F_p_make_rows
  walk_at "z"
  generalize hX : forGo _ _ _ _ = X
  obtain ⟨⟨rs, u3, u4, u5⟩, rfl, i1⟩ := loop_st (fun v : List RR × Option SV × Option SV × Option SV => [some (SV.ro (.list (ws.map Row.enc))), some (SV.ro (.int m)), some (SV.ow (v.1.map RR.enc)), v.2.1, v.2.2.1, v.2.2.2])
    (fun n v => v.1 = mkL m ws n) ([], none, none, none) 0 hX rfl fun i d v hd hI => by
      obtain ⟨rs, u3, u4, u5⟩ := v
      dsimp only at hI ⊢
      rw [Nat.zero_add] at hI ⊢
      obtain ⟨d, hd2, rfl⟩ := enumD_get _ _ _ _ hd
      rw [List.getElem?_map] at hd2
      obtain ⟨w, hw, rfl⟩ := Option.map_eq_some_iff.mp hd2
      have hi := (List.getElem?_eq_some_iff.mp hw).1
      have hfw := hf w (List.mem_of_getElem? hw)
      have hls := flat_len (plL ws.length m ws) 701 (fun a => pl_len ws.length m ws a hm2 hf) i
      have hrl : rs.length ≤ 701 * i := by rw [hI]; exact hls
      have e : mkL m ws (i + 1) = mkL m ws i ++ plL ws.length m ws i := flat_s _ i
      have e2 : plL ws.length m ws i = ⟨(i : Int), 98, [98], fst ws.length m i⟩ :: rowL (fst ws.length m i) m w := by unfold plL; rw [hw]
      have hrow := row_len (fst ws.length m i) m w hm2 hfw
      refine ⟨(rs ++ plL ws.length m ws i, some (.ro (.int (i : Int))), some (.ro w.enc), some (.ro (.int (fst ws.length m i)))), .inl ?_, by dsimp only; rw [e, hI]⟩
      rw [e2, List.map_append, List.map_cons]
      have hf0 : (ws.length : Int) + 1 + (i : Int) * 3 * m = fst ws.length m i := rfl
      have hz : 0 + i = i := Nat.zero_add i
      clear hX hd hI hd2 hls e e2 hf
      cases w with
      | up c t =>
        have hv := v_up (fst ws.length m i) m c t (by omega) hm2
        have hrow' : (upL (fst ws.length m i) m c t m.toNat).length ≤ 700 := hrow
        have e0 : ixD (Row.up c t).enc (.int 0) = some (.str "up") := rfl
        generalize fst ws.length m i = F at *
        walk_at "y"
        rw [List.append_assoc]; rfl
      | dn c t o =>
        have hv := v_down (fst ws.length m i) m c t o hm2 hfw.1 hfw.2.1
        have hrow' : (downL (fst ws.length m i) m c t o).length ≤ 700 := hrow
        have e0 : ixD (Row.dn c t o).enc (.int 0) = some (.str "down") := rfl
        generalize fst ws.length m i = F at *
        walk_at "y"
        rw [List.append_assoc]; rfl
  have hel : ∀ (ds : List D) (n : Nat), (enumD n ds).length = ds.length := fun ds => by
    induction ds with
    | nil => intro n; rfl
    | cons d ds ih => intro n; show (enumD (n + 1) ds).length + 1 = _; rw [ih]; rfl
  rw [hel, List.length_map, Nat.zero_add] at i1
  dsimp only at i1
  subst i1
  walk_at "z"
local macro_rules | `(tactic| walk_at "z") => `(tactic| simp -implicitDefEqProofs (disch := first | omega | (simp only [List.length_cons, List.length_nil, List.length_append, List.length_map, List.length_set, List.length_reverse, List.length_take, List.length_drop, List.length_range]; done) | (simp only [List.length_cons, List.length_nil, List.length_append, List.length_map, List.length_set, List.length_reverse, List.length_take, List.length_drop, List.length_range]; omega) | fail) only [List.length_map, chK_lelt, v_cell, v_mixed, down_up, up_down, v_program, lit_b, lit_e, lit_i, lit_ie, lit_0, v_lap, v_cop, v_make, gF_ap, env0, List.map_cons, List.map_nil, List.length_cons, List.length_nil, List.cons_append, List.nil_append, List.replicate_succ, List.replicate_zero, Nat.reduceAdd, Nat.reduceSub, if_true, if_false, eq_self, List.getD_cons_zero, Int.toNat_natCast, Nat.reduceEqDiff, reduceIte, reduceCtorEq, decide_true, decide_false, Bool.not_true, Bool.not_false, Bool.and_true, Bool.true_and, Bool.and_false, Bool.false_and, Bool.or_true, Bool.true_or, Bool.or_false, Bool.false_or,
  sSeq_ap, sqK_nx, sqK_rt, sqK_rl, sqK_bk, sqK_ct, sqK_no, sIf_ap, ifK_t, ifK_f, ifK_d, ifK_nd, sNil_ap, sBk_ap, sCt_ap, sRetN_ap, sBad_ap, eVar_ap, bVar_ap, mVar_ap, rdV_ro, rdV_lr, rdB_ro, rdB_lr, rdB_ow, rdM_lr, rdM_ow, nVar_ap, rdN_ro, rdN_lr, rdN_ow, eC_ap, e1_ap, e2_ap, e3_ap, b1_s, b2_s, b3_s, aNil_ap, aCons_ap, cnK_s, eCall_ap, caK_s, eTup_ap, tupK_s, lLst_ap, lstK_s, liL_ap, liK_s, lCat_ap, catK_s, oNone_ap, oSome_ap, oSK_i, asB_ap, boK_b, eAnd_ap, eOr_ap, andK_t, andK_f, orK_t, orK_f, andK_d, orK_d, bAnd_ap, bOr_ap, bAndK_t, bAndK_f, bOrK_t, bOrK_f, bAndK_d, bOrK_d, bAndK_nd, bOrK_nd, bNot_ap, toD_s, toL_l, rv_v, rv_l, sSet_ap, stK_s, sSetL_ap, slK_s, sSetR_ap, srK_s, sAsg_ap, asK_s, hName_ap, hTup_ap, hCons_ap, hNil_ap, sDrop_ap, drK_s, sRet_ap, rtK_s, sRetL_ap, rlK_s, sRetO_ap, roK_s, sFz_ap, fzK_s, fzK_ro, fzK_lr, sApp_ap, apK_s, sPut_ap, puK_s, sFor_ap, foK_s, forGo_n, forGo_c, tgK_s, at_nx, at_ct, at_bk, at_rt, at_rl, lComp_ap, coK_s, wipeE_n, wipeE_c, cYes_ap, wiK_t, wiK_f, sqK_ite, rvK_ite, at_ite, boK_ite, rtK_ite, ifK_ite, decide_eq_true_eq, Int.reduceToNat, Int.reduceLT, Int.reduceLE, Int.reduceEq, Int.reduceNeg, Int.reducePow, Int.reduceSub, Int.reduceAdd, Int.reduceMul, iSeqD_ap, iRg1D_ap, iRg2D_ap, iRevD_ap, iEnumD_ap, iZipD_ap, zipL_ap, seqK_l, seqK_t, seqK_s, rg1K_i, rg2K_i, revK_l, enuK_l, enuK_x, zipK_l, nat0, nat1, nat2, nat3, nat4, nat5, rvK_rt, rvK_rl, rvK_nx, compGo_n, compGo_c, cdK_y, cdK_s, all_t, eChain_ap, chK_ll, hUnl_ap, revL_ap, kyE_ap, kyeK_i, kyeK_s, kyeK_x, kyT_ap, kytK_ix, eDGet_ap, eDIn_ap, eDGet1_ap, eDGet2_ap, sDNew_ap, sDPutD_ap, dpK_T, dpK_K, sFzK_ap, fzkK_s, fzkK_ro, rdB_oK, pNil_ap, pCons_ap, pcK_s, pcK_x, eDisp_ap, dispK_1, fzL_ap, fzLK_s, fzT_ap, fzTK_s, fzE_ap, fzEK_s, xIO_ap, xiK_s, sRetP_ap, rpK_s, gIO_ap, ioR_rp, ioR_nx, ioK_s, sqK_rp, ioR_ite, envIO, sClear_ap, clK_s, sExt_ap, exK_s, sSetX_ap, xsK_s, xPop_ap, poK_s, poK_1, xPopAt_ap, patK_0, xaNil_ap, xaCons_ap, xacK_s, xTup_ap, xtK_s, xE_ap, xeK_s, xCall_ap, xclK_s, sAsgX_ap, xagK_s, sDropX_ap, xdK_s, sRetX_ap, xrK_s, sAppX_ap, axK_s, ax2K_s, ne_bb, ifK_v, ifK_nv, bOrK_v, bOrK_nv, bAndK_v, bAndK_nv, andK_v, orK_v, andK_nv, orK_nv,
  List.getElem?_cons_succ, List.getElem?_cons_zero, List.set_cons_succ, List.set_cons_zero, Option.bind_some, Option.map_some, Option.bind_none, Option.map_none,
  add_x, len_x, ix_x, eq_x, ne_x, isx_int, isx_bool, isx_str, isx_tuple, isx_list, isNx, notNx, sl_x, seq_x, cut_m1, cut_l1, sl_t, sl_l, sl_s, slL_l, cut_lo, cut_hi, cut_lh, cut_nn, add_ii, add_ss, add_tt, sub_ii, mul_l, mul_r, div_ii, mod_ii, pow_ii, lt_ii, le_ii, gt_ii, ge_ii, eq_ii, eq_bb, eq_ss, ne_ii, ne_ss, len_l, len_t, len_s, int_i, int_b, min_ii, max_ii, tup_l, tup_t, list_l, list_t, neg_i, not_b, ix_l, ix_t, atI_0, atI_1, atI_2, atI_3, atI_4,
  isN_n, isN_i, isN_s, isN_b, isN_t, isN_l, notN_n, notN_i, notN_s, notN_b, notN_t, notN_l, isB, notB, isi_i_int, isi_b_int, isi_s_int, isi_t_int, isi_l_int, isi_n_int, isi_i_bool, isi_b_bool, isi_s_bool, isi_t_bool, isi_l_bool, isi_n_bool, isi_i_str, isi_b_str, isi_s_str, isi_t_str, isi_l_str, isi_n_str, isi_i_tuple, isi_b_tuple, isi_s_tuple, isi_t_tuple, isi_l_tuple, isi_n_tuple, isi_i_list, isi_b_list, isi_s_list, isi_t_list, isi_l_list, isi_n_list])
local macro_rules | `(tactic| walk_at "y") => `(tactic| simp -implicitDefEqProofs (disch := first | omega | (simp only [List.length_cons, List.length_nil, List.length_append, List.length_map, List.length_set, List.length_reverse, List.length_take, List.length_drop, List.length_range]; done) | (simp only [List.length_cons, List.length_nil, List.length_append, List.length_map, List.length_set, List.length_reverse, List.length_take, List.length_drop, List.length_range]; omega) | fail) only [*, List.length_map, chK_lelt, v_cell, v_mixed, down_up, up_down, v_program, lit_b, lit_e, lit_i, lit_ie, lit_0, v_lap, v_cop, v_make, gF_ap, env0, List.map_cons, List.map_nil, List.length_cons, List.length_nil, List.cons_append, List.nil_append, List.replicate_succ, List.replicate_zero, Nat.reduceAdd, Nat.reduceSub, if_true, if_false, eq_self, List.getD_cons_zero, Int.toNat_natCast, Nat.reduceEqDiff, reduceIte, reduceCtorEq, decide_true, decide_false, Bool.not_true, Bool.not_false, Bool.and_true, Bool.true_and, Bool.and_false, Bool.false_and, Bool.or_true, Bool.true_or, Bool.or_false, Bool.false_or,
  sSeq_ap, sqK_nx, sqK_rt, sqK_rl, sqK_bk, sqK_ct, sqK_no, sIf_ap, ifK_t, ifK_f, ifK_d, ifK_nd, sNil_ap, sBk_ap, sCt_ap, sRetN_ap, sBad_ap, eVar_ap, bVar_ap, mVar_ap, rdV_ro, rdV_lr, rdB_ro, rdB_lr, rdB_ow, rdM_lr, rdM_ow, nVar_ap, rdN_ro, rdN_lr, rdN_ow, eC_ap, e1_ap, e2_ap, e3_ap, b1_s, b2_s, b3_s, aNil_ap, aCons_ap, cnK_s, eCall_ap, caK_s, eTup_ap, tupK_s, lLst_ap, lstK_s, liL_ap, liK_s, lCat_ap, catK_s, oNone_ap, oSome_ap, oSK_i, asB_ap, boK_b, eAnd_ap, eOr_ap, andK_t, andK_f, orK_t, orK_f, andK_d, orK_d, bAnd_ap, bOr_ap, bAndK_t, bAndK_f, bOrK_t, bOrK_f, bAndK_d, bOrK_d, bAndK_nd, bOrK_nd, bNot_ap, toD_s, toL_l, rv_v, rv_l, sSet_ap, stK_s, sSetL_ap, slK_s, sSetR_ap, srK_s, sAsg_ap, asK_s, hName_ap, hTup_ap, hCons_ap, hNil_ap, sDrop_ap, drK_s, sRet_ap, rtK_s, sRetL_ap, rlK_s, sRetO_ap, roK_s, sFz_ap, fzK_s, fzK_ro, fzK_lr, sApp_ap, apK_s, sPut_ap, puK_s, sFor_ap, foK_s, forGo_n, forGo_c, tgK_s, at_nx, at_ct, at_bk, at_rt, at_rl, lComp_ap, coK_s, wipeE_n, wipeE_c, cYes_ap, wiK_t, wiK_f, sqK_ite, rvK_ite, at_ite, boK_ite, rtK_ite, ifK_ite, decide_eq_true_eq, Int.reduceToNat, Int.reduceLT, Int.reduceLE, Int.reduceEq, Int.reduceNeg, Int.reducePow, Int.reduceSub, Int.reduceAdd, Int.reduceMul, iSeqD_ap, iRg1D_ap, iRg2D_ap, iRevD_ap, iEnumD_ap, iZipD_ap, zipL_ap, seqK_l, seqK_t, seqK_s, rg1K_i, rg2K_i, revK_l, enuK_l, enuK_x, zipK_l, nat0, nat1, nat2, nat3, nat4, nat5, rvK_rt, rvK_rl, rvK_nx, compGo_n, compGo_c, cdK_y, cdK_s, all_t, eChain_ap, chK_ll, hUnl_ap, revL_ap, kyE_ap, kyeK_i, kyeK_s, kyeK_x, kyT_ap, kytK_ix, eDGet_ap, eDIn_ap, eDGet1_ap, eDGet2_ap, sDNew_ap, sDPutD_ap, dpK_T, dpK_K, sFzK_ap, fzkK_s, fzkK_ro, rdB_oK, pNil_ap, pCons_ap, pcK_s, pcK_x, eDisp_ap, dispK_1, fzL_ap, fzLK_s, fzT_ap, fzTK_s, fzE_ap, fzEK_s, xIO_ap, xiK_s, sRetP_ap, rpK_s, gIO_ap, ioR_rp, ioR_nx, ioK_s, sqK_rp, ioR_ite, envIO, sClear_ap, clK_s, sExt_ap, exK_s, sSetX_ap, xsK_s, xPop_ap, poK_s, poK_1, xPopAt_ap, patK_0, xaNil_ap, xaCons_ap, xacK_s, xTup_ap, xtK_s, xE_ap, xeK_s, xCall_ap, xclK_s, sAsgX_ap, xagK_s, sDropX_ap, xdK_s, sRetX_ap, xrK_s, sAppX_ap, axK_s, ax2K_s, ne_bb, ifK_v, ifK_nv, bOrK_v, bOrK_nv, bAndK_v, bAndK_nv, andK_v, orK_v, andK_nv, orK_nv,
  List.getElem?_cons_succ, List.getElem?_cons_zero, List.set_cons_succ, List.set_cons_zero, Option.bind_some, Option.map_some, Option.bind_none, Option.map_none,
  add_x, len_x, ix_x, eq_x, ne_x, isx_int, isx_bool, isx_str, isx_tuple, isx_list, isNx, notNx, sl_x, seq_x, cut_m1, cut_l1, sl_t, sl_l, sl_s, slL_l, cut_lo, cut_hi, cut_lh, cut_nn, add_ii, add_ss, add_tt, sub_ii, mul_l, mul_r, div_ii, mod_ii, pow_ii, lt_ii, le_ii, gt_ii, ge_ii, eq_ii, eq_bb, eq_ss, ne_ii, ne_ss, len_l, len_t, len_s, int_i, int_b, min_ii, max_ii, tup_l, tup_t, list_l, list_t, neg_i, not_b, ix_l, ix_t, atI_0, atI_1, atI_2, atI_3, atI_4,
  isN_n, isN_i, isN_s, isN_b, isN_t, isN_l, notN_n, notN_i, notN_s, notN_b, notN_t, notN_l, isB, notB, isi_i_int, isi_b_int, isi_s_int, isi_t_int, isi_l_int, isi_n_int, isi_i_bool, isi_b_bool, isi_s_bool, isi_t_bool, isi_l_bool, isi_n_bool, isi_i_str, isi_b_str, isi_s_str, isi_t_str, isi_l_str, isi_n_str, isi_i_tuple, isi_b_tuple, isi_s_tuple, isi_t_tuple, isi_l_tuple, isi_n_tuple, isi_i_list, isi_b_list, isi_s_list, isi_t_list, isi_l_list, isi_n_list])
/-! ### images of counters, as signs -/
def strk (n : Int) : List Nat := List.replicate n.toNat 105
def encC (cs : List Int) : List Nat := cs.flatMap fun n => strk n ++ [101]
theorem encC_app (xs ys : List Int) : encC (xs ++ ys) = encC xs ++ encC ys := List.flatMap_append
theorem encC_cons (x : Int) (ys : List Int) : encC (x :: ys) = strk x ++ [101] ++ encC ys := rfl
theorem encC_flat (cs : List Int) : (cs.map fun n => strk n ++ [101]).flatten = encC cs := List.flatMap_def.symm
theorem encC_len : ∀ {cs : List Int} {b : Nat}, (∀ x ∈ cs, x ≤ (b : Int)) → (encC cs).length ≤ cs.length * (b + 1)
  | [], _, _ => by simp [encC]
  | c :: cs, b, h => by
    have h1 := h c List.mem_cons_self
    have h2 := encC_len (cs := cs) (b := b) fun x hx => h x (List.mem_cons_of_mem _ hx)
    have e : (strk c).length = c.toNat := List.length_replicate
    rw [encC_cons, List.length_append, List.length_append, e, show (c :: cs).length = cs.length + 1 from rfl, Nat.succ_mul]
    show _ + 1 + _ ≤ _
    omega
def encS (p : Int × List Int) : D := .tuple [.int p.1, .tuple (p.2.map .int)]
def encI (p : Int × List Int) : D := .tuple [.int p.1, sx (98 :: encC p.2)]
/-! ### rules of rows made of counters: unlike keys, laps -/
def Apart (a b : RR) : Prop := a.st = b.st → a.sg ≠ b.sg
theorem flat_apart (f : Nat → List RR) (lo : Nat → Int) (n : Nat) (h : ∀ a < n, (f a).Pairwise Apart) (k : ∀ a b, a < b → b < n → ∀ x ∈ f a, ∀ y ∈ f b, Apart x y) : ((List.range n).flatMap f).Pairwise Apart := by
  induction n with
  | zero => simp
  | succ n ih =>
    rw [flat_s]
    refine List.pairwise_append.mpr ⟨ih (fun a ha => h a (by omega)) fun a b hab hb => k a b hab (by omega), h n (by omega), fun x hx y hy => ?_⟩
    obtain ⟨a, ha, hx⟩ := List.mem_flatMap.mp hx
    exact k a n (List.mem_range.mp ha) (by omega) x hx y hy
theorem cop_mem {f m ph a g : Int} {wd : List Nat} {r : RR} (h : r ∈ copL f m ph a wd g) : r.st = lapI f m ph a g ∧ (r.sg = 105 ∨ r.sg = 101) := by
  rcases List.mem_cons.mp h with rfl | h
  · exact ⟨rfl, .inl rfl⟩
  · rcases List.mem_singleton.mp h with rfl
    exact ⟨rfl, .inr rfl⟩
theorem cop_apart {f m ph a g : Int} {wd : List Nat} : (copL f m ph a wd g).Pairwise Apart := by
  unfold copL
  refine List.pairwise_cons.mpr ⟨fun b hb => ?_, List.pairwise_singleton _ _⟩
  rcases List.mem_singleton.mp hb with rfl
  intro _; show (105 : Nat) ≠ 101; decide
theorem lap_lt {f m ph a g : Int} (h : a < m) : lapI f m ph a g = f + ph * m + a := if_neg (by omega)
theorem lap_end {f m ph g : Int} : lapI f m ph m g = g := if_pos rfl
theorem seg_mem {f m ph c g : Int} {n : Nat} {r : RR} (h : r ∈ segL f m ph c g n) : ∃ a : Nat, a < n ∧ r ∈ copL f m ph (c + (a : Int)) [101] g := by
  obtain ⟨a, ha, h⟩ := List.mem_flatMap.mp h
  exact ⟨a, List.mem_range.mp ha, h⟩
/-- where the states of a row's rules lie -/
theorem rowL_mem {f m P : Int} {w : Row} (hm : 0 < m) (hw : w.fit m P) {r : RR} (h : r ∈ rowL f m w) : f ≤ r.st ∧ r.st < f + 3 * m ∧ (r.sg = 105 ∨ r.sg = 101) := by
  cases w with
  | up c t =>
    obtain ⟨a, ha, h⟩ := List.mem_flatMap.mp h
    have ha := List.mem_range.mp ha
    obtain ⟨h1, h2⟩ := cop_mem h
    rw [lap_lt (by omega)] at h1
    exact ⟨by omega, by omega, h2⟩
  | dn c t o =>
    obtain ⟨k1, k2, _⟩ := hw
    have h : r ∈ downL f m c t o := h
    unfold downL at h
    rcases List.mem_append.mp h with h | h
    · rcases List.mem_append.mp h with h | h
      · rcases List.mem_append.mp h with h | h
        · obtain ⟨a, ha, h⟩ := seg_mem h
          obtain ⟨h1, h2⟩ := cop_mem h
          rw [lap_lt (by omega)] at h1
          exact ⟨by omega, by omega, h2⟩
        · unfold midL at h
          have e := lap_lt (f := f) (ph := 0) (g := 0) k2
          rcases List.mem_cons.mp h with rfl | h
          · exact ⟨by show f ≤ lapI f m 0 c 0; omega, by show lapI f m 0 c 0 < _; omega, .inl rfl⟩
          · rcases List.mem_singleton.mp h with rfl
            exact ⟨by show f ≤ lapI f m 0 c 0; omega, by show lapI f m 0 c 0 < _; omega, .inr rfl⟩
      · obtain ⟨a, ha, h⟩ := seg_mem h
        obtain ⟨h1, h2⟩ := cop_mem h
        rw [lap_lt (by omega)] at h1
        exact ⟨by omega, by omega, h2⟩
    · obtain ⟨a, ha, h⟩ := seg_mem h
      obtain ⟨h1, h2⟩ := cop_mem h
      rw [lap_lt (by omega)] at h1
      exact ⟨by omega, by omega, h2⟩
theorem seg_apart {f m ph c g : Int} {n : Nat} (h : c + (n : Int) ≤ m) : (segL f m ph c g n).Pairwise Apart :=
  flat_apart _ (fun _ => 0) n (fun _ _ => cop_apart) fun a b hab hb x hx y hy e => by
    have h1 := (cop_mem hx).1
    have h2 := (cop_mem hy).1
    rw [lap_lt (by omega)] at h1 h2
    omega
theorem rowL_apart {f m P : Int} {w : Row} (hm : 0 < m) (hw : w.fit m P) : (rowL f m w).Pairwise Apart := by
  cases w with
  | up c t =>
    exact flat_apart _ (fun _ => 0) m.toNat (fun _ _ => cop_apart) fun a b hab hb x hx y hy e => by
      have h1 := (cop_mem hx).1
      have h2 := (cop_mem hy).1
      rw [lap_lt (by omega)] at h1 h2
      omega
  | dn c t o =>
    obtain ⟨k1, k2, _⟩ := hw
    have em := lap_lt (f := f) (ph := 0) (g := 0) k2
    have mids : ∀ x ∈ midL f m c o, x.st = f + c := fun x hx => by
      unfold midL at hx
      rcases List.mem_cons.mp hx with rfl | hx
      · show lapI f m 0 c 0 = _; omega
      · rcases List.mem_singleton.mp hx with rfl
        show lapI f m 0 c 0 = _; omega
    have segs : ∀ {ph c0 g : Int} {n : Nat}, c0 + (n : Int) ≤ m → ∀ x ∈ segL f m ph c0 g n, f + ph * m + c0 ≤ x.st ∧ x.st < f + ph * m + c0 + n := fun {ph c0 g n} hn x hx => by
      obtain ⟨a, ha, hx⟩ := seg_mem hx
      have h1 := (cop_mem hx).1
      rw [lap_lt (by omega)] at h1
      omega
    refine List.pairwise_append.mpr ⟨List.pairwise_append.mpr ⟨List.pairwise_append.mpr ⟨seg_apart (by omega), ?_, fun x hx y hy e => ?_⟩, seg_apart (by omega), fun x hx y hy e => ?_⟩, seg_apart (by omega), fun x hx y hy e => ?_⟩
    · unfold midL
      refine List.pairwise_cons.mpr ⟨fun b hb => ?_, List.pairwise_singleton _ _⟩
      rcases List.mem_singleton.mp hb with rfl
      intro _; show (105 : Nat) ≠ 101; decide
    · have h1 := segs (by omega) x hx
      have h2 := mids y hy
      omega
    · have h2 := segs (by omega) y hy
      rcases List.mem_append.mp hx with hx | hx
      · have h1 := segs (by omega) x hx
        omega
      · have h1 := mids x hx
        omega
    · have h2 := segs (by omega) y hy
      rcases List.mem_append.mp hx with hx | hx
      · rcases List.mem_append.mp hx with hx | hx
        · have h1 := segs (by omega) x hx
          omega
        · have h1 := mids x hx
          omega
      · have h1 := segs (by omega) x hx
        omega
theorem pl_mem {P m : Int} {ws : List Row} {p : Nat} {r : RR} (h : r ∈ plL P m ws p) : ∃ w, ws[p]? = some w ∧ (r = ⟨(p : Int), 98, [98], fst P m p⟩ ∨ r ∈ rowL (fst P m p) m w) := by
  unfold plL at h
  cases e : ws[p]? with
  | none => rw [e] at h; cases h
  | some w =>
    rw [e] at h
    rcases List.mem_cons.mp h with h | h
    · exact ⟨w, rfl, .inl h⟩
    · exact ⟨w, rfl, .inr h⟩
theorem mk_mem {m : Int} {ws : List Row} {r : RR} (h : r ∈ mkL m ws ws.length) : ∃ (p : Nat) (w : Row), ws[p]? = some w ∧ (r = ⟨(p : Int), 98, [98], fst ws.length m p⟩ ∨ r ∈ rowL (fst ws.length m p) m w) := by
  obtain ⟨p, _, h⟩ := List.mem_flatMap.mp h
  obtain ⟨w, h1, h2⟩ := pl_mem h
  exact ⟨p, w, h1, h2⟩
theorem mk_in {m : Int} {ws : List Row} {p : Nat} {w : Row} (h : ws[p]? = some w) : (⟨(p : Int), 98, [98], fst ws.length m p⟩ : RR) ∈ mkL m ws ws.length ∧ ∀ r ∈ rowL (fst ws.length m p) m w, r ∈ mkL m ws ws.length := by
  have hp := (List.getElem?_eq_some_iff.mp h).1
  have e : plL ws.length m ws p = ⟨(p : Int), 98, [98], fst ws.length m p⟩ :: rowL (fst ws.length m p) m w := by unfold plL; rw [h]
  refine ⟨List.mem_flatMap.mpr ⟨p, List.mem_range.mpr hp, ?_⟩, fun r hr => List.mem_flatMap.mpr ⟨p, List.mem_range.mpr hp, ?_⟩⟩
  · rw [e]; exact List.mem_cons_self
  · rw [e]; exact List.mem_cons_of_mem _ hr
theorem fst_le {P m : Int} {p q : Nat} (hm : 0 < m) (h : p < q) : fst P m p + 3 * m ≤ fst P m q := by
  obtain ⟨k, rfl⟩ : ∃ k, q = p + 1 + k := ⟨q - (p + 1), by omega⟩
  have h2 : 0 ≤ (k : Int) * 3 * m := Int.mul_nonneg (by omega) (by omega)
  have e : fst P m ((p + 1 + k : Nat) : Int) = fst P m p + 3 * m + (k : Int) * 3 * m := by
    show P + 1 + ((p + 1 + k : Nat) : Int) * 3 * m = P + 1 + (p : Int) * 3 * m + 3 * m + (k : Int) * 3 * m
    have : ((p + 1 + k : Nat) : Int) = (p : Int) + 1 + k := by omega
    rw [this, Int.add_mul, Int.add_mul, Int.add_mul, Int.add_mul]
    omega
  rw [e]; omega
theorem fst_gt {P m : Int} {p : Nat} (hm : 0 < m) : P < fst P m p := by
  have h2 : 0 ≤ (p : Int) * 3 * m := Int.mul_nonneg (by omega) (by omega)
  unfold fst; omega
theorem mk_apart {m : Int} {ws : List Row} (hm : 0 < m) (hf : ∀ w ∈ ws, w.fit m ws.length) : (mkL m ws ws.length).Pairwise Apart :=
  flat_apart _ (fun _ => 0) ws.length (fun p hp => by
    unfold plL
    cases e : ws[p]? with
    | none => exact List.Pairwise.nil
    | some w =>
      refine List.pairwise_cons.mpr ⟨fun b hb => ?_, rowL_apart hm (hf w (List.mem_of_getElem? e))⟩
      obtain ⟨h1, h2, h3⟩ := rowL_mem hm (hf w (List.mem_of_getElem? e)) hb
      intro _
      show (98 : Nat) ≠ b.sg
      omega) fun p q hpq hq x hx y hy e => by
    obtain ⟨w1, hw1, hx⟩ := pl_mem hx
    obtain ⟨w2, hw2, hy⟩ := pl_mem hy
    have f1 := fst_gt (P := (ws.length : Int)) (p := p) hm
    have f2 := fst_gt (P := (ws.length : Int)) (p := q) hm
    have f3 := fst_le (P := (ws.length : Int)) hm hpq
    have hp' := (List.getElem?_eq_some_iff.mp hw1).1
    rcases hx with rfl | hx <;> rcases hy with rfl | hy
    · have e : (p : Int) = q := e
      omega
    · obtain ⟨h1, h2, h3⟩ := rowL_mem hm (hf w2 (List.mem_of_getElem? hw2)) hy
      have e : (p : Int) = y.st := e
      omega
    · obtain ⟨h1, h2, h3⟩ := rowL_mem hm (hf w1 (List.mem_of_getElem? hw1)) hx
      have e : x.st = (q : Int) := e
      omega
    · obtain ⟨h1, h2, h3⟩ := rowL_mem hm (hf w1 (List.mem_of_getElem? hw1)) hx
      obtain ⟨h4, h5, h6⟩ := rowL_mem hm (hf w2 (List.mem_of_getElem? hw2)) hy
      omega
theorem apart_eq : ∀ {rs : List RR}, rs.Pairwise Apart → ∀ a ∈ rs, ∀ b ∈ rs, a.st = b.st → a.sg = b.sg → a = b
  | [], _, a, ha, _, _, _, _ => by cases ha
  | r :: rs, h, a, ha, b, hb, e, e2 => by
    have h2 := List.pairwise_cons.mp h
    rcases List.mem_cons.mp ha with ha' | ha' <;> rcases List.mem_cons.mp hb with hb' | hb'
    · rw [ha', hb']
    · rw [ha'] at e e2; exact absurd e2 (h2.1 b hb' e)
    · rw [hb'] at e e2; exact absurd e2.symm (h2.1 a ha' e.symm)
    · exact apart_eq h2.2 a ha' b hb' e e2
/-- signs are eaten from a state on: the states ahead of each are above P -/
inductive Eat (rs : List RR) (P : Int) : Int → List Nat → Int → List Nat → Prop
  | nil {s : Int} : Eat rs P s [] s []
  | cons {r : RR} {xs ys : List Nat} {g : Int} : r ∈ rs → P < r.st → Eat rs P r.gl xs g ys → Eat rs P r.st (r.sg :: xs) g (r.wd ++ ys)
theorem Eat.app {rs : List RR} {P s g h : Int} {xs xs' ys ys' : List Nat} (a : Eat rs P s xs g ys) (b : Eat rs P g xs' h ys') : Eat rs P s (xs ++ xs') h (ys ++ ys') := by
  induction a with
  | nil => exact b
  | cons h1 h2 _ ih => rw [List.cons_append, List.append_assoc]; exact .cons h1 h2 (ih b)
theorem eat_strk {rs : List RR} {P s : Int} (h : (⟨s, 105, [105], s⟩ : RR) ∈ rs) (hs : P < s) : ∀ n : Nat, Eat rs P s (List.replicate n 105) s (List.replicate n 105)
  | 0 => .nil
  | n + 1 => by
    rw [List.replicate_succ]
    exact .cons (r := ⟨s, 105, [105], s⟩) h hs (eat_strk h hs n)
theorem eat_cell {rs : List RR} {P f m ph a g : Int} {wd : List Nat} (h : ∀ r ∈ copL f m ph a wd g, r ∈ rs) (hs : P < lapI f m ph a g) (n : Int) : Eat rs P (lapI f m ph a g) (strk n ++ [101]) (lapI f m ph (a + 1) g) (strk n ++ wd) := by
  refine (eat_strk (h _ List.mem_cons_self) hs n.toNat).app ?_
  have := Eat.cons (rs := rs) (P := P) (r := ⟨lapI f m ph a g, 101, wd, lapI f m ph (a + 1) g⟩) (h _ (List.mem_cons_of_mem _ List.mem_cons_self)) hs .nil
  rw [List.append_nil] at this
  exact this
/-- counters of which each is copied -/
theorem eat_seg {rs : List RR} {P f m ph g : Int} (w : Int → List Nat) (hP : P < f + ph * m) : ∀ (cs : List Int) (a : Int), 0 ≤ a → a + cs.length ≤ m → (∀ j : Nat, j < cs.length → ∀ r ∈ copL f m ph (a + j) (w (a + j)) g, r ∈ rs) →
    Eat rs P (lapI f m ph a g) (encC cs) (lapI f m ph (a + cs.length) g) ((List.range cs.length).flatMap fun (j : Nat) => strk (cs.getD j 0) ++ w (a + j))
  | [], a, _, _, _ => by
    rw [show a + (([] : List Int).length : Int) = a from by simp]
    exact .nil
  | c :: cs, a, h0, h1, h2 => by
    rw [List.length_cons] at h1 h2 ⊢
    have e : lapI f m ph a g = f + ph * m + a := lap_lt (by omega)
    have s1 := eat_cell (rs := rs) (P := P) (wd := w a) (fun r hr => h2 0 (by omega) r (by rw [show a + ((0 : Nat) : Int) = a from by omega]; exact hr)) (by rw [e]; omega) c
    have s2 := eat_seg w hP cs (a + 1) (by omega) (by omega) fun j hj r hr => h2 (j + 1) (by omega) r (by rw [show a + ((j + 1 : Nat) : Int) = a + 1 + j from by omega]; exact hr)
    have := s1.app s2
    rw [show a + ((cs.length + 1 : Nat) : Int) = a + 1 + cs.length from by omega, List.range_succ_eq_map, List.flatMap_cons, List.flatMap_map]
    have e2 : (fun (j : Nat) => strk ((c :: cs).getD (j + 1) 0) ++ w (a + ((j + 1 : Nat) : Int))) = fun (j : Nat) => strk (cs.getD j 0) ++ w (a + 1 + j) := by
      funext j
      rw [show a + ((j + 1 : Nat) : Int) = a + 1 + j from by omega]; rfl
    show Eat rs P _ ((strk c ++ [101]) ++ encC cs) _ ((strk c ++ w (a + ((0 : Nat) : Int))) ++ List.flatMap (fun (j : Nat) => strk ((c :: cs).getD (j + 1) 0) ++ w (a + ((j + 1 : Nat) : Int))) (List.range cs.length))
    rw [e2, show a + ((0 : Nat) : Int) = a from by omega]
    exact this
theorem encC_range : ∀ cs : List Int, ((List.range cs.length).flatMap fun (j : Nat) => strk (cs.getD j 0) ++ [101]) = encC cs
  | [] => rfl
  | c :: cs => by
    rw [List.length_cons, List.range_succ_eq_map, List.flatMap_cons, List.flatMap_map]
    show (strk c ++ [101]) ++ _ = (strk c ++ [101]) ++ encC cs
    rw [← encC_range cs]; rfl
theorem eat_copy {rs : List RR} {P f m ph g : Int} (hP : P < f + ph * m) (cs : List Int) (a : Int) (h0 : 0 ≤ a) (h1 : a + cs.length ≤ m) (h2 : ∀ r ∈ segL f m ph a g cs.length, r ∈ rs) :
    Eat rs P (lapI f m ph a g) (encC cs) (lapI f m ph (a + cs.length) g) (encC cs) := by
  have := eat_seg (rs := rs) (P := P) (f := f) (m := m) (ph := ph) (g := g) (fun _ => [101]) hP cs a h0 h1 fun j hj r hr => h2 r (List.mem_flatMap.mpr ⟨j, List.mem_range.mpr hj, hr⟩)
  rw [encC_range] at this
  exact this
theorem set_range (cs : List Int) (c : Nat) (hc : c < cs.length) (hn : 0 ≤ cs.getD c 0) : ((List.range cs.length).flatMap fun (j : Nat) => strk (cs.getD j 0) ++ (if (0 : Int) + (j : Int) = (c : Int) then [105, 101] else [101])) = encC (cs.set c (cs.getD c 0 + 1)) := by
  have : (fun (j : Nat) => strk (cs.getD j 0) ++ (if (0 : Int) + (j : Int) = (c : Int) then [105, 101] else [101])) = fun (j : Nat) => strk ((cs.set c (cs.getD c 0 + 1)).getD j 0) ++ [101] := by
    funext j
    by_cases h : j = c
    · subst h
      rw [if_pos (by omega)]
      have : (cs.set j (cs.getD j 0 + 1)).getD j 0 = cs.getD j 0 + 1 := by
        rw [List.getD_eq_getElem?_getD, List.getElem?_set_self hc]; rfl
      rw [this]
      unfold strk
      rw [show (cs.getD j 0 + 1).toNat = (cs.getD j 0).toNat + 1 from by omega, List.replicate_succ']
      simp
    · rw [if_neg (by omega)]
      have : (cs.set c (cs.getD c 0 + 1)).getD j 0 = cs.getD j 0 := by
        rw [List.getD_eq_getElem?_getD, List.getElem?_set_ne (by omega), List.getD_eq_getElem?_getD]
      rw [this]
  rw [this]
  have e := encC_range (cs.set c (cs.getD c 0 + 1))
  rw [List.length_set] at e
  exact e
/-- a step of counters: place, counts -/
def nextC (ws : List Row) (p : Int) (cs : List Int) : Option (Int × List Int) := match ws[p.toNat]? with
  | none => none
  | some (.up c t) => some (t, cs.set c.toNat (cs.getD c.toNat 0 + 1))
  | some (.dn c t o) => if cs.getD c.toNat 0 = 0 then some (o, cs) else some (t, cs.set c.toNat (cs.getD c.toNat 0 - 1))
theorem split_at' (cs : List Int) (c : Nat) (h : c < cs.length) : cs = cs.take c ++ cs.getD c 0 :: cs.drop (c + 1) := by
  have : cs.getD c 0 = cs[c] := by rw [List.getD_eq_getElem?_getD, List.getElem?_eq_getElem h]; rfl
  rw [this, ← List.drop_eq_getElem_cons h, List.take_append_drop]
theorem set_split (cs : List Int) (c : Nat) (v : Int) (h : c < cs.length) : cs.set c v = cs.take c ++ v :: cs.drop (c + 1) := by
  rw [List.set_eq_take_append_cons_drop, if_pos h]
/-- a lap: from the image of a stand to that of the next one -/
theorem lap_eats {ws : List Row} {m : Int} {p : Nat} {cs : List Int} {q : Int} {ds : List Int} (hm : 0 < m) (hf : ∀ w ∈ ws, w.fit m ws.length) (hc : (cs.length : Int) = m) (hn : ∀ x ∈ cs, 0 ≤ x) (h : nextC ws p cs = some (q, ds)) :
    Eat (mkL m ws ws.length) ws.length (fst ws.length m p) (encC cs) q (encC ds) := by
  unfold nextC at h
  rw [Int.toNat_natCast] at h
  have f1 := fst_gt (P := (ws.length : Int)) (p := p) hm
  have nnD : ∀ i : Nat, 0 ≤ cs.getD i 0 := fun i => by
    rw [List.getD_eq_getElem?_getD]
    cases e : cs[i]? with
    | none => exact Int.le_refl _
    | some v => exact hn v (List.mem_of_getElem? e)
  cases e : ws[p]? with
  | none => rw [e] at h; cases h
  | some w =>
    rw [e] at h
    obtain ⟨_, hin⟩ := mk_in (m := m) e
    have hw := hf w (List.mem_of_getElem? e)
    cases w with
    | up c t =>
      cases h
      obtain ⟨k1, k2, _⟩ := hw
      have := eat_seg (rs := mkL m ws ws.length) (P := ws.length) (f := fst ws.length m p) (m := m) (ph := 0) (g := q) (fun j => if j = c then [105, 101] else [101]) (by omega) cs 0 (Int.le_refl _) (by omega) fun j hj r hr => hin r (List.mem_flatMap.mpr ⟨j, List.mem_range.mpr (by omega), by
        rw [Int.zero_add] at hr; exact hr⟩)
      obtain ⟨n, rfl⟩ : ∃ n : Nat, c = (n : Int) := ⟨c.toNat, by omega⟩
      rw [Int.toNat_natCast]
      rw [set_range cs n (by omega) (nnD n), show (0 : Int) + (cs.length : Int) = m from by omega, lap_end, lap_lt (by omega)] at this
      rw [show fst ws.length m p + 0 * m + 0 = fst ws.length m p from by omega] at this
      exact this
    | dn c t o =>
      obtain ⟨k1, k2, _⟩ := hw
      have hin : ∀ r ∈ downL (fst ws.length m p) m c t o, r ∈ mkL m ws ws.length := hin
      obtain ⟨n, rfl⟩ : ∃ n : Nat, c = (n : Int) := ⟨c.toNat, by omega⟩
      dsimp only at h
      rw [Int.toNat_natCast] at h
      have hnl : n < cs.length := by omega
      have hcs := split_at' cs n hnl
      have lt1 : (cs.take n).length = n := by rw [List.length_take]; omega
      have lt2 : (cs.drop (n + 1)).length = cs.length - (n + 1) := List.length_drop
      have F0 : lapI (fst ws.length m p) m 0 0 0 = fst ws.length m p := by rw [lap_lt (by omega)]; omega
      have Fc : lapI (fst ws.length m p) m 0 n 0 = fst ws.length m p + n := by rw [lap_lt (by omega)]; omega
      have s1 := eat_copy (rs := mkL m ws ws.length) (P := ws.length) (f := fst ws.length m p) (m := m) (ph := 0) (g := 0) (by omega) (cs.take n) 0 (Int.le_refl _) (by omega) fun r hr => hin r (by
        unfold downL
        rw [lt1] at hr
        rw [Int.toNat_natCast]
        exact List.mem_append_left _ (List.mem_append_left _ (List.mem_append_left _ hr)))
      rw [lt1, Int.zero_add, F0] at s1
      have mi : ∀ r ∈ midL (fst ws.length m p) m n o, r ∈ mkL m ws ws.length := fun r hr => hin r (by
        unfold downL
        exact List.mem_append_left _ (List.mem_append_left _ (List.mem_append_right _ hr)))
      by_cases hz : cs.getD n 0 = 0
      · rw [if_pos hz] at h
        cases h
        have s2 := Eat.cons (rs := mkL m ws ws.length) (P := ws.length) (r := ⟨lapI (fst ws.length m p) m 0 n 0, 101, [101], lapI (fst ws.length m p) m 2 (n + 1) q⟩) (mi _ (List.mem_cons_of_mem _ List.mem_cons_self)) (by show _ < lapI _ _ _ _ _; omega) .nil
        have s3 := eat_copy (rs := mkL m ws ws.length) (P := ws.length) (f := fst ws.length m p) (m := m) (ph := 2) (g := q) (by omega) (cs.drop (n + 1)) ((n : Int) + 1) (by omega) (by omega) fun r hr => hin r (by
          unfold downL
          rw [lt2, show cs.length - (n + 1) = (m - ((n : Int) + 1)).toNat from by omega] at hr
          exact List.mem_append_right _ hr)
        rw [lt2, show (n : Int) + 1 + ((cs.length - (n + 1) : Nat) : Int) = m from by omega, lap_end] at s3
        have := s1.app (s2.app s3)
        have e9 : encC cs = encC (cs.take n) ++ (strk 0 ++ [101] ++ encC (cs.drop (n + 1))) := by
          rw [← hz, ← encC_cons, ← encC_app, ← hcs]
        rw [e9]
        exact this
      · rw [if_neg hz] at h
        cases h
        have hpos := nnD n
        have s2 := Eat.cons (rs := mkL m ws ws.length) (P := ws.length) (r := ⟨lapI (fst ws.length m p) m 0 n 0, 105, [], lapI (fst ws.length m p) m 1 n 0⟩) (mi _ List.mem_cons_self) (by show _ < lapI _ _ _ _ _; omega) .nil
        have e1 : lapI (fst ws.length m p) m 1 n 0 = lapI (fst ws.length m p) m 1 n q := by rw [lap_lt (by omega), lap_lt (by omega)]
        rw [e1] at s2
        have s3 := eat_copy (rs := mkL m ws ws.length) (P := ws.length) (f := fst ws.length m p) (m := m) (ph := 1) (g := q) (by omega) ((cs.getD n 0 - 1) :: cs.drop (n + 1)) (n : Int) (by omega) (by rw [List.length_cons]; omega) fun r hr => hin r (by
          unfold downL
          rw [List.length_cons, lt2, show cs.length - (n + 1) + 1 = (m - (n : Int)).toNat from by omega] at hr
          exact List.mem_append_left _ (List.mem_append_right _ hr))
        rw [List.length_cons, lt2, show (n : Int) + ((cs.length - (n + 1) + 1 : Nat) : Int) = m from by omega, lap_end] at s3
        have := s1.app (s2.app s3)
        rw [set_split cs n _ hnl]
        have e9 : encC cs = encC (cs.take n) ++ (strk (cs.getD n 0) ++ [101] ++ encC (cs.drop (n + 1))) := by
          rw [← encC_cons, ← encC_app, ← hcs]
        have e2 : strk (cs.getD n 0) = 105 :: strk (cs.getD n 0 - 1) := by
          unfold strk
          rw [show (cs.getD n 0).toNat = (cs.getD n 0 - 1).toNat + 1 from by omega, List.replicate_succ]
        rw [e9, encC_app, encC_cons, e2]
        exact this
/-! ### pairs of states and signs as a set's things -/
def prD (r : RR) : D := .tuple [.int r.st, sx [r.sg]]
theorem ix_rr0 (r : RR) : ixD r.enc (.int 0) = some (.int r.st) := rfl
theorem ix_rr1 (r : RR) : ixD r.enc (.int 1) = some (sx [r.sg]) := rfl
theorem ix_rr2 (r : RR) : ixD r.enc (.int 2) = some (sx r.wd) := rfl
theorem ix_rr3 (r : RR) : ixD r.enc (.int 3) = some (.int r.gl) := rfl
local macro_rules | `(tactic| walk_at "z") => `(tactic| simp -implicitDefEqProofs (disch := first | omega | (simp only [List.length_cons, List.length_nil, List.length_append, List.length_map, List.length_set, List.length_reverse, List.length_take, List.length_drop, List.length_range]; done) | (simp only [List.length_cons, List.length_nil, List.length_append, List.length_map, List.length_set, List.length_reverse, List.length_take, List.length_drop, List.length_range]; omega) | fail) only [List.length_map, chK_lelt, v_cell, v_mixed, down_up, up_down, v_program, lit_b, lit_e, lit_i, lit_ie, lit_0, v_lap, v_cop, v_make, ix_rr0, ix_rr1, ix_rr2, ix_rr3, gF_ap, env0, List.map_cons, List.map_nil, List.length_cons, List.length_nil, List.cons_append, List.nil_append, List.replicate_succ, List.replicate_zero, Nat.reduceAdd, Nat.reduceSub, if_true, if_false, eq_self, List.getD_cons_zero, Int.toNat_natCast, Nat.reduceEqDiff, reduceIte, reduceCtorEq, decide_true, decide_false, Bool.not_true, Bool.not_false, Bool.and_true, Bool.true_and, Bool.and_false, Bool.false_and, Bool.or_true, Bool.true_or, Bool.or_false, Bool.false_or,
  sSeq_ap, sqK_nx, sqK_rt, sqK_rl, sqK_bk, sqK_ct, sqK_no, sIf_ap, ifK_t, ifK_f, ifK_d, ifK_nd, sNil_ap, sBk_ap, sCt_ap, sRetN_ap, sBad_ap, eVar_ap, bVar_ap, mVar_ap, rdV_ro, rdV_lr, rdB_ro, rdB_lr, rdB_ow, rdM_lr, rdM_ow, nVar_ap, rdN_ro, rdN_lr, rdN_ow, eC_ap, e1_ap, e2_ap, e3_ap, b1_s, b2_s, b3_s, aNil_ap, aCons_ap, cnK_s, eCall_ap, caK_s, eTup_ap, tupK_s, lLst_ap, lstK_s, liL_ap, liK_s, lCat_ap, catK_s, oNone_ap, oSome_ap, oSK_i, asB_ap, boK_b, eAnd_ap, eOr_ap, andK_t, andK_f, orK_t, orK_f, andK_d, orK_d, bAnd_ap, bOr_ap, bAndK_t, bAndK_f, bOrK_t, bOrK_f, bAndK_d, bOrK_d, bAndK_nd, bOrK_nd, bNot_ap, toD_s, toL_l, rv_v, rv_l, sSet_ap, stK_s, sSetL_ap, slK_s, sSetR_ap, srK_s, sAsg_ap, asK_s, hName_ap, hTup_ap, hCons_ap, hNil_ap, sDrop_ap, drK_s, sRet_ap, rtK_s, sRetL_ap, rlK_s, sRetO_ap, roK_s, sFz_ap, fzK_s, fzK_ro, fzK_lr, sApp_ap, apK_s, sPut_ap, puK_s, sFor_ap, foK_s, forGo_n, forGo_c, tgK_s, at_nx, at_ct, at_bk, at_rt, at_rl, lComp_ap, coK_s, wipeE_n, wipeE_c, cYes_ap, wiK_t, wiK_f, sqK_ite, rvK_ite, at_ite, boK_ite, rtK_ite, ifK_ite, decide_eq_true_eq, Int.reduceToNat, Int.reduceLT, Int.reduceLE, Int.reduceEq, Int.reduceNeg, Int.reducePow, Int.reduceSub, Int.reduceAdd, Int.reduceMul, iSeqD_ap, iRg1D_ap, iRg2D_ap, iRevD_ap, iEnumD_ap, iZipD_ap, zipL_ap, seqK_l, seqK_t, seqK_s, rg1K_i, rg2K_i, revK_l, enuK_l, enuK_x, zipK_l, nat0, nat1, nat2, nat3, nat4, nat5, rvK_rt, rvK_rl, rvK_nx, compGo_n, compGo_c, cdK_y, cdK_s, all_t, eChain_ap, chK_ll, hUnl_ap, revL_ap, kyE_ap, kyeK_i, kyeK_s, kyeK_x, kyT_ap, kytK_ix, eDGet_ap, eDIn_ap, eDGet1_ap, eDGet2_ap, sDNew_ap, sDPutD_ap, dpK_T, dpK_K, sFzK_ap, fzkK_s, fzkK_ro, rdB_oK, pNil_ap, pCons_ap, pcK_s, pcK_x, eDisp_ap, dispK_1, fzL_ap, fzLK_s, fzT_ap, fzTK_s, fzE_ap, fzEK_s, xIO_ap, xiK_s, sRetP_ap, rpK_s, gIO_ap, ioR_rp, ioR_nx, ioK_s, sqK_rp, ioR_ite, envIO, sClear_ap, clK_s, sExt_ap, exK_s, sSetX_ap, xsK_s, xPop_ap, poK_s, poK_1, xPopAt_ap, patK_0, xaNil_ap, xaCons_ap, xacK_s, xTup_ap, xtK_s, xE_ap, xeK_s, xCall_ap, xclK_s, sAsgX_ap, xagK_s, sDropX_ap, xdK_s, sRetX_ap, xrK_s, sAppX_ap, axK_s, ax2K_s, ne_bb, ifK_v, ifK_nv, bOrK_v, bOrK_nv, bAndK_v, bAndK_nv, andK_v, orK_v, andK_nv, orK_nv,
  List.getElem?_cons_succ, List.getElem?_cons_zero, List.set_cons_succ, List.set_cons_zero, Option.bind_some, Option.map_some, Option.bind_none, Option.map_none,
  add_x, len_x, ix_x, eq_x, ne_x, isx_int, isx_bool, isx_str, isx_tuple, isx_list, isNx, notNx, sl_x, seq_x, cut_m1, cut_l1, sl_t, sl_l, sl_s, slL_l, cut_lo, cut_hi, cut_lh, cut_nn, add_ii, add_ss, add_tt, sub_ii, mul_l, mul_r, div_ii, mod_ii, pow_ii, lt_ii, le_ii, gt_ii, ge_ii, eq_ii, eq_bb, eq_ss, ne_ii, ne_ss, len_l, len_t, len_s, int_i, int_b, min_ii, max_ii, tup_l, tup_t, list_l, list_t, neg_i, not_b, ix_l, ix_t, atI_0, atI_1, atI_2, atI_3, atI_4,
  isN_n, isN_i, isN_s, isN_b, isN_t, isN_l, notN_n, notN_i, notN_s, notN_b, notN_t, notN_l, isB, notB, isi_i_int, isi_b_int, isi_s_int, isi_t_int, isi_l_int, isi_n_int, isi_i_bool, isi_b_bool, isi_s_bool, isi_t_bool, isi_l_bool, isi_n_bool, isi_i_str, isi_b_str, isi_s_str, isi_t_str, isi_l_str, isi_n_str, isi_i_tuple, isi_b_tuple, isi_s_tuple, isi_t_tuple, isi_l_tuple, isi_n_tuple, isi_i_list, isi_b_list, isi_s_list, isi_t_list, isi_l_list, isi_n_list])
local macro_rules | `(tactic| walk_at "y") => `(tactic| simp -implicitDefEqProofs (disch := first | omega | (simp only [List.length_cons, List.length_nil, List.length_append, List.length_map, List.length_set, List.length_reverse, List.length_take, List.length_drop, List.length_range]; done) | (simp only [List.length_cons, List.length_nil, List.length_append, List.length_map, List.length_set, List.length_reverse, List.length_take, List.length_drop, List.length_range]; omega) | fail) only [*, List.length_map, chK_lelt, v_cell, v_mixed, down_up, up_down, v_program, lit_b, lit_e, lit_i, lit_ie, lit_0, v_lap, v_cop, v_make, ix_rr0, ix_rr1, ix_rr2, ix_rr3, gF_ap, env0, List.map_cons, List.map_nil, List.length_cons, List.length_nil, List.cons_append, List.nil_append, List.replicate_succ, List.replicate_zero, Nat.reduceAdd, Nat.reduceSub, if_true, if_false, eq_self, List.getD_cons_zero, Int.toNat_natCast, Nat.reduceEqDiff, reduceIte, reduceCtorEq, decide_true, decide_false, Bool.not_true, Bool.not_false, Bool.and_true, Bool.true_and, Bool.and_false, Bool.false_and, Bool.or_true, Bool.true_or, Bool.or_false, Bool.false_or,
  sSeq_ap, sqK_nx, sqK_rt, sqK_rl, sqK_bk, sqK_ct, sqK_no, sIf_ap, ifK_t, ifK_f, ifK_d, ifK_nd, sNil_ap, sBk_ap, sCt_ap, sRetN_ap, sBad_ap, eVar_ap, bVar_ap, mVar_ap, rdV_ro, rdV_lr, rdB_ro, rdB_lr, rdB_ow, rdM_lr, rdM_ow, nVar_ap, rdN_ro, rdN_lr, rdN_ow, eC_ap, e1_ap, e2_ap, e3_ap, b1_s, b2_s, b3_s, aNil_ap, aCons_ap, cnK_s, eCall_ap, caK_s, eTup_ap, tupK_s, lLst_ap, lstK_s, liL_ap, liK_s, lCat_ap, catK_s, oNone_ap, oSome_ap, oSK_i, asB_ap, boK_b, eAnd_ap, eOr_ap, andK_t, andK_f, orK_t, orK_f, andK_d, orK_d, bAnd_ap, bOr_ap, bAndK_t, bAndK_f, bOrK_t, bOrK_f, bAndK_d, bOrK_d, bAndK_nd, bOrK_nd, bNot_ap, toD_s, toL_l, rv_v, rv_l, sSet_ap, stK_s, sSetL_ap, slK_s, sSetR_ap, srK_s, sAsg_ap, asK_s, hName_ap, hTup_ap, hCons_ap, hNil_ap, sDrop_ap, drK_s, sRet_ap, rtK_s, sRetL_ap, rlK_s, sRetO_ap, roK_s, sFz_ap, fzK_s, fzK_ro, fzK_lr, sApp_ap, apK_s, sPut_ap, puK_s, sFor_ap, foK_s, forGo_n, forGo_c, tgK_s, at_nx, at_ct, at_bk, at_rt, at_rl, lComp_ap, coK_s, wipeE_n, wipeE_c, cYes_ap, wiK_t, wiK_f, sqK_ite, rvK_ite, at_ite, boK_ite, rtK_ite, ifK_ite, decide_eq_true_eq, Int.reduceToNat, Int.reduceLT, Int.reduceLE, Int.reduceEq, Int.reduceNeg, Int.reducePow, Int.reduceSub, Int.reduceAdd, Int.reduceMul, iSeqD_ap, iRg1D_ap, iRg2D_ap, iRevD_ap, iEnumD_ap, iZipD_ap, zipL_ap, seqK_l, seqK_t, seqK_s, rg1K_i, rg2K_i, revK_l, enuK_l, enuK_x, zipK_l, nat0, nat1, nat2, nat3, nat4, nat5, rvK_rt, rvK_rl, rvK_nx, compGo_n, compGo_c, cdK_y, cdK_s, all_t, eChain_ap, chK_ll, hUnl_ap, revL_ap, kyE_ap, kyeK_i, kyeK_s, kyeK_x, kyT_ap, kytK_ix, eDGet_ap, eDIn_ap, eDGet1_ap, eDGet2_ap, sDNew_ap, sDPutD_ap, dpK_T, dpK_K, sFzK_ap, fzkK_s, fzkK_ro, rdB_oK, pNil_ap, pCons_ap, pcK_s, pcK_x, eDisp_ap, dispK_1, fzL_ap, fzLK_s, fzT_ap, fzTK_s, fzE_ap, fzEK_s, xIO_ap, xiK_s, sRetP_ap, rpK_s, gIO_ap, ioR_rp, ioR_nx, ioK_s, sqK_rp, ioR_ite, envIO, sClear_ap, clK_s, sExt_ap, exK_s, sSetX_ap, xsK_s, xPop_ap, poK_s, poK_1, xPopAt_ap, patK_0, xaNil_ap, xaCons_ap, xacK_s, xTup_ap, xtK_s, xE_ap, xeK_s, xCall_ap, xclK_s, sAsgX_ap, xagK_s, sDropX_ap, xdK_s, sRetX_ap, xrK_s, sAppX_ap, axK_s, ax2K_s, ne_bb, ifK_v, ifK_nv, bOrK_v, bOrK_nv, bAndK_v, bAndK_nv, andK_v, orK_v, andK_nv, orK_nv,
  List.getElem?_cons_succ, List.getElem?_cons_zero, List.set_cons_succ, List.set_cons_zero, Option.bind_some, Option.map_some, Option.bind_none, Option.map_none,
  add_x, len_x, ix_x, eq_x, ne_x, isx_int, isx_bool, isx_str, isx_tuple, isx_list, isNx, notNx, sl_x, seq_x, cut_m1, cut_l1, sl_t, sl_l, sl_s, slL_l, cut_lo, cut_hi, cut_lh, cut_nn, add_ii, add_ss, add_tt, sub_ii, mul_l, mul_r, div_ii, mod_ii, pow_ii, lt_ii, le_ii, gt_ii, ge_ii, eq_ii, eq_bb, eq_ss, ne_ii, ne_ss, len_l, len_t, len_s, int_i, int_b, min_ii, max_ii, tup_l, tup_t, list_l, list_t, neg_i, not_b, ix_l, ix_t, atI_0, atI_1, atI_2, atI_3, atI_4,
  isN_n, isN_i, isN_s, isN_b, isN_t, isN_l, notN_n, notN_i, notN_s, notN_b, notN_t, notN_l, isB, notB, isi_i_int, isi_b_int, isi_s_int, isi_t_int, isi_l_int, isi_n_int, isi_i_bool, isi_b_bool, isi_s_bool, isi_t_bool, isi_l_bool, isi_n_bool, isi_i_str, isi_b_str, isi_s_str, isi_t_str, isi_l_str, isi_n_str, isi_i_tuple, isi_b_tuple, isi_s_tuple, isi_t_tuple, isi_l_tuple, isi_n_tuple, isi_i_list, isi_b_list, isi_s_list, isi_t_list, isi_l_list, isi_n_list])
def ky2 (s : Int) (c : Nat) : List Key := [.inl s, .inr ⟨[c].toArray⟩]
theorem ky2_inj {s t : Int} {c d : Nat} (h : ky2 s c = ky2 t d) : s = t ∧ c = d := by
  unfold ky2 at h
  injection h with h1 h2
  injection h2 with h2 _
  refine ⟨Sum.inl.inj h1, ?_⟩
  have h3 := Sum.inr.inj h2
  exact List.head_eq_of_cons_eq (sx_inj.mp h3)
theorem prKs_of (f : α → Int) (g : α → Nat) : ∀ rs : List α, prKs (rs.map fun r => .tuple [.int (f r), sx [g r]]) = some (rs.map fun r => ky2 (f r) (g r))
  | [] => rfl
  | r :: rs => by
    show (prK _).bind _ = _
    rw [prKs_of f g rs]; rfl
theorem set_len (f : α → Int) (g : α → Nat) (rs : List α) (hl : rs.length ≤ 2000) (h : rs.Pairwise fun a b => f a = f b → g a ≠ g b) : setLenD [.list (rs.map fun r => .tuple [.int (f r), sx [g r]])] = some (.int (rs.length : Int)) := by
  show (prKs _).bind _ = _
  rw [prKs_of f g rs, Option.bind_some, if_pos, List.length_map]
  refine ⟨?_, by rw [List.length_map]; exact hl⟩
  unfold List.Nodup
  rw [List.pairwise_map]
  exact h.imp fun hab e => by
    obtain ⟨a, b⟩ := ky2_inj e
    exact hab a b
theorem shaped_of {d : D} (h : okd 64 d) : SeqAt.shaped d = true := by
  show (d.canLay0 && decide (d.depth ≤ 64)) = true
  rw [h.1, decide_eq_true h.2]; rfl
theorem prD_okd {st : Int} {c : Nat} (h : c < 1114112) : okd 63 (.tuple [.int st, sx [c]]) := okd_tup (n := 62) (okd_c okd_int (okd_c (okd_x (Sgs.sg h)) okd_n))
theorem in_pairs (st : Int) (c : Nat) (rs : List RR) (hc : c < 1114112) (hr : ∀ r ∈ rs, r.sg < 1114112) : inLD false (.tuple [.int st, sx [c]]) (.list (rs.map prD)) = some (.bool (rs.any fun r => decide (r.st = st ∧ r.sg = c))) := by
  unfold inLD
  dsimp only
  rw [if_pos ⟨shaped_of ((prD_okd hc).mono (by decide)), shaped_of (okd_list (n := 63) fun d hd => by
    obtain ⟨r, hr', rfl⟩ := List.mem_map.mp hd
    exact prD_okd (hr r hr'))⟩, Bool.bne_false, List.any_map]
  congr 3
  funext r
  show PyData.eqv (prD r) (.tuple [.int st, sx [c]]) = _
  unfold prD sx
  simp only [PyData.eqv, PyData.eqvAll, Bool.and_true]
  rw [Bool.eq_iff_iff, Bool.and_eq_true, decide_eq_true_eq]
  simp only [beq_iff_eq, decide_eq_true_eq]
  rw [sx_inj]
  constructor
  · rintro ⟨a, b⟩; exact ⟨a, List.head_eq_of_cons_eq b⟩
  · rintro ⟨a, b⟩; exact ⟨a, by rw [b]⟩
theorem lit_bei : PyData.str (Str.ofString "bei") = sx [98, 101, 105] := by
  unfold sx
  rw [show Str.ofString "bei" = ⟨[98, 101, 105].toArray⟩ from by decide +kernel]
theorem notin_x {c : Nat} {xs : List Nat} : inD true (sx [c]) (sx xs) = some (.bool (!decide (c ∈ xs))) := by
  unfold sx inD
  dsimp only
  rw [if_pos (by rfl), Bool.bne_true]
  rfl
theorem isi_strx (xs : List Nat) : isiD "str" (sx xs) = some (.bool true) := isi_s_str
local macro_rules | `(tactic| walk_at "z") => `(tactic| simp -implicitDefEqProofs (disch := first | omega | (simp only [List.length_cons, List.length_nil, List.length_append, List.length_map, List.length_set, List.length_reverse, List.length_take, List.length_drop, List.length_range]; done) | (simp only [List.length_cons, List.length_nil, List.length_append, List.length_map, List.length_set, List.length_reverse, List.length_take, List.length_drop, List.length_range]; omega) | fail) only [List.length_map, chK_lelt, v_cell, v_mixed, down_up, up_down, v_program, lit_b, lit_e, lit_i, lit_ie, lit_0, v_lap, v_cop, v_make, ix_rr0, ix_rr1, ix_rr2, ix_rr3, lit_bei, isi_strx, gF_ap, env0, List.map_cons, List.map_nil, List.length_cons, List.length_nil, List.cons_append, List.nil_append, List.replicate_succ, List.replicate_zero, Nat.reduceAdd, Nat.reduceSub, if_true, if_false, eq_self, List.getD_cons_zero, Int.toNat_natCast, Nat.reduceEqDiff, reduceIte, reduceCtorEq, decide_true, decide_false, Bool.not_true, Bool.not_false, Bool.and_true, Bool.true_and, Bool.and_false, Bool.false_and, Bool.or_true, Bool.true_or, Bool.or_false, Bool.false_or,
  sSeq_ap, sqK_nx, sqK_rt, sqK_rl, sqK_bk, sqK_ct, sqK_no, sIf_ap, ifK_t, ifK_f, ifK_d, ifK_nd, sNil_ap, sBk_ap, sCt_ap, sRetN_ap, sBad_ap, eVar_ap, bVar_ap, mVar_ap, rdV_ro, rdV_lr, rdB_ro, rdB_lr, rdB_ow, rdM_lr, rdM_ow, nVar_ap, rdN_ro, rdN_lr, rdN_ow, eC_ap, e1_ap, e2_ap, e3_ap, b1_s, b2_s, b3_s, aNil_ap, aCons_ap, cnK_s, eCall_ap, caK_s, eTup_ap, tupK_s, lLst_ap, lstK_s, liL_ap, liK_s, lCat_ap, catK_s, oNone_ap, oSome_ap, oSK_i, asB_ap, boK_b, eAnd_ap, eOr_ap, andK_t, andK_f, orK_t, orK_f, andK_d, orK_d, bAnd_ap, bOr_ap, bAndK_t, bAndK_f, bOrK_t, bOrK_f, bAndK_d, bOrK_d, bAndK_nd, bOrK_nd, bNot_ap, toD_s, toL_l, rv_v, rv_l, sSet_ap, stK_s, sSetL_ap, slK_s, sSetR_ap, srK_s, sAsg_ap, asK_s, hName_ap, hTup_ap, hCons_ap, hNil_ap, sDrop_ap, drK_s, sRet_ap, rtK_s, sRetL_ap, rlK_s, sRetO_ap, roK_s, sFz_ap, fzK_s, fzK_ro, fzK_lr, sApp_ap, apK_s, sPut_ap, puK_s, sFor_ap, foK_s, forGo_n, forGo_c, tgK_s, at_nx, at_ct, at_bk, at_rt, at_rl, lComp_ap, coK_s, wipeE_n, wipeE_c, cYes_ap, wiK_t, wiK_f, sqK_ite, rvK_ite, at_ite, boK_ite, rtK_ite, ifK_ite, decide_eq_true_eq, Int.reduceToNat, Int.reduceLT, Int.reduceLE, Int.reduceEq, Int.reduceNeg, Int.reducePow, Int.reduceSub, Int.reduceAdd, Int.reduceMul, iSeqD_ap, iRg1D_ap, iRg2D_ap, iRevD_ap, iEnumD_ap, iZipD_ap, zipL_ap, seqK_l, seqK_t, seqK_s, rg1K_i, rg2K_i, revK_l, enuK_l, enuK_x, zipK_l, nat0, nat1, nat2, nat3, nat4, nat5, rvK_rt, rvK_rl, rvK_nx, compGo_n, compGo_c, cdK_y, cdK_s, all_t, eChain_ap, chK_ll, hUnl_ap, revL_ap, kyE_ap, kyeK_i, kyeK_s, kyeK_x, kyT_ap, kytK_ix, eDGet_ap, eDIn_ap, eDGet1_ap, eDGet2_ap, sDNew_ap, sDPutD_ap, dpK_T, dpK_K, sFzK_ap, fzkK_s, fzkK_ro, rdB_oK, pNil_ap, pCons_ap, pcK_s, pcK_x, eDisp_ap, dispK_1, fzL_ap, fzLK_s, fzT_ap, fzTK_s, fzE_ap, fzEK_s, xIO_ap, xiK_s, sRetP_ap, rpK_s, gIO_ap, ioR_rp, ioR_nx, ioK_s, sqK_rp, ioR_ite, envIO, sClear_ap, clK_s, sExt_ap, exK_s, sSetX_ap, xsK_s, xPop_ap, poK_s, poK_1, xPopAt_ap, patK_0, xaNil_ap, xaCons_ap, xacK_s, xTup_ap, xtK_s, xE_ap, xeK_s, xCall_ap, xclK_s, sAsgX_ap, xagK_s, sDropX_ap, xdK_s, sRetX_ap, xrK_s, sAppX_ap, axK_s, ax2K_s, ne_bb, ifK_v, ifK_nv, bOrK_v, bOrK_nv, bAndK_v, bAndK_nv, andK_v, orK_v, andK_nv, orK_nv,
  List.getElem?_cons_succ, List.getElem?_cons_zero, List.set_cons_succ, List.set_cons_zero, Option.bind_some, Option.map_some, Option.bind_none, Option.map_none,
  add_x, len_x, ix_x, eq_x, ne_x, isx_int, isx_bool, isx_str, isx_tuple, isx_list, isNx, notNx, sl_x, seq_x, cut_m1, cut_l1, sl_t, sl_l, sl_s, slL_l, cut_lo, cut_hi, cut_lh, cut_nn, add_ii, add_ss, add_tt, sub_ii, mul_l, mul_r, div_ii, mod_ii, pow_ii, lt_ii, le_ii, gt_ii, ge_ii, eq_ii, eq_bb, eq_ss, ne_ii, ne_ss, len_l, len_t, len_s, int_i, int_b, min_ii, max_ii, tup_l, tup_t, list_l, list_t, neg_i, not_b, ix_l, ix_t, atI_0, atI_1, atI_2, atI_3, atI_4,
  isN_n, isN_i, isN_s, isN_b, isN_t, isN_l, notN_n, notN_i, notN_s, notN_b, notN_t, notN_l, isB, notB, isi_i_int, isi_b_int, isi_s_int, isi_t_int, isi_l_int, isi_n_int, isi_i_bool, isi_b_bool, isi_s_bool, isi_t_bool, isi_l_bool, isi_n_bool, isi_i_str, isi_b_str, isi_s_str, isi_t_str, isi_l_str, isi_n_str, isi_i_tuple, isi_b_tuple, isi_s_tuple, isi_t_tuple, isi_l_tuple, isi_n_tuple, isi_i_list, isi_b_list, isi_s_list, isi_t_list, isi_l_list, isi_n_list])
local macro_rules | `(tactic| walk_at "y") => `(tactic| simp -implicitDefEqProofs (disch := first | omega | (simp only [List.length_cons, List.length_nil, List.length_append, List.length_map, List.length_set, List.length_reverse, List.length_take, List.length_drop, List.length_range]; done) | (simp only [List.length_cons, List.length_nil, List.length_append, List.length_map, List.length_set, List.length_reverse, List.length_take, List.length_drop, List.length_range]; omega) | fail) only [*, List.length_map, chK_lelt, v_cell, v_mixed, down_up, up_down, v_program, lit_b, lit_e, lit_i, lit_ie, lit_0, v_lap, v_cop, v_make, ix_rr0, ix_rr1, ix_rr2, ix_rr3, lit_bei, isi_strx, gF_ap, env0, List.map_cons, List.map_nil, List.length_cons, List.length_nil, List.cons_append, List.nil_append, List.replicate_succ, List.replicate_zero, Nat.reduceAdd, Nat.reduceSub, if_true, if_false, eq_self, List.getD_cons_zero, Int.toNat_natCast, Nat.reduceEqDiff, reduceIte, reduceCtorEq, decide_true, decide_false, Bool.not_true, Bool.not_false, Bool.and_true, Bool.true_and, Bool.and_false, Bool.false_and, Bool.or_true, Bool.true_or, Bool.or_false, Bool.false_or,
  sSeq_ap, sqK_nx, sqK_rt, sqK_rl, sqK_bk, sqK_ct, sqK_no, sIf_ap, ifK_t, ifK_f, ifK_d, ifK_nd, sNil_ap, sBk_ap, sCt_ap, sRetN_ap, sBad_ap, eVar_ap, bVar_ap, mVar_ap, rdV_ro, rdV_lr, rdB_ro, rdB_lr, rdB_ow, rdM_lr, rdM_ow, nVar_ap, rdN_ro, rdN_lr, rdN_ow, eC_ap, e1_ap, e2_ap, e3_ap, b1_s, b2_s, b3_s, aNil_ap, aCons_ap, cnK_s, eCall_ap, caK_s, eTup_ap, tupK_s, lLst_ap, lstK_s, liL_ap, liK_s, lCat_ap, catK_s, oNone_ap, oSome_ap, oSK_i, asB_ap, boK_b, eAnd_ap, eOr_ap, andK_t, andK_f, orK_t, orK_f, andK_d, orK_d, bAnd_ap, bOr_ap, bAndK_t, bAndK_f, bOrK_t, bOrK_f, bAndK_d, bOrK_d, bAndK_nd, bOrK_nd, bNot_ap, toD_s, toL_l, rv_v, rv_l, sSet_ap, stK_s, sSetL_ap, slK_s, sSetR_ap, srK_s, sAsg_ap, asK_s, hName_ap, hTup_ap, hCons_ap, hNil_ap, sDrop_ap, drK_s, sRet_ap, rtK_s, sRetL_ap, rlK_s, sRetO_ap, roK_s, sFz_ap, fzK_s, fzK_ro, fzK_lr, sApp_ap, apK_s, sPut_ap, puK_s, sFor_ap, foK_s, forGo_n, forGo_c, tgK_s, at_nx, at_ct, at_bk, at_rt, at_rl, lComp_ap, coK_s, wipeE_n, wipeE_c, cYes_ap, wiK_t, wiK_f, sqK_ite, rvK_ite, at_ite, boK_ite, rtK_ite, ifK_ite, decide_eq_true_eq, Int.reduceToNat, Int.reduceLT, Int.reduceLE, Int.reduceEq, Int.reduceNeg, Int.reducePow, Int.reduceSub, Int.reduceAdd, Int.reduceMul, iSeqD_ap, iRg1D_ap, iRg2D_ap, iRevD_ap, iEnumD_ap, iZipD_ap, zipL_ap, seqK_l, seqK_t, seqK_s, rg1K_i, rg2K_i, revK_l, enuK_l, enuK_x, zipK_l, nat0, nat1, nat2, nat3, nat4, nat5, rvK_rt, rvK_rl, rvK_nx, compGo_n, compGo_c, cdK_y, cdK_s, all_t, eChain_ap, chK_ll, hUnl_ap, revL_ap, kyE_ap, kyeK_i, kyeK_s, kyeK_x, kyT_ap, kytK_ix, eDGet_ap, eDIn_ap, eDGet1_ap, eDGet2_ap, sDNew_ap, sDPutD_ap, dpK_T, dpK_K, sFzK_ap, fzkK_s, fzkK_ro, rdB_oK, pNil_ap, pCons_ap, pcK_s, pcK_x, eDisp_ap, dispK_1, fzL_ap, fzLK_s, fzT_ap, fzTK_s, fzE_ap, fzEK_s, xIO_ap, xiK_s, sRetP_ap, rpK_s, gIO_ap, ioR_rp, ioR_nx, ioK_s, sqK_rp, ioR_ite, envIO, sClear_ap, clK_s, sExt_ap, exK_s, sSetX_ap, xsK_s, xPop_ap, poK_s, poK_1, xPopAt_ap, patK_0, xaNil_ap, xaCons_ap, xacK_s, xTup_ap, xtK_s, xE_ap, xeK_s, xCall_ap, xclK_s, sAsgX_ap, xagK_s, sDropX_ap, xdK_s, sRetX_ap, xrK_s, sAppX_ap, axK_s, ax2K_s, ne_bb, ifK_v, ifK_nv, bOrK_v, bOrK_nv, bAndK_v, bAndK_nv, andK_v, orK_v, andK_nv, orK_nv,
  List.getElem?_cons_succ, List.getElem?_cons_zero, List.set_cons_succ, List.set_cons_zero, Option.bind_some, Option.map_some, Option.bind_none, Option.map_none,
  add_x, len_x, ix_x, eq_x, ne_x, isx_int, isx_bool, isx_str, isx_tuple, isx_list, isNx, notNx, sl_x, seq_x, cut_m1, cut_l1, sl_t, sl_l, sl_s, slL_l, cut_lo, cut_hi, cut_lh, cut_nn, add_ii, add_ss, add_tt, sub_ii, mul_l, mul_r, div_ii, mod_ii, pow_ii, lt_ii, le_ii, gt_ii, ge_ii, eq_ii, eq_bb, eq_ss, ne_ii, ne_ss, len_l, len_t, len_s, int_i, int_b, min_ii, max_ii, tup_l, tup_t, list_l, list_t, neg_i, not_b, ix_l, ix_t, atI_0, atI_1, atI_2, atI_3, atI_4,
  isN_n, isN_i, isN_s, isN_b, isN_t, isN_l, notN_n, notN_i, notN_s, notN_b, notN_t, notN_l, isB, notB, isi_i_int, isi_b_int, isi_s_int, isi_t_int, isi_l_int, isi_n_int, isi_i_bool, isi_b_bool, isi_s_bool, isi_t_bool, isi_l_bool, isi_n_bool, isi_i_str, isi_b_str, isi_s_str, isi_t_str, isi_l_str, isi_n_str, isi_i_tuple, isi_b_tuple, isi_s_tuple, isi_t_tuple, isi_l_tuple, isi_n_tuple, isi_i_list, isi_b_list, isi_s_list, isi_t_list, isi_l_list, isi_n_list])
theorem v_letters (xs : List Nat) (hl : xs.length ≤ 100) (h : ∀ c ∈ xs, c ∈ [98, 101, 105]) : g_l_letters [sx xs] = some (.v (.bool true)) := by
  unfold g_l_letters F_l_letters
  walk_at "z"
  generalize hX : forGo _ _ _ _ = X
  obtain ⟨u, rfl⟩ := loop_chk (fun v : Option SV => [some (SV.ro (sx xs)), v]) none hX fun d hd v => by
    obtain ⟨c, hc, rfl⟩ := List.mem_map.mp hd
    have e := notin_x (c := c) (xs := [98, 101, 105])
    rw [decide_eq_true (h c hc)] at e
    refine ⟨some (.ro (sx [c])), ?_⟩
    clear hX hd h
    walk_at "y"
  clear hX h
  walk_at "z"
theorem v_whole (i : Int) : g_l_whole [.int i] = some (.v (.bool true)) := by
  unfold g_l_whole F_l_whole
  walk_at "z"
local macro_rules | `(tactic| walk_at "z") => `(tactic| simp -implicitDefEqProofs (disch := first | omega | (simp only [List.length_cons, List.length_nil, List.length_append, List.length_map, List.length_set, List.length_reverse, List.length_take, List.length_drop, List.length_range]; done) | (simp only [List.length_cons, List.length_nil, List.length_append, List.length_map, List.length_set, List.length_reverse, List.length_take, List.length_drop, List.length_range]; omega) | fail) only [List.length_map, chK_lelt, v_cell, v_mixed, down_up, up_down, v_program, lit_b, lit_e, lit_i, lit_ie, lit_0, v_lap, v_cop, v_make, ix_rr0, ix_rr1, ix_rr2, ix_rr3, lit_bei, isi_strx, v_letters, v_whole, gF_ap, env0, List.map_cons, List.map_nil, List.length_cons, List.length_nil, List.cons_append, List.nil_append, List.replicate_succ, List.replicate_zero, Nat.reduceAdd, Nat.reduceSub, if_true, if_false, eq_self, List.getD_cons_zero, Int.toNat_natCast, Nat.reduceEqDiff, reduceIte, reduceCtorEq, decide_true, decide_false, Bool.not_true, Bool.not_false, Bool.and_true, Bool.true_and, Bool.and_false, Bool.false_and, Bool.or_true, Bool.true_or, Bool.or_false, Bool.false_or,
  sSeq_ap, sqK_nx, sqK_rt, sqK_rl, sqK_bk, sqK_ct, sqK_no, sIf_ap, ifK_t, ifK_f, ifK_d, ifK_nd, sNil_ap, sBk_ap, sCt_ap, sRetN_ap, sBad_ap, eVar_ap, bVar_ap, mVar_ap, rdV_ro, rdV_lr, rdB_ro, rdB_lr, rdB_ow, rdM_lr, rdM_ow, nVar_ap, rdN_ro, rdN_lr, rdN_ow, eC_ap, e1_ap, e2_ap, e3_ap, b1_s, b2_s, b3_s, aNil_ap, aCons_ap, cnK_s, eCall_ap, caK_s, eTup_ap, tupK_s, lLst_ap, lstK_s, liL_ap, liK_s, lCat_ap, catK_s, oNone_ap, oSome_ap, oSK_i, asB_ap, boK_b, eAnd_ap, eOr_ap, andK_t, andK_f, orK_t, orK_f, andK_d, orK_d, bAnd_ap, bOr_ap, bAndK_t, bAndK_f, bOrK_t, bOrK_f, bAndK_d, bOrK_d, bAndK_nd, bOrK_nd, bNot_ap, toD_s, toL_l, rv_v, rv_l, sSet_ap, stK_s, sSetL_ap, slK_s, sSetR_ap, srK_s, sAsg_ap, asK_s, hName_ap, hTup_ap, hCons_ap, hNil_ap, sDrop_ap, drK_s, sRet_ap, rtK_s, sRetL_ap, rlK_s, sRetO_ap, roK_s, sFz_ap, fzK_s, fzK_ro, fzK_lr, sApp_ap, apK_s, sPut_ap, puK_s, sFor_ap, foK_s, forGo_n, forGo_c, tgK_s, at_nx, at_ct, at_bk, at_rt, at_rl, lComp_ap, coK_s, wipeE_n, wipeE_c, cYes_ap, wiK_t, wiK_f, sqK_ite, rvK_ite, at_ite, boK_ite, rtK_ite, ifK_ite, decide_eq_true_eq, Int.reduceToNat, Int.reduceLT, Int.reduceLE, Int.reduceEq, Int.reduceNeg, Int.reducePow, Int.reduceSub, Int.reduceAdd, Int.reduceMul, iSeqD_ap, iRg1D_ap, iRg2D_ap, iRevD_ap, iEnumD_ap, iZipD_ap, zipL_ap, seqK_l, seqK_t, seqK_s, rg1K_i, rg2K_i, revK_l, enuK_l, enuK_x, zipK_l, nat0, nat1, nat2, nat3, nat4, nat5, rvK_rt, rvK_rl, rvK_nx, compGo_n, compGo_c, cdK_y, cdK_s, all_t, eChain_ap, chK_ll, hUnl_ap, revL_ap, kyE_ap, kyeK_i, kyeK_s, kyeK_x, kyT_ap, kytK_ix, eDGet_ap, eDIn_ap, eDGet1_ap, eDGet2_ap, sDNew_ap, sDPutD_ap, dpK_T, dpK_K, sFzK_ap, fzkK_s, fzkK_ro, rdB_oK, pNil_ap, pCons_ap, pcK_s, pcK_x, eDisp_ap, dispK_1, fzL_ap, fzLK_s, fzT_ap, fzTK_s, fzE_ap, fzEK_s, xIO_ap, xiK_s, sRetP_ap, rpK_s, gIO_ap, ioR_rp, ioR_nx, ioK_s, sqK_rp, ioR_ite, envIO, sClear_ap, clK_s, sExt_ap, exK_s, sSetX_ap, xsK_s, xPop_ap, poK_s, poK_1, xPopAt_ap, patK_0, xaNil_ap, xaCons_ap, xacK_s, xTup_ap, xtK_s, xE_ap, xeK_s, xCall_ap, xclK_s, sAsgX_ap, xagK_s, sDropX_ap, xdK_s, sRetX_ap, xrK_s, sAppX_ap, axK_s, ax2K_s, ne_bb, ifK_v, ifK_nv, bOrK_v, bOrK_nv, bAndK_v, bAndK_nv, andK_v, orK_v, andK_nv, orK_nv,
  List.getElem?_cons_succ, List.getElem?_cons_zero, List.set_cons_succ, List.set_cons_zero, Option.bind_some, Option.map_some, Option.bind_none, Option.map_none,
  add_x, len_x, ix_x, eq_x, ne_x, isx_int, isx_bool, isx_str, isx_tuple, isx_list, isNx, notNx, sl_x, seq_x, cut_m1, cut_l1, sl_t, sl_l, sl_s, slL_l, cut_lo, cut_hi, cut_lh, cut_nn, add_ii, add_ss, add_tt, sub_ii, mul_l, mul_r, div_ii, mod_ii, pow_ii, lt_ii, le_ii, gt_ii, ge_ii, eq_ii, eq_bb, eq_ss, ne_ii, ne_ss, len_l, len_t, len_s, int_i, int_b, min_ii, max_ii, tup_l, tup_t, list_l, list_t, neg_i, not_b, ix_l, ix_t, atI_0, atI_1, atI_2, atI_3, atI_4,
  isN_n, isN_i, isN_s, isN_b, isN_t, isN_l, notN_n, notN_i, notN_s, notN_b, notN_t, notN_l, isB, notB, isi_i_int, isi_b_int, isi_s_int, isi_t_int, isi_l_int, isi_n_int, isi_i_bool, isi_b_bool, isi_s_bool, isi_t_bool, isi_l_bool, isi_n_bool, isi_i_str, isi_b_str, isi_s_str, isi_t_str, isi_l_str, isi_n_str, isi_i_tuple, isi_b_tuple, isi_s_tuple, isi_t_tuple, isi_l_tuple, isi_n_tuple, isi_i_list, isi_b_list, isi_s_list, isi_t_list, isi_l_list, isi_n_list])
local macro_rules | `(tactic| walk_at "y") => `(tactic| simp -implicitDefEqProofs (disch := first | omega | (simp only [List.length_cons, List.length_nil, List.length_append, List.length_map, List.length_set, List.length_reverse, List.length_take, List.length_drop, List.length_range]; done) | (simp only [List.length_cons, List.length_nil, List.length_append, List.length_map, List.length_set, List.length_reverse, List.length_take, List.length_drop, List.length_range]; omega) | fail) only [*, List.length_map, chK_lelt, v_cell, v_mixed, down_up, up_down, v_program, lit_b, lit_e, lit_i, lit_ie, lit_0, v_lap, v_cop, v_make, ix_rr0, ix_rr1, ix_rr2, ix_rr3, lit_bei, isi_strx, v_letters, v_whole, gF_ap, env0, List.map_cons, List.map_nil, List.length_cons, List.length_nil, List.cons_append, List.nil_append, List.replicate_succ, List.replicate_zero, Nat.reduceAdd, Nat.reduceSub, if_true, if_false, eq_self, List.getD_cons_zero, Int.toNat_natCast, Nat.reduceEqDiff, reduceIte, reduceCtorEq, decide_true, decide_false, Bool.not_true, Bool.not_false, Bool.and_true, Bool.true_and, Bool.and_false, Bool.false_and, Bool.or_true, Bool.true_or, Bool.or_false, Bool.false_or,
  sSeq_ap, sqK_nx, sqK_rt, sqK_rl, sqK_bk, sqK_ct, sqK_no, sIf_ap, ifK_t, ifK_f, ifK_d, ifK_nd, sNil_ap, sBk_ap, sCt_ap, sRetN_ap, sBad_ap, eVar_ap, bVar_ap, mVar_ap, rdV_ro, rdV_lr, rdB_ro, rdB_lr, rdB_ow, rdM_lr, rdM_ow, nVar_ap, rdN_ro, rdN_lr, rdN_ow, eC_ap, e1_ap, e2_ap, e3_ap, b1_s, b2_s, b3_s, aNil_ap, aCons_ap, cnK_s, eCall_ap, caK_s, eTup_ap, tupK_s, lLst_ap, lstK_s, liL_ap, liK_s, lCat_ap, catK_s, oNone_ap, oSome_ap, oSK_i, asB_ap, boK_b, eAnd_ap, eOr_ap, andK_t, andK_f, orK_t, orK_f, andK_d, orK_d, bAnd_ap, bOr_ap, bAndK_t, bAndK_f, bOrK_t, bOrK_f, bAndK_d, bOrK_d, bAndK_nd, bOrK_nd, bNot_ap, toD_s, toL_l, rv_v, rv_l, sSet_ap, stK_s, sSetL_ap, slK_s, sSetR_ap, srK_s, sAsg_ap, asK_s, hName_ap, hTup_ap, hCons_ap, hNil_ap, sDrop_ap, drK_s, sRet_ap, rtK_s, sRetL_ap, rlK_s, sRetO_ap, roK_s, sFz_ap, fzK_s, fzK_ro, fzK_lr, sApp_ap, apK_s, sPut_ap, puK_s, sFor_ap, foK_s, forGo_n, forGo_c, tgK_s, at_nx, at_ct, at_bk, at_rt, at_rl, lComp_ap, coK_s, wipeE_n, wipeE_c, cYes_ap, wiK_t, wiK_f, sqK_ite, rvK_ite, at_ite, boK_ite, rtK_ite, ifK_ite, decide_eq_true_eq, Int.reduceToNat, Int.reduceLT, Int.reduceLE, Int.reduceEq, Int.reduceNeg, Int.reducePow, Int.reduceSub, Int.reduceAdd, Int.reduceMul, iSeqD_ap, iRg1D_ap, iRg2D_ap, iRevD_ap, iEnumD_ap, iZipD_ap, zipL_ap, seqK_l, seqK_t, seqK_s, rg1K_i, rg2K_i, revK_l, enuK_l, enuK_x, zipK_l, nat0, nat1, nat2, nat3, nat4, nat5, rvK_rt, rvK_rl, rvK_nx, compGo_n, compGo_c, cdK_y, cdK_s, all_t, eChain_ap, chK_ll, hUnl_ap, revL_ap, kyE_ap, kyeK_i, kyeK_s, kyeK_x, kyT_ap, kytK_ix, eDGet_ap, eDIn_ap, eDGet1_ap, eDGet2_ap, sDNew_ap, sDPutD_ap, dpK_T, dpK_K, sFzK_ap, fzkK_s, fzkK_ro, rdB_oK, pNil_ap, pCons_ap, pcK_s, pcK_x, eDisp_ap, dispK_1, fzL_ap, fzLK_s, fzT_ap, fzTK_s, fzE_ap, fzEK_s, xIO_ap, xiK_s, sRetP_ap, rpK_s, gIO_ap, ioR_rp, ioR_nx, ioK_s, sqK_rp, ioR_ite, envIO, sClear_ap, clK_s, sExt_ap, exK_s, sSetX_ap, xsK_s, xPop_ap, poK_s, poK_1, xPopAt_ap, patK_0, xaNil_ap, xaCons_ap, xacK_s, xTup_ap, xtK_s, xE_ap, xeK_s, xCall_ap, xclK_s, sAsgX_ap, xagK_s, sDropX_ap, xdK_s, sRetX_ap, xrK_s, sAppX_ap, axK_s, ax2K_s, ne_bb, ifK_v, ifK_nv, bOrK_v, bOrK_nv, bAndK_v, bAndK_nv, andK_v, orK_v, andK_nv, orK_nv,
  List.getElem?_cons_succ, List.getElem?_cons_zero, List.set_cons_succ, List.set_cons_zero, Option.bind_some, Option.map_some, Option.bind_none, Option.map_none,
  add_x, len_x, ix_x, eq_x, ne_x, isx_int, isx_bool, isx_str, isx_tuple, isx_list, isNx, notNx, sl_x, seq_x, cut_m1, cut_l1, sl_t, sl_l, sl_s, slL_l, cut_lo, cut_hi, cut_lh, cut_nn, add_ii, add_ss, add_tt, sub_ii, mul_l, mul_r, div_ii, mod_ii, pow_ii, lt_ii, le_ii, gt_ii, ge_ii, eq_ii, eq_bb, eq_ss, ne_ii, ne_ss, len_l, len_t, len_s, int_i, int_b, min_ii, max_ii, tup_l, tup_t, list_l, list_t, neg_i, not_b, ix_l, ix_t, atI_0, atI_1, atI_2, atI_3, atI_4,
  isN_n, isN_i, isN_s, isN_b, isN_t, isN_l, notN_n, notN_i, notN_s, notN_b, notN_t, notN_l, isB, notB, isi_i_int, isi_b_int, isi_s_int, isi_t_int, isi_l_int, isi_n_int, isi_i_bool, isi_b_bool, isi_s_bool, isi_t_bool, isi_l_bool, isi_n_bool, isi_i_str, isi_b_str, isi_s_str, isi_t_str, isi_l_str, isi_n_str, isi_i_tuple, isi_b_tuple, isi_s_tuple, isi_t_tuple, isi_l_tuple, isi_n_tuple, isi_i_list, isi_b_list, isi_s_list, isi_t_list, isi_l_list, isi_n_list])
structure Okr (r : RR) : Prop where
  s0 : 0 ≤ r.st
  g0 : 0 ≤ r.gl
  sg : r.sg ∈ [98, 101, 105]
  wl : r.wd.length ≤ 8
  wd : ∀ c ∈ r.wd, c ∈ [98, 101, 105]
theorem v_isrule (r : RR) (h : Okr r) : g_l_is_rule [r.enc] = some (.v (.bool true)) := by
  have e0 := ix_rr0 r
  have e1 := ix_rr1 r
  have e2 := ix_rr2 r
  have e3 := ix_rr3 r
  have e4 : lenD [r.enc] = some (.int 4) := rfl
  have e5 : isiD "tuple" r.enc = some (.bool true) := isi_t_tuple
  have l1 := v_letters [r.sg] (by show 1 ≤ 100; decide) (fun c hc => by rcases List.mem_singleton.mp hc with rfl; exact h.sg)
  have l2 := v_letters r.wd (by have := h.wl; omega) h.wd
  have w1 := v_whole r.st
  have w2 := v_whole r.gl
  have s0 := h.s0
  have g0 := h.g0
  have wl := h.wl
  clear h
  unfold g_l_is_rule F_l_is_rule
  generalize r.enc = R at *
  generalize r.st = s at *
  generalize r.gl = g at *
  generalize r.wd = wd at *
  generalize r.sg = sg at *
  have n1 : (s < 0) = False := eq_false (by omega)
  have n2 : (g < 0) = False := eq_false (by omega)
  have n3 : ((wd.length : Int) ≤ 8) = True := eq_true (by omega)
  walk_at "y"
local macro_rules | `(tactic| walk_at "z") => `(tactic| simp -implicitDefEqProofs (disch := first | omega | (simp only [List.length_cons, List.length_nil, List.length_append, List.length_map, List.length_set, List.length_reverse, List.length_take, List.length_drop, List.length_range]; done) | (simp only [List.length_cons, List.length_nil, List.length_append, List.length_map, List.length_set, List.length_reverse, List.length_take, List.length_drop, List.length_range]; omega) | fail) only [List.length_map, chK_lelt, v_cell, v_mixed, down_up, up_down, v_program, lit_b, lit_e, lit_i, lit_ie, lit_0, v_lap, v_cop, v_make, ix_rr0, ix_rr1, ix_rr2, ix_rr3, lit_bei, isi_strx, v_letters, v_whole, v_isrule, gF_ap, env0, List.map_cons, List.map_nil, List.length_cons, List.length_nil, List.cons_append, List.nil_append, List.replicate_succ, List.replicate_zero, Nat.reduceAdd, Nat.reduceSub, if_true, if_false, eq_self, List.getD_cons_zero, Int.toNat_natCast, Nat.reduceEqDiff, reduceIte, reduceCtorEq, decide_true, decide_false, Bool.not_true, Bool.not_false, Bool.and_true, Bool.true_and, Bool.and_false, Bool.false_and, Bool.or_true, Bool.true_or, Bool.or_false, Bool.false_or,
  sSeq_ap, sqK_nx, sqK_rt, sqK_rl, sqK_bk, sqK_ct, sqK_no, sIf_ap, ifK_t, ifK_f, ifK_d, ifK_nd, sNil_ap, sBk_ap, sCt_ap, sRetN_ap, sBad_ap, eVar_ap, bVar_ap, mVar_ap, rdV_ro, rdV_lr, rdB_ro, rdB_lr, rdB_ow, rdM_lr, rdM_ow, nVar_ap, rdN_ro, rdN_lr, rdN_ow, eC_ap, e1_ap, e2_ap, e3_ap, b1_s, b2_s, b3_s, aNil_ap, aCons_ap, cnK_s, eCall_ap, caK_s, eTup_ap, tupK_s, lLst_ap, lstK_s, liL_ap, liK_s, lCat_ap, catK_s, oNone_ap, oSome_ap, oSK_i, asB_ap, boK_b, eAnd_ap, eOr_ap, andK_t, andK_f, orK_t, orK_f, andK_d, orK_d, bAnd_ap, bOr_ap, bAndK_t, bAndK_f, bOrK_t, bOrK_f, bAndK_d, bOrK_d, bAndK_nd, bOrK_nd, bNot_ap, toD_s, toL_l, rv_v, rv_l, sSet_ap, stK_s, sSetL_ap, slK_s, sSetR_ap, srK_s, sAsg_ap, asK_s, hName_ap, hTup_ap, hCons_ap, hNil_ap, sDrop_ap, drK_s, sRet_ap, rtK_s, sRetL_ap, rlK_s, sRetO_ap, roK_s, sFz_ap, fzK_s, fzK_ro, fzK_lr, sApp_ap, apK_s, sPut_ap, puK_s, sFor_ap, foK_s, forGo_n, forGo_c, tgK_s, at_nx, at_ct, at_bk, at_rt, at_rl, lComp_ap, coK_s, wipeE_n, wipeE_c, cYes_ap, wiK_t, wiK_f, sqK_ite, rvK_ite, at_ite, boK_ite, rtK_ite, ifK_ite, decide_eq_true_eq, Int.reduceToNat, Int.reduceLT, Int.reduceLE, Int.reduceEq, Int.reduceNeg, Int.reducePow, Int.reduceSub, Int.reduceAdd, Int.reduceMul, iSeqD_ap, iRg1D_ap, iRg2D_ap, iRevD_ap, iEnumD_ap, iZipD_ap, zipL_ap, seqK_l, seqK_t, seqK_s, rg1K_i, rg2K_i, revK_l, enuK_l, enuK_x, zipK_l, nat0, nat1, nat2, nat3, nat4, nat5, rvK_rt, rvK_rl, rvK_nx, compGo_n, compGo_c, cdK_y, cdK_s, all_t, eChain_ap, chK_ll, hUnl_ap, revL_ap, kyE_ap, kyeK_i, kyeK_s, kyeK_x, kyT_ap, kytK_ix, eDGet_ap, eDIn_ap, eDGet1_ap, eDGet2_ap, sDNew_ap, sDPutD_ap, dpK_T, dpK_K, sFzK_ap, fzkK_s, fzkK_ro, rdB_oK, pNil_ap, pCons_ap, pcK_s, pcK_x, eDisp_ap, dispK_1, fzL_ap, fzLK_s, fzT_ap, fzTK_s, fzE_ap, fzEK_s, xIO_ap, xiK_s, sRetP_ap, rpK_s, gIO_ap, ioR_rp, ioR_nx, ioK_s, sqK_rp, ioR_ite, envIO, sClear_ap, clK_s, sExt_ap, exK_s, sSetX_ap, xsK_s, xPop_ap, poK_s, poK_1, xPopAt_ap, patK_0, xaNil_ap, xaCons_ap, xacK_s, xTup_ap, xtK_s, xE_ap, xeK_s, xCall_ap, xclK_s, sAsgX_ap, xagK_s, sDropX_ap, xdK_s, sRetX_ap, xrK_s, sAppX_ap, axK_s, ax2K_s, ne_bb, ifK_v, ifK_nv, bOrK_v, bOrK_nv, bAndK_v, bAndK_nv, andK_v, orK_v, andK_nv, orK_nv,
  List.getElem?_cons_succ, List.getElem?_cons_zero, List.set_cons_succ, List.set_cons_zero, Option.bind_some, Option.map_some, Option.bind_none, Option.map_none,
  add_x, len_x, ix_x, eq_x, ne_x, isx_int, isx_bool, isx_str, isx_tuple, isx_list, isNx, notNx, sl_x, seq_x, cut_m1, cut_l1, sl_t, sl_l, sl_s, slL_l, cut_lo, cut_hi, cut_lh, cut_nn, add_ii, add_ss, add_tt, sub_ii, mul_l, mul_r, div_ii, mod_ii, pow_ii, lt_ii, le_ii, gt_ii, ge_ii, eq_ii, eq_bb, eq_ss, ne_ii, ne_ss, len_l, len_t, len_s, int_i, int_b, min_ii, max_ii, tup_l, tup_t, list_l, list_t, neg_i, not_b, ix_l, ix_t, atI_0, atI_1, atI_2, atI_3, atI_4,
  isN_n, isN_i, isN_s, isN_b, isN_t, isN_l, notN_n, notN_i, notN_s, notN_b, notN_t, notN_l, isB, notB, isi_i_int, isi_b_int, isi_s_int, isi_t_int, isi_l_int, isi_n_int, isi_i_bool, isi_b_bool, isi_s_bool, isi_t_bool, isi_l_bool, isi_n_bool, isi_i_str, isi_b_str, isi_s_str, isi_t_str, isi_l_str, isi_n_str, isi_i_tuple, isi_b_tuple, isi_s_tuple, isi_t_tuple, isi_l_tuple, isi_n_tuple, isi_i_list, isi_b_list, isi_s_list, isi_t_list, isi_l_list, isi_n_list])
local macro_rules | `(tactic| walk_at "y") => `(tactic| simp -implicitDefEqProofs (disch := first | omega | (simp only [List.length_cons, List.length_nil, List.length_append, List.length_map, List.length_set, List.length_reverse, List.length_take, List.length_drop, List.length_range]; done) | (simp only [List.length_cons, List.length_nil, List.length_append, List.length_map, List.length_set, List.length_reverse, List.length_take, List.length_drop, List.length_range]; omega) | fail) only [*, List.length_map, chK_lelt, v_cell, v_mixed, down_up, up_down, v_program, lit_b, lit_e, lit_i, lit_ie, lit_0, v_lap, v_cop, v_make, ix_rr0, ix_rr1, ix_rr2, ix_rr3, lit_bei, isi_strx, v_letters, v_whole, v_isrule, gF_ap, env0, List.map_cons, List.map_nil, List.length_cons, List.length_nil, List.cons_append, List.nil_append, List.replicate_succ, List.replicate_zero, Nat.reduceAdd, Nat.reduceSub, if_true, if_false, eq_self, List.getD_cons_zero, Int.toNat_natCast, Nat.reduceEqDiff, reduceIte, reduceCtorEq, decide_true, decide_false, Bool.not_true, Bool.not_false, Bool.and_true, Bool.true_and, Bool.and_false, Bool.false_and, Bool.or_true, Bool.true_or, Bool.or_false, Bool.false_or,
  sSeq_ap, sqK_nx, sqK_rt, sqK_rl, sqK_bk, sqK_ct, sqK_no, sIf_ap, ifK_t, ifK_f, ifK_d, ifK_nd, sNil_ap, sBk_ap, sCt_ap, sRetN_ap, sBad_ap, eVar_ap, bVar_ap, mVar_ap, rdV_ro, rdV_lr, rdB_ro, rdB_lr, rdB_ow, rdM_lr, rdM_ow, nVar_ap, rdN_ro, rdN_lr, rdN_ow, eC_ap, e1_ap, e2_ap, e3_ap, b1_s, b2_s, b3_s, aNil_ap, aCons_ap, cnK_s, eCall_ap, caK_s, eTup_ap, tupK_s, lLst_ap, lstK_s, liL_ap, liK_s, lCat_ap, catK_s, oNone_ap, oSome_ap, oSK_i, asB_ap, boK_b, eAnd_ap, eOr_ap, andK_t, andK_f, orK_t, orK_f, andK_d, orK_d, bAnd_ap, bOr_ap, bAndK_t, bAndK_f, bOrK_t, bOrK_f, bAndK_d, bOrK_d, bAndK_nd, bOrK_nd, bNot_ap, toD_s, toL_l, rv_v, rv_l, sSet_ap, stK_s, sSetL_ap, slK_s, sSetR_ap, srK_s, sAsg_ap, asK_s, hName_ap, hTup_ap, hCons_ap, hNil_ap, sDrop_ap, drK_s, sRet_ap, rtK_s, sRetL_ap, rlK_s, sRetO_ap, roK_s, sFz_ap, fzK_s, fzK_ro, fzK_lr, sApp_ap, apK_s, sPut_ap, puK_s, sFor_ap, foK_s, forGo_n, forGo_c, tgK_s, at_nx, at_ct, at_bk, at_rt, at_rl, lComp_ap, coK_s, wipeE_n, wipeE_c, cYes_ap, wiK_t, wiK_f, sqK_ite, rvK_ite, at_ite, boK_ite, rtK_ite, ifK_ite, decide_eq_true_eq, Int.reduceToNat, Int.reduceLT, Int.reduceLE, Int.reduceEq, Int.reduceNeg, Int.reducePow, Int.reduceSub, Int.reduceAdd, Int.reduceMul, iSeqD_ap, iRg1D_ap, iRg2D_ap, iRevD_ap, iEnumD_ap, iZipD_ap, zipL_ap, seqK_l, seqK_t, seqK_s, rg1K_i, rg2K_i, revK_l, enuK_l, enuK_x, zipK_l, nat0, nat1, nat2, nat3, nat4, nat5, rvK_rt, rvK_rl, rvK_nx, compGo_n, compGo_c, cdK_y, cdK_s, all_t, eChain_ap, chK_ll, hUnl_ap, revL_ap, kyE_ap, kyeK_i, kyeK_s, kyeK_x, kyT_ap, kytK_ix, eDGet_ap, eDIn_ap, eDGet1_ap, eDGet2_ap, sDNew_ap, sDPutD_ap, dpK_T, dpK_K, sFzK_ap, fzkK_s, fzkK_ro, rdB_oK, pNil_ap, pCons_ap, pcK_s, pcK_x, eDisp_ap, dispK_1, fzL_ap, fzLK_s, fzT_ap, fzTK_s, fzE_ap, fzEK_s, xIO_ap, xiK_s, sRetP_ap, rpK_s, gIO_ap, ioR_rp, ioR_nx, ioK_s, sqK_rp, ioR_ite, envIO, sClear_ap, clK_s, sExt_ap, exK_s, sSetX_ap, xsK_s, xPop_ap, poK_s, poK_1, xPopAt_ap, patK_0, xaNil_ap, xaCons_ap, xacK_s, xTup_ap, xtK_s, xE_ap, xeK_s, xCall_ap, xclK_s, sAsgX_ap, xagK_s, sDropX_ap, xdK_s, sRetX_ap, xrK_s, sAppX_ap, axK_s, ax2K_s, ne_bb, ifK_v, ifK_nv, bOrK_v, bOrK_nv, bAndK_v, bAndK_nv, andK_v, orK_v, andK_nv, orK_nv,
  List.getElem?_cons_succ, List.getElem?_cons_zero, List.set_cons_succ, List.set_cons_zero, Option.bind_some, Option.map_some, Option.bind_none, Option.map_none,
  add_x, len_x, ix_x, eq_x, ne_x, isx_int, isx_bool, isx_str, isx_tuple, isx_list, isNx, notNx, sl_x, seq_x, cut_m1, cut_l1, sl_t, sl_l, sl_s, slL_l, cut_lo, cut_hi, cut_lh, cut_nn, add_ii, add_ss, add_tt, sub_ii, mul_l, mul_r, div_ii, mod_ii, pow_ii, lt_ii, le_ii, gt_ii, ge_ii, eq_ii, eq_bb, eq_ss, ne_ii, ne_ss, len_l, len_t, len_s, int_i, int_b, min_ii, max_ii, tup_l, tup_t, list_l, list_t, neg_i, not_b, ix_l, ix_t, atI_0, atI_1, atI_2, atI_3, atI_4,
  isN_n, isN_i, isN_s, isN_b, isN_t, isN_l, notN_n, notN_i, notN_s, notN_b, notN_t, notN_l, isB, notB, isi_i_int, isi_b_int, isi_s_int, isi_t_int, isi_l_int, isi_n_int, isi_i_bool, isi_b_bool, isi_s_bool, isi_t_bool, isi_l_bool, isi_n_bool, isi_i_str, isi_b_str, isi_s_str, isi_t_str, isi_l_str, isi_n_str, isi_i_tuple, isi_b_tuple, isi_s_tuple, isi_t_tuple, isi_l_tuple, isi_n_tuple, isi_i_list, isi_b_list, isi_s_list, isi_t_list, isi_l_list, isi_n_list])
theorem okr {s g : Int} {c : Nat} {wd : List Nat} (h1 : 0 ≤ s) (h2 : 0 ≤ g) (h3 : c ∈ [98, 101, 105]) (h4 : wd.length ≤ 8) (h5 : ∀ c ∈ wd, c ∈ [98, 101, 105]) : Okr ⟨s, c, wd, g⟩ := ⟨h1, h2, h3, h4, h5⟩
theorem lap_nn {f m ph a g : Int} (hf : 0 ≤ f) (hm : 0 ≤ m) (ha : 0 ≤ a) (hg : 0 ≤ g) (hp : ph = 0 ∨ ph = 1 ∨ ph = 2) : 0 ≤ lapI f m ph a g := by
  unfold lapI
  split
  · exact hg
  · rcases hp with rfl | rfl | rfl <;> omega
theorem cop_ok {f m ph a g : Int} {wd : List Nat} (hf : 0 ≤ f) (hm : 0 ≤ m) (ha : 0 ≤ a) (hg : 0 ≤ g) (hp : ph = 0 ∨ ph = 1 ∨ ph = 2) (hw : wd.length ≤ 8) (hw2 : ∀ c ∈ wd, c ∈ [98, 101, 105]) {r : RR} (h : r ∈ copL f m ph a wd g) : Okr r := by
  have l1 := lap_nn hf hm ha hg hp
  have l2 := lap_nn hf hm (show 0 ≤ a + 1 by omega) hg hp
  rcases List.mem_cons.mp h with rfl | h
  · exact okr l1 l1 (by decide) (by decide) (by decide)
  · rcases List.mem_singleton.mp h with rfl
    exact okr l1 l2 (by decide) hw hw2
theorem seg_ok {f m ph c g : Int} {n : Nat} (hf : 0 ≤ f) (hm : 0 ≤ m) (ha : 0 ≤ c) (hg : 0 ≤ g) (hp : ph = 0 ∨ ph = 1 ∨ ph = 2) {r : RR} (h : r ∈ segL f m ph c g n) : Okr r := by
  obtain ⟨a, _, h⟩ := seg_mem h
  exact cop_ok hf hm (by omega) hg hp (by decide) (by decide) h
theorem rowL_ok {f m P : Int} {w : Row} (hf : 0 ≤ f) (hm : 0 < m) (hw : w.fit m P) {r : RR} (h : r ∈ rowL f m w) : Okr r := by
  cases w with
  | up c t =>
    obtain ⟨k1, k2, k3, k4⟩ := hw
    obtain ⟨a, _, h⟩ := List.mem_flatMap.mp h
    refine cop_ok hf (by omega) (by omega) k3 (.inl rfl) ?_ ?_ h
    · split <;> decide
    · split <;> decide
  | dn c t o =>
    obtain ⟨k1, k2, k3, k4, k5, k6⟩ := hw
    have h : r ∈ downL f m c t o := h
    unfold downL at h
    rcases List.mem_append.mp h with h | h
    · rcases List.mem_append.mp h with h | h
      · rcases List.mem_append.mp h with h | h
        · exact seg_ok hf (by omega) (by omega) (by omega) (.inl rfl) h
        · unfold midL at h
          have l1 := lap_nn (ph := 0) (a := c) (g := 0) hf (show 0 ≤ m by omega) k1 (by omega) (.inl rfl)
          have l2 := lap_nn (ph := 1) (a := c) (g := 0) hf (show 0 ≤ m by omega) k1 (by omega) (.inr (.inl rfl))
          have l3 := lap_nn (ph := 2) (a := c + 1) (g := o) hf (show 0 ≤ m by omega) (by omega) (by omega) (.inr (.inr rfl))
          rcases List.mem_cons.mp h with rfl | h
          · exact okr l1 l2 (by decide) (by decide) (by decide)
          · rcases List.mem_singleton.mp h with rfl
            exact okr l1 l3 (by decide) (by decide) (by decide)
      · exact seg_ok hf (by omega) k1 k3 (.inr (.inl rfl)) h
    · exact seg_ok hf (by omega) (by omega) k5 (.inr (.inr rfl)) h
theorem mk_ok {m : Int} {ws : List Row} (hm : 0 < m) (hf : ∀ w ∈ ws, w.fit m ws.length) : ∀ r ∈ mkL m ws ws.length, Okr r := fun r h => by
  obtain ⟨p, w, hw, h⟩ := mk_mem h
  have fg := fst_gt (P := (ws.length : Int)) (p := p) hm
  rcases h with rfl | h
  · exact okr (by omega) (by omega) (by decide) (by decide) (by decide)
  · exact rowL_ok (by omega) hm (hf w (List.mem_of_getElem? hw)) h
theorem mk_stop {m : Int} {ws : List Row} (hm : 0 < m) (hf : ∀ w ∈ ws, w.fit m ws.length) : ((mkL m ws ws.length).any fun r => decide (r.st = (ws.length : Int) ∧ r.sg = 98)) = false := by
  rw [List.any_eq_false]
  intro r h e
  rw [decide_eq_true_eq] at e
  obtain ⟨e1, e2⟩ := e
  obtain ⟨p, w, hw, h⟩ := mk_mem h
  rcases h with rfl | h
  · have := (List.getElem?_eq_some_iff.mp hw).1
    have e1 : (p : Int) = ws.length := e1
    omega
  · have := (rowL_mem hm (hf w (List.mem_of_getElem? hw)) h).2.2
    omega
theorem row_len6 (f m : Int) (r : Row) (hm : m ≤ 6) (k : r.fit m P) : (rowL f m r).length ≤ 24 := by
  cases r with
  | up c t =>
    have := flat_len (fun (a : Nat) => copL f m 0 (a : Int) (if (a : Int) = c then [105, 101] else [101]) t) 2 (fun _ => Nat.le_refl _) m.toNat
    show (upL f m c t m.toNat).length ≤ _
    unfold upL; omega
  | dn c t o =>
    obtain ⟨k1, k2, _⟩ := k
    have l1 := seg_len f m 0 0 0 c.toNat
    have l2 := seg_len f m 1 c t (m - c).toNat
    have l3 := seg_len f m 2 (c + 1) o (m - (c + 1)).toNat
    show (downL f m c t o).length ≤ _
    unfold downL
    rw [List.length_append, List.length_append, List.length_append]
    show _ + 2 + _ + _ ≤ _
    omega
theorem mk_len6 {m : Int} {ws : List Row} (hm : m ≤ 6) (hl : ws.length ≤ 20) (hf : ∀ w ∈ ws, w.fit m ws.length) : (mkL m ws ws.length).length ≤ 500 := by
  have := flat_len (plL ws.length m ws) 25 (fun p => by
    unfold plL
    cases e : ws[p]? with
    | none => show 0 ≤ _; omega
    | some r => exact Nat.succ_le_succ (row_len6 _ m r hm (hf r (List.mem_of_getElem? e)))) ws.length
  unfold mkL
  omega
theorem imm_trues : ∀ xs : List D, immAll (xs.map fun _ => PyData.bool true) = true
  | [] => rfl
  | x :: xs => imm_trues xs
theorem imm_prs : ∀ rs : List RR, immAll (rs.map prD) = true
  | [] => rfl
  | r :: rs => imm_prs rs
def kyD2 : D → D
  | .tuple (a :: b :: _) => .tuple [a, b]
  | _ => .none
theorem law_true (ns : List Int) (hn : ns.length ≤ 63) : g_law [.list (ns.map .int)] = some (.v (.bool true)) := by
  obtain ⟨m, hm, hm0, hm6⟩ : ∃ m : Int, 1 + cellAt ns 0 % 6 = m ∧ 0 < m ∧ m ≤ 6 := ⟨_, rfl, by omega, by omega⟩
  have cut1 : cutD (ns.map PyData.int) (some 1) (some 21) = ((ns.drop 1).take 20).map .int := by
    rw [cut_lh (by decide) (by decide), List.map_take, List.map_drop]; rfl
  have hcl : ((ns.drop 1).take 20).length ≤ 20 := by rw [List.length_take]; omega
  generalize (ns.drop 1).take 20 = cs at cut1 hcl
  obtain ⟨ws, w1, w2, w3⟩ := v_program cs m (by omega) hm0 (by omega)
  rw [← w2] at w3
  have hmk := v_make ws m (by omega) hm0 (by omega) w3
  have hself : eqD 64 (.list (ws.map Row.enc)) (.list (ws.map Row.enc)) = some (.bool true) := eqD_self (rows_okd ws)
  have hl := mk_len6 hm6 (by omega) w3
  have ok := mk_ok hm0 w3
  have ap := mk_apart hm0 w3
  have stp := mk_stop hm0 w3
  have hW : (ws.map Row.enc).length = ws.length := List.length_map ..
  have hwl : ws.length ≤ 20 := by omega
  generalize mkL m ws ws.length = rs at *
  have sgl : ∀ r ∈ rs, r.sg < 1114112 := fun r hr => by
    have := (ok r hr).sg
    exact (show ∀ c ∈ [98, 101, 105], c < 1114112 from by decide) _ this
  have hin := in_pairs ws.length 98 rs (by decide) sgl
  rw [stp] at hin
  have hset : setLenD [.list (rs.map prD)] = some (.int (rs.length : Int)) := set_len RR.st RR.sg rs (by omega) ap
  have hself2 : eqD 64 (.list (rs.map RR.enc)) (.list (rs.map RR.enc)) = some (.bool true) := eqD_self (okd_list (n := 63) fun d hd => by
    obtain ⟨r, hr, rfl⟩ := List.mem_map.mp hd
    exact okd_tup (n := 62) (okd_c okd_int (okd_c (okd_x (Sgs.sg (sgl r hr))) (okd_c (okd_x fun c hc => (show ∀ c ∈ [98, 101, 105], c < 1114112 from by decide) _ ((ok r hr).wd c hc)) (okd_c okd_int okd_n)))))
  have hR : (rs.map RR.enc).length = rs.length := List.length_map ..
  have hP : (rs.map prD).length = rs.length := List.length_map ..
  obtain ⟨R, hRR⟩ : ∃ R, rs.map RR.enc = R := ⟨_, rfl⟩
  obtain ⟨PR, hPR⟩ : ∃ PR, rs.map prD = PR := ⟨_, rfl⟩
  have c1 : ∀ ρ Y, compGo (hName 7) cYes (eCall (fun ds => toD (g_l_is_rule ds)) (aCons (eVar 7) (aNil))) (ρ : En) R = Y → ρ.length = 8 → Y = some (R.map fun _ => .bool true) := fun ρ Y hY hρ => by
    refine comp_map (fun _ => .bool true) hY fun d hd => ?_
    rw [← hRR] at hd
    obtain ⟨r, hr, rfl⟩ := List.mem_map.mp hd
    have hv := v_isrule r (ok r hr)
    match ρ, hρ with
    | [a0, a1, a2, a3, a4, a5, a6, a7], _ =>
      clear hY hd ok ap w3 hmk
      generalize r.enc = E at *
      walk_at "y"
  have c2 : ∀ ρ Y, compGo (hName 7) cYes (eTup (aCons (e2 ixD (bVar 7) (eC (.int 0))) (aCons (e2 ixD (bVar 7) (eC (.int 1))) (aNil)))) (ρ : En) R = Y → ρ.length = 8 → Y = some PR := fun ρ Y hY hρ => by
    have h := comp_map kyD2 hY fun d hd => by
      rw [← hRR] at hd
      obtain ⟨r, hr, rfl⟩ := List.mem_map.mp hd
      have e0 := ix_rr0 r
      have e1 := ix_rr1 r
      show _ = some [PyData.tuple [.int r.st, sx [r.sg]]]
      match ρ, hρ with
      | [a0, a1, a2, a3, a4, a5, a6, a7], _ =>
        clear hY hd ok ap w3 hmk
        generalize r.enc = E at *
        walk_at "y"
    rw [h, ← hRR, ← hPR, List.map_map]; rfl
  have all1 : allD [.list (R.map fun _ => PyData.bool true)] = some (.bool true) := all_t
  have hB1 : immAll (R.map fun _ => PyData.bool true) = true := imm_trues R
  have hP1 : immAll PR = true := by rw [← hPR]; exact imm_prs rs
  have hRb : (R.map fun _ => PyData.bool true).length = R.length := List.length_map ..
  rw [hRR] at hmk hself2 hR
  rw [hPR] at hin hset hP
  generalize (R.map fun _ => PyData.bool true) = BS at *
  generalize ws.map Row.enc = WS at *
  have hRl : R.length ≤ 500 := by omega
  have hPl : PR.length ≤ 500 := by omega
  have hWl : WS.length ≤ 20 := by omega
  clear ok ap sgl hRR hPR w3 stp w2
  unfold g_law F_law
  walk_at "y"
  generalize hY : compGo _ _ _ _ _ = Y
  obtain rfl := c1 _ _ hY rfl
  clear hY
  walk_at "y"
  generalize hY : compGo _ _ _ _ _ = Y
  obtain rfl := c2 _ _ hY rfl
  clear hY
  walk_at "y"
end Q
set_option Elab.async false
set_option maxRecDepth 100000
set_option maxHeartbeats 4000000
set_option linter.all false
namespace Q
open PySem PySem.Spec PyProof.Rows L2 Z
theorem all_mk {l : PySem.W.OpenLaw} {w : World} {K : PySem.W.Frag} {h : Heap} {mg : Str → Option Value} {fa : Addr} (X : K.In h) (G : h.Ns mainGlobals mg) (hfa : mg "law" = some (.ref fa))
    {od0 an0 : Option Addr} {sl0 : Array (Option Value)} {oc0 kV0 dc0 pm0 cd0 ct0 : Value} {f0 : Addr}
    {od1 an1 : Option Addr} {sl1 : Array (Option Value)} {oc1 kV1 dc1 pm1 cd1 ct1 : Value} {f1 : Addr}
    {od2 an2 : Option Addr} {sl2 : Array (Option Value)} {oc2 kV2 dc2 pm2 cd2 ct2 : Value} {f2 : Addr}
    {od3 an3 : Option Addr} {sl3 : Array (Option Value)} {oc3 kV3 dc3 pm3 cd3 ct3 : Value} {f3 : Addr}
    {od4 an4 : Option Addr} {sl4 : Array (Option Value)} {oc4 kV4 dc4 pm4 cd4 ct4 : Value} {f4 : Addr}
    {od5 an5 : Option Addr} {sl5 : Array (Option Value)} {oc5 kV5 dc5 pm5 cd5 ct5 : Value} {f5 : Addr}
    {od6 an6 : Option Addr} {sl6 : Array (Option Value)} {oc6 kV6 dc6 pm6 cd6 ct6 : Value} {f6 : Addr}
    {od7 an7 : Option Addr} {sl7 : Array (Option Value)} {oc7 kV7 dc7 pm7 cd7 ct7 : Value} {f7 : Addr}
    {od8 an8 : Option Addr} {sl8 : Array (Option Value)} {oc8 kV8 dc8 pm8 cd8 ct8 : Value} {f8 : Addr}
    {od9 an9 : Option Addr} {sl9 : Array (Option Value)} {oc9 kV9 dc9 pm9 cd9 ct9 : Value} {f9 : Addr}
    {od10 an10 : Option Addr} {sl10 : Array (Option Value)} {oc10 kV10 dc10 pm10 cd10 ct10 : Value} {f10 : Addr}
    {od11 an11 : Option Addr} {sl11 : Array (Option Value)} {oc11 kV11 dc11 pm11 cd11 ct11 : Value} {f11 : Addr}
    {od12 an12 : Option Addr} {sl12 : Array (Option Value)} {oc12 kV12 dc12 pm12 cd12 ct12 : Value} {f12 : Addr}
    (a0 : PySem.W.nsIn K mainGlobals "_law_mixed" = some (some (.ref f0))) (l0 : K.lookup f0 = some ⟨oc0, od0, .func (PySem.W.fnOf "_law_mixed" "_law_mixed" (defArgs st_l_mixed) (defBody st_l_mixed) (defScope st_l_mixed) .none kV0 dc0 pm0 an0 cd0 ct0), sl0⟩) (c0 : PySem.W.codeIn K cd0 "_law_mixed" = true) (k0 : PySem.W.keepIn K (.ref f0) = true)
    (a1 : PySem.W.nsIn K mainGlobals "_law_row_of" = some (some (.ref f1))) (l1 : K.lookup f1 = some ⟨oc1, od1, .func (PySem.W.fnOf "_law_row_of" "_law_row_of" (defArgs st_l_row_of) (defBody st_l_row_of) (defScope st_l_row_of) .none kV1 dc1 pm1 an1 cd1 ct1), sl1⟩) (c1 : PySem.W.codeIn K cd1 "_law_row_of" = true) (k1 : PySem.W.keepIn K (.ref f1) = true)
    (a2 : PySem.W.nsIn K mainGlobals "_law_program" = some (some (.ref f2))) (l2 : K.lookup f2 = some ⟨oc2, od2, .func (PySem.W.fnOf "_law_program" "_law_program" (defArgs st_l_program) (defBody st_l_program) (defScope st_l_program) .none kV2 dc2 pm2 an2 cd2 ct2), sl2⟩) (c2 : PySem.W.codeIn K cd2 "_law_program" = true) (k2 : PySem.W.keepIn K (.ref f2) = true)
    (a3 : PySem.W.nsIn K mainGlobals "lap_of" = some (some (.ref f3))) (l3 : K.lookup f3 = some ⟨oc3, od3, .func (PySem.W.fnOf "lap_of" "lap_of" (defArgs st_p_lap_of) (defBody st_p_lap_of) (defScope st_p_lap_of) .none kV3 dc3 pm3 an3 cd3 ct3), sl3⟩) (c3 : PySem.W.codeIn K cd3 "lap_of" = true) (k3 : PySem.W.keepIn K (.ref f3) = true)
    (a4 : PySem.W.nsIn K mainGlobals "copied" = some (some (.ref f4))) (l4 : K.lookup f4 = some ⟨oc4, od4, .func (PySem.W.fnOf "copied" "copied" (defArgs st_p_copied) (defBody st_p_copied) (defScope st_p_copied) .none kV4 dc4 pm4 an4 cd4 ct4), sl4⟩) (c4 : PySem.W.codeIn K cd4 "copied" = true) (k4 : PySem.W.keepIn K (.ref f4) = true)
    (a5 : PySem.W.nsIn K mainGlobals "up_rules" = some (some (.ref f5))) (l5 : K.lookup f5 = some ⟨oc5, od5, .func (PySem.W.fnOf "up_rules" "up_rules" (defArgs st_p_up_rules) (defBody st_p_up_rules) (defScope st_p_up_rules) .none kV5 dc5 pm5 an5 cd5 ct5), sl5⟩) (c5 : PySem.W.codeIn K cd5 "up_rules" = true) (k5 : PySem.W.keepIn K (.ref f5) = true)
    (a6 : PySem.W.nsIn K mainGlobals "down_rules" = some (some (.ref f6))) (l6 : K.lookup f6 = some ⟨oc6, od6, .func (PySem.W.fnOf "down_rules" "down_rules" (defArgs st_p_down_rules) (defBody st_p_down_rules) (defScope st_p_down_rules) .none kV6 dc6 pm6 an6 cd6 ct6), sl6⟩) (c6 : PySem.W.codeIn K cd6 "down_rules" = true) (k6 : PySem.W.keepIn K (.ref f6) = true)
    (a7 : PySem.W.nsIn K mainGlobals "make_rows" = some (some (.ref f7))) (l7 : K.lookup f7 = some ⟨oc7, od7, .func (PySem.W.fnOf "make_rows" "make_rows" (defArgs st_p_make_rows) (defBody st_p_make_rows) (defScope st_p_make_rows) .none kV7 dc7 pm7 an7 cd7 ct7), sl7⟩) (c7 : PySem.W.codeIn K cd7 "make_rows" = true) (k7 : PySem.W.keepIn K (.ref f7) = true)
    (a8 : PySem.W.nsIn K mainGlobals "_law_cell_at" = some (some (.ref f8))) (l8 : K.lookup f8 = some ⟨oc8, od8, .func (PySem.W.fnOf "_law_cell_at" "_law_cell_at" (defArgs st_l_cell_at) (defBody st_l_cell_at) (defScope st_l_cell_at) .none kV8 dc8 pm8 an8 cd8 ct8), sl8⟩) (c8 : PySem.W.codeIn K cd8 "_law_cell_at" = true) (k8 : PySem.W.keepIn K (.ref f8) = true)
    (a9 : PySem.W.nsIn K mainGlobals "_law_letters" = some (some (.ref f9))) (l9 : K.lookup f9 = some ⟨oc9, od9, .func (PySem.W.fnOf "_law_letters" "_law_letters" (defArgs st_l_letters) (defBody st_l_letters) (defScope st_l_letters) .none kV9 dc9 pm9 an9 cd9 ct9), sl9⟩) (c9 : PySem.W.codeIn K cd9 "_law_letters" = true) (k9 : PySem.W.keepIn K (.ref f9) = true)
    (a10 : PySem.W.nsIn K mainGlobals "_law_whole" = some (some (.ref f10))) (l10 : K.lookup f10 = some ⟨oc10, od10, .func (PySem.W.fnOf "_law_whole" "_law_whole" (defArgs st_l_whole) (defBody st_l_whole) (defScope st_l_whole) .none kV10 dc10 pm10 an10 cd10 ct10), sl10⟩) (c10 : PySem.W.codeIn K cd10 "_law_whole" = true) (k10 : PySem.W.keepIn K (.ref f10) = true)
    (a11 : PySem.W.nsIn K mainGlobals "_law_is_rule" = some (some (.ref f11))) (l11 : K.lookup f11 = some ⟨oc11, od11, .func (PySem.W.fnOf "_law_is_rule" "_law_is_rule" (defArgs st_l_is_rule) (defBody st_l_is_rule) (defScope st_l_is_rule) .none kV11 dc11 pm11 an11 cd11 ct11), sl11⟩) (c11 : PySem.W.codeIn K cd11 "_law_is_rule" = true) (k11 : PySem.W.keepIn K (.ref f11) = true)
    (a12 : PySem.W.nsIn K mainGlobals "law" = some (some (.ref f12))) (l12 : K.lookup f12 = some ⟨oc12, od12, .func (PySem.W.fnOf "law" "law" (defArgs st_law) (defBody st_law) (defScope st_law) .none kV12 dc12 pm12 an12 cd12 ct12), sl12⟩) (c12 : PySem.W.codeIn K cd12 "law" = true) (k12 : PySem.W.keepIn K (.ref f12) = true)
    {t_COPY : Tok} (z_COPY : PySem.W.nsIn K mainGlobals "COPY" = some (some (.int 0 t_COPY)))
    {t_TAKEN : Tok} (z_TAKEN : PySem.W.nsIn K mainGlobals "TAKEN" = some (some (.int 1 t_TAKEN)))
    {t_NOUGHT : Tok} (z_NOUGHT : PySem.W.nsIn K mainGlobals "NOUGHT" = some (some (.int 2 t_NOUGHT)))
    {t_PHASES : Tok} (z_PHASES : PySem.W.nsIn K mainGlobals "PHASES" = some (some (.int 3 t_PHASES)))
    (z_len : PySem.W.nsIn K mainGlobals "len" = some none)
    (z_isi : PySem.W.nsIn K mainGlobals "isinstance" = some none)
    (z_int : PySem.W.nsIn K mainGlobals "int" = some none)
    (z_bool : PySem.W.nsIn K mainGlobals "bool" = some none)
    (z_str : PySem.W.nsIn K mainGlobals "str" = some none)
    (z_tup : PySem.W.nsIn K mainGlobals "tuple" = some none)
    (z_lst : PySem.W.nsIn K mainGlobals "list" = some none)
    (z_rng : PySem.W.nsIn K mainGlobals "range" = some none)
    (z_enm : PySem.W.nsIn K mainGlobals "enumerate" = some none)
    (z_zip : PySem.W.nsIn K mainGlobals "zip" = some none)
    (z_rev : PySem.W.nsIn K mainGlobals "reversed" = some none)
    (z_min : PySem.W.nsIn K mainGlobals "min" = some none)
    (z_max : PySem.W.nsIn K mainGlobals "max" = some none)
    (z_sum : PySem.W.nsIn K mainGlobals "sum" = some none)
    (z_all : PySem.W.nsIn K mainGlobals "all" = some none)
    (z_dict : PySem.W.nsIn K mainGlobals "dict" = some none)
    (z_set : PySem.W.nsIn K mainGlobals "set" = some none)
    (z_sorted : PySem.W.nsIn K mainGlobals "sorted" = some none) :
    ∃ fd : FuncData, (∀ (s : Shared) (v : Value), BindsTo s fd ⟨[v], []⟩ [("_law_script", v)]) ∧ ∀ base : Heap, K.In base → base.Ns mainGlobals mg → FnOk l.prog w K mg base CX0 5 fa fd ["_law_script"] (spD K 1 g_law) := by
  have e := hfa.symm.trans (PySem.W.mg_of X G a12)
  cases e
  have bi : Bi mg := ⟨PySem.W.mg_none_of X G z_len, PySem.W.mg_none_of X G z_isi, PySem.W.mg_none_of X G z_int, PySem.W.mg_none_of X G z_bool, PySem.W.mg_none_of X G z_str, PySem.W.mg_none_of X G z_tup, PySem.W.mg_none_of X G z_lst, PySem.W.mg_none_of X G z_rng, PySem.W.mg_none_of X G z_enm, PySem.W.mg_none_of X G z_zip, PySem.W.mg_none_of X G z_rev, PySem.W.mg_none_of X G z_min, PySem.W.mg_none_of X G z_max, PySem.W.mg_none_of X G z_sum, PySem.W.mg_none_of X G z_all, PySem.W.mg_none_of X G z_dict, PySem.W.mg_none_of X G z_set, PySem.W.mg_none_of X G z_sorted⟩
  have F0 := fun_mk (st := st_l_mixed) l0 c0 k0
  have F1 := fun_mk (st := st_l_row_of) l1 c1 k1
  have F2 := fun_mk (st := st_l_program) l2 c2 k2
  have F3 := fun_mk (st := st_p_lap_of) l3 c3 k3
  have F4 := fun_mk (st := st_p_copied) l4 c4 k4
  have F5 := fun_mk (st := st_p_up_rules) l5 c5 k5
  have F6 := fun_mk (st := st_p_down_rules) l6 c6 k6
  have F7 := fun_mk (st := st_p_make_rows) l7 c7 k7
  have F8 := fun_mk (st := st_l_cell_at) l8 c8 k8
  have F9 := fun_mk (st := st_l_letters) l9 c9 k9
  have F10 := fun_mk (st := st_l_whole) l10 c10 k10
  have F11 := fun_mk (st := st_l_is_rule) l11 c11 k11
  have F12 := fun_mk (st := st_law) l12 c12 k12
  refine ⟨PySem.W.fnOf "law" "law" (defArgs st_law) (defBody st_law) (defScope st_law) .none kV12 dc12 pm12 an12 cd12 ct12, fun s v => .of_eq rfl, fun base _ _ => ?_⟩
  have d_l_mixed := ok_l_mixed (P := l.prog) (w := w) (base := base) F0 (PySem.W.mg_of X G a0) bi
  have d_l_row_of := ok_l_row_of (P := l.prog) (w := w) (base := base) F1 (PySem.W.mg_of X G a1) bi d_l_mixed
  have d_l_program := ok_l_program (P := l.prog) (w := w) (base := base) F2 (PySem.W.mg_of X G a2) bi d_l_row_of
  have d_p_lap_of := ok_p_lap_of (P := l.prog) (w := w) (base := base) F3 (PySem.W.mg_of X G a3) bi
  have d_p_copied := ok_p_copied (P := l.prog) (w := w) (base := base) F4 (PySem.W.mg_of X G a4) bi d_p_lap_of
  have d_p_up_rules := ok_p_up_rules (P := l.prog) (w := w) (base := base) F5 (PySem.W.mg_of X G a5) bi d_p_copied (PySem.W.mg_of X G z_COPY)
  have d_p_down_rules := ok_p_down_rules (P := l.prog) (w := w) (base := base) F6 (PySem.W.mg_of X G a6) bi d_p_copied d_p_lap_of (PySem.W.mg_of X G z_COPY) (PySem.W.mg_of X G z_TAKEN) (PySem.W.mg_of X G z_NOUGHT)
  have d_p_make_rows := ok_p_make_rows (P := l.prog) (w := w) (base := base) F7 (PySem.W.mg_of X G a7) bi d_p_up_rules d_p_down_rules (PySem.W.mg_of X G z_PHASES)
  have d_l_cell_at := ok_l_cell_at (P := l.prog) (w := w) (base := base) F8 (PySem.W.mg_of X G a8) bi
  have d_l_letters := ok_l_letters (P := l.prog) (w := w) (base := base) F9 (PySem.W.mg_of X G a9) bi
  have d_l_whole := ok_l_whole (P := l.prog) (w := w) (base := base) F10 (PySem.W.mg_of X G a10) bi
  have d_l_is_rule := ok_l_is_rule (P := l.prog) (w := w) (base := base) F11 (PySem.W.mg_of X G a11) bi d_l_whole d_l_letters
  exact ok_law (P := l.prog) (w := w) (base := base) F12 bi d_l_cell_at d_l_program d_p_make_rows d_l_is_rule
theorem walk {l : PySem.W.OpenLaw} {q : Program} {loose : List Str} {XP : (Str → Option Value) → Heap → Prop} {YP : World → Heap → Prop} {d : DefRec} {K : Params → PySem.W.Frag} (hn : l.most = some 63) (hdf : d.params.defaults = [])
    (hY : ∀ (w : World) (h : Heap), YP w h → (K w.params).In h)
    (F : ∀ (w : World) (mg : Str → Option Value) (fa : Addr) (h : Heap), (K w.params).In h → h.Ns mainGlobals mg → mg d.name = some (.ref fa) →
      ∃ fd : FuncData, (∀ (s : Shared) (u : Value), BindsTo s fd ⟨[u], []⟩ [("_law_script", u)]) ∧ ∀ base : Heap, (K w.params).In base → base.Ns mainGlobals mg → FnOk l.prog w (K w.params) mg base CX0 5 fa fd ["_law_script"] (spD (K w.params) 1 g_law)) :
    PySem.W.WalkO q loose XP YP l.row.toRowW d [] (fun f vs => PySem.call f vs) :=
  L2.walk_of (n := 63) (k := 5) (x := "_law_script") (CX := fun _ => CX0) (sp := fun w => spD (K w.params) 1 g_law) hn (by decide) hdf ⟨rfl, by decide, by decide⟩ hY F (fun w H a ns hl _ hS => law_sp (law_true ns hl) hS) fun _ _ _ _ _ z => z
end Q
open PySem PySem.W PyProof.Rows
set_option maxRecDepth 100000 in
set_option maxHeartbeats 0 in
theorem PySem.Challenge.cw_oneofall_k34_rules_that_are_made_holds : PySem.Challenge.rw_oneofall_k34_rules_that_are_made.Holds := by
  w_on; o_law; k_head; (case hw => w_witness2)
  k_fill
  refine Q.walk (l := PySem.Challenge.rw_oneofall_k34_rules_that_are_made) rfl rfl (fun w h Y => PySem.W.kIn_of Y) ?F
  case F =>
    intro w mg fa h KX G hmg
    refine' Q.all_mk KX G hmg ?a0 ?l0 ?c0 ?k0 ?a1 ?l1 ?c1 ?k1 ?a2 ?l2 ?c2 ?k2 ?a3 ?l3 ?c3 ?k3 ?a4 ?l4 ?c4 ?k4 ?a5 ?l5 ?c5 ?k5 ?a6 ?l6 ?c6 ?k6 ?a7 ?l7 ?c7 ?k7 ?a8 ?l8 ?c8 ?k8 ?a9 ?l9 ?c9 ?k9 ?a10 ?l10 ?c10 ?k10 ?a11 ?l11 ?c11 ?k11 ?a12 ?l12 ?c12 ?k12 ?z_COPY ?z_TAKEN ?z_NOUGHT ?z_PHASES ?z_len ?z_isi ?z_int ?z_bool ?z_str ?z_tup ?z_lst ?z_rng ?z_enm ?z_zip ?z_rev ?z_min ?z_max ?z_sum ?z_all ?z_dict ?z_set ?z_sorted
    (case a0 => k_is); (case l0 => k_is); (case c0 => k_is); (case k0 => k_is)
    (case a1 => k_is); (case l1 => k_is); (case c1 => k_is); (case k1 => k_is)
    (case a2 => k_is); (case l2 => k_is); (case c2 => k_is); (case k2 => k_is)
    (case a3 => k_is); (case l3 => k_is); (case c3 => k_is); (case k3 => k_is)
    (case a4 => k_is); (case l4 => k_is); (case c4 => k_is); (case k4 => k_is)
    (case a5 => k_is); (case l5 => k_is); (case c5 => k_is); (case k5 => k_is)
    (case a6 => k_is); (case l6 => k_is); (case c6 => k_is); (case k6 => k_is)
    (case a7 => k_is); (case l7 => k_is); (case c7 => k_is); (case k7 => k_is)
    (case a8 => k_is); (case l8 => k_is); (case c8 => k_is); (case k8 => k_is)
    (case a9 => k_is); (case l9 => k_is); (case c9 => k_is); (case k9 => k_is)
    (case a10 => k_is); (case l10 => k_is); (case c10 => k_is); (case k10 => k_is)
    (case a11 => k_is); (case l11 => k_is); (case c11 => k_is); (case k11 => k_is)
    (case a12 => k_is); (case l12 => k_is); (case c12 => k_is); (case k12 => k_is)
    (case z_COPY => k_is)
    (case z_TAKEN => k_is)
    (case z_NOUGHT => k_is)
    (case z_PHASES => k_is)
    (case z_len => k_is)
    (case z_isi => k_is)
    (case z_int => k_is)
    (case z_bool => k_is)
    (case z_str => k_is)
    (case z_tup => k_is)
    (case z_lst => k_is)
    (case z_rng => k_is)
    (case z_enm => k_is)
    (case z_zip => k_is)
    (case z_rev => k_is)
    (case z_min => k_is)
    (case z_max => k_is)
    (case z_sum => k_is)
    (case z_all => k_is)
    (case z_dict => k_is)
    (case z_set => k_is)
    (case z_sorted => k_is)

