import PyProof.Rows.All
import Wide.All
import OpenK.AllK
import Wide.FinOn
import HandS.ForMost
import HandS.IsInst
import HandS.Style
import HandS.Wide
import HandS.Flow
import HandS.Deep
import HandS.TupAny
import HandS.Exc
import HandS.Defaults
import HandS.Text
import HandS.StrMore
import HandS.Codes
import HandS.NoneIn
import HandS.RevTup
import HandS.Rev
import HandS.Dict
import HandS.ReplaceLit
import HandS.ExcInit
import HandS.ExcField
import HandS.WordsExc
import KE.KExcIs
import HandS.More
import KE.DataMinMax
import HandS.SortKw
import PySem.Challenge.RW_oneofall_k15_lines_that_tell_no_row
set_option Elab.async false
set_option maxRecDepth 100000
set_option maxHeartbeats 4000000
set_option linter.all false
/-! Z0: data over ground heaps; the state of slots; what a reading tells of data -/
namespace Z
open PySem PySem.Spec PyProof.Rows L2

abbrev D := PyData
def kD : Key → D
  | .inl i => .int i
  | .inr x => .str x

/-! ### ground heaps: what is owned is hidden -/
def hid (H : Hp) (O : List Addr) : Hp := fun a => if a ∈ O then none else H a
theorem hid_in {H : Hp} {O : List Addr} {a : Addr} (h : a ∈ O) : hid H O a = none := by
  unfold hid; rw [if_pos h]
theorem hid_out {H : Hp} {O : List Addr} {a : Addr} (h : a ∉ O) : hid H O a = H a := by
  unfold hid; rw [if_neg h]
theorem of_hid {H : Hp} {O : List Addr} {a : Addr} {o : HO} (h : hid H O a = some o) : a ∉ O ∧ H a = some o := by
  by_cases q : a ∈ O
  · rw [hid_in q] at h; cases h
  · rw [hid_out q] at h; exact ⟨q, h⟩
theorem hid_grow {H H' : Hp} {O : List Addr} (e : Same H H') : Same (hid H O) (hid H' O) := fun a o h => by
  obtain ⟨q, h⟩ := of_hid h
  rw [hid_out q]; exact e a o h
theorem hid_less {H : Hp} {O O' : List Addr} (e : ∀ a ∈ O', a ∈ O) : Same (hid H O) (hid H O') := fun a o h => by
  obtain ⟨q, h⟩ := of_hid h
  rw [hid_out fun z => q (e a z)]; exact h
theorem hid_self (H : Hp) (O : List Addr) : Same (hid H O) H := fun _ _ h => (of_hid h).2
theorem hid_new {H : Hp} {O : List Addr} {l : Addr} (o : HO) (n : H l = none) : Same (hid H O) (hid (upd H l o) (l :: O)) := fun a u h => by
  obtain ⟨q, h⟩ := of_hid h
  have ne : a ≠ l := ne_of_none h n
  rw [hid_out (by simp only [List.mem_cons, not_or]; exact ⟨ne, q⟩), upd_ne ne]; exact h
theorem hid_write {H : Hp} {O : List Addr} {l : Addr} (o : HO) (m : l ∈ O) : hid (upd H l o) O = hid H O := by
  funext a
  by_cases q : a ∈ O
  · rw [hid_in q, hid_in q]
  · rw [hid_out q, hid_out q, upd_ne (fun e : a = l => q (by rw [e]; exact m))]
theorem same_new {H : Hp} {p : Addr} (o : HO) (h : H p = none) : Same H (upd H p o) := fun b u q => by rw [upd_ne (ne_of_none q h)]; exact q

theorem Rd.mono {G G' : Hp} {a : Addr} {u : HO} (e : Same G G') (h : Rd G a u) : Rd G' a u := by
  rcases h with h | ⟨o, h⟩
  · exact .inl (e _ _ h)
  · exact .inr ⟨o, e _ _ h⟩
theorem SqL.mono {K : PySem.W.Frag} {G G' : Hp} {a : Addr} {xs : List V} (e : Same G G') (h : SqL K G a xs) : SqL K G' a xs := by
  rcases h with h | h
  · exact .inl (Rd.mono e h)
  · exact .inr h
theorem SqT.mono {K : PySem.W.Frag} {G G' : Hp} {a : Addr} {xs : List V} (e : Same G G') (h : SqT K G a xs) : SqT K G' a xs := by
  rcases h with h | h
  · exact .inl (Rd.mono e h)
  · exact .inr h

/-! ### data -/
mutual
inductive Dq (K : PySem.W.Frag) (G : Hp) : V → PyData → Prop
  | non : Dq K G .non .none
  | bl (b : Bool) : Dq K G (.bl b) (.bool b)
  | int (i : Int) : Dq K G (.int i) (.int i)
  | str (x : Str) : Dq K G (.str x) (.str x)
  | lst {a : Addr} {xs : List V} {ds : List PyData} : SqL K G a xs → DqAll K G xs ds → Dq K G (.ref a) (.list ds)
  | tup {a : Addr} {xs : List V} {ds : List PyData} : SqT K G a xs → DqAll K G xs ds → Dq K G (.ref a) (.tuple ds)
  | dic {a : Addr} {kvs : List (Key × V)} {ds : List (PyData × PyData)} : G a = some (.dK kvs) → DqKv K G kvs ds → Dq K G (.ref a) (.dict ds)
  | dct {a : Addr} {kvs : List (List Key × V)} {ds : List (PyData × PyData)} : G a = some (.dT kvs) → DqTv K G kvs ds → Dq K G (.ref a) (.dict ds)
inductive DqAll (K : PySem.W.Frag) (G : Hp) : List V → List PyData → Prop
  | nil : DqAll K G [] []
  | cons {v : V} {vs : List V} {d : PyData} {ds : List PyData} : Dq K G v d → DqAll K G vs ds → DqAll K G (v :: vs) (d :: ds)
inductive DqKv (K : PySem.W.Frag) (G : Hp) : List (Key × V) → List (PyData × PyData) → Prop
  | nil : DqKv K G [] []
  | cons {k : Key} {v : V} {kvs : List (Key × V)} {d : PyData} {ds : List (PyData × PyData)} : Dq K G v d → DqKv K G kvs ds → DqKv K G ((k, v) :: kvs) ((kD k, d) :: ds)
/-- a dict whose keys are tuples: a mark behind its pairs -/
inductive DqTv (K : PySem.W.Frag) (G : Hp) : List (List Key × V) → List (PyData × PyData) → Prop
  | nil : DqTv K G [] [(.none, .none)]
  | cons {k : List Key} {v : V} {kvs : List (List Key × V)} {d : PyData} {ds : List (PyData × PyData)} : Dq K G v d → DqTv K G kvs ds → DqTv K G ((k, v) :: kvs) ((.tuple (k.map kD), d) :: ds)
end

mutual
theorem Dq.mono {K : PySem.W.Frag} {G G' : Hp} (e : Same G G') : ∀ (d : PyData) (v : V), Dq K G v d → Dq K G' v d
  | .none, _, h => by cases h; exact .non
  | .bool b, _, h => by cases h; exact .bl b
  | .int i, _, h => by cases h; exact .int i
  | .str x, _, h => by cases h; exact .str x
  | .list ds, _, h => by
    cases h with
    | lst hs ha => exact .lst (SqL.mono e hs) (DqAll.mono e ds _ ha)
  | .tuple ds, _, h => by
    cases h with
    | tup hs ha => exact .tup (SqT.mono e hs) (DqAll.mono e ds _ ha)
  | .dict ds, _, h => by
    cases h with
    | dic hs ha => exact .dic (e _ _ hs) (DqKv.mono e ds _ ha)
    | dct hs ha => exact .dct (e _ _ hs) (DqTv.mono e ds _ ha)
theorem DqAll.mono {K : PySem.W.Frag} {G G' : Hp} (e : Same G G') : ∀ (ds : List PyData) (vs : List V), DqAll K G vs ds → DqAll K G' vs ds
  | [], _, h => by cases h; exact .nil
  | d :: ds, _, h => by
    cases h with
    | cons h1 h2 => exact .cons (Dq.mono e d _ h1) (DqAll.mono e ds _ h2)
theorem DqKv.mono {K : PySem.W.Frag} {G G' : Hp} (e : Same G G') : ∀ (ds : List (PyData × PyData)) (kvs : List (Key × V)), DqKv K G kvs ds → DqKv K G' kvs ds
  | [], _, h => by cases h; exact .nil
  | (_, d) :: ds, _, h => by
    cases h with
    | cons h1 h2 => exact .cons (Dq.mono e d _ h1) (DqKv.mono e ds _ h2)
theorem DqTv.mono {K : PySem.W.Frag} {G G' : Hp} (e : Same G G') : ∀ (ds : List (PyData × PyData)) (kvs : List (List Key × V)), DqTv K G kvs ds → DqTv K G' kvs ds
  | [], _, h => by cases h
  | (_, d) :: ds, _, h => by
    cases h with
    | nil => exact .nil
    | cons h1 h2 => exact .cons (Dq.mono e d _ h1) (DqTv.mono e ds _ h2)
end

mutual
/-- no list, no dict within -/
def imm : PyData → Bool
  | .none => true
  | .bool _ => true
  | .int _ => true
  | .str _ => true
  | .list _ => false
  | .tuple ds => immAll ds
  | .dict _ => false
def immAll : List PyData → Bool
  | [] => true
  | d :: ds => imm d && immAll ds
end
mutual
theorem Dq.move {K : PySem.W.Frag} {G G' : Hp} (e : ∀ a xs, SqT K G a xs → SqT K G' a xs) : ∀ (d : PyData) (v : V), imm d = true → Dq K G v d → Dq K G' v d
  | .none, _, _, h => by cases h; exact .non
  | .bool b, _, _, h => by cases h; exact .bl b
  | .int i, _, _, h => by cases h; exact .int i
  | .str x, _, _, h => by cases h; exact .str x
  | .list ds, _, i, _ => by simp [imm] at i
  | .tuple ds, _, i, h => by
    cases h with
    | tup hs ha => exact .tup (e _ _ hs) (DqAll.move e ds _ (by simpa [imm] using i) ha)
  | .dict ds, _, i, _ => by simp [imm] at i
theorem DqAll.move {K : PySem.W.Frag} {G G' : Hp} (e : ∀ a xs, SqT K G a xs → SqT K G' a xs) : ∀ (ds : List PyData) (vs : List V), immAll ds = true → DqAll K G vs ds → DqAll K G' vs ds
  | [], _, _, h => by cases h; exact .nil
  | d :: ds, _, i, h => by
    have i' : imm d = true ∧ immAll ds = true := by simpa [immAll] using i
    cases h with
    | cons h1 h2 => exact .cons (Dq.move e d _ i'.1 h1) (DqAll.move e ds _ i'.2 h2)
end
mutual
/-- to the library's data (for ==): no dict within -/
theorem Dq.toDp {K : PySem.W.Frag} {G : Hp} : ∀ (d : PyData) (v : V), PyData.canLay0 d = true → Dq K G v d → Dp K G v d
  | .none, _, _, h => by cases h; exact .non
  | .bool b, _, _, h => by cases h; exact .bl b
  | .int i, _, _, h => by cases h; exact .int i
  | .str x, _, _, h => by cases h; exact .str x
  | .list ds, _, c, h => by
    cases h with
    | lst hs ha => exact .lst hs (DqAll.toDp ds _ (by simpa [PyData.canLay0] using c) ha)
  | .tuple ds, _, c, h => by
    cases h with
    | tup hs ha => exact .tup hs (DqAll.toDp ds _ (by simpa [PyData.canLay0] using c) ha)
  | .dict ds, _, c, _ => by simp [PyData.canLay0] at c
theorem DqAll.toDp {K : PySem.W.Frag} {G : Hp} : ∀ (ds : List PyData) (vs : List V), PyData.canLayAll0 ds = true → DqAll K G vs ds → DpAll K G vs ds
  | [], _, _, h => by cases h; exact .nil
  | d :: ds, _, c, h => by
    have c' : PyData.canLay0 d = true ∧ PyData.canLayAll0 ds = true := by simpa [PyData.canLayAll0] using c
    cases h with
    | cons h1 h2 => exact .cons (Dq.toDp d _ c'.1 h1) (DqAll.toDp ds _ c'.2 h2)
end
section
variable {K : PySem.W.Frag} {G : Hp}
theorem DqAll.length : ∀ {vs : List V} {ds : List PyData}, DqAll K G vs ds → vs.length = ds.length
  | _, _, .nil => rfl
  | _, _, .cons _ t => congrArg (· + 1) (DqAll.length t)
theorem DqAll.get : ∀ {vs : List V} {ds : List PyData} {i : Nat} {d : PyData}, DqAll K G vs ds → ds[i]? = some d → ∃ v, vs[i]? = some v ∧ Dq K G v d
  | _, _, _, _, .nil, e => by simp at e
  | _, _, 0, _, .cons r _, e => by simp at e; subst e; exact ⟨_, rfl, r⟩
  | _, _, i + 1, d, .cons _ t, e => by
    obtain ⟨v, h1, h2⟩ := DqAll.get (i := i) (d := d) t (by simpa using e)
    exact ⟨v, by simpa using h1, h2⟩
theorem DqAll.getV : ∀ {vs : List V} {ds : List PyData} {i : Nat} {v : V}, DqAll K G vs ds → vs[i]? = some v → ∃ d, ds[i]? = some d ∧ Dq K G v d
  | _, _, _, _, .nil, e => by simp at e
  | _, _, 0, _, .cons r _, e => by simp at e; subst e; exact ⟨_, rfl, r⟩
  | _, _, i + 1, d, .cons _ t, e => by
    obtain ⟨v, h1, h2⟩ := DqAll.getV (i := i) (v := d) t (by simpa using e)
    exact ⟨v, by simpa using h1, h2⟩
theorem DqAll.append : ∀ {vs ws : List V} {ds es : List PyData}, DqAll K G vs ds → DqAll K G ws es → DqAll K G (vs ++ ws) (ds ++ es)
  | _, _, _, _, .nil, s => s
  | _, _, _, _, .cons r t, s => .cons r (DqAll.append t s)
theorem DqAll.take : ∀ {vs : List V} {ds : List PyData} (n : Nat), DqAll K G vs ds → DqAll K G (vs.take n) (ds.take n)
  | _, _, 0, _ => by simp only [List.take_zero]; exact .nil
  | _, _, _ + 1, .nil => .nil
  | _, _, n + 1, .cons r t => .cons r (DqAll.take n t)
theorem DqAll.drop : ∀ {vs : List V} {ds : List PyData} (n : Nat), DqAll K G vs ds → DqAll K G (vs.drop n) (ds.drop n)
  | _, _, 0, r => r
  | _, _, _ + 1, .nil => .nil
  | _, _, n + 1, .cons _ t => DqAll.drop n t
theorem DqAll.set {v : V} {d : PyData} (r : Dq K G v d) : ∀ {vs : List V} {ds : List PyData} (i : Nat), DqAll K G vs ds → DqAll K G (vs.set i v) (ds.set i d)
  | _, _, _, .nil => .nil
  | _, _, 0, .cons _ t => .cons r t
  | _, _, i + 1, .cons q t => .cons q (DqAll.set r i t)
theorem DqAll.eraseIdx : ∀ {vs : List V} {ds : List PyData} (i : Nat), DqAll K G vs ds → DqAll K G (vs.eraseIdx i) (ds.eraseIdx i)
  | _, _, _, .nil => .nil
  | _, _, 0, .cons _ t => t
  | _, _, i + 1, .cons q t => .cons q (DqAll.eraseIdx i t)
theorem DqAll.dropLast : ∀ {vs : List V} {ds : List PyData}, DqAll K G vs ds → DqAll K G vs.dropLast ds.dropLast
  | _, _, .nil => .nil
  | _, _, .cons _ .nil => .nil
  | _, _, .cons q (.cons r t) => .cons q (DqAll.dropLast (.cons r t))
theorem DqAll.reverse {vs : List V} {ds : List PyData} (h : DqAll K G vs ds) : DqAll K G vs.reverse ds.reverse := by
  induction vs generalizing ds with
  | nil => cases h; exact .nil
  | cons v vs ih =>
    cases h with
    | cons a b => rw [List.reverse_cons, List.reverse_cons]; exact (ih b).append (.cons a .nil)
theorem DqAll.map {α : Type} {f : α → V} {g : α → D} (h : ∀ x, Dq K G (f x) (g x)) : ∀ xs : List α, DqAll K G (xs.map f) (xs.map g)
  | [] => .nil
  | x :: xs => .cons (h x) (DqAll.map h xs)
theorem DqAll.ints : ∀ {vs : List V} {ns : List Int}, DqAll K G vs (ns.map .int) → vs = ns.map V.int
  | _, [], h => by cases h; rfl
  | _, n :: ns, h => by
    cases h with
    | cons a b => cases a; rw [DqAll.ints b]; rfl
theorem DqAll.strs : ∀ {vs : List V} {ns : List Str}, DqAll K G vs (ns.map .str) → vs = ns.map V.str
  | _, [], h => by cases h; rfl
  | _, n :: ns, h => by
    cases h with
    | cons a b => cases a; rw [DqAll.strs b]; rfl
theorem DqAll.bls : ∀ {vs : List V} {ns : List Bool}, DqAll K G vs (ns.map .bool) → vs = ns.map V.bl
  | _, [], h => by cases h; rfl
  | _, n :: ns, h => by
    cases h with
    | cons a b => cases a; rw [DqAll.bls b]; rfl
theorem DqAll.one {v : V} {d : D} (h : Dq K G v d) : DqAll K G [v] [d] := .cons h .nil
end

/-! ### the state: slots of ground data, of owned lists and dicts -/
inductive SV
  | ro (d : D)
  | ow (ds : List D)
  | oK (tt : Bool) (ds : List (D × D))
  | lr (ds : List D)
  | xc (nm : Str) (at_ : D)
abbrev En := List (Option SV)
def SV.owned : SV → Bool
  | .ro _ => false
  | .ow _ => true
  | .oK _ _ => true
  | .lr _ => false
  | .xc _ _ => false
def mark : D × D := (.none, .none)
def tails (tt : Bool) (ds : List (D × D)) : List (D × D) := if tt = true then ds ++ [mark] else ds
def DObj (K : PySem.W.Frag) (G : Hp) (tt : Bool) (o : HO) (ds : List (D × D)) : Prop :=
  (tt = false ∧ ∃ vs, o = .dK vs ∧ DqKv K G vs ds) ∨ (tt = true ∧ ∃ vs, o = .dT vs ∧ DqTv K G vs (ds ++ [mark]))
theorem DObj.mono {K : PySem.W.Frag} {G G' : Hp} (e : Same G G') {tt : Bool} {o : HO} {ds : List (D × D)} (h : DObj K G tt o ds) : DObj K G' tt o ds := by
  rcases h with ⟨a, vs, b, c⟩ | ⟨a, vs, b, c⟩
  · exact .inl ⟨a, vs, b, DqKv.mono e _ _ c⟩
  · exact .inr ⟨a, vs, b, DqTv.mono e _ _ c⟩
def isMut : HO → Bool
  | .lst _ => true
  | .dK _ => true
  | .dT _ => true
  | .ins _ _ _ => true
  | _ => false
/-- the class of a name -/
def clsOf (K : PySem.W.Frag) (nm : Str) : Option Addr := match PySem.W.nsIn K mainGlobals nm with
  | some (some (.ref C)) => some C
  | _ => none
/-- an exception object that was caught, tracked: its class, its own dict -/
def ExK (cls : Value) (d : Option Addr) (a : Addr) : HO := .ext fun h => ∃ (oe : Obj) (vs : Array Value), h.get? a = some oe ∧ L2.Zc cls d oe ∧ oe.data = .fields vs
def SOk (K : PySem.W.Frag) (O0 : List Addr) (H : Hp) (O : List Addr) (v : V) : SV → Prop
  | .ro d => Dq K (hid H O) v d
  | .ow ds => ∃ l vs, v = .ref l ∧ l ∈ O ∧ l ∉ O0 ∧ H l = some (.lst vs) ∧ DqAll K (hid H O) vs ds
  | .oK tt ds => ∃ l o, v = .ref l ∧ l ∈ O ∧ l ∉ O0 ∧ H l = some o ∧ DObj K (hid H O) tt o ds
  | .lr ds => ∃ l vs, v = .ref l ∧ hid H O l = some (.lst vs) ∧ DqAll K (hid H O) vs ds
  | .xc nm at_ => ∃ a d C u, v = .ref a ∧ hid H O a = some (ExK (.ref C) (some d) a) ∧ clsOf K nm = some C ∧ hid H O d = some (.xd [(("at" : Str), u)]) ∧ Dq K (hid H O) u at_

/-- the entry of a def: its heap, what is hidden there, what may be changed -/
structure Bs where
  K : PySem.W.Frag
  H0 : Hp
  O0 : List Addr
  L : List Addr
  pin : Option (Nat × Addr)
  W : L2.WX
/-- no exception leaves -/
def W0 : L2.WX := fun _ _ _ _ => False
/-- a slot that may be stored in -/
def free (B : Bs) (i : Nat) : Bool := match B.pin with
  | none => true
  | some p => p.1 != i
theorem free_ne {B : Bs} {i j : Nat} {l : Addr} (h : free B i = true) (e : B.pin = some (j, l)) : i ≠ j := fun z => by
  unfold free at h
  rw [e] at h
  subst z
  simp at h

structure RS (K : PySem.W.Frag) (B : Bs) (ρ : En) (σ : L2.St) (H : Hp) (O : List Addr) : Prop where
  len : ρ.length = σ.length
  slot : ∀ (i : Nat) s, ρ[i]? = some (some s) → ∃ v, σ[i]? = some (some v) ∧ SOk K B.O0 H O v s
  uniq : ∀ (i j : Nat) s s' l, i ≠ j → ρ[i]? = some (some s) → ρ[j]? = some (some s') → s.owned = true → s'.owned = true → σ[i]? = some (some (V.ref l)) → σ[j]? = some (some (V.ref l)) → False
  same : ∀ a o, a ∉ B.L → B.H0 a = some o → H a = some o
  own : ∀ a ∈ O, a ∈ B.O0 ∨ a ∈ B.L ∨ B.H0 a = none
  mu : ∀ a ∈ O, ∃ o, H a = some o ∧ isMut o = true
  sub0 : ∀ a ∈ B.O0, a ∈ O ∧ a ∉ B.L ∧ ∃ o, B.H0 a = some o
  lo : ∀ a ∈ B.L, a ∈ O
  pin : ∀ i l, B.pin = some (i, l) → σ[i]? = some (some (V.ref l))

theorem pin_set {K : PySem.W.Frag} {B : Bs} {ρ : En} {σ : L2.St} {H : Hp} {O : List Addr} (R : RS K B ρ σ H O) {i : Nat} {v : Option V} (hp : free B i = true) : ∀ j l', B.pin = some (j, l') → (σ.set i v)[j]? = some (some (V.ref l')) := fun j l' e => by
  rw [List.getElem?_set_ne (free_ne hp e)]
  exact R.pin j l' e
section
variable {K : PySem.W.Frag} {B : Bs} {ρ : En} {σ : L2.St} {H H' : Hp} {O : List Addr}
theorem Paired.imp {α β : Type} {F G : α → β → Prop} (f : ∀ a b, F a b → G a b) : ∀ {l₁ : List α} {l₂ : List β}, Paired F l₁ l₂ → Paired G l₁ l₂
  | _, _, .nil => .nil
  | _, _, .cons r t => .cons (f _ _ r) (Paired.imp f t)
theorem SOk.grow {O0 O' : List Addr} {v : V} (e : ∀ l, l ∈ O → l ∉ O0 → l ∈ O' ∧ H' l = H l) (g : Same (hid H O) (hid H' O')) : ∀ {s : SV}, SOk K O0 H O v s → SOk K O0 H' O' v s
  | .ro d, h => Dq.mono g d v h
  | .ow ds, ⟨l, vs, a, b, c, d, f⟩ => ⟨l, vs, a, (e l b c).1, c, (e l b c).2.trans d, DqAll.mono g _ _ f⟩
  | .oK tt ds, ⟨l, o, a, b, c, d, f⟩ => ⟨l, o, a, (e l b c).1, c, (e l b c).2.trans d, DObj.mono g f⟩
  | .lr ds, ⟨l, vs, a, b, f⟩ => ⟨l, vs, a, g _ _ b, DqAll.mono g _ _ f⟩
  | .xc nm at_, ⟨a, d, C, u, e1, e2, e3, e4, e5⟩ => ⟨a, d, C, u, e1, g _ _ e2, e3, g _ _ e4, Dq.mono g _ _ e5⟩
theorem RS.fresh (R : RS K B ρ σ H O) {p : Addr} (h : H p = none) : p ∉ O := fun z => by
  obtain ⟨o, e, _⟩ := R.mu p z
  rw [h] at e; cases e
/-- all that was tracked stays -/
theorem RS.grow (R : RS K B ρ σ H O) (e : Same H H') : RS K B ρ σ H' O where
  len := R.len
  slot := fun i s h => by
    obtain ⟨v, a, b⟩ := R.slot i s h
    refine ⟨v, a, SOk.grow (fun l hl _ => ⟨hl, ?_⟩) (hid_grow e) b⟩
    obtain ⟨o, q, _⟩ := R.mu l hl
    rw [q, e l o q]
  uniq := R.uniq
  same := fun a o h1 h2 => e a o (R.same a o h1 h2)
  own := R.own
  mu := fun a h => let ⟨o, q, m⟩ := R.mu a h; ⟨o, e a o q, m⟩
  sub0 := R.sub0
  lo := R.lo
  pin := R.pin
theorem RS.fresh0 (R : RS K B ρ σ H O) {p : Addr} (h : H p = none) : B.H0 p = none := by
  cases q : B.H0 p with
  | none => rfl
  | some o =>
    by_cases hl : p ∈ B.L
    · exact absurd (R.lo p hl) (R.fresh h)
    · have := R.same p o hl q
      rw [h] at this; cases this
/-- a fresh object becomes owned -/
theorem RS.take (R : RS K B ρ σ H O) {l : Addr} (n : l ∉ O) (n0 : B.H0 l = none) {o : HO} (h : H l = some o) (m : isMut o = true) (g : ∀ (i : Nat) s, ρ[i]? = some (some s) → ∃ v, σ[i]? = some (some v) ∧ SOk K B.O0 H (l :: O) v s) : RS K B ρ σ H (l :: O) where
  len := R.len
  slot := g
  uniq := R.uniq
  same := R.same
  own := fun a ha => by
    rcases List.mem_cons.mp ha with rfl | ha
    · exact .inr (.inr n0)
    · exact R.own a ha
  mu := fun a ha => by
    rcases List.mem_cons.mp ha with rfl | ha
    · exact ⟨o, h, m⟩
    · exact R.mu a ha
  sub0 := fun a ha => let ⟨x, y, z⟩ := R.sub0 a ha; ⟨List.mem_cons_of_mem _ x, y, z⟩
  lo := fun a ha => List.mem_cons_of_mem _ (R.lo a ha)
  pin := R.pin
/-- a tuple of the heap is never hidden -/
theorem RS.tups (R : RS K B ρ σ H O) (O' : List Addr) : ∀ a xs, SqT K (hid H O') a xs → SqT K (hid H O) a xs := fun a xs h => by
  rcases h with h | h
  · refine .inl ?_
    have q : ∀ o, hid H O' a = some o → isMut o = false → hid H O a = some o := fun o e m => by
      obtain ⟨_, e⟩ := of_hid e
      rw [hid_out]
      · exact e
      · intro z
        obtain ⟨o', e', m'⟩ := R.mu a z
        rw [e] at e'; cases e'
        rw [m] at m'; cases m'
    rcases h with h | ⟨o, h⟩
    · exact .inl (q _ h rfl)
    · exact .inr ⟨o, q _ h rfl⟩
  · exact .inr h
end
end Z

set_option Elab.async false
set_option maxRecDepth 100000
set_option maxHeartbeats 4000000
set_option linter.all false
/-! Z1: expressions -/
namespace Z
open PySem PySem.Spec PyProof.Rows L2

/-! ### a value that is read: ground, or an owned one -/
def Bo (K : PySem.W.Frag) (H : Hp) (O : List Addr) (v : V) (d : D) : Prop :=
  Dq K (hid H O) v d ∨ (∃ l vs ds, v = .ref l ∧ d = .list ds ∧ l ∈ O ∧ H l = some (.lst vs) ∧ DqAll K (hid H O) vs ds) ∨
  ∃ l o tt ds, v = .ref l ∧ d = .dict (tails tt ds) ∧ l ∈ O ∧ H l = some o ∧ DObj K (hid H O) tt o ds
inductive BoAll (K : PySem.W.Frag) (H : Hp) (O : List Addr) : List V → List D → Prop
  | nil : BoAll K H O [] []
  | cons {v : V} {vs : List V} {d : D} {ds : List D} : Bo K H O v d → BoAll K H O vs ds → BoAll K H O (v :: vs) (d :: ds)
theorem dobj_dq {K : PySem.W.Frag} {G : Hp} {l : Addr} {tt : Bool} {o : HO} {ds : List (D × D)} (h : G l = some o) (a : DObj K G tt o ds) : Dq K G (.ref l) (.dict (tails tt ds)) := by
  rcases a with ⟨rfl, vs, rfl, c⟩ | ⟨rfl, vs, rfl, c⟩
  · exact .dic h c
  · exact .dct h c
section
variable {K : PySem.W.Frag} {B : Bs} {ρ : En} {σ : L2.St} {H H' : Hp} {O : List Addr}
theorem Bo.full {v : V} {d : D} (h : Bo K H O v d) : Dq K H v d := by
  rcases h with h | ⟨l, vs, ds, rfl, rfl, _, h, a⟩ | ⟨l, o, tt, kvs, rfl, rfl, _, h, a⟩
  · exact Dq.mono (hid_self H O) _ _ h
  · exact .lst (SqL.of h) (DqAll.mono (hid_self H O) _ _ a)
  · exact dobj_dq h (DObj.mono (hid_self H O) a)
theorem Bo.grow {v : V} {d : D} (R : RS K B ρ σ H O) (e : Same H H') (h : Bo K H O v d) : Bo K H' O v d := by
  rcases h with h | ⟨l, vs, ds, rfl, rfl, m, h, a⟩ | ⟨l, o, tt, kvs, rfl, rfl, m, h, a⟩
  · exact .inl (Dq.mono (hid_grow e) _ _ h)
  · exact .inr (.inl ⟨l, vs, ds, rfl, rfl, m, e _ _ h, DqAll.mono (hid_grow e) _ _ a⟩)
  · exact .inr (.inr ⟨l, o, tt, kvs, rfl, rfl, m, e _ _ h, DObj.mono (hid_grow e) a⟩)
theorem BoAll.grow (R : RS K B ρ σ H O) (e : Same H H') : ∀ {vs : List V} {ds : List D}, BoAll K H O vs ds → BoAll K H' O vs ds
  | _, _, .nil => .nil
  | _, _, .cons h t => .cons (h.grow R e) (BoAll.grow R e t)
/-- a list that is read: its items are ground -/
theorem Bo.list {v : V} {ds : List D} (h : Bo K H O v (.list ds)) : ∃ a vs, v = .ref a ∧ SqL K H a vs ∧ DqAll K (hid H O) vs ds := by
  rcases h with h | ⟨l, vs, ds', rfl, e, m, h, a⟩ | ⟨l, o, tt, kvs, rfl, e, m, h, a⟩
  · cases h with
    | lst hs ha => exact ⟨_, _, rfl, SqL.mono (hid_self H O) hs, ha⟩
  · cases e; exact ⟨l, vs, rfl, SqL.of h, a⟩
  · cases e
theorem Bo.tup {v : V} {ds : List D} (h : Bo K H O v (.tuple ds)) : ∃ a vs, v = .ref a ∧ SqT K (hid H O) a vs ∧ DqAll K (hid H O) vs ds := by
  rcases h with h | ⟨l, vs, ds', rfl, e, m, h, a⟩ | ⟨l, o, tt, kvs, rfl, e, m, h, a⟩
  · cases h with
    | tup hs ha => exact ⟨_, _, rfl, hs, ha⟩
  · cases e
  · cases e
theorem Bo.int {v : V} {i : Int} (h : Bo K H O v (.int i)) : v = .int i := by
  rcases h with h | ⟨l, vs, ds', rfl, e, m, h, a⟩ | ⟨l, o, tt, kvs, rfl, e, m, h, a⟩
  · cases h; rfl
  · cases e
  · cases e
theorem Bo.str {v : V} {i : Str} (h : Bo K H O v (.str i)) : v = .str i := by
  rcases h with h | ⟨l, vs, ds', rfl, e, m, h, a⟩ | ⟨l, o, tt, kvs, rfl, e, m, h, a⟩
  · cases h; rfl
  · cases e
  · cases e
theorem Bo.bl {v : V} {i : Bool} (h : Bo K H O v (.bool i)) : v = .bl i := by
  rcases h with h | ⟨l, vs, ds', rfl, e, m, h, a⟩ | ⟨l, o, tt, kvs, rfl, e, m, h, a⟩
  · cases h; rfl
  · cases e
  · cases e
theorem Bo.non {v : V} (h : Bo K H O v .none) : v = .non := by
  rcases h with h | ⟨l, vs, ds', rfl, e, m, h, a⟩ | ⟨l, o, tt, kvs, rfl, e, m, h, a⟩
  · cases h; rfl
  · cases e
  · cases e
theorem Bo.ne_non {v : V} {d : D} (h : Bo K H O v d) : decide (v = V.non) = (match d with | .none => true | _ => false) := by
  rcases h with h | ⟨l, vs, ds', rfl, rfl, m, h, a⟩ | ⟨l, o, tt, kvs, rfl, rfl, m, h, a⟩
  · cases h <;> simp
  · simp
  · simp
end

/-! ### what a reading tells -/
section
variable (K : PySem.W.Frag) (B : Bs)
/-- ground data; data that may be owned; a new list; a truth; arguments -/
def DE (t : TE) (f : En → Option D) : Prop := ∀ ρ σ H O d, RS K B ρ σ H O → f ρ = some d → ∀ Q : VK, (∀ v H', Same H H' → Dq K (hid H' O) v d → Q v H') → t σ H Q
def DB (t : TE) (f : En → Option D) : Prop := ∀ ρ σ H O d, RS K B ρ σ H O → f ρ = some d → ∀ Q : VK, (∀ v H', Same H H' → Bo K H' O v d → Q v H') → t σ H Q
def DL (t : TE) (f : En → Option (List D)) : Prop := ∀ ρ σ H O ds, RS K B ρ σ H O → f ρ = some ds → ∀ Q : VK, (∀ l vs H', Same H H' → H l = none → H' l = some (.lst vs) → DqAll K (hid H' (l :: O)) vs ds → Q (.ref l) H') → t σ H Q
def DT (t : TT) (f : En → Option Bool) : Prop := ∀ ρ σ H O b, RS K B ρ σ H O → f ρ = some b → ∀ Q : Bool → Hp → Prop, (∀ H', Same H H' → Q b H') → t σ H Q
def DA (t : TA) (f : En → Option (List D)) : Prop := ∀ ρ σ H O ds, RS K B ρ σ H O → f ρ = some ds → ∀ Q : List V → Hp → Prop, (∀ vs H', Same H H' → DqAll K (hid H' O) vs ds → Q vs H') → t σ H Q
def DAB (t : TA) (f : En → Option (List D)) : Prop := ∀ ρ σ H O ds, RS K B ρ σ H O → f ρ = some ds → ∀ Q : List V → Hp → Prop, (∀ vs H', Same H H' → BoAll K H' O vs ds → Q vs H') → t σ H Q
end
structure XE (X : Cx) (B : Bs) (e : Expr) (t : TE) (f : En → Option D) : Prop where
  pe : PE X e t
  de : DE B.K B t f
structure XB (X : Cx) (B : Bs) (e : Expr) (t : TE) (f : En → Option D) : Prop where
  pe : PE X e t
  de : DB B.K B t f
structure XL (X : Cx) (B : Bs) (e : Expr) (t : TE) (f : En → Option (List D)) : Prop where
  pe : PE X e t
  de : DL B.K B t f
structure XT (X : Cx) (B : Bs) (e : Expr) (t : TT) (f : En → Option Bool) : Prop where
  pe : PT X e t
  de : DT B.K B t f
structure XW (X : Cx) (B : Bs) (e : Expr) (t : TT) (f : En → Option Bool) : Prop where
  pe : PW X e t
  de : DT B.K B t f
structure XA (X : Cx) (B : Bs) (es : List Expr) (t : TA) (f : En → Option (List D)) : Prop where
  pe : PA X es t
  de : DA B.K B t f
structure XAB (X : Cx) (B : Bs) (es : List Expr) (t : TA) (f : En → Option (List D)) : Prop where
  pe : PA X es t
  de : DAB B.K B t f

/-! ### from one to the other -/
def liL (f : En → Option (List D)) : En → Option D := fun ρ => (f ρ).map .list
theorem DE.db {K : PySem.W.Frag} {B : Bs} {t : TE} {f : En → Option D} (h : DE K B t f) : DB K B t f := fun ρ σ H O d R e Q q => h ρ σ H O d R e Q fun v H' s x => q v H' s (.inl x)
theorem DL.de {K : PySem.W.Frag} {B : Bs} {t : TE} {f : En → Option (List D)} (h : DL K B t f) : DE K B t (liL f) := fun ρ σ H O d R e Q q => by
  unfold liL at e
  cases hf : f ρ with
  | none => rw [hf] at e; cases e
  | some ds =>
    rw [hf] at e
    cases e
    refine h ρ σ H O ds R hf Q fun l vs H' s n x a => q _ H' s (.lst (SqL.of ?_) (DqAll.mono (hid_less fun a ha => List.mem_cons_of_mem _ ha) _ _ a))
    rw [hid_out (R.fresh n)]; exact x
section
variable {X : Cx} {B : Bs} {ex : Expr} {t : TE} {f : En → Option D} {fl : En → Option (List D)}
theorem XE.b (h : XE X B ex t f) : XB X B ex t f := ⟨h.pe, h.de.db⟩
theorem XL.e (h : XL X B ex t fl) : XE X B ex t (liL fl) := ⟨h.pe, h.de.de⟩
theorem XL.b (h : XL X B ex t fl) : XB X B ex t (liL fl) := h.e.b
end

/-! ### names, constants -/
def eVar (i : Nat) : En → Option D := fun ρ => match ρ[i]? with
  | some (some (.ro d)) => some d
  | some (some (.lr ds)) => some (.list ds)
  | _ => none
def bVar (i : Nat) : En → Option D := fun ρ => match ρ[i]? with
  | some (some (.ro d)) => some d
  | some (some (.ow ds)) => some (.list ds)
  | some (some (.oK tt kvs)) => some (.dict (tails tt kvs))
  | some (some (.lr ds)) => some (.list ds)
  | _ => none
def eC (d : D) : En → Option D := fun _ => some d
section
variable {K : PySem.W.Frag} {B : Bs}
theorem de_var {i : Nat} : DE K B (tVar i) (eVar i) := fun ρ σ H O d R e Q q => by
  unfold eVar at e
  split at e
  · rename_i d' h
    cases e
    obtain ⟨v, a, b⟩ := R.slot _ _ h
    exact ⟨v, a, q v H (Same.refl H) b⟩
  · rename_i d' h
    cases e
    obtain ⟨v, a, l, vs, b1, b2, b3⟩ := R.slot _ _ h
    subst b1
    exact ⟨_, a, q _ H (Same.refl H) (.lst (SqL.of b2) b3)⟩
  · cases e
theorem db_var {i : Nat} : DB K B (tVar i) (bVar i) := fun ρ σ H O d R e Q q => by
  unfold bVar at e
  split at e
  · rename_i d' h
    cases e
    obtain ⟨v, a, b⟩ := R.slot _ _ h
    exact ⟨v, a, q v H (Same.refl H) (.inl b)⟩
  · rename_i d' h
    cases e
    obtain ⟨v, a, l, vs, b1, b2, b3, b4, b5⟩ := R.slot _ _ h
    exact ⟨v, a, q v H (Same.refl H) (.inr (.inl ⟨l, vs, d', b1, rfl, b2, b4, b5⟩))⟩
  · rename_i tt d' h
    cases e
    obtain ⟨v, a, l, vs, b1, b2, b3, b4, b5⟩ := R.slot _ _ h
    exact ⟨v, a, q v H (Same.refl H) (.inr (.inr ⟨l, vs, tt, d', b1, rfl, b2, b4, b5⟩))⟩
  · rename_i d' h
    cases e
    obtain ⟨v, a, l, vs, b1, b2, b3⟩ := R.slot _ _ h
    subst b1
    exact ⟨_, a, q _ H (Same.refl H) (.inl (.lst (SqL.of b2) b3))⟩
  · cases e
theorem de_c {v : V} {d : D} (h : ∀ G, Dq K G v d) : DE K B (tC v) (eC d) := fun ρ σ H O d' R e Q q => by
  have e : d = d' := Option.some.inj e
  subst e
  exact q v H (Same.refl H) (h _)
end
section
variable {X : Cx} {B : Bs}
theorem xv (i : Nat) {x : Str} {pos : Pos} (hN : X.N[i]? = some x := by rfl) (hv : Vis X.env.scope x := by first | exact Or.inl rfl | exact Or.inr (Or.inl rfl) | exact Or.inr (Or.inr rfl)) (hd : (x == ("__debug__" : Str)) = false := by decide)
    (hcd : (x == ("__classdict__" : Str)) = false := by decide) : XE X B (.Name x pos) (tVar i) (eVar i) := ⟨pe_var hN hv hd hcd, de_var⟩
theorem xvb (i : Nat) {x : Str} {pos : Pos} (hN : X.N[i]? = some x := by rfl) (hv : Vis X.env.scope x := by first | exact Or.inl rfl | exact Or.inr (Or.inl rfl) | exact Or.inr (Or.inr rfl)) (hd : (x == ("__debug__" : Str)) = false := by decide)
    (hcd : (x == ("__classdict__" : Str)) = false := by decide) : XB X B (.Name x pos) (tVar i) (bVar i) := ⟨pe_var hN hv hd hcd, db_var⟩
theorem x_int {i j pos} : XE X B (.Constant (.int i) j pos) (tC (.int i)) (eC (.int i)) := ⟨pe_int, de_c fun _ => .int i⟩
theorem x_bl {b j pos} : XE X B (.Constant (.bool b) j pos) (tC (.bl b)) (eC (.bool b)) := ⟨pe_bl, de_c fun _ => .bl b⟩
theorem x_non {j pos} : XE X B (.Constant .none j pos) (tC .non) (eC .none) := ⟨pe_non, de_c fun _ => .non⟩
theorem x_str {x j pos} : XE X B (.Constant (.str x) j pos) (tC (.str x)) (eC (.str x)) := ⟨pe_str, de_c fun _ => .str x⟩
/-- a module's text or number -/
theorem x_gstr {x z : Str} {t : Tok} {pos : Pos} (hg : Gl X x) (hm : X.mg x = some (.str z t)) (hd : (x == ("__debug__" : Str)) = false := by decide) : XE X B (.Name x pos) (tC (.str z)) (eC (.str z)) := ⟨pe_glob hg hm ⟨t, rfl⟩ hd, de_c fun _ => .str z⟩
theorem x_gint {x : Str} {z : Int} {t : Tok} {pos : Pos} (hg : Gl X x) (hm : X.mg x = some (.int z t)) (hd : (x == ("__debug__" : Str)) = false := by decide) : XE X B (.Name x pos) (tC (.int z)) (eC (.int z)) := ⟨pe_glob hg hm ⟨t, rfl⟩ hd, de_c fun _ => .int z⟩
end

/-! ### two operands -/
/-- an operation on two values, as data -/
def OpD (K : PySem.W.Frag) (B : Bs) (r : R2) (g : D → D → Option D) : Prop := ∀ ρ σ H O x y d e z, RS K B ρ σ H O → Bo K H O x d → Bo K H O y e → g d e = some z → ∀ Q : VK, (∀ v H', Same H H' → Dq K (hid H' O) v z → Q v H') → r x y H Q
def OpL (K : PySem.W.Frag) (B : Bs) (r : R2) (g : D → D → Option (List D)) : Prop := ∀ ρ σ H O x y d e zs, RS K B ρ σ H O → Bo K H O x d → Bo K H O y e → g d e = some zs → ∀ Q : VK, (∀ l vs H', Same H H' → H l = none → H' l = some (.lst vs) → DqAll K (hid H' (l :: O)) vs zs → Q (.ref l) H') → r x y H Q
def e2 {α : Type} (g : D → D → Option α) (f f' : En → Option D) : En → Option α := fun ρ => (f ρ).bind fun x => (f' ρ).bind fun y => g x y
def e1 {α : Type} (g : D → Option α) (f : En → Option D) : En → Option α := fun ρ => (f ρ).bind g
theorem bind_some {α β : Type} {o : Option α} {k : α → Option β} {b : β} (h : o.bind k = some b) : ∃ a, o = some a ∧ k a = some b := by
  cases o with
  | none => cases h
  | some a => exact ⟨a, rfl, h⟩
theorem map_some {α β : Type} {o : Option α} {k : α → β} {b : β} (h : o.map k = some b) : ∃ a, o = some a ∧ k a = b := by
  cases o with
  | none => cases h
  | some a => exact ⟨a, rfl, Option.some.inj h⟩
section
variable {K : PySem.W.Frag} {B : Bs} {ta tb : TE} {f f' : En → Option D} {r : R2}
theorem de_op {g : D → D → Option D} (hr : OpD K B r g) (ha : DB K B ta f) (hb : DB K B tb f') : DE K B (tOp r ta tb) (e2 g f f') := fun ρ σ H O z R e Q q => by
  obtain ⟨d, h1, e⟩ := bind_some e
  obtain ⟨d', h2, e⟩ := bind_some e
  refine ha ρ σ H O d R h1 _ fun x H1 s1 a => hb ρ σ H1 O d' (R.grow s1) h2 _ fun y H2 s2 b => ?_
  have R2 := R.grow (s1.trans s2)
  exact hr ρ σ H2 O x y d d' z R2 (a.grow (R.grow s1) s2) b e Q fun v H3 s3 c => q v H3 (s1.trans (s2.trans s3)) c
theorem dl_op {g : D → D → Option (List D)} (hr : OpL K B r g) (ha : DB K B ta f) (hb : DB K B tb f') : DL K B (tOp r ta tb) (e2 g f f') := fun ρ σ H O z R e Q q => by
  obtain ⟨d, h1, e⟩ := bind_some e
  obtain ⟨d', h2, e⟩ := bind_some e
  refine ha ρ σ H O d R h1 _ fun x H1 s1 a => hb ρ σ H1 O d' (R.grow s1) h2 _ fun y H2 s2 b => ?_
  have R2 := R.grow (s1.trans s2)
  exact hr ρ σ H2 O x y d d' z R2 (a.grow (R.grow s1) s2) b e Q fun l vs H3 s3 n c a => q l vs H3 (s1.trans (s2.trans s3)) ((s1.trans s2).free n) c a
/-- two ints -/
theorem opd_int {C : Int → Int → Prop} {h : Int → Int → V} {g : D → D → Option D} (hg : ∀ d e z, g d e = some z → ∃ i j, d = .int i ∧ e = .int j ∧ C i j ∧ ∀ G, Dq K G (h i j) z) : OpD K B (rI C h) g := fun ρ σ H O x y d e z R a b k Q q => by
  obtain ⟨i, j, e1, e2, c, w⟩ := hg _ _ _ k
  subst e1 e2
  cases a.int
  cases b.int
  exact ⟨i, j, rfl, rfl, c, q _ H (Same.refl H) (w _)⟩
theorem opd_int0 {h : Int → Int → V} {g : D → D → Option D} (hg : ∀ d e z, g d e = some z → ∃ i j, d = .int i ∧ e = .int j ∧ ∀ G, Dq K G (h i j) z) : OpD K B (rI0 h) g := fun ρ σ H O x y d e z R a b k Q q => by
  obtain ⟨i, j, e1, e2, w⟩ := hg _ _ _ k
  subst e1 e2
  cases a.int
  cases b.int
  exact ⟨i, j, rfl, rfl, q _ H (Same.refl H) (w _)⟩
end
/-- of ints -/
def iiD {α : Type} (h : Int → Int → Option α) : D → D → Option α := fun d e => match d, e with
  | .int i, .int j => h i j
  | _, _ => none
theorem iiD_some {α : Type} {h : Int → Int → Option α} {d e : D} {z : α} (k : iiD h d e = some z) : ∃ i j, d = .int i ∧ e = .int j ∧ h i j = some z := by
  unfold iiD at k
  split at k
  · exact ⟨_, _, rfl, rfl, k⟩
  · cases k
def subD : D → D → Option D := iiD fun i j => some (.int (i - j))
def mulD : D → D → Option D := iiD fun i j => if (-18446744073709551616 < i ∧ i < 18446744073709551616) ∨ (-18446744073709551616 < j ∧ j < 18446744073709551616) then some (.int (i * j)) else none
def divD : D → D → Option D := iiD fun i j => if 0 < j ∧ j < 18446744073709551616 then some (.int (i / j)) else none
def modD : D → D → Option D := iiD fun i j => if 0 < j then some (.int (i % j)) else none
def powD : D → D → Option D := iiD fun i j => if 0 ≤ j ∧ j ≤ 1000 ∧ -18446744073709551616 < i ∧ i < 18446744073709551616 then some (.int (i ^ j.toNat)) else none
def ltD : D → D → Option D := iiD fun i j => some (.bool (decide (i < j)))
def leD : D → D → Option D := iiD fun i j => some (.bool (decide (i ≤ j)))
def gtD : D → D → Option D := iiD fun i j => some (.bool (decide (j < i)))
def geD : D → D → Option D := iiD fun i j => some (.bool (decide (j ≤ i)))
def addD (d e : D) : Option D := match d, e with
  | .int i, .int j => some (.int (i + j))
  | .str x, .str y => if x.length + y.length ≤ 1000000 then some (.str (x ++ y)) else none
  | .tuple xs, .tuple ys => if xs.length + ys.length ≤ 1000000 then some (.tuple (xs ++ ys)) else none
  | _, _ => none
def addS (d e : D) : Option D := match d, e with
  | .str x, .str y => if x.length + y.length ≤ 1000000 then some (.str (x ++ y)) else none
  | _, _ => none
def addT (d e : D) : Option D := match d, e with
  | .tuple xs, .tuple ys => if xs.length + ys.length ≤ 1000000 then some (.tuple (xs ++ ys)) else none
  | _, _ => none
theorem line {n : Nat} (h : n ≤ 1000000) : n ≤ sizeLine := Nat.le_trans h (by decide)
theorem lineL {n : Nat} (h : n < 1000000) : n < sizeLine := Nat.lt_of_lt_of_le h (by decide)
section
variable {K : PySem.W.Frag} {B : Bs}
theorem opd_or {r r' : R2} {g g' : D → D → Option D} (h : OpD K B r g) (h' : OpD K B r' g') : OpD K B (fun x y H Q => r x y H Q ∨ r' x y H Q) (fun d e => (g d e).or (g' d e)) := fun ρ σ H O x y d e z R a b k Q q => by
  cases hg : g d e with
  | some w =>
    have k : (g d e).or (g' d e) = some z := k
    rw [hg] at k
    cases k
    exact .inl (h ρ σ H O x y d e _ R a b hg Q q)
  | none =>
    have k : (g d e).or (g' d e) = some z := k
    rw [hg] at k
    exact .inr (h' ρ σ H O x y d e z R a b k Q q)
theorem opd_imp {r : R2} {g g' : D → D → Option D} (h : OpD K B r g) (f : ∀ d e z, g' d e = some z → g d e = some z) : OpD K B r g' := fun ρ σ H O x y d e z R a b k Q q => h ρ σ H O x y d e z R a b (f _ _ _ k) Q q
theorem opd_sub : OpD K B (rI0 fun i j => .int (i - j)) subD := opd_int0 fun d e z k => by
  obtain ⟨i, j, rfl, rfl, k2⟩ := iiD_some k
  cases k2
  exact ⟨i, j, rfl, rfl, fun _ => .int _⟩
theorem opd_mul : OpD K B (rI CMul fun i j => .int (i * j)) mulD := opd_int fun d e z k => by
  obtain ⟨i, j, rfl, rfl, k2⟩ := iiD_some k
  split at k2
  · rename_i c
    cases k2
    refine ⟨i, j, rfl, rfl, ?_, fun _ => .int _⟩
    unfold CMul
    simp only [show ((2 : Int) ^ 64) = 18446744073709551616 from by decide]
    exact c
  · cases k2
theorem log2_small {n : Nat} (h : n < 18446744073709551616) : n.log2 < 9000 := by
  by_cases z : n = 0
  · subst z; decide
  · exact (Nat.log2_lt z).mpr (Nat.lt_trans h (by
      have : (18446744073709551616 : Nat) = 2 ^ 64 := by decide
      rw [this]; exact Nat.pow_lt_pow_right (by decide) (by decide)))
theorem opd_div : OpD K B (rI CDivW fun i j => .int (i / j)) divD := opd_int fun d e z k => by
  obtain ⟨i, j, rfl, rfl, k2⟩ := iiD_some k
  split at k2
  · rename_i c
    cases k2
    exact ⟨i, j, rfl, rfl, ⟨c.1, log2_small (by omega)⟩, fun _ => .int _⟩
  · cases k2
theorem opd_mod : OpD K B (rI (fun _ j => 0 < j) fun i j => .int (i % j)) modD := opd_int fun d e z k => by
  obtain ⟨i, j, rfl, rfl, k2⟩ := iiD_some k
  split at k2
  · rename_i c
    cases k2
    exact ⟨i, j, rfl, rfl, c, fun _ => .int _⟩
  · cases k2
theorem opd_pow : OpD K B (rI CPow fun i j => .int (i ^ j.toNat)) powD := opd_int fun d e z k => by
  obtain ⟨i, j, rfl, rfl, k2⟩ := iiD_some k
  split at k2
  · rename_i c
    cases k2
    refine ⟨i, j, rfl, rfl, ⟨c.1, by omega, ?_⟩, fun _ => .int _⟩
    have : ((2 : Nat) ^ 64) = 18446744073709551616 := by decide
    rw [this]; omega
  · cases k2
theorem opd_cmp {h : Int → Int → Bool} : OpD K B (rI0 fun i j => .bl (h i j)) (iiD fun i j => some (.bool (h i j))) := opd_int0 fun d e z k => by
  obtain ⟨i, j, rfl, rfl, k2⟩ := iiD_some k
  cases k2
  exact ⟨i, j, rfl, rfl, fun _ => .bl _⟩
/-- a new tuple of the heap -/
theorem new_tup {H : Hp} {O : List Addr} {vs : List V} {ds : List D} {p : Addr} (hp : H p = none) (n : p ∉ O) (h : DqAll K (hid H O) vs ds) : Dq K (hid (upd H p (.tup vs)) O) (.ref p) (.tuple ds) :=
  .tup (SqT.of (by rw [hid_out n, upd_same])) (DqAll.mono (hid_grow (same_new _ hp)) _ _ h)
theorem new_lst {H : Hp} {O : List Addr} {vs : List V} {ds : List D} {p : Addr} (hp : H p = none) (h : DqAll K (hid H O) vs ds) : DqAll K (hid (upd H p (.lst vs)) (p :: O)) vs ds := DqAll.mono (hid_new _ hp) _ _ h
theorem opd_addI : OpD K B (rI0 fun i j => .int (i + j)) (iiD fun i j => some (.int (i + j))) := opd_int0 fun d e z k => by
  obtain ⟨i, j, rfl, rfl, k2⟩ := iiD_some k
  cases k2
  exact ⟨i, j, rfl, rfl, fun _ => .int _⟩
def rAddS : R2 := fun x y H Q => ∃ i j, x = .str i ∧ y = .str j ∧ i.length + j.length ≤ sizeLine ∧ Q (.str (i ++ j)) H
theorem opd_addS : OpD K B rAddS addS := fun ρ σ H O x y d e z R a b k Q q => by
  unfold addS at k
  split at k
  · rename_i i j
    split at k
    · rename_i c
      cases k
      cases a.str
      cases b.str
      exact ⟨i, j, rfl, rfl, line c, q _ H (Same.refl H) (.str _)⟩
    · cases k
  · cases k
theorem opd_addT : OpD K B (rCatA K) addT := fun ρ σ H O x y d e z R a b k Q q => by
  unfold addT at k
  split at k
  · rename_i xs ys
    split at k
    · rename_i c
      cases k
      obtain ⟨p, vs, rfl, hp, ap⟩ := a.tup
      obtain ⟨p2, vs2, rfl, hp2, ap2⟩ := b.tup
      have l1 := ap.length
      have l2 := ap2.length
      refine ⟨p, p2, vs, vs2, rfl, rfl, SqT.mono (hid_self H O) hp, SqT.mono (hid_self H O) hp2, line (by omega), fun e => ?_, fun _ e => ?_, fun _ _ r hr => q _ _ (same_new _ hr) (new_tup hr (R.fresh hr) (ap.append ap2))⟩
      · subst e
        cases ap
        exact q _ H (Same.refl H) (.tup hp2 ap2)
      · subst e
        cases ap2
        exact q _ H (Same.refl H) (by rw [List.append_nil]; exact .tup hp ap)
    · cases k
  · cases k
def rAddA (K : PySem.W.Frag) : R2 := fun x y H Q => rI0 (fun i j => .int (i + j)) x y H Q ∨ (rAddS x y H Q ∨ rCatA K x y H Q)
theorem opd_add : OpD K B (rAddA K) addD := opd_imp (opd_or opd_addI (opd_or opd_addS opd_addT)) fun d e z k => by
  unfold addD at k
  split at k
  · cases k; rfl
  · have k' : addS (.str _) (.str _) = some z := k
    show (Option.or none ((addS (.str _) (.str _)).or none)) = some z
    rw [k']; rfl
  · exact k
  · cases k
theorem op_addA {X : Cx} {K : PySem.W.Frag} (hk : X.K = K := by rfl) : OpR X (binaryOp .Add) (rAddA K) := by
  subst hk
  exact op_add.or (op_add_str.or op_catA)
end
/-! ### list + list: both tracked -/
def DM (K : PySem.W.Frag) (B : Bs) (t : TE) (f : En → Option (List D)) : Prop := ∀ ρ σ H O ds, RS K B ρ σ H O → f ρ = some ds → ∀ Q : VK, (∀ l vs H', Same H H' → H' l = some (.lst vs) → DqAll K (hid H' O) vs ds → Q (.ref l) H') → t σ H Q
structure XM (X : Cx) (B : Bs) (e : Expr) (t : TE) (f : En → Option (List D)) : Prop where
  pe : PE X e t
  de : DM B.K B t f
def mVar (i : Nat) : En → Option (List D) := fun ρ => match ρ[i]? with
  | some (some (.ow ds)) => some ds
  | some (some (.lr ds)) => some ds
  | _ => none
def lCat (f g : En → Option (List D)) : En → Option (List D) := fun ρ => (f ρ).bind fun xs => (g ρ).bind fun ys => if xs.length + ys.length ≤ 1000000 then some (xs ++ ys) else none
section
variable {K : PySem.W.Frag} {B : Bs} {ta tb : TE} {f g : En → Option (List D)}
theorem dm_var {i : Nat} : DM K B (tVar i) (mVar i) := fun ρ σ H O ds R e Q q => by
  unfold mVar at e
  split at e
  · rename_i ds' h
    cases e
    obtain ⟨v, a, l, vs, b1, b2, b3, b4, b5⟩ := R.slot _ _ h
    subst b1
    exact ⟨_, a, q l vs H (Same.refl H) b4 b5⟩
  · rename_i ds' h
    cases e
    obtain ⟨v, a, l, vs, b1, b2, b3⟩ := R.slot _ _ h
    subst b1
    exact ⟨_, a, q l vs H (Same.refl H) (of_hid b2).2 b3⟩
  · cases e
theorem DL.dm {t : TE} (h : DL K B t f) : DM K B t f := fun ρ σ H O ds R e Q q => h ρ σ H O ds R e Q fun l vs H' s n c a => q l vs H' s c (DqAll.mono (hid_less fun a ha => List.mem_cons_of_mem _ ha) _ _ a)
theorem dl_cat (ha : DM K B ta f) (hb : DM K B tb g) : DL K B (tOp rCat ta tb) (lCat f g) := fun ρ σ H O zs R e Q q => by
  obtain ⟨xs, h1, e⟩ := bind_some e
  obtain ⟨ys, h2, e⟩ := bind_some e
  split at e
  · rename_i c
    have e := Option.some.inj e
    subst e
    refine ha ρ σ H O xs R h1 _ fun l vs H1 s1 c1 a1 => hb ρ σ H1 O ys (R.grow s1) h2 _ fun b us H2 s2 c2 a2 => ?_
    have a1' := DqAll.mono (hid_grow (O := O) s2) _ _ a1
    refine ⟨l, b, vs, us, rfl, rfl, s2 _ _ c1, c2, line (by rw [a1.length, a2.length]; exact c), fun p hp => ?_⟩
    exact q p _ _ ((s1.trans s2).trans (same_new _ hp)) ((s1.trans s2).free hp) upd_same (new_lst hp (a1'.append a2))
  · cases e
end
section
variable {X : Cx} {B : Bs} {a b : Expr} {ta tb : TE} {f g : En → Option (List D)} {pos : Pos}
theorem XL.m (h : XL X B a ta f) : XM X B a ta f := ⟨h.pe, h.de.dm⟩
theorem m_var (i : Nat) {x : Str} {pos : Pos} (hN : X.N[i]? = some x := by rfl) (hv : Vis X.env.scope x := by first | exact Or.inl rfl | exact Or.inr (Or.inl rfl) | exact Or.inr (Or.inr rfl)) (hd : (x == ("__debug__" : Str)) = false := by decide)
    (hcd : (x == ("__classdict__" : Str)) = false := by decide) : XM X B (.Name x pos) (tVar i) (mVar i) := ⟨pe_var hN hv hd hcd, dm_var⟩
theorem l_cat (ha : XM X B a ta f) (hb : XM X B b tb g) : XL X B (.BinOp a .Add b pos) (tOp rCat ta tb) (lCat f g) := ⟨pe_op op_cat ha.pe hb.pe, dl_cat ha.de hb.de⟩
end

/-! ### list + list: any lists that are read -/
def rCatL (K : PySem.W.Frag) : R2 := fun x y H Q => ∃ l b xs zs, x = .ref l ∧ y = .ref b ∧ SqL K H l xs ∧ SqL K H b zs ∧ xs.length + zs.length ≤ sizeLine ∧ ∀ p, H p = none → Q (.ref p) (upd H p (.lst (xs ++ zs)))
theorem op_catL {X : Cx} {K : PySem.W.Frag} (hk : X.K = K := by rfl) : OpR X (binaryOp .Add) (rCatL K) := by
  subst hk
  intro pins s σ H x y v u Q I rx ry h
  obtain ⟨l, b, xs, zs, rfl, rfl, hH, hB, hz, q⟩ := h
  cases rx
  cases ry
  obtain ⟨its, r, hl, z1⟩ := I.list hH
  obtain ⟨its2, r2, hl2, z2⟩ := I.list hB
  obtain ⟨⟨cls, dd, data, sl⟩, n, ho, hc, hdd, hd⟩ := hl
  obtain ⟨⟨cls2, dd2, data2, sl2⟩, n2, ho2, hc2, hdd2, hd2⟩ := hl2
  simp only at hc hd hc2 hd2
  subst hc hd hc2 hd2
  have e : its.toArray ++ its2.toArray = (its ++ its2).toArray := by simp
  have k1 := r.length
  have k2 := r2.length
  refine concat_meets ⟨_, ho, rfl⟩ ⟨_, ho2, rfl⟩ noFill_list_add seq_list_add PySem.F.slot_list_add PySem.F.entry_list_add (PySem.F.args_list_add_2 _ _) (PyProof.Rows.list_addW l b its.toArray its2.toArray n n2 dd dd2 sl sl2 (by rw [List.size_toArray, List.size_toArray]; omega)) ⟨ho, ho2, ?_⟩
  rw [e]
  exact ⟨.ref _, _, I.lnew (t' := s.toks) (r.append r2) (by rw [List.length_append]; exact hz), rfl, q _ I.fresh⟩
def DN (K : PySem.W.Frag) (B : Bs) (t : TE) (f : En → Option (List D)) : Prop := ∀ ρ σ H O ds, RS K B ρ σ H O → f ρ = some ds → ∀ Q : VK, (∀ l vs H', Same H H' → SqL K H' l vs → DqAll K (hid H' O) vs ds → Q (.ref l) H') → t σ H Q
structure XN (X : Cx) (B : Bs) (e : Expr) (t : TE) (f : En → Option (List D)) : Prop where
  pe : PE X e t
  de : DN B.K B t f
def nVar (i : Nat) : En → Option (List D) := fun ρ => match ρ[i]? with
  | some (some (.ow ds)) => some ds
  | some (some (.lr ds)) => some ds
  | some (some (.ro (.list ds))) => some ds
  | _ => none
section
variable {K : PySem.W.Frag} {B : Bs} {ta tb : TE} {f g : En → Option (List D)}
theorem dn_var {i : Nat} : DN K B (tVar i) (nVar i) := fun ρ σ H O ds R e Q q => by
  unfold nVar at e
  split at e
  · rename_i ds' h
    cases e
    obtain ⟨v, a, l, vs, b1, b2, b3, b4, b5⟩ := R.slot _ _ h
    subst b1
    exact ⟨_, a, q l vs H (Same.refl H) (SqL.of b4) b5⟩
  · rename_i ds' h
    cases e
    obtain ⟨v, a, l, vs, b1, b2, b3⟩ := R.slot _ _ h
    subst b1
    exact ⟨_, a, q l vs H (Same.refl H) (SqL.of (of_hid b2).2) b3⟩
  · rename_i ds' h
    cases e
    obtain ⟨v, a, b⟩ := R.slot _ _ h
    obtain ⟨l, vs, rfl, b2, b3⟩ := Bo.list (H := H) (O := O) (.inl b)
    exact ⟨_, a, q l vs H (Same.refl H) b2 b3⟩
  · cases e
theorem DM.dn {t : TE} (h : DM K B t f) : DN K B t f := fun ρ σ H O ds R e Q q => h ρ σ H O ds R e Q fun l vs H' s c a => q l vs H' s (SqL.of c) a
theorem dl_catN (ha : DN K B ta f) (hb : DN K B tb g) : DL K B (tOp (rCatL K) ta tb) (lCat f g) := fun ρ σ H O zs R e Q q => by
  obtain ⟨xs, h1, e⟩ := bind_some e
  obtain ⟨ys, h2, e⟩ := bind_some e
  split at e
  · rename_i c
    have e := Option.some.inj e
    subst e
    refine ha ρ σ H O xs R h1 _ fun l vs H1 s1 c1 a1 => hb ρ σ H1 O ys (R.grow s1) h2 _ fun b us H2 s2 c2 a2 => ?_
    have a1' := DqAll.mono (hid_grow (O := O) s2) _ _ a1
    refine ⟨l, b, vs, us, rfl, rfl, SqL.mono s2 c1, c2, line (by rw [a1.length, a2.length]; exact c), fun p hp => ?_⟩
    exact q p _ _ ((s1.trans s2).trans (same_new _ hp)) ((s1.trans s2).free hp) upd_same (new_lst hp (a1'.append a2))
  · cases e
end
section
variable {X : Cx} {B : Bs} {a b : Expr} {ta tb : TE} {f g : En → Option (List D)} {pos : Pos}
theorem XL.n (h : XL X B a ta f) : XN X B a ta f := ⟨h.pe, h.de.dm.dn⟩
theorem n_var (i : Nat) {x : Str} {pos : Pos} (hN : X.N[i]? = some x := by rfl) (hv : Vis X.env.scope x := by first | exact Or.inl rfl | exact Or.inr (Or.inl rfl) | exact Or.inr (Or.inr rfl)) (hd : (x == ("__debug__" : Str)) = false := by decide)
    (hcd : (x == ("__classdict__" : Str)) = false := by decide) : XN X B (.Name x pos) (tVar i) (nVar i) := ⟨pe_var hN hv hd hcd, dn_var⟩
theorem l_catN (hk : X.K = B.K) (ha : XN X B a ta f) (hb : XN X B b tb g) : XL X B (.BinOp a .Add b pos) (tOp (rCatL B.K) ta tb) (lCat f g) := ⟨pe_op (op_catL hk) ha.pe hb.pe, dl_catN ha.de hb.de⟩
end

/-! ### == and != -/
def scD : D → D → Bool
  | .none, .none => true | .none, .int _ => true | .int _, .none => true | .none, .bool _ => true | .bool _, .none => true | .none, .str _ => true | .str _, .none => true
  | .int _, .int _ => true | .bool _, .bool _ => true | .str _, .str _ => true
  | .int _, .str _ => true | .str _, .int _ => true | .bool _, .str _ => true | .str _, .bool _ => true
  | _, _ => false
def eqOk (n : Nat) (d e : D) : Bool := scD d e || (PyData.canLay0 d && PyData.canLay0 e && decide (min d.depth e.depth ≤ n))
def eqD (n : Nat) (d e : D) : Option D := if eqOk n d e = true then some (.bool (PyData.eqv d e)) else none
def neD (n : Nat) (d e : D) : Option D := if eqOk n d e = true then some (.bool (!PyData.eqv d e)) else none
def rEqN (K : PySem.W.Frag) (n : Nat) : R2 := fun x y H Q => ∃ d e, Dp K H x d ∧ Dp K H y e ∧ PyData.canLay0 d = true ∧ PyData.canLay0 e = true ∧ min d.depth e.depth ≤ n ∧ Q (.bl (PyData.eqv d e)) H
def rNeN (K : PySem.W.Frag) (n : Nat) : R2 := fun x y H Q => ∃ d e, Dp K H x d ∧ Dp K H y e ∧ PyData.canLay0 d = true ∧ PyData.canLay0 e = true ∧ min d.depth e.depth ≤ n ∧ Q (.bl (!PyData.eqv d e)) H
theorem op_eqN {X : Cx} {n : Nat} (hu : X.A.units + n < cLine) : OpR X (compareOp .Eq) (rEqN X.K n) := by
  intro pins s σ H x y v u Q I rx ry h
  obtain ⟨d, e, hd, he, sd, se, m, q⟩ := h
  obtain ⟨as, r1⟩ := Dp.reads I d x v hd rx
  obtain ⟨bs, r2⟩ := Dp.reads I e y u he ry
  exact SeqAt.compareEq_reads r1 r2 sd se (by omega) ⟨.bl _, H, I, rfl, q⟩
theorem op_neN {X : Cx} {n : Nat} (hu : X.A.units + n < cLine) : OpR X (compareOp .NotEq) (rNeN X.K n) := by
  intro pins s σ H x y v u Q I rx ry h
  obtain ⟨d, e, hd, he, sd, se, m, q⟩ := h
  obtain ⟨as, r1⟩ := Dp.reads I d x v hd rx
  obtain ⟨bs, r2⟩ := Dp.reads I e y u he ry
  exact SeqAt.compareNe_reads r1 r2 sd se (by omega) ⟨.bl _, H, I, rfl, q⟩
def rEqA (K : PySem.W.Frag) (n : Nat) : R2 := fun x y H Q => rEq x y H Q ∨ rEqN K n x y H Q
def rNeA (K : PySem.W.Frag) (n : Nat) : R2 := fun x y H Q => rNe x y H Q ∨ rNeN K n x y H Q
theorem op_eqA {X : Cx} {K : PySem.W.Frag} {n : Nat} (hu : X.A.units + n < cLine) (hk : X.K = K := by rfl) : OpR X (compareOp .Eq) (rEqA K n) := by
  subst hk
  exact op_eq.or (op_eqN hu)
theorem op_neA {X : Cx} {K : PySem.W.Frag} {n : Nat} (hu : X.A.units + n < cLine) (hk : X.K = K := by rfl) : OpR X (compareOp .NotEq) (rNeA K n) := by
  subst hk
  exact op_ne.or (op_neN hu)
section
variable {K : PySem.W.Frag} {B : Bs}
theorem scD_v {H : Hp} {O : List Addr} {x y : V} {d e : D} (h : scD d e = true) (a : Bo K H O x d) (b : Bo K H O y e) : scal x y = true ∧ decide (x = y) = PyData.eqv d e := by
  unfold scD at h
  split at h
  all_goals first
    | exact absurd h Bool.false_ne_true
    | (first | have a := a.non | have a := a.int | have a := a.bl | have a := a.str
       first | have b := b.non | have b := b.int | have b := b.bl | have b := b.str
       subst a b
       refine ⟨rfl, ?_⟩
       first
         | rfl
         | (simp only [PyData.eqv]; rw [Bool.eq_iff_iff]; simp)
         | simp [PyData.eqv])
theorem opd_eq {n : Nat} : OpD K B (rEqA K n) (eqD n) := fun ρ σ H O x y d e z R a b k Q q => by
  unfold eqD at k
  split at k
  · rename_i c
    have k := Option.some.inj k
    subst k
    by_cases hs : scD d e = true
    · obtain ⟨h1, h2⟩ := scD_v hs a b
      exact .inl ⟨h1, q _ H (Same.refl H) (by rw [h2]; exact .bl _)⟩
    · unfold eqOk at c
      rw [Bool.eq_false_iff.mpr hs, Bool.false_or, Bool.and_eq_true, Bool.and_eq_true] at c
      exact .inr ⟨d, e, Dq.toDp _ _ c.1.1 a.full, Dq.toDp _ _ c.1.2 b.full, c.1.1, c.1.2, of_decide_eq_true c.2, q _ H (Same.refl H) (.bl _)⟩
  · cases k
theorem opd_ne {n : Nat} : OpD K B (rNeA K n) (neD n) := fun ρ σ H O x y d e z R a b k Q q => by
  unfold neD at k
  split at k
  · rename_i c
    have k := Option.some.inj k
    subst k
    by_cases hs : scD d e = true
    · obtain ⟨h1, h2⟩ := scD_v hs a b
      exact .inl ⟨h1, q _ H (Same.refl H) (by rw [h2]; exact .bl _)⟩
    · unfold eqOk at c
      rw [Bool.eq_false_iff.mpr hs, Bool.false_or, Bool.and_eq_true, Bool.and_eq_true] at c
      exact .inr ⟨d, e, Dq.toDp _ _ c.1.1 a.full, Dq.toDp _ _ c.1.2 b.full, c.1.1, c.1.2, of_decide_eq_true c.2, q _ H (Same.refl H) (.bl _)⟩
  · cases k
/-- is None, is not None; is True .. -/
def isND (neg : Bool) : D → D → Option D := fun d e => match d, e with
  | .none, .none => some (.bool (!neg))
  | _, .none => some (.bool neg)
  | .bool a, .bool b => some (.bool (decide (a = b) != neg))
  | _, _ => none
def rIsA : R2 := fun x y H Q => (y = .non ∧ Q (.bl (decide (x = .non))) H) ∨ rIsB x y H Q
def rNotA : R2 := fun x y H Q => (y = .non ∧ Q (.bl (!decide (x = .non))) H) ∨ rNotB x y H Q
theorem op_isA {X : Cx} : OpR X (compareOp .Is) rIsA := op_isN.or op_isBl
theorem op_notA {X : Cx} : OpR X (compareOp .IsNot) rNotA := op_notN.or op_notBl
theorem opd_is : OpD K B rIsA (isND false) := fun ρ σ H O x y d e z R a b k Q q => by
  unfold isND at k
  split at k
  · cases k
    exact .inl ⟨b.non, q _ H (Same.refl H) (by rw [a.ne_non]; exact .bl _)⟩
  · rename_i hn
    cases k
    refine .inl ⟨b.non, q _ H (Same.refl H) ?_⟩
    rw [a.ne_non]
    cases d <;> first | exact .bl _ | exact absurd rfl hn
  · cases k
    exact .inr ⟨_, _, a.bl, b.bl, q _ H (Same.refl H) (by rw [Bool.bne_false]; exact .bl _)⟩
  · cases k
theorem opd_isnot : OpD K B rNotA (isND true) := fun ρ σ H O x y d e z R a b k Q q => by
  unfold isND at k
  split at k
  · cases k
    exact .inl ⟨b.non, q _ H (Same.refl H) (by rw [a.ne_non]; exact .bl _)⟩
  · rename_i hn
    cases k
    refine .inl ⟨b.non, q _ H (Same.refl H) ?_⟩
    rw [a.ne_non]
    cases d <;> first | exact .bl _ | exact absurd rfl hn
  · cases k
    exact .inr ⟨_, _, a.bl, b.bl, q _ H (Same.refl H) (by rw [Bool.bne_true]; exact .bl _)⟩
  · cases k
end

/-! ### the rules: two operands -/
section
variable {X : Cx} {B : Bs} {a b : Expr} {ta tb : TE} {f f' : En → Option D} {pos : Pos}
theorem x_add (ha : XB X B a ta f) (hb : XB X B b tb f') (hk : X.K = B.K := by rfl) : XE X B (.BinOp a .Add b pos) (tOp (rAddA B.K) ta tb) (e2 addD f f') := ⟨pe_op (op_addA hk) ha.pe hb.pe, de_op opd_add ha.de hb.de⟩
theorem x_sub (ha : XE X B a ta f) (hb : XE X B b tb f') : XE X B (.BinOp a .Sub b pos) (tOp (rI0 fun i j => .int (i - j)) ta tb) (e2 subD f f') := ⟨pe_op op_sub ha.pe hb.pe, de_op opd_sub ha.de.db hb.de.db⟩
theorem x_mul (ha : XE X B a ta f) (hb : XE X B b tb f') : XE X B (.BinOp a .Mult b pos) (tOp (rI CMul fun i j => .int (i * j)) ta tb) (e2 mulD f f') := ⟨pe_op op_mul ha.pe hb.pe, de_op opd_mul ha.de.db hb.de.db⟩
theorem x_div (ha : XE X B a ta f) (hb : XE X B b tb f') : XE X B (.BinOp a .FloorDiv b pos) (tOp (rI CDivW fun i j => .int (i / j)) ta tb) (e2 divD f f') := ⟨pe_op op_fdivW ha.pe hb.pe, de_op opd_div ha.de.db hb.de.db⟩
theorem x_mod (ha : XE X B a ta f) (hb : XE X B b tb f') : XE X B (.BinOp a .Mod b pos) (tOp (rI (fun _ j => 0 < j) fun i j => .int (i % j)) ta tb) (e2 modD f f') := ⟨pe_op op_mod ha.pe hb.pe, de_op opd_mod ha.de.db hb.de.db⟩
theorem x_pow (ha : XE X B a ta f) (hb : XE X B b tb f') : XE X B (.BinOp a .Pow b pos) (tOp (rI CPow fun i j => .int (i ^ j.toNat)) ta tb) (e2 powD f f') := ⟨pe_op op_pow ha.pe hb.pe, de_op opd_pow ha.de.db hb.de.db⟩
/-- a comparison, as a value, as a test -/
theorem x_cmp {op : CmpOp} {r : R2} {g : D → D → Option D} (ho : OpR X (compareOp op) r) (hr : OpD B.K B r g) (hm : behindInMarks op b = false) (ha : XB X B a ta f) (hb : XB X B b tb f') : XE X B (.Compare a [op] [b] pos) (tOp r ta tb) (e2 g f f') :=
  ⟨pe_cmpR ho ha.pe hb.pe hm, de_op hr ha.de hb.de⟩
def asB (f : En → Option D) : En → Option Bool := fun ρ => match f ρ with
  | some (.bool b) => some b
  | _ => none
theorem asB_some {f : En → Option D} {ρ : En} {b : Bool} (h : asB f ρ = some b) : f ρ = some (.bool b) := by
  unfold asB at h
  split at h
  · rename_i e; cases h; exact e
  · cases h
theorem dt_test {K : PySem.W.Frag} {t : TE} {f : En → Option D} (h : DE K B t f) : DT K B (tTest t) (asB f) := fun ρ σ H O b R e Q q => by
  refine h ρ σ H O _ R (asB_some e) _ fun v H' s x => ?_
  cases x
  exact ⟨b, rfl, q H' s⟩
theorem dt_tB {K : PySem.W.Frag} {t : TE} {f : En → Option D} (h : DE K B t f) : DT K B (tB t) (asB f) := fun ρ σ H O b R e Q q => by
  refine h ρ σ H O _ R (asB_some e) _ fun v H' s x => ?_
  cases x
  exact ⟨b, rfl, q H' s⟩
theorem t_cmp {op : CmpOp} {r : R2} {g : D → D → Option D} (ho : OpR X (compareOp op) r) (hr : OpD B.K B r g) (hm : behindInMarks op b = false) (ha : XB X B a ta f) (hb : XB X B b tb f') : XT X B (.Compare a [op] [b] pos) (tTest (tOp r ta tb)) (asB (e2 g f f')) :=
  ⟨pt_cmpR ho ha.pe hb.pe hm, dt_test (de_op hr ha.de hb.de)⟩
theorem t_val {e : Expr} {t : TE} (h : XE X B e t f) (he : ∀ whole, isTrue e X.env whole = (do let v ← whole; standAt e.pos; holding [v] (truthy v)) := by intro _; rfl) : XT X B e (tB t) (asB f) := ⟨pt_val h.pe he, dt_tB h.de⟩
end
end Z

set_option Elab.async false
set_option maxRecDepth 100000
set_option maxHeartbeats 4000000
set_option linter.all false
/-! Z2: logic, displays, places, slices, walks, comprehensions, calls -/
namespace Z
open PySem PySem.Spec PyProof.Rows L2

/-! ### and, or, not -/
def eAnd (f g : En → Option D) : En → Option D := fun ρ => match f ρ with
  | some (.bool true) => g ρ
  | some (.bool false) => some (.bool false)
  | _ => none
def eOr (f g : En → Option D) : En → Option D := fun ρ => match f ρ with
  | some (.bool true) => some (.bool true)
  | some (.bool false) => g ρ
  | _ => none
def notD : D → Option D
  | .bool b => some (.bool (!b))
  | _ => none
def bAnd (f g : En → Option Bool) : En → Option Bool := fun ρ => (f ρ).bind fun b => if b = true then g ρ else some false
def bOr (f g : En → Option Bool) : En → Option Bool := fun ρ => (f ρ).bind fun b => if b = true then some true else g ρ
def bNot (f : En → Option Bool) : En → Option Bool := fun ρ => (f ρ).map (!·)
section
variable {K : PySem.W.Frag} {B : Bs} {ta tb : TE} {t u : TT} {f f' : En → Option D} {g g' : En → Option Bool}
theorem de_and (ha : DE K B ta f) (hb : DE K B tb f') : DE K B (tAndV ta tb) (eAnd f f') := fun ρ σ H O d R e Q q => by
  unfold eAnd at e
  split at e
  · rename_i h
    refine ha ρ σ H O _ R h _ fun v H1 s x => ?_
    cases x
    exact ⟨true, rfl, iteT (hb ρ σ H1 O d (R.grow s) e Q fun v H2 s2 y => q v H2 (s.trans s2) y)⟩
  · rename_i h
    cases e
    refine ha ρ σ H O _ R h _ fun v H1 s x => ?_
    cases x
    exact ⟨false, rfl, iteF (q _ H1 s (.bl _))⟩
  · cases e
theorem de_or (ha : DE K B ta f) (hb : DE K B tb f') : DE K B (tOrV ta tb) (eOr f f') := fun ρ σ H O d R e Q q => by
  unfold eOr at e
  split at e
  · rename_i h
    cases e
    refine ha ρ σ H O _ R h _ fun v H1 s x => ?_
    cases x
    exact ⟨true, rfl, iteT (q _ H1 s (.bl _))⟩
  · rename_i h
    refine ha ρ σ H O _ R h _ fun v H1 s x => ?_
    cases x
    exact ⟨false, rfl, iteF (hb ρ σ H1 O d (R.grow s) e Q fun v H2 s2 y => q v H2 (s.trans s2) y)⟩
  · cases e
theorem de_not (ha : DE K B ta f) : DE K B (tNotV ta) (e1 notD f) := fun ρ σ H O d R e Q q => by
  obtain ⟨z, h, e⟩ := bind_some e
  unfold notD at e
  split at e
  · cases e
    refine ha ρ σ H O _ R h _ fun v H1 s x => ?_
    cases x
    exact ⟨_, rfl, q _ H1 s (.bl _)⟩
  · cases e
theorem dt_and (ha : DT K B t g) (hb : DT K B u g') : DT K B (tAnd t u) (bAnd g g') := fun ρ σ H O b R e Q q => by
  obtain ⟨c, h, e⟩ := bind_some e
  refine ha ρ σ H O c R h _ fun H1 s => ?_
  cases c
  · have e : some false = some b := e
    cases e
    exact iteF (q H1 s)
  · exact iteT (hb ρ σ H1 O b (R.grow s) e Q fun H2 s2 => q H2 (s.trans s2))
theorem dt_or (ha : DT K B t g) (hb : DT K B u g') : DT K B (tOr t u) (bOr g g') := fun ρ σ H O b R e Q q => by
  obtain ⟨c, h, e⟩ := bind_some e
  refine ha ρ σ H O c R h _ fun H1 s => ?_
  cases c
  · exact iteF (hb ρ σ H1 O b (R.grow s) e Q fun H2 s2 => q H2 (s.trans s2))
  · have e : some true = some b := e
    cases e
    exact iteT (q H1 s)
theorem dt_not (ha : DT K B t g) : DT K B (tNot t) (bNot g) := fun ρ σ H O b R e Q q => by
  obtain ⟨c, h, e⟩ := map_some e
  subst e
  exact ha ρ σ H O c R h _ fun H1 s => q H1 s
end
section
variable {X : Cx} {B : Bs} {a b : Expr} {rest : List Expr} {ta tb : TE} {t u : TT} {f f' : En → Option D} {g g' : En → Option Bool} {pos : Pos}
theorem x_one {op} (h : XE X B a ta f) : XE X B (.BoolOp op [a] pos) ta f := ⟨pe_one h.pe, h.de⟩
theorem x_and (ha : XE X B a ta f) (hb : XE X B (.BoolOp .And (b :: rest) pos) tb f') : XE X B (.BoolOp .And (a :: b :: rest) pos) (tAndV ta tb) (eAnd f f') := ⟨pe_and ha.pe hb.pe, de_and ha.de hb.de⟩
theorem x_or (ha : XE X B a ta f) (hb : XE X B (.BoolOp .Or (b :: rest) pos) tb f') : XE X B (.BoolOp .Or (a :: b :: rest) pos) (tOrV ta tb) (eOr f f') := ⟨pe_or ha.pe hb.pe, de_or ha.de hb.de⟩
theorem x_not (ha : XE X B a ta f) : XE X B (.UnaryOp .Not a pos) (tNotV ta) (e1 notD f) := ⟨pe_not ha.pe, de_not ha.de⟩
theorem w_and1 (h : XT X B a t g) : XW X B (.BoolOp .And [a] pos) t g := ⟨pw_and1 h.pe, h.de⟩
theorem w_or1 (h : XT X B a t g) : XW X B (.BoolOp .Or [a] pos) t g := ⟨pw_or1 h.pe, h.de⟩
theorem w_and (ha : XT X B a t g) (hb : XW X B (.BoolOp .And (b :: rest) pos) u g') : XW X B (.BoolOp .And (a :: b :: rest) pos) (tAnd t u) (bAnd g g') := ⟨pw_and ha.pe hb.pe, dt_and ha.de hb.de⟩
theorem w_or (ha : XT X B a t g) (hb : XW X B (.BoolOp .Or (b :: rest) pos) u g') : XW X B (.BoolOp .Or (a :: b :: rest) pos) (tOr t u) (bOr g g') := ⟨pw_or ha.pe hb.pe, dt_or ha.de hb.de⟩
theorem t_w (h : XW X B a t g) : XT X B a t g := ⟨h.pe.pt, h.de⟩
theorem t_not (h : XT X B a t g) : XT X B (.UnaryOp .Not a pos) (tNot t) (bNot g) := ⟨pt_not h.pe, dt_not h.de⟩
/-- -e -/
def negD : D → Option D
  | .int i => some (.int (-i))
  | _ => none
theorem de_neg {K : PySem.W.Frag} (ha : DE K B ta f) : DE K B (tUn (rU fun i => .int (-i)) ta) (e1 negD f) := fun ρ σ H O d R e Q q => by
  obtain ⟨z, h, e⟩ := bind_some e
  unfold negD at e
  split at e
  · cases e
    refine ha ρ σ H O _ R h _ fun v H1 s x => ?_
    cases x
    exact ⟨_, rfl, q _ H1 s (.int _)⟩
  · cases e
theorem x_neg (ha : XE X B a ta f) : XE X B (.UnaryOp .USub a pos) (tUn (rU fun i => .int (-i)) ta) (e1 negD f) := ⟨pe_un un_neg ha.pe, de_neg ha.de⟩
end

/-! ### arguments, displays -/
def aNil : En → Option (List D) := fun _ => some []
def aCons (f : En → Option D) (g : En → Option (List D)) : En → Option (List D) := fun ρ => (f ρ).bind fun d => (g ρ).bind fun ds => some (d :: ds)
def eTup (f : En → Option (List D)) : En → Option D := fun ρ => (f ρ).bind fun ds => if ds.length ≤ 1000000 then some (.tuple ds) else none
def lLst (f : En → Option (List D)) : En → Option (List D) := fun ρ => (f ρ).bind fun ds => if ds.length ≤ 1000000 then some ds else none
section
variable {K : PySem.W.Frag} {B : Bs} {te : TE} {ta : TA} {f : En → Option D} {g : En → Option (List D)}
theorem da_nil : DA K B tNil aNil := fun ρ σ H O ds R e Q q => by
  have e : [] = ds := Option.some.inj e
  subst e
  exact q [] H (Same.refl H) .nil
theorem da_cons (hf : DE K B te f) (hg : DA K B ta g) : DA K B (tCons te ta) (aCons f g) := fun ρ σ H O ds R e Q q => by
  obtain ⟨d, h1, e⟩ := bind_some e
  obtain ⟨es, h2, e⟩ := bind_some e
  have e : d :: es = ds := Option.some.inj e
  subst e
  refine hf ρ σ H O d R h1 _ fun v H1 s x => hg ρ σ H1 O es (R.grow s) h2 _ fun vs H2 s2 y => ?_
  exact q _ H2 (s.trans s2) (.cons (Dq.mono (hid_grow s2) _ _ x) y)
theorem dab_nil : DAB K B tNil aNil := fun ρ σ H O ds R e Q q => by
  have e : [] = ds := Option.some.inj e
  subst e
  exact q [] H (Same.refl H) .nil
theorem dab_cons (hf : DB K B te f) (hg : DAB K B ta g) : DAB K B (tCons te ta) (aCons f g) := fun ρ σ H O ds R e Q q => by
  obtain ⟨d, h1, e⟩ := bind_some e
  obtain ⟨es, h2, e⟩ := bind_some e
  have e : d :: es = ds := Option.some.inj e
  subst e
  refine hf ρ σ H O d R h1 _ fun v H1 s x => hg ρ σ H1 O es (R.grow s) h2 _ fun vs H2 s2 y => ?_
  exact q _ H2 (s.trans s2) (.cons (x.grow (R.grow s) s2) y)
theorem de_tup (h : DA K B ta g) : DE K B (tTup ta) (eTup g) := fun ρ σ H O d R e Q q => by
  obtain ⟨ds, h1, e⟩ := bind_some e
  split at e
  · rename_i c
    cases e
    refine h ρ σ H O ds R h1 _ fun vs H1 s x => ⟨line (by rw [x.length]; exact c), fun p hp => ?_⟩
    exact q _ _ (s.trans (same_new _ hp)) (new_tup hp ((R.grow s).fresh hp) x)
  · cases e
theorem dl_lst (h : DA K B ta g) : DL K B (tLst ta) (lLst g) := fun ρ σ H O d R e Q q => by
  obtain ⟨ds, h1, e⟩ := bind_some e
  split at e
  · rename_i c
    have e := Option.some.inj e
    subst e
    refine h ρ σ H O ds R h1 _ fun vs H1 s x => ⟨line (by rw [x.length]; exact c), fun p hp => ?_⟩
    exact q _ vs _ (s.trans (same_new _ hp)) (s.free hp) upd_same (new_lst hp x)
  · cases e
end
section
variable {X : Cx} {B : Bs} {ex : Expr} {es : List Expr} {te : TE} {t : TA} {f : En → Option D} {g : En → Option (List D)} {pos : Pos}
theorem a_nil : XA X B [] tNil aNil := ⟨pa_nil, da_nil⟩
theorem a_cons (ha : XE X B ex te f) (hr : XA X B es t g) (hs : starEach (ex :: es) X.env = (false, eval ex X.env) :: starEach es X.env := by rfl) : XA X B (ex :: es) (tCons te t) (aCons f g) := ⟨pa_cons ha.pe hr.pe hs, da_cons ha.de hr.de⟩
theorem ab_nil : XAB X B [] tNil aNil := ⟨pa_nil, dab_nil⟩
theorem ab_cons (ha : XB X B ex te f) (hr : XAB X B es t g) (hs : starEach (ex :: es) X.env = (false, eval ex X.env) :: starEach es X.env := by rfl) : XAB X B (ex :: es) (tCons te t) (aCons f g) := ⟨pa_cons ha.pe hr.pe hs, dab_cons ha.de hr.de⟩
theorem x_tup {x1} (h : XA X B es t g) : XE X B (.Tuple es x1 pos) (tTup t) (eTup g) := ⟨pe_tup h.pe, de_tup h.de⟩
theorem l_lst (h : XA X B es t g) : XL X B (.List es pos) (tLst t) (lLst g) := ⟨pe_lst h.pe, dl_lst h.de⟩
end

/-! ### places -/
def ixD (d e : D) : Option D := match d, e with
  | .list ds, .int i => atI ds i
  | .tuple ds, .int i => atI ds i
  | .str z, .int i => if z.length ≤ 1000000 then (atI z.cps.toList i).map fun c => .str ⟨#[c]⟩ else none
  | _, _ => none
theorem atI_all {K : PySem.W.Frag} {G : Hp} {vs : List V} {ds : List D} (h : DqAll K G vs ds) {i : Int} {d : D} (e : atI ds i = some d) : ∃ v, atI vs i = some v ∧ Dq K G v d := by
  unfold atI at e ⊢
  obtain ⟨j, h1, h2⟩ := bind_some e
  obtain ⟨v, h3, h4⟩ := h.get h2
  rw [h.length, h1]
  exact ⟨v, h3, h4⟩
section
variable {K : PySem.W.Frag} {B : Bs}
theorem opd_ix : OpD K B (rIx K) ixD := fun ρ σ H O x y d e z R a b k Q q => by
  unfold ixD at k
  split at k
  · rename_i ds i
    obtain ⟨p, vs, rfl, hp, ap⟩ := a.list
    cases b.int
    obtain ⟨v, h1, h2⟩ := atI_all ap k
    exact .inl ⟨p, vs, i, v, rfl, rfl, hp, h1, q v H (Same.refl H) h2⟩
  · rename_i ds i
    obtain ⟨p, vs, rfl, hp, ap⟩ := a.tup
    cases b.int
    obtain ⟨v, h1, h2⟩ := atI_all ap k
    exact .inr (.inl ⟨p, vs, i, v, rfl, rfl, SqT.mono (hid_self H O) hp, h1, q v H (Same.refl H) h2⟩)
  · rename_i w i
    split at k
    · rename_i c
      obtain ⟨n, h1, h2⟩ := map_some k
      subst h2
      cases a.str
      cases b.int
      exact .inr (.inr ⟨w, i, n, rfl, rfl, line c, h1, q _ H (Same.refl H) (.str _)⟩)
    · cases k
  · cases k
end
section
variable {X : Cx} {B : Bs} {a b : Expr} {ta tb : TE} {f f' : En → Option D} {pos : Pos}
theorem x_ix (ha : XB X B a ta f) (hb : XE X B b tb f') (hs : PlainIx b := by intro _ _; rfl) (hk : X.K = B.K := by rfl) : XE X B (.Subscript a b pos) (tOp (rIx B.K) ta tb) (e2 ixD f f') := ⟨hk ▸ pe_ix ix_seq ha.pe hb.pe hs, de_op opd_ix ha.de hb.de.db⟩
end

/-! ### slices -/
def oNone : En → Option (Option Int) := fun _ => some none
def oSome (f : En → Option D) : En → Option (Option Int) := fun ρ => match f ρ with
  | some (.int i) => some (some i)
  | _ => none
def DO (K : PySem.W.Frag) (B : Bs) (t : TO) (f : En → Option (Option Int)) : Prop := ∀ ρ σ H O o, RS K B ρ σ H O → f ρ = some o → ∀ Q : Option Int → Hp → Prop, (∀ H', Same H H' → Q o H') → t σ H Q
structure XO (X : Cx) (B : Bs) (e : Option Expr) (t : TO) (f : En → Option (Option Int)) : Prop where
  pe : PO X e t
  de : DO B.K B t f
def cutD {α : Type} (xs : List α) (lo hi : Option Int) : List α := (xs.drop (HT.sIx xs.length 0 lo)).take (HT.sIx xs.length xs.length hi - HT.sIx xs.length 0 lo)
theorem cut_all {K : PySem.W.Frag} {G : Hp} {vs : List V} {ds : List D} (h : DqAll K G vs ds) (lo hi : Option Int) : DqAll K G (cutV vs lo hi) (cutD ds lo hi) := by
  unfold cutV cutD
  rw [h.length]
  exact (h.drop _).take _
def slD (d : D) (lo hi : Option Int) : Option D := match d with
  | .tuple ds => some (.tuple (cutD ds lo hi))
  | .str z => if z.length ≤ 1000000 then some (.str (cutS z lo hi)) else none
  | .list ds => some (.list (cutD ds lo hi))
  | _ => none
def slL (d : D) (lo hi : Option Int) : Option (List D) := match d with
  | .list ds => some (cutD ds lo hi)
  | _ => none
def e3 {α : Type} (g : D → Option Int → Option Int → Option α) (f : En → Option D) (fl fh : En → Option (Option Int)) : En → Option α := fun ρ => (f ρ).bind fun d => (fl ρ).bind fun l => (fh ρ).bind fun h => g d l h
def rSlX (K : PySem.W.Frag) : V → Option Int → Option Int → Hp → VK → Prop := fun x lo hi H Q => L2.rSlA K x lo hi H Q ∨ (rSlS x lo hi H Q ∨ rSlL K x lo hi H Q)
section
variable {K : PySem.W.Frag} {B : Bs} {te : TE} {tl th : TO} {f : En → Option D} {fl fh : En → Option (Option Int)}
theorem do_none : DO K B tNoPart oNone := fun ρ σ H O o R e Q q => by
  have e : none = o := Option.some.inj e
  subst e
  exact q H (Same.refl H)
theorem do_some (h : DE K B te f) : DO K B (tPart te) (oSome f) := fun ρ σ H O o R e Q q => by
  unfold oSome at e
  split at e
  · rename_i hf
    cases e
    refine h ρ σ H O _ R hf _ fun v H1 s x => ?_
    cases x
    exact ⟨_, rfl, q H1 s⟩
  · cases e
theorem de_sl (he : DB K B te f) (hl : DO K B tl fl) (hh : DO K B th fh) : DE K B (tSl (rSlX K) te tl th) (e3 slD f fl fh) := fun ρ σ H O z R e Q q => by
  obtain ⟨d, h1, e⟩ := bind_some e
  obtain ⟨l, h2, e⟩ := bind_some e
  obtain ⟨h, h3, e⟩ := bind_some e
  refine he ρ σ H O d R h1 _ fun v H1 s1 x => hl ρ σ H1 O l (R.grow s1) h2 _ fun H2 s2 => hh ρ σ H2 O h (R.grow (s1.trans s2)) h3 _ fun H3 s3 => ?_
  have R3 := R.grow (s1.trans (s2.trans s3))
  have x := x.grow (R.grow s1) (s2.trans s3)
  unfold slD at e
  split at e
  · rename_i ds
    cases e
    obtain ⟨p, vs, rfl, hp, ap⟩ := x.tup
    refine .inl ⟨p, vs, rfl, SqT.mono (hid_self _ _) hp, fun c => ?_, fun _ r hr => ?_⟩
    · refine q _ _ (s1.trans (s2.trans s3)) ?_
      rw [ap.length] at c
      unfold cutD
      rw [c.1, c.2, List.drop_zero, Nat.sub_zero, List.take_length]
      exact .tup hp ap
    · exact q _ _ ((s1.trans (s2.trans s3)).trans (same_new _ hr)) (new_tup hr (R3.fresh hr) (cut_all ap l h))
  · rename_i w
    split at e
    · rename_i c
      cases e
      cases x.str
      exact .inr (.inl ⟨_, rfl, line c, q _ _ (s1.trans (s2.trans s3)) (.str _)⟩)
    · cases e
  · rename_i ds
    cases e
    obtain ⟨p, vs, rfl, hp, ap⟩ := x.list
    have ss := s1.trans (s2.trans s3)
    refine .inr (.inr ⟨p, vs, rfl, hp, fun r hr => q _ _ (ss.trans (same_new _ hr)) (.lst (SqL.of ?_) (DqAll.mono (hid_grow (same_new _ hr)) _ _ (cut_all ap l h)))⟩)
    rw [hid_out (R3.fresh hr), upd_same]
  · cases e
theorem dl_sl (he : DB K B te f) (hl : DO K B tl fl) (hh : DO K B th fh) : DL K B (tSl (rSlL K) te tl th) (e3 slL f fl fh) := fun ρ σ H O z R e Q q => by
  obtain ⟨d, h1, e⟩ := bind_some e
  obtain ⟨l, h2, e⟩ := bind_some e
  obtain ⟨h, h3, e⟩ := bind_some e
  refine he ρ σ H O d R h1 _ fun v H1 s1 x => hl ρ σ H1 O l (R.grow s1) h2 _ fun H2 s2 => hh ρ σ H2 O h (R.grow (s1.trans s2)) h3 _ fun H3 s3 => ?_
  have x := x.grow (R.grow s1) (s2.trans s3)
  have ss := s1.trans (s2.trans s3)
  unfold slL at e
  split at e
  · rename_i ds
    have e := Option.some.inj e
    subst e
    obtain ⟨p, vs, rfl, hp, ap⟩ := x.list
    exact ⟨p, vs, rfl, hp, fun r hr => q r _ _ (ss.trans (same_new _ hr)) (ss.free hr) upd_same (new_lst hr (cut_all ap l h))⟩
  · cases e
end
section
variable {X : Cx} {B : Bs} {ex : Expr} {lo hi : Option Expr} {te : TE} {tl th : TO} {f : En → Option D} {fl fh : En → Option (Option Int)} {pos p2 : Pos}
theorem o_none : XO X B none tNoPart oNone := ⟨po_none, do_none⟩
theorem o_some (h : XE X B ex te f) : XO X B (some ex) (tPart te) (oSome f) := ⟨po_some h.pe, do_some h.de⟩
/-- a slice of a tuple (not the whole) or a text; of a list: a new one -/
theorem x_sl (he : XB X B ex te f) (hl : XO X B lo tl fl) (hh : XO X B hi th fh) (hk : X.K = B.K := by rfl) : XE X B (.Subscript ex (.Slice lo hi none p2) pos) (tSl (rSlX B.K) te tl th) (e3 slD f fl fh) := ⟨hk ▸ pe_slice (SlR.or sl_tupA (SlR.or sl_str sl_list)) he.pe hl.pe hh.pe, de_sl he.de hl.de hh.de⟩
theorem l_sl (he : XB X B ex te f) (hl : XO X B lo tl fl) (hh : XO X B hi th fh) (hk : X.K = B.K := by rfl) : XL X B (.Subscript ex (.Slice lo hi none p2) pos) (tSl (rSlL B.K) te tl th) (e3 slL f fl fh) := ⟨hk ▸ pe_slice sl_list he.pe hl.pe hh.pe, dl_sl he.de hl.de hh.de⟩
end
end Z

set_option Elab.async false
set_option maxRecDepth 100000
set_option maxHeartbeats 4000000
set_option linter.all false
/-! Z3: calls of built-ins, walks, targets, comprehensions -/
namespace Z
open PySem PySem.Spec PyProof.Rows L2

/-! ### calls of built-ins -/
def OpC (K : PySem.W.Frag) (B : Bs) (r : List V → Hp → VK → Prop) (g : List D → Option D) : Prop := ∀ ρ σ H O vs ds z, RS K B ρ σ H O → BoAll K H O vs ds → g ds = some z → ∀ Q : VK, (∀ v H', Same H H' → Dq K (hid H' O) v z → Q v H') → r vs H Q
def OpCL (K : PySem.W.Frag) (B : Bs) (r : List V → Hp → VK → Prop) (g : List D → Option (List D)) : Prop := ∀ ρ σ H O vs ds zs, RS K B ρ σ H O → BoAll K H O vs ds → g ds = some zs → ∀ Q : VK, (∀ l us H', Same H H' → H l = none → H' l = some (.lst us) → DqAll K (hid H' (l :: O)) us zs → Q (.ref l) H') → r vs H Q
def eCall {α : Type} (g : List D → Option α) (a : En → Option (List D)) : En → Option α := fun ρ => (a ρ).bind g
section
variable {K : PySem.W.Frag} {B : Bs} {ta : TA} {a : En → Option (List D)} {r r' : List V → Hp → VK → Prop}
theorem de_cb {g : List D → Option D} (hr : OpC K B r g) (h : DAB K B ta a) : DE K B (tCB r ta) (eCall g a) := fun ρ σ H O z R e Q q => by
  obtain ⟨ds, h1, e⟩ := bind_some e
  exact h ρ σ H O ds R h1 _ fun vs H1 s x => hr ρ σ H1 O vs ds z (R.grow s) x e Q fun v H2 s2 y => q v H2 (s.trans s2) y
theorem dl_cb {g : List D → Option (List D)} (hr : OpCL K B r g) (h : DAB K B ta a) : DL K B (tCB r ta) (eCall g a) := fun ρ σ H O z R e Q q => by
  obtain ⟨ds, h1, e⟩ := bind_some e
  exact h ρ σ H O ds R h1 _ fun vs H1 s x => hr ρ σ H1 O vs ds z (R.grow s) x e Q fun v us H2 s2 n c y => q v us H2 (s.trans s2) (s.free n) c y
theorem opc_or {g g' : List D → Option D} (h : OpC K B r g) (h' : OpC K B r' g') : OpC K B (fun xs H Q => r xs H Q ∨ r' xs H Q) (fun ds => (g ds).or (g' ds)) := fun ρ σ H O vs ds z R a k Q q => by
  cases hg : g ds with
  | some w =>
    have k : (g ds).or (g' ds) = some z := k
    rw [hg] at k
    cases k
    exact .inl (h ρ σ H O vs ds _ R a hg Q q)
  | none =>
    have k : (g ds).or (g' ds) = some z := k
    rw [hg] at k
    exact .inr (h' ρ σ H O vs ds z R a k Q q)
theorem bo1 {H : Hp} {O : List Addr} {vs : List V} {d : D} (h : BoAll K H O vs [d]) : ∃ v, vs = [v] ∧ Bo K H O v d := by
  cases h with
  | cons a b => cases b; exact ⟨_, rfl, a⟩
theorem bo2 {H : Hp} {O : List Addr} {vs : List V} {d e : D} (h : BoAll K H O vs [d, e]) : ∃ v u, vs = [v, u] ∧ Bo K H O v d ∧ Bo K H O u e := by
  cases h with
  | cons a b =>
    cases b with
    | cons c d => cases d; exact ⟨_, _, rfl, a, c⟩
/-- len -/
def lenD : List D → Option D
  | [.list ds] => some (.int ds.length)
  | [.tuple ds] => some (.int ds.length)
  | [.str z] => if z.length ≤ 1000000 then some (.int z.length) else none
  | _ => none
def rLen (K : PySem.W.Frag) : List V → Hp → VK → Prop := fun xs H Q => ∃ x n, xs = [x] ∧ LenV K x H n ∧ Q (.int n) H
theorem opc_len : OpC K B (rLen K) lenD := fun ρ σ H O vs ds z R a k Q q => by
  unfold lenD at k
  split at k
  · rename_i es
    cases k
    obtain ⟨v, rfl, b⟩ := bo1 a
    obtain ⟨p, us, rfl, hp, ap⟩ := b.list
    exact ⟨_, es.length, rfl, .inl ⟨us, hp, ap.length.symm⟩, q _ H (Same.refl H) (.int _)⟩
  · rename_i es
    cases k
    obtain ⟨v, rfl, b⟩ := bo1 a
    obtain ⟨p, us, rfl, hp, ap⟩ := b.tup
    exact ⟨_, es.length, rfl, .inr ⟨us, SqT.mono (hid_self H O) hp, ap.length.symm⟩, q _ H (Same.refl H) (.int _)⟩
  · rename_i y
    split at k
    · rename_i c
      cases k
      obtain ⟨v, rfl, b⟩ := bo1 a
      cases b.str
      exact ⟨_, y.length, rfl, ⟨line c, rfl⟩, q _ H (Same.refl H) (.int _)⟩
    · cases k
  · cases k
/-- int of a number, of a truth -/
def intD : List D → Option D
  | [.int i] => some (.int i)
  | [.bool b] => some (.int (if b = true then 1 else 0))
  | _ => none
def rInt : List V → Hp → VK → Prop := fun xs H Q => (∃ i, xs = [.int i] ∧ Q (.int i) H) ∨ ∃ k, xs = [.bl k] ∧ Q (.int (if k then 1 else 0)) H
theorem opc_int : OpC K B rInt intD := fun ρ σ H O vs ds z R a k Q q => by
  unfold intD at k
  split at k
  · cases k
    obtain ⟨v, rfl, b⟩ := bo1 a
    cases b.int
    exact .inl ⟨_, rfl, q _ H (Same.refl H) (.int _)⟩
  · cases k
    obtain ⟨v, rfl, b⟩ := bo1 a
    cases b.bl
    exact .inr ⟨_, rfl, q _ H (Same.refl H) (.int _)⟩
  · cases k
/-- min, max of two -/
def minD : List D → Option D
  | [.int i, .int j] => some (.int (min i j))
  | _ => none
def maxD : List D → Option D
  | [.int i, .int j] => some (.int (max i j))
  | _ => none
def rMin2 : List V → Hp → VK → Prop := fun xs H Q => ∃ i j, xs = [.int i, .int j] ∧ Q (.int (if j < i then j else i)) H
def rMax2 : List V → Hp → VK → Prop := fun xs H Q => ∃ i j, xs = [.int i, .int j] ∧ Q (.int (if j > i then j else i)) H
theorem opc_min : OpC K B rMin2 minD := fun ρ σ H O vs ds z R a k Q q => by
  unfold minD at k
  split at k
  · cases k
    obtain ⟨v, u, rfl, b, c⟩ := bo2 a
    cases b.int
    cases c.int
    refine ⟨_, _, rfl, q _ H (Same.refl H) ?_⟩
    rename_i i j
    have e : (if j < i then j else i) = min i j := by split <;> omega
    rw [e]; exact .int _
  · cases k
theorem opc_max : OpC K B rMax2 maxD := fun ρ σ H O vs ds z R a k Q q => by
  unfold maxD at k
  split at k
  · cases k
    obtain ⟨v, u, rfl, b, c⟩ := bo2 a
    cases b.int
    cases c.int
    refine ⟨_, _, rfl, q _ H (Same.refl H) ?_⟩
    rename_i i j
    have e : (if j > i then j else i) = max i j := by split <;> omega
    rw [e]; exact .int _
  · cases k
/-- str of a number -/
def strD : List D → Option D
  | [.int i] => if -18446744073709551616 < i ∧ i < 18446744073709551616 then some (.str (toString i)) else none
  | _ => none
def rStr : List V → Hp → VK → Prop := fun xs H Q => ∃ i, xs = [.int i] ∧ i.natAbs.log2 < 1920 ∧ Q (.str (toString i)) H
theorem log2_small2 {n : Nat} (h : n < 18446744073709551616) : n.log2 < 1920 := by
  by_cases z : n = 0
  · subst z; decide
  · have e : (18446744073709551616 : Nat) = 2 ^ 64 := by decide
    have : n.log2 < 64 := (Nat.log2_lt z).mpr (by rw [← e]; exact h)
    omega
theorem opc_str : OpC K B rStr strD := fun ρ σ H O vs ds z R a k Q q => by
  unfold strD at k
  split at k
  · split at k
    · rename_i c
      cases k
      obtain ⟨v, rfl, b⟩ := bo1 a
      cases b.int
      exact ⟨_, rfl, log2_small2 (by omega), q _ H (Same.refl H) (.str _)⟩
    · cases k
  · cases k
/-- lists of one kind -/
def allI : List D → Option (List Int)
  | [] => some []
  | .int i :: ds => (allI ds).map (i :: ·)
  | _ :: _ => none
def allBl : List D → Option (List Bool)
  | [] => some []
  | .bool i :: ds => (allBl ds).map (i :: ·)
  | _ :: _ => none
def allS : List D → Option (List Str)
  | [] => some []
  | .str i :: ds => (allS ds).map (i :: ·)
  | _ :: _ => none
theorem allI_some : ∀ {ds : List D} {ns : List Int}, allI ds = some ns → ds = ns.map .int
  | [], ns, h => by cases h; rfl
  | .int i :: ds, ns, h => by
    obtain ⟨ms, h1, h2⟩ := map_some (show (allI ds).map (i :: ·) = some ns from h)
    subst h2
    rw [allI_some h1]; rfl
  | .none :: _, _, h => by cases h
  | .bool _ :: _, _, h => by cases h
  | .str _ :: _, _, h => by cases h
  | .list _ :: _, _, h => by cases h
  | .tuple _ :: _, _, h => by cases h
  | .dict _ :: _, _, h => by cases h
theorem allBl_some : ∀ {ds : List D} {ns : List Bool}, allBl ds = some ns → ds = ns.map .bool
  | [], ns, h => by cases h; rfl
  | .bool i :: ds, ns, h => by
    obtain ⟨ms, h1, h2⟩ := map_some (show (allBl ds).map (i :: ·) = some ns from h)
    subst h2
    rw [allBl_some h1]; rfl
  | .none :: _, _, h => by cases h
  | .int _ :: _, _, h => by cases h
  | .str _ :: _, _, h => by cases h
  | .list _ :: _, _, h => by cases h
  | .tuple _ :: _, _, h => by cases h
  | .dict _ :: _, _, h => by cases h
theorem allS_some : ∀ {ds : List D} {ns : List Str}, allS ds = some ns → ds = ns.map .str
  | [], ns, h => by cases h; rfl
  | .str i :: ds, ns, h => by
    obtain ⟨ms, h1, h2⟩ := map_some (show (allS ds).map (i :: ·) = some ns from h)
    subst h2
    rw [allS_some h1]; rfl
  | .none :: _, _, h => by cases h
  | .int _ :: _, _, h => by cases h
  | .bool _ :: _, _, h => by cases h
  | .list _ :: _, _, h => by cases h
  | .tuple _ :: _, _, h => by cases h
  | .dict _ :: _, _, h => by cases h
theorem allI_ints : ∀ ns : List Int, allI (ns.map .int) = some ns
  | [] => rfl
  | n :: ns => by show (allI (ns.map .int)).map (n :: ·) = _; rw [allI_ints ns]; rfl
theorem allBl_bls : ∀ ns : List Bool, allBl (ns.map .bool) = some ns
  | [] => rfl
  | n :: ns => by show (allBl (ns.map .bool)).map (n :: ·) = _; rw [allBl_bls ns]; rfl
theorem allS_strs : ∀ ns : List Str, allS (ns.map .str) = some ns
  | [] => rfl
  | n :: ns => by show (allS (ns.map .str)).map (n :: ·) = _; rw [allS_strs ns]; rfl
def sumD : List D → Option D
  | [.list ds] => (allI ds).map fun ns => .int ns.sum
  | [.tuple ds] => (allI ds).map fun ns => .int ns.sum
  | _ => none
/-- sum of a list or a tuple of numbers -/
def rSumT (K : PySem.W.Frag) : List V → Hp → VK → Prop := fun vs H Q => ∃ (a : Addr) (ns : List Int), vs = [V.ref a] ∧ SqT K H a (ns.map V.int) ∧ Q (.int ns.sum) H
def rSumA (K : PySem.W.Frag) : List V → Hp → VK → Prop := fun vs H Q => rSum K vs H Q ∨ rSumT K vs H Q
theorem sum_tup {prog : Program} {w : World} {A : Around} {E : Value → Shared → Prop} {s : Shared} {l : Addr} {its : List Value} {ns : List Int} {Q : Value → Shared → Prop} (hh : A.handled = none) (hl : s.heap.IsTuple l its.toArray) (hi : IntsAre its ns)
    (h : ∀ h' tk t', (∀ b o, s.heap.get? b = some o → h'.get? b = some o) → Q (.int ns.sum t') { s with heap := h', toks := tk }) : wpAny (model prog w) A (call (.builtin "sum") [.ref l]) Q E s := by
  obtain ⟨xs, e⟩ := hi.allInts.items
  have hn : numsOf (intItems xs).toList = ns := by rw [← e]; exact hi.numsOf
  rw [nums_intItems] at hn
  rw [e] at hl
  have hlt : l < s.heap.objs.size := by
    obtain ⟨o, eo, _⟩ := hl
    exact Heap.lt_size eo
  have hne : l ≠ s.heap.objs.size := Nat.ne_of_lt hlt
  refine PySem.call_sum_walkG (wpAny_pyIter_tuple hl ?_)
  have hl2 := hl.at (h' := s.heap.push { cls := .type "tuple_iterator", data := .fields #[.ref l, .int 0 0] }) fun o eo => Heap.get?_push_of_some _ eo
  refine ⟨_, _, _, _, _, _, numAt xs, rfl, Walks.tuple (A := A.in1) hh s.heap.objs.size l hne (intItems xs), ⟨⟨_, Heap.get?_push_size _ rfl, rfl, rfl⟩, hl2⟩, fun b hb => ?_, fun i v hv => intItems_at hv, fun h' tk t' hk => ?_⟩
  · show b < (s.heap.push _).objs.size
    rw [Heap.size_push]
    rcases List.mem_cons.mp hb with eb | hb
    · rw [eb]; exact Nat.lt_succ_self _
    · rw [List.mem_singleton.mp hb]; exact Nat.lt_succ_of_lt hlt
  · have q := h h' tk t' fun b o eo => hk b o (fun hm => by
      have z := Heap.lt_size eo
      rw [List.mem_singleton.mp hm] at z
      exact Nat.lt_irrefl _ z) (Heap.get?_push_of_some _ eo)
    rw [preSum_eq, List.take_of_length_le (by simp [intItems]), hn]
    exact q
theorem cr_sumT {X : Cx} (hc : X.calm = true) : CallR X (.builtin "sum") (rSumT X.K) := by
  intro pins s σ H vs us Q I r h
  obtain ⟨a, ns, rfl, hs, q⟩ := h
  obtain ⟨its, rv, hl, _⟩ := I.tuple hs
  rw [Vals.ref1 r]
  exact sum_tup (I.ok.hd hc) (show s.heap.IsTuple a its.toArray from hl) rv.ints fun h' tk t' hk => ⟨.int _, H, I.kept hk, ⟨_, rfl⟩, q⟩
theorem cr_sumA {X : Cx} (hc : X.calm = true) : CallR X (.builtin "sum") (rSumA X.K) := by
  intro pins s σ H vs us Q I r h
  rcases h with h | h
  · exact cr_sum hc pins s σ H vs us Q I r h
  · exact cr_sumT hc pins s σ H vs us Q I r h
def allD : List D → Option D
  | [.list ds] => (allBl ds).map fun ns => .bool (ns.all id)
  | _ => none
def leastI : List Int → Int
  | [] => 0
  | [n] => n
  | n :: m :: ns => min n (leastI (m :: ns))
def mostI : List Int → Int
  | [] => 0
  | [n] => n
  | n :: m :: ns => max n (mostI (m :: ns))
theorem leastI_is : ∀ {ns : List Int} {m : Int}, m ∈ ns → (∀ y, y ∈ ns → m ≤ y) → leastI ns = m
  | [n], m, h, _ => (List.mem_singleton.mp h).symm
  | n :: k :: ns, m, h, l => by
    show min n (leastI (k :: ns)) = m
    have h0 := l n List.mem_cons_self
    have key : ∀ {ns : List Int}, ns ≠ [] → leastI ns ∈ ns := by
      intro ns
      induction ns with
      | nil => intro h; exact absurd rfl h
      | cons a r ih =>
        intro _
        cases r with
        | nil => exact List.mem_cons_self
        | cons b r =>
          show min a (leastI (b :: r)) ∈ a :: b :: r
          have := ih (by simp)
          rcases Int.le_total a (leastI (b :: r)) with q | q
          · rw [Int.min_eq_left q]; exact List.mem_cons_self
          · rw [Int.min_eq_right q]; exact List.mem_cons_of_mem _ this
    have h1 := l _ (List.mem_cons_of_mem n (key (ns := k :: ns) (by simp)))
    rcases List.mem_cons.mp h with e | h
    · subst e; exact Int.min_eq_left h1
    · have e := leastI_is h fun y hy => l y (List.mem_cons_of_mem _ hy)
      rw [e]; exact Int.min_eq_right h0
theorem mostI_is : ∀ {ns : List Int} {m : Int}, m ∈ ns → (∀ y, y ∈ ns → y ≤ m) → mostI ns = m
  | [n], m, h, _ => (List.mem_singleton.mp h).symm
  | n :: k :: ns, m, h, l => by
    show max n (mostI (k :: ns)) = m
    have h0 := l n List.mem_cons_self
    have key : ∀ {ns : List Int}, ns ≠ [] → mostI ns ∈ ns := by
      intro ns
      induction ns with
      | nil => intro h; exact absurd rfl h
      | cons a r ih =>
        intro _
        cases r with
        | nil => exact List.mem_cons_self
        | cons b r =>
          show max a (mostI (b :: r)) ∈ a :: b :: r
          have := ih (by simp)
          rcases Int.le_total a (mostI (b :: r)) with q | q
          · rw [Int.max_eq_right q]; exact List.mem_cons_of_mem _ this
          · rw [Int.max_eq_left q]; exact List.mem_cons_self
    have h1 := l _ (List.mem_cons_of_mem n (key (ns := k :: ns) (by simp)))
    rcases List.mem_cons.mp h with e | h
    · subst e; exact Int.max_eq_left h1
    · have e := mostI_is h fun y hy => l y (List.mem_cons_of_mem _ hy)
      rw [e]; exact Int.max_eq_right h0
def minLD : List D → Option D
  | [.list ds] => (allI ds).bind fun ns => if ns.isEmpty then none else some (.int (leastI ns))
  | _ => none
def maxLD : List D → Option D
  | [.list ds] => (allI ds).bind fun ns => if ns.isEmpty then none else some (.int (mostI ns))
  | _ => none
theorem opc_sum : OpC K B (rSumA K) sumD := fun ρ σ H O vs ds z R a k Q q => by
  unfold sumD at k
  split at k
  · obtain ⟨ns, h1, h2⟩ := map_some k
    subst h2
    have h1 := allI_some h1
    subst h1
    obtain ⟨v, rfl, b⟩ := bo1 a
    obtain ⟨p, us, rfl, hp, ap⟩ := b.list
    rw [ap.ints] at hp
    exact .inl ⟨p, ns, rfl, hp, q _ H (Same.refl H) (.int _)⟩
  · obtain ⟨ns, h1, h2⟩ := map_some k
    subst h2
    have h1 := allI_some h1
    subst h1
    obtain ⟨v, rfl, b⟩ := bo1 a
    obtain ⟨p, us, rfl, hp, ap⟩ := b.tup
    rw [ap.ints] at hp
    exact .inr ⟨p, ns, rfl, SqT.mono (hid_self H O) hp, q _ H (Same.refl H) (.int _)⟩
  · cases k
theorem opc_all : OpC K B (rAll K) allD := fun ρ σ H O vs ds z R a k Q q => by
  unfold allD at k
  split at k
  · obtain ⟨ns, h1, h2⟩ := map_some k
    subst h2
    have h1 := allBl_some h1
    subst h1
    obtain ⟨v, rfl, b⟩ := bo1 a
    obtain ⟨p, us, rfl, hp, ap⟩ := b.list
    rw [ap.bls] at hp
    exact ⟨p, ns, rfl, hp, q _ H (Same.refl H) (.bl _)⟩
  · cases k
theorem opc_minL : OpC K B (rMin K) minLD := fun ρ σ H O vs ds z R a k Q q => by
  unfold minLD at k
  split at k
  · obtain ⟨ns, h1, k⟩ := bind_some k
    split at k
    · cases k
    · rename_i c
      cases k
      have h1 := allI_some h1
      subst h1
      obtain ⟨v, rfl, b⟩ := bo1 a
      obtain ⟨p, us, rfl, hp, ap⟩ := b.list
      rw [ap.ints] at hp
      refine ⟨p, ns, rfl, hp, ?_, fun m hm hl => ?_⟩
      · cases ns with
        | nil => exact absurd rfl c
        | cons _ _ => exact Nat.succ_pos _
      · rw [← leastI_is hm hl]
        exact q _ H (Same.refl H) (.int _)
  · cases k
theorem opc_maxL : OpC K B (rMax K) maxLD := fun ρ σ H O vs ds z R a k Q q => by
  unfold maxLD at k
  split at k
  · obtain ⟨ns, h1, k⟩ := bind_some k
    split at k
    · cases k
    · rename_i c
      cases k
      have h1 := allI_some h1
      subst h1
      obtain ⟨v, rfl, b⟩ := bo1 a
      obtain ⟨p, us, rfl, hp, ap⟩ := b.list
      rw [ap.ints] at hp
      refine ⟨p, ns, rfl, hp, ?_, fun m hm hl => ?_⟩
      · cases ns with
        | nil => exact absurd rfl c
        | cons _ _ => exact Nat.succ_pos _
      · rw [← mostI_is hm hl]
        exact q _ H (Same.refl H) (.int _)
  · cases k
/-- list(x), tuple(x) -/
def listL : List D → Option (List D)
  | [.list ds] => some ds
  | [.tuple ds] => some ds
  | _ => none
def tupD : List D → Option D
  | [.list ds] => some (.tuple ds)
  | [.tuple ds] => some (.tuple ds)
  | _ => none
def rList (K : PySem.W.Frag) : List V → Hp → VK → Prop := fun xs H Q => ∃ p ys, xs = [.ref p] ∧ (SqL K H p ys ∨ SqT K H p ys) ∧ ∀ l, H l = none → Q (.ref l) (upd H l (.lst ys))
def rTuple (K : PySem.W.Frag) : List V → Hp → VK → Prop := fun xs H Q => ∃ p ys, xs = [.ref p] ∧ ((SqL K H p ys ∧ ∀ l, H l = none → Q (.ref l) (upd H l (.tup ys))) ∨ (SqT K H p ys ∧ Q (.ref p) H))
theorem opc_list : OpCL K B (rList K) listL := fun ρ σ H O vs ds z R a k Q q => by
  unfold listL at k
  split at k
  · have k := Option.some.inj k
    subst k
    obtain ⟨v, rfl, b⟩ := bo1 a
    obtain ⟨p, us, rfl, hp, ap⟩ := b.list
    exact ⟨p, us, rfl, .inl hp, fun l hl => q l us _ (same_new _ hl) hl upd_same (new_lst hl ap)⟩
  · have k := Option.some.inj k
    subst k
    obtain ⟨v, rfl, b⟩ := bo1 a
    obtain ⟨p, us, rfl, hp, ap⟩ := b.tup
    exact ⟨p, us, rfl, .inr (SqT.mono (hid_self H O) hp), fun l hl => q l us _ (same_new _ hl) hl upd_same (new_lst hl ap)⟩
  · cases k
theorem opc_tuple : OpC K B (rTuple K) tupD := fun ρ σ H O vs ds z R a k Q q => by
  unfold tupD at k
  split at k
  · cases k
    obtain ⟨v, rfl, b⟩ := bo1 a
    obtain ⟨p, us, rfl, hp, ap⟩ := b.list
    exact ⟨p, us, rfl, .inl ⟨hp, fun l hl => q _ _ (same_new _ hl) (new_tup hl (R.fresh hl) ap)⟩⟩
  · cases k
    obtain ⟨v, rfl, b⟩ := bo1 a
    obtain ⟨p, us, rfl, hp, ap⟩ := b.tup
    exact ⟨p, us, rfl, .inr ⟨SqT.mono (hid_self H O) hp, q _ H (Same.refl H) (.tup hp ap)⟩⟩
  · cases k
end
section
variable {X : Cx} {B : Bs} {x : Str} {p pos : Pos} {ex : Expr} {es : List Expr} {t : TA} {a : En → Option (List D)} {id T : String} {r : List V → Hp → VK → Prop}
theorem x_cb {g : List D → Option D} (hc : CallR X (.builtin id) r) (hr : OpC B.K B r g) (hm : X.mg x = none) (hv : bootBuiltins x = some (.builtin id)) (ha : XAB X B (ex :: es) t a) (hg : Gl X x := by rfl) (hn : x ≠ "__name__" := by decide) (hdb : (x == ("__debug__" : Str)) = false := by decide)
    (he : starEach (ex :: es) X.env = (false, eval ex X.env) :: starEach es X.env := by rfl) (hpl : (backTo pos (starEach es X.env)).any (·.1) = false := by rfl) : XE X B (.Call (.Name x p) (ex :: es) [] pos) (tCB r t) (eCall g a) := ⟨pe_callB hc hg hm hv ha.pe hn hdb he hpl, de_cb hr ha.de⟩
theorem x_ct {g : List D → Option D} (hc : CallR X (.type T) r) (hr : OpC B.K B r g) (hm : X.mg x = none) (hv : bootBuiltins x = some (.type T)) (ha : XAB X B (ex :: es) t a) (hg : Gl X x := by rfl) (hn : x ≠ "__name__" := by decide) (hdb : (x == ("__debug__" : Str)) = false := by decide)
    (he : starEach (ex :: es) X.env = (false, eval ex X.env) :: starEach es X.env := by rfl) (hpl : (backTo pos (starEach es X.env)).any (·.1) = false := by rfl) : XE X B (.Call (.Name x p) (ex :: es) [] pos) (tCB r t) (eCall g a) := ⟨pe_callTy hc hg hm hv ha.pe hn hdb he hpl, de_cb hr ha.de⟩
theorem l_ct {g : List D → Option (List D)} (hc : CallR X (.type T) r) (hr : OpCL B.K B r g) (hm : X.mg x = none) (hv : bootBuiltins x = some (.type T)) (ha : XAB X B (ex :: es) t a) (hg : Gl X x := by rfl) (hn : x ≠ "__name__" := by decide) (hdb : (x == ("__debug__" : Str)) = false := by decide)
    (he : starEach (ex :: es) X.env = (false, eval ex X.env) :: starEach es X.env := by rfl) (hpl : (backTo pos (starEach es X.env)).any (·.1) = false := by rfl) : XL X B (.Call (.Name x p) (ex :: es) [] pos) (tCB r t) (eCall g a) := ⟨pe_callTy hc hg hm hv ha.pe hn hdb he hpl, dl_cb hr ha.de⟩
end
section
variable {X : Cx} {K : PySem.W.Frag}
theorem cw_len (hk : X.K = K := by rfl) : CallR X (.builtin "len") (rLen K) := hk ▸ call_len
theorem cw_list (hk : X.K = K := by rfl) : CallR X (.type "list") (rList K) := hk ▸ call_list_of
theorem cw_tuple (hk : X.K = K := by rfl) : CallR X (.type "tuple") (rTuple K) := hk ▸ call_tuple_of
theorem cw_sum (hc : X.calm = true) (hk : X.K = K := by rfl) : CallR X (.builtin "sum") (rSumA K) := hk ▸ cr_sumA hc
theorem cw_all (hc : X.calm = true) (hk : X.K = K := by rfl) : CallR X (.builtin "all") (rAll K) := hk ▸ cr_all hc
theorem cw_minL (hc : X.calm = true) (hk : X.K = K := by rfl) : CallR X (.builtin "min") (rMin K) := hk ▸ cr_min hc
theorem cw_maxL (hc : X.calm = true) (hk : X.K = K := by rfl) : CallR X (.builtin "max") (rMax K) := hk ▸ cr_max hc
end
/-! ### isinstance of a built-in class -/
def tyD : D → String
  | .none => "NoneType"
  | .bool _ => "bool"
  | .int _ => "int"
  | .str _ => "str"
  | .list _ => "list"
  | .tuple _ => "tuple"
  | .dict _ => "dict"
def isiD (T : String) (d : D) : Option D := (kitB (tyD d) T).map .bool
section
variable {K : PySem.W.Frag} {B : Bs}
theorem ty_of {H : Hp} {O : List Addr} {v : V} {d : D} (h : Bo K H O v d) : TyX K H v (.type (tyD d)) := by
  have f := h.full
  cases f with
  | non => exact .base .non
  | bl b => exact .base (.bl b)
  | int b => exact .base (.int b)
  | str b => exact .base (.str b)
  | lst s _ =>
    rcases s with (s | ⟨o, s⟩) | ⟨o, its, n, s, c, _⟩
    · exact .base (.lst s)
    · exact .base (.frz s)
    · exact .kList s c
  | tup s _ =>
    rcases s with (s | ⟨o, s⟩) | ⟨o, its, n, s, c, _⟩
    · exact .base (.tup s)
    · exact .fTuple s
    · exact .kTuple s c
  | dic s _ => exact .base (.dK s)
  | dct s _ => exact .base (.dT s)
theorem de_isi {te : TE} {f : En → Option D} {T : String} (h : DB K B te f) : DE K B (tCB (rIsi K) (tCons te (tCons (tC (.ty T)) tNil))) (e1 (isiD T) f) := fun ρ σ H O z R e Q q => by
  obtain ⟨d, h1, e⟩ := bind_some e
  obtain ⟨b, h2, h3⟩ := map_some e
  subst h3
  refine h ρ σ H O d R h1 _ fun v H1 s x => ⟨v, .ty T, .type (tyD d), .type T, b, rfl, .ty T, ty_of x, kit_ty h2, q _ H1 s (.bl b)⟩
end
section
variable {X : Cx} {B : Bs} {p p2 pos : Pos} {ex : Expr} {te : TE} {f : En → Option D} {T : Str} {T' : String}
theorem x_isi (hm : X.mg "isinstance" = none) (ht : X.mg T = none) (hv : bootBuiltins T = some (.type T')) (ha : XB X B ex te f) (hg : Gl X "isinstance" := by rfl) (hg2 : Gl X T := by rfl) (hn : T ≠ "__name__" := by decide) (hdb : (T == ("__debug__" : Str)) = false := by decide)
    (h1 : starEach (ex :: [.Name T p2]) X.env = (false, eval ex X.env) :: starEach [.Name T p2] X.env := by rfl) (hpl : (backTo pos (starEach [.Name T p2] X.env)).any (·.1) = false := by rfl) (hk : X.K = B.K := by rfl) :
    XE X B (.Call (.Name "isinstance" p) [ex, .Name T p2] [] pos) (tCB (rIsi B.K) (tCons te (tCons (tC (.ty T')) tNil))) (e1 (isiD T') f) :=
  ⟨hk ▸ pe_callB call_isi hg hm PyProof.Rows.boot_isinstance (pa_cons ha.pe (pa_cons (pe_bltn hg2 ht hv rfl hn hdb) pa_nil) h1) (by decide) (by decide) h1 hpl, de_isi ha.de⟩
end
theorem kit_int_int : kitB "int" "int" = some true := by decide +kernel
theorem kit_bool_int : kitB "bool" "int" = some true := by decide +kernel
theorem kit_str_int : kitB "str" "int" = some false := by decide +kernel
theorem kit_list_int : kitB "list" "int" = some false := by decide +kernel
theorem kit_tuple_int : kitB "tuple" "int" = some false := by decide +kernel
theorem kit_non_int : kitB "NoneType" "int" = some false := by decide +kernel
theorem kit_int_bool : kitB "int" "bool" = some false := by decide +kernel
theorem kit_bool_bool : kitB "bool" "bool" = some true := by decide +kernel
theorem kit_str_bool : kitB "str" "bool" = some false := by decide +kernel
theorem kit_list_bool : kitB "list" "bool" = some false := by decide +kernel
theorem kit_tuple_bool : kitB "tuple" "bool" = some false := by decide +kernel
theorem kit_non_bool : kitB "NoneType" "bool" = some false := by decide +kernel
theorem kit_int_str : kitB "int" "str" = some false := by decide +kernel
theorem kit_bool_str : kitB "bool" "str" = some false := by decide +kernel
theorem kit_str_str : kitB "str" "str" = some true := by decide +kernel
theorem kit_list_str : kitB "list" "str" = some false := by decide +kernel
theorem kit_tuple_str : kitB "tuple" "str" = some false := by decide +kernel
theorem kit_non_str : kitB "NoneType" "str" = some false := by decide +kernel
theorem kit_int_tuple : kitB "int" "tuple" = some false := by decide +kernel
theorem kit_bool_tuple : kitB "bool" "tuple" = some false := by decide +kernel
theorem kit_str_tuple : kitB "str" "tuple" = some false := by decide +kernel
theorem kit_list_tuple : kitB "list" "tuple" = some false := by decide +kernel
theorem kit_tuple_tuple : kitB "tuple" "tuple" = some true := by decide +kernel
theorem kit_non_tuple : kitB "NoneType" "tuple" = some false := by decide +kernel
theorem kit_int_list : kitB "int" "list" = some false := by decide +kernel
theorem kit_bool_list : kitB "bool" "list" = some false := by decide +kernel
theorem kit_str_list : kitB "str" "list" = some false := by decide +kernel
theorem kit_list_list : kitB "list" "list" = some true := by decide +kernel
theorem kit_tuple_list : kitB "tuple" "list" = some false := by decide +kernel
theorem kit_non_list : kitB "NoneType" "list" = some false := by decide +kernel
end Z

set_option Elab.async false
set_option maxRecDepth 100000
set_option maxHeartbeats 4000000
set_option linter.all false
/-! Z4: walks, targets, comprehensions -/
namespace Z
open PySem PySem.Spec PyProof.Rows L2

/-! ### walks -/
def There (H : Hp) (O : List Addr) : Prop := ∀ a ∈ O, H a ≠ none
theorem RS.there {K : PySem.W.Frag} {B : Bs} {ρ : En} {σ : L2.St} {H : Hp} {O : List Addr} (R : RS K B ρ σ H O) : There H O := fun a ha z => by
  obtain ⟨o, e, _⟩ := R.mu a ha
  rw [z] at e; cases e
def ItOk (K : PySem.W.Frag) (G1 : Hp) (J : It) (ds : List D) : Prop := ∀ H2 O2, Same G1 (hid H2 O2) → There H2 O2 → ∀ i,
  (∀ d, ds[i]? = some d → J.go i H2 ∧ ∀ x H', J.yld i H2 x H' → Same H2 H' ∧ Dq K (hid H' O2) x d) ∧ (ds.length ≤ i → J.stop i H2)
def DI (K : PySem.W.Frag) (B : Bs) (wi : TI) (f : En → Option (List D)) : Prop := ∀ ρ σ H O ds, RS K B ρ σ H O → f ρ = some ds → ∀ R : It → Hp → Prop, (∀ J H', Same H H' → ItOk K (hid H' O) J ds → R J H') → wi σ H R
structure XI (X : Cx) (B : Bs) (tg iter : Expr) (wi : TI) (f : En → Option (List D)) : Prop where
  pe : PI X tg iter wi
  de : DI B.K B wi f
theorem PI.or {X : Cx} {tg iter : Expr} {wi wi' : TI} (h : PI X tg iter wi) (h' : PI X tg iter wi') : PI X tg iter (fun σ H R => wi σ H R ∨ wi' σ H R) := ⟨fun pins s σ H R I q => by
  rcases q with q | q
  · exact h.run pins s σ H R I q
  · exact h'.run pins s σ H R I q⟩
/-! ### a text, enumerated -/
def IteS (x : Str) : It :=
  ⟨fun i _ => i < x.cps.size, fun i H v H' => ∃ T c, v = .ref T ∧ H T = none ∧ H' = upd H T (.tup [.int (i : Nat), .str ⟨#[c]⟩]) ∧ x.cps[i]? = some c, fun i _ => x.cps.size ≤ i⟩
theorem turn_enumS {P : Program} {w : World} {K : PySem.W.Frag} {elts : List Expr} {kk : Nat} {tpos : Pos} (e it : Addr) (x : Str) (t : Tok) (ty : String) (hty : ty = "str_ascii_iterator" ∨ ty = "str_iterator") :
    Turn P w K (.Tuple elts kk tpos) (IteS x) [e, it] e (fun i h => (∃ old, IsEnum h e it ((i : Nat) : Int) old) ∧ h.IsStrIter it ty x t i ∧ e ≠ it ∧ i ≤ x.cps.size) where
  mem := by simp
  obj := fun i h st b hb => by
    obtain ⟨⟨old, he⟩, ⟨o, ho, hc, hd⟩, _⟩ := st
    have e' : b = e ∨ b = it := by simpa using hb
    rcases e' with z | z
    · rw [z]; exact ⟨_, he, fun v q => nomatch q⟩
    · rw [z]; exact ⟨o, ho, fun v q => by rw [hd] at q; cases q⟩
  keep := fun i h h' st k => let ⟨⟨old, he⟩, ⟨o, ho, r⟩, hne⟩ := st; ⟨⟨old, k e (by simp) _ he⟩, ⟨o, k it (by simp) o ho, r⟩, hne⟩
  item := by
    intro X hP hw hK hc i pins s σ H E I hf st hg
    subst hP hw hK
    obtain ⟨⟨old, he⟩, hit, hne, hle⟩ := st
    have D : Draws X.prog X.w X.A.in1 it [it] x.cps.size (fun i v => ∃ c u, x.cps[i]? = some c ∧ v = .str ⟨#[c]⟩ u) (fun i h => h.IsStrIter it ty x t i) := by
      rcases hty with e | e
      · rw [e]; exact Draws.strAscii (A := X.A.in1) (I.ok.hd hc) it x t
      · rw [e]; exact Draws.strWide (A := X.A.in1) (I.ok.hd hc) it x t
    have hel : e < s.heap.objs.size := Heap.lt_size he
    have hil : it < s.heap.objs.size := by obtain ⟨_, q, _⟩ := hit; exact Heap.lt_size q
    have hg : i < x.cps.size := hg
    refine wpAny_pyNext_enum_itemD D he hit hg hne (by simpa using hne) fun xv h' tk hv ho hit' hT hsz hk => ?_
    obtain ⟨c, u, hcx, rfl⟩ := hv
    refine ⟨_, rfl, wpAny_letOwnedTupleGo_enum (s := { s with heap := h', toks := tk + 1 }) ho fun h'' he' sb => ?_⟩
    have hT2 : h''.get? s.heap.objs.size = some { cls := .type "tuple", data := .seq #[.int i tk, .str ⟨#[c]⟩ u] } := (sb.2 _ (Nat.ne_of_gt hel)).trans hT
    have new : ObjOk X.prog X.w (upd H s.heap.objs.size (.tup [.int (i : Nat), .str ⟨#[c]⟩])) h'' s.heap.objs.size (.tup [.int (i : Nat), .str ⟨#[c]⟩]) :=
      ⟨by show 2 ≤ sizeLine; decide, [.int i tk, .str ⟨#[c]⟩ u], .cons ⟨_, rfl⟩ (.cons ⟨_, rfl⟩ .nil), ⟨_, hT2, rfl, _, rfl⟩⟩
    have I1 : Inv X pins σ (upd H s.heap.objs.size (.tup [.int (i : Nat), .str ⟨#[c]⟩])) { s with heap := h'', toks := tk + 1 } :=
      I.turnedNew (ch := [e, it]) (fun b ob hb q => (sb.2 b (fun z => hb (by simp [z]))).trans (hk b ob (fun z => hb (by simp [z])) (fun z => hb (by simp [z])) q)) hf (Nat.le_refl _) new
    refine ⟨.ref s.heap.objs.size, _, I1, rfl, ⟨_, c, rfl, I.hok.fresh (Nat.le_refl _), rfl, hcx⟩, ⟨⟨.str ⟨#[c]⟩ u, ?_⟩, ?_, hne, hg⟩, fun b hb => ?_⟩
    · have e1 : ((i + 1 : Nat) : Int) = (i : Int) + 1 := by omega
      rw [e1]; exact he'
    · obtain ⟨o, ho', r⟩ := hit'
      exact ⟨o, (sb.2 it (Ne.symm hne)).trans ho', r⟩
    · have hb' : b < s.heap.objs.size := by
        have e' : b = e ∨ b = it := by simpa using hb
        rcases e' with z | z
        · rw [z]; exact hel
        · rw [z]; exact hil
      rw [upd_ne (Nat.ne_of_lt hb')]
      exact (hf b hb).1
  done := by
    intro X hP hw hK hc i pins s σ H E I hf st hg
    subst hP hw hK
    obtain ⟨⟨old, he⟩, hit, hne, hle⟩ := st
    have hg : x.cps.size ≤ i := hg
    have hi : i = x.cps.size := Nat.le_antisymm hle hg
    have D : Draws X.prog X.w X.A.in1 it [it] x.cps.size (fun i v => ∃ c u, x.cps[i]? = some c ∧ v = .str ⟨#[c]⟩ u) (fun i h => h.IsStrIter it ty x t i) := by
      rcases hty with e | e
      · rw [e]; exact Draws.strAscii (A := X.A.in1) (I.ok.hd hc) it x t
      · rw [e]; exact Draws.strWide (A := X.A.in1) (I.ok.hd hc) it x t
    obtain ⟨f0, f1, f2, f3, f4, f5⟩ := hf it (by simp)
    rw [hi] at hit
    exact wpAny_pyNext_enum_endD D he hit fun h' eb => ⟨rfl, I.turned (t' := s.toks) (fun b o hb q => eb b o hb q) f0 f1 f3 f4 f5⟩
  self := fun A i s Q E st h => let ⟨⟨_, he⟩, _⟩ := st; wpAny_pyIter_enum he h
def iEnumS (ta : TA) : TI := fun σ H R => ta σ H fun vs H1 => ∃ x, vs = [.str x] ∧ R (IteS x) H1
theorem pi_enumS {X : Cx} {e : Expr} {ta : TA} {p pos tpos : Pos} {elts : List Expr} {kk : Nat} (hg : Gl X "enumerate") (hm : X.mg "enumerate" = none) (ha : PA X [e] ta) (hs : starEach [e] X.env = [(false, eval e X.env)] := by rfl) :
    PI X (.Tuple elts kk tpos) (.Call (.Name "enumerate" p) [e] [] pos) (iEnumS ta) := by
  refine ⟨fun pins s σ H R I h => ?_⟩
  refine Call_ (ld_blt I hg hm boot_enumerate (PyProof.Rows.callWith_type1 (thn (ha.run pos pins s σ H _ I h) fun us s1 ⟨vs, H1, I1, r1, q1⟩ => ?_) hs rfl))
  obtain ⟨x, ex, q⟩ := q1
  subst ex
  cases r1 with
  | cons r rr =>
    cases rr
    obtain ⟨t, rfl⟩ := r
    refine call_enumerate_str fun h' he hit hsz hk => wpAny_pyIter_enum he ?_
    have I2 : Inv X pins σ H1 { s1 with heap := h' } := I1.kept (t' := s1.toks) hk
    refine ⟨s1.heap.objs.size + 1, [s1.heap.objs.size + 1, s1.heap.objs.size], _, _, H1, rfl, I2, turn_enumS (s1.heap.objs.size + 1) s1.heap.objs.size x t (strIterType x) ?_, ⟨⟨.none, he⟩, hit, Nat.succ_ne_self _, Nat.zero_le _⟩, fun b hb => ?_, q⟩
    · unfold strIterType
      split
      · exact .inl rfl
      · exact .inr rfl
    have e' : b = s1.heap.objs.size + 1 ∨ b = s1.heap.objs.size := by simpa using hb
    have hle : s1.heap.objs.size ≤ b := by
      rcases e' with z | z
      · rw [z]; exact Nat.le_add_right _ _
      · rw [z]; exact Nat.le_refl _
    exact I1.fpOk hle (I1.hok.fresh hle)
def iEnum2 (K : PySem.W.Frag) (ta : TA) : TI := fun σ H R => iEnum K ta σ H R ∨ iEnumS ta σ H R
def iSeqD (f : En → Option D) : En → Option (List D) := fun ρ => match f ρ with
  | some (.list ds) => some ds
  | some (.tuple ds) => some ds
  | some (.str z) => some (z.cps.toList.map fun c => .str ⟨#[c]⟩)
  | _ => none
def iSeq (K : PySem.W.Frag) (te : TE) : TI := fun σ H R => iList K te σ H R ∨ (iTup K te σ H R ∨ iStr te σ H R)
def iRg1D (a : En → Option (List D)) : En → Option (List D) := fun ρ => match a ρ with
  | some [.int j] => if -4611686018427387904 ≤ j ∧ j < 4611686018427387904 then some ((List.range j.toNat).map fun (i : Nat) => .int (i : Int)) else none
  | _ => none
def iRg2D (a : En → Option (List D)) : En → Option (List D) := fun ρ => match a ρ with
  | some [.int i, .int j] => if -4611686018427387904 ≤ i ∧ i < 4611686018427387904 ∧ -4611686018427387904 ≤ j ∧ j < 4611686018427387904 then some ((List.range (j - i).toNat).map fun (k : Nat) => .int (i + k)) else none
  | _ => none
def iRevD (a : En → Option (List D)) : En → Option (List D) := fun ρ => match a ρ with
  | some [.list ds] => some ds.reverse
  | _ => none
def enumD : Nat → List D → List D
  | _, [] => []
  | n, d :: ds => .tuple [.int (n : Int), d] :: enumD (n + 1) ds
def iEnumD (a : En → Option (List D)) : En → Option (List D) := fun ρ => match a ρ with
  | some [.list ds] => some (enumD 0 ds)
  | some [.str z] => some (enumD 0 (z.cps.toList.map fun c => .str ⟨#[c]⟩))
  | _ => none
def zipD : List D → List D → List D
  | d :: ds, e :: es => .tuple [d, e] :: zipD ds es
  | _, _ => []
def iZipD (a : En → Option (List D)) : En → Option (List D) := fun ρ => match a ρ with
  | some [.list ds, .list es] => some (zipD ds es)
  | _ => none
theorem enumD_get : ∀ (ds : List D) (n i : Nat) (z : D), (enumD n ds)[i]? = some z → ∃ d, ds[i]? = some d ∧ z = .tuple [.int ((n + i : Nat) : Int), d]
  | [], n, i, z, h => by simp [enumD] at h
  | d :: ds, n, 0, z, h => by
    simp [enumD] at h
    exact ⟨d, by simp, h.symm⟩
  | d :: ds, n, i + 1, z, h => by
    have h : (enumD (n + 1) ds)[i]? = some z := by simpa [enumD] using h
    obtain ⟨d', h1, h2⟩ := enumD_get ds (n + 1) i z h
    exact ⟨d', by simpa using h1, by rw [h2, show n + 1 + i = n + (i + 1) from by omega]⟩
theorem enumD_length : ∀ (ds : List D) (n : Nat), (enumD n ds).length = ds.length
  | [], _ => rfl
  | d :: ds, n => by show (enumD (n + 1) ds).length + 1 = _; rw [enumD_length ds (n + 1)]; rfl
theorem zipD_get : ∀ (ds es : List D) (i : Nat) (z : D), (zipD ds es)[i]? = some z → ∃ d e, ds[i]? = some d ∧ es[i]? = some e ∧ z = .tuple [d, e]
  | [], es, i, z, h => by cases es <;> simp [zipD] at h
  | d :: ds, [], i, z, h => by simp [zipD] at h
  | d :: ds, e :: es, 0, z, h => by
    simp [zipD] at h
    exact ⟨d, e, by simp, by simp, h.symm⟩
  | d :: ds, e :: es, i + 1, z, h => by
    have h : (zipD ds es)[i]? = some z := by simpa [zipD] using h
    obtain ⟨d', e', h1, h2, h3⟩ := zipD_get ds es i z h
    exact ⟨d', e', by simpa using h1, by simpa using h2, h3⟩
theorem zipD_length : ∀ (ds es : List D), (zipD ds es).length = min ds.length es.length
  | [], es => by cases es <;> simp [zipD]
  | d :: ds, [] => by simp [zipD]
  | d :: ds, e :: es => by show (zipD ds es).length + 1 = _; rw [zipD_length ds es]; simp only [List.length_cons]; omega
section
variable {K : PySem.W.Frag} {G1 : Hp}
theorem sqL_of {H2 : Hp} {O2 : List Addr} {a : Addr} {vs : List V} (s : Same G1 (hid H2 O2)) (h : SqL K G1 a vs) : SqL K H2 a vs := SqL.mono (s.trans (hid_self _ _)) h
theorem sqT_of {H2 : Hp} {O2 : List Addr} {a : Addr} {vs : List V} (s : Same G1 (hid H2 O2)) (h : SqT K G1 a vs) : SqT K H2 a vs := SqT.mono (s.trans (hid_self _ _)) h
theorem it_list {a : Addr} {vs : List V} {ds : List D} (h : SqL K G1 a vs) (ha : DqAll K G1 vs ds) : ItOk K G1 (Itl K a) ds := fun H2 O2 s th i => by
  have hs := sqL_of s h
  refine ⟨fun d hd => ?_, fun hl => ⟨vs, hs, by rw [ha.length]; exact hl⟩⟩
  obtain ⟨v, h1, h2⟩ := ha.get hd
  refine ⟨⟨vs, v, hs, h1⟩, fun x H' y => ?_⟩
  obtain ⟨rfl, y⟩ := y
  have e := y vs hs
  rw [h1] at e; cases e
  exact ⟨Same.refl _, Dq.mono s _ _ h2⟩
theorem it_tup {a : Addr} {vs : List V} {ds : List D} (h : SqT K G1 a vs) (ha : DqAll K G1 vs ds) : ItOk K G1 (Itt K a) ds := fun H2 O2 s th i => by
  have hs := sqT_of s h
  refine ⟨fun d hd => ?_, fun hl => ⟨vs, hs, by rw [ha.length]; exact hl⟩⟩
  obtain ⟨v, h1, h2⟩ := ha.get hd
  refine ⟨⟨vs, v, hs, h1⟩, fun x H' y => ?_⟩
  obtain ⟨rfl, y⟩ := y
  have e := y vs hs
  rw [h1] at e; cases e
  exact ⟨Same.refl _, Dq.mono s _ _ h2⟩
theorem it_str {z : Str} : ItOk K G1 (Its z) (z.cps.toList.map fun c => .str ⟨#[c]⟩) := fun H2 O2 s th i => by
  refine ⟨fun d hd => ?_, fun hl => ?_⟩
  · rw [List.getElem?_map] at hd
    obtain ⟨c, h1, h2⟩ := map_some hd
    subst h2
    rw [Array.getElem?_toList] at h1
    refine ⟨(Array.getElem?_eq_some_iff.mp h1).1, fun x H' y => ?_⟩
    obtain ⟨rfl, c', h3, rfl⟩ := y
    rw [h1] at h3; cases h3
    exact ⟨Same.refl _, .str _⟩
  · show z.cps.size ≤ i
    simpa using hl
theorem it_range {lo : Int} {n : Nat} : ItOk K G1 (Itr lo n) ((List.range n).map fun (k : Nat) => .int (lo + k)) := fun H2 O2 s th i => by
  refine ⟨fun d hd => ?_, fun hl => ?_⟩
  · rw [List.getElem?_map] at hd
    obtain ⟨c, h1, h2⟩ := map_some hd
    subst h2
    obtain ⟨h3, h4⟩ := List.getElem?_eq_some_iff.mp h1
    rw [List.getElem_range] at h4
    rw [List.length_range] at h3
    subst h4
    refine ⟨h3, fun x H' y => ?_⟩
    obtain ⟨rfl, rfl⟩ := y
    exact ⟨Same.refl _, .int _⟩
  · show n ≤ i
    simpa using hl
theorem it_rev {a : Addr} {vs : List V} {ds : List D} (h : SqL K G1 a vs) (ha : DqAll K G1 vs ds) : ItOk K G1 (Itv K a vs.length) ds.reverse := fun H2 O2 s th i => by
  have hs := sqL_of s h
  refine ⟨fun d hd => ?_, fun hl => ?_⟩
  · obtain ⟨hi, _⟩ := List.getElem?_eq_some_iff.mp hd
    rw [List.length_reverse] at hi
    rw [List.getElem?_reverse hi] at hd
    obtain ⟨v, h1, h2⟩ := ha.get hd
    rw [← ha.length] at h1 hi
    refine ⟨⟨hi, vs, v, hs, h1⟩, fun x H' y => ?_⟩
    obtain ⟨rfl, y⟩ := y
    have e := y vs hs
    rw [h1] at e; cases e
    exact ⟨Same.refl _, Dq.mono s _ _ h2⟩
  · show vs.length ≤ i
    rw [List.length_reverse] at hl
    rw [ha.length]; exact hl
theorem it_enum {a : Addr} {vs : List V} {ds : List D} (h : SqL K G1 a vs) (ha : DqAll K G1 vs ds) : ItOk K G1 (Ite K a) (enumD 0 ds) := fun H2 O2 s th i => by
  have hs := sqL_of s h
  refine ⟨fun d hd => ?_, fun hl => ⟨vs, hs, by rw [ha.length, ← enumD_length ds 0]; exact hl⟩⟩
  obtain ⟨d', h0, rfl⟩ := enumD_get ds 0 i d hd
  obtain ⟨v, h1, h2⟩ := ha.get h0
  refine ⟨⟨vs, v, hs, h1⟩, fun x H' y => ?_⟩
  obtain ⟨T, v', rfl, hT, rfl, y⟩ := y
  have e := y vs hs
  rw [h1] at e; cases e
  refine ⟨same_new _ hT, new_tup hT (fun z => th _ z hT) ?_⟩
  rw [Nat.zero_add]
  exact .cons (.int _) (.cons (Dq.mono s _ _ h2) .nil)
theorem it_enumS {z : Str} : ItOk K G1 (IteS z) (enumD 0 (z.cps.toList.map fun c => .str ⟨#[c]⟩)) := fun H2 O2 s th i => by
  refine ⟨fun d hd => ?_, fun hl => ?_⟩
  · obtain ⟨d', h0, rfl⟩ := enumD_get _ 0 i d hd
    rw [List.getElem?_map] at h0
    obtain ⟨c, h1, h2⟩ := map_some h0
    subst h2
    rw [Array.getElem?_toList] at h1
    refine ⟨(Array.getElem?_eq_some_iff.mp h1).1, fun x H' y => ?_⟩
    obtain ⟨T, c', rfl, hT, rfl, y⟩ := y
    rw [h1] at y; cases y
    refine ⟨same_new _ hT, new_tup hT (fun z => th _ z hT) ?_⟩
    rw [Nat.zero_add]
    exact .cons (.int _) (.cons (.str _) .nil)
  · show z.cps.size ≤ i
    rw [enumD_length] at hl
    simpa using hl
theorem it_zip {a b : Addr} {vs us : List V} {ds es : List D} (h : SqL K G1 a vs) (ha : DqAll K G1 vs ds) (h' : SqL K G1 b us) (hb : DqAll K G1 us es) : ItOk K G1 (Itz K a b) (zipD ds es) := fun H2 O2 s th i => by
  have hs := sqL_of s h
  have hs' := sqL_of s h'
  refine ⟨fun d hd => ?_, fun hl => ⟨vs, us, hs, hs', ?_⟩⟩
  · obtain ⟨d', e', h0, h0', rfl⟩ := zipD_get ds es i d hd
    obtain ⟨v, h1, h2⟩ := ha.get h0
    obtain ⟨u, h3, h4⟩ := hb.get h0'
    refine ⟨⟨vs, us, v, u, hs, hs', h1, h3⟩, fun x H' y => ?_⟩
    obtain ⟨T, v', u', rfl, hT, rfl, y, y'⟩ := y
    have e := y vs hs
    rw [h1] at e; cases e
    have e := y' us hs'
    rw [h3] at e; cases e
    exact ⟨same_new _ hT, new_tup hT (fun z => th _ z hT) (.cons (Dq.mono s _ _ h2) (.cons (Dq.mono s _ _ h4) .nil))⟩
  · rw [zipD_length] at hl
    rw [ha.length, hb.length]; omega
end
section
variable {K : PySem.W.Frag} {B : Bs} {te : TE} {ta : TA} {f : En → Option D} {a : En → Option (List D)}
theorem di_seq (h : DE K B te f) : DI K B (iSeq K te) (iSeqD f) := fun ρ σ H O ds R e Q q => by
  unfold iSeqD at e
  split at e
  · rename_i hf
    have e := Option.some.inj e
    subst e
    refine .inl (h ρ σ H O _ R hf _ fun v H1 s x => ?_)
    cases x with
    | lst hs ha => exact ⟨_, rfl, ⟨_, SqL.mono (hid_self _ _) hs⟩, q _ H1 s (it_list hs ha)⟩
  · rename_i hf
    have e := Option.some.inj e
    subst e
    refine .inr (.inl (h ρ σ H O _ R hf _ fun v H1 s x => ?_))
    cases x with
    | tup hs ha => exact ⟨_, rfl, ⟨_, SqT.mono (hid_self _ _) hs⟩, q _ H1 s (it_tup hs ha)⟩
  · rename_i hf
    have e := Option.some.inj e
    subst e
    refine .inr (.inr (h ρ σ H O _ R hf _ fun v H1 s x => ?_))
    cases x
    exact ⟨_, rfl, q _ H1 s it_str⟩
  · cases e
theorem di_rg1 (h : DA K B ta a) : DI K B (iRng1 ta) (iRg1D a) := fun ρ σ H O ds R e Q q => by
  unfold iRg1D at e
  split at e
  · rename_i hf
    split at e
    · rename_i c
      have e := Option.some.inj e
      subst e
      refine h ρ σ H O _ R hf _ fun vs H1 s x => ?_
      cases x with
      | cons x y =>
        cases y
        cases x
        refine ⟨_, rfl, c.1, c.2, q _ H1 s ?_⟩
        have := it_range (K := K) (G1 := hid H1 O) (lo := 0) (n := (by assumption : Int).toNat)
        simpa using this
    · cases e
  · cases e
theorem di_rg2 (h : DA K B ta a) : DI K B (iRng2 ta) (iRg2D a) := fun ρ σ H O ds R e Q q => by
  unfold iRg2D at e
  split at e
  · rename_i hf
    split at e
    · rename_i c
      have e := Option.some.inj e
      subst e
      refine h ρ σ H O _ R hf _ fun vs H1 s x => ?_
      cases x with
      | cons x y =>
        cases y with
        | cons y z =>
          cases z
          cases x
          cases y
          exact ⟨_, _, rfl, c, q _ H1 s it_range⟩
    · cases e
  · cases e
theorem di_rev (h : DA K B ta a) : DI K B (iRev K ta) (iRevD a) := fun ρ σ H O ds R e Q q => by
  unfold iRevD at e
  split at e
  · rename_i hf
    have e := Option.some.inj e
    subst e
    refine h ρ σ H O _ R hf _ fun vs H1 s x => ?_
    cases x with
    | cons x y =>
      cases y
      cases x with
      | lst hs ha => exact ⟨_, _, rfl, SqL.mono (hid_self _ _) hs, q _ H1 s (it_rev hs ha)⟩
  · cases e
theorem di_enum (h : DA K B ta a) : DI K B (iEnum2 K ta) (iEnumD a) := fun ρ σ H O ds R e Q q => by
  unfold iEnumD at e
  split at e
  rotate_left
  · rename_i hf
    have e := Option.some.inj e
    subst e
    refine .inr (h ρ σ H O _ R hf _ fun vs H1 s x => ?_)
    cases x with
    | cons x y =>
      cases y
      cases x
      exact ⟨_, rfl, q _ H1 s it_enumS⟩
  · cases e
  · rename_i hf
    have e := Option.some.inj e
    subst e
    refine .inl ?_
    refine h ρ σ H O _ R hf _ fun vs H1 s x => ?_
    cases x with
    | cons x y =>
      cases y
      cases x with
      | lst hs ha => exact ⟨_, _, rfl, SqL.mono (hid_self _ _) hs, q _ H1 s (it_enum hs ha)⟩
theorem di_zip (h : DA K B ta a) : DI K B (iZip K ta) (iZipD a) := fun ρ σ H O ds R e Q q => by
  unfold iZipD at e
  split at e
  · rename_i hf
    have e := Option.some.inj e
    subst e
    refine h ρ σ H O _ R hf _ fun vs H1 s x => ?_
    cases x with
    | cons x y =>
      cases y with
      | cons y z =>
        cases z
        cases x with
        | lst hs ha =>
          cases y with
          | lst hs' ha' => exact ⟨_, _, _, _, rfl, SqL.mono (hid_self _ _) hs, SqL.mono (hid_self _ _) hs', q _ H1 s (it_zip hs ha hs' ha')⟩
  · cases e
end
section
variable {X : Cx} {B : Bs} {tg ex ey : Expr} {te : TE} {ta : TA} {f : En → Option D} {a : En → Option (List D)} {p pos tpos : Pos} {elts : List Expr} {kk : Nat}
theorem i_seq (h : XE X B ex te f) (hk : X.K = B.K := by rfl) : XI X B tg ex (iSeq B.K te) (iSeqD f) := ⟨hk ▸ PI.or (pi_list h.pe) (PI.or (pi_tup h.pe) (pi_str h.pe)), di_seq h.de⟩
theorem i_rg1 (hm : X.mg "range" = none) (ha : XA X B [ex] ta a) (hg : Gl X "range" := by rfl) (hs : starEach [ex] X.env = [(false, eval ex X.env)] := by rfl) : XI X B tg (.Call (.Name "range" p) [ex] [] pos) (iRng1 ta) (iRg1D a) := ⟨pi_range1 hg hm ha.pe hs, di_rg1 ha.de⟩
theorem i_rg2 (hm : X.mg "range" = none) (ha : XA X B [ex, ey] ta a) (hg : Gl X "range" := by rfl) (hs : starEach [ex, ey] X.env = [(false, eval ex X.env), (false, eval ey X.env)] := by rfl) (hs2 : starEach [ey] X.env = [(false, eval ey X.env)] := by rfl) :
    XI X B tg (.Call (.Name "range" p) [ex, ey] [] pos) (iRng2 ta) (iRg2D a) := ⟨pi_range2 hg hm ha.pe hs hs2, di_rg2 ha.de⟩
theorem i_rev (hm : X.mg "reversed" = none) (ha : XA X B [ex] ta a) (hg : Gl X "reversed" := by rfl) (hs : starEach [ex] X.env = [(false, eval ex X.env)] := by rfl) (hk : X.K = B.K := by rfl) : XI X B tg (.Call (.Name "reversed" p) [ex] [] pos) (iRev B.K ta) (iRevD a) := ⟨hk ▸ pi_reversed hg hm ha.pe hs, di_rev ha.de⟩
theorem i_enum (hm : X.mg "enumerate" = none) (ha : XA X B [ex] ta a) (hg : Gl X "enumerate" := by rfl) (hs : starEach [ex] X.env = [(false, eval ex X.env)] := by rfl) (hk : X.K = B.K := by rfl) : XI X B (.Tuple elts kk tpos) (.Call (.Name "enumerate" p) [ex] [] pos) (iEnum2 B.K ta) (iEnumD a) := ⟨hk ▸ PI.or (pi_enum hg hm ha.pe hs) (pi_enumS hg hm ha.pe hs), di_enum ha.de⟩
theorem i_zip (hm : X.mg "zip" = none) (ha : XA X B [ex, ey] ta a) (hg : Gl X "zip" := by rfl) (hs : starEach [ex, ey] X.env = (false, eval ex X.env) :: starEach [ey] X.env := by rfl) (hpl : (backTo pos (starEach [ey] X.env)).any (·.1) = false := by rfl) (hk : X.K = B.K := by rfl) :
    XI X B (.Tuple elts kk tpos) (.Call (.Name "zip" p) [ex, ey] [] pos) (iZip B.K ta) (iZipD a) := ⟨hk ▸ pi_zip hg hm ha.pe hs hpl, di_zip ha.de⟩
end

/-! ### targets -/
section
variable {K : PySem.W.Frag} {B : Bs} {ρ : En} {σ : L2.St} {H H' : Hp} {O : List Addr}
/-- a slot gets ground data -/
theorem RS.setRo (R : RS K B ρ σ H O) {i : Nat} {v : V} {d : D} (hp : free B i = true) (h : Dq K (hid H O) v d) : RS K B (ρ.set i (some (.ro d))) (σ.set i (some v)) H O where
  len := by rw [List.length_set, List.length_set]; exact R.len
  slot := fun j s e => by
    by_cases hj : i = j
    · subst hj
      by_cases hl : i < ρ.length
      · rw [List.getElem?_set_self hl] at e
        have e := Option.some.inj (Option.some.inj e)
        subst e
        exact ⟨v, List.getElem?_set_self (by rw [← R.len]; exact hl), h⟩
      · rw [List.getElem?_eq_none (by rw [List.length_set]; omega)] at e; cases e
    · rw [List.getElem?_set_ne hj] at e
      obtain ⟨u, a, b⟩ := R.slot j s e
      exact ⟨u, by rw [List.getElem?_set_ne hj]; exact a, b⟩
  uniq := fun j k s s' l hjk e1 e2 o1 o2 z1 z2 => by
    have cut : ∀ {j : Nat} {s : SV}, (ρ.set i (some (.ro d)))[j]? = some (some s) → s.owned = true → i ≠ j := fun {j s} e o hj => by
      subst hj
      by_cases hl : i < ρ.length
      · rw [List.getElem?_set_self hl] at e
        have e := Option.some.inj (Option.some.inj e)
        subst e
        cases o
      · rw [List.getElem?_eq_none (by rw [List.length_set]; omega)] at e; cases e
    have n1 := cut e1 o1
    have n2 := cut e2 o2
    rw [List.getElem?_set_ne n1] at e1 z1
    rw [List.getElem?_set_ne n2] at e2 z2
    exact R.uniq j k s s' l hjk e1 e2 o1 o2 z1 z2
  same := R.same
  own := R.own
  mu := R.mu
  sub0 := R.sub0
  lo := R.lo
  pin := pin_set R hp
/-- slots are forgotten -/
theorem RS.clear (R : RS K B ρ σ H O) (i : Nat) (hp : free B i = true) : RS K B (ρ.set i none) (σ.set i none) H O where
  len := by rw [List.length_set, List.length_set]; exact R.len
  slot := fun j s e => by
    by_cases hj : i = j
    · subst hj
      by_cases hl : i < ρ.length
      · rw [List.getElem?_set_self hl] at e; cases e
      · rw [List.getElem?_eq_none (by rw [List.length_set]; omega)] at e; cases e
    · rw [List.getElem?_set_ne hj] at e
      obtain ⟨u, a, b⟩ := R.slot j s e
      exact ⟨u, by rw [List.getElem?_set_ne hj]; exact a, b⟩
  uniq := fun j k s s' l hjk e1 e2 o1 o2 z1 z2 => by
    have cut : ∀ {j : Nat} {s : SV}, (ρ.set i none)[j]? = some (some s) → i ≠ j := fun {j s} e hj => by
      subst hj
      by_cases hl : i < ρ.length
      · rw [List.getElem?_set_self hl] at e; cases e
      · rw [List.getElem?_eq_none (by rw [List.length_set]; omega)] at e; cases e
    have n1 := cut e1
    have n2 := cut e2
    rw [List.getElem?_set_ne n1] at e1 z1
    rw [List.getElem?_set_ne n2] at e2 z2
    exact R.uniq j k s s' l hjk e1 e2 o1 o2 z1 z2
  same := R.same
  own := R.own
  mu := R.mu
  sub0 := R.sub0
  lo := R.lo
  pin := pin_set R hp
def wipeE (ρ : En) : List Nat → En
  | [] => ρ
  | v :: vs => (wipeE ρ vs).set v none
theorem RS.wipe (R : RS K B ρ σ H O) : ∀ vs : List Nat, vs.all (free B) = true → RS K B (wipeE ρ vs) (wipe σ vs) H O
  | [], _ => R
  | v :: vs, h => (R.wipe vs (by rw [List.all_cons, Bool.and_eq_true] at h; exact h.2)).clear v (by rw [List.all_cons, Bool.and_eq_true] at h; exact h.1)
end
def DG (K : PySem.W.Frag) (B : Bs) (g : TG) (h : D → En → Option En) : Prop := ∀ ρ σ H O v d ρ', RS K B ρ σ H O → Dq K (hid H O) v d → h d ρ = some ρ' → ∀ Q : L2.St → Hp → Prop, (∀ σ' H', Same H H' → RS K B ρ' σ' H' O → Q σ' H') → g v σ H Q
def DGs (K : PySem.W.Frag) (B : Bs) (g : TGs) (h : List D → En → Option En) : Prop := ∀ ρ σ H O vs ds ρ', RS K B ρ σ H O → DqAll K (hid H O) vs ds → h ds ρ = some ρ' → ∀ Q : L2.St → Hp → Prop, (∀ σ' H', Same H H' → RS K B ρ' σ' H' O → Q σ' H') → g vs σ H Q
/-- a target stores among the places vs alone (a comprehension's) -/
def GW (g : TG) (vs : List Nat) : Prop := ∀ v σ H (Q Q' : L2.St → Hp → Prop), g v σ H Q → (∀ σ2 H2, wipe σ2 vs = wipe σ vs → Q σ2 H2 → Q' σ2 H2) → g v σ H Q'
def GWs (g : TGs) (vs : List Nat) : Prop := ∀ us σ H (Q Q' : L2.St → Hp → Prop), g us σ H Q → (∀ σ2 H2, wipe σ2 vs = wipe σ vs → Q σ2 H2 → Q' σ2 H2) → g us σ H Q'
structure XG (X : Cx) (B : Bs) (target : Expr) (t : TG) (h : D → En → Option En) : Prop where
  pe : PG X target t
  de : DG B.K B t h
structure XGs (X : Cx) (B : Bs) (ts : List Expr) (t : TGs) (h : List D → En → Option En) : Prop where
  pe : PGs X ts t
  de : DGs B.K B t h
def hName (i : Nat) : D → En → Option En := fun d ρ => some (ρ.set i (some (.ro d)))
def hNil : List D → En → Option En := fun ds ρ => match ds with
  | [] => some ρ
  | _ => none
def hCons (h : D → En → Option En) (k : List D → En → Option En) : List D → En → Option En := fun ds ρ => match ds with
  | d :: ds => (h d ρ).bind (k ds)
  | _ => none
def hTup (n : Nat) (k : List D → En → Option En) : D → En → Option En := fun d ρ => match d with
  | .tuple ds => if ds.length = n then k ds ρ else none
  | _ => none
theorem wipe_set {i : Nat} {x : Option V} : ∀ {vs : List Nat} {σ : L2.St}, i ∈ vs → wipe (σ.set i x) vs = wipe σ vs
  | v :: vs, σ, h => by
    show (wipe (σ.set i x) vs).set v none = (wipe σ vs).set v none
    by_cases hv : i = v
    · subst hv
      have key : ∀ (vs : List Nat) (σ : L2.St), (wipe (σ.set i x) vs).set i none = (wipe σ vs).set i none := by
        intro vs
        induction vs with
        | nil => intro σ; show (σ.set i x).set i none = σ.set i none; rw [List.set_set]
        | cons w ws ih =>
          intro σ
          show ((wipe (σ.set i x) ws).set w none).set i none = ((wipe σ ws).set w none).set i none
          by_cases hw : i = w
          · subst hw
            rw [ih σ]
          · rw [List.set_comm _ _ (Ne.symm hw), List.set_comm _ _ (Ne.symm hw), ih σ]
      exact key vs σ
    · rcases List.mem_cons.mp h with e | h
      · exact absurd e hv
      · rw [wipe_set h]
section
variable {K : PySem.W.Frag} {B : Bs} {g : TG} {gs : TGs} {h : D → En → Option En} {hs : List D → En → Option En}
theorem dg_name {i : Nat} (hp : free B i = true) : DG K B (gName i) (hName i) := fun ρ σ H O v d ρ' R x e Q q => by
  have e : ρ.set i (some (.ro d)) = ρ' := Option.some.inj e
  subst e
  exact q _ H (Same.refl H) (R.setRo hp x)
theorem dgs_nil : DGs K B gNil hNil := fun ρ σ H O vs ds ρ' R x e Q q => by
  unfold hNil at e
  split at e
  · have e := Option.some.inj e
    subst e
    cases x
    exact ⟨rfl, q _ H (Same.refl H) R⟩
  · cases e
theorem dgs_cons (hg : DG K B g h) (hk : DGs K B gs hs) : DGs K B (gCons g gs) (hCons h hs) := fun ρ σ H O vs ds ρ' R x e Q q => by
  unfold hCons at e
  split at e
  · obtain ⟨ρ1, h1, h2⟩ := bind_some e
    cases x with
    | cons a b =>
      refine ⟨_, _, rfl, hg ρ σ H O _ _ ρ1 R a h1 _ fun σ1 H1 s1 R1 => ?_⟩
      exact hk ρ1 σ1 H1 O _ _ ρ' R1 (DqAll.mono (hid_grow s1) _ _ b) h2 _ fun σ2 H2 s2 R2 => q σ2 H2 (s1.trans s2) R2
  · cases e
theorem dg_tup {n : Nat} (hk : DGs K B gs hs) : DG K B (gTup K n gs) (hTup n hs) := fun ρ σ H O v d ρ' R x e Q q => by
  unfold hTup at e
  split at e
  · split at e
    · rename_i c
      cases x with
      | tup hx ha => exact ⟨_, _, rfl, SqT.mono (hid_self _ _) hx, by rw [ha.length]; exact c, hk ρ σ H O _ _ ρ' R ha e Q q⟩
    · cases e
  · cases e
theorem gw_name {i : Nat} {vs : List Nat} (h : i ∈ vs) : GW (gName i) vs := fun v σ H Q Q' q f => f _ _ (wipe_set h) q
theorem gws_nil {vs : List Nat} : GWs gNil vs := fun us σ H Q Q' q f => ⟨q.1, f _ _ rfl q.2⟩
theorem gws_cons {vs : List Nat} (h1 : GW g vs) (h2 : GWs gs vs) : GWs (gCons g gs) vs := fun us σ H Q Q' q f => by
  obtain ⟨v, r, e, q⟩ := q
  exact ⟨v, r, e, h1 v σ H _ _ q fun σ1 H1 w1 q1 => h2 r σ1 H1 _ _ q1 fun σ2 H2 w2 q2 => f σ2 H2 (w2.trans w1) q2⟩
theorem gw_tup {vs : List Nat} {n : Nat} (h : GWs gs vs) : GW (gTup K n gs) vs := fun v σ H Q Q' q f => by
  obtain ⟨a, xs, e1, e2, e3, q⟩ := q
  exact ⟨a, xs, e1, e2, e3, h _ σ H _ _ q f⟩
end
section
variable {X : Cx} {B : Bs} {pos : Pos}
theorem g_name {i : Nat} {x : Str} (hN : X.N.Nodup) (hi : X.N[i]? = some x) (hx : Loc X.env.scope x) (hf : X.fn x = true ∨ X.env.scope.names.lookup x = some .local := by first | exact .inl rfl | exact .inr rfl | assumption) (hp : free B i = true := by rfl) : XG X B (.Name x pos) (gName i) (hName i) := ⟨pg_name hN hi hx hf, dg_name hp⟩
theorem gs_nil : XGs X B [] gNil hNil := ⟨pgs_nil, dgs_nil⟩
end

/-! ### list comprehensions -/
def compGo (tg : D → En → Option En) (cond : En → Option Bool) (elt : En → Option D) (ρ : En) : List D → Option (List D)
  | [] => some []
  | d :: ds => (tg d ρ).bind fun ρ1 => (cond ρ1).bind fun b => if b = true then (elt ρ1).bind fun y => (compGo tg cond elt ρ ds).map (y :: ·) else compGo tg cond elt ρ ds
def lComp (src : En → Option (List D)) (tg : D → En → Option En) (cond : En → Option Bool) (elt : En → Option D) (vs : List Nat) : En → Option (List D) := fun ρ =>
  (src ρ).bind fun ds => if ds.length ≤ 1000000 then compGo tg cond elt (wipeE ρ vs) ds else none
theorem compGo_length {tg : D → En → Option En} {cond : En → Option Bool} {elt : En → Option D} {ρ : En} : ∀ {ds zs : List D}, compGo tg cond elt ρ ds = some zs → zs.length ≤ ds.length
  | [], zs, h => by cases h; exact Nat.le_refl _
  | d :: ds, zs, h => by
    unfold compGo at h
    obtain ⟨ρ1, _, h⟩ := bind_some h
    obtain ⟨b, _, h⟩ := bind_some h
    split at h
    · obtain ⟨y, _, h⟩ := bind_some h
      obtain ⟨r, h1, h2⟩ := map_some h
      subst h2
      have := compGo_length h1
      simp only [List.length_cons]; omega
    · have := compGo_length h
      simp only [List.length_cons]; omega
section
variable {K : PySem.W.Frag} {B : Bs} {wi : TI} {g : TG} {tt : TT} {te : TE} {vs : List Nat} {src : En → Option (List D)} {tg : D → En → Option En} {cond : En → Option Bool} {elt : En → Option D}
theorem dl_comp (hp : vs.all (free B) = true) (hi : DI K B wi src) (hg : DG K B g tg) (hw : GW g vs) (ht : DT K B tt cond) (he : DE K B te elt) : DL K B (tLc wi g tt te vs) (lComp src tg cond elt vs) := fun ρ σ H O zs R e Q q => by
  obtain ⟨ds, h1, e⟩ := bind_some e
  split at e
  · rename_i hlen
    refine hi ρ σ H O ds R h1 _ fun J H1 s1 io Dl hD => ?_
    have R1 := R.grow s1
    have nD : Dl ∉ O := R1.fresh hD
    have g1 : Same (hid H1 O) (hid (upd H1 Dl (.lst [])) (Dl :: O)) := hid_new _ hD
    refine ⟨fun i m H2 => m = ds.length - i ∧ i ≤ ds.length ∧ Same H1 H2 ∧ ∃ acc accD rest, H2 Dl = some (.lst acc) ∧ DqAll K (hid H2 (Dl :: O)) acc accD ∧ compGo tg cond elt (wipeE ρ vs) (ds.drop i) = some rest ∧ accD ++ rest = zs ∧ accD.length ≤ i,
      ⟨ds.length, by simp, Nat.zero_le _, same_new _ hD, [], [], zs, upd_same, .nil, by simpa using e, rfl, Nat.le_refl _⟩, ?_⟩
    rintro i m H2 ⟨rfl, hin, s2, acc, accD, rest, hl, ha, hr, hz, hacc⟩
    -- the state within the block: the new list is owned
    have RB : ∀ {H3 : Hp} {acc' : List V}, Same H1 H3 → H3 Dl = some (.lst acc') → RS K B (wipeE ρ vs) (wipe σ vs) H3 (Dl :: O) := fun {H3 acc'} s3 hl3 => by
      have R3 : RS K B (wipeE ρ vs) (wipe σ vs) H3 O := (R1.grow s3).wipe vs hp
      refine R3.take nD (R1.fresh0 hD) hl3 rfl fun j s ej => ?_
      obtain ⟨v, a, b⟩ := (R1.wipe vs hp).slot j s ej
      refine ⟨v, a, SOk.grow (fun l hlO _ => ⟨List.mem_cons_of_mem _ hlO, ?_⟩) ?_ b⟩
      · obtain ⟨o, q, _⟩ := R1.mu l hlO
        rw [q, s3 l o q]
      · intro a o h
        obtain ⟨x, y⟩ := of_hid h
        rw [hid_out]
        · exact s3 a o y
        · simp only [List.mem_cons, not_or]; exact ⟨ne_of_none y hD, x⟩
    have gr : ∀ {H3 : Hp}, Same H1 H3 → Same (hid H1 O) (hid H3 (Dl :: O)) := fun {H3} s3 a o h => by
      obtain ⟨x, y⟩ := of_hid h
      rw [hid_out]
      · exact s3 a o y
      · simp only [List.mem_cons, not_or]; exact ⟨ne_of_none y hD, x⟩
    have RB2 := RB s2 hl
    obtain ⟨it1, it2⟩ := io H2 (Dl :: O) (gr s2) RB2.there i
    by_cases hlt : i < ds.length
    · obtain ⟨go, yld⟩ := it1 _ (List.getElem?_eq_getElem hlt)
      rw [List.drop_eq_getElem_cons hlt] at hr
      unfold compGo at hr
      obtain ⟨ρ1, hr1, hr⟩ := bind_some hr
      obtain ⟨b, hr2, hr⟩ := bind_some hr
      refine .inr ⟨go, fun H' => Same H1 H' ∧ ∃ acc accD rest, H' Dl = some (.lst acc) ∧ DqAll K (hid H' (Dl :: O)) acc accD ∧ compGo tg cond elt (wipeE ρ vs) (ds.drop (i + 1)) = some rest ∧ accD ++ rest = zs ∧ accD.length ≤ i + 1, fun H' ⟨a, b⟩ => ⟨_, by omega, rfl, hlt, a, b⟩, fun x H' y => ?_⟩
      obtain ⟨s3, hx⟩ := yld x H' y
      have RB3 := RB2.grow s3
      have ha3 := DqAll.mono (hid_grow s3) _ _ ha
      have hl3 := s3 _ _ hl
      refine hw x (wipe σ vs) H' _ _ (hg _ _ H' (Dl :: O) x _ ρ1 RB3 hx hr1 _ fun σ2 H4 s4 R4 => (⟨s4, R4⟩ : Same H' H4 ∧ RS K B ρ1 σ2 H4 (Dl :: O))) fun σ2 H4 w2 ⟨s4, R4⟩ => ⟨?_, ?_⟩
      · have ww : ∀ (vs : List Nat) (σ : L2.St), wipe (wipe σ vs) vs = wipe σ vs := by
          have key : ∀ (us vs : List Nat) (σ : L2.St), (∀ u ∈ us, u ∈ vs) → wipe (wipe σ us) vs = wipe σ vs := by
            intro us
            induction us with
            | nil => intro vs σ _; rfl
            | cons u us ih => intro vs σ hu; show wipe ((wipe σ us).set u none) vs = _; rw [wipe_set (hu u List.mem_cons_self), ih vs σ fun w hw => hu w (List.mem_cons_of_mem _ hw)]
          intro vs σ
          exact key vs vs σ fun _ h => h
        rw [w2, ww]
      · refine ht _ _ H4 _ b R4 hr2 _ fun H5 s5 => ?_
        have s15 := s2.trans (s3.trans (s4.trans s5))
        cases b with
        | true =>
          rw [if_pos rfl] at hr ⊢
          obtain ⟨yd, hr3, hr⟩ := bind_some hr
          obtain ⟨rest', hr4, hr5⟩ := map_some hr
          refine he _ _ H5 _ yd (R4.grow s5) hr3 _ fun yv H6 s6 hy => ?_
          have hl6 := s6 _ _ (s5 _ _ (s4 _ _ hl3))
          have ha6 := DqAll.mono (hid_grow (s4.trans (s5.trans s6))) _ _ ha3
          refine ⟨acc, hl6, lineL (by rw [ha.length]; omega), (fun a o h => by rw [upd_ne (ne_of_none h hD)]; exact (s15.trans s6) a o h), acc ++ [yv], accD ++ [yd], rest', upd_same, ?_, hr4, ?_, by rw [List.length_append, List.length_singleton]; omega⟩
          · rw [hid_write _ List.mem_cons_self]
            exact ha6.append (.one hy)
          · rw [← hz, ← hr5, List.append_assoc]; rfl
        | false =>
          rw [if_neg Bool.false_ne_true] at hr ⊢
          exact ⟨s15, acc, accD, rest, s5 _ _ (s4 _ _ hl3), DqAll.mono (hid_grow (s4.trans s5)) _ _ ha3, hr, hz, by omega⟩
    · have hi : i = ds.length := by omega
      refine .inl ⟨it2 (by omega), ?_⟩
      rw [hi, List.drop_length] at hr
      have hr : [] = rest := Option.some.inj hr
      subst hr
      rw [List.append_nil] at hz
      subst hz
      exact q Dl acc H2 (s1.trans s2) (s1.free hD) hl ha
  · cases e
end
structure XTs (X : Cx) (B : Bs) (ifs : List Expr) (t : TT) (f : En → Option Bool) : Prop where
  pe : PTs X ifs t
  de : DT B.K B t f
def cYes : En → Option Bool := fun _ => some true
section
variable {X : Cx} {B : Bs} {pos : Pos}
theorem dt_yes {K : PySem.W.Frag} : DT K B tYes cYes := fun ρ σ H O b R e Q q => by
  have e : true = b := Option.some.inj e
  subst e
  exact q H (Same.refl H)
theorem ts_nil : XTs X B [] tYes cYes := ⟨pts_nil, dt_yes⟩
theorem ts_one {c : Expr} {t : TT} {f : En → Option Bool} (h : XT X B c t f) : XTs X B [c] t f := ⟨pts_one h.pe, h.de⟩
theorem gs_cons {e : Expr} {es : List Expr} {t : TG} {u : TGs} {h : D → En → Option En} {k : List D → En → Option En} (h1 : XG X B e t h) (h2 : XGs X B es u k) (hs : (assignEach (e :: es) X.env).map (·.2) = assign e X.env :: (assignEach es X.env).map (·.2) := by rfl) : XGs X B (e :: es) (gCons t u) (hCons h k) := ⟨pgs_cons h1.pe h2.pe hs, dgs_cons h1.de h2.de⟩
/-- a comprehension as a value -/
theorem l_lc {elt tg iter : Expr} {ifs : List Expr} {scope : Scope} {own : List (Str × Nat)} {wi : TI} {g : TG} {tt : TT} {te : TE} {src : En → Option (List D)} {ht : D → En → Option En} {cond : En → Option Bool} {fe : En → Option D} (hc : X.calm = true) (hN : X.N.Nodup) (hi : XI X B tg iter wi src) (ok : BlkOk X.N X.env.scope scope own)
    (hw : GW g (own.map (·.2)))
    (hg : ∀ (s : Shared) (H : Hp) (C : Addr) (cl : List (Str × Addr)) (fp : List Addr), XG (X.blk s H scope (compEnvC scope cl C X.env) fp) B tg g ht) (ht' : ∀ (s : Shared) (H : Hp) (C : Addr) (cl : List (Str × Addr)) (fp : List Addr), XTs (X.blk s H scope (compEnvC scope cl C X.env) fp) B ifs tt cond)
    (he : ∀ (s : Shared) (H : Hp) (C : Addr) (cl : List (Str × Addr)) (fp : List Addr), XE (X.blk s H scope (compEnvC scope cl C X.env) fp) B elt te fe) (hs : ∀ x, foldedSetIterable iter X.env x = pure x := by intro _; rfl) (hp : (own.map (·.2)).all (free B) = true := by rfl) :
    XL X B (.ListComp elt [⟨tg, iter, ifs, 0⟩] scope pos) (tLc wi g tt te (own.map (·.2))) (lComp src ht cond fe (own.map (·.2))) :=
  ⟨pe_lc hc hN hi.pe ok (fun s H C cl fp => (hg s H C cl fp).pe) (fun s H C cl fp => (ht' s H C cl fp).pe) (fun s H C cl fp => (he s H C cl fp).pe) hs,
   dl_comp hp hi.de (hg X.s_0 X.H_0 0 [] []).de hw (ht' X.s_0 X.H_0 0 [] []).de (he X.s_0 X.H_0 0 [] []).de⟩
end
/-! ### a comprehension in a comprehension -/
def relabelS (scope sc : Scope) : Scope := { scope with names := scope.names.map fun (n, k) => if (k == .free && sc.kind == .function && sc.names.lookup n == some .cell) then (n, .cell) else (n, k) }
theorem blkOk_nest {X : Cx} {s : Shared} {H : Hp} {C : Addr} {cl : List (Str × Addr)} {fp : List Addr} {N : List Str} {scO scope : Scope} {own : List (Str × Nat)} (sc : Scope) (e : X.env.scope = sc) (h : blkC N (relabelS scO sc) scope own = true) : BlkOk N (X.blk s H scO (compEnvC scO cl C X.env) fp).env.scope scope own := by
  subst e
  exact blkOk_by h
end Z

set_option Elab.async false
set_option maxRecDepth 100000
set_option maxHeartbeats 4000000
set_option linter.all false
/-! Z5: calls of own defs, statements, a def's promise -/
namespace Z
open PySem PySem.Spec PyProof.Rows L2

/-! ### what a def hands back: ground data, or a list of its own making -/
inductive Rv
  | v (d : D)
  | l (ds : List D)
def Rv.d : Rv → D
  | .v d => d
  | .l ds => .list ds
def Rv.ls : Rv → Option (List D)
  | .v _ => none
  | .l ds => some ds
def RvOk (K : PySem.W.Frag) (H H' : Hp) (O : List Addr) (v : V) : Rv → Prop
  | .v d => Dq K (hid H' O) v d
  | .l ds => ∃ l vs, v = .ref l ∧ H l = none ∧ H' l = some (.lst vs) ∧ DqAll K (hid H' (l :: O)) vs ds
def spD (K : PySem.W.Frag) (n : Nat) (g : List D → Option Rv) : Sp := fun vs H Q _ => vs.length = n ∧ ∃ O ds r, (∀ a ∈ O, ∃ o, H a = some o ∧ isMut o = true) ∧ DqAll K (hid H O) vs ds ∧ g ds = some r ∧ ∀ v H', Same H H' → RvOk K H H' O v r → Q v H'
def immR : Rv → Bool
  | .v d => imm d
  | .l ds => immAll ds
/-- the addresses among values -/
def refs : List V → List Addr
  | [] => []
  | .ref a :: vs => a :: refs vs
  | _ :: vs => refs vs
theorem refs_mem : ∀ {vs : List V} {a : Addr}, V.ref a ∈ vs → a ∈ refs vs
  | .ref b :: vs, a, h => by
    rcases List.mem_cons.mp h with e | h
    · cases e; exact List.mem_cons_self
    · exact List.mem_cons_of_mem _ (refs_mem h)
  | .non :: vs, a, h => by rcases List.mem_cons.mp h with e | h; cases e; exact @refs_mem vs a h
  | .bl _ :: vs, a, h => by rcases List.mem_cons.mp h with e | h; cases e; exact @refs_mem vs a h
  | .int _ :: vs, a, h => by rcases List.mem_cons.mp h with e | h; cases e; exact @refs_mem vs a h
  | .str _ :: vs, a, h => by rcases List.mem_cons.mp h with e | h; cases e; exact @refs_mem vs a h
  | .byt _ :: vs, a, h => by rcases List.mem_cons.mp h with e | h; cases e; exact @refs_mem vs a h
  | .flt _ :: vs, a, h => by rcases List.mem_cons.mp h with e | h; cases e; exact @refs_mem vs a h
  | .ty _ :: vs, a, h => by rcases List.mem_cons.mp h with e | h; cases e; exact @refs_mem vs a h
section
variable {K : PySem.W.Frag} {B : Bs} {ρ : En} {σ : L2.St} {H H' : Hp} {O : List Addr}
theorem RvOk.grow {H0 : Hp} (s : Same H0 H) {v : V} : ∀ {r : Rv}, RvOk K H H' O v r → RvOk K H0 H' O v r
  | .v _, h => h
  | .l _, ⟨l, vs, a, b, c, d⟩ => ⟨l, vs, a, s.free b, c, d⟩
theorem RvOk.d (R : RS K B ρ σ H O) {v : V} : ∀ {r : Rv}, RvOk K H H' O v r → Dq K (hid H' O) v r.d
  | .v _, h => h
  | .l _, ⟨l, vs, e, b, c, d⟩ => by
    subst e
    exact .lst (SqL.of (by rw [hid_out (R.fresh b)]; exact c)) (DqAll.mono (hid_less fun a ha => List.mem_cons_of_mem _ ha) _ _ d)
/-- arguments of which some are owned: read by the callee, the rest hidden -/
def lent (O : List Addr) (vs : List V) : List Addr := O.filter fun a => !(refs vs).contains a
theorem lent_sub {O : List Addr} {vs : List V} : ∀ a ∈ lent O vs, a ∈ O := fun a h => (List.mem_filter.mp h).1
theorem lent_out {O : List Addr} {vs : List V} {a : Addr} (h : V.ref a ∈ vs) : a ∉ lent O vs := fun z => by
  have := (List.mem_filter.mp z).2
  rw [List.contains_iff_mem.mpr (refs_mem h)] at this
  cases this
theorem lent_one (vs : List V) {v : V} {d : D} (m : v ∈ vs) (h : Bo K H O v d) : Dq K (hid H (lent O vs)) v d := by
  have g : Same (hid H O) (hid H (lent O vs)) := hid_less lent_sub
  rcases h with h | ⟨l, us, ds, rfl, rfl, _, h, a⟩ | ⟨l, us, tt, kvs, rfl, rfl, _, h, a⟩
  · exact Dq.mono g _ _ h
  · exact .lst (SqL.of (by rw [hid_out (lent_out m)]; exact h)) (DqAll.mono g _ _ a)
  · exact dobj_dq (by rw [hid_out (lent_out m)]; exact h) (DObj.mono g a)
theorem lent_all (ws : List V) : ∀ {vs : List V} {ds : List D}, (∀ v ∈ vs, v ∈ ws) → BoAll K H O vs ds → DqAll K (hid H (lent O ws)) vs ds
  | _, _, _, .nil => .nil
  | _, _, m, .cons a t => .cons (lent_one ws (m _ List.mem_cons_self) a) (lent_all ws (fun v hv => m v (List.mem_cons_of_mem _ hv)) t)
def toD (o : Option Rv) : Option D := o.map Rv.d
def toL (o : Option Rv) : Option (List D) := o.bind Rv.ls
def immG (o : Option Rv) : Option Rv := o.bind fun r => if immR r = true then some r else none
theorem de_call {n : Nat} {g : List D → Option Rv} {E : XK} {ta : TA} {a : En → Option (List D)} (hn : ∀ ds, g ds ≠ none → ds.length = n) (h : DA K B ta a) : DE K B (tCall (spD K n g) [] E ta) (eCall (fun ds => toD (g ds)) a) := fun ρ σ H O z R e Q q => by
  obtain ⟨ds, h1, e⟩ := bind_some e
  obtain ⟨r, h2, h3⟩ := map_some e
  subst h3
  refine h ρ σ H O ds R h1 _ fun vs H1 s x => ?_
  rw [List.append_nil]
  have R1 := R.grow s
  exact ⟨by rw [x.length]; exact hn ds (by rw [h2]; simp), O, ds, r, R1.mu, x, h2, fun v H2 s2 y => q v H2 (s.trans s2) (y.d R1)⟩
theorem dl_call {n : Nat} {g : List D → Option Rv} {E : XK} {ta : TA} {a : En → Option (List D)} (hn : ∀ ds, g ds ≠ none → ds.length = n) (h : DA K B ta a) : DL K B (tCall (spD K n g) [] E ta) (eCall (fun ds => toL (g ds)) a) := fun ρ σ H O z R e Q q => by
  obtain ⟨ds, h1, e⟩ := bind_some e
  obtain ⟨r, h2, h3⟩ := bind_some e
  refine h ρ σ H O ds R h1 _ fun vs H1 s x => ?_
  rw [List.append_nil]
  have R1 := R.grow s
  refine ⟨by rw [x.length]; exact hn ds (by rw [h2]; simp), O, ds, r, R1.mu, x, h2, fun v H2 s2 y => ?_⟩
  cases r with
  | v d => cases h3
  | l es =>
    have h3 : es = z := Option.some.inj h3
    subst h3
    obtain ⟨l, us, rfl, b, c, d⟩ := y
    exact q l us H2 (s.trans s2) (s.free b) c d
theorem de_callB {n : Nat} {g : List D → Option Rv} {E : XK} {ta : TA} {a : En → Option (List D)} (hn : ∀ ds, g ds ≠ none → ds.length = n) (h : DAB K B ta a) : DE K B (tCall (spD K n g) [] E ta) (eCall (fun ds => toD (immG (g ds))) a) := fun ρ σ H O z R e Q q => by
  obtain ⟨ds, h1, e⟩ := bind_some e
  obtain ⟨r, h2, h3⟩ := map_some e
  subst h3
  obtain ⟨r', h2, h4⟩ := bind_some h2
  split at h4
  · rename_i him
    cases h4
    refine h ρ σ H O ds R h1 _ fun vs H1 s x => ?_
    rw [List.append_nil]
    have R1 := R.grow s
    have hl : vs.length = ds.length := by
      have : ∀ {vs : List V} {ds : List D}, BoAll K H1 O vs ds → vs.length = ds.length := by
        intro vs ds h
        induction h with
        | nil => rfl
        | cons _ _ ih => exact congrArg (· + 1) ih
      exact this x
    refine ⟨by rw [hl]; exact hn ds (by rw [h2]; simp), lent O vs, ds, r, fun a ha => R1.mu a (lent_sub a ha), lent_all vs (fun _ h => h) x, h2, fun v H2 s2 y => ?_⟩
    have R2 := R1.grow s2
    refine q v H2 (s.trans s2) ?_
    cases r with
    | v d => exact Dq.move (R2.tups _) d v him y
    | l es =>
      obtain ⟨l, us, e, b, c, d⟩ := y
      subst e
      exact .lst (SqL.of (by rw [hid_out (R1.fresh b)]; exact c)) (DqAll.move (R2.tups _) _ _ him d)
  · cases h4
theorem dl_callB {n : Nat} {g : List D → Option Rv} {E : XK} {ta : TA} {a : En → Option (List D)} (hn : ∀ ds, g ds ≠ none → ds.length = n) (h : DAB K B ta a) : DL K B (tCall (spD K n g) [] E ta) (eCall (fun ds => toL (immG (g ds))) a) := fun ρ σ H O z R e Q q => by
  obtain ⟨ds, h1, e⟩ := bind_some e
  obtain ⟨r, h2, h3⟩ := bind_some e
  obtain ⟨r', h2, h4⟩ := bind_some h2
  split at h4
  · rename_i him
    cases h4
    refine h ρ σ H O ds R h1 _ fun vs H1 s x => ?_
    rw [List.append_nil]
    have R1 := R.grow s
    have hl : vs.length = ds.length := by
      have : ∀ {vs : List V} {ds : List D}, BoAll K H1 O vs ds → vs.length = ds.length := by
        intro vs ds h
        induction h with
        | nil => rfl
        | cons _ _ ih => exact congrArg (· + 1) ih
      exact this x
    refine ⟨by rw [hl]; exact hn ds (by rw [h2]; simp), lent O vs, ds, r, fun a ha => R1.mu a (lent_sub a ha), lent_all vs (fun _ h => h) x, h2, fun v H2 s2 y => ?_⟩
    have R2 := R1.grow s2
    cases r with
    | v d => cases h3
    | l es =>
      have h3 : es = z := Option.some.inj h3
      subst h3
      obtain ⟨l, us, e, b, c, d⟩ := y
      subst e
      refine q l us H2 (s.trans s2) (s.free b) c (DqAll.move (fun a xs h => ?_) _ _ him d)
      -- a tuple is seen whatever is hidden
      rcases h with h | h
      · refine .inl ?_
        have key : ∀ o, hid H2 (l :: lent O vs) a = some o → isMut o = false → hid H2 (l :: O) a = some o := fun o e m => by
          obtain ⟨x1, e⟩ := of_hid e
          rw [hid_out]
          · exact e
          · simp only [List.mem_cons, not_or] at x1 ⊢
            refine ⟨x1.1, fun zz => ?_⟩
            obtain ⟨o', e', m'⟩ := R2.mu a zz
            rw [e] at e'; cases e'
            rw [m] at m'; cases m'
        rcases h with h | ⟨o, h⟩
        · exact .inl (key _ h rfl)
        · exact .inr ⟨o, key _ h rfl⟩
      · exact .inr h
  · cases h4
end
/-- a def of the program, by what it computes -/
structure DF (P : Program) (w : World) (K : PySem.W.Frag) (mg : Str → Option Value) (base : Heap) (k : Nat) (x : Str) (n : Nat) (g : List D → Option Rv) : Prop where
  ex : ∃ f fd ps, FnOk P w K mg base CX0 k f fd ps (spD K n g) ∧ mg x = some (.ref f) ∧ PySem.W.keepIn K (.ref f) = true ∧ Binds K fd ps []
  len : ∀ ds, g ds ≠ none → ds.length = n
section
variable {X : Cx} {B : Bs} {x : Str} {k n : Nat} {g : List D → Option Rv} {p pos : Pos} {ex : Expr} {es : List Expr} {ta : TA} {a : En → Option (List D)}
theorem DF.mono {P : Program} {w : World} {K : PySem.W.Frag} {mg : Str → Option Value} {base : Heap} {j k : Nat} (F : DF P w K mg base j x n g) (h : j ≤ k) : DF P w K mg base k x n g := by
  obtain ⟨⟨f, fd, ps, a, b⟩, l⟩ := F
  exact ⟨⟨f, fd, ps, a.mono h, b⟩, l⟩
theorem x_call (F : DF X.prog X.w X.K X.mg X.base k x n g) (hr : Room k X.A) (ha : XA X B (ex :: es) ta a) (hg : Gl X x := by rfl) (hdb : (x == ("__debug__" : Str)) = false := by decide) (he : starEach (ex :: es) X.env = (false, eval ex X.env) :: starEach es X.env := by rfl) (hpl : (backTo pos (starEach es X.env)).any (·.1) = false := by rfl) (hk : X.K = B.K := by rfl) :
    XE X B (.Call (.Name x p) (ex :: es) [] pos) (tCall (spD B.K n g) [] E0 ta) (eCall (fun ds => toD (g ds)) a) := by
  obtain ⟨⟨f, fd, ps, F, hm, hkp, hb⟩, hn⟩ := F
  exact ⟨hk ▸ pe_call F hr hg hm hkp hb .nil pass0 ha.pe hdb he hpl, de_call hn ha.de⟩
theorem l_call (F : DF X.prog X.w X.K X.mg X.base k x n g) (hr : Room k X.A) (ha : XA X B (ex :: es) ta a) (hg : Gl X x := by rfl) (hdb : (x == ("__debug__" : Str)) = false := by decide) (he : starEach (ex :: es) X.env = (false, eval ex X.env) :: starEach es X.env := by rfl) (hpl : (backTo pos (starEach es X.env)).any (·.1) = false := by rfl) (hk : X.K = B.K := by rfl) :
    XL X B (.Call (.Name x p) (ex :: es) [] pos) (tCall (spD B.K n g) [] E0 ta) (eCall (fun ds => toL (g ds)) a) := by
  obtain ⟨⟨f, fd, ps, F, hm, hkp, hb⟩, hn⟩ := F
  exact ⟨hk ▸ pe_call F hr hg hm hkp hb .nil pass0 ha.pe hdb he hpl, dl_call hn ha.de⟩
theorem x_callB (F : DF X.prog X.w X.K X.mg X.base k x n g) (hr : Room k X.A) (ha : XAB X B (ex :: es) ta a) (hg : Gl X x := by rfl) (hdb : (x == ("__debug__" : Str)) = false := by decide) (he : starEach (ex :: es) X.env = (false, eval ex X.env) :: starEach es X.env := by rfl) (hpl : (backTo pos (starEach es X.env)).any (·.1) = false := by rfl) (hk : X.K = B.K := by rfl) :
    XE X B (.Call (.Name x p) (ex :: es) [] pos) (tCall (spD B.K n g) [] E0 ta) (eCall (fun ds => toD (immG (g ds))) a) := by
  obtain ⟨⟨f, fd, ps, F, hm, hkp, hb⟩, hn⟩ := F
  exact ⟨hk ▸ pe_call F hr hg hm hkp hb .nil pass0 ha.pe hdb he hpl, de_callB hn ha.de⟩
theorem l_callB (F : DF X.prog X.w X.K X.mg X.base k x n g) (hr : Room k X.A) (ha : XAB X B (ex :: es) ta a) (hg : Gl X x := by rfl) (hdb : (x == ("__debug__" : Str)) = false := by decide) (he : starEach (ex :: es) X.env = (false, eval ex X.env) :: starEach es X.env := by rfl) (hpl : (backTo pos (starEach es X.env)).any (·.1) = false := by rfl) (hk : X.K = B.K := by rfl) :
    XL X B (.Call (.Name x p) (ex :: es) [] pos) (tCall (spD B.K n g) [] E0 ta) (eCall (fun ds => toL (immG (g ds))) a) := by
  obtain ⟨⟨f, fd, ps, F, hm, hkp, hb⟩, hn⟩ := F
  exact ⟨hk ▸ pe_call F hr hg hm hkp hb .nil pass0 ha.pe hdb he hpl, dl_callB hn ha.de⟩
theorem x_call0 (F : DF X.prog X.w X.K X.mg X.base k x n g) (hr : Room k X.A) (hg : Gl X x := by rfl) (hdb : (x == ("__debug__" : Str)) = false := by decide) (hk : X.K = B.K := by rfl) :
    XE X B (.Call (.Name x p) [] [] pos) (tCall (spD B.K n g) [] E0 tNil) (eCall (fun ds => toD (g ds)) aNil) := by
  obtain ⟨⟨f, fd, ps, F, hm, hkp, hb⟩, hn⟩ := F
  exact ⟨hk ▸ pe_call0 F hr hg hm hkp hb .nil pass0 hdb, de_call hn da_nil⟩
theorem l_call0 (F : DF X.prog X.w X.K X.mg X.base k x n g) (hr : Room k X.A) (hg : Gl X x := by rfl) (hdb : (x == ("__debug__" : Str)) = false := by decide) (hk : X.K = B.K := by rfl) :
    XL X B (.Call (.Name x p) [] [] pos) (tCall (spD B.K n g) [] E0 tNil) (eCall (fun ds => toL (g ds)) aNil) := by
  obtain ⟨⟨f, fd, ps, F, hm, hkp, hb⟩, hn⟩ := F
  exact ⟨hk ▸ pe_call0 F hr hg hm hkp hb .nil pass0 hdb, dl_call hn da_nil⟩
end

/-! ### statements -/
inductive Out
  | nx (ρ : En)
  | rt (d : D)
  | rl (ds : List D)
  | bk (ρ : En)
  | ct (ρ : En)
  | rp (d : D) (ρ : En)
  | ex (nm : Str) (d : D)
def Good (K : PySem.W.Frag) (B : Bs) (H : Hp) (O : List Addr) (o : Out) (D : Ends) : Prop := match o with
  | .nx ρ' => ∀ σ' H' O', RS K B ρ' σ' H' O' → Same (hid H O) (hid H' O') → D.nx σ' H'
  | .rt d => ∀ v ρ' σ' H' O', RS K B ρ' σ' H' O' → Dq K (hid H' O') v d → D.rt v H'
  | .rl ds => ∀ l vs ρ' σ' H' O', RS K B ρ' σ' H' O' → B.H0 l = none → H' l = some (.lst vs) → DqAll K (hid H' O') vs ds → (l ∉ O' → DqAll K (hid H' (l :: O')) vs ds) → D.rt (.ref l) H'
  | .bk ρ' => ∀ σ' H' O', RS K B ρ' σ' H' O' → Same (hid H O) (hid H' O') → D.bk σ' H'
  | .ct ρ' => ∀ σ' H' O', RS K B ρ' σ' H' O' → Same (hid H O) (hid H' O') → D.ct σ' H'
  | .rp d ρ' => ∀ v σ' H' O', RS K B ρ' σ' H' O' → Dq K (hid H' O') v d → D.rt v H'
  | .ex nm at_ => ∀ C d v ρ' σ' H' O', RS K B ρ' σ' H' O' → clsOf K nm = some C → B.H0 d = none → H' d = some (.xd [(("at" : Str), v)]) → d ∉ O' → Dq K (hid H' O') v at_ → B.W (.ref C) (some d) σ' H'
def DS (K : PySem.W.Frag) (B : Bs) (t : TS) (F : En → Option Out) : Prop := ∀ ρ σ H O o, RS K B ρ σ H O → F ρ = some o → ∀ D : Ends, Good K B H O o D → t D σ H
structure XS (X : Cx) (B : Bs) (s : Stmt) (t : TS) (F : En → Option Out) : Prop where
  pe : PS X s t
  de : DS B.K B t F
structure XSs (X : Cx) (B : Bs) (s : List Stmt) (t : TS) (F : En → Option Out) : Prop where
  pe : PSs X s t
  de : DS B.K B t F
theorem Good.step {K : PySem.W.Frag} {B : Bs} {H H1 : Hp} {O O1 : List Addr} (s : Same (hid H O) (hid H1 O1)) {D : Ends} : ∀ {o : Out}, Good K B H O o D → Good K B H1 O1 o D
  | .nx _, h => fun σ' H' O' R e => h σ' H' O' R (s.trans e)
  | .rt _, h => h
  | .rl _, h => h
  | .bk _, h => fun σ' H' O' R e => h σ' H' O' R (s.trans e)
  | .ct _, h => fun σ' H' O' R e => h σ' H' O' R (s.trans e)
  | .rp _ _, h => h
  | .ex _ _, h => h
def sNil : En → Option Out := fun ρ => some (.nx ρ)
def sSeq (F G : En → Option Out) : En → Option Out := fun ρ => match F ρ with
  | some (.nx ρ') => G ρ'
  | o => o
def sIf (c : En → Option Bool) (F G : En → Option Out) : En → Option Out := fun ρ => (c ρ).bind fun b => if b = true then F ρ else G ρ
def sSet (i : Nat) (f : En → Option D) : En → Option Out := fun ρ => (f ρ).map fun d => .nx (ρ.set i (some (.ro d)))
def sSetL (i : Nat) (f : En → Option (List D)) : En → Option Out := fun ρ => (f ρ).map fun ds => .nx (ρ.set i (some (.ow ds)))
def sSetR (i : Nat) (f : En → Option (List D)) : En → Option Out := fun ρ => (f ρ).map fun ds => .nx (ρ.set i (some (.lr ds)))
def sAsg (f : En → Option D) (h : D → En → Option En) : En → Option Out := fun ρ => (f ρ).bind fun d => (h d ρ).map .nx
def sDrop (f : En → Option D) : En → Option Out := fun ρ => (f ρ).map fun _ => .nx ρ
def sRet (f : En → Option D) : En → Option Out := fun ρ => (f ρ).map .rt
def sRetL (f : En → Option (List D)) : En → Option Out := fun ρ => (f ρ).map .rl
def sRetO (i : Nat) : En → Option Out := fun ρ => match ρ[i]? with
  | some (some (.ow ds)) => some (.rl ds)
  | _ => none
def sRetN : En → Option Out := fun _ => some (.rt .none)
def sBk : En → Option Out := fun ρ => some (.bk ρ)
def sCt : En → Option Out := fun ρ => some (.ct ρ)
def sBad : En → Option Out := fun _ => none
def sFz (i : Nat) (F : En → Option Out) : En → Option Out := fun ρ => match ρ[i]? with
  | some (some (.ow ds)) => F (ρ.set i (some (.lr ds)))
  | _ => F ρ
def sApp (i : Nat) (f : En → Option D) : En → Option Out := fun ρ => match ρ[i]? with
  | some (some (.ow ds)) => (f ρ).bind fun d => if ds.length < 1000000 then some (.nx (ρ.set i (some (.ow (ds ++ [d]))))) else none
  | _ => none
def sPut (i : Nat) (fi f : En → Option D) : En → Option Out := fun ρ => match ρ[i]? with
  | some (some (.ow ds)) => (f ρ).bind fun d => match fi ρ with
    | some (.int k) => (ixN ds.length k).map fun j => .nx (ρ.set i (some (.ow (ds.set j d))))
    | _ => none
  | _ => none
section
variable {K : PySem.W.Frag} {B : Bs} {ρ : En} {σ : L2.St} {H H' : Hp} {O : List Addr}
/-- a fresh list is owned -/
theorem RS.own1 (R : RS K B ρ σ H O) (e : Same H H') {l : Addr} (n : H l = none) {o : HO} (h : H' l = some o) (m : isMut o = true) : RS K B ρ σ H' (l :: O) ∧ Same (hid H O) (hid H' (l :: O)) := by
  have g : Same (hid H O) (hid H' (l :: O)) := fun a u h => by
    obtain ⟨x, y⟩ := of_hid h
    rw [hid_out]
    · exact e a u y
    · simp only [List.mem_cons, not_or]; exact ⟨ne_of_none y n, x⟩
  refine ⟨(R.grow e).take (R.fresh n) (R.fresh0 n) h m fun j s ej => ?_, g⟩
  obtain ⟨v, a, b⟩ := R.slot j s ej
  refine ⟨v, a, SOk.grow (fun l' hl _ => ⟨List.mem_cons_of_mem _ hl, ?_⟩) g b⟩
  obtain ⟨o, q, _⟩ := R.mu l' hl
  rw [q, e l' o q]
theorem RS.setOw (R : RS K B ρ σ H O) {i : Nat} {l : Addr} {vs : List V} {ds : List D} (hO : l ∈ O) (h0 : l ∉ B.O0) (hl : H l = some (.lst vs)) (ha : DqAll K (hid H O) vs ds)
    (hpin : ∀ j l', B.pin = some (j, l') → (σ.set i (some (V.ref l)))[j]? = some (some (V.ref l'))) (no : ∀ (j : Nat) s, ρ[j]? = some (some s) → s.owned = true → i ≠ j → σ[j]? = some (some (V.ref l)) → False) : RS K B (ρ.set i (some (.ow ds))) (σ.set i (some (.ref l))) H O where
  len := by rw [List.length_set, List.length_set]; exact R.len
  slot := fun j s e => by
    by_cases hj : i = j
    · subst hj
      by_cases hi : i < ρ.length
      · rw [List.getElem?_set_self hi] at e
        have e := Option.some.inj (Option.some.inj e)
        subst e
        exact ⟨_, List.getElem?_set_self (by rw [← R.len]; exact hi), l, vs, rfl, hO, h0, hl, ha⟩
      · rw [List.getElem?_eq_none (by rw [List.length_set]; omega)] at e; cases e
    · rw [List.getElem?_set_ne hj] at e
      obtain ⟨u, a, b⟩ := R.slot j s e
      exact ⟨u, by rw [List.getElem?_set_ne hj]; exact a, b⟩
  uniq := fun j k s s' l' hjk e1 e2 o1 o2 z1 z2 => by
    have self : ∀ {s : SV} {l' : Addr}, (σ.set i (some (V.ref l)))[i]? = some (some (V.ref l')) → l' = l := fun {s l'} z => by
      by_cases hi : i < σ.length
      · rw [List.getElem?_set_self hi] at z
        cases z; rfl
      · rw [List.getElem?_eq_none (by rw [List.length_set]; omega)] at z; cases z
    by_cases hj : i = j
    · subst hj
      have e := self (s := s) z1
      subst e
      rw [List.getElem?_set_ne hjk] at e2 z2
      exact no k s' e2 o2 hjk z2
    · rw [List.getElem?_set_ne hj] at e1 z1
      by_cases hk : i = k
      · subst hk
        have e := self (s := s) z2
        subst e
        exact no j s e1 o1 hj z1
      · rw [List.getElem?_set_ne hk] at e2 z2
        exact R.uniq j k s s' l' hjk e1 e2 o1 o2 z1 z2
  same := R.same
  own := R.own
  mu := R.mu
  sub0 := R.sub0
  lo := R.lo
  pin := hpin
/-- an owned list is written -/
theorem RS.write (R : RS K B ρ σ H O) {i : Nat} {ds ds' : List D} {l : Addr} {vs' : List V} (e : ρ[i]? = some (some (.ow ds))) (es : σ[i]? = some (some (.ref l))) (ha : DqAll K (hid H O) vs' ds') : RS K B (ρ.set i (some (.ow ds'))) σ (upd H l (.lst vs')) O := by
  obtain ⟨v, e1, l', vs, rfl, hO, h0, hl, _⟩ := R.slot i _ e
  rw [es] at e1
  cases e1
  have hid_eq := hid_write (H := H) (O := O) (l := l) (.lst vs') hO
  have ne : ∀ a ∈ O, a ≠ l → upd H l (.lst vs') a = H a := fun a _ h => upd_ne h
  have R1 : RS K B (ρ.set i none) σ (upd H l (.lst vs')) O := {
    len := by rw [List.length_set]; exact R.len
    slot := fun j s ej => by
      have hj : i ≠ j := fun hj => by
        subst hj
        by_cases hi : i < ρ.length
        · rw [List.getElem?_set_self hi] at ej; cases ej
        · rw [List.getElem?_eq_none (by rw [List.length_set]; omega)] at ej; cases ej
      rw [List.getElem?_set_ne hj] at ej
      obtain ⟨u, a, b⟩ := R.slot j s ej
      refine ⟨u, a, ?_⟩
      have nl : ∀ l2, u = .ref l2 → s.owned = true → l2 ≠ l := fun l2 eu ow z => by
        subst eu z
        exact R.uniq i j _ _ _ hj e ej rfl ow es a
      cases s with
      | ro d => show Dq K (hid _ O) u d; rw [hid_eq]; exact b
      | ow es' =>
        obtain ⟨l2, vs2, eu, b1, b2, b3, b4⟩ := b
        exact ⟨l2, vs2, eu, b1, b2, by rw [upd_ne (nl l2 eu rfl)]; exact b3, by rw [hid_eq]; exact b4⟩
      | oK tt kvs =>
        obtain ⟨l2, vs2, eu, b1, b2, b3, b4⟩ := b
        exact ⟨l2, vs2, eu, b1, b2, by rw [upd_ne (nl l2 eu rfl)]; exact b3, by rw [hid_eq]; exact b4⟩
      | lr es' =>
        obtain ⟨l2, vs2, eu, b3, b4⟩ := b
        exact ⟨l2, vs2, eu, by rw [hid_eq]; exact b3, by rw [hid_eq]; exact b4⟩
      | xc nm at_ =>
        obtain ⟨a9, d9, C9, u9, f1, f2, f3, f4, f5⟩ := b
        exact ⟨a9, d9, C9, u9, f1, by rw [hid_eq]; exact f2, f3, by rw [hid_eq]; exact f4, by rw [hid_eq]; exact f5⟩
    uniq := fun j k s s' l' hjk e1 e2 o1 o2 z1 z2 => by
      have cut : ∀ {j : Nat} {s : SV}, (ρ.set i none)[j]? = some (some s) → i ≠ j := fun {j s} ej hj => by
        subst hj
        by_cases hi : i < ρ.length
        · rw [List.getElem?_set_self hi] at ej; cases ej
        · rw [List.getElem?_eq_none (by rw [List.length_set]; omega)] at ej; cases ej
      have n1 := cut e1
      have n2 := cut e2
      rw [List.getElem?_set_ne n1] at e1
      rw [List.getElem?_set_ne n2] at e2
      exact R.uniq j k s s' l' hjk e1 e2 o1 o2 z1 z2
    same := fun a o hL h => by
      have : a ≠ l := fun z => by
        subst z
        rcases R.own a hO with q | q | q
        · exact h0 q
        · exact hL q
        · rw [q] at h; cases h
      rw [upd_ne this]; exact R.same a o hL h
    own := R.own
    mu := fun a ha => by
      by_cases z : a = l
      · subst z; exact ⟨_, upd_same, rfl⟩
      · rw [upd_ne z]; exact R.mu a ha
    sub0 := R.sub0
    lo := R.lo
    pin := R.pin }
  have hsig : σ.set i (some (.ref l)) = σ := by
    apply List.ext_getElem?
    intro j
    by_cases hj : i = j
    · subst hj
      rw [List.getElem?_set_self (by
        have := (List.getElem?_eq_some_iff.mp es).1; exact this), es]
    · rw [List.getElem?_set_ne hj]
  have R2 := R1.setOw (i := i) (ds := ds') hO h0 upd_same (by rw [hid_eq]; exact ha) (fun j l' e => by rw [hsig]; exact R.pin j l' e) fun j s ej ow hj z => by
    rw [List.getElem?_set_ne hj] at ej
    exact R.uniq i j _ _ _ hj e ej rfl ow es z
  have hset : (ρ.set i none).set i (some (.ow ds')) = ρ.set i (some (.ow ds')) := List.set_set ..
  rw [hset, hsig] at R2
  exact R2
/-- a slot gets a tracked list, to be read -/
theorem RS.setLr (R : RS K B ρ σ H O) {i : Nat} {l : Addr} {vs : List V} {ds : List D} (hl : hid H O l = some (.lst vs)) (ha : DqAll K (hid H O) vs ds) (hpin : ∀ j l', B.pin = some (j, l') → (σ.set i (some (V.ref l)))[j]? = some (some (V.ref l'))) : RS K B (ρ.set i (some (.lr ds))) (σ.set i (some (.ref l))) H O where
  len := by rw [List.length_set, List.length_set]; exact R.len
  slot := fun j s e => by
    by_cases hj : i = j
    · subst hj
      by_cases hi : i < ρ.length
      · rw [List.getElem?_set_self hi] at e
        have e := Option.some.inj (Option.some.inj e)
        subst e
        exact ⟨_, List.getElem?_set_self (by rw [← R.len]; exact hi), l, vs, rfl, hl, ha⟩
      · rw [List.getElem?_eq_none (by rw [List.length_set]; omega)] at e; cases e
    · rw [List.getElem?_set_ne hj] at e
      obtain ⟨u, a, b⟩ := R.slot j s e
      exact ⟨u, by rw [List.getElem?_set_ne hj]; exact a, b⟩
  uniq := fun j k s s' l hjk e1 e2 o1 o2 z1 z2 => by
    have cut : ∀ {j : Nat} {s : SV}, (ρ.set i (some (.lr ds)))[j]? = some (some s) → s.owned = true → i ≠ j := fun {j s} e o hj => by
      subst hj
      by_cases hi : i < ρ.length
      · rw [List.getElem?_set_self hi] at e
        have e := Option.some.inj (Option.some.inj e)
        subst e
        cases o
      · rw [List.getElem?_eq_none (by rw [List.length_set]; omega)] at e; cases e
    have n1 := cut e1 o1
    have n2 := cut e2 o2
    rw [List.getElem?_set_ne n1] at e1 z1
    rw [List.getElem?_set_ne n2] at e2 z2
    exact R.uniq j k s s' l hjk e1 e2 o1 o2 z1 z2
  same := R.same
  own := R.own
  mu := R.mu
  sub0 := R.sub0
  lo := R.lo
  pin := hpin
/-- an owned list is given away -/
theorem RS.freeze (R : RS K B ρ σ H O) (hL : B.L = []) {i : Nat} {ds : List D} (e : ρ[i]? = some (some (.ow ds))) : ∃ O', RS K B (ρ.set i (some (.lr ds))) σ H O' ∧ Same (hid H O) (hid H O') := by
  obtain ⟨v, e1, l, vs, rfl, hO, h0, hl, ha⟩ := R.slot i _ e
  have g : Same (hid H O) (hid H (O.filter fun a => decide (a ≠ l))) := hid_less fun a h => (List.mem_filter.mp h).1
  have inO : ∀ {a}, a ∈ O → a ≠ l → a ∈ O.filter fun a => decide (a ≠ l) := fun h n => List.mem_filter.mpr ⟨h, by simpa using n⟩
  refine ⟨O.filter fun a => decide (a ≠ l), ?_, g⟩
  have hsig : σ.set i (some (.ref l)) = σ := by
    apply List.ext_getElem?
    intro j
    by_cases hj : i = j
    · subst hj
      rw [List.getElem?_set_self (List.getElem?_eq_some_iff.mp e1).1, e1]
    · rw [List.getElem?_set_ne hj]
  have R1 : RS K B (ρ.set i none) σ H (O.filter fun a => decide (a ≠ l)) := {
    len := by rw [List.length_set]; exact R.len
    slot := fun j s ej => by
      have hj : i ≠ j := fun hj => by
        subst hj
        by_cases hi : i < ρ.length
        · rw [List.getElem?_set_self hi] at ej; cases ej
        · rw [List.getElem?_eq_none (by rw [List.length_set]; omega)] at ej; cases ej
      rw [List.getElem?_set_ne hj] at ej
      obtain ⟨u, a, b⟩ := R.slot j s ej
      refine ⟨u, a, ?_⟩
      have nl : ∀ l2, u = .ref l2 → s.owned = true → l2 ≠ l := fun l2 eu ow z => by
        subst eu z
        exact R.uniq i j _ _ _ hj e ej rfl ow e1 a
      cases s with
      | ro d => exact Dq.mono g _ _ b
      | ow es' =>
        obtain ⟨l2, vs2, eu, b1, b2, b3, b4⟩ := b
        exact ⟨l2, vs2, eu, inO b1 (nl l2 eu rfl), b2, b3, DqAll.mono g _ _ b4⟩
      | oK tt kvs =>
        obtain ⟨l2, vs2, eu, b1, b2, b3, b4⟩ := b
        exact ⟨l2, vs2, eu, inO b1 (nl l2 eu rfl), b2, b3, DObj.mono g b4⟩
      | lr es' =>
        obtain ⟨l2, vs2, eu, b3, b4⟩ := b
        exact ⟨l2, vs2, eu, g _ _ b3, DqAll.mono g _ _ b4⟩
      | xc nm at_ =>
        obtain ⟨a9, d9, C9, u9, f1, f2, f3, f4, f5⟩ := b
        exact ⟨a9, d9, C9, u9, f1, g _ _ f2, f3, g _ _ f4, Dq.mono g _ _ f5⟩
    uniq := fun j k s s' l' hjk e1 e2 o1 o2 z1 z2 => by
      have cut : ∀ {j : Nat} {s : SV}, (ρ.set i none)[j]? = some (some s) → i ≠ j := fun {j s} ej hj => by
        subst hj
        by_cases hi : i < ρ.length
        · rw [List.getElem?_set_self hi] at ej; cases ej
        · rw [List.getElem?_eq_none (by rw [List.length_set]; omega)] at ej; cases ej
      have n1 := cut e1
      have n2 := cut e2
      rw [List.getElem?_set_ne n1] at e1
      rw [List.getElem?_set_ne n2] at e2
      exact R.uniq j k s s' l' hjk e1 e2 o1 o2 z1 z2
    same := R.same
    own := fun a ha => R.own a (List.mem_filter.mp ha).1
    mu := fun a ha => R.mu a (List.mem_filter.mp ha).1
    sub0 := fun a ha => by
      obtain ⟨x, y, z⟩ := R.sub0 a ha
      exact ⟨inO x fun q => h0 (by rw [← q]; exact ha), y, z⟩
    lo := fun a ha => by rw [hL] at ha; cases ha
    pin := R.pin }
  have R2 := R1.setLr (i := i) (l := l) (vs := vs) (ds := ds) (by rw [hid_out (by simp)]; exact hl) (DqAll.mono g _ _ ha) (fun j l' e => by rw [hsig]; exact R.pin j l' e)
  rw [hsig, List.set_set] at R2
  exact R2
end
end Z

set_option Elab.async false
set_option maxRecDepth 100000
set_option maxHeartbeats 4000000
set_option linter.all false
/-! Z6: the statements' rules, a def's promise -/
namespace Z
open PySem PySem.Spec PyProof.Rows L2

def afterTurn (k : En → Option Out) : Option Out → Option Out
  | some (.nx ρ) => k ρ
  | some (.ct ρ) => k ρ
  | some (.bk ρ) => some (.nx ρ)
  | o => o
def sWhile (c : En → Option Bool) (F : En → Option Out) : Nat → En → Option Out
  | 0 => fun _ => none
  | n + 1 => fun ρ => (c ρ).bind fun b => if b = true then afterTurn (sWhile c F n) (F ρ) else some (.nx ρ)
def forGo (tg : D → En → Option En) (F : En → Option Out) : List D → En → Option Out
  | [] => fun ρ => some (.nx ρ)
  | d :: ds => fun ρ => (tg d ρ).bind fun ρ1 => afterTurn (forGo tg F ds) (F ρ1)
def sFor (src : En → Option (List D)) (tg : D → En → Option En) (F : En → Option Out) : En → Option Out := fun ρ => (src ρ).bind fun ds => forGo tg F ds ρ

section
variable {K : PySem.W.Frag} {B : Bs} {t u : TS} {F G : En → Option Out} {te : TE} {f : En → Option D} {fl : En → Option (List D)} {tt : TT} {c : En → Option Bool}
theorem ds_nil : DS K B tNext sNil := fun ρ σ H O o R e D q => by
  have e : Out.nx ρ = o := Option.some.inj e
  subst e
  exact q σ H O R (Same.refl _)
theorem ds_seq (h : DS K B t F) (k : DS K B u G) : DS K B (tSeq t u) (sSeq F G) := fun ρ σ H O o R e D q => by
  unfold sSeq at e
  split at e
  · rename_i ρ1 h1
    refine h ρ σ H O _ R h1 _ ?_
    intro σ1 H1 O1 R1 s1
    exact k ρ1 σ1 H1 O1 o R1 e D (q.step s1)
  · rename_i hn
    refine h ρ σ H O o R e _ ?_
    cases o with
    | nx ρ1 => exact absurd e (hn ρ1)
    | rt d => exact q
    | rl ds => exact q
    | bk ρ1 => exact q
    | ct ρ1 => exact q
    | rp d ρ1 => exact q
    | ex _ _ => exact q
theorem ds_if (hc : DT K B tt c) (h : DS K B t F) (k : DS K B u G) : DS K B (tIfS tt t u) (sIf c F G) := fun ρ σ H O o R e D q => by
  obtain ⟨b, h1, e⟩ := bind_some e
  refine hc ρ σ H O b R h1 _ fun H1 s => ?_
  cases b with
  | true => exact iteT (h ρ σ H1 O o (R.grow s) e D (q.step (hid_grow s)))
  | false => exact iteF (k ρ σ H1 O o (R.grow s) e D (q.step (hid_grow s)))
theorem ds_set {i : Nat} (hp : free B i = true) (h : DE K B te f) : DS K B (tAsg te (gName i)) (sSet i f) := fun ρ σ H O o R e D q => by
  obtain ⟨d, h1, e⟩ := map_some e
  subst e
  exact h ρ σ H O d R h1 _ fun v H1 s x => q _ H1 O ((R.grow s).setRo hp x) (hid_grow s)
theorem ds_setL {i : Nat} (hp : free B i = true) (h : DL K B te fl) : DS K B (tAsg te (gName i)) (sSetL i fl) := fun ρ σ H O o R e D q => by
  obtain ⟨ds, h1, e⟩ := map_some e
  subst e
  refine h ρ σ H O ds R h1 _ fun l vs H1 s n hl x => ?_
  obtain ⟨R1, g⟩ := R.own1 s n hl rfl
  have h0 : l ∉ B.O0 := fun z => R.fresh n (R.sub0 l z).1
  refine q _ H1 (l :: O) (R1.setOw List.mem_cons_self h0 hl x (pin_set R1 hp) fun j s' ej ow hj z => ?_) g
  obtain ⟨u, a, b⟩ := R.slot j s' ej
  rw [a] at z
  cases z
  cases s' with
  | ro d => cases ow
  | ow es => obtain ⟨l2, vs2, eu, b1, _⟩ := b; cases eu; exact R.fresh n b1
  | oK tt es => obtain ⟨l2, vs2, eu, b1, _⟩ := b; cases eu; exact R.fresh n b1
  | lr d => cases ow
  | xc _ _ => cases ow
theorem ds_setR {i : Nat} (hp : free B i = true) (h : DL K B te fl) : DS K B (tAsg te (gName i)) (sSetR i fl) := fun ρ σ H O o R e D q => by
  obtain ⟨ds, h1, e⟩ := map_some e
  subst e
  exact h ρ σ H O ds R h1 _ fun l vs H1 s n hl x => q _ H1 O ((R.grow s).setLr (by rw [hid_out (R.fresh n)]; exact hl) (DqAll.mono (hid_less fun a ha => List.mem_cons_of_mem _ ha) _ _ x) (pin_set (R.grow s) hp)) (hid_grow s)
theorem ds_asg {g : TG} {h : D → En → Option En} (he : DE K B te f) (hg : DG K B g h) : DS K B (tAsg te g) (sAsg f h) := fun ρ σ H O o R e D q => by
  obtain ⟨d, h1, e⟩ := bind_some e
  obtain ⟨ρ1, h2, e⟩ := map_some e
  subst e
  exact he ρ σ H O d R h1 _ fun v H1 s x => hg ρ σ H1 O v d ρ1 (R.grow s) x h2 _ fun σ2 H2 s2 R2 => q σ2 H2 O R2 (hid_grow (s.trans s2))
theorem ds_drop (h : DE K B te f) : DS K B (tDrop te) (sDrop f) := fun ρ σ H O o R e D q => by
  obtain ⟨d, h1, e⟩ := map_some e
  subst e
  exact h ρ σ H O d R h1 _ fun v H1 s x => q _ H1 O (R.grow s) (hid_grow s)
theorem ds_ret (h : DE K B te f) : DS K B (tRet te) (sRet f) := fun ρ σ H O o R e D q => by
  obtain ⟨d, h1, e⟩ := map_some e
  subst e
  exact h ρ σ H O d R h1 _ fun v H1 s x => q v ρ σ H1 O (R.grow s) x
theorem ds_retL (h : DL K B te fl) : DS K B (tRet te) (sRetL fl) := fun ρ σ H O o R e D q => by
  obtain ⟨ds, h1, e⟩ := map_some e
  subst e
  exact h ρ σ H O ds R h1 _ fun l vs H1 s n hl x => q l vs ρ σ H1 O (R.grow s) (R.fresh0 n) hl (DqAll.mono (hid_less fun a ha => List.mem_cons_of_mem _ ha) _ _ x) fun _ => x
theorem ds_retO {i : Nat} (hL : B.L = []) : DS K B (tRet (tVar i)) (sRetO i) := fun ρ σ H O o R e D q => by
  unfold sRetO at e
  split at e
  · rename_i ds h
    have e := Option.some.inj e
    subst e
    obtain ⟨v, a, l, vs, rfl, b1, b2, b3, b4⟩ := R.slot _ _ h
    refine ⟨_, a, q l vs ρ σ H O R ?_ b3 b4 fun n => absurd b1 n⟩
    rcases R.own l b1 with z | z | z
    · exact absurd z b2
    · rw [hL] at z; cases z
    · exact z
  · cases e
theorem ds_retN : DS K B tRetN sRetN := fun ρ σ H O o R e D q => by
  have e : Out.rt .none = o := Option.some.inj e
  subst e
  exact q .non ρ σ H O R .non
theorem ds_bk : DS K B tBreak sBk := fun ρ σ H O o R e D q => by
  have e : Out.bk ρ = o := Option.some.inj e
  subst e
  exact q σ H O R (Same.refl _)
theorem ds_ct : DS K B tCont sCt := fun ρ σ H O o R e D q => by
  have e : Out.ct ρ = o := Option.some.inj e
  subst e
  exact q σ H O R (Same.refl _)
theorem ds_bad : DS K B tNever sBad := fun ρ σ H O o R e D q => by cases e
theorem ds_fz {i : Nat} (hL : B.L = []) (h : DS K B t F) : DS K B t (sFz i F) := fun ρ σ H O o R e D q => by
  unfold sFz at e
  split at e
  · rename_i ds hs
    obtain ⟨O', R', g⟩ := R.freeze hL hs
    exact h _ σ H O' o R' e D (q.step g)
  · exact h ρ σ H O o R e D q
theorem ds_while {n : Nat} (hc : DT K B tt c) (h : DS K B t F) : DS K B (tWhile tt t) (sWhile c F n) := fun ρ σ H O o R e D q => by
  refine ⟨fun m σ1 H1 => ∃ ρ1 O1, RS K B ρ1 σ1 H1 O1 ∧ Same (hid H O) (hid H1 O1) ∧ sWhile c F m ρ1 = some o, ⟨n, ρ, O, R, Same.refl _, e⟩, ?_⟩
  rintro m σ1 H1 ⟨ρ1, O1, R1, s1, e1⟩
  cases m with
  | zero => cases e1
  | succ m =>
    obtain ⟨b, h1, e1⟩ := bind_some e1
    refine hc ρ1 σ1 H1 O1 b R1 h1 _ fun H2 s2 => ?_
    have R2 := R1.grow s2
    have s12 := s1.trans (hid_grow (O := O1) s2)
    cases b with
    | true =>
      rw [if_pos rfl] at e1
      rw [if_pos rfl]
      refine ⟨fun σ' H' => ∃ ρ1 O1, RS K B ρ1 σ' H' O1 ∧ Same (hid H O) (hid H' O1) ∧ sWhile c F m ρ1 = some o, fun σ' H' h => ⟨m, Nat.lt_succ_self m, h⟩, ?_⟩
      cases hF : F ρ1 with
      | none => rw [hF] at e1; cases e1
      | some o1 =>
        rw [hF] at e1
        refine h ρ1 σ1 H2 O1 o1 R2 hF _ ?_
        cases o1 with
        | nx ρ2 => exact fun σ' H' O' R' s' => ⟨ρ2, O', R', s12.trans s', e1⟩
        | ct ρ2 => exact fun σ' H' O' R' s' => ⟨ρ2, O', R', s12.trans s', e1⟩
        | bk ρ2 =>
          have e1 : Out.nx ρ2 = o := Option.some.inj e1
          subst e1
          exact fun σ' H' O' R' s' => q σ' H' O' R' (s12.trans s')
        | rt d =>
          have e1 : Out.rt d = o := Option.some.inj e1
          subst e1
          exact q
        | rl d =>
          have e1 : Out.rl d = o := Option.some.inj e1
          subst e1
          exact q
        | rp d ρ9 =>
          have e1 : Out.rp d ρ9 = o := Option.some.inj e1
          subst e1
          exact q
        | ex nm9 d9 =>
          have e1 : Out.ex nm9 d9 = o := Option.some.inj e1
          subst e1
          exact q
    | false =>
      rw [if_neg Bool.false_ne_true] at e1
      rw [if_neg Bool.false_ne_true]
      have e1 : Out.nx ρ1 = o := Option.some.inj e1
      subst e1
      exact q σ1 H2 O1 R2 s12
theorem ds_for {wi : TI} {g : TG} {src : En → Option (List D)} {tg : D → En → Option En} (hi : DI K B wi src) (hg : DG K B g tg) (h : DS K B t F) : DS K B (tFor wi g t) (sFor src tg F) := fun ρ σ H O o R e D q => by
  obtain ⟨ds, h1, e⟩ := bind_some e
  refine hi ρ σ H O ds R h1 _ fun J H1 s1 io => ?_
  refine ⟨fun i m σ2 H2 => m = ds.length - i ∧ i ≤ ds.length ∧ ∃ ρ2 O2, RS K B ρ2 σ2 H2 O2 ∧ Same (hid H1 O) (hid H2 O2) ∧ forGo tg F (ds.drop i) ρ2 = some o, ⟨ds.length, by simp, Nat.zero_le _, ρ, O, R.grow s1, Same.refl _, by simpa using e⟩, ?_⟩
  rintro i m σ2 H2 ⟨rfl, hin, ρ2, O2, R2, s2, e2⟩
  obtain ⟨it1, it2⟩ := io H2 O2 s2 R2.there i
  have s0 := hid_grow (O := O) s1
  by_cases hlt : i < ds.length
  · obtain ⟨go, yld⟩ := it1 _ (List.getElem?_eq_getElem hlt)
    rw [List.drop_eq_getElem_cons hlt] at e2
    obtain ⟨ρ3, h3, e3⟩ := bind_some e2
    refine .inr ⟨go, fun σ' H' => ∃ ρ2 O2, RS K B ρ2 σ' H' O2 ∧ Same (hid H1 O) (hid H' O2) ∧ forGo tg F (ds.drop (i + 1)) ρ2 = some o, fun σ' H' h => ⟨_, by omega, rfl, hlt, h⟩, fun x H' y => ?_⟩
    obtain ⟨s3, hx⟩ := yld x H' y
    refine hg ρ2 σ2 H' O2 x _ ρ3 (R2.grow s3) hx h3 _ fun σ4 H4 s4 R4 => ?_
    have s24 := s2.trans (hid_grow (O := O2) (s3.trans s4))
    cases hF : F ρ3 with
    | none => rw [hF] at e3; cases e3
    | some o1 =>
      rw [hF] at e3
      refine h ρ3 σ4 H4 O2 o1 R4 hF _ ?_
      cases o1 with
      | nx ρ5 => exact fun σ' H' O' R' s' => ⟨ρ5, O', R', s24.trans s', e3⟩
      | ct ρ5 => exact fun σ' H' O' R' s' => ⟨ρ5, O', R', s24.trans s', e3⟩
      | bk ρ5 =>
        have e1 : Out.nx ρ5 = o := Option.some.inj e3
        subst e1
        exact fun σ' H' O' R' s' => q σ' H' O' R' (s0.trans (s24.trans s'))
      | rt d =>
        have e1 : Out.rt d = o := Option.some.inj e3
        subst e1
        exact q
      | rl d =>
        have e1 : Out.rl d = o := Option.some.inj e3
        subst e1
        exact q
      | rp d ρ9 =>
        have e1 : Out.rp d ρ9 = o := Option.some.inj e3
        subst e1
        exact q
      | ex nm9 d9 =>
        have e1 : Out.ex nm9 d9 = o := Option.some.inj e3
        subst e1
        exact q
  · have hi : i = ds.length := by omega
    rw [hi, List.drop_length] at e2
    have e2 : Out.nx ρ2 = o := Option.some.inj e2
    subst e2
    exact .inl ⟨it2 (by omega), q σ2 H2 O2 R2 (s0.trans s2)⟩
end
section
variable {X : Cx} {B : Bs} {s : Stmt} {rest body : List Stmt} {t u : TS} {F G : En → Option Out} {te : TE} {f : En → Option D} {fl : En → Option (List D)} {tt : TT} {c : En → Option Bool} {ex : Expr} {pos : Pos}
theorem ss_nil : XSs X B [] tNext sNil := ⟨pss_nil, ds_nil⟩
theorem ss_cons (h : XS X B s t F) (k : XSs X B rest u G) : XSs X B (s :: rest) (tSeq t u) (sSeq F G) := ⟨pss_cons h.pe k.pe, ds_seq h.de k.de⟩
theorem ss_one (h : XS X B s t F) : XSs X B [s] t F := ⟨pss_one h.pe, h.de⟩
theorem ss_fz (i : Nat) (h : XSs X B rest t F) (hL : B.L = [] := by rfl) : XSs X B rest t (sFz i F) := ⟨h.pe, ds_fz hL h.de⟩
theorem s_if {c' : Expr} {a b : List Stmt} (hc : XT X B c' tt c) (h : XSs X B a t F) (k : XSs X B b u G) : XS X B (.If c' a b pos) (tIfS tt t u) (sIf c F G) := ⟨ps_if hc.pe h.pe k.pe, ds_if hc.de h.de k.de⟩
theorem s_set {i : Nat} {x : Str} {pos' : Pos} (hN : X.N.Nodup) (hi : X.N[i]? = some x) (hx : Loc X.env.scope x) (he : XE X B ex te f) (hs : swapsWith ex (some (.Name x pos')) pos.line X.env = pure false := by rfl) (hf : X.fn x = true ∨ X.env.scope.names.lookup x = some .local := by first | exact .inl rfl | exact .inr rfl | assumption) (hp : free B i = true := by rfl) :
    XS X B (.Assign [.Name x pos'] ex pos) (tAsg te (gName i)) (sSet i f) := ⟨ps_set hN hi hx he.pe hs hf, ds_set hp he.de⟩
theorem s_setL {i : Nat} {x : Str} {pos' : Pos} (hN : X.N.Nodup) (hi : X.N[i]? = some x) (hx : Loc X.env.scope x) (he : XL X B ex te fl) (hs : swapsWith ex (some (.Name x pos')) pos.line X.env = pure false := by rfl) (hf : X.fn x = true ∨ X.env.scope.names.lookup x = some .local := by first | exact .inl rfl | exact .inr rfl | assumption) (hp : free B i = true := by rfl) :
    XS X B (.Assign [.Name x pos'] ex pos) (tAsg te (gName i)) (sSetL i fl) := ⟨ps_set hN hi hx he.pe hs hf, ds_setL hp he.de⟩
theorem s_setR {i : Nat} {x : Str} {pos' : Pos} (hN : X.N.Nodup) (hi : X.N[i]? = some x) (hx : Loc X.env.scope x) (he : XL X B ex te fl) (hs : swapsWith ex (some (.Name x pos')) pos.line X.env = pure false := by rfl) (hf : X.fn x = true ∨ X.env.scope.names.lookup x = some .local := by first | exact .inl rfl | exact .inr rfl | assumption) (hp : free B i = true := by rfl) :
    XS X B (.Assign [.Name x pos'] ex pos) (tAsg te (gName i)) (sSetR i fl) := ⟨ps_set hN hi hx he.pe hs hf, ds_setR hp he.de⟩
theorem s_asg {tg : Expr} {g : TG} {h : D → En → Option En} (he : XE X B ex te f) (hg : XG X B tg g h) (hs : swapsWithSole [tg] ex pos.line X.env = pure false := by rfl) (hw : swappedStores [tg] ex X.env = pure none := by rfl) (h1 : (assignEach [tg] X.env).map (·.2) = [assign tg X.env] := by rfl) : XS X B (.Assign [tg] ex pos) (tAsg te g) (sAsg f h) := ⟨ps_asg he.pe hg.pe hs hw h1, ds_asg he.de hg.de⟩
theorem s_drop (he : XE X B ex te f) (hs : swapsWith ex none pos.line X.env = pure false := by rfl) : XS X B (.Expr ex pos) (tDrop te) (sDrop f) := ⟨ps_expr he.pe hs, ds_drop he.de⟩
theorem s_ret (he : XE X B ex te f) : XS X B (.Return (some ex) pos) (tRet te) (sRet f) := ⟨ps_ret he.pe, ds_ret he.de⟩
theorem s_retL (he : XL X B ex te fl) : XS X B (.Return (some ex) pos) (tRet te) (sRetL fl) := ⟨ps_ret he.pe, ds_retL he.de⟩
theorem s_retO (i : Nat) {ex : Expr} (he : PE X ex (tVar i)) (hL : B.L = [] := by rfl) : XS X B (.Return (some ex) pos) (tRet (tVar i)) (sRetO i) := ⟨ps_ret he, ds_retO hL⟩
theorem s_retN : XS X B (.Return none pos) tRetN sRetN := ⟨ps_retN, ds_retN⟩
theorem s_pass : XS X B (.Pass pos) tNext sNil := ⟨ps_pass, ds_nil⟩
theorem s_bk : XS X B (.Break pos) tBreak sBk := ⟨ps_break, ds_bk⟩
theorem s_ct : XS X B (.Continue pos) tCont sCt := ⟨ps_continue, ds_ct⟩
theorem s_bad : XS X B s tNever sBad := ⟨ps_never, ds_bad⟩
theorem s_while {c' : Expr} (n : Nat) (hp : PassesOwn (model X.prog X.w) X.A X.env X.xe) (hc : XT X B c' tt c) (hb : XSs X B body t F) : XS X B (.While c' body [] pos) (tWhile tt t) (sWhile c F n) := ⟨ps_while hp hc.pe hb.pe, ds_while hc.de hb.de⟩
theorem s_for {iter tg : Expr} {wi : TI} {g : TG} {src : En → Option (List D)} {ht : D → En → Option En} (hp : PassesOwn (model X.prog X.w) X.A X.env X.xe) (hc : X.calm = true) (hi : XI X B tg iter wi src) (hg : XG X B tg g ht) (hb : XSs X B body t F) (hs : ∀ x, foldedSetIterable iter X.env x = pure x := by intro _; rfl) :
    XS X B (.For tg iter body [] pos) (tFor wi g t) (sFor src ht F) := ⟨ps_for hp hc hi.pe hg.pe hb.pe hs, ds_for hi.de hg.de hb.de⟩
/-- name = [..] on one line -/
theorem s_setLc {i : Nat} {y : Str} {py : Pos} {elt tg iter : Expr} {ifs : List Expr} {scope : Scope} {own : List (Str × Nat)} {spos : Pos} {wi : TI} {g : TG} {tt : TT} {te : TE} {src : En → Option (List D)} {ht : D → En → Option En} {cond : En → Option Bool} {fe : En → Option D}
    (hc : X.calm = true) (hN : X.N.Nodup) (hy : X.N[i]? = some y) (hyl : X.env.scope.names.lookup y = some .local)
    (hsw : swapsWith (.ListComp elt [⟨tg, iter, ifs, 0⟩] scope pos) (some (.Name y py)) spos.line X.env = pure true) (hi : XI X B tg iter wi src) (ok : BlkOk X.N X.env.scope scope own)
    (hw : GW g (own.map (·.2)))
    (hg : ∀ (s : Shared) (H : Hp) (C : Addr) (cl : List (Str × Addr)) (fp : List Addr), XG (X.blk s H scope (compEnvC scope cl C X.env) fp) B tg g ht) (ht' : ∀ (s : Shared) (H : Hp) (C : Addr) (cl : List (Str × Addr)) (fp : List Addr), XTs (X.blk s H scope (compEnvC scope cl C X.env) fp) B ifs tt cond)
    (he : ∀ (s : Shared) (H : Hp) (C : Addr) (cl : List (Str × Addr)) (fp : List Addr), XE (X.blk s H scope (compEnvC scope cl C X.env) fp) B elt te fe) (hs : ∀ x, foldedSetIterable iter X.env x = pure x := by intro _; rfl) (hp : free B i = true := by rfl) (hq : (own.map (·.2)).all (free B) = true := by rfl) :
    XS X B (.Assign [.Name y py] (.ListComp elt [⟨tg, iter, ifs, 0⟩] scope pos) spos) (tAsg (tLc wi g tt te (own.map (·.2))) (gName i)) (sSetL i (lComp src ht cond fe (own.map (·.2)))) :=
  ⟨ps_setLc hc hN hy hyl hsw hi.pe ok (fun s H C cl fp => (hg s H C cl fp).pe) (fun s H C cl fp => (ht' s H C cl fp).pe) (fun s H C cl fp => (he s H C cl fp).pe) hs,
   ds_setL hp (dl_comp hq hi.de (hg X.s_0 X.H_0 0 [] []).de hw (ht' X.s_0 X.H_0 0 [] []).de (he X.s_0 X.H_0 0 [] []).de)⟩
/-- the same, the name is read alone -/
theorem s_setLcR {i : Nat} {y : Str} {py : Pos} {elt tg iter : Expr} {ifs : List Expr} {scope : Scope} {own : List (Str × Nat)} {spos : Pos} {wi : TI} {g : TG} {tt : TT} {te : TE} {src : En → Option (List D)} {ht : D → En → Option En} {cond : En → Option Bool} {fe : En → Option D}
    (hc : X.calm = true) (hN : X.N.Nodup) (hy : X.N[i]? = some y) (hyl : X.env.scope.names.lookup y = some .local)
    (hsw : swapsWith (.ListComp elt [⟨tg, iter, ifs, 0⟩] scope pos) (some (.Name y py)) spos.line X.env = pure true) (hi : XI X B tg iter wi src) (ok : BlkOk X.N X.env.scope scope own)
    (hw : GW g (own.map (·.2)))
    (hg : ∀ (s : Shared) (H : Hp) (C : Addr) (cl : List (Str × Addr)) (fp : List Addr), XG (X.blk s H scope (compEnvC scope cl C X.env) fp) B tg g ht) (ht' : ∀ (s : Shared) (H : Hp) (C : Addr) (cl : List (Str × Addr)) (fp : List Addr), XTs (X.blk s H scope (compEnvC scope cl C X.env) fp) B ifs tt cond)
    (he : ∀ (s : Shared) (H : Hp) (C : Addr) (cl : List (Str × Addr)) (fp : List Addr), XE (X.blk s H scope (compEnvC scope cl C X.env) fp) B elt te fe) (hs : ∀ x, foldedSetIterable iter X.env x = pure x := by intro _; rfl) (hp : free B i = true := by rfl) (hq : (own.map (·.2)).all (free B) = true := by rfl) :
    XS X B (.Assign [.Name y py] (.ListComp elt [⟨tg, iter, ifs, 0⟩] scope pos) spos) (tAsg (tLc wi g tt te (own.map (·.2))) (gName i)) (sSetR i (lComp src ht cond fe (own.map (·.2)))) :=
  ⟨ps_setLc hc hN hy hyl hsw hi.pe ok (fun s H C cl fp => (hg s H C cl fp).pe) (fun s H C cl fp => (ht' s H C cl fp).pe) (fun s H C cl fp => (he s H C cl fp).pe) hs,
   ds_setR hp (dl_comp hq hi.de (hg X.s_0 X.H_0 0 [] []).de hw (ht' X.s_0 X.H_0 0 [] []).de (he X.s_0 X.H_0 0 [] []).de)⟩
end

/-! ### lists that change -/
section
variable {K : PySem.W.Frag} {B : Bs} {te ti : TE} {f fi : En → Option D}
theorem ds_app {i : Nat} (h : DE K B te f) : DS K B (tDrop (tBM K "list" rAppend (tVar i) (tCons te tNil))) (sApp i f) := fun ρ σ H O o R e D q => by
  unfold sApp at e
  split at e
  · rename_i ds hs
    obtain ⟨d, h1, e⟩ := bind_some e
    split at e
    · rename_i c
      have e := Option.some.inj e
      subst e
      obtain ⟨v, a, l, vs, rfl, b1, b2, b3, b4⟩ := R.slot _ _ hs
      refine ⟨_, a, .inl ⟨rfl, vs, SqL.of b3⟩, h ρ σ H O d R h1 _ fun x H1 s y => ⟨l, vs, x, rfl, rfl, s _ _ b3, lineL (by rw [b4.length]; exact c), ?_⟩⟩
      have R1 := R.grow s
      refine q σ _ O (R1.write hs a ((DqAll.mono (hid_grow s) _ _ b4).append (.one y))) ?_
      rw [hid_write _ b1]
      exact hid_grow s
    · cases e
  · cases e
theorem ds_put {i : Nat} (h : DE K B te f) (hi : DE K B ti fi) : DS K B (tAsg te (gSub (tVar i) ti rSetL)) (sPut i fi f) := fun ρ σ H O o R e D q => by
  unfold sPut at e
  split at e
  · rename_i ds hs
    obtain ⟨d, h1, e⟩ := bind_some e
    split at e
    · rename_i k hk
      obtain ⟨j, h2, e⟩ := map_some e
      subst e
      obtain ⟨v, a, l, vs, rfl, b1, b2, b3, b4⟩ := R.slot _ _ hs
      refine h ρ σ H O d R h1 _ fun x H1 s y => ⟨_, a, hi ρ σ H1 O _ (R.grow s) hk _ fun z H2 s2 w => ?_⟩
      cases w
      have s12 := s.trans s2
      refine ⟨l, vs, k, j, rfl, rfl, s12 _ _ b3, by rw [b4.length]; exact h2, ?_⟩
      have R1 := R.grow s12
      refine q σ _ O (R1.write hs a ((DqAll.mono (hid_grow s12) _ _ b4).set (Dq.mono (hid_grow s2) _ _ y) j)) ?_
      rw [hid_write _ b1]
      exact hid_grow s12
    · cases e
  · cases e
end
section
variable {X : Cx} {B : Bs} {x : Str} {p p2 pos apos cpos : Pos} {ex ei : Expr} {te ti : TE} {f fi : En → Option D}
theorem s_app (i : Nat) {on : Expr} (ho : PE X on (tVar i)) (he : XE X B ex te f) 
    (hbase : attributeBase on "append" X.env (eval on X.env) = eval on X.env := by rfl)
    (hfew : ((backTo cpos (starEach (ex :: []) X.env)).all (fun x => !x.1) && (backToKw cpos (keywordEach [] X.env)).all (fun x => x.1.isSome)
      && decide ((ex :: []).length + ([] : List Keyword).length + (if ([] : List Keyword).isEmpty then 0 else 1) < 30)) = true := by rfl)
    (hline : (apos.endLine == cpos.line) = true := by rfl) (hs1 : starEach (ex :: []) X.env = (false, eval ex X.env) :: starEach [] X.env := by rfl) (hplain : (backTo cpos (starEach [] X.env)).any (·.1) = false := by rfl)
    (hs : swapsWith (.Call (.Attribute on "append" apos) [ex] [] cpos) none pos.line X.env = pure false := by rfl) (hk : X.K = B.K := by rfl) :
    XS X B (.Expr (.Call (.Attribute on "append" apos) [ex] [] cpos) pos) (tDrop (tBM B.K "list" rAppend (tVar i) (tCons te tNil))) (sApp i f) :=
  ⟨hk ▸ ps_expr (pe_bm PySem.F.plainAttrs_list PySem.F.slot_list_append PySem.F.type_list_append mt_append ho (pa_cons he.pe pa_nil hs1) hbase hfew hline hs1 hplain) hs, ds_app he.de⟩
theorem s_put (i : Nat) {on : Expr} (ho : PE X on (tVar i)) (hi : XE X B ei ti fi) (he : XE X B ex te f) (hs : swapsWithSole [.Subscript on ei p] ex pos.line X.env = pure false := by rfl) (hw : swappedStores [.Subscript on ei p] ex X.env = pure none := by rfl) (h1 : (assignEach [.Subscript on ei p] X.env).map (·.2) = [assign (.Subscript on ei p) X.env] := by rfl)
    (ha : ∀ v, assign (.Subscript on ei p) X.env v = (do
      let ov ← holding [v] (eval on X.env)
      let iv ← holding [v, ov] (eval ei X.env)
      standAt p
      holding [v, ov, iv] (setItem ov iv v)
      release [v, ov, iv] []) := by intro _; rfl) :
    XS X B (.Assign [.Subscript on ei p] ex pos) (tAsg te (gSub (tVar i) ti rSetL)) (sPut i fi f) := ⟨ps_asg he.pe (pg_sub ho hi.pe set_list ha) hs hw h1, ds_put he.de hi.de⟩
end

/-! ### a def's promise -/
def env0 (m : Nat) (ds : List D) : En := ds.map (fun d => some (SV.ro d)) ++ List.replicate (m - ds.length) none
def Out.rv : Out → Option Rv
  | .rt d => some (.v d)
  | .rl ds => some (.l ds)
  | .nx _ => some (.v .none)
  | _ => none
def gF (n m : Nat) (F : En → Option Out) (ds : List D) : Option Rv := if ds.length = n then (F (env0 m ds)).bind Out.rv else none
theorem gF_len {n m : Nat} {F : En → Option Out} : ∀ ds, gF n m F ds ≠ none → ds.length = n := fun ds h => by
  unfold gF at h
  split at h
  · assumption
  · exact absurd rfl h
theorem rs_start {K : PySem.W.Frag} {H : Hp} {O : List Addr} {N : List Str} {vs : List V} {ds : List D} (mu : ∀ a ∈ O, ∃ o, H a = some o ∧ isMut o = true) (h : DqAll K (hid H O) vs ds) : RS K ⟨K, H, O, [], none, W0⟩ (env0 N.length ds) (L2.start N vs) H O where
  len := by
    unfold env0 L2.start
    rw [List.length_append, List.length_append, List.length_map, List.length_map, List.length_replicate, List.length_replicate, h.length]
  slot := fun i s e => by
    unfold env0 at e
    unfold L2.start
    by_cases hi : i < ds.length
    · rw [List.getElem?_append_left (by rw [List.length_map]; exact hi), List.getElem?_map] at e
      obtain ⟨d, h1, h2⟩ := map_some e
      have h2 := Option.some.inj h2
      subst h2
      obtain ⟨v, h3, h4⟩ := h.get h1
      refine ⟨v, ?_, h4⟩
      rw [List.getElem?_append_left (by rw [List.length_map, h.length]; exact hi), List.getElem?_map, h3] <;> rfl
    · rw [List.getElem?_append_right (by rw [List.length_map]; omega), List.getElem?_replicate] at e
      split at e <;> cases e
  uniq := fun i j s s' l _ e _ o _ _ _ => by
    unfold env0 at e
    by_cases hi : i < ds.length
    · rw [List.getElem?_append_left (by rw [List.length_map]; exact hi), List.getElem?_map] at e
      obtain ⟨d, h1, h2⟩ := map_some e
      have h2 := Option.some.inj h2
      subst h2
      cases o
    · rw [List.getElem?_append_right (by rw [List.length_map]; omega), List.getElem?_replicate] at e
      split at e <;> cases e
  same := fun _ _ _ h => h
  own := fun a ha => .inl ha
  mu := mu
  sub0 := fun a ha => ⟨ha, by simp, let ⟨o, e, _⟩ := mu a ha; ⟨o, e⟩⟩
  lo := fun a ha => by cases ha
  pin := fun i l e => by cases e
theorem fn_ok {P : Program} {w : World} {K : PySem.W.Frag} {mg : Str → Option Value} {base : Heap} {x qual : Str} {st : Stmt} {f : Addr} {fd : FuncData} {N ps : List Str} {k : Nat} {F : En → Option Out} (Fu : Fun K x qual st f fd) (S : FnScope N ps (defScope st))
    (body : ∀ (cdv : Value) (A : Around) (outer : List Env) (s : Shared) (H : Hp) (O : List Addr) (E : XK), Room k (A.deeper (envOfC qual (defScope st) s.heap.objs.size f cdv)) → ∃ t, XSs (cxOf CX0 P w K mg base N qual (defScope st) f cdv A outer s H E).nox ⟨K, H, O, [], none, W0⟩ (defBody st) t F) :
    FnOk P w K mg base CX0 (k + 1) f fd ps (spD K ps.length (gF ps.length N.length F)) := by
  refine Fu.ok S (fun vs H Q E h => h.1) fun cdv A outer s H vs Q E hr hsp => ?_
  obtain ⟨hl, O, ds, r, mu, ha, hg, q⟩ := hsp
  obtain ⟨t, ht⟩ := body cdv A outer s H O E hr
  refine ⟨t, ht.pe, ?_⟩
  unfold gF at hg
  split at hg
  · obtain ⟨o, h1, h2⟩ := bind_some hg
    refine ht.de _ _ H O o (rs_start mu ha) h1 _ ?_
    have fin : ∀ {ρ' : En} {σ' : L2.St} {H' : Hp} {O' : List Addr}, RS K ⟨K, H, O, [], none, W0⟩ ρ' σ' H' O' → Same H H' ∧ ∀ a ∈ O, a ∈ O' := fun R => ⟨fun a o e => R.same a o (by simp) e, fun a ha => (R.sub0 a ha).1⟩
    cases o with
    | nx ρ1 =>
      have h2 : Rv.v .none = r := Option.some.inj h2
      subst h2
      exact fun σ' H' O' R _ => q _ H' (fin R).1 Dq.non
    | rt d =>
      have h2 : Rv.v d = r := Option.some.inj h2
      subst h2
      exact fun v ρ' σ' H' O' R x => q v H' (fin R).1 (Dq.mono (hid_less (fin R).2) _ _ x)
    | rl es =>
      have h2 : Rv.l es = r := Option.some.inj h2
      subst h2
      refine fun l us ρ' σ' H' O' R n hl x y => q _ H' (fin R).1 ⟨l, us, rfl, n, hl, ?_⟩
      by_cases hm : l ∈ O'
      · refine DqAll.mono (hid_less fun a ha => ?_) _ _ x
        rcases List.mem_cons.mp ha with e | ha
        · rw [e]; exact hm
        · exact (fin R).2 a ha
      · refine DqAll.mono (hid_less fun a ha => ?_) _ _ (y hm)
        rcases List.mem_cons.mp ha with e | ha
        · rw [e]; exact List.mem_cons_self
        · exact List.mem_cons_of_mem _ ((fin R).2 a ha)
    | bk _ => cases h2
    | ct _ => cases h2
    | rp _ _ => cases h2
    | ex _ _ => cases h2
  · cases hg
/-- nothing is computed with no turn left -/
theorem fn_zero {P : Program} {w : World} {K : PySem.W.Frag} {mg : Str → Option Value} {base : Heap} {f : Addr} {fd : FuncData} {ps : List Str} {k : Nat} : FnOk P w K mg base CX0 k f fd ps (spD K ps.length fun _ => none) := by
  have no : ∀ vs H Q E, ¬ spD K ps.length (fun _ => none) vs H Q E := fun vs H Q E h => by
    obtain ⟨_, O, ds, r, _, _, z, _⟩ := h
    cases z
  exact ⟨fun vs H Q E h => absurd h (no vs H Q E), fun A outer s H args us vs Q E _ _ _ _ h => absurd h (no vs H Q E)⟩
/-- the built-ins that a law may ask -/
structure Bi (mg : Str → Option Value) : Prop where
  len : mg "len" = none
  isi : mg "isinstance" = none
  int : mg "int" = none
  bool : mg "bool" = none
  str : mg "str" = none
  tup : mg "tuple" = none
  lst : mg "list" = none
  rng : mg "range" = none
  enm : mg "enumerate" = none
  zip : mg "zip" = none
  rev : mg "reversed" = none
  min : mg "min" = none
  max : mg "max" = none
  sum : mg "sum" = none
  all : mg "all" = none
theorem df_mk {P : Program} {w : World} {K : PySem.W.Frag} {mg : Str → Option Value} {base : Heap} {k n m : Nat} {x qual : Str} {st : Stmt} {f : Addr} {fd : FuncData} {ps : List Str} {F : En → Option Out} (Fu : Fun K x qual st f fd) (hn : ps.length = n) (h : FnOk P w K mg base CX0 k f fd ps (spD K n (gF n m F))) (hm : mg x = some (.ref f)) (hb : Binds K fd ps []) :
    DF P w K mg base k x n (gF n m F) := ⟨⟨f, fd, ps, h, hm, Fu.kp, hb⟩, gF_len⟩
end Z

set_option Elab.async false
set_option maxRecDepth 100000
set_option maxHeartbeats 4000000
set_option linter.all false
/-! Z7: what the printed walks name -/
namespace Z
open PySem PySem.Spec PyProof.Rows L2
/-- the turns of a while -/
def FU : Nat := 1000000
theorem Room.unN {k n : Nat} {A : Around} (r : Room k A) (h : n ≤ 16 * k + 199) : A.units + n < cLine := by have := r.un; omega
section
variable {X : Cx} {B : Bs} {es : List Expr} {t : TGs} {hs : List D → En → Option En} {pos : Pos} {n kk : Nat}
theorem g_tup (hc : X.calm = true) (h : XGs X B es t hs) (hn : (assignEach es X.env).length = n := by rfl) (hst : (assignEach es X.env).findIdx? (·.1) = none := by rfl) (hk : X.K = B.K := by rfl) : XG X B (.Tuple es kk pos) (gTup B.K n t) (hTup n hs) := ⟨hk ▸ pg_tup hc h.pe hn hst, dg_tup h.de⟩
theorem s_doc {x j p p'} : XS X B (.Expr (.Constant (.str x) j p) p') tNext sNil := ⟨ps_doc, ds_nil⟩
end
theorem law_sp {K : PySem.W.Frag} {H : Hp} {a : Addr} {ns : List Int} {g : List D → Option Rv} {E : XK} (h : g [.list (ns.map .int)] = some (.v (.bool true))) (hS : SqL K H a (ns.map V.int)) : spD K 1 g [.ref a] H (fun v _ => v = .bl true) E := by
  have hh : hid H [] = H := by funext a; exact hid_out (by simp)
  refine ⟨rfl, [], [.list (ns.map .int)], .v (.bool true), (fun a ha => by cases ha), ?_, h, fun v H' s r => ?_⟩
  · rw [hh]
    exact .cons (.lst hS (DqAll.map (fun i => .int i) ns)) .nil
  · cases r; rfl
end Z

set_option Elab.async false
set_option maxRecDepth 100000
set_option maxHeartbeats 4000000
set_option linter.all false
/-! ZA: values that change an owned list as they are made; clear, extend; defaults; in; texts' methods; chains -/
namespace Z
open PySem PySem.Spec PyProof.Rows L2

/-! ### an expression that changes slots (pop) -/
def DX (K : PySem.W.Frag) (B : Bs) (t : TE) (F : En → Option (D × En)) : Prop := ∀ ρ σ H O d ρ', RS K B ρ σ H O → F ρ = some (d, ρ') → ∀ Q : VK, (∀ v H', RS K B ρ' σ H' O → Same (hid H O) (hid H' O) → Dq K (hid H' O) v d → Q v H') → t σ H Q
def DXA (K : PySem.W.Frag) (B : Bs) (t : TA) (F : En → Option (List D × En)) : Prop := ∀ ρ σ H O ds ρ', RS K B ρ σ H O → F ρ = some (ds, ρ') → ∀ Q : List V → Hp → Prop, (∀ vs H', RS K B ρ' σ H' O → Same (hid H O) (hid H' O) → DqAll K (hid H' O) vs ds → Q vs H') → t σ H Q
structure XX (X : Cx) (B : Bs) (e : Expr) (t : TE) (F : En → Option (D × En)) : Prop where
  pe : PE X e t
  de : DX B.K B t F
structure XXA (X : Cx) (B : Bs) (es : List Expr) (t : TA) (F : En → Option (List D × En)) : Prop where
  pe : PA X es t
  de : DXA B.K B t F
def xPop (i : Nat) : En → Option (D × En) := fun ρ => match ρ[i]? with
  | some (some (.ow ds)) => ds.getLast?.map fun d => (d, ρ.set i (some (.ow ds.dropLast)))
  | _ => none
def xPopAt (i : Nat) (f : En → Option D) : En → Option (D × En) := fun ρ => match ρ[i]? with
  | some (some (.ow ds)) => match f ρ with
    | some (.int k) => if 0 ≤ k ∧ k < 1000000 then (ds[k.toNat]?).map fun d => (d, ρ.set i (some (.ow (ds.eraseIdx k.toNat)))) else none
    | _ => none
  | _ => none
def xE (f : En → Option D) : En → Option (D × En) := fun ρ => (f ρ).map fun d => (d, ρ)
def xaNil : En → Option (List D × En) := fun ρ => some ([], ρ)
def xaCons (F : En → Option (D × En)) (G : En → Option (List D × En)) : En → Option (List D × En) := fun ρ => (F ρ).bind fun p => (G p.2).map fun q => (p.1 :: q.1, q.2)
def xTup (G : En → Option (List D × En)) : En → Option (D × En) := fun ρ => (G ρ).bind fun q => if q.1.length ≤ 1000000 then some (.tuple q.1, q.2) else none
def xCall (g : List D → Option D) (G : En → Option (List D × En)) : En → Option (D × En) := fun ρ => (G ρ).bind fun q => (g q.1).map fun d => (d, q.2)
def sSetX (i : Nat) (F : En → Option (D × En)) : En → Option Out := fun ρ => (F ρ).map fun p => .nx (p.2.set i (some (.ro p.1)))
def sAsgX (F : En → Option (D × En)) (h : D → En → Option En) : En → Option Out := fun ρ => (F ρ).bind fun p => (h p.1 p.2).map .nx
def sDropX (F : En → Option (D × En)) : En → Option Out := fun ρ => (F ρ).map fun p => .nx p.2
def sRetX (F : En → Option (D × En)) : En → Option Out := fun ρ => (F ρ).map fun p => .rt p.1
def sAppX (i : Nat) (F : En → Option (D × En)) : En → Option Out := fun ρ => match ρ[i]? with
  | some (some (.ow _)) => (F ρ).bind fun p => match p.2[i]? with
    | some (some (.ow ds)) => if ds.length < 1000000 then some (.nx (p.2.set i (some (.ow (ds ++ [p.1]))))) else none
    | _ => none
  | _ => none
def sClear (i : Nat) : En → Option Out := fun ρ => match ρ[i]? with
  | some (some (.ow _)) => some (.nx (ρ.set i (some (.ow []))))
  | _ => none
def sReverse (i : Nat) : En → Option Out := fun ρ => match ρ[i]? with
  | some (some (.ow ds)) => some (.nx (ρ.set i (some (.ow ds.reverse))))
  | _ => none
def sExt (i : Nat) (f : En → Option (List D)) : En → Option Out := fun ρ => match ρ[i]? with
  | some (some (.ow ds)) => (f ρ).bind fun es => if ds.length + es.length ≤ 1000000 then some (.nx (ρ.set i (some (.ow (ds ++ es))))) else none
  | _ => none
section
variable {K : PySem.W.Frag} {B : Bs} {te : TE} {ta : TA} {f : En → Option D} {F : En → Option (D × En)} {G : En → Option (List D × En)} {fl : En → Option (List D)}
theorem dx_pop {i : Nat} : DX K B (tBM0 K "list" rPop (tVar i)) (xPop i) := fun ρ σ H O d ρ' R e Q q => by
  unfold xPop at e
  split at e
  · rename_i ds hs
    obtain ⟨d', h1, e⟩ := map_some e
    cases e
    obtain ⟨v, a, l, vs, rfl, b1, b2, b3, b4⟩ := R.slot _ _ hs
    rw [List.getLast?_eq_getElem?] at h1
    obtain ⟨y, h2, h3⟩ := b4.get h1
    refine ⟨_, a, .inl ⟨rfl, vs, SqL.of b3⟩, l, vs, y, rfl, rfl, b3, by rw [b4.length]; exact h2, ?_⟩
    have hw := hid_write (H := H) (.lst vs.dropLast) b1
    exact q y _ (R.write hs a b4.dropLast) (by rw [hw]; exact Same.refl _) (by rw [hw]; exact h3)
  · cases e
theorem dx_popAt {i : Nat} {ti : TE} (h : DE K B ti f) : DX K B (tBM K "list" rPopAt (tVar i) (tCons ti tNil)) (xPopAt i f) := fun ρ σ H O d ρ' R e Q q => by
  unfold xPopAt at e
  split at e
  · rename_i ds hs
    split at e
    · rename_i k hk
      split at e
      · rename_i hc
        obtain ⟨d', h1, e⟩ := map_some e
        cases e
        obtain ⟨v, a, l, vs, rfl, b1, b2, b3, b4⟩ := R.slot _ _ hs
        refine ⟨_, a, .inl ⟨rfl, vs, SqL.of b3⟩, h ρ σ H O _ R hk _ fun x H1 s y => ?_⟩
        cases y
        obtain ⟨y, h2, h3⟩ := b4.get h1
        have hlt : k.toNat < vs.length := by
          obtain ⟨z, _⟩ := List.getElem?_eq_some_iff.mp h2
          exact z
        have R1 := R.grow s
        refine ⟨l, vs, k, k.toNat, y, rfl, rfl, s _ _ b3, by omega, by omega, ?_, h2, ?_⟩
        · unfold seqIndex?
          have h0 : ¬ k < 0 := by omega
          simp only [h0, if_false]
          rw [if_pos]
          simp only [Bool.and_eq_true, decide_eq_true_eq]
          omega
        · have hw := hid_write (H := H1) (.lst (vs.eraseIdx k.toNat)) b1
          exact q y _ (R1.write hs a ((DqAll.mono (hid_grow s) _ _ b4).eraseIdx _)) (by rw [hw]; exact hid_grow s) (by rw [hw]; exact Dq.mono (hid_grow s) _ _ h3)
      · cases e
    · cases e
  · cases e
theorem DE.dx (h : DE K B te f) : DX K B te (xE f) := fun ρ σ H O d ρ' R e Q q => by
  obtain ⟨d', h1, e⟩ := map_some e
  cases e
  exact h ρ σ H O d R h1 _ fun v H1 s x => q v H1 (R.grow s) (hid_grow s) x
theorem dxa_nil : DXA K B tNil xaNil := fun ρ σ H O ds ρ' R e Q q => by
  cases e
  exact q [] H R (Same.refl _) .nil
theorem dxa_cons (h : DX K B te F) (k : DXA K B ta G) : DXA K B (tCons te ta) (xaCons F G) := fun ρ σ H O ds ρ' R e Q q => by
  obtain ⟨⟨d, ρ1⟩, h1, e⟩ := bind_some e
  obtain ⟨⟨es, ρ2⟩, h2, e⟩ := map_some e
  cases e
  exact h ρ σ H O d ρ1 R h1 _ fun v H1 R1 s1 x => k ρ1 σ H1 O es _ R1 h2 _ fun vs H2 R2 s2 y => q _ H2 R2 (s1.trans s2) (.cons (Dq.mono s2 _ _ x) y)
theorem dx_tup (h : DXA K B ta G) : DX K B (tTup ta) (xTup G) := fun ρ σ H O d ρ' R e Q q => by
  obtain ⟨⟨ds, ρ1⟩, h1, e⟩ := bind_some e
  split at e
  · rename_i c
    cases e
    refine h ρ σ H O ds _ R h1 _ fun vs H1 R1 s x => ⟨line (by rw [x.length]; exact c), fun p hp => ?_⟩
    have s2 := same_new (H := H1) (.tup vs) hp
    exact q _ _ (R1.grow s2) (s.trans (hid_grow s2)) (new_tup hp (R1.fresh hp) x)
  · cases e
theorem dx_call {n : Nat} {g : List D → Option Rv} {E : XK} (hn : ∀ ds, g ds ≠ none → ds.length = n) (h : DXA K B ta G) : DX K B (tCall (spD K n g) [] E ta) (xCall (fun ds => toD (g ds)) G) := fun ρ σ H O z ρ' R e Q q => by
  obtain ⟨⟨ds, ρ1⟩, h1, e⟩ := bind_some e
  obtain ⟨d, h2, e⟩ := map_some e
  cases e
  obtain ⟨r, h4, h3⟩ := map_some (show (g ds).map Rv.d = some z from h2)
  subst h3
  refine h ρ σ H O ds _ R h1 _ fun vs H1 R1 s x => ?_
  rw [List.append_nil]
  exact ⟨by rw [x.length]; exact hn ds (by rw [h4]; simp), O, ds, r, R1.mu, x, h4, fun v H2 s2 y => q v H2 (R1.grow s2) (s.trans (hid_grow s2)) (y.d R1)⟩
theorem ds_setX {i : Nat} (hp : free B i = true) (h : DX K B te F) : DS K B (tAsg te (gName i)) (sSetX i F) := fun ρ σ H O o R e D q => by
  obtain ⟨⟨d, ρ1⟩, h1, e⟩ := map_some e
  subst e
  exact h ρ σ H O d ρ1 R h1 _ fun v H1 R1 s x => q _ H1 O (R1.setRo hp x) s
theorem ds_asgX {g : TG} {ht : D → En → Option En} (h : DX K B te F) (hg : DG K B g ht) : DS K B (tAsg te g) (sAsgX F ht) := fun ρ σ H O o R e D q => by
  obtain ⟨⟨d, ρ1⟩, h1, e⟩ := bind_some e
  obtain ⟨ρ2, h2, e⟩ := map_some e
  subst e
  exact h ρ σ H O d ρ1 R h1 _ fun v H1 R1 s x => hg ρ1 σ H1 O v d ρ2 R1 x h2 _ fun σ' H2 s2 R2 => q σ' H2 O R2 (s.trans (hid_grow s2))
theorem ds_dropX (h : DX K B te F) : DS K B (tDrop te) (sDropX F) := fun ρ σ H O o R e D q => by
  obtain ⟨⟨d, ρ1⟩, h1, e⟩ := map_some e
  subst e
  exact h ρ σ H O d ρ1 R h1 _ fun v H1 R1 s x => q σ H1 O R1 s
theorem ds_retX (h : DX K B te F) : DS K B (tRet te) (sRetX F) := fun ρ σ H O o R e D q => by
  obtain ⟨⟨d, ρ1⟩, h1, e⟩ := map_some e
  subst e
  exact h ρ σ H O d ρ1 R h1 _ fun v H1 R1 s x => q v ρ1 σ H1 O R1 x
theorem ds_appX {i : Nat} (h : DX K B te F) : DS K B (tDrop (tBM K "list" rAppend (tVar i) (tCons te tNil))) (sAppX i F) := fun ρ σ H O o R e D q => by
  unfold sAppX at e
  split at e
  · rename_i ds0 hs0
    obtain ⟨⟨d, ρ1⟩, h1, e⟩ := bind_some e
    dsimp only at e
    split at e
    · rename_i ds hs
      split at e
      · rename_i c
        have e := Option.some.inj e
        subst e
        obtain ⟨v, a, l, vs0, rfl, _, _, b30, _⟩ := R.slot _ _ hs0
        refine ⟨_, a, .inl ⟨rfl, vs0, SqL.of b30⟩, h ρ σ H O d ρ1 R h1 _ fun x H1 R1 s y => ?_⟩
        obtain ⟨v, a', l', vs, e1, b1, b2, b3, b4⟩ := R1.slot _ _ hs
        rw [a] at a'
        cases a'
        cases e1
        refine ⟨l, vs, x, rfl, rfl, b3, lineL (by rw [b4.length]; exact c), ?_⟩
        refine q σ _ O (R1.write hs a (b4.append (.one y))) ?_
        rw [hid_write _ b1]
        exact s
      · cases e
    · cases e
  · cases e
theorem ds_clear {i : Nat} : DS K B (tDrop (tBM0 K "list" rClear (tVar i))) (sClear i) := fun ρ σ H O o R e D q => by
  unfold sClear at e
  split at e
  · rename_i ds hs
    have e := Option.some.inj e
    subst e
    obtain ⟨v, a, l, vs, rfl, b1, b2, b3, b4⟩ := R.slot _ _ hs
    refine ⟨_, a, .inl ⟨rfl, vs, SqL.of b3⟩, l, vs, rfl, rfl, b3, q σ _ O (R.write hs a .nil) ?_⟩
    rw [hid_write _ b1]
    exact Same.refl _
  · cases e
theorem ds_reverse {i : Nat} : DS K B (tDrop (tBM0 K "list" rReverse (tVar i))) (sReverse i) := fun ρ σ H O o R e D q => by
  unfold sReverse at e
  split at e
  · rename_i ds hs
    have e := Option.some.inj e
    subst e
    obtain ⟨v, a, l, vs, rfl, b1, b2, b3, b4⟩ := R.slot _ _ hs
    refine ⟨_, a, .inl ⟨rfl, vs, SqL.of b3⟩, l, vs, rfl, rfl, b3, q σ _ O (R.write hs a b4.reverse) ?_⟩
    rw [hid_write _ b1]
    exact Same.refl _
  · cases e
theorem ds_ext {i : Nat} (h : DM K B te fl) : DS K B (tDrop (tBM K "list" rExtend (tVar i) (tCons te tNil))) (sExt i fl) := fun ρ σ H O o R e D q => by
  unfold sExt at e
  split at e
  · rename_i ds hs
    obtain ⟨es, h1, e⟩ := bind_some e
    split at e
    · rename_i c
      have e := Option.some.inj e
      subst e
      obtain ⟨v, a, l, vs, rfl, b1, b2, b3, b4⟩ := R.slot _ _ hs
      refine ⟨_, a, .inl ⟨rfl, vs, SqL.of b3⟩, h ρ σ H O es R h1 _ fun b us H1 s c1 a1 => ⟨l, b, vs, us, rfl, rfl, s _ _ b3, c1, line (by rw [b4.length, a1.length]; exact c), ?_⟩⟩
      have R1 := R.grow s
      refine q σ _ O (R1.write hs a ((DqAll.mono (hid_grow s) _ _ b4).append a1)) ?_
      rw [hid_write _ b1]
      exact hid_grow s
    · cases e
  · cases e
end
section
variable {X : Cx} {B : Bs} {x : Str} {p p2 pos apos cpos : Pos} {ex ei : Expr} {es : List Expr} {te ti : TE} {ta : TA} {f : En → Option D} {F : En → Option (D × En)} {G : En → Option (List D × En)} {fl : En → Option (List D)} {k n : Nat} {g : List D → Option Rv}
theorem x_pop (i : Nat) {on : Expr} (ho : PE X on (tVar i)) (hbase : attributeBase on "pop" X.env (eval on X.env) = eval on X.env := by rfl) (hline : (apos.endLine == cpos.line) = true := by rfl) (hk : X.K = B.K := by rfl) :
    XX X B (.Call (.Attribute on "pop" apos) [] [] cpos) (tBM0 B.K "list" rPop (tVar i)) (xPop i) := ⟨hk ▸ pe_bm0 PySem.F.plainAttrs_list PySem.F.slot_list_pop PySem.F.type_list_pop mt_pop ho hbase hline, dx_pop⟩
theorem x_popAt (i : Nat) {on : Expr} (ho : PE X on (tVar i)) (he : XE X B ex te f)
    (hbase : attributeBase on "pop" X.env (eval on X.env) = eval on X.env := by rfl)
    (hfew : ((backTo cpos (starEach (ex :: []) X.env)).all (fun x => !x.1) && (backToKw cpos (keywordEach [] X.env)).all (fun x => x.1.isSome)
      && decide ((ex :: []).length + ([] : List Keyword).length + (if ([] : List Keyword).isEmpty then 0 else 1) < 30)) = true := by rfl)
    (hline : (apos.endLine == cpos.line) = true := by rfl) (hs1 : starEach (ex :: []) X.env = (false, eval ex X.env) :: starEach [] X.env := by rfl) (hplain : (backTo cpos (starEach [] X.env)).any (·.1) = false := by rfl) (hk : X.K = B.K := by rfl) :
    XX X B (.Call (.Attribute on "pop" apos) [ex] [] cpos) (tBM B.K "list" rPopAt (tVar i) (tCons te tNil)) (xPopAt i f) :=
  ⟨hk ▸ pe_bm PySem.F.plainAttrs_list PySem.F.slot_list_pop PySem.F.type_list_pop mt_popAt ho (pa_cons he.pe pa_nil hs1) hbase hfew hline hs1 hplain, dx_popAt he.de⟩
theorem XE.xx (h : XE X B ex te f) : XX X B ex te (xE f) := ⟨h.pe, h.de.dx⟩
theorem xa_nil : XXA X B [] tNil xaNil := ⟨pa_nil, dxa_nil⟩
theorem xa_cons (h : XX X B ex te F) (k : XXA X B es ta G) (hs1 : starEach (ex :: es) X.env = (false, eval ex X.env) :: starEach es X.env := by rfl) : XXA X B (ex :: es) (tCons te ta) (xaCons F G) := ⟨pa_cons h.pe k.pe hs1, dxa_cons h.de k.de⟩
theorem xx_tup {x1} (h : XXA X B es ta G) : XX X B (.Tuple es x1 pos) (tTup ta) (xTup G) := ⟨pe_tup h.pe, dx_tup h.de⟩
theorem xx_call (F : DF X.prog X.w X.K X.mg X.base k x n g) (hr : Room k X.A) (ha : XXA X B (ex :: es) ta G) (hg : Gl X x := by rfl) (hdb : (x == ("__debug__" : Str)) = false := by decide) (he : starEach (ex :: es) X.env = (false, eval ex X.env) :: starEach es X.env := by rfl) (hpl : (backTo pos (starEach es X.env)).any (·.1) = false := by rfl) (hk : X.K = B.K := by rfl) :
    XX X B (.Call (.Name x p) (ex :: es) [] pos) (tCall (spD B.K n g) [] E0 ta) (xCall (fun ds => toD (g ds)) G) := by
  obtain ⟨⟨f, fd, ps, F, hm, hkp, hb⟩, hn⟩ := F
  exact ⟨hk ▸ pe_call F hr hg hm hkp hb .nil pass0 ha.pe hdb he hpl, dx_call hn ha.de⟩
theorem s_setX {i : Nat} {x : Str} {pos' : Pos} (hN : X.N.Nodup) (hi : X.N[i]? = some x) (hx : Loc X.env.scope x) (he : XX X B ex te F) (hs : swapsWith ex (some (.Name x pos')) pos.line X.env = pure false := by rfl) (hf : X.fn x = true ∨ X.env.scope.names.lookup x = some .local := by first | exact .inl rfl | exact .inr rfl | assumption) (hp : free B i = true := by rfl) :
    XS X B (.Assign [.Name x pos'] ex pos) (tAsg te (gName i)) (sSetX i F) := ⟨ps_set hN hi hx he.pe hs hf, ds_setX hp he.de⟩
theorem s_asgX {tg : Expr} {g : TG} {h : D → En → Option En} (he : XX X B ex te F) (hg : XG X B tg g h) (hs : swapsWithSole [tg] ex pos.line X.env = pure false := by rfl) (hw : swappedStores [tg] ex X.env = pure none := by rfl) (h1 : (assignEach [tg] X.env).map (·.2) = [assign tg X.env] := by rfl) : XS X B (.Assign [tg] ex pos) (tAsg te g) (sAsgX F h) := ⟨ps_asg he.pe hg.pe hs hw h1, ds_asgX he.de hg.de⟩
theorem s_dropX (he : XX X B ex te F) (hs : swapsWith ex none pos.line X.env = pure false := by rfl) : XS X B (.Expr ex pos) (tDrop te) (sDropX F) := ⟨ps_expr he.pe hs, ds_dropX he.de⟩
theorem s_retX (he : XX X B ex te F) : XS X B (.Return (some ex) pos) (tRet te) (sRetX F) := ⟨ps_ret he.pe, ds_retX he.de⟩
theorem s_appX (i : Nat) {on : Expr} (ho : PE X on (tVar i)) (he : XX X B ex te F) 
    (hbase : attributeBase on "append" X.env (eval on X.env) = eval on X.env := by rfl)
    (hfew : ((backTo cpos (starEach (ex :: []) X.env)).all (fun x => !x.1) && (backToKw cpos (keywordEach [] X.env)).all (fun x => x.1.isSome)
      && decide ((ex :: []).length + ([] : List Keyword).length + (if ([] : List Keyword).isEmpty then 0 else 1) < 30)) = true := by rfl)
    (hline : (apos.endLine == cpos.line) = true := by rfl) (hs1 : starEach (ex :: []) X.env = (false, eval ex X.env) :: starEach [] X.env := by rfl) (hplain : (backTo cpos (starEach [] X.env)).any (·.1) = false := by rfl)
    (hs : swapsWith (.Call (.Attribute on "append" apos) [ex] [] cpos) none pos.line X.env = pure false := by rfl) (hk : X.K = B.K := by rfl) :
    XS X B (.Expr (.Call (.Attribute on "append" apos) [ex] [] cpos) pos) (tDrop (tBM B.K "list" rAppend (tVar i) (tCons te tNil))) (sAppX i F) :=
  ⟨hk ▸ ps_expr (pe_bm PySem.F.plainAttrs_list PySem.F.slot_list_append PySem.F.type_list_append mt_append ho (pa_cons he.pe pa_nil hs1) hbase hfew hline hs1 hplain) hs, ds_appX he.de⟩
theorem s_ext (i : Nat) {on : Expr} (ho : PE X on (tVar i)) (he : XM X B ex te fl) 
    (hbase : attributeBase on "extend" X.env (eval on X.env) = eval on X.env := by rfl)
    (hfew : ((backTo cpos (starEach (ex :: []) X.env)).all (fun x => !x.1) && (backToKw cpos (keywordEach [] X.env)).all (fun x => x.1.isSome)
      && decide ((ex :: []).length + ([] : List Keyword).length + (if ([] : List Keyword).isEmpty then 0 else 1) < 30)) = true := by rfl)
    (hline : (apos.endLine == cpos.line) = true := by rfl) (hs1 : starEach (ex :: []) X.env = (false, eval ex X.env) :: starEach [] X.env := by rfl) (hplain : (backTo cpos (starEach [] X.env)).any (·.1) = false := by rfl)
    (hs : swapsWith (.Call (.Attribute on "extend" apos) [ex] [] cpos) none pos.line X.env = pure false := by rfl) (hk : X.K = B.K := by rfl) :
    XS X B (.Expr (.Call (.Attribute on "extend" apos) [ex] [] cpos) pos) (tDrop (tBM B.K "list" rExtend (tVar i) (tCons te tNil))) (sExt i fl) :=
  ⟨hk ▸ ps_expr (pe_bm PySem.F.plainAttrs_list PySem.F.slot_list_extend PySem.F.type_list_extend mt_extend ho (pa_cons he.pe pa_nil hs1) hbase hfew hline hs1 hplain) hs, ds_ext he.de⟩
theorem s_clear (i : Nat) {on : Expr} (ho : PE X on (tVar i)) (hbase : attributeBase on "clear" X.env (eval on X.env) = eval on X.env := by rfl) (hline : (apos.endLine == cpos.line) = true := by rfl)
    (hs : swapsWith (.Call (.Attribute on "clear" apos) [] [] cpos) none pos.line X.env = pure false := by rfl) (hk : X.K = B.K := by rfl) :
    XS X B (.Expr (.Call (.Attribute on "clear" apos) [] [] cpos) pos) (tDrop (tBM0 B.K "list" rClear (tVar i))) (sClear i) :=
  ⟨hk ▸ ps_expr (pe_bm0 PySem.F.plainAttrs_list PySem.F.slot_list_clear PySem.F.type_list_clear mt_clear ho hbase hline) hs, ds_clear⟩
theorem s_reverse (i : Nat) {on : Expr} (ho : PE X on (tVar i)) (hbase : attributeBase on "reverse" X.env (eval on X.env) = eval on X.env := by rfl) (hline : (apos.endLine == cpos.line) = true := by rfl)
    (hs : swapsWith (.Call (.Attribute on "reverse" apos) [] [] cpos) none pos.line X.env = pure false := by rfl) (hk : X.K = B.K := by rfl) :
    XS X B (.Expr (.Call (.Attribute on "reverse" apos) [] [] cpos) pos) (tDrop (tBM0 B.K "list" rReverse (tVar i))) (sReverse i) :=
  ⟨hk ▸ ps_expr (pe_bm0 PySem.F.plainAttrs_list PySem.F.slot_list_reverse PySem.F.type_list_reverse mt_reverse ho hbase hline) hs, ds_reverse⟩
end

/-! ### a def with a default -/
/-- called without its last parameter, which is then the int c -/
structure DFd (P : Program) (w : World) (K : PySem.W.Frag) (mg : Str → Option Value) (base : Heap) (k : Nat) (x : Str) (n : Nat) (g : List D → Option Rv) (c : Int) : Prop where
  ex : ∃ f fd ps u, FnOk P w K mg base CX0 k f fd ps (spD K n g) ∧ mg x = some (.ref f) ∧ PySem.W.keepIn K (.ref f) = true ∧ Binds K fd ps [u] ∧ RelV (.int c) u
  len : ∀ ds, g ds ≠ none → ds.length = n
section
variable {X : Cx} {B : Bs} {x : Str} {k n : Nat} {g : List D → Option Rv} {p pos : Pos} {ex : Expr} {es : List Expr} {ta : TA} {a : En → Option (List D)} {c : Int}
theorem de_callD {K : PySem.W.Frag} {E : XK} (hn : ∀ ds, g ds ≠ none → ds.length = n) (h : DA K B ta a) : DE K B (tCall (spD K n g) [V.int c] E ta) (eCall (fun ds => toD (g (ds ++ [.int c]))) a) := fun ρ σ H O z R e Q q => by
  obtain ⟨ds, h1, e⟩ := bind_some e
  obtain ⟨r, h2, h3⟩ := map_some e
  subst h3
  refine h ρ σ H O ds R h1 _ fun vs H1 s x => ?_
  have R1 := R.grow s
  have x2 := x.append (.one (Dq.int c))
  exact ⟨by rw [x2.length]; exact hn _ (by rw [h2]; simp), O, _, r, R1.mu, x2, h2, fun v H2 s2 y => q v H2 (s.trans s2) (y.d R1)⟩
theorem dl_callD {K : PySem.W.Frag} {E : XK} (hn : ∀ ds, g ds ≠ none → ds.length = n) (h : DA K B ta a) : DL K B (tCall (spD K n g) [V.int c] E ta) (eCall (fun ds => toL (g (ds ++ [.int c]))) a) := fun ρ σ H O z R e Q q => by
  obtain ⟨ds, h1, e⟩ := bind_some e
  obtain ⟨r, h2, h3⟩ := bind_some e
  refine h ρ σ H O ds R h1 _ fun vs H1 s x => ?_
  have R1 := R.grow s
  have x2 := x.append (.one (Dq.int c))
  refine ⟨by rw [x2.length]; exact hn _ (by rw [h2]; simp), O, _, r, R1.mu, x2, h2, fun v H2 s2 y => ?_⟩
  cases r with
  | v d => cases h3
  | l es =>
    have h3 : es = z := Option.some.inj h3
    subst h3
    obtain ⟨l, us, rfl, b, c, d⟩ := y
    exact q l us H2 (s.trans s2) (s.free b) c d
theorem x_callD (F : DFd X.prog X.w X.K X.mg X.base k x n g c) (hr : Room k X.A) (ha : XA X B (ex :: es) ta a) (hg : Gl X x := by rfl) (hdb : (x == ("__debug__" : Str)) = false := by decide) (he : starEach (ex :: es) X.env = (false, eval ex X.env) :: starEach es X.env := by rfl) (hpl : (backTo pos (starEach es X.env)).any (·.1) = false := by rfl) (hk : X.K = B.K := by rfl) :
    XE X B (.Call (.Name x p) (ex :: es) [] pos) (tCall (spD B.K n g) [V.int c] E0 ta) (eCall (fun ds => toD (g (ds ++ [.int c]))) a) := by
  obtain ⟨⟨f, fd, ps, u, F, hm, hkp, hb, hu⟩, hn⟩ := F
  exact ⟨hk ▸ pe_call F hr hg hm hkp hb (.cons hu .nil) pass0 ha.pe hdb he hpl, de_callD hn ha.de⟩
theorem l_callD (F : DFd X.prog X.w X.K X.mg X.base k x n g c) (hr : Room k X.A) (ha : XA X B (ex :: es) ta a) (hg : Gl X x := by rfl) (hdb : (x == ("__debug__" : Str)) = false := by decide) (he : starEach (ex :: es) X.env = (false, eval ex X.env) :: starEach es X.env := by rfl) (hpl : (backTo pos (starEach es X.env)).any (·.1) = false := by rfl) (hk : X.K = B.K := by rfl) :
    XL X B (.Call (.Name x p) (ex :: es) [] pos) (tCall (spD B.K n g) [V.int c] E0 ta) (eCall (fun ds => toL (g (ds ++ [.int c]))) a) := by
  obtain ⟨⟨f, fd, ps, u, F, hm, hkp, hb, hu⟩, hn⟩ := F
  exact ⟨hk ▸ pe_call F hr hg hm hkp hb (.cons hu .nil) pass0 ha.pe hdb he hpl, dl_callD hn ha.de⟩
end
theorem fun_mkD {K : PySem.W.Frag} {x qual : Str} {st : Stmt} {f T : Addr} {oc : Value} {od an : Option Addr} {osl : Array (Option Value)} {kV doc pm cdv ct : Value} {oT : Obj} {t : Tok} {n : Nat} {i : Int}
    (l : K.lookup f = some ⟨oc, od, .func (PySem.W.fnOf x qual (defArgs st) (defBody st) (defScope st) (.ref T) kV doc pm an cdv ct), osl⟩)
    (c : PySem.W.codeIn K cdv qual = true) (k : PySem.W.keepIn K (.ref f) = true) (lT : K.lookup T = some oT) (dT : oT.data = .seq #[.int i t] n) :
    FunD K x qual (defArgs st) (defBody st) (defScope st) [V.int i] [] f (PySem.W.fnOf x qual (defArgs st) (defBody st) (defScope st) (.ref T) kV doc pm an cdv ct) :=
  ⟨⟨oc, od, .ref T, kV, doc, pm, an, cdv, ct, osl, rfl, l, c, .inr ⟨by simp, T, oT, [.int i t], n, rfl, lT, dT, .cons ⟨t, rfl⟩ .nil⟩, .inl rfl⟩, k⟩
theorem fn_okD {P : Program} {w : World} {K : PySem.W.Frag} {mg : Str → Option Value} {base : Heap} {x qual : Str} {st : Stmt} {f : Addr} {fd : FuncData} {N ps : List Str} {k : Nat} {F : En → Option Out} {dvs : List V} (Fu : FunD K x qual (defArgs st) (defBody st) (defScope st) dvs [] f fd) (S : FnScope N ps (defScope st))
    (body : ∀ (cdv : Value) (A : Around) (outer : List Env) (s : Shared) (H : Hp) (O : List Addr) (E : XK), Room k (A.deeper (envOfC qual (defScope st) s.heap.objs.size f cdv)) → ∃ t, XSs (cxOf CX0 P w K mg base N qual (defScope st) f cdv A outer s H E).nox ⟨K, H, O, [], none, W0⟩ (defBody st) t F) :
    FnOk P w K mg base CX0 (k + 1) f fd ps (spD K ps.length (gF ps.length N.length F)) := by
  refine Fu.ok S (fun vs H Q E h => h.1) fun cdv A outer s H vs Q E hr hsp => ?_
  obtain ⟨hl, O, ds, r, mu, ha, hg, q⟩ := hsp
  obtain ⟨t, ht⟩ := body cdv A outer s H O E hr
  refine ⟨t, ht.pe.nox, ?_⟩
  unfold gF at hg
  split at hg
  · obtain ⟨o, h1, h2⟩ := bind_some hg
    refine ht.de _ _ H O o (rs_start mu ha) h1 _ ?_
    have fin : ∀ {ρ' : En} {σ' : L2.St} {H' : Hp} {O' : List Addr}, RS K ⟨K, H, O, [], none, W0⟩ ρ' σ' H' O' → Same H H' ∧ ∀ a ∈ O, a ∈ O' := fun R => ⟨fun a o e => R.same a o (by simp) e, fun a ha => (R.sub0 a ha).1⟩
    cases o with
    | nx ρ1 =>
      have h2 : Rv.v .none = r := Option.some.inj h2
      subst h2
      exact fun σ' H' O' R _ => q _ H' (fin R).1 Dq.non
    | rt d =>
      have h2 : Rv.v d = r := Option.some.inj h2
      subst h2
      exact fun v ρ' σ' H' O' R x => q v H' (fin R).1 (Dq.mono (hid_less (fin R).2) _ _ x)
    | rl es =>
      have h2 : Rv.l es = r := Option.some.inj h2
      subst h2
      refine fun l us ρ' σ' H' O' R n hl x y => q _ H' (fin R).1 ⟨l, us, rfl, n, hl, ?_⟩
      by_cases hm : l ∈ O'
      · refine DqAll.mono (hid_less fun a ha => ?_) _ _ x
        rcases List.mem_cons.mp ha with e | ha
        · rw [e]; exact hm
        · exact (fin R).2 a ha
      · refine DqAll.mono (hid_less fun a ha => ?_) _ _ (y hm)
        rcases List.mem_cons.mp ha with e | ha
        · rw [e]; exact List.mem_cons_self
        · exact List.mem_cons_of_mem _ ((fin R).2 a ha)
    | bk _ => cases h2
    | ct _ => cases h2
    | rp _ _ => cases h2
    | ex _ _ => cases h2
  · cases hg
theorem df_mkD {P : Program} {w : World} {K : PySem.W.Frag} {mg : Str → Option Value} {base : Heap} {k n m : Nat} {x qual : Str} {st : Stmt} {f : Addr} {fd : FuncData} {ps : List Str} {F : En → Option Out} {i : Int} (Fu : FunD K x qual (defArgs st) (defBody st) (defScope st) [V.int i] [] f fd) (hn : ps.length = n + 1) (h : FnOk P w K mg base CX0 k f fd ps (spD K (n + 1) (gF (n + 1) m F))) (hm : mg x = some (.ref f))
    (hb : ∀ (T : Addr) (kV doc pm : Value) (an : Option Addr) (cdv ct : Value) (us its : List Value), us.length = n + 1 → its.length = 1 →
      ∃ k, bindArgs (PySem.W.fnOf x qual (defArgs st) (defBody st) (defScope st) (.ref T) kV doc pm an cdv ct) ⟨us, []⟩ = seqItems? (.ref T) >>= k ∧ k (some its.toArray) = pure (ps.zip (us ++ its.drop 1)))
    (hb2 : ∀ (T : Addr) (kV doc pm : Value) (an : Option Addr) (cdv ct : Value) (us its : List Value), us.length = n → its.length = 1 →
      ∃ k, bindArgs (PySem.W.fnOf x qual (defArgs st) (defBody st) (defScope st) (.ref T) kV doc pm an cdv ct) ⟨us, []⟩ = seqItems? (.ref T) >>= k ∧ k (some its.toArray) = pure (ps.zip (us ++ its.drop 0))) :
    DF P w K mg base k x (n + 1) (gF (n + 1) m F) ∧ DFd P w K mg base k x (n + 1) (gF (n + 1) m F) i := by
  obtain ⟨ds, h1, h2⟩ := Fu.binds1 (ps := ps) (n + 1) 1 (by simp) (by rw [hn]; rfl) hb
  obtain ⟨es, h3, h4⟩ := Fu.binds1 (ps := ps) n 0 (by simp) (by rw [hn]; rfl) hb2
  cases h1
  cases h3 with
  | cons hu t =>
    cases t
    exact ⟨⟨⟨f, fd, ps, h, hm, Fu.kp, h2⟩, gF_len⟩, ⟨⟨f, fd, ps, _, h, hm, Fu.kp, h4, hu⟩, gF_len⟩⟩
end Z

set_option Elab.async false
set_option maxRecDepth 100000
set_option maxHeartbeats 4000000
set_option linter.all false
/-! ZB: texts: times, in, the methods -/
namespace Z
open PySem PySem.Spec PyProof.Rows L2
def repS (a : Str) (n : Int) : Str := ⟨(List.replicate n.toNat a.cps.toList).flatten.toArray⟩
theorem foldl_app (b : Array Nat) : ∀ (k : Nat) (a : Array Nat), List.foldl (fun x y => x ++ y) a (List.replicate k b) = (a.toList ++ (List.replicate k b.toList).flatten).toArray
  | 0, a => by simp
  | k + 1, a => by
    rw [List.replicate_succ, List.foldl_cons, foldl_app b k (a ++ b), List.replicate_succ, List.flatten_cons]
    simp
theorem gives_repB (m : String) (x : Str) (t : Tok) (b : Bool) : PySem.Gives (Builtin.Str.strRepeat m ⟨[.str x t, .bool b], []⟩) (if b = true then .val (.str x t) else .str Str.empty) := by
  cases b
  · first
      | exact .rule (.of_eq rfl)
      | exact .of_eq rfl
  · first
      | exact .rule (.of_eq rfl)
      | exact .of_eq rfl
theorem int_rmul_bs (a : Bool) (b : Str) (u : Tok) : PySem.Gives (Builtin.«int.__rmul__» ⟨[.bool a, .str b u], []⟩) (.val (Value.notImplemented)) :=
  .of_wp fun M A E s Q h => by obtain ⟨hp, g, d, tk, os⟩ := s; wp_walk; exact ⟨_, rfl, h⟩
def rMulS : R2 := fun x y H Q => (∃ a n, x = .str a ∧ y = .int n ∧ -1000000 ≤ n ∧ n ≤ 1000000 ∧ a.length ≤ 1000000 ∧ a.length * n.toNat ≤ 1000000 ∧ Q (.str (repS a n)) H) ∨ ∃ a b, x = .str a ∧ y = .bl b ∧ Q (.str (if b = true then a else Str.empty)) H
theorem op_mulS {X : Cx} : OpR X (binaryOp .Mult) rMulS := by
  intro pins s σ H x y v u Q I rx ry h
  rcases h with ⟨a, n, rfl, rfl, h1, h2, hz0, hz, q⟩ | ⟨a, b, rfl, rfl, q⟩
  rotate_left
  · obtain ⟨t, rfl⟩ := rx
    obtain rfl := ry
    refine wpAny_binaryOp_repeat (T := "str") (U := "bool") (by decide) (fun s' => typeIs_str s' a t) (fun s' => PySem.typeIs_bool s' b) noFill_str_mul F.fills_bool_mul F.slot_bool_rmul repeat_str F.slot_bool_index.lookup
      (call_gives F.slot_bool_rmul (PySem.typeIs_bool s b) F.entry_int_rmul (F.args_int_rmul_2 _ _) (int_rmul_bs b a t)
        ⟨rfl, call_gives F.slot_str_mul (typeIs_str s a t) F.entry_str_mul (F.args_str_mul_2 _ _) (gives_repB _ a t b) ?_⟩)
    cases b with
    | true => exact ⟨.str a, H, I, ⟨_, rfl⟩, q⟩
    | false => exact ⟨by decide, .str Str.empty, H, I.tok _, ⟨_, rfl⟩, q⟩
  obtain ⟨t, rfl⟩ := rx
  obtain ⟨t', rfl⟩ := ry
  have e63 : (2 : Int) ^ 63 = 9223372036854775808 := by decide
  refine PySem.P.mul_str ?_ (fun hn _ => ?_) (fun hn _ => ?_) ?_
  · rw [e63, decide_eq_false (by omega), decide_eq_false (by omega)]; rfl
  · have h3 : 1 ≤ n := by omega
    have h4 : (a.length : Int) * n ≤ 1000000 := by
      have : ((a.length * n.toNat : Nat) : Int) ≤ 1000000 := by omega
      rw [Int.natCast_mul, Int.toNat_of_nonneg (by omega)] at this
      exact this
    have h5 : (a.length : Int) ≤ (2 ^ 63 - 1) / n := by
      rw [Int.le_ediv_iff_mul_le (by omega), e63]; omega
    omega
  · unfold Builtin.Str.tooLong sizeLine
    exact decide_eq_false (by omega)
  · by_cases hn : n < 1
    · rw [if_pos hn]
      have e : repS a n = Str.empty := by
        unfold repS
        rw [show n.toNat = 0 from by omega]; rfl
      rw [e] at q
      exact ⟨by decide, .str Str.empty, H, I.tok _, ⟨_, rfl⟩, q⟩
    · rw [if_neg hn]
      split
      · rename_i hc
        have e : repS a n = a := by
          unfold repS
          have hc : n = 1 ∨ a.length = 0 := by simpa using hc
          rcases hc with hc | hc
          · rw [hc]; simp
          · have : a.cps = #[] := Array.eq_empty_of_size_eq_zero hc
            obtain ⟨cps⟩ := a
            dsimp only at this
            subst this
            have : (List.replicate n.toNat (#[] : Array Nat).toList).flatten = [] := by simp
            rw [this]
        rw [e] at q
        exact ⟨.str a, H, I, ⟨_, rfl⟩, q⟩
      · have e : repS a n = ⟨(List.replicate n.toNat a.cps).foldl (· ++ ·) #[]⟩ := by
          unfold repS
          rw [foldl_app]; simp
        have hl : (repS a n).length ≤ sizeLine := by
          have : (repS a n).length = n.toNat * a.length := by
            unfold repS
            show (List.flatten _).toArray.size = _
            rw [List.size_toArray, List.length_flatten, List.map_replicate, List.sum_replicate_nat]; rfl
          rw [this, Nat.mul_comm]
          exact line hz
        rw [e] at q hl
        exact ⟨hl, .str _, H, I.tok _, ⟨_, rfl⟩, q⟩
def mulSD (d e : D) : Option D := match d, e with
  | .str a, .int n => if -1000000 ≤ n ∧ n ≤ 1000000 ∧ a.length ≤ 1000000 ∧ a.length * n.toNat ≤ 1000000 then some (.str (repS a n)) else none
  | .str a, .bool b => some (.str (if b = true then a else Str.empty))
  | _, _ => none
def inD (neg : Bool) (d e : D) : Option D := match d, e with
  | .str a, .str z => if a.length = 1 then some (.bool (decide (a.cps.toList.headD 0 ∈ z.cps.toList) != neg)) else none
  | _, _ => none
def rstripD (d e : D) : Option D := match d, e with
  | .str a, .str b => if a.length ≤ 1000000 then some (.str (Txt.rstripChars a b)) else none
  | _, _ => none
section
variable {K : PySem.W.Frag} {B : Bs}
theorem opd_mulS : OpD K B rMulS mulSD := fun ρ σ H O x y d e z R a b k Q q => by
  unfold mulSD at k
  split at k
  · split at k
    · rename_i c
      cases k
      cases a.str
      cases b.int
      exact .inl ⟨_, _, rfl, rfl, c.1, c.2.1, c.2.2.1, c.2.2.2, q _ H (Same.refl H) (.str _)⟩
    · cases k
  · cases k
    cases a.str
    cases b.bl
    exact .inr ⟨_, _, rfl, rfl, q _ H (Same.refl H) (.str _)⟩
  · cases k
theorem one_sign {a : Str} (h : a.length = 1) : a = ⟨#[a.cps.toList.headD 0]⟩ := by
  obtain ⟨⟨l⟩⟩ := a
  match l, h with
  | [c], _ => rfl
theorem opd_in : OpD K B (fun x y H Q => ∃ (c : Nat) (z : Str), x = .str ⟨#[c]⟩ ∧ y = .str z ∧ Q (.bl (decide (c ∈ z.cps.toList))) H) (inD false) := fun ρ σ H O x y d e z R a b k Q q => by
  unfold inD at k
  split at k
  · split at k
    · rename_i c
      rw [Bool.bne_false] at k
      cases k
      cases a.str
      cases b.str
      exact ⟨_, _, congrArg V.str (one_sign c), rfl, q _ H (Same.refl H) (.bl _)⟩
    · cases k
  · cases k
theorem opd_notin : OpD K B (fun x y H Q => ∃ (c : Nat) (z : Str), x = .str ⟨#[c]⟩ ∧ y = .str z ∧ Q (.bl (!decide (c ∈ z.cps.toList))) H) (inD true) := fun ρ σ H O x y d e z R a b k Q q => by
  unfold inD at k
  split at k
  · split at k
    · rename_i c
      rw [Bool.bne_true] at k
      cases k
      cases a.str
      cases b.str
      exact ⟨_, _, congrArg V.str (one_sign c), rfl, q _ H (Same.refl H) (.bl _)⟩
    · cases k
  · cases k
end
section
variable {X : Cx} {B : Bs} {a b : Expr} {ta tb : TE} {f f' : En → Option D} {pos apos : Pos}
theorem x_mulS (ha : XE X B a ta f) (hb : XE X B b tb f') : XE X B (.BinOp a .Mult b pos) (tOp rMulS ta tb) (e2 mulSD f f') := ⟨pe_op op_mulS ha.pe hb.pe, de_op opd_mulS ha.de.db hb.de.db⟩
/-- a text's method of one text -/
theorem de_m1 {K : PySem.W.Frag} {r : V → List V → Hp → VK → Prop} {g : D → D → Option D}
    (hr : ∀ ρ σ H O x y d e z, RS K B ρ σ H O → Dq K (hid H O) x d → Bo K H O y e → g d e = some z → (∃ w, x = .str w) ∧ ∀ Q : VK, (∀ v H', Same H H' → Dq K (hid H' O) v z → Q v H') → r x [y] H Q)
    (hs : ∀ d e z, g d e = some z → ∃ w, d = .str w) (ha : DE K B ta f) (hb : DB K B tb f') : DE K B (tM1 r ta tb) (e2 g f f') := fun ρ σ H O z R e Q q => by
  obtain ⟨d, h1, e⟩ := bind_some e
  obtain ⟨d2, h2, e⟩ := bind_some e
  refine ha ρ σ H O d R h1 _ fun x H1 s1 y => ?_
  obtain ⟨w, rfl⟩ := hs d d2 z e
  have y' := y
  cases y'
  refine ⟨⟨w, rfl⟩, hb ρ σ H1 O d2 (R.grow s1) h2 _ fun x2 H2 s2 y2 => ?_⟩
  exact (hr ρ σ H2 O _ x2 _ d2 z ((R.grow s1).grow s2) (Dq.mono (hid_grow s2) _ _ y) y2 e).2 _ fun v H3 s3 y3 => q v H3 ((s1.trans s2).trans s3) y3
theorem x_rstrip {o : Expr} (ho : XE X B o ta f) (he : XE X B b tb f') (hs : starEach [b] X.env = [(false, eval b X.env)] := by rfl) (hbase : attributeBase o "rstrip" X.env (eval o X.env) = eval o X.env := by rfl) (hline : (apos.endLine == pos.line) = true := by rfl) :
    XE X B (.Call (.Attribute o "rstrip" apos) [b] [] pos) (tM1 (fun x xs H Q => ∃ a b, x = .str a ∧ xs = [.str b] ∧ a.length ≤ sizeLine ∧ Q (.str (Txt.rstripChars a b)) H) ta tb) (e2 rstripD f f') :=
  ⟨pe_m1 PySem.F.slot_str_rstrip PySem.F.type_str_rstrip mt_rstripChars ho.pe he.pe hs hbase hline, de_m1 (fun ρ σ H O x y d e z R a b k => by
    unfold rstripD at k
    split at k
    · split at k
      · rename_i c
        cases k
        cases a
        cases b.str
        exact ⟨⟨_, rfl⟩, fun Q q => ⟨_, _, rfl, rfl, line c, q _ H (Same.refl H) (.str _)⟩⟩
      · cases k
    · cases k) (fun d e z k => by
    unfold rstripD at k
    split at k
    · exact ⟨_, rfl⟩
    · cases k) ho.de he.de.db⟩
end
end Z

set_option Elab.async false
set_option maxRecDepth 100000
set_option maxHeartbeats 4000000
set_option linter.all false
/-! ZC: defs that change their last argument, a list of the caller -/
namespace Z
open PySem PySem.Spec PyProof.Rows L2
def spIO (K : PySem.W.Frag) (n : Nat) (g : List D → List D → Option (D × List D)) : Sp := fun vs H Q _ => vs.length = n ∧ ∃ O vs0 ds l ws us d us', vs = vs0 ++ [V.ref l] ∧ (∀ a ∈ O, ∃ o, H a = some o ∧ isMut o = true) ∧ l ∈ O ∧ H l = some (.lst ws) ∧
  DqAll K (hid H O) ws us ∧ DqAll K (hid H O) vs0 ds ∧ g ds us = some (d, us') ∧ ∀ v H' ws', (∀ a o, a ≠ l → H a = some o → H' a = some o) → H' l = some (.lst ws') → DqAll K (hid H' O) ws' us' → Dq K (hid H' O) v d → Q v H'
def envIO (m : Nat) (ds us : List D) : En := ds.map (fun d => some (SV.ro d)) ++ (some (SV.ow us) :: List.replicate (m - ds.length - 1) none)
def ioK (d : D) : Option (Option SV) → Option (D × List D)
  | some (some (.ow us)) => some (d, us)
  | _ => none
def ioR (i : Nat) : Option Out → Option (D × List D)
  | some (.rp d ρ) => ioK d ρ[i]?
  | some (.nx ρ) => ioK .none ρ[i]?
  | _ => none
def gIO (n m : Nat) (F : En → Option Out) (ds us : List D) : Option (D × List D) := if ds.length + 1 = n then ioR ds.length (F (envIO m ds us)) else none
theorem gIO_len {n m : Nat} {F : En → Option Out} : ∀ ds us, gIO n m F ds us ≠ none → ds.length + 1 = n := fun ds us h => by
  unfold gIO at h
  split at h
  · assumption
  · exact absurd rfl h
theorem envIO_get {m : Nat} {ds us : List D} {i : Nat} {s : SV} (e : (envIO m ds us)[i]? = some (some s)) : (∃ d, ds[i]? = some d ∧ s = .ro d) ∨ (i = ds.length ∧ s = .ow us) := by
  unfold envIO at e
  by_cases hi : i < ds.length
  · rw [List.getElem?_append_left (by rw [List.length_map]; exact hi), List.getElem?_map] at e
    obtain ⟨d, h1, h2⟩ := map_some e
    exact .inl ⟨d, h1, (Option.some.inj h2).symm⟩
  · rw [List.getElem?_append_right (by rw [List.length_map]; omega), List.length_map] at e
    by_cases hz : i = ds.length
    · subst hz
      rw [Nat.sub_self, List.getElem?_cons_zero] at e
      exact .inr ⟨rfl, (Option.some.inj (Option.some.inj e)).symm⟩
    · obtain ⟨k, hk⟩ : ∃ k, i - ds.length = k + 1 := ⟨i - ds.length - 1, by omega⟩
      rw [hk, List.getElem?_cons_succ, List.getElem?_replicate] at e
      split at e <;> cases e
theorem rs_startIO {K : PySem.W.Frag} {H : Hp} {O : List Addr} {N : List Str} {vs : List V} {ds us : List D} {l : Addr} {ws : List V} (mu : ∀ a ∈ O, ∃ o, H a = some o ∧ isMut o = true) (hl : l ∈ O) (hH : H l = some (.lst ws)) (hw : DqAll K (hid H O) ws us) (h : DqAll K (hid H O) vs ds) (hN : ds.length < N.length) :
    RS K ⟨K, H, O.filter (fun a => decide (a ≠ l)), [l], some (ds.length, l), W0⟩ (envIO N.length ds us) (L2.start N (vs ++ [V.ref l])) H O where
  len := by
    unfold envIO L2.start
    simp only [List.length_append, List.length_map, List.length_cons, List.length_replicate, List.length_nil, h.length]
    omega
  slot := fun i s e => by
    unfold L2.start
    rcases envIO_get e with ⟨d, h1, rfl⟩ | ⟨rfl, rfl⟩
    · obtain ⟨v, h3, h4⟩ := h.get h1
      have hi : i < vs.length := (List.getElem?_eq_some_iff.mp h3).1
      refine ⟨v, ?_, h4⟩
      rw [List.getElem?_append_left (by rw [List.length_map, List.length_append]; omega), List.getElem?_map, List.getElem?_append_left hi, h3] <;> rfl
    · refine ⟨V.ref l, ?_, l, ws, rfl, hl, fun z => ?_, hH, hw⟩
      · rw [List.getElem?_append_left (by rw [List.length_map, List.length_append, List.length_singleton, h.length]; omega), List.getElem?_map, List.getElem?_append_right (by rw [h.length]; exact Nat.le_refl _), h.length, Nat.sub_self] <;> rfl
      · have := (List.mem_filter.mp z).2
        simp at this
  uniq := fun i j s s' l' hij e1 e2 o1 o2 _ _ => by
    rcases envIO_get e1 with ⟨d, _, rfl⟩ | ⟨h1, _⟩
    · cases o1
    · rcases envIO_get e2 with ⟨d, _, rfl⟩ | ⟨h2, _⟩
      · cases o2
      · exact hij (h1.trans h2.symm)
  same := fun _ _ _ h => h
  own := fun a ha => by
    by_cases q : a = l
    · subst q; exact .inr (.inl List.mem_cons_self)
    · exact .inl (List.mem_filter.mpr ⟨ha, by simpa using q⟩)
  mu := mu
  sub0 := fun a ha => by
    obtain ⟨h1, h2⟩ := List.mem_filter.mp ha
    have h2 : a ≠ l := by simpa using h2
    obtain ⟨o, e, _⟩ := mu a h1
    exact ⟨h1, by simpa using h2, o, e⟩
  lo := fun a ha => by rcases List.mem_singleton.mp ha with rfl; exact hl
  pin := fun i l' e => by
    cases e
    unfold L2.start
    rw [List.getElem?_append_left (by rw [List.length_map, List.length_append, List.length_singleton, h.length]; omega), List.getElem?_map, List.getElem?_append_right (by rw [h.length]; exact Nat.le_refl _), h.length, Nat.sub_self] <;> rfl
theorem fn_okIO {P : Program} {w : World} {K : PySem.W.Frag} {mg : Str → Option Value} {base : Heap} {x qual : Str} {st : Stmt} {f : Addr} {fd : FuncData} {N ps : List Str} {k : Nat} {F : En → Option Out} (Fu : Fun K x qual st f fd) (S : FnScope N ps (defScope st)) (hN : ps.length ≤ N.length)
    (body : ∀ (cdv : Value) (A : Around) (outer : List Env) (s : Shared) (H : Hp) (O : List Addr) (l : Addr) (E : XK), Room k (A.deeper (envOfC qual (defScope st) s.heap.objs.size f cdv)) → ∃ t, XSs (cxOf CX0 P w K mg base N qual (defScope st) f cdv A outer s H E).nox ⟨K, H, O, [l], some (ps.length - 1, l), W0⟩ (defBody st) t F) :
    FnOk P w K mg base CX0 (k + 1) f fd ps (spIO K ps.length (gIO ps.length N.length F)) := by
  refine Fu.ok S (fun vs H Q E h => h.1) fun cdv A outer s H vs Q E hr hsp => ?_
  obtain ⟨hlen, O, vs0, ds, l, ws, us, d, us', rfl, mu, hl, hH, hw, ha, hg, q⟩ := hsp
  rw [List.length_append, List.length_singleton, ha.length] at hlen
  obtain ⟨t, ht⟩ := body cdv A outer s H (O.filter fun a => decide (a ≠ l)) l E hr
  refine ⟨t, ht.pe, ?_⟩
  rw [← hlen, Nat.add_sub_cancel] at ht
  unfold gIO at hg
  rw [if_pos hlen] at hg
  have R0 := rs_startIO (N := N) mu hl hH hw ha (by omega)
  have fin : ∀ {ρ' : En} {σ' : L2.St} {H' : Hp} {O' : List Addr} {d2 : D} {v : V}, RS K ⟨K, H, O.filter (fun a => decide (a ≠ l)), [l], some (ds.length, l), W0⟩ ρ' σ' H' O' → ioK d2 ρ'[ds.length]? = some (d, us') → Dq K (hid H' O') v d2 → Q v H' := fun {ρ' σ' H' O' d2 v} R e x => by
    have sub : ∀ a ∈ O, a ∈ O' := fun a ha => by
      by_cases z : a = l
      · subst z; exact R.lo a List.mem_cons_self
      · exact (R.sub0 a (List.mem_filter.mpr ⟨ha, by simpa using z⟩)).1
    unfold ioK at e
    split at e
    · rename_i us2 hs
      cases e
      obtain ⟨v1, a, l1, ws1, rfl, b1, b2, b3, b4⟩ := R.slot _ _ hs
      have p := R.pin ds.length l rfl
      rw [a] at p
      cases p
      exact q v H' ws1 (fun a o hne e => R.same a o (by simpa using hne) e) b3 (DqAll.mono (hid_less sub) _ _ b4) (Dq.mono (hid_less sub) _ _ x)
    · cases e
  cases hF : F (envIO N.length ds us) with
  | none => rw [hF] at hg; cases hg
  | some o =>
    rw [hF] at hg
    refine ht.de _ _ H O o R0 hF _ ?_
    cases o with
    | nx ρ1 => exact fun σ' H' O' R _ => fin R hg Dq.non
    | rp d2 ρ1 => exact fun v σ' H' O' R x => fin R hg x
    | rt d => cases hg
    | rl es => cases hg
    | bk _ => cases hg
    | ct _ => cases hg
    | ex _ _ => cases hg
def sRetP (f : En → Option D) : En → Option Out := fun ρ => (f ρ).map fun d => .rp d ρ
def sRetPX (F : En → Option (D × En)) : En → Option Out := fun ρ => (F ρ).map fun p => .rp p.1 p.2
structure DFio (P : Program) (w : World) (K : PySem.W.Frag) (mg : Str → Option Value) (base : Heap) (k : Nat) (x : Str) (n : Nat) (g : List D → List D → Option (D × List D)) : Prop where
  ex : ∃ f fd ps, FnOk P w K mg base CX0 k f fd ps (spIO K n g) ∧ mg x = some (.ref f) ∧ PySem.W.keepIn K (.ref f) = true ∧ Binds K fd ps []
  len : ∀ ds us, g ds us ≠ none → ds.length + 1 = n
theorem df_mkIO {P : Program} {w : World} {K : PySem.W.Frag} {mg : Str → Option Value} {base : Heap} {k n m : Nat} {x qual : Str} {st : Stmt} {f : Addr} {fd : FuncData} {ps : List Str} {F : En → Option Out} (Fu : Fun K x qual st f fd) (hn : ps.length = n) (h : FnOk P w K mg base CX0 k f fd ps (spIO K n (gIO n m F))) (hm : mg x = some (.ref f)) (hb : Binds K fd ps []) :
    DFio P w K mg base k x n (gIO n m F) := ⟨⟨f, fd, ps, h, hm, Fu.kp, hb⟩, gIO_len⟩
/-- arguments, the last of them an owned list's name -/
def DIO (K : PySem.W.Frag) (B : Bs) (j : Nat) (t : TA) (a : En → Option (List D)) : Prop := ∀ ρ σ H O ds l, RS K B ρ σ H O → a ρ = some ds → σ[j]? = some (some (V.ref l)) → ∀ Q : List V → Hp → Prop, (∀ vs H', Same H H' → DqAll K (hid H' O) vs ds → Q (vs ++ [V.ref l]) H') → t σ H Q
structure XIO (X : Cx) (B : Bs) (j : Nat) (es : List Expr) (t : TA) (a : En → Option (List D)) : Prop where
  pe : PA X es t
  de : DIO B.K B j t a
def xIO (g : List D → List D → Option (D × List D)) (j : Nat) (a : En → Option (List D)) : En → Option (D × En) := fun ρ => match ρ[j]? with
  | some (some (.ow us)) => (a ρ).bind fun ds => (g ds us).map fun p => (p.1, ρ.set j (some (.ow p.2)))
  | _ => none
section
variable {K : PySem.W.Frag} {B : Bs} {te : TE} {ta : TA} {f : En → Option D} {F : En → Option (D × En)} {a : En → Option (List D)} {j : Nat}
theorem ds_retP (h : DE K B te f) : DS K B (tRet te) (sRetP f) := fun ρ σ H O o R e D q => by
  obtain ⟨d, h1, e⟩ := map_some e
  subst e
  exact h ρ σ H O d R h1 _ fun v H1 s x => q v σ H1 O (R.grow s) x
theorem ds_retPX (h : DX K B te F) : DS K B (tRet te) (sRetPX F) := fun ρ σ H O o R e D q => by
  obtain ⟨⟨d, ρ1⟩, h1, e⟩ := map_some e
  subst e
  exact h ρ σ H O d ρ1 R h1 _ fun v H1 R1 s x => q v σ H1 O R1 x
theorem dio_nil : DIO K B j (tCons (tVar j) tNil) aNil := fun ρ σ H O ds l R e es Q q => by
  cases e
  exact ⟨_, es, q [] H (Same.refl H) .nil⟩
theorem dio_cons (h : DE K B te f) (k : DIO K B j ta a) : DIO K B j (tCons te ta) (aCons f a) := fun ρ σ H O ds l R e es Q q => by
  obtain ⟨d, h1, e⟩ := bind_some e
  obtain ⟨ds1, h2, e⟩ := bind_some e
  have e := Option.some.inj e
  subst e
  exact h ρ σ H O d R h1 _ fun v H1 s x => k ρ σ H1 O ds1 l (R.grow s) h2 es _ fun vs H2 s2 y => q (v :: vs) H2 (s.trans s2) (.cons (Dq.mono (hid_grow s2) _ _ x) y)
theorem dx_io {n : Nat} {g : List D → List D → Option (D × List D)} {E : XK} (hn : ∀ ds us, g ds us ≠ none → ds.length + 1 = n) (h : DIO K B j ta a) : DX K B (tCall (spIO K n g) [] E ta) (xIO g j a) := fun ρ σ H O d ρ' R e Q q => by
  unfold xIO at e
  split at e
  · rename_i us hs
    obtain ⟨ds, h1, e⟩ := bind_some e
    obtain ⟨⟨d1, us1⟩, h2, e⟩ := map_some e
    cases e
    obtain ⟨v, es, l, ws, rfl, b1, b2, b3, b4⟩ := R.slot _ _ hs
    refine h ρ σ H O ds l R h1 es _ fun vs H1 s x => ?_
    rw [List.append_nil]
    have R1 := R.grow s
    refine ⟨by rw [List.length_append, List.length_singleton, x.length]; exact hn ds us (by rw [h2]; simp), O, vs, ds, l, ws, us, d1, us1, rfl, R1.mu, b1, s _ _ b3, DqAll.mono (hid_grow s) _ _ b4, x, h2, fun v H' ws' c1 c2 c3 c4 => ?_⟩
    -- the heap but for the list
    have s2 : Same H1 (upd H' l (.lst ws)) := fun a o e => by
      by_cases z : a = l
      · subst z
        rw [upd_same, ← e, s _ _ b3]
      · rw [upd_ne z]; exact c1 a o z e
    have R2 := R1.grow s2
    have hid2 : hid (upd H' l (.lst ws)) O = hid H' O := hid_write _ b1
    have hup : upd (upd H' l (.lst ws)) l (.lst ws') = H' := by
      funext a
      by_cases z : a = l
      · subst z; rw [upd_same, c2]
      · rw [upd_ne z, upd_ne z]
    have R3 := R2.write hs es (vs' := ws') (ds' := us1) (by rw [hid2]; exact c3)
    rw [hup] at R3
    refine q v H' R3 ?_ c4
    rw [← hid2]
    exact hid_grow (s.trans s2)
  · cases e
end
section
variable {X : Cx} {B : Bs} {x : Str} {p pos : Pos} {ex : Expr} {es : List Expr} {te : TE} {ta : TA} {f : En → Option D} {F : En → Option (D × En)} {a : En → Option (List D)} {j k n : Nat} {g : List D → List D → Option (D × List D)}
theorem s_retP (he : XE X B ex te f) : XS X B (.Return (some ex) pos) (tRet te) (sRetP f) := ⟨ps_ret he.pe, ds_retP he.de⟩
theorem s_retPX (he : XX X B ex te F) : XS X B (.Return (some ex) pos) (tRet te) (sRetPX F) := ⟨ps_ret he.pe, ds_retPX he.de⟩
theorem io_nil (j : Nat) (ho : PE X ex (tVar j)) (hs1 : starEach (ex :: []) X.env = (false, eval ex X.env) :: starEach [] X.env := by rfl) : XIO X B j [ex] (tCons (tVar j) tNil) aNil := ⟨pa_cons ho pa_nil hs1, dio_nil⟩
theorem io_cons (h : XE X B ex te f) (k : XIO X B j es ta a) (hs1 : starEach (ex :: es) X.env = (false, eval ex X.env) :: starEach es X.env := by rfl) : XIO X B j (ex :: es) (tCons te ta) (aCons f a) := ⟨pa_cons h.pe k.pe hs1, dio_cons h.de k.de⟩
theorem xx_io (F : DFio X.prog X.w X.K X.mg X.base k x n g) (hr : Room k X.A) (ha : XIO X B j (ex :: es) ta a) (hg : Gl X x := by rfl) (hdb : (x == ("__debug__" : Str)) = false := by decide) (he : starEach (ex :: es) X.env = (false, eval ex X.env) :: starEach es X.env := by rfl) (hpl : (backTo pos (starEach es X.env)).any (·.1) = false := by rfl) (hk : X.K = B.K := by rfl) :
    XX X B (.Call (.Name x p) (ex :: es) [] pos) (tCall (spIO B.K n g) [] E0 ta) (xIO g j a) := by
  obtain ⟨⟨f, fd, ps, F, hm, hkp, hb⟩, hn⟩ := F
  exact ⟨hk ▸ pe_call F hr hg hm hkp hb .nil pass0 ha.pe hdb he hpl, dx_io hn ha.de⟩
end
end Z

set_option Elab.async false
set_option maxRecDepth 100000
set_option maxHeartbeats 4000000
set_option linter.all false
/-! ZD: chained comparisons -/
namespace Z
open PySem PySem.Spec PyProof.Rows L2
def eChain (g g' : D → D → Option D) (fa fb fc : En → Option D) : En → Option D := fun ρ => (fa ρ).bind fun x => (fb ρ).bind fun y => (g x y).bind fun z => match z with
  | .bool true => (fc ρ).bind fun w => g' y w
  | .bool false => some (.bool false)
  | _ => none
section
variable {K : PySem.W.Frag} {B : Bs} {r r' : R2} {g g' : D → D → Option D} {ta tb tc : TE} {fa fb fc : En → Option D}
theorem de_chain (hr : OpD K B r g) (hr' : OpD K B r' g') (ha : DE K B ta fa) (hb : DE K B tb fb) (hc : DE K B tc fc) : DE K B (tChain r r' ta tb tc) (eChain g g' fa fb fc) := fun ρ σ H O d R e Q q => by
  obtain ⟨x, h1, e⟩ := bind_some e
  obtain ⟨y, h2, e⟩ := bind_some e
  obtain ⟨z, h3, e⟩ := bind_some e
  refine ha ρ σ H O x R h1 _ fun vx H1 s1 a => hb ρ σ H1 O y (R.grow s1) h2 _ fun vy H2 s2 b => ?_
  have R2 := R.grow (s1.trans s2)
  refine hr ρ σ H2 O vx vy x y z R2 (.inl (Dq.mono (hid_grow s2) _ _ a)) (.inl b) h3 _ fun vz H3 s3 c => ?_
  have R3 := R2.grow s3
  cases z with
  | bool k =>
    cases c
    refine ⟨k, rfl, ?_⟩
    cases k with
    | true =>
      rw [if_pos rfl]
      obtain ⟨w, h4, e⟩ := bind_some e
      refine hc ρ σ H3 O w R3 h4 _ fun vw H4 s4 cw => ?_
      exact hr' ρ σ H4 O vy vw y w d (R3.grow s4) (.inl (Dq.mono (hid_grow (s3.trans s4)) _ _ b)) (.inl cw) e Q fun v H5 s5 c5 => q v H5 ((s1.trans s2).trans (s3.trans (s4.trans s5))) c5
    | false =>
      rw [if_neg Bool.false_ne_true]
      have e := Option.some.inj e
      subst e
      exact q _ H3 ((s1.trans s2).trans s3) (.bl false)
  | none => cases e
  | int _ => cases e
  | str _ => cases e
  | list _ => cases e
  | tuple _ => cases e
  | dict _ => cases e
end
section
variable {X : Cx} {B : Bs} {a b c : Expr} {ta tb tc : TE} {fa fb fc : En → Option D} {pos : Pos} {op op' : CmpOp} {r r' : R2} {g g' : D → D → Option D}
theorem x_chain (ho : OpR X (compareOp op) r) (hr : OpD B.K B r g) (ho' : OpR X (compareOp op') r') (hr' : OpD B.K B r' g') (ha : XE X B a ta fa) (hb : XE X B b tb fb) (hc : XE X B c tc fc)
    (hm : lastMarks [op, op'] [b, c] = false := by with_unfolding_all rfl) : XE X B (.Compare a [op, op'] [b, c] pos) (tChain r r' ta tb tc) (eChain g g' fa fb fc) := ⟨pe_chain ho ho' ha.pe hb.pe hc.pe hm, de_chain hr hr' ha.de hb.de hc.de⟩
theorem t_chain (ho : OpR X (compareOp op) r) (hr : OpD B.K B r g) (ho' : OpR X (compareOp op') r') (hr' : OpD B.K B r' g') (ha : XE X B a ta fa) (hb : XE X B b tb fb) (hc : XE X B c tc fc)
    (hm : lastMarks [op, op'] [b, c] = false := by with_unfolding_all rfl) : XT X B (.Compare a [op, op'] [b, c] pos) (tTest (tChain r r' ta tb tc)) (asB (eChain g g' fa fb fc)) := ⟨pt_chain ho ho' ha.pe hb.pe hc.pe hm, dt_test (de_chain hr hr' ha.de hb.de hc.de)⟩
end
end Z

set_option Elab.async false
set_option maxRecDepth 100000
set_option maxHeartbeats 4000000
set_option linter.all false
/-! ZE: texts joined and split; in a list -/
namespace Z
open PySem PySem.Spec PyProof.Rows L2
def strsOf : List D → Option (List Str)
  | [] => some []
  | .str x :: ds => (strsOf ds).map (x :: ·)
  | _ :: _ => none
theorem strsOf_some : ∀ {ds : List D} {ys : List Str}, strsOf ds = some ys → ds = ys.map .str
  | [], ys, h => by cases h; rfl
  | .str x :: ds, ys, h => by
    obtain ⟨zs, h1, h2⟩ := map_some (show (strsOf ds).map (x :: ·) = some ys from h)
    subst h2
    rw [strsOf_some h1]; rfl
  | .none :: _, _, h => by cases h
  | .bool _ :: _, _, h => by cases h
  | .int _ :: _, _, h => by cases h
  | .list _ :: _, _, h => by cases h
  | .tuple _ :: _, _, h => by cases h
  | .dict _ :: _, _, h => by cases h
def joinD (d e : D) : Option D := match d, e with
  | .str a, .list ds => (strsOf ds).bind fun ys => if (ys.map (·.length)).sum + ys.length * a.length ≤ 16777216 then some (.str (Txt.join a ys)) else none
  | _, _ => none
def splitL (d e : D) : Option (List D) := match d, e with
  | .str a, .str b => if (b.length == 0) = false ∧ a.length ≤ 1000000 then some ((Txt.split a b).map .str) else none
  | _, _ => none
def inLD (neg : Bool) (d e : D) : Option D := match e with
  | .list ds => if SeqAt.shaped d = true ∧ SeqAt.shaped (.list ds) = true then some (.bool ((ds.any fun z => PyData.eqv z d) != neg)) else none
  | _ => none
def rJoin (K : PySem.W.Frag) : V → List V → Hp → VK → Prop := fun x xs H Q => ∃ a p, ∃ ys : List Str, x = .str a ∧ xs = [.ref p] ∧ (SqL K H p (ys.map V.str) ∨ SqT K H p (ys.map V.str)) ∧
    (ys.map (·.length)).sum + ys.length * a.length ≤ 16777216 ∧ Q (.str (Txt.join a ys)) H
def rSplit : V → List V → Hp → VK → Prop := fun x xs H Q => ∃ a b, x = .str a ∧ xs = [.str b] ∧ (b.length == 0) = false ∧ a.length + 2 ≤ sizeLine ∧ rNewStrs (Txt.split a b) H Q
section
variable {K : PySem.W.Frag} {B : Bs}
theorem opd_inL : OpD K B (rInD K) (inLD false) := fun ρ σ H O x y d e z R a b k Q q => by
  unfold inLD at k
  split at k
  · rename_i ds
    split at k
    · rename_i c
      rw [Bool.bne_false] at k
      cases k
      obtain ⟨p, vs, rfl, hp, ap⟩ := b.list
      have cl := SeqAt.canLay_of_shaped c.2
      have cd := SeqAt.canLay_of_shaped c.1
      have hd : Dq K H x d := by
        rcases a with a | ⟨l, us, es, rfl, rfl, _, h, a⟩ | ⟨l, us, tt, kvs, rfl, rfl, _, h, a⟩
        · exact Dq.mono (hid_self _ _) _ _ a
        · exact .lst (SqL.of h) (DqAll.mono (hid_self _ _) _ _ a)
        · exact dobj_dq h (DObj.mono (hid_self _ _) a)
      exact ⟨d, ds, Dq.toDp d _ cd hd, Dq.toDp (.list ds) _ cl (.lst hp (DqAll.mono (hid_self _ _) _ _ ap)), c.1, c.2, q _ H (Same.refl H) (.bl _)⟩
    · cases k
  · cases k
theorem opd_notinL : OpD K B (rNotInD K) (inLD true) := fun ρ σ H O x y d e z R a b k Q q => by
  unfold inLD at k
  split at k
  · rename_i ds
    split at k
    · rename_i c
      rw [Bool.bne_true] at k
      cases k
      obtain ⟨p, vs, rfl, hp, ap⟩ := b.list
      have cl := SeqAt.canLay_of_shaped c.2
      have cd := SeqAt.canLay_of_shaped c.1
      have hd : Dq K H x d := by
        rcases a with a | ⟨l, us, es, rfl, rfl, _, h, a⟩ | ⟨l, us, tt, kvs, rfl, rfl, _, h, a⟩
        · exact Dq.mono (hid_self _ _) _ _ a
        · exact .lst (SqL.of h) (DqAll.mono (hid_self _ _) _ _ a)
        · exact dobj_dq h (DObj.mono (hid_self _ _) a)
      exact ⟨d, ds, Dq.toDp d _ cd hd, Dq.toDp (.list ds) _ cl (.lst hp (DqAll.mono (hid_self _ _) _ _ ap)), c.1, c.2, q _ H (Same.refl H) (.bl _)⟩
    · cases k
  · cases k
end
section
variable {X : Cx} {B : Bs} {a b o : Expr} {ta tb : TE} {f f' : En → Option D} {pos apos : Pos}
theorem x_join (ho : XE X B o ta f) (he : XB X B b tb f') (hs : starEach [b] X.env = [(false, eval b X.env)] := by rfl) (hbase : attributeBase o "join" X.env (eval o X.env) = eval o X.env := by rfl) (hline : (apos.endLine == pos.line) = true := by rfl) (hk : X.K = B.K := by rfl) :
    XE X B (.Call (.Attribute o "join" apos) [b] [] pos) (tM1 (rJoin B.K) ta tb) (e2 joinD f f') :=
  ⟨hk ▸ pe_m1 PySem.F.slot_str_join PySem.F.type_str_join mt_join ho.pe he.pe hs hbase hline, de_m1 (fun ρ σ H O x y d e z R a b k => by
    unfold joinD at k
    split at k
    · obtain ⟨ys, h1, k⟩ := bind_some k
      split at k
      · rename_i c
        cases k
        cases a
        obtain ⟨p, vs, rfl, hp, ap⟩ := b.list
        have e := strsOf_some h1
        subst e
        have e := DqAll.strs ap
        subst e
        exact ⟨⟨_, rfl⟩, fun Q q => ⟨_, _, ys, rfl, rfl, .inl hp, c, q _ H (Same.refl H) (.str _)⟩⟩
      · cases k
    · cases k) (fun d e z k => by
    unfold joinD at k
    split at k
    · exact ⟨_, rfl⟩
    · cases k) ho.de he.de⟩
theorem l_split (ho : XE X B o ta f) (he : XE X B b tb f') (hs : starEach [b] X.env = [(false, eval b X.env)] := by rfl) (hbase : attributeBase o "split" X.env (eval o X.env) = eval o X.env := by rfl) (hline : (apos.endLine == pos.line) = true := by rfl) :
    XL X B (.Call (.Attribute o "split" apos) [b] [] pos) (tM1 rSplit ta tb) (e2 splitL f f') :=
  ⟨pe_m1 PySem.F.slot_str_split PySem.F.type_str_split mt_split ho.pe he.pe hs hbase hline, fun ρ σ H O zs R e Q q => by
    obtain ⟨d, h1, e⟩ := bind_some e
    obtain ⟨d2, h2, e⟩ := bind_some e
    unfold splitL at e
    split at e
    · split at e
      · rename_i c
        have e := Option.some.inj e
        subst e
        refine ho.de ρ σ H O _ R h1 _ fun x H1 s1 y => ?_
        cases y
        refine ⟨⟨_, rfl⟩, he.de ρ σ H1 O _ (R.grow s1) h2 _ fun x2 H2 s2 y2 => ?_⟩
        cases y2
        refine ⟨_, _, rfl, rfl, c.1, Nat.le_trans (Nat.add_le_add_right c.2 2) (by decide), fun p hp => ?_⟩
        exact q p _ _ ((s1.trans s2).trans (same_new _ hp)) ((s1.trans s2).free hp) upd_same (DqAll.map (fun x => Dq.str x) _)
      · cases e
    · cases e⟩
end
/-! ### a def with a default, handed owned lists -/
section
variable {X : Cx} {B : Bs} {x : Str} {k n : Nat} {g : List D → Option Rv} {p pos : Pos} {ex : Expr} {es : List Expr} {ta : TA} {a : En → Option (List D)} {c : Int}
theorem bo_len {K : PySem.W.Frag} {H : Hp} {O : List Addr} {vs : List V} {ds : List D} (h : BoAll K H O vs ds) : vs.length = ds.length := by
  induction h with
  | nil => rfl
  | cons _ _ ih => exact congrArg (· + 1) ih
theorem dl_callDB {K : PySem.W.Frag} {E : XK} (hn : ∀ ds, g ds ≠ none → ds.length = n) (h : DAB K B ta a) : DL K B (tCall (spD K n g) [V.int c] E ta) (eCall (fun ds => toL (immG (g (ds ++ [.int c])))) a) := fun ρ σ H O z R e Q q => by
  obtain ⟨ds, h1, e⟩ := bind_some e
  obtain ⟨r, h2, h3⟩ := bind_some e
  obtain ⟨r', h2, h4⟩ := bind_some h2
  split at h4
  · rename_i him
    cases h4
    refine h ρ σ H O ds R h1 _ fun vs H1 s x => ?_
    have R1 := R.grow s
    have hl := bo_len x
    refine ⟨by rw [List.length_append, List.length_singleton, hl]; have := hn _ (by rw [h2]; simp); rw [List.length_append, List.length_singleton] at this; exact this, lent O vs, ds ++ [.int c], r, fun a ha => R1.mu a (lent_sub a ha), (lent_all vs (fun _ h => h) x).append (.one (Dq.int c)), h2, fun v H2 s2 y => ?_⟩
    have R2 := R1.grow s2
    cases r with
    | v d => cases h3
    | l es =>
      have h3 : es = z := Option.some.inj h3
      subst h3
      obtain ⟨l, us, e, b, c, d⟩ := y
      subst e
      refine q l us H2 (s.trans s2) (s.free b) c (DqAll.move (fun a xs h => ?_) _ _ him d)
      rcases h with h | h
      · refine .inl ?_
        have key : ∀ o, hid H2 (l :: lent O vs) a = some o → isMut o = false → hid H2 (l :: O) a = some o := fun o e m => by
          obtain ⟨x1, e⟩ := of_hid e
          rw [hid_out]
          · exact e
          · simp only [List.mem_cons, not_or] at x1 ⊢
            refine ⟨x1.1, fun zz => ?_⟩
            obtain ⟨o', e', m'⟩ := R2.mu a zz
            rw [e] at e'; cases e'
            rw [m] at m'; cases m'
        rcases h with h | ⟨o, h⟩
        · exact .inl (key _ h rfl)
        · exact .inr ⟨o, key _ h rfl⟩
      · exact .inr h
  · cases h4
theorem l_callDB (F : DFd X.prog X.w X.K X.mg X.base k x n g c) (hr : Room k X.A) (ha : XAB X B (ex :: es) ta a) (hg : Gl X x := by rfl) (hdb : (x == ("__debug__" : Str)) = false := by decide) (he : starEach (ex :: es) X.env = (false, eval ex X.env) :: starEach es X.env := by rfl) (hpl : (backTo pos (starEach es X.env)).any (·.1) = false := by rfl) (hk : X.K = B.K := by rfl) :
    XL X B (.Call (.Name x p) (ex :: es) [] pos) (tCall (spD B.K n g) [V.int c] E0 ta) (eCall (fun ds => toL (immG (g (ds ++ [.int c])))) a) := by
  obtain ⟨⟨f, fd, ps, u, F, hm, hkp, hb, hu⟩, hn⟩ := F
  exact ⟨hk ▸ pe_call F hr hg hm hkp hb (.cons hu .nil) pass0 ha.pe hdb he hpl, dl_callDB hn ha.de⟩
end
end Z

set_option Elab.async false
set_option maxRecDepth 100000
set_option maxHeartbeats 4000000
set_option linter.all false
/-! ZF: lists unpacked; list(reversed(..)) -/
namespace Z
open PySem PySem.Spec PyProof.Rows L2
def hUnl (n : Nat) (k : List D → En → Option En) : D → En → Option En := fun d ρ => match d with
  | .list ds => if ds.length = n then k ds ρ else none
  | _ => none
theorem dg_unl {K : PySem.W.Frag} {B : Bs} {gs : TGs} {hs : List D → En → Option En} {n : Nat} (hk : DGs K B gs hs) : DG K B (gUnl K n gs) (hUnl n hs) := fun ρ σ H O v d ρ' R x e Q q => by
  unfold hUnl at e
  split at e
  · split at e
    · rename_i c
      cases x with
      | lst hx ha => exact ⟨_, _, rfl, SqL.mono (hid_self _ _) hx, by rw [ha.length]; exact c, hk ρ σ H O _ _ ρ' R ha e Q q⟩
    · cases e
  · cases e
section
variable {X : Cx} {B : Bs} {es : List Expr} {t : TGs} {hs : List D → En → Option En} {pos : Pos} {n kk : Nat}
theorem g_unl (hc : X.calm = true) (h : XGs X B es t hs) (hn : (assignEach es X.env).length = n := by rfl) (hst : (assignEach es X.env).findIdx? (·.1) = none := by rfl) (hk : X.K = B.K := by rfl) : XG X B (.Tuple es kk pos) (gUnl B.K n t) (hUnl n hs) := ⟨hk ▸ pg_unl hc h.pe hn hst, dg_unl h.de⟩
end
end Z
namespace Z
open PySem PySem.Spec PyProof.Rows L2 RT
open Sem (wp)
section
variable {prog : Program} {w : World} {A : Around} {E : Value → Shared → Prop} {s : Shared}
theorem init_rev {R : Result → Shared → Prop} {it l : Addr} {items : Array Value} (hh : A.handled = none) (hit : s.heap.IsRevIter it l ((items.size : Int) - 1)) (hl : s.heap.IsList l items) (hne : l ≠ it) (hn : items.size ≤ sizeLine)
    (S : Addr) (hS : s.heap.get? S = some { cls := .type "list", data := .seq #[] }) (hSi : S ≠ it) (hSl : S ≠ l)
    (hR : ∀ h' tk acc' c', (∀ b o, b ≠ S → b ≠ it → s.heap.get? b = some o → h'.get? b = some o) → h'.get? S = some { cls := .type "list", dict := none, data := .seq acc' c', slots := #[] } →
      ItemsOf (fun i v => items[items.size - 1 - i]? = some v) acc' items.size → R (.ok (.ret .none)) { s with heap := h', toks := tk }) :
    wpAny (model prog w) A.in1 (Builtin.«list.__init__» ⟨[.ref S, .ref it], []⟩)
      (fun fin s' => match fin with | .done f => R (.ok f) s' | .again c' => c'.quiet = true ∧ codeAny (model prog w) A c' R s') (fun e s' => R (.error e) s') s := by
  show wpAny _ _ (do let old ← Builtin.List.listItems (.ref S); Builtin.List.listUpdate (.ref S) (fun _ => #[]); letGo old.toList.reverse; Builtin.List.listExtendWith (.ref S) (.ref it) .none) _ _ s
  refine wpAny_bind ?_
  unfold Builtin.List.listItems
  refine wpAny_bind (wpAny_seqItems hS rfl (wpAny_pure ?_))
  show wpAny _ _ (updateSeq S (fun _ => #[]) >>= fun _ => letGo (#[] : Array Value).toList.reverse >>= fun _ => Builtin.List.listExtendWith (.ref S) (.ref it) .none) _ _ s
  refine wpAny_bind (wpAny_updateSeq hS rfl ?_)
  have hS₁ := Heap.get?_update_self (Obj.mapSeq (fun _ => (#[] : Array Value))) hS rfl
  have oth : ∀ b o, b ≠ S → s.heap.get? b = some o → (s.heap.update S (Obj.mapSeq (fun _ => (#[] : Array Value)))).get? b = some o :=
    fun b o hb e => (Heap.get?_update_other _ _ (Ne.symm hb)).trans e
  refine wpAny_bind (wpAny_letGo ?_)
  generalize hH : s.heap.update S (Obj.mapSeq (fun _ => (#[] : Array Value))) = h1 at *
  have W := (Walks.listRev (prog := prog) (w := w) (A := A.in1) hh it l hne items).toS
  have hSf : S ∉ [it, l] := by simp only [List.mem_cons, List.not_mem_nil, or_false, not_or]; exact ⟨hSi, hSl⟩
  have hit1 : h1.IsRevIter it l ((items.size : Int) - 1) := hit.at fun o e => oth it o (Ne.symm hSi) e
  have hl1 : h1.IsList l items := by
    obtain ⟨ol, a, b⟩ := hl
    exact ⟨ol, oth l ol (Ne.symm hSl) a, b⟩
  have hT : ({ s with heap := h1 } : Shared).TypeIs (.ref it) "list_reverseiterator" := Heap.IsRevIter.typeIs (s := { s with heap := h1 }) hit1
  have e1 : Builtin.List.listSameRef (.ref S) (.ref it) = false := by simp [Builtin.List.listSameRef, hSi]
  unfold Builtin.List.listExtendWith
  refine wpAny_bind (wpAny_typeOf hT ?_)
  rw [if_neg (by rw [e1]; decide)]
  refine wpAny_bind (wpAny_pyIter_revIter (s := { s with heap := h1 }) hit1 ?_)
  refine wpAny_bind (wpAny_holding ?_)
  unfold Builtin.List.listLengthHint
  refine wpAny_bind (wpAny_specialOf hT nolen_lri ?_)
  show wpAny _ A.in1 (specialOf (Value.ref it) (Str.ofString "__length_hint__") >>= _) _ _ _
  refine wpAny_bind (wpAny_specialOf hT hint_lri ?_)
  generalize hid : ("list_reverseiterator.__length_hint__" : String) = id0
  wp_delta
  rw [show splitId id0 = some ("list_reverseiterator", "__length_hint__") from by subst hid; decide +kernel]
  subst hid
  refine wpAny_bind (wpAny_isInstance (b := true) hT (by rw [isSubtype_type]; kernel_rfl) ?_)
  refine wpAny_pure ?_
  rw [if_neg (by decide)]
  have e0 : ((items.size : Nat) : Int) - 1 - ((0 : Nat) : Int) = (items.size : Int) - 1 := by omega
  refine wpAny_pure ⟨plainId_quiet F.plain_extend_loop _, codeAny_extend_loopS W hn S hSf _ items.size 0 _ #[] _ rfl (Nat.zero_le _) ⟨Nat.zero_le _, by rw [e0]; exact hit1, hl1⟩ hS₁ (ItemsOf.nil _) fun s' acc' c' hm hS' hacc => ?_⟩
  rw [Moved.eq_with hm]
  refine hR s'.heap s'.toks acc' c' (fun b o hb hb2 e => hm.heap b o (fun hmem => ?_) (oth b o hb e)) hS' hacc
  rcases List.mem_cons.mp hmem with e' | hmem
  · exact hb e'
  · exact hb2 (List.mem_singleton.mp hmem)
theorem call_list_rev {it l : Addr} {items : Array Value} {Q : Value → Shared → Prop} (hh : A.handled = none) (hit : s.heap.IsRevIter it l ((items.size : Int) - 1)) (hl : s.heap.IsList l items) (hne : l ≠ it) (hn : items.size ≤ sizeLine)
    (hQ : ∀ h' tk acc' c', (∀ b o, b ≠ it → s.heap.get? b = some o → h'.get? b = some o) →
      h'.get? s.heap.objs.size = some { cls := .type "list", dict := none, data := .seq acc' c', slots := #[] } → ItemsOf (fun i v => items[items.size - 1 - i]? = some v) acc' items.size → Q (.ref s.heap.objs.size) { s with heap := h', toks := tk }) :
    wpAny (model prog w) A (call (.type "list") [.ref it]) Q E s := by
  refine callType_codes (Q₁ := fun obj s₁ => obj = .ref s.heap.objs.size ∧ s₁ = { s with heap := s.heap.push { cls := .type "list", data := .seq #[] } }) F.called_list (F.typeCall_list_1 _) F.entry_list_init
    (code_list_new _ ⟨rfl, rfl⟩) fun obj s₁ h₁ => ?_
  obtain ⟨rfl, rfl⟩ := h₁
  have hS : (s.heap.push { cls := .type "list", data := .seq #[] }).get? s.heap.objs.size = some { cls := .type "list", data := .seq #[] } := Heap.get?_push_size _ rfl
  obtain ⟨oi, hoi, _⟩ := id hit
  obtain ⟨ol, hol, _⟩ := id hl
  refine ⟨⟨_, hS, rfl⟩, F.args_list_init_2 _ _, init_rev (A := A.in1) hh (hit.at fun o e => Heap.get?_push_of_some _ e) (hl.push _) hne hn _ hS (Nat.ne_of_gt (Heap.lt_size hoi)) (Nat.ne_of_gt (Heap.lt_size hol)) fun h' tk acc' c' hk hS' hacc => ?_⟩
  exact ⟨rfl, hQ h' tk acc' c' (fun b o hb e => hk b o (Nat.ne_of_lt (Heap.lt_size e)) hb (Heap.get?_push_of_some _ e)) hS' hacc⟩
end
def tLstRev (K : PySem.W.Frag) (te : TE) : TE := fun σ H Q => te σ H fun v H1 => ∃ (a : Addr) (xs : List V), v = .ref a ∧ SqL K H1 a xs ∧ ∀ q, H1 q = none → Q (.ref q) (upd H1 q (.lst xs.reverse))
section
variable {X : Cx}
theorem pe_lstRev {e : Expr} {te : TE} {p p2 pos pos2 : Pos} (hc : X.calm = true) (hg : Gl X "list") (hm : X.mg "list" = none) (hg2 : Gl X "reversed") (hm2 : X.mg "reversed" = none) (he : PE X e te)
    (hs : starEach [e] X.env = (false, eval e X.env) :: starEach [] X.env := by rfl)
    (hs2 : starEach [.Call (.Name "reversed" p2) [e] [] pos2] X.env = (false, eval (.Call (.Name "reversed" p2) [e] [] pos2) X.env) :: starEach [] X.env := by rfl) :
    PE X (.Call (.Name "list" p) [.Call (.Name "reversed" p2) [e] [] pos2] [] pos) (tLstRev X.K te) := by
  refine ⟨fun pins s σ H Q I h => ?_⟩
  refine Call_ (ld_blt I hg hm boot_list (PyProof.Rows.callWith_type1 (args_cons (Call_ (ld_blt I hg2 hm2 PyProof.Rows.boot_reversed (PyProof.Rows.callWith_type1 (args_cons (thn (he.run pins s σ H _ I h) fun u s1 ⟨v, H1, I1, r1, q1⟩ => args_nil ?_) hs) hs rfl))) hs2) hs2 rfl))
  obtain ⟨a, xs, ev, hq, q⟩ := q1
  subst ev
  obtain rfl : u = Value.ref a := r1
  obtain ⟨its, rv, p', hz⟩ := I1.list hq
  refine call_reversed_list p'.isList (args_nil ?_)
  have k0 : ∀ b o, s1.heap.get? b = some o → (s1.heap.push (revObj a ((its.toArray.size : Int) - 1))).get? b = some o := fun b o e => Heap.get?_push_of_some _ e
  have I2 : Inv X pins σ H1 { s1 with heap := s1.heap.push (revObj a ((its.toArray.size : Int) - 1)) } := I1.kept (t' := s1.toks) k0
  obtain ⟨f0, f1, f2, f3, f4, f5⟩ := I1.fpOk (H' := H1) (b := s1.heap.objs.size) (Nat.le_refl _) (I1.hok.fresh (Nat.le_refl _))
  have hl := p'.isList
  obtain ⟨ol, hol, _⟩ := id hl
  have hne : a ≠ s1.heap.objs.size := Nat.ne_of_lt (Heap.lt_size hol)
  have hn : its.toArray.size ≤ sizeLine := by rw [List.size_toArray, ← rv.length]; exact hz
  refine call_list_rev (s := { s1 with heap := s1.heap.push (revObj a ((its.toArray.size : Int) - 1)) }) (I1.ok.hd hc) ⟨_, Heap.get?_push_size _ rfl, rfl, rfl⟩ (hl.push _) hne hn fun h' tk acc c' hk e' hi => ?_
  have hsz : (s1.heap.push (revObj a ((its.toArray.size : Int) - 1))).objs.size = s1.heap.objs.size + 1 := Heap.size_push _ _
  have hk' : ∀ b o, s1.heap.get? b = some o → h'.get? b = some o := fun b o e => hk b o (Nat.ne_of_lt (Heap.lt_size e)) (k0 b o e)
  have e' : h'.get? (s1.heap.push (revObj a ((its.toArray.size : Int) - 1))).objs.size = _ := e'
  show EP X pins σ Q (.ref (s1.heap.push (revObj a ((its.toArray.size : Int) - 1))).objs.size) _
  rw [hsz] at e' ⊢
  refine ⟨.ref (s1.heap.objs.size + 1), upd H1 (s1.heap.objs.size + 1) (.lst xs.reverse), I1.laid hk' (Nat.le_succ _) (show ObjOk X.prog X.w _ _ _ (.lst xs.reverse) from ⟨by rw [List.length_reverse]; exact hz, acc.toList, c', vals_rev rv hi, ?_⟩), rfl, q _ (I1.hok.fresh (Nat.le_succ _))⟩
  rw [Array.toArray_toList]; exact e'
end
def revL (f : En → Option (List D)) : En → Option (List D) := fun ρ => (f ρ).map List.reverse
theorem dl_rev {K : PySem.W.Frag} {B : Bs} {te : TE} {f : En → Option (List D)} (h : DM K B te f) : DL K B (tLstRev K te) (revL f) := fun ρ σ H O zs R e Q q => by
  obtain ⟨ds, h1, h2⟩ := map_some e
  subst h2
  refine h ρ σ H O ds R h1 _ fun l vs H1 s1 c1 a1 => ⟨l, vs, rfl, SqL.of c1, fun p hp => ?_⟩
  exact q p _ _ (s1.trans (same_new _ hp)) (s1.free hp) upd_same (new_lst hp a1.reverse)
theorem l_rev {X : Cx} {B : Bs} {e : Expr} {te : TE} {f : En → Option (List D)} {p p2 pos pos2 : Pos} (hc : X.calm = true) (hm : X.mg "list" = none) (hm2 : X.mg "reversed" = none) (h : XM X B e te f) (hg : Gl X "list" := by rfl) (hg2 : Gl X "reversed" := by rfl) (hs : starEach [e] X.env = (false, eval e X.env) :: starEach [] X.env := by rfl)
    (hs2 : starEach [.Call (.Name "reversed" p2) [e] [] pos2] X.env = (false, eval (.Call (.Name "reversed" p2) [e] [] pos2) X.env) :: starEach [] X.env := by rfl) (hk : X.K = B.K := by rfl) :
    XL X B (.Call (.Name "list" p) [.Call (.Name "reversed" p2) [e] [] pos2] [] pos) (tLstRev B.K te) (revL f) := ⟨hk ▸ pe_lstRev hc hg hm hg2 hm2 h.pe hs hs2, dl_rev h.de⟩
/-! ### an owned list, read only for one expression -/
def fzE (i : Nat) (f : En → Option D) : En → Option D := fun ρ => match ρ[i]? with
  | some (some (.ow ds)) => (f (ρ.set i (some (.lr ds)))).bind fun d => if imm d = true then some d else none
  | _ => f ρ
def fzT (i : Nat) (c : En → Option Bool) : En → Option Bool := fun ρ => match ρ[i]? with
  | some (some (.ow ds)) => c (ρ.set i (some (.lr ds)))
  | _ => c ρ
def fzL (i : Nat) (f : En → Option (List D)) : En → Option (List D) := fun ρ => match ρ[i]? with
  | some (some (.ow ds)) => (f (ρ.set i (some (.lr ds)))).bind fun zs => if immAll zs = true then some zs else none
  | _ => f ρ
section
variable {K : PySem.W.Frag} {B : Bs} {i : Nat}
theorem de_fz {t : TE} {f : En → Option D} (hL : B.L = []) (h : DE K B t f) : DE K B t (fzE i f) := fun ρ σ H O d R e Q q => by
  unfold fzE at e
  split at e
  · rename_i ds hs
    obtain ⟨O', R', g⟩ := R.freeze hL hs
    obtain ⟨d', h1, e⟩ := bind_some e
    split at e
    · rename_i hi
      have e := Option.some.inj e
      subst e
      exact h _ σ H O' d' R' h1 Q fun v H' s x => q v H' s (Dq.move ((R.grow s).tups O') d' v hi x)
    · cases e
  · exact h ρ σ H O d R e Q q
theorem dt_fz {t : TT} {c : En → Option Bool} (hL : B.L = []) (h : DT K B t c) : DT K B t (fzT i c) := fun ρ σ H O b R e Q q => by
  unfold fzT at e
  split at e
  · rename_i ds hs
    obtain ⟨O', R', g⟩ := R.freeze hL hs
    exact h _ σ H O' b R' e Q q
  · exact h ρ σ H O b R e Q q
theorem dl_fz {t : TE} {f : En → Option (List D)} (hL : B.L = []) (h : DL K B t f) : DL K B t (fzL i f) := fun ρ σ H O zs R e Q q => by
  unfold fzL at e
  split at e
  · rename_i ds hs
    obtain ⟨O', R', g⟩ := R.freeze hL hs
    obtain ⟨zs', h1, e⟩ := bind_some e
    split at e
    · rename_i hi
      have e := Option.some.inj e
      subst e
      refine h _ σ H O' zs' R' h1 Q fun l vs H' s n hl a => q l vs H' s n hl ?_
      obtain ⟨R1, _⟩ := R.own1 s n hl rfl
      exact DqAll.move (R1.tups (l :: O')) zs' vs hi a
    · cases e
  · exact h ρ σ H O zs R e Q q
end
section
variable {X : Cx} {B : Bs} {ex : Expr}
theorem x_fz (i : Nat) {t : TE} {f : En → Option D} (h : XE X B ex t f) (hL : B.L = [] := by rfl) : XE X B ex t (fzE i f) := ⟨h.pe, de_fz hL h.de⟩
theorem t_fz (i : Nat) {t : TT} {c : En → Option Bool} (h : XT X B ex t c) (hL : B.L = [] := by rfl) : XT X B ex t (fzT i c) := ⟨h.pe, dt_fz hL h.de⟩
theorem l_fz (i : Nat) {t : TE} {f : En → Option (List D)} (h : XL X B ex t f) (hL : B.L = [] := by rfl) : XL X B ex t (fzL i f) := ⟨h.pe, dl_fz hL h.de⟩
end
end Z

set_option Elab.async false
set_option maxRecDepth 100000
set_option maxHeartbeats 4000000
set_option linter.all false
/-! ZG: dicts, keys ints and texts, or tuples of these -/
namespace Z
open PySem PySem.Spec PyProof.Rows L2
/-! ### keys -/
def toK : D → Option Key
  | .int i => some (.inl i)
  | .str x => some (.inr x)
  | _ => none
def toKs : List D → Option (List Key)
  | [] => some []
  | d :: ds => (toK d).bind fun k => (toKs ds).map (k :: ·)
abbrev Ky := Key ⊕ List Key
def toKy : D → Option Ky
  | .tuple ds => (toKs ds).map .inr
  | d => (toK d).map .inl
def kyD : Ky → D
  | .inl k => kD k
  | .inr ks => .tuple (ks.map kD)
theorem toK_kD : ∀ k : Key, toK (kD k) = some k
  | .inl _ => rfl
  | .inr _ => rfl
theorem toKs_kD : ∀ ks : List Key, toKs (ks.map kD) = some ks
  | [] => rfl
  | k :: ks => by
    show (toK (kD k)).bind (fun k => (toKs (ks.map kD)).map (k :: ·)) = _
    rw [toK_kD, toKs_kD ks]; rfl
theorem toKy_kyD : ∀ k : Ky, toKy (kyD k) = some k
  | .inl (.inl _) => rfl
  | .inl (.inr _) => rfl
  | .inr ks => by show (toKs (ks.map kD)).map Sum.inr = _; rw [toKs_kD]; rfl
theorem kD_of {d : D} {k : Key} (h : toK d = some k) : d = kD k := by
  unfold toK at h
  split at h
  · cases h; rfl
  · cases h; rfl
  · cases h
theorem kDs_of : ∀ {ds : List D} {ks : List Key}, toKs ds = some ks → ds = ks.map kD
  | [], ks, h => by cases h; rfl
  | d :: ds, ks, h => by
    have h : (toK d).bind (fun k => (toKs ds).map (k :: ·)) = some ks := h
    obtain ⟨k, h1, h2⟩ := bind_some h
    obtain ⟨r, h3, h4⟩ := map_some h2
    subst h4
    rw [kD_of h1, kDs_of h3]; rfl
def look (k : Ky) (ds : List (D × D)) : Option D := (ds.find? fun p => decide (toKy p.1 = some k)).map (·.2)
def isT (ds : List (D × D)) : Bool := ds.any fun p => match p.1 with | .none => true | _ => false
def putD (k : Ky) (d : D) (ds : List (D × D)) : List (D × D) :=
  if (ds.any fun p => decide (toKy p.1 = some k)) = true then ds.map (fun p => if toKy p.1 = some k then (p.1, d) else p) else ds ++ [(kyD k, d)]
def kindK : Ky → Bool
  | .inl _ => false
  | .inr _ => true
def dLook (d : D) (k : Ky) : Option (Option D) := match d with
  | .dict ds => if isT ds = kindK k then some (look k ds) else none
  | _ => none
theorem look_nil {k : Ky} : look k [] = none := rfl
theorem look_pos {p : D × D} {ds : List (D × D)} {k : Ky} (e : toKy p.1 = some k) : look k (p :: ds) = some p.2 := by simp [look, List.find?_cons, e]
theorem look_neg {p : D × D} {ds : List (D × D)} {k : Ky} (e : ¬ toKy p.1 = some k) : look k (p :: ds) = look k ds := by simp [look, List.find?_cons, e]
section
variable {K : PySem.W.Frag} {G : Hp}
/-- a reading of both sides -/
def ValR (K : PySem.W.Frag) (G : Hp) (o : Option V) (r : Option D) : Prop := (o = none ∧ r = none) ∨ ∃ v d, o = some v ∧ r = some d ∧ Dq K G v d
theorem kv_isT : ∀ {vs : List (Key × V)} {ds : List (D × D)}, DqKv K G vs ds → isT ds = false
  | _, _, .nil => rfl
  | (k, v) :: _, _, .cons (d := d) (ds := ds) _ t => by
    have ih := kv_isT t
    cases k <;> exact ih
theorem tv_isT : ∀ {vs : List (List Key × V)} {ds : List (D × D)}, DqTv K G vs ds → isT ds = true
  | _, _, .nil => rfl
  | _, _, .cons _ t => by
    have ih := tv_isT t
    exact ih
theorem kv_look (k : Key) : ∀ {vs : List (Key × V)} {ds : List (D × D)}, DqKv K G vs ds → ValR K G (valV vs k) (look (.inl k) ds)
  | _, _, .nil => .inl ⟨rfl, rfl⟩
  | (k', v) :: vs, _, .cons (d := d) (ds := ds) h t => by
    have e0 : toKy (kD k') = some (.inl k') := toKy_kyD (.inl k')
    by_cases e : k' = k
    · subst e
      rw [valV_pos (p := (k', v)) rfl, look_pos (p := (kD k', d)) e0]
      exact .inr ⟨v, d, rfl, rfl, h⟩
    · rw [valV_neg (p := (k', v)) e, look_neg (p := (kD k', d)) (fun z => by rw [e0] at z; injection z with z; injection z with z; exact e z)]
      exact kv_look k t
theorem tv_look (k : List Key) : ∀ {vs : List (List Key × V)} {ds : List (D × D)}, DqTv K G vs ds → ValR K G (valV vs k) (look (.inr k) ds)
  | _, _, .nil => .inl ⟨rfl, rfl⟩
  | (k', v) :: vs, _, .cons (d := d) (ds := ds) h t => by
    have e0 : toKy (.tuple (k'.map kD)) = some (.inr k') := toKy_kyD (.inr k')
    by_cases e : k' = k
    · subst e
      rw [valV_pos (p := (k', v)) rfl, look_pos (p := (.tuple (k'.map kD), d)) e0]
      exact .inr ⟨v, d, rfl, rfl, h⟩
    · rw [valV_neg (p := (k', v)) e, look_neg (p := (.tuple (k'.map kD), d)) (fun z => by rw [e0] at z; injection z with z; injection z with z; exact e z)]
      exact tv_look k t
theorem isT_tails {tt : Bool} {ds : List (D × D)} (h : isT ds = false) : isT (tails tt ds) = tt := by
  cases tt with
  | false => exact h
  | true => show isT (ds ++ [mark]) = true; unfold isT; rw [List.any_append]; simp [mark]
theorem look_mark (k : Ky) : ∀ ds : List (D × D), look k (ds ++ [mark]) = look k ds
  | [] => rfl
  | p :: ds => by
    by_cases e : toKy p.1 = some k
    · rw [List.cons_append, look_pos e, look_pos e]
    · rw [List.cons_append, look_neg e, look_neg e, look_mark k ds]
theorem look_tails (k : Ky) (tt : Bool) (ds : List (D × D)) : look k (tails tt ds) = look k ds := by
  cases tt with
  | false => rfl
  | true => exact look_mark k ds
/-! putting -/
theorem kv_app : ∀ {vs : List (Key × V)} {ds : List (D × D)} {k : Key} {v : V} {d : D}, DqKv K G vs ds → Dq K G v d → DqKv K G (vs ++ [(k, v)]) (ds ++ [(kD k, d)])
  | _, _, _, _, _, .nil, h => .cons h .nil
  | _, _, _, _, _, .cons a t, h => .cons a (kv_app t h)
theorem kv_map {k : Key} {v : V} {d : D} (h : Dq K G v d) : ∀ {vs : List (Key × V)} {ds : List (D × D)}, DqKv K G vs ds → DqKv K G (vs.map fun kv => if kv.1 = k then (kv.1, v) else kv) (ds.map fun p => if toKy p.1 = some (.inl k) then (p.1, d) else p)
  | _, _, .nil => .nil
  | (k', v') :: vs, _, .cons (d := d') (ds := ds) a t => by
    have e0 : toKy (kD k') = some (.inl k') := toKy_kyD (.inl k')
    rw [List.map_cons, List.map_cons]
    by_cases e : k' = k
    · subst e
      rw [if_pos rfl, if_pos e0]
      exact .cons h (kv_map h t)
    · rw [if_neg e, if_neg (fun z => by rw [e0] at z; injection z with z; injection z with z; exact e z)]
      exact .cons a (kv_map h t)
theorem kv_any {k : Key} : ∀ {vs : List (Key × V)} {ds : List (D × D)}, DqKv K G vs ds → (vs.any fun kv => decide (kv.1 = k)) = (ds.any fun p => decide (toKy p.1 = some (.inl k)))
  | _, _, .nil => rfl
  | (k', v') :: vs, _, .cons (d := d') (ds := ds) a t => by
    have e0 : toKy (kD k') = some (.inl k') := toKy_kyD (.inl k')
    rw [List.any_cons, List.any_cons, kv_any t]
    by_cases e : k' = k
    · rw [decide_eq_true e, decide_eq_true (by rw [e0, e])]
    · rw [decide_eq_false e, decide_eq_false (fun z => by rw [e0] at z; injection z with z; injection z with z; exact e z)]
theorem kv_put {k : Key} {v : V} {d : D} (h : Dq K G v d) {vs : List (Key × V)} {ds : List (D × D)} (t : DqKv K G vs ds) : DqKv K G (putK vs k v) (putD (.inl k) d ds) := by
  unfold putK putD
  rw [kv_any t]
  split
  · exact kv_map h t
  · exact kv_app t h
theorem tv_app : ∀ {vs : List (List Key × V)} {ds : List (D × D)} {k : List Key} {v : V} {d : D}, DqTv K G vs (ds ++ [mark]) → Dq K G v d → DqTv K G (vs ++ [(k, v)]) (ds ++ [(.tuple (k.map kD), d)] ++ [mark])
  | vs, [], k, v, d, t, h => by
    cases t
    exact .cons h .nil
  | vs, p :: ds, k, v, d, t, h => by
    have t : DqTv K G vs (p :: (ds ++ [mark])) := t
    generalize hz : ds ++ [mark] = zs at t
    cases t with
    | nil => exact absurd hz (by simp)
    | cons a t =>
      subst hz
      exact .cons a (tv_app t h)
theorem tv_map {k : List Key} {v : V} {d : D} (h : Dq K G v d) : ∀ {vs : List (List Key × V)} {ds : List (D × D)}, DqTv K G vs (ds ++ [mark]) → DqTv K G (vs.map fun kv => if kv.1 = k then (kv.1, v) else kv) ((ds.map fun p => if toKy p.1 = some (.inr k) then (p.1, d) else p) ++ [mark])
  | vs, [], t => by cases t; exact .nil
  | vs, p :: ds, t => by
    have t : DqTv K G vs (p :: (ds ++ [mark])) := t
    generalize hz : ds ++ [mark] = zs at t
    cases t with
    | nil => exact absurd hz (by simp)
    | @cons k' v' vs d' _ a t =>
      subst hz
      have e0 : toKy (.tuple (k'.map kD)) = some (.inr k') := toKy_kyD (.inr k')
      rw [List.map_cons, List.map_cons, List.cons_append]
      by_cases e : k' = k
      · subst e
        rw [if_pos rfl, if_pos e0]
        exact .cons h (tv_map h t)
      · rw [if_neg e, if_neg (fun z => by rw [e0] at z; injection z with z; injection z with z; exact e z)]
        exact .cons a (tv_map h t)
theorem tv_any {k : List Key} : ∀ {vs : List (List Key × V)} {ds : List (D × D)}, DqTv K G vs (ds ++ [mark]) → (vs.any fun kv => decide (kv.1 = k)) = (ds.any fun p => decide (toKy p.1 = some (.inr k)))
  | vs, [], t => by cases t; rfl
  | vs, p :: ds, t => by
    have t : DqTv K G vs (p :: (ds ++ [mark])) := t
    generalize hz : ds ++ [mark] = zs at t
    cases t with
    | nil => exact absurd hz (by simp)
    | @cons k' v' vs d' _ a t =>
      subst hz
      have e0 : toKy (.tuple (k'.map kD)) = some (.inr k') := toKy_kyD (.inr k')
      rw [List.any_cons, List.any_cons, tv_any t]
      by_cases e : k' = k
      · rw [decide_eq_true e, decide_eq_true (by rw [e0, e])]
      · rw [decide_eq_false e, decide_eq_false (fun z => by rw [e0] at z; injection z with z; injection z with z; exact e z)]
theorem tv_put {k : List Key} {v : V} {d : D} (h : Dq K G v d) {vs : List (List Key × V)} {ds : List (D × D)} (t : DqTv K G vs (ds ++ [mark])) : DqTv K G (putK vs k v) (putD (.inr k) d ds ++ [mark]) := by
  unfold putK putD
  rw [tv_any t]
  split
  · exact tv_map h t
  · exact tv_app t h
theorem kv_len : ∀ {vs : List (Key × V)} {ds : List (D × D)}, DqKv K G vs ds → vs.length = ds.length
  | _, _, .nil => rfl
  | _, _, .cons _ t => congrArg (· + 1) (kv_len t)
theorem tv_len : ∀ {vs : List (List Key × V)} {ds : List (D × D)}, DqTv K G vs ds → vs.length + 1 = ds.length
  | _, _, .nil => rfl
  | _, _, .cons _ t => congrArg (· + 1) (tv_len t)
end
section
variable {K : PySem.W.Frag} {B : Bs} {ρ : En} {σ : L2.St} {H H' : Hp} {O : List Addr}
theorem RS.setSV (R : RS K B ρ σ H O) {i : Nat} {l : Addr} {s0 : SV} (hs0 : SOk K B.O0 H O (.ref l) s0)
    (hpin : ∀ j l', B.pin = some (j, l') → (σ.set i (some (V.ref l)))[j]? = some (some (V.ref l'))) (no : ∀ (j : Nat) s, ρ[j]? = some (some s) → s.owned = true → i ≠ j → σ[j]? = some (some (V.ref l)) → False) : RS K B (ρ.set i (some s0)) (σ.set i (some (.ref l))) H O where
  len := by rw [List.length_set, List.length_set]; exact R.len
  slot := fun j s e => by
    by_cases hj : i = j
    · subst hj
      by_cases hi : i < ρ.length
      · rw [List.getElem?_set_self hi] at e
        have e := Option.some.inj (Option.some.inj e)
        subst e
        exact ⟨_, List.getElem?_set_self (by rw [← R.len]; exact hi), hs0⟩
      · rw [List.getElem?_eq_none (by rw [List.length_set]; omega)] at e; cases e
    · rw [List.getElem?_set_ne hj] at e
      obtain ⟨u, a, b⟩ := R.slot j s e
      exact ⟨u, by rw [List.getElem?_set_ne hj]; exact a, b⟩
  uniq := fun j k s s' l' hjk e1 e2 o1 o2 z1 z2 => by
    have self : ∀ {s : SV} {l' : Addr}, (σ.set i (some (V.ref l)))[i]? = some (some (V.ref l')) → l' = l := fun {s l'} z => by
      by_cases hi : i < σ.length
      · rw [List.getElem?_set_self hi] at z
        cases z; rfl
      · rw [List.getElem?_eq_none (by rw [List.length_set]; omega)] at z; cases z
    by_cases hj : i = j
    · subst hj
      have e := self (s := s) z1
      subst e
      rw [List.getElem?_set_ne hjk] at e2 z2
      exact no k s' e2 o2 hjk z2
    · rw [List.getElem?_set_ne hj] at e1 z1
      by_cases hk : i = k
      · subst hk
        have e := self (s := s) z2
        subst e
        exact no j s e1 o1 hj z1
      · rw [List.getElem?_set_ne hk] at e2 z2
        exact R.uniq j k s s' l' hjk e1 e2 o1 o2 z1 z2
  same := R.same
  own := R.own
  mu := R.mu
  sub0 := R.sub0
  lo := R.lo
  pin := hpin
theorem RS.writeK (R : RS K B ρ σ H O) {i : Nat} {tt : Bool} {ds ds' : List (D × D)} {l : Addr} {o' : HO} (mo : isMut o' = true) (e : ρ[i]? = some (some (.oK tt ds))) (es : σ[i]? = some (some (.ref l))) (ha : DObj K (hid H O) tt o' ds') : RS K B (ρ.set i (some (.oK tt ds'))) σ (upd H l o') O := by
  obtain ⟨v, e1, l', vs, rfl, hO, h0, hl, _⟩ := R.slot i _ e
  rw [es] at e1
  cases e1
  have hid_eq := hid_write (H := H) (O := O) (l := l) o' hO
  have ne : ∀ a ∈ O, a ≠ l → upd H l o' a = H a := fun a _ h => upd_ne h
  have R1 : RS K B (ρ.set i none) σ (upd H l o') O := {
    len := by rw [List.length_set]; exact R.len
    slot := fun j s ej => by
      have hj : i ≠ j := fun hj => by
        subst hj
        by_cases hi : i < ρ.length
        · rw [List.getElem?_set_self hi] at ej; cases ej
        · rw [List.getElem?_eq_none (by rw [List.length_set]; omega)] at ej; cases ej
      rw [List.getElem?_set_ne hj] at ej
      obtain ⟨u, a, b⟩ := R.slot j s ej
      refine ⟨u, a, ?_⟩
      have nl : ∀ l2, u = .ref l2 → s.owned = true → l2 ≠ l := fun l2 eu ow z => by
        subst eu z
        exact R.uniq i j _ _ _ hj e ej rfl ow es a
      cases s with
      | ro d => show Dq K (hid _ O) u d; rw [hid_eq]; exact b
      | ow es' =>
        obtain ⟨l2, vs2, eu, b1, b2, b3, b4⟩ := b
        exact ⟨l2, vs2, eu, b1, b2, by rw [upd_ne (nl l2 eu rfl)]; exact b3, by rw [hid_eq]; exact b4⟩
      | oK tt kvs =>
        obtain ⟨l2, vs2, eu, b1, b2, b3, b4⟩ := b
        exact ⟨l2, vs2, eu, b1, b2, by rw [upd_ne (nl l2 eu rfl)]; exact b3, by rw [hid_eq]; exact b4⟩
      | lr es' =>
        obtain ⟨l2, vs2, eu, b3, b4⟩ := b
        exact ⟨l2, vs2, eu, by rw [hid_eq]; exact b3, by rw [hid_eq]; exact b4⟩
      | xc nm at_ =>
        obtain ⟨a9, d9, C9, u9, f1, f2, f3, f4, f5⟩ := b
        exact ⟨a9, d9, C9, u9, f1, by rw [hid_eq]; exact f2, f3, by rw [hid_eq]; exact f4, by rw [hid_eq]; exact f5⟩
    uniq := fun j k s s' l' hjk e1 e2 o1 o2 z1 z2 => by
      have cut : ∀ {j : Nat} {s : SV}, (ρ.set i none)[j]? = some (some s) → i ≠ j := fun {j s} ej hj => by
        subst hj
        by_cases hi : i < ρ.length
        · rw [List.getElem?_set_self hi] at ej; cases ej
        · rw [List.getElem?_eq_none (by rw [List.length_set]; omega)] at ej; cases ej
      have n1 := cut e1
      have n2 := cut e2
      rw [List.getElem?_set_ne n1] at e1
      rw [List.getElem?_set_ne n2] at e2
      exact R.uniq j k s s' l' hjk e1 e2 o1 o2 z1 z2
    same := fun a o hL h => by
      have : a ≠ l := fun z => by
        subst z
        rcases R.own a hO with q | q | q
        · exact h0 q
        · exact hL q
        · rw [q] at h; cases h
      rw [upd_ne this]; exact R.same a o hL h
    own := R.own
    mu := fun a ha => by
      by_cases z : a = l
      · subst z; exact ⟨_, upd_same, mo⟩
      · rw [upd_ne z]; exact R.mu a ha
    sub0 := R.sub0
    lo := R.lo
    pin := R.pin }
  have hsig : σ.set i (some (.ref l)) = σ := by
    apply List.ext_getElem?
    intro j
    by_cases hj : i = j
    · subst hj
      rw [List.getElem?_set_self (by
        have := (List.getElem?_eq_some_iff.mp es).1; exact this), es]
    · rw [List.getElem?_set_ne hj]
  have R2 := R1.setSV (i := i) (s0 := .oK tt ds') ⟨l, o', rfl, hO, h0, upd_same, by rw [hid_eq]; exact ha⟩ (fun j l' e => by rw [hsig]; exact R.pin j l' e) fun j s ej ow hj z => by
    rw [List.getElem?_set_ne hj] at ej
    exact R.uniq i j _ _ _ hj e ej rfl ow es z
  have hset : (ρ.set i none).set i (some (.oK tt ds')) = ρ.set i (some (.oK tt ds')) := List.set_set ..
  rw [hset, hsig] at R2
  exact R2
theorem RS.freezeK (R : RS K B ρ σ H O) (hL : B.L = []) {i : Nat} (hp : free B i = true) {tt : Bool} {ds : List (D × D)} (e : ρ[i]? = some (some (.oK tt ds))) : ∃ O', RS K B (ρ.set i (some (.ro (.dict (tails tt ds))))) σ H O' ∧ Same (hid H O) (hid H O') := by
  obtain ⟨v, e1, l, vs, rfl, hO, h0, hl, ha⟩ := R.slot i _ e
  have g : Same (hid H O) (hid H (O.filter fun a => decide (a ≠ l))) := hid_less fun a h => (List.mem_filter.mp h).1
  have inO : ∀ {a}, a ∈ O → a ≠ l → a ∈ O.filter fun a => decide (a ≠ l) := fun h n => List.mem_filter.mpr ⟨h, by simpa using n⟩
  refine ⟨O.filter fun a => decide (a ≠ l), ?_, g⟩
  have hsig : σ.set i (some (.ref l)) = σ := by
    apply List.ext_getElem?
    intro j
    by_cases hj : i = j
    · subst hj
      rw [List.getElem?_set_self (List.getElem?_eq_some_iff.mp e1).1, e1]
    · rw [List.getElem?_set_ne hj]
  have R1 : RS K B (ρ.set i none) σ H (O.filter fun a => decide (a ≠ l)) := {
    len := by rw [List.length_set]; exact R.len
    slot := fun j s ej => by
      have hj : i ≠ j := fun hj => by
        subst hj
        by_cases hi : i < ρ.length
        · rw [List.getElem?_set_self hi] at ej; cases ej
        · rw [List.getElem?_eq_none (by rw [List.length_set]; omega)] at ej; cases ej
      rw [List.getElem?_set_ne hj] at ej
      obtain ⟨u, a, b⟩ := R.slot j s ej
      refine ⟨u, a, ?_⟩
      have nl : ∀ l2, u = .ref l2 → s.owned = true → l2 ≠ l := fun l2 eu ow z => by
        subst eu z
        exact R.uniq i j _ _ _ hj e ej rfl ow e1 a
      cases s with
      | ro d => exact Dq.mono g _ _ b
      | ow es' =>
        obtain ⟨l2, vs2, eu, b1, b2, b3, b4⟩ := b
        exact ⟨l2, vs2, eu, inO b1 (nl l2 eu rfl), b2, b3, DqAll.mono g _ _ b4⟩
      | oK tt kvs =>
        obtain ⟨l2, vs2, eu, b1, b2, b3, b4⟩ := b
        exact ⟨l2, vs2, eu, inO b1 (nl l2 eu rfl), b2, b3, DObj.mono g b4⟩
      | lr es' =>
        obtain ⟨l2, vs2, eu, b3, b4⟩ := b
        exact ⟨l2, vs2, eu, g _ _ b3, DqAll.mono g _ _ b4⟩
      | xc nm at_ =>
        obtain ⟨a9, d9, C9, u9, f1, f2, f3, f4, f5⟩ := b
        exact ⟨a9, d9, C9, u9, f1, g _ _ f2, f3, g _ _ f4, Dq.mono g _ _ f5⟩
    uniq := fun j k s s' l' hjk e1 e2 o1 o2 z1 z2 => by
      have cut : ∀ {j : Nat} {s : SV}, (ρ.set i none)[j]? = some (some s) → i ≠ j := fun {j s} ej hj => by
        subst hj
        by_cases hi : i < ρ.length
        · rw [List.getElem?_set_self hi] at ej; cases ej
        · rw [List.getElem?_eq_none (by rw [List.length_set]; omega)] at ej; cases ej
      have n1 := cut e1
      have n2 := cut e2
      rw [List.getElem?_set_ne n1] at e1
      rw [List.getElem?_set_ne n2] at e2
      exact R.uniq j k s s' l' hjk e1 e2 o1 o2 z1 z2
    same := R.same
    own := fun a ha => R.own a (List.mem_filter.mp ha).1
    mu := fun a ha => R.mu a (List.mem_filter.mp ha).1
    sub0 := fun a ha => by
      obtain ⟨x, y, z⟩ := R.sub0 a ha
      exact ⟨inO x fun q => h0 (by rw [← q]; exact ha), y, z⟩
    lo := fun a ha => by rw [hL] at ha; cases ha
    pin := R.pin }
  have R2 := R1.setRo (i := i) hp (v := .ref l) (d := .dict (tails tt ds)) (dobj_dq (by rw [hid_out (by simp)]; exact hl) (DObj.mono g ha))
  rw [hsig, List.set_set] at R2
  exact R2
end
/-! ### keys that are read -/
def KyV (H : Hp) (v : V) : Ky → Prop
  | .inl k => v = kV k
  | .inr ks => ∃ b, v = .ref b ∧ H b = some (.tup (ks.map kV))
def DKy (K : PySem.W.Frag) (B : Bs) (t : TE) (f : En → Option Ky) : Prop := ∀ ρ σ H O k, RS K B ρ σ H O → f ρ = some k → ∀ Q : VK, (∀ v H', Same H H' → KyV H' v k → Q v H') → t σ H Q
structure XKy (X : Cx) (B : Bs) (e : Expr) (t : TE) (f : En → Option Ky) : Prop where
  pe : PE X e t
  de : DKy B.K B t f
def kyE (f : En → Option D) : En → Option Ky := fun ρ => (f ρ).bind fun d => (toK d).map .inl
def kyT (f : En → Option (List D)) : En → Option Ky := fun ρ => (f ρ).bind fun ds => if ds.length ≤ 1000000 then (toKs ds).map .inr else none
section
variable {K : PySem.W.Frag} {B : Bs} {te ty tx : TE} {ta : TA} {f g : En → Option D} {fk : En → Option Ky} {fl : En → Option (List D)}
theorem dq_key {G : Hp} {v : V} {d : D} {k : Key} (h : Dq K G v d) (e : toK d = some k) : v = kV k := by
  have e := kD_of e
  subst e
  cases k with
  | inl i => cases h; rfl
  | inr x => cases h; rfl
theorem dq_keys {G : Hp} : ∀ {vs : List V} {ds : List D} {ks : List Key}, DqAll K G vs ds → toKs ds = some ks → vs = ks.map kV
  | [], [], ks, .nil, e => by cases e; rfl
  | v :: vs, d :: ds, ks, .cons h t, e => by
    have e : (toK d).bind (fun k => (toKs ds).map (k :: ·)) = some ks := e
    obtain ⟨k, h1, h2⟩ := bind_some e
    obtain ⟨r, h3, h4⟩ := map_some h2
    subst h4
    rw [dq_key h h1, dq_keys t h3]; rfl
theorem dky_e (h : DE K B te f) : DKy K B te (kyE f) := fun ρ σ H O k R e Q q => by
  obtain ⟨d, h1, e⟩ := bind_some e
  obtain ⟨k', h2, e⟩ := map_some e
  subst e
  exact h ρ σ H O d R h1 _ fun v H1 s x => q v H1 s (dq_key x h2)
theorem dky_t (h : DA K B ta fl) : DKy K B (tTup ta) (kyT fl) := fun ρ σ H O k R e Q q => by
  obtain ⟨ds, h1, e⟩ := bind_some e
  split at e
  · rename_i c
    obtain ⟨ks, h2, e⟩ := map_some e
    subst e
    refine h ρ σ H O ds R h1 _ fun vs H1 s x => ⟨line (by rw [x.length]; exact c), fun p hp => ?_⟩
    refine q _ _ (s.trans (same_new _ hp)) ⟨p, rfl, ?_⟩
    rw [upd_same, dq_keys x h2]
  · cases e
theorem bo_dget {H : Hp} {O : List Addr} {x y : V} {d : D} {k : Ky} {r : Option D} (h : Bo K H O x d) (hk : KyV H y k) (e : dLook d k = some r) : ∃ a o, x = .ref a ∧ DGet H a y o ∧ ValR K (hid H O) o r := by
  have key : ∀ {a : Addr} {ds : List (D × D)}, ((∃ vs, H a = some (.dK vs) ∧ DqKv K (hid H O) vs ds) ∨ ∃ vs, H a = some (.dT vs) ∧ DqTv K (hid H O) vs ds) → dLook (.dict ds) k = some r → ∃ o, DGet H a y o ∧ ValR K (hid H O) o r := fun {a ds} hd e => by
    have e : (if isT ds = kindK k then some (look k ds) else none) = some r := e
    split at e
    · rename_i c
      have e := Option.some.inj e
      subst e
      rcases hd with ⟨vs, h1, h2⟩ | ⟨vs, h1, h2⟩
      · cases k with
        | inr ks => rw [kv_isT h2] at c; cases c
        | inl k =>
          have hk : y = kV k := hk
          subst hk
          exact ⟨_, DGet.k h1, kv_look k h2⟩
      · cases k with
        | inl k => rw [tv_isT h2] at c; cases c
        | inr ks =>
          obtain ⟨b, rfl, hb⟩ := hk
          exact ⟨_, DGet.t h1 hb, tv_look ks h2⟩
    · cases e
  rcases h with h | ⟨l, vs, ds, rfl, rfl, _, _, _⟩ | ⟨l, o, tt, ds, rfl, rfl, m, h, a⟩
  · cases h with
    | dic h1 h2 =>
      obtain ⟨o, g1, g2⟩ := key (.inl ⟨_, (of_hid h1).2, h2⟩) e
      exact ⟨_, o, rfl, g1, g2⟩
    | dct h1 h2 =>
      obtain ⟨o, g1, g2⟩ := key (.inr ⟨_, (of_hid h1).2, h2⟩) e
      exact ⟨_, o, rfl, g1, g2⟩
    | non => cases e
    | bl _ => cases e
    | int _ => cases e
    | str _ => cases e
    | lst _ _ => cases e
    | tup _ _ => cases e
  · cases e
  · rcases a with ⟨rfl, vs, rfl, c⟩ | ⟨rfl, vs, rfl, c⟩
    · obtain ⟨o, g1, g2⟩ := key (.inl ⟨_, h, c⟩) e
      exact ⟨_, o, rfl, g1, g2⟩
    · obtain ⟨o, g1, g2⟩ := key (.inr ⟨_, h, c⟩) e
      exact ⟨_, o, rfl, g1, g2⟩
theorem bo_isd {H : Hp} {O : List Addr} {x : V} {ds : List (D × D)} (h : Bo K H O x (.dict ds)) : ∃ a, x = .ref a ∧ IsD H a := by
  rcases h with h | ⟨l, vs, ds, rfl, e, _, _, _⟩ | ⟨l, o, tt, ds, rfl, e, m, h, a⟩
  · cases h with
    | dic h1 h2 => exact ⟨_, rfl, .inl ⟨_, .inl (of_hid h1).2⟩⟩
    | dct h1 h2 => exact ⟨_, rfl, .inr ⟨_, .inl (of_hid h1).2⟩⟩
  · cases e
  · rcases a with ⟨rfl, vs, rfl, c⟩ | ⟨rfl, vs, rfl, c⟩
    · exact ⟨_, rfl, .inl ⟨_, .inl h⟩⟩
    · exact ⟨_, rfl, .inr ⟨_, .inl h⟩⟩
def eDGet (f : En → Option D) (fk : En → Option Ky) : En → Option D := fun ρ => (f ρ).bind fun d => (fk ρ).bind fun k => (dLook d k).bind fun r => r
def eDIn (neg : Bool) (fk : En → Option Ky) (f : En → Option D) : En → Option D := fun ρ => (f ρ).bind fun d => (fk ρ).bind fun k => (dLook d k).map fun r => .bool (r.isSome != neg)
def eDGet1 (f : En → Option D) (fk : En → Option Ky) : En → Option D := fun ρ => (f ρ).bind fun d => (fk ρ).bind fun k => (dLook d k).map fun r => r.getD .none
def eDGet2 (f : En → Option D) (fk : En → Option Ky) (g : En → Option D) : En → Option D := fun ρ => (f ρ).bind fun d => (fk ρ).bind fun k => (g ρ).bind fun z => (dLook d k).map fun r => r.getD z
theorem KyV.grow {H H' : Hp} (s : Same H H') {v : V} : ∀ {k : Ky}, KyV H v k → KyV H' v k
  | .inl _, h => h
  | .inr _, ⟨b, e, h⟩ => ⟨b, e, s _ _ h⟩
theorem de_dget (h : DB K B te f) (hk : DKy K B ty fk) : DE K B (tDGet te ty) (eDGet f fk) := fun ρ σ H O z R e Q q => by
  obtain ⟨d, h1, e⟩ := bind_some e
  obtain ⟨k, h2, e⟩ := bind_some e
  obtain ⟨r, h3, e⟩ := bind_some e
  subst e
  refine h ρ σ H O d R h1 _ fun x H1 s1 b1 => hk ρ σ H1 O k (R.grow s1) h2 _ fun y H2 s2 b2 => ?_
  obtain ⟨a, o, rfl, g, v⟩ := bo_dget (b1.grow (R.grow s1) s2) b2 h3
  rcases v with ⟨_, v⟩ | ⟨v, d', rfl, e, v3⟩
  · cases v
  · cases e
    exact ⟨a, v, rfl, g, q v H2 (s1.trans s2) v3⟩
theorem isD_of {d : D} {k : Ky} {r : Option D} (e : dLook d k = some r) : ∃ ds, d = .dict ds := by
  unfold dLook at e
  split at e
  · exact ⟨_, rfl⟩
  · cases e
theorem IsD.grow {H H' : Hp} {a : Addr} (s : Same H H') (h : IsD H a) : IsD H' a := by
  rcases h with ⟨k, h⟩ | ⟨k, h⟩
  · exact .inl ⟨k, Rd.mono s h⟩
  · exact .inr ⟨k, Rd.mono s h⟩
theorem de_din (h : DB K B te f) (hk : DKy K B ty fk) : DE K B (tDIn ty te) (eDIn false fk f) := fun ρ σ H O z R e Q q => by
  obtain ⟨d, h1, e⟩ := bind_some e
  obtain ⟨k, h2, e⟩ := bind_some e
  obtain ⟨r, h3, e⟩ := map_some e
  subst e
  refine hk ρ σ H O k R h2 _ fun y H1 s1 b1 => h ρ σ H1 O d (R.grow s1) h1 _ fun x H2 s2 b2 => ?_
  obtain ⟨a, o, rfl, g, v⟩ := bo_dget b2 (b1.grow s2) h3
  have eo : o.isSome = r.isSome := by
    rcases v with ⟨v, v'⟩ | ⟨v, d', v', e, v3⟩
    · rw [v, v']; rfl
    · rw [v', e]; rfl
  exact ⟨a, o, rfl, g, q _ H2 (s1.trans s2) (by rw [eo, Bool.bne_false]; exact .bl _)⟩
theorem de_dnotin (h : DB K B te f) (hk : DKy K B ty fk) : DE K B (tDNotIn ty te) (eDIn true fk f) := fun ρ σ H O z R e Q q => by
  obtain ⟨d, h1, e⟩ := bind_some e
  obtain ⟨k, h2, e⟩ := bind_some e
  obtain ⟨r, h3, e⟩ := map_some e
  subst e
  refine hk ρ σ H O k R h2 _ fun y H1 s1 b1 => h ρ σ H1 O d (R.grow s1) h1 _ fun x H2 s2 b2 => ?_
  obtain ⟨a, o, rfl, g, v⟩ := bo_dget b2 (b1.grow s2) h3
  have eo : o.isSome = r.isSome := by
    rcases v with ⟨v, v'⟩ | ⟨v, d', v', e, v3⟩
    · rw [v, v']; rfl
    · rw [v', e]; rfl
  exact ⟨a, o, rfl, g, q _ H2 (s1.trans s2) (by rw [eo, Bool.bne_true]; exact .bl _)⟩
theorem de_dget1 (h : DB K B te f) (hk : DKy K B ty fk) : DE K B (tDGet1 te ty) (eDGet1 f fk) := fun ρ σ H O z R e Q q => by
  obtain ⟨d, h1, e⟩ := bind_some e
  obtain ⟨k, h2, e⟩ := bind_some e
  obtain ⟨r, h3, e⟩ := map_some e
  subst e
  refine h ρ σ H O d R h1 _ fun x H1 s1 b1 => ?_
  obtain ⟨ds, rfl⟩ := isD_of h3
  obtain ⟨a, rfl, hd⟩ := bo_isd b1
  refine ⟨a, rfl, hd, hk ρ σ H1 O k (R.grow s1) h2 _ fun y H2 s2 b2 => ?_⟩
  obtain ⟨a', o, ea, g, v⟩ := bo_dget (b1.grow (R.grow s1) s2) b2 h3
  cases ea
  refine ⟨o, g, ?_⟩
  rcases v with ⟨v, v'⟩ | ⟨v, d', v', e, v3⟩
  · subst v v'; exact q _ H2 (s1.trans s2) .non
  · subst v' e; exact q _ H2 (s1.trans s2) v3
theorem de_dget2 (h : DB K B te f) (hk : DKy K B ty fk) (hz : DE K B tx g) : DE K B (tDGet2 te ty tx) (eDGet2 f fk g) := fun ρ σ H O z R e Q q => by
  obtain ⟨d, h1, e⟩ := bind_some e
  obtain ⟨k, h2, e⟩ := bind_some e
  obtain ⟨w, h4, e⟩ := bind_some e
  obtain ⟨r, h3, e⟩ := map_some e
  subst e
  refine h ρ σ H O d R h1 _ fun x H1 s1 b1 => ?_
  obtain ⟨ds, rfl⟩ := isD_of h3
  obtain ⟨a, rfl, hd⟩ := bo_isd b1
  refine ⟨a, rfl, hd, hk ρ σ H1 O k (R.grow s1) h2 _ fun y H2 s2 b2 => hz ρ σ H2 O w ((R.grow s1).grow s2) h4 _ fun u H3 s3 b3 => ?_⟩
  obtain ⟨a', o, ea, g, v⟩ := bo_dget ((b1.grow (R.grow s1) s2).grow ((R.grow s1).grow s2) s3) (b2.grow s3) h3
  cases ea
  refine ⟨o, g, ?_⟩
  rcases v with ⟨v, v'⟩ | ⟨v, d', v', e, v3⟩
  · subst v v'; exact q _ H3 (s1.trans (s2.trans s3)) b3
  · subst v' e; exact q _ H3 (s1.trans (s2.trans s3)) v3
/-! statements -/
def sDNew (i : Nat) (tt : Bool) : En → Option Out := fun ρ => some (.nx (ρ.set i (some (.oK tt []))))
def sDPutD (i : Nat) (fk : En → Option Ky) (f : En → Option D) : En → Option Out := fun ρ => match ρ[i]? with
  | some (some (.oK tt ds)) => (f ρ).bind fun d => (fk ρ).bind fun k => if ds.length < 1000000 ∧ tt = kindK k then some (.nx (ρ.set i (some (.oK tt (putD k d ds))))) else none
  | _ => none
def sFzK (i : Nat) (F : En → Option Out) : En → Option Out := fun ρ => match ρ[i]? with
  | some (some (.oK tt ds)) => F (ρ.set i (some (.ro (.dict (tails tt ds)))))
  | _ => F ρ
theorem ds_dnew {i : Nat} {tt : Bool} (hp : free B i = true) : DS K B (tAsg (if tt = true then tDNewT else tDNewK) (gName i)) (sDNew i tt) := fun ρ σ H O o R e D q => by
  have e : Out.nx (ρ.set i (some (.oK tt []))) = o := Option.some.inj e
  subst e
  have key : ∀ (l : Addr) (ob : HO), H l = none → isMut ob = true → (∀ G, DObj K G tt ob []) → D.nx (σ.set i (some (.ref l))) (upd H l ob) := fun l ob hl mo hd => by
    obtain ⟨R1, g⟩ := R.own1 (same_new ob hl) hl (upd_same (H := H) (a := l) (o := ob)) mo
    have h0 : l ∉ B.O0 := fun z => R.fresh hl (R.sub0 l z).1
    refine q _ _ (l :: O) (R1.setSV ⟨l, ob, rfl, List.mem_cons_self, h0, upd_same, hd _⟩ (pin_set R1 hp) fun j s' ej ow hj z => ?_) g
    obtain ⟨u, a, b⟩ := R.slot j s' ej
    rw [a] at z
    cases z
    cases s' with
    | ro d => cases ow
    | ow es => obtain ⟨l2, vs2, eu, b1, _⟩ := b; cases eu; exact R.fresh hl b1
    | oK tt es => obtain ⟨l2, vs2, eu, b1, _⟩ := b; cases eu; exact R.fresh hl b1
    | lr d => cases ow
    | xc _ _ => cases ow
  cases tt with
  | false => exact fun p hp' => key p _ hp' rfl fun G => .inl ⟨rfl, [], rfl, .nil⟩
  | true => exact fun p hp' => key p _ hp' rfl fun G => .inr ⟨rfl, [], rfl, .nil⟩
theorem ds_dput {i : Nat} (h : DE K B te f) (hk : DKy K B ty fk) : DS K B (L2.sDPut (tVar i) ty te) (sDPutD i fk f) := fun ρ σ H O o R e D q => by
  unfold sDPutD at e
  split at e
  · rename_i tt ds hs
    obtain ⟨d, h1, e⟩ := bind_some e
    obtain ⟨k, h2, e⟩ := bind_some e
    split at e
    · rename_i c
      have e := Option.some.inj e
      subst e
      refine h ρ σ H O d R h1 _ fun v H1 s1 x => ?_
      have R1 := R.grow s1
      obtain ⟨v0, a0, l, ob, rfl, b1, b2, b3, b4⟩ := R1.slot _ _ hs
      refine ⟨_, a0, hk ρ σ H1 O k R1 h2 _ fun y H2 s2 ky => ?_⟩
      have R2 := R1.grow s2
      have b3' := s2 _ _ b3
      have b4' := DObj.mono (hid_grow (O := O) s2) b4
      have x' := Dq.mono (hid_grow (O := O) s2) _ _ x
      have hg : Same (hid H O) (hid H2 O) := hid_grow (s1.trans s2)
      rcases b4' with ⟨et, vs, rfl, c4⟩ | ⟨et, vs, rfl, c4⟩
      · rw [et] at c hs q
        cases k with
        | inr ks => cases c.2
        | inl k =>
          have ky : y = kV k := ky
          subst ky
          refine ⟨l, _, rfl, DPut.k b3' (lineL (by rw [kv_len c4]; exact c.1)), ?_⟩
          refine q σ _ O (R2.writeK (ds' := putD (.inl k) d ds) rfl hs a0 (.inl ⟨rfl, _, rfl, kv_put x' c4⟩)) ?_
          rw [hid_write _ b1]
          exact hg
      · rw [et] at c hs q
        cases k with
        | inl k => cases c.2
        | inr ks =>
          obtain ⟨b, rfl, hb⟩ := ky
          have hl := tv_len c4
          rw [List.length_append, List.length_singleton] at hl
          refine ⟨l, _, rfl, DPut.t b3' hb (lineL (by have := c.1; omega)), ?_⟩
          refine q σ _ O (R2.writeK (ds' := putD (.inr ks) d ds) rfl hs a0 (.inr ⟨rfl, _, rfl, tv_put x' c4⟩)) ?_
          rw [hid_write _ b1]
          exact hg
    · cases e
  · cases e
theorem ds_fzK {i : Nat} {t : TS} {F : En → Option Out} (hL : B.L = []) (hp : free B i = true) (h : DS K B t F) : DS K B t (sFzK i F) := fun ρ σ H O o R e D q => by
  unfold sFzK at e
  split at e
  · rename_i tt ds hs
    obtain ⟨O', R', g⟩ := R.freezeK hL hp hs
    exact h _ σ H O' o R' e D (q.step g)
  · exact h ρ σ H O o R e D q
end
section
variable {X : Cx} {B : Bs} {e e2 ed ex : Expr} {te ty tx : TE} {ta : TA} {f g : En → Option D} {fk : En → Option Ky} {fl : En → Option (List D)} {pos apos cpos : Pos} {es : List Expr} {x1 : Nat}
theorem ky_e (h : XE X B e te f) : XKy X B e te (kyE f) := ⟨h.pe, dky_e h.de⟩
theorem ky_t (h : XA X B es ta fl) : XKy X B (.Tuple es x1 pos) (tTup ta) (kyT fl) := ⟨pe_tup h.pe, dky_t h.de⟩
theorem x_dget (hu : X.A.units + 1 < cLine) (h : XB X B ed te f) (hk : XKy X B e ty fk) (hs : NoSl e := by intro _ _; rfl) : XE X B (.Subscript ed e pos) (tDGet te ty) (eDGet f fk) := ⟨pe_dget hu h.pe hk.pe hs, de_dget h.de hk.de⟩
theorem x_din (hu : X.A.units + 1 < cLine) (hk : XKy X B e ty fk) (h : XB X B ed te f) (h1 : behindInMarks .In ed = false := by with_unfolding_all rfl) : XE X B (.Compare e [.In] [ed] pos) (tDIn ty te) (eDIn false fk f) := ⟨pe_cmp (pc_din hu hk.pe h.pe) h1, de_din h.de hk.de⟩
theorem x_dnotin (hu : X.A.units + 1 < cLine) (hk : XKy X B e ty fk) (h : XB X B ed te f) (h1 : behindInMarks .NotIn ed = false := by with_unfolding_all rfl) : XE X B (.Compare e [.NotIn] [ed] pos) (tDNotIn ty te) (eDIn true fk f) := ⟨pe_cmp (pc_dnotin hu hk.pe h.pe) h1, de_dnotin h.de hk.de⟩
theorem t_din (hu : X.A.units + 1 < cLine) (hk : XKy X B e ty fk) (h : XB X B ed te f) (h1 : behindInMarks .In ed = false := by with_unfolding_all rfl) : XT X B (.Compare e [.In] [ed] pos) (tB (tDIn ty te)) (asB (eDIn false fk f)) := ⟨pt_cmp (pc_din hu hk.pe h.pe) h1, dt_tB (de_din h.de hk.de)⟩
theorem t_dnotin (hu : X.A.units + 1 < cLine) (hk : XKy X B e ty fk) (h : XB X B ed te f) (h1 : behindInMarks .NotIn ed = false := by with_unfolding_all rfl) : XT X B (.Compare e [.NotIn] [ed] pos) (tB (tDNotIn ty te)) (asB (eDIn true fk f)) := ⟨pt_cmp (pc_dnotin hu hk.pe h.pe) h1, dt_tB (de_dnotin h.de hk.de)⟩
theorem x_dget1 (hu : X.A.units + 1 < cLine) (h : XB X B ed te f) (hk : XKy X B e ty fk) (m : M1 X ed "get" apos e cpos := by exact ⟨rfl, rfl, rfl, rfl⟩) : XE X B (.Call (.Attribute ed "get" apos) [e] [] cpos) (tDGet1 te ty) (eDGet1 f fk) := ⟨pe_dget1 hu h.pe hk.pe m, de_dget1 h.de hk.de⟩
theorem x_dget2 (hu : X.A.units + 1 < cLine) (h : XB X B ed te f) (hk : XKy X B e ty fk) (hz : XE X B e2 tx g) (m : M2 X ed "get" apos e e2 cpos := by exact ⟨rfl, rfl, rfl, rfl⟩) : XE X B (.Call (.Attribute ed "get" apos) [e, e2] [] cpos) (tDGet2 te ty tx) (eDGet2 f fk g) := ⟨pe_dget2 hu h.pe hk.pe hz.pe m, de_dget2 h.de hk.de hz.de⟩
theorem s_dnewK {i : Nat} {x : Str} {pos' pos2 : Pos} (hN : X.N.Nodup) (hi : X.N[i]? = some x) (hx : Loc X.env.scope x) (hs : swapsWith (.Dict [] [] pos2) (some (.Name x pos')) pos.line X.env = pure false := by rfl) (hf : X.fn x = true ∨ X.env.scope.names.lookup x = some .local := by first | exact .inl rfl | exact .inr rfl | assumption) (hp : free B i = true := by rfl) :
    XS X B (.Assign [.Name x pos'] (.Dict [] [] pos2) pos) (tAsg tDNewK (gName i)) (sDNew i false) := ⟨ps_set hN hi hx pe_dnewK hs hf, ds_dnew (tt := false) hp⟩
theorem s_dnewT {i : Nat} {x : Str} {pos' pos2 : Pos} (hN : X.N.Nodup) (hi : X.N[i]? = some x) (hx : Loc X.env.scope x) (hs : swapsWith (.Dict [] [] pos2) (some (.Name x pos')) pos.line X.env = pure false := by rfl) (hf : X.fn x = true ∨ X.env.scope.names.lookup x = some .local := by first | exact .inl rfl | exact .inr rfl | assumption) (hp : free B i = true := by rfl) :
    XS X B (.Assign [.Name x pos'] (.Dict [] [] pos2) pos) (tAsg tDNewT (gName i)) (sDNew i true) := ⟨ps_set hN hi hx pe_dnewT hs hf, ds_dnew (tt := true) hp⟩
theorem s_dput (i : Nat) (hu : X.A.units + 1 < cLine) {on : Expr} {pos' : Pos} (ho : PE X on (tVar i)) (hk : XKy X B e ty fk) (h : XE X B ex te f) (hs : swapsWith ex (some (.Subscript on e pos')) pos.line X.env = pure false := by rfl) :
    XS X B (.Assign [.Subscript on e pos'] ex pos) (L2.sDPut (tVar i) ty te) (sDPutD i fk f) := ⟨ps_dput hu ho hk.pe h.pe hs, ds_dput h.de hk.de⟩
theorem ss_fzK (i : Nat) {rest : List Stmt} {t : TS} {F : En → Option Out} (h : XSs X B rest t F) (hp : free B i = true := by rfl) (hL : B.L = [] := by rfl) : XSs X B rest t (sFzK i F) := ⟨h.pe, ds_fzK hL hp h.de⟩
end
end Z
namespace Z
open PySem PySem.Spec PyProof.Rows L2
/-! ### displays, {} as a value, copies -/
section
variable {K : PySem.W.Frag} {B : Bs}
theorem de_dempty : DE K B tDNewK (eC (.dict [])) := fun ρ σ H O d R e Q q p hp => by
  have e : PyData.dict [] = d := Option.some.inj e
  subst e
  refine q _ _ (same_new _ hp) (.dic (kvs := []) ?_ .nil)
  rw [hid_out (R.fresh hp), upd_same]
end
theorem x_dempty {X : Cx} {B : Bs} {pos : Pos} : XE X B (.Dict [] [] pos) tDNewK (eC (.dict [])) := ⟨pe_dnewK, de_dempty⟩
/-- the pairs of a display -/
def DPs (K : PySem.W.Frag) (B : Bs) (trs : List (TE × TE)) (f : En → Option (List (D × D))) : Prop := ∀ ρ σ H O ds, RS K B ρ σ H O → f ρ = some ds →
  ∀ Q : List (V × V) → Hp → Prop, (∀ kvs H', Same H H' → DqKv K (hid H' O) kvs ds → Q (kvs.map fun kv => (kV kv.1, kv.2)) H') → tPairs trs σ H Q
structure XPs (X : Cx) (B : Bs) (pos : Pos) (keys : List (Option Expr)) (values : List Expr) (trs : List (TE × TE)) (f : En → Option (List (D × D))) : Prop where
  pe : PPs X pos keys values trs
  de : DPs B.K B trs f
def pNil : En → Option (List (D × D)) := fun _ => some []
def pCons (f g : En → Option D) (h : En → Option (List (D × D))) : En → Option (List (D × D)) := fun ρ => (f ρ).bind fun k => (g ρ).bind fun v => (h ρ).bind fun r => if (toK k).isSome = true then some ((k, v) :: r) else none
def nodupK : List (D × D) → Bool
  | [] => true
  | p :: r => (r.all fun q => decide (toKy q.1 ≠ toKy p.1)) && nodupK r
def eDisp (h : En → Option (List (D × D))) : En → Option D := fun ρ => (h ρ).bind fun r => if r.length ≤ 15 ∧ nodupK r = true then some (.dict r) else none
section
variable {K : PySem.W.Frag} {B : Bs} {tk tv : TE} {trs : List (TE × TE)} {f g : En → Option D} {h h' : En → Option (List (D × D))}
theorem dps_nil : DPs K B [] pNil := fun ρ σ H O ds R e Q q => by
  have e : [] = ds := Option.some.inj e
  subst e
  exact q [] H (Same.refl H) .nil
theorem dps_cons (hk : DE K B tk f) (hv : DE K B tv g) (hr : DPs K B trs h) : DPs K B ((tk, tv) :: trs) (pCons f g h) := fun ρ σ H O ds R e Q q => by
  obtain ⟨k, h1, e⟩ := bind_some e
  obtain ⟨v, h2, e⟩ := bind_some e
  obtain ⟨r, h3, e⟩ := bind_some e
  split at e
  · rename_i c
    have e := Option.some.inj e
    subst e
    refine hk ρ σ H O k R h1 _ fun x H1 s1 a1 => hv ρ σ H1 O v (R.grow s1) h2 _ fun y H2 s2 a2 => hr ρ σ H2 O r ((R.grow s1).grow s2) h3 _ fun kvs H3 s3 a3 => ?_
    obtain ⟨k', hk'⟩ := Option.isSome_iff_exists.mp c
    have ex := dq_key a1 hk'
    have ed := kD_of hk'
    subst ex ed
    exact q ((k', y) :: kvs) H3 (s1.trans (s2.trans s3)) (.cons (Dq.mono (hid_grow s3) _ _ a2) a3)
  · cases e
theorem kv_all {G : Hp} {k : Key} : ∀ {vs : List (Key × V)} {ds : List (D × D)}, DqKv K G vs ds → (ds.all fun q => decide (toKy q.1 ≠ toKy (kD k))) = true → ∀ p ∈ vs, p.1 ≠ k
  | _, _, .nil, _, p, hp => by cases hp
  | (k', v') :: vs, _, .cons (d := d') (ds := ds) a t, e, p, hp => by
    rw [List.all_cons, Bool.and_eq_true] at e
    rcases List.mem_cons.mp hp with h | hp
    · subst h
      have := of_decide_eq_true e.1
      intro z
      exact this (by show toKy (kD k') = _; rw [show k' = k from z])
    · exact kv_all t e.2 p hp
theorem valV_no {k : Key} : ∀ {acc : List (Key × V)}, (∀ p ∈ acc, p.1 ≠ k) → valV acc k = none
  | [], _ => rfl
  | p :: acc, h => by rw [valV_neg (h p List.mem_cons_self)]; exact valV_no fun q hq => h q (List.mem_cons_of_mem _ hq)
theorem merge_new {G : Hp} : ∀ {vs : List (Key × V)} {ds : List (D × D)} (acc : List (Key × V)), DqKv K G vs ds → nodupK ds = true → (∀ p ∈ acc, ∀ q ∈ vs, q.1 ≠ p.1) → mergeK acc vs = acc ++ vs
  | _, _, acc, .nil, _, _ => by rw [List.append_nil]; rfl
  | (k, v) :: vs, _, acc, .cons (d := d) (ds := ds) a t, e, h => by
    have e : ((ds.all fun q => decide (toKy q.1 ≠ toKy (kD k))) && nodupK ds) = true := e
    rw [Bool.and_eq_true] at e
    have hk := kv_all t e.1
    show mergeK (putK acc k v) vs = _
    rw [putK_new v (valV_no fun p hp z => h p hp (k, v) List.mem_cons_self z.symm)]
    rw [merge_new (acc ++ [(k, v)]) t e.2 fun p hp q hq => ?_]
    · rw [List.append_assoc]; rfl
    · rcases List.mem_append.mp hp with hp | hp
      · exact h p hp q (List.mem_cons_of_mem _ hq)
      · rcases List.mem_singleton.mp hp with rfl
        exact hk q hq
theorem de_disp (h : DPs K B trs h') : DE K B (tDisp trs) (eDisp h') := fun ρ σ H O d R e Q q p hp => by
  obtain ⟨r, h1, e⟩ := bind_some e
  split at e
  · rename_i c
    have e := Option.some.inj e
    subst e
    obtain ⟨R1, g⟩ := R.own1 (same_new (.dK []) hp) hp (upd_same (H := H) (a := p) (o := .dK [])) rfl
    refine h ρ σ _ (p :: O) r R1 h1 _ fun kvs H2 s2 a2 => ⟨s2 _ _ upd_same, kvs, rfl, by rw [kv_len a2]; exact c.1, ?_⟩
    have hm : mergeK [] kvs = kvs := merge_new [] a2 c.2 fun p hp => by cases hp
    rw [hm]
    refine q _ _ (fun a o ha => ?_) (.dic (kvs := kvs) ?_ (DqKv.mono (fun a o ha => ?_) _ _ a2))
    · have ne : a ≠ p := ne_of_none ha hp
      rw [upd_ne ne]
      exact s2 _ _ (by rw [upd_ne ne]; exact ha)
    · rw [hid_out (R.fresh hp), upd_same]
    · obtain ⟨x, y⟩ := of_hid ha
      rw [List.mem_cons, not_or] at x
      rw [hid_out x.2, upd_ne x.1]; exact y
  · cases e
end
section
variable {X : Cx} {B : Bs} {pos : Pos} {ek ev : Expr} {tk tv : TE} {f g : En → Option D} {keys : List (Option Expr)} {values : List Expr} {trs : List (TE × TE)} {h : En → Option (List (D × D))}
theorem p_nil : XPs X B pos [] [] [] pNil := ⟨pps_nil, dps_nil⟩
theorem p_cons (hk : XE X B ek tk f) (hv : XE X B ev tv g) (hr : XPs X B pos keys values trs h) : XPs X B pos (some ek :: keys) (ev :: values) ((tk, tv) :: trs) (pCons f g h) := ⟨pps_cons hk.pe hv.pe hr.pe, dps_cons hk.de hv.de hr.de⟩
theorem x_disp (hr : XPs X B pos keys values trs h) (hall : keys.all (·.isSome) = true := by rfl) (hl : keys.length = values.length := by rfl) (h0 : keys ≠ [] := by exact List.cons_ne_nil _ _) (h15 : keys.length ≤ 15 := by decide) : XE X B (.Dict keys values pos) (tDisp trs) (eDisp h) := ⟨pe_disp hr.pe hall hl h0 h15, de_disp hr.de⟩
end
end Z

set_option Elab.async false
set_option maxRecDepth 100000
set_option maxHeartbeats 4000000
set_option linter.all false
/-! ZH: str.replace of written texts: behind a written text a token is out -/
namespace Z
open PySem PySem.Spec PyProof.Rows L2

/-! ### what is run once a token is out -/
abbrev Tk1 (s : Shared) : Prop := 1 ≤ s.toks
def PET1 (X : Cx) (e : Expr) (t : TE) : Prop := ∀ (pins : List (Addr × Obj)) (s : Shared) (σ : L2.St) (H : Hp) (Q : VK), Inv X pins σ H s → t σ H Q → wpAny (model X.prog X.w) X.A (eval e X.env) (fun v s' => Tk1 s' ∧ EP X pins σ Q v s') X.xe s
def PST1 (X : Cx) (st : Stmt) (t : TS) : Prop := ∀ (pins : List (Addr × Obj)) (s : Shared) (σ : L2.St) (H : Hp) (D : Ends), Inv X pins σ H s → t D σ H → wpAny (model X.prog X.w) X.A (exec st X.env) (fun f s' => Tk1 s' ∧ SP X pins D f s') X.xe s
def PTT (X : Cx) (e : Expr) (t : TT) : Prop := ∀ (pins : List (Addr × Obj)) (s : Shared) (σ : L2.St) (H : Hp) (Q : Bool → Hp → Prop), Tk1 s → Inv X pins σ H s → t σ H Q → wpAny (model X.prog X.w) X.A (isTrue e X.env (eval e X.env)) (TP X pins σ Q) X.xe s
/-- tokens never get fewer -/
theorem thnT {α : Type} {t : Sem α} {Q Q' : α → Shared → Prop} {M : Model} {A : Around} {E : Value → Shared → Prop} {s : Shared} (h0 : Tk1 s) (h : wpAny M A t Q E s) (hQ : ∀ a s', Tk1 s' → Q a s' → Q' a s') : wpAny M A t Q' E s :=
  wpAny_mono (PySem.wpAny_toks h) (fun a s' q => hQ a s' (Nat.le_trans h0 q.1) q.2) fun _ _ x => x.2
section
variable {X : Cx} {o e a b : Expr} {to te ta tb : TE} {st : Stmt} {rest body : List Stmt} {t u : TS} {pos apos p : Pos}
theorem pss_tok (h1 : PST1 X st t) (h2 : PSsT X rest u) : PSs X (st :: rest) (tSeq t u) := by
  constructor
  intro pins s σ H D I h
  refine wpAny_execs_cons (thn (h1 pins s σ H { D with nx := u D } I h) fun f s1 q => ?_)
  cases f with
  | next =>
    obtain ⟨k, σ', H', I', q⟩ := q
    exact h2 pins s1 σ' H' D k I' q
  | ret v => exact q.2
  | brk => exact q.2
  | cont => exact q.2
theorem pst1_set {i : Nat} {x : Str} {pos' : Pos} (hN : X.N.Nodup) (hi : X.N[i]? = some x) (hx : Loc X.env.scope x) (he : PET1 X e te) (hs : swapsWith e (some (.Name x pos')) pos.line X.env = pure false := by rfl) (hf : X.fn x = true ∨ X.env.scope.names.lookup x = some .local := by first | exact .inl rfl | exact .inr rfl | assumption) :
    PST1 X (.Assign [.Name x pos'] e pos) (tAsg te (gName i)) := by
  intro pins s σ H D I h
  refine wpAny_Assign_Name (thn (he pins s σ H _ I h) fun v s1 q => ?_) hs
  obtain ⟨k, y, H1, I1, r1, q1⟩ := q
  exact thnT k (store_ok (Q := fun _ s2 => SP X pins D .next s2) I1 hN hi hx r1 (fun s2 I2 => ⟨_, H1, I2, q1⟩) hf) fun _ _ k2 q2 => ⟨k2, q2⟩
/-- a text's method of one written text -/
theorem pet1_m1 {id : String} {name : Str} {c : Str} {j : Nat} {r : V → List V → Hp → VK → Prop} (slot : Slot "str" name id) (ty : typeOf (.builtin id) = pure (.type "method_descriptor")) (rule : MtR X id r) (ho : PE X o to)
    (hs : starEach [.Constant (.str c) j p] X.env = [(false, eval (.Constant (.str c) j p) X.env)] := by rfl) (hbase : attributeBase o name X.env (eval o X.env) = eval o X.env := by rfl) (hline : (apos.endLine == pos.line) = true := by rfl) :
    PET1 X (.Call (.Attribute o name apos) [.Constant (.str c) j p] [] pos) (tM1 r to (tC (.str c))) := by
  intro pins s σ H Q I h
  refine PySem.Call_method1 hbase hs hline (thn (ho.run pins s σ H _ I h) fun v s1 q => ?_)
  obtain ⟨x, H1, I1, r1, ⟨w, ew⟩, q1⟩ := q
  subst ew
  obtain ⟨tx, ev⟩ := _root_.id r1
  subst ev
  refine ⟨"str", _, F.plainAttrs_str, slot, ty, typeIs_str _ _ _, (fun _ z => nomatch z), Calls.callWith_builtin rfl (Calls.evalArgs_plain (Calls.spliced_cons (Calls.Constant_str (Calls.spliced_nil ?_))))⟩
  have k : Tk1 { s1 with toks := s1.toks + 1 } := Nat.le_add_left 1 s1.toks
  exact thnT k (rule pins { s1 with toks := s1.toks + 1 } σ H1 (V.str w) [.str c] _ [.str c s1.toks] Q (I1.tok _) ⟨tx, rfl⟩ (.cons ⟨_, rfl⟩ .nil) q1) fun _ _ k2 q2 => ⟨k2, q2⟩
theorem ptt_of {c : Expr} {tc : TT} (h : PT X c tc) : PTT X c tc := fun pins s σ H Q _ I q => h.run pins s σ H Q I q
theorem ptt_cmp {op : CmpOp} {r : R2} (ho : OpR X (compareOp op) r) (ha : PET X a ta) (hb : PET X b tb) (hm : behindInMarks op b = false) : PTT X (.Compare a [op] [b] pos) (tTest (tOp r ta tb)) := by
  intro pins s σ H Q k I h
  refine wpAny_isTrue_Compare1 (thnT k (ha pins s σ H _ k I h) fun v s1 k1 q => ?_) hm
  obtain ⟨x, H1, I1, r1, q1⟩ := q
  refine thnT k1 (hb pins s1 σ H1 _ k1 I1 q1) fun u s2 k2 q => ?_
  obtain ⟨y, H2, I2, r2, q2⟩ := q
  refine thn (ho pins s2 σ H2 x y v u _ I2 r1 r2 q2) fun c s3 q => ?_
  obtain ⟨z, H3, I3, r3, d, ed, q3⟩ := q
  subst ed
  cases r3
  exact wpAny_truthy_bool ⟨H3, I3, q3⟩
theorem pst_ifT {c : Expr} {x y : List Stmt} {tc : TT} (hc : PTT X c tc) (ha : PSsT X x t) (hb : PSsT X y u) : PST X (.If c x y pos) (tIfS tc t u) := by
  intro pins s σ H D k I h
  refine wpAny_If (thnT k (hc pins s σ H _ k I h) fun d s1 k1 q => ?_)
  obtain ⟨H1, I1, q1⟩ := q
  cases d with
  | true => exact ha pins s1 σ H1 D k1 I1 q1
  | false => exact hb pins s1 σ H1 D k1 I1 q1
theorem pst_setT {i : Nat} {x : Str} {pos' : Pos} (hN : X.N.Nodup) (hi : X.N[i]? = some x) (hx : Loc X.env.scope x) (he : PET X e te) (hs : swapsWith e (some (.Name x pos')) pos.line X.env = pure false := by rfl) (hf : X.fn x = true ∨ X.env.scope.names.lookup x = some .local := by first | exact .inl rfl | exact .inr rfl | assumption) :
    PST X (.Assign [.Name x pos'] e pos) (tAsg te (gName i)) := by
  intro pins s σ H D k I h
  refine wpAny_Assign_Name (thn (he pins s σ H _ k I h) fun v s1 q => ?_) hs
  obtain ⟨y, H1, I1, r1, q1⟩ := q
  exact store_ok I1 hN hi hx r1 (fun s2 I2 => ⟨_, H1, I2, q1⟩) hf
/-- for, tokens out in its body -/
theorem pst_forB {tg iter : Expr} {wi : TI} {g : TG} {tb : TS} (hp : PassesOwn (model X.prog X.w) X.A X.env X.xe) (hc : X.calm = true) (hi : PI X tg iter wi) (hg : PG X tg g) (hb : PSsT X body tb)
    (hs : ∀ x, foldedSetIterable iter X.env x = pure x := by intro _; rfl) : PST X (.For tg iter body [] pos) (tFor wi g tb) := by
  intro pins s σ H D k I h
  refine wpAny_For (thnT k (hi.run pins s σ H _ I h) fun v s1 k1 h1 => thnT k1 h1 fun itv s2 k2 h2 => ?_) hs
  obtain ⟨it, fp, tn, J, H2, ei, I2, T, st2, f2, W, ⟨m0, w0⟩, turn⟩ := h2
  subst ei
  have stat : ∀ {G : Hp}, (∀ c ∈ fp, G c = none) → ∀ c ∈ fp, FpOk X pins G c := fun hn c hc' => ⟨hn c hc', (f2 c hc').2⟩
  let Turn (n : Nat) (s' : Shared) : Prop := Tk1 s' ∧ ∃ i σ' G, Inv X pins σ' G s' ∧ tn i s'.heap ∧ (∀ c ∈ fp, G c = none) ∧ W i n σ' G
  refine codeAny_forLoop_any Turn ?_ m0 ⟨k2, 0, σ, H2, I2, st2, fun c hc' => (f2 c hc').1, w0⟩
  rintro n s3 ⟨k3, i, σ3, H3, I3, st3, fr3, w3⟩
  rcases turn i n σ3 H3 w3 with ⟨stop, qn⟩ | ⟨go, N, hN, step⟩
  · refine wpAny_passesOwn hp (thn (T.done X rfl rfl rfl hc i pins s3 σ3 H3 X.xe I3 (stat fr3) st3 stop) fun r s4 q => ?_)
    obtain ⟨hr, I4⟩ := q
    subst hr
    exact wpAny_execs_nil ⟨σ3, H3, I4, qn⟩
  · refine wpAny_passesOwn hp (thnT k3 (T.item X rfl rfl rfl hc i pins s3 σ3 H3 X.xe I3 (stat fr3) st3 go) fun r s4 k4 q => ?_)
    obtain ⟨w, hr, h4⟩ := q
    subst hr
    refine wpAny_passesOwn hp (thnT k4 h4 fun _ s5 k5 q => ?_)
    obtain ⟨x, H5, I5, r5, y5, st5, fr5⟩ := q
    refine wpAny_passesOwn hp (thnT k5 (hg.run _ s5 σ3 H5 x w _ (I5.pinned (stat fr5) (T.obj _ _ st5)) r5 (step x H5 y5)) fun _ s6 k6 q => ?_)
    obtain ⟨σ6, H6, I6, q6⟩ := q
    refine wpAny_passesOwn hp (thnT k6 (hb _ s6 σ6 H6 _ k6 I6 q6) fun f s7 k7 q7 => ?_)
    have again : ∀ {σ7 : L2.St} {H7 : Hp}, Inv X (pins ++ pinsAt fp s5.heap) σ7 H7 s7 → N σ7 H7 → ∃ m, m < n ∧ Turn m s7 := fun {σ7 H7} I7 n7 => by
      obtain ⟨m', hm, w7⟩ := hN σ7 H7 n7
      have at_ : ∀ c ∈ fp, ∀ ob, s5.heap.get? c = some ob → s7.heap.get? c = some ob ∧ H7 c = none := fun c hc' ob eo => by
        have z := I7.pin (c, ob) (List.mem_append_right _ (List.mem_append_right _ (mem_pinsAt hc' eo)))
        exact ⟨z.1, z.2.1⟩
      refine ⟨m', hm, k7, i + 1, σ7, H7, I7.unpinned, T.keep _ _ _ st5 fun c hc' ob eo => (at_ c hc' ob eo).1, fun c hc' => ?_, w7⟩
      obtain ⟨ob, eo, _⟩ := T.obj _ _ st5 c hc'
      exact (at_ c hc' ob eo).2
    cases f with
    | next => obtain ⟨σ7, H7, I7, n7⟩ := q7; exact again I7 n7
    | cont => obtain ⟨σ7, H7, I7, n7⟩ := q7; exact again I7 n7
    | brk => obtain ⟨σ7, H7, I7, q7⟩ := q7; exact ⟨σ7, H7, I7.unpinned, q7⟩
    | ret v => obtain ⟨x7, σ7, H7, I7, r7, q7⟩ := q7; exact ⟨x7, σ7, H7, I7.unpinned, r7, q7⟩
end
/-! ### the same with what is computed -/
structure XET (X : Cx) (B : Bs) (e : Expr) (t : TE) (f : En → Option D) : Prop where
  pe : PET X e t
  de : DE B.K B t f
structure XLT (X : Cx) (B : Bs) (e : Expr) (t : TE) (f : En → Option (List D)) : Prop where
  pe : PET X e t
  de : DL B.K B t f
structure XL1 (X : Cx) (B : Bs) (e : Expr) (t : TE) (f : En → Option (List D)) : Prop where
  pe : PET1 X e t
  de : DL B.K B t f
structure XAT (X : Cx) (B : Bs) (es : List Expr) (t : TA) (f : En → Option (List D)) : Prop where
  pe : PAT X es t
  de : DA B.K B t f
structure XTT (X : Cx) (B : Bs) (e : Expr) (t : TT) (f : En → Option Bool) : Prop where
  pe : PTT X e t
  de : DT B.K B t f
structure XS1 (X : Cx) (B : Bs) (s : Stmt) (t : TS) (F : En → Option Out) : Prop where
  pe : PST1 X s t
  de : DS B.K B t F
structure XST (X : Cx) (B : Bs) (s : Stmt) (t : TS) (F : En → Option Out) : Prop where
  pe : PST X s t
  de : DS B.K B t F
structure XSsT (X : Cx) (B : Bs) (s : List Stmt) (t : TS) (F : En → Option Out) : Prop where
  pe : PSsT X s t
  de : DS B.K B t F
def replD (y z : Str) : D → Option D
  | .str x => if x.length + (x.length + 1) * z.length ≤ 16777216 then some (.str (Txt.replace x y z)) else none
  | _ => none
section
variable {X : Cx} {B : Bs} {s : Stmt} {rest body : List Stmt} {t u : TS} {F G : En → Option Out} {te ta tb to : TE} {tl : TA} {f f' : En → Option D} {fl g : En → Option (List D)} {tt : TT} {c : En → Option Bool} {e a b o : Expr} {es : List Expr} {pos apos p : Pos}
theorem XE.tk (h : XE X B e te f) : XET X B e te f := ⟨CwR.PET.of h.pe, h.de⟩
theorem XT.tk (h : XT X B e tt c) : XTT X B e tt c := ⟨ptt_of h.pe, h.de⟩
theorem XS.tk (h : XS X B s t F) : XST X B s t F := ⟨PST.of h.pe, h.de⟩
theorem XSs.tk (h : XSs X B rest t F) : XSsT X B rest t F := ⟨PSsT.of h.pe, h.de⟩
theorem ss_tok (h : XS1 X B s t F) (k : XSsT X B rest u G) : XSs X B (s :: rest) (tSeq t u) (sSeq F G) := ⟨pss_tok h.pe k.pe, ds_seq h.de k.de⟩
theorem st_cons (h : XST X B s t F) (k : XSsT X B rest u G) : XSsT X B (s :: rest) (tSeq t u) (sSeq F G) := ⟨psst_cons h.pe k.pe, ds_seq h.de k.de⟩
theorem st_one (h : XST X B s t F) : XSsT X B [s] t F := ⟨CwR.psst_one h.pe, h.de⟩
theorem st_nil : XSsT X B [] tNext sNil := ss_nil.tk
theorem st_fz (i : Nat) (h : XSsT X B rest t F) (hL : B.L = [] := by rfl) : XSsT X B rest t (sFz i F) := ⟨h.pe, ds_fz hL h.de⟩
theorem st_if {c' : Expr} {x y : List Stmt} (hc : XTT X B c' tt c) (h : XSsT X B x t F) (k : XSsT X B y u G) : XST X B (.If c' x y pos) (tIfS tt t u) (sIf c F G) := ⟨pst_ifT hc.pe h.pe k.pe, ds_if hc.de h.de k.de⟩
theorem st_for {iter tg : Expr} {wi : TI} {gg : TG} {src : En → Option (List D)} {ht : D → En → Option En} (hp : PassesOwn (model X.prog X.w) X.A X.env X.xe) (hc : X.calm = true) (hi : XI X B tg iter wi src) (hg : XG X B tg gg ht) (hb : XSsT X B body t F) (hs : ∀ x, foldedSetIterable iter X.env x = pure x := by intro _; rfl) :
    XST X B (.For tg iter body [] pos) (tFor wi gg t) (sFor src ht F) := ⟨pst_forB hp hc hi.pe hg.pe hb.pe hs, ds_for hi.de hg.de hb.de⟩
theorem s1_setR {i : Nat} {x : Str} {pos' : Pos} (hN : X.N.Nodup) (hi : X.N[i]? = some x) (hx : Loc X.env.scope x) (he : XL1 X B e te fl) (hs : swapsWith e (some (.Name x pos')) pos.line X.env = pure false := by rfl) (hf : X.fn x = true ∨ X.env.scope.names.lookup x = some .local := by first | exact .inl rfl | exact .inr rfl | assumption) (hp : free B i = true := by rfl) :
    XS1 X B (.Assign [.Name x pos'] e pos) (tAsg te (gName i)) (sSetR i fl) := ⟨pst1_set hN hi hx he.pe hs hf, ds_setR hp he.de⟩
theorem s1_setL {i : Nat} {x : Str} {pos' : Pos} (hN : X.N.Nodup) (hi : X.N[i]? = some x) (hx : Loc X.env.scope x) (he : XL1 X B e te fl) (hs : swapsWith e (some (.Name x pos')) pos.line X.env = pure false := by rfl) (hf : X.fn x = true ∨ X.env.scope.names.lookup x = some .local := by first | exact .inl rfl | exact .inr rfl | assumption) (hp : free B i = true := by rfl) :
    XS1 X B (.Assign [.Name x pos'] e pos) (tAsg te (gName i)) (sSetL i fl) := ⟨pst1_set hN hi hx he.pe hs hf, ds_setL hp he.de⟩
theorem st_setR {i : Nat} {x : Str} {pos' : Pos} (hN : X.N.Nodup) (hi : X.N[i]? = some x) (hx : Loc X.env.scope x) (he : XLT X B e te fl) (hs : swapsWith e (some (.Name x pos')) pos.line X.env = pure false := by rfl) (hf : X.fn x = true ∨ X.env.scope.names.lookup x = some .local := by first | exact .inl rfl | exact .inr rfl | assumption) (hp : free B i = true := by rfl) :
    XST X B (.Assign [.Name x pos'] e pos) (tAsg te (gName i)) (sSetR i fl) := ⟨pst_setT hN hi hx he.pe hs hf, ds_setR hp he.de⟩
theorem st_setL {i : Nat} {x : Str} {pos' : Pos} (hN : X.N.Nodup) (hi : X.N[i]? = some x) (hx : Loc X.env.scope x) (he : XLT X B e te fl) (hs : swapsWith e (some (.Name x pos')) pos.line X.env = pure false := by rfl) (hf : X.fn x = true ∨ X.env.scope.names.lookup x = some .local := by first | exact .inl rfl | exact .inr rfl | assumption) (hp : free B i = true := by rfl) :
    XST X B (.Assign [.Name x pos'] e pos) (tAsg te (gName i)) (sSetL i fl) := ⟨pst_setT hN hi hx he.pe hs hf, ds_setL hp he.de⟩
theorem at_nil : XAT X B [] tNil aNil := ⟨pat_nil, da_nil⟩
theorem at_cons (ha : XET X B e te f) (hr : XAT X B es tl g) (hs : starEach (e :: es) X.env = (false, eval e X.env) :: starEach es X.env := by rfl) : XAT X B (e :: es) (tCons te tl) (aCons f g) := ⟨pat_cons ha.pe hr.pe hs, da_cons ha.de hr.de⟩
theorem lt_lst (h : XAT X B es tl g) : XLT X B (.List es pos) (tLst tl) (lLst g) := ⟨pet_lst h.pe, dl_lst h.de⟩
theorem lt_catN (hk : X.K = B.K) (ha : XN X B a ta fl) (hb : XLT X B b tb g) : XLT X B (.BinOp a .Add b pos) (tOp (rCatL B.K) ta tb) (lCat fl g) := ⟨CwR.pet_op (op_catL hk) (CwR.PET.of ha.pe) hb.pe, dl_catN ha.de hb.de.dm.dn⟩
theorem tt_cmp {op : CmpOp} {r : R2} {gg : D → D → Option D} (ho : OpR X (compareOp op) r) (hr : OpD B.K B r gg) (hm : behindInMarks op b = false) (ha : XET X B a ta f) (hb : XB X B b tb f') : XTT X B (.Compare a [op] [b] pos) (tTest (tOp r ta tb)) (asB (e2 gg f f')) :=
  ⟨ptt_cmp ho ha.pe (CwR.PET.of hb.pe) hm, dt_test (de_op hr ha.de.db hb.de)⟩
theorem de_repl {K : PySem.W.Frag} {y z : Str} (h : DE K B to f) : DE K B (CwR.tReplC to y z) (e1 (replD y z) f) := fun ρ σ H O d R k Q q => by
  obtain ⟨d0, h1, k⟩ := bind_some k
  unfold replD at k
  split at k
  · rename_i x
    split at k
    · rename_i hc
      cases k
      refine h ρ σ H O _ R h1 _ fun v H1 s1 w => ?_
      cases w
      exact ⟨x, rfl, hc, q _ H1 s1 (.str _)⟩
    · cases k
  · cases k
theorem xt_repl {y z : Str} {j k : Nat} {c0 c1 : Pos} (ho : XE X B o to f) (hyz : (y == z) = false := by decide)
    (hst : starEach [.Constant (.str y) j c0, .Constant (.str z) k c1] X.env = [(false, eval (.Constant (.str y) j c0) X.env), (false, eval (.Constant (.str z) k c1) X.env)] := by rfl)
    (hbase : attributeBase o "replace" X.env (eval o X.env) = eval o X.env := by rfl) (hline : (apos.endLine == pos.line) = true := by rfl) :
    XET X B (.Call (.Attribute o "replace" apos) [.Constant (.str y) j c0, .Constant (.str z) k c1] [] pos) (CwR.tReplC to y z) (e1 (replD y z) f) := ⟨CwR.pet_replC ho.pe hyz hst hbase hline, de_repl ho.de⟩
/-- split at a written text: a token is out -/
theorem l1_split {y : Str} {j : Nat} {c0 : Pos} (ho : XE X B o to f) (hs : starEach [.Constant (.str y) j c0] X.env = [(false, eval (.Constant (.str y) j c0) X.env)] := by rfl) (hbase : attributeBase o "split" X.env (eval o X.env) = eval o X.env := by rfl) (hline : (apos.endLine == pos.line) = true := by rfl) :
    XL1 X B (.Call (.Attribute o "split" apos) [.Constant (.str y) j c0] [] pos) (tM1 rSplit to (tC (.str y))) (e2 splitL f (eC (.str y))) :=
  ⟨pet1_m1 PySem.F.slot_str_split PySem.F.type_str_split mt_split ho.pe hs hbase hline, (l_split ho x_str hs hbase hline).de⟩
end
/-! ### int of a text -/
def intSD : List D → Option D
  | [.str a] => if a.length ≤ 640 then (PySem.intText? a).map .int else none
  | _ => none
def rIntS : List V → Hp → VK → Prop := fun xs H Q => ∃ a n, xs = [.str a] ∧ PySem.intText? a = some n ∧ a.length ≤ 640 ∧ Q (.int n) H
section
variable {K : PySem.W.Frag} {B : Bs}
theorem opc_intS : OpC K B rIntS intSD := fun ρ σ H O vs ds z R a k Q q => by
  unfold intSD at k
  split at k
  · split at k
    · rename_i x c
      obtain ⟨n, hn, rfl⟩ := Option.map_eq_some_iff.mp k
      obtain ⟨v, rfl, b⟩ := bo1 a
      cases b.str
      exact ⟨_, n, rfl, hn, c, q _ H (Same.refl H) (.int _)⟩
    · cases k
  · cases k
end
end Z

set_option Elab.async false
set_option maxRecDepth 100000
set_option maxHeartbeats 4000000
set_option linter.all false
/-! ZI: own exceptions: raised, caught and kept, asked -/
namespace Z
open PySem PySem.Spec PyProof.Rows L2

/-! ### what the class of an own exception must say -/
structure ExF (K : PySem.W.Frag) (C : Addr) : Prop where
  cl : (PySem.W.clsIn K C).isSome = true
  ga : PySem.W.findIn K (.ref C) "__getattribute__" = some (some (.builtin "BaseException.__getattribute__"))
  gg : PySem.W.findIn K (.ref C) "__getattr__" = some none
  sb : PySem.W.subIn K (.ref C) (.type "BaseException") = some true
  hd : PySem.W.hasDictIn K C = true
  ha : PySem.W.findIn K (.ref C) "__class__" = some (some (.builtin "object.__class__"))
  hm : PySem.W.mroIn K C (.type "object") = some true
  na : PySem.W.findIn K (.ref C) "at" = some none
structure ClF (K : PySem.W.Frag) : Prop where
  hn : PySem.W.specialIn K (.builtin "object.__class__") "__get__" = some (some (.builtin "getset_descriptor.__get__"))
  ht : PySem.W.takesIn K (.builtin "object.__class__") = some true
theorem exK_ok {P : Program} {w : World} {H : Hp} {h : Heap} {a : Addr} {cls : Value} {d : Option Addr} {oe : Obj} {vs : Array Value} (e : h.get? a = some oe) (z : Zc cls d oe) (dd : oe.data = .fields vs) : ObjOk P w H h a (ExK cls d a) :=
  ⟨⟨oe, vs, e, z, dd⟩, ⟨oe, e⟩, fun _ _ ⟨o, v, q, r⟩ k => ⟨o, v, k o q, r⟩⟩
section
variable {X : Cx} {pins : List (Addr × Obj)} {σ : L2.St} {H : Hp} {s : Shared}
/-- a caught exception, new since the entry, is tracked -/
theorem inv_track {a : Addr} {oe : Obj} {vs : Array Value} {cls : Value} {d : Option Addr} (I : Inv X ((a, oe) :: pins) σ H s) (hz : Zc cls d oe) (hd : oe.data = .fields vs) (n0 : X.s_0.heap.get? a = none) (hp : ∀ p ∈ X.pn ++ pins, p.1 ≠ a) :
    Inv X pins σ (upd H a (ExK cls d a)) s := by
  obtain ⟨p1, p2, p3, p4, p5⟩ := I.pin (a, oe) (List.mem_append_right _ List.mem_cons_self)
  dsimp only at p1 p2 p3 p4 p5
  have far : ∀ b o, X.s_0.heap.get? b = some o → b ≠ a := fun b o e z => by
    rw [z, n0] at e; cases e
  have ne : ∀ {b : Addr} {o : HO}, H b = some o → b ≠ a := fun {b o} e z => by
    rw [z, p2] at e; cases e
  refine ⟨I.ok, I.os, I.bare, ?_, I.loc, I.cell, (upd_ne (Ne.symm p3)).trans I.free, fun y c e => ?_, fun p hm => ?_, fun b u e => ?_, I.len⟩
  · refine ⟨I.base.keep, I.base.slot, fun b o e n hx => (upd_ne (far b o e)).trans (I.base.free b o e n hx), I.base.there, fun b xs e => ?_, fun b o u e => ?_, fun b ps e => ?_⟩
    · have z := I.base.tups b xs e
      rw [upd_ne (ne z)]; exact z
    · have z := I.base.frzs b o u e
      rw [upd_ne (ne z)]; exact z
    · obtain ⟨m, z⟩ := I.base.tbls b ps e
      exact ⟨m, by rw [upd_ne (ne z)]; exact z⟩
  · have hc := I.freeC y c e
    obtain ⟨v, o, e1, e2⟩ := I.cell y c e
    refine (upd_ne fun z => ?_).trans hc
    rw [z, p1] at e1
    cases e1
    exact p5 _ e2
  · have hm' : p ∈ X.pn ++ ((a, oe) :: pins) := by
      rcases List.mem_append.mp hm with z | z
      · exact List.mem_append_left _ z
      · exact List.mem_append_right _ (List.mem_cons_of_mem _ z)
    obtain ⟨q1, q2, q3⟩ := I.pin p hm'
    exact ⟨q1, (upd_ne (hp p hm)).trans q2, q3⟩
  · by_cases hb : b = a
    · subst hb
      rw [upd_same] at e
      cases e
      exact exK_ok p1 hz hd
    · rw [upd_ne hb] at e
      refine (I.hok b u e).stay (fun c v _ q => q) (fun c q => ?_) fun c xs q => ?_
      · rw [upd_ne (ne q)]; exact q
      · rw [upd_ne (ne q)]; exact q
end
/-- what the clause wishes of an exception of the body: it is one of the class, it is kept -/
def wKeep (K : PySem.W.Frag) (c : Value) (i : Nat) (ts : Addr → Value → Option Addr → TS) (D : Ends) : WX := fun cls d σ H =>
  PySem.W.exmOne K cls c = some true ∧ ∀ a, H a = none → ts a cls d { nx := fun σ' H' => D.nx (σ'.set i none) (upd H' a (ExK cls d a)), rt := fun _ _ => False, bk := fun _ _ => False, ct := fun _ _ => False } (σ.set i (some (.ref a))) H
section
variable {X : Cx} {x n : Str} {c : Value} {i : Nat} {body suite : List Stmt} {b₀ : Stmt} {np pos pos' : Pos} {tb : WX → TS} {ts : Addr → Value → Option Addr → TS}
theorem ps_try_keep (hs : X.stack = X.env :: X.outer) (hf : X.env.frame = some X.env.locals) (hex : X.ex = []) (hN : X.N.Nodup) (hi : X.N[i]? = some n) (hln : X.env.kindOf n = some .local) (hc : Names X x c)
    (hb : ∀ (W : WX) (pn : List (Addr × Obj)) (xe : Value → Shared → Prop), Takes (X.tr pn xe) W → PSs (X.tr pn xe) body (tb W))
    (hsu : ∀ (a : Addr) (oe : Obj) (cls : Value) (d : Option Addr) (pn : List (Addr × Obj)), PSs (X.suite a ((a, oe) :: pn)) (b₀ :: suite) (ts a cls d)) :
    PS X (.Try body [.ExceptHandler (some (.Name x np)) (some n) (b₀ :: suite) pos'] [] [] pos) (fun D σ H => tb (wKeep X.K c i ts D) D σ H) := by
  constructor
  intro pins s σ H D I0 h
  have okX := I0.ok
  have hstk : X.A.frames = some (X.env :: X.outer) := okX.frames.trans (by rw [hs])
  have hloc : Loc X.env.scope n := Or.inl hln
  refine wpAny_Try_except ?_
  have run := (hb (wKeep X.K c i ts D) (X.pn ++ pins) (fun e s₁ => wpAny (model X.prog X.w) X.A (noteFrame e X.env) (fun _ s₂ =>
      wpAny (model X.prog X.w) X.A (setFlight e none) (fun _ s₃ => wpAny (model X.prog X.w) X.A
        (handleBy e X.env [.ExceptHandler (some (.Name x np)) (some n) (b₀ :: suite) pos']) (SP X pins D) X.xe s₃) X.xe s₂) X.xe s₁) (fun u s' got => ?_)).run [] s σ H D (I0.toTry _) h
  · refine wpAny_mono run (fun fl s1 got => ?_) (fun _ _ he => he)
    cases fl with
    | next => obtain ⟨σ1, H1, J1, q⟩ := got; exact wpAny_execs_nil ⟨σ1, H1, J1.ofTry okX, q⟩
    | brk => obtain ⟨σ1, H1, J1, q⟩ := got; exact ⟨σ1, H1, J1.ofTry okX, q⟩
    | cont => obtain ⟨σ1, H1, J1, q⟩ := got; exact ⟨σ1, H1, J1.ofTry okX, q⟩
    | ret u => obtain ⟨v, σ1, H1, J1, r, q⟩ := got; exact ⟨v, σ1, H1, J1.ofTry okX, r, q⟩
  obtain ⟨a, B, sI, pins', σ1, H1, cls, d, rfl, J0, nb, up, sky, na, os, ag, hb1, hyes⟩ := got
  have J : Inv X pins σ1 H1 sI := J0.ofTry okX
  rw [hs] at sky
  show wpAny (model X.prog X.w) X.A (noteFrame (.ref a) X.env) _ _ _
  refine Sky.land Zc.steady hstk hf sky fun h3 fl3 up3 => ?_
  have J3 : Inv X pins σ1 H1 { s' with heap := h3 } := J.landed nb fl3.1 (up.trans up3) os ag
  obtain ⟨oe3, vs3, he3, hz3, hd3⟩ := fl3.there
  have nfr : a ∉ frs (X.env :: X.outer) := fun hm => by
    obtain ⟨_, o, e, hnf⟩ := fl3.2.2.1.mem hm
    rw [he3] at e
    cases e
    exact hnf _ hd3
  have nL : a ≠ X.env.locals := fun z => nfr (List.mem_filterMap.mpr ⟨X.env, List.mem_cons_self, hf.trans (by rw [z])⟩)
  have nF : a ∉ X.fs := fun hm => by
    obtain ⟨e, he, q⟩ := List.mem_filterMap.mp hm
    exact nfr (List.mem_filterMap.mpr ⟨e, List.mem_cons_of_mem _ he, q⟩)
  have gB : B.get? a = none := fl3.2.1
  have gI : sI.heap.get? a = none := by
    cases e : sI.heap.get? a with
    | none => rfl
    | some o =>
      have := nb a o e (by rw [hs]; exact nfr)
      rw [gB] at this; cases this
  have n0 : X.s_0.heap.get? a = none := by
    cases e : X.s_0.heap.get? a with
    | none => rfl
    | some o =>
      obtain ⟨o', e'⟩ := J.base.there a o e (by rw [hex]; exact fun z => nomatch z)
      rw [gI] at e'; cases e'
  have hpa : ∀ p ∈ X.pn ++ pins, p.1 ≠ a := fun p hp z => by
    have e := (J.pin p hp).1
    rw [z, gI] at e; cases e
  have S3 := J3.suite he3 hd3 na nL nF
  refine wpAny_handleBy_cons (codeAny_handlers_test ?_) (by intro q; cases q)
  have LT : PySem.W.Looks (model X.prog X.w) h3 (typeOf (.ref a)) cls := fun A Q E s k q => wpAny_typeOf_ref (k _ _ he3) (by rw [hz3.1]; exact q)
  have LM := PySem.W.exm_one (M := model X.prog X.w) (J3.kIn) LT hb1
  have test : ∀ {Q : Value → Shared → Prop} {E : Value → Shared → Prop}, Q c { s' with heap := h3 } →
      wpAny (model X.prog X.w) (X.A.mark (some (.ref a))) (eval (.Name x np) X.env) Q E { s' with heap := h3 } := fun {Q E} q => by
    obtain ⟨hg, hdbg, hm | ⟨hm, hv, hnn⟩⟩ := hc
    · exact ld_glob (X := X.suite a ((a, oe3) :: (X.pn ++ pins))) S3 hg hm q hdbg
    · exact ld_blt (X := X.suite a ((a, oe3) :: (X.pn ++ pins))) S3 hg hm hv q hnn hdbg
  refine test (LM.here ?_)
  refine codeAny_handlers_suite_as ?_
  refine PySem.HandSPX.lands_againZ fl3 fun h4 fl4 up4 => ?_
  have J4 : Inv X pins σ1 H1 { s' with heap := h4 } := J.landed nb fl4.1 ((up.trans up3).trans up4) os ag
  obtain ⟨oe4, vs4, he4, hz4, hd4⟩ := fl4.there
  have S4 := J4.suite he4 hd4 na nL nF
  refine store_ok (X := X.suite a ((a, oe4) :: (X.pn ++ pins))) (v := .ref a) S4 hN hi hloc rfl (fun s5 S5 => ?_) (.inr hln)
  have run2 := (hsu a oe4 cls d (X.pn ++ pins)).run [] s5 _ H1 _ S5 (hyes a na)
  refine wpAny_mono run2 (fun fl s6 got => ?_) (fun _ _ z => False.elim z)
  cases fl with
  | next =>
    obtain ⟨σ6, H6, S6, q6⟩ := got
    have U6 : Inv X ((a, oe4) :: pins) σ6 H6 s6 := by
      refine ⟨okX, S6.os, S6.bare, S6.base, S6.loc, S6.cell, S6.free, S6.freeC, fun p hp => S6.pin p (List.mem_append_left _ ?_), S6.hok, S6.len⟩
      rcases List.mem_append.mp hp with z | z
      · exact List.mem_cons_of_mem _ (List.mem_append_left _ z)
      · rcases List.mem_cons.mp z with z | z
        · rw [z]; exact List.mem_cons_self
        · exact List.mem_cons_of_mem _ (List.mem_append_right _ z)
    exact gone_ok U6 hN hi hln fun s7 J7 => ⟨_, _, inv_track J7 hz4 hd4 n0 hpa, q6⟩
  | brk => obtain ⟨_, _, _, q6⟩ := got; exact q6.elim
  | cont => obtain ⟨_, _, _, q6⟩ := got; exact q6.elim
  | ret u => obtain ⟨_, _, _, _, _, q6⟩ := got; exact q6.elim
end

/-! ### an exception that was kept: its kind, its field, is it None -/
def rIsX (K : PySem.W.Frag) : List V → Hp → VK → Prop := fun xs H Q => ∃ (a D d : Addr) (fs : List (Str × V)) (c : V) (cv : Value) (b : Bool), xs = [.ref a, c] ∧ H a = some (ExK (.ref D) (some d) a) ∧ H d = some (.xd fs) ∧ ClsV c cv ∧ ExF K D ∧ ClF K ∧ PySem.W.kitOne K (.ref D) cv = some b ∧ Q (.bl b) H
def rIsiX (K : PySem.W.Frag) : List V → Hp → VK → Prop := fun xs H Q => rIsi K xs H Q ∨ rIsX K xs H Q
section
variable {X : Cx} {pins : List (Addr × Obj)} {σ : L2.St} {H : Hp} {s : Shared}
theorem inst_of (I : Inv X pins σ H s) {a D d : Addr} {fs : List (Str × V)} (ha : H a = some (ExK (.ref D) (some d) a)) (hd : H d = some (.xd fs)) :
    ∃ (oe od : Obj) (mA : Str → Option Value), PySem.W.InstAt s.heap a oe D (some od) ∧ (∀ f, RelO (fs.lookup f) (mA f)) ∧ ∀ f, PySem.W.lookIn f od = some (mA f) := by
  have hx : ObjOk X.prog X.w H s.heap a (ExK (.ref D) (some d) a) := I.hok a _ ha
  obtain ⟨⟨oe, vs, e1, z, e2⟩, _, _⟩ := hx
  have hy : ObjOk X.prog X.w H s.heap d (.xd fs) := I.hok d _ hd
  obtain ⟨mA, hns, hr⟩ := hy
  obtain ⟨od, ho, hl⟩ := lookIn_ns hns
  exact ⟨oe, od, mA, ⟨e1, z.1, by unfold PySem.W.notCls; rw [e2] <;> rfl, by rw [z.2]; exact ho⟩, hr, hl⟩
theorem call_isX : CallR X (.builtin "isinstance") (rIsiX X.K) := by
  intro pins s σ H xs us Q I r h
  rcases h with h | ⟨a, D, d, fs, c, cv, b, rfl, ha, hd, hcv, F, G, e, q⟩
  · exact call_isi pins s σ H xs us Q I r h
  · cases r with
    | cons rx rr =>
      cases rr with
      | cons rt rr =>
        cases rr
        cases rx
        have ec := hcv.eq rt
        subst ec
        obtain ⟨oe, od, mA, J, _, _⟩ := inst_of I ha hd
        exact PySem.W.kia_one (PySem.W.kitx_exc F.cl F.ga F.gg F.sb F.ha G.hn G.ht F.hm) I.kIn J e (fun z => nomatch z) fun tk => ⟨.bl b, H, I.kept (t' := tk) fun _ _ z => z, rfl, q⟩
/-- e.at, e an exception that was kept -/
def tXat (K : PySem.W.Frag) (te : TE) : TE := fun σ H Q => te σ H fun x H1 => ∃ (a C d : Addr) (fs : List (Str × V)) (v : V), x = .ref a ∧ H1 a = some (ExK (.ref C) (some d) a) ∧ H1 d = some (.xd fs) ∧ fs.lookup ("at" : Str) = some v ∧ ExF K C ∧ Q v H1
theorem pe_xat {e : Expr} {te : TE} {pos : Pos} (he : PE X e te) (hb : attributeBase e "at" X.env (eval e X.env) = eval e X.env := by rfl) : PE X (.Attribute e "at" pos) (tXat X.K te) := by
  constructor
  intro pins s σ H Q I h
  refine attr_of hb (thn (he.run pins s σ H _ I h) fun u s1 got => ?_)
  obtain ⟨x, H1, I1, rx, a, C, d, fs, v, rfl, ha, hd, l, F, q⟩ := got
  obtain rfl : u = Value.ref a := rx
  obtain ⟨oe, od, mA, J, hr, hl⟩ := inst_of I1 ha hd
  obtain ⟨u, hu, ru⟩ := RelO.some_of (v := v) (o := mA "at") (by rw [← l]; exact hr "at")
  exact PySem.HandSPX.exc_get I1.kIn J F.ga F.gg F.sb (PySem.W.findObj_own F.hd F.na rfl (by rw [hl, hu])) (handed_of ru) ⟨v, H1, I1.tok _, ru, q⟩
/-- a class of our own by its name -/
theorem pe_cls {x : Str} {C : Addr} {p : Pos} (hg : Gl X x) (hm : X.mg x = some (.ref C)) (hdb : (x == ("__debug__" : Str)) = false := by decide) : PE X (.Name x p) (tC (.ref C)) :=
  ⟨fun pins s σ H Q I h => ld_glob I hg hm ⟨.ref C, H, I, rfl, h⟩ hdb⟩
end
/-- which kinds there are: NoProgram and NoTree, both OneErrors and ValueErrors -/
def subN (a b : Str) : Option Bool :=
  if a = "NoProgram" then (if b = "NoProgram" then some true else if b = "NoTree" then some false else if b = "ValueError" then some true else if b = "OneError" then some true else none)
  else if a = "NoTree" then (if b = "NoProgram" then some false else if b = "NoTree" then some true else if b = "ValueError" then some true else if b = "OneError" then some true else none)
  else none
def exN (a : Str) : Bool := a == "NoProgram" || a == "NoTree"
/-- what the written part says of the exceptions: their classes; which is which -/
structure ExAll (K : PySem.W.Frag) (mg : Str → Option Value) : Prop where
  F : ∀ nm C, clsOf K nm = some C → exN nm = true → ExF K C
  G : ClF K
  own : ∀ (nm : Str) (C : Addr) (b : Str) (C' : Addr), clsOf K nm = some C → (b = "NoProgram" ∨ b = "NoTree") → clsOf K b = some C' → ∀ r, subN nm b = some r → PySem.W.kitOne K (.ref C) (.ref C') = some r
  ve : ∀ nm C, clsOf K nm = some C → exN nm = true → PySem.W.kitOne K (.ref C) (.type "ValueError") = some true
  non : ∀ (b : Str) (C' : Addr), (b = "NoProgram" ∨ b = "NoTree") → clsOf K b = some C' → PySem.W.kitOne K (.type "NoneType") (.ref C') = some false
  nve : PySem.W.kitOne K (.type "NoneType") (.type "ValueError") = some false
  one : ∀ nm C C', clsOf K nm = some C → exN nm = true → clsOf K "OneError" = some C' → PySem.W.exmOne K (.ref C) (.ref C') = some true
  mgN : ∀ (b : Str) (C : Addr), (b = "NoProgram" ∨ b = "NoTree" ∨ b = "OneError") → clsOf K b = some C → mg b = some (.ref C)
  has : ∀ b : Str, (b = "NoProgram" ∨ b = "NoTree" ∨ b = "OneError") → ∃ C, clsOf K b = some C
  mgV : mg "ValueError" = none
def kIsI (i : Nat) (b : Str) : En → Option D := fun ρ => match ρ[i]? with
  | some (some (.xc nm _)) => if exN nm = true then (subN nm b).map .bool else none
  | some (some (.ro .none)) => some (.bool false)
  | _ => none
def kAt (i : Nat) : En → Option D := fun ρ => match ρ[i]? with
  | some (some (.xc nm d)) => if exN nm = true then some d else none
  | _ => none
def kNon (neg : Bool) (i : Nat) : En → Option D := fun ρ => match ρ[i]? with
  | some (some (.xc _ _)) => some (.bool neg)
  | some (some (.ro .none)) => some (.bool (!neg))
  | _ => none
theorem of_hidS {H : Hp} {O : List Addr} {a : Addr} {o : HO} (h : hid H O a = some o) : H a = some o := (of_hid h).2
section
variable {X : Cx} {B : Bs} {i : Nat} {b : Str} {p p2 pos : Pos} {ex : Expr}
theorem de_kIs {te : V} {cv : Value} (A : ExAll B.K mg) (hcv : ClsV te cv) (hx : ∀ nm C, clsOf B.K nm = some C → exN nm = true → ∀ r, subN nm b = some r → PySem.W.kitOne B.K (.ref C) cv = some r) (hn : PySem.W.kitOne B.K (.type "NoneType") cv = some false) :
    DE B.K B (tCB (rIsiX B.K) (tCons (tVar i) (tCons (tC te) tNil))) (kIsI i b) := fun ρ σ H O z R e Q q => by
  unfold kIsI at e
  split at e
  · rename_i nm d h
    split at e
    · rename_i hnm
      obtain ⟨r, h2, rfl⟩ := Option.map_eq_some_iff.mp e
      obtain ⟨v, hv, a, d', C, u, rfl, e2, e3, e4, e5⟩ := R.slot _ _ h
      exact ⟨_, hv, .inr ⟨a, C, d', _, te, cv, r, rfl, of_hidS e2, of_hidS e4, hcv, A.F _ _ e3 hnm, A.G, hx _ _ e3 hnm _ h2, q _ H (Same.refl H) (.bl _)⟩⟩
    · cases e
  · rename_i h
    cases e
    obtain ⟨v, hv, e2⟩ := R.slot _ _ h
    cases (show Dq B.K (hid H O) v .none from e2)
    exact ⟨_, hv, .inl ⟨.non, te, .type "NoneType", cv, false, rfl, hcv, .base .non, hn, q _ H (Same.refl H) (.bl _)⟩⟩
  · cases e
theorem x_kIs {C : Addr} (A : ExAll B.K X.mg) (hi : X.mg "isinstance" = none) (hb : b = "NoProgram" ∨ b = "NoTree") (hC : clsOf B.K b = some C) (ha : PE X ex (tVar i)) (hg : Gl X "isinstance" := by rfl) (hg2 : Gl X b := by rfl) (hdb : (b == ("__debug__" : Str)) = false := by decide)
    (h1 : starEach (ex :: [.Name b p2]) X.env = (false, eval ex X.env) :: starEach [.Name b p2] X.env := by rfl) (hpl : (backTo pos (starEach [.Name b p2] X.env)).any (·.1) = false := by rfl) (hk : X.K = B.K := by rfl) :
    XE X B (.Call (.Name "isinstance" p) [ex, .Name b p2] [] pos) (tCB (rIsiX B.K) (tCons (tVar i) (tCons (tC (.ref C)) tNil))) (kIsI i b) :=
  ⟨hk ▸ pe_callB call_isX hg hi PyProof.Rows.boot_isinstance (pa_cons ha (pa_cons (pe_cls hg2 (A.mgN b C (by rcases hb with h | h; exact .inl h; exact .inr (.inl h)) hC) hdb) pa_nil) h1) (by decide) (by decide) h1 hpl,
    de_kIs A (.own C) (fun nm C' h1 _ r h2 => A.own nm C' b C h1 hb hC r h2) (A.non b C hb hC)⟩
theorem x_kIsV (A : ExAll B.K X.mg) (hi : X.mg "isinstance" = none) (ha : PE X ex (tVar i)) (hg : Gl X "isinstance" := by rfl) (hg2 : Gl X "ValueError" := by rfl)
    (h1 : starEach (ex :: [.Name "ValueError" p2]) X.env = (false, eval ex X.env) :: starEach [.Name "ValueError" p2] X.env := by rfl) (hpl : (backTo pos (starEach [.Name "ValueError" p2] X.env)).any (·.1) = false := by rfl) (hk : X.K = B.K := by rfl) :
    XE X B (.Call (.Name "isinstance" p) [ex, .Name "ValueError" p2] [] pos) (tCB (rIsiX B.K) (tCons (tVar i) (tCons (tC (.ty "ValueError")) tNil))) (kIsI i "ValueError") :=
  ⟨hk ▸ pe_callB call_isX hg hi PyProof.Rows.boot_isinstance (pa_cons ha (pa_cons (pe_bltn hg2 A.mgV PyProof.Rows.Boot.«ValueError» rfl (by decide) (by decide)) pa_nil) h1) (by decide) (by decide) h1 hpl,
    de_kIs A (.ty "ValueError") (fun nm C' h1 h3 r h2 => by
      have : r = true := by
        unfold subN at h2
        unfold exN at h3
        split at h2
        · revert h2; decide +revert
        · split at h2
          · revert h2; decide +revert
          · cases h2
      rw [this]
      exact A.ve nm C' h1 h3) A.nve⟩
theorem x_kAt (A : ExAll B.K X.mg) (ha : PE X ex (tVar i)) (hb : attributeBase ex "at" X.env (eval ex X.env) = eval ex X.env := by rfl) (hk : X.K = B.K := by rfl) : XE X B (.Attribute ex "at" pos) (tXat B.K (tVar i)) (kAt i) := by
  refine ⟨hk ▸ pe_xat ha hb, fun ρ σ H O z R e Q q => ?_⟩
  unfold kAt at e
  split at e
  · rename_i nm d h
    split at e
    · rename_i hnm
      cases e
      obtain ⟨v, hv, a, d', C, u, rfl, e2, e3, e4, e5⟩ := R.slot _ _ h
      refine ⟨_, hv, a, C, d', _, u, rfl, of_hidS e2, of_hidS e4, ?_, A.F _ _ e3 hnm, q _ H (Same.refl H) e5⟩
      simp [List.lookup]
    · cases e
  · cases e
theorem x_kNon (ha : PE X ex (tVar i)) {e0 : Expr} (hz : PE X e0 (tC .non)) (hm : behindInMarks .Is e0 = false := by rfl) : XE X B (.Compare ex [.Is] [e0] pos) (tOp rIsA (tVar i) (tC .non)) (kNon false i) := by
  refine ⟨pe_cmpR op_isA ha hz hm, fun ρ σ H O z R e Q q => ?_⟩
  unfold kNon at e
  split at e
  · rename_i nm d h
    cases e
    obtain ⟨v, hv, a, d', C, u, rfl, _⟩ := R.slot _ _ h
    exact ⟨_, hv, .inl ⟨rfl, q _ H (Same.refl H) (.bl false)⟩⟩
  · rename_i h
    cases e
    obtain ⟨v, hv, e2⟩ := R.slot _ _ h
    cases (show Dq B.K (hid H O) v .none from e2)
    exact ⟨_, hv, .inl ⟨rfl, q _ H (Same.refl H) (.bl true)⟩⟩
  · cases e
end

/-! ### defs that may raise -/
inductive RvX
  | ok (r : Rv)
  | ex (nm : Str) (d : D)
def RxOk (K : PySem.W.Frag) (H : Hp) (O : List Addr) (Q : VK) (E : XK) : RvX → Prop
  | .ok r => ∀ v H', Same H H' → RvOk K H H' O v r → Q v H'
  | .ex nm a => ∀ C d v H', clsOf K nm = some C → Same H H' → H d = none → H' d = some (.xd [(("at" : Str), v)]) → Dq K (hid H' O) v a → E (.ref C) (some d) H'
def spX (K : PySem.W.Frag) (n : Nat) (g : List D → Option RvX) : Sp := fun vs H Q E => vs.length = n ∧ ∃ O ds r, (∀ a ∈ O, ∃ o, H a = some o ∧ isMut o = true) ∧ DqAll K (hid H O) vs ds ∧ g ds = some r ∧ RxOk K H O Q E r
def Out.rvx : Out → Option RvX
  | .ex nm d => some (.ex nm d)
  | .rt d => some (.ok (.v d))
  | .rl ds => some (.ok (.l ds))
  | .nx _ => some (.ok (.v .none))
  | _ => none
def gX (n m : Nat) (F : En → Option Out) (ds : List D) : Option RvX := if ds.length = n then (F (env0 m ds)).bind Out.rvx else none
theorem gX_len {n m : Nat} {F : En → Option Out} : ∀ ds, gX n m F ds ≠ none → ds.length = n := fun ds h => by
  unfold gX at h
  split at h
  · assumption
  · exact absurd rfl h
/-- what is handed back where nothing is raised -/
def noX (g : List D → Option RvX) : List D → Option Rv := fun ds => match g ds with
  | some (.ok r) => some r
  | _ => none
theorem rs_startW {K : PySem.W.Frag} {H : Hp} {O : List Addr} {N : List Str} {vs : List V} {ds : List D} {W : WX} (mu : ∀ a ∈ O, ∃ o, H a = some o ∧ isMut o = true) (h : DqAll K (hid H O) vs ds) : RS K ⟨K, H, O, [], none, W⟩ (env0 N.length ds) (L2.start N vs) H O :=
  have R := rs_start (N := N) mu h
  ⟨R.len, R.slot, R.uniq, R.same, R.own, R.mu, R.sub0, R.lo, R.pin⟩
theorem fn_okX {P : Program} {w : World} {K : PySem.W.Frag} {mg : Str → Option Value} {base : Heap} {x qual : Str} {st : Stmt} {f : Addr} {fd : FuncData} {N ps : List Str} {k : Nat} {F : En → Option Out} (Fu : Fun K x qual st f fd) (S : FnScope N ps (defScope st))
    (body : ∀ (cdv : Value) (A : Around) (outer : List Env) (s : Shared) (H : Hp) (O : List Addr) (E : XK), Room k (A.deeper (envOfC qual (defScope st) s.heap.objs.size f cdv)) →
      ∃ t, XSs (cxOf (L2.CX P w) P w K mg base N qual (defScope st) f cdv A outer s H E) ⟨K, H, O, [], none, fun cls d _ H => E cls d H⟩ (defBody st) t F) :
    FnOk P w K mg base (L2.CX P w) (k + 1) f fd ps (spX K ps.length (gX ps.length N.length F)) := by
  refine Fu.okX S (fun vs H Q E h => h.1) fun cdv A outer s H vs Q E hr hsp => ?_
  obtain ⟨hl, O, ds, r, mu, ha, hg, q⟩ := hsp
  obtain ⟨t, ht⟩ := body cdv A outer s H O E hr
  refine ⟨t, ht.pe, ?_⟩
  unfold gX at hg
  split at hg
  · obtain ⟨o, h1, h2⟩ := bind_some hg
    refine ht.de _ _ H O o (rs_startW mu ha) h1 _ ?_
    have fin : ∀ {ρ' : En} {σ' : L2.St} {H' : Hp} {O' : List Addr}, RS K ⟨K, H, O, [], none, fun cls d _ H => E cls d H⟩ ρ' σ' H' O' → Same H H' ∧ ∀ a ∈ O, a ∈ O' :=
      fun R => ⟨fun a o e => R.same a o (by simp) e, fun a ha => (R.sub0 a ha).1⟩
    cases o with
    | nx ρ1 =>
      have h2 : RvX.ok (.v .none) = r := Option.some.inj h2
      subst h2
      exact fun σ' H' O' R _ => q _ H' (fin R).1 Dq.non
    | rt d =>
      have h2 : RvX.ok (.v d) = r := Option.some.inj h2
      subst h2
      exact fun v ρ' σ' H' O' R x => q v H' (fin R).1 (Dq.mono (hid_less (fin R).2) _ _ x)
    | rl es =>
      have h2 : RvX.ok (.l es) = r := Option.some.inj h2
      subst h2
      refine fun l us ρ' σ' H' O' R n hl x y => q _ H' (fin R).1 ⟨l, us, rfl, n, hl, ?_⟩
      have sub : ∀ a ∈ l :: O, a ∈ l :: O' := fun a ha => by
        rcases List.mem_cons.mp ha with e | ha
        · rw [e]; exact List.mem_cons_self
        · exact List.mem_cons_of_mem _ ((fin R).2 a ha)
      by_cases hm : l ∈ O'
      · refine DqAll.mono (hid_less fun a ha => ?_) _ _ x
        rcases List.mem_cons.mp (sub a ha) with e | ha
        · rw [e]; exact hm
        · exact ha
      · exact DqAll.mono (hid_less sub) _ _ (y hm)
    | bk _ => cases h2
    | ct _ => cases h2
    | rp _ _ => cases h2
    | ex nm d =>
      have h2 : RvX.ex nm d = r := Option.some.inj h2
      subst h2
      exact fun C dd v ρ' σ' H' O' R hC h0 h3 h4 x => q C dd v H' hC (fin R).1 h0 h3 (Dq.mono (hid_less (fin R).2) _ _ x)
  · cases hg
structure DFX (P : Program) (w : World) (K : PySem.W.Frag) (mg : Str → Option Value) (base : Heap) (k : Nat) (x : Str) (n : Nat) (g : List D → Option RvX) : Prop where
  ex : ∃ f fd ps, FnOk P w K mg base (L2.CX P w) k f fd ps (spX K n g) ∧ mg x = some (.ref f) ∧ PySem.W.keepIn K (.ref f) = true ∧ Binds K fd ps []
  len : ∀ ds, g ds ≠ none → ds.length = n
theorem dfx_mk {P : Program} {w : World} {K : PySem.W.Frag} {mg : Str → Option Value} {base : Heap} {k n m : Nat} {x qual : Str} {st : Stmt} {f : Addr} {fd : FuncData} {ps : List Str} {F : En → Option Out} (Fu : Fun K x qual st f fd) (hn : ps.length = n) (h : FnOk P w K mg base (L2.CX P w) k f fd ps (spX K n (gX n m F))) (hm : mg x = some (.ref f)) (hb : Binds K fd ps []) :
    DFX P w K mg base k x n (gX n m F) := ⟨⟨f, fd, ps, h, hm, Fu.kp, hb⟩, gX_len⟩
/-! ### such a def is called where nothing is raised -/
def EF : L2.St → XK := fun _ _ _ _ => False
theorem pass_no {X : Cx} {P : Program} {w : World} (σ : L2.St) : PassesAt (L2.CX P w) X σ (EF σ) := fun _ _ _ _ _ _ c => by
  obtain ⟨_, _, _, _, _, _, _, _, _, _, _, _, z⟩ := c
  exact z.elim
theorem noX_some {g : List D → Option RvX} {ds : List D} {r : Rv} (h : noX g ds = some r) : g ds = some (.ok r) := by
  unfold noX at h
  split at h
  · rename_i h1; cases h; exact h1
  · cases h
section
variable {X : Cx} {B : Bs} {k n : Nat} {x : Str} {g : List D → Option RvX} {ex : Expr} {es : List Expr} {p pos : Pos} {ta : TA} {a : En → Option (List D)}
theorem x_callN (F : DFX X.prog X.w X.K X.mg X.base k x n g) (hr : Room k X.A) (ha : XA X B (ex :: es) ta a) (hg : Gl X x := by rfl) (hdb : (x == ("__debug__" : Str)) = false := by decide) (he : starEach (ex :: es) X.env = (false, eval ex X.env) :: starEach es X.env := by rfl)
    (hpl : (backTo pos (starEach es X.env)).any (·.1) = false := by rfl) (hk : X.K = B.K := by rfl) :
    XE X B (.Call (.Name x p) (ex :: es) [] pos) (tCallS (spX B.K n g) EF ta) (eCall (fun ds => toD (noX g ds)) a) := by
  obtain ⟨⟨f, fd, ps, F, hm, hkp, hb⟩, hn⟩ := F
  refine ⟨hk ▸ pe_callS F hr hg hm hkp hb (fun σ => pass_no σ) ha.pe hdb he hpl, fun ρ σ H O z R e Q q => ?_⟩
  obtain ⟨ds, h1, e⟩ := bind_some e
  obtain ⟨r, h2, h3⟩ := map_some e
  subst h3
  refine ha.de ρ σ H O ds R h1 _ fun vs H1 s y => ?_
  have h2 := noX_some h2
  have R1 := R.grow s
  exact ⟨by rw [y.length]; exact hn ds (by rw [h2]; simp), O, ds, _, R1.mu, y, h2, fun v H2 s2 y2 => q v H2 (s.trans s2) (y2.d R1)⟩
theorem l_callN (F : DFX X.prog X.w X.K X.mg X.base k x n g) (hr : Room k X.A) (ha : XA X B (ex :: es) ta a) (hg : Gl X x := by rfl) (hdb : (x == ("__debug__" : Str)) = false := by decide) (he : starEach (ex :: es) X.env = (false, eval ex X.env) :: starEach es X.env := by rfl)
    (hpl : (backTo pos (starEach es X.env)).any (·.1) = false := by rfl) (hk : X.K = B.K := by rfl) :
    XL X B (.Call (.Name x p) (ex :: es) [] pos) (tCallS (spX B.K n g) EF ta) (eCall (fun ds => toL (noX g ds)) a) := by
  obtain ⟨⟨f, fd, ps, F, hm, hkp, hb⟩, hn⟩ := F
  refine ⟨hk ▸ pe_callS F hr hg hm hkp hb (fun σ => pass_no σ) ha.pe hdb he hpl, fun ρ σ H O z R e Q q => ?_⟩
  obtain ⟨ds, h1, e⟩ := bind_some e
  obtain ⟨r, h2, h3⟩ := bind_some e
  refine ha.de ρ σ H O ds R h1 _ fun vs H1 s y => ?_
  have h2 := noX_some h2
  have R1 := R.grow s
  refine ⟨by rw [y.length]; exact hn ds (by rw [h2]; simp), O, ds, _, R1.mu, y, h2, fun v H2 s2 y2 => ?_⟩
  cases r with
  | v d => cases h3
  | l es =>
    have h3 : es = z := Option.some.inj h3
    subst h3
    obtain ⟨l, us, rfl, b, c, d⟩ := y2
    exact q l us H2 (s.trans s2) (s.free b) c d
end

/-! ### try: [x =] f(..) / except OneError as e: kept = e -/
def tryK (i j : Nat) (ok : Rv → En → En) (g : List D → Option RvX) (a : En → Option (List D)) : En → Option Out := fun ρ => (a ρ).bind fun ds => match g ds with
  | some (.ok r) => some (.nx (ok r ρ))
  | some (.ex nm d) => if exN nm = true ∧ i < ρ.length then some (.nx ((ρ.set j (some (.xc nm d))).set i none)) else none
  | none => none
def sTryA (i j k : Nat) (g : List D → Option RvX) (a : En → Option (List D)) : En → Option Out := tryK i j (fun r ρ => ρ.set k (some (.ro r.d))) g a
def sTryB (i j : Nat) (g : List D → Option RvX) (a : En → Option (List D)) : En → Option Out := tryK i j (fun _ ρ => ρ) g a
def tsK (i j : Nat) : Addr → Value → Option Addr → TS := fun _ _ _ => tAsg (tVar i) (gName j)
section
variable {K : PySem.W.Frag} {B : Bs} {ρ : En} {σ : L2.St} {H H' : Hp} {O : List Addr}
theorem set_out {α : Type} {σ : List α} {i j : Nat} {x y z : α} : ((σ.set i x).set j y).set i z = (σ.set j y).set i z := by
  by_cases h : i = j
  · subst h; rw [List.set_set, List.set_set, List.set_set]
  · rw [List.set_comm _ _ h, List.set_set]
theorem wish_kept {i j : Nat} {En1 : Ends} {H1 H2 : Hp} {C d C1 : Addr} {v : V} {nm : Str} {at_ : D} {mg : Str → Option Value} (A : ExAll B.K mg) (hC1 : clsOf B.K "OneError" = some C1) (R1 : RS B.K B ρ σ H1 O) (hnm : exN nm = true) (hlt : i < ρ.length) (hi : free B i = true) (hj : free B j = true)
    (hC : clsOf B.K nm = some C) (s2 : Same H1 H2) (d0 : H1 d = none) (hd : H2 d = some (.xd [(("at" : Str), v)])) (hv : Dq B.K (hid H2 O) v at_)
    (q : ∀ σ' H', RS B.K B ((ρ.set j (some (.xc nm at_))).set i none) σ' H' O → Same (hid H1 O) (hid H' O) → En1.nx σ' H') : wKeep B.K (.ref C1) i (tsK i j) En1 (.ref C) (some d) σ H2 := by
  refine ⟨A.one nm C C1 hC hnm hC1, fun a ha => ?_⟩
  have hl : i < σ.length := by rw [← R1.len]; exact hlt
  refine ⟨.ref a, List.getElem?_set_self hl, ?_⟩
  show En1.nx (((σ.set i (some (V.ref a))).set j (some (V.ref a))).set i none) (upd H2 a (ExK (.ref C) (some d) a))
  rw [set_out]
  have R2 : RS B.K B ρ σ H2 O := R1.grow s2
  have aO : a ∉ O := R2.fresh ha
  have s3 : Same H2 (upd H2 a (ExK (.ref C) (some d) a)) := fun b o e => by
    rw [upd_ne (ne_of_none e ha)]; exact e
  have R3 : RS B.K B ρ σ (upd H2 a (ExK (.ref C) (some d) a)) O := R2.grow s3
  have dO : d ∉ O := R1.fresh d0
  have R4 : RS B.K B (ρ.set j (some (.xc nm at_))) (σ.set j (some (V.ref a))) (upd H2 a (ExK (.ref C) (some d) a)) O := by
    refine R3.setSV ⟨a, d, C, v, rfl, ?_, hC, ?_, ?_⟩ (pin_set R3 hj) fun k s' e ow _ z => ?_
    · rw [hid_out aO, upd_same]
    · rw [hid_out dO]; exact s3 _ _ hd
    · exact Dq.mono (hid_grow s3) _ _ hv
    · obtain ⟨u, e1, e2⟩ := R3.slot k s' e
      rw [e1] at z
      cases z
      cases s' with
      | ro _ => cases ow
      | lr _ => cases ow
      | xc _ _ => cases ow
      | ow _ => obtain ⟨l2, vs2, eu, b1, _⟩ := e2; cases eu; exact aO b1
      | oK _ _ => obtain ⟨l2, vs2, eu, b1, _⟩ := e2; cases eu; exact aO b1
  exact q _ _ (R4.clear i hi) (hid_grow (s2.trans s3))
theorem ds_tryA {i j k n : Nat} {g : List D → Option RvX} {ta : TA} {a : En → Option (List D)} {C1 : Addr} {mg : Str → Option Value} (A : ExAll B.K mg) (hC1 : clsOf B.K "OneError" = some C1) (hn : ∀ ds, g ds ≠ none → ds.length = n) (hi : free B i = true) (hj : free B j = true) (hk : free B k = true) (h : DA B.K B ta a) :
    DS B.K B (fun D σ H => tAsg (tCallS (spX B.K n g) (WE (wKeep B.K (.ref C1) i (tsK i j) D)) ta) (gName k) D σ H) (sTryA i j k g a) := fun ρ σ H O o R e D q => by
  obtain ⟨ds, h1, e⟩ := bind_some e
  refine h ρ σ H O ds R h1 _ fun vs H1 s x => ?_
  have R1 := R.grow s
  cases hg : g ds with
  | none => rw [hg] at e; cases e
  | some r =>
    rw [hg] at e
    refine ⟨by rw [x.length]; exact hn ds (by rw [hg]; simp), O, ds, r, R1.mu, x, hg, ?_⟩
    cases r with
    | ok r =>
      cases e
      exact fun v H2 s2 y => q _ H2 O ((R1.grow s2).setRo hk (y.d R1)) (hid_grow (s.trans s2))
    | ex nm d =>
      dsimp only at e
      split at e
      · rename_i hc
        cases e
        exact fun C dd v H2 hC s2 d0 hd hv => wish_kept A hC1 R1 hc.1 hc.2 hi hj hC s2 d0 hd hv fun σ' H' R' s' => q σ' H' O R' ((hid_grow s).trans s')
      · cases e
theorem ds_tryB {i j n : Nat} {g : List D → Option RvX} {ta : TA} {a : En → Option (List D)} {C1 : Addr} {mg : Str → Option Value} (A : ExAll B.K mg) (hC1 : clsOf B.K "OneError" = some C1) (hn : ∀ ds, g ds ≠ none → ds.length = n) (hi : free B i = true) (hj : free B j = true) (h : DA B.K B ta a) :
    DS B.K B (fun D σ H => tDrop (tCallS (spX B.K n g) (WE (wKeep B.K (.ref C1) i (tsK i j) D)) ta) D σ H) (sTryB i j g a) := fun ρ σ H O o R e D q => by
  obtain ⟨ds, h1, e⟩ := bind_some e
  refine h ρ σ H O ds R h1 _ fun vs H1 s x => ?_
  have R1 := R.grow s
  cases hg : g ds with
  | none => rw [hg] at e; cases e
  | some r =>
    rw [hg] at e
    refine ⟨by rw [x.length]; exact hn ds (by rw [hg]; simp), O, ds, r, R1.mu, x, hg, ?_⟩
    cases r with
    | ok r =>
      cases e
      exact fun v H2 s2 y => q _ H2 O (R1.grow s2) (hid_grow (s.trans s2))
    | ex nm d =>
      dsimp only at e
      split at e
      · rename_i hc
        cases e
        exact fun C dd v H2 hC s2 d0 hd hv => wish_kept A hC1 R1 hc.1 hc.2 hi hj hC s2 d0 hd hv fun σ' H' R' s' => q σ' H' O R' ((hid_grow s).trans s')
      · cases e
end
section
variable {X : Cx} {B : Bs} {i j k m n : Nat} {x en kn tn : Str} {g : List D → Option RvX} {ex : Expr} {es : List Expr} {p pos p1 p3 np p5 p6 p7 p8 p9 : Pos} {ta : TA} {a : En → Option (List D)} {C1 : Addr}
theorem s_tryA (i j k : Nat) (F : DFX X.prog X.w X.K X.mg X.base m x n g) (A : ExAll B.K X.mg) (hC1 : clsOf B.K "OneError" = some C1) (hr : Room m X.A) (ha : ∀ pn xe, XA (X.tr pn xe) B (ex :: es) ta a) (hN : X.N.Nodup)
    (hs : X.stack = X.env :: X.outer := by rfl) (hf : X.env.frame = some X.env.locals := by rfl) (hex : X.ex = [] := by rfl) (hi : X.N[i]? = some en := by rfl) (hj : X.N[j]? = some kn := by rfl) (hk : X.N[k]? = some tn := by rfl)
    (li : X.env.kindOf en = some .local := by rfl) (lj : X.env.kindOf kn = some .local := by rfl) (lk : X.env.kindOf tn = some .local := by rfl) (vi : Vis X.env.scope en := by exact Or.inl rfl)
    (hg : Gl X x := by rfl) (hg1 : Gl X "OneError" := by rfl) (hdb : (x == ("__debug__" : Str)) = false := by decide) (hde : (en == ("__debug__" : Str)) = false := by decide) (hcd : (en == ("__classdict__" : Str)) = false := by decide) (he : starEach (ex :: es) X.env = (false, eval ex X.env) :: starEach es X.env := by rfl)
    (hpl : (backTo pos (starEach es X.env)).any (·.1) = false := by rfl) (hsw : swapsWith (.Call (.Name x p) (ex :: es) [] pos) (some (.Name tn p1)) p3.line X.env = pure false := by rfl) (hsw2 : swapsWith (.Name en p6) (some (.Name kn p5)) p7.line X.env = pure false := by rfl)
    (fi : free B i = true := by rfl) (fj : free B j = true := by rfl) (fk : free B k = true := by rfl) (hK : X.K = B.K := by rfl) :
    XS X B (.Try [.Assign [.Name tn p1] (.Call (.Name x p) (ex :: es) [] pos) p3] [.ExceptHandler (some (.Name "OneError" np)) (some en) [.Assign [.Name kn p5] (.Name en p6) p7] p8] [] [] p9)
      (fun D σ H => tAsg (tCallS (spX B.K n g) (WE (wKeep B.K (.ref C1) i (tsK i j) D)) ta) (gName k) D σ H) (sTryA i j k g a) := by
  have ha0 := ha [] (fun _ _ => True)
  obtain ⟨⟨f, fd, ps, F, hm, hkp, hb⟩, hn⟩ := F
  refine ⟨?_, ds_tryA A hC1 hn fi fj fk ha0.de⟩
  have m1 : X.mg "OneError" = some (.ref C1) := A.mgN "OneError" C1 (.inr (.inr rfl)) hC1
  have PS1 := ps_try_keep (X := X) (i := i) (x := "OneError") (n := en) (c := .ref C1) (np := np) (pos := p9) (pos' := p8) (body := [.Assign [.Name tn p1] (.Call (.Name x p) (ex :: es) [] pos) p3]) (b₀ := .Assign [.Name kn p5] (.Name en p6) p7) (suite := [])
    (tb := fun W => tAsg (tCallS (spX X.K n g) (WE W) ta) (gName k)) (ts := tsK i j) hs hf hex hN hi li ⟨hg1, by decide, .inl m1⟩
    (fun W pn xe tk => pss_one (ps_set (X := X.tr pn xe) (i := k) hN hk (Or.inl lk) (pe_callS (X := X.tr pn xe) F hr hg hm hkp hb (fun σ => passAt tk σ) (ha pn xe).pe hdb he hpl) hsw (.inr lk)))
    (fun a oe cls d pn => pss_one (ps_set (X := X.suite a ((a, oe) :: pn)) (i := j) hN hj (Or.inl lj) (pe_var (X := X.suite a ((a, oe) :: pn)) hi vi hde hcd) hsw2 (.inr lj)))
  rw [hK] at PS1
  exact PS1
theorem s_tryB (i j : Nat) (F : DFX X.prog X.w X.K X.mg X.base m x n g) (A : ExAll B.K X.mg) (hC1 : clsOf B.K "OneError" = some C1) (hr : Room m X.A) (ha : ∀ pn xe, XA (X.tr pn xe) B (ex :: es) ta a) (hN : X.N.Nodup)
    (hs : X.stack = X.env :: X.outer := by rfl) (hf : X.env.frame = some X.env.locals := by rfl) (hex : X.ex = [] := by rfl) (hi : X.N[i]? = some en := by rfl) (hj : X.N[j]? = some kn := by rfl)
    (li : X.env.kindOf en = some .local := by rfl) (lj : X.env.kindOf kn = some .local := by rfl) (vi : Vis X.env.scope en := by exact Or.inl rfl)
    (hg : Gl X x := by rfl) (hg1 : Gl X "OneError" := by rfl) (hdb : (x == ("__debug__" : Str)) = false := by decide) (hde : (en == ("__debug__" : Str)) = false := by decide) (hcd : (en == ("__classdict__" : Str)) = false := by decide) (he : starEach (ex :: es) X.env = (false, eval ex X.env) :: starEach es X.env := by rfl)
    (hpl : (backTo pos (starEach es X.env)).any (·.1) = false := by rfl) (hsw : swapsWith (.Call (.Name x p) (ex :: es) [] pos) none p3.line X.env = pure false := by rfl) (hsw2 : swapsWith (.Name en p6) (some (.Name kn p5)) p7.line X.env = pure false := by rfl)
    (fi : free B i = true := by rfl) (fj : free B j = true := by rfl) (hK : X.K = B.K := by rfl) :
    XS X B (.Try [.Expr (.Call (.Name x p) (ex :: es) [] pos) p3] [.ExceptHandler (some (.Name "OneError" np)) (some en) [.Assign [.Name kn p5] (.Name en p6) p7] p8] [] [] p9)
      (fun D σ H => tDrop (tCallS (spX B.K n g) (WE (wKeep B.K (.ref C1) i (tsK i j) D)) ta) D σ H) (sTryB i j g a) := by
  have ha0 := ha [] (fun _ _ => True)
  obtain ⟨⟨f, fd, ps, F, hm, hkp, hb⟩, hn⟩ := F
  refine ⟨?_, ds_tryB A hC1 hn fi fj ha0.de⟩
  have m1 : X.mg "OneError" = some (.ref C1) := A.mgN "OneError" C1 (.inr (.inr rfl)) hC1
  have PS1 := ps_try_keep (X := X) (i := i) (x := "OneError") (n := en) (c := .ref C1) (np := np) (pos := p9) (pos' := p8) (body := [.Expr (.Call (.Name x p) (ex :: es) [] pos) p3]) (b₀ := .Assign [.Name kn p5] (.Name en p6) p7) (suite := [])
    (tb := fun W => tDrop (tCallS (spX X.K n g) (WE W) ta)) (ts := tsK i j) hs hf hex hN hi li ⟨hg1, by decide, .inl m1⟩
    (fun W pn xe tk => pss_one (ps_expr (X := X.tr pn xe) (pe_callS (X := X.tr pn xe) F hr hg hm hkp hb (fun σ => passAt tk σ) (ha pn xe).pe hdb he hpl) hsw))
    (fun a oe cls d pn => pss_one (ps_set (X := X.suite a ((a, oe) :: pn)) (i := j) hN hj (Or.inl lj) (pe_var (X := X.suite a ((a, oe) :: pn)) hi vi hde hcd) hsw2 (.inr lj)))
  rw [hK] at PS1
  exact PS1
end

/-! ### such an exception is made and raised -/
def spInit (K : PySem.W.Frag) : Sp := fun vs H Q _ => ∃ (a C : Addr) (wv v : V), vs = [.ref a, wv, v] ∧ OexC K C ∧ PySem.W.findIn K (.ref C) "at" = some none ∧ H a = some (exo a C none) ∧
  ∀ dx, H dx = none → dx ≠ a → Q .non (upd (upd H dx (exd dx [(("at" : Str), v)])) a (exo a C (some dx)))
def tInit (K : PySem.W.Frag) : TS := tSeq (tDrop (tVeI K (tCons (tVar 0) (tCons (tVar 1) tNil)))) (tOst K "at" (tVar 0) (tVar 2))
theorem pure_init {K : PySem.W.Frag} (vs : List V) (H : Hp) (Q : VK) (E : XK) (h : spInit K vs H Q E) : tInit K { nx := fun _ H' => Q .non H', rt := Q } (start ["self", "words", "at"] vs) H := by
  obtain ⟨a, C, wv, v, rfl, T, na, ha, q⟩ := h
  exact ⟨_, rfl, _, rfl, a, C, [wv], rfl, by show 1 ≤ 1000; decide, T, ha, _, rfl, _, rfl, a, C, rfl, T, na, .inl ⟨ha, fun dx h1 h2 => q dx h1 h2⟩⟩
/-- what the written part says of the making -/
structure RaiseF (P : Program) (w : World) (K : PySem.W.Frag) (mg : Str → Option Value) (base : Heap) (k : Nat) : Prop where
  ini : ∃ f1 fd, FnOk P w K mg base CX0 k f1 fd ["self", "words", "at"] (spInit K) ∧ Binds K fd ["self", "words", "at"] [] ∧ PySem.W.typeIn K (.ref f1) = some (.type "function") ∧
    ∀ nm C, clsOf K nm = some C → exN nm = true → OexC K C ∧ PySem.W.findIn K (.ref C) "__init__" = some (some (.ref f1))
  all : ExAll K mg
def sRaise (nm : Str) (f : En → Option D) : En → Option Out := fun ρ => (f ρ).map fun d => .ex nm d
section
variable {X : Cx} {B : Bs} {k : Nat} {nm wd : Str} {C : Addr} {ex : Expr} {te : TE} {f : En → Option D} {jk : Option Str} {p pos pos2 pw : Pos}
theorem s_raise (RF : RaiseF X.prog X.w X.K X.mg X.base k) (hC : clsOf X.K nm = some C) (hn : nm = "NoProgram" ∨ nm = "NoTree") (hr : Room (k + 1) X.A) (tk : Takes X B.W) (hw : PE X (.Constant (.str wd) 0 pw) (tC (.str wd))) (ha : XE X B ex te f)
    (hc : X.calm = true := by rfl) (hg : Gl X nm := by rfl) (hdb : (nm == ("__debug__" : Str)) = false := by decide)
    (he : starEach (.Constant (.str wd) 0 pw :: [ex]) X.env = (false, eval (.Constant (.str wd) 0 pw) X.env) :: starEach [ex] X.env := by rfl) (h1 : starEach (ex :: []) X.env = (false, eval ex X.env) :: starEach [] X.env := by rfl)
    (hpl : (backTo pos (starEach [ex] X.env)).any (·.1) = false := by rfl) (hK : X.K = B.K := by rfl) :
    XS X B (.Raise (some (.Call (.Name nm p) [.Constant (.str wd) 0 pw, ex] [] pos)) none pos2) (fun _ σ H => tMkO C (spInit X.K) [] (tCons (tC (.str wd)) (tCons te tNil)) σ H fun cls d H' => B.W cls d σ H') (sRaise nm f) := by
  obtain ⟨⟨f1, fd, F1, hb, tI, hcl⟩, A⟩ := RF
  have hnm : exN nm = true := by
    rcases hn with h | h <;> (subst h; decide +kernel)
  obtain ⟨T, iC⟩ := hcl nm C hC hnm
  have hm : X.mg nm = some (.ref C) := A.mgN nm C (by rcases hn with h | h; exact .inl h; exact .inr (.inl h)) hC
  have na := (A.F nm C hC hnm).na
  refine ⟨ps_raise hc tk (pmk_oex T iC tI F1 hr hb .nil pass0 hg hm (pa_cons hw (pa_cons ha.pe pa_nil h1) he) hdb he hpl), fun ρ σ H O o R e D q => ?_⟩
  obtain ⟨d, h2, e⟩ := map_some e
  subst e
  show te σ H _
  refine ha.de ρ σ H O d R h2 _ fun v H1 s x => ⟨by show 2 ≤ 1000; decide, fun a ha => ⟨a, C, _, v, rfl, T, na, upd_same, fun dx hdx hne => ?_⟩⟩
  have R1 := R.grow s
  have h0 : H1 dx = none := by rw [upd_ne hne] at hdx; exact hdx
  refine ⟨rfl, dx, [(("at" : Str), v)], upd_same, by rw [upd_ne hne, upd_same], h0, ?_⟩
  have s3 : Same H1 (upd (del (upd (upd (upd H1 a (exo a C none)) dx (exd dx [(("at" : Str), v)])) a (exo a C (some dx))) a) dx (.xd [(("at" : Str), v)])) := fun b o e => by
    have n1 : b ≠ a := ne_of_none e ha
    have n2 : b ≠ dx := ne_of_none e h0
    rw [upd_ne n2, del_ne n1, upd_ne n1, upd_ne n2, upd_ne n1]
    exact e
  exact q C dx v ρ σ _ O (R1.grow s3) (hK ▸ hC) (R1.fresh0 h0) upd_same (R1.fresh h0) (Dq.mono (hid_grow s3) _ _ x)
end
section
variable {X : Cx} {B : Bs} {i : Nat} {pos : Pos} {ex e0 : Expr}
theorem t_kNon (ha : PE X ex (tVar i)) (hz : PE X e0 (tC .non)) (hm : behindInMarks .Is e0 = false := by rfl) : XT X B (.Compare ex [.Is] [e0] pos) (tTest (tOp rIsA (tVar i) (tC .non))) (asB (kNon false i)) :=
  ⟨pt_cmpR op_isA ha hz hm, dt_test (x_kNon (pos := pos) ha hz hm).de⟩
end
theorem exn_cases {nm : Str} (h : exN nm = true) : nm = "NoProgram" ∨ nm = "NoTree" := by
  unfold exN at h
  rcases Bool.or_eq_true_iff.mp h with h | h
  · exact .inl (eq_of_beq h)
  · exact .inr (eq_of_beq h)
/-- from what the written part says of each class -/
theorem exall_mk {K : PySem.W.Frag} {mg : Str → Option Value} {CP CT C1 : Addr} (hP : clsOf K "NoProgram" = some CP) (hT : clsOf K "NoTree" = some CT) (h1 : clsOf K "OneError" = some C1) (fP : ExF K CP) (fT : ExF K CT) (G : ClF K)
    (pp : PySem.W.kitOne K (.ref CP) (.ref CP) = some true) (pt : PySem.W.kitOne K (.ref CP) (.ref CT) = some false) (tp : PySem.W.kitOne K (.ref CT) (.ref CP) = some false) (tt : PySem.W.kitOne K (.ref CT) (.ref CT) = some true)
    (pv : PySem.W.kitOne K (.ref CP) (.type "ValueError") = some true) (tv : PySem.W.kitOne K (.ref CT) (.type "ValueError") = some true)
    (np : PySem.W.kitOne K (.type "NoneType") (.ref CP) = some false) (nt : PySem.W.kitOne K (.type "NoneType") (.ref CT) = some false) (nv : PySem.W.kitOne K (.type "NoneType") (.type "ValueError") = some false)
    (op : PySem.W.exmOne K (.ref CP) (.ref C1) = some true) (ot : PySem.W.exmOne K (.ref CT) (.ref C1) = some true) (mP : mg "NoProgram" = some (.ref CP)) (mT : mg "NoTree" = some (.ref CT)) (m1 : mg "OneError" = some (.ref C1)) (mV : mg "ValueError" = none) : ExAll K mg where
  F := fun nm C hC h => by
    rcases exn_cases h with rfl | rfl
    · rw [hP] at hC; cases hC; exact fP
    · rw [hT] at hC; cases hC; exact fT
  G := G
  own := fun nm C b C' hC hb hC' r hr => by
    have c0 : ((Str.ofString "NoTree") = (Str.ofString "NoProgram")) = False := eq_false (by decide +kernel)
    have c1 : ((Str.ofString "NoProgram") = (Str.ofString "NoTree")) = False := eq_false (by decide +kernel)
    have hn : nm = "NoProgram" ∨ nm = "NoTree" := by
      unfold subN at hr
      split at hr
      · rename_i h; exact .inl h
      · split at hr
        · rename_i h; exact .inr h
        · cases hr
    rcases hn with rfl | rfl <;> rcases hb with rfl | rfl
    · rw [hP] at hC hC'; cases hC; cases hC'
      have : true = r := by unfold subN at hr; simpa using hr
      subst this; exact pp
    · rw [hP] at hC; rw [hT] at hC'; cases hC; cases hC'
      have : false = r := by unfold subN at hr; rw [if_pos rfl, if_neg (by rw [c0]; exact id), if_pos rfl] at hr; exact Option.some.inj hr
      subst this; exact pt
    · rw [hT] at hC; rw [hP] at hC'; cases hC; cases hC'
      have : false = r := by unfold subN at hr; rw [if_neg (by rw [c0]; exact id), if_pos rfl, if_pos rfl] at hr; exact Option.some.inj hr
      subst this; exact tp
    · rw [hT] at hC hC'; cases hC; cases hC'
      have : true = r := by unfold subN at hr; rw [if_neg (by rw [c0]; exact id), if_pos rfl, if_neg (by rw [c0]; exact id), if_pos rfl] at hr; exact Option.some.inj hr
      subst this; exact tt
  ve := fun nm C hC h => by
    rcases exn_cases h with rfl | rfl
    · rw [hP] at hC; cases hC; exact pv
    · rw [hT] at hC; cases hC; exact tv
  non := fun b C' hb hC' => by
    rcases hb with rfl | rfl
    · rw [hP] at hC'; cases hC'; exact np
    · rw [hT] at hC'; cases hC'; exact nt
  nve := nv
  one := fun nm C C' hC h hC' => by
    rw [h1] at hC'; cases hC'
    rcases exn_cases h with rfl | rfl
    · rw [hP] at hC; cases hC; exact op
    · rw [hT] at hC; cases hC; exact ot
  mgN := fun b C hb hC => by
    rcases hb with rfl | rfl | rfl
    · rw [hP] at hC; cases hC; exact mP
    · rw [hT] at hC; cases hC; exact mT
    · rw [h1] at hC; cases hC; exact m1
  has := fun b hb => by
    rcases hb with rfl | rfl | rfl
    · exact ⟨_, hP⟩
    · exact ⟨_, hT⟩
    · exact ⟨_, h1⟩
  mgV := mV
theorem cls_of {K : PySem.W.Frag} {nm : Str} {C : Addr} (h : PySem.W.nsIn K mainGlobals nm = some (some (.ref C))) : clsOf K nm = some C := by
  unfold clsOf; rw [h]
theorem raise_mk {P : Program} {w : World} {K : PySem.W.Frag} {mg : Str → Option Value} {base : Heap} {k : Nat} {CP CT f1 : Addr} {fd : FuncData} (A : ExAll K mg) (hP : clsOf K "NoProgram" = some CP) (hT : clsOf K "NoTree" = some CT) (F : FnOk P w K mg base CX0 k f1 fd ["self", "words", "at"] (spInit K))
    (hb : Binds K fd ["self", "words", "at"] []) (tI : PySem.W.typeIn K (.ref f1) = some (.type "function")) (oP : OexC K CP) (oT : OexC K CT) (iP : PySem.W.findIn K (.ref CP) "__init__" = some (some (.ref f1))) (iT : PySem.W.findIn K (.ref CT) "__init__" = some (some (.ref f1))) : RaiseF P w K mg base k :=
  ⟨⟨f1, fd, F, hb, tI, fun nm C hC h => by
    rcases exn_cases h with rfl | rfl
    · rw [hP] at hC; cases hC; exact ⟨oP, iP⟩
    · rw [hT] at hC; cases hC; exact ⟨oT, iT⟩⟩, A⟩
theorem kit_cl {K : PySem.W.Frag} {t : Value} {C : Addr} {b : Bool} (i : PySem.W.isClsIn K C = true) (y : PySem.W.typeIn K (.ref C) = some (.type "type")) (s : PySem.W.subIn K t (.ref C) = some b) : PySem.W.kitCls K t (.ref C) = some b := by
  have i' : (PySem.W.clsIn K C).isSome = true := i
  show (if ((PySem.W.clsIn K C).isSome && PySem.W.typeIn K (.ref C) == some (.type "type")) = true then PySem.W.subIn K t (.ref C) else none) = some b
  rw [if_pos (by rw [i', y]; rfl)]
  exact s
theorem kit_self {K : PySem.W.Frag} {t : Value} : PySem.W.kitOne K t t = some true := if_pos (by simp)
theorem kit_two {K : PySem.W.Frag} {C C' : Addr} {b : Bool} (i : PySem.W.isClsIn K C' = true) (y : PySem.W.typeIn K (.ref C') = some (.type "type")) (s : PySem.W.subIn K (.ref C) (.ref C') = some b) (s' : PySem.W.subIn K (.ref C) (.ref C) = some true) : PySem.W.kitOne K (.ref C) (.ref C') = some b := by
  unfold PySem.W.kitOne
  split
  · rename_i h
    cases eq_of_beq h
    rw [s] at s'
    exact s'.symm
  · exact kit_cl i y s
theorem kit_ve {K : PySem.W.Frag} {C : Addr} {b : Bool} (s : PySem.W.subIn K (.ref C) (.type "ValueError") = some b) : PySem.W.kitOne K (.ref C) (.type "ValueError") = some b := by
  have m : PySem.W.kitMeta "ValueError" = true := by decide +kernel
  unfold PySem.W.kitOne
  rw [if_neg fun z => by cases eq_of_beq z]
  show (if PySem.W.kitMeta "ValueError" = true then PySem.W.subIn K (.ref C) (.type "ValueError") else none) = some b
  rw [if_pos m]
  exact s
theorem kit_nn {K : PySem.W.Frag} {C : Addr} {b : Bool} (i : PySem.W.isClsIn K C = true) (y : PySem.W.typeIn K (.ref C) = some (.type "type")) (s : PySem.W.subIn K (.type "NoneType") (.ref C) = some b) : PySem.W.kitOne K (.type "NoneType") (.ref C) = some b := by
  unfold PySem.W.kitOne
  rw [if_neg fun z => by cases eq_of_beq z]
  exact kit_cl i y s
theorem kit_nv {K : PySem.W.Frag} : PySem.W.kitOne K (.type "NoneType") (.type "ValueError") = some false := kit_ty (by decide +kernel)
theorem exm_cl {K : PySem.W.Frag} {t : Value} {C : Addr} {b : Bool} (i : PySem.W.isClsIn K C = true) (y : PySem.W.typeIn K (.ref C) = some (.type "type")) (e : PySem.W.subIn K (.ref C) (.type "BaseException") = some true) (s : PySem.W.subIn K t (.ref C) = some b) : PySem.W.exmOne K t (.ref C) = some b := by
  unfold PySem.W.exmOne
  rw [if_pos (by rw [e]; rfl)]
  exact kit_cl i y s
/-! ### a part of a tuple as a key -/
def kysD (d : D) (l h : Option Int) : Option Ky := match d with
  | .tuple ds => if HT.sIx ds.length 0 l = 0 ∧ HT.sIx ds.length ds.length h = ds.length then none else (toKs (cutD ds l h)).map .inr
  | _ => none
def kyS (f : En → Option D) (fl fh : En → Option (Option Int)) : En → Option Ky := fun ρ => (f ρ).bind fun d => (fl ρ).bind fun l => (fh ρ).bind fun h => kysD d l h
theorem dky_sl {K : PySem.W.Frag} {B : Bs} {te : TE} {tl th : TO} {f : En → Option D} {fl fh : En → Option (Option Int)} (he : DB K B te f) (hl : DO K B tl fl) (hh : DO K B th fh) : DKy K B (tSl (rSlX K) te tl th) (kyS f fl fh) := fun ρ σ H O k R e Q q => by
  obtain ⟨d, h1, e⟩ := bind_some e
  obtain ⟨l, h2, e⟩ := bind_some e
  obtain ⟨h, h3, e⟩ := bind_some e
  refine he ρ σ H O d R h1 _ fun v H1 s1 x => hl ρ σ H1 O l (R.grow s1) h2 _ fun H2 s2 => hh ρ σ H2 O h (R.grow (s1.trans s2)) h3 _ fun H3 s3 => ?_
  have y := x.grow (R.grow s1) (s2.trans s3)
  unfold kysD at e
  split at e
  · rename_i ds
    split at e
    · cases e
    · rename_i hw
      obtain ⟨ks, h4, e⟩ := map_some e
      subst e
      obtain ⟨p, vs, rfl, hp, ap⟩ := y.tup
      refine .inl ⟨p, vs, rfl, SqT.mono (hid_self _ _) hp, fun c => ?_, fun _ r hr => ?_⟩
      · rw [ap.length] at c
        exact absurd c hw
      · refine q _ _ ((s1.trans (s2.trans s3)).trans (same_new _ hr)) ⟨r, rfl, ?_⟩
        rw [upd_same, dq_keys (cut_all ap l h) h4]
  · cases e
theorem ky_sl {X : Cx} {B : Bs} {ex : Expr} {lo hi : Option Expr} {p2 pos : Pos} {te : TE} {tl th : TO} {f : En → Option D} {fl fh : En → Option (Option Int)} (he : XB X B ex te f) (hl : XO X B lo tl fl) (hh : XO X B hi th fh) (hk : X.K = B.K := by rfl) :
    XKy X B (.Subscript ex (.Slice lo hi none p2) pos) (tSl (rSlX B.K) te tl th) (kyS f fl fh) := ⟨(x_sl he hl hh hk).pe, dky_sl he.de hl.de hh.de⟩
/-! ### list.insert -/
def rIns : V → List V → Hp → VK → Prop := fun x vs H Q => ∃ (l : Addr) (xs : List V) (i : Int) (y : V), x = .ref l ∧ vs = [.int i, y] ∧ H l = some (.lst xs) ∧ xs.length < sizeLine ∧ 0 ≤ i ∧ i < 2 ^ 63 ∧ Q .non (upd H l (.lst (xs.take i.toNat ++ [y] ++ xs.drop i.toNat)))
def sIns (i : Nat) (a : En → Option (List D)) : En → Option Out := fun ρ => match ρ[i]? with
  | some (some (.ow ds)) => match a ρ with
    | some [.int k, d] => if ds.length < 1000000 ∧ 0 ≤ k ∧ k < 1000000 then some (.nx (ρ.set i (some (.ow (ds.take k.toNat ++ [d] ++ ds.drop k.toNat))))) else none
    | _ => none
  | _ => none
theorem ds_ins {K : PySem.W.Frag} {B : Bs} {i : Nat} {ta : TA} {a : En → Option (List D)} (h : DA K B ta a) : DS K B (tDrop (tBM K "list" rIns (tVar i) ta)) (sIns i a) := fun ρ σ H O o R e D q => by
  unfold sIns at e
  split at e
  · rename_i ds hs
    split at e
    · rename_i k d ha
      split at e
      · rename_i c
        have e := Option.some.inj e
        subst e
        obtain ⟨v, hv, l, vs, rfl, b1, b2, b3, b4⟩ := R.slot _ _ hs
        refine ⟨_, hv, .inl ⟨rfl, vs, SqL.of b3⟩, h ρ σ H O _ R ha _ fun xs H1 s y => ?_⟩
        cases y with
        | cons y1 y2 =>
          cases y2 with
          | cons y2 y3 =>
            cases y3
            cases y1
            rename_i u
            refine ⟨l, vs, k, u, rfl, rfl, s _ _ b3, lineL (by rw [b4.length]; exact c.1), c.2.1, by omega, ?_⟩
            have R1 := R.grow s
            have b5 := DqAll.mono (hid_grow s) _ _ b4
            refine q σ _ O (R1.write hs hv (((b5.take k.toNat).append (.one y2)).append (b5.drop k.toNat))) ?_
            rw [hid_write _ b1]
            exact hid_grow s
      · cases e
    · cases e
  · cases e
section
variable {X : Cx} {B : Bs} {p p2 pos apos cpos : Pos} {ei ex : Expr} {ta : TA} {a : En → Option (List D)}
theorem s_ins (i : Nat) {on : Expr} (ho : PE X on (tVar i)) (ha : XA X B (ei :: [ex]) ta a)
    (hbase : attributeBase on "insert" X.env (eval on X.env) = eval on X.env := by rfl)
    (hfew : ((backTo cpos (starEach (ei :: [ex]) X.env)).all (fun x => !x.1) && (backToKw cpos (keywordEach [] X.env)).all (fun x => x.1.isSome)
      && decide ((ei :: [ex]).length + ([] : List Keyword).length + (if ([] : List Keyword).isEmpty then 0 else 1) < 30)) = true := by rfl)
    (hline : (apos.endLine == cpos.line) = true := by rfl) (hs1 : starEach (ei :: [ex]) X.env = (false, eval ei X.env) :: starEach [ex] X.env := by rfl) (hplain : (backTo cpos (starEach [ex] X.env)).any (·.1) = false := by rfl)
    (hs : swapsWith (.Call (.Attribute on "insert" apos) (ei :: [ex]) [] cpos) none pos.line X.env = pure false := by rfl) (hk : X.K = B.K := by rfl) :
    XS X B (.Expr (.Call (.Attribute on "insert" apos) (ei :: [ex]) [] cpos) pos) (tDrop (tBM B.K "list" rIns (tVar i) ta)) (sIns i a) :=
  ⟨hk ▸ ps_expr (pe_bm PySem.F.plainAttrs_list PySem.F.slot_list_insert PySem.F.type_list_insert mt_insert ho ha.pe hbase hfew hline hs1 hplain) hs, ds_ins ha.de⟩
end
end Z

set_option Elab.async false
set_option maxRecDepth 100000
set_option maxHeartbeats 4000000
set_option linter.all false
/-! ZJ: min of a list of numbers, with a default -/
namespace Z
open PySem PySem.Spec PyProof.Rows L2
def rMinD (K : PySem.W.Frag) : List V → List V → Hp → VK → Prop := fun xs zs H Q => ∃ (a : Addr) (ns : List Int) (d : Int), xs = [V.ref a] ∧ zs = [V.int d] ∧ SqL K H a (ns.map V.int) ∧ (ns = [] → Q (.int d) H) ∧ ∀ m, m ∈ ns → (∀ y, y ∈ ns → m ≤ y) → Q (.int m) H
theorem depth_ints : ∀ ns : List Int, PyData.depthAll (ns.map PyData.int) = 0
  | [] => rfl
  | n :: ns => by
    show max (PyData.int n).depth (PyData.depthAll (ns.map PyData.int)) = 0
    rw [depth_ints ns]; rfl
theorem foldl_min : ∀ (n : Int) (ns : List Int), ns.foldl min n ∈ n :: ns ∧ ∀ y ∈ n :: ns, ns.foldl min n ≤ y
  | n, [] => ⟨List.mem_cons_self, fun y hy => by rcases List.mem_singleton.mp hy with rfl; exact Int.le_refl _⟩
  | n, k :: ns => by
    obtain ⟨h1, h2⟩ := foldl_min (min n k) ns
    show ns.foldl min (min n k) ∈ _ ∧ ∀ y ∈ n :: k :: ns, ns.foldl min (min n k) ≤ y
    have h3 := h2 (min n k) List.mem_cons_self
    refine ⟨?_, fun y hy => ?_⟩
    · rcases List.mem_cons.mp h1 with h | h
      · rw [h]
        rcases (show min n k = n ∨ min n k = k by omega) with e | e
        · rw [e]; exact List.mem_cons_self
        · rw [e]; exact List.mem_cons_of_mem _ List.mem_cons_self
      · exact List.mem_cons_of_mem _ (List.mem_cons_of_mem _ h)
    · rcases List.mem_cons.mp hy with rfl | hy
      · omega
      · rcases List.mem_cons.mp hy with rfl | hy
        · omega
        · exact h2 y (List.mem_cons_of_mem _ hy)
theorem cr_minD {X : Cx} (hc : X.calm = true) (hu : X.A.units + 1 < cLine) : CallRK X (.builtin "min") ["default"] (rMinD X.K) := by
  intro pins s σ H xs zs us ws Q I r rz h
  obtain ⟨a, ns, d, rfl, rfl, hs, h0, h1⟩ := h
  obtain ⟨its, rv, hl, _⟩ := I.list hs
  rw [Vals.ref1 r]
  cases rz with
  | cons r1 r2 =>
    cases r2
    obtain ⟨t, rfl⟩ := r1
    have hi := rv.ints
    have hr := ints_readAll s.heap hi
    refine PySem.W.min_list_default (I.ok.hd hc) hl.isList hr ⟨fun x hx y hy => ?_, fun x hx => ?_⟩ (by rw [depth_ints]; omega) (fun e h' tk hk => ?_) fun y ys i v h' tk bs e hv hrd hk => ?_
    · obtain ⟨i, _, rfl⟩ := List.mem_map.mp hx
      obtain ⟨j, _, rfl⟩ := List.mem_map.mp hy
      rfl
    · obtain ⟨i, _, rfl⟩ := List.mem_map.mp hx
      exact fun z => nomatch z
    · exact ⟨.int d, H, I.kept hk, ⟨_, rfl⟩, h0 (List.map_eq_nil_iff.mp e)⟩
    · cases ns with
      | nil => cases e
      | cons n ns =>
        rw [List.map_cons] at e
        obtain ⟨rfl, rfl⟩ := List.cons.inj e
        rw [PySem.W.minD_ints] at hrd
        cases hrd
        obtain ⟨m1, m2⟩ := foldl_min n ns
        exact ⟨.int _, H, I.kept hk, ⟨_, rfl⟩, h1 _ m1 m2⟩
def minDD (ds : List D) (d : D) : Option D := match ds, d with
  | [.list es], .int k => (allI es).map fun ns => .int (if ns.isEmpty then k else leastI ns)
  | _, _ => none
def eMinD (a : En → Option (List D)) (fd : En → Option D) : En → Option D := fun ρ => (a ρ).bind fun ds => (fd ρ).bind fun d => minDD ds d
theorem de_minD {K : PySem.W.Frag} {B : Bs} {ta : TA} {tk : TE} {a : En → Option (List D)} {fd : En → Option D} (ha : DAB K B ta a) (hk : DE K B tk fd) : DE K B (tCKw (rMinD K) ta (tCons tk tNil)) (eMinD a fd) := fun ρ σ H O z R e Q q => by
  obtain ⟨ds, h1, e⟩ := bind_some e
  obtain ⟨d, h2, e⟩ := bind_some e
  refine ha ρ σ H O ds R h1 _ fun vs H1 s1 x => hk ρ σ H1 O d (R.grow s1) h2 _ fun v H2 s2 y => ?_
  have x2 := BoAll.grow (R.grow s1) s2 x
  unfold minDD at e
  split at e
  · obtain ⟨ns, h3, e⟩ := map_some e
    subst e
    have h3 := allI_some h3
    subst h3
    obtain ⟨u, rfl, b⟩ := bo1 x2
    obtain ⟨p, us, rfl, hp, ap⟩ := b.list
    rw [ap.ints] at hp
    cases y
    refine ⟨p, ns, _, rfl, rfl, hp, fun e => ?_, fun m hm hl => ?_⟩
    · subst e
      exact q _ H2 (s1.trans s2) (.int _)
    · have hne : ns.isEmpty = false := by
        cases ns with
        | nil => cases hm
        | cons _ _ => rfl
      have := leastI_is hm hl
      rw [hne, if_neg Bool.false_ne_true, this] at q
      exact q _ H2 (s1.trans s2) (.int _)
  · cases e
theorem x_minD {X : Cx} {B : Bs} {ex ek : Expr} {p kp pos : Pos} {ta : TA} {tk : TE} {a : En → Option (List D)} {fd : En → Option D} (hu : X.A.units + 1 < cLine) (hm : X.mg "min" = none) (ha : XAB X B [ex] ta a) (hk : XE X B ek tk fd) (hc : X.calm = true := by rfl) (hg : Gl X "min" := by rfl)
    (he : backTo pos (starEach (ex :: []) X.env) = (false, eval ex X.env) :: backTo pos (starEach [] X.env) := by rfl) (hpl : (backTo pos (starEach (ex :: []) X.env)).any (·.1) = false := by rfl)
    (hall : (backToKw pos (keywordEach [⟨some "default", ek, kp⟩] X.env)).all (·.1.isSome) = true := by rfl) (hnone : (backToKw pos (keywordEach [⟨some "default", ek, kp⟩] X.env)).any (·.1.isNone) = false := by rfl)
    (hks : (backToKw pos (keywordEach [⟨some "default", ek, kp⟩] X.env)).filterMap (·.1) = [("default" : Str)] := by rfl) (hK : X.K = B.K := by rfl) :
    XE X B (.Call (.Name "min" p) [ex] [⟨some "default", ek, kp⟩] pos) (tCKw (rMinD B.K) ta (tCons tk tNil)) (eMinD a fd) :=
  ⟨hK ▸ pe_callBK (cr_minD hc hu) hg hm PyProof.Rows.boot_min ha.pe (pk_cons hk.pe pk_nil) (by decide) (by decide) he hpl hall hnone hks, de_minD ha.de hk.de⟩
def upD (d : D) : Option D := match d with
  | .str a => if a.length ≤ 5592405 then some (.str (Txt.upper a)) else none
  | _ => none
theorem x_upper {X : Cx} {B : Bs} {o : Expr} {to : TE} {f : En → Option D} {apos pos : Pos} (ho : XE X B o to f) (hbase : attributeBase o "upper" X.env (eval o X.env) = eval o X.env := by rfl) (hline : (apos.endLine == pos.line) = true := by rfl) :
    XE X B (.Call (.Attribute o "upper" apos) [] [] pos) (tM0 (fun x xs H Q => ∃ a, x = .str a ∧ xs = [] ∧ a.length ≤ 5592405 ∧ Q (.str (Txt.upper a)) H) to) (e1 upD f) :=
  ⟨pe_upper ho.pe hbase hline, fun ρ σ H O z R e Q q => by
    obtain ⟨d, h1, e⟩ := bind_some e
    unfold upD at e
    split at e
    · split at e
      · rename_i c
        cases e
        refine ho.de ρ σ H O _ R h1 _ fun v H1 s x => ?_
        cases x
        exact ⟨⟨_, rfl⟩, _, rfl, rfl, c, q _ H1 s (.str _)⟩
      · cases e
    · cases e⟩
end Z

set_option Elab.async false
set_option maxRecDepth 100000
set_option maxHeartbeats 4000000
set_option linter.all false
/-! Z8: the operations' values, for simp -/
namespace Z
open PySem PySem.Spec PyProof.Rows L2
section
variable {i j : Int} {n : Nat} {x y : Str} {a b : Bool} {ds es : List D}
theorem add_ii : addD (.int i) (.int j) = some (.int (i + j)) := rfl
theorem add_ss (h : x.length + y.length ≤ 1000000) : addD (.str x) (.str y) = some (.str (x ++ y)) := if_pos h
theorem add_tt (h2 : ds.length + es.length ≤ 1000000) : addD (.tuple ds) (.tuple es) = some (.tuple (ds ++ es)) := if_pos h2
theorem sub_ii : subD (.int i) (.int j) = some (.int (i - j)) := rfl
theorem mul_l (h : -18446744073709551616 < i ∧ i < 18446744073709551616) : mulD (.int i) (.int j) = some (.int (i * j)) := if_pos (.inl h)
theorem mul_r (h : -18446744073709551616 < j ∧ j < 18446744073709551616) : mulD (.int i) (.int j) = some (.int (i * j)) := if_pos (.inr h)
theorem div_ii (h : 0 < j ∧ j < 18446744073709551616) : divD (.int i) (.int j) = some (.int (i / j)) := if_pos h
theorem mod_ii (h : 0 < j) : modD (.int i) (.int j) = some (.int (i % j)) := if_pos h
theorem pow_ii (h : 0 ≤ j ∧ j ≤ 1000 ∧ -18446744073709551616 < i ∧ i < 18446744073709551616) : powD (.int i) (.int j) = some (.int (i ^ j.toNat)) := if_pos h
theorem lt_ii : ltD (.int i) (.int j) = some (.bool (decide (i < j))) := rfl
theorem le_ii : leD (.int i) (.int j) = some (.bool (decide (i ≤ j))) := rfl
theorem gt_ii : gtD (.int i) (.int j) = some (.bool (decide (j < i))) := rfl
theorem ge_ii : geD (.int i) (.int j) = some (.bool (decide (j ≤ i))) := rfl
theorem eq_ii : eqD n (.int i) (.int j) = some (.bool (decide (i = j))) := by
  unfold eqD eqOk; simp only [scD, Bool.true_or, if_true, PyData.eqv]
  rw [Bool.beq_eq_decide_eq]
theorem eq_bb : eqD n (.bool a) (.bool b) = some (.bool (decide (a = b))) := by
  unfold eqD eqOk; simp only [scD, Bool.true_or, if_true, PyData.eqv]
  rw [Bool.beq_eq_decide_eq]
theorem eq_ss : eqD n (.str x) (.str y) = some (.bool (decide (x = y))) := by
  unfold eqD eqOk; simp only [scD, Bool.true_or, if_true, PyData.eqv]
  rw [Bool.beq_eq_decide_eq]
theorem ne_ii : neD n (.int i) (.int j) = some (.bool (!decide (i = j))) := by
  unfold neD eqOk; simp only [scD, Bool.true_or, if_true, PyData.eqv]
  rw [Bool.beq_eq_decide_eq]
theorem ne_ss : neD n (.str x) (.str y) = some (.bool (!decide (x = y))) := by
  unfold neD eqOk; simp only [scD, Bool.true_or, if_true, PyData.eqv]
  rw [Bool.beq_eq_decide_eq]
theorem len_l : lenD [.list ds] = some (.int ds.length) := rfl
theorem len_t : lenD [.tuple ds] = some (.int ds.length) := rfl
theorem len_s (h : x.length ≤ 1000000) : lenD [.str x] = some (.int x.length) := if_pos h
theorem int_i : intD [.int i] = some (.int i) := rfl
theorem int_b : intD [.bool b] = some (.int (if b = true then 1 else 0)) := rfl
theorem min_ii : minD [.int i, .int j] = some (.int (min i j)) := rfl
theorem max_ii : maxD [.int i, .int j] = some (.int (max i j)) := rfl
theorem tup_l : tupD [.list ds] = some (.tuple ds) := rfl
theorem tup_t : tupD [.tuple ds] = some (.tuple ds) := rfl
theorem list_l : listL [.list ds] = some ds := rfl
theorem list_t : listL [.tuple ds] = some ds := rfl
theorem neg_i : negD (.int i) = some (.int (-i)) := rfl
theorem not_b : notD (.bool b) = some (.bool (!b)) := rfl
theorem isN_n : isND false .none .none = some (.bool true) := rfl
theorem isN_i : isND false (.int i) .none = some (.bool false) := rfl
theorem isN_s : isND false (.str x) .none = some (.bool false) := rfl
theorem isN_b : isND false (.bool b) .none = some (.bool false) := rfl
theorem isN_t : isND false (.tuple ds) .none = some (.bool false) := rfl
theorem isN_l : isND false (.list ds) .none = some (.bool false) := rfl
theorem notN_n : isND true .none .none = some (.bool false) := rfl
theorem notN_i : isND true (.int i) .none = some (.bool true) := rfl
theorem notN_s : isND true (.str x) .none = some (.bool true) := rfl
theorem notN_b : isND true (.bool b) .none = some (.bool true) := rfl
theorem notN_t : isND true (.tuple ds) .none = some (.bool true) := rfl
theorem notN_l : isND true (.list ds) .none = some (.bool true) := rfl
theorem isB : isND false (.bool a) (.bool b) = some (.bool (decide (a = b))) := by show some (PyData.bool (decide (a = b) != false)) = _; rw [Bool.bne_false]
theorem notB : isND true (.bool a) (.bool b) = some (.bool (!decide (a = b))) := by show some (PyData.bool (decide (a = b) != true)) = _; rw [Bool.bne_true]
theorem isi_i_int : isiD "int" (.int i) = some (.bool true) := by unfold isiD tyD; rw [kit_int_int]; rfl
theorem isi_b_int : isiD "int" (.bool b) = some (.bool true) := by unfold isiD tyD; rw [kit_bool_int]; rfl
theorem isi_s_int : isiD "int" (.str x) = some (.bool false) := by unfold isiD tyD; rw [kit_str_int]; rfl
theorem isi_t_int : isiD "int" (.tuple ds) = some (.bool false) := by unfold isiD tyD; rw [kit_tuple_int]; rfl
theorem isi_l_int : isiD "int" (.list ds) = some (.bool false) := by unfold isiD tyD; rw [kit_list_int]; rfl
theorem isi_n_int : isiD "int" .none = some (.bool false) := by unfold isiD tyD; rw [kit_non_int]; rfl
theorem isi_i_bool : isiD "bool" (.int i) = some (.bool false) := by unfold isiD tyD; rw [kit_int_bool]; rfl
theorem isi_b_bool : isiD "bool" (.bool b) = some (.bool true) := by unfold isiD tyD; rw [kit_bool_bool]; rfl
theorem isi_s_bool : isiD "bool" (.str x) = some (.bool false) := by unfold isiD tyD; rw [kit_str_bool]; rfl
theorem isi_t_bool : isiD "bool" (.tuple ds) = some (.bool false) := by unfold isiD tyD; rw [kit_tuple_bool]; rfl
theorem isi_l_bool : isiD "bool" (.list ds) = some (.bool false) := by unfold isiD tyD; rw [kit_list_bool]; rfl
theorem isi_n_bool : isiD "bool" .none = some (.bool false) := by unfold isiD tyD; rw [kit_non_bool]; rfl
theorem isi_i_str : isiD "str" (.int i) = some (.bool false) := by unfold isiD tyD; rw [kit_int_str]; rfl
theorem isi_b_str : isiD "str" (.bool b) = some (.bool false) := by unfold isiD tyD; rw [kit_bool_str]; rfl
theorem isi_s_str : isiD "str" (.str x) = some (.bool true) := by unfold isiD tyD; rw [kit_str_str]; rfl
theorem isi_t_str : isiD "str" (.tuple ds) = some (.bool false) := by unfold isiD tyD; rw [kit_tuple_str]; rfl
theorem isi_l_str : isiD "str" (.list ds) = some (.bool false) := by unfold isiD tyD; rw [kit_list_str]; rfl
theorem isi_n_str : isiD "str" .none = some (.bool false) := by unfold isiD tyD; rw [kit_non_str]; rfl
theorem isi_i_tuple : isiD "tuple" (.int i) = some (.bool false) := by unfold isiD tyD; rw [kit_int_tuple]; rfl
theorem isi_b_tuple : isiD "tuple" (.bool b) = some (.bool false) := by unfold isiD tyD; rw [kit_bool_tuple]; rfl
theorem isi_s_tuple : isiD "tuple" (.str x) = some (.bool false) := by unfold isiD tyD; rw [kit_str_tuple]; rfl
theorem isi_t_tuple : isiD "tuple" (.tuple ds) = some (.bool true) := by unfold isiD tyD; rw [kit_tuple_tuple]; rfl
theorem isi_l_tuple : isiD "tuple" (.list ds) = some (.bool false) := by unfold isiD tyD; rw [kit_list_tuple]; rfl
theorem isi_n_tuple : isiD "tuple" .none = some (.bool false) := by unfold isiD tyD; rw [kit_non_tuple]; rfl
theorem isi_i_list : isiD "list" (.int i) = some (.bool false) := by unfold isiD tyD; rw [kit_int_list]; rfl
theorem isi_b_list : isiD "list" (.bool b) = some (.bool false) := by unfold isiD tyD; rw [kit_bool_list]; rfl
theorem isi_s_list : isiD "list" (.str x) = some (.bool false) := by unfold isiD tyD; rw [kit_str_list]; rfl
theorem isi_t_list : isiD "list" (.tuple ds) = some (.bool false) := by unfold isiD tyD; rw [kit_tuple_list]; rfl
theorem isi_l_list : isiD "list" (.list ds) = some (.bool true) := by unfold isiD tyD; rw [kit_list_list]; rfl
theorem isi_n_list : isiD "list" .none = some (.bool false) := by unfold isiD tyD; rw [kit_non_list]; rfl
end
section
variable {lo hi : Option Int} {ds : List D} {x : Str}
theorem sl_t : slD (.tuple ds) lo hi = some (.tuple (cutD ds lo hi)) := rfl
theorem sl_l : slD (.list ds) lo hi = some (.list (cutD ds lo hi)) := rfl
theorem sl_s (h : x.length ≤ 1000000) : slD (.str x) lo hi = some (.str (cutS x lo hi)) := if_pos h
theorem slL_l : slL (.list ds) lo hi = some (cutD ds lo hi) := rfl
theorem cut_lo {α : Type} {xs : List α} {i : Int} (h : 0 ≤ i) : cutD xs (some i) none = xs.drop i.toNat := by
  have e : HT.sIx xs.length 0 (some i) = min i.toNat xs.length := by
    have := HT.sIx_nat xs.length 0 i.toNat
    rw [Int.toNat_of_nonneg h] at this
    exact this
  unfold cutD
  rw [e, HT.sIx_none, List.take_of_length_le (by rw [List.length_drop]; omega)]
  by_cases q : i.toNat ≤ xs.length
  · rw [Nat.min_eq_left q]
  · rw [Nat.min_eq_right (by omega), List.drop_length, List.drop_eq_nil_of_le (by omega)]
theorem cut_hi {α : Type} {xs : List α} {i : Int} (h : 0 ≤ i) : cutD xs none (some i) = xs.take i.toNat := by
  have e : HT.sIx xs.length xs.length (some i) = min i.toNat xs.length := by
    have := HT.sIx_nat xs.length xs.length i.toNat
    rw [Int.toNat_of_nonneg h] at this
    exact this
  unfold cutD
  rw [e, HT.sIx_none, List.drop_zero, Nat.sub_zero]
  by_cases q : i.toNat ≤ xs.length
  · rw [Nat.min_eq_left q]
  · rw [Nat.min_eq_right (by omega), List.take_length, List.take_of_length_le (by omega)]
theorem cut_lh {α : Type} {xs : List α} {i j : Int} (h : 0 ≤ i) (h' : 0 ≤ j) : cutD xs (some i) (some j) = (xs.drop i.toNat).take (j.toNat - i.toNat) := by
  have e : HT.sIx xs.length 0 (some i) = min i.toNat xs.length := by
    have := HT.sIx_nat xs.length 0 i.toNat
    rw [Int.toNat_of_nonneg h] at this
    exact this
  have e2 : HT.sIx xs.length xs.length (some j) = min j.toNat xs.length := by
    have := HT.sIx_nat xs.length xs.length j.toNat
    rw [Int.toNat_of_nonneg h'] at this
    exact this
  unfold cutD
  rw [e, e2]
  by_cases q : i.toNat ≤ xs.length
  · rw [Nat.min_eq_left q]
    by_cases r : j.toNat ≤ xs.length
    · rw [Nat.min_eq_left r]
    · rw [Nat.min_eq_right (by omega), List.take_of_length_le (by rw [List.length_drop]; omega), List.take_of_length_le (by rw [List.length_drop]; omega)]
  · rw [Nat.min_eq_right (show xs.length ≤ i.toNat by omega), List.drop_length, List.drop_eq_nil_of_le (show xs.length ≤ i.toNat by omega), List.take_nil, List.take_nil]
theorem cut_nn {α : Type} {xs : List α} : cutD xs none none = xs := by
  unfold cutD
  rw [HT.sIx_none, HT.sIx_none, List.drop_zero, Nat.sub_zero, List.take_length]
end
/-- places -/
theorem atI_nat' {α : Type} {xs : List α} {i : Int} (h0 : 0 ≤ i) (h : i < xs.length) : atI xs i = xs[i.toNat]? := by
  unfold atI ixN
  rw [if_pos h0, if_pos h]; rfl
theorem ix_l {ds : List D} {i : Int} : ixD (.list ds) (.int i) = atI ds i := rfl
theorem ix_t {ds : List D} {i : Int} : ixD (.tuple ds) (.int i) = atI ds i := rfl
theorem atI_0 {α : Type} {a : α} {xs : List α} : atI (a :: xs) 0 = some a := by
  unfold atI ixN
  rw [if_pos (Int.le_refl 0), if_pos (by simp only [List.length_cons]; omega)]; rfl
theorem atI_1 {α : Type} {a b : α} {xs : List α} : atI (a :: b :: xs) 1 = some b := by
  unfold atI ixN
  rw [if_pos (by decide), if_pos (by simp only [List.length_cons]; omega)]; rfl
theorem atI_2 {α : Type} {a b c : α} {xs : List α} : atI (a :: b :: c :: xs) 2 = some c := by
  unfold atI ixN
  rw [if_pos (by decide), if_pos (by simp only [List.length_cons]; omega)]; rfl
theorem atI_3 {α : Type} {a b c d : α} {xs : List α} : atI (a :: b :: c :: d :: xs) 3 = some d := by
  unfold atI ixN
  rw [if_pos (by decide), if_pos (by simp only [List.length_cons]; omega)]; rfl
theorem atI_4 {α : Type} {a b c d e : α} {xs : List α} : atI (a :: b :: c :: d :: e :: xs) 4 = some e := by
  unfold atI ixN
  rw [if_pos (by decide), if_pos (by simp only [List.length_cons]; omega)]; rfl

/-! ### one step at a time -/
def sqK (o : Option Out) (G : En → Option Out) : Option Out := match o with
  | some (.nx ρ) => G ρ
  | o => o
def ifK (o : Option Bool) (F G : En → Option Out) (ρ : En) : Option Out := match o with
  | some true => F ρ
  | some false => G ρ
  | none => none
def rdV : Option (Option SV) → Option D
  | some (some (.ro d)) => some d
  | some (some (.lr ds)) => some (.list ds)
  | _ => none
def rdB : Option (Option SV) → Option D
  | some (some (.ro d)) => some d
  | some (some (.ow ds)) => some (.list ds)
  | some (some (.oK tt kvs)) => some (.dict (tails tt kvs))
  | some (some (.lr ds)) => some (.list ds)
  | _ => none
def rdN : Option (Option SV) → Option (List D)
  | some (some (.ow ds)) => some ds
  | some (some (.lr ds)) => some ds
  | some (some (.ro (.list ds))) => some ds
  | _ => none
def rdM : Option (Option SV) → Option (List D)
  | some (some (.ow ds)) => some ds
  | some (some (.lr ds)) => some ds
  | _ => none
def b1 {α : Type} (g : D → Option α) : Option D → Option α
  | some x => g x
  | none => none
def b2 {α : Type} (g : D → D → Option α) : Option D → Option D → Option α
  | some x, some y => g x y
  | _, _ => none
def b3 {α : Type} (g : D → Option Int → Option Int → Option α) : Option D → Option (Option Int) → Option (Option Int) → Option α
  | some x, some l, some h => g x l h
  | _, _, _ => none
def cnK : Option D → Option (List D) → Option (List D)
  | some d, some ds => some (d :: ds)
  | _, _ => none
def caK {α : Type} (g : List D → Option α) : Option (List D) → Option α
  | some ds => g ds
  | none => none
def tupK : Option (List D) → Option D
  | some ds => if ds.length ≤ 1000000 then some (.tuple ds) else none
  | none => none
def lstK : Option (List D) → Option (List D)
  | some ds => if ds.length ≤ 1000000 then some ds else none
  | none => none
def liK : Option (List D) → Option D
  | some ds => some (.list ds)
  | none => none
def catK : Option (List D) → Option (List D) → Option (List D)
  | some xs, some ys => if xs.length + ys.length ≤ 1000000 then some (xs ++ ys) else none
  | _, _ => none
def oSK : Option D → Option (Option Int)
  | some (.int i) => some (some i)
  | _ => none
def boK : Option D → Option Bool
  | some (.bool b) => some b
  | _ => none
def andK (o : Option D) (g : En → Option D) (ρ : En) : Option D := match o with
  | some (.bool true) => g ρ
  | some (.bool false) => some (.bool false)
  | _ => none
def orK (o : Option D) (g : En → Option D) (ρ : En) : Option D := match o with
  | some (.bool true) => some (.bool true)
  | some (.bool false) => g ρ
  | _ => none
def bAndK (o : Option Bool) (g : En → Option Bool) (ρ : En) : Option Bool := match o with
  | some true => g ρ
  | some false => some false
  | none => none
def bOrK (o : Option Bool) (g : En → Option Bool) (ρ : En) : Option Bool := match o with
  | some true => some true
  | some false => g ρ
  | none => none
def stK (i : Nat) (ρ : En) : Option D → Option Out
  | some d => some (.nx (ρ.set i (some (.ro d))))
  | none => none
def slK (i : Nat) (ρ : En) : Option (List D) → Option Out
  | some d => some (.nx (ρ.set i (some (.ow d))))
  | none => none
def srK (i : Nat) (ρ : En) : Option (List D) → Option Out
  | some d => some (.nx (ρ.set i (some (.lr d))))
  | none => none
def asK (h : D → En → Option En) (ρ : En) : Option D → Option Out
  | some d => (h d ρ).map .nx
  | none => none
def drK (ρ : En) : Option D → Option Out
  | some _ => some (.nx ρ)
  | none => none
def rtK : Option D → Option Out
  | some d => some (.rt d)
  | none => none
def rlK : Option (List D) → Option Out
  | some d => some (.rl d)
  | none => none
def roK : Option (Option SV) → Option Out
  | some (some (.ow ds)) => some (.rl ds)
  | _ => none
def fzK (i : Nat) (F : En → Option Out) (ρ : En) : Option (Option SV) → Option Out
  | some (some (.ow ds)) => F (ρ.set i (some (.lr ds)))
  | _ => F ρ
def apK (i : Nat) (ρ : En) : Option (Option SV) → Option D → Option Out
  | some (some (.ow ds)), some d => if ds.length < 1000000 then some (.nx (ρ.set i (some (.ow (ds ++ [d]))))) else none
  | _, _ => none
def puK (i : Nat) (ρ : En) : Option (Option SV) → Option D → Option D → Option Out
  | some (some (.ow ds)), some d, some (.int k) => (ixN ds.length k).map fun j => .nx (ρ.set i (some (.ow (ds.set j d))))
  | _, _, _ => none
def foK (tg : D → En → Option En) (F : En → Option Out) (ρ : En) : Option (List D) → Option Out
  | some ds => forGo tg F ds ρ
  | none => none
def tgK (F : En → Option Out) (k : En → Option Out) : Option En → Option Out
  | some ρ => afterTurn k (F ρ)
  | none => none
def coK (tg : D → En → Option En) (cond : En → Option Bool) (elt : En → Option D) (ρ : En) : Option (List D) → Option (List D)
  | some ds => if ds.length ≤ 1000000 then compGo tg cond elt ρ ds else none
  | none => none
def wiK (c : En → Option Bool) (F : En → Option Out) (n : Nat) (ρ : En) : Option Bool → Option Out
  | some true => afterTurn (sWhile c F n) (F ρ)
  | some false => some (.nx ρ)
  | none => none
def rvK : Option Out → Option Rv
  | some o => o.rv
  | none => none
section
variable {F G : En → Option Out} {ρ ρ' : En} {f f' : En → Option D} {fl fl' : En → Option (List D)} {c c' : En → Option Bool} {fo fo' : En → Option (Option Int)} {i n m : Nat} {d : D} {ds es : List D} {b : Bool} {h : D → En → Option En} {k : List D → En → Option En}
theorem sSeq_ap : sSeq F G ρ = sqK (F ρ) G := by unfold sSeq sqK; rfl
theorem sqK_nx : sqK (some (.nx ρ')) G = G ρ' := rfl
theorem sqK_rt : sqK (some (.rt d)) G = some (.rt d) := rfl
theorem sqK_rl : sqK (some (.rl ds)) G = some (.rl ds) := rfl
theorem sqK_bk : sqK (some (.bk ρ')) G = some (.bk ρ') := rfl
theorem sqK_ct : sqK (some (.ct ρ')) G = some (.ct ρ') := rfl
theorem sqK_no : sqK none G = none := rfl
theorem sIf_ap : sIf c F G ρ = ifK (c ρ) F G ρ := by
  unfold sIf ifK
  cases c ρ with
  | none => rfl
  | some b => cases b <;> rfl
theorem ifK_t : ifK (some true) F G ρ = F ρ := rfl
theorem ifK_f : ifK (some false) F G ρ = G ρ := rfl
theorem ifK_d {p : Prop} [Decidable p] : ifK (some (decide p)) F G ρ = if p then F ρ else G ρ := by
  by_cases q : p
  · rw [decide_eq_true q, if_pos q]; rfl
  · rw [decide_eq_false q, if_neg q]; rfl
theorem ifK_nd {p : Prop} [Decidable p] : ifK (some (!decide p)) F G ρ = if p then G ρ else F ρ := by
  by_cases q : p
  · rw [decide_eq_true q, if_pos q]; rfl
  · rw [decide_eq_false q, if_neg q]; rfl
theorem sNil_ap : sNil ρ = some (.nx ρ) := rfl
theorem sBk_ap : sBk ρ = some (.bk ρ) := rfl
theorem sCt_ap : sCt ρ = some (.ct ρ) := rfl
theorem sRetN_ap : sRetN ρ = some (.rt .none) := rfl
theorem sBad_ap : sBad ρ = none := rfl
theorem eVar_ap : eVar i ρ = rdV ρ[i]? := by unfold eVar rdV; rfl
theorem bVar_ap : bVar i ρ = rdB ρ[i]? := by unfold bVar rdB; rfl
theorem mVar_ap : mVar i ρ = rdM ρ[i]? := by unfold mVar rdM; rfl
theorem nVar_ap : nVar i ρ = rdN ρ[i]? := by unfold nVar rdN; rfl
theorem rdN_ro : rdN (some (some (.ro (.list ds)))) = some ds := rfl
theorem rdN_lr : rdN (some (some (.lr ds))) = some ds := rfl
theorem rdN_ow : rdN (some (some (.ow ds))) = some ds := rfl
theorem rdV_ro : rdV (some (some (.ro d))) = some d := rfl
theorem rdV_lr : rdV (some (some (.lr ds))) = some (.list ds) := rfl
theorem rdB_ro : rdB (some (some (.ro d))) = some d := rfl
theorem rdB_lr : rdB (some (some (.lr ds))) = some (.list ds) := rfl
theorem rdB_ow : rdB (some (some (.ow ds))) = some (.list ds) := rfl
theorem rdM_lr : rdM (some (some (.lr ds))) = some ds := rfl
theorem rdM_ow : rdM (some (some (.ow ds))) = some ds := rfl
theorem eC_ap : eC d ρ = some d := rfl
theorem e1_ap {α : Type} {g : D → Option α} : e1 g f ρ = b1 g (f ρ) := by unfold e1 b1; cases f ρ <;> rfl
theorem e2_ap {α : Type} {g : D → D → Option α} : e2 g f f' ρ = b2 g (f ρ) (f' ρ) := by unfold e2 b2; cases f ρ <;> cases f' ρ <;> rfl
theorem e3_ap {α : Type} {g : D → Option Int → Option Int → Option α} : e3 g f fo fo' ρ = b3 g (f ρ) (fo ρ) (fo' ρ) := by unfold e3 b3; cases f ρ <;> cases fo ρ <;> cases fo' ρ <;> rfl
theorem b1_s {α : Type} {g : D → Option α} {x : D} : b1 g (some x) = g x := rfl
theorem b2_s {α : Type} {g : D → D → Option α} {x y : D} : b2 g (some x) (some y) = g x y := rfl
theorem b3_s {α : Type} {g : D → Option Int → Option Int → Option α} {x : D} {l h : Option Int} : b3 g (some x) (some l) (some h) = g x l h := rfl
theorem aNil_ap : aNil ρ = some [] := rfl
theorem aCons_ap : aCons f fl ρ = cnK (f ρ) (fl ρ) := by unfold aCons cnK; cases f ρ <;> cases fl ρ <;> rfl
theorem cnK_s : cnK (some d) (some ds) = some (d :: ds) := rfl
theorem eCall_ap {α : Type} {g : List D → Option α} : eCall g fl ρ = caK g (fl ρ) := by unfold eCall caK; cases fl ρ <;> rfl
theorem caK_s {α : Type} {g : List D → Option α} : caK g (some ds) = g ds := rfl
theorem eTup_ap : eTup fl ρ = tupK (fl ρ) := by unfold eTup tupK; cases fl ρ <;> rfl
theorem tupK_s (h : ds.length ≤ 1000000) : tupK (some ds) = some (.tuple ds) := if_pos h
theorem lLst_ap : lLst fl ρ = lstK (fl ρ) := by unfold lLst lstK; cases fl ρ <;> rfl
theorem lstK_s (h : ds.length ≤ 1000000) : lstK (some ds) = some ds := if_pos h
theorem liL_ap : liL fl ρ = liK (fl ρ) := by unfold liL liK; cases fl ρ <;> rfl
theorem liK_s : liK (some ds) = some (.list ds) := rfl
theorem lCat_ap : lCat fl fl' ρ = catK (fl ρ) (fl' ρ) := by unfold lCat catK; cases fl ρ <;> cases fl' ρ <;> rfl
theorem catK_s (h : ds.length + es.length ≤ 1000000) : catK (some ds) (some es) = some (ds ++ es) := if_pos h
theorem oNone_ap : oNone ρ = some none := rfl
theorem oSome_ap : oSome f ρ = oSK (f ρ) := by unfold oSome oSK; rfl
theorem oSK_i {j : Int} : oSK (some (.int j)) = some (some j) := rfl
theorem asB_ap : asB f ρ = boK (f ρ) := by unfold asB boK; rfl
theorem boK_b : boK (some (.bool b)) = some b := rfl
theorem eAnd_ap : eAnd f f' ρ = andK (f ρ) f' ρ := by unfold eAnd andK; rfl
theorem eOr_ap : eOr f f' ρ = orK (f ρ) f' ρ := by unfold eOr orK; rfl
theorem andK_t : andK (some (.bool true)) f ρ = f ρ := rfl
theorem andK_f : andK (some (.bool false)) f ρ = some (.bool false) := rfl
theorem orK_t : orK (some (.bool true)) f ρ = some (.bool true) := rfl
theorem orK_f : orK (some (.bool false)) f ρ = f ρ := rfl
theorem andK_d {p : Prop} [Decidable p] : andK (some (.bool (decide p))) f ρ = if p then f ρ else some (.bool false) := by
  by_cases q : p
  · rw [decide_eq_true q, if_pos q]; rfl
  · rw [decide_eq_false q, if_neg q]; rfl
theorem orK_d {p : Prop} [Decidable p] : orK (some (.bool (decide p))) f ρ = if p then some (.bool true) else f ρ := by
  by_cases q : p
  · rw [decide_eq_true q, if_pos q]; rfl
  · rw [decide_eq_false q, if_neg q]; rfl
theorem bAnd_ap : bAnd c c' ρ = bAndK (c ρ) c' ρ := by
  unfold bAnd bAndK
  cases c ρ with
  | none => rfl
  | some b => cases b <;> rfl
theorem bOr_ap : bOr c c' ρ = bOrK (c ρ) c' ρ := by
  unfold bOr bOrK
  cases c ρ with
  | none => rfl
  | some b => cases b <;> rfl
theorem bAndK_t : bAndK (some true) c ρ = c ρ := rfl
theorem bAndK_f : bAndK (some false) c ρ = some false := rfl
theorem bOrK_t : bOrK (some true) c ρ = some true := rfl
theorem bOrK_f : bOrK (some false) c ρ = c ρ := rfl
theorem bAndK_d {p : Prop} [Decidable p] : bAndK (some (decide p)) c ρ = if p then c ρ else some false := by
  by_cases q : p
  · rw [decide_eq_true q, if_pos q]; rfl
  · rw [decide_eq_false q, if_neg q]; rfl
theorem bOrK_d {p : Prop} [Decidable p] : bOrK (some (decide p)) c ρ = if p then some true else c ρ := by
  by_cases q : p
  · rw [decide_eq_true q, if_pos q]; rfl
  · rw [decide_eq_false q, if_neg q]; rfl
theorem bAndK_nd {p : Prop} [Decidable p] : bAndK (some (!decide p)) c ρ = if p then some false else c ρ := by
  by_cases q : p
  · rw [decide_eq_true q, if_pos q]; rfl
  · rw [decide_eq_false q, if_neg q]; rfl
theorem bOrK_nd {p : Prop} [Decidable p] : bOrK (some (!decide p)) c ρ = if p then c ρ else some true := by
  by_cases q : p
  · rw [decide_eq_true q, if_pos q]; rfl
  · rw [decide_eq_false q, if_neg q]; rfl
theorem bNot_ap : bNot c ρ = (c ρ).map (!·) := rfl
theorem toD_s {r : Rv} : toD (some r) = some r.d := rfl
theorem toL_l : toL (some (.l ds)) = some ds := rfl
theorem rv_v : Rv.d (.v d) = d := rfl
theorem rv_l : Rv.d (.l ds) = .list ds := rfl
theorem sSet_ap : sSet i f ρ = stK i ρ (f ρ) := by unfold sSet stK; cases f ρ <;> rfl
theorem stK_s : stK i ρ (some d) = some (.nx (ρ.set i (some (.ro d)))) := rfl
theorem sSetL_ap : sSetL i fl ρ = slK i ρ (fl ρ) := by unfold sSetL slK; cases fl ρ <;> rfl
theorem slK_s : slK i ρ (some ds) = some (.nx (ρ.set i (some (.ow ds)))) := rfl
theorem sSetR_ap : sSetR i fl ρ = srK i ρ (fl ρ) := by unfold sSetR srK; cases fl ρ <;> rfl
theorem srK_s : srK i ρ (some ds) = some (.nx (ρ.set i (some (.lr ds)))) := rfl
theorem sAsg_ap : sAsg f h ρ = asK h ρ (f ρ) := by unfold sAsg asK; cases f ρ <;> rfl
theorem asK_s : asK h ρ (some d) = (h d ρ).map .nx := rfl
theorem hName_ap : hName i d ρ = some (ρ.set i (some (.ro d))) := rfl
theorem hTup_ap (e : ds.length = n) : hTup n k (.tuple ds) ρ = k ds ρ := if_pos e
theorem hCons_ap : hCons h k (d :: ds) ρ = (h d ρ).bind (k ds) := rfl
theorem hNil_ap : hNil [] ρ = some ρ := rfl
theorem sDrop_ap : sDrop f ρ = drK ρ (f ρ) := by unfold sDrop drK; cases f ρ <;> rfl
theorem drK_s : drK ρ (some d) = some (.nx ρ) := rfl
theorem sRet_ap : sRet f ρ = rtK (f ρ) := by unfold sRet rtK; cases f ρ <;> rfl
theorem rtK_s : rtK (some d) = some (.rt d) := rfl
theorem sRetL_ap : sRetL fl ρ = rlK (fl ρ) := by unfold sRetL rlK; cases fl ρ <;> rfl
theorem rlK_s : rlK (some ds) = some (.rl ds) := rfl
theorem sRetO_ap : sRetO i ρ = roK ρ[i]? := by unfold sRetO roK; rfl
theorem roK_s : roK (some (some (.ow ds))) = some (.rl ds) := rfl
theorem sFz_ap : sFz i F ρ = fzK i F ρ ρ[i]? := by unfold sFz fzK; rfl
theorem fzK_s : fzK i F ρ (some (some (.ow ds))) = F (ρ.set i (some (.lr ds))) := rfl
theorem fzK_ro : fzK i F ρ (some (some (.ro d))) = F ρ := rfl
theorem fzK_lr : fzK i F ρ (some (some (.lr ds))) = F ρ := rfl
theorem sApp_ap : sApp i f ρ = apK i ρ ρ[i]? (f ρ) := by
  unfold sApp apK
  generalize ρ[i]? = o
  generalize f ρ = a
  match o, a with
  | some (some (.ow ds)), some d => rfl
  | some (some (.ow ds)), none => rfl
  | some (some (.ro _)), _ => rfl
  | some (some (.oK _ _)), _ => rfl
  | some (some (.lr _)), _ => rfl
  | some (some (.xc _ _)), _ => rfl
  | some none, _ => rfl
  | none, _ => rfl
theorem apK_s (h : ds.length < 1000000) : apK i ρ (some (some (.ow ds))) (some d) = some (.nx (ρ.set i (some (.ow (ds ++ [d]))))) := if_pos h
theorem sPut_ap : sPut i f f' ρ = puK i ρ ρ[i]? (f' ρ) (f ρ) := by
  unfold sPut puK
  generalize ρ[i]? = o
  generalize f ρ = a
  generalize f' ρ = b
  match o, b, a with
  | some (some (.ow ds)), some d, some (.int k) => rfl
  | some (some (.ow ds)), some d, some .none => rfl
  | some (some (.ow ds)), some d, some (.bool _) => rfl
  | some (some (.ow ds)), some d, some (.str _) => rfl
  | some (some (.ow ds)), some d, some (.list _) => rfl
  | some (some (.ow ds)), some d, some (.tuple _) => rfl
  | some (some (.ow ds)), some d, some (.dict _) => rfl
  | some (some (.ow ds)), some d, none => rfl
  | some (some (.ow ds)), none, _ => rfl
  | some (some (.ro _)), _, _ => rfl
  | some (some (.oK _ _)), _, _ => rfl
  | some (some (.lr _)), _, _ => rfl
  | some (some (.xc _ _)), _, _ => rfl
  | some none, _, _ => rfl
  | none, _, _ => rfl
theorem puK_s {j : Int} (h0 : 0 ≤ j) (h : j < ds.length) : puK i ρ (some (some (.ow ds))) (some d) (some (.int j)) = some (.nx (ρ.set i (some (.ow (ds.set j.toNat d))))) := by
  show (ixN ds.length j).map _ = _
  unfold ixN
  rw [if_pos h0, if_pos h]; rfl
theorem sFor_ap : sFor fl h F ρ = foK h F ρ (fl ρ) := by unfold sFor foK; cases fl ρ <;> rfl
theorem foK_s : foK h F ρ (some ds) = forGo h F ds ρ := rfl
theorem forGo_n : forGo h F [] ρ = some (.nx ρ) := rfl
theorem forGo_c : forGo h F (d :: ds) ρ = tgK F (forGo h F ds) (h d ρ) := by unfold tgK; show (h d ρ).bind _ = _; cases h d ρ <;> rfl
theorem tgK_s {q : En → Option Out} : tgK F q (some ρ) = afterTurn q (F ρ) := rfl
theorem at_nx {q : En → Option Out} : afterTurn q (some (.nx ρ)) = q ρ := rfl
theorem at_ct {q : En → Option Out} : afterTurn q (some (.ct ρ)) = q ρ := rfl
theorem at_bk {q : En → Option Out} : afterTurn q (some (.bk ρ)) = some (.nx ρ) := rfl
theorem at_rt {q : En → Option Out} : afterTurn q (some (.rt d)) = some (.rt d) := rfl
theorem at_rl {q : En → Option Out} : afterTurn q (some (.rl ds)) = some (.rl ds) := rfl
theorem lComp_ap {vs : List Nat} : lComp fl h c f vs ρ = coK h c f (wipeE ρ vs) (fl ρ) := by unfold lComp coK; cases fl ρ <;> rfl
theorem coK_s (e : ds.length ≤ 1000000) : coK h c f ρ (some ds) = compGo h c f ρ ds := if_pos e
theorem wipeE_n : wipeE ρ [] = ρ := rfl
theorem wipeE_c {v : Nat} {vs : List Nat} : wipeE ρ (v :: vs) = (wipeE ρ vs).set v none := rfl
theorem cYes_ap : cYes ρ = some true := rfl
theorem sWhile_ap : sWhile c F (n + 1) ρ = wiK c F n ρ (c ρ) := by
  show (c ρ).bind _ = _
  unfold wiK
  cases c ρ with
  | none => rfl
  | some b => cases b <;> rfl
theorem wiK_t : wiK c F n ρ (some true) = afterTurn (sWhile c F n) (F ρ) := rfl
theorem wiK_f : wiK c F n ρ (some false) = some (.nx ρ) := rfl
theorem gF_ap (e : ds.length = n) : gF n m F ds = rvK (F (env0 m ds)) := by
  unfold gF
  rw [if_pos e]
  unfold rvK
  cases F (env0 m ds) <;> rfl
theorem rvK_rt : rvK (some (.rt d)) = some (.v d) := rfl
theorem rvK_rl : rvK (some (.rl ds)) = some (.l ds) := rfl
theorem rvK_nx : rvK (some (.nx ρ)) = some (.v .none) := rfl
def cdK (tg : D → En → Option En) (cond : En → Option Bool) (elt : En → Option D) (ρ : En) (ds : List D) : Option En → Option (List D)
  | some ρ1 => match cond ρ1 with
    | some true => cnK (elt ρ1) (compGo tg cond elt ρ ds)
    | some false => compGo tg cond elt ρ ds
    | none => none
  | none => none
theorem compGo_n : compGo h c f ρ [] = some [] := rfl
theorem compGo_c : compGo h c f ρ (d :: ds) = cdK h c f ρ ds (h d ρ) := by
  unfold compGo cdK
  cases h d ρ with
  | none => rfl
  | some ρ1 =>
    show (c ρ1).bind _ = _
    dsimp only
    cases c ρ1 with
    | none => rfl
    | some b =>
      cases b
      · rfl
      · show (f ρ1).bind _ = _
        dsimp only
        cases f ρ1 with
        | none => rfl
        | some y => show (compGo h c f ρ ds).map _ = _; cases compGo h c f ρ ds <;> rfl
theorem cdK_t {ρ1 : En} (e : c ρ1 = some true) : cdK h c f ρ ds (some ρ1) = cnK (f ρ1) (compGo h c f ρ ds) := by unfold cdK; dsimp only; rw [e]
theorem cdK_f {ρ1 : En} (e : c ρ1 = some false) : cdK h c f ρ ds (some ρ1) = compGo h c f ρ ds := by unfold cdK; dsimp only; rw [e]
/-- a comprehension that maps -/
theorem compGo_map {g : D → D} : ∀ {ds : List D}, (∀ d ∈ ds, ∃ ρ1, h d ρ = some ρ1 ∧ c ρ1 = some true ∧ f ρ1 = some (g d)) → compGo h c f ρ ds = some (ds.map g)
  | [], _ => rfl
  | d :: ds, q => by
    obtain ⟨ρ1, h1, h2, h3⟩ := q d List.mem_cons_self
    have ih := compGo_map (ds := ds) fun e he => q e (List.mem_cons_of_mem _ he)
    rw [compGo_c, h1, cdK_t h2, h3, ih]; rfl
theorem sqK_ite {p : Prop} [Decidable p] {a b : Option Out} : sqK (if p then a else b) G = if p then sqK a G else sqK b G := by split <;> rfl
theorem rvK_ite {p : Prop} [Decidable p] {a b : Option Out} : rvK (if p then a else b) = if p then rvK a else rvK b := by split <;> rfl
theorem at_ite {q : En → Option Out} {p : Prop} [Decidable p] {a b : Option Out} : afterTurn q (if p then a else b) = if p then afterTurn q a else afterTurn q b := by split <;> rfl
theorem boK_ite {p : Prop} [Decidable p] {a b : Option D} : boK (if p then a else b) = if p then boK a else boK b := by split <;> rfl
theorem rtK_ite {p : Prop} [Decidable p] {a b : Option D} : rtK (if p then a else b) = if p then rtK a else rtK b := by split <;> rfl
theorem ifK_ite {p : Prop} [Decidable p] {a b : Option Bool} : ifK (if p then a else b) F G ρ = if p then ifK a F G ρ else ifK b F G ρ := by split <;> rfl
end

/-! ### walks, by their sources -/
def seqK : Option D → Option (List D)
  | some (.list ds) => some ds
  | some (.tuple ds) => some ds
  | some (.str z) => some (z.cps.toList.map fun c => .str ⟨#[c]⟩)
  | _ => none
def rg1K : Option (List D) → Option (List D)
  | some [.int j] => if -4611686018427387904 ≤ j ∧ j < 4611686018427387904 then some ((List.range j.toNat).map fun (i : Nat) => .int (i : Int)) else none
  | _ => none
def rg2K : Option (List D) → Option (List D)
  | some [.int i, .int j] => if -4611686018427387904 ≤ i ∧ i < 4611686018427387904 ∧ -4611686018427387904 ≤ j ∧ j < 4611686018427387904 then some ((List.range (j - i).toNat).map fun (k : Nat) => .int (i + k)) else none
  | _ => none
def revK : Option (List D) → Option (List D)
  | some [.list ds] => some ds.reverse
  | _ => none
def enuK : Option (List D) → Option (List D)
  | some [.list ds] => some (enumD 0 ds)
  | some [.str z] => some (enumD 0 (z.cps.toList.map fun c => .str ⟨#[c]⟩))
  | _ => none
def zipK : Option (List D) → Option (List D)
  | some [.list ds, .list es] => some (zipD ds es)
  | _ => none
section
variable {F : En → Option Out} {ρ : En} {f : En → Option D} {fl : En → Option (List D)} {c : En → Option Bool} {ds es : List D} {i j : Int} {z : Str} {h : D → En → Option En}
theorem iSeqD_ap : iSeqD f ρ = seqK (f ρ) := by unfold iSeqD seqK; rfl
theorem iRg1D_ap : iRg1D fl ρ = rg1K (fl ρ) := by unfold iRg1D rg1K; rfl
theorem iRg2D_ap : iRg2D fl ρ = rg2K (fl ρ) := by unfold iRg2D rg2K; rfl
theorem iRevD_ap : iRevD fl ρ = revK (fl ρ) := by unfold iRevD revK; rfl
theorem iEnumD_ap : iEnumD fl ρ = enuK (fl ρ) := by unfold iEnumD enuK; rfl
theorem iZipD_ap : iZipD fl ρ = zipK (fl ρ) := by unfold iZipD zipK; rfl
theorem seqK_l : seqK (some (.list ds)) = some ds := rfl
theorem seqK_t : seqK (some (.tuple ds)) = some ds := rfl
theorem seqK_s : seqK (some (.str z)) = some (z.cps.toList.map fun c => .str ⟨#[c]⟩) := rfl
theorem rg1K_i (h : -4611686018427387904 ≤ j ∧ j < 4611686018427387904) : rg1K (some [.int j]) = some ((List.range j.toNat).map fun (i : Nat) => .int (i : Int)) := if_pos h
theorem rg2K_i (h : -4611686018427387904 ≤ i ∧ i < 4611686018427387904 ∧ -4611686018427387904 ≤ j ∧ j < 4611686018427387904) : rg2K (some [.int i, .int j]) = some ((List.range (j - i).toNat).map fun (k : Nat) => .int (i + k)) := if_pos h
theorem revK_l : revK (some [.list ds]) = some ds.reverse := rfl
theorem enuK_l : enuK (some [.list ds]) = some (enumD 0 ds) := rfl
theorem zipK_l : zipK (some [.list ds, .list es]) = some (zipD ds es) := rfl
/-- a loop by an invariant of its turns -/
theorem forGo_inv (I : Nat → En → Prop) : ∀ {ds : List D} {ρ : En} (n : Nat), I n ρ → (∀ i d ρ, ds[i]? = some d → I (n + i) ρ → ∃ ρ1 ρ2, h d ρ = some ρ1 ∧ (F ρ1 = some (.nx ρ2) ∨ F ρ1 = some (.ct ρ2)) ∧ I (n + i + 1) ρ2) → ∃ ρ', forGo h F ds ρ = some (.nx ρ') ∧ I (n + ds.length) ρ'
  | [], ρ, n, h0, _ => ⟨ρ, rfl, h0⟩
  | d :: ds, ρ, n, h0, q => by
    obtain ⟨ρ1, ρ2, h1, h2, h3⟩ := q 0 d ρ rfl h0
    obtain ⟨ρ', h4, h5⟩ := forGo_inv I (ds := ds) (ρ := ρ2) (n + 1) h3 fun i e ρ he hI => by
      have := q (i + 1) e ρ (by simpa using he) (by rw [show n + (i + 1) = n + 1 + i from by omega]; exact hI)
      rw [show n + (i + 1) + 1 = n + 1 + i + 1 from by omega] at this
      exact this
    refine ⟨ρ', ?_, by rw [List.length_cons, show n + (ds.length + 1) = n + 1 + ds.length from by omega]; exact h5⟩
    rw [forGo_c, h1, tgK_s]
    rcases h2 with h2 | h2
    · rw [h2, at_nx]; exact h4
    · rw [h2, at_ct]; exact h4
/-- a loop that leaves at most one thing behind each turn -/
theorem forGo_all {P : En → Prop} {ds : List D} {ρ : En} (h0 : P ρ) (q : ∀ d ∈ ds, ∀ ρ, P ρ → ∃ ρ1 ρ2, h d ρ = some ρ1 ∧ F ρ1 = some (.nx ρ2) ∧ P ρ2) : ∃ ρ', forGo h F ds ρ = some (.nx ρ') ∧ P ρ' := by
  obtain ⟨ρ', a, b⟩ := forGo_inv (h := h) (F := F) (fun _ ρ => P ρ) (ds := ds) 0 h0 fun i d ρ hd hp => by
    obtain ⟨ρ1, ρ2, x, y, z⟩ := q d (List.mem_of_getElem? hd) ρ hp
    exact ⟨ρ1, ρ2, x, .inl y, z⟩
  exact ⟨ρ', a, b⟩
/-- a comprehension each of whose items is some datum of a kind -/
theorem compGo_ex {β : Type} (enc : β → D) (Pr : D → β → Prop) : ∀ {ds : List D}, (∀ d ∈ ds, ∃ ρ1, h d ρ = some ρ1 ∧ c ρ1 = some true ∧ ∃ w : β, f ρ1 = some (enc w) ∧ Pr d w) → ∃ ws : List β, compGo h c f ρ ds = some (ws.map enc) ∧ ws.length = ds.length ∧ (∀ (i : Nat) d w, ds[i]? = some d → ws[i]? = some w → Pr d w) ∧ ∀ w ∈ ws, ∃ d ∈ ds, Pr d w
  | [], _ => ⟨[], rfl, rfl, (fun i d w h => by cases h), fun w h => by cases h⟩
  | d :: ds, q => by
    obtain ⟨ρ1, h1, h2, w, h3, hp⟩ := q d List.mem_cons_self
    obtain ⟨ws, i1, i2, i3, i4⟩ := compGo_ex enc Pr (ds := ds) fun e he => q e (List.mem_cons_of_mem _ he)
    refine ⟨w :: ws, ?_, by rw [List.length_cons, List.length_cons, i2], fun i e v he hv => ?_, fun v hv => ?_⟩
    · rw [compGo_c, h1, cdK_t h2, h3, i1]; rfl
    · cases i with
      | zero =>
        rw [List.getElem?_cons_zero] at he hv
        cases he; cases hv; exact hp
      | succ i =>
        rw [List.getElem?_cons_succ] at he hv
        exact i3 i e v he hv
    · rcases List.mem_cons.mp hv with e | hv
      · subst e; exact ⟨d, List.mem_cons_self, hp⟩
      · obtain ⟨e, he, hpe⟩ := i4 v hv
        exact ⟨e, List.mem_cons_of_mem _ he, hpe⟩
end
theorem enum_mem : ∀ (ds : List D) (n : Nat) (z : D), z ∈ enumD n ds → ∃ (j : Nat) (d : D), n ≤ j ∧ j < n + ds.length ∧ d ∈ ds ∧ z = .tuple [.int (j : Int), d]
  | [], n, z, h => by cases h
  | d :: ds, n, z, h => by
    rcases List.mem_cons.mp h with e | h
    · exact ⟨n, d, Nat.le_refl _, by simp only [List.length_cons]; omega, List.mem_cons_self, e⟩
    · obtain ⟨j, d', h1, h2, h3, h4⟩ := enum_mem ds (n + 1) z h
      exact ⟨j, d', by omega, by simp only [List.length_cons]; omega, List.mem_cons_of_mem _ h3, h4⟩
theorem range_mem {n : Nat} {z : D} (h : z ∈ (List.range n).map fun (i : Nat) => PyData.int (i : Int)) : ∃ i : Nat, i < n ∧ z = .int (i : Int) := by
  obtain ⟨i, hi, e⟩ := List.mem_map.mp h
  exact ⟨i, List.mem_range.mp hi, e.symm⟩
theorem range_get {n i : Nat} {z : D} (h : ((List.range n).map fun (i : Nat) => PyData.int (i : Int))[i]? = some z) : i < n ∧ z = .int (i : Int) := by
  rw [List.getElem?_map] at h
  obtain ⟨c, h1, h2⟩ := map_some h
  obtain ⟨h3, h4⟩ := List.getElem?_eq_some_iff.mp h1
  rw [List.length_range] at h3
  rw [List.getElem_range] at h4
  subst h4
  exact ⟨h3, h2.symm⟩
/-! ### equal data -/
def okd (n : Nat) (d : D) : Prop := PyData.canLay0 d = true ∧ d.depth ≤ n
theorem okd_all : ∀ {n : Nat} {ds : List D}, (∀ d ∈ ds, okd n d) → PyData.canLayAll0 ds = true ∧ PyData.depthAll ds ≤ n
  | n, [], _ => ⟨rfl, Nat.zero_le _⟩
  | n, d :: ds, h => by
    have h1 := h d List.mem_cons_self
    have h2 := okd_all (n := n) (ds := ds) fun e he => h e (List.mem_cons_of_mem _ he)
    refine ⟨?_, ?_⟩
    · show (d.canLay0 && PyData.canLayAll0 ds) = true
      rw [h1.1, h2.1]; rfl
    · show max d.depth (PyData.depthAll ds) ≤ n
      exact Nat.max_le.mpr ⟨h1.2, h2.2⟩
theorem okd_tup {n : Nat} {ds : List D} (h : ∀ d ∈ ds, okd n d) : okd (n + 1) (.tuple ds) := ⟨(okd_all h).1, Nat.succ_le_succ (okd_all h).2⟩
theorem okd_list {n : Nat} {ds : List D} (h : ∀ d ∈ ds, okd n d) : okd (n + 1) (.list ds) := ⟨(okd_all h).1, Nat.succ_le_succ (okd_all h).2⟩
theorem okd_int {n : Nat} {i : Int} : okd n (.int i) := ⟨rfl, Nat.zero_le _⟩
theorem okd_bool {n : Nat} {i : Bool} : okd n (.bool i) := ⟨rfl, Nat.zero_le _⟩
theorem okd_none {n : Nat} : okd n .none := ⟨rfl, Nat.zero_le _⟩
theorem okd_str {n : Nat} {x : Str} (h : PyData.strOk x = true) : okd n (.str x) := ⟨h, Nat.zero_le _⟩
theorem okd.mono {n m : Nat} {d : D} (h : okd n d) (e : n ≤ m) : okd m d := ⟨h.1, Nat.le_trans h.2 e⟩
theorem okd_ints {n : Nat} {ns : List Int} : ∀ d ∈ ns.map PyData.int, okd n d := fun d hd => by
  obtain ⟨i, _, e⟩ := List.mem_map.mp hd
  subst e; exact okd_int
theorem okd_c {n : Nat} {d : D} {ds : List D} (h : okd n d) (k : ∀ e ∈ ds, okd n e) : ∀ e ∈ d :: ds, okd n e := fun e he => by
  rcases List.mem_cons.mp he with z | he
  · subst z; exact h
  · exact k e he
theorem okd_n {n : Nat} : ∀ e ∈ ([] : List D), okd n e := fun e he => by cases he
theorem eqOk_of {n : Nat} {d e : D} (h : okd n d) (h' : PyData.canLay0 e = true) : eqOk n d e = true := by
  unfold eqOk
  rw [h.1, h', decide_eq_true (Nat.le_trans (Nat.min_le_left _ _) h.2)]
  cases scD d e <;> rfl
mutual
theorem eqv_self : ∀ d : D, PyData.canLay0 d = true → PyData.eqv d d = true
  | .none, _ => rfl
  | .bool a, _ => by simp [PyData.eqv]
  | .int a, _ => by simp [PyData.eqv]
  | .str a, _ => by simp [PyData.eqv]
  | .list ds, h => by
    show PyData.eqvAll ds ds = true
    exact eqvAll_self ds (by simpa [PyData.canLay0] using h)
  | .tuple ds, h => by
    show PyData.eqvAll ds ds = true
    exact eqvAll_self ds (by simpa [PyData.canLay0] using h)
  | .dict _, h => by simp [PyData.canLay0] at h
theorem eqvAll_self : ∀ ds : List D, PyData.canLayAll0 ds = true → PyData.eqvAll ds ds = true
  | [], _ => rfl
  | d :: ds, h => by
    have h' : PyData.canLay0 d = true ∧ PyData.canLayAll0 ds = true := by simpa [PyData.canLayAll0] using h
    show (PyData.eqv d d && PyData.eqvAll ds ds) = true
    rw [eqv_self d h'.1, eqvAll_self ds h'.2]; rfl
end
theorem eqD_self {n : Nat} {d : D} (h : okd n d) : eqD n d d = some (.bool true) := by
  unfold eqD
  rw [if_pos (eqOk_of h h.1), eqv_self d h.1]
theorem neD_self {n : Nat} {d : D} (h : okd n d) : neD n d d = some (.bool false) := by
  unfold neD
  rw [if_pos (eqOk_of h h.1), eqv_self d h.1]; rfl
theorem nat2 : ((2 : Nat) : Int) = 2 := rfl
theorem nat3 : ((3 : Nat) : Int) = 3 := rfl
theorem nat4 : ((4 : Nat) : Int) = 4 := rfl
theorem nat5 : ((5 : Nat) : Int) = 5 := rfl
theorem nat1 : ((1 : Nat) : Int) = 1 := rfl
theorem nat0 : ((0 : Nat) : Int) = 0 := rfl
/-! ### loops and comprehensions, told of what stands in the goal -/
section
variable {F : En → Option Out} {ρ : En} {f : En → Option D} {c : En → Option Bool} {ds : List D} {h : D → En → Option En} {X : Option Out} {Y : Option (List D)}
theorem cdK_s {ρ1 : En} : cdK h c f ρ ds (some ρ1) = match c ρ1 with | some true => cnK (f ρ1) (compGo h c f ρ ds) | some false => compGo h c f ρ ds | none => none := rfl
theorem cdK_y {ρ1 : En} : cdK h cYes f ρ ds (some ρ1) = cnK (f ρ1) (compGo h cYes f ρ ds) := rfl
theorem cdK_ap {ys : List D} {o : Option En} (e : cdK h c f ρ [] o = some ys) : cdK h c f ρ ds o = (compGo h c f ρ ds).map (ys ++ ·) := by
  cases o with
  | none => cases e
  | some ρ1 =>
    unfold cdK at e ⊢
    dsimp only at e ⊢
    cases hc : c ρ1 with
    | none => rw [hc] at e; cases e
    | some b =>
      rw [hc] at e
      cases b
      · dsimp only at e ⊢
        cases e
        cases compGo h c f ρ ds <;> rfl
      · dsimp only at e ⊢
        cases hf : f ρ1 with
        | none => rw [hf] at e; cases e
        | some d =>
          rw [hf] at e
          cases e
          cases compGo h c f ρ ds <;> rfl
theorem comp_ex {β : Type} (enc : β → D) (Pr : D → β → Prop) : ∀ {ds : List D} {Y : Option (List D)}, compGo h c f ρ ds = Y → (∀ d ∈ ds, ∃ w : β, cdK h c f ρ [] (h d ρ) = some [enc w] ∧ Pr d w) → ∃ ws : List β, Y = some (ws.map enc) ∧ ws.length = ds.length ∧ (∀ (i : Nat) d w, ds[i]? = some d → ws[i]? = some w → Pr d w) ∧ ∀ w ∈ ws, ∃ d ∈ ds, Pr d w
  | [], _, e, _ => ⟨[], e.symm, rfl, (fun i d w h => by cases h), fun w h => by cases h⟩
  | d :: ds, Y, e, q => by
    obtain ⟨w, h1, hp⟩ := q d List.mem_cons_self
    obtain ⟨ws, i1, i2, i3, i4⟩ := comp_ex enc Pr (ds := ds) rfl fun e he => q e (List.mem_cons_of_mem _ he)
    refine ⟨w :: ws, ?_, by rw [List.length_cons, List.length_cons, i2], fun i e v he hv => ?_, fun v hv => ?_⟩
    · rw [← e, compGo_c, cdK_ap h1, i1]; rfl
    · cases i with
      | zero =>
        rw [List.getElem?_cons_zero] at he hv
        cases he; cases hv; exact hp
      | succ i =>
        rw [List.getElem?_cons_succ] at he hv
        exact i3 i e v he hv
    · rcases List.mem_cons.mp hv with e | hv
      · subst e; exact ⟨d, List.mem_cons_self, hp⟩
      · obtain ⟨e, he, hpe⟩ := i4 v hv
        exact ⟨e, List.mem_cons_of_mem _ he, hpe⟩
theorem comp_map (g : D → D) : ∀ {ds : List D} {Y : Option (List D)}, compGo h c f ρ ds = Y → (∀ d ∈ ds, cdK h c f ρ [] (h d ρ) = some [g d]) → Y = some (ds.map g)
  | [], _, e, _ => e.symm
  | d :: ds, Y, e, q => by
    have ih := comp_map g (ds := ds) rfl fun e he => q e (List.mem_cons_of_mem _ he)
    rw [← e, compGo_c, cdK_ap (q d List.mem_cons_self), ih]; rfl
theorem loop_app {V β : Type} (E : V → List D → En) (enc : β → D) (Pr : D → β → Prop) : ∀ {ds : List D} {acc : List D} (v : V) {X : Option Out}, forGo h F ds (E v acc) = X → acc.length + ds.length ≤ 1000 →
    (∀ d ∈ ds, ∀ v acc, acc.length < 1000 → ∃ (w : β) (v' : V), ((h d (E v acc)).bind F = some (.nx (E v' (acc ++ [enc w]))) ∨ (h d (E v acc)).bind F = some (.ct (E v' (acc ++ [enc w])))) ∧ Pr d w) →
    ∃ (ws : List β) (v' : V), X = some (.nx (E v' (acc ++ ws.map enc))) ∧ ws.length = ds.length ∧ (∀ (i : Nat) d w, ds[i]? = some d → ws[i]? = some w → Pr d w) ∧ ∀ w ∈ ws, ∃ d ∈ ds, Pr d w
  | [], acc, v, _, e, _, _ => ⟨[], v, by rw [← e, List.map_nil, List.append_nil]; rfl, rfl, (fun i d w h => by cases h), fun w h => by cases h⟩
  | d :: ds, acc, v, X, e, hl, q => by
    rw [List.length_cons] at hl
    obtain ⟨w, v1, h1, hp⟩ := q d List.mem_cons_self v acc (by omega)
    obtain ⟨ws, v2, i1, i2, i3, i4⟩ := loop_app E enc Pr (ds := ds) (acc := acc ++ [enc w]) v1 rfl (by rw [List.length_append, List.length_singleton]; omega) fun e he => q e (List.mem_cons_of_mem _ he)
    refine ⟨w :: ws, v2, ?_, by rw [List.length_cons, List.length_cons, i2], fun i e v he hv => ?_, fun v hv => ?_⟩
    · rw [← e, forGo_c]
      cases hh : h d (E v acc) with
      | none => rw [hh] at h1; rcases h1 with h1 | h1 <;> cases h1
      | some ρ1 =>
        rw [hh, Option.bind_some] at h1
        rw [tgK_s]
        rcases h1 with h1 | h1
        · rw [h1, at_nx, i1, List.map_cons, List.append_assoc]; rfl
        · rw [h1, at_ct, i1, List.map_cons, List.append_assoc]; rfl
    · cases i with
      | zero =>
        rw [List.getElem?_cons_zero] at he hv
        cases he; cases hv; exact hp
      | succ i =>
        rw [List.getElem?_cons_succ] at he hv
        exact i3 i e v he hv
    · rcases List.mem_cons.mp hv with e | hv
      · subst e; exact ⟨d, List.mem_cons_self, hp⟩
      · obtain ⟨e, he, hpe⟩ := i4 v hv
        exact ⟨e, List.mem_cons_of_mem _ he, hpe⟩
/-- a loop over a state that is told at each turn's beginning -/
theorem loop_st {V : Type} (E : V → En) (I : Nat → V → Prop) : ∀ {ds : List D} (v : V) (n : Nat) {X : Option Out}, forGo h F ds (E v) = X → I n v →
    (∀ i d v, ds[i]? = some d → I (n + i) v → ∃ v', ((h d (E v)).bind F = some (.nx (E v')) ∨ (h d (E v)).bind F = some (.ct (E v'))) ∧ I (n + i + 1) v') →
    ∃ v', X = some (.nx (E v')) ∧ I (n + ds.length) v'
  | [], v, n, _, e, h0, _ => ⟨v, e.symm, h0⟩
  | d :: ds, v, n, X, e, h0, q => by
    obtain ⟨v1, h1, h3⟩ := q 0 d v rfl h0
    obtain ⟨v', h4, h5⟩ := loop_st E I (ds := ds) v1 (n + 1) rfl h3 fun i e v he hI => by
      have := q (i + 1) e v (by simpa using he) (by rw [show n + (i + 1) = n + 1 + i from by omega]; exact hI)
      rw [show n + (i + 1) + 1 = n + 1 + i + 1 from by omega] at this
      exact this
    refine ⟨v', ?_, by rw [List.length_cons, show n + (ds.length + 1) = n + 1 + ds.length from by omega]; exact h5⟩
    rw [← e, forGo_c]
    cases hh : h d (E v) with
    | none => rw [hh] at h1; rcases h1 with h1 | h1 <;> cases h1
    | some ρ1 =>
      rw [hh, Option.bind_some] at h1
      rw [tgK_s]
      rcases h1 with h1 | h1
      · rw [h1, at_nx]; exact h4
      · rw [h1, at_ct]; exact h4
theorem loop_chk {V : Type} (E : V → En) (v : V) (hX : forGo h F ds (E v) = X) (q : ∀ d ∈ ds, ∀ v, ∃ v', (h d (E v)).bind F = some (.nx (E v'))) : ∃ v', X = some (.nx (E v')) := by
  obtain ⟨v', a, _⟩ := loop_st (h := h) (F := F) E (fun _ _ => True) v 0 hX trivial fun i d v hd _ => by
    obtain ⟨v', z⟩ := q d (List.mem_of_getElem? hd) v
    exact ⟨v', .inl z, trivial⟩
  exact ⟨v', a⟩
end
theorem allBl_t : ∀ {ds : List D}, allBl (ds.map fun _ => PyData.bool true) = some (ds.map fun _ => true)
  | [] => rfl
  | d :: ds => by
    show (allBl (ds.map fun _ => PyData.bool true)).map _ = _
    rw [allBl_t]; rfl
theorem all_t {ds : List D} : allD [.list (ds.map fun _ => PyData.bool true)] = some (.bool true) := by
  show (allBl (ds.map fun _ => PyData.bool true)).map _ = _
  rw [allBl_t]
  have : ∀ ds : List D, (ds.map fun _ => true).all id = true := fun ds => by
    induction ds with
    | nil => rfl
    | cons d ds ih => rw [List.map_cons, List.all_cons, ih]; rfl
  show some (PyData.bool _) = _
  rw [this]
theorem zip_mem : ∀ {ds es : List D} {z : D}, z ∈ zipD ds es → ∃ (i : Nat) (d e : D), ds[i]? = some d ∧ es[i]? = some e ∧ z = .tuple [d, e]
  | [], _, _, h => by cases h
  | _ :: _, [], _, h => by cases h
  | d :: ds, e :: es, z, h => by
    rcases List.mem_cons.mp h with x | h
    · exact ⟨0, d, e, rfl, rfl, x⟩
    · obtain ⟨i, d', e', h1, h2, h3⟩ := zip_mem h
      exact ⟨i + 1, d', e', h1, h2, h3⟩
/-! ### whiles -/
section
variable {F : En → Option Out} {c : En → Option Bool}
theorem loop_wh {V : Type} (E : V → En) (I : V → Prop) (P : Out → Prop) (m : V → Nat) (q : ∀ v, I v → (c (E v) = some false ∧ P (.nx (E v))) ∨ (c (E v) = some true ∧
      ((∃ v', (F (E v) = some (.nx (E v')) ∨ F (E v) = some (.ct (E v'))) ∧ I v' ∧ m v' < m v) ∨ (∃ ρ', F (E v) = some (.bk ρ') ∧ P (.nx ρ')) ∨ (∃ d, F (E v) = some (.rt d) ∧ P (.rt d)) ∨ ∃ ds, F (E v) = some (.rl ds) ∧ P (.rl ds)))) :
    ∀ (n : Nat) (v : V) {X : Option Out}, sWhile c F n (E v) = X → m v < n → I v → ∃ o, X = some o ∧ P o
  | 0, v, _, _, h, _ => absurd h (Nat.not_lt_zero _)
  | n + 1, v, X, e, h, hI => by
    rcases q v hI with ⟨h1, h2⟩ | ⟨h1, h2⟩
    · exact ⟨_, by rw [← e, sWhile_ap, h1, wiK_f], h2⟩
    · rw [sWhile_ap, h1, wiK_t] at e
      rcases h2 with ⟨v', h2, h3, h4⟩ | ⟨ρ', h2, h3⟩ | ⟨d, h2, h3⟩ | ⟨ds, h2, h3⟩
      · rcases h2 with h2 | h2
        · rw [h2, at_nx] at e
          exact loop_wh E I P m q n v' e (by omega) h3
        · rw [h2, at_ct] at e
          exact loop_wh E I P m q n v' e (by omega) h3
      · rw [h2, at_bk] at e; exact ⟨_, e.symm, h3⟩
      · rw [h2, at_rt] at e; exact ⟨_, e.symm, h3⟩
      · rw [h2, at_rl] at e; exact ⟨_, e.symm, h3⟩
end
/-! ### the rules of ZA -/
def xbK (G : D × En → Option Out) : Option (D × En) → Option Out
  | some p => G p
  | none => none
def xcK {α : Type} (F : D → En → α) : Option (D × En) → Option α
  | some p => some (F p.1 p.2)
  | none => none
def paK (ρ : En) (i : Nat) : Option (Option SV) → Option (D × En)
  | some (some (.ow ds)) => ds.getLast?.map fun d => (d, ρ.set i (some (.ow ds.dropLast)))
  | _ => none
def exK (ρ : En) (i : Nat) : Option (Option SV) → Option (List D) → Option Out
  | some (some (.ow ds)), some es => if ds.length + es.length ≤ 1000000 then some (.nx (ρ.set i (some (.ow (ds ++ es))))) else none
  | _, _ => none
def clK (ρ : En) (i : Nat) : Option (Option SV) → Option Out
  | some (some (.ow _)) => some (.nx (ρ.set i (some (.ow []))))
  | _ => none
section
variable {i j : Nat} {ρ : En} {f : En → Option D} {fl : En → Option (List D)} {F : En → Option (D × En)} {G : En → Option (List D × En)} {g : List D → Option D} {d : D} {ds es : List D}
theorem sClear_ap : sClear i ρ = clK ρ i ρ[i]? := by unfold sClear clK; rfl
theorem clK_s : clK ρ i (some (some (.ow ds))) = some (.nx (ρ.set i (some (.ow [])))) := rfl
theorem sExt_ap : sExt i fl ρ = exK ρ i ρ[i]? (fl ρ) := by
  unfold sExt exK
  generalize ρ[i]? = o
  generalize fl ρ = a
  match o, a with
  | some (some (.ow ds)), some _ => rfl
  | some (some (.ow ds)), none => rfl
  | some (some (.ro _)), _ => rfl
  | some (some (.oK _ _)), _ => rfl
  | some (some (.lr _)), _ => rfl
  | some (some (.xc _ _)), _ => rfl
  | some none, _ => rfl
  | none, _ => rfl
theorem exK_s (h : ds.length + es.length ≤ 1000000) : exK ρ i (some (some (.ow ds))) (some es) = some (.nx (ρ.set i (some (.ow (ds ++ es))))) := if_pos h
end
/-! ### pops -/
def xsK (i : Nat) : Option (D × En) → Option Out
  | some p => some (.nx (p.2.set i (some (.ro p.1))))
  | none => none
def poK (i : Nat) (ρ : En) : Option (Option SV) → Option (D × En)
  | some (some (.ow ds)) => ds.getLast?.map fun d => (d, ρ.set i (some (.ow ds.dropLast)))
  | _ => none
def patK (i : Nat) (ρ : En) : Option (Option SV) → Option D → Option (D × En)
  | some (some (.ow ds)), some (.int k) => if 0 ≤ k ∧ k < 1000000 then (ds[k.toNat]?).map fun d => (d, ρ.set i (some (.ow (ds.eraseIdx k.toNat)))) else none
  | _, _ => none
def xacK (G : En → Option (List D × En)) : Option (D × En) → Option (List D × En)
  | some p => (G p.2).map fun q => (p.1 :: q.1, q.2)
  | none => none
def xtK : Option (List D × En) → Option (D × En)
  | some q => if q.1.length ≤ 1000000 then some (.tuple q.1, q.2) else none
  | none => none
def xeK (ρ : En) : Option D → Option (D × En)
  | some d => some (d, ρ)
  | none => none
def xclK (g : List D → Option D) : Option (List D × En) → Option (D × En)
  | some q => (g q.1).map fun d => (d, q.2)
  | none => none
def xagK (h : D → En → Option En) : Option (D × En) → Option Out
  | some p => (h p.1 p.2).map .nx
  | none => none
def xdK : Option (D × En) → Option Out
  | some p => some (.nx p.2)
  | none => none
def xrK : Option (D × En) → Option Out
  | some p => some (.rt p.1)
  | none => none
def ax2K (i : Nat) (d : D) (ρ : En) : Option (Option SV) → Option Out
  | some (some (.ow ds)) => if ds.length < 1000000 then some (.nx (ρ.set i (some (.ow (ds ++ [d]))))) else none
  | _ => none
def axK (i : Nat) (o : Option (D × En)) : Option (Option SV) → Option Out
  | some (some (.ow _)) => match o with
    | some p => ax2K i p.1 p.2 p.2[i]?
    | none => none
  | _ => none
section
variable {i j : Nat} {ρ ρ' : En} {f : En → Option D} {F : En → Option (D × En)} {G : En → Option (List D × En)} {g : List D → Option D} {d : D} {ds es : List D} {h : D → En → Option En}
theorem sSetX_ap : sSetX i F ρ = xsK i (F ρ) := by unfold sSetX xsK; cases F ρ <;> rfl
theorem xsK_s : xsK i (some (d, ρ)) = some (.nx (ρ.set i (some (.ro d)))) := rfl
theorem xPop_ap : xPop i ρ = poK i ρ ρ[i]? := by unfold xPop poK; rfl
theorem poK_s : poK i ρ (some (some (.ow (ds ++ [d])))) = some (d, ρ.set i (some (.ow ds))) := by
  show (ds ++ [d]).getLast?.map _ = _
  rw [List.getLast?_append, List.getLast?_singleton, List.dropLast_concat]; rfl
theorem poK_1 : poK i ρ (some (some (.ow [d]))) = some (d, ρ.set i (some (.ow []))) := rfl
theorem xPopAt_ap : xPopAt i f ρ = patK i ρ ρ[i]? (f ρ) := by
  unfold xPopAt patK
  generalize ρ[i]? = o
  generalize f ρ = a
  match o, a with
  | some (some (.ow ds)), some (.int _) => rfl
  | some (some (.ow ds)), some .none => rfl
  | some (some (.ow ds)), some (.bool _) => rfl
  | some (some (.ow ds)), some (.str _) => rfl
  | some (some (.ow ds)), some (.list _) => rfl
  | some (some (.ow ds)), some (.tuple _) => rfl
  | some (some (.ow ds)), some (.dict _) => rfl
  | some (some (.ow ds)), none => rfl
  | some (some (.ro _)), _ => rfl
  | some (some (.oK _ _)), _ => rfl
  | some (some (.lr _)), _ => rfl
  | some (some (.xc _ _)), _ => rfl
  | some none, _ => rfl
  | none, _ => rfl
theorem patK_0 : patK i ρ (some (some (.ow (d :: ds)))) (some (.int 0)) = some (d, ρ.set i (some (.ow ds))) := rfl
theorem xaNil_ap : xaNil ρ = some ([], ρ) := rfl
theorem xaCons_ap : xaCons F G ρ = xacK G (F ρ) := by unfold xaCons xacK; cases F ρ <;> rfl
theorem xacK_s : xacK G (some (d, ρ)) = (G ρ).map fun q => (d :: q.1, q.2) := rfl
theorem xTup_ap : xTup G ρ = xtK (G ρ) := by unfold xTup xtK; cases G ρ <;> rfl
theorem xtK_s (h : ds.length ≤ 1000000) : xtK (some (ds, ρ)) = some (.tuple ds, ρ) := if_pos h
theorem xE_ap : xE f ρ = xeK ρ (f ρ) := by unfold xE xeK; cases f ρ <;> rfl
theorem xeK_s : xeK ρ (some d) = some (d, ρ) := rfl
theorem xCall_ap : xCall g G ρ = xclK g (G ρ) := by unfold xCall xclK; cases G ρ <;> rfl
theorem xclK_s : xclK g (some (ds, ρ)) = (g ds).map fun d => (d, ρ) := rfl
theorem sAsgX_ap : sAsgX F h ρ = xagK h (F ρ) := by unfold sAsgX xagK; cases F ρ <;> rfl
theorem xagK_s : xagK h (some (d, ρ)) = (h d ρ).map .nx := rfl
theorem sDropX_ap : sDropX F ρ = xdK (F ρ) := by unfold sDropX xdK; cases F ρ <;> rfl
theorem xdK_s : xdK (some (d, ρ)) = some (.nx ρ) := rfl
theorem sRetX_ap : sRetX F ρ = xrK (F ρ) := by unfold sRetX xrK; cases F ρ <;> rfl
theorem xrK_s : xrK (some (d, ρ)) = some (.rt d) := rfl
theorem sAppX_ap : sAppX i F ρ = axK i (F ρ) ρ[i]? := by
  unfold sAppX axK
  generalize ρ[i]? = o
  match o with
  | some (some (.ow ds)) =>
    dsimp only
    cases F ρ with
    | none => rfl
    | some p => unfold ax2K; rfl
  | some (some (.ro _)) => rfl
  | some (some (.oK _ _)) => rfl
  | some (some (.lr _)) => rfl
  | some (some (.xc _ _)) => rfl
  | some none => rfl
  | none => rfl
theorem axK_s : axK i (some (d, ρ)) (some (some (.ow ds))) = ax2K i d ρ ρ[i]? := rfl
theorem ax2K_s (h : ds.length < 1000000) : ax2K i d ρ (some (some (.ow ds))) = some (.nx (ρ.set i (some (.ow (ds ++ [d]))))) := if_pos h
theorem sReverse_ap : sReverse i ρ = (match ρ[i]? with
  | some (some (.ow ds)) => some (.nx (ρ.set i (some (.ow ds.reverse))))
  | _ => none) := by unfold sReverse; rfl
end
/-! ### unlike data -/
section
variable {n : Nat} {x y : Str} {ds es : List D} {i : Int}
theorem eq_ts (h : PyData.canLayAll0 ds = true) (hx : PyData.strOk x = true) : eqD n (.tuple ds) (.str x) = some (.bool false) := by
  unfold eqD eqOk
  rw [if_pos]
  · rfl
  · show (_ || (PyData.canLayAll0 ds && PyData.strOk x && decide (min _ 0 ≤ n))) = true
    rw [h, hx, decide_eq_true (by omega)]; simp
theorem ne_ts (h : PyData.canLayAll0 ds = true) (hx : PyData.strOk x = true) : neD n (.tuple ds) (.str x) = some (.bool true) := by
  unfold neD eqOk
  rw [if_pos]
  · rfl
  · show (_ || (PyData.canLayAll0 ds && PyData.strOk x && decide (min _ 0 ≤ n))) = true
    rw [h, hx, decide_eq_true (by omega)]; simp
theorem eq_l0 (h : PyData.canLayAll0 ds = true) : eqD (n + 1) (.list ds) (.list []) = some (.bool ds.isEmpty) := by
  unfold eqD eqOk
  rw [if_pos]
  · cases ds <;> rfl
  · show (_ || (PyData.canLayAll0 ds && true && decide (min _ (0 + 1) ≤ n + 1))) = true
    rw [h, decide_eq_true (by omega)]; simp
theorem eq_bb2 {a b : Bool} : eqD n (.bool a) (.bool b) = some (.bool (decide (a = b))) := eq_bb
theorem ne_bb {a b : Bool} : neD n (.bool a) (.bool b) = some (.bool (!decide (a = b))) := by
  unfold neD eqOk; simp only [scD, Bool.true_or, if_true, PyData.eqv]
  rw [Bool.beq_eq_decide_eq]
end
section
variable {F G : En → Option Out} {ρ : En} {g : En → Option Bool} {f : En → Option D} {b : Bool}
theorem ifK_v : ifK (some b) F G ρ = if b = true then F ρ else G ρ := by cases b <;> rfl
theorem ifK_nv : ifK (some (!b)) F G ρ = if b = true then G ρ else F ρ := by cases b <;> rfl
theorem bOrK_v : bOrK (some b) g ρ = if b = true then some true else g ρ := by cases b <;> rfl
theorem bOrK_nv : bOrK (some (!b)) g ρ = if b = true then g ρ else some true := by cases b <;> rfl
theorem bAndK_v : bAndK (some b) g ρ = if b = true then g ρ else some false := by cases b <;> rfl
theorem bAndK_nv : bAndK (some (!b)) g ρ = if b = true then some false else g ρ := by cases b <;> rfl
theorem andK_v : andK (some (.bool b)) f ρ = if b = true then f ρ else some (.bool false) := by cases b <;> rfl
theorem orK_v : orK (some (.bool b)) f ρ = if b = true then some (.bool true) else f ρ := by cases b <;> rfl
theorem andK_nv : andK (some (.bool (!b))) f ρ = if b = true then some (.bool false) else f ρ := by cases b <;> rfl
theorem orK_nv : orK (some (.bool (!b))) f ρ = if b = true then f ρ else some (.bool true) := by cases b <;> rfl
end
theorem ix_s {z : Str} {i : Int} (h : z.length ≤ 1000000) : ixD (.str z) (.int i) = (atI z.cps.toList i).map fun c => .str ⟨#[c]⟩ := if_pos h
/-! ### texts as lists of signs -/
def sx (xs : List Nat) : D := .str ⟨xs.toArray⟩
section
variable {xs ys : List Nat} {i j : Int} {n : Nat}
theorem sx_len : (⟨xs.toArray⟩ : Str).length = xs.length := by show xs.toArray.size = _; rw [List.size_toArray]
theorem sx_inj : ((⟨xs.toArray⟩ : Str) = ⟨ys.toArray⟩) ↔ xs = ys := by
  constructor
  · intro h
    have h := congrArg Str.cps h
    have h := congrArg Array.toList h
    exact h
  · intro h; rw [h]
theorem add_x (h : xs.length + ys.length ≤ 1000000) : addD (sx xs) (sx ys) = some (sx (xs ++ ys)) := by
  unfold sx
  rw [add_ss (by rw [sx_len, sx_len]; exact h)]
  have : (⟨xs.toArray⟩ : Str) ++ (⟨ys.toArray⟩ : Str) = ⟨(xs ++ ys).toArray⟩ := by
    show (⟨xs.toArray ++ ys.toArray⟩ : Str) = _
    rw [List.append_toArray]
  rw [this]
theorem len_x (h : xs.length ≤ 1000000) : lenD [sx xs] = some (.int xs.length) := by
  unfold sx
  rw [len_s (by rw [sx_len]; exact h), sx_len]
theorem ix_x (h0 : 0 ≤ i) (h : i < xs.length) (hl : xs.length ≤ 1000000) : ixD (sx xs) (.int i) = some (sx [xs.getD i.toNat 0]) := by
  unfold sx
  rw [ix_s (by rw [sx_len]; exact hl)]
  show (atI xs i).map _ = _
  rw [atI_nat' h0 h, List.getD_eq_getElem?_getD, List.getElem?_eq_getElem (by omega)]
  rfl
theorem ix_xl {c : Nat} (hl : xs.length < 1000000) : ixD (sx (xs ++ [c])) (.int (-1)) = some (sx [c]) := by
  unfold sx
  rw [ix_s (by rw [sx_len, List.length_append, List.length_singleton]; omega)]
  show (atI (xs ++ [c]) (-1)).map _ = _
  unfold atI ixN
  rw [if_neg (by decide), if_pos (by rw [List.length_append, List.length_singleton]; omega)]
  have : (((xs ++ [c]).length : Nat) + (-1 : Int)).toNat = xs.length := by rw [List.length_append, List.length_singleton]; omega
  show ((xs ++ [c])[_]?).map _ = _
  rw [show (-1 + ((xs ++ [c]).length : Int)).toNat = xs.length from by rw [List.length_append, List.length_singleton]; omega]
  rw [List.getElem?_append_right (Nat.le_refl _), Nat.sub_self]
  rfl
theorem eq_x : eqD n (sx xs) (sx ys) = some (.bool (decide (xs = ys))) := by
  unfold sx
  rw [eq_ss]
  have : decide ((⟨xs.toArray⟩ : Str) = ⟨ys.toArray⟩) = decide (xs = ys) := by
    by_cases h : xs = ys
    · rw [decide_eq_true h, decide_eq_true (sx_inj.mpr h)]
    · rw [decide_eq_false h, decide_eq_false fun e => h (sx_inj.mp e)]
  rw [this]
theorem ne_x : neD n (sx xs) (sx ys) = some (.bool (!decide (xs = ys))) := by
  unfold sx
  rw [ne_ss]
  have : decide ((⟨xs.toArray⟩ : Str) = ⟨ys.toArray⟩) = decide (xs = ys) := by
    by_cases h : xs = ys
    · rw [decide_eq_true h, decide_eq_true (sx_inj.mpr h)]
    · rw [decide_eq_false h, decide_eq_false fun e => h (sx_inj.mp e)]
  rw [this]
theorem isx_int : isiD "int" (sx xs) = some (.bool false) := isi_s_int
theorem isx_bool : isiD "bool" (sx xs) = some (.bool false) := isi_s_bool
theorem isx_str : isiD "str" (sx xs) = some (.bool true) := isi_s_str
theorem isx_tuple : isiD "tuple" (sx xs) = some (.bool false) := isi_s_tuple
theorem isx_list : isiD "list" (sx xs) = some (.bool false) := isi_s_list
theorem isNx : isND false (sx xs) .none = some (.bool false) := rfl
theorem notNx : isND true (sx xs) .none = some (.bool true) := rfl
theorem okd_x (h : ∀ c ∈ xs, c < 1114112) : okd n (sx xs) := okd_str (by
  show xs.toArray.all (· < 0x110000) = true
  rw [List.all_toArray, List.all_eq_true]
  intro c hc; exact decide_eq_true (h c hc))
theorem enuK_x : enuK (some [sx xs]) = some (enumD 0 (xs.map fun c => sx [c])) := rfl
theorem seq_x : seqK (some (sx xs)) = some (xs.map fun c => sx [c]) := rfl
end
theorem sl_x {xs : List Nat} {lo hi : Option Int} (h : xs.length ≤ 1000000) : slD (sx xs) lo hi = some (sx (cutD xs lo hi)) := by
  unfold sx
  rw [sl_s (by rw [sx_len]; exact h)]
  have : cutS ⟨xs.toArray⟩ lo hi = ⟨(cutD xs lo hi).toArray⟩ := by
    unfold cutS cutD
    rw [sx_len]
  rw [this]
theorem sIx_m1 {n b : Nat} : HT.sIx n b (some (-1)) = n - 1 := by
  unfold HT.sIx
  simp
  omega
theorem cut_m1 {α : Type} {xs : List α} : cutD xs none (some (-1)) = xs.dropLast := by
  unfold cutD
  rw [HT.sIx_none, List.drop_zero, Nat.sub_zero, sIx_m1, List.dropLast_eq_take]
theorem cut_l1 {α : Type} {xs : List α} : cutD xs (some (-1)) none = xs.drop (xs.length - 1) := by
  unfold cutD
  rw [HT.sIx_none, sIx_m1, List.take_of_length_le (by rw [List.length_drop]; omega)]
/-- a loop that looks for the first item of a kind and hands back -/
theorem loop_find {β V : Type} {F : En → Option Out} {h : D → En → Option En} (E : V → En) (enc : β → D) (p : β → Bool) (r : β → D) : ∀ {bs : List β} (v : V) {X : Option Out}, forGo h F (bs.map enc) (E v) = X →
    (∀ b ∈ bs, ∀ v, (p b = true ∧ (h (enc b) (E v)).bind F = some (.rt (r b))) ∨ (p b = false ∧ ∃ v', (h (enc b) (E v)).bind F = some (.nx (E v')))) →
    (∃ b, bs.find? p = some b ∧ X = some (.rt (r b))) ∨ (bs.find? p = none ∧ ∃ v', X = some (.nx (E v')))
  | [], v, _, e, _ => .inr ⟨rfl, v, e.symm⟩
  | b :: bs, v, X, e, q => by
    rw [List.map_cons, forGo_c] at e
    rcases q b List.mem_cons_self v with ⟨h1, h2⟩ | ⟨h1, v', h2⟩
    · refine .inl ⟨b, by rw [List.find?_cons, h1], ?_⟩
      cases hh : h (enc b) (E v) with
      | none => rw [hh] at h2; cases h2
      | some ρ1 =>
        rw [hh, Option.bind_some] at h2
        rw [hh, tgK_s, h2, at_rt] at e
        exact e.symm
    · have e2 : forGo h F (bs.map enc) (E v') = X := by
        cases hh : h (enc b) (E v) with
        | none => rw [hh] at h2; cases h2
        | some ρ1 =>
          rw [hh, Option.bind_some] at h2
          rw [hh, tgK_s, h2, at_nx] at e
          exact e
      rcases loop_find E enc p r v' e2 (fun c hc => q c (List.mem_cons_of_mem _ hc)) with ⟨c, h3, h4⟩ | ⟨h3, h4⟩
      · exact .inl ⟨c, by rw [List.find?_cons, h1]; exact h3, h4⟩
      · exact .inr ⟨by rw [List.find?_cons, h1]; exact h3, h4⟩
/-! ### lists of the caller -/
def xiK (g : List D → List D → Option (D × List D)) (j : Nat) (ρ : En) : Option (Option SV) → Option (List D) → Option (D × En)
  | some (some (.ow us)), some ds => (g ds us).map fun p => (p.1, ρ.set j (some (.ow p.2)))
  | _, _ => none
def rpK (ρ : En) : Option D → Option Out
  | some d => some (.rp d ρ)
  | none => none
section
variable {g : List D → List D → Option (D × List D)} {i j n m : Nat} {ρ : En} {f : En → Option D} {F : En → Option Out} {a : En → Option (List D)} {d : D} {ds us : List D} {G H : En → Option Out}
theorem xIO_ap : xIO g j a ρ = xiK g j ρ ρ[j]? (a ρ) := by
  unfold xIO xiK
  generalize ρ[j]? = o
  generalize a ρ = b
  match o, b with
  | some (some (.ow us)), some _ => rfl
  | some (some (.ow us)), none => rfl
  | some (some (.ro _)), _ => rfl
  | some (some (.oK _ _)), _ => rfl
  | some (some (.lr _)), _ => rfl
  | some (some (.xc _ _)), _ => rfl
  | some none, _ => rfl
  | none, _ => rfl
theorem xiK_s : xiK g j ρ (some (some (.ow us))) (some ds) = (g ds us).map fun p => (p.1, ρ.set j (some (.ow p.2))) := rfl
theorem sRetP_ap : sRetP f ρ = rpK ρ (f ρ) := by unfold sRetP rpK; cases f ρ <;> rfl
theorem rpK_s : rpK ρ (some d) = some (.rp d ρ) := rfl
theorem gIO_ap (e : ds.length + 1 = n) : gIO n m F ds us = ioR ds.length (F (envIO m ds us)) := if_pos e
theorem ioR_rp : ioR i (some (.rp d ρ)) = ioK d ρ[i]? := rfl
theorem ioR_nx : ioR i (some (.nx ρ)) = ioK .none ρ[i]? := rfl
theorem ioK_s : ioK d (some (some (.ow us))) = some (d, us) := rfl
theorem sqK_rp : sqK (some (.rp d ρ)) G = some (.rp d ρ) := rfl
theorem ioR_ite {p : Prop} [Decidable p] {x y : Option Out} : ioR i (if p then x else y) = if p then ioR i x else ioR i y := by split <;> rfl
end
/-- a loop over a state, that may hand back -/
theorem loop_any {V : Type} {F : En → Option Out} {h : D → En → Option En} (E : V → En) (I : Nat → V → Prop) (R : D → Prop) : ∀ {ds : List D} (v : V) (n : Nat) {X : Option Out}, forGo h F ds (E v) = X → I n v →
    (∀ i d v, ds[i]? = some d → I (n + i) v → (∃ v', (h d (E v)).bind F = some (.nx (E v')) ∧ I (n + i + 1) v') ∨ ∃ r, (h d (E v)).bind F = some (.rt r) ∧ R r) →
    (∃ v', X = some (.nx (E v')) ∧ I (n + ds.length) v') ∨ ∃ r, X = some (.rt r) ∧ R r
  | [], v, n, _, e, h0, _ => .inl ⟨v, e.symm, h0⟩
  | d :: ds, v, n, X, e, h0, q => by
    rcases q 0 d v rfl h0 with ⟨v1, h1, h3⟩ | ⟨r, h1, h3⟩
    · rcases loop_any E I R (ds := ds) v1 (n + 1) rfl h3 (fun i e v he hI => by
        have := q (i + 1) e v (by simpa using he) (by rw [show n + (i + 1) = n + 1 + i from by omega]; exact hI)
        rw [show n + (i + 1) + 1 = n + 1 + i + 1 from by omega] at this
        exact this) with ⟨v', h4, h5⟩ | ⟨r, h4, h5⟩
      · refine .inl ⟨v', ?_, by rw [List.length_cons, show n + (ds.length + 1) = n + 1 + ds.length from by omega]; exact h5⟩
        rw [← e, forGo_c]
        cases hh : h d (E v) with
        | none => rw [hh] at h1; cases h1
        | some ρ1 =>
          rw [hh, Option.bind_some] at h1
          rw [tgK_s, h1, at_nx]; exact h4
      · refine .inr ⟨r, ?_, h5⟩
        rw [← e, forGo_c]
        cases hh : h d (E v) with
        | none => rw [hh] at h1; cases h1
        | some ρ1 =>
          rw [hh, Option.bind_some] at h1
          rw [tgK_s, h1, at_nx]; exact h4
    · refine .inr ⟨r, ?_, h3⟩
      rw [← e, forGo_c]
      cases hh : h d (E v) with
      | none => rw [hh] at h1; cases h1
      | some ρ1 =>
        rw [hh, Option.bind_some] at h1
        rw [tgK_s, h1, at_rt]
def chK (g g' : D → D → Option D) (fc : En → Option D) (ρ : En) : Option D → Option D → Option D
  | some x, some y => (g x y).bind fun z => match z with
    | .bool true => (fc ρ).bind fun w => g' y w
    | .bool false => some (.bool false)
    | _ => none
  | _, _ => none
theorem eChain_ap {g g' : D → D → Option D} {fa fb fc : En → Option D} {ρ : En} : eChain g g' fa fb fc ρ = chK g g' fc ρ (fa ρ) (fb ρ) := by
  unfold eChain chK
  cases fa ρ with
  | none => rfl
  | some x => cases fb ρ <;> rfl
theorem hUnl_ap {ds : List D} {n : Nat} {k : List D → En → Option En} {ρ : En} (e : ds.length = n) : hUnl n k (.list ds) ρ = k ds ρ := if_pos e
theorem revL_ap {fl : En → Option (List D)} {ρ : En} : revL fl ρ = (fl ρ).map List.reverse := rfl
/-! dicts -/
def kyeK : Option D → Option Ky
  | some d => (toK d).map .inl
  | none => none
def kytK : Option (List D) → Option Ky
  | some ds => if ds.length ≤ 1000000 then (toKs ds).map .inr else none
  | none => none
def dgK : Option D → Option Ky → Option D
  | some d, some k => (dLook d k).bind fun r => r
  | _, _ => none
def diK (neg : Bool) : Option Ky → Option D → Option D
  | some k, some d => (dLook d k).map fun r => .bool (r.isSome != neg)
  | _, _ => none
def dg1K : Option D → Option Ky → Option D
  | some d, some k => (dLook d k).map fun r => r.getD .none
  | _, _ => none
def dg2K : Option D → Option Ky → Option D → Option D
  | some d, some k, some z => (dLook d k).map fun r => r.getD z
  | _, _, _ => none
def dpK (i : Nat) (ρ : En) : Option (Option SV) → Option D → Option Ky → Option Out
  | some (some (.oK tt ds)), some d, some k => if ds.length < 1000000 ∧ tt = kindK k then some (.nx (ρ.set i (some (.oK tt (putD k d ds))))) else none
  | _, _, _ => none
def fzkK (i : Nat) (F : En → Option Out) (ρ : En) : Option (Option SV) → Option Out
  | some (some (.oK tt ds)) => F (ρ.set i (some (.ro (.dict (tails tt ds)))))
  | _ => F ρ
def pcK : Option D → Option D → Option (List (D × D)) → Option (List (D × D))
  | some k, some v, some r => if (toK k).isSome = true then some ((k, v) :: r) else none
  | _, _, _ => none
def dispK : Option (List (D × D)) → Option D
  | some r => if r.length ≤ 15 ∧ nodupK r = true then some (.dict r) else none
  | none => none
section
variable {ρ : En} {f g : En → Option D} {fk : En → Option Ky} {fl : En → Option (List D)} {i : Nat} {j : Int} {xs : List Nat} {tt neg : Bool} {ds : List (D × D)} {d z : D} {k : Ky} {F : En → Option Out} {fp : En → Option (List (D × D))} {r : Option D}
theorem kyE_ap : kyE f ρ = kyeK (f ρ) := by unfold kyE kyeK; cases f ρ <;> rfl
theorem kyeK_i : kyeK (some (.int j)) = some (.inl (.inl j)) := rfl
theorem kyeK_s {x : Str} : kyeK (some (.str x)) = some (.inl (.inr x)) := rfl
theorem kyeK_x : kyeK (some (sx xs)) = some (.inl (.inr ⟨xs.toArray⟩)) := rfl
theorem kyT_ap : kyT fl ρ = kytK (fl ρ) := by unfold kyT kytK; cases fl ρ <;> rfl
theorem kytK_ix : kytK (some [.int j, sx xs]) = some (.inr [.inl j, .inr ⟨xs.toArray⟩]) := rfl
theorem eDGet_ap : eDGet f fk ρ = dgK (f ρ) (fk ρ) := by unfold eDGet dgK; cases f ρ <;> cases fk ρ <;> rfl
theorem dgK_s (e : dLook d k = some (some z)) : dgK (some d) (some k) = some z := by unfold dgK; dsimp only; rw [e]; rfl
theorem eDIn_ap : eDIn neg fk f ρ = diK neg (fk ρ) (f ρ) := by unfold eDIn diK; cases f ρ <;> cases fk ρ <;> rfl
theorem diK_f (e : dLook d k = some r) : diK false (some k) (some d) = some (.bool r.isSome) := by unfold diK; dsimp only; rw [e]; show some (PyData.bool (r.isSome != false)) = _; rw [Bool.bne_false]
theorem diK_t (e : dLook d k = some r) : diK true (some k) (some d) = some (.bool (!r.isSome)) := by unfold diK; dsimp only; rw [e]; show some (PyData.bool (r.isSome != true)) = _; rw [Bool.bne_true]
theorem eDGet1_ap : eDGet1 f fk ρ = dg1K (f ρ) (fk ρ) := by unfold eDGet1 dg1K; cases f ρ <;> cases fk ρ <;> rfl
theorem dg1K_s (e : dLook d k = some r) : dg1K (some d) (some k) = some (r.getD .none) := by unfold dg1K; dsimp only; rw [e]; rfl
theorem eDGet2_ap : eDGet2 f fk g ρ = dg2K (f ρ) (fk ρ) (g ρ) := by unfold eDGet2 dg2K; cases f ρ <;> cases fk ρ <;> cases g ρ <;> rfl
theorem dg2K_s (e : dLook d k = some r) : dg2K (some d) (some k) (some z) = some (r.getD z) := by unfold dg2K; dsimp only; rw [e]; rfl
theorem sDNew_ap : sDNew i tt ρ = some (.nx (ρ.set i (some (.oK tt [])))) := rfl
theorem sDPutD_ap : sDPutD i fk f ρ = dpK i ρ ρ[i]? (f ρ) (fk ρ) := by
  unfold sDPutD dpK
  generalize ρ[i]? = o
  generalize f ρ = a
  generalize fk ρ = b
  match o, a, b with
  | some (some (.oK tt ds)), some _, some _ => rfl
  | some (some (.oK tt ds)), some _, none => rfl
  | some (some (.oK tt ds)), none, _ => rfl
  | some (some (.ro _)), _, _ => rfl
  | some (some (.ow _)), _, _ => rfl
  | some (some (.lr _)), _, _ => rfl
  | some (some (.xc _ _)), _, _ => rfl
  | some none, _, _ => rfl
  | none, _, _ => rfl
theorem dpK_T {ks : List Key} (h : ds.length < 1000000) : dpK i ρ (some (some (.oK true ds))) (some d) (some (.inr ks)) = some (.nx (ρ.set i (some (.oK true (putD (.inr ks) d ds))))) := if_pos ⟨h, rfl⟩
theorem dpK_K {ks : Key} (h : ds.length < 1000000) : dpK i ρ (some (some (.oK false ds))) (some d) (some (.inl ks)) = some (.nx (ρ.set i (some (.oK false (putD (.inl ks) d ds))))) := if_pos ⟨h, rfl⟩
theorem sFzK_ap : sFzK i F ρ = fzkK i F ρ ρ[i]? := by unfold sFzK fzkK; rfl
theorem fzkK_s : fzkK i F ρ (some (some (.oK tt ds))) = F (ρ.set i (some (.ro (.dict (tails tt ds))))) := rfl
theorem fzkK_ro : fzkK i F ρ (some (some (.ro d))) = F ρ := rfl
theorem rdB_oK : rdB (some (some (.oK tt ds))) = some (.dict (tails tt ds)) := rfl
theorem pNil_ap : pNil ρ = some [] := rfl
theorem pCons_ap : pCons f g fp ρ = pcK (f ρ) (g ρ) (fp ρ) := by unfold pCons pcK; cases f ρ <;> cases g ρ <;> cases fp ρ <;> rfl
theorem pcK_s {x : Str} {ps : List (D × D)} : pcK (some (.str x)) (some d) (some ps) = some ((.str x, d) :: ps) := rfl
theorem pcK_x {ps : List (D × D)} : pcK (some (sx xs)) (some d) (some ps) = some ((sx xs, d) :: ps) := rfl
theorem eDisp_ap : eDisp fp ρ = dispK (fp ρ) := by unfold eDisp dispK; cases fp ρ <;> rfl
theorem dispK_s {ps : List (D × D)} (h : ps.length ≤ 15) (h2 : nodupK ps = true) : dispK (some ps) = some (.dict ps) := if_pos ⟨h, h2⟩
theorem dispK_1 {p : D × D} : dispK (some [p]) = some (.dict [p]) := dispK_s (by show 1 ≤ 15; decide) rfl
theorem dLook_t (h : isT ds = false) (e : tt = kindK k) : dLook (.dict (tails tt ds)) k = some (look k ds) := by
  show (if isT (tails tt ds) = kindK k then some (look k (tails tt ds)) else none) = _
  rw [isT_tails h, if_pos e, look_tails]
end
def fzLK (i : Nat) (f : En → Option (List D)) (ρ : En) : Option (Option SV) → Option (List D)
  | some (some (.ow ds)) => (f (ρ.set i (some (.lr ds)))).bind fun zs => if immAll zs = true then some zs else none
  | _ => f ρ
theorem fzL_ap {i : Nat} {f : En → Option (List D)} {ρ : En} : fzL i f ρ = fzLK i f ρ ρ[i]? := by unfold fzL fzLK; rfl
theorem fzLK_s {i : Nat} {f : En → Option (List D)} {ρ : En} {ds : List D} : fzLK i f ρ (some (some (.ow ds))) = (f (ρ.set i (some (.lr ds)))).bind fun zs => if immAll zs = true then some zs else none := rfl
def fzTK (i : Nat) (f : En → Option Bool) (ρ : En) : Option (Option SV) → Option Bool
  | some (some (.ow ds)) => f (ρ.set i (some (.lr ds)))
  | _ => f ρ
theorem fzT_ap {i : Nat} {f : En → Option Bool} {ρ : En} : fzT i f ρ = fzTK i f ρ ρ[i]? := by unfold fzT fzTK; rfl
theorem fzTK_s {i : Nat} {f : En → Option Bool} {ρ : En} {ds : List D} : fzTK i f ρ (some (some (.ow ds))) = f (ρ.set i (some (.lr ds))) := rfl
def fzEK (i : Nat) (f : En → Option D) (ρ : En) : Option (Option SV) → Option D
  | some (some (.ow ds)) => (f (ρ.set i (some (.lr ds)))).bind fun d => if imm d = true then some d else none
  | _ => f ρ
theorem fzE_ap {i : Nat} {f : En → Option D} {ρ : En} : fzE i f ρ = fzEK i f ρ ρ[i]? := by unfold fzE fzEK; rfl
theorem fzEK_s {i : Nat} {f : En → Option D} {ρ : En} {ds : List D} : fzEK i f ρ (some (some (.ow ds))) = (f (ρ.set i (some (.lr ds)))).bind fun d => if imm d = true then some d else none := rfl
theorem chK_ll {fc : En → Option D} {ρ : En} {i j : Int} : chK leD leD fc ρ (some (.int i)) (some (.int j)) = if i ≤ j then b2 leD (some (.int j)) (fc ρ) else some (.bool false) := by
  unfold chK
  dsimp only
  rw [le_ii, Option.bind_some]
  by_cases h : i ≤ j
  · rw [if_pos h, decide_eq_true h]
    show (fc ρ).bind _ = _
    cases fc ρ <;> rfl
  · rw [if_neg h, decide_eq_false h]
end Z

set_option Elab.async false
set_option maxRecDepth 100000
set_option maxHeartbeats 4000000
set_option linter.all false
namespace Q
open PySem PySem.Spec PyProof.Rows L2 Z
def topS (i : Nat) : Stmt := PySem.Challenge.pw_oneofall_k15_lines_that_tell_no_row.main.body.getD i (.Pass ⟨0, 0, 0, 0⟩)
section
variable {P : Program} {w : World} {K : PySem.W.Frag} {mg : Str → Option Value} {base : Heap}
abbrev st_init : Stmt := match topS 1 with
  | .ClassDef _ _ _ body _ _ _ _ _ _ _ => body.getD 0 (.Pass ⟨0, 0, 0, 0⟩)
  | s => s
theorem sc_init : FnScope ["self", "words", "at"] ["self", "words", "at"] (defScope st_init) := ⟨rfl, rfl, rfl, by decide +kernel, rfl, by decide +kernel, by decide +kernel⟩
theorem ok_init {f : Addr} {fd : FuncData} (Fu : FunD K "__init__" "OneError.__init__" (defArgs st_init) (defBody st_init) (defScope st_init) [V.int 0] [] f fd) (hV : mg "ValueError" = none)
    (vV : PySem.W.findCls K (.type "ValueError") (.type "type") "__init__" = some (.val (.builtin "ValueError.__init__"))) : FnOk P w K mg base CX0 1 f fd ["self", "words", "at"] (spInit K) ∧ Binds K fd ["self", "words", "at"] [] := by
  refine ⟨Fu.ok sc_init (fun vs H Q E h => by obtain ⟨_, _, _, _, rfl, _⟩ := h; rfl) fun cdv A outer s H vs Q E hr h => ⟨tInit K, ?_, pure_init vs H Q E h⟩, ?_⟩
  · exact pss_cons (ps_expr (pe_veinit rfl hV vV (pa_cons (pv 0) (pa_cons (pv 1) pa_nil)))) (pss_one (ps_ost (pv 0) (pv 2)))
  · obtain ⟨ds, h1, h2⟩ := Fu.binds1 (ps := ["self", "words", "at"]) 3 1 (by simp) rfl (fun _ _ _ _ _ _ _ us its h1 h2 => match us, its, h1, h2 with | [_, _, _], [_], _, _ => ⟨_, rfl, rfl⟩)
    cases h1
    exact h2
abbrev st_l_numbered : Stmt := topS 15
theorem sc_l_numbered : FnScope ["_law_lines", "_law_bad", "_law_cell", "_law_way", "_law_first", "_law_at"] ["_law_lines", "_law_bad", "_law_cell"] (defScope st_l_numbered) := ⟨rfl, rfl, rfl, by decide +kernel, rfl, by decide +kernel, by decide +kernel⟩
def F_l_numbered : En → Option Out :=
    sSeq (sSet 3 (e2 modD (eVar 2) (eC (.int 16))))
    (sSeq (sSet 4 (eMinD (aCons (bVar 1) (aNil)) (eCall lenD (aCons (bVar 0) (aNil)))))
    (sSeq (sIf (asB (e2 (eqD 64) (bVar 3) (eC (.int 3))))
    (sRet (eTup (aCons (liL (lCat (nVar 0) (lLst (aCons (eC (.str "")) (aNil))))) (aCons (eCall minD (aCons (bVar 4) (aCons (eCall lenD (aCons (bVar 0) (aNil))) (aNil)))) (aNil)))))
    (sNil))
    (sSeq (sIf (asB (e2 (eqD 64) (bVar 3) (eC (.int 7))))
    (sRet (eTup (aCons (liL (lCat (lLst (aCons (eC (.str "")) (aNil))) (nVar 0))) (aCons (eC (.int 0)) (aNil)))))
    (sNil))
    (sSeq (sIf (bAnd (asB (e2 (eqD 64) (bVar 3) (eC (.int 11)))) (asB (e2 gtD (eCall lenD (aCons (bVar 0) (aNil))) (eC (.int 1)))))
    (sSeq (sSet 5 (e2 addD (eC (.int 1)) (e2 modD (e2 divD (eVar 2) (eC (.int 16))) (e2 subD (eCall lenD (aCons (bVar 0) (aNil))) (eC (.int 1))))))
    (sRet (eTup (aCons (liL (lCat (lCat (e3 slL (bVar 0) (oNone) (oSome (eVar 5))) (lLst (aCons (eC (.str "")) (aNil)))) (e3 slL (bVar 0) (oSome (eVar 5)) (oNone)))) (aCons (eCall minD (aCons (bVar 4) (aCons (bVar 5) (aNil)))) (aNil))))))
    (sNil))
    (sSeq (sIf (asB (e2 (eqD 64) (bVar 1) (liL (lLst (aNil)))))
    (sSet 4 (eC .none))
    (sNil))
    (sRet (eTup (aCons (eVar 0) (aCons (eVar 4) (aNil))))))))))
def g_l_numbered : List D → Option Rv := gF 3 6 F_l_numbered
theorem ok_l_numbered {f : Addr} {fd : FuncData} (Fu : Fun K "_law_numbered" "_law_numbered" st_l_numbered f fd) (hm : mg "_law_numbered" = some (.ref f)) (bi : Bi mg) : DF P w K mg base 1 "_law_numbered" 3 g_l_numbered :=
  df_mk (ps := ["_law_lines", "_law_bad", "_law_cell"]) Fu rfl (fn_ok (N := ["_law_lines", "_law_bad", "_law_cell", "_law_way", "_law_first", "_law_at"]) (ps := ["_law_lines", "_law_bad", "_law_cell"]) (k := 0) (F := F_l_numbered) Fu sc_l_numbered fun cdv A outer s H O E hr => ⟨_,
    ss_cons (s_set (i := 3) sc_l_numbered.nd rfl (Or.inl rfl) (x_mod (xv 2) (x_int)))
    (ss_cons (s_set (i := 4) sc_l_numbered.nd rfl (Or.inl rfl) (x_minD (Z.Room.unN hr (by decide)) bi.min (ab_cons (xvb 1) (ab_nil)) (x_cb cw_len opc_len bi.len PySem.boot_len (ab_cons (xvb 0) (ab_nil)))))
    (ss_cons (s_if (t_cmp (op_eqA hr.units) opd_eq (nomark _) (xvb 3) ((x_int).b))
    (ss_one (s_ret (x_tup (a_cons ((l_catN rfl (n_var 0) ((l_lst (a_cons (x_str) (a_nil))).n)).e) (a_cons (x_cb (call_min2 rfl) opc_min bi.min PyProof.Rows.boot_min (ab_cons (xvb 4) (ab_cons ((x_cb cw_len opc_len bi.len PySem.boot_len (ab_cons (xvb 0) (ab_nil))).b) (ab_nil)))) (a_nil))))))
    (ss_nil))
    (ss_cons (s_if (t_cmp (op_eqA hr.units) opd_eq (nomark _) (xvb 3) ((x_int).b))
    (ss_one (s_ret (x_tup (a_cons ((l_catN rfl ((l_lst (a_cons (x_str) (a_nil))).n) (n_var 0)).e) (a_cons (x_int) (a_nil))))))
    (ss_nil))
    (ss_cons (s_if (t_w (w_and (t_cmp (op_eqA hr.units) opd_eq (nomark _) (xvb 3) ((x_int).b)) (w_and1 (t_cmp op_gt opd_cmp (nomark _) ((x_cb cw_len opc_len bi.len PySem.boot_len (ab_cons (xvb 0) (ab_nil))).b) ((x_int).b)))))
    (ss_cons (s_set (i := 5) sc_l_numbered.nd rfl (Or.inl rfl) (x_add ((x_int).b) ((x_mod (x_div (xv 2) (x_int)) (x_sub (x_cb cw_len opc_len bi.len PySem.boot_len (ab_cons (xvb 0) (ab_nil))) (x_int))).b)))
    (ss_one (s_ret (x_tup (a_cons ((l_catN rfl ((l_catN rfl ((l_sl (xvb 0) (o_none) (o_some (xv 5))).n) ((l_lst (a_cons (x_str) (a_nil))).n)).n) ((l_sl (xvb 0) (o_some (xv 5)) (o_none)).n)).e) (a_cons (x_cb (call_min2 rfl) opc_min bi.min PyProof.Rows.boot_min (ab_cons (xvb 4) (ab_cons (xvb 5) (ab_nil)))) (a_nil)))))))
    (ss_nil))
    (ss_cons (s_if (t_cmp (op_eqA hr.units) opd_eq (nomark _) (xvb 1) (((l_lst (a_nil)).e).b))
    (ss_one (s_set (i := 4) sc_l_numbered.nd rfl (Or.inl rfl) (x_non)))
    (ss_nil))
    (ss_one (s_ret (x_tup (a_cons (xv 0) (a_cons (xv 4) (a_nil)))))))))))⟩) hm (Fu.binds (ps := ["_law_lines", "_law_bad", "_law_cell"]) fun _ _ _ _ _ _ us hl => match us, hl with | [_, _, _], _ => rfl)
abbrev st_l_mixed : Stmt := topS 12
theorem sc_l_mixed : FnScope ["_law_cell", "_law_k", "_law_number"] ["_law_cell", "_law_k"] (defScope st_l_mixed) := ⟨rfl, rfl, rfl, by decide +kernel, rfl, by decide +kernel, by decide +kernel⟩
def F_l_mixed : En → Option Out :=
    sSeq (sSet 2 (e2 addD (e2 addD (e2 modD (eVar 0) (eC (.int 1000000007))) (e2 mulD (eC (.int 7919)) (eVar 1))) (eC (.int 13))))
    (sRet (e2 divD (e2 modD (e2 mulD (eVar 2) (eVar 2)) (eC (.int 998244353))) (eC (.int 3))))
def g_l_mixed : List D → Option Rv := gF 2 3 F_l_mixed
theorem ok_l_mixed {f : Addr} {fd : FuncData} (Fu : Fun K "_law_mixed" "_law_mixed" st_l_mixed f fd) (hm : mg "_law_mixed" = some (.ref f)) (bi : Bi mg) : DF P w K mg base 1 "_law_mixed" 2 g_l_mixed :=
  df_mk (ps := ["_law_cell", "_law_k"]) Fu rfl (fn_ok (N := ["_law_cell", "_law_k", "_law_number"]) (ps := ["_law_cell", "_law_k"]) (k := 0) (F := F_l_mixed) Fu sc_l_mixed fun cdv A outer s H O E hr => ⟨_,
    ss_cons (s_set (i := 2) sc_l_mixed.nd rfl (Or.inl rfl) (x_add ((x_add ((x_mod (xv 0) (x_int)).b) ((x_mul (x_int) (xv 1)).b)).b) ((x_int).b)))
    (ss_one (s_ret (x_div (x_mod (x_mul (xv 2) (xv 2)) (x_int)) (x_int))))⟩) hm (Fu.binds (ps := ["_law_cell", "_law_k"]) fun _ _ _ _ _ _ us hl => match us, hl with | [_, _], _ => rfl)
abbrev st_l_line : Stmt := topS 13
theorem sc_l_line : FnScope ["_law_cell", "_law_numbers", "_law_k", "_law_small"] ["_law_cell"] (defScope st_l_line) := ⟨rfl, rfl, rfl, by decide +kernel, rfl, by decide +kernel, by decide +kernel⟩
def F_l_line : En → Option Out :=
    sSeq (sSetL 1 (lLst (aNil)))
    (sSeq (sFor (iRg1D (aCons (eC (.int 3)) (aNil))) (hName 2)
    (sSeq (sSet 3 (e2 modD (eCall (fun ds => toD (g_l_mixed ds)) (aCons (eVar 0) (aCons (e2 addD (bVar 2) (eC (.int 9))) (aNil)))) (eC (.int 2))))
    (sApp 1 (eCall strD (aCons (e2 modD (eCall (fun ds => toD (g_l_mixed ds)) (aCons (eVar 0) (aCons (eVar 2) (aNil)))) (e2 ixD (liL (lLst (aCons (eC (.int 10)) (aCons (eC (.int 1000)) (aNil))))) (eVar 3))) (aNil))))))
    (sFz 1 (sSeq (sIf (asB (e2 (eqD 64) (e2 modD (eCall (fun ds => toD (g_l_mixed ds)) (aCons (eVar 0) (aCons (eC (.int 5)) (aNil)))) (eC (.int 2))) (eC (.int 0))))
    (sRet (e2 addD (e2 addD (e2 addD (eC (.str "up ")) (e2 ixD (bVar 1) (eC (.int 0)))) (eC (.str " "))) (e2 ixD (bVar 1) (eC (.int 1)))))
    (sNil))
    (sRet (e2 addD (eC (.str "down ")) (e2 joinD (eC (.str " ")) (bVar 1)))))))
def g_l_line : List D → Option Rv := gF 1 4 F_l_line
theorem ok_l_line {f : Addr} {fd : FuncData} (Fu : Fun K "_law_line" "_law_line" st_l_line f fd) (hm : mg "_law_line" = some (.ref f)) (bi : Bi mg) (c_l_mixed : DF P w K mg base 1 "_law_mixed" 2 g_l_mixed) : DF P w K mg base 2 "_law_line" 1 g_l_line :=
  df_mk (ps := ["_law_cell"]) Fu rfl (fn_ok (N := ["_law_cell", "_law_numbers", "_law_k", "_law_small"]) (ps := ["_law_cell"]) (k := 1) (F := F_l_line) Fu sc_l_line fun cdv A outer s H O E hr => ⟨_,
    ss_cons (s_setL (i := 1) sc_l_line.nd rfl (Or.inl rfl) (l_lst (a_nil)))
    (ss_cons (s_for PassesOwn.never rfl (i_rg1 bi.rng (a_cons (x_int) (a_nil))) (g_name sc_l_line.nd rfl (Or.inl rfl))
    (ss_cons (s_set (i := 3) sc_l_line.nd rfl (Or.inl rfl) (x_mod (x_call c_l_mixed (hr.mono (by decide)) (a_cons (xv 0) (a_cons (x_add (xvb 2) ((x_int).b)) (a_nil)))) (x_int)))
    (ss_one (s_app 1 (pv 1) (x_ct call_str_int opc_str bi.str PyProof.Rows.boot_str (ab_cons ((x_mod (x_call c_l_mixed (hr.mono (by decide)) (a_cons (xv 0) (a_cons (xv 2) (a_nil)))) (x_ix (((l_lst (a_cons (x_int) (a_cons (x_int) (a_nil)))).e).b) (xv 3))).b) (ab_nil)))))))
    (ss_fz 1 (ss_cons (s_if (t_cmp (op_eqA hr.units) opd_eq (nomark _) ((x_mod (x_call c_l_mixed (hr.mono (by decide)) (a_cons (xv 0) (a_cons (x_int) (a_nil)))) (x_int)).b) ((x_int).b))
    (ss_one (s_ret (x_add ((x_add ((x_add ((x_str).b) ((x_ix (xvb 1) (x_int)).b)).b) ((x_str).b)).b) ((x_ix (xvb 1) (x_int)).b))))
    (ss_nil))
    (ss_one (s_ret (x_add ((x_str).b) ((x_join (x_str) (xvb 1)).b)))))))⟩) hm (Fu.binds (ps := ["_law_cell"]) fun _ _ _ _ _ _ us hl => match us, hl with | [_], _ => rfl)
abbrev st_l_spoilt : Stmt := topS 14
theorem sc_l_spoilt : FnScope ["_law_line_here", "_law_cell", "_law_words", "_law_at", "_law_sign", "_law_ahead", "_law_behind", "_law_some", "_law_noughts", "_law_word"] ["_law_line_here", "_law_cell"] (defScope st_l_spoilt) := ⟨rfl, rfl, rfl, by decide +kernel, rfl, by decide +kernel, by decide +kernel⟩
def F_l_spoilt : En → Option Out :=
    sSeq (sSetR 2 (e2 splitL (eVar 0) (eC (.str " "))))
    (sSeq (sSet 3 (e2 addD (eC (.int 1)) (e2 modD (e2 divD (eVar 1) (eC (.int 17))) (e2 subD (eCall lenD (aCons (bVar 2) (aNil))) (eC (.int 1))))))
    (sSeq (sSet 4 (e2 ixD (eC (.str "abz-+.,_/:;'!x")) (e2 modD (e2 divD (eVar 1) (eC (.int 64))) (eC (.int 14)))))
    (sSeq (sSet 5 (e2 addD (e2 joinD (eC (.str " ")) (liL (e3 slL (bVar 2) (oNone) (oSome (eVar 3))))) (eC (.str " "))))
    (sSeq (sSet 6 (e2 joinD (eC (.str "")) (liL (lComp (iSeqD (liL (e3 slL (bVar 2) (oSome (e2 addD (bVar 3) (eC (.int 1)))) (oNone)))) (hName 9) (cYes) (e2 addD (eC (.str " ")) (bVar 9)) [9]))))
    (sSeq (sSetR 7 (lLst (aCons (e2 joinD (eC (.str " ")) (liL (e3 slL (bVar 2) (oNone) (oSome (e1 negD (eC (.int 1))))))) (aCons (e2 addD (bVar 0) (eC (.str " 0"))) (aCons (e2 addD (e2 addD (e2 addD (bVar 5) (eC (.str "0"))) (e2 ixD (bVar 2) (eVar 3))) (bVar 6)) (aNil))))))
    (sSeq (sSet 8 (e2 addD (eC (.str "1")) (e3 slD (eC (.str "000")) (oNone) (oSome (e2 addD (e2 subD (eC (.int 3)) (eCall lenD (aCons (e2 ixD (bVar 2) (eVar 3)) (aNil)))) (e2 modD (e2 divD (eVar 1) (eC (.int 32))) (eC (.int 2))))))))
    (sSeq (sSetR 7 (lCat (nVar 7) (lLst (aCons (e2 addD (e2 addD (e2 addD (bVar 5) (bVar 8)) (e2 ixD (bVar 2) (eVar 3))) (bVar 6)) (aCons (e2 addD (e2 addD (e2 addD (e2 addD (bVar 5) (e3 slD (e2 ixD (bVar 2) (eVar 3)) (oNone) (oSome (eC (.int 1))))) (bVar 4)) (e2 ixD (bVar 2) (eVar 3))) (bVar 6)) (aNil))))))
    (sSeq (sSetR 7 (lCat (nVar 7) (lLst (aCons (e2 addD (e2 addD (bVar 5) (bVar 4)) (bVar 6)) (aCons (e2 addD (e2 addD (e2 addD (bVar 5) (e2 ixD (bVar 2) (eVar 3))) (bVar 4)) (bVar 6)) (aNil))))))
    (sSeq (sSetR 7 (lCat (nVar 7) (lLst (aCons (e2 addD (e2 addD (e2 addD (bVar 5) (bVar 4)) (e2 ixD (bVar 2) (eVar 3))) (bVar 6)) (aNil)))))
    (sSeq (sSetR 7 (lCat (nVar 7) (lLst (aCons (e2 addD (eC (.str "on")) (bVar 0)) (aCons (e2 joinD (eC (.str " ")) (liL (e3 slL (bVar 2) (oSome (eC (.int 1))) (oNone)))) (aCons (e2 addD (eC (.str " ")) (bVar 0)) (aCons (e2 addD (bVar 0) (eC (.str " "))) (aNil))))))))
    (sSeq (sSetR 7 (lCat (nVar 7) (lLst (aCons (e2 addD (e2 addD (e2 addD (bVar 5) (eC (.str " "))) (e2 ixD (bVar 2) (eVar 3))) (bVar 6)) (aCons (e1 (replD " " "\t") (eVar 0)) (aNil))))))
    (sSeq (sSetR 7 (lCat (nVar 7) (lLst (aCons (eC (.str "")) (aCons (e1 upD (eVar 0)) (aCons (e2 ixD (bVar 2) (eC (.int 0))) (aNil)))))))
    (sRet (e2 ixD (bVar 7) (e2 modD (eVar 1) (eC (.int 17)))))))))))))))))
def g_l_spoilt : List D → Option Rv := gF 2 10 F_l_spoilt
theorem ok_l_spoilt {f : Addr} {fd : FuncData} (Fu : Fun K "_law_spoilt" "_law_spoilt" st_l_spoilt f fd) (hm : mg "_law_spoilt" = some (.ref f)) (bi : Bi mg) : DF P w K mg base 1 "_law_spoilt" 2 g_l_spoilt :=
  df_mk (ps := ["_law_line_here", "_law_cell"]) Fu rfl (fn_ok (N := ["_law_line_here", "_law_cell", "_law_words", "_law_at", "_law_sign", "_law_ahead", "_law_behind", "_law_some", "_law_noughts", "_law_word"]) (ps := ["_law_line_here", "_law_cell"]) (k := 0) (F := F_l_spoilt) Fu sc_l_spoilt fun cdv A outer s H O E hr => ⟨_,
    ss_tok (s1_setR (i := 2) sc_l_spoilt.nd rfl (Or.inl rfl) (l1_split (xv 0)))
    (st_cons (XS.tk (s_set (i := 3) sc_l_spoilt.nd rfl (Or.inl rfl) (x_add ((x_int).b) ((x_mod (x_div (xv 1) (x_int)) (x_sub (x_cb cw_len opc_len bi.len PySem.boot_len (ab_cons (xvb 2) (ab_nil))) (x_int))).b))))
    (st_cons (XS.tk (s_set (i := 4) sc_l_spoilt.nd rfl (Or.inl rfl) (x_ix ((x_str).b) (x_mod (x_div (xv 1) (x_int)) (x_int)))))
    (st_cons (XS.tk (s_set (i := 5) sc_l_spoilt.nd rfl (Or.inl rfl) (x_add ((x_join (x_str) (((l_sl (xvb 2) (o_none) (o_some (xv 3))).e).b)).b) ((x_str).b))))
    (st_cons (XS.tk (s_set (i := 6) sc_l_spoilt.nd rfl (Or.inl rfl) (x_join (x_str) (((l_lc (own := [("_law_word", 9)]) rfl sc_l_spoilt.nd (i_seq ((l_sl (xvb 2) (o_some (x_add (xvb 3) ((x_int).b))) (o_none)).e)) (blkOk_by (own := [("_law_word", 9)]) (N := ["_law_line_here", "_law_cell", "_law_words", "_law_at", "_law_sign", "_law_ahead", "_law_behind", "_law_some", "_law_noughts", "_law_word"]) (sc := defScope st_l_spoilt) (by decide +kernel)) (gw_name (by decide)) (fun _ _ _ _ _ => g_name sc_l_spoilt.nd rfl (Or.inl rfl)) (fun _ _ _ _ _ => ts_nil) (fun _ _ _ _ _ => x_add ((x_str).b) (xvb 9))).e).b))))
    (st_cons (XS.tk (s_setR (i := 7) sc_l_spoilt.nd rfl (Or.inl rfl) (l_lst (a_cons (x_join (x_str) (((l_sl (xvb 2) (o_none) (o_some (x_neg (x_int)))).e).b)) (a_cons (x_add (xvb 0) ((x_str).b)) (a_cons (x_add ((x_add ((x_add (xvb 5) ((x_str).b)).b) ((x_ix (xvb 2) (xv 3)).b)).b) (xvb 6)) (a_nil)))))))
    (st_cons (XS.tk (s_set (i := 8) sc_l_spoilt.nd rfl (Or.inl rfl) (x_add ((x_str).b) ((x_sl ((x_str).b) (o_none) (o_some (x_add ((x_sub (x_int) (x_cb cw_len opc_len bi.len PySem.boot_len (ab_cons ((x_ix (xvb 2) (xv 3)).b) (ab_nil)))).b) ((x_mod (x_div (xv 1) (x_int)) (x_int)).b)))).b))))
    (st_cons (XS.tk (s_setR (i := 7) sc_l_spoilt.nd rfl (Or.inl rfl) (l_catN rfl (n_var 7) ((l_lst (a_cons (x_add ((x_add ((x_add (xvb 5) (xvb 8)).b) ((x_ix (xvb 2) (xv 3)).b)).b) (xvb 6)) (a_cons (x_add ((x_add ((x_add ((x_add (xvb 5) ((x_sl ((x_ix (xvb 2) (xv 3)).b) (o_none) (o_some (x_int))).b)).b) (xvb 4)).b) ((x_ix (xvb 2) (xv 3)).b)).b) (xvb 6)) (a_nil)))).n))))
    (st_cons (XS.tk (s_setR (i := 7) sc_l_spoilt.nd rfl (Or.inl rfl) (l_catN rfl (n_var 7) ((l_lst (a_cons (x_add ((x_add (xvb 5) (xvb 4)).b) (xvb 6)) (a_cons (x_add ((x_add ((x_add (xvb 5) ((x_ix (xvb 2) (xv 3)).b)).b) (xvb 4)).b) (xvb 6)) (a_nil)))).n))))
    (st_cons (XS.tk (s_setR (i := 7) sc_l_spoilt.nd rfl (Or.inl rfl) (l_catN rfl (n_var 7) ((l_lst (a_cons (x_add ((x_add ((x_add (xvb 5) (xvb 4)).b) ((x_ix (xvb 2) (xv 3)).b)).b) (xvb 6)) (a_nil))).n))))
    (st_cons (XS.tk (s_setR (i := 7) sc_l_spoilt.nd rfl (Or.inl rfl) (l_catN rfl (n_var 7) ((l_lst (a_cons (x_add ((x_str).b) (xvb 0)) (a_cons (x_join (x_str) (((l_sl (xvb 2) (o_some (x_int)) (o_none)).e).b)) (a_cons (x_add ((x_str).b) (xvb 0)) (a_cons (x_add (xvb 0) ((x_str).b)) (a_nil)))))).n))))
    (st_cons (st_setR (i := 7) sc_l_spoilt.nd rfl (Or.inl rfl) (lt_catN rfl (n_var 7) (lt_lst (at_cons (XE.tk (x_add ((x_add ((x_add (xvb 5) ((x_str).b)).b) ((x_ix (xvb 2) (xv 3)).b)).b) (xvb 6))) (at_cons (xt_repl (xv 0)) (at_nil))))))
    (st_cons (XS.tk (s_setR (i := 7) sc_l_spoilt.nd rfl (Or.inl rfl) (l_catN rfl (n_var 7) ((l_lst (a_cons (x_str) (a_cons (x_upper (xv 0)) (a_cons (x_ix (xvb 2) (x_int)) (a_nil))))).n))))
    (st_one (XS.tk (s_ret (x_ix (xvb 7) (x_mod (xv 1) (x_int))))))))))))))))))⟩) hm (Fu.binds (ps := ["_law_line_here", "_law_cell"]) fun _ _ _ _ _ _ us hl => match us, hl with | [_, _], _ => rfl)
abbrev st_p_number_of : Stmt := topS 7
theorem sc_p_number_of : FnScope ["word", "sign"] ["word"] (defScope st_p_number_of) := ⟨rfl, rfl, rfl, by decide +kernel, rfl, by decide +kernel, by decide +kernel⟩
def F_p_number_of : En → Option Out :=
    sSeq (sIf (bOr (bNot (asB (eChain leD leD (eC (.int 1)) (eCall lenD (aCons (bVar 0) (aNil))) (eC (.int 3))))) (bAnd (asB (e2 (eqD 64) (e2 ixD (bVar 0) (eC (.int 0))) (eC (.str "0")))) (asB (e2 gtD (eCall lenD (aCons (bVar 0) (aNil))) (eC (.int 1))))))
    (sRet (eC .none))
    (sNil))
    (sSeq (sFor (iSeqD (eVar 0)) (hName 1)
    (sIf (asB (e2 (inD true) (bVar 1) (eC (.str "0123456789"))))
    (sRet (eC .none))
    (sNil)))
    (sRet (eCall intSD (aCons (bVar 0) (aNil)))))
def g_p_number_of : List D → Option Rv := gF 1 2 F_p_number_of
theorem ok_p_number_of {f : Addr} {fd : FuncData} (Fu : Fun K "number_of" "number_of" st_p_number_of f fd) (hm : mg "number_of" = some (.ref f)) (bi : Bi mg) {t_LONGEST : Tok} (k_LONGEST : mg "LONGEST" = some (.int 3 t_LONGEST)) {t_FIGURES : Tok} (k_FIGURES : mg "FIGURES" = some (.str "0123456789" t_FIGURES)) : DF P w K mg base 1 "number_of" 1 g_p_number_of :=
  df_mk (ps := ["word"]) Fu rfl (fn_ok (N := ["word", "sign"]) (ps := ["word"]) (k := 0) (F := F_p_number_of) Fu sc_p_number_of fun cdv A outer s H O E hr => ⟨_,
    ss_cons (s_if (t_w (w_or (t_not (t_chain op_le opd_cmp op_le opd_cmp (x_int) (x_cb cw_len opc_len bi.len PySem.boot_len (ab_cons (xvb 0) (ab_nil))) (x_gint (by rfl) k_LONGEST))) (w_or1 (t_w (w_and (t_cmp (op_eqA hr.units) opd_eq (nomark _) ((x_ix (xvb 0) (x_int)).b) ((x_str).b)) (w_and1 (t_cmp op_gt opd_cmp (nomark _) ((x_cb cw_len opc_len bi.len PySem.boot_len (ab_cons (xvb 0) (ab_nil))).b) ((x_int).b))))))))
    (ss_one (s_ret (x_non)))
    (ss_nil))
    (ss_cons (s_for PassesOwn.never rfl (i_seq (xv 0)) (g_name sc_p_number_of.nd rfl (Or.inl rfl))
    (ss_one (s_if (t_cmp op_notIn_sign opd_notin (by with_unfolding_all rfl) (xvb 1) ((x_gstr (by rfl) k_FIGURES).b))
    (ss_one (s_ret (x_non)))
    (ss_nil))))
    (ss_one (s_ret (x_ct call_int_str opc_intS bi.int PyProof.Rows.boot_int (ab_cons (xvb 0) (ab_nil))))))⟩) hm (Fu.binds (ps := ["word"]) fun _ _ _ _ _ _ us hl => match us, hl with | [_], _ => rfl)
abbrev st_p_row_read : Stmt := topS 8
theorem sc_p_row_read : FnScope ["line", "words", "numbers", "word"] ["line"] (defScope st_p_row_read) := ⟨rfl, rfl, rfl, by decide +kernel, rfl, by decide +kernel, by decide +kernel⟩
def F_p_row_read : En → Option Out :=
    sSeq (sSetR 1 (e2 splitL (eVar 0) (eC (.str " "))))
    (sSeq (sSetR 2 (lComp (iSeqD (liL (e3 slL (bVar 1) (oSome (eC (.int 1))) (oNone)))) (hName 3) (cYes) (eCall (fun ds => toD (g_p_number_of ds)) (aCons (eVar 3) (aNil))) [3]))
    (sSeq (sIf (asB (e2 (inLD false) (eC .none) (bVar 2)))
    (sRet (eC .none))
    (sNil))
    (sSeq (sIf (bOr (bAnd (asB (e2 (eqD 64) (e2 ixD (bVar 1) (eC (.int 0))) (eC (.str "up")))) (asB (e2 (eqD 64) (eCall lenD (aCons (bVar 2) (aNil))) (eC (.int 2))))) (bAnd (asB (e2 (eqD 64) (e2 ixD (bVar 1) (eC (.int 0))) (eC (.str "down")))) (asB (e2 (eqD 64) (eCall lenD (aCons (bVar 2) (aNil))) (eC (.int 3))))))
    (sRet (e2 addD (eTup (aCons (e2 ixD (bVar 1) (eC (.int 0))) (aNil))) (eCall tupD (aCons (bVar 2) (aNil)))))
    (sNil))
    (sRet (eC .none)))))
def g_p_row_read : List D → Option Rv := gF 1 4 F_p_row_read
theorem ok_p_row_read {f : Addr} {fd : FuncData} (Fu : Fun K "row_read" "row_read" st_p_row_read f fd) (hm : mg "row_read" = some (.ref f)) (bi : Bi mg) (c_p_number_of : DF P w K mg base 1 "number_of" 1 g_p_number_of) : DF P w K mg base 2 "row_read" 1 g_p_row_read :=
  df_mk (ps := ["line"]) Fu rfl (fn_ok (N := ["line", "words", "numbers", "word"]) (ps := ["line"]) (k := 1) (F := F_p_row_read) Fu sc_p_row_read fun cdv A outer s H O E hr => ⟨_,
    ss_cons (s_setR (i := 1) sc_p_row_read.nd rfl (Or.inl rfl) (l_split (xv 0) (x_str)))
    (ss_cons (s_setLcR (own := [("word", 3)]) rfl sc_p_row_read.nd rfl rfl (sw_true rfl rfl rfl (by decide +kernel)) (i_seq ((l_sl (xvb 1) (o_some (x_int)) (o_none)).e)) (blkOk_by (own := [("word", 3)]) (N := ["line", "words", "numbers", "word"]) (sc := defScope st_p_row_read) (by decide +kernel)) (gw_name (by decide)) (fun _ _ _ _ _ => g_name sc_p_row_read.nd rfl (Or.inl rfl)) (fun _ _ _ _ _ => ts_nil) (fun _ _ _ _ _ => x_call c_p_number_of (hr.mono (by decide)) (a_cons (xv 3) (a_nil))))
    (ss_cons (s_if (t_cmp (op_inD (Z.Room.unN hr (by decide))) opd_inL (by with_unfolding_all rfl) ((x_non).b) (xvb 2))
    (ss_one (s_ret (x_non)))
    (ss_nil))
    (ss_cons (s_if (t_w (w_or (t_w (w_and (t_cmp (op_eqA hr.units) opd_eq (nomark _) ((x_ix (xvb 1) (x_int)).b) ((x_str).b)) (w_and1 (t_cmp (op_eqA hr.units) opd_eq (nomark _) ((x_cb cw_len opc_len bi.len PySem.boot_len (ab_cons (xvb 2) (ab_nil))).b) ((x_int).b))))) (w_or1 (t_w (w_and (t_cmp (op_eqA hr.units) opd_eq (nomark _) ((x_ix (xvb 1) (x_int)).b) ((x_str).b)) (w_and1 (t_cmp (op_eqA hr.units) opd_eq (nomark _) ((x_cb cw_len opc_len bi.len PySem.boot_len (ab_cons (xvb 2) (ab_nil))).b) ((x_int).b))))))))
    (ss_one (s_ret (x_add ((x_tup (a_cons (x_ix (xvb 1) (x_int)) (a_nil))).b) ((x_ct cw_tuple opc_tuple bi.tup PyProof.Rows.boot_tuple (ab_cons (xvb 2) (ab_nil))).b))))
    (ss_nil))
    (ss_one (s_ret (x_non))))))⟩) hm (Fu.binds (ps := ["line"]) fun _ _ _ _ _ _ us hl => match us, hl with | [_], _ => rfl)
abbrev st_p_counter_read : Stmt := topS 9
theorem sc_p_counter_read : FnScope ["text", "rows", "number", "line", "row"] ["text"] (defScope st_p_counter_read) := ⟨rfl, rfl, rfl, by decide +kernel, rfl, by decide +kernel, by decide +kernel⟩
def F_p_counter_read : En → Option Out :=
    sSeq (sSetL 1 (lLst (aNil)))
    (sSeq (sIf (asB (e2 (eqD 64) (bVar 0) (eC (.str ""))))
    (sRetO 1)
    (sNil))
    (sSeq (sFor (iEnumD (aCons (liL (e2 splitL (eVar 0) (eC (.str "\n")))) (aNil))) (hTup 2 (hCons (hName 2) (hCons (hName 3) (hNil))))
    (sSeq (sSet 4 (eCall (fun ds => toD (g_p_row_read ds)) (aCons (eVar 3) (aNil))))
    (sSeq (sIf (asB (e2 (isND false) (bVar 4) (eC .none)))
    (sRaise "NoProgram" (eVar 2))
    (sNil))
    (sApp 1 (eVar 4)))))
    (sRetO 1)))
def g_p_counter_read : List D → Option RvX := gX 1 5 F_p_counter_read
theorem ok_p_counter_read {f : Addr} {fd : FuncData} (Fu : Fun K "counter_read" "counter_read" st_p_counter_read f fd) (hm : mg "counter_read" = some (.ref f)) (bi : Bi mg) (c_p_row_read : DF P w K mg base 2 "row_read" 1 g_p_row_read) (EA : ExAll K mg) (RF : RaiseF P w K mg base 1) {C_NoProgram C_NoTree C_OneError : Addr} (hC_NoProgram : clsOf K "NoProgram" = some C_NoProgram) (hC_NoTree : clsOf K "NoTree" = some C_NoTree) (hC_OneError : clsOf K "OneError" = some C_OneError) : DFX P w K mg base 3 "counter_read" 1 g_p_counter_read :=
  dfx_mk (ps := ["text"]) Fu rfl (fn_okX (N := ["text", "rows", "number", "line", "row"]) (ps := ["text"]) (k := 2) (F := F_p_counter_read) Fu sc_p_counter_read fun cdv A outer s H O E hr => ⟨_,
    ss_cons (s_setL (i := 1) sc_p_counter_read.nd rfl (Or.inl rfl) (l_lst (a_nil)))
    (ss_cons (s_if (t_cmp (op_eqA hr.units) opd_eq (nomark _) (xvb 0) ((x_str).b))
    (ss_one (s_retO 1 (pv 1)))
    (ss_nil))
    (ss_cons (s_for (passes_of rfl) rfl (i_enum bi.enm (a_cons ((l_split (xv 0) (x_str)).e) (a_nil))) (g_tup (n := 2) rfl (gs_cons (g_name sc_p_counter_read.nd rfl (Or.inl rfl)) (gs_cons (g_name sc_p_counter_read.nd rfl (Or.inl rfl)) (gs_nil))))
    (ss_cons (s_set (i := 4) sc_p_counter_read.nd rfl (Or.inl rfl) (x_call c_p_row_read (hr.mono (by decide)) (a_cons (xv 3) (a_nil))))
    (ss_cons (s_if (t_cmp op_isA opd_is (nomark _) (xvb 4) ((x_non).b))
    (ss_one (s_raise (wd := "a line that tells no row") RF hC_NoProgram (by decide) (hr.mono (by decide)) (takes_of rfl rfl rfl rfl) pe_str (xv 2)))
    (ss_nil))
    (ss_one (s_app 1 (pv 1) (xv 4))))))
    (ss_one (s_retO 1 (pv 1)))))⟩) hm (Fu.binds (ps := ["text"]) fun _ _ _ _ _ _ us hl => match us, hl with | [_], _ => rfl)
abbrev st_l_refused : Stmt := topS 16
theorem sc_l_refused : FnScope ["_law_text", "_law_at", "_law_got", "e"] ["_law_text", "_law_at"] (defScope st_l_refused) := ⟨rfl, rfl, rfl, by decide +kernel, rfl, by decide +kernel, by decide +kernel⟩
def F_l_refused : En → Option Out :=
    sSeq (sSet 2 (eC .none))
    (sSeq (sTryB 3 2 g_p_counter_read (aCons (eVar 0) (aNil)))
    (sSeq (sIf (bOr (bNot (asB (kIsI 2 "NoProgram"))) (bOr (asB (kIsI 2 "NoTree")) (bNot (asB (kIsI 2 "ValueError")))))
    (sRet (eC (.bool false)))
    (sNil))
    (sRet (eAnd (e1 (isiD "int") (kAt 2)) (eAnd (e1 notD (e1 (isiD "bool") (kAt 2))) (e2 (eqD 64) (kAt 2) (bVar 1)))))))
def g_l_refused : List D → Option Rv := gF 2 4 F_l_refused
theorem ok_l_refused {f : Addr} {fd : FuncData} (Fu : Fun K "_law_refused" "_law_refused" st_l_refused f fd) (hm : mg "_law_refused" = some (.ref f)) (bi : Bi mg) (c_p_counter_read : DFX P w K mg base 3 "counter_read" 1 g_p_counter_read) (EA : ExAll K mg) (RF : RaiseF P w K mg base 1) {C_NoProgram C_NoTree C_OneError : Addr} (hC_NoProgram : clsOf K "NoProgram" = some C_NoProgram) (hC_NoTree : clsOf K "NoTree" = some C_NoTree) (hC_OneError : clsOf K "OneError" = some C_OneError) : DF P w K mg base 4 "_law_refused" 2 g_l_refused :=
  df_mk (ps := ["_law_text", "_law_at"]) Fu rfl (fn_ok (N := ["_law_text", "_law_at", "_law_got", "e"]) (ps := ["_law_text", "_law_at"]) (k := 3) (F := F_l_refused) Fu sc_l_refused fun cdv A outer s H O E hr => ⟨_,
    ss_cons (s_set (i := 2) sc_l_refused.nd rfl (Or.inl rfl) (x_non))
    (ss_cons (s_tryB 3 2 c_p_counter_read EA hC_OneError (hr.mono (by decide)) (fun pn xe => a_cons (xv 0) (a_nil)) sc_l_refused.nd)
    (ss_cons (s_if (t_w (w_or (t_not (t_val (x_kIs EA bi.isi (by decide) hC_NoProgram (pv 2)))) (w_or (t_val (x_kIs EA bi.isi (by decide) hC_NoTree (pv 2))) (w_or1 (t_not (t_val (x_kIsV EA bi.isi (pv 2))))))))
    (ss_one (s_ret (x_bl)))
    (ss_nil))
    (ss_one (s_ret (x_and (x_isi bi.isi bi.int PyProof.Rows.boot_int ((x_kAt EA (pv 2)).b)) (x_and (x_not (x_isi bi.isi bi.bool PyProof.Rows.boot_bool ((x_kAt EA (pv 2)).b))) (x_one (x_cmp (op_eqA hr.units) opd_eq (nomark _) ((x_kAt EA (pv 2)).b) (xvb 1)))))))))⟩) hm (Fu.binds (ps := ["_law_text", "_law_at"]) fun _ _ _ _ _ _ us hl => match us, hl with | [_, _], _ => rfl)
abbrev st_l_cell_at : Stmt := topS 11
theorem sc_l_cell_at : FnScope ["_law_script", "_law_k"] ["_law_script", "_law_k"] (defScope st_l_cell_at) := ⟨rfl, rfl, rfl, by decide +kernel, rfl, by decide +kernel, by decide +kernel⟩
def F_l_cell_at : En → Option Out :=
    sSeq (sIf (asB (e2 ltD (bVar 1) (eCall lenD (aCons (bVar 0) (aNil)))))
    (sRet (e2 ixD (bVar 0) (eVar 1)))
    (sNil))
    (sRet (eC (.int 0)))
def g_l_cell_at : List D → Option Rv := gF 2 2 F_l_cell_at
theorem ok_l_cell_at {f : Addr} {fd : FuncData} (Fu : Fun K "_law_cell_at" "_law_cell_at" st_l_cell_at f fd) (hm : mg "_law_cell_at" = some (.ref f)) (bi : Bi mg) : DF P w K mg base 1 "_law_cell_at" 2 g_l_cell_at :=
  df_mk (ps := ["_law_script", "_law_k"]) Fu rfl (fn_ok (N := ["_law_script", "_law_k"]) (ps := ["_law_script", "_law_k"]) (k := 0) (F := F_l_cell_at) Fu sc_l_cell_at fun cdv A outer s H O E hr => ⟨_,
    ss_cons (s_if (t_cmp op_lt opd_cmp (nomark _) (xvb 1) ((x_cb cw_len opc_len bi.len PySem.boot_len (ab_cons (xvb 0) (ab_nil))).b))
    (ss_one (s_ret (x_ix (xvb 0) (xv 1))))
    (ss_nil))
    (ss_one (s_ret (x_int)))⟩) hm (Fu.binds (ps := ["_law_script", "_law_k"]) fun _ _ _ _ _ _ us hl => match us, hl with | [_, _], _ => rfl)
abbrev st_law : Stmt := topS 17
theorem sc_law : FnScope ["_law_script", "_law_good", "_law_lines", "_law_bad", "_law_k", "_law_spot", "_law_at", "_law_text", "_law_nothing", "_law_cell"] ["_law_script"] (defScope st_law) := ⟨rfl, rfl, rfl, by decide +kernel, rfl, by decide +kernel, by decide +kernel⟩
def F_law : En → Option Out :=
    sSeq (sSetR 1 (lComp (iSeqD (liL (e3 slL (bVar 0) (oSome (eC (.int 2))) (oSome (eC (.int 14)))))) (hName 9) (cYes) (eCall (fun ds => toD (g_l_line ds)) (aCons (eVar 9) (aNil))) [9]))
    (sSeq (sSetR 1 (lCat (nVar 1) (lLst (aCons (eCall (fun ds => toD (g_l_line ds)) (aCons (eCall (fun ds => toD (g_l_cell_at ds)) (aCons (eVar 0) (aCons (eC (.int 0)) (aNil)))) (aNil))) (aCons (eCall (fun ds => toD (g_l_line ds)) (aCons (eCall (fun ds => toD (g_l_cell_at ds)) (aCons (eVar 0) (aCons (eC (.int 1)) (aNil)))) (aNil))) (aNil))))))
    (sSeq (sSetL 2 (eCall listL (aCons (bVar 1) (aNil))))
    (sSeq (sSetL 3 (lLst (aNil)))
    (sSeq (sFor (iRg1D (aCons (e2 modD (eCall (fun ds => toD (g_l_cell_at ds)) (aCons (eVar 0) (aCons (eC (.int 0)) (aNil)))) (eC (.int 4))) (aNil))) (hName 4)
    (sSeq (sSet 5 (e2 modD (eCall (fun ds => toD (g_l_mixed ds)) (aCons (eCall (fun ds => toD (g_l_cell_at ds)) (aCons (eVar 0) (aCons (eC (.int 0)) (aNil)))) (aCons (e2 addD (eC (.int 20)) (bVar 4)) (aNil)))) (eCall lenD (aCons (bVar 2) (aNil)))))
    (sSeq (sPut 2 (eVar 5) (eCall (fun ds => toD (g_l_spoilt ds)) (aCons (e2 ixD (bVar 1) (eVar 5)) (aCons (eCall (fun ds => toD (g_l_mixed ds)) (aCons (eCall (fun ds => toD (g_l_cell_at ds)) (aCons (eVar 0) (aCons (eC (.int 1)) (aNil)))) (aCons (eVar 4) (aNil)))) (aNil)))))
    (sApp 3 (eVar 5)))))
    (sFz 3 (sFz 2 (sSeq (sAsg (eCall (fun ds => toD (g_l_numbered ds)) (aCons (eVar 2) (aCons (eVar 3) (aCons (eCall (fun ds => toD (g_l_mixed ds)) (aCons (eCall (fun ds => toD (g_l_cell_at ds)) (aCons (eVar 0) (aCons (eC (.int 1)) (aNil)))) (aCons (eC (.int 40)) (aNil)))) (aNil))))) (hTup 2 (hCons (hName 2) (hCons (hName 6) (hNil)))))
    (sSeq (sSet 7 (e2 joinD (eC (.str "\n")) (bVar 2)))
    (sSeq (sIf (bAnd (asB (e2 (isND true) (bVar 6) (eC .none))) (bOr (bNot (asB (eCall (fun ds => toD (g_l_refused ds)) (aCons (eVar 7) (aCons (eVar 6) (aNil)))))) (bNot (asB (eCall (fun ds => toD (g_l_refused ds)) (aCons (eVar 7) (aCons (eVar 6) (aNil))))))))
    (sRet (eC (.bool false)))
    (sNil))
    (sSeq (sIf (bAnd (asB (e2 (isND false) (bVar 6) (eC .none))) (asB (e2 (neD 64) (eCall lenD (aCons (liL (eCall (fun ds => toL (noX g_p_counter_read ds)) (aCons (eVar 7) (aNil)))) (aNil))) (eCall lenD (aCons (bVar 2) (aNil))))))
    (sRet (eC (.bool false)))
    (sNil))
    (sSeq (sSet 8 (eC (.str "")))
    (sSeq (sFor (iRg1D (aCons (e2 addD (eC (.int 1)) (e2 modD (eCall lenD (aCons (bVar 2) (aNil))) (eC (.int 4)))) (aNil))) (hName 4)
    (sSet 8 (e2 addD (bVar 8) (e2 ixD (eC (.str " \n\t")) (e2 modD (eCall (fun ds => toD (g_l_mixed ds)) (aCons (eCall (fun ds => toD (g_l_cell_at ds)) (aCons (eVar 0) (aCons (eC (.int 1)) (aNil)))) (aCons (e2 addD (eC (.int 50)) (bVar 4)) (aNil)))) (eC (.int 3)))))))
    (sRet (eAnd (eCall (fun ds => toD (g_l_refused ds)) (aCons (eVar 8) (aCons (eC (.int 0)) (aNil)))) (e2 (eqD 64) (eCall lenD (aCons (liL (eCall (fun ds => toL (noX g_p_counter_read ds)) (aCons (e2 joinD (eC (.str "\n")) (bVar 1)) (aNil)))) (aNil))) (eCall lenD (aCons (bVar 1) (aNil))))))))))))))))))
def g_law : List D → Option Rv := gF 1 10 F_law
theorem ok_law {f : Addr} {fd : FuncData} (Fu : Fun K "law" "law" st_law f fd) (bi : Bi mg) (c_l_line : DF P w K mg base 2 "_law_line" 1 g_l_line) (c_l_cell_at : DF P w K mg base 1 "_law_cell_at" 2 g_l_cell_at) (c_l_mixed : DF P w K mg base 1 "_law_mixed" 2 g_l_mixed) (c_l_spoilt : DF P w K mg base 1 "_law_spoilt" 2 g_l_spoilt) (c_l_numbered : DF P w K mg base 1 "_law_numbered" 3 g_l_numbered) (c_l_refused : DF P w K mg base 4 "_law_refused" 2 g_l_refused) (c_p_counter_read : DFX P w K mg base 3 "counter_read" 1 g_p_counter_read) : FnOk P w K mg base CX0 5 f fd ["_law_script"] (spD K 1 g_law) :=
  fn_ok (N := ["_law_script", "_law_good", "_law_lines", "_law_bad", "_law_k", "_law_spot", "_law_at", "_law_text", "_law_nothing", "_law_cell"]) (ps := ["_law_script"]) (k := 4) (F := F_law) Fu sc_law fun cdv A outer s H O E hr => ⟨_,
    ss_cons (s_setLcR (own := [("_law_cell", 9)]) rfl sc_law.nd rfl rfl (sw_true rfl rfl rfl (by decide +kernel)) (i_seq ((l_sl (xvb 0) (o_some (x_int)) (o_some (x_int))).e)) (blkOk_by (own := [("_law_cell", 9)]) (N := ["_law_script", "_law_good", "_law_lines", "_law_bad", "_law_k", "_law_spot", "_law_at", "_law_text", "_law_nothing", "_law_cell"]) (sc := defScope st_law) (by decide +kernel)) (gw_name (by decide)) (fun _ _ _ _ _ => g_name sc_law.nd rfl (Or.inl rfl)) (fun _ _ _ _ _ => ts_nil) (fun _ _ _ _ _ => x_call c_l_line (hr.mono (by decide)) (a_cons (xv 9) (a_nil))))
    (ss_cons (s_setR (i := 1) sc_law.nd rfl (Or.inl rfl) (l_catN rfl (n_var 1) ((l_lst (a_cons (x_call c_l_line (hr.mono (by decide)) (a_cons (x_call c_l_cell_at (hr.mono (by decide)) (a_cons (xv 0) (a_cons (x_int) (a_nil)))) (a_nil))) (a_cons (x_call c_l_line (hr.mono (by decide)) (a_cons (x_call c_l_cell_at (hr.mono (by decide)) (a_cons (xv 0) (a_cons (x_int) (a_nil)))) (a_nil))) (a_nil)))).n)))
    (ss_cons (s_setL (i := 2) sc_law.nd rfl (Or.inl rfl) (l_ct cw_list opc_list bi.lst PyProof.Rows.boot_list (ab_cons (xvb 1) (ab_nil))))
    (ss_cons (s_setL (i := 3) sc_law.nd rfl (Or.inl rfl) (l_lst (a_nil)))
    (ss_cons (s_for PassesOwn.never rfl (i_rg1 bi.rng (a_cons (x_mod (x_call c_l_cell_at (hr.mono (by decide)) (a_cons (xv 0) (a_cons (x_int) (a_nil)))) (x_int)) (a_nil))) (g_name sc_law.nd rfl (Or.inl rfl))
    (ss_cons (s_set (i := 5) sc_law.nd rfl (Or.inl rfl) (x_mod (x_call c_l_mixed (hr.mono (by decide)) (a_cons (x_call c_l_cell_at (hr.mono (by decide)) (a_cons (xv 0) (a_cons (x_int) (a_nil)))) (a_cons (x_add ((x_int).b) (xvb 4)) (a_nil)))) (x_cb cw_len opc_len bi.len PySem.boot_len (ab_cons (xvb 2) (ab_nil)))))
    (ss_cons (s_put 2 (pv 2) (xv 5) (x_call c_l_spoilt (hr.mono (by decide)) (a_cons (x_ix (xvb 1) (xv 5)) (a_cons (x_call c_l_mixed (hr.mono (by decide)) (a_cons (x_call c_l_cell_at (hr.mono (by decide)) (a_cons (xv 0) (a_cons (x_int) (a_nil)))) (a_cons (xv 4) (a_nil)))) (a_nil)))))
    (ss_one (s_app 3 (pv 3) (xv 5))))))
    (ss_fz 3 (ss_fz 2 (ss_cons (s_asg (x_call c_l_numbered (hr.mono (by decide)) (a_cons (xv 2) (a_cons (xv 3) (a_cons (x_call c_l_mixed (hr.mono (by decide)) (a_cons (x_call c_l_cell_at (hr.mono (by decide)) (a_cons (xv 0) (a_cons (x_int) (a_nil)))) (a_cons (x_int) (a_nil)))) (a_nil))))) (g_tup (n := 2) rfl (gs_cons (g_name sc_law.nd rfl (Or.inl rfl)) (gs_cons (g_name sc_law.nd rfl (Or.inl rfl)) (gs_nil)))))
    (ss_cons (s_set (i := 7) sc_law.nd rfl (Or.inl rfl) (x_join (x_str) (xvb 2)))
    (ss_cons (s_if (t_w (w_and (t_cmp op_notA opd_isnot (nomark _) (xvb 6) ((x_non).b)) (w_and1 (t_w (w_or (t_not (t_val (x_call c_l_refused (hr.mono (by decide)) (a_cons (xv 7) (a_cons (xv 6) (a_nil)))))) (w_or1 (t_not (t_val (x_call c_l_refused (hr.mono (by decide)) (a_cons (xv 7) (a_cons (xv 6) (a_nil))))))))))))
    (ss_one (s_ret (x_bl)))
    (ss_nil))
    (ss_cons (s_if (t_w (w_and (t_cmp op_isA opd_is (nomark _) (xvb 6) ((x_non).b)) (w_and1 (t_cmp (op_neA hr.units) opd_ne (nomark _) ((x_cb cw_len opc_len bi.len PySem.boot_len (ab_cons (((l_callN c_p_counter_read (hr.mono (by decide)) (a_cons (xv 7) (a_nil))).e).b) (ab_nil))).b) ((x_cb cw_len opc_len bi.len PySem.boot_len (ab_cons (xvb 2) (ab_nil))).b)))))
    (ss_one (s_ret (x_bl)))
    (ss_nil))
    (ss_cons (s_set (i := 8) sc_law.nd rfl (Or.inl rfl) (x_str))
    (ss_cons (s_for PassesOwn.never rfl (i_rg1 bi.rng (a_cons (x_add ((x_int).b) ((x_mod (x_cb cw_len opc_len bi.len PySem.boot_len (ab_cons (xvb 2) (ab_nil))) (x_int)).b)) (a_nil))) (g_name sc_law.nd rfl (Or.inl rfl))
    (ss_one (s_set (i := 8) sc_law.nd rfl (Or.inl rfl) (x_add (xvb 8) ((x_ix ((x_str).b) (x_mod (x_call c_l_mixed (hr.mono (by decide)) (a_cons (x_call c_l_cell_at (hr.mono (by decide)) (a_cons (xv 0) (a_cons (x_int) (a_nil)))) (a_cons (x_add ((x_int).b) (xvb 4)) (a_nil)))) (x_int))).b)))))
    (ss_one (s_ret (x_and (x_call c_l_refused (hr.mono (by decide)) (a_cons (xv 8) (a_cons (x_int) (a_nil)))) (x_one (x_cmp (op_eqA hr.units) opd_eq (nomark _) ((x_cb cw_len opc_len bi.len PySem.boot_len (ab_cons (((l_callN c_p_counter_read (hr.mono (by decide)) (a_cons (x_join (x_str) (xvb 1)) (a_nil))).e).b) (ab_nil))).b) ((x_cb cw_len opc_len bi.len PySem.boot_len (ab_cons (xvb 1) (ab_nil))).b))))))))))))))))))⟩
end
end Q

set_option Elab.async false
set_option maxRecDepth 100000
set_option maxHeartbeats 4000000
set_option linter.all false
namespace Q
open PySem PySem.Spec PyProof.Rows L2 Z
local macro_rules | `(tactic| walk_at "z") => `(tactic| simp -implicitDefEqProofs (disch := first | omega | (simp only [List.length_cons, List.length_nil, List.length_append, List.length_map, List.length_set, List.length_reverse, List.length_take, List.length_drop, List.length_range]; done) | (simp only [List.length_cons, List.length_nil, List.length_append, List.length_map, List.length_set, List.length_reverse, List.length_take, List.length_drop, List.length_range]; omega) | fail) only [List.length_map, gF_ap, env0, List.map_cons, List.map_nil, List.length_cons, List.length_nil, List.cons_append, List.nil_append, List.replicate_succ, List.replicate_zero, Nat.reduceAdd, Nat.reduceSub, if_true, if_false, eq_self, List.getD_cons_zero, Int.toNat_natCast, Nat.reduceEqDiff, reduceIte, reduceCtorEq, decide_true, decide_false, Bool.not_true, Bool.not_false, Bool.and_true, Bool.true_and, Bool.and_false, Bool.false_and, Bool.or_true, Bool.true_or, Bool.or_false, Bool.false_or,
  sSeq_ap, sqK_nx, sqK_rt, sqK_rl, sqK_bk, sqK_ct, sqK_no, sIf_ap, ifK_t, ifK_f, ifK_d, ifK_nd, sNil_ap, sBk_ap, sCt_ap, sRetN_ap, sBad_ap, eVar_ap, bVar_ap, mVar_ap, rdV_ro, rdV_lr, rdB_ro, rdB_lr, rdB_ow, rdM_lr, rdM_ow, nVar_ap, rdN_ro, rdN_lr, rdN_ow, eC_ap, e1_ap, e2_ap, e3_ap, b1_s, b2_s, b3_s, aNil_ap, aCons_ap, cnK_s, eCall_ap, caK_s, eTup_ap, tupK_s, lLst_ap, lstK_s, liL_ap, liK_s, lCat_ap, catK_s, oNone_ap, oSome_ap, oSK_i, asB_ap, boK_b, eAnd_ap, eOr_ap, andK_t, andK_f, orK_t, orK_f, andK_d, orK_d, bAnd_ap, bOr_ap, bAndK_t, bAndK_f, bOrK_t, bOrK_f, bAndK_d, bOrK_d, bAndK_nd, bOrK_nd, bNot_ap, toD_s, toL_l, rv_v, rv_l, sSet_ap, stK_s, sSetL_ap, slK_s, sSetR_ap, srK_s, sAsg_ap, asK_s, hName_ap, hTup_ap, hCons_ap, hNil_ap, sDrop_ap, drK_s, sRet_ap, rtK_s, sRetL_ap, rlK_s, sRetO_ap, roK_s, sFz_ap, fzK_s, fzK_ro, fzK_lr, sApp_ap, apK_s, sPut_ap, puK_s, sFor_ap, foK_s, forGo_n, forGo_c, tgK_s, at_nx, at_ct, at_bk, at_rt, at_rl, lComp_ap, coK_s, wipeE_n, wipeE_c, cYes_ap, wiK_t, wiK_f, sqK_ite, rvK_ite, at_ite, boK_ite, rtK_ite, ifK_ite, decide_eq_true_eq, Int.reduceToNat, Int.reduceLT, Int.reduceLE, Int.reduceEq, Int.reduceNeg, Int.reducePow, Int.reduceSub, Int.reduceAdd, Int.reduceMul, iSeqD_ap, iRg1D_ap, iRg2D_ap, iRevD_ap, iEnumD_ap, iZipD_ap, seqK_l, seqK_t, seqK_s, rg1K_i, rg2K_i, revK_l, enuK_l, enuK_x, zipK_l, nat0, nat1, nat2, nat3, nat4, nat5, rvK_rt, rvK_rl, rvK_nx, compGo_n, compGo_c, cdK_y, cdK_s, all_t, eChain_ap, chK_ll, hUnl_ap, revL_ap, kyE_ap, kyeK_i, kyeK_s, kyeK_x, kyT_ap, kytK_ix, eDGet_ap, eDIn_ap, eDGet1_ap, eDGet2_ap, sDNew_ap, sDPutD_ap, dpK_T, dpK_K, sFzK_ap, fzkK_s, fzkK_ro, rdB_oK, pNil_ap, pCons_ap, pcK_s, pcK_x, eDisp_ap, dispK_1, fzL_ap, fzLK_s, fzT_ap, fzTK_s, fzE_ap, fzEK_s, xIO_ap, xiK_s, sRetP_ap, rpK_s, gIO_ap, ioR_rp, ioR_nx, ioK_s, sqK_rp, ioR_ite, envIO, sClear_ap, clK_s, sExt_ap, exK_s, sSetX_ap, xsK_s, xPop_ap, poK_s, poK_1, xPopAt_ap, patK_0, xaNil_ap, xaCons_ap, xacK_s, xTup_ap, xtK_s, xE_ap, xeK_s, xCall_ap, xclK_s, sAsgX_ap, xagK_s, sDropX_ap, xdK_s, sRetX_ap, xrK_s, sAppX_ap, axK_s, ax2K_s, ne_bb, ifK_v, ifK_nv, bOrK_v, bOrK_nv, bAndK_v, bAndK_nv, andK_v, orK_v, andK_nv, orK_nv,
  List.getElem?_cons_succ, List.getElem?_cons_zero, List.set_cons_succ, List.set_cons_zero, Option.bind_some, Option.map_some, Option.bind_none, Option.map_none,
  add_x, len_x, ix_x, eq_x, ne_x, isx_int, isx_bool, isx_str, isx_tuple, isx_list, isNx, notNx, sl_x, seq_x, cut_m1, cut_l1, sl_t, sl_l, sl_s, slL_l, cut_lo, cut_hi, cut_lh, cut_nn, add_ii, add_ss, add_tt, sub_ii, mul_l, mul_r, div_ii, mod_ii, pow_ii, lt_ii, le_ii, gt_ii, ge_ii, eq_ii, eq_bb, eq_ss, ne_ii, ne_ss, len_l, len_t, len_s, int_i, int_b, min_ii, max_ii, tup_l, tup_t, list_l, list_t, neg_i, not_b, ix_l, ix_t, atI_0, atI_1, atI_2, atI_3, atI_4,
  isN_n, isN_i, isN_s, isN_b, isN_t, isN_l, notN_n, notN_i, notN_s, notN_b, notN_t, notN_l, isB, notB, isi_i_int, isi_b_int, isi_s_int, isi_t_int, isi_l_int, isi_n_int, isi_i_bool, isi_b_bool, isi_s_bool, isi_t_bool, isi_l_bool, isi_n_bool, isi_i_str, isi_b_str, isi_s_str, isi_t_str, isi_l_str, isi_n_str, isi_i_tuple, isi_b_tuple, isi_s_tuple, isi_t_tuple, isi_l_tuple, isi_n_tuple, isi_i_list, isi_b_list, isi_s_list, isi_t_list, isi_l_list, isi_n_list])
local macro_rules | `(tactic| walk_at "y") => `(tactic| simp -implicitDefEqProofs (disch := first | omega | (simp only [List.length_cons, List.length_nil, List.length_append, List.length_map, List.length_set, List.length_reverse, List.length_take, List.length_drop, List.length_range]; done) | (simp only [List.length_cons, List.length_nil, List.length_append, List.length_map, List.length_set, List.length_reverse, List.length_take, List.length_drop, List.length_range]; omega) | fail) only [*, List.length_map, gF_ap, env0, List.map_cons, List.map_nil, List.length_cons, List.length_nil, List.cons_append, List.nil_append, List.replicate_succ, List.replicate_zero, Nat.reduceAdd, Nat.reduceSub, if_true, if_false, eq_self, List.getD_cons_zero, Int.toNat_natCast, Nat.reduceEqDiff, reduceIte, reduceCtorEq, decide_true, decide_false, Bool.not_true, Bool.not_false, Bool.and_true, Bool.true_and, Bool.and_false, Bool.false_and, Bool.or_true, Bool.true_or, Bool.or_false, Bool.false_or,
  sSeq_ap, sqK_nx, sqK_rt, sqK_rl, sqK_bk, sqK_ct, sqK_no, sIf_ap, ifK_t, ifK_f, ifK_d, ifK_nd, sNil_ap, sBk_ap, sCt_ap, sRetN_ap, sBad_ap, eVar_ap, bVar_ap, mVar_ap, rdV_ro, rdV_lr, rdB_ro, rdB_lr, rdB_ow, rdM_lr, rdM_ow, nVar_ap, rdN_ro, rdN_lr, rdN_ow, eC_ap, e1_ap, e2_ap, e3_ap, b1_s, b2_s, b3_s, aNil_ap, aCons_ap, cnK_s, eCall_ap, caK_s, eTup_ap, tupK_s, lLst_ap, lstK_s, liL_ap, liK_s, lCat_ap, catK_s, oNone_ap, oSome_ap, oSK_i, asB_ap, boK_b, eAnd_ap, eOr_ap, andK_t, andK_f, orK_t, orK_f, andK_d, orK_d, bAnd_ap, bOr_ap, bAndK_t, bAndK_f, bOrK_t, bOrK_f, bAndK_d, bOrK_d, bAndK_nd, bOrK_nd, bNot_ap, toD_s, toL_l, rv_v, rv_l, sSet_ap, stK_s, sSetL_ap, slK_s, sSetR_ap, srK_s, sAsg_ap, asK_s, hName_ap, hTup_ap, hCons_ap, hNil_ap, sDrop_ap, drK_s, sRet_ap, rtK_s, sRetL_ap, rlK_s, sRetO_ap, roK_s, sFz_ap, fzK_s, fzK_ro, fzK_lr, sApp_ap, apK_s, sPut_ap, puK_s, sFor_ap, foK_s, forGo_n, forGo_c, tgK_s, at_nx, at_ct, at_bk, at_rt, at_rl, lComp_ap, coK_s, wipeE_n, wipeE_c, cYes_ap, wiK_t, wiK_f, sqK_ite, rvK_ite, at_ite, boK_ite, rtK_ite, ifK_ite, decide_eq_true_eq, Int.reduceToNat, Int.reduceLT, Int.reduceLE, Int.reduceEq, Int.reduceNeg, Int.reducePow, Int.reduceSub, Int.reduceAdd, Int.reduceMul, iSeqD_ap, iRg1D_ap, iRg2D_ap, iRevD_ap, iEnumD_ap, iZipD_ap, seqK_l, seqK_t, seqK_s, rg1K_i, rg2K_i, revK_l, enuK_l, enuK_x, zipK_l, nat0, nat1, nat2, nat3, nat4, nat5, rvK_rt, rvK_rl, rvK_nx, compGo_n, compGo_c, cdK_y, cdK_s, all_t, eChain_ap, chK_ll, hUnl_ap, revL_ap, kyE_ap, kyeK_i, kyeK_s, kyeK_x, kyT_ap, kytK_ix, eDGet_ap, eDIn_ap, eDGet1_ap, eDGet2_ap, sDNew_ap, sDPutD_ap, dpK_T, dpK_K, sFzK_ap, fzkK_s, fzkK_ro, rdB_oK, pNil_ap, pCons_ap, pcK_s, pcK_x, eDisp_ap, dispK_1, fzL_ap, fzLK_s, fzT_ap, fzTK_s, fzE_ap, fzEK_s, xIO_ap, xiK_s, sRetP_ap, rpK_s, gIO_ap, ioR_rp, ioR_nx, ioK_s, sqK_rp, ioR_ite, envIO, sClear_ap, clK_s, sExt_ap, exK_s, sSetX_ap, xsK_s, xPop_ap, poK_s, poK_1, xPopAt_ap, patK_0, xaNil_ap, xaCons_ap, xacK_s, xTup_ap, xtK_s, xE_ap, xeK_s, xCall_ap, xclK_s, sAsgX_ap, xagK_s, sDropX_ap, xdK_s, sRetX_ap, xrK_s, sAppX_ap, axK_s, ax2K_s, ne_bb, ifK_v, ifK_nv, bOrK_v, bOrK_nv, bAndK_v, bAndK_nv, andK_v, orK_v, andK_nv, orK_nv,
  List.getElem?_cons_succ, List.getElem?_cons_zero, List.set_cons_succ, List.set_cons_zero, Option.bind_some, Option.map_some, Option.bind_none, Option.map_none,
  add_x, len_x, ix_x, eq_x, ne_x, isx_int, isx_bool, isx_str, isx_tuple, isx_list, isNx, notNx, sl_x, seq_x, cut_m1, cut_l1, sl_t, sl_l, sl_s, slL_l, cut_lo, cut_hi, cut_lh, cut_nn, add_ii, add_ss, add_tt, sub_ii, mul_l, mul_r, div_ii, mod_ii, pow_ii, lt_ii, le_ii, gt_ii, ge_ii, eq_ii, eq_bb, eq_ss, ne_ii, ne_ss, len_l, len_t, len_s, int_i, int_b, min_ii, max_ii, tup_l, tup_t, list_l, list_t, neg_i, not_b, ix_l, ix_t, atI_0, atI_1, atI_2, atI_3, atI_4,
  isN_n, isN_i, isN_s, isN_b, isN_t, isN_l, notN_n, notN_i, notN_s, notN_b, notN_t, notN_l, isB, notB, isi_i_int, isi_b_int, isi_s_int, isi_t_int, isi_l_int, isi_n_int, isi_i_bool, isi_b_bool, isi_s_bool, isi_t_bool, isi_l_bool, isi_n_bool, isi_i_str, isi_b_str, isi_s_str, isi_t_str, isi_l_str, isi_n_str, isi_i_tuple, isi_b_tuple, isi_s_tuple, isi_t_tuple, isi_l_tuple, isi_n_tuple, isi_i_list, isi_b_list, isi_s_list, isi_t_list, isi_l_list, isi_n_list])
theorem atI_map {α β : Type} (g : α → β) (xs : List α) (i : Int) : atI (xs.map g) i = (atI xs i).map g := by
  unfold atI
  rw [List.length_map]
  cases ixN xs.length i with
  | none => rfl
  | some j => show (xs.map g)[j]? = _; rw [List.getElem?_map]; rfl
theorem atI_getD {α : Type} (xs : List α) (i : Int) (d : α) (h0 : 0 ≤ i) (h : i < xs.length) : atI xs i = some (xs.getD i.toNat d) := by
  rw [atI_nat' h0 h, List.getD_eq_getElem?_getD]
  have : i.toNat < xs.length := by omega
  rw [List.getElem?_eq_getElem this]; rfl
theorem ixm {ns : List Int} {i : Int} (h0 : 0 ≤ i) (h : i < ns.length) : atI (ns.map PyData.int) i = some (.int (ns.getD i.toNat 0)) := by
  rw [atI_map, atI_getD ns i 0 h0 h]; rfl
theorem one_last {α : Type} {xs : List α} (h : 1 ≤ xs.length) : ∃ ys a, xs = ys ++ [a] := by
  have hne : xs ≠ [] := fun e => by subst e; simp at h
  exact ⟨xs.dropLast, xs.getLast hne, (List.dropLast_concat_getLast hne).symm⟩
theorem two_last {α : Type} {xs : List α} (h : 2 ≤ xs.length) : ∃ ys a b, xs = ys ++ [a] ++ [b] := by
  obtain ⟨ys, b, rfl⟩ := one_last (show 1 ≤ xs.length by omega)
  rw [List.length_append, List.length_singleton] at h
  obtain ⟨zs, a, rfl⟩ := one_last (show 1 ≤ ys.length by omega)
  exact ⟨zs, a, b, rfl⟩
theorem ne_of_eq {n : Nat} {d e : D} {b : Bool} (h : eqD n d e = some (.bool b)) : neD n d e = some (.bool (!b)) := by
  unfold eqD at h
  unfold neD
  split at h
  · rename_i c
    rw [if_pos c]
    have h := Option.some.inj h
    injection h with h
    rw [h]
  · cases h
theorem chK_lelt {fc : En → Option D} {ρ : En} {i j : Int} : chK leD ltD fc ρ (some (.int i)) (some (.int j)) = if i ≤ j then b2 ltD (some (.int j)) (fc ρ) else some (.bool false) := by
  unfold chK
  dsimp only
  rw [le_ii, Option.bind_some]
  by_cases h : i ≤ j
  · rw [if_pos h, decide_eq_true h]
    show (fc ρ).bind _ = _
    cases fc ρ <;> rfl
  · rw [if_neg h, decide_eq_false h]
local macro_rules | `(tactic| walk_at "z") => `(tactic| simp -implicitDefEqProofs (disch := first | omega | (simp only [List.length_cons, List.length_nil, List.length_append, List.length_map, List.length_set, List.length_reverse, List.length_take, List.length_drop, List.length_range]; done) | (simp only [List.length_cons, List.length_nil, List.length_append, List.length_map, List.length_set, List.length_reverse, List.length_take, List.length_drop, List.length_range]; omega) | fail) only [List.length_map, chK_lelt, gF_ap, env0, List.map_cons, List.map_nil, List.length_cons, List.length_nil, List.cons_append, List.nil_append, List.replicate_succ, List.replicate_zero, Nat.reduceAdd, Nat.reduceSub, if_true, if_false, eq_self, List.getD_cons_zero, Int.toNat_natCast, Nat.reduceEqDiff, reduceIte, reduceCtorEq, decide_true, decide_false, Bool.not_true, Bool.not_false, Bool.and_true, Bool.true_and, Bool.and_false, Bool.false_and, Bool.or_true, Bool.true_or, Bool.or_false, Bool.false_or,
  sSeq_ap, sqK_nx, sqK_rt, sqK_rl, sqK_bk, sqK_ct, sqK_no, sIf_ap, ifK_t, ifK_f, ifK_d, ifK_nd, sNil_ap, sBk_ap, sCt_ap, sRetN_ap, sBad_ap, eVar_ap, bVar_ap, mVar_ap, rdV_ro, rdV_lr, rdB_ro, rdB_lr, rdB_ow, rdM_lr, rdM_ow, nVar_ap, rdN_ro, rdN_lr, rdN_ow, eC_ap, e1_ap, e2_ap, e3_ap, b1_s, b2_s, b3_s, aNil_ap, aCons_ap, cnK_s, eCall_ap, caK_s, eTup_ap, tupK_s, lLst_ap, lstK_s, liL_ap, liK_s, lCat_ap, catK_s, oNone_ap, oSome_ap, oSK_i, asB_ap, boK_b, eAnd_ap, eOr_ap, andK_t, andK_f, orK_t, orK_f, andK_d, orK_d, bAnd_ap, bOr_ap, bAndK_t, bAndK_f, bOrK_t, bOrK_f, bAndK_d, bOrK_d, bAndK_nd, bOrK_nd, bNot_ap, toD_s, toL_l, rv_v, rv_l, sSet_ap, stK_s, sSetL_ap, slK_s, sSetR_ap, srK_s, sAsg_ap, asK_s, hName_ap, hTup_ap, hCons_ap, hNil_ap, sDrop_ap, drK_s, sRet_ap, rtK_s, sRetL_ap, rlK_s, sRetO_ap, roK_s, sFz_ap, fzK_s, fzK_ro, fzK_lr, sApp_ap, apK_s, sPut_ap, puK_s, sFor_ap, foK_s, forGo_n, forGo_c, tgK_s, at_nx, at_ct, at_bk, at_rt, at_rl, lComp_ap, coK_s, wipeE_n, wipeE_c, cYes_ap, wiK_t, wiK_f, sqK_ite, rvK_ite, at_ite, boK_ite, rtK_ite, ifK_ite, decide_eq_true_eq, Int.reduceToNat, Int.reduceLT, Int.reduceLE, Int.reduceEq, Int.reduceNeg, Int.reducePow, Int.reduceSub, Int.reduceAdd, Int.reduceMul, iSeqD_ap, iRg1D_ap, iRg2D_ap, iRevD_ap, iEnumD_ap, iZipD_ap, seqK_l, seqK_t, seqK_s, rg1K_i, rg2K_i, revK_l, enuK_l, enuK_x, zipK_l, nat0, nat1, nat2, nat3, nat4, nat5, rvK_rt, rvK_rl, rvK_nx, compGo_n, compGo_c, cdK_y, cdK_s, all_t, eChain_ap, chK_ll, hUnl_ap, revL_ap, kyE_ap, kyeK_i, kyeK_s, kyeK_x, kyT_ap, kytK_ix, eDGet_ap, eDIn_ap, eDGet1_ap, eDGet2_ap, sDNew_ap, sDPutD_ap, dpK_T, dpK_K, sFzK_ap, fzkK_s, fzkK_ro, rdB_oK, pNil_ap, pCons_ap, pcK_s, pcK_x, eDisp_ap, dispK_1, fzL_ap, fzLK_s, fzT_ap, fzTK_s, fzE_ap, fzEK_s, xIO_ap, xiK_s, sRetP_ap, rpK_s, gIO_ap, ioR_rp, ioR_nx, ioK_s, sqK_rp, ioR_ite, envIO, sClear_ap, clK_s, sExt_ap, exK_s, sSetX_ap, xsK_s, xPop_ap, poK_s, poK_1, xPopAt_ap, patK_0, xaNil_ap, xaCons_ap, xacK_s, xTup_ap, xtK_s, xE_ap, xeK_s, xCall_ap, xclK_s, sAsgX_ap, xagK_s, sDropX_ap, xdK_s, sRetX_ap, xrK_s, sAppX_ap, axK_s, ax2K_s, ne_bb, ifK_v, ifK_nv, bOrK_v, bOrK_nv, bAndK_v, bAndK_nv, andK_v, orK_v, andK_nv, orK_nv,
  List.getElem?_cons_succ, List.getElem?_cons_zero, List.set_cons_succ, List.set_cons_zero, Option.bind_some, Option.map_some, Option.bind_none, Option.map_none,
  add_x, len_x, ix_x, eq_x, ne_x, isx_int, isx_bool, isx_str, isx_tuple, isx_list, isNx, notNx, sl_x, seq_x, cut_m1, cut_l1, sl_t, sl_l, sl_s, slL_l, cut_lo, cut_hi, cut_lh, cut_nn, add_ii, add_ss, add_tt, sub_ii, mul_l, mul_r, div_ii, mod_ii, pow_ii, lt_ii, le_ii, gt_ii, ge_ii, eq_ii, eq_bb, eq_ss, ne_ii, ne_ss, len_l, len_t, len_s, int_i, int_b, min_ii, max_ii, tup_l, tup_t, list_l, list_t, neg_i, not_b, ix_l, ix_t, atI_0, atI_1, atI_2, atI_3, atI_4,
  isN_n, isN_i, isN_s, isN_b, isN_t, isN_l, notN_n, notN_i, notN_s, notN_b, notN_t, notN_l, isB, notB, isi_i_int, isi_b_int, isi_s_int, isi_t_int, isi_l_int, isi_n_int, isi_i_bool, isi_b_bool, isi_s_bool, isi_t_bool, isi_l_bool, isi_n_bool, isi_i_str, isi_b_str, isi_s_str, isi_t_str, isi_l_str, isi_n_str, isi_i_tuple, isi_b_tuple, isi_s_tuple, isi_t_tuple, isi_l_tuple, isi_n_tuple, isi_i_list, isi_b_list, isi_s_list, isi_t_list, isi_l_list, isi_n_list])
local macro_rules | `(tactic| walk_at "y") => `(tactic| simp -implicitDefEqProofs (disch := first | omega | (simp only [List.length_cons, List.length_nil, List.length_append, List.length_map, List.length_set, List.length_reverse, List.length_take, List.length_drop, List.length_range]; done) | (simp only [List.length_cons, List.length_nil, List.length_append, List.length_map, List.length_set, List.length_reverse, List.length_take, List.length_drop, List.length_range]; omega) | fail) only [*, List.length_map, chK_lelt, gF_ap, env0, List.map_cons, List.map_nil, List.length_cons, List.length_nil, List.cons_append, List.nil_append, List.replicate_succ, List.replicate_zero, Nat.reduceAdd, Nat.reduceSub, if_true, if_false, eq_self, List.getD_cons_zero, Int.toNat_natCast, Nat.reduceEqDiff, reduceIte, reduceCtorEq, decide_true, decide_false, Bool.not_true, Bool.not_false, Bool.and_true, Bool.true_and, Bool.and_false, Bool.false_and, Bool.or_true, Bool.true_or, Bool.or_false, Bool.false_or,
  sSeq_ap, sqK_nx, sqK_rt, sqK_rl, sqK_bk, sqK_ct, sqK_no, sIf_ap, ifK_t, ifK_f, ifK_d, ifK_nd, sNil_ap, sBk_ap, sCt_ap, sRetN_ap, sBad_ap, eVar_ap, bVar_ap, mVar_ap, rdV_ro, rdV_lr, rdB_ro, rdB_lr, rdB_ow, rdM_lr, rdM_ow, nVar_ap, rdN_ro, rdN_lr, rdN_ow, eC_ap, e1_ap, e2_ap, e3_ap, b1_s, b2_s, b3_s, aNil_ap, aCons_ap, cnK_s, eCall_ap, caK_s, eTup_ap, tupK_s, lLst_ap, lstK_s, liL_ap, liK_s, lCat_ap, catK_s, oNone_ap, oSome_ap, oSK_i, asB_ap, boK_b, eAnd_ap, eOr_ap, andK_t, andK_f, orK_t, orK_f, andK_d, orK_d, bAnd_ap, bOr_ap, bAndK_t, bAndK_f, bOrK_t, bOrK_f, bAndK_d, bOrK_d, bAndK_nd, bOrK_nd, bNot_ap, toD_s, toL_l, rv_v, rv_l, sSet_ap, stK_s, sSetL_ap, slK_s, sSetR_ap, srK_s, sAsg_ap, asK_s, hName_ap, hTup_ap, hCons_ap, hNil_ap, sDrop_ap, drK_s, sRet_ap, rtK_s, sRetL_ap, rlK_s, sRetO_ap, roK_s, sFz_ap, fzK_s, fzK_ro, fzK_lr, sApp_ap, apK_s, sPut_ap, puK_s, sFor_ap, foK_s, forGo_n, forGo_c, tgK_s, at_nx, at_ct, at_bk, at_rt, at_rl, lComp_ap, coK_s, wipeE_n, wipeE_c, cYes_ap, wiK_t, wiK_f, sqK_ite, rvK_ite, at_ite, boK_ite, rtK_ite, ifK_ite, decide_eq_true_eq, Int.reduceToNat, Int.reduceLT, Int.reduceLE, Int.reduceEq, Int.reduceNeg, Int.reducePow, Int.reduceSub, Int.reduceAdd, Int.reduceMul, iSeqD_ap, iRg1D_ap, iRg2D_ap, iRevD_ap, iEnumD_ap, iZipD_ap, seqK_l, seqK_t, seqK_s, rg1K_i, rg2K_i, revK_l, enuK_l, enuK_x, zipK_l, nat0, nat1, nat2, nat3, nat4, nat5, rvK_rt, rvK_rl, rvK_nx, compGo_n, compGo_c, cdK_y, cdK_s, all_t, eChain_ap, chK_ll, hUnl_ap, revL_ap, kyE_ap, kyeK_i, kyeK_s, kyeK_x, kyT_ap, kytK_ix, eDGet_ap, eDIn_ap, eDGet1_ap, eDGet2_ap, sDNew_ap, sDPutD_ap, dpK_T, dpK_K, sFzK_ap, fzkK_s, fzkK_ro, rdB_oK, pNil_ap, pCons_ap, pcK_s, pcK_x, eDisp_ap, dispK_1, fzL_ap, fzLK_s, fzT_ap, fzTK_s, fzE_ap, fzEK_s, xIO_ap, xiK_s, sRetP_ap, rpK_s, gIO_ap, ioR_rp, ioR_nx, ioK_s, sqK_rp, ioR_ite, envIO, sClear_ap, clK_s, sExt_ap, exK_s, sSetX_ap, xsK_s, xPop_ap, poK_s, poK_1, xPopAt_ap, patK_0, xaNil_ap, xaCons_ap, xacK_s, xTup_ap, xtK_s, xE_ap, xeK_s, xCall_ap, xclK_s, sAsgX_ap, xagK_s, sDropX_ap, xdK_s, sRetX_ap, xrK_s, sAppX_ap, axK_s, ax2K_s, ne_bb, ifK_v, ifK_nv, bOrK_v, bOrK_nv, bAndK_v, bAndK_nv, andK_v, orK_v, andK_nv, orK_nv,
  List.getElem?_cons_succ, List.getElem?_cons_zero, List.set_cons_succ, List.set_cons_zero, Option.bind_some, Option.map_some, Option.bind_none, Option.map_none,
  add_x, len_x, ix_x, eq_x, ne_x, isx_int, isx_bool, isx_str, isx_tuple, isx_list, isNx, notNx, sl_x, seq_x, cut_m1, cut_l1, sl_t, sl_l, sl_s, slL_l, cut_lo, cut_hi, cut_lh, cut_nn, add_ii, add_ss, add_tt, sub_ii, mul_l, mul_r, div_ii, mod_ii, pow_ii, lt_ii, le_ii, gt_ii, ge_ii, eq_ii, eq_bb, eq_ss, ne_ii, ne_ss, len_l, len_t, len_s, int_i, int_b, min_ii, max_ii, tup_l, tup_t, list_l, list_t, neg_i, not_b, ix_l, ix_t, atI_0, atI_1, atI_2, atI_3, atI_4,
  isN_n, isN_i, isN_s, isN_b, isN_t, isN_l, notN_n, notN_i, notN_s, notN_b, notN_t, notN_l, isB, notB, isi_i_int, isi_b_int, isi_s_int, isi_t_int, isi_l_int, isi_n_int, isi_i_bool, isi_b_bool, isi_s_bool, isi_t_bool, isi_l_bool, isi_n_bool, isi_i_str, isi_b_str, isi_s_str, isi_t_str, isi_l_str, isi_n_str, isi_i_tuple, isi_b_tuple, isi_s_tuple, isi_t_tuple, isi_l_tuple, isi_n_tuple, isi_i_list, isi_b_list, isi_s_list, isi_t_list, isi_l_list, isi_n_list])
theorem patK_at {i : Nat} {ρ : En} {xs ys : List D} {d : D} {k : Int} (h : k = (xs.length : Int)) (hl : xs.length < 1000000) : patK i ρ (some (some (.ow (xs ++ d :: ys)))) (some (.int k)) = some (d, ρ.set i (some (.ow (xs ++ ys)))) := by
  subst h
  show (if 0 ≤ (xs.length : Int) ∧ (xs.length : Int) < 1000000 then ((xs ++ d :: ys)[(xs.length : Int).toNat]?).map fun e => (e, ρ.set i (some (SV.ow ((xs ++ d :: ys).eraseIdx (xs.length : Int).toNat)))) else none) = _
  rw [if_pos ⟨by omega, by omega⟩, Int.toNat_natCast, List.getElem?_append_right (Nat.le_refl _), Nat.sub_self, List.getElem?_cons_zero, List.eraseIdx_append_of_length_le (Nat.le_refl _), Nat.sub_self]
  rfl
theorem set_at {xs ys : List D} {d e : D} : (xs ++ e :: ys).set xs.length d = xs ++ d :: ys := by
  rw [List.set_append_right _ _ (Nat.le_refl _), Nat.sub_self]; rfl
theorem atI_at {xs ys : List D} {d : D} {k : Int} (h : k = (xs.length : Int)) : atI (xs ++ d :: ys) k = some d := by
  subst h
  rw [atI_nat' (by omega) (by rw [List.length_append, List.length_cons]; omega), Int.toNat_natCast, List.getElem?_append_right (Nat.le_refl _), Nat.sub_self]; rfl
theorem comp_nil {f : En → Option D} {c : En → Option Bool} {h : D → En → Option En} {ρ : En} : ∀ {ds : List D} {Y : Option (List D)}, compGo h c f ρ ds = Y → (∀ d ∈ ds, cdK h c f ρ [] (h d ρ) = some []) → Y = some []
  | [], _, e, _ => e.symm
  | d :: ds, Y, e, q => by
    have ih := comp_nil (ds := ds) rfl fun e he => q e (List.mem_cons_of_mem _ he)
    rw [← e, compGo_c, cdK_ap (q d List.mem_cons_self), ih]; rfl
/-! ### texts split at a sign -/
def spl (c : Nat) : List Nat → List (List Nat)
  | [] => [[]]
  | x :: xs => if x = c then [] :: spl c xs else match spl c xs with
    | p :: ps => (x :: p) :: ps
    | [] => [[x]]
theorem spl_ne (c : Nat) : ∀ xs, ∃ p ps, spl c xs = p :: ps
  | [] => ⟨[], [], rfl⟩
  | x :: xs => by
    obtain ⟨p, ps, h⟩ := spl_ne c xs
    unfold spl
    rw [h]
    split
    · exact ⟨_, _, rfl⟩
    · exact ⟨_, _, rfl⟩
theorem spl_free {c : Nat} : ∀ {p : List Nat}, c ∉ p → spl c p = [p]
  | [], _ => rfl
  | x :: p, h => by
    have h1 : ¬ x = c := fun e => h (e ▸ List.mem_cons_self)
    show (if x = c then _ else _) = _
    rw [if_neg h1, spl_free fun m => h (List.mem_cons_of_mem _ m)]
theorem spl_cut {c : Nat} : ∀ {p : List Nat}, c ∉ p → ∀ r, spl c (p ++ c :: r) = p :: spl c r
  | [], _, r => by show (if c = c then _ else _) = _; rw [if_pos rfl]
  | x :: p, h, r => by
    have h1 : ¬ x = c := fun e => h (e ▸ List.mem_cons_self)
    show (if x = c then _ else _) = _
    rw [if_neg h1]
    show (match spl c (p ++ c :: r) with | p :: ps => (x :: p) :: ps | [] => [[x]]) = _
    rw [spl_cut (fun m => h (List.mem_cons_of_mem _ m)) r]
theorem spl_join (c : Nat) : ∀ ps : List Str, 1 ≤ ps.length → (∀ p ∈ ps, c ∉ p.cps.toList) → spl c (Str.join ⟨#[c]⟩ ps).cps.toList = ps.map fun p => p.cps.toList
  | [], h, _ => absurd h (by decide)
  | [p], _, h => spl_free (h p (List.mem_singleton.mpr rfl))
  | p :: q :: r, _, h => by
    have ih := spl_join c (q :: r) (by rw [List.length_cons]; omega) fun a ha => h a (List.mem_cons_of_mem _ ha)
    show spl c (p ++ ⟨#[c]⟩ ++ Str.join ⟨#[c]⟩ (q :: r)).cps.toList = p.cps.toList :: (q :: r).map fun p => p.cps.toList
    rw [← ih]
    simp only [Str.cps_append, Array.toList_append, List.append_assoc]
    exact spl_cut (h p List.mem_cons_self) _
theorem split_sx {xs : List Nat} {c : Nat} (h : xs.length ≤ 1000000) : splitL (sx xs) (sx [c]) = some ((spl c xs).map sx) := by
  have e0 : (if ((⟨[c].toArray⟩ : Str).length == 0) = false ∧ (⟨xs.toArray⟩ : Str).length ≤ 1000000 then some ((Txt.split ⟨xs.toArray⟩ ⟨[c].toArray⟩).map PyData.str) else none) = some ((spl c xs).map sx) := by
    rw [if_pos ⟨rfl, by rw [sx_len]; exact h⟩]
    have h1 := spl_join c (Txt.split ⟨xs.toArray⟩ ⟨[c].toArray⟩) (PyProof.Rows.split_pos _ _) (StrLaws.split_free ⟨xs.toArray⟩ c)
    have h2 : Str.join ⟨[c].toArray⟩ (Txt.split ⟨xs.toArray⟩ ⟨[c].toArray⟩) = ⟨xs.toArray⟩ := StrLaws.join_split _ _
    have h3 : Str.join ⟨#[c]⟩ (Txt.split ⟨xs.toArray⟩ ⟨[c].toArray⟩) = ⟨xs.toArray⟩ := h2
    rw [h3] at h1
    have h4 : spl c xs = (Txt.split ⟨xs.toArray⟩ ⟨[c].toArray⟩).map fun p => p.cps.toList := h1
    rw [h4, List.map_map]
    congr 1
  exact e0
theorem spl_len {c : Nat} : ∀ xs, (spl c xs).length ≤ xs.length + 1
  | [] => Nat.le_refl _
  | x :: xs => by
    have := spl_len (c := c) xs
    obtain ⟨p, ps, h⟩ := spl_ne c xs
    unfold spl
    rw [h] at this ⊢
    split
    · simp only [List.length_cons] at this ⊢; omega
    · simp only [List.length_cons] at this ⊢; omega
theorem spl_mem {c : Nat} : ∀ {xs p : List Nat}, p ∈ spl c xs → p.length ≤ xs.length ∧ ∀ a ∈ p, a ∈ xs
  | [], p, h => by
    rcases List.mem_singleton.mp h with rfl
    exact ⟨Nat.le_refl _, fun a ha => by cases ha⟩
  | x :: xs, p, h => by
    obtain ⟨q, qs, e⟩ := spl_ne c xs
    unfold spl at h
    rw [e] at h
    have key : ∀ r ∈ q :: qs, r.length ≤ xs.length ∧ ∀ a ∈ r, a ∈ xs := fun r hr => spl_mem (c := c) (xs := xs) (by rw [e]; exact hr)
    split at h
    · rcases List.mem_cons.mp h with rfl | h
      · exact ⟨Nat.zero_le _, fun a ha => by cases ha⟩
      · obtain ⟨a1, a2⟩ := key p h
        exact ⟨by simp only [List.length_cons]; omega, fun a ha => List.mem_cons_of_mem _ (a2 a ha)⟩
    · rcases List.mem_cons.mp h with rfl | h
      · obtain ⟨a1, a2⟩ := key q List.mem_cons_self
        refine ⟨by simp only [List.length_cons]; omega, fun a ha => ?_⟩
        rcases List.mem_cons.mp ha with rfl | ha
        · exact List.mem_cons_self
        · exact List.mem_cons_of_mem _ (a2 a ha)
      · obtain ⟨a1, a2⟩ := key p (List.mem_cons_of_mem _ h)
        exact ⟨by simp only [List.length_cons]; omega, fun a ha => List.mem_cons_of_mem _ (a2 a ha)⟩
theorem repl_x {xs : List Nat} {c : Nat} (h : xs.length ≤ 1000000) : replD ⟨[c].toArray⟩ ⟨([] : List Nat).toArray⟩ (sx xs) = some (sx (xs.filter (· != c))) := by
  have h0 : (⟨([] : List Nat).toArray⟩ : Str).length = 0 := rfl
  have e0 : (if (⟨xs.toArray⟩ : Str).length + ((⟨xs.toArray⟩ : Str).length + 1) * (⟨([] : List Nat).toArray⟩ : Str).length ≤ 16777216 then some (PyData.str (Txt.replace ⟨xs.toArray⟩ ⟨[c].toArray⟩ ⟨([] : List Nat).toArray⟩)) else none) = some (sx (xs.filter (· != c))) := by
    rw [if_pos (by rw [h0, sx_len]; omega)]
    have := PyProof.Rows.replace_strikes ⟨xs.toArray⟩ c
    unfold sx
    congr 2
    have h2 : (Txt.replace ⟨xs.toArray⟩ ⟨#[c]⟩ ⟨#[]⟩).cps = (xs.filter (· != c)).toArray := by
      apply Array.ext'
      rw [this]
    exact (congrArg Str.mk h2)
  exact e0
theorem filt_nil {xs : List Nat} {c : Nat} : xs.filter (· != c) = [] ↔ ∀ a ∈ xs, a = c := by
  rw [List.filter_eq_nil_iff]
  constructor
  · intro h a ha
    have := h a ha
    simpa using this
  · intro h a ha
    have := h a ha
    simpa using this
/-! ### texts joined by a sign -/
def joinC (c : Nat) : List (List Nat) → List Nat
  | [] => []
  | p :: ps => p ++ ps.flatMap fun q => c :: q
theorem joinC_snoc (c : Nat) (ps : List (List Nat)) (q : List Nat) : joinC c (ps ++ [q]) = joinC c ps ++ (if ps = [] then [] else [c]) ++ q := by
  cases ps with
  | nil => simp [joinC]
  | cons p ps =>
    rw [if_neg (by simp)]
    show p ++ (ps ++ [q]).flatMap _ = (p ++ ps.flatMap _) ++ [c] ++ q
    rw [List.flatMap_append]
    simp
theorem spl_joinC {c : Nat} : ∀ (ps : List (List Nat)) (p : List Nat), (∀ q ∈ p :: ps, c ∉ q) → spl c (joinC c (p :: ps)) = p :: ps
  | [], p, h => by
    show spl c (p ++ []) = _
    rw [List.append_nil]
    exact spl_free (h p List.mem_cons_self)
  | q :: ps, p, h => by
    show spl c (p ++ (c :: q ++ ps.flatMap _)) = _
    rw [List.cons_append, spl_cut (h p List.mem_cons_self)]
    have := spl_joinC ps q fun r hr => h r (List.mem_cons_of_mem _ hr)
    rw [show q ++ ps.flatMap (fun q => c :: q) = joinC c (q :: ps) from rfl, this]
theorem glue_c (c : Nat) : ∀ (xss : List (List Nat)) (acc : Array Nat), (xss.map fun xs => (⟨xs.toArray⟩ : Str)).foldl (fun acc p => acc ++ (⟨[c].toArray⟩ : Str).cps ++ p.cps) acc = acc ++ (xss.flatMap fun q => c :: q).toArray
  | [], acc => by simp
  | xs :: xss, acc => by
    rw [List.map_cons, List.foldl_cons, glue_c c xss]
    simp
theorem strs_xc : ∀ xss : List (List Nat), strsOf (xss.map sx) = some (xss.map fun xs => (⟨xs.toArray⟩ : Str))
  | [] => rfl
  | xs :: xss => by
    show (strsOf (xss.map sx)).map _ = _
    rw [strs_xc xss]; rfl
theorem join_xc (c : Nat) (xss : List (List Nat)) (h : (joinC c xss).length ≤ 100000) : joinD (sx [c]) (.list (xss.map sx)) = some (sx (joinC c xss)) := by
  have hs : ∀ xss : List (List Nat), ((xss.map fun xs => (⟨xs.toArray⟩ : Str)).map (·.length)).sum + (xss.map fun xs => (⟨xs.toArray⟩ : Str)).length ≤ (joinC c xss).length + 1 := fun xss => by
    have fl : ∀ xss : List (List Nat), ((xss.map fun xs => (⟨xs.toArray⟩ : Str)).map (·.length)).sum + xss.length = (xss.flatMap fun q => c :: q).length := fun xss => by
      induction xss with
      | nil => rfl
      | cons x xs ih =>
        rw [List.map_cons, List.map_cons, List.sum_cons, sx_len, List.flatMap_cons, List.length_append, List.length_cons, List.length_cons]
        omega
    cases xss with
    | nil => exact Nat.zero_le _
    | cons x xs =>
      have := fl xs
      show _ ≤ (x ++ xs.flatMap fun q => c :: q).length + 1
      rw [List.map_cons, List.map_cons, List.sum_cons, sx_len, List.length_append, List.length_cons, List.length_map]
      omega
  have h0 : (⟨[c].toArray⟩ : Str).length = 1 := rfl
  show (strsOf (xss.map sx)).bind _ = _
  rw [strs_xc xss]
  unfold sx
  have := hs xss
  rw [Option.bind_some, if_pos (by rw [h0]; omega)]
  have : Txt.join ⟨[c].toArray⟩ (xss.map fun xs => (⟨xs.toArray⟩ : Str)) = ⟨(joinC c xss).toArray⟩ := by
    show (⟨((xss.map fun xs => (⟨xs.toArray⟩ : Str)).drop 1).foldl _ ((xss.map fun xs => (⟨xs.toArray⟩ : Str)).headD Str.empty).cps⟩ : Str) = _
    cases xss with
    | nil => rfl
    | cons x cs =>
      rw [List.map_cons, List.drop_succ_cons, List.drop_zero, List.headD_cons]
      refine congrArg Str.mk (Eq.trans (glue_c c cs x.toArray) ?_)
      show _ = (x ++ cs.flatMap _).toArray
      simp
  rw [this]
/-! ### ''.join of texts -/
theorem strs_xs : ∀ xss : List (List Nat), strsOf (xss.map sx) = some (xss.map fun xs => (⟨xs.toArray⟩ : Str))
  | [] => rfl
  | xs :: xss => by
    show (strsOf (xss.map sx)).map _ = _
    rw [strs_xs xss]; rfl
theorem glue_xs : ∀ (xss : List (List Nat)) (acc : Array Nat), (xss.map fun xs => (⟨xs.toArray⟩ : Str)).foldl (fun acc p => acc ++ (⟨#[]⟩ : Str).cps ++ p.cps) acc = acc ++ xss.flatten.toArray
  | [], acc => by simp
  | xs :: xss, acc => by
    rw [List.map_cons, List.foldl_cons, glue_xs xss]
    simp
theorem join_xs (xss : List (List Nat)) (h : xss.flatten.length ≤ 100000) : joinD (sx []) (.list (xss.map sx)) = some (sx xss.flatten) := by
  have hs : ∀ xss : List (List Nat), ((xss.map fun xs => (⟨xs.toArray⟩ : Str)).map (·.length)).sum = xss.flatten.length := fun xss => by
    induction xss with
    | nil => rfl
    | cons c cs ih => rw [List.map_cons, List.map_cons, List.sum_cons, ih, List.flatten_cons, List.length_append, sx_len]
  have h0 : (⟨([] : List Nat).toArray⟩ : Str).length = 0 := rfl
  show (strsOf (xss.map sx)).bind _ = _
  rw [strs_xs xss]
  unfold sx
  rw [Option.bind_some, if_pos (by rw [hs, h0]; omega)]
  have : Txt.join ⟨([] : List Nat).toArray⟩ (xss.map fun xs => (⟨xs.toArray⟩ : Str)) = ⟨xss.flatten.toArray⟩ := by
    show (⟨((xss.map fun xs => (⟨xs.toArray⟩ : Str)).drop 1).foldl _ ((xss.map fun xs => (⟨xs.toArray⟩ : Str)).headD Str.empty).cps⟩ : Str) = _
    cases xss with
    | nil => rfl
    | cons c cs =>
      rw [List.map_cons, List.drop_succ_cons, List.drop_zero, List.headD_cons]
      refine congrArg Str.mk (Eq.trans (glue_xs cs c.toArray) ?_)
      simp
  rw [this]
theorem mul_x {xs : List Nat} {n : Int} (h0 : -1000000 ≤ n) (h1 : n ≤ 1000000) (h2 : xs.length ≤ 1000000) (h3 : xs.length * n.toNat ≤ 1000000) : mulSD (sx xs) (.int n) = some (sx (List.replicate n.toNat xs).flatten) := by
  unfold sx mulSD
  dsimp only
  rw [if_pos ⟨h0, h1, by rw [sx_len]; exact h2, by rw [sx_len]; exact h3⟩]
  rfl
theorem mul_1 {c : Nat} {n : Int} (h0 : 0 ≤ n) (h1 : n ≤ 100000) : mulSD (sx [c]) (.int n) = some (sx (List.replicate n.toNat c)) := by
  rw [mul_x (by omega) (by omega) (by show 1 ≤ _; decide) (by show 1 * _ ≤ _; omega), List.flatten_replicate_singleton]
/-! ### rows as words -/
theorem lit_digs : PyData.str (Str.ofString "0123456789") = sx [48, 49, 50, 51, 52, 53, 54, 55, 56, 57] := by
  unfold sx
  rw [show Str.ofString "0123456789" = ⟨[48, 49, 50, 51, 52, 53, 54, 55, 56, 57].toArray⟩ from by decide +kernel]
theorem lit_0 : PyData.str (Str.ofString "") = sx [] := by
  unfold sx
  rw [show Str.ofString "" = ⟨([] : List Nat).toArray⟩ from by decide +kernel]
theorem lit_00 : PyData.str (Str.ofString "0") = sx [48] := by
  unfold sx
  rw [show Str.ofString "0" = ⟨[48].toArray⟩ from by decide +kernel]
theorem lit_sp : PyData.str (Str.ofString " ") = sx [32] := by
  unfold sx
  rw [show Str.ofString " " = ⟨[32].toArray⟩ from by decide +kernel]
theorem lit_nl : PyData.str (Str.ofString "\n") = sx [10] := by
  unfold sx
  rw [show Str.ofString "\n" = ⟨[10].toArray⟩ from by decide +kernel]
theorem lit_up : PyData.str (Str.ofString "up") = sx [117, 112] := by
  unfold sx
  rw [show Str.ofString "up" = ⟨[117, 112].toArray⟩ from by decide +kernel]
theorem lit_dn : PyData.str (Str.ofString "down") = sx [100, 111, 119, 110] := by
  unfold sx
  rw [show Str.ofString "down" = ⟨[100, 111, 119, 110].toArray⟩ from by decide +kernel]
local macro_rules | `(tactic| walk_at "z") => `(tactic| simp -implicitDefEqProofs (disch := first | omega | (simp only [List.length_cons, List.length_nil, List.length_append, List.length_map, List.length_set, List.length_reverse, List.length_take, List.length_drop, List.length_range]; done) | (simp only [List.length_cons, List.length_nil, List.length_append, List.length_map, List.length_set, List.length_reverse, List.length_take, List.length_drop, List.length_range]; omega) | fail) only [List.length_map, chK_lelt, lit_digs, lit_0, lit_00, lit_sp, lit_nl, lit_up, lit_dn, gF_ap, env0, List.map_cons, List.map_nil, List.length_cons, List.length_nil, List.cons_append, List.nil_append, List.replicate_succ, List.replicate_zero, Nat.reduceAdd, Nat.reduceSub, if_true, if_false, eq_self, List.getD_cons_zero, Int.toNat_natCast, Nat.reduceEqDiff, reduceIte, reduceCtorEq, decide_true, decide_false, Bool.not_true, Bool.not_false, Bool.and_true, Bool.true_and, Bool.and_false, Bool.false_and, Bool.or_true, Bool.true_or, Bool.or_false, Bool.false_or,
  sSeq_ap, sqK_nx, sqK_rt, sqK_rl, sqK_bk, sqK_ct, sqK_no, sIf_ap, ifK_t, ifK_f, ifK_d, ifK_nd, sNil_ap, sBk_ap, sCt_ap, sRetN_ap, sBad_ap, eVar_ap, bVar_ap, mVar_ap, rdV_ro, rdV_lr, rdB_ro, rdB_lr, rdB_ow, rdM_lr, rdM_ow, nVar_ap, rdN_ro, rdN_lr, rdN_ow, eC_ap, e1_ap, e2_ap, e3_ap, b1_s, b2_s, b3_s, aNil_ap, aCons_ap, cnK_s, eCall_ap, caK_s, eTup_ap, tupK_s, lLst_ap, lstK_s, liL_ap, liK_s, lCat_ap, catK_s, oNone_ap, oSome_ap, oSK_i, asB_ap, boK_b, eAnd_ap, eOr_ap, andK_t, andK_f, orK_t, orK_f, andK_d, orK_d, bAnd_ap, bOr_ap, bAndK_t, bAndK_f, bOrK_t, bOrK_f, bAndK_d, bOrK_d, bAndK_nd, bOrK_nd, bNot_ap, toD_s, toL_l, rv_v, rv_l, sSet_ap, stK_s, sSetL_ap, slK_s, sSetR_ap, srK_s, sAsg_ap, asK_s, hName_ap, hTup_ap, hCons_ap, hNil_ap, sDrop_ap, drK_s, sRet_ap, rtK_s, sRetL_ap, rlK_s, sRetO_ap, roK_s, sFz_ap, fzK_s, fzK_ro, fzK_lr, sApp_ap, apK_s, sPut_ap, puK_s, sFor_ap, foK_s, forGo_n, forGo_c, tgK_s, at_nx, at_ct, at_bk, at_rt, at_rl, lComp_ap, coK_s, wipeE_n, wipeE_c, cYes_ap, wiK_t, wiK_f, sqK_ite, rvK_ite, at_ite, boK_ite, rtK_ite, ifK_ite, decide_eq_true_eq, Int.reduceToNat, Int.reduceLT, Int.reduceLE, Int.reduceEq, Int.reduceNeg, Int.reducePow, Int.reduceSub, Int.reduceAdd, Int.reduceMul, iSeqD_ap, iRg1D_ap, iRg2D_ap, iRevD_ap, iEnumD_ap, iZipD_ap, seqK_l, seqK_t, seqK_s, rg1K_i, rg2K_i, revK_l, enuK_l, enuK_x, zipK_l, nat0, nat1, nat2, nat3, nat4, nat5, rvK_rt, rvK_rl, rvK_nx, compGo_n, compGo_c, cdK_y, cdK_s, all_t, eChain_ap, chK_ll, hUnl_ap, revL_ap, kyE_ap, kyeK_i, kyeK_s, kyeK_x, kyT_ap, kytK_ix, eDGet_ap, eDIn_ap, eDGet1_ap, eDGet2_ap, sDNew_ap, sDPutD_ap, dpK_T, dpK_K, sFzK_ap, fzkK_s, fzkK_ro, rdB_oK, pNil_ap, pCons_ap, pcK_s, pcK_x, eDisp_ap, dispK_1, fzL_ap, fzLK_s, fzT_ap, fzTK_s, fzE_ap, fzEK_s, xIO_ap, xiK_s, sRetP_ap, rpK_s, gIO_ap, ioR_rp, ioR_nx, ioK_s, sqK_rp, ioR_ite, envIO, sClear_ap, clK_s, sExt_ap, exK_s, sSetX_ap, xsK_s, xPop_ap, poK_s, poK_1, xPopAt_ap, patK_0, xaNil_ap, xaCons_ap, xacK_s, xTup_ap, xtK_s, xE_ap, xeK_s, xCall_ap, xclK_s, sAsgX_ap, xagK_s, sDropX_ap, xdK_s, sRetX_ap, xrK_s, sAppX_ap, axK_s, ax2K_s, ne_bb, ifK_v, ifK_nv, bOrK_v, bOrK_nv, bAndK_v, bAndK_nv, andK_v, orK_v, andK_nv, orK_nv,
  List.getElem?_cons_succ, List.getElem?_cons_zero, List.set_cons_succ, List.set_cons_zero, Option.bind_some, Option.map_some, Option.bind_none, Option.map_none,
  add_x, len_x, ix_x, eq_x, ne_x, isx_int, isx_bool, isx_str, isx_tuple, isx_list, isNx, notNx, sl_x, seq_x, cut_m1, cut_l1, sl_t, sl_l, sl_s, slL_l, cut_lo, cut_hi, cut_lh, cut_nn, add_ii, add_ss, add_tt, sub_ii, mul_l, mul_r, div_ii, mod_ii, pow_ii, lt_ii, le_ii, gt_ii, ge_ii, eq_ii, eq_bb, eq_ss, ne_ii, ne_ss, len_l, len_t, len_s, int_i, int_b, min_ii, max_ii, tup_l, tup_t, list_l, list_t, neg_i, not_b, ix_l, ix_t, atI_0, atI_1, atI_2, atI_3, atI_4,
  isN_n, isN_i, isN_s, isN_b, isN_t, isN_l, notN_n, notN_i, notN_s, notN_b, notN_t, notN_l, isB, notB, isi_i_int, isi_b_int, isi_s_int, isi_t_int, isi_l_int, isi_n_int, isi_i_bool, isi_b_bool, isi_s_bool, isi_t_bool, isi_l_bool, isi_n_bool, isi_i_str, isi_b_str, isi_s_str, isi_t_str, isi_l_str, isi_n_str, isi_i_tuple, isi_b_tuple, isi_s_tuple, isi_t_tuple, isi_l_tuple, isi_n_tuple, isi_i_list, isi_b_list, isi_s_list, isi_t_list, isi_l_list, isi_n_list])
local macro_rules | `(tactic| walk_at "y") => `(tactic| simp -implicitDefEqProofs (disch := first | omega | (simp only [List.length_cons, List.length_nil, List.length_append, List.length_map, List.length_set, List.length_reverse, List.length_take, List.length_drop, List.length_range]; done) | (simp only [List.length_cons, List.length_nil, List.length_append, List.length_map, List.length_set, List.length_reverse, List.length_take, List.length_drop, List.length_range]; omega) | fail) only [*, List.length_map, chK_lelt, lit_digs, lit_0, lit_00, lit_sp, lit_nl, lit_up, lit_dn, gF_ap, env0, List.map_cons, List.map_nil, List.length_cons, List.length_nil, List.cons_append, List.nil_append, List.replicate_succ, List.replicate_zero, Nat.reduceAdd, Nat.reduceSub, if_true, if_false, eq_self, List.getD_cons_zero, Int.toNat_natCast, Nat.reduceEqDiff, reduceIte, reduceCtorEq, decide_true, decide_false, Bool.not_true, Bool.not_false, Bool.and_true, Bool.true_and, Bool.and_false, Bool.false_and, Bool.or_true, Bool.true_or, Bool.or_false, Bool.false_or,
  sSeq_ap, sqK_nx, sqK_rt, sqK_rl, sqK_bk, sqK_ct, sqK_no, sIf_ap, ifK_t, ifK_f, ifK_d, ifK_nd, sNil_ap, sBk_ap, sCt_ap, sRetN_ap, sBad_ap, eVar_ap, bVar_ap, mVar_ap, rdV_ro, rdV_lr, rdB_ro, rdB_lr, rdB_ow, rdM_lr, rdM_ow, nVar_ap, rdN_ro, rdN_lr, rdN_ow, eC_ap, e1_ap, e2_ap, e3_ap, b1_s, b2_s, b3_s, aNil_ap, aCons_ap, cnK_s, eCall_ap, caK_s, eTup_ap, tupK_s, lLst_ap, lstK_s, liL_ap, liK_s, lCat_ap, catK_s, oNone_ap, oSome_ap, oSK_i, asB_ap, boK_b, eAnd_ap, eOr_ap, andK_t, andK_f, orK_t, orK_f, andK_d, orK_d, bAnd_ap, bOr_ap, bAndK_t, bAndK_f, bOrK_t, bOrK_f, bAndK_d, bOrK_d, bAndK_nd, bOrK_nd, bNot_ap, toD_s, toL_l, rv_v, rv_l, sSet_ap, stK_s, sSetL_ap, slK_s, sSetR_ap, srK_s, sAsg_ap, asK_s, hName_ap, hTup_ap, hCons_ap, hNil_ap, sDrop_ap, drK_s, sRet_ap, rtK_s, sRetL_ap, rlK_s, sRetO_ap, roK_s, sFz_ap, fzK_s, fzK_ro, fzK_lr, sApp_ap, apK_s, sPut_ap, puK_s, sFor_ap, foK_s, forGo_n, forGo_c, tgK_s, at_nx, at_ct, at_bk, at_rt, at_rl, lComp_ap, coK_s, wipeE_n, wipeE_c, cYes_ap, wiK_t, wiK_f, sqK_ite, rvK_ite, at_ite, boK_ite, rtK_ite, ifK_ite, decide_eq_true_eq, Int.reduceToNat, Int.reduceLT, Int.reduceLE, Int.reduceEq, Int.reduceNeg, Int.reducePow, Int.reduceSub, Int.reduceAdd, Int.reduceMul, iSeqD_ap, iRg1D_ap, iRg2D_ap, iRevD_ap, iEnumD_ap, iZipD_ap, seqK_l, seqK_t, seqK_s, rg1K_i, rg2K_i, revK_l, enuK_l, enuK_x, zipK_l, nat0, nat1, nat2, nat3, nat4, nat5, rvK_rt, rvK_rl, rvK_nx, compGo_n, compGo_c, cdK_y, cdK_s, all_t, eChain_ap, chK_ll, hUnl_ap, revL_ap, kyE_ap, kyeK_i, kyeK_s, kyeK_x, kyT_ap, kytK_ix, eDGet_ap, eDIn_ap, eDGet1_ap, eDGet2_ap, sDNew_ap, sDPutD_ap, dpK_T, dpK_K, sFzK_ap, fzkK_s, fzkK_ro, rdB_oK, pNil_ap, pCons_ap, pcK_s, pcK_x, eDisp_ap, dispK_1, fzL_ap, fzLK_s, fzT_ap, fzTK_s, fzE_ap, fzEK_s, xIO_ap, xiK_s, sRetP_ap, rpK_s, gIO_ap, ioR_rp, ioR_nx, ioK_s, sqK_rp, ioR_ite, envIO, sClear_ap, clK_s, sExt_ap, exK_s, sSetX_ap, xsK_s, xPop_ap, poK_s, poK_1, xPopAt_ap, patK_0, xaNil_ap, xaCons_ap, xacK_s, xTup_ap, xtK_s, xE_ap, xeK_s, xCall_ap, xclK_s, sAsgX_ap, xagK_s, sDropX_ap, xdK_s, sRetX_ap, xrK_s, sAppX_ap, axK_s, ax2K_s, ne_bb, ifK_v, ifK_nv, bOrK_v, bOrK_nv, bAndK_v, bAndK_nv, andK_v, orK_v, andK_nv, orK_nv,
  List.getElem?_cons_succ, List.getElem?_cons_zero, List.set_cons_succ, List.set_cons_zero, Option.bind_some, Option.map_some, Option.bind_none, Option.map_none,
  add_x, len_x, ix_x, eq_x, ne_x, isx_int, isx_bool, isx_str, isx_tuple, isx_list, isNx, notNx, sl_x, seq_x, cut_m1, cut_l1, sl_t, sl_l, sl_s, slL_l, cut_lo, cut_hi, cut_lh, cut_nn, add_ii, add_ss, add_tt, sub_ii, mul_l, mul_r, div_ii, mod_ii, pow_ii, lt_ii, le_ii, gt_ii, ge_ii, eq_ii, eq_bb, eq_ss, ne_ii, ne_ss, len_l, len_t, len_s, int_i, int_b, min_ii, max_ii, tup_l, tup_t, list_l, list_t, neg_i, not_b, ix_l, ix_t, atI_0, atI_1, atI_2, atI_3, atI_4,
  isN_n, isN_i, isN_s, isN_b, isN_t, isN_l, notN_n, notN_i, notN_s, notN_b, notN_t, notN_l, isB, notB, isi_i_int, isi_b_int, isi_s_int, isi_t_int, isi_l_int, isi_n_int, isi_i_bool, isi_b_bool, isi_s_bool, isi_t_bool, isi_l_bool, isi_n_bool, isi_i_str, isi_b_str, isi_s_str, isi_t_str, isi_l_str, isi_n_str, isi_i_tuple, isi_b_tuple, isi_s_tuple, isi_t_tuple, isi_l_tuple, isi_n_tuple, isi_i_list, isi_b_list, isi_s_list, isi_t_list, isi_l_list, isi_n_list])
def fig (n : Nat) : List Nat := if n < 10 then [48 + n] else if n < 100 then [48 + n / 10, 48 + n % 10] else [48 + n / 100, 48 + n / 10 % 10, 48 + n % 10]
def figOk (n : Nat) : Bool := decide (_root_.TL.numL n = fig n) && (fig n).all (fun c => decide (48 ≤ c) && decide (c ≤ 57)) && decide (PySem.NumText.digitsVal (fig n) = n) && decide (1 ≤ (fig n).length) && decide ((fig n).length ≤ 3) && decide (n < 10 ∨ (fig n).headD 0 ≠ 48) && decide (10 ≤ n ∨ (fig n).length = 1)
theorem fig_all : (List.range 1000).all figOk = true := by decide +kernel
/-! ### lines that tell rows -/
theorem fig_get {n : Nat} (h : n < 1000) : _root_.TL.numL n = fig n ∧ (∀ c ∈ fig n, 48 ≤ c ∧ c ≤ 57) ∧ PySem.NumText.digitsVal (fig n) = n ∧ 1 ≤ (fig n).length ∧ (fig n).length ≤ 3 ∧ (n < 10 ∨ (fig n).headD 0 ≠ 48) ∧ (10 ≤ n ∨ (fig n).length = 1) := by
  have := List.all_eq_true.mp fig_all n (List.mem_range.mpr h)
  unfold figOk at this
  simp only [Bool.and_eq_true, decide_eq_true_eq, List.all_eq_true] at this
  obtain ⟨⟨⟨⟨⟨⟨a1, a2⟩, a3⟩, a4⟩, a5⟩, a6⟩, a7⟩ := this
  exact ⟨a1, a2, a3, a4, a5, a6, a7⟩
theorem fig_str {n : Nat} (h : n < 1000) : strD [.int (n : Int)] = some (sx (fig n)) := by
  show (if -18446744073709551616 < (n : Int) ∧ (n : Int) < 18446744073709551616 then some (PyData.str (Str.ofString (toString (n : Int)))) else none) = _
  rw [if_pos ⟨by omega, by omega⟩]
  have := SX.num_S n
  rw [(fig_get h).1] at this
  exact congrArg (fun z => some (PyData.str z)) this
theorem fig_int {n : Nat} (h : n < 1000) : intSD [sx (fig n)] = some (.int (n : Int)) := by
  obtain ⟨a1, a2, a3, a4, a5, _⟩ := fig_get h
  have e : PySem.intText? ⟨(fig n).toArray⟩ = some ((PySem.NumText.digitsVal (fig n) : Nat) : Int) := SX.int_S (a := fig n) (List.all_eq_true.mpr fun c hc => by
    obtain ⟨b1, b2⟩ := a2 c hc
    rw [decide_eq_true b1, decide_eq_true b2]; rfl) (fun e => by rw [e] at a4; cases a4) (by omega)
  show (if (⟨(fig n).toArray⟩ : Str).length ≤ 640 then (PySem.intText? ⟨(fig n).toArray⟩).map PyData.int else none) = _
  rw [if_pos (by rw [sx_len]; omega), e, a3]; rfl
/-! ### rows -/
abbrev WR := Bool × List Nat
def wd (b : Bool) : List Nat := if b then [117, 112] else [100, 111, 119, 110]
def pcs (r : WR) : List (List Nat) := wd r.1 :: r.2.map fig
def lineC (r : WR) : List Nat := joinC 32 (pcs r)
def encW (r : WR) : D := .tuple (sx (wd r.1) :: r.2.map fun (n : Nat) => PyData.int (n : Int))
def WR.ok (r : WR) : Prop := r.2.length = (if r.1 then 2 else 3) ∧ ∀ n ∈ r.2, n < 1000
def txtC (rs : List WR) : List Nat := joinC 10 (rs.map lineC)
theorem wd_in {b : Bool} {c : Nat} (h : c ∈ wd b) : 100 ≤ c := by
  cases b with
  | true => exact (show ∀ c ∈ [117, 112], 100 ≤ c from by decide) c h
  | false => exact (show ∀ c ∈ [100, 111, 119, 110], 100 ≤ c from by decide) c h
theorem wd_len (b : Bool) : 2 ≤ (wd b).length ∧ (wd b).length ≤ 4 := by cases b <;> decide
theorem pcs_free {r : WR} (h : r.ok) : ∀ p ∈ pcs r, ∀ c ∈ p, 48 ≤ c := fun p hp c hc => by
  rcases List.mem_cons.mp hp with rfl | hp
  · have := wd_in hc; omega
  · obtain ⟨n, hn, rfl⟩ := List.mem_map.mp hp
    exact ((fig_get (h.2 n hn)).2.1 c hc).1
theorem line_free {r : WR} (h : r.ok) : ∀ c ∈ lineC r, 32 ≤ c := fun c hc => by
  unfold lineC pcs joinC at hc
  rcases List.mem_append.mp hc with hc | hc
  · have := wd_in hc; omega
  · obtain ⟨p, hp, hc⟩ := List.mem_flatMap.mp hc
    rcases List.mem_cons.mp hc with rfl | hc
    · exact Nat.le_refl _
    · have := pcs_free h p (List.mem_cons_of_mem _ hp) c hc
      omega
theorem figs_len : ∀ {ns : List Nat}, (∀ n ∈ ns, n < 1000) → ((ns.map fig).flatMap fun q => 32 :: q).length ≤ 4 * ns.length
  | [], _ => Nat.le_refl _
  | n :: ns, h => by
    have h1 := (fig_get (h n List.mem_cons_self)).2.2.2.2.1
    have h2 := figs_len (ns := ns) fun m hm => h m (List.mem_cons_of_mem _ hm)
    rw [List.map_cons, List.flatMap_cons, List.length_append, List.length_cons, List.length_cons]
    omega
theorem line_len {r : WR} (h : r.ok) : 2 ≤ (lineC r).length ∧ (lineC r).length ≤ 16 := by
  have h1 := wd_len r.1
  have h2 := figs_len h.2
  have h3 : r.2.length ≤ 3 := by rw [h.1]; split <;> omega
  unfold lineC pcs joinC
  rw [List.length_append]
  omega
/-! ### exceptions: raised, kept, asked -/
def rsK (nm : Str) : Option D → Option Out
  | some d => some (.ex nm d)
  | none => none
theorem sRaise_ap {nm : Str} {f : En → Option D} {ρ : En} : sRaise nm f ρ = rsK nm (f ρ) := by
  unfold sRaise rsK; cases f ρ <;> rfl
theorem rsK_s {nm : Str} {d : D} : rsK nm (some d) = some (.ex nm d) := rfl
theorem sqK_ex {nm : Str} {d : D} {G : En → Option Out} : sqK (some (.ex nm d)) G = some (.ex nm d) := rfl
theorem at_ex {nm : Str} {d : D} {q : En → Option Out} : afterTurn q (some (.ex nm d)) = some (.ex nm d) := rfl
def rxK : Option Out → Option RvX
  | some o => o.rvx
  | none => none
theorem gX_ap {n m : Nat} {F : En → Option Out} {ds : List D} (e : ds.length = n) : gX n m F ds = rxK (F (env0 m ds)) := by
  unfold gX
  rw [if_pos e]
  unfold rxK
  cases F (env0 m ds) <;> rfl
theorem rxK_rt {d : D} : rxK (some (.rt d)) = some (.ok (.v d)) := rfl
theorem rxK_rl {ds : List D} : rxK (some (.rl ds)) = some (.ok (.l ds)) := rfl
theorem rxK_nx {ρ : En} : rxK (some (.nx ρ)) = some (.ok (.v .none)) := rfl
theorem rxK_ex {nm : Str} {d : D} : rxK (some (.ex nm d)) = some (.ex nm d) := rfl
def nxK : Option RvX → Option Rv
  | some (.ok r) => some r
  | _ => none
theorem noX_ap {g : List D → Option RvX} {ds : List D} : noX g ds = nxK (g ds) := by
  unfold noX nxK
  cases g ds with
  | none => rfl
  | some r => cases r <;> rfl
theorem nxK_s {r : Rv} : nxK (some (.ok r)) = some r := rfl
def tyK (i j : Nat) (ok : Rv → En → En) (ρ : En) : Option RvX → Option Out
  | some (.ok r) => some (.nx (ok r ρ))
  | some (.ex nm d) => if exN nm = true ∧ i < ρ.length then some (.nx ((ρ.set j (some (.xc nm d))).set i none)) else none
  | none => none
def tyA (i j : Nat) (ok : Rv → En → En) (g : List D → Option RvX) (ρ : En) : Option (List D) → Option Out
  | some ds => tyK i j ok ρ (g ds)
  | none => none
theorem tryK_ap {i j : Nat} {ok : Rv → En → En} {g : List D → Option RvX} {a : En → Option (List D)} {ρ : En} : tryK i j ok g a ρ = tyA i j ok g ρ (a ρ) := by
  unfold tryK tyA
  cases a ρ with
  | none => rfl
  | some ds =>
    show (match g ds with | some (.ok r) => _ | some (.ex nm d) => _ | none => _) = tyK i j ok ρ (g ds)
    cases g ds with
    | none => rfl
    | some r => cases r <;> rfl
def okA (k : Nat) (r : Rv) (ρ : En) : En := ρ.set k (some (.ro r.d))
def okB (_ : Rv) (ρ : En) : En := ρ
theorem sTryA_ap {i j k : Nat} {g : List D → Option RvX} {a : En → Option (List D)} {ρ : En} : sTryA i j k g a ρ = tyA i j (okA k) g ρ (a ρ) := tryK_ap
theorem sTryB_ap {i j : Nat} {g : List D → Option RvX} {a : En → Option (List D)} {ρ : En} : sTryB i j g a ρ = tyA i j okB g ρ (a ρ) := tryK_ap
theorem tyA_s {i j : Nat} {ok : Rv → En → En} {g : List D → Option RvX} {ρ : En} {ds : List D} : tyA i j ok g ρ (some ds) = tyK i j ok ρ (g ds) := rfl
theorem tyK_ok {i j : Nat} {ok : Rv → En → En} {ρ : En} {r : Rv} : tyK i j ok ρ (some (.ok r)) = some (.nx (ok r ρ)) := rfl
theorem okA_v {k : Nat} {d : D} {ρ : En} : okA k (.v d) ρ = ρ.set k (some (.ro d)) := rfl
theorem okB_s {r : Rv} {ρ : En} : okB r ρ = ρ := rfl
theorem tyK_P {i j : Nat} {ok : Rv → En → En} {ρ : En} {d : D} (h : i < ρ.length) : tyK i j ok ρ (some (.ex "NoProgram" d)) = some (.nx ((ρ.set j (some (.xc "NoProgram" d))).set i none)) := by
  show (if exN (Str.ofString "NoProgram") = true ∧ i < ρ.length then some (Out.nx ((ρ.set j (some (.xc "NoProgram" d))).set i none)) else none) = _
  exact if_pos ⟨by decide +kernel, h⟩
theorem tyK_T {i j : Nat} {ok : Rv → En → En} {ρ : En} {d : D} (h : i < ρ.length) : tyK i j ok ρ (some (.ex "NoTree" d)) = some (.nx ((ρ.set j (some (.xc "NoTree" d))).set i none)) := by
  show (if exN (Str.ofString "NoTree") = true ∧ i < ρ.length then some (Out.nx ((ρ.set j (some (.xc "NoTree" d))).set i none)) else none) = _
  exact if_pos ⟨by decide +kernel, h⟩
def kiK (b : Str) : Option (Option SV) → Option D
  | some (some (.xc nm _)) => if exN nm = true then (subN nm b).map .bool else none
  | some (some (.ro .none)) => some (.bool false)
  | _ => none
theorem kIsI_ap {i : Nat} {b : Str} {ρ : En} : kIsI i b ρ = kiK b ρ[i]? := by
  unfold kIsI kiK; rfl
theorem kiK_PP {d : D} : kiK "NoProgram" (some (some (.xc "NoProgram" d))) = some (.bool true) := by
  show (if exN (Str.ofString "NoProgram") = true then (subN (Str.ofString "NoProgram") (Str.ofString "NoProgram")).map PyData.bool else none) = _
  rw [if_pos (by decide +kernel), show subN (Str.ofString "NoProgram") (Str.ofString "NoProgram") = some true from by decide +kernel]; rfl
theorem kiK_PT {d : D} : kiK "NoTree" (some (some (.xc "NoProgram" d))) = some (.bool false) := by
  show (if exN (Str.ofString "NoProgram") = true then (subN (Str.ofString "NoProgram") (Str.ofString "NoTree")).map PyData.bool else none) = _
  rw [if_pos (by decide +kernel), show subN (Str.ofString "NoProgram") (Str.ofString "NoTree") = some false from by decide +kernel]; rfl
theorem kiK_PV {d : D} : kiK "ValueError" (some (some (.xc "NoProgram" d))) = some (.bool true) := by
  show (if exN (Str.ofString "NoProgram") = true then (subN (Str.ofString "NoProgram") (Str.ofString "ValueError")).map PyData.bool else none) = _
  rw [if_pos (by decide +kernel), show subN (Str.ofString "NoProgram") (Str.ofString "ValueError") = some true from by decide +kernel]; rfl
theorem kiK_TP {d : D} : kiK "NoProgram" (some (some (.xc "NoTree" d))) = some (.bool false) := by
  show (if exN (Str.ofString "NoTree") = true then (subN (Str.ofString "NoTree") (Str.ofString "NoProgram")).map PyData.bool else none) = _
  rw [if_pos (by decide +kernel), show subN (Str.ofString "NoTree") (Str.ofString "NoProgram") = some false from by decide +kernel]; rfl
theorem kiK_TT {d : D} : kiK "NoTree" (some (some (.xc "NoTree" d))) = some (.bool true) := by
  show (if exN (Str.ofString "NoTree") = true then (subN (Str.ofString "NoTree") (Str.ofString "NoTree")).map PyData.bool else none) = _
  rw [if_pos (by decide +kernel), show subN (Str.ofString "NoTree") (Str.ofString "NoTree") = some true from by decide +kernel]; rfl
theorem kiK_TV {d : D} : kiK "ValueError" (some (some (.xc "NoTree" d))) = some (.bool true) := by
  show (if exN (Str.ofString "NoTree") = true then (subN (Str.ofString "NoTree") (Str.ofString "ValueError")).map PyData.bool else none) = _
  rw [if_pos (by decide +kernel), show subN (Str.ofString "NoTree") (Str.ofString "ValueError") = some true from by decide +kernel]; rfl
theorem kiK_n {b : Str} : kiK b (some (some (.ro .none))) = some (.bool false) := rfl
def ktK : Option (Option SV) → Option D
  | some (some (.xc nm d)) => if exN nm = true then some d else none
  | _ => none
theorem kAt_ap {i : Nat} {ρ : En} : kAt i ρ = ktK ρ[i]? := by
  unfold kAt ktK; rfl
theorem ktK_P {d : D} : ktK (some (some (.xc "NoProgram" d))) = some d := by
  show (if exN (Str.ofString "NoProgram") = true then some d else none) = some d
  exact if_pos (by decide +kernel)
theorem ktK_T {d : D} : ktK (some (some (.xc "NoTree" d))) = some d := by
  show (if exN (Str.ofString "NoTree") = true then some d else none) = some d
  exact if_pos (by decide +kernel)
def knK (neg : Bool) : Option (Option SV) → Option D
  | some (some (.xc _ _)) => some (.bool neg)
  | some (some (.ro .none)) => some (.bool (!neg))
  | _ => none
theorem kNon_ap {i : Nat} {neg : Bool} {ρ : En} : kNon neg i ρ = knK neg ρ[i]? := by
  unfold kNon knK; rfl
theorem knK_x {neg : Bool} {nm : Str} {d : D} : knK neg (some (some (.xc nm d))) = some (.bool neg) := rfl
theorem knK_n : knK false (some (some (.ro .none))) = some (.bool true) := rfl
theorem rxK_ite {p : Prop} [Decidable p] {a b : Option Out} : rxK (if p then a else b) = if p then rxK a else rxK b := by split <;> rfl
theorem forGo_e {F : En → Option Out} {h : D → En → Option En} {n : Nat} {d : D} {ds : List D} {ρ : En} : forGo h F (enumD n (d :: ds)) ρ = afterTurn (forGo h F (enumD (n + 1) ds)) ((h (.tuple [.int (n : Int), d]) ρ).bind F) := by
  have tg : ∀ (o : Option En) (k : En → Option Out), tgK F k o = afterTurn k (o.bind F) := fun o k => by cases o <;> rfl
  rw [← tg]
  exact forGo_c
/-- a loop that raises at the first that is bad -/
theorem loop_ex {β V : Type} {F : En → Option Out} {h : D → En → Option En} (E : V → En) (enc : β → D) (p : β → Bool) (nm : Str) : ∀ (bs : List β) (n : Nat) (v : V) {X : Option Out}, forGo h F (enumD n (bs.map enc)) (E v) = X →
    (∀ b ∈ bs, ∀ (i : Nat) v, i < n + bs.length → (p b = true ∧ (h (.tuple [.int (i : Int), enc b]) (E v)).bind F = some (.ex nm (.int (i : Int)))) ∨ (p b = false ∧ ∃ v', (h (.tuple [.int (i : Int), enc b]) (E v)).bind F = some (.nx (E v')))) →
    (∃ i, bs.findIdx? p = some i ∧ X = some (.ex nm (.int ((n + i : Nat) : Int)))) ∨ (bs.findIdx? p = none ∧ ∃ v', X = some (.nx (E v')))
  | [], n, v, _, e, _ => .inr ⟨rfl, v, e.symm⟩
  | b :: bs, n, v, X, e, q => by
    have e : tgK F (forGo h F (enumD (n + 1) (bs.map enc))) (h (.tuple [.int (n : Int), enc b]) (E v)) = X := by rw [← e]; exact forGo_c.symm
    have q' : ∀ c ∈ bs, ∀ (i : Nat) v, i < n + 1 + bs.length → (p c = true ∧ (h (.tuple [.int (i : Int), enc c]) (E v)).bind F = some (.ex nm (.int (i : Int)))) ∨ (p c = false ∧ ∃ v', (h (.tuple [.int (i : Int), enc c]) (E v)).bind F = some (.nx (E v'))) :=
      fun c hc i v hi => q c (List.mem_cons_of_mem _ hc) i v (by rw [List.length_cons]; omega)
    have tg : ∀ (o : Option En) (k : En → Option Out), tgK F k o = afterTurn k (o.bind F) := fun o k => by cases o <;> rfl
    rw [tg] at e
    rw [List.findIdx?_cons]
    rcases q b List.mem_cons_self n v (by rw [List.length_cons]; omega) with ⟨h1, h2⟩ | ⟨h1, v', h2⟩
    · rw [h2] at e
      rw [h1]
      exact .inl ⟨0, rfl, e.symm⟩
    · rw [h2] at e
      rw [h1]
      have e : forGo h F (enumD (n + 1) (bs.map enc)) (E v') = X := e
      rcases loop_ex E enc p nm bs (n + 1) v' e q' with ⟨i, j1, j2⟩ | ⟨j1, v2, j2⟩
      · refine .inl ⟨i + 1, by simp [j1], ?_⟩
        rw [j2, show n + 1 + i = n + (i + 1) from by omega]
      · exact .inr ⟨by simp [j1], v2, j2⟩
local macro_rules | `(tactic| walk_at "z") => `(tactic| simp -implicitDefEqProofs (disch := first | omega | (simp only [List.length_cons, List.length_nil, List.length_append, List.length_map, List.length_set, List.length_reverse, List.length_take, List.length_drop, List.length_range]; done) | (simp only [List.length_cons, List.length_nil, List.length_append, List.length_map, List.length_set, List.length_reverse, List.length_take, List.length_drop, List.length_range]; omega) | fail) only [List.length_map, chK_lelt, lit_digs, lit_0, lit_00, lit_sp, lit_nl, lit_up, lit_dn, sRaise_ap, rsK_s, sqK_ex, at_ex, gX_ap, rxK_rt, rxK_rl, rxK_nx, rxK_ex, noX_ap, nxK_s, sTryA_ap, sTryB_ap, tyA_s, tyK_ok, okA_v, okB_s, tyK_P, tyK_T, kIsI_ap, kiK_PP, kiK_PT, kiK_PV, kiK_TP, kiK_TT, kiK_TV, kiK_n, kAt_ap, ktK_P, ktK_T, kNon_ap, knK_x, knK_n, rxK_ite, gF_ap, env0, List.map_cons, List.map_nil, List.length_cons, List.length_nil, List.cons_append, List.nil_append, List.replicate_succ, List.replicate_zero, Nat.reduceAdd, Nat.reduceSub, if_true, if_false, eq_self, List.getD_cons_zero, Int.toNat_natCast, Nat.reduceEqDiff, reduceIte, reduceCtorEq, decide_true, decide_false, Bool.not_true, Bool.not_false, Bool.and_true, Bool.true_and, Bool.and_false, Bool.false_and, Bool.or_true, Bool.true_or, Bool.or_false, Bool.false_or,
  sSeq_ap, sqK_nx, sqK_rt, sqK_rl, sqK_bk, sqK_ct, sqK_no, sIf_ap, ifK_t, ifK_f, ifK_d, ifK_nd, sNil_ap, sBk_ap, sCt_ap, sRetN_ap, sBad_ap, eVar_ap, bVar_ap, mVar_ap, rdV_ro, rdV_lr, rdB_ro, rdB_lr, rdB_ow, rdM_lr, rdM_ow, nVar_ap, rdN_ro, rdN_lr, rdN_ow, eC_ap, e1_ap, e2_ap, e3_ap, b1_s, b2_s, b3_s, aNil_ap, aCons_ap, cnK_s, eCall_ap, caK_s, eTup_ap, tupK_s, lLst_ap, lstK_s, liL_ap, liK_s, lCat_ap, catK_s, oNone_ap, oSome_ap, oSK_i, asB_ap, boK_b, eAnd_ap, eOr_ap, andK_t, andK_f, orK_t, orK_f, andK_d, orK_d, bAnd_ap, bOr_ap, bAndK_t, bAndK_f, bOrK_t, bOrK_f, bAndK_d, bOrK_d, bAndK_nd, bOrK_nd, bNot_ap, toD_s, toL_l, rv_v, rv_l, sSet_ap, stK_s, sSetL_ap, slK_s, sSetR_ap, srK_s, sAsg_ap, asK_s, hName_ap, hTup_ap, hCons_ap, hNil_ap, sDrop_ap, drK_s, sRet_ap, rtK_s, sRetL_ap, rlK_s, sRetO_ap, roK_s, sFz_ap, fzK_s, fzK_ro, fzK_lr, sApp_ap, apK_s, sPut_ap, puK_s, sFor_ap, foK_s, forGo_n, forGo_c, tgK_s, at_nx, at_ct, at_bk, at_rt, at_rl, lComp_ap, coK_s, wipeE_n, wipeE_c, cYes_ap, wiK_t, wiK_f, sqK_ite, rvK_ite, at_ite, boK_ite, rtK_ite, ifK_ite, decide_eq_true_eq, Int.reduceToNat, Int.reduceLT, Int.reduceLE, Int.reduceEq, Int.reduceNeg, Int.reducePow, Int.reduceSub, Int.reduceAdd, Int.reduceMul, iSeqD_ap, iRg1D_ap, iRg2D_ap, iRevD_ap, iEnumD_ap, iZipD_ap, seqK_l, seqK_t, seqK_s, rg1K_i, rg2K_i, revK_l, enuK_l, enuK_x, zipK_l, nat0, nat1, nat2, nat3, nat4, nat5, rvK_rt, rvK_rl, rvK_nx, compGo_n, compGo_c, cdK_y, cdK_s, all_t, eChain_ap, chK_ll, hUnl_ap, revL_ap, kyE_ap, kyeK_i, kyeK_s, kyeK_x, kyT_ap, kytK_ix, eDGet_ap, eDIn_ap, eDGet1_ap, eDGet2_ap, sDNew_ap, sDPutD_ap, dpK_T, dpK_K, sFzK_ap, fzkK_s, fzkK_ro, rdB_oK, pNil_ap, pCons_ap, pcK_s, pcK_x, eDisp_ap, dispK_1, fzL_ap, fzLK_s, fzT_ap, fzTK_s, fzE_ap, fzEK_s, xIO_ap, xiK_s, sRetP_ap, rpK_s, gIO_ap, ioR_rp, ioR_nx, ioK_s, sqK_rp, ioR_ite, envIO, sClear_ap, clK_s, sExt_ap, exK_s, sSetX_ap, xsK_s, xPop_ap, poK_s, poK_1, xPopAt_ap, patK_0, xaNil_ap, xaCons_ap, xacK_s, xTup_ap, xtK_s, xE_ap, xeK_s, xCall_ap, xclK_s, sAsgX_ap, xagK_s, sDropX_ap, xdK_s, sRetX_ap, xrK_s, sAppX_ap, axK_s, ax2K_s, ne_bb, ifK_v, ifK_nv, bOrK_v, bOrK_nv, bAndK_v, bAndK_nv, andK_v, orK_v, andK_nv, orK_nv,
  List.getElem?_cons_succ, List.getElem?_cons_zero, List.set_cons_succ, List.set_cons_zero, Option.bind_some, Option.map_some, Option.bind_none, Option.map_none,
  add_x, len_x, ix_x, eq_x, ne_x, isx_int, isx_bool, isx_str, isx_tuple, isx_list, isNx, notNx, sl_x, seq_x, cut_m1, cut_l1, sl_t, sl_l, sl_s, slL_l, cut_lo, cut_hi, cut_lh, cut_nn, add_ii, add_ss, add_tt, sub_ii, mul_l, mul_r, div_ii, mod_ii, pow_ii, lt_ii, le_ii, gt_ii, ge_ii, eq_ii, eq_bb, eq_ss, ne_ii, ne_ss, len_l, len_t, len_s, int_i, int_b, min_ii, max_ii, tup_l, tup_t, list_l, list_t, neg_i, not_b, ix_l, ix_t, atI_0, atI_1, atI_2, atI_3, atI_4,
  isN_n, isN_i, isN_s, isN_b, isN_t, isN_l, notN_n, notN_i, notN_s, notN_b, notN_t, notN_l, isB, notB, isi_i_int, isi_b_int, isi_s_int, isi_t_int, isi_l_int, isi_n_int, isi_i_bool, isi_b_bool, isi_s_bool, isi_t_bool, isi_l_bool, isi_n_bool, isi_i_str, isi_b_str, isi_s_str, isi_t_str, isi_l_str, isi_n_str, isi_i_tuple, isi_b_tuple, isi_s_tuple, isi_t_tuple, isi_l_tuple, isi_n_tuple, isi_i_list, isi_b_list, isi_s_list, isi_t_list, isi_l_list, isi_n_list])
local macro_rules | `(tactic| walk_at "y") => `(tactic| simp -implicitDefEqProofs (disch := first | omega | (simp only [List.length_cons, List.length_nil, List.length_append, List.length_map, List.length_set, List.length_reverse, List.length_take, List.length_drop, List.length_range]; done) | (simp only [List.length_cons, List.length_nil, List.length_append, List.length_map, List.length_set, List.length_reverse, List.length_take, List.length_drop, List.length_range]; omega) | fail) only [*, List.length_map, chK_lelt, lit_digs, lit_0, lit_00, lit_sp, lit_nl, lit_up, lit_dn, sRaise_ap, rsK_s, sqK_ex, at_ex, gX_ap, rxK_rt, rxK_rl, rxK_nx, rxK_ex, noX_ap, nxK_s, sTryA_ap, sTryB_ap, tyA_s, tyK_ok, okA_v, okB_s, tyK_P, tyK_T, kIsI_ap, kiK_PP, kiK_PT, kiK_PV, kiK_TP, kiK_TT, kiK_TV, kiK_n, kAt_ap, ktK_P, ktK_T, kNon_ap, knK_x, knK_n, rxK_ite, gF_ap, env0, List.map_cons, List.map_nil, List.length_cons, List.length_nil, List.cons_append, List.nil_append, List.replicate_succ, List.replicate_zero, Nat.reduceAdd, Nat.reduceSub, if_true, if_false, eq_self, List.getD_cons_zero, Int.toNat_natCast, Nat.reduceEqDiff, reduceIte, reduceCtorEq, decide_true, decide_false, Bool.not_true, Bool.not_false, Bool.and_true, Bool.true_and, Bool.and_false, Bool.false_and, Bool.or_true, Bool.true_or, Bool.or_false, Bool.false_or,
  sSeq_ap, sqK_nx, sqK_rt, sqK_rl, sqK_bk, sqK_ct, sqK_no, sIf_ap, ifK_t, ifK_f, ifK_d, ifK_nd, sNil_ap, sBk_ap, sCt_ap, sRetN_ap, sBad_ap, eVar_ap, bVar_ap, mVar_ap, rdV_ro, rdV_lr, rdB_ro, rdB_lr, rdB_ow, rdM_lr, rdM_ow, nVar_ap, rdN_ro, rdN_lr, rdN_ow, eC_ap, e1_ap, e2_ap, e3_ap, b1_s, b2_s, b3_s, aNil_ap, aCons_ap, cnK_s, eCall_ap, caK_s, eTup_ap, tupK_s, lLst_ap, lstK_s, liL_ap, liK_s, lCat_ap, catK_s, oNone_ap, oSome_ap, oSK_i, asB_ap, boK_b, eAnd_ap, eOr_ap, andK_t, andK_f, orK_t, orK_f, andK_d, orK_d, bAnd_ap, bOr_ap, bAndK_t, bAndK_f, bOrK_t, bOrK_f, bAndK_d, bOrK_d, bAndK_nd, bOrK_nd, bNot_ap, toD_s, toL_l, rv_v, rv_l, sSet_ap, stK_s, sSetL_ap, slK_s, sSetR_ap, srK_s, sAsg_ap, asK_s, hName_ap, hTup_ap, hCons_ap, hNil_ap, sDrop_ap, drK_s, sRet_ap, rtK_s, sRetL_ap, rlK_s, sRetO_ap, roK_s, sFz_ap, fzK_s, fzK_ro, fzK_lr, sApp_ap, apK_s, sPut_ap, puK_s, sFor_ap, foK_s, forGo_n, forGo_c, tgK_s, at_nx, at_ct, at_bk, at_rt, at_rl, lComp_ap, coK_s, wipeE_n, wipeE_c, cYes_ap, wiK_t, wiK_f, sqK_ite, rvK_ite, at_ite, boK_ite, rtK_ite, ifK_ite, decide_eq_true_eq, Int.reduceToNat, Int.reduceLT, Int.reduceLE, Int.reduceEq, Int.reduceNeg, Int.reducePow, Int.reduceSub, Int.reduceAdd, Int.reduceMul, iSeqD_ap, iRg1D_ap, iRg2D_ap, iRevD_ap, iEnumD_ap, iZipD_ap, seqK_l, seqK_t, seqK_s, rg1K_i, rg2K_i, revK_l, enuK_l, enuK_x, zipK_l, nat0, nat1, nat2, nat3, nat4, nat5, rvK_rt, rvK_rl, rvK_nx, compGo_n, compGo_c, cdK_y, cdK_s, all_t, eChain_ap, chK_ll, hUnl_ap, revL_ap, kyE_ap, kyeK_i, kyeK_s, kyeK_x, kyT_ap, kytK_ix, eDGet_ap, eDIn_ap, eDGet1_ap, eDGet2_ap, sDNew_ap, sDPutD_ap, dpK_T, dpK_K, sFzK_ap, fzkK_s, fzkK_ro, rdB_oK, pNil_ap, pCons_ap, pcK_s, pcK_x, eDisp_ap, dispK_1, fzL_ap, fzLK_s, fzT_ap, fzTK_s, fzE_ap, fzEK_s, xIO_ap, xiK_s, sRetP_ap, rpK_s, gIO_ap, ioR_rp, ioR_nx, ioK_s, sqK_rp, ioR_ite, envIO, sClear_ap, clK_s, sExt_ap, exK_s, sSetX_ap, xsK_s, xPop_ap, poK_s, poK_1, xPopAt_ap, patK_0, xaNil_ap, xaCons_ap, xacK_s, xTup_ap, xtK_s, xE_ap, xeK_s, xCall_ap, xclK_s, sAsgX_ap, xagK_s, sDropX_ap, xdK_s, sRetX_ap, xrK_s, sAppX_ap, axK_s, ax2K_s, ne_bb, ifK_v, ifK_nv, bOrK_v, bOrK_nv, bAndK_v, bAndK_nv, andK_v, orK_v, andK_nv, orK_nv,
  List.getElem?_cons_succ, List.getElem?_cons_zero, List.set_cons_succ, List.set_cons_zero, Option.bind_some, Option.map_some, Option.bind_none, Option.map_none,
  add_x, len_x, ix_x, eq_x, ne_x, isx_int, isx_bool, isx_str, isx_tuple, isx_list, isNx, notNx, sl_x, seq_x, cut_m1, cut_l1, sl_t, sl_l, sl_s, slL_l, cut_lo, cut_hi, cut_lh, cut_nn, add_ii, add_ss, add_tt, sub_ii, mul_l, mul_r, div_ii, mod_ii, pow_ii, lt_ii, le_ii, gt_ii, ge_ii, eq_ii, eq_bb, eq_ss, ne_ii, ne_ss, len_l, len_t, len_s, int_i, int_b, min_ii, max_ii, tup_l, tup_t, list_l, list_t, neg_i, not_b, ix_l, ix_t, atI_0, atI_1, atI_2, atI_3, atI_4,
  isN_n, isN_i, isN_s, isN_b, isN_t, isN_l, notN_n, notN_i, notN_s, notN_b, notN_t, notN_l, isB, notB, isi_i_int, isi_b_int, isi_s_int, isi_t_int, isi_l_int, isi_n_int, isi_i_bool, isi_b_bool, isi_s_bool, isi_t_bool, isi_l_bool, isi_n_bool, isi_i_str, isi_b_str, isi_s_str, isi_t_str, isi_l_str, isi_n_str, isi_i_tuple, isi_b_tuple, isi_s_tuple, isi_t_tuple, isi_l_tuple, isi_n_tuple, isi_i_list, isi_b_list, isi_s_list, isi_t_list, isi_l_list, isi_n_list])
def cellAt (ns : List Int) (k : Int) : Int := if k < ns.length then ns.getD k.toNat 0 else 0
theorem v_cell (ns : List Int) (k : Int) (h0 : 0 ≤ k) : g_l_cell_at [.list (ns.map .int), .int k] = some (.v (.int (cellAt ns k))) := by
  unfold g_l_cell_at F_l_cell_at
  walk_at "z"
  rw [atI_map]
  unfold cellAt
  by_cases h : k < ns.length
  · rw [if_pos h, if_pos h, atI_getD ns k 0 h0 h]; rfl
  · rw [if_neg h, if_neg h]
local macro_rules | `(tactic| walk_at "z") => `(tactic| simp -implicitDefEqProofs (disch := first | omega | (simp only [List.length_cons, List.length_nil, List.length_append, List.length_map, List.length_set, List.length_reverse, List.length_take, List.length_drop, List.length_range]; done) | (simp only [List.length_cons, List.length_nil, List.length_append, List.length_map, List.length_set, List.length_reverse, List.length_take, List.length_drop, List.length_range]; omega) | fail) only [List.length_map, chK_lelt, lit_digs, lit_0, lit_00, lit_sp, lit_nl, lit_up, lit_dn, sRaise_ap, rsK_s, sqK_ex, at_ex, gX_ap, rxK_rt, rxK_rl, rxK_nx, rxK_ex, noX_ap, nxK_s, sTryA_ap, sTryB_ap, tyA_s, tyK_ok, okA_v, okB_s, tyK_P, tyK_T, kIsI_ap, kiK_PP, kiK_PT, kiK_PV, kiK_TP, kiK_TT, kiK_TV, kiK_n, kAt_ap, ktK_P, ktK_T, kNon_ap, knK_x, knK_n, rxK_ite, v_cell, gF_ap, env0, List.map_cons, List.map_nil, List.length_cons, List.length_nil, List.cons_append, List.nil_append, List.replicate_succ, List.replicate_zero, Nat.reduceAdd, Nat.reduceSub, if_true, if_false, eq_self, List.getD_cons_zero, Int.toNat_natCast, Nat.reduceEqDiff, reduceIte, reduceCtorEq, decide_true, decide_false, Bool.not_true, Bool.not_false, Bool.and_true, Bool.true_and, Bool.and_false, Bool.false_and, Bool.or_true, Bool.true_or, Bool.or_false, Bool.false_or,
  sSeq_ap, sqK_nx, sqK_rt, sqK_rl, sqK_bk, sqK_ct, sqK_no, sIf_ap, ifK_t, ifK_f, ifK_d, ifK_nd, sNil_ap, sBk_ap, sCt_ap, sRetN_ap, sBad_ap, eVar_ap, bVar_ap, mVar_ap, rdV_ro, rdV_lr, rdB_ro, rdB_lr, rdB_ow, rdM_lr, rdM_ow, nVar_ap, rdN_ro, rdN_lr, rdN_ow, eC_ap, e1_ap, e2_ap, e3_ap, b1_s, b2_s, b3_s, aNil_ap, aCons_ap, cnK_s, eCall_ap, caK_s, eTup_ap, tupK_s, lLst_ap, lstK_s, liL_ap, liK_s, lCat_ap, catK_s, oNone_ap, oSome_ap, oSK_i, asB_ap, boK_b, eAnd_ap, eOr_ap, andK_t, andK_f, orK_t, orK_f, andK_d, orK_d, bAnd_ap, bOr_ap, bAndK_t, bAndK_f, bOrK_t, bOrK_f, bAndK_d, bOrK_d, bAndK_nd, bOrK_nd, bNot_ap, toD_s, toL_l, rv_v, rv_l, sSet_ap, stK_s, sSetL_ap, slK_s, sSetR_ap, srK_s, sAsg_ap, asK_s, hName_ap, hTup_ap, hCons_ap, hNil_ap, sDrop_ap, drK_s, sRet_ap, rtK_s, sRetL_ap, rlK_s, sRetO_ap, roK_s, sFz_ap, fzK_s, fzK_ro, fzK_lr, sApp_ap, apK_s, sPut_ap, puK_s, sFor_ap, foK_s, forGo_n, forGo_c, tgK_s, at_nx, at_ct, at_bk, at_rt, at_rl, lComp_ap, coK_s, wipeE_n, wipeE_c, cYes_ap, wiK_t, wiK_f, sqK_ite, rvK_ite, at_ite, boK_ite, rtK_ite, ifK_ite, decide_eq_true_eq, Int.reduceToNat, Int.reduceLT, Int.reduceLE, Int.reduceEq, Int.reduceNeg, Int.reducePow, Int.reduceSub, Int.reduceAdd, Int.reduceMul, iSeqD_ap, iRg1D_ap, iRg2D_ap, iRevD_ap, iEnumD_ap, iZipD_ap, seqK_l, seqK_t, seqK_s, rg1K_i, rg2K_i, revK_l, enuK_l, enuK_x, zipK_l, nat0, nat1, nat2, nat3, nat4, nat5, rvK_rt, rvK_rl, rvK_nx, compGo_n, compGo_c, cdK_y, cdK_s, all_t, eChain_ap, chK_ll, hUnl_ap, revL_ap, kyE_ap, kyeK_i, kyeK_s, kyeK_x, kyT_ap, kytK_ix, eDGet_ap, eDIn_ap, eDGet1_ap, eDGet2_ap, sDNew_ap, sDPutD_ap, dpK_T, dpK_K, sFzK_ap, fzkK_s, fzkK_ro, rdB_oK, pNil_ap, pCons_ap, pcK_s, pcK_x, eDisp_ap, dispK_1, fzL_ap, fzLK_s, fzT_ap, fzTK_s, fzE_ap, fzEK_s, xIO_ap, xiK_s, sRetP_ap, rpK_s, gIO_ap, ioR_rp, ioR_nx, ioK_s, sqK_rp, ioR_ite, envIO, sClear_ap, clK_s, sExt_ap, exK_s, sSetX_ap, xsK_s, xPop_ap, poK_s, poK_1, xPopAt_ap, patK_0, xaNil_ap, xaCons_ap, xacK_s, xTup_ap, xtK_s, xE_ap, xeK_s, xCall_ap, xclK_s, sAsgX_ap, xagK_s, sDropX_ap, xdK_s, sRetX_ap, xrK_s, sAppX_ap, axK_s, ax2K_s, ne_bb, ifK_v, ifK_nv, bOrK_v, bOrK_nv, bAndK_v, bAndK_nv, andK_v, orK_v, andK_nv, orK_nv,
  List.getElem?_cons_succ, List.getElem?_cons_zero, List.set_cons_succ, List.set_cons_zero, Option.bind_some, Option.map_some, Option.bind_none, Option.map_none,
  add_x, len_x, ix_x, eq_x, ne_x, isx_int, isx_bool, isx_str, isx_tuple, isx_list, isNx, notNx, sl_x, seq_x, cut_m1, cut_l1, sl_t, sl_l, sl_s, slL_l, cut_lo, cut_hi, cut_lh, cut_nn, add_ii, add_ss, add_tt, sub_ii, mul_l, mul_r, div_ii, mod_ii, pow_ii, lt_ii, le_ii, gt_ii, ge_ii, eq_ii, eq_bb, eq_ss, ne_ii, ne_ss, len_l, len_t, len_s, int_i, int_b, min_ii, max_ii, tup_l, tup_t, list_l, list_t, neg_i, not_b, ix_l, ix_t, atI_0, atI_1, atI_2, atI_3, atI_4,
  isN_n, isN_i, isN_s, isN_b, isN_t, isN_l, notN_n, notN_i, notN_s, notN_b, notN_t, notN_l, isB, notB, isi_i_int, isi_b_int, isi_s_int, isi_t_int, isi_l_int, isi_n_int, isi_i_bool, isi_b_bool, isi_s_bool, isi_t_bool, isi_l_bool, isi_n_bool, isi_i_str, isi_b_str, isi_s_str, isi_t_str, isi_l_str, isi_n_str, isi_i_tuple, isi_b_tuple, isi_s_tuple, isi_t_tuple, isi_l_tuple, isi_n_tuple, isi_i_list, isi_b_list, isi_s_list, isi_t_list, isi_l_list, isi_n_list])
local macro_rules | `(tactic| walk_at "y") => `(tactic| simp -implicitDefEqProofs (disch := first | omega | (simp only [List.length_cons, List.length_nil, List.length_append, List.length_map, List.length_set, List.length_reverse, List.length_take, List.length_drop, List.length_range]; done) | (simp only [List.length_cons, List.length_nil, List.length_append, List.length_map, List.length_set, List.length_reverse, List.length_take, List.length_drop, List.length_range]; omega) | fail) only [*, List.length_map, chK_lelt, lit_digs, lit_0, lit_00, lit_sp, lit_nl, lit_up, lit_dn, sRaise_ap, rsK_s, sqK_ex, at_ex, gX_ap, rxK_rt, rxK_rl, rxK_nx, rxK_ex, noX_ap, nxK_s, sTryA_ap, sTryB_ap, tyA_s, tyK_ok, okA_v, okB_s, tyK_P, tyK_T, kIsI_ap, kiK_PP, kiK_PT, kiK_PV, kiK_TP, kiK_TT, kiK_TV, kiK_n, kAt_ap, ktK_P, ktK_T, kNon_ap, knK_x, knK_n, rxK_ite, v_cell, gF_ap, env0, List.map_cons, List.map_nil, List.length_cons, List.length_nil, List.cons_append, List.nil_append, List.replicate_succ, List.replicate_zero, Nat.reduceAdd, Nat.reduceSub, if_true, if_false, eq_self, List.getD_cons_zero, Int.toNat_natCast, Nat.reduceEqDiff, reduceIte, reduceCtorEq, decide_true, decide_false, Bool.not_true, Bool.not_false, Bool.and_true, Bool.true_and, Bool.and_false, Bool.false_and, Bool.or_true, Bool.true_or, Bool.or_false, Bool.false_or,
  sSeq_ap, sqK_nx, sqK_rt, sqK_rl, sqK_bk, sqK_ct, sqK_no, sIf_ap, ifK_t, ifK_f, ifK_d, ifK_nd, sNil_ap, sBk_ap, sCt_ap, sRetN_ap, sBad_ap, eVar_ap, bVar_ap, mVar_ap, rdV_ro, rdV_lr, rdB_ro, rdB_lr, rdB_ow, rdM_lr, rdM_ow, nVar_ap, rdN_ro, rdN_lr, rdN_ow, eC_ap, e1_ap, e2_ap, e3_ap, b1_s, b2_s, b3_s, aNil_ap, aCons_ap, cnK_s, eCall_ap, caK_s, eTup_ap, tupK_s, lLst_ap, lstK_s, liL_ap, liK_s, lCat_ap, catK_s, oNone_ap, oSome_ap, oSK_i, asB_ap, boK_b, eAnd_ap, eOr_ap, andK_t, andK_f, orK_t, orK_f, andK_d, orK_d, bAnd_ap, bOr_ap, bAndK_t, bAndK_f, bOrK_t, bOrK_f, bAndK_d, bOrK_d, bAndK_nd, bOrK_nd, bNot_ap, toD_s, toL_l, rv_v, rv_l, sSet_ap, stK_s, sSetL_ap, slK_s, sSetR_ap, srK_s, sAsg_ap, asK_s, hName_ap, hTup_ap, hCons_ap, hNil_ap, sDrop_ap, drK_s, sRet_ap, rtK_s, sRetL_ap, rlK_s, sRetO_ap, roK_s, sFz_ap, fzK_s, fzK_ro, fzK_lr, sApp_ap, apK_s, sPut_ap, puK_s, sFor_ap, foK_s, forGo_n, forGo_c, tgK_s, at_nx, at_ct, at_bk, at_rt, at_rl, lComp_ap, coK_s, wipeE_n, wipeE_c, cYes_ap, wiK_t, wiK_f, sqK_ite, rvK_ite, at_ite, boK_ite, rtK_ite, ifK_ite, decide_eq_true_eq, Int.reduceToNat, Int.reduceLT, Int.reduceLE, Int.reduceEq, Int.reduceNeg, Int.reducePow, Int.reduceSub, Int.reduceAdd, Int.reduceMul, iSeqD_ap, iRg1D_ap, iRg2D_ap, iRevD_ap, iEnumD_ap, iZipD_ap, seqK_l, seqK_t, seqK_s, rg1K_i, rg2K_i, revK_l, enuK_l, enuK_x, zipK_l, nat0, nat1, nat2, nat3, nat4, nat5, rvK_rt, rvK_rl, rvK_nx, compGo_n, compGo_c, cdK_y, cdK_s, all_t, eChain_ap, chK_ll, hUnl_ap, revL_ap, kyE_ap, kyeK_i, kyeK_s, kyeK_x, kyT_ap, kytK_ix, eDGet_ap, eDIn_ap, eDGet1_ap, eDGet2_ap, sDNew_ap, sDPutD_ap, dpK_T, dpK_K, sFzK_ap, fzkK_s, fzkK_ro, rdB_oK, pNil_ap, pCons_ap, pcK_s, pcK_x, eDisp_ap, dispK_1, fzL_ap, fzLK_s, fzT_ap, fzTK_s, fzE_ap, fzEK_s, xIO_ap, xiK_s, sRetP_ap, rpK_s, gIO_ap, ioR_rp, ioR_nx, ioK_s, sqK_rp, ioR_ite, envIO, sClear_ap, clK_s, sExt_ap, exK_s, sSetX_ap, xsK_s, xPop_ap, poK_s, poK_1, xPopAt_ap, patK_0, xaNil_ap, xaCons_ap, xacK_s, xTup_ap, xtK_s, xE_ap, xeK_s, xCall_ap, xclK_s, sAsgX_ap, xagK_s, sDropX_ap, xdK_s, sRetX_ap, xrK_s, sAppX_ap, axK_s, ax2K_s, ne_bb, ifK_v, ifK_nv, bOrK_v, bOrK_nv, bAndK_v, bAndK_nv, andK_v, orK_v, andK_nv, orK_nv,
  List.getElem?_cons_succ, List.getElem?_cons_zero, List.set_cons_succ, List.set_cons_zero, Option.bind_some, Option.map_some, Option.bind_none, Option.map_none,
  add_x, len_x, ix_x, eq_x, ne_x, isx_int, isx_bool, isx_str, isx_tuple, isx_list, isNx, notNx, sl_x, seq_x, cut_m1, cut_l1, sl_t, sl_l, sl_s, slL_l, cut_lo, cut_hi, cut_lh, cut_nn, add_ii, add_ss, add_tt, sub_ii, mul_l, mul_r, div_ii, mod_ii, pow_ii, lt_ii, le_ii, gt_ii, ge_ii, eq_ii, eq_bb, eq_ss, ne_ii, ne_ss, len_l, len_t, len_s, int_i, int_b, min_ii, max_ii, tup_l, tup_t, list_l, list_t, neg_i, not_b, ix_l, ix_t, atI_0, atI_1, atI_2, atI_3, atI_4,
  isN_n, isN_i, isN_s, isN_b, isN_t, isN_l, notN_n, notN_i, notN_s, notN_b, notN_t, notN_l, isB, notB, isi_i_int, isi_b_int, isi_s_int, isi_t_int, isi_l_int, isi_n_int, isi_i_bool, isi_b_bool, isi_s_bool, isi_t_bool, isi_l_bool, isi_n_bool, isi_i_str, isi_b_str, isi_s_str, isi_t_str, isi_l_str, isi_n_str, isi_i_tuple, isi_b_tuple, isi_s_tuple, isi_t_tuple, isi_l_tuple, isi_n_tuple, isi_i_list, isi_b_list, isi_s_list, isi_t_list, isi_l_list, isi_n_list])
/-! ### mixed numbers -/
def mixed (c k : Int) : Int := (c % 1000000007 + 7919 * k + 13) * (c % 1000000007 + 7919 * k + 13) % 998244353 / 3
theorem v_mixed (c k : Int) (h0 : 0 ≤ k) (h1 : k ≤ 1000000000) : g_l_mixed [.int c, .int k] = some (.v (.int (mixed c k))) := by
  unfold g_l_mixed F_l_mixed
  walk_at "z"
  rfl
theorem mixed_nn (c k : Int) : 0 ≤ mixed c k := by
  unfold mixed
  have := Int.emod_nonneg ((c % 1000000007 + 7919 * k + 13) * (c % 1000000007 + 7919 * k + 13)) (show (998244353 : Int) ≠ 0 by decide)
  omega
theorem mixed_lt (c k : Int) : mixed c k < 998244353 := by
  unfold mixed
  have := Int.emod_lt_of_pos ((c % 1000000007 + 7919 * k + 13) * (c % 1000000007 + 7919 * k + 13)) (show (0 : Int) < 998244353 by decide)
  omega
local macro_rules | `(tactic| walk_at "z") => `(tactic| simp -implicitDefEqProofs (disch := first | omega | (simp only [List.length_cons, List.length_nil, List.length_append, List.length_map, List.length_set, List.length_reverse, List.length_take, List.length_drop, List.length_range]; done) | (simp only [List.length_cons, List.length_nil, List.length_append, List.length_map, List.length_set, List.length_reverse, List.length_take, List.length_drop, List.length_range]; omega) | fail) only [List.length_map, chK_lelt, lit_digs, lit_0, lit_00, lit_sp, lit_nl, lit_up, lit_dn, sRaise_ap, rsK_s, sqK_ex, at_ex, gX_ap, rxK_rt, rxK_rl, rxK_nx, rxK_ex, noX_ap, nxK_s, sTryA_ap, sTryB_ap, tyA_s, tyK_ok, okA_v, okB_s, tyK_P, tyK_T, kIsI_ap, kiK_PP, kiK_PT, kiK_PV, kiK_TP, kiK_TT, kiK_TV, kiK_n, kAt_ap, ktK_P, ktK_T, kNon_ap, knK_x, knK_n, rxK_ite, v_cell, v_mixed, gF_ap, env0, List.map_cons, List.map_nil, List.length_cons, List.length_nil, List.cons_append, List.nil_append, List.replicate_succ, List.replicate_zero, Nat.reduceAdd, Nat.reduceSub, if_true, if_false, eq_self, List.getD_cons_zero, Int.toNat_natCast, Nat.reduceEqDiff, reduceIte, reduceCtorEq, decide_true, decide_false, Bool.not_true, Bool.not_false, Bool.and_true, Bool.true_and, Bool.and_false, Bool.false_and, Bool.or_true, Bool.true_or, Bool.or_false, Bool.false_or,
  sSeq_ap, sqK_nx, sqK_rt, sqK_rl, sqK_bk, sqK_ct, sqK_no, sIf_ap, ifK_t, ifK_f, ifK_d, ifK_nd, sNil_ap, sBk_ap, sCt_ap, sRetN_ap, sBad_ap, eVar_ap, bVar_ap, mVar_ap, rdV_ro, rdV_lr, rdB_ro, rdB_lr, rdB_ow, rdM_lr, rdM_ow, nVar_ap, rdN_ro, rdN_lr, rdN_ow, eC_ap, e1_ap, e2_ap, e3_ap, b1_s, b2_s, b3_s, aNil_ap, aCons_ap, cnK_s, eCall_ap, caK_s, eTup_ap, tupK_s, lLst_ap, lstK_s, liL_ap, liK_s, lCat_ap, catK_s, oNone_ap, oSome_ap, oSK_i, asB_ap, boK_b, eAnd_ap, eOr_ap, andK_t, andK_f, orK_t, orK_f, andK_d, orK_d, bAnd_ap, bOr_ap, bAndK_t, bAndK_f, bOrK_t, bOrK_f, bAndK_d, bOrK_d, bAndK_nd, bOrK_nd, bNot_ap, toD_s, toL_l, rv_v, rv_l, sSet_ap, stK_s, sSetL_ap, slK_s, sSetR_ap, srK_s, sAsg_ap, asK_s, hName_ap, hTup_ap, hCons_ap, hNil_ap, sDrop_ap, drK_s, sRet_ap, rtK_s, sRetL_ap, rlK_s, sRetO_ap, roK_s, sFz_ap, fzK_s, fzK_ro, fzK_lr, sApp_ap, apK_s, sPut_ap, puK_s, sFor_ap, foK_s, forGo_n, forGo_c, tgK_s, at_nx, at_ct, at_bk, at_rt, at_rl, lComp_ap, coK_s, wipeE_n, wipeE_c, cYes_ap, wiK_t, wiK_f, sqK_ite, rvK_ite, at_ite, boK_ite, rtK_ite, ifK_ite, decide_eq_true_eq, Int.reduceToNat, Int.reduceLT, Int.reduceLE, Int.reduceEq, Int.reduceNeg, Int.reducePow, Int.reduceSub, Int.reduceAdd, Int.reduceMul, iSeqD_ap, iRg1D_ap, iRg2D_ap, iRevD_ap, iEnumD_ap, iZipD_ap, seqK_l, seqK_t, seqK_s, rg1K_i, rg2K_i, revK_l, enuK_l, enuK_x, zipK_l, nat0, nat1, nat2, nat3, nat4, nat5, rvK_rt, rvK_rl, rvK_nx, compGo_n, compGo_c, cdK_y, cdK_s, all_t, eChain_ap, chK_ll, hUnl_ap, revL_ap, kyE_ap, kyeK_i, kyeK_s, kyeK_x, kyT_ap, kytK_ix, eDGet_ap, eDIn_ap, eDGet1_ap, eDGet2_ap, sDNew_ap, sDPutD_ap, dpK_T, dpK_K, sFzK_ap, fzkK_s, fzkK_ro, rdB_oK, pNil_ap, pCons_ap, pcK_s, pcK_x, eDisp_ap, dispK_1, fzL_ap, fzLK_s, fzT_ap, fzTK_s, fzE_ap, fzEK_s, xIO_ap, xiK_s, sRetP_ap, rpK_s, gIO_ap, ioR_rp, ioR_nx, ioK_s, sqK_rp, ioR_ite, envIO, sClear_ap, clK_s, sExt_ap, exK_s, sSetX_ap, xsK_s, xPop_ap, poK_s, poK_1, xPopAt_ap, patK_0, xaNil_ap, xaCons_ap, xacK_s, xTup_ap, xtK_s, xE_ap, xeK_s, xCall_ap, xclK_s, sAsgX_ap, xagK_s, sDropX_ap, xdK_s, sRetX_ap, xrK_s, sAppX_ap, axK_s, ax2K_s, ne_bb, ifK_v, ifK_nv, bOrK_v, bOrK_nv, bAndK_v, bAndK_nv, andK_v, orK_v, andK_nv, orK_nv,
  List.getElem?_cons_succ, List.getElem?_cons_zero, List.set_cons_succ, List.set_cons_zero, Option.bind_some, Option.map_some, Option.bind_none, Option.map_none,
  add_x, len_x, ix_x, eq_x, ne_x, isx_int, isx_bool, isx_str, isx_tuple, isx_list, isNx, notNx, sl_x, seq_x, cut_m1, cut_l1, sl_t, sl_l, sl_s, slL_l, cut_lo, cut_hi, cut_lh, cut_nn, add_ii, add_ss, add_tt, sub_ii, mul_l, mul_r, div_ii, mod_ii, pow_ii, lt_ii, le_ii, gt_ii, ge_ii, eq_ii, eq_bb, eq_ss, ne_ii, ne_ss, len_l, len_t, len_s, int_i, int_b, min_ii, max_ii, tup_l, tup_t, list_l, list_t, neg_i, not_b, ix_l, ix_t, atI_0, atI_1, atI_2, atI_3, atI_4,
  isN_n, isN_i, isN_s, isN_b, isN_t, isN_l, notN_n, notN_i, notN_s, notN_b, notN_t, notN_l, isB, notB, isi_i_int, isi_b_int, isi_s_int, isi_t_int, isi_l_int, isi_n_int, isi_i_bool, isi_b_bool, isi_s_bool, isi_t_bool, isi_l_bool, isi_n_bool, isi_i_str, isi_b_str, isi_s_str, isi_t_str, isi_l_str, isi_n_str, isi_i_tuple, isi_b_tuple, isi_s_tuple, isi_t_tuple, isi_l_tuple, isi_n_tuple, isi_i_list, isi_b_list, isi_s_list, isi_t_list, isi_l_list, isi_n_list])
local macro_rules | `(tactic| walk_at "y") => `(tactic| simp -implicitDefEqProofs (disch := first | omega | (simp only [List.length_cons, List.length_nil, List.length_append, List.length_map, List.length_set, List.length_reverse, List.length_take, List.length_drop, List.length_range]; done) | (simp only [List.length_cons, List.length_nil, List.length_append, List.length_map, List.length_set, List.length_reverse, List.length_take, List.length_drop, List.length_range]; omega) | fail) only [*, List.length_map, chK_lelt, lit_digs, lit_0, lit_00, lit_sp, lit_nl, lit_up, lit_dn, sRaise_ap, rsK_s, sqK_ex, at_ex, gX_ap, rxK_rt, rxK_rl, rxK_nx, rxK_ex, noX_ap, nxK_s, sTryA_ap, sTryB_ap, tyA_s, tyK_ok, okA_v, okB_s, tyK_P, tyK_T, kIsI_ap, kiK_PP, kiK_PT, kiK_PV, kiK_TP, kiK_TT, kiK_TV, kiK_n, kAt_ap, ktK_P, ktK_T, kNon_ap, knK_x, knK_n, rxK_ite, v_cell, v_mixed, gF_ap, env0, List.map_cons, List.map_nil, List.length_cons, List.length_nil, List.cons_append, List.nil_append, List.replicate_succ, List.replicate_zero, Nat.reduceAdd, Nat.reduceSub, if_true, if_false, eq_self, List.getD_cons_zero, Int.toNat_natCast, Nat.reduceEqDiff, reduceIte, reduceCtorEq, decide_true, decide_false, Bool.not_true, Bool.not_false, Bool.and_true, Bool.true_and, Bool.and_false, Bool.false_and, Bool.or_true, Bool.true_or, Bool.or_false, Bool.false_or,
  sSeq_ap, sqK_nx, sqK_rt, sqK_rl, sqK_bk, sqK_ct, sqK_no, sIf_ap, ifK_t, ifK_f, ifK_d, ifK_nd, sNil_ap, sBk_ap, sCt_ap, sRetN_ap, sBad_ap, eVar_ap, bVar_ap, mVar_ap, rdV_ro, rdV_lr, rdB_ro, rdB_lr, rdB_ow, rdM_lr, rdM_ow, nVar_ap, rdN_ro, rdN_lr, rdN_ow, eC_ap, e1_ap, e2_ap, e3_ap, b1_s, b2_s, b3_s, aNil_ap, aCons_ap, cnK_s, eCall_ap, caK_s, eTup_ap, tupK_s, lLst_ap, lstK_s, liL_ap, liK_s, lCat_ap, catK_s, oNone_ap, oSome_ap, oSK_i, asB_ap, boK_b, eAnd_ap, eOr_ap, andK_t, andK_f, orK_t, orK_f, andK_d, orK_d, bAnd_ap, bOr_ap, bAndK_t, bAndK_f, bOrK_t, bOrK_f, bAndK_d, bOrK_d, bAndK_nd, bOrK_nd, bNot_ap, toD_s, toL_l, rv_v, rv_l, sSet_ap, stK_s, sSetL_ap, slK_s, sSetR_ap, srK_s, sAsg_ap, asK_s, hName_ap, hTup_ap, hCons_ap, hNil_ap, sDrop_ap, drK_s, sRet_ap, rtK_s, sRetL_ap, rlK_s, sRetO_ap, roK_s, sFz_ap, fzK_s, fzK_ro, fzK_lr, sApp_ap, apK_s, sPut_ap, puK_s, sFor_ap, foK_s, forGo_n, forGo_c, tgK_s, at_nx, at_ct, at_bk, at_rt, at_rl, lComp_ap, coK_s, wipeE_n, wipeE_c, cYes_ap, wiK_t, wiK_f, sqK_ite, rvK_ite, at_ite, boK_ite, rtK_ite, ifK_ite, decide_eq_true_eq, Int.reduceToNat, Int.reduceLT, Int.reduceLE, Int.reduceEq, Int.reduceNeg, Int.reducePow, Int.reduceSub, Int.reduceAdd, Int.reduceMul, iSeqD_ap, iRg1D_ap, iRg2D_ap, iRevD_ap, iEnumD_ap, iZipD_ap, seqK_l, seqK_t, seqK_s, rg1K_i, rg2K_i, revK_l, enuK_l, enuK_x, zipK_l, nat0, nat1, nat2, nat3, nat4, nat5, rvK_rt, rvK_rl, rvK_nx, compGo_n, compGo_c, cdK_y, cdK_s, all_t, eChain_ap, chK_ll, hUnl_ap, revL_ap, kyE_ap, kyeK_i, kyeK_s, kyeK_x, kyT_ap, kytK_ix, eDGet_ap, eDIn_ap, eDGet1_ap, eDGet2_ap, sDNew_ap, sDPutD_ap, dpK_T, dpK_K, sFzK_ap, fzkK_s, fzkK_ro, rdB_oK, pNil_ap, pCons_ap, pcK_s, pcK_x, eDisp_ap, dispK_1, fzL_ap, fzLK_s, fzT_ap, fzTK_s, fzE_ap, fzEK_s, xIO_ap, xiK_s, sRetP_ap, rpK_s, gIO_ap, ioR_rp, ioR_nx, ioK_s, sqK_rp, ioR_ite, envIO, sClear_ap, clK_s, sExt_ap, exK_s, sSetX_ap, xsK_s, xPop_ap, poK_s, poK_1, xPopAt_ap, patK_0, xaNil_ap, xaCons_ap, xacK_s, xTup_ap, xtK_s, xE_ap, xeK_s, xCall_ap, xclK_s, sAsgX_ap, xagK_s, sDropX_ap, xdK_s, sRetX_ap, xrK_s, sAppX_ap, axK_s, ax2K_s, ne_bb, ifK_v, ifK_nv, bOrK_v, bOrK_nv, bAndK_v, bAndK_nv, andK_v, orK_v, andK_nv, orK_nv,
  List.getElem?_cons_succ, List.getElem?_cons_zero, List.set_cons_succ, List.set_cons_zero, Option.bind_some, Option.map_some, Option.bind_none, Option.map_none,
  add_x, len_x, ix_x, eq_x, ne_x, isx_int, isx_bool, isx_str, isx_tuple, isx_list, isNx, notNx, sl_x, seq_x, cut_m1, cut_l1, sl_t, sl_l, sl_s, slL_l, cut_lo, cut_hi, cut_lh, cut_nn, add_ii, add_ss, add_tt, sub_ii, mul_l, mul_r, div_ii, mod_ii, pow_ii, lt_ii, le_ii, gt_ii, ge_ii, eq_ii, eq_bb, eq_ss, ne_ii, ne_ss, len_l, len_t, len_s, int_i, int_b, min_ii, max_ii, tup_l, tup_t, list_l, list_t, neg_i, not_b, ix_l, ix_t, atI_0, atI_1, atI_2, atI_3, atI_4,
  isN_n, isN_i, isN_s, isN_b, isN_t, isN_l, notN_n, notN_i, notN_s, notN_b, notN_t, notN_l, isB, notB, isi_i_int, isi_b_int, isi_s_int, isi_t_int, isi_l_int, isi_n_int, isi_i_bool, isi_b_bool, isi_s_bool, isi_t_bool, isi_l_bool, isi_n_bool, isi_i_str, isi_b_str, isi_s_str, isi_t_str, isi_l_str, isi_n_str, isi_i_tuple, isi_b_tuple, isi_s_tuple, isi_t_tuple, isi_l_tuple, isi_n_tuple, isi_i_list, isi_b_list, isi_s_list, isi_t_list, isi_l_list, isi_n_list])
theorem lit_sgs : PyData.str (Str.ofString "abz-+.,_/:;'!x") = sx [97, 98, 122, 45, 43, 46, 44, 95, 47, 58, 59, 39, 33, 120] := by
  unfold sx
  rw [show Str.ofString "abz-+.,_/:;'!x" = ⟨[97, 98, 122, 45, 43, 46, 44, 95, 47, 58, 59, 39, 33, 120].toArray⟩ from by decide +kernel]
theorem lit_s0 : PyData.str (Str.ofString " 0") = sx [32, 48] := by
  unfold sx
  rw [show Str.ofString " 0" = ⟨[32, 48].toArray⟩ from by decide +kernel]
theorem lit_1 : PyData.str (Str.ofString "1") = sx [49] := by
  unfold sx
  rw [show Str.ofString "1" = ⟨[49].toArray⟩ from by decide +kernel]
theorem lit_000 : PyData.str (Str.ofString "000") = sx [48, 48, 48] := by
  unfold sx
  rw [show Str.ofString "000" = ⟨[48, 48, 48].toArray⟩ from by decide +kernel]
theorem lit_on : PyData.str (Str.ofString "on") = sx [111, 110] := by
  unfold sx
  rw [show Str.ofString "on" = ⟨[111, 110].toArray⟩ from by decide +kernel]
theorem lit_upb : PyData.str (Str.ofString "up ") = sx [117, 112, 32] := by
  unfold sx
  rw [show Str.ofString "up " = ⟨[117, 112, 32].toArray⟩ from by decide +kernel]
theorem lit_dnb : PyData.str (Str.ofString "down ") = sx [100, 111, 119, 110, 32] := by
  unfold sx
  rw [show Str.ofString "down " = ⟨[100, 111, 119, 110, 32].toArray⟩ from by decide +kernel]
theorem lit_bnt : PyData.str (Str.ofString " \n\t") = sx [32, 10, 9] := by
  unfold sx
  rw [show Str.ofString " \n\t" = ⟨[32, 10, 9].toArray⟩ from by decide +kernel]
local macro_rules | `(tactic| walk_at "z") => `(tactic| simp -implicitDefEqProofs (disch := first | omega | (simp only [List.length_cons, List.length_nil, List.length_append, List.length_map, List.length_set, List.length_reverse, List.length_take, List.length_drop, List.length_range]; done) | (simp only [List.length_cons, List.length_nil, List.length_append, List.length_map, List.length_set, List.length_reverse, List.length_take, List.length_drop, List.length_range]; omega) | fail) only [List.length_map, chK_lelt, lit_digs, lit_0, lit_00, lit_sp, lit_nl, lit_up, lit_dn, sRaise_ap, rsK_s, sqK_ex, at_ex, gX_ap, rxK_rt, rxK_rl, rxK_nx, rxK_ex, noX_ap, nxK_s, sTryA_ap, sTryB_ap, tyA_s, tyK_ok, okA_v, okB_s, tyK_P, tyK_T, kIsI_ap, kiK_PP, kiK_PT, kiK_PV, kiK_TP, kiK_TT, kiK_TV, kiK_n, kAt_ap, ktK_P, ktK_T, kNon_ap, knK_x, knK_n, rxK_ite, v_cell, v_mixed, lit_sgs, lit_s0, lit_1, lit_000, lit_on, lit_upb, lit_dnb, lit_bnt, len_x, gF_ap, env0, List.map_cons, List.map_nil, List.length_cons, List.length_nil, List.cons_append, List.nil_append, List.replicate_succ, List.replicate_zero, Nat.reduceAdd, Nat.reduceSub, if_true, if_false, eq_self, List.getD_cons_zero, Int.toNat_natCast, Nat.reduceEqDiff, reduceIte, reduceCtorEq, decide_true, decide_false, Bool.not_true, Bool.not_false, Bool.and_true, Bool.true_and, Bool.and_false, Bool.false_and, Bool.or_true, Bool.true_or, Bool.or_false, Bool.false_or,
  sSeq_ap, sqK_nx, sqK_rt, sqK_rl, sqK_bk, sqK_ct, sqK_no, sIf_ap, ifK_t, ifK_f, ifK_d, ifK_nd, sNil_ap, sBk_ap, sCt_ap, sRetN_ap, sBad_ap, eVar_ap, bVar_ap, mVar_ap, rdV_ro, rdV_lr, rdB_ro, rdB_lr, rdB_ow, rdM_lr, rdM_ow, nVar_ap, rdN_ro, rdN_lr, rdN_ow, eC_ap, e1_ap, e2_ap, e3_ap, b1_s, b2_s, b3_s, aNil_ap, aCons_ap, cnK_s, eCall_ap, caK_s, eTup_ap, tupK_s, lLst_ap, lstK_s, liL_ap, liK_s, lCat_ap, catK_s, oNone_ap, oSome_ap, oSK_i, asB_ap, boK_b, eAnd_ap, eOr_ap, andK_t, andK_f, orK_t, orK_f, andK_d, orK_d, bAnd_ap, bOr_ap, bAndK_t, bAndK_f, bOrK_t, bOrK_f, bAndK_d, bOrK_d, bAndK_nd, bOrK_nd, bNot_ap, toD_s, toL_l, rv_v, rv_l, sSet_ap, stK_s, sSetL_ap, slK_s, sSetR_ap, srK_s, sAsg_ap, asK_s, hName_ap, hTup_ap, hCons_ap, hNil_ap, sDrop_ap, drK_s, sRet_ap, rtK_s, sRetL_ap, rlK_s, sRetO_ap, roK_s, sFz_ap, fzK_s, fzK_ro, fzK_lr, sApp_ap, apK_s, sPut_ap, puK_s, sFor_ap, foK_s, forGo_n, forGo_c, tgK_s, at_nx, at_ct, at_bk, at_rt, at_rl, lComp_ap, coK_s, wipeE_n, wipeE_c, cYes_ap, wiK_t, wiK_f, sqK_ite, rvK_ite, at_ite, boK_ite, rtK_ite, ifK_ite, decide_eq_true_eq, Int.reduceToNat, Int.reduceLT, Int.reduceLE, Int.reduceEq, Int.reduceNeg, Int.reducePow, Int.reduceSub, Int.reduceAdd, Int.reduceMul, iSeqD_ap, iRg1D_ap, iRg2D_ap, iRevD_ap, iEnumD_ap, iZipD_ap, seqK_l, seqK_t, seqK_s, rg1K_i, rg2K_i, revK_l, enuK_l, enuK_x, zipK_l, nat0, nat1, nat2, nat3, nat4, nat5, rvK_rt, rvK_rl, rvK_nx, compGo_n, compGo_c, cdK_y, cdK_s, all_t, eChain_ap, chK_ll, hUnl_ap, revL_ap, kyE_ap, kyeK_i, kyeK_s, kyeK_x, kyT_ap, kytK_ix, eDGet_ap, eDIn_ap, eDGet1_ap, eDGet2_ap, sDNew_ap, sDPutD_ap, dpK_T, dpK_K, sFzK_ap, fzkK_s, fzkK_ro, rdB_oK, pNil_ap, pCons_ap, pcK_s, pcK_x, eDisp_ap, dispK_1, fzL_ap, fzLK_s, fzT_ap, fzTK_s, fzE_ap, fzEK_s, xIO_ap, xiK_s, sRetP_ap, rpK_s, gIO_ap, ioR_rp, ioR_nx, ioK_s, sqK_rp, ioR_ite, envIO, sClear_ap, clK_s, sExt_ap, exK_s, sSetX_ap, xsK_s, xPop_ap, poK_s, poK_1, xPopAt_ap, patK_0, xaNil_ap, xaCons_ap, xacK_s, xTup_ap, xtK_s, xE_ap, xeK_s, xCall_ap, xclK_s, sAsgX_ap, xagK_s, sDropX_ap, xdK_s, sRetX_ap, xrK_s, sAppX_ap, axK_s, ax2K_s, ne_bb, ifK_v, ifK_nv, bOrK_v, bOrK_nv, bAndK_v, bAndK_nv, andK_v, orK_v, andK_nv, orK_nv,
  List.getElem?_cons_succ, List.getElem?_cons_zero, List.set_cons_succ, List.set_cons_zero, Option.bind_some, Option.map_some, Option.bind_none, Option.map_none,
  add_x, len_x, ix_x, eq_x, ne_x, isx_int, isx_bool, isx_str, isx_tuple, isx_list, isNx, notNx, sl_x, seq_x, cut_m1, cut_l1, sl_t, sl_l, sl_s, slL_l, cut_lo, cut_hi, cut_lh, cut_nn, add_ii, add_ss, add_tt, sub_ii, mul_l, mul_r, div_ii, mod_ii, pow_ii, lt_ii, le_ii, gt_ii, ge_ii, eq_ii, eq_bb, eq_ss, ne_ii, ne_ss, len_l, len_t, len_s, int_i, int_b, min_ii, max_ii, tup_l, tup_t, list_l, list_t, neg_i, not_b, ix_l, ix_t, atI_0, atI_1, atI_2, atI_3, atI_4,
  isN_n, isN_i, isN_s, isN_b, isN_t, isN_l, notN_n, notN_i, notN_s, notN_b, notN_t, notN_l, isB, notB, isi_i_int, isi_b_int, isi_s_int, isi_t_int, isi_l_int, isi_n_int, isi_i_bool, isi_b_bool, isi_s_bool, isi_t_bool, isi_l_bool, isi_n_bool, isi_i_str, isi_b_str, isi_s_str, isi_t_str, isi_l_str, isi_n_str, isi_i_tuple, isi_b_tuple, isi_s_tuple, isi_t_tuple, isi_l_tuple, isi_n_tuple, isi_i_list, isi_b_list, isi_s_list, isi_t_list, isi_l_list, isi_n_list])
local macro_rules | `(tactic| walk_at "y") => `(tactic| simp -implicitDefEqProofs (disch := first | omega | (simp only [List.length_cons, List.length_nil, List.length_append, List.length_map, List.length_set, List.length_reverse, List.length_take, List.length_drop, List.length_range]; done) | (simp only [List.length_cons, List.length_nil, List.length_append, List.length_map, List.length_set, List.length_reverse, List.length_take, List.length_drop, List.length_range]; omega) | fail) only [*, List.length_map, chK_lelt, lit_digs, lit_0, lit_00, lit_sp, lit_nl, lit_up, lit_dn, sRaise_ap, rsK_s, sqK_ex, at_ex, gX_ap, rxK_rt, rxK_rl, rxK_nx, rxK_ex, noX_ap, nxK_s, sTryA_ap, sTryB_ap, tyA_s, tyK_ok, okA_v, okB_s, tyK_P, tyK_T, kIsI_ap, kiK_PP, kiK_PT, kiK_PV, kiK_TP, kiK_TT, kiK_TV, kiK_n, kAt_ap, ktK_P, ktK_T, kNon_ap, knK_x, knK_n, rxK_ite, v_cell, v_mixed, lit_sgs, lit_s0, lit_1, lit_000, lit_on, lit_upb, lit_dnb, lit_bnt, len_x, gF_ap, env0, List.map_cons, List.map_nil, List.length_cons, List.length_nil, List.cons_append, List.nil_append, List.replicate_succ, List.replicate_zero, Nat.reduceAdd, Nat.reduceSub, if_true, if_false, eq_self, List.getD_cons_zero, Int.toNat_natCast, Nat.reduceEqDiff, reduceIte, reduceCtorEq, decide_true, decide_false, Bool.not_true, Bool.not_false, Bool.and_true, Bool.true_and, Bool.and_false, Bool.false_and, Bool.or_true, Bool.true_or, Bool.or_false, Bool.false_or,
  sSeq_ap, sqK_nx, sqK_rt, sqK_rl, sqK_bk, sqK_ct, sqK_no, sIf_ap, ifK_t, ifK_f, ifK_d, ifK_nd, sNil_ap, sBk_ap, sCt_ap, sRetN_ap, sBad_ap, eVar_ap, bVar_ap, mVar_ap, rdV_ro, rdV_lr, rdB_ro, rdB_lr, rdB_ow, rdM_lr, rdM_ow, nVar_ap, rdN_ro, rdN_lr, rdN_ow, eC_ap, e1_ap, e2_ap, e3_ap, b1_s, b2_s, b3_s, aNil_ap, aCons_ap, cnK_s, eCall_ap, caK_s, eTup_ap, tupK_s, lLst_ap, lstK_s, liL_ap, liK_s, lCat_ap, catK_s, oNone_ap, oSome_ap, oSK_i, asB_ap, boK_b, eAnd_ap, eOr_ap, andK_t, andK_f, orK_t, orK_f, andK_d, orK_d, bAnd_ap, bOr_ap, bAndK_t, bAndK_f, bOrK_t, bOrK_f, bAndK_d, bOrK_d, bAndK_nd, bOrK_nd, bNot_ap, toD_s, toL_l, rv_v, rv_l, sSet_ap, stK_s, sSetL_ap, slK_s, sSetR_ap, srK_s, sAsg_ap, asK_s, hName_ap, hTup_ap, hCons_ap, hNil_ap, sDrop_ap, drK_s, sRet_ap, rtK_s, sRetL_ap, rlK_s, sRetO_ap, roK_s, sFz_ap, fzK_s, fzK_ro, fzK_lr, sApp_ap, apK_s, sPut_ap, puK_s, sFor_ap, foK_s, forGo_n, forGo_c, tgK_s, at_nx, at_ct, at_bk, at_rt, at_rl, lComp_ap, coK_s, wipeE_n, wipeE_c, cYes_ap, wiK_t, wiK_f, sqK_ite, rvK_ite, at_ite, boK_ite, rtK_ite, ifK_ite, decide_eq_true_eq, Int.reduceToNat, Int.reduceLT, Int.reduceLE, Int.reduceEq, Int.reduceNeg, Int.reducePow, Int.reduceSub, Int.reduceAdd, Int.reduceMul, iSeqD_ap, iRg1D_ap, iRg2D_ap, iRevD_ap, iEnumD_ap, iZipD_ap, seqK_l, seqK_t, seqK_s, rg1K_i, rg2K_i, revK_l, enuK_l, enuK_x, zipK_l, nat0, nat1, nat2, nat3, nat4, nat5, rvK_rt, rvK_rl, rvK_nx, compGo_n, compGo_c, cdK_y, cdK_s, all_t, eChain_ap, chK_ll, hUnl_ap, revL_ap, kyE_ap, kyeK_i, kyeK_s, kyeK_x, kyT_ap, kytK_ix, eDGet_ap, eDIn_ap, eDGet1_ap, eDGet2_ap, sDNew_ap, sDPutD_ap, dpK_T, dpK_K, sFzK_ap, fzkK_s, fzkK_ro, rdB_oK, pNil_ap, pCons_ap, pcK_s, pcK_x, eDisp_ap, dispK_1, fzL_ap, fzLK_s, fzT_ap, fzTK_s, fzE_ap, fzEK_s, xIO_ap, xiK_s, sRetP_ap, rpK_s, gIO_ap, ioR_rp, ioR_nx, ioK_s, sqK_rp, ioR_ite, envIO, sClear_ap, clK_s, sExt_ap, exK_s, sSetX_ap, xsK_s, xPop_ap, poK_s, poK_1, xPopAt_ap, patK_0, xaNil_ap, xaCons_ap, xacK_s, xTup_ap, xtK_s, xE_ap, xeK_s, xCall_ap, xclK_s, sAsgX_ap, xagK_s, sDropX_ap, xdK_s, sRetX_ap, xrK_s, sAppX_ap, axK_s, ax2K_s, ne_bb, ifK_v, ifK_nv, bOrK_v, bOrK_nv, bAndK_v, bAndK_nv, andK_v, orK_v, andK_nv, orK_nv,
  List.getElem?_cons_succ, List.getElem?_cons_zero, List.set_cons_succ, List.set_cons_zero, Option.bind_some, Option.map_some, Option.bind_none, Option.map_none,
  add_x, len_x, ix_x, eq_x, ne_x, isx_int, isx_bool, isx_str, isx_tuple, isx_list, isNx, notNx, sl_x, seq_x, cut_m1, cut_l1, sl_t, sl_l, sl_s, slL_l, cut_lo, cut_hi, cut_lh, cut_nn, add_ii, add_ss, add_tt, sub_ii, mul_l, mul_r, div_ii, mod_ii, pow_ii, lt_ii, le_ii, gt_ii, ge_ii, eq_ii, eq_bb, eq_ss, ne_ii, ne_ss, len_l, len_t, len_s, int_i, int_b, min_ii, max_ii, tup_l, tup_t, list_l, list_t, neg_i, not_b, ix_l, ix_t, atI_0, atI_1, atI_2, atI_3, atI_4,
  isN_n, isN_i, isN_s, isN_b, isN_t, isN_l, notN_n, notN_i, notN_s, notN_b, notN_t, notN_l, isB, notB, isi_i_int, isi_b_int, isi_s_int, isi_t_int, isi_l_int, isi_n_int, isi_i_bool, isi_b_bool, isi_s_bool, isi_t_bool, isi_l_bool, isi_n_bool, isi_i_str, isi_b_str, isi_s_str, isi_t_str, isi_l_str, isi_n_str, isi_i_tuple, isi_b_tuple, isi_s_tuple, isi_t_tuple, isi_l_tuple, isi_n_tuple, isi_i_list, isi_b_list, isi_s_list, isi_t_list, isi_l_list, isi_n_list])
/-! ### what a word writes -/
def isFig (c : Nat) : Bool := decide (48 ≤ c) && decide (c ≤ 57)
def numB (p : List Nat) : Bool := decide (1 ≤ p.length) && decide (p.length ≤ 3) && !(decide (p.headD 0 = 48) && decide (1 < p.length)) && p.all isFig
def numD (p : List Nat) : D := if numB p = true then .int ((PySem.NumText.digitsVal p : Nat) : Int) else .none
theorem isFig_in (c : Nat) : decide (c ∈ [48, 49, 50, 51, 52, 53, 54, 55, 56, 57]) = isFig c := by
  unfold isFig
  rw [Bool.eq_iff_iff, decide_eq_true_eq, Bool.and_eq_true, decide_eq_true_eq, decide_eq_true_eq]
  constructor
  · intro h
    simp only [List.mem_cons, List.not_mem_nil, or_false] at h
    omega
  · intro h
    simp only [List.mem_cons, List.not_mem_nil, or_false]
    omega
theorem int_fig {p : List Nat} (h : p.all isFig = true) (h1 : 1 ≤ p.length) (h3 : p.length ≤ 3) : intSD [sx p] = some (.int ((PySem.NumText.digitsVal p : Nat) : Int)) := by
  have e : PySem.intText? ⟨p.toArray⟩ = some ((PySem.NumText.digitsVal p : Nat) : Int) := SX.int_S (a := p) h (fun e => by rw [e] at h1; cases h1) (by omega)
  show (if (⟨p.toArray⟩ : Str).length ≤ 640 then (PySem.intText? ⟨p.toArray⟩).map PyData.int else none) = _
  rw [if_pos (by rw [sx_len]; omega), e]; rfl
theorem v_number (p : List Nat) (hl : p.length ≤ 1000) : g_p_number_of [sx p] = some (.v (numD p)) := by
  unfold g_p_number_of F_p_number_of
  have hg : p.getD 0 0 = p.headD 0 := by cases p <;> rfl
  by_cases c1 : 1 ≤ p.length
  · have c1' : (1 : Int) ≤ p.length := by omega
    by_cases c2 : p.length ≤ 3
    · have c2' : (p.length : Int) ≤ 3 := by omega
      by_cases c3 : p.headD 0 = 48 ∧ 1 < p.length
      · have e : numD p = .none := by
          unfold numD numB
          rw [decide_eq_true c3.1, decide_eq_true c3.2]
          simp
        rw [e]
        have c4 : [p.headD 0] = [48] := by rw [c3.1]
        have c5 : (1 : Int) < p.length := by omega
        clear c3
        walk_at "y"
      · have hgo : ∀ X, forGo (hName 1) (sIf (asB (e2 (inD true) (bVar 1) (eC (sx [48, 49, 50, 51, 52, 53, 54, 55, 56, 57])))) (sRet (eC .none)) (sNil)) (p.map fun c => sx [c]) [some (.ro (sx p)), none] = X → sqK X (sRet (eCall intSD (aCons (bVar 0) (aNil)))) = some (.rt (numD p)) := fun X hX => by
          rcases loop_find (fun v : Option SV => [some (SV.ro (sx p)), v]) (fun c => sx [c]) (fun c => !isFig c) (fun _ => .none) none hX (fun c hc v => by
            have hin : inD true (sx [c]) (sx [48, 49, 50, 51, 52, 53, 54, 55, 56, 57]) = some (.bool (!isFig c)) := by
              show (if (⟨[c].toArray⟩ : Str).length = 1 then some (PyData.bool (decide (c ∈ [48, 49, 50, 51, 52, 53, 54, 55, 56, 57]) != true)) else none) = _
              rw [if_pos (show (⟨[c].toArray⟩ : Str).length = 1 from rfl), isFig_in]
              cases isFig c <;> rfl
            cases hb : isFig c with
            | false =>
              rw [hb] at hin
              refine .inl ⟨rfl, ?_⟩
              clear hX hc hg c3
              walk_at "y"
            | true =>
              rw [hb] at hin
              refine .inr ⟨rfl, some (.ro (sx [c])), ?_⟩
              clear hX hc hg c3
              walk_at "y") with ⟨c, h1, rfl⟩ | ⟨h1, v', rfl⟩
          · have hf : p.all isFig = false := by
              rw [List.all_eq_false]
              exact ⟨c, List.mem_of_find?_eq_some h1, by
                have := List.find?_some (p := fun c => !isFig c) h1
                simpa using this⟩
            have e : numD p = .none := by
              unfold numD numB
              rw [hf, Bool.and_false]; rfl
            rw [e]; rfl
          · have hf : p.all isFig = true := by
              rw [List.all_eq_true]
              intro c hc
              have := List.find?_eq_none.mp h1 c hc
              simpa using this
            have e : numD p = .int ((PySem.NumText.digitsVal p : Nat) : Int) := by
              unfold numD numB
              rw [hf, decide_eq_true c1, decide_eq_true c2]
              rw [show (decide (p.headD 0 = 48) && decide (1 < p.length)) = false from by
                rw [Bool.and_eq_false_iff, decide_eq_false_iff_not, decide_eq_false_iff_not]
                exact Classical.or_iff_not_imp_left.mpr fun z => by
                  have z : p.headD 0 = 48 := Classical.byContradiction z
                  exact fun w => c3 ⟨z, w⟩]
              rfl
            have hi := int_fig hf c1 c2
            rw [e]
            clear hX hg c3 h1 hf e
            walk_at "y"
        by_cases c6 : p.headD 0 = 48
        · have c7 : ¬ (1 : Int) < p.length := fun z => c3 ⟨c6, by omega⟩
          have c4 : [p.headD 0] = [48] := by rw [c6]
          have hgo' := hgo _ rfl
          clear c3 hgo
          walk_at "y"
        · have c4 : ¬ [p.headD 0] = [48] := fun e => c6 (List.cons.inj e).1
          have hgo' := hgo _ rfl
          clear c3 hgo c6
          walk_at "y"
    · have c2' : ¬ (p.length : Int) ≤ 3 := by omega
      have e : numD p = .none := by
        unfold numD numB
        rw [decide_eq_false c2]
        simp
      rw [e]
      walk_at "y"
  · have c1' : ¬ (1 : Int) ≤ p.length := by omega
    have e : numD p = .none := by
      unfold numD numB
      rw [decide_eq_false c1]
      simp
    rw [e]
    walk_at "y"
local macro_rules | `(tactic| walk_at "z") => `(tactic| simp -implicitDefEqProofs (disch := first | omega | (simp only [List.length_cons, List.length_nil, List.length_append, List.length_map, List.length_set, List.length_reverse, List.length_take, List.length_drop, List.length_range]; done) | (simp only [List.length_cons, List.length_nil, List.length_append, List.length_map, List.length_set, List.length_reverse, List.length_take, List.length_drop, List.length_range]; omega) | fail) only [List.length_map, chK_lelt, lit_digs, lit_0, lit_00, lit_sp, lit_nl, lit_up, lit_dn, sRaise_ap, rsK_s, sqK_ex, at_ex, gX_ap, rxK_rt, rxK_rl, rxK_nx, rxK_ex, noX_ap, nxK_s, sTryA_ap, sTryB_ap, tyA_s, tyK_ok, okA_v, okB_s, tyK_P, tyK_T, kIsI_ap, kiK_PP, kiK_PT, kiK_PV, kiK_TP, kiK_TT, kiK_TV, kiK_n, kAt_ap, ktK_P, ktK_T, kNon_ap, knK_x, knK_n, rxK_ite, v_cell, v_mixed, lit_sgs, lit_s0, lit_1, lit_000, lit_on, lit_upb, lit_dnb, lit_bnt, len_x, v_number, gF_ap, env0, List.map_cons, List.map_nil, List.length_cons, List.length_nil, List.cons_append, List.nil_append, List.replicate_succ, List.replicate_zero, Nat.reduceAdd, Nat.reduceSub, if_true, if_false, eq_self, List.getD_cons_zero, Int.toNat_natCast, Nat.reduceEqDiff, reduceIte, reduceCtorEq, decide_true, decide_false, Bool.not_true, Bool.not_false, Bool.and_true, Bool.true_and, Bool.and_false, Bool.false_and, Bool.or_true, Bool.true_or, Bool.or_false, Bool.false_or,
  sSeq_ap, sqK_nx, sqK_rt, sqK_rl, sqK_bk, sqK_ct, sqK_no, sIf_ap, ifK_t, ifK_f, ifK_d, ifK_nd, sNil_ap, sBk_ap, sCt_ap, sRetN_ap, sBad_ap, eVar_ap, bVar_ap, mVar_ap, rdV_ro, rdV_lr, rdB_ro, rdB_lr, rdB_ow, rdM_lr, rdM_ow, nVar_ap, rdN_ro, rdN_lr, rdN_ow, eC_ap, e1_ap, e2_ap, e3_ap, b1_s, b2_s, b3_s, aNil_ap, aCons_ap, cnK_s, eCall_ap, caK_s, eTup_ap, tupK_s, lLst_ap, lstK_s, liL_ap, liK_s, lCat_ap, catK_s, oNone_ap, oSome_ap, oSK_i, asB_ap, boK_b, eAnd_ap, eOr_ap, andK_t, andK_f, orK_t, orK_f, andK_d, orK_d, bAnd_ap, bOr_ap, bAndK_t, bAndK_f, bOrK_t, bOrK_f, bAndK_d, bOrK_d, bAndK_nd, bOrK_nd, bNot_ap, toD_s, toL_l, rv_v, rv_l, sSet_ap, stK_s, sSetL_ap, slK_s, sSetR_ap, srK_s, sAsg_ap, asK_s, hName_ap, hTup_ap, hCons_ap, hNil_ap, sDrop_ap, drK_s, sRet_ap, rtK_s, sRetL_ap, rlK_s, sRetO_ap, roK_s, sFz_ap, fzK_s, fzK_ro, fzK_lr, sApp_ap, apK_s, sPut_ap, puK_s, sFor_ap, foK_s, forGo_n, forGo_c, tgK_s, at_nx, at_ct, at_bk, at_rt, at_rl, lComp_ap, coK_s, wipeE_n, wipeE_c, cYes_ap, wiK_t, wiK_f, sqK_ite, rvK_ite, at_ite, boK_ite, rtK_ite, ifK_ite, decide_eq_true_eq, Int.reduceToNat, Int.reduceLT, Int.reduceLE, Int.reduceEq, Int.reduceNeg, Int.reducePow, Int.reduceSub, Int.reduceAdd, Int.reduceMul, iSeqD_ap, iRg1D_ap, iRg2D_ap, iRevD_ap, iEnumD_ap, iZipD_ap, seqK_l, seqK_t, seqK_s, rg1K_i, rg2K_i, revK_l, enuK_l, enuK_x, zipK_l, nat0, nat1, nat2, nat3, nat4, nat5, rvK_rt, rvK_rl, rvK_nx, compGo_n, compGo_c, cdK_y, cdK_s, all_t, eChain_ap, chK_ll, hUnl_ap, revL_ap, kyE_ap, kyeK_i, kyeK_s, kyeK_x, kyT_ap, kytK_ix, eDGet_ap, eDIn_ap, eDGet1_ap, eDGet2_ap, sDNew_ap, sDPutD_ap, dpK_T, dpK_K, sFzK_ap, fzkK_s, fzkK_ro, rdB_oK, pNil_ap, pCons_ap, pcK_s, pcK_x, eDisp_ap, dispK_1, fzL_ap, fzLK_s, fzT_ap, fzTK_s, fzE_ap, fzEK_s, xIO_ap, xiK_s, sRetP_ap, rpK_s, gIO_ap, ioR_rp, ioR_nx, ioK_s, sqK_rp, ioR_ite, envIO, sClear_ap, clK_s, sExt_ap, exK_s, sSetX_ap, xsK_s, xPop_ap, poK_s, poK_1, xPopAt_ap, patK_0, xaNil_ap, xaCons_ap, xacK_s, xTup_ap, xtK_s, xE_ap, xeK_s, xCall_ap, xclK_s, sAsgX_ap, xagK_s, sDropX_ap, xdK_s, sRetX_ap, xrK_s, sAppX_ap, axK_s, ax2K_s, ne_bb, ifK_v, ifK_nv, bOrK_v, bOrK_nv, bAndK_v, bAndK_nv, andK_v, orK_v, andK_nv, orK_nv,
  List.getElem?_cons_succ, List.getElem?_cons_zero, List.set_cons_succ, List.set_cons_zero, Option.bind_some, Option.map_some, Option.bind_none, Option.map_none,
  add_x, len_x, ix_x, eq_x, ne_x, isx_int, isx_bool, isx_str, isx_tuple, isx_list, isNx, notNx, sl_x, seq_x, cut_m1, cut_l1, sl_t, sl_l, sl_s, slL_l, cut_lo, cut_hi, cut_lh, cut_nn, add_ii, add_ss, add_tt, sub_ii, mul_l, mul_r, div_ii, mod_ii, pow_ii, lt_ii, le_ii, gt_ii, ge_ii, eq_ii, eq_bb, eq_ss, ne_ii, ne_ss, len_l, len_t, len_s, int_i, int_b, min_ii, max_ii, tup_l, tup_t, list_l, list_t, neg_i, not_b, ix_l, ix_t, atI_0, atI_1, atI_2, atI_3, atI_4,
  isN_n, isN_i, isN_s, isN_b, isN_t, isN_l, notN_n, notN_i, notN_s, notN_b, notN_t, notN_l, isB, notB, isi_i_int, isi_b_int, isi_s_int, isi_t_int, isi_l_int, isi_n_int, isi_i_bool, isi_b_bool, isi_s_bool, isi_t_bool, isi_l_bool, isi_n_bool, isi_i_str, isi_b_str, isi_s_str, isi_t_str, isi_l_str, isi_n_str, isi_i_tuple, isi_b_tuple, isi_s_tuple, isi_t_tuple, isi_l_tuple, isi_n_tuple, isi_i_list, isi_b_list, isi_s_list, isi_t_list, isi_l_list, isi_n_list])
local macro_rules | `(tactic| walk_at "y") => `(tactic| simp -implicitDefEqProofs (disch := first | omega | (simp only [List.length_cons, List.length_nil, List.length_append, List.length_map, List.length_set, List.length_reverse, List.length_take, List.length_drop, List.length_range]; done) | (simp only [List.length_cons, List.length_nil, List.length_append, List.length_map, List.length_set, List.length_reverse, List.length_take, List.length_drop, List.length_range]; omega) | fail) only [*, List.length_map, chK_lelt, lit_digs, lit_0, lit_00, lit_sp, lit_nl, lit_up, lit_dn, sRaise_ap, rsK_s, sqK_ex, at_ex, gX_ap, rxK_rt, rxK_rl, rxK_nx, rxK_ex, noX_ap, nxK_s, sTryA_ap, sTryB_ap, tyA_s, tyK_ok, okA_v, okB_s, tyK_P, tyK_T, kIsI_ap, kiK_PP, kiK_PT, kiK_PV, kiK_TP, kiK_TT, kiK_TV, kiK_n, kAt_ap, ktK_P, ktK_T, kNon_ap, knK_x, knK_n, rxK_ite, v_cell, v_mixed, lit_sgs, lit_s0, lit_1, lit_000, lit_on, lit_upb, lit_dnb, lit_bnt, len_x, v_number, gF_ap, env0, List.map_cons, List.map_nil, List.length_cons, List.length_nil, List.cons_append, List.nil_append, List.replicate_succ, List.replicate_zero, Nat.reduceAdd, Nat.reduceSub, if_true, if_false, eq_self, List.getD_cons_zero, Int.toNat_natCast, Nat.reduceEqDiff, reduceIte, reduceCtorEq, decide_true, decide_false, Bool.not_true, Bool.not_false, Bool.and_true, Bool.true_and, Bool.and_false, Bool.false_and, Bool.or_true, Bool.true_or, Bool.or_false, Bool.false_or,
  sSeq_ap, sqK_nx, sqK_rt, sqK_rl, sqK_bk, sqK_ct, sqK_no, sIf_ap, ifK_t, ifK_f, ifK_d, ifK_nd, sNil_ap, sBk_ap, sCt_ap, sRetN_ap, sBad_ap, eVar_ap, bVar_ap, mVar_ap, rdV_ro, rdV_lr, rdB_ro, rdB_lr, rdB_ow, rdM_lr, rdM_ow, nVar_ap, rdN_ro, rdN_lr, rdN_ow, eC_ap, e1_ap, e2_ap, e3_ap, b1_s, b2_s, b3_s, aNil_ap, aCons_ap, cnK_s, eCall_ap, caK_s, eTup_ap, tupK_s, lLst_ap, lstK_s, liL_ap, liK_s, lCat_ap, catK_s, oNone_ap, oSome_ap, oSK_i, asB_ap, boK_b, eAnd_ap, eOr_ap, andK_t, andK_f, orK_t, orK_f, andK_d, orK_d, bAnd_ap, bOr_ap, bAndK_t, bAndK_f, bOrK_t, bOrK_f, bAndK_d, bOrK_d, bAndK_nd, bOrK_nd, bNot_ap, toD_s, toL_l, rv_v, rv_l, sSet_ap, stK_s, sSetL_ap, slK_s, sSetR_ap, srK_s, sAsg_ap, asK_s, hName_ap, hTup_ap, hCons_ap, hNil_ap, sDrop_ap, drK_s, sRet_ap, rtK_s, sRetL_ap, rlK_s, sRetO_ap, roK_s, sFz_ap, fzK_s, fzK_ro, fzK_lr, sApp_ap, apK_s, sPut_ap, puK_s, sFor_ap, foK_s, forGo_n, forGo_c, tgK_s, at_nx, at_ct, at_bk, at_rt, at_rl, lComp_ap, coK_s, wipeE_n, wipeE_c, cYes_ap, wiK_t, wiK_f, sqK_ite, rvK_ite, at_ite, boK_ite, rtK_ite, ifK_ite, decide_eq_true_eq, Int.reduceToNat, Int.reduceLT, Int.reduceLE, Int.reduceEq, Int.reduceNeg, Int.reducePow, Int.reduceSub, Int.reduceAdd, Int.reduceMul, iSeqD_ap, iRg1D_ap, iRg2D_ap, iRevD_ap, iEnumD_ap, iZipD_ap, seqK_l, seqK_t, seqK_s, rg1K_i, rg2K_i, revK_l, enuK_l, enuK_x, zipK_l, nat0, nat1, nat2, nat3, nat4, nat5, rvK_rt, rvK_rl, rvK_nx, compGo_n, compGo_c, cdK_y, cdK_s, all_t, eChain_ap, chK_ll, hUnl_ap, revL_ap, kyE_ap, kyeK_i, kyeK_s, kyeK_x, kyT_ap, kytK_ix, eDGet_ap, eDIn_ap, eDGet1_ap, eDGet2_ap, sDNew_ap, sDPutD_ap, dpK_T, dpK_K, sFzK_ap, fzkK_s, fzkK_ro, rdB_oK, pNil_ap, pCons_ap, pcK_s, pcK_x, eDisp_ap, dispK_1, fzL_ap, fzLK_s, fzT_ap, fzTK_s, fzE_ap, fzEK_s, xIO_ap, xiK_s, sRetP_ap, rpK_s, gIO_ap, ioR_rp, ioR_nx, ioK_s, sqK_rp, ioR_ite, envIO, sClear_ap, clK_s, sExt_ap, exK_s, sSetX_ap, xsK_s, xPop_ap, poK_s, poK_1, xPopAt_ap, patK_0, xaNil_ap, xaCons_ap, xacK_s, xTup_ap, xtK_s, xE_ap, xeK_s, xCall_ap, xclK_s, sAsgX_ap, xagK_s, sDropX_ap, xdK_s, sRetX_ap, xrK_s, sAppX_ap, axK_s, ax2K_s, ne_bb, ifK_v, ifK_nv, bOrK_v, bOrK_nv, bAndK_v, bAndK_nv, andK_v, orK_v, andK_nv, orK_nv,
  List.getElem?_cons_succ, List.getElem?_cons_zero, List.set_cons_succ, List.set_cons_zero, Option.bind_some, Option.map_some, Option.bind_none, Option.map_none,
  add_x, len_x, ix_x, eq_x, ne_x, isx_int, isx_bool, isx_str, isx_tuple, isx_list, isNx, notNx, sl_x, seq_x, cut_m1, cut_l1, sl_t, sl_l, sl_s, slL_l, cut_lo, cut_hi, cut_lh, cut_nn, add_ii, add_ss, add_tt, sub_ii, mul_l, mul_r, div_ii, mod_ii, pow_ii, lt_ii, le_ii, gt_ii, ge_ii, eq_ii, eq_bb, eq_ss, ne_ii, ne_ss, len_l, len_t, len_s, int_i, int_b, min_ii, max_ii, tup_l, tup_t, list_l, list_t, neg_i, not_b, ix_l, ix_t, atI_0, atI_1, atI_2, atI_3, atI_4,
  isN_n, isN_i, isN_s, isN_b, isN_t, isN_l, notN_n, notN_i, notN_s, notN_b, notN_t, notN_l, isB, notB, isi_i_int, isi_b_int, isi_s_int, isi_t_int, isi_l_int, isi_n_int, isi_i_bool, isi_b_bool, isi_s_bool, isi_t_bool, isi_l_bool, isi_n_bool, isi_i_str, isi_b_str, isi_s_str, isi_t_str, isi_l_str, isi_n_str, isi_i_tuple, isi_b_tuple, isi_s_tuple, isi_t_tuple, isi_l_tuple, isi_n_tuple, isi_i_list, isi_b_list, isi_s_list, isi_t_list, isi_l_list, isi_n_list])
/-! ### what a line tells -/
def numsB (ps : List (List Nat)) : Bool := ps.all numB
def piecesB : List (List Nat) → Bool
  | [] => false
  | p :: ps => numsB ps && (decide (p = [117, 112]) && decide (ps.length = 2) || decide (p = [100, 111, 119, 110]) && decide (ps.length = 3))
def rowB (L : List Nat) : Bool := piecesB (spl 32 L)
def dNum : D → D
  | .str s => numD s.cps.toList
  | d => d
theorem eqv_numD (p : List Nat) : PyData.eqv (numD p) .none = !numB p := by
  unfold numD
  cases h : numB p with
  | true => rfl
  | false => rfl
theorem okd_numD (p : List Nat) : okd 63 (numD p) := by
  unfold numD
  split
  · exact okd_int
  · exact okd_none
theorem none_in (ps : List (List Nat)) (n : Nat) : inLD false .none (.list (ps.map numD)) = some (.bool (!numsB ps)) := by
  unfold inLD
  dsimp only
  have s2 : SeqAt.shaped (.list (ps.map numD)) = true := by
    have k := okd_list (n := 63) (ds := ps.map numD) fun d hd => by
      obtain ⟨p, _, rfl⟩ := List.mem_map.mp hd
      exact okd_numD p
    show ((PyData.list _).canLay0 && decide ((PyData.list _).depth ≤ 64)) = true
    rw [k.1, decide_eq_true k.2]; rfl
  rw [if_pos ⟨rfl, s2⟩]
  have : ((ps.map numD).any fun z => PyData.eqv z .none) = !numsB ps := by
    unfold numsB
    induction ps with
    | nil => rfl
    | cons p ps ih =>
      rw [List.map_cons, List.any_cons, List.all_cons, eqv_numD, Bool.not_and]
      congr 1
      exact ih (by
        have k := okd_list (n := 63) (ds := ps.map numD) fun d hd => by
          obtain ⟨p, _, rfl⟩ := List.mem_map.mp hd
          exact okd_numD p
        show ((PyData.list _).canLay0 && decide ((PyData.list _).depth ≤ 64)) = true
        rw [k.1, decide_eq_true k.2]; rfl)
  rw [this]
  cases numsB ps <;> rfl
theorem v_row (L : List Nat) (hl : L.length ≤ 900) : ∃ d, g_p_row_read [sx L] = some (.v d) ∧ isND false d .none = some (.bool (!rowB L)) := by
  have hs := split_sx (c := 32) (show L.length ≤ 1000000 by omega)
  obtain ⟨p, ps, hps⟩ := spl_ne 32 L
  have hpl := spl_len (c := 32) L
  have hpm : ∀ q ∈ p :: ps, q.length ≤ 900 := fun q hq => by
    rw [← hps] at hq
    have := (spl_mem hq).1
    omega
  have hr : rowB L = piecesB (p :: ps) := congrArg piecesB hps
  rw [hr]
  rw [hps, List.length_cons] at hpl
  rw [hps, List.map_cons] at hs
  unfold g_p_row_read F_p_row_read
  have hc : ∀ Y, compGo (hName 3) cYes (eCall (fun ds => toD (g_p_number_of ds)) (aCons (eVar 3) aNil)) [some (.ro (sx L)), some (.lr (sx p :: ps.map sx)), none, none] (ps.map sx) = Y → Y = some (ps.map numD) := fun Y hY => by
    obtain rfl := comp_map dNum hY fun d hd => by
      obtain ⟨q, hq, rfl⟩ := List.mem_map.mp hd
      have hv := v_number q (by have := hpm q (List.mem_cons_of_mem _ hq); omega)
      show _ = some [numD q]
      clear hY hd hs hpm
      walk_at "y"
    rw [List.map_map]
    rfl
  have hci := hc _ rfl
  have hnin := none_in ps 0
  have hdr : List.drop 1 (sx p :: ps.map sx) = ps.map sx := rfl
  have hML : (ps.map numD).length = ps.length := List.length_map ..
  have hSL : (ps.map sx).length ≤ 1000 := by rw [List.length_map]; omega
  have hMl : ((ps.map numD).length : Int) = ps.length := by rw [hML]
  have hMl2 : (ps.map numD).length ≤ 1000 := by rw [hML]; omega
  clear hc hpm hps hr
  rw [show piecesB (p :: ps) = (numsB ps && (decide (p = [117, 112]) && decide (ps.length = 2) || decide (p = [100, 111, 119, 110]) && decide (ps.length = 3))) from rfl]
  cases hb : numsB ps with
  | false =>
    rw [hb] at hnin
    refine ⟨.none, ?_, rfl⟩
    generalize ps.map numD = M at *
    generalize ps.map sx = S at *
    walk_at "y"
  | true =>
    rw [hb] at hnin
    by_cases c1 : p = [117, 112]
    · subst c1
      by_cases c2 : ps.length = 2
      · have c2' : ((ps.map numD).length : Int) = 2 := by omega
        refine ⟨.tuple (sx [117, 112] :: ps.map numD), ?_, by rw [c2]; rfl⟩
        generalize ps.map numD = M at *
        generalize ps.map sx = S at *
        clear hMl hML
        walk_at "y"
      · have c2' : ¬ ((ps.map numD).length : Int) = 2 := by omega
        have hne : ¬ ([117, 112] : List Nat) = [100, 111, 119, 110] := by decide
        refine ⟨.none, ?_, by rw [decide_eq_false c2, decide_eq_false hne]; rfl⟩
        generalize ps.map numD = M at *
        generalize ps.map sx = S at *
        clear hMl hML
        walk_at "y"
    · by_cases c3 : p = [100, 111, 119, 110]
      · subst c3
        by_cases c2 : ps.length = 3
        · have c2' : ((ps.map numD).length : Int) = 3 := by omega
          refine ⟨.tuple (sx [100, 111, 119, 110] :: ps.map numD), ?_, by rw [c2, decide_eq_false c1]; rfl⟩
          generalize ps.map numD = M at *
          generalize ps.map sx = S at *
          clear hMl hML
          walk_at "y"
        · have c2' : ¬ ((ps.map numD).length : Int) = 3 := by omega
          refine ⟨.none, ?_, by rw [decide_eq_false c2, decide_eq_false c1]; rfl⟩
          generalize ps.map numD = M at *
          generalize ps.map sx = S at *
          clear hMl hML
          walk_at "y"
      · refine ⟨.none, ?_, by rw [decide_eq_false c3, decide_eq_false c1]; rfl⟩
        generalize ps.map numD = M at *
        generalize ps.map sx = S at *
        clear hMl hML
        walk_at "y"
/-! ### what a text tells -/
theorem loop_ex2 {β V : Type} {F : En → Option Out} {h : D → En → Option En} (E : V → En) (enc : β → D) (p : β → Bool) (nm : Str) (I : Nat → V → Prop) : ∀ (bs : List β) (n : Nat) (v : V) {X : Option Out}, forGo h F (enumD n (bs.map enc)) (E v) = X → I n v →
    (∀ b ∈ bs, ∀ (i : Nat) v, i < n + bs.length → I i v → (p b = true ∧ (h (.tuple [.int (i : Int), enc b]) (E v)).bind F = some (.ex nm (.int (i : Int)))) ∨ (p b = false ∧ ∃ v', (h (.tuple [.int (i : Int), enc b]) (E v)).bind F = some (.nx (E v')) ∧ I (i + 1) v')) →
    (∃ i, bs.findIdx? p = some i ∧ X = some (.ex nm (.int ((n + i : Nat) : Int)))) ∨ (bs.findIdx? p = none ∧ ∃ v', X = some (.nx (E v')) ∧ I (n + bs.length) v')
  | [], n, v, _, e, i0, _ => .inr ⟨rfl, v, e.symm, i0⟩
  | b :: bs, n, v, X, e, i0, q => by
    have e : tgK F (forGo h F (enumD (n + 1) (bs.map enc))) (h (.tuple [.int (n : Int), enc b]) (E v)) = X := by rw [← e]; exact forGo_c.symm
    have q' : ∀ c ∈ bs, ∀ (i : Nat) v, i < n + 1 + bs.length → I i v → (p c = true ∧ (h (.tuple [.int (i : Int), enc c]) (E v)).bind F = some (.ex nm (.int (i : Int)))) ∨ (p c = false ∧ ∃ v', (h (.tuple [.int (i : Int), enc c]) (E v)).bind F = some (.nx (E v')) ∧ I (i + 1) v') :=
      fun c hc i v hi => q c (List.mem_cons_of_mem _ hc) i v (by rw [List.length_cons]; omega)
    have tg : ∀ (o : Option En) (k : En → Option Out), tgK F k o = afterTurn k (o.bind F) := fun o k => by cases o <;> rfl
    rw [tg] at e
    rw [List.findIdx?_cons]
    rcases q b List.mem_cons_self n v (by rw [List.length_cons]; omega) i0 with ⟨h1, h2⟩ | ⟨h1, v', h2, i1⟩
    · rw [h2] at e
      rw [h1]
      exact .inl ⟨0, rfl, e.symm⟩
    · rw [h2] at e
      rw [h1]
      have e : forGo h F (enumD (n + 1) (bs.map enc)) (E v') = X := e
      rcases loop_ex2 E enc p nm I bs (n + 1) v' e i1 q' with ⟨i, j1, j2⟩ | ⟨j1, v2, j2, j3⟩
      · refine .inl ⟨i + 1, by simp [j1], ?_⟩
        rw [j2, show n + 1 + i = n + (i + 1) from by omega]
      · exact .inr ⟨by simp [j1], v2, j2, by rw [List.length_cons, show n + (bs.length + 1) = n + 1 + bs.length from by omega]; exact j3⟩
/-- what a text comes to -/
def Tells (T : List Nat) (ls : List (List Nat)) : Prop := (∃ i : Nat, ls.findIdx? (fun l => !rowB l) = some i ∧ g_p_counter_read [sx T] = some (.ex "NoProgram" (.int (i : Int)))) ∨ (ls.findIdx? (fun l => !rowB l) = none ∧ ∃ ds : List D, ds.length = ls.length ∧ g_p_counter_read [sx T] = some (.ok (.l ds)))
theorem v_read (T : List Nat) (hne : T ≠ []) (hl : T.length ≤ 900) : Tells T (spl 10 T) := by
  have hs := split_sx (c := 10) (show T.length ≤ 1000000 by omega)
  have hpl := spl_len (c := 10) T
  have hpm : ∀ q ∈ spl 10 T, q.length ≤ 900 := fun q hq => by
    have := (spl_mem hq).1
    omega
  unfold Tells g_p_counter_read F_p_counter_read
  generalize spl 10 T = ls at *
  obtain ⟨S, hS⟩ : ∃ S, ls.map sx = S := ⟨_, rfl⟩
  rw [hS] at hs
  have hSl : S.length ≤ 901 := by rw [← hS, List.length_map]; omega
  have hT : ¬ T = [] := hne
  have key : ∀ X, forGo (hTup 2 (hCons (hName 2) (hCons (hName 3) (hNil))))
    (sSeq (sSet 4 (eCall (fun ds => toD (g_p_row_read ds)) (aCons (eVar 3) (aNil))))
    (sSeq (sIf (asB (e2 (isND false) (bVar 4) (eC .none)))
    (sRaise "NoProgram" (eVar 2))
    (sNil))
    (sApp 1 (eVar 4)))) (enumD 0 S) [some (.ro (sx T)), some (.ow []), none, none, none] = X → (∃ i : Nat, ls.findIdx? (fun l => !rowB l) = some i ∧ X = some (.ex "NoProgram" (.int (i : Int)))) ∨ (ls.findIdx? (fun l => !rowB l) = none ∧ ∃ (ds : List D) (u1 u2 u3 : Option SV), ds.length = ls.length ∧ X = some (.nx [some (.ro (sx T)), some (.ow ds), u1, u2, u3])) := fun X hX => by
    rw [← hS] at hX
    rcases loop_ex2 (fun v : List D × Option SV × Option SV × Option SV => [some (SV.ro (sx T)), some (SV.ow v.1), v.2.1, v.2.2.1, v.2.2.2]) sx (fun l => !rowB l) "NoProgram" (fun n v => v.1.length = n) ls 0 ([], none, none, none) hX rfl (fun l hm i v hi hI => by
      obtain ⟨ds, u1, u2, u3⟩ := v
      dsimp only at hI ⊢
      obtain ⟨d, hd1, hd2⟩ := v_row l (hpm l hm)
      have hdl : ds.length < 1000 := by omega
      cases hb : rowB l with
      | false =>
        rw [hb] at hd2
        refine .inl ⟨rfl, ?_⟩
        clear hX hs hpm hm hI hS
        walk_at "y"
      | true =>
        rw [hb] at hd2
        refine .inr ⟨rfl, (ds ++ [d], some (.ro (.int (i : Int))), some (.ro (sx l)), some (.ro d)), ?_, by rw [List.length_append, hI]; rfl⟩
        clear hX hs hpm hm hI hS
        walk_at "y") with ⟨i, h1, rfl⟩ | ⟨h1, ⟨ds, u1, u2, u3⟩, rfl, h2⟩
    · exact .inl ⟨i, h1, by rw [Nat.zero_add]⟩
    · exact .inr ⟨h1, ds, u1, u2, u3, by rw [Nat.zero_add] at h2; exact h2, rfl⟩
  rcases key _ rfl with ⟨i, h1, h2⟩ | ⟨h1, ds, u1, u2, u3, h2, h3⟩
  · refine .inl ⟨i, h1, ?_⟩
    clear key hpm hS hne
    walk_at "y"
  · refine .inr ⟨h1, ds, h2, ?_⟩
    clear key hpm hS hne
    walk_at "y"
theorem v_refused (T : List Nat) (i : Nat) (h : g_p_counter_read [sx T] = some (.ex "NoProgram" (.int (i : Int)))) : g_l_refused [sx T, .int (i : Int)] = some (.v (.bool true)) := by
  unfold g_l_refused F_l_refused
  walk_at "y"
local macro_rules | `(tactic| walk_at "z") => `(tactic| simp -implicitDefEqProofs (disch := first | omega | (simp only [List.length_cons, List.length_nil, List.length_append, List.length_map, List.length_set, List.length_reverse, List.length_take, List.length_drop, List.length_range]; done) | (simp only [List.length_cons, List.length_nil, List.length_append, List.length_map, List.length_set, List.length_reverse, List.length_take, List.length_drop, List.length_range]; omega) | fail) only [List.length_map, chK_lelt, lit_digs, lit_0, lit_00, lit_sp, lit_nl, lit_up, lit_dn, sRaise_ap, rsK_s, sqK_ex, at_ex, gX_ap, rxK_rt, rxK_rl, rxK_nx, rxK_ex, noX_ap, nxK_s, sTryA_ap, sTryB_ap, tyA_s, tyK_ok, okA_v, okB_s, tyK_P, tyK_T, kIsI_ap, kiK_PP, kiK_PT, kiK_PV, kiK_TP, kiK_TT, kiK_TV, kiK_n, kAt_ap, ktK_P, ktK_T, kNon_ap, knK_x, knK_n, rxK_ite, v_cell, v_mixed, lit_sgs, lit_s0, lit_1, lit_000, lit_on, lit_upb, lit_dnb, lit_bnt, len_x, v_number, v_refused, gF_ap, env0, List.map_cons, List.map_nil, List.length_cons, List.length_nil, List.cons_append, List.nil_append, List.replicate_succ, List.replicate_zero, Nat.reduceAdd, Nat.reduceSub, if_true, if_false, eq_self, List.getD_cons_zero, Int.toNat_natCast, Nat.reduceEqDiff, reduceIte, reduceCtorEq, decide_true, decide_false, Bool.not_true, Bool.not_false, Bool.and_true, Bool.true_and, Bool.and_false, Bool.false_and, Bool.or_true, Bool.true_or, Bool.or_false, Bool.false_or,
  sSeq_ap, sqK_nx, sqK_rt, sqK_rl, sqK_bk, sqK_ct, sqK_no, sIf_ap, ifK_t, ifK_f, ifK_d, ifK_nd, sNil_ap, sBk_ap, sCt_ap, sRetN_ap, sBad_ap, eVar_ap, bVar_ap, mVar_ap, rdV_ro, rdV_lr, rdB_ro, rdB_lr, rdB_ow, rdM_lr, rdM_ow, nVar_ap, rdN_ro, rdN_lr, rdN_ow, eC_ap, e1_ap, e2_ap, e3_ap, b1_s, b2_s, b3_s, aNil_ap, aCons_ap, cnK_s, eCall_ap, caK_s, eTup_ap, tupK_s, lLst_ap, lstK_s, liL_ap, liK_s, lCat_ap, catK_s, oNone_ap, oSome_ap, oSK_i, asB_ap, boK_b, eAnd_ap, eOr_ap, andK_t, andK_f, orK_t, orK_f, andK_d, orK_d, bAnd_ap, bOr_ap, bAndK_t, bAndK_f, bOrK_t, bOrK_f, bAndK_d, bOrK_d, bAndK_nd, bOrK_nd, bNot_ap, toD_s, toL_l, rv_v, rv_l, sSet_ap, stK_s, sSetL_ap, slK_s, sSetR_ap, srK_s, sAsg_ap, asK_s, hName_ap, hTup_ap, hCons_ap, hNil_ap, sDrop_ap, drK_s, sRet_ap, rtK_s, sRetL_ap, rlK_s, sRetO_ap, roK_s, sFz_ap, fzK_s, fzK_ro, fzK_lr, sApp_ap, apK_s, sPut_ap, puK_s, sFor_ap, foK_s, forGo_n, forGo_c, tgK_s, at_nx, at_ct, at_bk, at_rt, at_rl, lComp_ap, coK_s, wipeE_n, wipeE_c, cYes_ap, wiK_t, wiK_f, sqK_ite, rvK_ite, at_ite, boK_ite, rtK_ite, ifK_ite, decide_eq_true_eq, Int.reduceToNat, Int.reduceLT, Int.reduceLE, Int.reduceEq, Int.reduceNeg, Int.reducePow, Int.reduceSub, Int.reduceAdd, Int.reduceMul, iSeqD_ap, iRg1D_ap, iRg2D_ap, iRevD_ap, iEnumD_ap, iZipD_ap, seqK_l, seqK_t, seqK_s, rg1K_i, rg2K_i, revK_l, enuK_l, enuK_x, zipK_l, nat0, nat1, nat2, nat3, nat4, nat5, rvK_rt, rvK_rl, rvK_nx, compGo_n, compGo_c, cdK_y, cdK_s, all_t, eChain_ap, chK_ll, hUnl_ap, revL_ap, kyE_ap, kyeK_i, kyeK_s, kyeK_x, kyT_ap, kytK_ix, eDGet_ap, eDIn_ap, eDGet1_ap, eDGet2_ap, sDNew_ap, sDPutD_ap, dpK_T, dpK_K, sFzK_ap, fzkK_s, fzkK_ro, rdB_oK, pNil_ap, pCons_ap, pcK_s, pcK_x, eDisp_ap, dispK_1, fzL_ap, fzLK_s, fzT_ap, fzTK_s, fzE_ap, fzEK_s, xIO_ap, xiK_s, sRetP_ap, rpK_s, gIO_ap, ioR_rp, ioR_nx, ioK_s, sqK_rp, ioR_ite, envIO, sClear_ap, clK_s, sExt_ap, exK_s, sSetX_ap, xsK_s, xPop_ap, poK_s, poK_1, xPopAt_ap, patK_0, xaNil_ap, xaCons_ap, xacK_s, xTup_ap, xtK_s, xE_ap, xeK_s, xCall_ap, xclK_s, sAsgX_ap, xagK_s, sDropX_ap, xdK_s, sRetX_ap, xrK_s, sAppX_ap, axK_s, ax2K_s, ne_bb, ifK_v, ifK_nv, bOrK_v, bOrK_nv, bAndK_v, bAndK_nv, andK_v, orK_v, andK_nv, orK_nv,
  List.getElem?_cons_succ, List.getElem?_cons_zero, List.set_cons_succ, List.set_cons_zero, Option.bind_some, Option.map_some, Option.bind_none, Option.map_none,
  add_x, len_x, ix_x, eq_x, ne_x, isx_int, isx_bool, isx_str, isx_tuple, isx_list, isNx, notNx, sl_x, seq_x, cut_m1, cut_l1, sl_t, sl_l, sl_s, slL_l, cut_lo, cut_hi, cut_lh, cut_nn, add_ii, add_ss, add_tt, sub_ii, mul_l, mul_r, div_ii, mod_ii, pow_ii, lt_ii, le_ii, gt_ii, ge_ii, eq_ii, eq_bb, eq_ss, ne_ii, ne_ss, len_l, len_t, len_s, int_i, int_b, min_ii, max_ii, tup_l, tup_t, list_l, list_t, neg_i, not_b, ix_l, ix_t, atI_0, atI_1, atI_2, atI_3, atI_4,
  isN_n, isN_i, isN_s, isN_b, isN_t, isN_l, notN_n, notN_i, notN_s, notN_b, notN_t, notN_l, isB, notB, isi_i_int, isi_b_int, isi_s_int, isi_t_int, isi_l_int, isi_n_int, isi_i_bool, isi_b_bool, isi_s_bool, isi_t_bool, isi_l_bool, isi_n_bool, isi_i_str, isi_b_str, isi_s_str, isi_t_str, isi_l_str, isi_n_str, isi_i_tuple, isi_b_tuple, isi_s_tuple, isi_t_tuple, isi_l_tuple, isi_n_tuple, isi_i_list, isi_b_list, isi_s_list, isi_t_list, isi_l_list, isi_n_list])
local macro_rules | `(tactic| walk_at "y") => `(tactic| simp -implicitDefEqProofs (disch := first | omega | (simp only [List.length_cons, List.length_nil, List.length_append, List.length_map, List.length_set, List.length_reverse, List.length_take, List.length_drop, List.length_range]; done) | (simp only [List.length_cons, List.length_nil, List.length_append, List.length_map, List.length_set, List.length_reverse, List.length_take, List.length_drop, List.length_range]; omega) | fail) only [*, List.length_map, chK_lelt, lit_digs, lit_0, lit_00, lit_sp, lit_nl, lit_up, lit_dn, sRaise_ap, rsK_s, sqK_ex, at_ex, gX_ap, rxK_rt, rxK_rl, rxK_nx, rxK_ex, noX_ap, nxK_s, sTryA_ap, sTryB_ap, tyA_s, tyK_ok, okA_v, okB_s, tyK_P, tyK_T, kIsI_ap, kiK_PP, kiK_PT, kiK_PV, kiK_TP, kiK_TT, kiK_TV, kiK_n, kAt_ap, ktK_P, ktK_T, kNon_ap, knK_x, knK_n, rxK_ite, v_cell, v_mixed, lit_sgs, lit_s0, lit_1, lit_000, lit_on, lit_upb, lit_dnb, lit_bnt, len_x, v_number, v_refused, gF_ap, env0, List.map_cons, List.map_nil, List.length_cons, List.length_nil, List.cons_append, List.nil_append, List.replicate_succ, List.replicate_zero, Nat.reduceAdd, Nat.reduceSub, if_true, if_false, eq_self, List.getD_cons_zero, Int.toNat_natCast, Nat.reduceEqDiff, reduceIte, reduceCtorEq, decide_true, decide_false, Bool.not_true, Bool.not_false, Bool.and_true, Bool.true_and, Bool.and_false, Bool.false_and, Bool.or_true, Bool.true_or, Bool.or_false, Bool.false_or,
  sSeq_ap, sqK_nx, sqK_rt, sqK_rl, sqK_bk, sqK_ct, sqK_no, sIf_ap, ifK_t, ifK_f, ifK_d, ifK_nd, sNil_ap, sBk_ap, sCt_ap, sRetN_ap, sBad_ap, eVar_ap, bVar_ap, mVar_ap, rdV_ro, rdV_lr, rdB_ro, rdB_lr, rdB_ow, rdM_lr, rdM_ow, nVar_ap, rdN_ro, rdN_lr, rdN_ow, eC_ap, e1_ap, e2_ap, e3_ap, b1_s, b2_s, b3_s, aNil_ap, aCons_ap, cnK_s, eCall_ap, caK_s, eTup_ap, tupK_s, lLst_ap, lstK_s, liL_ap, liK_s, lCat_ap, catK_s, oNone_ap, oSome_ap, oSK_i, asB_ap, boK_b, eAnd_ap, eOr_ap, andK_t, andK_f, orK_t, orK_f, andK_d, orK_d, bAnd_ap, bOr_ap, bAndK_t, bAndK_f, bOrK_t, bOrK_f, bAndK_d, bOrK_d, bAndK_nd, bOrK_nd, bNot_ap, toD_s, toL_l, rv_v, rv_l, sSet_ap, stK_s, sSetL_ap, slK_s, sSetR_ap, srK_s, sAsg_ap, asK_s, hName_ap, hTup_ap, hCons_ap, hNil_ap, sDrop_ap, drK_s, sRet_ap, rtK_s, sRetL_ap, rlK_s, sRetO_ap, roK_s, sFz_ap, fzK_s, fzK_ro, fzK_lr, sApp_ap, apK_s, sPut_ap, puK_s, sFor_ap, foK_s, forGo_n, forGo_c, tgK_s, at_nx, at_ct, at_bk, at_rt, at_rl, lComp_ap, coK_s, wipeE_n, wipeE_c, cYes_ap, wiK_t, wiK_f, sqK_ite, rvK_ite, at_ite, boK_ite, rtK_ite, ifK_ite, decide_eq_true_eq, Int.reduceToNat, Int.reduceLT, Int.reduceLE, Int.reduceEq, Int.reduceNeg, Int.reducePow, Int.reduceSub, Int.reduceAdd, Int.reduceMul, iSeqD_ap, iRg1D_ap, iRg2D_ap, iRevD_ap, iEnumD_ap, iZipD_ap, seqK_l, seqK_t, seqK_s, rg1K_i, rg2K_i, revK_l, enuK_l, enuK_x, zipK_l, nat0, nat1, nat2, nat3, nat4, nat5, rvK_rt, rvK_rl, rvK_nx, compGo_n, compGo_c, cdK_y, cdK_s, all_t, eChain_ap, chK_ll, hUnl_ap, revL_ap, kyE_ap, kyeK_i, kyeK_s, kyeK_x, kyT_ap, kytK_ix, eDGet_ap, eDIn_ap, eDGet1_ap, eDGet2_ap, sDNew_ap, sDPutD_ap, dpK_T, dpK_K, sFzK_ap, fzkK_s, fzkK_ro, rdB_oK, pNil_ap, pCons_ap, pcK_s, pcK_x, eDisp_ap, dispK_1, fzL_ap, fzLK_s, fzT_ap, fzTK_s, fzE_ap, fzEK_s, xIO_ap, xiK_s, sRetP_ap, rpK_s, gIO_ap, ioR_rp, ioR_nx, ioK_s, sqK_rp, ioR_ite, envIO, sClear_ap, clK_s, sExt_ap, exK_s, sSetX_ap, xsK_s, xPop_ap, poK_s, poK_1, xPopAt_ap, patK_0, xaNil_ap, xaCons_ap, xacK_s, xTup_ap, xtK_s, xE_ap, xeK_s, xCall_ap, xclK_s, sAsgX_ap, xagK_s, sDropX_ap, xdK_s, sRetX_ap, xrK_s, sAppX_ap, axK_s, ax2K_s, ne_bb, ifK_v, ifK_nv, bOrK_v, bOrK_nv, bAndK_v, bAndK_nv, andK_v, orK_v, andK_nv, orK_nv,
  List.getElem?_cons_succ, List.getElem?_cons_zero, List.set_cons_succ, List.set_cons_zero, Option.bind_some, Option.map_some, Option.bind_none, Option.map_none,
  add_x, len_x, ix_x, eq_x, ne_x, isx_int, isx_bool, isx_str, isx_tuple, isx_list, isNx, notNx, sl_x, seq_x, cut_m1, cut_l1, sl_t, sl_l, sl_s, slL_l, cut_lo, cut_hi, cut_lh, cut_nn, add_ii, add_ss, add_tt, sub_ii, mul_l, mul_r, div_ii, mod_ii, pow_ii, lt_ii, le_ii, gt_ii, ge_ii, eq_ii, eq_bb, eq_ss, ne_ii, ne_ss, len_l, len_t, len_s, int_i, int_b, min_ii, max_ii, tup_l, tup_t, list_l, list_t, neg_i, not_b, ix_l, ix_t, atI_0, atI_1, atI_2, atI_3, atI_4,
  isN_n, isN_i, isN_s, isN_b, isN_t, isN_l, notN_n, notN_i, notN_s, notN_b, notN_t, notN_l, isB, notB, isi_i_int, isi_b_int, isi_s_int, isi_t_int, isi_l_int, isi_n_int, isi_i_bool, isi_b_bool, isi_s_bool, isi_t_bool, isi_l_bool, isi_n_bool, isi_i_str, isi_b_str, isi_s_str, isi_t_str, isi_l_str, isi_n_str, isi_i_tuple, isi_b_tuple, isi_s_tuple, isi_t_tuple, isi_l_tuple, isi_n_tuple, isi_i_list, isi_b_list, isi_s_list, isi_t_list, isi_l_list, isi_n_list])
/-! ### lines that tell rows -/
theorem joinC_cons (c : Nat) (p : List Nat) (ps : List (List Nat)) : joinC c (p :: ps) = p ++ ps.flatMap fun q => c :: q := rfl
theorem joinC_mid (c : Nat) (a : List Nat) (A : List (List Nat)) (x : List Nat) (B : List (List Nat)) : joinC c (a :: A ++ x :: B) = joinC c (a :: A) ++ [c] ++ x ++ B.flatMap fun q => c :: q := by
  rw [List.cons_append, joinC_cons, joinC_cons, List.flatMap_append, List.flatMap_cons]
  simp
theorem joinC_in (c : Nat) : ∀ (ps : List (List Nat)) (x : Nat), x ∈ joinC c ps → x = c ∨ ∃ p ∈ ps, x ∈ p
  | [], x, h => by cases h
  | p :: ps, x, h => by
    rw [joinC_cons] at h
    rcases List.mem_append.mp h with h | h
    · exact .inr ⟨p, List.mem_cons_self, h⟩
    · obtain ⟨q, hq, h⟩ := List.mem_flatMap.mp h
      rcases List.mem_cons.mp h with h | h
      · exact .inl h
      · exact .inr ⟨q, List.mem_cons_of_mem _ hq, h⟩
theorem fig_row {n : Nat} (h : n < 1000) : numB (fig n) = true := by
  obtain ⟨a1, a2, a3, a4, a5, a6, a7⟩ := fig_get h
  unfold numB
  have e : (fig n).all isFig = true := List.all_eq_true.mpr fun c hc => by
    obtain ⟨b1, b2⟩ := a2 c hc
    unfold isFig
    rw [decide_eq_true b1, decide_eq_true b2]; rfl
  have e2 : (decide ((fig n).headD 0 = 48) && decide (1 < (fig n).length)) = false := by
    rw [Bool.and_eq_false_iff, decide_eq_false_iff_not, decide_eq_false_iff_not]
    rcases a6 with h1 | h1
    · rcases a7 with h2 | h2
      · omega
      · exact .inr (by omega)
    · exact .inl h1
  rw [e, e2, decide_eq_true a4, decide_eq_true a5]; rfl
theorem pb_eq {p : List Nat} {ps : List (List Nat)} : piecesB (p :: ps) = (ps.all numB && (decide (p = [117, 112]) && decide (ps.length = 2) || decide (p = [100, 111, 119, 110]) && decide (ps.length = 3))) := rfl
theorem row_good {r : WR} (h : r.ok) : rowB (lineC r) = true := by
  unfold rowB lineC pcs
  rw [spl_joinC _ _ fun q hq c => by
    have := pcs_free h q hq 32 c
    omega]
  rw [pb_eq]
  have e : (r.2.map fig).all numB = true := List.all_eq_true.mpr fun p hp => by
    obtain ⟨n, hn, rfl⟩ := List.mem_map.mp hp
    exact fig_row (h.2 n hn)
  rw [e, List.length_map, h.1]
  cases r.1 <;> rfl
def Bad (L : List Nat) : Prop := rowB L = false ∧ L.length ≤ 40 ∧ 10 ∉ L
theorem bad_pieces {p : List Nat} {ps : List (List Nat)} (hf : ∀ q ∈ p :: ps, ∀ c ∈ q, c ≠ 32 ∧ c ≠ 10) (hb : piecesB (p :: ps) = false) (hl : (joinC 32 (p :: ps)).length ≤ 40) : Bad (joinC 32 (p :: ps)) := by
  refine ⟨?_, hl, fun h => ?_⟩
  · unfold rowB
    rw [spl_joinC _ _ fun q hq c => (hf q hq 32 c).1 rfl]
    exact hb
  · rcases joinC_in 32 _ 10 h with h | ⟨q, hq, h⟩
    · cases h
    · exact (hf q hq 10 h).2 rfl
theorem pb_num {p q : List Nat} {ps : List (List Nat)} (hq : q ∈ ps) (h : numB q = false) : piecesB (p :: ps) = false := by
  rw [pb_eq]
  rw [show ps.all numB = false from List.all_eq_false.mpr ⟨q, hq, by rw [h]; exact Bool.false_ne_true⟩]; rfl
theorem pb_first {p : List Nat} {ps : List (List Nat)} (h1 : p ≠ [117, 112]) (h2 : p ≠ [100, 111, 119, 110]) : piecesB (p :: ps) = false := by
  rw [pb_eq]
  rw [decide_eq_false h1, decide_eq_false h2]
  cases ps.all numB <;> rfl
theorem pb_cnt {b : Bool} {ps : List (List Nat)} (h : ps.length ≠ if b then 2 else 3) : piecesB (wd b :: ps) = false := by
  rw [pb_eq]
  cases b with
  | true =>
    rw [show decide (ps.length = 2) = false from decide_eq_false h, show decide (wd true = [100, 111, 119, 110]) = false from rfl]
    cases ps.all numB <;> cases decide (wd true = [117, 112]) <;> rfl
  | false =>
    rw [show decide (ps.length = 3) = false from decide_eq_false h, show decide (wd false = [117, 112]) = false from rfl]
    cases ps.all numB <;> cases decide (wd false = [100, 111, 119, 110]) <;> rfl
theorem nb_long {p : List Nat} (h : 3 < p.length) : numB p = false := by
  unfold numB
  rw [decide_eq_false (by omega : ¬ p.length ≤ 3)]
  simp
theorem nb_nil : numB [] = false := rfl
theorem nb_sign {p : List Nat} {c : Nat} (hc : c ∈ p) (h : isFig c = false) : numB p = false := by
  unfold numB
  rw [show p.all isFig = false from List.all_eq_false.mpr ⟨c, hc, by rw [h]; exact Bool.false_ne_true⟩, Bool.and_false]
theorem nb_nought {p : List Nat} (h : 1 ≤ p.length) : numB (48 :: p) = false := by
  unfold numB
  rw [show (decide ((48 :: p).headD 0 = 48) && decide (1 < (48 :: p).length)) = true from by
    rw [decide_eq_true (show (48 :: p).headD 0 = 48 from rfl), decide_eq_true (by rw [List.length_cons]; omega : 1 < (48 :: p).length)]; rfl]
  simp
def sgns : List Nat := [97, 98, 122, 45, 43, 46, 44, 95, 47, 58, 59, 39, 33, 120]
theorem sgns_ok : ∀ j < 14, isFig (sgns.getD j 0) = false ∧ sgns.getD j 0 ≠ 32 ∧ sgns.getD j 0 ≠ 10 := by decide
theorem repl_tab {ps : List (List Nat)} {L : List Nat} (hs : spl 32 L = ps) (hl : L.length ≤ 1000) : replD " " "\t" (sx L) = some (sx (joinC 9 ps)) := by
  have h1 : (" " : Str) = ⟨#[32]⟩ := by decide +kernel
  have h2 : ("\t" : Str) = ⟨#[9]⟩ := by decide +kernel
  rw [h1, h2]
  have h0 : (⟨#[9]⟩ : Str).length = 1 := rfl
  have hsp : (Txt.split ⟨L.toArray⟩ ⟨[32].toArray⟩).map PyData.str = ps.map sx := by
    have e := split_sx (c := 32) (show L.length ≤ 1000000 by omega)
    have e0 : (if ((⟨[32].toArray⟩ : Str).length == 0) = false ∧ (⟨L.toArray⟩ : Str).length ≤ 1000000 then some ((Txt.split ⟨L.toArray⟩ ⟨[32].toArray⟩).map PyData.str) else none) = some ((spl 32 L).map sx) := e
    rw [if_pos ⟨rfl, by rw [sx_len]; omega⟩] at e0
    rw [← hs]
    exact Option.some.inj e0
  have hsp2 : Txt.split ⟨L.toArray⟩ ⟨#[32]⟩ = ps.map fun p => (⟨p.toArray⟩ : Str) := by
    have inj : ∀ (xs : List Str) (ys : List (List Nat)), xs.map PyData.str = ys.map sx → xs = ys.map fun p => (⟨p.toArray⟩ : Str) := fun xs => by
      induction xs with
      | nil => intro ys h; cases ys with
        | nil => rfl
        | cons y ys => cases h
      | cons x xs ih => intro ys h; cases ys with
        | nil => cases h
        | cons y ys =>
          rw [List.map_cons, List.map_cons] at h
          obtain ⟨h1, h2⟩ := List.cons.inj h
          rw [List.map_cons, ← ih ys h2]
          congr 1
          injection h1
    exact inj _ _ hsp
  have e : Txt.replace ⟨L.toArray⟩ ⟨#[32]⟩ ⟨#[9]⟩ = ⟨(joinC 9 ps).toArray⟩ := by
    rw [PySem.StrLaws.replace_one, hsp2]
    have hpl : 1 ≤ ps.length := by
      obtain ⟨p, qs, h⟩ := spl_ne 32 L
      rw [← hs, h, List.length_cons]; omega
    clear hsp hsp2 hs
    have key : ∀ (ps : List (List Nat)) (p : List Nat), Str.join ⟨#[9]⟩ ((p :: ps).map fun p => (⟨p.toArray⟩ : Str)) = ⟨(joinC 9 (p :: ps)).toArray⟩ := fun ps => by
      induction ps with
      | nil => intro p; show (⟨p.toArray⟩ : Str) = _; rw [joinC_cons]; simp
      | cons q qs ih =>
        intro p
        show (⟨p.toArray⟩ : Str) ++ ⟨#[9]⟩ ++ Str.join ⟨#[9]⟩ ((q :: qs).map fun p => (⟨p.toArray⟩ : Str)) = _
        rw [ih q]
        apply congrArg Str.mk
        rw [joinC_cons, joinC_cons, Str.cps_append]
        simp
    cases ps with
    | nil => simp at hpl
    | cons p ps => exact key ps p
  show (if (⟨L.toArray⟩ : Str).length + ((⟨L.toArray⟩ : Str).length + 1) * (⟨#[9]⟩ : Str).length ≤ 16777216 then some (PyData.str (Txt.replace ⟨L.toArray⟩ ⟨#[32]⟩ ⟨#[9]⟩)) else none) = _
  rw [if_pos (by rw [h0, sx_len]; omega), e]
  rfl
theorem up_x {L : List Nat} (h : ∀ c ∈ L, c < 128) (hl : L.length ≤ 1000) : upD (sx L) = some (sx (L.map PyProof.Rows.up1)) := by
  have e : Txt.upper ⟨L.toArray⟩ = ⟨(L.map PyProof.Rows.up1).toArray⟩ := SX.upper_S (a := L) (List.all_eq_true.mpr fun c hc => decide_eq_true (h c hc))
  show (if (⟨L.toArray⟩ : Str).length ≤ 5592405 then some (PyData.str (Txt.upper ⟨L.toArray⟩)) else none) = _
  rw [if_pos (by rw [sx_len]; omega), e]
  rfl
theorem up1_ne {c : Nat} (h : 48 ≤ c) : PyProof.Rows.up1 c ≠ 32 ∧ PyProof.Rows.up1 c ≠ 10 := by
  unfold PyProof.Rows.up1
  split <;> omega
theorem spoilt_all (b : Bool) (A : List (List Nat)) (X : List Nat) (B : List (List Nat)) (sg : Nat) (NO : List Nat) (hf : ∀ q ∈ A ++ X :: B, ∃ n, n < 1000 ∧ q = fig n) (hn : (A ++ X :: B).length = if b then 2 else 3) (hs : isFig sg = false ∧ sg ≠ 32 ∧ sg ≠ 10) (hno : NO.length + X.length = 3 ∨ NO.length + X.length = 4) (hno2 : ∀ c ∈ NO, c = 48) :
    ∀ L ∈ [joinC 32 (wd b :: (A ++ X :: B).dropLast), joinC 32 (wd b :: (A ++ X :: B)) ++ [32, 48], joinC 32 (wd b :: A) ++ [32] ++ [48] ++ X ++ B.flatMap (fun q => 32 :: q), joinC 32 (wd b :: A) ++ [32] ++ (49 :: NO) ++ X ++ B.flatMap (fun q => 32 :: q), joinC 32 (wd b :: A) ++ [32] ++ List.take 1 X ++ [sg] ++ X ++ B.flatMap (fun q => 32 :: q),
      joinC 32 (wd b :: A) ++ [32] ++ [sg] ++ B.flatMap (fun q => 32 :: q), joinC 32 (wd b :: A) ++ [32] ++ X ++ [sg] ++ B.flatMap (fun q => 32 :: q), joinC 32 (wd b :: A) ++ [32] ++ [sg] ++ X ++ B.flatMap (fun q => 32 :: q), 111 :: 110 :: joinC 32 (wd b :: (A ++ X :: B)), joinC 32 (A ++ X :: B), 32 :: joinC 32 (wd b :: (A ++ X :: B)), joinC 32 (wd b :: (A ++ X :: B)) ++ [32],
      joinC 32 (wd b :: A) ++ [32] ++ [32] ++ X ++ B.flatMap (fun q => 32 :: q), joinC 9 (wd b :: (A ++ X :: B)), [], (joinC 32 (wd b :: (A ++ X :: B))).map PyProof.Rows.up1, wd b], Bad L := by
  have hX : 1 ≤ X.length ∧ X.length ≤ 3 := by
    obtain ⟨n, h1, rfl⟩ := hf X (by simp)
    obtain ⟨_, _, _, a4, a5, _⟩ := fig_get h1
    exact ⟨a4, a5⟩
  have hfr : ∀ q ∈ A ++ X :: B, ∀ c ∈ q, 48 ≤ c ∧ c ≤ 57 := fun q hq => by
    obtain ⟨n, h1, rfl⟩ := hf q hq
    exact (fig_get h1).2.1
  have hfW : ∀ c ∈ wd b, 100 ≤ c := fun c hc => wd_in hc
  have hmid := joinC_mid 32 (wd b) A X B
  rw [List.cons_append] at hmid
  have hLl : (joinC 32 (wd b :: (A ++ X :: B))).length ≤ 16 := by
    have : ∀ (F : List (List Nat)), (∀ q ∈ F, q.length ≤ 3) → (F.flatMap fun q => 32 :: q).length ≤ 4 * F.length := fun F => by
      induction F with
      | nil => intro _; exact Nat.le_refl _
      | cons q F ih =>
        intro h
        have h1 := h q List.mem_cons_self
        have h2 := ih fun p hp => h p (List.mem_cons_of_mem _ hp)
        rw [List.flatMap_cons, List.length_append, List.length_cons, List.length_cons]
        omega
    have h1 := this (A ++ X :: B) fun q hq => by
      obtain ⟨n, h1, rfl⟩ := hf q hq
      exact (fig_get h1).2.2.2.2.1
    have h2 := wd_len b
    rw [joinC_cons, List.length_append]
    rw [hn] at h1
    cases b with
    | true => rw [if_pos rfl] at h1; omega
    | false => rw [if_neg (by decide)] at h1; omega
  have hLl2 := hLl
  rw [hmid] at hLl2
  simp only [List.length_append, List.length_singleton] at hLl2
  -- a line with another word at the place
  have put : ∀ Y : List Nat, (∀ c ∈ Y, c ≠ 32 ∧ c ≠ 10) → numB Y = false → Y.length ≤ 8 → Bad (joinC 32 (wd b :: A) ++ [32] ++ Y ++ B.flatMap fun q => 32 :: q) := fun Y h1 h2 h3 => by
    have e := joinC_mid 32 (wd b) A Y B
    rw [List.cons_append] at e
    rw [← e]
    refine bad_pieces (fun q hq c hc => ?_) (pb_num (q := Y) (by simp) h2) ?_
    · rcases List.mem_cons.mp hq with rfl | hq
      · have := hfW c hc; omega
      · rcases List.mem_append.mp hq with hq | hq
        · have := hfr q (List.mem_append_left _ hq) c hc; omega
        · rcases List.mem_cons.mp hq with rfl | hq
          · exact h1 c hc
          · have := hfr q (List.mem_append_right _ (List.mem_cons_of_mem _ hq)) c hc; omega
    · rw [e]
      simp only [List.length_append, List.length_singleton]
      omega
  have hXf : ∀ c ∈ X, 48 ≤ c ∧ c ≤ 57 := hfr X (by simp)
  have hall : ∀ q ∈ wd b :: (A ++ X :: B), ∀ c ∈ q, c ≠ 32 ∧ c ≠ 10 := fun q hq c hc => by
    rcases List.mem_cons.mp hq with rfl | hq
    · have := hfW c hc; omega
    · have := hfr q hq c hc; omega
  have hwl := wd_len b
  have F : ∀ (x : List Nat) (xs : List (List Nat)), Bad x → (∀ L ∈ xs, Bad L) → ∀ L ∈ x :: xs, Bad L := fun x xs h1 h2 L hL => by
    rcases List.mem_cons.mp hL with rfl | hL
    · exact h1
    · exact h2 L hL
  have hsn : numB (sg :: []) = false := nb_sign List.mem_cons_self hs.1
  refine F _ _ ?_ (F _ _ ?_ (F _ _ ?_ (F _ _ ?_ (F _ _ ?_ (F _ _ ?_ (F _ _ ?_ (F _ _ ?_ (F _ _ ?_ (F _ _ ?_ (F _ _ ?_ (F _ _ ?_ (F _ _ ?_ (F _ _ ?_ (F _ _ ?_ (F _ _ ?_ (F _ _ ?_ fun L h => by cases h))))))))))))))))
  · refine bad_pieces (fun q hq => hall q ?_) (pb_cnt ?_) ?_
    · rcases List.mem_cons.mp hq with rfl | hq
      · exact List.mem_cons_self
      · exact List.mem_cons_of_mem _ (List.dropLast_subset _ hq)
    · rw [List.length_dropLast, hn]
      cases b <;> decide
    · obtain ⟨ys, a, e⟩ := one_last (show 1 ≤ (A ++ X :: B).length by rw [List.length_append, List.length_cons]; omega)
      rw [e, List.dropLast_concat]
      rw [e, ← List.cons_append, joinC_snoc, List.length_append, List.length_append] at hLl
      omega
  · have e : joinC 32 (wd b :: (A ++ X :: B)) ++ [32, 48] = joinC 32 (wd b :: ((A ++ X :: B) ++ [[48]])) := by
      rw [← List.cons_append (bs := [[48]]), joinC_snoc, if_neg (by simp)]
      simp
    have hl : (joinC 32 (wd b :: (A ++ X :: B)) ++ [32, 48]).length ≤ 40 := by rw [List.length_append]; simp only [List.length_cons, List.length_nil]; omega
    rw [e] at hl ⊢
    refine bad_pieces (fun q hq => ?_) (pb_cnt ?_) hl
    · rw [← List.cons_append] at hq
      rcases List.mem_append.mp hq with hq | hq
      · exact hall q hq
      · rcases List.mem_singleton.mp hq with rfl
        intro c hc
        rcases List.mem_singleton.mp hc with rfl
        decide
    · rw [List.length_append, hn]
      cases b <;> decide
  · rw [List.append_assoc (joinC 32 (wd b :: A) ++ [32])]
    refine put _ (fun c hc => ?_) (nb_nought hX.1) ?_
    · rcases List.mem_cons.mp hc with rfl | hc
      · decide
      · have := hXf c hc; omega
    · rw [List.length_append, List.length_singleton]; omega
  · rw [List.append_assoc (joinC 32 (wd b :: A) ++ [32])]
    refine put _ (fun c hc => ?_) (nb_long ?_) ?_
    · rcases List.mem_append.mp hc with hc | hc
      · rcases List.mem_cons.mp hc with rfl | hc
        · decide
        · have := hno2 c hc; omega
      · have := hXf c hc; omega
    · rw [List.length_append, List.length_cons]; omega
    · rw [List.length_append, List.length_cons]; omega
  · rw [List.append_assoc (joinC 32 (wd b :: A) ++ [32]), List.append_assoc (joinC 32 (wd b :: A) ++ [32])]
    refine put _ (fun c hc => ?_) (nb_sign (c := sg) (by simp) hs.1) ?_
    · rcases List.mem_append.mp hc with hc | hc
      · rcases List.mem_append.mp hc with hc | hc
        · have := hXf c (List.mem_of_mem_take hc); omega
        · rcases List.mem_singleton.mp hc with rfl
          exact hs.2
      · have := hXf c hc; omega
    · rw [List.length_append, List.length_append, List.length_take, List.length_singleton]; omega
  · refine put _ (fun c hc => ?_) hsn (by show 1 ≤ 8; decide)
    rcases List.mem_singleton.mp hc with rfl
    exact hs.2
  · rw [List.append_assoc (joinC 32 (wd b :: A) ++ [32])]
    refine put _ (fun c hc => ?_) (nb_sign (c := sg) (by simp) hs.1) ?_
    · rcases List.mem_append.mp hc with hc | hc
      · have := hXf c hc; omega
      · rcases List.mem_singleton.mp hc with rfl
        exact hs.2
    · rw [List.length_append, List.length_singleton]; omega
  · rw [List.append_assoc (joinC 32 (wd b :: A) ++ [32])]
    refine put _ (fun c hc => ?_) (nb_sign (c := sg) (by simp) hs.1) ?_
    · rcases List.mem_append.mp hc with hc | hc
      · rcases List.mem_singleton.mp hc with rfl
        exact hs.2
      · have := hXf c hc; omega
    · rw [List.length_append, List.length_singleton]; omega
  · have e : 111 :: 110 :: joinC 32 (wd b :: (A ++ X :: B)) = joinC 32 ((111 :: 110 :: wd b) :: (A ++ X :: B)) := rfl
    have hl : (111 :: 110 :: joinC 32 (wd b :: (A ++ X :: B))).length ≤ 40 := by rw [List.length_cons, List.length_cons]; omega
    rw [e] at hl ⊢
    refine bad_pieces (fun q hq => ?_) (pb_first ?_ ?_) hl
    · rcases List.mem_cons.mp hq with rfl | hq
      · intro c hc
        rcases List.mem_cons.mp hc with rfl | hc
        · decide
        · rcases List.mem_cons.mp hc with rfl | hc
          · decide
          · have := hfW c hc; omega
      · exact hall q (List.mem_cons_of_mem _ hq)
    · intro z; cases b <;> cases z
    · intro z; cases b <;> cases z
  · have hl : (joinC 32 (A ++ X :: B)).length ≤ 40 := by
      have : (joinC 32 (wd b :: (A ++ X :: B))).length = (wd b).length + ((A ++ X :: B).flatMap fun q => 32 :: q).length := by rw [joinC_cons, List.length_append]
      cases e : A ++ X :: B with
      | nil => exact Nat.zero_le _
      | cons p ps =>
        rw [e, List.flatMap_cons, List.length_append, List.length_cons] at this
        rw [joinC_cons, List.length_append]
        rw [e] at hLl
        omega
    cases e : A ++ X :: B with
    | nil => simp at e
    | cons p ps =>
      rw [e] at hl hall hfr
      refine bad_pieces (fun q hq => hall q (List.mem_cons_of_mem _ hq)) (pb_first (fun z => ?_) (fun z => ?_)) hl
      · have := hfr p List.mem_cons_self 117 (by rw [z]; decide); omega
      · have := hfr p List.mem_cons_self 100 (by rw [z]; decide); omega
  · have e : 32 :: joinC 32 (wd b :: (A ++ X :: B)) = joinC 32 ([] :: (wd b :: (A ++ X :: B))) := rfl
    have hl : (32 :: joinC 32 (wd b :: (A ++ X :: B))).length ≤ 40 := by rw [List.length_cons]; omega
    rw [e] at hl ⊢
    refine bad_pieces (fun q hq => ?_) (pb_first (by decide) (by decide)) hl
    rcases List.mem_cons.mp hq with rfl | hq
    · intro c hc; cases hc
    · exact hall q hq
  · have e : joinC 32 (wd b :: (A ++ X :: B)) ++ [32] = joinC 32 (wd b :: ((A ++ X :: B) ++ [[]])) := by
      rw [← List.cons_append (bs := [[]]), joinC_snoc, if_neg (by simp)]
      simp
    have hl : (joinC 32 (wd b :: (A ++ X :: B)) ++ [32]).length ≤ 40 := by rw [List.length_append, List.length_singleton]; omega
    rw [e] at hl ⊢
    refine bad_pieces (fun q hq => ?_) (pb_cnt ?_) hl
    · rw [← List.cons_append] at hq
      rcases List.mem_append.mp hq with hq | hq
      · exact hall q hq
      · rcases List.mem_singleton.mp hq with rfl
        intro c hc; cases hc
    · rw [List.length_append, hn]
      cases b <;> decide
  · have e : joinC 32 (wd b :: A) ++ [32] ++ [32] ++ X ++ B.flatMap (fun q => 32 :: q) = joinC 32 (wd b :: (A ++ [] :: (X :: B))) := by
      have e := joinC_mid 32 (wd b) A [] (X :: B)
      rw [List.cons_append] at e
      rw [e, List.flatMap_cons]
      simp
    have hl : (joinC 32 (wd b :: A) ++ [32] ++ [32] ++ X ++ B.flatMap (fun q => 32 :: q)).length ≤ 40 := by
      simp only [List.length_append, List.length_singleton]
      omega
    rw [e] at hl ⊢
    refine bad_pieces (fun q hq c hc => ?_) (pb_num (q := []) (by simp) nb_nil) hl
    rcases List.mem_cons.mp hq with rfl | hq
    · have := hfW c hc; omega
    · rcases List.mem_append.mp hq with hq | hq
      · have := hfr q (List.mem_append_left _ hq) c hc; omega
      · rcases List.mem_cons.mp hq with rfl | hq
        · cases hc
        · have := hfr q (List.mem_append_right _ hq) c hc; omega
  · have hno32 : ∀ c ∈ joinC 9 (wd b :: (A ++ X :: B)), c ≠ 32 ∧ c ≠ 10 := fun c hc => by
      rcases joinC_in 9 _ c hc with rfl | ⟨q, hq, hc⟩
      · decide
      · exact hall q hq c hc
    have hl : ∀ (F : List (List Nat)) (p : List Nat), (joinC 9 (p :: F)).length = (joinC 32 (p :: F)).length := fun F p => by
      rw [joinC_cons, joinC_cons, List.length_append, List.length_append]
      congr 1
      induction F with
      | nil => rfl
      | cons q F ih => rw [List.flatMap_cons, List.flatMap_cons, List.length_append, List.length_append, ih]; rfl
    refine ⟨?_, by rw [hl]; omega, fun h => (hno32 10 h).2 rfl⟩
    unfold rowB
    rw [spl_free fun h => (hno32 32 h).1 rfl]
    rw [pb_eq]
    simp
  · exact ⟨rfl, Nat.zero_le _, fun h => by cases h⟩
  · have e : (joinC 32 (wd b :: (A ++ X :: B))).map PyProof.Rows.up1 = joinC 32 ((wd b).map PyProof.Rows.up1 :: (A ++ X :: B).map (List.map PyProof.Rows.up1)) := by
      have k : ∀ F : List (List Nat), (F.flatMap fun q => 32 :: q).map PyProof.Rows.up1 = (F.map (List.map PyProof.Rows.up1)).flatMap fun q => 32 :: q := fun F => by
        induction F with
        | nil => rfl
        | cons q F ih => rw [List.flatMap_cons, List.map_cons, List.flatMap_cons, List.map_append, ih]; rfl
      rw [joinC_cons, joinC_cons, List.map_append, k]
    have hl : ((joinC 32 (wd b :: (A ++ X :: B))).map PyProof.Rows.up1).length ≤ 40 := by rw [List.length_map]; omega
    rw [e] at hl ⊢
    refine bad_pieces (fun q hq c hc => ?_) (pb_first ?_ ?_) hl
    · rw [← List.map_cons] at hq
      obtain ⟨p, hp, rfl⟩ := List.mem_map.mp hq
      obtain ⟨d, hd, rfl⟩ := List.mem_map.mp hc
      rcases List.mem_cons.mp hp with rfl | hp
      · have := hfW d hd; exact up1_ne (by omega)
      · have := hfr p hp d hd; exact up1_ne (by omega)
    · cases b <;> decide
    · cases b <;> decide
  · have := bad_pieces (p := wd b) (ps := []) (fun q hq c hc => by
      rcases List.mem_singleton.mp hq with rfl
      have := hfW c hc; omega) (pb_cnt (by cases b <;> decide)) (by
        rw [joinC_cons, List.flatMap_nil, List.append_nil]; omega)
    rw [joinC_cons, List.flatMap_nil, List.append_nil] at this
    exact this
theorem v_spoilt0 (b : Bool) (A : List (List Nat)) (X : List Nat) (B : List (List Nat)) (c : Int) (hc : 0 ≤ c) (hf : ∀ q ∈ A ++ X :: B, ∃ n, n < 1000 ∧ q = fig n) (hn : (A ++ X :: B).length = if b then 2 else 3) (hat : c / 17 % ((A ++ X :: B).length : Int) = A.length) :
    ∃ L, g_l_spoilt [sx (joinC 32 (wd b :: (A ++ X :: B))), .int c] = some (.v (sx L)) ∧ Bad L := by
  have hX : 1 ≤ X.length ∧ X.length ≤ 3 := by
    obtain ⟨n, h1, rfl⟩ := hf X (by simp)
    obtain ⟨_, _, _, a4, a5, _⟩ := fig_get h1
    exact ⟨a4, a5⟩
  have hfr : ∀ q ∈ A ++ X :: B, ∀ c ∈ q, 48 ≤ c ∧ c ≤ 57 := fun q hq => by
    obtain ⟨n, h1, rfl⟩ := hf q hq
    exact (fig_get h1).2.1
  have hfl : ∀ q ∈ A ++ X :: B, q.length ≤ 3 := fun q hq => by
    obtain ⟨n, h1, rfl⟩ := hf q hq
    exact (fig_get h1).2.2.2.2.1
  have hfW : ∀ c ∈ wd b, 100 ≤ c ∧ c < 128 := fun c hc => ⟨wd_in hc, by cases b <;> revert c <;> decide⟩
  have hsp : spl 32 (joinC 32 (wd b :: (A ++ X :: B))) = wd b :: (A ++ X :: B) := spl_joinC _ _ fun q hq m => by
    rcases List.mem_cons.mp hq with rfl | hq
    · have := hfW 32 m; omega
    · have := hfr q hq 32 m; omega
  have jl : ∀ F : List (List Nat), (∀ q ∈ F, q.length ≤ 4) → (joinC 32 F).length ≤ 5 * F.length ∧ (F.flatMap fun q => 32 :: q).length ≤ 5 * F.length := fun F => by
    have k : ∀ F : List (List Nat), (∀ q ∈ F, q.length ≤ 4) → (F.flatMap fun q => 32 :: q).length ≤ 5 * F.length := fun F => by
      induction F with
      | nil => intro _; exact Nat.le_refl _
      | cons q F ih =>
        intro h
        have h1 := h q List.mem_cons_self
        have h2 := ih fun p hp => h p (List.mem_cons_of_mem _ hp)
        rw [List.flatMap_cons, List.length_append, List.length_cons, List.length_cons]
        omega
    intro h
    refine ⟨?_, k F h⟩
    cases F with
    | nil => exact Nat.zero_le _
    | cons p F =>
      have h1 := h p List.mem_cons_self
      have h2 := k F fun q hq => h q (List.mem_cons_of_mem _ hq)
      rw [joinC_cons, List.length_append, List.length_cons]
      omega
  have hn3 : (A ++ X :: B).length ≤ 3 := by rw [hn]; split <;> omega
  have h4 : ∀ q ∈ wd b :: (A ++ X :: B), q.length ≤ 4 := fun q hq => by
    rcases List.mem_cons.mp hq with rfl | hq
    · exact (wd_len b).2
    · have := hfl q hq; omega
  have hAB : A.length + B.length + 1 ≤ 3 := by rw [List.length_append, List.length_cons] at hn3; omega
  have lL := (jl _ h4).1
  rw [List.length_cons] at lL
  have lA := (jl (wd b :: A) fun q hq => h4 q (by
    rcases List.mem_cons.mp hq with rfl | hq
    · exact List.mem_cons_self
    · exact List.mem_cons_of_mem _ (List.mem_append_left _ hq))).1
  rw [List.length_cons] at lA
  have lB := (jl B fun q hq => h4 q (List.mem_cons_of_mem _ (List.mem_append_right _ (List.mem_cons_of_mem _ hq)))).2
  have lD := (jl (wd b :: (A ++ X :: B).dropLast) fun q hq => h4 q (by
    rcases List.mem_cons.mp hq with rfl | hq
    · exact List.mem_cons_self
    · exact List.mem_cons_of_mem _ (List.dropLast_subset _ hq))).1
  rw [List.length_cons, List.length_dropLast] at lD
  have lT := (jl (A ++ X :: B) fun q hq => h4 q (List.mem_cons_of_mem _ hq)).1
  -- what the steps find
  obtain ⟨W, hW⟩ : ∃ W, (wd b :: (A ++ X :: B)).map sx = W := ⟨_, rfl⟩
  have hs := split_sx (c := 32) (xs := joinC 32 (wd b :: (A ++ X :: B))) (by omega)
  rw [hsp, hW] at hs
  have hWl : W.length = (A ++ X :: B).length + 1 := by rw [← hW, List.length_map]; rfl
  have hWl2 : W.length ≤ 4 := by omega
  obtain ⟨K, hK, hK2⟩ : ∃ K : Int, 1 + c / 17 % ((W.length : Int) - 1) = K ∧ K = A.length + 1 := ⟨_, rfl, by
    rw [hWl, show (((A ++ X :: B).length + 1 : Nat) : Int) - 1 = ((A ++ X :: B).length : Int) from by omega, hat]; omega⟩
  have hKn : K.toNat = A.length + 1 := by omega
  have hKn2 : (K + 1).toNat = A.length + 2 := by omega
  have hK0 : 0 ≤ K := by omega
  have t1 : List.take K.toNat W = (wd b :: A).map sx := by
    rw [hKn, ← hW, ← List.map_take]
    congr 1
    rw [List.take_succ_cons, List.take_left]
  have t2 : List.drop (K + 1).toNat W = B.map sx := by
    rw [hKn2, ← hW, ← List.map_drop]
    congr 1
    rw [List.drop_succ_cons, show A.length + 1 = A.length + 1 from rfl, List.drop_append, List.drop_of_length_le (by omega), show A.length + 1 - A.length = 1 from by omega]; rfl
  have t3 : W.dropLast = (wd b :: (A ++ X :: B).dropLast).map sx := by
    rw [← hW, ← List.map_dropLast, List.dropLast_cons_of_ne_nil (by simp)]
  have t4 : List.drop 1 W = (A ++ X :: B).map sx := by rw [← hW]; rfl
  have x1 : atI W K = some (sx X) := by
    rw [← hW, atI_map, atI_nat' hK0 (by simp only [List.length_cons, List.length_append]; omega), hKn, List.getElem?_cons_succ, List.getElem?_append_right (Nat.le_refl _), Nat.sub_self]; rfl
  have x0 : atI W 0 = some (sx (wd b)) := by rw [← hW]; exact atI_0
  have j1 := join_xc 32 (wd b :: A) (by omega)
  have j3 := join_xc 32 (wd b :: (A ++ X :: B).dropLast) (by omega)
  have j4 := join_xc 32 (A ++ X :: B) (by omega)
  have j2 := join_xc 0 [] (by decide)
  have hfl2 : (B.map fun q => 32 :: q).flatten = B.flatMap fun q => 32 :: q := List.flatMap_def.symm
  have jf : joinD (sx []) (.list ((B.map fun q => 32 :: q).map sx)) = some (sx (B.flatMap fun q => 32 :: q)) := by
    have e0 : ∀ xss : List (List Nat), (⟨([] : List Nat).toArray⟩ : Str) = ⟨#[]⟩ := fun _ => rfl
    have := join_xs (B.map fun q => 32 :: q) (by rw [hfl2]; omega)
    rw [hfl2] at this
    exact this
  have rp := repl_tab hsp (by omega)
  have upp := up_x (L := joinC 32 (wd b :: (A ++ X :: B))) (fun z hz => by
    rcases joinC_in 32 _ z hz with rfl | ⟨q, hq, hz⟩
    · decide
    · rcases List.mem_cons.mp hq with rfl | hq
      · exact (hfW z hz).2
      · have := hfr q hq z hz; omega) (by omega)
  obtain ⟨sn, hsn, hsn2⟩ : ∃ s : Int, c / 64 % 14 = s ∧ 0 ≤ s ∧ s < 14 := ⟨_, rfl, by omega, by omega⟩
  have hsg := sgns_ok sn.toNat (by omega)
  have hsgx : ixD (sx [97, 98, 122, 45, 43, 46, 44, 95, 47, 58, 59, 39, 33, 120]) (.int sn) = some (sx [sgns.getD sn.toNat 0]) := ix_x hsn2.1 (by show sn < 14; exact hsn2.2) (by decide)
  generalize sgns.getD sn.toNat 0 = sg at *
  obtain ⟨NO, hNO, hNOl, hNO2⟩ : ∃ NO, List.take (3 - (X.length : Int) + c / 32 % 2).toNat [48, 48, 48] = NO ∧ (NO.length + X.length = 3 ∨ NO.length + X.length = 4) ∧ ∀ z ∈ NO, z = 48 := by
    refine ⟨_, rfl, ?_, fun z hz => ?_⟩
    · rw [List.length_take]
      simp only [List.length_cons, List.length_nil]
      omega
    · have := List.mem_of_mem_take hz
      simp at this
      exact this
  have hNOl3 : NO.length ≤ 3 := by omega
  have hall := spoilt_all b A X B sg NO hf hn hsg hNOl hNO2
  have hm0 : 0 ≤ 3 - (X.length : Int) + c / 32 % 2 := by omega
  have hd1 : (W.length : Int) - 1 > 0 := by rw [hWl, List.length_append, List.length_cons]; omega
  obtain ⟨s17, hs17, hs0, hs1⟩ : ∃ s : Int, c % 17 = s ∧ 0 ≤ s ∧ s < 17 := ⟨_, rfl, by omega, by omega⟩
  have pick : ∀ S : List (List Nat), S.length = 17 → (∀ L ∈ S, Bad L) → ∃ L, atI (S.map sx) s17 = some (sx L) ∧ Bad L := fun S h1 h2 => by
    refine ⟨S.getD s17.toNat [], ?_, h2 _ ?_⟩
    · rw [atI_map, atI_getD S s17 [] hs0 (by rw [h1]; exact hs1)]; rfl
    · rw [List.getD_eq_getElem?_getD, List.getElem?_eq_getElem (by omega)]
      exact List.getElem_mem _
  obtain ⟨L', hL1, hL2⟩ := pick _ rfl hall
  refine ⟨L', ?_, hL2⟩
  simp only [List.map_cons, List.map_nil] at hL1
  have hP5 : ∀ u4 u5, compGo (hName 9) cYes (e2 addD (eC (sx [32])) (bVar 9)) [some (.ro (sx (joinC 32 (wd b :: (A ++ X :: B))))), some (.ro (.int c)), some (.lr W), some (.ro (.int K)), some (.ro (sx u4)), some (.ro (sx u5)), none, none, none, none] (B.map sx) = some ((B.map fun q => 32 :: q).map sx) := fun u4 u5 => by
    generalize hY : compGo _ _ _ _ _ = Y
    obtain rfl := comp_map (fun d => match d with | .str s => sx (32 :: s.cps.toList) | d => d) hY fun d hd => by
      obtain ⟨q, hq, rfl⟩ := List.mem_map.mp hd
      have hq4 : q.length ≤ 4 := h4 q (List.mem_cons_of_mem _ (List.mem_append_right _ (List.mem_cons_of_mem _ hq)))
      show _ = some [sx (32 :: q)]
      clear hY hd hall pick hf hfr hfl hfW jl h4 hsg hNO2 hL1
      walk_at "z"
    rw [List.map_map, List.map_map]
    rfl
  have hP5a := hP5 [sg] (joinC 32 (wd b :: A) ++ [32])
  have hmapl : ((wd b :: A).map sx).length ≤ 4 := by rw [List.length_map, List.length_cons]; omega
  have hWBl : (B.map sx).length ≤ 4 := by rw [List.length_map]; omega
  unfold g_l_spoilt F_l_spoilt
  clear hall pick hf hfr hfl hfW jl h4 hsg hNO2 hL2 hP5 hfl2 hsp hn hat hW
  have lL2 : (joinC 32 (wd b :: (A ++ X :: B))).length ≤ 20 := by omega
  have lA2 : (joinC 32 (wd b :: A)).length ≤ 20 := by omega
  have lB2 : (B.flatMap fun q => 32 :: q).length ≤ 20 := by omega
  have lD2 : (joinC 32 (wd b :: (A ++ X :: B).dropLast)).length ≤ 20 := by omega
  have lT2 : (joinC 32 (A ++ X :: B)).length ≤ 20 := by omega
  clear lL lA lB lD lT hWl hK2 hKn hKn2 hn3 hAB
  generalize joinC 32 (wd b :: (A ++ X :: B)) = L at *
  generalize joinC 32 (wd b :: A) = JA at *
  generalize joinC 32 (wd b :: (A ++ X :: B).dropLast) = JD at *
  generalize joinC 32 (A ++ X :: B) = JT at *
  generalize joinC 9 (wd b :: (A ++ X :: B)) = J9 at *
  generalize (B.map fun q => 32 :: q).map sx = BM at *
  generalize B.flatMap (fun q => 32 :: q) = FL at *
  generalize (wd b :: A).map sx = WA at *
  generalize (wd b :: (A ++ X :: B).dropLast).map sx = WD at *
  generalize (A ++ X :: B).map sx = WT at *
  generalize L.map PyProof.Rows.up1 = LU at *
  generalize B.map sx = WB at *
  walk_at "y"
theorem v_spoilt (r : WR) (h : r.ok) (c : Int) (hc : 0 ≤ c) : ∃ L, g_l_spoilt [sx (lineC r), .int c] = some (.v (sx L)) ∧ Bad L := by
  obtain ⟨b, ns⟩ := r
  obtain ⟨h1, h2⟩ := h
  dsimp only at h1 h2
  have hF : (ns.map fig).length = if b then 2 else 3 := by rw [List.length_map]; exact h1
  have hF0 : 0 < (ns.map fig).length := by rw [hF]; cases b <;> decide
  obtain ⟨k, hk, hk2⟩ : ∃ k : Nat, c / 17 % ((ns.map fig).length : Int) = k ∧ k < (ns.map fig).length := by
    have p0 := Int.emod_nonneg (c / 17) (show ((ns.map fig).length : Int) ≠ 0 by omega)
    have p1 := Int.emod_lt_of_pos (c / 17) (show (0 : Int) < ((ns.map fig).length : Int) by omega)
    exact ⟨_, (Int.toNat_of_nonneg p0).symm, by omega⟩
  have e : ns.map fig = (ns.map fig).take k ++ (ns.map fig)[k] :: (ns.map fig).drop (k + 1) := by
    rw [← List.drop_eq_getElem_cons hk2, List.take_append_drop]
  have hf : ∀ q ∈ ns.map fig, ∃ n, n < 1000 ∧ q = fig n := fun q hq => by
    obtain ⟨n, hn, rfl⟩ := List.mem_map.mp hq
    exact ⟨n, h2 n hn, rfl⟩
  have hat : c / 17 % ((ns.map fig).length : Int) = ((ns.map fig).take k).length := by
    rw [hk, List.length_take]; omega
  have e2 : lineC (b, ns) = joinC 32 (wd b :: ((ns.map fig).take k ++ (ns.map fig)[k] :: (ns.map fig).drop (k + 1))) := by rw [← e]; rfl
  rw [e2]
  have hat2 : c / 17 % (((ns.map fig).take k ++ (ns.map fig)[k] :: (ns.map fig).drop (k + 1)).length : Int) = ((ns.map fig).take k).length := by rw [← e]; exact hat
  rw [e] at hf hF
  exact v_spoilt0 b _ _ _ c hc hf hF hat2
local macro_rules | `(tactic| walk_at "z") => `(tactic| simp -implicitDefEqProofs (disch := first | omega | (simp only [List.length_cons, List.length_nil, List.length_append, List.length_map, List.length_set, List.length_reverse, List.length_take, List.length_drop, List.length_range]; done) | (simp only [List.length_cons, List.length_nil, List.length_append, List.length_map, List.length_set, List.length_reverse, List.length_take, List.length_drop, List.length_range]; omega) | fail) only [List.length_map, chK_lelt, lit_digs, lit_0, lit_00, lit_sp, lit_nl, lit_up, lit_dn, sRaise_ap, rsK_s, sqK_ex, at_ex, gX_ap, rxK_rt, rxK_rl, rxK_nx, rxK_ex, noX_ap, nxK_s, sTryA_ap, sTryB_ap, tyA_s, tyK_ok, okA_v, okB_s, tyK_P, tyK_T, kIsI_ap, kiK_PP, kiK_PT, kiK_PV, kiK_TP, kiK_TT, kiK_TV, kiK_n, kAt_ap, ktK_P, ktK_T, kNon_ap, knK_x, knK_n, rxK_ite, v_cell, v_mixed, lit_sgs, lit_s0, lit_1, lit_000, lit_on, lit_upb, lit_dnb, lit_bnt, len_x, v_number, v_refused, v_spoilt, gF_ap, env0, List.map_cons, List.map_nil, List.length_cons, List.length_nil, List.cons_append, List.nil_append, List.replicate_succ, List.replicate_zero, Nat.reduceAdd, Nat.reduceSub, if_true, if_false, eq_self, List.getD_cons_zero, Int.toNat_natCast, Nat.reduceEqDiff, reduceIte, reduceCtorEq, decide_true, decide_false, Bool.not_true, Bool.not_false, Bool.and_true, Bool.true_and, Bool.and_false, Bool.false_and, Bool.or_true, Bool.true_or, Bool.or_false, Bool.false_or,
  sSeq_ap, sqK_nx, sqK_rt, sqK_rl, sqK_bk, sqK_ct, sqK_no, sIf_ap, ifK_t, ifK_f, ifK_d, ifK_nd, sNil_ap, sBk_ap, sCt_ap, sRetN_ap, sBad_ap, eVar_ap, bVar_ap, mVar_ap, rdV_ro, rdV_lr, rdB_ro, rdB_lr, rdB_ow, rdM_lr, rdM_ow, nVar_ap, rdN_ro, rdN_lr, rdN_ow, eC_ap, e1_ap, e2_ap, e3_ap, b1_s, b2_s, b3_s, aNil_ap, aCons_ap, cnK_s, eCall_ap, caK_s, eTup_ap, tupK_s, lLst_ap, lstK_s, liL_ap, liK_s, lCat_ap, catK_s, oNone_ap, oSome_ap, oSK_i, asB_ap, boK_b, eAnd_ap, eOr_ap, andK_t, andK_f, orK_t, orK_f, andK_d, orK_d, bAnd_ap, bOr_ap, bAndK_t, bAndK_f, bOrK_t, bOrK_f, bAndK_d, bOrK_d, bAndK_nd, bOrK_nd, bNot_ap, toD_s, toL_l, rv_v, rv_l, sSet_ap, stK_s, sSetL_ap, slK_s, sSetR_ap, srK_s, sAsg_ap, asK_s, hName_ap, hTup_ap, hCons_ap, hNil_ap, sDrop_ap, drK_s, sRet_ap, rtK_s, sRetL_ap, rlK_s, sRetO_ap, roK_s, sFz_ap, fzK_s, fzK_ro, fzK_lr, sApp_ap, apK_s, sPut_ap, puK_s, sFor_ap, foK_s, forGo_n, forGo_c, tgK_s, at_nx, at_ct, at_bk, at_rt, at_rl, lComp_ap, coK_s, wipeE_n, wipeE_c, cYes_ap, wiK_t, wiK_f, sqK_ite, rvK_ite, at_ite, boK_ite, rtK_ite, ifK_ite, decide_eq_true_eq, Int.reduceToNat, Int.reduceLT, Int.reduceLE, Int.reduceEq, Int.reduceNeg, Int.reducePow, Int.reduceSub, Int.reduceAdd, Int.reduceMul, iSeqD_ap, iRg1D_ap, iRg2D_ap, iRevD_ap, iEnumD_ap, iZipD_ap, seqK_l, seqK_t, seqK_s, rg1K_i, rg2K_i, revK_l, enuK_l, enuK_x, zipK_l, nat0, nat1, nat2, nat3, nat4, nat5, rvK_rt, rvK_rl, rvK_nx, compGo_n, compGo_c, cdK_y, cdK_s, all_t, eChain_ap, chK_ll, hUnl_ap, revL_ap, kyE_ap, kyeK_i, kyeK_s, kyeK_x, kyT_ap, kytK_ix, eDGet_ap, eDIn_ap, eDGet1_ap, eDGet2_ap, sDNew_ap, sDPutD_ap, dpK_T, dpK_K, sFzK_ap, fzkK_s, fzkK_ro, rdB_oK, pNil_ap, pCons_ap, pcK_s, pcK_x, eDisp_ap, dispK_1, fzL_ap, fzLK_s, fzT_ap, fzTK_s, fzE_ap, fzEK_s, xIO_ap, xiK_s, sRetP_ap, rpK_s, gIO_ap, ioR_rp, ioR_nx, ioK_s, sqK_rp, ioR_ite, envIO, sClear_ap, clK_s, sExt_ap, exK_s, sSetX_ap, xsK_s, xPop_ap, poK_s, poK_1, xPopAt_ap, patK_0, xaNil_ap, xaCons_ap, xacK_s, xTup_ap, xtK_s, xE_ap, xeK_s, xCall_ap, xclK_s, sAsgX_ap, xagK_s, sDropX_ap, xdK_s, sRetX_ap, xrK_s, sAppX_ap, axK_s, ax2K_s, ne_bb, ifK_v, ifK_nv, bOrK_v, bOrK_nv, bAndK_v, bAndK_nv, andK_v, orK_v, andK_nv, orK_nv,
  List.getElem?_cons_succ, List.getElem?_cons_zero, List.set_cons_succ, List.set_cons_zero, Option.bind_some, Option.map_some, Option.bind_none, Option.map_none,
  add_x, len_x, ix_x, eq_x, ne_x, isx_int, isx_bool, isx_str, isx_tuple, isx_list, isNx, notNx, sl_x, seq_x, cut_m1, cut_l1, sl_t, sl_l, sl_s, slL_l, cut_lo, cut_hi, cut_lh, cut_nn, add_ii, add_ss, add_tt, sub_ii, mul_l, mul_r, div_ii, mod_ii, pow_ii, lt_ii, le_ii, gt_ii, ge_ii, eq_ii, eq_bb, eq_ss, ne_ii, ne_ss, len_l, len_t, len_s, int_i, int_b, min_ii, max_ii, tup_l, tup_t, list_l, list_t, neg_i, not_b, ix_l, ix_t, atI_0, atI_1, atI_2, atI_3, atI_4,
  isN_n, isN_i, isN_s, isN_b, isN_t, isN_l, notN_n, notN_i, notN_s, notN_b, notN_t, notN_l, isB, notB, isi_i_int, isi_b_int, isi_s_int, isi_t_int, isi_l_int, isi_n_int, isi_i_bool, isi_b_bool, isi_s_bool, isi_t_bool, isi_l_bool, isi_n_bool, isi_i_str, isi_b_str, isi_s_str, isi_t_str, isi_l_str, isi_n_str, isi_i_tuple, isi_b_tuple, isi_s_tuple, isi_t_tuple, isi_l_tuple, isi_n_tuple, isi_i_list, isi_b_list, isi_s_list, isi_t_list, isi_l_list, isi_n_list])
local macro_rules | `(tactic| walk_at "y") => `(tactic| simp -implicitDefEqProofs (disch := first | omega | (simp only [List.length_cons, List.length_nil, List.length_append, List.length_map, List.length_set, List.length_reverse, List.length_take, List.length_drop, List.length_range]; done) | (simp only [List.length_cons, List.length_nil, List.length_append, List.length_map, List.length_set, List.length_reverse, List.length_take, List.length_drop, List.length_range]; omega) | fail) only [*, List.length_map, chK_lelt, lit_digs, lit_0, lit_00, lit_sp, lit_nl, lit_up, lit_dn, sRaise_ap, rsK_s, sqK_ex, at_ex, gX_ap, rxK_rt, rxK_rl, rxK_nx, rxK_ex, noX_ap, nxK_s, sTryA_ap, sTryB_ap, tyA_s, tyK_ok, okA_v, okB_s, tyK_P, tyK_T, kIsI_ap, kiK_PP, kiK_PT, kiK_PV, kiK_TP, kiK_TT, kiK_TV, kiK_n, kAt_ap, ktK_P, ktK_T, kNon_ap, knK_x, knK_n, rxK_ite, v_cell, v_mixed, lit_sgs, lit_s0, lit_1, lit_000, lit_on, lit_upb, lit_dnb, lit_bnt, len_x, v_number, v_refused, v_spoilt, gF_ap, env0, List.map_cons, List.map_nil, List.length_cons, List.length_nil, List.cons_append, List.nil_append, List.replicate_succ, List.replicate_zero, Nat.reduceAdd, Nat.reduceSub, if_true, if_false, eq_self, List.getD_cons_zero, Int.toNat_natCast, Nat.reduceEqDiff, reduceIte, reduceCtorEq, decide_true, decide_false, Bool.not_true, Bool.not_false, Bool.and_true, Bool.true_and, Bool.and_false, Bool.false_and, Bool.or_true, Bool.true_or, Bool.or_false, Bool.false_or,
  sSeq_ap, sqK_nx, sqK_rt, sqK_rl, sqK_bk, sqK_ct, sqK_no, sIf_ap, ifK_t, ifK_f, ifK_d, ifK_nd, sNil_ap, sBk_ap, sCt_ap, sRetN_ap, sBad_ap, eVar_ap, bVar_ap, mVar_ap, rdV_ro, rdV_lr, rdB_ro, rdB_lr, rdB_ow, rdM_lr, rdM_ow, nVar_ap, rdN_ro, rdN_lr, rdN_ow, eC_ap, e1_ap, e2_ap, e3_ap, b1_s, b2_s, b3_s, aNil_ap, aCons_ap, cnK_s, eCall_ap, caK_s, eTup_ap, tupK_s, lLst_ap, lstK_s, liL_ap, liK_s, lCat_ap, catK_s, oNone_ap, oSome_ap, oSK_i, asB_ap, boK_b, eAnd_ap, eOr_ap, andK_t, andK_f, orK_t, orK_f, andK_d, orK_d, bAnd_ap, bOr_ap, bAndK_t, bAndK_f, bOrK_t, bOrK_f, bAndK_d, bOrK_d, bAndK_nd, bOrK_nd, bNot_ap, toD_s, toL_l, rv_v, rv_l, sSet_ap, stK_s, sSetL_ap, slK_s, sSetR_ap, srK_s, sAsg_ap, asK_s, hName_ap, hTup_ap, hCons_ap, hNil_ap, sDrop_ap, drK_s, sRet_ap, rtK_s, sRetL_ap, rlK_s, sRetO_ap, roK_s, sFz_ap, fzK_s, fzK_ro, fzK_lr, sApp_ap, apK_s, sPut_ap, puK_s, sFor_ap, foK_s, forGo_n, forGo_c, tgK_s, at_nx, at_ct, at_bk, at_rt, at_rl, lComp_ap, coK_s, wipeE_n, wipeE_c, cYes_ap, wiK_t, wiK_f, sqK_ite, rvK_ite, at_ite, boK_ite, rtK_ite, ifK_ite, decide_eq_true_eq, Int.reduceToNat, Int.reduceLT, Int.reduceLE, Int.reduceEq, Int.reduceNeg, Int.reducePow, Int.reduceSub, Int.reduceAdd, Int.reduceMul, iSeqD_ap, iRg1D_ap, iRg2D_ap, iRevD_ap, iEnumD_ap, iZipD_ap, seqK_l, seqK_t, seqK_s, rg1K_i, rg2K_i, revK_l, enuK_l, enuK_x, zipK_l, nat0, nat1, nat2, nat3, nat4, nat5, rvK_rt, rvK_rl, rvK_nx, compGo_n, compGo_c, cdK_y, cdK_s, all_t, eChain_ap, chK_ll, hUnl_ap, revL_ap, kyE_ap, kyeK_i, kyeK_s, kyeK_x, kyT_ap, kytK_ix, eDGet_ap, eDIn_ap, eDGet1_ap, eDGet2_ap, sDNew_ap, sDPutD_ap, dpK_T, dpK_K, sFzK_ap, fzkK_s, fzkK_ro, rdB_oK, pNil_ap, pCons_ap, pcK_s, pcK_x, eDisp_ap, dispK_1, fzL_ap, fzLK_s, fzT_ap, fzTK_s, fzE_ap, fzEK_s, xIO_ap, xiK_s, sRetP_ap, rpK_s, gIO_ap, ioR_rp, ioR_nx, ioK_s, sqK_rp, ioR_ite, envIO, sClear_ap, clK_s, sExt_ap, exK_s, sSetX_ap, xsK_s, xPop_ap, poK_s, poK_1, xPopAt_ap, patK_0, xaNil_ap, xaCons_ap, xacK_s, xTup_ap, xtK_s, xE_ap, xeK_s, xCall_ap, xclK_s, sAsgX_ap, xagK_s, sDropX_ap, xdK_s, sRetX_ap, xrK_s, sAppX_ap, axK_s, ax2K_s, ne_bb, ifK_v, ifK_nv, bOrK_v, bOrK_nv, bAndK_v, bAndK_nv, andK_v, orK_v, andK_nv, orK_nv,
  List.getElem?_cons_succ, List.getElem?_cons_zero, List.set_cons_succ, List.set_cons_zero, Option.bind_some, Option.map_some, Option.bind_none, Option.map_none,
  add_x, len_x, ix_x, eq_x, ne_x, isx_int, isx_bool, isx_str, isx_tuple, isx_list, isNx, notNx, sl_x, seq_x, cut_m1, cut_l1, sl_t, sl_l, sl_s, slL_l, cut_lo, cut_hi, cut_lh, cut_nn, add_ii, add_ss, add_tt, sub_ii, mul_l, mul_r, div_ii, mod_ii, pow_ii, lt_ii, le_ii, gt_ii, ge_ii, eq_ii, eq_bb, eq_ss, ne_ii, ne_ss, len_l, len_t, len_s, int_i, int_b, min_ii, max_ii, tup_l, tup_t, list_l, list_t, neg_i, not_b, ix_l, ix_t, atI_0, atI_1, atI_2, atI_3, atI_4,
  isN_n, isN_i, isN_s, isN_b, isN_t, isN_l, notN_n, notN_i, notN_s, notN_b, notN_t, notN_l, isB, notB, isi_i_int, isi_b_int, isi_s_int, isi_t_int, isi_l_int, isi_n_int, isi_i_bool, isi_b_bool, isi_s_bool, isi_t_bool, isi_l_bool, isi_n_bool, isi_i_str, isi_b_str, isi_s_str, isi_t_str, isi_l_str, isi_n_str, isi_i_tuple, isi_b_tuple, isi_s_tuple, isi_t_tuple, isi_l_tuple, isi_n_tuple, isi_i_list, isi_b_list, isi_s_list, isi_t_list, isi_l_list, isi_n_list])
theorem v_line (c : Int) : ∃ r : WR, r.ok ∧ g_l_line [.int c] = some (.v (sx (lineC r))) := by
  unfold g_l_line F_l_line
  walk_at "z"
  generalize hX : forGo _ _ _ _ = X
  obtain ⟨⟨ws, u2, u3⟩, rfl, i1, i2⟩ := loop_st (fun v : List Nat × Option SV × Option SV => [some (SV.ro (.int c)), some (SV.ow (v.1.map fun n => sx (fig n))), v.2.1, v.2.2])
    (fun n v => v.1.length = n ∧ ∀ x ∈ v.1, x < 1000) ([], none, none) 0 hX ⟨rfl, fun x h => by cases h⟩ fun i d v hd hI => by
      obtain ⟨ws, u2, u3⟩ := v
      dsimp only at hI ⊢
      rw [Nat.zero_add] at hI ⊢
      obtain ⟨j1, j2⟩ := hI
      obtain ⟨hi, rfl⟩ := range_get hd
      have hv1 := v_mixed c (i + 9) (by omega) (by omega)
      have hv2 := v_mixed c i (by omega) (by omega)
      generalize mixed c (i + 9) = m1 at hv1
      have hm2 := mixed_nn c i
      generalize mixed c i = m2 at hv2 hm2
      have hwl : (ws.map fun n => sx (fig n)).length ≤ 3 := by rw [List.length_map]; omega
      rcases (show m1 % 2 = 0 ∨ m1 % 2 = 1 by omega) with e | e
      · obtain ⟨m, hm, hm3⟩ : ∃ m : Nat, m2 % 10 = (m : Int) ∧ m < 1000 := ⟨(m2 % 10).toNat, by omega, by omega⟩
        have hs := fig_str hm3
        refine ⟨(ws ++ [m], some (.ro (.int (i : Int))), some (.ro (.int 0))), .inl ?_, by rw [List.length_append, j1]; rfl, fun x hx => ?_⟩
        · dsimp only
          rw [List.map_append, List.map_cons, List.map_nil]
          clear hX hd j2
          generalize fig m = F at *
          walk_at "y"
        · rcases List.mem_append.mp hx with hx | hx
          · exact j2 x hx
          · rcases List.mem_singleton.mp hx with rfl; exact hm3
      · obtain ⟨m, hm, hm3⟩ : ∃ m : Nat, m2 % 1000 = (m : Int) ∧ m < 1000 := ⟨(m2 % 1000).toNat, by omega, by omega⟩
        have hs := fig_str hm3
        refine ⟨(ws ++ [m], some (.ro (.int (i : Int))), some (.ro (.int 1))), .inl ?_, by rw [List.length_append, j1]; rfl, fun x hx => ?_⟩
        · dsimp only
          rw [List.map_append, List.map_cons, List.map_nil]
          clear hX hd j2
          generalize fig m = F at *
          walk_at "y"
        · rcases List.mem_append.mp hx with hx | hx
          · exact j2 x hx
          · rcases List.mem_singleton.mp hx with rfl; exact hm3
  rw [List.length_map, List.length_range, Nat.zero_add] at i1
  dsimp only at i1 i2
  clear hX
  match ws, i1 with
  | [n0, n1, n2], _ =>
    have f0 := (fig_get (i2 n0 (by simp))).2.2.2.2.1
    have f1 := (fig_get (i2 n1 (by simp))).2.2.2.2.1
    have f2 := (fig_get (i2 n2 (by simp))).2.2.2.2.1
    have hv := v_mixed c 5 (by decide) (by decide)
    have hj := join_xc 32 [fig n0, fig n1, fig n2] (by
      rw [joinC_cons, List.flatMap_cons, List.flatMap_cons, List.flatMap_nil]
      simp only [List.length_append, List.length_cons, List.length_nil]
      omega)
    have hjl : (joinC 32 [fig n0, fig n1, fig n2]).length ≤ 20 := by
      rw [joinC_cons, List.flatMap_cons, List.flatMap_cons, List.flatMap_nil]
      simp only [List.length_append, List.length_cons, List.length_nil]
      omega
    simp only [List.map_cons, List.map_nil] at hj
    by_cases h : mixed c 5 % 2 = 0
    · refine ⟨(true, [n0, n1]), ⟨rfl, fun x hx => i2 x (by simp at hx ⊢; omega)⟩, ?_⟩
      have e : lineC (true, [n0, n1]) = 117 :: 112 :: 32 :: (fig n0 ++ [32] ++ fig n1) := by
        show [117, 112] ++ ([fig n0, fig n1].flatMap fun q => 32 :: q) = _
        simp
      rw [e]
      simp only [List.map_cons, List.map_nil]
      generalize mixed c 5 = m5 at *
      generalize fig n0 = F0 at *
      generalize fig n1 = F1 at *
      clear i2
      walk_at "y"
    · refine ⟨(false, [n0, n1, n2]), ⟨rfl, i2⟩, ?_⟩
      have e : lineC (false, [n0, n1, n2]) = 100 :: 111 :: 119 :: 110 :: 32 :: joinC 32 [fig n0, fig n1, fig n2] := by
        show [100, 111, 119, 110] ++ ([fig n0, fig n1, fig n2].flatMap fun q => 32 :: q) = _
        rw [joinC_cons]
        simp
      rw [e]
      simp only [List.map_cons, List.map_nil]
      generalize mixed c 5 = m5 at *
      generalize joinC 32 [fig n0, fig n1, fig n2] = J at *
      generalize fig n0 = F0 at *
      generalize fig n1 = F1 at *
      generalize fig n2 = F2 at *
      clear i2
      walk_at "y"
/-! ### where the first bad line is -/
def nrow (l : List Nat) : Bool := !rowB l
theorem nrow_nil : nrow [] = true := rfl
def firstI (ls : List (List Nat)) : Nat := (ls.findIdx? nrow).getD ls.length
theorem first_is (ls : List (List Nat)) : firstI ls ≤ ls.length ∧ (∀ (j : Nat) (hj : j < ls.length), j < firstI ls → nrow ls[j] = false) ∧ ∀ (h : firstI ls < ls.length), nrow ls[firstI ls] = true := by
  unfold firstI
  cases e : ls.findIdx? nrow with
  | none =>
    refine ⟨Nat.le_refl _, fun j hj _ => List.findIdx?_eq_none_iff.mp e _ (List.getElem_mem hj), fun h => ?_⟩
    simp at h
  | some i =>
    obtain ⟨hi, e1, e2⟩ := List.findIdx?_eq_some_iff_getElem.mp e
    refine ⟨Nat.le_of_lt hi, fun j hj h => ?_, fun _ => e1⟩
    have := e2 j h
    simpa using this
theorem find_of {ls : List (List Nat)} {i : Nat} (hi : i < ls.length) (h1 : nrow ls[i] = true) (h2 : ∀ (j : Nat) (hj : j < ls.length), j < i → nrow ls[j] = false) : ls.findIdx? nrow = some i :=
  List.findIdx?_eq_some_iff_getElem.mpr ⟨hi, h1, fun j hj => by rw [h2 j (by omega) hj]; exact Bool.false_ne_true⟩
theorem first_min (ls : List (List Nat)) (ss : List Int) (hr : ∀ x ∈ ss, 0 ≤ x ∧ x < ls.length) (hb : ∀ (i : Nat) (l : List Nat), ls[i]? = some l → nrow l = decide ((i : Int) ∈ ss)) :
    (if ss.isEmpty then (ls.length : Int) else leastI ss) = (firstI ls : Int) ∧ (ss = [] → ls.findIdx? nrow = none) ∧ (ss ≠ [] → ls.findIdx? nrow = some (firstI ls)) := by
  obtain ⟨f1, f2, f3⟩ := first_is ls
  cases ss with
  | nil =>
    have e : ls.findIdx? nrow = none := List.findIdx?_eq_none_iff.mpr fun l hl => by
      obtain ⟨i, hi, rfl⟩ := List.getElem_of_mem hl
      rw [hb i _ (List.getElem?_eq_getElem hi)]
      exact decide_eq_false (by simp)
    refine ⟨?_, fun _ => e, fun h => absurd rfl h⟩
    unfold firstI
    rw [e]; rfl
  | cons s ss =>
    obtain ⟨s0, s1⟩ := hr s List.mem_cons_self
    have hlt : firstI ls < ls.length := by
      apply Classical.byContradiction
      intro h
      have := f2 s.toNat (by omega) (by omega)
      rw [hb s.toNat _ (List.getElem?_eq_getElem (by omega))] at this
      have := of_decide_eq_false this
      exact this (by rw [Int.toNat_of_nonneg s0]; exact List.mem_cons_self)
    refine ⟨?_, fun h => absurd h (List.cons_ne_nil _ _), fun _ => find_of hlt (f3 hlt) f2⟩
    show leastI (s :: ss) = _
    refine leastI_is ?_ fun y hy => ?_
    · have := f3 hlt
      rw [hb _ _ (List.getElem?_eq_getElem hlt)] at this
      exact of_decide_eq_true this
    · obtain ⟨y0, y1⟩ := hr y hy
      apply Classical.byContradiction
      intro h
      have := f2 y.toNat (by omega) (by omega)
      rw [hb y.toNat _ (List.getElem?_eq_getElem (by omega))] at this
      have := of_decide_eq_false this
      exact this (by rw [Int.toNat_of_nonneg y0]; exact hy)
theorem eMinD_ap {a : En → Option (List D)} {fd : En → Option D} {ρ : En} : eMinD a fd ρ = ((a ρ).bind fun ds => (fd ρ).bind fun d => minDD ds d) := rfl
theorem minDD_i {ns : List Int} {k : Int} : minDD [.list (ns.map .int)] (.int k) = some (.int (if ns.isEmpty then k else leastI ns)) := by
  show (allI (ns.map .int)).map _ = _
  rw [allI_ints]; rfl
theorem eq_ints0 {ss : List Int} : eqD 64 (.list (ss.map .int)) (.list []) = some (.bool ss.isEmpty) := by
  have h := (okd_all (n := 64) (ds := ss.map PyData.int) okd_ints).1
  rw [eq_l0 h]
  cases ss <;> rfl
def atD : Option Nat → D
  | some i => .int (i : Int)
  | none => .none
local macro_rules | `(tactic| walk_at "z") => `(tactic| simp -implicitDefEqProofs (disch := first | omega | (simp only [List.length_cons, List.length_nil, List.length_append, List.length_map, List.length_set, List.length_reverse, List.length_take, List.length_drop, List.length_range]; done) | (simp only [List.length_cons, List.length_nil, List.length_append, List.length_map, List.length_set, List.length_reverse, List.length_take, List.length_drop, List.length_range]; omega) | fail) only [List.length_map, chK_lelt, lit_digs, lit_0, lit_00, lit_sp, lit_nl, lit_up, lit_dn, sRaise_ap, rsK_s, sqK_ex, at_ex, gX_ap, rxK_rt, rxK_rl, rxK_nx, rxK_ex, noX_ap, nxK_s, sTryA_ap, sTryB_ap, tyA_s, tyK_ok, okA_v, okB_s, tyK_P, tyK_T, kIsI_ap, kiK_PP, kiK_PT, kiK_PV, kiK_TP, kiK_TT, kiK_TV, kiK_n, kAt_ap, ktK_P, ktK_T, kNon_ap, knK_x, knK_n, rxK_ite, v_cell, v_mixed, lit_sgs, lit_s0, lit_1, lit_000, lit_on, lit_upb, lit_dnb, lit_bnt, len_x, v_number, v_refused, v_spoilt, eMinD_ap, gF_ap, env0, List.map_cons, List.map_nil, List.length_cons, List.length_nil, List.cons_append, List.nil_append, List.replicate_succ, List.replicate_zero, Nat.reduceAdd, Nat.reduceSub, if_true, if_false, eq_self, List.getD_cons_zero, Int.toNat_natCast, Nat.reduceEqDiff, reduceIte, reduceCtorEq, decide_true, decide_false, Bool.not_true, Bool.not_false, Bool.and_true, Bool.true_and, Bool.and_false, Bool.false_and, Bool.or_true, Bool.true_or, Bool.or_false, Bool.false_or,
  sSeq_ap, sqK_nx, sqK_rt, sqK_rl, sqK_bk, sqK_ct, sqK_no, sIf_ap, ifK_t, ifK_f, ifK_d, ifK_nd, sNil_ap, sBk_ap, sCt_ap, sRetN_ap, sBad_ap, eVar_ap, bVar_ap, mVar_ap, rdV_ro, rdV_lr, rdB_ro, rdB_lr, rdB_ow, rdM_lr, rdM_ow, nVar_ap, rdN_ro, rdN_lr, rdN_ow, eC_ap, e1_ap, e2_ap, e3_ap, b1_s, b2_s, b3_s, aNil_ap, aCons_ap, cnK_s, eCall_ap, caK_s, eTup_ap, tupK_s, lLst_ap, lstK_s, liL_ap, liK_s, lCat_ap, catK_s, oNone_ap, oSome_ap, oSK_i, asB_ap, boK_b, eAnd_ap, eOr_ap, andK_t, andK_f, orK_t, orK_f, andK_d, orK_d, bAnd_ap, bOr_ap, bAndK_t, bAndK_f, bOrK_t, bOrK_f, bAndK_d, bOrK_d, bAndK_nd, bOrK_nd, bNot_ap, toD_s, toL_l, rv_v, rv_l, sSet_ap, stK_s, sSetL_ap, slK_s, sSetR_ap, srK_s, sAsg_ap, asK_s, hName_ap, hTup_ap, hCons_ap, hNil_ap, sDrop_ap, drK_s, sRet_ap, rtK_s, sRetL_ap, rlK_s, sRetO_ap, roK_s, sFz_ap, fzK_s, fzK_ro, fzK_lr, sApp_ap, apK_s, sPut_ap, puK_s, sFor_ap, foK_s, forGo_n, forGo_c, tgK_s, at_nx, at_ct, at_bk, at_rt, at_rl, lComp_ap, coK_s, wipeE_n, wipeE_c, cYes_ap, wiK_t, wiK_f, sqK_ite, rvK_ite, at_ite, boK_ite, rtK_ite, ifK_ite, decide_eq_true_eq, Int.reduceToNat, Int.reduceLT, Int.reduceLE, Int.reduceEq, Int.reduceNeg, Int.reducePow, Int.reduceSub, Int.reduceAdd, Int.reduceMul, iSeqD_ap, iRg1D_ap, iRg2D_ap, iRevD_ap, iEnumD_ap, iZipD_ap, seqK_l, seqK_t, seqK_s, rg1K_i, rg2K_i, revK_l, enuK_l, enuK_x, zipK_l, nat0, nat1, nat2, nat3, nat4, nat5, rvK_rt, rvK_rl, rvK_nx, compGo_n, compGo_c, cdK_y, cdK_s, all_t, eChain_ap, chK_ll, hUnl_ap, revL_ap, kyE_ap, kyeK_i, kyeK_s, kyeK_x, kyT_ap, kytK_ix, eDGet_ap, eDIn_ap, eDGet1_ap, eDGet2_ap, sDNew_ap, sDPutD_ap, dpK_T, dpK_K, sFzK_ap, fzkK_s, fzkK_ro, rdB_oK, pNil_ap, pCons_ap, pcK_s, pcK_x, eDisp_ap, dispK_1, fzL_ap, fzLK_s, fzT_ap, fzTK_s, fzE_ap, fzEK_s, xIO_ap, xiK_s, sRetP_ap, rpK_s, gIO_ap, ioR_rp, ioR_nx, ioK_s, sqK_rp, ioR_ite, envIO, sClear_ap, clK_s, sExt_ap, exK_s, sSetX_ap, xsK_s, xPop_ap, poK_s, poK_1, xPopAt_ap, patK_0, xaNil_ap, xaCons_ap, xacK_s, xTup_ap, xtK_s, xE_ap, xeK_s, xCall_ap, xclK_s, sAsgX_ap, xagK_s, sDropX_ap, xdK_s, sRetX_ap, xrK_s, sAppX_ap, axK_s, ax2K_s, ne_bb, ifK_v, ifK_nv, bOrK_v, bOrK_nv, bAndK_v, bAndK_nv, andK_v, orK_v, andK_nv, orK_nv,
  List.getElem?_cons_succ, List.getElem?_cons_zero, List.set_cons_succ, List.set_cons_zero, Option.bind_some, Option.map_some, Option.bind_none, Option.map_none,
  add_x, len_x, ix_x, eq_x, ne_x, isx_int, isx_bool, isx_str, isx_tuple, isx_list, isNx, notNx, sl_x, seq_x, cut_m1, cut_l1, sl_t, sl_l, sl_s, slL_l, cut_lo, cut_hi, cut_lh, cut_nn, add_ii, add_ss, add_tt, sub_ii, mul_l, mul_r, div_ii, mod_ii, pow_ii, lt_ii, le_ii, gt_ii, ge_ii, eq_ii, eq_bb, eq_ss, ne_ii, ne_ss, len_l, len_t, len_s, int_i, int_b, min_ii, max_ii, tup_l, tup_t, list_l, list_t, neg_i, not_b, ix_l, ix_t, atI_0, atI_1, atI_2, atI_3, atI_4,
  isN_n, isN_i, isN_s, isN_b, isN_t, isN_l, notN_n, notN_i, notN_s, notN_b, notN_t, notN_l, isB, notB, isi_i_int, isi_b_int, isi_s_int, isi_t_int, isi_l_int, isi_n_int, isi_i_bool, isi_b_bool, isi_s_bool, isi_t_bool, isi_l_bool, isi_n_bool, isi_i_str, isi_b_str, isi_s_str, isi_t_str, isi_l_str, isi_n_str, isi_i_tuple, isi_b_tuple, isi_s_tuple, isi_t_tuple, isi_l_tuple, isi_n_tuple, isi_i_list, isi_b_list, isi_s_list, isi_t_list, isi_l_list, isi_n_list])
local macro_rules | `(tactic| walk_at "y") => `(tactic| simp -implicitDefEqProofs (disch := first | omega | (simp only [List.length_cons, List.length_nil, List.length_append, List.length_map, List.length_set, List.length_reverse, List.length_take, List.length_drop, List.length_range]; done) | (simp only [List.length_cons, List.length_nil, List.length_append, List.length_map, List.length_set, List.length_reverse, List.length_take, List.length_drop, List.length_range]; omega) | fail) only [*, List.length_map, chK_lelt, lit_digs, lit_0, lit_00, lit_sp, lit_nl, lit_up, lit_dn, sRaise_ap, rsK_s, sqK_ex, at_ex, gX_ap, rxK_rt, rxK_rl, rxK_nx, rxK_ex, noX_ap, nxK_s, sTryA_ap, sTryB_ap, tyA_s, tyK_ok, okA_v, okB_s, tyK_P, tyK_T, kIsI_ap, kiK_PP, kiK_PT, kiK_PV, kiK_TP, kiK_TT, kiK_TV, kiK_n, kAt_ap, ktK_P, ktK_T, kNon_ap, knK_x, knK_n, rxK_ite, v_cell, v_mixed, lit_sgs, lit_s0, lit_1, lit_000, lit_on, lit_upb, lit_dnb, lit_bnt, len_x, v_number, v_refused, v_spoilt, eMinD_ap, gF_ap, env0, List.map_cons, List.map_nil, List.length_cons, List.length_nil, List.cons_append, List.nil_append, List.replicate_succ, List.replicate_zero, Nat.reduceAdd, Nat.reduceSub, if_true, if_false, eq_self, List.getD_cons_zero, Int.toNat_natCast, Nat.reduceEqDiff, reduceIte, reduceCtorEq, decide_true, decide_false, Bool.not_true, Bool.not_false, Bool.and_true, Bool.true_and, Bool.and_false, Bool.false_and, Bool.or_true, Bool.true_or, Bool.or_false, Bool.false_or,
  sSeq_ap, sqK_nx, sqK_rt, sqK_rl, sqK_bk, sqK_ct, sqK_no, sIf_ap, ifK_t, ifK_f, ifK_d, ifK_nd, sNil_ap, sBk_ap, sCt_ap, sRetN_ap, sBad_ap, eVar_ap, bVar_ap, mVar_ap, rdV_ro, rdV_lr, rdB_ro, rdB_lr, rdB_ow, rdM_lr, rdM_ow, nVar_ap, rdN_ro, rdN_lr, rdN_ow, eC_ap, e1_ap, e2_ap, e3_ap, b1_s, b2_s, b3_s, aNil_ap, aCons_ap, cnK_s, eCall_ap, caK_s, eTup_ap, tupK_s, lLst_ap, lstK_s, liL_ap, liK_s, lCat_ap, catK_s, oNone_ap, oSome_ap, oSK_i, asB_ap, boK_b, eAnd_ap, eOr_ap, andK_t, andK_f, orK_t, orK_f, andK_d, orK_d, bAnd_ap, bOr_ap, bAndK_t, bAndK_f, bOrK_t, bOrK_f, bAndK_d, bOrK_d, bAndK_nd, bOrK_nd, bNot_ap, toD_s, toL_l, rv_v, rv_l, sSet_ap, stK_s, sSetL_ap, slK_s, sSetR_ap, srK_s, sAsg_ap, asK_s, hName_ap, hTup_ap, hCons_ap, hNil_ap, sDrop_ap, drK_s, sRet_ap, rtK_s, sRetL_ap, rlK_s, sRetO_ap, roK_s, sFz_ap, fzK_s, fzK_ro, fzK_lr, sApp_ap, apK_s, sPut_ap, puK_s, sFor_ap, foK_s, forGo_n, forGo_c, tgK_s, at_nx, at_ct, at_bk, at_rt, at_rl, lComp_ap, coK_s, wipeE_n, wipeE_c, cYes_ap, wiK_t, wiK_f, sqK_ite, rvK_ite, at_ite, boK_ite, rtK_ite, ifK_ite, decide_eq_true_eq, Int.reduceToNat, Int.reduceLT, Int.reduceLE, Int.reduceEq, Int.reduceNeg, Int.reducePow, Int.reduceSub, Int.reduceAdd, Int.reduceMul, iSeqD_ap, iRg1D_ap, iRg2D_ap, iRevD_ap, iEnumD_ap, iZipD_ap, seqK_l, seqK_t, seqK_s, rg1K_i, rg2K_i, revK_l, enuK_l, enuK_x, zipK_l, nat0, nat1, nat2, nat3, nat4, nat5, rvK_rt, rvK_rl, rvK_nx, compGo_n, compGo_c, cdK_y, cdK_s, all_t, eChain_ap, chK_ll, hUnl_ap, revL_ap, kyE_ap, kyeK_i, kyeK_s, kyeK_x, kyT_ap, kytK_ix, eDGet_ap, eDIn_ap, eDGet1_ap, eDGet2_ap, sDNew_ap, sDPutD_ap, dpK_T, dpK_K, sFzK_ap, fzkK_s, fzkK_ro, rdB_oK, pNil_ap, pCons_ap, pcK_s, pcK_x, eDisp_ap, dispK_1, fzL_ap, fzLK_s, fzT_ap, fzTK_s, fzE_ap, fzEK_s, xIO_ap, xiK_s, sRetP_ap, rpK_s, gIO_ap, ioR_rp, ioR_nx, ioK_s, sqK_rp, ioR_ite, envIO, sClear_ap, clK_s, sExt_ap, exK_s, sSetX_ap, xsK_s, xPop_ap, poK_s, poK_1, xPopAt_ap, patK_0, xaNil_ap, xaCons_ap, xacK_s, xTup_ap, xtK_s, xE_ap, xeK_s, xCall_ap, xclK_s, sAsgX_ap, xagK_s, sDropX_ap, xdK_s, sRetX_ap, xrK_s, sAppX_ap, axK_s, ax2K_s, ne_bb, ifK_v, ifK_nv, bOrK_v, bOrK_nv, bAndK_v, bAndK_nv, andK_v, orK_v, andK_nv, orK_nv,
  List.getElem?_cons_succ, List.getElem?_cons_zero, List.set_cons_succ, List.set_cons_zero, Option.bind_some, Option.map_some, Option.bind_none, Option.map_none,
  add_x, len_x, ix_x, eq_x, ne_x, isx_int, isx_bool, isx_str, isx_tuple, isx_list, isNx, notNx, sl_x, seq_x, cut_m1, cut_l1, sl_t, sl_l, sl_s, slL_l, cut_lo, cut_hi, cut_lh, cut_nn, add_ii, add_ss, add_tt, sub_ii, mul_l, mul_r, div_ii, mod_ii, pow_ii, lt_ii, le_ii, gt_ii, ge_ii, eq_ii, eq_bb, eq_ss, ne_ii, ne_ss, len_l, len_t, len_s, int_i, int_b, min_ii, max_ii, tup_l, tup_t, list_l, list_t, neg_i, not_b, ix_l, ix_t, atI_0, atI_1, atI_2, atI_3, atI_4,
  isN_n, isN_i, isN_s, isN_b, isN_t, isN_l, notN_n, notN_i, notN_s, notN_b, notN_t, notN_l, isB, notB, isi_i_int, isi_b_int, isi_s_int, isi_t_int, isi_l_int, isi_n_int, isi_i_bool, isi_b_bool, isi_s_bool, isi_t_bool, isi_l_bool, isi_n_bool, isi_i_str, isi_b_str, isi_s_str, isi_t_str, isi_l_str, isi_n_str, isi_i_tuple, isi_b_tuple, isi_s_tuple, isi_t_tuple, isi_l_tuple, isi_n_tuple, isi_i_list, isi_b_list, isi_s_list, isi_t_list, isi_l_list, isi_n_list])
theorem v_numbered (ls : List (List Nat)) (ss : List Int) (c : Int) (hc : 0 ≤ c) (h2 : 2 ≤ ls.length) (hl : ls.length ≤ 20) (hsl : ss.length ≤ 3) (hr : ∀ x ∈ ss, 0 ≤ x ∧ x < ls.length) (hb : ∀ (i : Nat) (l : List Nat), ls[i]? = some l → nrow l = decide ((i : Int) ∈ ss)) :
    ∃ (ls2 : List (List Nat)), g_l_numbered [.list (ls.map sx), .list (ss.map .int), .int c] = some (.v (.tuple [.list (ls2.map sx), atD (ls2.findIdx? nrow)])) ∧ (∀ l ∈ ls2, l ∈ ls ∨ l = []) ∧ ls2.length ≤ 21 ∧ 2 ≤ ls2.length := by
  obtain ⟨f1, f2, f3⟩ := first_is ls
  obtain ⟨e1, e2, e3⟩ := first_min ls ss hr hb
  have hm := minDD_i (ns := ss) (k := ls.length)
  rw [e1] at hm
  have hsl2 : (ss.map PyData.int).length ≤ 3 := by rw [List.length_map]; exact hsl
  have hLl : (ls.map sx).length = ls.length := List.length_map ..
  have hLl2 : (ls.map sx).length ≤ 20 := by omega
  have he := eq_ints0 (ss := ss)
  unfold g_l_numbered F_l_numbered
  by_cases c3 : c % 16 = 3
  · have ef : (ls ++ [[]]).findIdx? nrow = some (firstI ls) := by
      have hlt : firstI ls < (ls ++ [[]]).length := by rw [List.length_append, List.length_singleton]; omega
      refine find_of hlt ?_ fun j hj hjf => ?_
      · by_cases h : firstI ls < ls.length
        · rw [List.getElem_append_left h]; exact f3 h
        · rw [List.getElem_append_right (by omega)]
          simp [nrow_nil]
      · rw [List.getElem_append_left (by omega)]; exact f2 j (by omega) hjf
    refine ⟨ls ++ [[]], ?_, fun l h => ?_, by rw [List.length_append, List.length_singleton]; omega, by rw [List.length_append, List.length_singleton]; omega⟩
    · rw [ef, List.map_append, List.map_cons, List.map_nil]
      have hmin : min (firstI ls : Int) ls.length = firstI ls := by omega
      show _ = some (Rv.v (.tuple [.list (ls.map sx ++ [sx []]), .int (firstI ls : Int)]))
      generalize firstI ls = f at *
      clear f2 f3 hb hr ef e2 e3
      generalize ls.map sx = S at *
      generalize ss.map PyData.int = T at *
      walk_at "y"
    · rcases List.mem_append.mp h with h | h
      · exact .inl h
      · exact .inr (List.mem_singleton.mp h)
  · by_cases c7 : c % 16 = 7
    · refine ⟨[] :: ls, ?_, fun l h => ?_, by rw [List.length_cons]; omega, by rw [List.length_cons]; omega⟩
      · have ef : ([] :: ls).findIdx? nrow = some 0 := rfl
        rw [ef, List.map_cons]
        show _ = some (Rv.v (.tuple [.list (sx [] :: ls.map sx), .int ((0 : Nat) : Int)]))
        generalize firstI ls = f at *
        clear f2 f3 hb hr ef e2 e3
        generalize ls.map sx = S at *
        generalize ss.map PyData.int = T at *
        walk_at "y"
      · rcases List.mem_cons.mp h with h | h
        · exact .inr h
        · exact .inl h
    · by_cases c11 : c % 16 = 11
      · obtain ⟨k, hk, hk1, hk2⟩ : ∃ k : Nat, 1 + c / 16 % ((ls.length : Int) - 1) = k ∧ 1 ≤ k ∧ k < ls.length := by
          have p0 := Int.emod_nonneg (c / 16) (show (ls.length : Int) - 1 ≠ 0 by omega)
          have p1 := Int.emod_lt_of_pos (c / 16) (show (0 : Int) < (ls.length : Int) - 1 by omega)
          exact ⟨(1 + c / 16 % ((ls.length : Int) - 1)).toNat, by omega, by omega, by omega⟩
        have hll : (ls.take k ++ [] :: ls.drop k).length = ls.length + 1 := by
          rw [List.length_append, List.length_cons, List.length_take, List.length_drop]; omega
        have htl : (ls.take k).length = k := by rw [List.length_take]; omega
        have ef : (ls.take k ++ [] :: ls.drop k).findIdx? nrow = some (min (firstI ls) k) := by
          refine find_of (by omega) ?_ fun j hj hjf => ?_
          · by_cases h : firstI ls < k
            · have hmin : min (firstI ls) k = firstI ls := by omega
              simp only [hmin]
              rw [List.getElem_append_left (by omega), List.getElem_take]
              exact f3 (by omega)
            · have hmin : min (firstI ls) k = k := by omega
              simp only [hmin]
              rw [List.getElem_append_right (by omega)]
              simp only [htl, Nat.sub_self]
              rfl
          · rw [List.getElem_append_left (by omega), List.getElem_take]
            exact f2 j (by omega) (by omega)
        refine ⟨ls.take k ++ [] :: ls.drop k, ?_, fun l h => ?_, by omega, by omega⟩
        · rw [ef, List.map_append, List.map_cons]
          have hmin : min (firstI ls : Int) k = ((min (firstI ls) k : Nat) : Int) := by omega
          show _ = some (Rv.v (.tuple [.list ((ls.take k).map sx ++ sx [] :: (ls.drop k).map sx), .int ((min (firstI ls) k : Nat) : Int)]))
          generalize min (firstI ls) k = g at *
          generalize firstI ls = f at *
          have t1 : List.take k (ls.map sx) = (ls.take k).map sx := (List.map_take ..).symm
          have t2 : List.drop k (ls.map sx) = (ls.drop k).map sx := (List.map_drop ..).symm
          have l1 : ((ls.take k).map sx).length ≤ 20 := by rw [List.length_map]; omega
          have l2 : ((ls.drop k).map sx).length ≤ 20 := by rw [List.length_map, List.length_drop]; omega
          have hgt : (1 : Int) < ls.length := by omega
          have hne : (0 : Int) < (ls.length : Int) - 1 := by omega
          have hk0 : (0 : Int) ≤ k := by omega
          have hap : ∀ A B : List D, A ++ [sx []] ++ B = A ++ sx [] :: B := fun A B => by simp
          clear f2 f3 hb hr ef e2 e3 hll htl
          generalize (ls.take k).map sx = S1 at *
          generalize (ls.drop k).map sx = S2 at *
          generalize ls.map sx = S at *
          generalize ss.map PyData.int = T at *
          have c16 : ¬ (11 : Int) = 3 := by decide
          walk_at "y"
        · rcases List.mem_append.mp h with h | h
          · exact .inl (List.mem_of_mem_take h)
          · rcases List.mem_cons.mp h with h | h
            · exact .inr h
            · exact .inl (List.mem_of_mem_drop h)
      · refine ⟨ls, ?_, fun l h => .inl h, by omega, h2⟩
        by_cases hz : ss = []
        · rw [e2 hz]
          show _ = some (Rv.v (.tuple [.list (ls.map sx), .none]))
          have he2 : ss.isEmpty = true := by rw [hz]; rfl
          rw [he2] at he
          generalize firstI ls = f at *
          clear f2 f3 hb hr e2 e3 hz
          generalize ls.map sx = S at *
          generalize ss.map PyData.int = T at *
          walk_at "y"
        · rw [e3 hz]
          show _ = some (Rv.v (.tuple [.list (ls.map sx), .int (firstI ls : Int)]))
          have he2 : ss.isEmpty = false := by
            cases ss with
            | nil => exact absurd rfl hz
            | cons _ _ => rfl
          rw [he2] at he
          generalize firstI ls = f at *
          clear f2 f3 hb hr e2 e3 hz
          generalize ls.map sx = S at *
          generalize ss.map PyData.int = T at *
          walk_at "y"
/-- a fact put aside -/
structure Kp (P : Prop) : Prop where
  h : P
theorem tells_ok {T : List Nat} {ls : List (List Nat)} (h : Tells T ls) (e : ls.findIdx? nrow = none) : ∃ ds : List D, ds.length = ls.length ∧ g_p_counter_read [sx T] = some (.ok (.l ds)) := by
  rcases h with ⟨i, h1, h2⟩ | ⟨h1, h2⟩
  · have : ls.findIdx? nrow = some i := h1
    rw [e] at this; cases this
  · exact h2
theorem tells_no {T : List Nat} {ls : List (List Nat)} {i : Nat} (h : Tells T ls) (e : ls.findIdx? nrow = some i) : g_l_refused [sx T, .int (i : Int)] = some (.v (.bool true)) := by
  rcases h with ⟨j, h1, h2⟩ | ⟨h1, h2⟩
  · have : ls.findIdx? nrow = some j := h1
    rw [e] at this; cases this
    exact v_refused T i h2
  · have : ls.findIdx? nrow = none := h1
    rw [e] at this; cases this
theorem join_len : ∀ ls : List (List Nat), (∀ l ∈ ls, l.length ≤ 40) → (joinC 10 ls).length ≤ 41 * ls.length
  | [], _ => Nat.zero_le _
  | l :: ls, h => by
    have k : ∀ F : List (List Nat), (∀ q ∈ F, q.length ≤ 40) → (F.flatMap fun q => 10 :: q).length ≤ 41 * F.length := fun F => by
      induction F with
      | nil => intro _; exact Nat.le_refl _
      | cons q F ih =>
        intro h
        have h1 := h q List.mem_cons_self
        have h2 := ih fun p hp => h p (List.mem_cons_of_mem _ hp)
        rw [List.flatMap_cons, List.length_append, List.length_cons, List.length_cons]
        omega
    have h1 := h l List.mem_cons_self
    have h2 := k ls fun q hq => h q (List.mem_cons_of_mem _ hq)
    rw [joinC_cons, List.length_append, List.length_cons]
    omega
theorem tells_join (ls : List (List Nat)) (h2 : 2 ≤ ls.length) (hl : ls.length ≤ 21) (hb : ∀ l ∈ ls, l.length ≤ 40 ∧ 10 ∉ l) : Tells (joinC 10 ls) ls ∧ (joinC 10 ls).length ≤ 900 := by
  have h900 : (joinC 10 ls).length ≤ 900 := by
    have := join_len ls fun l hm => (hb l hm).1
    omega
  refine ⟨?_, h900⟩
  match ls, h2 with
  | p :: q :: ps, _ =>
    have hne : joinC 10 (p :: q :: ps) ≠ [] := fun e => by
      rw [joinC_cons, List.flatMap_cons] at e
      have := congrArg List.length e
      simp at this
    have := v_read _ hne h900
    rwa [spl_joinC _ _ fun l hm => (hb l hm).2] at this
theorem line_bad {r : WR} (h : r.ok) : (lineC r).length ≤ 40 ∧ 10 ∉ lineC r := ⟨by have := (line_len h).2; omega, fun m => by have := line_free h 10 m; omega⟩
/-- blanks, tabs and line feeds alone -/
theorem nothing_no (t : List Nat) (h0 : t ≠ []) (hl : t.length ≤ 10) (h : ∀ x ∈ t, x = 32 ∨ x = 10 ∨ x = 9) : g_l_refused [sx t, .int 0] = some (.v (.bool true)) := by
  have hT := v_read t h0 (by omega)
  obtain ⟨p, ps, e⟩ := spl_ne 10 t
  have hp := (spl_mem (c := 10) (xs := t) (p := p) (by rw [e]; exact List.mem_cons_self)).2
  have hf : nrow p = true := by
    obtain ⟨q, qs, e2⟩ := spl_ne 32 p
    have hq := (spl_mem (c := 32) (xs := p) (p := q) (by rw [e2]; exact List.mem_cons_self)).2
    have h1 : ∀ x ∈ q, x ≤ 32 := fun x hx => by
      have := h x (hp x (hq x hx)); omega
    unfold nrow rowB
    rw [e2, pb_first (fun z => by have := h1 117 (by rw [z]; decide); omega) (fun z => by have := h1 100 (by rw [z]; decide); omega)]; rfl
  have := tells_no (i := 0) hT (by rw [e, List.findIdx?_cons, hf]; rfl)
  exact this
def lawU : En → Option Out := sSeq (sFor (iRg1D (aCons (e2 addD (eC (.int 1)) (e2 modD (eCall lenD (aCons (bVar 2) (aNil))) (eC (.int 4)))) (aNil))) (hName 4)
    (sSet 8 (e2 addD (bVar 8) (e2 ixD (eC (.str " \n\t")) (e2 modD (eCall (fun ds => toD (g_l_mixed ds)) (aCons (eCall (fun ds => toD (g_l_cell_at ds)) (aCons (eVar 0) (aCons (eC (.int 1)) (aNil)))) (aCons (e2 addD (eC (.int 50)) (bVar 4)) (aNil)))) (eC (.int 3)))))))
    (sRet (eAnd (eCall (fun ds => toD (g_l_refused ds)) (aCons (eVar 8) (aCons (eC (.int 0)) (aNil)))) (e2 (eqD 64) (eCall lenD (aCons (liL (eCall (fun ds => toL (noX g_p_counter_read ds)) (aCons (e2 joinD (eC (.str "\n")) (bVar 1)) (aNil)))) (aNil))) (eCall lenD (aCons (bVar 1) (aNil))))))
theorem lawU_eq : F_law = sSeq (sSetR 1 (lComp (iSeqD (liL (e3 slL (bVar 0) (oSome (eC (.int 2))) (oSome (eC (.int 14)))))) (hName 9) (cYes) (eCall (fun ds => toD (g_l_line ds)) (aCons (eVar 9) (aNil))) [9])) (sSeq (sSetR 1 (lCat (nVar 1) (lLst (aCons (eCall (fun ds => toD (g_l_line ds)) (aCons (eCall (fun ds => toD (g_l_cell_at ds)) (aCons (eVar 0) (aCons (eC (.int 0)) (aNil)))) (aNil))) (aCons (eCall (fun ds => toD (g_l_line ds)) (aCons (eCall (fun ds => toD (g_l_cell_at ds)) (aCons (eVar 0) (aCons (eC (.int 1)) (aNil)))) (aNil))) (aNil)))))) (sSeq (sSetL 2 (eCall listL (aCons (bVar 1) (aNil)))) (sSeq (sSetL 3 (lLst (aNil))) (sSeq (sFor (iRg1D (aCons (e2 modD (eCall (fun ds => toD (g_l_cell_at ds)) (aCons (eVar 0) (aCons (eC (.int 0)) (aNil)))) (eC (.int 4))) (aNil))) (hName 4)
    (sSeq (sSet 5 (e2 modD (eCall (fun ds => toD (g_l_mixed ds)) (aCons (eCall (fun ds => toD (g_l_cell_at ds)) (aCons (eVar 0) (aCons (eC (.int 0)) (aNil)))) (aCons (e2 addD (eC (.int 20)) (bVar 4)) (aNil)))) (eCall lenD (aCons (bVar 2) (aNil)))))
    (sSeq (sPut 2 (eVar 5) (eCall (fun ds => toD (g_l_spoilt ds)) (aCons (e2 ixD (bVar 1) (eVar 5)) (aCons (eCall (fun ds => toD (g_l_mixed ds)) (aCons (eCall (fun ds => toD (g_l_cell_at ds)) (aCons (eVar 0) (aCons (eC (.int 1)) (aNil)))) (aCons (eVar 4) (aNil)))) (aNil)))))
    (sApp 3 (eVar 5))))) (sFz 3 (sFz 2 (sSeq (sAsg (eCall (fun ds => toD (g_l_numbered ds)) (aCons (eVar 2) (aCons (eVar 3) (aCons (eCall (fun ds => toD (g_l_mixed ds)) (aCons (eCall (fun ds => toD (g_l_cell_at ds)) (aCons (eVar 0) (aCons (eC (.int 1)) (aNil)))) (aCons (eC (.int 40)) (aNil)))) (aNil))))) (hTup 2 (hCons (hName 2) (hCons (hName 6) (hNil))))) (sSeq (sSet 7 (e2 joinD (eC (.str "\n")) (bVar 2))) (sSeq (sIf (bAnd (asB (e2 (isND true) (bVar 6) (eC .none))) (bOr (bNot (asB (eCall (fun ds => toD (g_l_refused ds)) (aCons (eVar 7) (aCons (eVar 6) (aNil)))))) (bNot (asB (eCall (fun ds => toD (g_l_refused ds)) (aCons (eVar 7) (aCons (eVar 6) (aNil))))))))
    (sRet (eC (.bool false)))
    (sNil)) (sSeq (sIf (bAnd (asB (e2 (isND false) (bVar 6) (eC .none))) (asB (e2 (neD 64) (eCall lenD (aCons (liL (eCall (fun ds => toL (noX g_p_counter_read ds)) (aCons (eVar 7) (aNil)))) (aNil))) (eCall lenD (aCons (bVar 2) (aNil))))))
    (sRet (eC (.bool false)))
    (sNil)) (sSeq (sSet 8 (eC (.str ""))) (lawU)))))))))))) := rfl
theorem law_fin (ns : List Int) (rs : List WR) (h2 : 2 ≤ rs.length) (h14 : rs.length ≤ 14) (hrok : ∀ r ∈ rs, r.ok) (S2 : List D) (hS2 : S2.length ≤ 21) (v3 v4 v5 v6 v7 v9 : Option SV) :
    rvK (lawU [some (.ro (.list (ns.map .int))), some (.lr ((rs.map lineC).map sx)), some (.ro (.list S2)), v3, v4, v5, v6, v7, some (.ro (sx [])), v9]) = some (.v (.bool true)) := by
  obtain ⟨t2, t2l⟩ := tells_join (rs.map lineC) (by rw [List.length_map]; omega) (by rw [List.length_map]; omega) fun l hl => by
    obtain ⟨r, hr, rfl⟩ := List.mem_map.mp hl
    exact line_bad (hrok r hr)
  have j2 := join_xc 10 (rs.map lineC) (by omega)
  obtain ⟨gs, g1, g2⟩ := tells_ok t2 (List.findIdx?_eq_none_iff.mpr fun l hl => by
    obtain ⟨r, hr, rfl⟩ := List.mem_map.mp hl
    unfold nrow
    rw [row_good (hrok r hr)]; rfl)
  rw [List.length_map] at g1
  have hgl : gs.length ≤ 14 := by omega
  have hSl : ((rs.map lineC).map sx).length = gs.length := by rw [List.length_map, List.length_map, g1]
  clear t2 t2l hrok h2 h14 g1
  generalize joinC 10 (rs.map lineC) = T at *
  generalize (rs.map lineC).map sx = R at *
  unfold lawU
  walk_at "y"
  generalize hX : forGo _ _ _ _ = X
  obtain ⟨⟨t, u4⟩, rfl, i1, i2⟩ := loop_st (fun v : List Nat × Option SV => [some (SV.ro (.list (ns.map .int))), some (SV.lr R), some (.ro (.list S2)), v3, v.2, v5, v6, v7, some (.ro (sx v.1)), v9])
    (fun n v => v.1.length = n ∧ ∀ x ∈ v.1, x = 32 ∨ x = 10 ∨ x = 9) ([], v4) 0 hX ⟨rfl, fun x h => by cases h⟩ fun i d v hd hI => by
      obtain ⟨t, u4⟩ := v
      dsimp only at hI ⊢
      rw [Nat.zero_add] at hI ⊢
      obtain ⟨k1, k2⟩ := hI
      obtain ⟨hi, rfl⟩ := range_get hd
      have hi2 : i < 4 := by omega
      have hv := v_mixed (cellAt ns 1) (50 + i) (by omega) (by omega)
      generalize mixed (cellAt ns 1) (50 + i) = m at hv
      have htl : t.length ≤ 4 := by omega
      obtain ⟨s, hs, hs0, hs1⟩ : ∃ s : Int, m % 3 = s ∧ 0 ≤ s ∧ s < 3 := ⟨_, rfl, by omega, by omega⟩
      have hx : ixD (sx [32, 10, 9]) (.int s) = some (sx [[32, 10, 9].getD s.toNat 0]) := ix_x hs0 hs1 (by decide)
      have hg : [32, 10, 9].getD s.toNat 0 = 32 ∨ [32, 10, 9].getD s.toNat 0 = 10 ∨ [32, 10, 9].getD s.toNat 0 = 9 := by
        rcases (show s = 0 ∨ s = 1 ∨ s = 2 by omega) with rfl | rfl | rfl
        · exact .inl rfl
        · exact .inr (.inl rfl)
        · exact .inr (.inr rfl)
      generalize [32, 10, 9].getD s.toNat 0 = g at *
      refine ⟨(t ++ [g], some (.ro (.int (i : Int)))), .inl ?_, by rw [List.length_append, k1]; rfl, fun x hx => ?_⟩
      · dsimp only
        clear hX hd k2 hg
        walk_at "y"
      · rcases List.mem_append.mp hx with hx | hx
        · exact k2 x hx
        · rcases List.mem_singleton.mp hx with rfl; exact hg
  rw [List.length_map, List.length_range, Nat.zero_add] at i1
  dsimp only at i1 i2
  have hno := nothing_no t (fun e => by rw [e] at i1; simp at i1; omega) (by omega) i2
  clear hX i2
  walk_at "y"
local macro_rules | `(tactic| walk_at "z") => `(tactic| simp -implicitDefEqProofs (disch := first | omega | (simp only [List.length_cons, List.length_nil, List.length_append, List.length_map, List.length_set, List.length_reverse, List.length_take, List.length_drop, List.length_range]; done) | (simp only [List.length_cons, List.length_nil, List.length_append, List.length_map, List.length_set, List.length_reverse, List.length_take, List.length_drop, List.length_range]; omega) | fail) only [List.length_map, chK_lelt, lit_digs, lit_0, lit_00, lit_sp, lit_nl, lit_up, lit_dn, sRaise_ap, rsK_s, sqK_ex, at_ex, gX_ap, rxK_rt, rxK_rl, rxK_nx, rxK_ex, noX_ap, nxK_s, sTryA_ap, sTryB_ap, tyA_s, tyK_ok, okA_v, okB_s, tyK_P, tyK_T, kIsI_ap, kiK_PP, kiK_PT, kiK_PV, kiK_TP, kiK_TT, kiK_TV, kiK_n, kAt_ap, ktK_P, ktK_T, kNon_ap, knK_x, knK_n, rxK_ite, v_cell, v_mixed, lit_sgs, lit_s0, lit_1, lit_000, lit_on, lit_upb, lit_dnb, lit_bnt, len_x, v_number, v_refused, v_spoilt, eMinD_ap, law_fin, gF_ap, env0, List.map_cons, List.map_nil, List.length_cons, List.length_nil, List.cons_append, List.nil_append, List.replicate_succ, List.replicate_zero, Nat.reduceAdd, Nat.reduceSub, if_true, if_false, eq_self, List.getD_cons_zero, Int.toNat_natCast, Nat.reduceEqDiff, reduceIte, reduceCtorEq, decide_true, decide_false, Bool.not_true, Bool.not_false, Bool.and_true, Bool.true_and, Bool.and_false, Bool.false_and, Bool.or_true, Bool.true_or, Bool.or_false, Bool.false_or,
  sSeq_ap, sqK_nx, sqK_rt, sqK_rl, sqK_bk, sqK_ct, sqK_no, sIf_ap, ifK_t, ifK_f, ifK_d, ifK_nd, sNil_ap, sBk_ap, sCt_ap, sRetN_ap, sBad_ap, eVar_ap, bVar_ap, mVar_ap, rdV_ro, rdV_lr, rdB_ro, rdB_lr, rdB_ow, rdM_lr, rdM_ow, nVar_ap, rdN_ro, rdN_lr, rdN_ow, eC_ap, e1_ap, e2_ap, e3_ap, b1_s, b2_s, b3_s, aNil_ap, aCons_ap, cnK_s, eCall_ap, caK_s, eTup_ap, tupK_s, lLst_ap, lstK_s, liL_ap, liK_s, lCat_ap, catK_s, oNone_ap, oSome_ap, oSK_i, asB_ap, boK_b, eAnd_ap, eOr_ap, andK_t, andK_f, orK_t, orK_f, andK_d, orK_d, bAnd_ap, bOr_ap, bAndK_t, bAndK_f, bOrK_t, bOrK_f, bAndK_d, bOrK_d, bAndK_nd, bOrK_nd, bNot_ap, toD_s, toL_l, rv_v, rv_l, sSet_ap, stK_s, sSetL_ap, slK_s, sSetR_ap, srK_s, sAsg_ap, asK_s, hName_ap, hTup_ap, hCons_ap, hNil_ap, sDrop_ap, drK_s, sRet_ap, rtK_s, sRetL_ap, rlK_s, sRetO_ap, roK_s, sFz_ap, fzK_s, fzK_ro, fzK_lr, sApp_ap, apK_s, sPut_ap, puK_s, sFor_ap, foK_s, forGo_n, forGo_c, tgK_s, at_nx, at_ct, at_bk, at_rt, at_rl, lComp_ap, coK_s, wipeE_n, wipeE_c, cYes_ap, wiK_t, wiK_f, sqK_ite, rvK_ite, at_ite, boK_ite, rtK_ite, ifK_ite, decide_eq_true_eq, Int.reduceToNat, Int.reduceLT, Int.reduceLE, Int.reduceEq, Int.reduceNeg, Int.reducePow, Int.reduceSub, Int.reduceAdd, Int.reduceMul, iSeqD_ap, iRg1D_ap, iRg2D_ap, iRevD_ap, iEnumD_ap, iZipD_ap, seqK_l, seqK_t, seqK_s, rg1K_i, rg2K_i, revK_l, enuK_l, enuK_x, zipK_l, nat0, nat1, nat2, nat3, nat4, nat5, rvK_rt, rvK_rl, rvK_nx, compGo_n, compGo_c, cdK_y, cdK_s, all_t, eChain_ap, chK_ll, hUnl_ap, revL_ap, kyE_ap, kyeK_i, kyeK_s, kyeK_x, kyT_ap, kytK_ix, eDGet_ap, eDIn_ap, eDGet1_ap, eDGet2_ap, sDNew_ap, sDPutD_ap, dpK_T, dpK_K, sFzK_ap, fzkK_s, fzkK_ro, rdB_oK, pNil_ap, pCons_ap, pcK_s, pcK_x, eDisp_ap, dispK_1, fzL_ap, fzLK_s, fzT_ap, fzTK_s, fzE_ap, fzEK_s, xIO_ap, xiK_s, sRetP_ap, rpK_s, gIO_ap, ioR_rp, ioR_nx, ioK_s, sqK_rp, ioR_ite, envIO, sClear_ap, clK_s, sExt_ap, exK_s, sSetX_ap, xsK_s, xPop_ap, poK_s, poK_1, xPopAt_ap, patK_0, xaNil_ap, xaCons_ap, xacK_s, xTup_ap, xtK_s, xE_ap, xeK_s, xCall_ap, xclK_s, sAsgX_ap, xagK_s, sDropX_ap, xdK_s, sRetX_ap, xrK_s, sAppX_ap, axK_s, ax2K_s, ne_bb, ifK_v, ifK_nv, bOrK_v, bOrK_nv, bAndK_v, bAndK_nv, andK_v, orK_v, andK_nv, orK_nv,
  List.getElem?_cons_succ, List.getElem?_cons_zero, List.set_cons_succ, List.set_cons_zero, Option.bind_some, Option.map_some, Option.bind_none, Option.map_none,
  add_x, len_x, ix_x, eq_x, ne_x, isx_int, isx_bool, isx_str, isx_tuple, isx_list, isNx, notNx, sl_x, seq_x, cut_m1, cut_l1, sl_t, sl_l, sl_s, slL_l, cut_lo, cut_hi, cut_lh, cut_nn, add_ii, add_ss, add_tt, sub_ii, mul_l, mul_r, div_ii, mod_ii, pow_ii, lt_ii, le_ii, gt_ii, ge_ii, eq_ii, eq_bb, eq_ss, ne_ii, ne_ss, len_l, len_t, len_s, int_i, int_b, min_ii, max_ii, tup_l, tup_t, list_l, list_t, neg_i, not_b, ix_l, ix_t, atI_0, atI_1, atI_2, atI_3, atI_4,
  isN_n, isN_i, isN_s, isN_b, isN_t, isN_l, notN_n, notN_i, notN_s, notN_b, notN_t, notN_l, isB, notB, isi_i_int, isi_b_int, isi_s_int, isi_t_int, isi_l_int, isi_n_int, isi_i_bool, isi_b_bool, isi_s_bool, isi_t_bool, isi_l_bool, isi_n_bool, isi_i_str, isi_b_str, isi_s_str, isi_t_str, isi_l_str, isi_n_str, isi_i_tuple, isi_b_tuple, isi_s_tuple, isi_t_tuple, isi_l_tuple, isi_n_tuple, isi_i_list, isi_b_list, isi_s_list, isi_t_list, isi_l_list, isi_n_list])
local macro_rules | `(tactic| walk_at "y") => `(tactic| simp -implicitDefEqProofs (disch := first | omega | (simp only [List.length_cons, List.length_nil, List.length_append, List.length_map, List.length_set, List.length_reverse, List.length_take, List.length_drop, List.length_range]; done) | (simp only [List.length_cons, List.length_nil, List.length_append, List.length_map, List.length_set, List.length_reverse, List.length_take, List.length_drop, List.length_range]; omega) | fail) only [*, List.length_map, chK_lelt, lit_digs, lit_0, lit_00, lit_sp, lit_nl, lit_up, lit_dn, sRaise_ap, rsK_s, sqK_ex, at_ex, gX_ap, rxK_rt, rxK_rl, rxK_nx, rxK_ex, noX_ap, nxK_s, sTryA_ap, sTryB_ap, tyA_s, tyK_ok, okA_v, okB_s, tyK_P, tyK_T, kIsI_ap, kiK_PP, kiK_PT, kiK_PV, kiK_TP, kiK_TT, kiK_TV, kiK_n, kAt_ap, ktK_P, ktK_T, kNon_ap, knK_x, knK_n, rxK_ite, v_cell, v_mixed, lit_sgs, lit_s0, lit_1, lit_000, lit_on, lit_upb, lit_dnb, lit_bnt, len_x, v_number, v_refused, v_spoilt, eMinD_ap, law_fin, gF_ap, env0, List.map_cons, List.map_nil, List.length_cons, List.length_nil, List.cons_append, List.nil_append, List.replicate_succ, List.replicate_zero, Nat.reduceAdd, Nat.reduceSub, if_true, if_false, eq_self, List.getD_cons_zero, Int.toNat_natCast, Nat.reduceEqDiff, reduceIte, reduceCtorEq, decide_true, decide_false, Bool.not_true, Bool.not_false, Bool.and_true, Bool.true_and, Bool.and_false, Bool.false_and, Bool.or_true, Bool.true_or, Bool.or_false, Bool.false_or,
  sSeq_ap, sqK_nx, sqK_rt, sqK_rl, sqK_bk, sqK_ct, sqK_no, sIf_ap, ifK_t, ifK_f, ifK_d, ifK_nd, sNil_ap, sBk_ap, sCt_ap, sRetN_ap, sBad_ap, eVar_ap, bVar_ap, mVar_ap, rdV_ro, rdV_lr, rdB_ro, rdB_lr, rdB_ow, rdM_lr, rdM_ow, nVar_ap, rdN_ro, rdN_lr, rdN_ow, eC_ap, e1_ap, e2_ap, e3_ap, b1_s, b2_s, b3_s, aNil_ap, aCons_ap, cnK_s, eCall_ap, caK_s, eTup_ap, tupK_s, lLst_ap, lstK_s, liL_ap, liK_s, lCat_ap, catK_s, oNone_ap, oSome_ap, oSK_i, asB_ap, boK_b, eAnd_ap, eOr_ap, andK_t, andK_f, orK_t, orK_f, andK_d, orK_d, bAnd_ap, bOr_ap, bAndK_t, bAndK_f, bOrK_t, bOrK_f, bAndK_d, bOrK_d, bAndK_nd, bOrK_nd, bNot_ap, toD_s, toL_l, rv_v, rv_l, sSet_ap, stK_s, sSetL_ap, slK_s, sSetR_ap, srK_s, sAsg_ap, asK_s, hName_ap, hTup_ap, hCons_ap, hNil_ap, sDrop_ap, drK_s, sRet_ap, rtK_s, sRetL_ap, rlK_s, sRetO_ap, roK_s, sFz_ap, fzK_s, fzK_ro, fzK_lr, sApp_ap, apK_s, sPut_ap, puK_s, sFor_ap, foK_s, forGo_n, forGo_c, tgK_s, at_nx, at_ct, at_bk, at_rt, at_rl, lComp_ap, coK_s, wipeE_n, wipeE_c, cYes_ap, wiK_t, wiK_f, sqK_ite, rvK_ite, at_ite, boK_ite, rtK_ite, ifK_ite, decide_eq_true_eq, Int.reduceToNat, Int.reduceLT, Int.reduceLE, Int.reduceEq, Int.reduceNeg, Int.reducePow, Int.reduceSub, Int.reduceAdd, Int.reduceMul, iSeqD_ap, iRg1D_ap, iRg2D_ap, iRevD_ap, iEnumD_ap, iZipD_ap, seqK_l, seqK_t, seqK_s, rg1K_i, rg2K_i, revK_l, enuK_l, enuK_x, zipK_l, nat0, nat1, nat2, nat3, nat4, nat5, rvK_rt, rvK_rl, rvK_nx, compGo_n, compGo_c, cdK_y, cdK_s, all_t, eChain_ap, chK_ll, hUnl_ap, revL_ap, kyE_ap, kyeK_i, kyeK_s, kyeK_x, kyT_ap, kytK_ix, eDGet_ap, eDIn_ap, eDGet1_ap, eDGet2_ap, sDNew_ap, sDPutD_ap, dpK_T, dpK_K, sFzK_ap, fzkK_s, fzkK_ro, rdB_oK, pNil_ap, pCons_ap, pcK_s, pcK_x, eDisp_ap, dispK_1, fzL_ap, fzLK_s, fzT_ap, fzTK_s, fzE_ap, fzEK_s, xIO_ap, xiK_s, sRetP_ap, rpK_s, gIO_ap, ioR_rp, ioR_nx, ioK_s, sqK_rp, ioR_ite, envIO, sClear_ap, clK_s, sExt_ap, exK_s, sSetX_ap, xsK_s, xPop_ap, poK_s, poK_1, xPopAt_ap, patK_0, xaNil_ap, xaCons_ap, xacK_s, xTup_ap, xtK_s, xE_ap, xeK_s, xCall_ap, xclK_s, sAsgX_ap, xagK_s, sDropX_ap, xdK_s, sRetX_ap, xrK_s, sAppX_ap, axK_s, ax2K_s, ne_bb, ifK_v, ifK_nv, bOrK_v, bOrK_nv, bAndK_v, bAndK_nv, andK_v, orK_v, andK_nv, orK_nv,
  List.getElem?_cons_succ, List.getElem?_cons_zero, List.set_cons_succ, List.set_cons_zero, Option.bind_some, Option.map_some, Option.bind_none, Option.map_none,
  add_x, len_x, ix_x, eq_x, ne_x, isx_int, isx_bool, isx_str, isx_tuple, isx_list, isNx, notNx, sl_x, seq_x, cut_m1, cut_l1, sl_t, sl_l, sl_s, slL_l, cut_lo, cut_hi, cut_lh, cut_nn, add_ii, add_ss, add_tt, sub_ii, mul_l, mul_r, div_ii, mod_ii, pow_ii, lt_ii, le_ii, gt_ii, ge_ii, eq_ii, eq_bb, eq_ss, ne_ii, ne_ss, len_l, len_t, len_s, int_i, int_b, min_ii, max_ii, tup_l, tup_t, list_l, list_t, neg_i, not_b, ix_l, ix_t, atI_0, atI_1, atI_2, atI_3, atI_4,
  isN_n, isN_i, isN_s, isN_b, isN_t, isN_l, notN_n, notN_i, notN_s, notN_b, notN_t, notN_l, isB, notB, isi_i_int, isi_b_int, isi_s_int, isi_t_int, isi_l_int, isi_n_int, isi_i_bool, isi_b_bool, isi_s_bool, isi_t_bool, isi_l_bool, isi_n_bool, isi_i_str, isi_b_str, isi_s_str, isi_t_str, isi_l_str, isi_n_str, isi_i_tuple, isi_b_tuple, isi_s_tuple, isi_t_tuple, isi_l_tuple, isi_n_tuple, isi_i_list, isi_b_list, isi_s_list, isi_t_list, isi_l_list, isi_n_list])
theorem law_true (ns : List Int) (hn : ns.length ≤ 63) : g_law [.list (ns.map .int)] = some (.v (.bool true)) := by
  obtain ⟨G, hG⟩ : ∃ G : Int → WR, ∀ c, (G c).ok ∧ g_l_line [.int c] = some (.v (sx (lineC (G c)))) := ⟨fun c => Classical.choose (v_line c), fun c => Classical.choose_spec (v_line c)⟩
  have cut1 : cutD (ns.map PyData.int) (some 2) (some 14) = ((ns.drop 2).take 12).map .int := by
    rw [cut_lh (by decide) (by decide), List.map_take, List.map_drop]; rfl
  have hcl : ((ns.drop 2).take 12).length ≤ 12 := by rw [List.length_take]; omega
  obtain ⟨rs, hrs⟩ : ∃ rs : List WR, (((ns.drop 2).take 12).map G) ++ [G (cellAt ns 0), G (cellAt ns 1)] = rs := ⟨_, rfl⟩
  have hrl : rs.length ≤ 14 ∧ 2 ≤ rs.length := by rw [← hrs, List.length_append, List.length_map]; simp only [List.length_cons, List.length_nil]; omega
  have hrok : ∀ r ∈ rs, r.ok := fun r hr => by
    rw [← hrs] at hr
    rcases List.mem_append.mp hr with hr | hr
    · obtain ⟨c, _, rfl⟩ := List.mem_map.mp hr
      exact (hG c).1
    · rcases List.mem_cons.mp hr with rfl | hr
      · exact (hG _).1
      · rcases List.mem_singleton.mp hr with rfl
        exact (hG _).1
  obtain ⟨S0, hS0⟩ : ∃ S0, ((ns.drop 2).take 12).map (fun c => sx (lineC (G c))) = S0 := ⟨_, rfl⟩
  have hS0l : S0.length ≤ 12 := by rw [← hS0, List.length_map]; exact hcl
  have hS : S0 ++ [sx (lineC (G (cellAt ns 0))), sx (lineC (G (cellAt ns 1)))] = (rs.map lineC).map sx := by
    rw [← hS0, ← hrs, List.map_append, List.map_append, List.map_map, List.map_map]; rfl
  unfold g_law
  rw [lawU_eq]
  have hcomp : ∀ Y, compGo (hName 9) cYes (eCall (fun ds => toD (g_l_line ds)) (aCons (eVar 9) aNil)) [some (.ro (.list (ns.map .int))), none, none, none, none, none, none, none, none, none] (((ns.drop 2).take 12).map .int) = Y → Y = some S0 := fun Y hY => by
    obtain rfl := comp_map (fun d => match d with | .int c => sx (lineC (G c)) | d => d) hY fun d hd => by
      obtain ⟨c, _, rfl⟩ := List.mem_map.mp hd
      obtain ⟨_, hv⟩ := hG c
      clear hY hd hG
      show _ = some [sx (lineC (G c))]
      generalize lineC (G c) = E at *
      walk_at "y"
    rw [List.map_map, ← hS0]; rfl
  have hci := hcomp _ rfl
  have hv0 := (hG (cellAt ns 0)).2
  have hv1 := (hG (cellAt ns 1)).2
  have hrow : ∀ r ∈ rs, nrow (lineC r) = false := fun r hr => by
    unfold nrow
    rw [row_good (hrok r hr)]; rfl
  obtain ⟨q, hq, hq0, hq3⟩ : ∃ q : Int, cellAt ns 0 % 4 = q ∧ 0 ≤ q ∧ q ≤ 3 := ⟨_, rfl, by omega, by omega⟩
  have hRl : ((rs.map lineC).map sx).length = rs.length := by rw [List.length_map, List.length_map]
  generalize G (cellAt ns 0) = r0 at *
  generalize G (cellAt ns 1) = r1 at *
  have kH := Kp.mk hrow
  have kO := Kp.mk hrok
  clear hG hcomp hS0 hrs hrow hrok
  generalize lineC r0 = L0 at *
  generalize lineC r1 = L1 at *
  walk_at "y"
  generalize hX : forGo _ _ _ _ = X
  obtain ⟨⟨ls, ss, u4, u5⟩, rfl, i1, i2, i3, i4, i5⟩ := loop_st (fun v : List (List Nat) × List Int × Option SV × Option SV => [some (SV.ro (.list (ns.map .int))), some (SV.lr ((rs.map lineC).map sx)), some (SV.ow (v.1.map sx)), some (SV.ow (v.2.1.map .int)), v.2.2.1, v.2.2.2, none, none, none, none])
    (fun n v => v.1.length = rs.length ∧ v.2.1.length = n ∧ (∀ x ∈ v.2.1, 0 ≤ x ∧ x < rs.length) ∧ (∀ (i : Nat) (l : List Nat), v.1[i]? = some l → nrow l = decide ((i : Int) ∈ v.2.1)) ∧ ∀ l ∈ v.1, l.length ≤ 40 ∧ 10 ∉ l) (rs.map lineC, [], none, none) 0 hX
    ⟨List.length_map .., rfl, (fun x h => by cases h), (fun i l h => by
      rw [List.getElem?_map] at h
      obtain ⟨r, hr, rfl⟩ := Option.map_eq_some_iff.mp h
      rw [kH.h r (List.mem_of_getElem? hr)]
      exact (decide_eq_false (by simp)).symm), fun l hl => by
      obtain ⟨r, hr, rfl⟩ := List.mem_map.mp hl
      exact line_bad (kO.h r hr)⟩ fun i d v hd hI => by
      obtain ⟨ls, ss, u4, u5⟩ := v
      dsimp only at hI ⊢
      rw [Nat.zero_add] at hI ⊢
      obtain ⟨j1, j2, j3, j4, j5⟩ := hI
      obtain ⟨hi, rfl⟩ := range_get hd
      have hv20 := v_mixed (cellAt ns 0) (20 + i) (by omega) (by omega)
      have hvi := v_mixed (cellAt ns 1) i (by omega) (by omega)
      have hmi := mixed_nn (cellAt ns 1) i
      generalize mixed (cellAt ns 0) (20 + i) = m1 at hv20
      generalize mixed (cellAt ns 1) i = m2 at hvi hmi
      have hLl : (ls.map sx).length = rs.length := by rw [List.length_map]; exact j1
      obtain ⟨sp, hsp, hsp2⟩ : ∃ s : Nat, m1 % (rs.length : Int) = s ∧ s < rs.length := by
        have p0 := Int.emod_nonneg m1 (show (rs.length : Int) ≠ 0 by omega)
        have p1 := Int.emod_lt_of_pos m1 (show (0 : Int) < rs.length by omega)
        exact ⟨_, (Int.toNat_of_nonneg p0).symm, by omega⟩
      obtain ⟨L, hL1, hL2, hL3, hL4⟩ := v_spoilt rs[sp] (kO.h _ (List.getElem_mem hsp2)) m2 hmi
      have hix : atI ((rs.map lineC).map sx) (sp : Int) = some (sx (lineC rs[sp])) := by
        rw [atI_map, atI_map, atI_nat' (by omega) (by omega), Int.toNat_natCast, List.getElem?_eq_getElem hsp2]; rfl
      have hsl : (ss.map PyData.int).length ≤ 3 := by rw [List.length_map]; omega
      have hpos : (0 : Int) < rs.length := by omega
      refine ⟨(ls.set sp L, ss ++ [(sp : Int)], some (.ro (.int (i : Int))), some (.ro (.int (sp : Int)))), .inl ?_, ?_, ?_, ?_, ?_, ?_⟩
      · dsimp only
        rw [List.map_append, List.map_set]
        generalize lineC rs[sp] = LS at *
        generalize (rs.map lineC).map sx = R at *
        generalize ls.map sx = S at *
        clear hX hd j3 j4 j5 kH kO hL2 hL4
        walk_at "y"
      · dsimp only
        rw [List.length_set]; exact j1
      · dsimp only
        rw [List.length_append, j2]; rfl
      · intro x hx
        rcases List.mem_append.mp hx with hx | hx
        · exact j3 x hx
        · rcases List.mem_singleton.mp hx with rfl
          omega
      · intro k l hk
        dsimp only at hk ⊢
        by_cases hks : k = sp
        · subst hks
          rw [List.getElem?_set_self (by omega)] at hk
          cases hk
          unfold nrow
          rw [hL2]
          exact (decide_eq_true (by simp)).symm
        · rw [List.getElem?_set_ne (by omega)] at hk
          rw [j4 k l hk]
          congr 1
          apply propext
          constructor
          · intro h
            exact List.mem_append_left _ h
          · intro h
            rcases List.mem_append.mp h with h | h
            · exact h
            · have := List.mem_singleton.mp h
              omega
      · intro l hl
        dsimp only at hl
        rcases List.mem_or_eq_of_mem_set hl with hl | rfl
        · exact j5 l hl
        · exact ⟨hL3, hL4⟩
  rw [List.length_map, List.length_range, Nat.zero_add] at i2
  dsimp only at i1 i2 i3 i4 i5
  obtain ⟨ls2, n1, n2, n3, n4⟩ := v_numbered ls ss (mixed (cellAt ns 1) 40) (mixed_nn _ _) (by omega) (by omega) (by omega) (by rw [i1]; exact i3) i4
  have hlb2 : ∀ l ∈ ls2, l.length ≤ 40 ∧ 10 ∉ l := fun l hl => by
    rcases n2 l hl with h | rfl
    · exact i5 l h
    · exact ⟨Nat.zero_le _, fun h => by cases h⟩
  obtain ⟨t1, t1l⟩ := tells_join ls2 n4 n3 hlb2
  have j1 := join_xc 10 ls2 (by omega)
  have hv40 := v_mixed (cellAt ns 1) 40 (by decide) (by decide)
  generalize mixed (cellAt ns 1) 40 = m40 at *
  have hl2 : (ls2.map sx).length = ls2.length := List.length_map ..
  have hl2b : (ls2.map sx).length ≤ 21 := by omega
  have hssl : (ss.map PyData.int).length ≤ 3 := by rw [List.length_map]; omega
  have hlsl : (ls.map sx).length ≤ 14 := by rw [List.length_map]; omega
  have hF := fun v3 v4 v5 v6 v7 v9 => law_fin ns rs hrl.2 hrl.1 kO.h (ls2.map sx) hl2b v3 v4 v5 v6 v7 v9
  clear hX i3 i4 i5 hlb2 kH kO n2
  cases e : ls2.findIdx? nrow with
  | none =>
    obtain ⟨gs, g1, g2⟩ := tells_ok t1 e
    rw [e] at n1
    have n1' : g_l_numbered [.list (ls.map sx), .list (ss.map .int), .int m40] = some (.v (.tuple [.list (ls2.map sx), .none])) := n1
    have g1' : (gs.length : Int) = ls2.length := by rw [g1]
    clear n1 t1 e g1
    generalize joinC 10 ls2 = T at *
    generalize ls2.map sx = S2 at *
    generalize ls.map sx = S at *
    generalize (rs.map lineC).map sx = R at *
    walk_at "y"
  | some i =>
    have hno := tells_no t1 e
    rw [e] at n1
    have n1' : g_l_numbered [.list (ls.map sx), .list (ss.map .int), .int m40] = some (.v (.tuple [.list (ls2.map sx), .int (i : Int)])) := n1
    clear n1 t1 e
    generalize joinC 10 ls2 = T at *
    generalize ls2.map sx = S2 at *
    generalize ls.map sx = S at *
    generalize (rs.map lineC).map sx = R at *
    walk_at "y"
end Q
set_option Elab.async false
set_option maxRecDepth 100000
set_option maxHeartbeats 4000000
set_option linter.all false
namespace Q
open PySem PySem.Spec PyProof.Rows L2 Z
theorem all_mk {l : PySem.W.OpenLaw} {w : World} {K : PySem.W.Frag} {h : Heap} {mg : Str → Option Value} {fa : Addr} (X : K.In h) (G : h.Ns mainGlobals mg) (hfa : mg "law" = some (.ref fa))
    {od0 an0 : Option Addr} {sl0 : Array (Option Value)} {oc0 kV0 dc0 pm0 cd0 ct0 : Value} {f0 : Addr}
    {od1 an1 : Option Addr} {sl1 : Array (Option Value)} {oc1 kV1 dc1 pm1 cd1 ct1 : Value} {f1 : Addr}
    {od2 an2 : Option Addr} {sl2 : Array (Option Value)} {oc2 kV2 dc2 pm2 cd2 ct2 : Value} {f2 : Addr}
    {od3 an3 : Option Addr} {sl3 : Array (Option Value)} {oc3 kV3 dc3 pm3 cd3 ct3 : Value} {f3 : Addr}
    {od4 an4 : Option Addr} {sl4 : Array (Option Value)} {oc4 kV4 dc4 pm4 cd4 ct4 : Value} {f4 : Addr}
    {od5 an5 : Option Addr} {sl5 : Array (Option Value)} {oc5 kV5 dc5 pm5 cd5 ct5 : Value} {f5 : Addr}
    {od6 an6 : Option Addr} {sl6 : Array (Option Value)} {oc6 kV6 dc6 pm6 cd6 ct6 : Value} {f6 : Addr}
    {od7 an7 : Option Addr} {sl7 : Array (Option Value)} {oc7 kV7 dc7 pm7 cd7 ct7 : Value} {f7 : Addr}
    {od8 an8 : Option Addr} {sl8 : Array (Option Value)} {oc8 kV8 dc8 pm8 cd8 ct8 : Value} {f8 : Addr}
    {od9 an9 : Option Addr} {sl9 : Array (Option Value)} {oc9 kV9 dc9 pm9 cd9 ct9 : Value} {f9 : Addr}
    (a0 : PySem.W.nsIn K mainGlobals "_law_numbered" = some (some (.ref f0))) (l0 : K.lookup f0 = some ⟨oc0, od0, .func (PySem.W.fnOf "_law_numbered" "_law_numbered" (defArgs st_l_numbered) (defBody st_l_numbered) (defScope st_l_numbered) .none kV0 dc0 pm0 an0 cd0 ct0), sl0⟩) (c0 : PySem.W.codeIn K cd0 "_law_numbered" = true) (k0 : PySem.W.keepIn K (.ref f0) = true)
    (a1 : PySem.W.nsIn K mainGlobals "_law_mixed" = some (some (.ref f1))) (l1 : K.lookup f1 = some ⟨oc1, od1, .func (PySem.W.fnOf "_law_mixed" "_law_mixed" (defArgs st_l_mixed) (defBody st_l_mixed) (defScope st_l_mixed) .none kV1 dc1 pm1 an1 cd1 ct1), sl1⟩) (c1 : PySem.W.codeIn K cd1 "_law_mixed" = true) (k1 : PySem.W.keepIn K (.ref f1) = true)
    (a2 : PySem.W.nsIn K mainGlobals "_law_line" = some (some (.ref f2))) (l2 : K.lookup f2 = some ⟨oc2, od2, .func (PySem.W.fnOf "_law_line" "_law_line" (defArgs st_l_line) (defBody st_l_line) (defScope st_l_line) .none kV2 dc2 pm2 an2 cd2 ct2), sl2⟩) (c2 : PySem.W.codeIn K cd2 "_law_line" = true) (k2 : PySem.W.keepIn K (.ref f2) = true)
    (a3 : PySem.W.nsIn K mainGlobals "_law_spoilt" = some (some (.ref f3))) (l3 : K.lookup f3 = some ⟨oc3, od3, .func (PySem.W.fnOf "_law_spoilt" "_law_spoilt" (defArgs st_l_spoilt) (defBody st_l_spoilt) (defScope st_l_spoilt) .none kV3 dc3 pm3 an3 cd3 ct3), sl3⟩) (c3 : PySem.W.codeIn K cd3 "_law_spoilt" = true) (k3 : PySem.W.keepIn K (.ref f3) = true)
    (a4 : PySem.W.nsIn K mainGlobals "number_of" = some (some (.ref f4))) (l4 : K.lookup f4 = some ⟨oc4, od4, .func (PySem.W.fnOf "number_of" "number_of" (defArgs st_p_number_of) (defBody st_p_number_of) (defScope st_p_number_of) .none kV4 dc4 pm4 an4 cd4 ct4), sl4⟩) (c4 : PySem.W.codeIn K cd4 "number_of" = true) (k4 : PySem.W.keepIn K (.ref f4) = true)
    (a5 : PySem.W.nsIn K mainGlobals "row_read" = some (some (.ref f5))) (l5 : K.lookup f5 = some ⟨oc5, od5, .func (PySem.W.fnOf "row_read" "row_read" (defArgs st_p_row_read) (defBody st_p_row_read) (defScope st_p_row_read) .none kV5 dc5 pm5 an5 cd5 ct5), sl5⟩) (c5 : PySem.W.codeIn K cd5 "row_read" = true) (k5 : PySem.W.keepIn K (.ref f5) = true)
    (a6 : PySem.W.nsIn K mainGlobals "counter_read" = some (some (.ref f6))) (l6 : K.lookup f6 = some ⟨oc6, od6, .func (PySem.W.fnOf "counter_read" "counter_read" (defArgs st_p_counter_read) (defBody st_p_counter_read) (defScope st_p_counter_read) .none kV6 dc6 pm6 an6 cd6 ct6), sl6⟩) (c6 : PySem.W.codeIn K cd6 "counter_read" = true) (k6 : PySem.W.keepIn K (.ref f6) = true)
    (a7 : PySem.W.nsIn K mainGlobals "_law_refused" = some (some (.ref f7))) (l7 : K.lookup f7 = some ⟨oc7, od7, .func (PySem.W.fnOf "_law_refused" "_law_refused" (defArgs st_l_refused) (defBody st_l_refused) (defScope st_l_refused) .none kV7 dc7 pm7 an7 cd7 ct7), sl7⟩) (c7 : PySem.W.codeIn K cd7 "_law_refused" = true) (k7 : PySem.W.keepIn K (.ref f7) = true)
    (a8 : PySem.W.nsIn K mainGlobals "_law_cell_at" = some (some (.ref f8))) (l8 : K.lookup f8 = some ⟨oc8, od8, .func (PySem.W.fnOf "_law_cell_at" "_law_cell_at" (defArgs st_l_cell_at) (defBody st_l_cell_at) (defScope st_l_cell_at) .none kV8 dc8 pm8 an8 cd8 ct8), sl8⟩) (c8 : PySem.W.codeIn K cd8 "_law_cell_at" = true) (k8 : PySem.W.keepIn K (.ref f8) = true)
    (a9 : PySem.W.nsIn K mainGlobals "law" = some (some (.ref f9))) (l9 : K.lookup f9 = some ⟨oc9, od9, .func (PySem.W.fnOf "law" "law" (defArgs st_law) (defBody st_law) (defScope st_law) .none kV9 dc9 pm9 an9 cd9 ct9), sl9⟩) (c9 : PySem.W.codeIn K cd9 "law" = true) (k9 : PySem.W.keepIn K (.ref f9) = true)
    {t_LONGEST : Tok} (z_LONGEST : PySem.W.nsIn K mainGlobals "LONGEST" = some (some (.int 3 t_LONGEST)))
    {t_FIGURES : Tok} (z_FIGURES : PySem.W.nsIn K mainGlobals "FIGURES" = some (some (.str "0123456789" t_FIGURES)))
    (z_len : PySem.W.nsIn K mainGlobals "len" = some none)
    (z_isi : PySem.W.nsIn K mainGlobals "isinstance" = some none)
    (z_int : PySem.W.nsIn K mainGlobals "int" = some none)
    (z_bool : PySem.W.nsIn K mainGlobals "bool" = some none)
    (z_str : PySem.W.nsIn K mainGlobals "str" = some none)
    (z_tup : PySem.W.nsIn K mainGlobals "tuple" = some none)
    (z_lst : PySem.W.nsIn K mainGlobals "list" = some none)
    (z_rng : PySem.W.nsIn K mainGlobals "range" = some none)
    (z_enm : PySem.W.nsIn K mainGlobals "enumerate" = some none)
    (z_zip : PySem.W.nsIn K mainGlobals "zip" = some none)
    (z_rev : PySem.W.nsIn K mainGlobals "reversed" = some none)
    (z_min : PySem.W.nsIn K mainGlobals "min" = some none)
    (z_max : PySem.W.nsIn K mainGlobals "max" = some none)
    (z_sum : PySem.W.nsIn K mainGlobals "sum" = some none)
    (z_all : PySem.W.nsIn K mainGlobals "all" = some none)
    {C_NoProgram : Addr} (xn_NoProgram : PySem.W.nsIn K mainGlobals "NoProgram" = some (some (.ref C_NoProgram)))
    {C_NoTree : Addr} (xn_NoTree : PySem.W.nsIn K mainGlobals "NoTree" = some (some (.ref C_NoTree)))
    {C_OneError : Addr} (xn_OneError : PySem.W.nsIn K mainGlobals "OneError" = some (some (.ref C_OneError)))
    {T_I : Addr} {oT_I : Obj} {tk_I : Tok} {nn_I : Nat} {od_I an_I : Option Addr} {sl_I : Array (Option Value)} {oc_I kV_I dc_I pm_I cd_I ct_I : Value} {f_I : Addr} (xl_I : K.lookup f_I = some ⟨oc_I, od_I, .func (PySem.W.fnOf "__init__" "OneError.__init__" (defArgs st_init) (defBody st_init) (defScope st_init) (.ref T_I) kV_I dc_I pm_I an_I cd_I ct_I), sl_I⟩) (xc_I : PySem.W.codeIn K cd_I "OneError.__init__" = true) (xk_I : PySem.W.keepIn K (.ref f_I) = true) (xt_I : K.lookup T_I = some oT_I) (xu_I : oT_I.data = .seq #[.int 0 tk_I] nn_I) (xy_I : PySem.W.typeIn K (.ref f_I) = some (.type "function"))
    {nm_NoProgram q_NoProgram : Str} {N_NoProgram : Addr} {bs_NoProgram : List Value} {sn_NoProgram : List Str} {sub_NoProgram : List Value} {ab_NoProgram : Bool} {col_NoProgram : Option Bool} {dd_NoProgram : Option Addr} {m0_NoProgram m1_NoProgram m2_NoProgram m3_NoProgram m5_NoProgram : Option Value} (xi_NoProgram : PySem.W.findIn K (.ref C_NoProgram) "__init__" = some (some (.ref f_I))) (xl_NoProgram : K.lookup C_NoProgram = some (excClassObj nm_NoProgram q_NoProgram C_NoProgram N_NoProgram bs_NoProgram [.ref C_OneError, .type "ValueError", .type "Exception", .type "BaseException", .type "object"] true sn_NoProgram sub_NoProgram ab_NoProgram col_NoProgram dd_NoProgram m0_NoProgram m1_NoProgram m2_NoProgram m3_NoProgram m5_NoProgram "ValueError.__new__")) (xs_NoProgram : PySem.W.findIn K (.ref C_NoProgram) "__setattr__" = some (some (.builtin "object.__setattr__"))) (xb_NoProgram : PySem.W.subIn K (.ref C_NoProgram) (.type "BaseException") = some true) (xt_NoProgram : PySem.W.typeIn K (.ref C_NoProgram) = some (.type "type")) (xk_NoProgram : PySem.W.keepIn K (.ref C_NoProgram) = true) (xc_NoProgram : PySem.W.isClsIn K C_NoProgram = true) (xg_NoProgram : PySem.W.findIn K (.ref C_NoProgram) "__getattribute__" = some (some (.builtin "BaseException.__getattribute__"))) (xq_NoProgram : PySem.W.findIn K (.ref C_NoProgram) "__getattr__" = some none) (xd_NoProgram : PySem.W.hasDictIn K C_NoProgram = true) (xa_NoProgram : PySem.W.findIn K (.ref C_NoProgram) "__class__" = some (some (.builtin "object.__class__"))) (xm_NoProgram : PySem.W.mroIn K C_NoProgram (.type "object") = some true) (xn2_NoProgram : PySem.W.findIn K (.ref C_NoProgram) "at" = some none)
    {nm_NoTree q_NoTree : Str} {N_NoTree : Addr} {bs_NoTree : List Value} {sn_NoTree : List Str} {sub_NoTree : List Value} {ab_NoTree : Bool} {col_NoTree : Option Bool} {dd_NoTree : Option Addr} {m0_NoTree m1_NoTree m2_NoTree m3_NoTree m5_NoTree : Option Value} (xi_NoTree : PySem.W.findIn K (.ref C_NoTree) "__init__" = some (some (.ref f_I))) (xl_NoTree : K.lookup C_NoTree = some (excClassObj nm_NoTree q_NoTree C_NoTree N_NoTree bs_NoTree [.ref C_OneError, .type "ValueError", .type "Exception", .type "BaseException", .type "object"] true sn_NoTree sub_NoTree ab_NoTree col_NoTree dd_NoTree m0_NoTree m1_NoTree m2_NoTree m3_NoTree m5_NoTree "ValueError.__new__")) (xs_NoTree : PySem.W.findIn K (.ref C_NoTree) "__setattr__" = some (some (.builtin "object.__setattr__"))) (xb_NoTree : PySem.W.subIn K (.ref C_NoTree) (.type "BaseException") = some true) (xt_NoTree : PySem.W.typeIn K (.ref C_NoTree) = some (.type "type")) (xk_NoTree : PySem.W.keepIn K (.ref C_NoTree) = true) (xc_NoTree : PySem.W.isClsIn K C_NoTree = true) (xg_NoTree : PySem.W.findIn K (.ref C_NoTree) "__getattribute__" = some (some (.builtin "BaseException.__getattribute__"))) (xq_NoTree : PySem.W.findIn K (.ref C_NoTree) "__getattr__" = some none) (xd_NoTree : PySem.W.hasDictIn K C_NoTree = true) (xa_NoTree : PySem.W.findIn K (.ref C_NoTree) "__class__" = some (some (.builtin "object.__class__"))) (xm_NoTree : PySem.W.mroIn K C_NoTree (.type "object") = some true) (xn2_NoTree : PySem.W.findIn K (.ref C_NoTree) "at" = some none)
    (xg_hn : PySem.W.specialIn K (.builtin "object.__class__") "__get__" = some (some (.builtin "getset_descriptor.__get__")))
    (xg_ht : PySem.W.takesIn K (.builtin "object.__class__") = some true)
    (xg_vV : PySem.W.findCls K (.type "ValueError") (.type "type") "__init__" = some (.val (.builtin "ValueError.__init__")))
    (xg_mV : PySem.W.nsIn K mainGlobals "ValueError" = some none)
    (xg_pp : PySem.W.subIn K (.ref C_NoProgram) (.ref C_NoProgram) = some true)
    (xg_pt : PySem.W.subIn K (.ref C_NoProgram) (.ref C_NoTree) = some false)
    (xg_tp : PySem.W.subIn K (.ref C_NoTree) (.ref C_NoProgram) = some false)
    (xg_tt : PySem.W.subIn K (.ref C_NoTree) (.ref C_NoTree) = some true)
    (xg_pv : PySem.W.subIn K (.ref C_NoProgram) (.type "ValueError") = some true)
    (xg_tv : PySem.W.subIn K (.ref C_NoTree) (.type "ValueError") = some true)
    (xg_np : PySem.W.subIn K (.type "NoneType") (.ref C_NoProgram) = some false)
    (xg_nt : PySem.W.subIn K (.type "NoneType") (.ref C_NoTree) = some false)
    (xg_op : PySem.W.subIn K (.ref C_NoProgram) (.ref C_OneError) = some true)
    (xg_ot : PySem.W.subIn K (.ref C_NoTree) (.ref C_OneError) = some true)
    (xg_ob : PySem.W.subIn K (.ref C_OneError) (.type "BaseException") = some true)
    (xg_oi : PySem.W.isClsIn K C_OneError = true)
    (xg_oy : PySem.W.typeIn K (.ref C_OneError) = some (.type "type")) :
    ∃ fd : FuncData, (∀ (s : Shared) (v : Value), BindsTo s fd ⟨[v], []⟩ [("_law_script", v)]) ∧ ∀ base : Heap, K.In base → base.Ns mainGlobals mg → FnOk l.prog w K mg base CX0 5 fa fd ["_law_script"] (spD K 1 g_law) := by
  have e := hfa.symm.trans (PySem.W.mg_of X G a9)
  cases e
  have bi : Bi mg := ⟨PySem.W.mg_none_of X G z_len, PySem.W.mg_none_of X G z_isi, PySem.W.mg_none_of X G z_int, PySem.W.mg_none_of X G z_bool, PySem.W.mg_none_of X G z_str, PySem.W.mg_none_of X G z_tup, PySem.W.mg_none_of X G z_lst, PySem.W.mg_none_of X G z_rng, PySem.W.mg_none_of X G z_enm, PySem.W.mg_none_of X G z_zip, PySem.W.mg_none_of X G z_rev, PySem.W.mg_none_of X G z_min, PySem.W.mg_none_of X G z_max, PySem.W.mg_none_of X G z_sum, PySem.W.mg_none_of X G z_all⟩
  have F0 := fun_mk (st := st_l_numbered) l0 c0 k0
  have F1 := fun_mk (st := st_l_mixed) l1 c1 k1
  have F2 := fun_mk (st := st_l_line) l2 c2 k2
  have F3 := fun_mk (st := st_l_spoilt) l3 c3 k3
  have F4 := fun_mk (st := st_p_number_of) l4 c4 k4
  have F5 := fun_mk (st := st_p_row_read) l5 c5 k5
  have F6 := fun_mk (st := st_p_counter_read) l6 c6 k6
  have F7 := fun_mk (st := st_l_refused) l7 c7 k7
  have F8 := fun_mk (st := st_l_cell_at) l8 c8 k8
  have F9 := fun_mk (st := st_law) l9 c9 k9
  have hC_NoProgram := cls_of xn_NoProgram
  have hC_NoTree := cls_of xn_NoTree
  have hC_OneError := cls_of xn_OneError
  have oP : OexC K C_NoProgram := ⟨⟨_, _, _, _, _, _, _, _, _, _, _, _, _, _, _, xl_NoProgram, by rfl⟩, xs_NoProgram, xb_NoProgram, xt_NoProgram, xk_NoProgram⟩
  have oT : OexC K C_NoTree := ⟨⟨_, _, _, _, _, _, _, _, _, _, _, _, _, _, _, xl_NoTree, by rfl⟩, xs_NoTree, xb_NoTree, xt_NoTree, xk_NoTree⟩
  have EA : ExAll K mg := exall_mk hC_NoProgram hC_NoTree hC_OneError ⟨xc_NoProgram, xg_NoProgram, xq_NoProgram, xb_NoProgram, xd_NoProgram, xa_NoProgram, xm_NoProgram, xn2_NoProgram⟩ ⟨xc_NoTree, xg_NoTree, xq_NoTree, xb_NoTree, xd_NoTree, xa_NoTree, xm_NoTree, xn2_NoTree⟩ ⟨xg_hn, xg_ht⟩ kit_self (kit_two xc_NoTree xt_NoTree xg_pt xg_pp) (kit_two xc_NoProgram xt_NoProgram xg_tp xg_tt) kit_self (kit_ve xg_pv) (kit_ve xg_tv) (kit_nn xc_NoProgram xt_NoProgram xg_np) (kit_nn xc_NoTree xt_NoTree xg_nt) kit_nv (exm_cl xg_oi xg_oy xg_ob xg_op) (exm_cl xg_oi xg_oy xg_ob xg_ot) (PySem.W.mg_of X G xn_NoProgram) (PySem.W.mg_of X G xn_NoTree) (PySem.W.mg_of X G xn_OneError) (PySem.W.mg_none_of X G xg_mV)
  have FI := fun_mkD (st := st_init) xl_I xc_I xk_I xt_I xu_I
  refine ⟨PySem.W.fnOf "law" "law" (defArgs st_law) (defBody st_law) (defScope st_law) .none kV9 dc9 pm9 an9 cd9 ct9, fun s v => .of_eq rfl, fun base _ _ => ?_⟩
  obtain ⟨FI1, bI⟩ := ok_init (P := l.prog) (w := w) (base := base) FI (PySem.W.mg_none_of X G xg_mV) xg_vV
  have RF := raise_mk EA hC_NoProgram hC_NoTree FI1 bI xy_I oP oT xi_NoProgram xi_NoTree
  have d_l_numbered := ok_l_numbered (P := l.prog) (w := w) (base := base) F0 (PySem.W.mg_of X G a0) bi
  have d_l_mixed := ok_l_mixed (P := l.prog) (w := w) (base := base) F1 (PySem.W.mg_of X G a1) bi
  have d_l_line := ok_l_line (P := l.prog) (w := w) (base := base) F2 (PySem.W.mg_of X G a2) bi d_l_mixed
  have d_l_spoilt := ok_l_spoilt (P := l.prog) (w := w) (base := base) F3 (PySem.W.mg_of X G a3) bi
  have d_p_number_of := ok_p_number_of (P := l.prog) (w := w) (base := base) F4 (PySem.W.mg_of X G a4) bi (PySem.W.mg_of X G z_LONGEST) (PySem.W.mg_of X G z_FIGURES)
  have d_p_row_read := ok_p_row_read (P := l.prog) (w := w) (base := base) F5 (PySem.W.mg_of X G a5) bi d_p_number_of
  have d_p_counter_read := ok_p_counter_read (P := l.prog) (w := w) (base := base) F6 (PySem.W.mg_of X G a6) bi d_p_row_read EA RF hC_NoProgram hC_NoTree hC_OneError
  have d_l_refused := ok_l_refused (P := l.prog) (w := w) (base := base) F7 (PySem.W.mg_of X G a7) bi d_p_counter_read EA RF hC_NoProgram hC_NoTree hC_OneError
  have d_l_cell_at := ok_l_cell_at (P := l.prog) (w := w) (base := base) F8 (PySem.W.mg_of X G a8) bi
  exact ok_law (P := l.prog) (w := w) (base := base) F9 bi d_l_line d_l_cell_at d_l_mixed d_l_spoilt d_l_numbered d_l_refused d_p_counter_read
theorem walk {l : PySem.W.OpenLaw} {q : Program} {loose : List Str} {XP : (Str → Option Value) → Heap → Prop} {YP : World → Heap → Prop} {d : DefRec} {K : Params → PySem.W.Frag} (hn : l.most = some 63) (hdf : d.params.defaults = [])
    (hY : ∀ (w : World) (h : Heap), YP w h → (K w.params).In h)
    (F : ∀ (w : World) (mg : Str → Option Value) (fa : Addr) (h : Heap), (K w.params).In h → h.Ns mainGlobals mg → mg d.name = some (.ref fa) →
      ∃ fd : FuncData, (∀ (s : Shared) (u : Value), BindsTo s fd ⟨[u], []⟩ [("_law_script", u)]) ∧ ∀ base : Heap, (K w.params).In base → base.Ns mainGlobals mg → FnOk l.prog w (K w.params) mg base CX0 5 fa fd ["_law_script"] (spD (K w.params) 1 g_law)) :
    PySem.W.WalkO q loose XP YP l.row.toRowW d [] (fun f vs => PySem.call f vs) :=
  L2.walk_of (n := 63) (k := 5) (x := "_law_script") (CX := fun _ => CX0) (sp := fun w => spD (K w.params) 1 g_law) hn (by decide) hdf ⟨rfl, by decide, by decide⟩ hY F (fun w H a ns hl _ hS => law_sp (law_true ns hl) hS) fun _ _ _ _ _ z => z
end Q
open PySem PySem.W PyProof.Rows
set_option maxRecDepth 100000 in
set_option maxHeartbeats 0 in
theorem PySem.Challenge.cw_oneofall_k15_lines_that_tell_no_row_holds : PySem.Challenge.rw_oneofall_k15_lines_that_tell_no_row.Holds := by
  w_on; o_law; k_head; (case hw => w_witness2)
  k_fill
  refine Q.walk (l := PySem.Challenge.rw_oneofall_k15_lines_that_tell_no_row) rfl rfl (fun w h Y => PySem.W.kIn_of Y) ?F
  case F =>
    intro w mg fa h KX G hmg
    refine' Q.all_mk KX G hmg ?a0 ?l0 ?c0 ?k0 ?a1 ?l1 ?c1 ?k1 ?a2 ?l2 ?c2 ?k2 ?a3 ?l3 ?c3 ?k3 ?a4 ?l4 ?c4 ?k4 ?a5 ?l5 ?c5 ?k5 ?a6 ?l6 ?c6 ?k6 ?a7 ?l7 ?c7 ?k7 ?a8 ?l8 ?c8 ?k8 ?a9 ?l9 ?c9 ?k9 ?z_LONGEST ?z_FIGURES ?z_len ?z_isi ?z_int ?z_bool ?z_str ?z_tup ?z_lst ?z_rng ?z_enm ?z_zip ?z_rev ?z_min ?z_max ?z_sum ?z_all ?xn_NoProgram ?xn_NoTree ?xn_OneError ?xl_I ?xc_I ?xk_I ?xt_I ?xu_I ?xy_I ?xi_NoProgram ?xl_NoProgram ?xs_NoProgram ?xb_NoProgram ?xt_NoProgram ?xk_NoProgram ?xc_NoProgram ?xg_NoProgram ?xq_NoProgram ?xd_NoProgram ?xa_NoProgram ?xm_NoProgram ?xn2_NoProgram ?xi_NoTree ?xl_NoTree ?xs_NoTree ?xb_NoTree ?xt_NoTree ?xk_NoTree ?xc_NoTree ?xg_NoTree ?xq_NoTree ?xd_NoTree ?xa_NoTree ?xm_NoTree ?xn2_NoTree ?xg_hn ?xg_ht ?xg_vV ?xg_mV ?xg_pp ?xg_pt ?xg_tp ?xg_tt ?xg_pv ?xg_tv ?xg_np ?xg_nt ?xg_op ?xg_ot ?xg_ob ?xg_oi ?xg_oy
    (case a0 => k_is); (case l0 => k_is); (case c0 => k_is); (case k0 => k_is)
    (case a1 => k_is); (case l1 => k_is); (case c1 => k_is); (case k1 => k_is)
    (case a2 => k_is); (case l2 => k_is); (case c2 => k_is); (case k2 => k_is)
    (case a3 => k_is); (case l3 => k_is); (case c3 => k_is); (case k3 => k_is)
    (case a4 => k_is); (case l4 => k_is); (case c4 => k_is); (case k4 => k_is)
    (case a5 => k_is); (case l5 => k_is); (case c5 => k_is); (case k5 => k_is)
    (case a6 => k_is); (case l6 => k_is); (case c6 => k_is); (case k6 => k_is)
    (case a7 => k_is); (case l7 => k_is); (case c7 => k_is); (case k7 => k_is)
    (case a8 => k_is); (case l8 => k_is); (case c8 => k_is); (case k8 => k_is)
    (case a9 => k_is); (case l9 => k_is); (case c9 => k_is); (case k9 => k_is)
    (case z_LONGEST => k_is)
    (case z_FIGURES => k_is)
    (case z_len => k_is)
    (case z_isi => k_is)
    (case z_int => k_is)
    (case z_bool => k_is)
    (case z_str => k_is)
    (case z_tup => k_is)
    (case z_lst => k_is)
    (case z_rng => k_is)
    (case z_enm => k_is)
    (case z_zip => k_is)
    (case z_rev => k_is)
    (case z_min => k_is)
    (case z_max => k_is)
    (case z_sum => k_is)
    (case z_all => k_is)
    (case xn_NoProgram => k_is)
    (case xn_NoTree => k_is)
    (case xn_OneError => k_is)
    (case xi_NoProgram => k_is)
    (case xl_NoProgram => k_is)
    (case xs_NoProgram => k_is)
    (case xb_NoProgram => k_is)
    (case xt_NoProgram => k_is)
    (case xk_NoProgram => k_is)
    (case xc_NoProgram => k_is)
    (case xg_NoProgram => k_is)
    (case xq_NoProgram => k_is)
    (case xd_NoProgram => k_is)
    (case xa_NoProgram => k_is)
    (case xm_NoProgram => k_is)
    (case xn2_NoProgram => k_is)
    (case xi_NoTree => k_is)
    (case xl_NoTree => k_is)
    (case xs_NoTree => k_is)
    (case xb_NoTree => k_is)
    (case xt_NoTree => k_is)
    (case xk_NoTree => k_is)
    (case xc_NoTree => k_is)
    (case xg_NoTree => k_is)
    (case xq_NoTree => k_is)
    (case xd_NoTree => k_is)
    (case xa_NoTree => k_is)
    (case xm_NoTree => k_is)
    (case xn2_NoTree => k_is)
    (case xl_I => k_is); (case xc_I => k_is); (case xk_I => k_is); (case xt_I => k_is); (case xu_I => first | rfl | k_is); (case xy_I => k_is)
    (case xg_hn => k_is)
    (case xg_ht => k_is)
    (case xg_vV => k_is)
    (case xg_mV => k_is)
    (case xg_pp => k_is)
    (case xg_pt => k_is)
    (case xg_tp => k_is)
    (case xg_tt => k_is)
    (case xg_pv => k_is)
    (case xg_tv => k_is)
    (case xg_np => k_is)
    (case xg_nt => k_is)
    (case xg_op => k_is)
    (case xg_ot => k_is)
    (case xg_ob => k_is)
    (case xg_oi => k_is)
    (case xg_oy => k_is)

