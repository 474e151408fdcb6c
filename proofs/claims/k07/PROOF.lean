import PyProof.Rows.All
import Wide.All
import OpenK.AllK
import Wide.FinOn
import HandS.ForMost
import HandS.Style
import HandS.IsInst
import HandS.Flow
import HandS.Exc
import HandS.ExcOwn
import HandS.Conv
import HandS.Dict
import HandS.Text
import HandS.AnyAll
import HandS.Wide
import HandS.Zip
import KE.SortData
import KE.DataCmp
import KE.KRevSl
import HandS.TupMul
import PyProof.StrOps2
import KE.KDictDisplayH
import PyProof.TupleIter
import KE.GoesMore
import KE.KDictPairs
import HandS.CallRecv
import KE.KDictSum
import HandS.ExcIs
import HandS.EndBits
import PyProof.ReprLen
import PySem.Challenge.RW_fewfilled_k07_written_and_read
set_option Elab.async false
set_option linter.all false
set_option maxRecDepth 100000
namespace MP
open PySem
inductive PV where
  | non | bl (b : Bool) | int (i : Int) | str (x : Str)
  | tup (xs : List PV) | lst (xs : List PV) | dct (ks vs : List PV)
  | loc (a : Addr) | fn (f : Str)
  | cst (ns : List Int) | dtt (ks vs : List PV)
inductive Cell where
  | lst (xs : List PV) | dct (kvs : List (PV × PV)) | ins (C : Str) (fs : List (Str × PV))
  | dtt (ps : List (List PV × PV)) | dtf (ps : List (List PV × PV)) | dcf (ps : List (PV × PV))
abbrev MH := Addr → Option Cell
def MH.put (h : MH) (a : Addr) (c : Cell) : MH := fun b => if b = a then some c else h b
abbrev Env := List (Option PV)
abbrev Post := PV → MH → Prop
structure Exc where
  cls : Str
  arg : Option PV
abbrev XQ := Exc → MH → Prop
abbrev XP := Exc → Env → MH → Prop
abbrev Calls := Str → List PV → MH → Post → XQ → Prop
mutual
def toD : PV → PyData
  | .non => .none | .bl b => .bool b | .int i => .int i | .str x => .str x
  | .tup xs => .tuple (toDs xs) | .lst xs => .list (toDs xs) | .dct ks vs => .dict ((toDs ks).zip (toDs vs))
  | .loc _ => .none | .fn _ => .none | .cst _ => .none | .dtt _ _ => .none
def toDs : List PV → List PyData
  | [] => []
  | x :: r => toD x :: toDs r
end
mutual
def pur : PV → Bool
  | .non | .bl _ | .int _ | .str _ => true
  | .tup xs => purs xs | .lst xs => purs xs | .dct ks vs => purs ks && purs vs
  | .loc _ => false | .fn _ => false | .cst _ => false | .dtt _ _ => false
def purs : List PV → Bool
  | [] => true
  | x :: r => pur x && purs r
end
def rd (h : MH) : PV → PV
  | .loc a => match h a with
    | some (.lst xs) => .lst xs
    | _ => .loc a
  | v => v
def seqT (h : MH) (v : PV) : Option (List PV) := match rd h v with
  | .tup xs => some xs
  | .lst xs => some xs
  | _ => none
def newL (m : Bool) (xs : List PV) (h : MH) (Q : Post) : Prop :=
  if m then xs.length ≤ sizeLine ∧ ∀ p, h p = none → Q (.loc p) (h.put p (.lst xs)) else xs.length ≤ sizeLine ∧ Q (.lst xs) h
def eqOk (v : PV) : Prop := pur v = true ∧ SeqAt.shaped (toD v) = true
def eqP (x y : PV) : Bool := PyData.eqv (toD x) (toD y)
def binW (op : Operator) (x y : PV) (h : MH) (Q : Post) : Prop :=
  match op, rd h x, rd h y with
  | .Add, .int i, .int j => Q (.int (i + j)) h
  | .Sub, .int i, .int j => Q (.int (i - j)) h
  | .Mult, .int i, .int j => (i.natAbs < 2 ^ 64 ∨ j.natAbs < 2 ^ 64 ∨ i.natAbs.log2 + j.natAbs.log2 < 1000000) ∧ Q (.int (i * j)) h
  | .FloorDiv, .int i, .int j => if 0 < j then (j < 2 ^ 256 ∨ j.natAbs.log2 < 9000) ∧ Q (.int (i / j)) h else (j ≠ 0 ∧ (-j < 2 ^ 256 ∨ j.natAbs.log2 < 9000)) ∧ Q (.int (i.fdiv j)) h
  | .Mod, .int i, .int j => 0 < j ∧ Q (.int (i % j)) h
  | .Pow, .int i, .int j => (0 ≤ j ∧ j ≤ 1000000 ∧ i.natAbs < 2 ^ 64) ∧ Q (.int (i ^ j.toNat)) h
  | .Add, .lst xs, .lst ys => xs.length + ys.length ≤ sizeLine ∧ Q (.lst (xs ++ ys)) h
  | .Add, .tup xs, .tup ys => xs.length + ys.length ≤ sizeLine ∧ Q (.tup (xs ++ ys)) h
  | .Add, .str a, .str b => a.length + b.length ≤ sizeLine ∧ Q (.str (a ++ b)) h
  | .Mult, .lst xs, .int n => (n * xs.length ≤ sizeLine ∧ n ≤ sizeLine ∧ -(2 ^ 63) ≤ n) ∧ Q (.lst (List.flatten (List.replicate n.toNat xs))) h
  | .Mult, .tup xs, .int n => (n = 0 ∨ n = 1) ∧ Q (.tup (if n = 0 then [] else xs)) h
  | .Mult, .str a, .int n => (n = 0 ∨ n = 1) ∧ Q (.str (if n = 0 then "" else a)) h
  | _, _, _ => False
def eqW (x y : PV) (h : MH) (Q : Bool → MH → Prop) : Prop :=
  match x, y with
  | .tup xs, .tup [] => Q xs.isEmpty h
  | .lst xs, .lst [] => Q xs.isEmpty h
  | .str a, .str b => Q (decide (a = b)) h
  | x, y => (eqOk x ∧ eqOk y) ∧ Q (eqP x y) h
def neW (x y : PV) (h : MH) (Q : Bool → MH → Prop) : Prop :=
  match x, y with
  | .tup xs, .tup [] => Q (!xs.isEmpty) h
  | .lst xs, .lst [] => Q (!xs.isEmpty) h
  | .str a, .str b => Q (!decide (a = b)) h
  | x, y => (eqOk x ∧ eqOk y) ∧ Q (!eqP x y) h
def cmpI (f : Int → Int → Bool) (g : PyData → PyData → Bool) (x y : PV) (h : MH) (Q : Bool → MH → Prop) : Prop :=
  match x, y with
  | .int i, .int j => Q (f i j) h
  | .tup xs, .tup ys => (pur (.tup xs) = true ∧ pur (.tup ys) = true ∧ PySem.W.alike (toD (.tup xs)) (toD (.tup ys)) = true ∧ (toD (.tup xs)).depth ≤ 64) ∧ Q (g (toD (.tup xs)) (toD (.tup ys))) h
  | _, _ => False
def cmpW (op : CmpOp) (x y : PV) (h : MH) (Q : Bool → MH → Prop) : Prop :=
  match op with
  | .Eq => eqW (rd h x) (rd h y) h Q
  | .NotEq => neW (rd h x) (rd h y) h Q
  | .Lt => cmpI (fun i j => decide (i < j)) PySem.W.dataLt x y h Q
  | .LtE => cmpI (fun i j => decide (i ≤ j)) (fun a b => !PySem.W.dataLt b a) x y h Q
  | .Gt => cmpI (fun i j => decide (j < i)) (fun a b => PySem.W.dataLt b a) x y h Q
  | .GtE => cmpI (fun i j => decide (j ≤ i)) (fun a b => !PySem.W.dataLt a b) x y h Q
  | _ => False
def truW (v : PV) (h : MH) (Q : Bool → MH → Prop) : Prop :=
  match rd h v with
  | .bl b => Q b h
  | .non => Q false h
  | .int i => Q (decide (i ≠ 0)) h
  | .tup xs => Q (!xs.isEmpty) h
  | .lst xs => Q (!xs.isEmpty) h
  | _ => False
def idxW (x i : PV) (h : MH) (Q : Post) : Prop :=
  match rd h x, i with
  | .tup xs, .int k => ∃ v, L2.atI xs k = some v ∧ Q v h
  | .lst xs, .int k => ∃ v, L2.atI xs k = some v ∧ Q v h
  | .str z, .int k => ∃ c, (z.length ≤ sizeLine ∧ L2.atI z.cps.toList k = some c) ∧ Q (.str ⟨#[c]⟩) h
  | _, _ => False
def mTab : List (Str × Str × Str) := [("Filling.__init__", "Filling", "__init__"), ("Filling.put_in", "Filling", "put_in"), ("Filling.behind", "Filling", "behind"), ("Filling.new_cells", "Filling", "new_cells"), ("Filling.strike", "Filling", "strike")]
def methOf (f : Str) : Option (Str × Str) := mTab.lookup f
def fieldsOf (C : Str) : List Str := if C = "Filling" then ["at", "cells", "rows_with", "columns_with"] else []
def putFP (f : Str) (v : PV) : List (Str × PV) → List (Str × PV)
  | [] => [(f, v)]
  | (g, x) :: r => if g = f then (g, v) :: r else (g, x) :: putFP f v r
end MP
set_option Elab.async false
set_option linter.all false
set_option maxRecDepth 100000
namespace MP
open PySem L2
abbrev KF := PySem.W.Frag
def FzL (K : KF) (H : Hp) (a : Addr) (xs : List V) : Prop :=
  (∃ o, H a = some (.frz o (.lst xs))) ∨
    ∃ (its : Array Value) (n : Nat), K.lookup a = some ({ cls := .type "list", data := .seq its n } : Obj) ∧ its.size ≤ sizeLine ∧ Vals xs its.toList
theorem FzL.sq {K : KF} {H : Hp} {a : Addr} {xs : List V} (h : FzL K H a xs) : SqL K H a xs := by
  rcases h with ⟨o, h⟩ | ⟨its, n, h1, h2, h3⟩
  · exact .inl (.inr ⟨o, h⟩)
  · exact .inr ⟨_, its, n, h1, rfl, rfl, rfl, h2, h3⟩
def LL (K : KF) (H : Hp) (a : Addr) (xs : List V) : Prop := H a = some (.lst xs) ∨ FzL K H a xs
theorem LL.sq {K : KF} {H : Hp} {a : Addr} {xs : List V} (h : LL K H a xs) : SqL K H a xs := by
  rcases h with h | h
  · exact .of h
  · exact h.sq
theorem LL.at_ {X : Cx} {pins : List (Addr × Obj)} {σ : L2.St} {H : Hp} {s : Shared} {a : Addr} {xs : List V} (h : LL X.K H a xs) (I : Inv X pins σ H s) :
    xs.length ≤ sizeLine ∧ ∃ (its : List Value) (n : Nat), Vals xs its ∧ xs.length = its.length ∧ s.heap.get? a = some { cls := .type "list", data := .seq its.toArray n } := by
  rcases h with h | ⟨o, h⟩ | ⟨its, n, h1, h2, h3⟩
  · exact I.lstM h
  · obtain ⟨_, z, its, n, r, e⟩ := I.hok a _ h
    exact ⟨z, its, n, r, r.length, e⟩
  · have l := h3.length
    refine ⟨by rw [l]; simpa using h2, its.toList, n, h3, l, ?_⟩
    simpa using I.kIn a _ h1
inductive KeyRep : PV → Key → Prop
  | int (i : Int) : KeyRep (.int i) (.inl i)
  | str (x : Str) : KeyRep (.str x) (.inr x)
abbrev Keys : List PV → List Key → Prop := Paired KeyRep
def CstAt (K : KF) (a : Addr) (ns : List Int) : Prop := ∃ (o : Obj) (its : Array Value) (n : Nat), K.lookup a = some o ∧ o.cls = .type "tuple" ∧ o.data = .seq its n ∧ its.size ≤ sizeLine ∧ Vals (ns.map V.int) its.toList
mutual
inductive Rep (K : KF) (H : Hp) : V → PV → Prop
  | non : Rep K H .non .non
  | bl (b : Bool) : Rep K H (.bl b) (.bl b)
  | int (i : Int) : Rep K H (.int i) (.int i)
  | str (x : Str) : Rep K H (.str x) (.str x)
  | tup {a : Addr} {vs : List V} {xs : List PV} : H a = some (.tup vs) → Reps K H vs xs → Rep K H (.ref a) (.tup xs)
  | lst {a : Addr} {vs : List V} {xs : List PV} : FzL K H a vs → Reps K H vs xs → Rep K H (.ref a) (.lst xs)
  | dctK {a : Addr} {o : Obj} {kvs : List (Key × V)} {ks vs : List PV} : H a = some (.frz o (.dK kvs)) → Keys ks (kvs.map (·.1)) → Reps K H (kvs.map (·.2)) vs → Rep K H (.ref a) (.dct ks vs)
  | dctT {a : Addr} {o : Obj} {kvs : List (List Key × V)} {ks : List (List PV)} {vs : List PV} : H a = some (.frz o (.dT kvs)) → Paired Keys ks (kvs.map (·.1)) → Reps K H (kvs.map (·.2)) vs → Rep K H (.ref a) (.dct (ks.map PV.tup) vs)
  | loc (a : Addr) : Rep K H (.ref a) (.loc a)
  | cst {a : Addr} {ns : List Int} : CstAt K a ns → Rep K H (.ref a) (.cst ns)
  | dtt {a : Addr} {o : Obj} {kvs : List (List Key × V)} {ks : List (List PV)} {vs : List PV} : H a = some (.frz o (.dT kvs)) → Paired Keys ks (kvs.map (·.1)) → Reps K H (kvs.map (·.2)) vs → Rep K H (.ref a) (.dtt (ks.map PV.tup) vs)
  | fn {a : Addr} {f : Str} : methOf f = none → PySem.W.nsIn K mainGlobals f = some (some (.ref a)) → PySem.W.keepIn K (.ref a) = true → Rep K H (.ref a) (.fn f)
inductive Reps (K : KF) (H : Hp) : List V → List PV → Prop
  | nil : Reps K H [] []
  | cons {v : V} {x : PV} {vs : List V} {xs : List PV} : Rep K H v x → Reps K H vs xs → Reps K H (v :: vs) (x :: xs)
end
section
variable {K : KF} {H H' : Hp}
theorem Reps.length : ∀ {vs : List V} {xs : List PV}, Reps K H vs xs → vs.length = xs.length
  | _, _, .nil => rfl
  | _, _, .cons _ t => by simp [Reps.length t]
theorem Reps.get : ∀ {vs : List V} {xs : List PV} {i : Nat} {x : PV}, Reps K H vs xs → xs[i]? = some x → ∃ v, vs[i]? = some v ∧ Rep K H v x
  | _, _, _, _, .nil, e => by simp at e
  | _, _, 0, _, .cons r _, e => by simp at e; subst e; exact ⟨_, rfl, r⟩
  | _, _, i + 1, x, .cons _ t, e => by
    obtain ⟨u, h1, h2⟩ := Reps.get (i := i) (x := x) t (by simpa using e)
    exact ⟨u, by simpa using h1, h2⟩
theorem Reps.getV : ∀ {vs : List V} {xs : List PV} {i : Nat} {v : V}, Reps K H vs xs → vs[i]? = some v → ∃ x, xs[i]? = some x ∧ Rep K H v x
  | _, _, _, _, .nil, e => by simp at e
  | _, _, 0, _, .cons r _, e => by simp at e; subst e; exact ⟨_, rfl, r⟩
  | _, _, i + 1, x, .cons _ t, e => by
    obtain ⟨u, h1, h2⟩ := Reps.getV (i := i) (v := x) t (by simpa using e)
    exact ⟨u, by simpa using h1, h2⟩
theorem Reps.append : ∀ {vs us : List V} {xs ys : List PV}, Reps K H vs xs → Reps K H us ys → Reps K H (vs ++ us) (xs ++ ys)
  | _, _, _, _, .nil, s => s
  | _, _, _, _, .cons r t, s => .cons r (Reps.append t s)
theorem Reps.take : ∀ {vs : List V} {xs : List PV} (n : Nat), Reps K H vs xs → Reps K H (vs.take n) (xs.take n)
  | _, _, 0, _ => .nil
  | _, _, _ + 1, .nil => .nil
  | _, _, n + 1, .cons r t => .cons r (Reps.take n t)
theorem Reps.drop : ∀ {vs : List V} {xs : List PV} (n : Nat), Reps K H vs xs → Reps K H (vs.drop n) (xs.drop n)
  | _, _, 0, r => r
  | _, _, _ + 1, .nil => .nil
  | _, _, n + 1, .cons _ t => Reps.drop n t
theorem Reps.set : ∀ {vs : List V} {xs : List PV} {v : V} {x : PV} (i : Nat), Rep K H v x → Reps K H vs xs → Reps K H (vs.set i v) (xs.set i x)
  | _, _, _, _, _, _, .nil => .nil
  | _, _, _, _, 0, r, .cons _ t => .cons r t
  | _, _, _, _, i + 1, r, .cons q t => .cons q (Reps.set i r t)
theorem Reps.eraseIdx : ∀ {vs : List V} {xs : List PV} (i : Nat), Reps K H vs xs → Reps K H (vs.eraseIdx i) (xs.eraseIdx i)
  | _, _, _, .nil => by simp; exact .nil
  | _, _, 0, .cons _ t => by simpa using t
  | _, _, i + 1, .cons q t => by simpa using Reps.cons q (Reps.eraseIdx i t)
theorem Reps.rev {vs : List V} {xs : List PV} (r : Reps K H vs xs) : Reps K H vs.reverse xs.reverse := by
  induction vs generalizing xs with
  | nil => cases r; exact .nil
  | cons v vs ih => cases r with
    | cons a b => simp only [List.reverse_cons]; exact (ih b).append (.cons a .nil)
theorem Reps.rep : ∀ {vs : List V} {xs : List PV} (n : Nat), Reps K H vs xs → Reps K H (List.replicate n vs).flatten (List.replicate n xs).flatten
  | _, _, 0, _ => .nil
  | _, _, n + 1, r => by simp only [List.replicate_succ, List.flatten_cons]; exact r.append (Reps.rep n r)
theorem Rep.int_inv {v : V} {i : Int} (r : Rep K H v (.int i)) : v = .int i := by cases r; rfl
theorem Rep.bl_inv {v : V} {i : Bool} (r : Rep K H v (.bl i)) : v = .bl i := by cases r; rfl
theorem Rep.str_inv {v : V} {i : Str} (r : Rep K H v (.str i)) : v = .str i := by cases r; rfl
theorem Rep.non_inv {v : V} (r : Rep K H v .non) : v = .non := by cases r; rfl
theorem Rep.loc_inv {v : V} {a : Addr} (r : Rep K H v (.loc a)) : v = .ref a := by cases r; rfl
theorem Rep.fn_inv {v : V} {f : Str} (r : Rep K H v (.fn f)) : ∃ a, v = .ref a ∧ methOf f = none ∧ PySem.W.nsIn K mainGlobals f = some (some (.ref a)) ∧ PySem.W.keepIn K (.ref a) = true := by cases r with | fn z a b => exact ⟨_, rfl, z, a, b⟩
theorem Rep.cst_inv {v : V} {ns : List Int} (r : Rep K H v (.cst ns)) : ∃ a, v = .ref a ∧ CstAt K a ns := by cases r with | cst a => exact ⟨_, rfl, a⟩
theorem Rep.tup_inv {v : V} {xs : List PV} (r : Rep K H v (.tup xs)) : ∃ a vs, v = .ref a ∧ SqT K H a vs ∧ Reps K H vs xs := by cases r with | tup a b => exact ⟨_, _, rfl, .inl (.inl a), b⟩
theorem Rep.tup_invS {v : V} {xs : List PV} (r : Rep K H v (.tup xs)) : ∃ a vs, v = .ref a ∧ H a = some (.tup vs) ∧ Reps K H vs xs := by cases r with | tup a b => exact ⟨_, _, rfl, a, b⟩
theorem Rep.lst_inv {v : V} {xs : List PV} (r : Rep K H v (.lst xs)) : ∃ a vs, v = .ref a ∧ FzL K H a vs ∧ Reps K H vs xs := by cases r with | lst a b => exact ⟨_, _, rfl, a, b⟩
theorem Reps.ints : ∀ {vs : List V} {ns : List Int}, Reps K H vs (ns.map PV.int) → vs = ns.map V.int
  | _, [], h => by cases h; rfl
  | _, n :: ns, h => by
    cases h with
    | cons a b => rw [a.int_inv, Reps.ints b]; rfl
theorem Reps.of_ints : ∀ (ns : List Int), Reps K H (ns.map V.int) (ns.map PV.int)
  | [] => .nil
  | n :: ns => .cons (.int n) (Reps.of_ints ns)
theorem Reps.bls : ∀ {vs : List V} {ns : List Bool}, Reps K H vs (ns.map PV.bl) → vs = ns.map V.bl
  | _, [], h => by cases h; rfl
  | _, n :: ns, h => by
    cases h with
    | cons a b => rw [a.bl_inv, Reps.bls b]; rfl
theorem Reps.strs : ∀ {vs : List V} {ns : List Str}, Reps K H vs (ns.map PV.str) → vs = ns.map V.str
  | _, [], h => by cases h; rfl
  | _, n :: ns, h => by
    cases h with
    | cons a b => rw [a.str_inv, Reps.strs b]; rfl
theorem Reps.of_strs : ∀ (ns : List Str), Reps K H (ns.map V.str) (ns.map PV.str)
  | [] => .nil
  | n :: ns => .cons (.str n) (Reps.of_strs ns)
structure Pres (H H' : Hp) : Prop where
  tup : ∀ a xs, H a = some (.tup xs) → H' a = some (.tup xs)
  frz : ∀ a o u, H a = some (.frz o u) → H' a = some (.frz o u)
theorem Pres.refl : Pres H H := ⟨fun _ _ h => h, fun _ _ _ h => h⟩
theorem Pres.trans {H2 : Hp} (a : Pres H H') (b : Pres H' H2) : Pres H H2 := ⟨fun _ _ h => b.tup _ _ (a.tup _ _ h), fun _ _ _ h => b.frz _ _ _ (a.frz _ _ _ h)⟩
theorem Pres.sqT (p : Pres H H') {a : Addr} {vs : List V} (h : SqT K H a vs) : SqT K H' a vs := by
  rcases h with (h | ⟨o, h⟩) | h
  · exact .inl (.inl (p.tup _ _ h))
  · exact .inl (.inr ⟨o, p.frz _ _ _ h⟩)
  · exact .inr h
theorem Pres.fzL (p : Pres H H') {a : Addr} {vs : List V} (h : FzL K H a vs) : FzL K H' a vs := by
  rcases h with ⟨o, h⟩ | h
  · exact .inl ⟨o, p.frz _ _ _ h⟩
  · exact .inr h
mutual
theorem Rep.keep (p : Pres H H') : ∀ {x : PV} {v : V}, Rep K H v x → Rep K H' v x
  | _, _, .non => .non
  | _, _, .bl b => .bl b
  | _, _, .int i => .int i
  | _, _, .str x => .str x
  | _, _, .tup a b => .tup (p.tup _ _ a) (Reps.keep p b)
  | _, _, .lst a b => .lst (p.fzL a) (Reps.keep p b)
  | _, _, .dctK a b c => .dctK (p.frz _ _ _ a) b (Reps.keep p c)
  | _, _, .dctT a b c => .dctT (p.frz _ _ _ a) b (Reps.keep p c)
  | _, _, .loc a => .loc a
  | _, _, .fn z a b => .fn z a b
  | _, _, .cst a => .cst a
  | _, _, .dtt a b c => .dtt (p.frz _ _ _ a) b (Reps.keep p c)
theorem Reps.keep (p : Pres H H') : ∀ {xs : List PV} {vs : List V}, Reps K H vs xs → Reps K H' vs xs
  | _, _, .nil => .nil
  | _, _, .cons a b => .cons (Rep.keep p a) (Reps.keep p b)
end
theorem Pres.new {a : Addr} {o : HO} (hn : H a = none) : Pres H (upd H a o) :=
  ⟨fun b xs h => by rw [upd_ne (ne_of_none h hn)]; exact h, fun b o u h => by rw [upd_ne (ne_of_none h hn)]; exact h⟩
theorem Pres.wr {a : Addr} {o u : HO} (hn : H a = some u) (ht : ∀ xs, u ≠ .tup xs) (hf : ∀ o v, u ≠ .frz o v) : Pres H (upd H a o) :=
  ⟨fun b xs h => by rw [upd_ne (fun e => by subst e; rw [hn] at h; cases h; exact ht _ rfl)]; exact h, fun b o u h => by rw [upd_ne (fun e => by subst e; rw [hn] at h; cases h; exact hf _ _ rfl)]; exact h⟩
structure ClsK (K : KF) (C : Str) (Ca : Addr) : Prop where
  ns : PySem.W.nsIn K mainGlobals C = some (some (.ref Ca))
  cls : Cls K Ca
  fld : ∀ f ∈ fieldsOf C, NoAttr K Ca f
inductive CRep (K : KF) (H : Hp) : Cell → HO → Prop
  | lst {vs : List V} {xs : List PV} : Reps K H vs xs → CRep K H (.lst xs) (.lst vs)
  | dctK {kvs : List (Key × V)} {ps : List (PV × PV)} : Keys (ps.map (·.1)) (kvs.map (·.1)) → Reps K H (kvs.map (·.2)) (ps.map (·.2)) → CRep K H (.dct ps) (.dK kvs)
  | dtt {kvs : List (List Key × V)} {ps : List (List PV × PV)} : Paired Keys (ps.map (·.1)) (kvs.map (·.1)) → Reps K H (kvs.map (·.2)) (ps.map (·.2)) → CRep K H (.dtt ps) (.dT kvs)
  | dtf {kvs : List (List Key × V)} {ps : List (List PV × PV)} {o : Obj} : Paired Keys (ps.map (·.1)) (kvs.map (·.1)) → Reps K H (kvs.map (·.2)) (ps.map (·.2)) → CRep K H (.dtf ps) (.frz o (.dT kvs))
  | dcf {kvs : List (Key × V)} {ps : List (PV × PV)} {o : Obj} : Keys (ps.map (·.1)) (kvs.map (·.1)) → Reps K H (kvs.map (·.2)) (ps.map (·.2)) → CRep K H (.dcf ps) (.frz o (.dK kvs))
  | ins {C : Str} {Ca dx : Addr} {fv : List (Str × V)} {fs : List (Str × PV)} : ClsK K C Ca → fv.map (·.1) = fs.map (·.1) → Reps K H (fv.map (·.2)) (fs.map (·.2)) → CRep K H (.ins C fs) (.ins Ca dx fv)
theorem CRep.keep (p : Pres H H') {c : Cell} {o : HO} (r : CRep K H c o) : CRep K H' c o := by
  cases r with
  | lst a => exact .lst (a.keep p)
  | dctK a b => exact .dctK a (b.keep p)
  | dtt a b => exact .dtt a (b.keep p)
  | dtf a b => exact .dtf a (b.keep p)
  | dcf a b => exact .dcf a (b.keep p)
  | ins a b c => exact .ins a b (c.keep p)
def HRep (K : KF) (h : MH) (H : Hp) : Prop := ∀ a c, h a = some c → ∃ o, H a = some o ∧ CRep K H c o
theorem HRep.new {h : MH} {a : Addr} {c : Cell} {o : HO} (r : HRep K h H) (hn : H a = none) (hc : CRep K H c o) : HRep K (h.put a c) (upd H a o) := fun b d e => by
  unfold MH.put at e
  by_cases hb : b = a
  · subst hb
    rw [if_pos rfl] at e; cases e
    exact ⟨o, upd_same, hc.keep (.new hn)⟩
  · rw [if_neg hb] at e
    obtain ⟨u, h1, h2⟩ := r b d e
    exact ⟨u, by rw [upd_ne hb]; exact h1, h2.keep (.new hn)⟩
theorem HRep.fresh {h : MH} {a : Addr} (r : HRep K h H) (hn : H a = none) : h a = none := by
  cases e : h a with
  | none => rfl
  | some c => obtain ⟨o, h1, _⟩ := r a c e; rw [hn] at h1; cases h1
theorem HRep.wr {h : MH} {a : Addr} {c c' : Cell} {o' : HO} (r : HRep K h H) (hc : h a = some c) (hc' : ∀ H', Pres H H' → CRep K H' c' o') (nf : ∀ ps, c ≠ .dtf ps := by intro _ e; cases e) (nf2 : ∀ ps, c ≠ .dcf ps := by intro _ e; cases e) : HRep K (h.put a c') (upd H a o') ∧ Pres H (upd H a o') := by
  obtain ⟨o, h1, h2⟩ := r a c hc
  have p : Pres H (upd H a o') := .wr h1 (by cases h2 <;> intro _ e <;> cases e) (by cases h2 <;> first | (intro _ _ e; cases e; done) | exact absurd rfl (nf _) | exact absurd rfl (nf2 _))
  refine ⟨fun b d e => ?_, p⟩
  unfold MH.put at e
  by_cases hb : b = a
  · subst hb
    rw [if_pos rfl] at e; cases e
    exact ⟨o', upd_same, hc' _ p⟩
  · rw [if_neg hb] at e
    obtain ⟨u, h1, h2⟩ := r b d e
    exact ⟨u, by rw [upd_ne hb]; exact h1, h2.keep p⟩
theorem HRep.keep {h : MH} (r : HRep K h H) (p : Pres H H') (q : ∀ a c, h a = some c → H' a = H a) : HRep K h H' := fun a c e => by
  obtain ⟨o, h1, h2⟩ := r a c e
  exact ⟨o, (q a c e).trans h1, h2.keep p⟩
theorem HRep.newP {h : MH} {a : Addr} {o : HO} (r : HRep K h H) (hn : H a = none) : HRep K h (upd H a o) := r.keep (.new hn) fun b c e => by
  obtain ⟨u, h1, _⟩ := r b c e
  exact upd_ne (ne_of_none h1 hn)
end
structure FzS (S : Addr → Prop) (H H' : Hp) : Prop where
  out : ∀ a, ¬ S a → H' a = H a
  at_ : ∀ a, S a → ∃ u o, H a = some u ∧ H' a = some (.frz o u)
def Fz1 : HO → Prop
  | .lst _ => True
  | .dK _ => True
  | .dT _ => True
  | _ => False
theorem FzS.pres {S : Addr → Prop} {H H' : Hp} (f : FzS S H H') (ok : ∀ a, S a → ∃ u, H a = some u ∧ Fz1 u) : Pres H H' := by
  constructor
  · intro a xs h
    rw [f.out a fun hs => by obtain ⟨u, e, z⟩ := ok a hs; rw [h] at e; cases e; exact z]; exact h
  · intro a o u h
    rw [f.out a fun hs => by obtain ⟨u, e, z⟩ := ok a hs; rw [h] at e; cases e; exact z]; exact h
section
variable {X : Cx} {pins : List (Addr × Obj)} {σ : L2.St} {H : Hp} {s : Shared}
open Classical in
theorem fz_hok {P : Program} {w : World} {h : Heap} {S : Addr → Prop} (x : HOk P w H h) (ok : ∀ a, S a → ∃ u, H a = some u ∧ Fz1 u) :
    ∃ H', FzS S H H' ∧ HOk P w H' h := by
  let H' : Hp := fun a => if S a then (match H a, h.get? a with
    | some u, some o => some (.frz o u)
    | u, _ => u) else H a
  have out : ∀ a, ¬ S a → H' a = H a := fun a n => if_neg n
  have at_ : ∀ a, S a → ∃ u o, H a = some u ∧ H' a = some (.frz o u) ∧ h.get? a = some o := fun a hs => by
    obtain ⟨u, e, z⟩ := ok a hs
    have k := x a u e
    have : ∃ o, h.get? a = some o := by
      cases u with
      | lst xs => obtain ⟨_, _, _, _, e⟩ := k; exact ⟨_, e⟩
      | dK kvs => obtain ⟨_, _, _, _, o, _, _, e, _⟩ := k; exact ⟨_, e⟩
      | dT kvs => obtain ⟨_, _, _, _, o, _, _, e, _⟩ := k; exact ⟨_, e⟩
      | _ => exact z.elim
    obtain ⟨o, ho⟩ := this
    exact ⟨u, o, e, by show (if S a then _ else _) = _; rw [if_pos hs, e, ho], ho⟩
  have f : FzS S H H' := ⟨out, fun a hs => by obtain ⟨u, o, a, b, _⟩ := at_ a hs; exact ⟨u, o, a, b⟩⟩
  have p := f.pres ok
  have own : ∀ b y, H b = some (.own y) → H' b = some (.own y) := fun b y e => by
    rw [out b fun hs => by obtain ⟨u, e2, z⟩ := ok b hs; rw [e] at e2; cases e2; exact z]; exact e
  refine ⟨H', f, fun a o e => ?_⟩
  by_cases hs : S a
  · obtain ⟨u, o', e1, e2, e3⟩ := at_ a hs
    rw [e2] at e; cases e
    exact ⟨e3, (x a u e1).stay (fun _ _ _ q => q) (fun b q => own b a q) p.tup⟩
  · rw [out a hs] at e
    exact (x a o e).stay (fun _ _ _ q => q) (fun b q => own b a q) p.tup
theorem fz_un {S : Addr → Prop} {H H' : Hp} {fs ex : List Addr} {h : Heap} (f : FzS S H H') (ok : ∀ a, S a → ∃ u, H a = some u ∧ Fz1 u) : Un fs ex H H' h h where
  keep := fun b u q _ _ _ => q
  slot := fun b u q _ _ _ => ⟨u.slots, q⟩
  free := fun b u q n _ => by
    rw [f.out b fun hs => by obtain ⟨u, e, _⟩ := ok b hs; rw [n] at e; cases e]; exact n
  there := fun b u q _ => ⟨u, q⟩
  tups := (f.pres ok).tup
  frzs := (f.pres ok).frz
  tbls := fun b ps q => ⟨#[], by
    rw [f.out b fun hs => by obtain ⟨u, e, z⟩ := ok b hs; rw [q] at e; cases e; exact z, q]; simp⟩
theorem fz_inv {S : Addr → Prop} (I : Inv X pins σ H s) (ok : ∀ a, S a → ∃ u, H a = some u ∧ Fz1 u) : ∃ H', FzS S H H' ∧ Inv X pins σ H' s := by
  obtain ⟨H', f, x⟩ := fz_hok I.hok ok
  exact ⟨H', f, I.un (h' := s.heap) (t' := s.toks) (fz_un f ok) x⟩
def Laid (Q : VK) : VK := fun v H => ∃ S : Addr → Prop, (∀ a, S a → ∃ u, H a = some u ∧ Fz1 u) ∧ ∀ H', FzS S H H' → Q v H'
theorem pe_laid {e : Expr} {t : TE} (h : PE X e t) : PE X e (fun σ H Q => t σ H (Laid Q)) := ⟨fun pins s σ H Q I hq =>
  thn (h.run pins s σ H _ I hq) fun u s' ⟨v, H1, I1, r1, S, ok, q⟩ => by
    obtain ⟨H2, f, I2⟩ := fz_inv I1 ok
    exact ⟨v, H2, I2, r1, q H2 f⟩⟩
theorem PE.imp {e : Expr} {t t' : TE} (h : PE X e t) (w : ∀ σ H Q, t' σ H Q → t σ H Q) : PE X e t' := ⟨fun pins s σ H Q I hq => h.run pins s σ H Q I (w σ H Q hq)⟩
theorem PT.imp {e : Expr} {t t' : TT} (h : PT X e t) (w : ∀ σ H Q, t' σ H Q → t σ H Q) : PT X e t' := ⟨fun pins s σ H Q I hq => h.run pins s σ H Q I (w σ H Q hq)⟩
theorem PW.imp {e : Expr} {t t' : TT} (h : PW X e t) (w : ∀ σ H Q, t' σ H Q → t σ H Q) : PW X e t' := ⟨fun wh pins s σ H Q I hq => h.run wh pins s σ H Q I (w σ H Q hq)⟩
theorem PA.imp {e : List Expr} {t t' : TA} (h : PA X e t) (w : ∀ σ H Q, t' σ H Q → t σ H Q) : PA X e t' := ⟨fun pos pins s σ H Q I hq => h.run pos pins s σ H Q I (w σ H Q hq)⟩
theorem PS.imp {e : Stmt} {t t' : TS} (h : PS X e t) (w : ∀ D σ H, t' D σ H → t D σ H) : PS X e t' := ⟨fun pins s σ H D I hq => h.run pins s σ H D I (w D σ H hq)⟩
theorem PSs.imp {e : List Stmt} {t t' : TS} (h : PSs X e t) (w : ∀ D σ H, t' D σ H → t D σ H) : PSs X e t' := ⟨fun pins s σ H D I hq => h.run pins s σ H D I (w D σ H hq)⟩
end
end MP
set_option Elab.async false
set_option linter.all false
set_option maxRecDepth 100000
namespace MP
open PySem L2
inductive B where
  | abs | int | len | max2 | min2 | repr | str | all | any | sum | max1 | min1
  deriving DecidableEq
inductive C where
  | list | tuple | sorted
  deriving DecidableEq
inductive M where
  | append | extend | pop0 | pop1
  deriving DecidableEq
inductive Tg where
  | name (i : Nat)
  | tup2 (a b : Tg)
  | tup3 (a b c : Tg)
  | tup4 (a b c d : Tg)
mutual
inductive E where
  | var (i : Nat) | non | bl (b : Bool) | int (i : Int) | str (x : Str)
  | bin (op : Operator) (a b : E) | neg (a : E)
  | not (a : E) | and (a b : E) | or (a b : E) | ite (c a b : E)
  | cmp (op : CmpOp) (a b : E) | chain (o p : CmpOp) (a b c : E)
  | isN (a : E) (neg : Bool) | isB (a : E) (b neg : Bool) | isin (a b : E) (neg : Bool)
  | tup (es : Es) | lst (m : Bool) (es : Es) | dct0 (m : Bool) | dct1 (k v : E)
  | idx (a i : E) | slc (a : E) (lo hi : Eo) | rev (a : E)
  | call (f : Str) (es : Es)
  | gfn (f : Str)
  | callv (i : Nat) (es : Es)
  | blt (b : B) (es : Es)
  | isi (a : E) (t : String)
  | con (c : C) (m : Bool) (it : It)
  | comp (m : Bool) (elt : E) (tg : Tg) (it : It) (c : Eo)
  | meth (o : E) (m : M) (es : Es)
  | mkd (a : E) | dget (o k d : E) | gcs (f : Str)
  | fld (o : E) (f : Str) | mcall (o : E) (f C m : Str) (es : Es) | new (f C : Str) (es : Es)
  | mkdm (a : E) | mki (a : E) | dix (o k : E) | rpl (a b : E)
  | dpop (o k : E) | split (m : Bool) (a b : E) | join (a b : E)
inductive Es where
  | nil
  | cons (e : E) (es : Es)
inductive Eo where
  | none
  | some (e : E)
inductive It where
  | seq (e : E) | rng1 (e : E) | rng2 (a b : E) | enum (e : E) | zip (a b : E) | keys (e : E) | chars (e : E)
end
mutual
inductive S where
  | asg (t : Tg) (e : E)
  | par (i j : Nat) (a b : E)
  | sub (o i v : E)
  | ex (e : E) | ret (e : E) | pass
  | ife (c : E) (a b : Ss)
  | for (t : Tg) (it : It) (body : Ss)
  | while (c : E) (body : Ss)
  | raise (c : Str)
  | tryR
  | seta (o : E) (f : Str) (v : E)
  | subd (o i v : E)
inductive Ss where
  | nil
  | cons (s : S) (r : Ss)
end
def Tg.own : Tg → List Nat
  | .name i => [i]
  | .tup2 a b => a.own ++ b.own
  | .tup3 a b c => a.own ++ b.own ++ c.own
  | .tup4 a b c d => a.own ++ b.own ++ c.own ++ d.own
def tgW : Tg → PV → Env → (Env → Prop) → Prop
  | .name i, v, env, K => K (env.set i (some v))
  | .tup2 a b, v, env, K => ∃ x y, v = .tup [x, y] ∧ tgW a x env fun e1 => tgW b y e1 K
  | .tup3 a b c, v, env, K => ∃ x y z, v = .tup [x, y, z] ∧ tgW a x env fun e1 => tgW b y e1 fun e2 => tgW c z e2 K
  | .tup4 a b c d, v, env, K => ∃ x y z u, v = .tup [x, y, z, u] ∧ tgW a x env fun e1 => tgW b y e1 fun e2 => tgW c z e2 fun e3 => tgW d u e3 K
def wipeE (env : Env) : List Nat → Env
  | [] => env
  | v :: vs => (wipeE env vs).set v none
structure Src where
  xs : List PV
  st : List (Addr × List PV)
def Src.stays (S : Src) (h : MH) : Prop := ∀ p ∈ S.st, h p.1 = some (.lst p.2)
def srcV (h : MH) (v : PV) : Option Src := match v with
  | .tup xs => some ⟨xs, []⟩
  | .lst xs => some ⟨xs, []⟩
  | .loc a => match h a with
    | some (.lst xs) => some ⟨xs, [(a, xs)]⟩
    | _ => none
  | _ => none
def lstV (h : MH) (v : PV) : Option Src := match v with
  | .tup _ => none
  | v => srcV h v
def zipV (h : MH) (x y : PV) : Option (Src × Src) := match x, y with
  | .tup xs, .tup ys => some (⟨xs, []⟩, ⟨ys, []⟩)
  | .cst ns, .tup ys => some (⟨ns.map .int, []⟩, ⟨ys, []⟩)
  | x, y => match lstV h x, lstV h y with
    | some S, some T => some (S, T)
    | _, _ => none
def rngV (lo hi : Int) : List PV := (List.range (hi - lo).toNat).map fun (k : Nat) => PV.int (lo + k)
def RngOk (lo hi : Int) : Prop := -(2 ^ 62) ≤ lo ∧ lo < 2 ^ 62 ∧ -(2 ^ 62) ≤ hi ∧ hi < 2 ^ 62
def enumV (xs : List PV) : List PV := xs.zipIdx.map fun p => PV.tup [.int (p.2 : Nat), p.1]
def compW (stays : MH → Prop) (turn : PV → MH → (Option PV → MH → Prop) → Prop) : List PV → MH → (List PV → MH → Prop) → Prop
  | [], h, K => stays h ∧ K [] h
  | x :: r, h, K => stays h ∧ turn x h fun o h1 => compW stays turn r h1 fun ys h2 => K (o.toList ++ ys) h2
def isT (t : String) : PV → Option Bool
  | .non => some false
  | .bl _ => some (t == "bool" || t == "int")
  | .int _ => some (t == "int")
  | .str _ => some (t == "str")
  | .tup _ => some (t == "tuple")
  | .lst _ => some (t == "list")
  | .dct _ _ => some (t == "dict")
  | .cst _ => some (t == "tuple")
  | _ => none
def tyCls (t : String) : Prop := t = "int" ∨ t = "bool" ∨ t = "tuple" ∨ t = "str" ∨ t = "list" ∨ t = "dict"
def intsP : List PV → Option (List Int)
  | [] => some []
  | .int i :: r => (intsP r).map (i :: ·)
  | _ :: _ => none
def boolsP : List PV → Option (List Bool)
  | [] => some []
  | .bl i :: r => (boolsP r).map (i :: ·)
  | _ :: _ => none
def reprOk (v : PV) : Prop := pur v = true ∧ (toD v).showable = true ∧ (toD v).depth ≤ 64 ∧ (toD v).shown.length ≤ sizeLine
def bltW (b : B) (vs : List PV) (h : MH) (Q : Post) : Prop :=
  match b, vs with
  | .abs, [.int i] => Q (.int (if i < 0 then -i else i)) h
  | .int, [.int i] => Q (.int i) h
  | .int, [.bl b] => Q (.int (if b then 1 else 0)) h
  | .int, [.str a] => ∃ n, (intText? a = some n ∧ a.length ≤ 640) ∧ Q (.int n) h
  | .len, [.cst ns] => Q (.int ns.length) h
  | .len, [.str a] => a.length ≤ sizeLine ∧ Q (.int a.length) h
  | .len, [v] => ∃ xs, seqT h v = some xs ∧ Q (.int xs.length) h
  | .max2, [.int i, .int j] => Q (.int (if j > i then j else i)) h
  | .min2, [.int i, .int j] => Q (.int (if j < i then j else i)) h
  | .repr, [v] => reprOk v ∧ Q (.str (toD v).shown) h
  | .str, [.int i] => i.natAbs.log2 < 1920 ∧ Q (.str (toString i)) h
  | .all, [v] => ∃ xs bs, rd h v = .lst xs ∧ boolsP xs = some bs ∧ Q (.bl (bs.all id)) h
  | .any, [v] => ∃ xs bs, rd h v = .lst xs ∧ boolsP xs = some bs ∧ Q (.bl (bs.any id)) h
  | .sum, [v] => ∃ xs ns, rd h v = .lst xs ∧ intsP xs = some ns ∧ Q (.int ns.sum) h
  | _, _ => False
def leP (x y : PV) : Bool := PySem.W.dataLe false toD x y
def sortOk (xs : List PV) : Prop := purs xs = true ∧ PySem.W.AllAlike (toDs xs) ∧ PySem.W.Sortable (toDs xs) ∧ ∀ x ∈ xs, (toD x).depth ≤ 64
def conW (c : C) (m : Bool) (xs : List PV) (h : MH) (Q : Post) : Prop :=
  match c with
  | .list => newL m xs h Q
  | .tuple => Q (.tup xs) h
  | .sorted => sortOk xs ∧ newL m (xs.mergeSort leP) h Q
def methW (o : PV) (m : M) (vs : List PV) (h : MH) (Q : Post) : Prop :=
  match o, m, vs with
  | .loc a, .append, [y] => ∃ xs, h a = some (.lst xs) ∧ xs.length < sizeLine ∧ Q .non (h.put a (.lst (xs ++ [y])))
  | .loc a, .extend, [v] => ∃ xs zs, h a = some (.lst xs) ∧ rd h v = .lst zs ∧ xs.length + zs.length ≤ sizeLine ∧ Q .non (h.put a (.lst (xs ++ zs)))
  | .loc a, .pop0, [] => ∃ xs y, h a = some (.lst xs) ∧ xs[xs.length - 1]? = some y ∧ Q y (h.put a (.lst xs.dropLast))
  | .loc a, .pop1, [.int i] => ∃ xs k y, h a = some (.lst xs) ∧ -(2 ^ 63) ≤ i ∧ i < 2 ^ 63 ∧ seqIndex? i xs.length = some k ∧ xs[k]? = some y ∧ Q y (h.put a (.lst (xs.eraseIdx k)))
  | _, _, _ => False
def isKey : PV → Bool
  | .int _ => true
  | .str _ => true
  | _ => false
def eqK1 : PV → PV → Bool
  | .int i, .int j => decide (i = j)
  | .str a, .str b => decide (a = b)
  | _, _ => false
def eqKs : List PV → List PV → Bool
  | [], [] => true
  | a :: r, b :: s => eqK1 a b && eqKs r s
  | _, _ => false
def putP (ps : List (List PV × PV)) (k : List PV) (v : PV) : List (List PV × PV) :=
  if (ps.any fun p => eqKs p.1 k) = true then ps.map (fun p => if eqKs p.1 k = true then (p.1, v) else p) else ps ++ [(k, v)]
def subW (o i v : PV) (h : MH) (K : MH → Prop) : Prop :=
  match o, i with
  | .loc a, .tup key => ∃ ps, (h a = some (.dtt ps) ∨ (h a = some (.dct []) ∧ ps = [])) ∧ (key.all isKey = true ∧ ps.length < sizeLine) ∧ K (h.put a (.dtt (putP ps key v)))
  | .loc a, .int i => ∃ xs k, h a = some (.lst xs) ∧ ixN xs.length i = some k ∧ K (h.put a (.lst (xs.set k v)))
  | _, _ => False
def lookP : List (List PV) → List PV → List PV → Option PV
  | k :: ks, v :: vs, y => if eqKs k y = true then some v else lookP ks vs y
  | _, _, _ => none
def mkdW (x : PV) (h : MH) (Q : Post) : Prop :=
  ∃ ps : List (List PV × PV), rd h x = .lst (ps.map fun p => .tup [.tup p.1, p.2]) ∧ (∀ p ∈ ps, p.1.all isKey = true) ∧ (ps.map (·.1)).Pairwise (fun a b => eqKs a b = false) ∧ Q (.dtt ((ps.map (·.1)).map PV.tup) (ps.map (·.2))) h
def mkdmW (x : PV) (h : MH) (Q : Post) : Prop :=
  ∃ ps : List (List PV × PV), rd h x = .lst (ps.map fun p => .tup [.tup p.1, p.2]) ∧ (∀ p ∈ ps, p.1.all isKey = true) ∧ (ps.map (·.1)).Pairwise (fun a b => eqKs a b = false) ∧ ∀ p, h p = none → Q (.loc p) (h.put p (.dtt ps))
def mkiW (x : PV) (h : MH) (Q : Post) : Prop :=
  ∃ ps : List (PV × PV), rd h x = .lst (ps.map fun p => .tup [p.1, p.2]) ∧ (∀ p ∈ ps, isKey p.1 = true) ∧ (ps.map (·.1)).Pairwise (fun a b => eqK1 a b = false) ∧ Q (.dct (ps.map (·.1)) (ps.map (·.2))) h
def lookK : List PV → List PV → PV → Option PV
  | k :: ks, v :: vs, y => if eqK1 k y = true then some v else lookK ks vs y
  | _, _, _ => none
def rplW (x y : PV) (h : MH) (Q : Post) : Prop :=
  ∃ xs n, rd h x = .lst xs ∧ y = .int n ∧ (n * xs.length ≤ sizeLine ∧ n ≤ sizeLine ∧ -(2 ^ 63) ≤ n) ∧ newL true (List.flatten (List.replicate n.toNat xs)) h Q
def dcell (h : MH) : PV → Option (List (List PV × PV))
  | .loc a => match h a with
    | some (.dtt ps) => some ps
    | some (.dtf ps) => some ps
    | _ => none
  | _ => none
def kcell (h : MH) : PV → Option (List (PV × PV))
  | .loc a => match h a with
    | some (.dct ps) => some ps
    | some (.dcf ps) => some ps
    | _ => none
  | _ => none
def dlk (h : MH) (x y : PV) (r : Option PV) : Prop :=
  (∃ ps, kcell h x = some ps ∧ isKey y = true ∧ r = lookK (ps.map (·.1)) (ps.map (·.2)) y) ∨
  (∃ ps key, dcell h x = some ps ∧ y = .tup key ∧ key.all isKey = true ∧ r = lookP (ps.map (·.1)) (ps.map (·.2)) key) ∨
  ∃ ks vs key, x = .dtt (ks.map PV.tup) vs ∧ y = .tup key ∧ key.all isKey = true ∧ r = lookP ks vs key
def isDl (h : MH) : PV → Bool
  | .dtt _ _ => true
  | .loc a => match h a with
    | some (.dct _) => true
    | some (.dcf _) => true
    | some (.dtt _) => true
    | some (.dtf _) => true
    | _ => false
  | _ => false
def dixW (x y : PV) (h : MH) (Q : Post) : Prop := (∃ ks vs v, x = .dct ks vs ∧ isKey y = true ∧ lookK ks vs y = some v ∧ Q v h) ∨ ∃ v, dlk h x y (some v) ∧ Q v h
def putK1 (ps : List (PV × PV)) (k v : PV) : List (PV × PV) :=
  if (ps.any fun p => eqK1 p.1 k) = true then ps.map (fun p => if eqK1 p.1 k = true then (p.1, v) else p) else ps ++ [(k, v)]
def dropK1 (ps : List (PV × PV)) (k : PV) : List (PV × PV) := ps.filter fun p => !eqK1 p.1 k
def subdW (o i v : PV) (h : MH) (K : MH → Prop) : Prop := ∃ a ps, o = .loc a ∧ h a = some (.dct ps) ∧ isKey i = true ∧ ps.length < sizeLine ∧ K (h.put a (.dct (putK1 ps i v)))
def dpopW (o i : PV) (h : MH) (Q : Post) : Prop := ∃ a ps v, o = .loc a ∧ h a = some (.dct ps) ∧ isKey i = true ∧ lookK (ps.map (·.1)) (ps.map (·.2)) i = some v ∧ Q v (h.put a (.dct (dropK1 ps i)))
def splitW (m : Bool) (x y : PV) (h : MH) (Q : Post) : Prop := ∃ a b, x = .str a ∧ y = .str b ∧ ((b.length == 0) = false ∧ a.length + 2 ≤ sizeLine) ∧ ((Txt.split a b).length ≤ sizeLine → newL m ((Txt.split a b).map PV.str) h Q)
def joinW (x y : PV) (h : MH) (Q : Post) : Prop := ∃ a ys, x = .str a ∧ seqT h y = some (ys.map PV.str) ∧ (ys.map (·.length)).sum + ys.length * a.length ≤ 16777216 ∧ Q (.str (Txt.join a ys)) h
def keysW (x : PV) (h : MH) (Q : Src → MH → Prop) : Prop :=
  match x with
  | .loc a => match kcell h (.loc a) with
    | some ps => ps.length ≤ sizeLine → Q ⟨ps.map (·.1), []⟩ (h.put a (.dcf ps))
    | none => ∃ ps, dcell h (.loc a) = some ps ∧ (ps.length ≤ sizeLine → Q ⟨ps.map fun p => .tup p.1, []⟩ (h.put a (.dtf ps)))
  | _ => False
def dgetW (x y z : PV) (h : MH) (Q : Post) : Prop :=
  ∃ r, dlk h x y r ∧ Q (r.getD z) h
def isExc (f : Str) : Bool := (["NoWorth", "NoText", "NotEven", "NoCell", "NoPlace", "TooMany", "NoName", "Taken", "NoBack", "NoRow"] : List Str).contains f
def gcst (f : Str) : Option PV := if f = "NOUGHT" then some (.cst [0, 1]) else if f = "FIGURES" then some (.str "0123456789") else if f = "MOST_FIGURES" then some (.int 30) else if f = "LEAST_RING" then some (.int 4) else if isExc f = true then some .non else none
def inW (x y : PV) (h : MH) (Q : Bool → MH → Prop) : Prop :=
  match y with
  | .dtt ts vs => ∃ ks key, ts = ks.map PV.tup ∧ x = .tup key ∧ key.all isKey = true ∧ Q (lookP ks vs key).isSome h
  | .str b => ∃ a, x = .str a ∧ Q (!(Builtin.Str.occurrences b a 0 b.length 1).isEmpty) h
  | y => match dcell h y with
    | some ps => ∃ key, x = .tup key ∧ key.all isKey = true ∧ Q (lookP (ps.map (·.1)) (ps.map (·.2)) key).isSome h
    | none => match kcell h y with
      | some ps => isKey x = true ∧ Q (lookK (ps.map (·.1)) (ps.map (·.2)) x).isSome h
      | none => ∃ zs, seqT h y = some zs ∧ (eqOk (rd h x) ∧ purs zs = true ∧ SeqAt.shaped (.list (toDs zs)) = true) ∧ Q (zs.any fun z => eqP z (rd h x)) h
def isiW (x : PV) (t : String) (h : MH) (Q : Bool → MH → Prop) : Prop := ∃ b, tyCls t ∧ isT t (rd h x) = some b ∧ Q b h
def optI : Option PV → Option (Option Int)
  | none => some none
  | some (.int i) => some (some i)
  | some _ => none
def slcW (x : PV) (l u : Option Int) (h : MH) (Q : Post) : Prop :=
  match rd h x with
  | .tup xs => Q (.tup (cutP xs l u)) h
  | .lst xs => Q (.lst (cutP xs l u)) h
  | .str z => z.length ≤ sizeLine ∧ Q (.str (cutS z l u)) h
  | _ => False
where
  cutP (xs : List PV) (l u : Option Int) : List PV := (xs.drop (HT.sIx xs.length 0 l)).take (HT.sIx xs.length xs.length u - HT.sIx xs.length 0 l)
def revW (x : PV) (h : MH) (Q : Post) : Prop :=
  match rd h x with
  | .tup xs => Q (.tup xs.reverse) h
  | .lst xs => Q (.lst xs.reverse) h
  | _ => False
def dct1W (k v : PV) (h : MH) (Q : Post) : Prop :=
  match k with
  | .int _ => Q (.dct [k] [v]) h
  | .str _ => Q (.dct [k] [v]) h
  | .tup xs => xs.all isKey = true ∧ Q (.dct [k] [v]) h
  | _ => False
abbrev noX : XP := fun _ _ _ => False
mutual
def wpE (G : Calls) (Ex : XP) : E → Env → MH → Post → Prop
  | .var i, env, h, Q => ∃ v, env[i]? = some (some v) ∧ Q v h
  | .non, _, h, Q => Q .non h
  | .bl b, _, h, Q => Q (.bl b) h
  | .int i, _, h, Q => Q (.int i) h
  | .str x, _, h, Q => Q (.str x) h
  | .bin op a b, env, h, Q => wpE G Ex a env h fun x h1 => wpE G Ex b env h1 fun y h2 => binW op x y h2 Q
  | .neg a, env, h, Q => wpE G Ex a env h fun x h1 => ∃ i, x = .int i ∧ Q (.int (-i)) h1
  | .not a, env, h, Q => wpE G Ex a env h fun x h1 => truW x h1 fun k h2 => Q (.bl (!k)) h2
  | .and a b, env, h, Q => wpE G Ex a env h fun x h1 => truW x h1 fun k h2 => if k = true then wpE G Ex b env h2 Q else Q x h2
  | .or a b, env, h, Q => wpE G Ex a env h fun x h1 => truW x h1 fun k h2 => if k = true then Q x h2 else wpE G Ex b env h2 Q
  | .ite c a b, env, h, Q => wpT G Ex c env h fun k h1 => if k = true then wpE G Ex a env h1 Q else wpE G Ex b env h1 Q
  | .cmp op a b, env, h, Q => wpE G Ex a env h fun x h1 => wpE G Ex b env h1 fun y h2 => cmpW op x y h2 fun k h3 => Q (.bl k) h3
  | .chain o p a b c, env, h, Q => wpE G Ex a env h fun x h1 => wpE G Ex b env h1 fun y h2 => cmpW o x y h2 fun k h3 =>
      if k = true then wpE G Ex c env h3 fun z h4 => cmpW p y z h4 fun k h5 => Q (.bl k) h5 else Q (.bl false) h3
  | .isN a neg, env, h, Q => wpE G Ex a env h fun x h1 => isNW x neg h1 fun k h2 => Q (.bl k) h2
  | .isB a b neg, env, h, Q => wpE G Ex a env h fun x h1 => isBW x b neg h1 fun k h2 => Q (.bl k) h2
  | .isin a b neg, env, h, Q => wpE G Ex a env h fun x h1 => wpE G Ex b env h1 fun y h2 => inW x y h2 fun k h3 => Q (.bl (k != neg)) h3
  | .tup es, env, h, Q => wpEs G Ex es env h fun xs h1 => xs.length ≤ sizeLine ∧ Q (.tup xs) h1
  | .lst m es, env, h, Q => wpEs G Ex es env h fun xs h1 => newL m xs h1 Q
  | .dct0 m, _, h, Q => if m then ∀ p, h p = none → Q (.loc p) (h.put p (.dct [])) else Q (.dct [] []) h
  | .dct1 k v, env, h, Q => wpE G Ex k env h fun x h1 => wpE G Ex v env h1 fun y h2 => dct1W x y h2 Q
  | .idx a i, env, h, Q => wpE G Ex a env h fun x h1 => wpE G Ex i env h1 fun y h2 => idxW x y h2 Q
  | .slc a lo hi, env, h, Q => wpE G Ex a env h fun x h1 => wpEo G Ex lo env h1 fun l h2 => ∃ li, optI l = some li ∧ wpEo G Ex hi env h2 fun u h3 => ∃ ui, optI u = some ui ∧ slcW x li ui h3 Q
  | .rev a, env, h, Q => wpE G Ex a env h fun x h1 => revW x h1 Q
  | .call f es, env, h, Q => wpEs G Ex es env h fun xs h1 => G f xs h1 Q (fun e h2 => Ex e env h2)
  | .gfn f, _, h, Q => Q (.fn f) h
  | .callv i es, env, h, Q => ∃ f, env[i]? = some (some (.fn f)) ∧ wpEs G Ex es env h fun xs h1 => G f xs h1 Q (fun e h2 => Ex e env h2)
  | .blt b es, env, h, Q => wpEs G Ex es env h fun xs h1 => bltW b xs h1 Q
  | .isi a t, env, h, Q => wpE G Ex a env h fun x h1 => isiW x t h1 fun k h2 => Q (.bl k) h2
  | .con c m it, env, h, Q => wpIt G Ex it env h fun S h1 => conW c m S.xs h1 Q
  | .comp m elt tg it c, env, h, Q => wpIt G Ex it env h fun S h1 =>
      compW S.stays (fun x h2 R => tgW tg x (wipeE env tg.own) fun env' => wpC G c env' h2 fun k h3 =>
        if k = true then wpE G noX elt env' h3 fun y h4 => R (some y) h4 else R none h3) S.xs h1 fun ys h5 => newL m ys h5 Q
  | .meth o m es, env, h, Q => wpE G Ex o env h fun x h1 => (∃ a xs, x = .loc a ∧ h1 a = some (.lst xs)) ∧ wpEs G Ex es env h1 fun ys h2 => methW x m ys h2 Q
  | .mkd a, env, h, Q => wpE G Ex a env h fun x h1 => mkdW x h1 Q
  | .dget o k d, env, h, Q => wpE G Ex o env h fun x h1 => isDl h1 x = true ∧ wpE G Ex k env h1 fun y h2 => wpE G Ex d env h2 fun z h3 => dgetW x y z h3 Q
  | .gcs f, _, h, Q => ∃ v, gcst f = some v ∧ Q v h
  | .fld o f, env, h, Q => wpE G Ex o env h fun x h1 => ∃ a C fs v, x = .loc a ∧ h1 a = some (.ins C fs) ∧ f ∈ fieldsOf C ∧ fs.lookup f = some v ∧ Q v h1
  | .mcall o f C m es, env, h, Q => wpE G Ex o env h fun x h1 => (∃ a fs, x = .loc a ∧ h1 a = some (.ins C fs) ∧ fs.lookup m = none) ∧ wpEs G Ex es env h1 fun vs h2 => G f (x :: vs) h2 Q (fun e h3 => Ex e env h3)
  | .new f C es, env, h, Q => wpEs G Ex es env h fun vs h1 => ∀ p, h1 p = none → G f (.loc p :: vs) (h1.put p (.ins C [])) (fun v h2 => v = .non ∧ Q (.loc p) h2) (fun e h3 => Ex e env h3)
  | .mkdm a, env, h, Q => wpE G Ex a env h fun x h1 => mkdmW x h1 Q
  | .mki a, env, h, Q => wpE G Ex a env h fun x h1 => mkiW x h1 Q
  | .dix a b, env, h, Q => wpE G Ex a env h fun x h1 => wpE G Ex b env h1 fun y h2 => dixW x y h2 Q
  | .rpl a b, env, h, Q => wpE G Ex a env h fun x h1 => wpE G Ex b env h1 fun y h2 => rplW x y h2 Q
  | .dpop a b, env, h, Q => wpE G Ex a env h fun x h1 => isDl h1 x = true ∧ wpE G Ex b env h1 fun y h2 => dpopW x y h2 Q
  | .split m a b, env, h, Q => wpE G Ex a env h fun x h1 => (∃ z, x = .str z) ∧ wpE G Ex b env h1 fun y h2 => splitW m x y h2 Q
  | .join a b, env, h, Q => wpE G Ex a env h fun x h1 => (∃ z, x = .str z) ∧ wpE G Ex b env h1 fun y h2 => joinW x y h2 Q
def wpT (G : Calls) (Ex : XP) : E → Env → MH → (Bool → MH → Prop) → Prop
  | .not a, env, h, Q => wpT G Ex a env h fun k h1 => Q (!k) h1
  | .and a b, env, h, Q => wpT G Ex a env h fun k h1 => if k = true then wpT G Ex b env h1 Q else Q false h1
  | .or a b, env, h, Q => wpT G Ex a env h fun k h1 => if k = true then Q true h1 else wpT G Ex b env h1 Q
  | .ite c a b, env, h, Q => wpT G Ex c env h fun k h1 => if k = true then wpT G Ex a env h1 Q else wpT G Ex b env h1 Q
  | .cmp op a b, env, h, Q => wpE G Ex a env h fun x h1 => wpE G Ex b env h1 fun y h2 => cmpW op x y h2 Q
  | .chain o p a b c, env, h, Q => wpE G Ex a env h fun x h1 => wpE G Ex b env h1 fun y h2 => cmpW o x y h2 fun k h3 =>
      if k = true then wpE G Ex c env h3 fun z h4 => cmpW p y z h4 Q else Q false h3
  | .isN a neg, env, h, Q => wpE G Ex a env h fun x h1 => isNW x neg h1 Q
  | .isB a b neg, env, h, Q => wpE G Ex a env h fun x h1 => isBW x b neg h1 Q
  | .isin a b neg, env, h, Q => wpE G Ex a env h fun x h1 => wpE G Ex b env h1 fun y h2 => inW x y h2 fun k h3 => Q (k != neg) h3
  | .var i, env, h, Q => ∃ v, env[i]? = some (some v) ∧ truW v h Q
  | .call f es, env, h, Q => wpEs G Ex es env h fun xs h1 => G f xs h1 (fun v h2 => truW v h2 Q) (fun e h2 => Ex e env h2)
  | .callv i es, env, h, Q => ∃ f, env[i]? = some (some (.fn f)) ∧ wpEs G Ex es env h fun xs h1 => G f xs h1 (fun v h2 => truW v h2 Q) (fun e h2 => Ex e env h2)
  | .blt b es, env, h, Q => wpEs G Ex es env h fun xs h1 => bltW b xs h1 fun v h2 => truW v h2 Q
  | .idx a i, env, h, Q => wpE G Ex a env h fun x h1 => wpE G Ex i env h1 fun y h2 => idxW x y h2 fun v h3 => truW v h3 Q
  | .isi a t, env, h, Q => wpE G Ex a env h fun x h1 => isiW x t h1 Q
  | _, _, _, _ => False
def wpC (G : Calls) : Eo → Env → MH → (Bool → MH → Prop) → Prop
  | .none, _, h, Q => Q true h
  | .some c, env, h, Q => wpT G noX c env h Q
def wpEs (G : Calls) (Ex : XP) : Es → Env → MH → (List PV → MH → Prop) → Prop
  | .nil, _, h, Q => Q [] h
  | .cons e es, env, h, Q => wpE G Ex e env h fun x h1 => wpEs G Ex es env h1 fun xs h2 => Q (x :: xs) h2
def wpEo (G : Calls) (Ex : XP) : Eo → Env → MH → (Option PV → MH → Prop) → Prop
  | .none, _, h, Q => Q none h
  | .some e, env, h, Q => wpE G Ex e env h fun x h1 => Q (some x) h1
def wpIt (G : Calls) (Ex : XP) : It → Env → MH → (Src → MH → Prop) → Prop
  | .seq e, env, h, Q => wpE G Ex e env h fun x h1 => ∃ S, srcV h1 x = some S ∧ (S.xs.length ≤ sizeLine → Q S h1)
  | .rng1 e, env, h, Q => wpE G Ex e env h fun x h1 => ∃ n, x = .int n ∧ RngOk 0 n ∧ n ≤ sizeLine ∧ Q ⟨rngV 0 n, []⟩ h1
  | .rng2 a b, env, h, Q => wpE G Ex a env h fun x h1 => wpE G Ex b env h1 fun y h2 => ∃ n m, x = .int n ∧ y = .int m ∧ RngOk n m ∧ m - n ≤ sizeLine ∧ Q ⟨rngV n m, []⟩ h2
  | .enum e, env, h, Q => wpE G Ex e env h fun x h1 => ∃ S, srcV h1 x = some S ∧ (S.xs.length ≤ sizeLine → Q ⟨enumV S.xs, S.st⟩ h1)
  | .keys e, env, h, Q => wpE G Ex e env h fun x h1 => keysW x h1 Q
  | .chars e, env, h, Q => wpE G Ex e env h fun x h1 => ∃ z, x = .str z ∧ z.length ≤ sizeLine ∧ Q ⟨z.cps.toList.map fun c => .str ⟨#[c]⟩, []⟩ h1
  | .zip a b, env, h, Q => wpE G Ex a env h fun x h1 => wpE G Ex b env h1 fun y h2 => ∃ S T, zipV h2 x y = some (S, T) ∧
      (S.xs.length ≤ sizeLine → T.xs.length ≤ sizeLine → Q ⟨(S.xs.zip T.xs).map fun p => PV.tup [p.1, p.2], S.st ++ T.st⟩ h2)
def isNW (x : PV) (neg : Bool) (h : MH) (Q : Bool → MH → Prop) : Prop :=
  match x with
  | .non => Q (!neg) h
  | .fn _ => False
  | _ => Q neg h
def isBW (x : PV) (b neg : Bool) (h : MH) (Q : Bool → MH → Prop) : Prop :=
  match x with
  | .bl c => Q ((c == b) != neg) h
  | _ => False
end
structure En where
  nx : Env → MH → Prop
  rt : Post
  bk : Env → MH → Prop := fun _ _ => False
  ct : Env → MH → Prop := fun _ _ => False
def forW (stays : MH → Prop) (turn : PV → Env → MH → En → Prop) (D : En) : List PV → Env → MH → Prop
  | [], env, h => stays h ∧ D.nx env h
  | x :: r, env, h => stays h ∧ turn x env h { D with nx := forW stays turn D r, ct := forW stays turn D r, bk := D.nx }
def whileW (test : Env → MH → (Bool → MH → Prop) → Prop) (body : Env → MH → En → Prop) (D : En) : Nat → Env → MH → Prop
  | 0, _, _ => False
  | n + 1, env, h => test env h fun k h1 => if k = true then body env h1 { D with nx := whileW test body D n, ct := whileW test body D n, bk := D.nx } else D.nx env h1
mutual
def wpS (G : Calls) (Ex : XP) : S → Env → MH → En → Prop
  | .asg t e, env, h, D => wpE G Ex e env h fun x h1 => tgW t x env fun env' => D.nx env' h1
  | .par i j a b, env, h, D => wpE G Ex a env h fun x h1 => wpE G Ex b env h1 fun y h2 => D.nx ((env.set i (some x)).set j (some y)) h2
  | .sub o i v, env, h, D => wpE G Ex v env h fun z h1 => wpE G Ex o env h1 fun x h2 => wpE G Ex i env h2 fun y h3 => subW x y z h3 fun h4 => D.nx env h4
  | .subd o i v, env, h, D => wpE G Ex v env h fun z h1 => wpE G Ex o env h1 fun x h2 => wpE G Ex i env h2 fun y h3 => subdW x y z h3 fun h4 => D.nx env h4
  | .ex e, env, h, D => wpE G Ex e env h fun _ h1 => D.nx env h1
  | .ret e, env, h, D => wpE G Ex e env h D.rt
  | .pass, env, h, D => D.nx env h
  | .ife c a b, env, h, D => wpT G Ex c env h fun k h1 => if k = true then wpSs G Ex a env h1 D else wpSs G Ex b env h1 D
  | .for t it body, env, h, D => wpIt G Ex it env h fun S h1 => forW S.stays (fun x env' h2 D' => tgW t x env' fun env2 => wpSs G Ex body env2 h2 D') D S.xs env h1
  | .raise c, env, h, _ => Ex ⟨c, none⟩ env h
  | .seta o f v, env, h, D => wpE G Ex v env h fun y h1 => wpE G Ex o env h1 fun x h2 => ∃ a C fs, x = .loc a ∧ h2 a = some (.ins C fs) ∧ f ∈ fieldsOf C ∧ fs.length < 1000 ∧ D.nx env (h2.put a (.ins C (putFP f y fs)))
  | .tryR, env, h, D => ∃ f a b, env = [some (.fn f), some a, some b, none, none] ∧ ∀ p, h p = none → G f [a, b] (h.put p (.lst [])) (fun _ h' => h' p = some (.lst []) ∧ D.rt (.bl false) h') (fun e h' => e.cls = "NoWorth" ∧ e.arg = none ∧ D.rt (.bl true) h')
  | .while c body, env, h, D => ∃ n, whileW (fun env' h' Q => wpT G Ex c env' h' Q) (fun env' h' D' => wpSs G Ex body env' h' D') D n env h
def wpSs (G : Calls) (Ex : XP) : Ss → Env → MH → En → Prop
  | .nil, env, h, D => D.nx env h
  | .cons s r, env, h, D => wpS G Ex s env h { D with nx := fun env' h' => wpSs G Ex r env' h' D }
end
end MP
set_option Elab.async false
set_option linter.all false
set_option maxRecDepth 100000
namespace MP
open PySem L2
def GMono (G : Calls) : Prop := ∀ f vs h Q Q' Ex Ex', (∀ v h, Q v h → Q' v h) → (∀ e h, Ex e h → Ex' e h) → G f vs h Q Ex → G f vs h Q' Ex'
section
variable {h : MH} {x y : PV} {Q Q' : Post} {T T' : Bool → MH → Prop}
theorem newL_mono {m xs} (w : ∀ v h, Q v h → Q' v h) (q : newL m xs h Q) : newL m xs h Q' := by
  unfold newL at *
  cases m with
  | true => exact ⟨q.1, fun p hp => w _ _ (q.2 p hp)⟩
  | false => exact ⟨q.1, w _ _ q.2⟩
theorem binW_mono {op} (w : ∀ v h, Q v h → Q' v h) (q : binW op x y h Q) : binW op x y h Q' := by
  unfold binW at *
  split at q <;> first | exact w _ _ q | exact ⟨q.1, w _ _ q.2⟩ | exact q.elim | (rename_i i j _ _; by_cases z : 0 < j <;> simp only [z, if_true, if_false] at q ⊢ <;> exact ⟨q.1, w _ _ q.2⟩)
theorem eqW_mono (w : ∀ v h, T v h → T' v h) (q : eqW x y h T) : eqW x y h T' := by
  unfold eqW at *
  split at q <;> first | exact w _ _ q | exact ⟨q.1, w _ _ q.2⟩
theorem neW_mono (w : ∀ v h, T v h → T' v h) (q : neW x y h T) : neW x y h T' := by
  unfold neW at *
  split at q <;> first | exact w _ _ q | exact ⟨q.1, w _ _ q.2⟩
theorem cmpI_mono {f : Int → Int → Bool} {g : PyData → PyData → Bool} (w : ∀ v h, T v h → T' v h) (q : cmpI f g x y h T) : cmpI f g x y h T' := by
  unfold cmpI at *
  split at q <;> first | exact w _ _ q | exact ⟨q.1, w _ _ q.2⟩ | exact q.elim
theorem cmpW_mono {op} (w : ∀ v h, T v h → T' v h) (q : cmpW op x y h T) : cmpW op x y h T' := by
  unfold cmpW at *
  split at q <;> first | exact eqW_mono w q | exact neW_mono w q | exact cmpI_mono w q | exact q.elim
theorem truW_mono (w : ∀ v h, T v h → T' v h) (q : truW x h T) : truW x h T' := by
  unfold truW at *
  split at q <;> first | exact w _ _ q | exact q.elim
theorem isNW_mono {neg} (w : ∀ v h, T v h → T' v h) (q : isNW x neg h T) : isNW x neg h T' := by
  unfold isNW at *
  split at q <;> first | exact w _ _ q | exact q.elim
theorem isBW_mono {b neg} (w : ∀ v h, T v h → T' v h) (q : isBW x b neg h T) : isBW x b neg h T' := by
  unfold isBW at *
  split at q <;> first | exact w _ _ q | exact q.elim
theorem inW_mono (w : ∀ v h, T v h → T' v h) (q : inW x y h T) : inW x y h T' := by
  unfold inW at *
  split at q
  · obtain ⟨ks, key, a, b, c, q⟩ := q
    exact ⟨ks, key, a, b, c, w _ _ q⟩
  · obtain ⟨a, e, q⟩ := q
    exact ⟨a, e, w _ _ q⟩
  · split at q
    · obtain ⟨key, b, c, q⟩ := q
      exact ⟨key, b, c, w _ _ q⟩
    · split at q
      · exact ⟨q.1, w _ _ q.2⟩
      · obtain ⟨zs, a, b, q⟩ := q
        exact ⟨zs, a, b, w _ _ q⟩
theorem mkdW_mono {Q Q' : Post} (w : ∀ v h, Q v h → Q' v h) (q : mkdW x h Q) : mkdW x h Q' := by
  obtain ⟨ps, a, b, c, q⟩ := q
  exact ⟨ps, a, b, c, w _ _ q⟩
theorem mkdmW_mono {Q Q' : Post} (w : ∀ v h, Q v h → Q' v h) (q : mkdmW x h Q) : mkdmW x h Q' := by
  obtain ⟨ps, a, b, c, q⟩ := q
  exact ⟨ps, a, b, c, fun p hp => w _ _ (q p hp)⟩
theorem mkiW_mono {Q Q' : Post} (w : ∀ v h, Q v h → Q' v h) (q : mkiW x h Q) : mkiW x h Q' := by
  obtain ⟨ps, a, b, c, q⟩ := q
  exact ⟨ps, a, b, c, w _ _ q⟩
theorem dixW_mono {Q Q' : Post} (w : ∀ v h, Q v h → Q' v h) (q : dixW x y h Q) : dixW x y h Q' := by
  rcases q with ⟨ks, vs, v, a, b, c, q⟩ | ⟨v, a, q⟩
  · exact .inl ⟨ks, vs, v, a, b, c, w _ _ q⟩
  · exact .inr ⟨v, a, w _ _ q⟩
theorem dpopW_mono {Q Q' : Post} (w : ∀ v h, Q v h → Q' v h) (q : dpopW x y h Q) : dpopW x y h Q' := by
  obtain ⟨a, ps, v, e1, e2, e3, e4, q⟩ := q
  exact ⟨a, ps, v, e1, e2, e3, e4, w _ _ q⟩
theorem splitW_mono {m} {Q Q' : Post} (w : ∀ v h, Q v h → Q' v h) (q : splitW m x y h Q) : splitW m x y h Q' := by
  obtain ⟨a, b, e1, e2, e3, q⟩ := q
  exact ⟨a, b, e1, e2, e3, fun l => newL_mono w (q l)⟩
theorem joinW_mono {Q Q' : Post} (w : ∀ v h, Q v h → Q' v h) (q : joinW x y h Q) : joinW x y h Q' := by
  obtain ⟨a, b, e1, e2, e3, q⟩ := q
  exact ⟨a, b, e1, e2, e3, w _ _ q⟩
theorem subdW_mono {v : PV} {K K' : MH → Prop} (w : ∀ h, K h → K' h) (q : subdW x y v h K) : subdW x y v h K' := by
  obtain ⟨a, ps, e1, e2, e3, e4, q⟩ := q
  exact ⟨a, ps, e1, e2, e3, e4, w _ q⟩
theorem rplW_mono {Q Q' : Post} (w : ∀ v h, Q v h → Q' v h) (q : rplW x y h Q) : rplW x y h Q' := by
  obtain ⟨xs, n, a, b, c, q⟩ := q
  exact ⟨xs, n, a, b, c, newL_mono w q⟩
theorem keysW_mono {Q Q' : Src → MH → Prop} (w : ∀ v h, Q v h → Q' v h) (q : keysW x h Q) : keysW x h Q' := by
  unfold keysW at *
  split at q
  · split at q
    · exact fun l => w _ _ (q l)
    · obtain ⟨ps, a, q⟩ := q
      exact ⟨ps, a, fun l => w _ _ (q l)⟩
  · exact q.elim
theorem dgetW_mono {z : PV} {Q Q' : Post} (w : ∀ v h, Q v h → Q' v h) (q : dgetW x y z h Q) : dgetW x y z h Q' := by
  obtain ⟨r, a, q⟩ := q
  exact ⟨r, a, w _ _ q⟩
theorem isiW_mono {t} (w : ∀ v h, T v h → T' v h) (q : isiW x t h T) : isiW x t h T' := by
  obtain ⟨b, a, e, q⟩ := q
  exact ⟨b, a, e, w _ _ q⟩
theorem idxW_mono (w : ∀ v h, Q v h → Q' v h) (q : idxW x y h Q) : idxW x y h Q' := by
  unfold idxW at *
  split at q <;> first | (obtain ⟨v, a, q⟩ := q; exact ⟨v, a, w _ _ q⟩) | exact q.elim
theorem slcW_mono {l u} (w : ∀ v h, Q v h → Q' v h) (q : slcW x l u h Q) : slcW x l u h Q' := by
  unfold slcW at *
  split at q <;> first | exact w _ _ q | exact ⟨q.1, w _ _ q.2⟩ | exact q.elim
theorem revW_mono (w : ∀ v h, Q v h → Q' v h) (q : revW x h Q) : revW x h Q' := by
  unfold revW at *
  split at q <;> first | exact w _ _ q | exact q.elim
theorem dct1W_mono (w : ∀ v h, Q v h → Q' v h) (q : dct1W x y h Q) : dct1W x y h Q' := by
  unfold dct1W at *
  split at q <;> first | exact w _ _ q | exact ⟨q.1, w _ _ q.2⟩ | exact q.elim
theorem bltW_mono {b vs} (w : ∀ v h, Q v h → Q' v h) (q : bltW b vs h Q) : bltW b vs h Q' := by
  unfold bltW at *
  split at q <;> first | exact w _ _ q | exact ⟨q.1, w _ _ q.2⟩ | (obtain ⟨v, a, q⟩ := q; exact ⟨v, a, w _ _ q⟩) | (obtain ⟨v, a, b, q⟩ := q; exact ⟨v, a, b, w _ _ q⟩) | (obtain ⟨v, u, a, b, q⟩ := q; exact ⟨v, u, a, b, w _ _ q⟩) | exact q.elim
theorem conW_mono {c m vs} (w : ∀ v h, Q v h → Q' v h) (q : conW c m vs h Q) : conW c m vs h Q' := by
  unfold conW at *
  split at q <;> first | exact newL_mono w q | exact w _ _ q | exact ⟨q.1, newL_mono w q.2⟩
theorem methW_mono {m vs} (w : ∀ v h, Q v h → Q' v h) (q : methW x m vs h Q) : methW x m vs h Q' := by
  unfold methW at *
  split at q
  · obtain ⟨a, b, c, q⟩ := q; exact ⟨a, b, c, w _ _ q⟩
  · obtain ⟨a, b, c, d, e, q⟩ := q; exact ⟨a, b, c, d, e, w _ _ q⟩
  · obtain ⟨a, b, c, d, q⟩ := q; exact ⟨a, b, c, d, w _ _ q⟩
  · obtain ⟨a, b, c, d, e, f, g, k, q⟩ := q; exact ⟨a, b, c, d, e, f, g, k, w _ _ q⟩
  · exact q.elim
theorem subW_mono {v : PV} {K K' : MH → Prop} (w : ∀ h, K h → K' h) (q : subW x y v h K) : subW x y v h K' := by
  unfold subW at *
  split at q
  · obtain ⟨a, b, c, q⟩ := q; exact ⟨a, b, c, w _ q⟩
  · obtain ⟨a, b, c, d, q⟩ := q; exact ⟨a, b, c, d, w _ q⟩
  · exact q.elim
theorem tgW_mono : ∀ {t : Tg} {v : PV} {env : Env} {K K' : Env → Prop}, (∀ e, K e → K' e) → tgW t v env K → tgW t v env K'
  | .name i, _, _, _, _, w, q => w _ q
  | .tup2 a b, _, _, _, _, w, ⟨x, y, e, q⟩ => ⟨x, y, e, tgW_mono (fun _ q => tgW_mono w q) q⟩
  | .tup3 a b c, _, _, _, _, w, ⟨x, y, z, e, q⟩ => ⟨x, y, z, e, tgW_mono (fun _ q => tgW_mono (fun _ q => tgW_mono w q) q) q⟩
  | .tup4 a b c d, _, _, _, _, w, ⟨x, y, z, u, e, q⟩ => ⟨x, y, z, u, e, tgW_mono (fun _ q => tgW_mono (fun _ q => tgW_mono (fun _ q => tgW_mono w q) q) q) q⟩
theorem compW_mono {st : MH → Prop} {t t' : PV → MH → (Option PV → MH → Prop) → Prop} (wt : ∀ x h R R', (∀ o h, R o h → R' o h) → t x h R → t' x h R') : ∀ {xs : List PV} {h : MH} {K K' : List PV → MH → Prop}, (∀ ys h, K ys h → K' ys h) → compW st t xs h K → compW st t' xs h K'
  | [], _, _, _, w, ⟨a, q⟩ => ⟨a, w _ _ q⟩
  | x :: r, _, _, _, w, ⟨a, q⟩ => ⟨a, wt _ _ _ _ (fun _ _ q => compW_mono wt (fun _ _ q => w _ _ q) q) q⟩
end
mutual
theorem wpE_mono {G : Calls} (hG : GMono G) {Ex : XP} : ∀ {e : E} {env : Env} {h : MH} {Q Q' : Post}, (∀ v h, Q v h → Q' v h) → wpE G Ex e env h Q → wpE G Ex e env h Q'
  | .var i, env, h, Q, Q', w, q => by
    simp only [wpE] at *
    obtain ⟨v, a, q⟩ := q
    exact ⟨v, a, w _ _ q⟩
  | .non, env, h, Q, Q', w, q => by simp only [wpE] at *; exact w _ _ q
  | .bl _, env, h, Q, Q', w, q => by simp only [wpE] at *; exact w _ _ q
  | .int _, env, h, Q, Q', w, q => by simp only [wpE] at *; exact w _ _ q
  | .str _, env, h, Q, Q', w, q => by simp only [wpE] at *; exact w _ _ q
  | .bin op a b, env, h, Q, Q', w, q => by
    simp only [wpE] at *
    exact wpE_mono hG (fun _ _ q => wpE_mono hG (fun _ _ q => binW_mono w q) q) q
  | .neg a, env, h, Q, Q', w, q => by
    simp only [wpE] at *
    exact wpE_mono hG (fun _ _ ⟨i, e, q⟩ => ⟨i, e, w _ _ q⟩) q
  | .not a, env, h, Q, Q', w, q => by
    simp only [wpE] at *
    exact wpE_mono hG (fun _ _ q => truW_mono (fun _ _ q => w _ _ q) q) q
  | .and a b, env, h, Q, Q', w, q => by
    simp only [wpE] at *
    refine wpE_mono hG (fun _ _ q => truW_mono (fun k _ q => ?_) q) q
    cases k with
    | true => exact wpE_mono hG w q
    | false => exact w _ _ q
  | .or a b, env, h, Q, Q', w, q => by
    simp only [wpE] at *
    refine wpE_mono hG (fun _ _ q => truW_mono (fun k _ q => ?_) q) q
    cases k with
    | true => exact w _ _ q
    | false => exact wpE_mono hG w q
  | .ite c a b, env, h, Q, Q', w, q => by
    simp only [wpE] at *
    refine wpT_mono hG (fun k _ q => ?_) q
    cases k with
    | true => exact wpE_mono hG w q
    | false => exact wpE_mono hG w q
  | .cmp op a b, env, h, Q, Q', w, q => by
    simp only [wpE] at *
    exact wpE_mono hG (fun _ _ q => wpE_mono hG (fun _ _ q => cmpW_mono (fun _ _ q => w _ _ q) q) q) q
  | .chain o p a b c, env, h, Q, Q', w, q => by
    simp only [wpE] at *
    refine wpE_mono hG (fun _ _ q => wpE_mono hG (fun _ _ q => cmpW_mono (fun k _ q => ?_) q) q) q
    cases k with
    | true => exact wpE_mono hG (fun _ _ q => cmpW_mono (fun _ _ q => w _ _ q) q) q
    | false => exact w _ _ q
  | .isN a neg, env, h, Q, Q', w, q => by
    simp only [wpE] at *
    exact wpE_mono hG (fun _ _ q => isNW_mono (fun _ _ q => w _ _ q) q) q
  | .isB a b neg, env, h, Q, Q', w, q => by
    simp only [wpE] at *
    exact wpE_mono hG (fun _ _ q => isBW_mono (fun _ _ q => w _ _ q) q) q
  | .isin a b neg, env, h, Q, Q', w, q => by
    simp only [wpE] at *
    exact wpE_mono hG (fun _ _ q => wpE_mono hG (fun _ _ q => inW_mono (fun _ _ q => w _ _ q) q) q) q
  | .tup es, env, h, Q, Q', w, q => by
    simp only [wpE] at *
    exact wpEs_mono hG (fun _ _ q => ⟨q.1, w _ _ q.2⟩) q
  | .lst m es, env, h, Q, Q', w, q => by
    simp only [wpE] at *
    exact wpEs_mono hG (fun _ _ q => newL_mono w q) q
  | .dct0 m, env, h, Q, Q', w, q => by
    simp only [wpE] at *
    cases m with
    | true => exact fun p hp => w _ _ (q p hp)
    | false => exact w _ _ q
  | .dct1 k v, env, h, Q, Q', w, q => by
    simp only [wpE] at *
    exact wpE_mono hG (fun _ _ q => wpE_mono hG (fun _ _ q => dct1W_mono w q) q) q
  | .idx a i, env, h, Q, Q', w, q => by
    simp only [wpE] at *
    exact wpE_mono hG (fun _ _ q => wpE_mono hG (fun _ _ q => idxW_mono w q) q) q
  | .slc a lo hi, env, h, Q, Q', w, q => by
    simp only [wpE] at *
    exact wpE_mono hG (fun _ _ q => wpEo_mono hG (fun _ _ ⟨l, e, q⟩ => ⟨l, e, wpEo_mono hG (fun _ _ ⟨u, e, q⟩ => ⟨u, e, slcW_mono w q⟩) q⟩) q) q
  | .rev a, env, h, Q, Q', w, q => by
    simp only [wpE] at *
    exact wpE_mono hG (fun _ _ q => revW_mono w q) q
  | .call f es, env, h, Q, Q', w, q => by
    simp only [wpE] at *
    exact wpEs_mono hG (fun _ _ q => hG _ _ _ _ _ _ _ w (fun _ _ q => q) q) q
  | .gfn f, env, h, Q, Q', w, q => by
    simp only [wpE] at *
    exact w _ _ q
  | .callv i es, env, h, Q, Q', w, q => by
    simp only [wpE] at *
    obtain ⟨f, a, q⟩ := q
    exact ⟨f, a, wpEs_mono hG (fun _ _ q => hG _ _ _ _ _ _ _ w (fun _ _ q => q) q) q⟩
  | .blt b es, env, h, Q, Q', w, q => by
    simp only [wpE] at *
    exact wpEs_mono hG (fun _ _ q => bltW_mono w q) q
  | .isi a t, env, h, Q, Q', w, q => by
    simp only [wpE] at *
    exact wpE_mono hG (fun _ _ q => isiW_mono (fun _ _ q => w _ _ q) q) q
  | .con c m it, env, h, Q, Q', w, q => by
    simp only [wpE] at *
    exact wpIt_mono hG (fun _ _ q => conW_mono w q) q
  | .comp m elt tg it c, env, h, Q, Q', w, q => by
    simp only [wpE] at *
    refine wpIt_mono hG (fun S _ q => compW_mono (fun _ _ _ _ r q => tgW_mono (fun _ q => wpC_mono hG (fun k _ q => ?_) q) q) (fun _ _ q => newL_mono w q) q) q
    cases k with
    | true => exact wpE_mono hG (fun _ _ q => r _ _ q) q
    | false => exact r _ _ q
  | .meth o m es, env, h, Q, Q', w, q => by
    simp only [wpE] at *
    exact wpE_mono hG (fun _ _ ⟨z, q⟩ => ⟨z, wpEs_mono hG (fun _ _ q => methW_mono w q) q⟩) q
  | .fld o f, env, h, Q, Q', w, q => by
    simp only [wpE] at *
    exact wpE_mono hG (fun _ _ ⟨a, C, fs, v, e1, e2, e3, e4, q⟩ => ⟨a, C, fs, v, e1, e2, e3, e4, w _ _ q⟩) q
  | .mcall o f C m es, env, h, Q, Q', w, q => by
    simp only [wpE] at *
    exact wpE_mono hG (fun _ _ q => ⟨q.1, wpEs_mono hG (fun _ _ q => hG _ _ _ _ _ _ _ w (fun _ _ z => z) q) q.2⟩) q
  | .new f C es, env, h, Q, Q', w, q => by
    simp only [wpE] at *
    exact wpEs_mono hG (fun _ _ q p hp => hG _ _ _ _ _ _ _ (fun _ _ z => ⟨z.1, w _ _ z.2⟩) (fun _ _ z => z) (q p hp)) q
  | .mkdm a, env, h, Q, Q', w, q => by
    simp only [wpE] at *
    exact wpE_mono hG (fun _ _ q => mkdmW_mono w q) q
  | .mki a, env, h, Q, Q', w, q => by
    simp only [wpE] at *
    exact wpE_mono hG (fun _ _ q => mkiW_mono w q) q
  | .dix a b, env, h, Q, Q', w, q => by
    simp only [wpE] at *
    exact wpE_mono hG (fun _ _ q => wpE_mono hG (fun _ _ q => dixW_mono w q) q) q
  | .rpl a b, env, h, Q, Q', w, q => by
    simp only [wpE] at *
    exact wpE_mono hG (fun _ _ q => wpE_mono hG (fun _ _ q => rplW_mono w q) q) q
  | .dpop a b, env, h, Q, Q', w, q => by
    simp only [wpE] at *
    exact wpE_mono hG (fun _ _ ⟨z, q⟩ => ⟨z, wpE_mono hG (fun _ _ q => dpopW_mono w q) q⟩) q
  | .split m a b, env, h, Q, Q', w, q => by
    simp only [wpE] at *
    exact wpE_mono hG (fun _ _ ⟨z, q⟩ => ⟨z, wpE_mono hG (fun _ _ q => splitW_mono w q) q⟩) q
  | .join a b, env, h, Q, Q', w, q => by
    simp only [wpE] at *
    exact wpE_mono hG (fun _ _ ⟨z, q⟩ => ⟨z, wpE_mono hG (fun _ _ q => joinW_mono w q) q⟩) q
  | .mkd a, env, h, Q, Q', w, q => by
    simp only [wpE] at *
    exact wpE_mono hG (fun _ _ q => mkdW_mono w q) q
  | .dget o k d, env, h, Q, Q', w, q => by
    simp only [wpE] at *
    exact wpE_mono hG (fun _ _ ⟨z, q⟩ => ⟨z, wpE_mono hG (fun _ _ q => wpE_mono hG (fun _ _ q => dgetW_mono w q) q) q⟩) q
  | .gcs f, env, h, Q, Q', w, q => by
    simp only [wpE] at *
    obtain ⟨v, e, q⟩ := q
    exact ⟨v, e, w _ _ q⟩
theorem wpT_mono {G : Calls} (hG : GMono G) {Ex : XP} : ∀ {e : E} {env : Env} {h : MH} {Q Q' : Bool → MH → Prop}, (∀ v h, Q v h → Q' v h) → wpT G Ex e env h Q → wpT G Ex e env h Q'
  | .not a, env, h, Q, Q', w, q => by
    simp only [wpT] at *
    exact wpT_mono hG (fun _ _ q => w _ _ q) q
  | .and a b, env, h, Q, Q', w, q => by
    simp only [wpT] at *
    refine wpT_mono hG (fun k _ q => ?_) q
    cases k with
    | true => exact wpT_mono hG w q
    | false => exact w _ _ q
  | .or a b, env, h, Q, Q', w, q => by
    simp only [wpT] at *
    refine wpT_mono hG (fun k _ q => ?_) q
    cases k with
    | true => exact w _ _ q
    | false => exact wpT_mono hG w q
  | .ite c a b, env, h, Q, Q', w, q => by
    simp only [wpT] at *
    refine wpT_mono hG (fun k _ q => ?_) q
    cases k with
    | true => exact wpT_mono hG w q
    | false => exact wpT_mono hG w q
  | .cmp op a b, env, h, Q, Q', w, q => by
    simp only [wpT] at *
    exact wpE_mono hG (fun _ _ q => wpE_mono hG (fun _ _ q => cmpW_mono w q) q) q
  | .chain o p a b c, env, h, Q, Q', w, q => by
    simp only [wpT] at *
    refine wpE_mono hG (fun _ _ q => wpE_mono hG (fun _ _ q => cmpW_mono (fun k _ q => ?_) q) q) q
    cases k with
    | true => exact wpE_mono hG (fun _ _ q => cmpW_mono w q) q
    | false => exact w _ _ q
  | .isN a neg, env, h, Q, Q', w, q => by
    simp only [wpT] at *
    exact wpE_mono hG (fun _ _ q => isNW_mono w q) q
  | .isB a b neg, env, h, Q, Q', w, q => by
    simp only [wpT] at *
    exact wpE_mono hG (fun _ _ q => isBW_mono w q) q
  | .isin a b neg, env, h, Q, Q', w, q => by
    simp only [wpT] at *
    exact wpE_mono hG (fun _ _ q => wpE_mono hG (fun _ _ q => inW_mono (fun _ _ q => w _ _ q) q) q) q
  | .var i, env, h, Q, Q', w, q => by
    simp only [wpT] at *
    obtain ⟨v, a, q⟩ := q
    exact ⟨v, a, truW_mono w q⟩
  | .call f es, env, h, Q, Q', w, q => by
    simp only [wpT] at *
    exact wpEs_mono hG (fun _ _ q => hG _ _ _ _ _ _ _ (fun _ _ q => truW_mono w q) (fun _ _ q => q) q) q
  | .callv i es, env, h, Q, Q', w, q => by
    simp only [wpT] at *
    obtain ⟨f, a, q⟩ := q
    exact ⟨f, a, wpEs_mono hG (fun _ _ q => hG _ _ _ _ _ _ _ (fun _ _ q => truW_mono w q) (fun _ _ q => q) q) q⟩
  | .gfn _, env, h, Q, Q', w, q => by simp only [wpT] at q
  | .blt b es, env, h, Q, Q', w, q => by
    simp only [wpT] at *
    exact wpEs_mono hG (fun _ _ q => bltW_mono (fun _ _ q => truW_mono w q) q) q
  | .idx a i, env, h, Q, Q', w, q => by
    simp only [wpT] at *
    exact wpE_mono hG (fun _ _ q => wpE_mono hG (fun _ _ q => idxW_mono (fun _ _ q => truW_mono w q) q) q) q
  | .isi a t, env, h, Q, Q', w, q => by
    simp only [wpT] at *
    exact wpE_mono hG (fun _ _ q => isiW_mono w q) q
  | .non, env, h, Q, Q', w, q => by simp only [wpT] at q
  | .bl _, env, h, Q, Q', w, q => by simp only [wpT] at q
  | .int _, env, h, Q, Q', w, q => by simp only [wpT] at q
  | .str _, env, h, Q, Q', w, q => by simp only [wpT] at q
  | .bin _ _ _, env, h, Q, Q', w, q => by simp only [wpT] at q
  | .neg _, env, h, Q, Q', w, q => by simp only [wpT] at q
  | .tup _, env, h, Q, Q', w, q => by simp only [wpT] at q
  | .lst _ _, env, h, Q, Q', w, q => by simp only [wpT] at q
  | .dct0 _, env, h, Q, Q', w, q => by simp only [wpT] at q
  | .dct1 _ _, env, h, Q, Q', w, q => by simp only [wpT] at q
  | .slc _ _ _, env, h, Q, Q', w, q => by simp only [wpT] at q
  | .rev _, env, h, Q, Q', w, q => by simp only [wpT] at q
  | .con _ _ _, env, h, Q, Q', w, q => by simp only [wpT] at q
  | .comp _ _ _ _ _, env, h, Q, Q', w, q => by simp only [wpT] at q
  | .meth _ _ _, env, h, Q, Q', w, q => by simp only [wpT] at q
  | .mkd _, env, h, Q, Q', w, q => by simp only [wpT] at q
  | .mkdm _, env, h, Q, Q', w, q => by simp only [wpT] at q
  | .fld _ _, env, h, Q, Q', w, q => by simp only [wpT] at q
  | .mcall _ _ _ _ _, env, h, Q, Q', w, q => by simp only [wpT] at q
  | .new _ _ _, env, h, Q, Q', w, q => by simp only [wpT] at q
  | .mki _, env, h, Q, Q', w, q => by simp only [wpT] at q
  | .dix _ _, env, h, Q, Q', w, q => by simp only [wpT] at q
  | .rpl _ _, env, h, Q, Q', w, q => by simp only [wpT] at q
  | .dpop _ _, env, h, Q, Q', w, q => by simp only [wpT] at q
  | .split _ _ _, env, h, Q, Q', w, q => by simp only [wpT] at q
  | .join _ _, env, h, Q, Q', w, q => by simp only [wpT] at q
  | .dget _ _ _, env, h, Q, Q', w, q => by simp only [wpT] at q
  | .gcs _, env, h, Q, Q', w, q => by simp only [wpT] at q
theorem wpC_mono {G : Calls} (hG : GMono G) : ∀ {c : Eo} {env : Env} {h : MH} {Q Q' : Bool → MH → Prop}, (∀ v h, Q v h → Q' v h) → wpC G c env h Q → wpC G c env h Q'
  | .none, env, h, Q, Q', w, q => by simp only [wpC] at *; exact w _ _ q
  | .some c, env, h, Q, Q', w, q => by simp only [wpC] at *; exact wpT_mono hG w q
theorem wpEs_mono {G : Calls} (hG : GMono G) {Ex : XP} : ∀ {e : Es} {env : Env} {h : MH} {Q Q' : List PV → MH → Prop}, (∀ v h, Q v h → Q' v h) → wpEs G Ex e env h Q → wpEs G Ex e env h Q'
  | .nil, env, h, Q, Q', w, q => by simp only [wpEs] at *; exact w _ _ q
  | .cons e es, env, h, Q, Q', w, q => by
    simp only [wpEs] at *
    exact wpE_mono hG (fun _ _ q => wpEs_mono hG (fun _ _ q => w _ _ q) q) q
theorem wpEo_mono {G : Calls} (hG : GMono G) {Ex : XP} : ∀ {e : Eo} {env : Env} {h : MH} {Q Q' : Option PV → MH → Prop}, (∀ v h, Q v h → Q' v h) → wpEo G Ex e env h Q → wpEo G Ex e env h Q'
  | .none, env, h, Q, Q', w, q => by simp only [wpEo] at *; exact w _ _ q
  | .some e, env, h, Q, Q', w, q => by simp only [wpEo] at *; exact wpE_mono hG (fun _ _ q => w _ _ q) q
theorem wpIt_mono {G : Calls} (hG : GMono G) {Ex : XP} : ∀ {e : It} {env : Env} {h : MH} {Q Q' : Src → MH → Prop}, (∀ v h, Q v h → Q' v h) → wpIt G Ex e env h Q → wpIt G Ex e env h Q'
  | .seq e, env, h, Q, Q', w, q => by simp only [wpIt] at *; exact wpE_mono hG (fun _ _ ⟨S, a, q⟩ => ⟨S, a, fun l => w _ _ (q l)⟩) q
  | .rng1 e, env, h, Q, Q', w, q => by simp only [wpIt] at *; exact wpE_mono hG (fun _ _ ⟨n, a, b, c, q⟩ => ⟨n, a, b, c, w _ _ q⟩) q
  | .rng2 a b, env, h, Q, Q', w, q => by simp only [wpIt] at *; exact wpE_mono hG (fun _ _ q => wpE_mono hG (fun _ _ ⟨n, m, a, b, c, d, q⟩ => ⟨n, m, a, b, c, d, w _ _ q⟩) q) q
  | .keys e, env, h, Q, Q', w, q => by simp only [wpIt] at *; exact wpE_mono hG (fun _ _ q => keysW_mono w q) q
  | .chars e, env, h, Q, Q', w, q => by simp only [wpIt] at *; exact wpE_mono hG (fun _ _ ⟨z, a, b, q⟩ => ⟨z, a, b, w _ _ q⟩) q
  | .enum e, env, h, Q, Q', w, q => by simp only [wpIt] at *; exact wpE_mono hG (fun _ _ ⟨S, a, q⟩ => ⟨S, a, fun l => w _ _ (q l)⟩) q
  | .zip a b, env, h, Q, Q', w, q => by simp only [wpIt] at *; exact wpE_mono hG (fun _ _ q => wpE_mono hG (fun _ _ ⟨n, m, a, q⟩ => ⟨n, m, a, fun l k => w _ _ (q l k)⟩) q) q
end
structure EnLe (D D' : En) : Prop where
  nx : ∀ e h, D.nx e h → D'.nx e h
  rt : ∀ v h, D.rt v h → D'.rt v h
  bk : ∀ e h, D.bk e h → D'.bk e h
  ct : ∀ e h, D.ct e h → D'.ct e h
theorem EnLe.refl (D : En) : EnLe D D := ⟨fun _ _ q => q, fun _ _ q => q, fun _ _ q => q, fun _ _ q => q⟩
theorem forW_mono {st : MH → Prop} {t t' : PV → Env → MH → En → Prop} (wt : ∀ x e h D D', EnLe D D' → t x e h D → t' x e h D') {D D' : En} (w : EnLe D D') : ∀ {xs : List PV} {env : Env} {h : MH}, forW st t D xs env h → forW st t' D' xs env h
  | [], _, _, ⟨a, q⟩ => ⟨a, w.nx _ _ q⟩
  | x :: r, _, _, ⟨a, q⟩ => ⟨a, wt x _ _ ⟨forW st t D r, D.rt, D.nx, forW st t D r⟩ ⟨forW st t' D' r, D'.rt, D'.nx, forW st t' D' r⟩ ⟨fun _ _ q => forW_mono wt w q, w.rt, w.nx, fun _ _ q => forW_mono wt w q⟩ q⟩
theorem whileW_mono {c c' : Env → MH → (Bool → MH → Prop) → Prop} {t t' : Env → MH → En → Prop} (wc : ∀ e h Q Q', (∀ v h, Q v h → Q' v h) → c e h Q → c' e h Q') (wt : ∀ e h D D', EnLe D D' → t e h D → t' e h D') {D D' : En} (w : EnLe D D') :
    ∀ {n : Nat} {env : Env} {h : MH}, whileW c t D n env h → whileW c' t' D' n env h
  | 0, _, _, q => q.elim
  | n + 1, _, _, q => by
    simp only [whileW] at *
    refine wc _ _ _ _ (fun k _ q => ?_) q
    cases k with
    | true => exact wt _ _ ⟨whileW c t D n, D.rt, D.nx, whileW c t D n⟩ ⟨whileW c' t' D' n, D'.rt, D'.nx, whileW c' t' D' n⟩ ⟨fun _ _ q => whileW_mono wc wt w q, w.rt, w.nx, fun _ _ q => whileW_mono wc wt w q⟩ q
    | false => exact w.nx _ _ q
mutual
theorem wpS_mono {G : Calls} (hG : GMono G) {Ex : XP} : ∀ {s : S} {env : Env} {h : MH} {D D' : En}, EnLe D D' → wpS G Ex s env h D → wpS G Ex s env h D'
  | .asg t e, env, h, D, D', w, q => by simp only [wpS] at *; exact wpE_mono hG (fun _ _ q => tgW_mono (fun _ q => w.nx _ _ q) q) q
  | .par i j a b, env, h, D, D', w, q => by simp only [wpS] at *; exact wpE_mono hG (fun _ _ q => wpE_mono hG (fun _ _ q => w.nx _ _ q) q) q
  | .sub o i v, env, h, D, D', w, q => by simp only [wpS] at *; exact wpE_mono hG (fun _ _ q => wpE_mono hG (fun _ _ q => wpE_mono hG (fun _ _ q => subW_mono (fun _ q => w.nx _ _ q) q) q) q) q
  | .subd o i v, env, h, D, D', w, q => by simp only [wpS] at *; exact wpE_mono hG (fun _ _ q => wpE_mono hG (fun _ _ q => wpE_mono hG (fun _ _ q => subdW_mono (fun _ q => w.nx _ _ q) q) q) q) q
  | .ex e, env, h, D, D', w, q => by simp only [wpS] at *; exact wpE_mono hG (fun _ _ q => w.nx _ _ q) q
  | .ret e, env, h, D, D', w, q => by simp only [wpS] at *; exact wpE_mono hG w.rt q
  | .pass, env, h, D, D', w, q => by simp only [wpS] at *; exact w.nx _ _ q
  | .ife c a b, env, h, D, D', w, q => by
    simp only [wpS] at *
    refine wpT_mono hG (fun k _ q => ?_) q
    cases k with
    | true => exact wpSs_mono hG w q
    | false => exact wpSs_mono hG w q
  | .for t it body, env, h, D, D', w, q => by
    simp only [wpS] at *
    exact wpIt_mono hG (fun S _ q => forW_mono (fun _ _ _ _ _ w q => tgW_mono (fun _ q => wpSs_mono hG w q) q) w q) q
  | .while c body, env, h, D, D', w, q => by
    simp only [wpS] at *
    obtain ⟨n, q⟩ := q
    exact ⟨n, whileW_mono (c := fun env' h' Q => wpT G Ex c env' h' Q) (t := fun env' h' D' => wpSs G Ex body env' h' D') (fun _ _ _ _ w q => wpT_mono hG w q) (fun _ _ _ _ w q => wpSs_mono hG w q) w q⟩
  | .raise c, env, h, D, D', w, q => by simp only [wpS] at *; exact q
  | .seta o f v, env, h, D, D', w, q => by simp only [wpS] at *; exact wpE_mono hG (fun _ _ q => wpE_mono hG (fun _ _ ⟨a, C, fs, e1, e2, e3, e4, q⟩ => ⟨a, C, fs, e1, e2, e3, e4, w.nx _ _ q⟩) q) q
  | .tryR, env, h, D, D', w, q => by
    simp only [wpS] at *
    obtain ⟨f, a, b, e, q⟩ := q
    exact ⟨f, a, b, e, fun p hp => hG _ _ _ _ _ _ _ (fun _ _ q => ⟨q.1, w.rt _ _ q.2⟩) (fun _ _ q => ⟨q.1, q.2.1, w.rt _ _ q.2.2⟩) (q p hp)⟩
theorem wpSs_mono {G : Calls} (hG : GMono G) {Ex : XP} : ∀ {s : Ss} {env : Env} {h : MH} {D D' : En}, EnLe D D' → wpSs G Ex s env h D → wpSs G Ex s env h D'
  | .nil, env, h, D, D', w, q => by simp only [wpSs] at *; exact w.nx _ _ q
  | .cons s r, env, h, D, D', w, q => by simp only [wpSs] at *; exact wpS_mono hG (D := ⟨fun env' h' => wpSs G Ex r env' h' D, D.rt, D.bk, D.ct⟩) (D' := ⟨fun env' h' => wpSs G Ex r env' h' D', D'.rt, D'.bk, D'.ct⟩) ⟨fun _ _ q => wpSs_mono hG w q, w.rt, w.bk, w.ct⟩ q
end
end MP
set_option Elab.async false
set_option linter.all false
set_option maxRecDepth 100000
namespace MP
open PySem L2
theorem toDs_eq : ∀ xs : List PV, toDs xs = xs.map toD
  | [] => rfl
  | x :: r => by simp only [toDs, List.map_cons, toDs_eq r]
theorem purs_eq : ∀ xs : List PV, purs xs = xs.all pur
  | [] => rfl
  | x :: r => by simp only [purs, List.all_cons, purs_eq r]
mutual
inductive RX (h : Heap) : Value → PyData → Prop
  | none : RX h .none .none
  | bool (b : Bool) : RX h (.bool b) (.bool b)
  | int (i : Int) (t : Tok) : RX h (.int i t) (.int i)
  | str (x : Str) (t : Tok) : RX h (.str x t) (.str x)
  | list {a : Addr} {o : Obj} {vs : Array Value} {n : Nat} {ds : List PyData} : h.get? a = some o → o.cls = .type "list" → o.data = .seq vs n → RXs h vs.toList ds → RX h (.ref a) (.list ds)
  | tuple {a : Addr} {o : Obj} {vs : Array Value} {n : Nat} {ds : List PyData} : h.get? a = some o → o.cls = .type "tuple" → o.data = .seq vs n → RXs h vs.toList ds → RX h (.ref a) (.tuple ds)
  | dict {a : Addr} {o : Obj} {es : Array DictEntry} {n : Nat} {ps : List (PyData × PyData)} : (a == sysModules) = false → h.get? a = some o → o.cls = .type "dict" → o.data = .dict es n →
      RXs h (es.toList.map (·.key)) (ps.map (·.1)) → RXs h (es.toList.map (·.val)) (ps.map (·.2)) → RX h (.ref a) (.dict ps)
inductive RXs (h : Heap) : List Value → List PyData → Prop
  | nil : RXs h [] []
  | cons {v : Value} {vs : List Value} {d : PyData} {ds : List PyData} : RX h v d → RXs h vs ds → RXs h (v :: vs) (d :: ds)
end
section
variable {h : Heap}
mutual
theorem RX.reads : ∀ {d : PyData} {v : Value}, RX h v d → ∃ as, Reads h v d as
  | _, _, .none => ⟨_, .none⟩
  | _, _, .bool b => ⟨_, .bool b⟩
  | _, _, .int i t => ⟨_, .int i t⟩
  | _, _, .str x t => ⟨_, .str x t⟩
  | _, _, .list a b c e => let ⟨_, r⟩ := RXs.reads e; ⟨_, .list a b c r⟩
  | _, _, .tuple a b c e => let ⟨_, r⟩ := RXs.reads e; ⟨_, .tuple a b c r⟩
  | _, _, .dict _ a b c e f => let ⟨_, r⟩ := RXs.reads e; let ⟨_, q⟩ := RXs.reads f; ⟨_, .dict a b c r q⟩
theorem RXs.reads : ∀ {d : List PyData} {v : List Value}, RXs h v d → ∃ as, ReadsAll h v d as
  | _, _, .nil => ⟨_, .nil⟩
  | _, _, .cons a b => let ⟨_, r⟩ := RX.reads a; let ⟨_, q⟩ := RXs.reads b; ⟨_, .cons r q⟩
end
end
section
variable {prog : Program} {w : World} {h : Heap}
mutual
theorem rk_of : ∀ {d : PyData} {v : Value}, RX h v d → d.showable = true → d.shown.length ≤ sizeLine →
    ∃ bs, ReadAtMost h d.depth bs ∧ ReprK prog w bs h d.depth v d.shown
  | _, _, .none, _, _ => ⟨[], (fun _ q => nomatch q), by simp only [PyData.shown]; exact .of_is ReprIs.none _ _ _⟩
  | _, _, .bool b, _, _ => ⟨[], (fun _ q => nomatch q), by simp only [PyData.shown]; exact .of_is (.bool b) _ _ _⟩
  | _, _, .int i t, sh, _ => ⟨[], (fun _ q => nomatch q), by
      simp only [PyData.shown]
      refine .of_is (.int t ?_) _ _ _
      simpa [PyData.showable] using sh⟩
  | _, _, .str x t, _, sz => ⟨[], (fun _ q => nomatch q), by
      simp only [PyData.shown]
      refine .of_is (.str x t ?_) _ _ _
      simpa only [PyData.shown] using sz⟩
  | .list ds, .ref a, .list (vs := vs) g1 g2 g3 g4, sh, sz => by
    simp only [PyData.shown] at sz
    simp only [PyData.showable] at sh
    obtain ⟨bs, hb, hk⟩ := rks_of g4 sh (fun t ht => Nat.le_trans (listText_mem_le ht) sz)
    obtain ⟨as, r⟩ := RX.reads (.list g1 g2 g3 g4)
    have na : a ∉ bs := not_mem_of_deeper r (by simp only [PyData.depth]; omega) hb
    refine ⟨a :: bs, .cons r (by simp only [PyData.depth]; omega) hb, ?_⟩
    simp only [PyData.depth, PyData.shown]
    obtain ⟨l⟩ := vs
    cases l with
    | nil =>
      cases (show RXs h [] ds from g4)
      simp only [PyData.shownAll]
      rw [listText_nil]
      exact .listEmpty g1 g2 g3
    | cons y l => exact .list g1 g2 g3 na (by simpa using hk.length_eq) (fun i z e => hk.item i z (by simpa using e))
  | .tuple ds, .ref a, .tuple g1 g2 g3 g4, sh, sz => by
    simp only [PyData.shown] at sz
    simp only [PyData.showable] at sh
    obtain ⟨bs, hb, hk⟩ := rks_of g4 sh (fun t ht => Nat.le_trans (tupleText_mem_le ht) sz)
    obtain ⟨as, r⟩ := RX.reads (.tuple g1 g2 g3 g4)
    have na : a ∉ bs := not_mem_of_deeper r (by simp only [PyData.depth]; omega) hb
    refine ⟨a :: bs, .cons r (by simp only [PyData.depth]; omega) hb, ?_⟩
    simp only [PyData.depth, PyData.shown]
    exact .tuple g1 g2 g3 na hk
  | .dict ps, .ref a, .dict (es := es) g0 g1 g2 g3 g4 g5, sh, sz => by
    simp only [PyData.shown] at sz
    simp only [PyData.showable] at sh
    obtain ⟨s1, s2⟩ := PyData.showableKv_split ps sh
    obtain ⟨b1, m1, k1⟩ := rks_of g4 s1 (fun t ht => by
      obtain ⟨p, hp, hl⟩ := PyData.shownKv_key_le ps t ht
      exact Nat.le_trans hl (Nat.le_trans (dictText_mem_le hp) sz))
    obtain ⟨b2, m2, k2⟩ := rks_of g5 s2 (fun t ht => by
      obtain ⟨p, hp, hl⟩ := PyData.shownKv_val_le ps t ht
      exact Nat.le_trans hl (Nat.le_trans (dictText_mem_le hp) sz))
    obtain ⟨as, r⟩ := RX.reads (.dict g0 g1 g2 g3 g4 g5)
    have hb : ReadAtMost h (PyData.depthKv ps) (b1 ++ b2) := .append (m1.mono (PyData.depthAll_keys_le ps)) (m2.mono (PyData.depthAll_vals_le ps))
    have na : a ∉ b1 ++ b2 := not_mem_of_deeper r (by simp only [PyData.depth]; omega) hb
    refine ⟨a :: (b1 ++ b2), .cons r (by simp only [PyData.depth]; omega) hb, ?_⟩
    simp only [PyData.depth, PyData.shown]
    rw [PyData.shownKv_eq]
    refine .dict g1 g2 g3 g0 na (.of_two es.toList _ _ (k1.more_le (fun b q => ?_) (PyData.depthAll_keys_le ps)) (k2.more_le (fun b q => ?_) (PyData.depthAll_vals_le ps)))
    · exact List.mem_append_left _ q
    · exact List.mem_append_right _ q
theorem rks_of : ∀ {ds : List PyData} {vs : List Value}, RXs h vs ds → PyData.showableAll ds = true → (∀ t ∈ PyData.shownAll ds, t.length ≤ sizeLine) →
    ∃ bs, ReadAtMost h (PyData.depthAll ds) bs ∧ ReprAllK prog w bs h (PyData.depthAll ds) vs (PyData.shownAll ds)
  | _, _, .nil, _, _ => ⟨[], (fun _ q => nomatch q), by simp only [PyData.shownAll]; exact .nil⟩
  | d :: ds, _, .cons r rs, sh, sz => by
    simp only [PyData.showableAll, Bool.and_eq_true] at sh
    simp only [PyData.shownAll, List.mem_cons] at sz
    obtain ⟨b1, m1, k1⟩ := rk_of r sh.1 (sz _ (.inl rfl))
    obtain ⟨b2, m2, k2⟩ := rks_of rs sh.2 (fun t ht => sz t (.inr ht))
    refine ⟨b1 ++ b2, .append (m1.mono (Nat.le_max_left _ _)) (m2.mono (Nat.le_max_right _ _)), ?_⟩
    simp only [PyData.depthAll, PyData.shownAll]
    refine .cons ((k1.more fun b q => ?_).level_le (Nat.le_max_left _ _)) (k2.more_le (fun b q => ?_) (Nat.le_max_right _ _))
    · exact List.mem_append_left _ q
    · exact List.mem_append_right _ q
end
theorem repr_rx {A : Around} {E : Value → Shared → Prop} {s : Shared} {Q : Value → Shared → Prop} {v : Value} {d : PyData} (r : RX s.heap v d) (sh : d.showable = true) (hg : A.guards = some []) (hu : A.units + (d.depth + 1) < cLine) (sz : d.shown.length ≤ sizeLine)
    (hQ : ∀ h' u tk, (∀ b o, s.heap.get? b = some o → h'.get? b = some o) → Q (.str d.shown u) { s with heap := h', toks := tk }) : wpAny (model prog w) A (call (.builtin "repr") [v]) Q E s := by
  have hz := sz
  cases r with
  | none => exact PySem.P.repr_of_none (by simpa only [PyData.shown] using hQ s.heap _ _ fun _ _ q => q)
  | bool b => exact PySem.P.repr_of_bool (by simpa only [PyData.shown] using hQ s.heap _ _ fun _ _ q => q)
  | int i t => exact PySem.P.repr_of_int (by simpa [PyData.showable] using sh) (by simpa only [PyData.shown] using hQ s.heap _ _ fun _ _ q => q)
  | str x t => exact PySem.P.repr_of_str (by simpa only [PyData.shown] using hQ s.heap _ _ fun _ _ q => q) (by simpa only [PyData.shown] using sz)
  | @list a o vs n ds g1 g2 g3 g4 =>
    obtain ⟨as, rr⟩ := RX.reads (.list g1 g2 g3 g4)
    simp only [PyData.shown] at sz
    simp only [PyData.showable] at sh
    obtain ⟨bs, hb, hk⟩ := rks_of (prog := prog) (w := w) g4 sh (fun t ht => Nat.le_trans (listText_mem_le ht) sz)
    have na : a ∉ bs := not_mem_of_deeper rr (by simp only [PyData.depth]; omega) hb
    simp only [PyData.depth] at hu
    simp only [PyData.shown] at hQ
    refine call_repr_slot (T := "list") (by omega) ⟨o, g1, g2⟩ F.slot_list_repr.toG ?_
    obtain ⟨l⟩ := vs
    cases l with
    | nil =>
      cases (show RXs s.heap [] ds from g4)
      simp only [PyData.shownAll, listText_nil] at hQ
      exact call_list_repr_empty ⟨o, g1, g2⟩ g1 g3 ⟨_, _, rfl, hQ s.heap _ _ fun _ _ q => q⟩
    | cons y l =>
      refine call_list_reprK g1 g2 g3 na (by simpa using hk.length_eq) (fun i z e => hk.item i z (by simpa using e)) hg (fun b _ => Clear.nil b) ?_ (fun _ _ q => q) (fun h' u tk q => ⟨_, _, rfl, hQ h' u tk q⟩) sz
      show A.units + 1 + _ < cLine
      omega
  | @tuple a o vs n ds g1 g2 g3 g4 =>
    obtain ⟨as, rr⟩ := RX.reads (.tuple g1 g2 g3 g4)
    simp only [PyData.shown] at sz
    simp only [PyData.showable] at sh
    obtain ⟨bs, hb, hk⟩ := rks_of (prog := prog) (w := w) g4 sh (fun t ht => Nat.le_trans (tupleText_mem_le ht) sz)
    have na : a ∉ bs := not_mem_of_deeper rr (by simp only [PyData.depth]; omega) hb
    simp only [PyData.depth] at hu
    simp only [PyData.shown] at hQ
    refine call_repr_slot (T := "tuple") (by omega) ⟨o, g1, g2⟩ F.slot_tuple_repr ?_
    refine call_tuple_reprK g1 g2 g3 na hk hg (fun b _ => Clear.nil b) ?_ (fun _ _ q => q) (fun h' u tk q => ⟨_, _, rfl, hQ h' u tk q⟩) sz
    show A.units + 1 + _ < cLine
    omega
  | @dict a o es n ps g0 g1 g2 g3 g4 g5 =>
    obtain ⟨as, rr⟩ := RX.reads (.dict g0 g1 g2 g3 g4 g5)
    simp only [PyData.shown] at sz
    simp only [PyData.showable] at sh
    obtain ⟨s1, s2⟩ := PyData.showableKv_split ps sh
    obtain ⟨b1, m1, k1⟩ := rks_of (prog := prog) (w := w) g4 s1 (fun t ht => by
      obtain ⟨p, hp, hl⟩ := PyData.shownKv_key_le ps t ht
      exact Nat.le_trans hl (Nat.le_trans (dictText_mem_le hp) sz))
    obtain ⟨b2, m2, k2⟩ := rks_of (prog := prog) (w := w) g5 s2 (fun t ht => by
      obtain ⟨p, hp, hl⟩ := PyData.shownKv_val_le ps t ht
      exact Nat.le_trans hl (Nat.le_trans (dictText_mem_le hp) sz))
    have hb : ReadAtMost s.heap (PyData.depthKv ps) (b1 ++ b2) := .append (m1.mono (PyData.depthAll_keys_le ps)) (m2.mono (PyData.depthAll_vals_le ps))
    have na : a ∉ b1 ++ b2 := not_mem_of_deeper rr (by simp only [PyData.depth]; omega) hb
    simp only [PyData.depth] at hu
    simp only [PyData.shown, PyData.shownKv_eq] at hQ
    refine call_repr_slot (T := "dict") (by omega) ⟨o, g1, g2⟩ F.slot_dict_repr ?_
    refine call_dict_reprK g1 g2 g3 g0 na (.of_two es.toList _ _ (k1.more_le (fun b q => ?_) (PyData.depthAll_keys_le ps)) (k2.more_le (fun b q => ?_) (PyData.depthAll_vals_le ps))) hg (fun b _ => Clear.nil b) ?_ (fun _ _ q => q) (fun h' u tk q => ⟨_, _, rfl, hQ h' u tk q⟩) (by rw [← PyData.shownKv_eq]; exact sz)
    · exact List.mem_append_left _ q
    · exact List.mem_append_right _ q
    · show A.units + 1 + _ < cLine
      omega
end
end MP
set_option Elab.async false
set_option linter.all false
set_option maxRecDepth 100000
set_option maxHeartbeats 2000000
namespace MP
open PySem L2
section
variable {P : Program} {w : World} {h : Heap}
theorem pairs_vals {es : List DictEntry} {vs : List (Key × Value)} (p : Pairs (mixKind P w) es vs) : es.map (·.val) = vs.map (·.2) := by
  induction p with
  | nil => rfl
  | cons _ e _ ih => simp only [List.map_cons, ih, e]
theorem pairs_keys {es : List DictEntry} {vs : List (Key × Value)} (p : Pairs (mixKind P w) es vs) : ∀ {ks : List PV}, Keys ks (vs.map (·.1)) → RXs h (es.map (·.key)) (toDs ks) := by
  induction p with
  | nil =>
    intro ks hk
    cases hk
    simp only [toDs, List.map_nil]
    exact .nil
  | cons hi _ _ ih =>
    intro ks hk
    cases hk with
    | cons a b =>
      simp only [toDs, List.map_cons]
      refine .cons ?_ (ih b)
      dsimp only at a
      rcases keyIs_shape hi with ⟨i, t, e1, e2⟩ | ⟨x, t, e1, e2⟩
      · rw [e1] at a
        cases a
        rw [e2]
        exact .int _ _
      · rw [e1] at a
        cases a
        rw [e2]
        exact .str _ _
theorem kv_keys {kvs : List (Key × V)} {vs : List (Key × Value)} (r : KV kvs vs) : kvs.map (·.1) = vs.map (·.1) := by
  induction r with
  | nil => rfl
  | cons a _ ih => simp only [List.map_cons, ih, a.1]
theorem kv_vals {kvs : List (Key × V)} {vs : List (Key × Value)} (r : KV kvs vs) : Vals (kvs.map (·.2)) (vs.map (·.2)) := by
  induction r with
  | nil => exact .nil
  | cons a _ ih => exact .cons a.2 ih
theorem zip_fst {α β : Type} : ∀ {a : List α} {b : List β}, a.length = b.length → (a.zip b).map (·.1) = a
  | [], _, _ => rfl
  | x :: a, [], e => by cases e
  | x :: a, y :: b, e => by simp only [List.zip_cons_cons, List.map_cons, zip_fst (Nat.succ.inj e)]
theorem zip_snd {α β : Type} : ∀ {a : List α} {b : List β}, a.length = b.length → (a.zip b).map (·.2) = b
  | [], [], _ => rfl
  | [], y :: b, e => by cases e
  | x :: a, [], e => by cases e
  | x :: a, y :: b, e => by simp only [List.zip_cons_cons, List.map_cons, zip_snd (Nat.succ.inj e)]
theorem toDs_length (xs : List PV) : (toDs xs).length = xs.length := by rw [toDs_eq, List.length_map]
theorem Paired.len {α β : Type} {F : α → β → Prop} {a : List α} {b : List β} (p : Paired F a b) : a.length = b.length := Paired.length p
theorem keyV_rep {k : Key} {x : PV} (a : KeyRep x k) {u : Value} (r : RelV (kV k) u) : RX h u (toD x) := by
  cases a with
  | int i =>
    obtain ⟨t, rfl⟩ := (show ∃ t, u = Value.int i t from r)
    exact .int _ _
  | str y =>
    obtain ⟨t, rfl⟩ := (show ∃ t, u = Value.str y t from r)
    exact .str _ _
theorem keysV_rep : ∀ {ks : List PV} {k : List Key} {us : List Value}, Keys ks k → Vals (k.map kV) us → RXs h us (toDs ks)
  | _, _, _, .nil, r => by
    cases r
    simp only [toDs]
    exact .nil
  | _, _, _, .cons a b, r => by
    cases r with
    | cons p q =>
      simp only [toDs]
      exact .cons (keyV_rep a p) (keysV_rep b q)
end
section
variable {X : Cx} {pins : List (Addr × Obj)} {σ : L2.St} {H : Hp} {s : Shared}
theorem dT_keys (I : Inv X pins σ H s) : ∀ {kvs : List (List Key × V)} {xs : List (List Key × Addr × Value)} {ks : List (List PV)},
    Paired (fun (p : List Key × V) (q : List Key × Addr × Value) => p.1 = q.1 ∧ H q.2.1 = some (.tup (p.1.map kV)) ∧ RelV p.2 q.2.2) kvs xs → Paired Keys ks (kvs.map (·.1)) →
    RXs s.heap ((xs.map (entryOfKey (tupleKind (mixKind X.prog X.w)))).map (·.key)) (toDs (ks.map PV.tup))
  | _, _, _, .nil, hk => by
    cases hk
    simp only [List.map_nil, toDs]
    exact .nil
  | _, _, _, .cons (a := a) (b := b) p t, hk => by
    cases hk with
    | cons k r =>
      simp only [List.map_cons, toDs]
      refine .cons ?_ (dT_keys I t r)
      obtain ⟨_, its, rv, ⟨o, ho, hc, n, hd⟩⟩ := I.hok _ _ p.2.1
      simp only [toD]
      exact .tuple ho hc hd (by simpa using keysV_rep k rv)
theorem dT_vals {kvs : List (List Key × V)} {xs : List (List Key × Addr × Value)}
    (p : Paired (fun (p : List Key × V) (q : List Key × Addr × Value) => p.1 = q.1 ∧ H q.2.1 = some (.tup (p.1.map kV)) ∧ RelV p.2 q.2.2) kvs xs) :
    Vals (kvs.map (·.2)) ((xs.map (entryOfKey (tupleKind (mixKind X.prog X.w)))).map (·.val)) := by
  induction p with
  | nil => exact .nil
  | cons a _ ih => exact .cons a.2.2 ih
mutual
theorem rep_rx (I : Inv X pins σ H s) : ∀ {x : PV} {v : V} {u : Value}, Rep X.K H v x → pur x = true → RelV v u → RX s.heap u (toD x)
  | _, _, _, .non, _, r => by cases (show _ = Value.none from r); simp only [toD]; exact .none
  | _, _, _, .bl b, _, r => by cases (show _ = Value.bool b from r); simp only [toD]; exact .bool b
  | _, _, _, .int i, _, r => by obtain ⟨t, rfl⟩ := (show ∃ t, _ = Value.int i t from r); simp only [toD]; exact .int i t
  | _, _, _, .str y, _, r => by obtain ⟨t, rfl⟩ := (show ∃ t, _ = Value.str y t from r); simp only [toD]; exact .str y t
  | _, _, _, .tup (a := a) sq rs, hp, r => by
    cases (show _ = Value.ref a from r)
    obtain ⟨its, rv, ⟨o, ho, hc, n, hd⟩, _⟩ := I.tuple (.inl (.inl sq))
    simp only [toD]
    simp only [pur] at hp
    exact .tuple ho hc hd (by simpa using reps_rx I rs hp rv)
  | _, _, _, .lst (a := a) sq rs, hp, r => by
    cases (show _ = Value.ref a from r)
    obtain ⟨_, its, n, rv, _, ho⟩ := (LL.at_ (.inr sq) I)
    simp only [toD]
    simp only [pur] at hp
    exact .list ho rfl rfl (by simpa using reps_rx I rs hp rv)
  | _, _, _, .dctK (a := a) (kvs := kvs) (ks := ks) (vs := vs) hf hk rs, hp, r => by
    cases (show _ = Value.ref a from r)
    obtain ⟨_, _, ys, ws, kv, o, es, ep, ho, hx, hdt, _, pr, _⟩ := I.hok _ _ hf
    simp only [toD]
    simp only [pur, Bool.and_eq_true] at hp
    have l1 : ks.length = vs.length := by
      have a1 := Paired.len hk
      have a2 := rs.length
      simp only [List.length_map] at a1 a2
      omega
    have l2 : (toDs ks).length = (toDs vs).length := by rw [toDs_length, toDs_length]; exact l1
    refine .dict ys ho hx.1 hdt ?_ ?_
    · rw [zip_fst l2]
      exact pairs_keys pr (by rw [← kv_keys kv]; exact hk)
    · rw [zip_snd l2, pairs_vals pr]
      exact reps_rx I rs hp.2 (kv_vals kv)
  | _, _, _, .dctT (a := a) (kvs := kvs) (ks := ks) (vs := vs) hf hk rs, hp, r => by
    cases (show _ = Value.ref a from r)
    obtain ⟨_, _, ys, xs, pr, o, es, ep, ho, hx, hdt, he, _⟩ := I.hok _ _ hf
    simp only [toD]
    simp only [pur, Bool.and_eq_true] at hp
    have l1 : ks.length = vs.length := by
      have a1 := Paired.len hk
      have a2 := rs.length
      simp only [List.length_map] at a1 a2
      omega
    have l2 : (toDs (ks.map PV.tup)).length = (toDs vs).length := by rw [toDs_length, toDs_length, List.length_map]; exact l1
    refine .dict ys ho hx.1 hdt ?_ ?_
    · rw [zip_fst l2, he]
      exact dT_keys I pr hk
    · rw [zip_snd l2, he]
      exact reps_rx I rs hp.2 (dT_vals pr)
  | _, _, _, .loc _, hp, _ => by simp only [pur] at hp; cases hp
  | _, _, _, .fn _ _ _, hp, _ => by simp only [pur] at hp; cases hp
  | _, _, _, .cst _, hp, _ => by simp only [pur] at hp; cases hp
  | _, _, _, .dtt _ _ _, hp, _ => by simp only [pur] at hp; cases hp
theorem reps_rx (I : Inv X pins σ H s) : ∀ {xs : List PV} {vs : List V} {us : List Value}, Reps X.K H vs xs → purs xs = true → Vals vs us → RXs s.heap us (toDs xs)
  | _, _, _, .nil, _, r => by cases r; simp only [toDs]; exact .nil
  | _, _, _, .cons a b, hp, r => by
    cases r with
    | cons p q =>
      simp only [purs, Bool.and_eq_true] at hp
      simp only [toDs]
      exact .cons (rep_rx I a hp.1 p) (reps_rx I b hp.2 q)
end
end
section
variable {K : KF} {H : Hp} {h : MH} {x : V} {v : PV} {xs : List PV}
theorem rd_of (hv : ∀ a, v ≠ .loc a) : rd h v = v := by
  cases v with
  | loc a => exact absurd rfl (hv a)
  | _ => rfl
theorem rd_lst (e : rd h v = .lst xs) : v = .lst xs ∨ ∃ a, v = .loc a ∧ h a = some (.lst xs) := by
  cases v with
  | loc a =>
    refine .inr ⟨a, rfl, ?_⟩
    simp only [rd] at e
    split at e
    · rename_i q; cases e; exact q
    · cases e
  | lst ys => exact .inl e
  | _ => cases e
theorem rd_else (e : rd h v = xs') (hl : ∀ ys, xs' ≠ .lst ys) (ha : ∀ a, xs' ≠ .loc a) : v = xs' := by
  cases v with
  | loc a =>
    simp only [rd] at e
    split at e
    · exact absurd e.symm (hl _)
    · exact absurd e.symm (ha _)
  | _ => exact e
theorem rd_int {i : Int} (e : rd h v = .int i) : v = .int i := rd_else e (fun _ q => nomatch q) (fun _ q => nomatch q)
theorem rd_str {i : Str} (e : rd h v = .str i) : v = .str i := rd_else e (fun _ q => nomatch q) (fun _ q => nomatch q)
theorem rd_bl {i : Bool} (e : rd h v = .bl i) : v = .bl i := rd_else e (fun _ q => nomatch q) (fun _ q => nomatch q)
theorem rd_non (e : rd h v = .non) : v = .non := rd_else e (fun _ q => nomatch q) (fun _ q => nomatch q)
theorem rd_tup (e : rd h v = .tup xs) : v = .tup xs := rd_else e (fun _ q => nomatch q) (fun _ q => nomatch q)
theorem rd_dct {ks vs : List PV} (e : rd h v = .dct ks vs) : v = .dct ks vs := rd_else e (fun _ q => nomatch q) (fun _ q => nomatch q)
theorem CRep.lst_inv {o : HO} (c : CRep K H (.lst xs) o) : ∃ vs, o = .lst vs ∧ Reps K H vs xs := by cases c with | lst a => exact ⟨_, rfl, a⟩
theorem rep_lst (r : Rep K H x v) (hr : HRep K h H) (e : rd h v = .lst xs) : ∃ a vs, x = .ref a ∧ LL K H a vs ∧ Reps K H vs xs := by
  rcases rd_lst e with rfl | ⟨a, rfl, q⟩
  · obtain ⟨a, vs, rfl, f, rs⟩ := r.lst_inv
    exact ⟨a, vs, rfl, .inr f, rs⟩
  · obtain ⟨o, h1, h2⟩ := hr a _ q
    obtain ⟨vs, rfl, rs⟩ := h2.lst_inv
    exact ⟨a, vs, r.loc_inv, .inl h1, rs⟩
theorem rep_seqS (r : Rep K H x v) (hr : HRep K h H) (e : seqT h v = some xs) : ∃ a vs, x = .ref a ∧ (LL K H a vs ∨ H a = some (.tup vs)) ∧ Reps K H vs xs := by
  unfold seqT at e
  split at e
  · rename_i ys q
    cases e
    cases rd_tup q
    obtain ⟨a, vs, rfl, f, rs⟩ := r.tup_invS
    exact ⟨a, vs, rfl, .inr f, rs⟩
  · rename_i ys q
    cases e
    obtain ⟨a, vs, e1, f, rs⟩ := rep_lst r hr q
    exact ⟨a, vs, e1, .inl f, rs⟩
  · cases e
theorem rep_seq (r : Rep K H x v) (hr : HRep K h H) (e : seqT h v = some xs) : ∃ a vs, x = .ref a ∧ (LL K H a vs ∨ SqT K H a vs) ∧ Reps K H vs xs := by
  obtain ⟨a, vs, e1, f, rs⟩ := rep_seqS r hr e
  exact ⟨a, vs, e1, f.imp id fun q => .inl (.inl q), rs⟩
end
section
variable {X : Cx} {pins : List (Addr × Obj)} {σ : L2.St} {H : Hp} {s : Shared} {h : MH} {x : V} {v : PV} {u : Value}
theorem rd_rx (I : Inv X pins σ H s) (r : Rep X.K H x v) (hr : HRep X.K h H) (rx : RelV x u) (hp : pur (rd h v) = true) : RX s.heap u (toD (rd h v)) := by
  by_cases hl : ∃ xs, rd h v = .lst xs
  · obtain ⟨xs, e⟩ := hl
    obtain ⟨a, vs, rfl, ll, rs⟩ := rep_lst r hr e
    cases (show u = Value.ref a from rx)
    rw [e] at hp ⊢
    simp only [pur] at hp
    obtain ⟨_, its, n, rv, _, ho⟩ := ll.at_ I
    simp only [toD]
    exact .list ho rfl rfl (by simpa using reps_rx I rs hp rv)
  · have e : rd h v = v := by
      cases v with
      | loc a =>
        exfalso
        simp only [rd] at hp hl
        split at hp
        · rename_i q; exact hl ⟨_, by rw [q]⟩
        · cases hp
      | _ => rfl
    rw [e] at hp ⊢
    exact rep_rx I r hp rx
end
end MP
set_option Elab.async false
set_option linter.all false
set_option maxRecDepth 100000
set_option maxHeartbeats 1000000
namespace MP
open PySem PySem.Spec PyProof.Rows L2
def up (K : KF) (H : Hp) (Q : VK) : Post := fun v h' => ∀ V H', Pres H H' → Rep K H' V v → HRep K h' H' → Q V H'
def upT (K : KF) (H : Hp) (Q : Bool → Hp → Prop) : Bool → MH → Prop := fun b h' => ∀ H', Pres H H' → HRep K h' H' → Q b H'
section
variable {X : Cx} {pins : List (Addr × Obj)} {σ : L2.St} {H : Hp} {s : Shared}
theorem EP.laid {Q : VK} {u : Value} {s' : Shared} (h : EP X pins σ (Laid Q) u s') : EP X pins σ Q u s' := by
  obtain ⟨v, H1, I1, r1, S, ok, q⟩ := h
  obtain ⟨H2, f, I2⟩ := fz_inv I1 ok
  exact ⟨v, H2, I2, r1, q H2 f⟩
theorem Laid.none {Q : VK} {v : V} {H : Hp} (q : Q v H) : Laid Q v H := ⟨fun _ => False, fun _ z => z.elim, fun H' f => by
  have e : H' = H := funext fun a => f.out a fun z => z
  rw [e]; exact q⟩
theorem laid_new {K : KF} {h : MH} {H0 H : Hp} {Q : VK} {m : Bool} {xs : List PV} {vs : List V} (p0 : Pres H0 H) (hr : HRep K h H) (rs : Reps K H vs xs) (q : newL m xs h (up K H0 Q)) :
    vs.length ≤ sizeLine ∧ ∀ p, H p = none → Laid Q (.ref p) (upd H p (.lst vs)) := by
  unfold newL at q
  have l := rs.length
  cases m with
  | true =>
    refine ⟨by rw [l]; exact q.1, fun p hp => Laid.none ?_⟩
    exact q.2 p (hr.fresh hp) _ _ (p0.trans (.new hp)) (.loc p) (hr.new hp (.lst rs))
  | false =>
    refine ⟨by rw [l]; exact q.1, fun p hp => ?_⟩
    have ok : ∀ a, a = p → ∃ u, upd H p (.lst vs) a = some u ∧ Fz1 u := fun a e => ⟨.lst vs, by subst e; exact upd_same, True.intro⟩
    refine ⟨fun a => a = p, ok, fun H' f => ?_⟩
    have pr : Pres (upd H p (.lst vs)) H' := f.pres ok
    obtain ⟨u, o, e1, e2⟩ := f.at_ p rfl
    rw [upd_same] at e1
    cases e1
    have prH : Pres H H' := (Pres.new hp).trans pr
    refine q.2 _ _ (p0.trans prH) (.lst (.inl ⟨o, e2⟩) (rs.keep prH)) (hr.keep prH fun a c e => ?_)
    obtain ⟨u, h1, _⟩ := hr a c e
    have ne : a ≠ p := ne_of_none h1 hp
    rw [f.out a ne, upd_ne ne]
theorem tup_new {K : KF} {h : MH} {H0 H : Hp} {Q : VK} {xs : List PV} {vs : List V} (p0 : Pres H0 H) (hr : HRep K h H) (rs : Reps K H vs xs) (q : up K H0 Q (.tup xs) h) :
    ∀ p, H p = none → Q (.ref p) (upd H p (.tup vs)) := fun p hp =>
  q _ _ (p0.trans (.new hp)) (.tup upd_same (rs.keep (.new hp))) (hr.newP hp)
abbrev RB (K : KF) (W : PV → PV → MH → Post → Prop) : R2 := fun x y H Q => ∃ vx vy h, Rep K H x vx ∧ Rep K H y vy ∧ HRep K h H ∧ W vx vy h (up K H Q)
theorem add_ll {l b : Addr} {vs ws : List V} {v u : Value} {Q : VK} (I : Inv X pins σ H s) (rx : RelV (.ref l) v) (ry : RelV (.ref b) u) (a1 : LL X.K H l vs) (a2 : LL X.K H b ws) (hz : vs.length + ws.length ≤ sizeLine)
    (q : ∀ p, H p = none → Q (.ref p) (upd H p (.lst (vs ++ ws)))) : wpAny (model X.prog X.w) X.A (binaryOp .Add v u) (EP X pins σ Q) X.xe s := by
  cases (show v = Value.ref l from rx)
  cases (show u = Value.ref b from ry)
  obtain ⟨_, its, n, r, hl, e⟩ := a1.at_ I
  obtain ⟨_, its2, n2, r2, hl2, e2⟩ := a2.at_ I
  refine PySem.P.add_list e e2 ?_ (by rw [List.size_toArray, List.size_toArray]; omega)
  rw [show its.toArray ++ its2.toArray = (its ++ its2).toArray by simp]
  exact ⟨.ref _, _, I.lnew (t' := s.toks) (r.append r2) (by rw [List.length_append]; omega), rfl, q _ I.fresh⟩
theorem add_tt {l b : Addr} {vs ws : List V} {v u : Value} {Q : VK} (I : Inv X pins σ H s) (rx : RelV (.ref l) v) (ry : RelV (.ref b) u) (a1 : SqT X.K H l vs) (a2 : SqT X.K H b ws) (hz : vs.length + ws.length ≤ sizeLine)
    (q0 : vs = [] → Q (.ref b) H) (q1 : vs ≠ [] → ws = [] → Q (.ref l) H) (q2 : ∀ p, H p = none → Q (.ref p) (upd H p (.tup (vs ++ ws)))) : wpAny (model X.prog X.w) X.A (binaryOp .Add v u) (EP X pins σ Q) X.xe s := by
  cases (show v = Value.ref l from rx)
  cases (show u = Value.ref b from ry)
  obtain ⟨its, r1, p1, _⟩ := I.tuple a1
  obtain ⟨its2, r2, p2, _⟩ := I.tuple a2
  obtain ⟨⟨c1, d1, t1, sl1⟩, ho, hc, n, hd⟩ := id p1
  obtain ⟨⟨c2, d2, t2, sl2⟩, ho2, hc2, n2, hd2⟩ := id p2
  simp only at hc hd hc2 hd2
  subst hc hd hc2 hd2
  by_cases hv : its = []
  · refine concat_meets ⟨_, ho, rfl⟩ ⟨_, ho2, rfl⟩ noFill_tuple_add seq_tuple_add PySem.F.slot_tuple_add PySem.F.entry_tuple_add (PySem.F.args_tuple_add_2 _ _)
      (PyProof.Rows.tuple_addW0 l b its.toArray its2.toArray n n2 d1 d2 sl1 sl2 (by simp [hv])) ⟨ho, ho2, ?_⟩
    exact ⟨.ref b, H, I, rfl, q0 (r1.nil_iff.mp hv)⟩
  · by_cases hw : its2 = []
    · refine concat_meets ⟨_, ho, rfl⟩ ⟨_, ho2, rfl⟩ noFill_tuple_add seq_tuple_add PySem.F.slot_tuple_add PySem.F.entry_tuple_add (PySem.F.args_tuple_add_2 _ _)
        (PyProof.Rows.tuple_addW1 l b its.toArray its2.toArray n n2 d1 d2 sl1 sl2 (by simpa using hv) (by simp [hw])) ⟨ho, ho2, ?_⟩
      exact ⟨.ref l, H, I, rfl, q1 (fun z => hv (r1.nil_iff.mpr z)) (r2.nil_iff.mp hw)⟩
    · refine concat_meets ⟨_, ho, rfl⟩ ⟨_, ho2, rfl⟩ noFill_tuple_add seq_tuple_add PySem.F.slot_tuple_add PySem.F.entry_tuple_add (PySem.F.args_tuple_add_2 _ _)
        (PyProof.Rows.tuple_addW2 l b its.toArray its2.toArray n n2 d1 d2 sl1 sl2 (by simpa using hv) (by simpa using hw) (by rw [List.size_toArray, List.size_toArray, ← r1.length, ← r2.length]; exact hz)) ⟨ho, ho2, ?_⟩
      rw [show its.toArray ++ its2.toArray = (its ++ its2).toArray by simp]
      refine ⟨.ref s.heap.objs.size, _, I.laid (t' := s.toks) (o := .tup (vs ++ ws)) (fun b ob z => Heap.get?_push_of_some _ z) (Nat.le_refl _) ?_, rfl, q2 _ I.fresh⟩
      exact ⟨by rw [List.length_append]; exact hz, _, r1.append r2, IsTup.new _ _⟩
theorem mul_l {l : Addr} {vs : List V} {k : Int} {v u : Value} {Q : VK} (I : Inv X pins σ H s) (rx : RelV (.ref l) v) (ry : RelV (.int k) u) (a1 : LL X.K H l vs) (h1 : -(2 ^ 63) ≤ k) (h2 : k < 2 ^ 63) (hz : vs.length * k.toNat ≤ sizeLine)
    (q : ∀ p, H p = none → Q (.ref p) (upd H p (.lst (List.replicate k.toNat vs).flatten))) : wpAny (model X.prog X.w) X.A (binaryOp .Mult v u) (EP X pins σ Q) X.xe s := by
  rcases a1 with a1 | ⟨o, a1⟩ | ⟨its, n, a1, a2, a3⟩
  · exact op_rep pins s σ H _ _ v u Q I rx ry ⟨l, k, vs, rfl, rfl, a1, h1, h2, hz, q⟩
  all_goals
    cases (show v = Value.ref l from rx)
    obtain ⟨t, rfl⟩ := (show ∃ t, u = Value.int k t from ry)
  · obtain ⟨_, _, its, n, r, e⟩ := I.hok l _ a1
    exact mul_at I e r h1 h2 hz q
  · have e := I.kIn l _ a1
    have e' : s.heap.get? l = some { cls := .type "list", data := .seq its.toList.toArray n } := by simpa using e
    exact mul_at I e' a3 h1 h2 hz q
where
  mul_at {l : Addr} {vs : List V} {k : Int} {t : Tok} {Q : VK} {its : List Value} {n : Nat} (I : Inv X pins σ H s) (e : s.heap.get? l = some { cls := .type "list", data := .seq its.toArray n }) (r : Vals vs its) (h1 : -(2 ^ 63) ≤ k) (h2 : k < 2 ^ 63)
      (hz : vs.length * k.toNat ≤ sizeLine) (q : ∀ p, H p = none → Q (.ref p) (upd H p (.lst (List.replicate k.toNat vs).flatten))) : wpAny (model X.prog X.w) X.A (binaryOp .Mult (.ref l) (.int k t)) (EP X pins σ Q) X.xe s := by
    have hlen : its.toArray.size * k.toNat ≤ sizeLine := by rw [List.size_toArray, ← r.length]; exact hz
    have hcap : ¬ its.toArray.size * k.toNat > (2 ^ 63 - 1) / 8 := by
      have : (sizeLine : Nat) ≤ (2 ^ 63 - 1) / 8 := by decide
      omega
    have hfit : ¬ (!Builtin.List.listFitsIndex k) = true := by rw [fitsIndex_both h1 h2]; exact Bool.false_ne_true
    have hlong : ¬ Builtin.List.listTooLong (its.toArray.size * k.toNat) = true := by rw [notLongL hlen]; exact Bool.false_ne_true
    have f0 : ∀ m : Nat, List.foldl (fun x1 x2 => x1 ++ x2) #[] (List.replicate m its.toArray) = (List.replicate m its).flatten.toArray := fun m => by simpa using foldl_rep its m []
    have hnew : List.foldl (fun x1 x2 => x1 ++ x2) #[] (List.replicate (if its.toArray.isEmpty = true then 0 else k.toNat) its.toArray) = (List.replicate k.toNat its).flatten.toArray := by
      rw [f0]
      cases its with
      | nil => simp
      | cons a b => rw [if_neg (by simp)]
    refine wpAny_binaryOp_repeat_ref (T := "list") (U := "int") (by decide) ⟨_, e, rfl⟩ (fun s' => typeIs_int s' k t) noFill_list_mul F.fills_int_mul F.slot_int_rmul repeat_list F.slot_int_index.lookup
      (call_meets F.slot_int_rmul (typeIs_int s k t) F.entry_int_rmul (F.args_int_rmul_2 _ _) (PySem.int___rmul___int_list k t l its.toArray n)
        ⟨e, rfl, ⟨_, e, rfl⟩, call_meets F.slot_list_mul ⟨_, e, rfl⟩ F.entry_list_mul (F.args_list_mul_2 _ _) (AutoListH.list___mul___list_int_3 l its.toArray n k t hfit hcap hlong) ⟨e, ?_⟩⟩)
    rw [hnew]
    exact ⟨.ref _, _, I.lnew (t' := s.toks) (r.rep k.toNat) (by rw [PyProof.Rows.lm_len_rep_flat, Nat.mul_comm]; exact hz), rfl, q _ I.fresh⟩
end
end MP
set_option Elab.async false
set_option linter.all false
set_option maxRecDepth 100000
set_option maxHeartbeats 1000000
namespace MP
open PySem PySem.Spec PyProof.Rows L2
theorem keys_of : ∀ {xs : List PV}, xs.all isKey = true → ∃ ks, Keys xs ks
  | [], _ => ⟨[], .nil⟩
  | x :: r, e => by
    rw [List.all_cons, Bool.and_eq_true] at e
    obtain ⟨ks, k⟩ := keys_of e.2
    cases x with
    | int i => exact ⟨_, .cons (.int i) k⟩
    | str i => exact ⟨_, .cons (.str i) k⟩
    | _ => exact nomatch e.1
theorem key_V {K : KF} {x : PV} {kk : Key} {H : Hp} {V : V} (kr : KeyRep x kk) (r : Rep K H V x) : V = kV kk := by
  cases kr with
  | int i => exact r.int_inv
  | str i => exact r.str_inv
theorem keys_V {K : KF} {xs : List PV} {ks : List Key} {H : Hp} (kr : Keys xs ks) : ∀ {vs : List L2.V}, Reps K H vs xs → vs = ks.map kV := by
  induction kr with
  | nil => intro vs r; cases r; rfl
  | cons h t ih =>
    intro vs r
    cases r with
    | cons a b => rw [key_V h a, ih b]; rfl
theorem eqK1_dec {a b : PV} {x y : Key} (ha : KeyRep a x) (hb : KeyRep b y) : eqK1 a b = decide (x = y) := by
  cases ha <;> cases hb <;> simp [eqK1]
theorem eqKs_dec {a b : List PV} {x y : List Key} (ha : Keys a x) (hb : Keys b y) : eqKs a b = decide (x = y) := by
  induction ha generalizing b y with
  | nil => cases hb <;> simp [eqKs]
  | cons h t ih =>
    cases hb with
    | nil => simp [eqKs]
    | cons h2 t2 =>
      simp only [eqKs, eqK1_dec h h2, ih t2]
      rw [Bool.eq_iff_iff]; simp
theorem look_rel {K : KF} {H : Hp} : ∀ {ks : List (List PV)} {kvs : List (List Key × V)} {vs : List PV} {key : List PV} {kk : List Key}, Paired Keys ks (kvs.map (·.1)) → Reps K H (kvs.map (·.2)) vs → Keys key kk →
    (valV kvs kk = none ∧ lookP ks vs key = none) ∨ ∃ V v, valV kvs kk = some V ∧ lookP ks vs key = some v ∧ Rep K H V v
  | _, [], _, _, _, hk, rs, _ => by
    cases hk
    cases rs
    exact .inl ⟨rfl, rfl⟩
  | _, kv :: kvs, _, key, kk, hk, rs, hy => by
    rw [List.map_cons] at hk rs
    cases hk with
    | cons h t =>
      cases rs with
      | cons r s =>
        have e := eqKs_dec h hy
        by_cases z : kv.1 = kk
        · rw [valV_pos z]
          refine .inr ⟨_, _, rfl, ?_, r⟩
          simp only [lookP]
          rw [if_pos (by rw [e]; simpa using z)]
        · rw [valV_neg z]
          simp only [lookP]
          rw [if_neg (by rw [e]; simpa using z)]
          exact look_rel t s hy
theorem map_tup_inj : ∀ {a b : List (List PV)}, a.map PV.tup = b.map PV.tup → a = b
  | [], [], _ => rfl
  | [], _ :: _, e => by cases e
  | _ :: _, [], e => by cases e
  | x :: a, y :: b, e => by
    rw [List.map_cons, List.map_cons] at e
    injection e with e1 e2
    cases e1
    rw [map_tup_inj e2]
theorem dtt_inv {K : KF} {H : Hp} {x : V} {ts : List PV} {ks : List (List PV)} {vs : List PV} (r : Rep K H x (.dtt ts vs)) (e : ts = ks.map PV.tup) :
    ∃ a o kvs, x = .ref a ∧ H a = some (.frz o (.dT kvs)) ∧ Paired Keys ks (kvs.map (·.1)) ∧ Reps K H (kvs.map (·.2)) vs := by
  cases r with
  | dtt a b c =>
    cases map_tup_inj e
    exact ⟨_, _, _, rfl, a, b, c⟩
theorem dget_rel {K : KF} {H : Hp} {x y : V} {ks : List (List PV)} {vs key : List PV} (r1 : Rep K H x (.dtt (ks.map PV.tup) vs)) (r2 : Rep K H y (.tup key)) (hk : key.all isKey = true) :
    ∃ a o, x = .ref a ∧ DGet H a y o ∧ ((o = none ∧ lookP ks vs key = none) ∨ ∃ V v, o = some V ∧ lookP ks vs key = some v ∧ Rep K H V v) := by
  obtain ⟨a, o, kvs, rfl, hf, pk, rs⟩ := dtt_inv r1 rfl
  obtain ⟨b, ws, rfl, hb, rw'⟩ := r2.tup_invS
  obtain ⟨kk, hkk⟩ := keys_of hk
  obtain rfl := keys_V hkk rw'
  exact ⟨a, valV kvs kk, rfl, .inr ⟨kvs, kk, b, .inr ⟨o, hf⟩, rfl, hb, rfl⟩, look_rel pk rs hkk⟩
section
variable {X : Cx} {pins : List (Addr × Obj)} {σ : L2.St} {H : Hp} {s : Shared}
theorem dk_turn {p : Addr} (I : Inv X pins σ H s) (e : H p = some (.dK [])) : Inv X pins σ (upd H p (.dT [])) s := by
  obtain ⟨z, hd, vs, rel, dd⟩ := dk_of I.hok e
  cases rel
  obtain ⟨o, es, ep, h1, h2, h3, h4, h5, h6⟩ := dd
  have es0 : es.toList = [] := by
    generalize es.toList = l at h5
    cases h5; rfl
  refine d_write (h' := s.heap) (t' := s.toks) I (by rw [e]; exact True.intro) (Heap.SameBut.refl _ _) ⟨o, h1⟩ ⟨Nat.zero_le _, hd, [], .nil, o, es, ep, h1, h2, h3, by simpa using es0, List.nodup_nil⟩
end
theorem dcell_loc {h : MH} {v : PV} {ps : List (List PV × PV)} (e : dcell h v = some ps) : ∃ a, v = .loc a ∧ (h a = some (.dtt ps) ∨ h a = some (.dtf ps)) := by
  unfold dcell at e
  split at e
  · rename_i a
    split at e
    · rename_i q e1; cases e; exact ⟨a, rfl, .inl e1⟩
    · rename_i q e1; cases e; exact ⟨a, rfl, .inr e1⟩
    · cases e
  · cases e
theorem dcell_inv {K : KF} {H : Hp} {h : MH} {a : Addr} {ps : List (List PV × PV)} (hr : HRep K h H) (e : h a = some (.dtt ps) ∨ h a = some (.dtf ps)) :
    ∃ kvs, (H a = some (.dT kvs) ∨ ∃ o, H a = some (.frz o (.dT kvs))) ∧ Paired Keys (ps.map (·.1)) (kvs.map (·.1)) ∧ Reps K H (kvs.map (·.2)) (ps.map (·.2)) := by
  rcases e with e | e
  · obtain ⟨o, h1, c⟩ := hr a _ e
    cases c with
    | dtt x y => exact ⟨_, .inl h1, x, y⟩
  · obtain ⟨o, h1, c⟩ := hr a _ e
    cases c with
    | dtf x y => exact ⟨_, .inr ⟨_, h1⟩, x, y⟩
theorem dcell_rel {K : KF} {H : Hp} {h : MH} {x y : V} {vx : PV} {ps : List (List PV × PV)} {key : List PV} (hr : HRep K h H) (e : dcell h vx = some ps) (r1 : Rep K H x vx) (r2 : Rep K H y (.tup key)) (hk : key.all isKey = true) :
    ∃ a o, x = .ref a ∧ DGet H a y o ∧ ((o = none ∧ lookP (ps.map (·.1)) (ps.map (·.2)) key = none) ∨ ∃ V v, o = some V ∧ lookP (ps.map (·.1)) (ps.map (·.2)) key = some v ∧ Rep K H V v) := by
  obtain ⟨a, rfl, e'⟩ := dcell_loc e
  obtain rfl := r1.loc_inv
  obtain ⟨kvs, hf, pk, rs⟩ := dcell_inv hr e'
  obtain ⟨b, ws, rfl, hb, rw'⟩ := r2.tup_invS
  obtain ⟨kk, hkk⟩ := keys_of hk
  obtain rfl := keys_V hkk rw'
  exact ⟨a, valV kvs kk, rfl, .inr ⟨kvs, kk, b, hf, rfl, hb, rfl⟩, look_rel pk rs hkk⟩
theorem put_any {kk : List Key} {key : List PV} (hk : Keys key kk) : ∀ {ps : List (List PV × PV)} {kvs : List (List Key × V)}, Paired Keys (ps.map (·.1)) (kvs.map (·.1)) → (ps.any fun p => eqKs p.1 key) = kvs.any fun kv => decide (kv.1 = kk)
  | [], [], _ => rfl
  | [], _ :: _, r => by cases r
  | _ :: _, [], r => by cases r
  | p :: ps, kv :: kvs, r => by
    rw [List.map_cons, List.map_cons] at r
    cases r with
    | cons a b => rw [List.any_cons, List.any_cons, put_any hk b, eqKs_dec a hk]
theorem put_map {K : KF} {H : Hp} {kk : List Key} {key : List PV} {V : V} {v : PV} (hk : Keys key kk) (rv : Rep K H V v) : ∀ {ps : List (List PV × PV)} {kvs : List (List Key × L2.V)}, Paired Keys (ps.map (·.1)) (kvs.map (·.1)) → Reps K H (kvs.map (·.2)) (ps.map (·.2)) →
    Paired Keys ((ps.map fun p => if eqKs p.1 key = true then (p.1, v) else p).map (·.1)) ((kvs.map fun kv => if kv.1 = kk then (kv.1, V) else kv).map (·.1)) ∧
    Reps K H ((kvs.map fun kv => if kv.1 = kk then (kv.1, V) else kv).map (·.2)) ((ps.map fun p => if eqKs p.1 key = true then (p.1, v) else p).map (·.2))
  | [], [], _, _ => ⟨.nil, .nil⟩
  | [], _ :: _, r, _ => by cases r
  | _ :: _, [], r, _ => by cases r
  | p :: ps, kv :: kvs, r, s => by
    simp only [List.map_cons] at r s
    cases r with
    | cons a b =>
      cases s with
      | cons c d =>
        obtain ⟨i1, i2⟩ := put_map hk rv b d
        have e := eqKs_dec a hk
        by_cases z : kv.1 = kk
        · have e1 : eqKs p.1 key = true := by rw [e]; simpa using z
          simp only [List.map_cons, if_pos z, if_pos e1]
          exact ⟨.cons a i1, .cons rv i2⟩
        · have e1 : ¬ eqKs p.1 key = true := by rw [e]; simpa using z
          simp only [List.map_cons, if_neg z, if_neg e1]
          exact ⟨.cons a i1, .cons c i2⟩
theorem paired_app {α β : Type} {G : α → β → Prop} : ∀ {a c : List α} {b d : List β}, Paired G a b → Paired G c d → Paired G (a ++ c) (b ++ d)
  | _, _, _, _, .nil, s => s
  | _, _, _, _, .cons h t, s => .cons h (paired_app t s)
theorem put_rel {K : KF} {H : Hp} {ps : List (List PV × PV)} {kvs : List (List Key × L2.V)} {kk : List Key} {key : List PV} {V : V} {v : PV} (r : Paired Keys (ps.map (·.1)) (kvs.map (·.1))) (s : Reps K H (kvs.map (·.2)) (ps.map (·.2))) (hk : Keys key kk) (rv : Rep K H V v) :
    Paired Keys ((putP ps key v).map (·.1)) ((putK kvs kk V).map (·.1)) ∧ Reps K H ((putK kvs kk V).map (·.2)) ((putP ps key v).map (·.2)) := by
  unfold putP putK
  rw [put_any hk r]
  by_cases z : (kvs.any fun kv => decide (kv.1 = kk)) = true
  · rw [if_pos z, if_pos z]
    exact put_map hk rv r s
  · rw [if_neg z, if_neg z]
    simp only [List.map_append, List.map_cons, List.map_nil]
    exact ⟨paired_app r (.cons hk .nil), s.append (.cons rv .nil)⟩
theorem lookK_rel {K : KF} {H : Hp} {y : PV} {kk : Key} (hy : KeyRep y kk) : ∀ {ks : List PV} {kvs : List (Key × V)} {vs : List PV} {v : PV}, Keys ks (kvs.map (·.1)) → Reps K H (kvs.map (·.2)) vs → lookK ks vs y = some v → ∃ V, valV kvs kk = some V ∧ Rep K H V v
  | _, [], _, _, hk, rs, e => by
    cases hk
    cases rs
    cases e
  | _, kv :: kvs, _, v, hk, rs, e => by
    rw [List.map_cons] at hk rs
    cases hk with
    | cons h t =>
      cases rs with
      | cons r s =>
        have d := eqK1_dec h hy
        simp only [lookK] at e
        by_cases z : kv.1 = kk
        · rw [valV_pos z]
          rw [if_pos (by rw [d]; simpa using z)] at e
          cases e
          exact ⟨_, rfl, r⟩
        · rw [valV_neg z]
          rw [if_neg (by rw [d]; simpa using z)] at e
          exact lookK_rel hy t s e
theorem lookK_tup {ks : List (List PV)} {vs : List PV} {y : PV} : lookK (ks.map PV.tup) vs y = none := by
  induction ks generalizing vs with
  | nil => rfl
  | cons k ks ih =>
    cases vs with
    | nil => rfl
    | cons v vs =>
      rw [List.map_cons]
      show (if eqK1 (PV.tup k) y = true then some v else lookK (ks.map PV.tup) vs y) = none
      rw [if_neg (by simp [eqK1])]
      exact ih
theorem isKey_rep {y : PV} (h : isKey y = true) : ∃ kk, KeyRep y kk := by
  cases y with
  | int i => exact ⟨_, .int i⟩
  | str i => exact ⟨_, .str i⟩
  | _ => exact nomatch h
theorem lookK_rel2 {K : KF} {H : Hp} {y : PV} {kk : Key} (hy : KeyRep y kk) : ∀ {ks : List PV} {kvs : List (Key × V)} {vs : List PV}, Keys ks (kvs.map (·.1)) → Reps K H (kvs.map (·.2)) vs →
    (valV kvs kk = none ∧ lookK ks vs y = none) ∨ ∃ V v, valV kvs kk = some V ∧ lookK ks vs y = some v ∧ Rep K H V v
  | _, [], _, hk, rs => by
    cases hk
    cases rs
    exact .inl ⟨rfl, rfl⟩
  | _, kv :: kvs, _, hk, rs => by
    rw [List.map_cons] at hk rs
    cases hk with
    | cons h t =>
      cases rs with
      | cons r s =>
        have d := eqK1_dec h hy
        simp only [lookK]
        by_cases z : kv.1 = kk
        · rw [valV_pos z, if_pos (by rw [d]; simpa using z)]
          exact .inr ⟨_, _, rfl, rfl, r⟩
        · rw [valV_neg z, if_neg (by rw [d]; simpa using z)]
          exact lookK_rel2 hy t s
theorem kcell_loc {h : MH} {v : PV} {ps : List (PV × PV)} (e : kcell h v = some ps) : ∃ a, v = .loc a ∧ (h a = some (.dct ps) ∨ h a = some (.dcf ps)) := by
  unfold kcell at e
  split at e
  · rename_i a
    split at e
    · rename_i q e1; cases e; exact ⟨a, rfl, .inl e1⟩
    · rename_i q e1; cases e; exact ⟨a, rfl, .inr e1⟩
    · cases e
  · cases e
theorem kcell_inv {K : KF} {H : Hp} {h : MH} {a : Addr} {ps : List (PV × PV)} (hr : HRep K h H) (e : h a = some (.dct ps) ∨ h a = some (.dcf ps)) :
    ∃ kvs, (H a = some (.dK kvs) ∨ ∃ o, H a = some (.frz o (.dK kvs))) ∧ Keys (ps.map (·.1)) (kvs.map (·.1)) ∧ Reps K H (kvs.map (·.2)) (ps.map (·.2)) := by
  rcases e with e | e
  · obtain ⟨o, h1, c⟩ := hr a _ e
    cases c with
    | dctK x y => exact ⟨_, .inl h1, x, y⟩
  · obtain ⟨o, h1, c⟩ := hr a _ e
    cases c with
    | dcf x y => exact ⟨_, .inr ⟨_, h1⟩, x, y⟩
theorem kcell_rel {K : KF} {H : Hp} {h : MH} {x y : V} {vx vy : PV} {ps : List (PV × PV)} (hr : HRep K h H) (e : kcell h vx = some ps) (r1 : Rep K H x vx) (r2 : Rep K H y vy) (hk : isKey vy = true) :
    ∃ a o, x = .ref a ∧ DGet H a y o ∧ ((o = none ∧ lookK (ps.map (·.1)) (ps.map (·.2)) vy = none) ∨ ∃ V v, o = some V ∧ lookK (ps.map (·.1)) (ps.map (·.2)) vy = some v ∧ Rep K H V v) := by
  obtain ⟨a, rfl, e'⟩ := kcell_loc e
  obtain rfl := r1.loc_inv
  obtain ⟨kvs, hf, pk, rs⟩ := kcell_inv hr e'
  obtain ⟨kk, hkk⟩ := isKey_rep hk
  obtain rfl := key_V hkk r2
  exact ⟨a, valV kvs kk, rfl, .inl ⟨kvs, kk, hf, rfl, rfl⟩, lookK_rel2 hkk pk rs⟩
theorem isDl_is {K : KF} {H : Hp} {h : MH} {x : V} {vx : PV} (hr : HRep K h H) (d : isDl h vx = true) (r : Rep K H x vx) : ∃ a, x = .ref a ∧ IsD H a := by
  unfold isDl at d
  split at d
  · cases r with
    | dtt x y z => exact ⟨_, rfl, .inr ⟨_, .inr ⟨_, x⟩⟩⟩
  · rename_i a
    obtain rfl := r.loc_inv
    refine ⟨a, rfl, ?_⟩
    split at d
    · rename_i ps e
      obtain ⟨kvs, hf, _, _⟩ := kcell_inv hr (.inl e)
      exact .inl ⟨kvs, hf⟩
    · rename_i ps e
      obtain ⟨kvs, hf, _, _⟩ := kcell_inv hr (.inr e)
      exact .inl ⟨kvs, hf⟩
    · rename_i ps e
      obtain ⟨kvs, hf, _, _⟩ := dcell_inv hr (.inl e)
      exact .inr ⟨kvs, hf⟩
    · rename_i ps e
      obtain ⟨kvs, hf, _, _⟩ := dcell_inv hr (.inr e)
      exact .inr ⟨kvs, hf⟩
    · cases d
  · cases d
theorem dlk_rel {K : KF} {H : Hp} {h : MH} {x y : V} {vx vy : PV} {r : Option PV} (hr : HRep K h H) (q : dlk h vx vy r) (r1 : Rep K H x vx) (r2 : Rep K H y vy) :
    ∃ a o, x = .ref a ∧ DGet H a y o ∧ ((o = none ∧ r = none) ∨ ∃ V v, o = some V ∧ r = some v ∧ Rep K H V v) := by
  rcases q with ⟨ps, e, hk, rfl⟩ | ⟨ps, key, e, rfl, hk, rfl⟩ | ⟨ks, vs, key, rfl, rfl, hk, rfl⟩
  · exact kcell_rel hr e r1 r2 hk
  · exact dcell_rel hr e r1 r2 hk
  · exact dget_rel r1 r2 hk
theorem put_any1 {kk : Key} {key : PV} (hk : KeyRep key kk) : ∀ {ps : List (PV × PV)} {kvs : List (Key × V)}, Keys (ps.map (·.1)) (kvs.map (·.1)) → (ps.any fun p => eqK1 p.1 key) = kvs.any fun kv => decide (kv.1 = kk)
  | [], [], _ => rfl
  | [], _ :: _, r => by cases r
  | _ :: _, [], r => by cases r
  | p :: ps, kv :: kvs, r => by
    rw [List.map_cons, List.map_cons] at r
    cases r with
    | cons a b => rw [List.any_cons, List.any_cons, put_any1 hk b, eqK1_dec a hk]
theorem put_map1 {K : KF} {H : Hp} {kk : Key} {key : PV} {V : V} {v : PV} (hk : KeyRep key kk) (rv : Rep K H V v) : ∀ {ps : List (PV × PV)} {kvs : List (Key × L2.V)}, Keys (ps.map (·.1)) (kvs.map (·.1)) → Reps K H (kvs.map (·.2)) (ps.map (·.2)) →
    Keys ((ps.map fun p => if eqK1 p.1 key = true then (p.1, v) else p).map (·.1)) ((kvs.map fun kv => if kv.1 = kk then (kv.1, V) else kv).map (·.1)) ∧
    Reps K H ((kvs.map fun kv => if kv.1 = kk then (kv.1, V) else kv).map (·.2)) ((ps.map fun p => if eqK1 p.1 key = true then (p.1, v) else p).map (·.2))
  | [], [], _, _ => ⟨.nil, .nil⟩
  | [], _ :: _, r, _ => by cases r
  | _ :: _, [], r, _ => by cases r
  | p :: ps, kv :: kvs, r, s => by
    simp only [List.map_cons] at r s
    cases r with
    | cons a b =>
      cases s with
      | cons c d =>
        obtain ⟨i1, i2⟩ := put_map1 hk rv b d
        have e := eqK1_dec a hk
        by_cases z : kv.1 = kk
        · have e1 : eqK1 p.1 key = true := by rw [e]; simpa using z
          simp only [List.map_cons, if_pos z, if_pos e1]
          exact ⟨.cons a i1, .cons rv i2⟩
        · have e1 : ¬ eqK1 p.1 key = true := by rw [e]; simpa using z
          simp only [List.map_cons, if_neg z, if_neg e1]
          exact ⟨.cons a i1, .cons c i2⟩
theorem keys_app {a c : List PV} {b d : List Key} (h : Keys a b) (s : Keys c d) : Keys (a ++ c) (b ++ d) := by
  induction h with
  | nil => exact s
  | cons h _ ih => exact .cons h ih
theorem put_rel1 {K : KF} {H : Hp} {ps : List (PV × PV)} {kvs : List (Key × L2.V)} {kk : Key} {key : PV} {V : V} {v : PV} (r : Keys (ps.map (·.1)) (kvs.map (·.1))) (s : Reps K H (kvs.map (·.2)) (ps.map (·.2))) (hk : KeyRep key kk) (rv : Rep K H V v) :
    Keys ((putK1 ps key v).map (·.1)) ((putK kvs kk V).map (·.1)) ∧ Reps K H ((putK kvs kk V).map (·.2)) ((putK1 ps key v).map (·.2)) := by
  unfold putK1 putK
  rw [put_any1 hk r]
  by_cases z : (kvs.any fun kv => decide (kv.1 = kk)) = true
  · rw [if_pos z, if_pos z]
    exact put_map1 hk rv r s
  · rw [if_neg z, if_neg z]
    simp only [List.map_append, List.map_cons, List.map_nil]
    exact ⟨keys_app r (.cons hk .nil), s.append (.cons rv .nil)⟩
theorem drop_rel1 {K : KF} {H : Hp} {kk : Key} {key : PV} (hk : KeyRep key kk) : ∀ {ps : List (PV × PV)} {kvs : List (Key × L2.V)}, Keys (ps.map (·.1)) (kvs.map (·.1)) → Reps K H (kvs.map (·.2)) (ps.map (·.2)) →
    Keys ((dropK1 ps key).map (·.1)) ((dropK kvs kk).map (·.1)) ∧ Reps K H ((dropK kvs kk).map (·.2)) ((dropK1 ps key).map (·.2))
  | [], [], _, _ => ⟨.nil, .nil⟩
  | [], _ :: _, r, _ => by cases r
  | _ :: _, [], r, _ => by cases r
  | p :: ps, kv :: kvs, r, s => by
    simp only [List.map_cons] at r s
    cases r with
    | cons a b =>
      cases s with
      | cons c d =>
        obtain ⟨i1, i2⟩ := drop_rel1 hk b d
        have e := eqK1_dec a hk
        unfold dropK1 dropK at *
        by_cases z : kv.1 = kk
        · have e1 : eqK1 p.1 key = true := by rw [e]; simpa using z
          simp only [List.filter_cons, e1, z, Bool.not_true, Bool.false_eq_true, if_false, ne_eq, not_true_eq_false, decide_false]
          exact ⟨i1, i2⟩
        · have e1 : eqK1 p.1 key = false := by rw [e]; simpa using z
          simp only [List.filter_cons, e1, z, Bool.not_false, if_true, ne_eq, not_false_eq_true, decide_true, List.map_cons]
          exact ⟨.cons a i1, .cons c i2⟩
end MP
set_option Elab.async false
set_option linter.all false
set_option maxRecDepth 100000
set_option maxHeartbeats 4000000
namespace MP
open PySem PySem.Spec PyProof.Rows L2
theorem tuple_mulS (l : Addr) (items : Array Value) (n : Nat) (dd : Option Addr) (sl : Array (Option Value)) (x : Int) (u : Tok) (c0 : (decide (x < -(2 ^ 63)) || decide (x ≥ 2 ^ 63)) = false) (c1 : (items.isEmpty || x == 1) = true) :
    Meets (Builtin.«tuple.__mul__» ⟨[.ref l, .int x u], []⟩) (fun _ R s => s.heap.get? l = some { cls := .type "tuple", dict := dd, data := .seq items n, slots := sl } ∧
      R (.ok (.ret (Value.ref l))) { s with heap := s.heap, toks := s.toks }) :=
  .of_wp fun prog w A R s h => by
    obtain ⟨hp, g, d, tk, os⟩ := s
    obtain ⟨hl, h⟩ := h
    have f1 := AutoSeq1.idx_int
    wp_walk using wpAny_loadPart' hl
    repeat (first
      | (refine wpAny_ite_false (decide_eq_false (by rw [c0]; exact Bool.false_ne_true)) ?_; wp_walk using wpAny_loadPart' hl)
      | (refine wpAny_ite_true (decide_eq_true c1) ?_; wp_walk using wpAny_loadPart' hl))
    exact ⟨_, rfl, h⟩
theorem tuple_mul0 (l : Addr) (items : Array Value) (n : Nat) (dd : Option Addr) (sl : Array (Option Value)) (x : Int) (u : Tok) (c0 : (decide (x < -(2 ^ 63)) || decide (x ≥ 2 ^ 63)) = false) (c1 : (items.isEmpty || x == 1) = false) (c2 : (decide (x ≤ 0) || items.isEmpty) = true) :
    Meets (Builtin.«tuple.__mul__» ⟨[.ref l, .int x u], []⟩) (fun _ R s => s.heap.get? l = some { cls := .type "tuple", dict := dd, data := .seq items n, slots := sl } ∧
      R (.ok (.ret (Value.ref s.heap.objs.size))) { s with heap := s.heap.push { cls := Value.type "tuple", data := Data.seq #[] }, toks := s.toks }) :=
  .of_wp fun prog w A R s h => by
    obtain ⟨hp, g, d, tk, os⟩ := s
    obtain ⟨hl, h⟩ := h
    have f1 := AutoSeq1.idx_int
    wp_walk using wpAny_loadPart' hl
    repeat (first
      | (refine wpAny_ite_false (decide_eq_false (by rw [c0]; exact Bool.false_ne_true)) ?_; wp_walk using wpAny_loadPart' hl)
      | (refine wpAny_ite_false (decide_eq_false (by rw [c1]; exact Bool.false_ne_true)) ?_; wp_walk using wpAny_loadPart' hl)
      | (refine wpAny_ite_true (decide_eq_true c2) ?_; wp_walk using wpAny_loadPart' hl))
    exact ⟨_, rfl, h⟩
section
variable {X : Cx} {pins : List (Addr × Obj)} {σ : L2.St} {H : Hp} {s : Shared}
theorem mul_t {l : Addr} {vs : List V} {k : Int} {v u : Value} {Q : VK} (I : Inv X pins σ H s) (rx : RelV (.ref l) v) (ry : RelV (.int k) u) (a1 : SqT X.K H l vs) (hk : k = 0 ∨ k = 1)
    (q0 : k = 0 → vs ≠ [] → ∀ p, H p = none → Q (.ref p) (upd H p (.tup []))) (q1 : k = 1 ∨ vs = [] → Q (.ref l) H) : wpAny (model X.prog X.w) X.A (binaryOp .Mult v u) (EP X pins σ Q) X.xe s := by
  cases (show v = Value.ref l from rx)
  obtain ⟨t, rfl⟩ := (show ∃ t, u = Value.int k t from ry)
  obtain ⟨its, r, ⟨⟨cls, dd, data, sl⟩, ho, hc, n, hd⟩, hs⟩ := I.tuple a1
  simp only at hc hd
  subst hc hd
  have c0 : (decide (k < -(2 ^ 63)) || decide (k ≥ 2 ^ 63)) = false := by
    rcases hk with rfl | rfl <;> decide
  by_cases z : k = 1 ∨ vs = []
  · have c1 : (its.toArray.isEmpty || k == 1) = true := by
      rcases z with rfl | z
      · simp
      · have := r.nil_iff.mpr z
        subst this
        rfl
    refine wpAny_binaryOp_repeat_ref (T := "tuple") (U := "int") (by decide) ⟨_, ho, rfl⟩ (fun s' => typeIs_int s' k t) noFill_tuple_mul F.fills_int_mul F.slot_int_rmul repeat_tuple F.slot_int_index.lookup
      (call_meets F.slot_int_rmul (typeIs_int s k t) F.entry_int_rmul (F.args_int_rmul_2 _ _) (int_rmul_tuple k t l its.toArray n dd sl)
        ⟨ho, rfl, ⟨_, ho, rfl⟩, call_meets F.slot_tuple_mul ⟨_, ho, rfl⟩ F.entry_tuple_mul (F.args_tuple_mul_2 _ _) (tuple_mulS l its.toArray n dd sl k t c0 c1) ⟨ho, ?_⟩⟩)
    exact ⟨.ref l, H, I, rfl, q1 z⟩
  · have k0 : k = 0 := by
      rcases hk with e | e
      · exact e
      · exact absurd (.inl e) z
    have ne : vs ≠ [] := fun e => z (.inr e)
    subst k0
    have c1 : (its.toArray.isEmpty || (0 : Int) == 1) = false := by
      cases its with
      | nil => exact absurd (r.nil_iff.mp rfl) ne
      | cons a b => rfl
    refine wpAny_binaryOp_repeat_ref (T := "tuple") (U := "int") (by decide) ⟨_, ho, rfl⟩ (fun s' => typeIs_int s' 0 t) noFill_tuple_mul F.fills_int_mul F.slot_int_rmul repeat_tuple F.slot_int_index.lookup
      (call_meets F.slot_int_rmul (typeIs_int s 0 t) F.entry_int_rmul (F.args_int_rmul_2 _ _) (int_rmul_tuple 0 t l its.toArray n dd sl)
        ⟨ho, rfl, ⟨_, ho, rfl⟩, call_meets F.slot_tuple_mul ⟨_, ho, rfl⟩ F.entry_tuple_mul (F.args_tuple_mul_2 _ _) (tuple_mul0 l its.toArray n dd sl 0 t c0 c1 (by simp)) ⟨ho, ?_⟩⟩)
    refine ⟨.ref s.heap.objs.size, _, I.laid (t' := s.toks) (o := .tup []) (fun b ob z => Heap.get?_push_of_some _ z) (Nat.le_refl _) ?_, rfl, q0 rfl ne _ I.fresh⟩
    exact ⟨Nat.zero_le _, _, .nil, IsTup.new _ _⟩
theorem mul_s {a : Str} {k : Int} {v u : Value} {Q : VK} (I : Inv X pins σ H s) (rx : RelV (.str a) v) (ry : RelV (.int k) u) (hk : k = 0 ∨ k = 1) (q : Q (.str (if k = 0 then "" else a)) H) : wpAny (model X.prog X.w) X.A (binaryOp .Mult v u) (EP X pins σ Q) X.xe s := by
  obtain ⟨t, rfl⟩ := (show ∃ t, v = Value.str a t from rx)
  obtain ⟨t', rfl⟩ := (show ∃ t, u = Value.int k t from ry)
  rcases hk with rfl | rfl
  · rw [if_pos rfl] at q
    exact PySem.P.mul_str_none (by decide) (by decide) ⟨.str "", H, I.tok _, ⟨_, rfl⟩, q⟩
  · rw [if_neg (by decide)] at q
    refine PySem.P.mul_str (by decide) (fun _ z => by simp at z) (fun _ z => by simp at z) ?_
    rw [if_neg (by decide), if_pos (by simp)]
    exact ⟨.str a, H, I, ⟨_, rfl⟩, q⟩
end
end MP
set_option Elab.async false
set_option linter.all false
set_option maxRecDepth 100000
set_option maxHeartbeats 1000000
namespace MP
open PySem PySem.Spec PyProof.Rows L2
section
variable {X : Cx} {pins : List (Addr × Obj)} {σ : L2.St} {H : Hp} {s : Shared}
theorem op_fdivX : OpR X (binaryOp .FloorDiv) (rI (fun _ j => j ≠ 0 ∧ j.natAbs.log2 < 9000) fun i j => .int (i.fdiv j)) := opI fun _ _ _ _ _ _ _ hc q => floordiv_int hc.1 q (.inl (PyProof.noPylong_of_log2 hc.2))
theorem op_binW {op : Operator} : OpR X (binaryOp op) (RB X.K (binW op)) := by
  intro pins s σ H x y v u Q I rx ry h
  obtain ⟨vx, vy, h, r1, r2, hr, q⟩ := h
  unfold binW at q
  split at q
  · rename_i i j e1 e2
    cases rd_int e1; cases rd_int e2; cases r1.int_inv; cases r2.int_inv
    exact op_add pins s σ H _ _ v u Q I rx ry ⟨i, j, rfl, rfl, q _ _ .refl (.int _) hr⟩
  · rename_i i j e1 e2
    cases rd_int e1; cases rd_int e2; cases r1.int_inv; cases r2.int_inv
    exact op_sub pins s σ H _ _ v u Q I rx ry ⟨i, j, rfl, rfl, q _ _ .refl (.int _) hr⟩
  · rename_i i j e1 e2
    cases rd_int e1; cases rd_int e2; cases r1.int_inv; cases r2.int_inv
    rcases q.1 with z | z | z
    · exact op_mul pins s σ H _ _ v u Q I rx ry ⟨i, j, rfl, rfl, .inl (by omega), q.2 _ _ .refl (.int _) hr⟩
    · exact op_mul pins s σ H _ _ v u Q I rx ry ⟨i, j, rfl, rfl, .inr (by omega), q.2 _ _ .refl (.int _) hr⟩
    · exact op_mulW pins s σ H _ _ v u Q I rx ry ⟨i, j, rfl, rfl, z, q.2 _ _ .refl (.int _) hr⟩
  · rename_i i j e1 e2
    cases rd_int e1; cases rd_int e2; cases r1.int_inv; cases r2.int_inv
    have lg : ∀ n : Nat, n < 2 ^ 256 → n.log2 < 9000 := fun n hn => by
      by_cases z : n = 0
      · subst z; decide +kernel
      · have := (Nat.log2_lt z).mpr hn
        omega
    split at q
    · rename_i j0
      refine op_fdivW pins s σ H _ _ v u Q I rx ry ⟨i, j, rfl, rfl, ⟨j0, ?_⟩, q.2 _ _ .refl (.int _) hr⟩
      rcases q.1 with z | z
      · exact lg _ (by omega)
      · exact z
    · refine op_fdivX pins s σ H _ _ v u Q I rx ry ⟨i, j, rfl, rfl, ⟨q.1.1, ?_⟩, q.2 _ _ .refl (.int _) hr⟩
      rcases q.1.2 with z | z
      · exact lg _ (by omega)
      · exact z
  · rename_i i j e1 e2
    cases rd_int e1; cases rd_int e2; cases r1.int_inv; cases r2.int_inv
    exact op_mod pins s σ H _ _ v u Q I rx ry ⟨i, j, rfl, rfl, q.1, q.2 _ _ .refl (.int _) hr⟩
  · rename_i i j e1 e2
    cases rd_int e1; cases rd_int e2; cases r1.int_inv; cases r2.int_inv
    exact op_pow pins s σ H _ _ v u Q I rx ry ⟨i, j, rfl, rfl, q.1, q.2 _ _ .refl (.int _) hr⟩
  · rename_i xs ys e1 e2
    obtain ⟨a, vs, rfl, l1, s1⟩ := rep_lst r1 hr e1
    obtain ⟨b, ws, rfl, l2, s2⟩ := rep_lst r2 hr e2
    have z := laid_new (m := false) .refl hr (s1.append s2) ⟨by rw [List.length_append]; exact q.1, q.2⟩
    rw [List.length_append] at z
    exact thn (add_ll I rx ry l1 l2 z.1 z.2) fun _ _ k => EP.laid k
  · rename_i xs ys e1 e2
    cases rd_tup e1; cases rd_tup e2
    obtain ⟨a, vs, rfl, l1, s1⟩ := r1.tup_inv
    obtain ⟨b, ws, rfl, l2, s2⟩ := r2.tup_inv
    refine add_tt I rx ry l1 l2 (by rw [s1.length, s2.length]; exact q.1) (fun z => ?_) (fun _ z => ?_) (tup_new .refl hr (s1.append s2) q.2)
    · subst z
      cases s1
      exact q.2 _ _ .refl r2 hr
    · subst z
      cases s2
      have q2 := q.2
      rw [List.append_nil] at q2
      exact q2 _ _ .refl r1 hr
  · rename_i a b e1 e2
    cases rd_str e1; cases rd_str e2; cases r1.str_inv; cases r2.str_inv
    exact op_add_str pins s σ H _ _ v u Q I rx ry ⟨a, b, rfl, rfl, q.1, q.2 _ _ .refl (.str _) hr⟩
  · rename_i xs n e1 e2
    cases rd_int e2; cases r2.int_inv
    obtain ⟨a, vs, rfl, l1, s1⟩ := rep_lst r1 hr e1
    have lz : vs.length * n.toNat ≤ sizeLine := by
      rw [s1.length]
      rcases Int.le_total 0 n with hn | hn
      · have e : ((xs.length * n.toNat : Nat) : Int) = n * xs.length := by
          rw [Int.natCast_mul, Int.toNat_of_nonneg hn, Int.mul_comm]
        have := q.1.1
        omega
      · have e : n.toNat = 0 := by omega
        rw [e, Nat.mul_zero]; exact Nat.zero_le _
    by_cases hn : -(2 ^ 63) ≤ n
    · have z := laid_new (m := false) .refl hr (s1.rep n.toNat) ⟨by rw [← (s1.rep n.toNat).length, PyProof.Rows.lm_len_rep_flat, Nat.mul_comm]; exact lz, q.2⟩
      exact thn (mul_l I rx ry l1 hn (by have := q.1.2.1; rw [sizeLine_eq] at this; omega) lz z.2) fun _ _ k => EP.laid k
    · exact absurd q.1.2.2 (by omega)
  · rename_i xs n e1 e2
    cases rd_tup e1
    cases rd_int e2; cases r2.int_inv
    obtain ⟨a, vs, rfl, l1, s1⟩ := r1.tup_inv
    refine mul_t I rx ry l1 q.1 (fun z _ => ?_) fun z => ?_
    · subst z
      exact tup_new .refl hr .nil q.2
    · have q2 := q.2
      by_cases e : n = 0
      · rcases z with z | z
        · omega
        · subst z
          cases s1
          rw [ite_self] at q2
          exact q2 _ _ .refl r1 hr
      · rw [if_neg e] at q2
        exact q2 _ _ .refl r1 hr
  · rename_i a n e1 e2
    cases rd_str e1; cases rd_int e2; cases r1.str_inv; cases r2.int_inv
    exact mul_s I rx ry q.1 (q.2 _ _ .refl (.str _) hr)
  · exact q.elim
theorem eqOk.can {v : PV} (h : eqOk v) : (toD v).canLay0 = true ∧ (toD v).depth ≤ 64 := ⟨SeqAt.canLay_of_shaped h.2, SeqAt.depth_of_shaped h.2⟩
abbrev RC (K : KF) (W : PV → PV → MH → (Bool → MH → Prop) → Prop) : R2 := fun x y H Q => ∃ vx vy h, Rep K H x vx ∧ Rep K H y vy ∧ HRep K h H ∧ W vx vy h (upT K H fun k H' => Q (.bl k) H')
theorem Reps.nil_inv' {K : KF} {H : Hp} {vs : List V} (r : Reps K H vs []) : vs = [] := by cases r; rfl
theorem op_cmpW {op : CmpOp} (hu : X.A.units + 64 < cLine) : OpR X (compareOp op) (RC X.K (cmpW op)) := by
  intro pins s σ H x y v u Q I rx ry h
  obtain ⟨vx, vy, h, r1, r2, hr, q⟩ := h
  unfold cmpW at q
  split at q
  · unfold eqW at q
    split at q
    · rename_i z1 z2 xs e1 e2
      cases rd_tup e1
      cases rd_tup e2
      obtain ⟨l, vs, rfl, f1, rs1⟩ := r1.tup_inv
      obtain ⟨b, ws, rfl, f2, rs2⟩ := r2.tup_inv
      obtain rfl := rs2.nil_inv'
      cases (show v = Value.ref l from rx)
      cases (show u = Value.ref b from ry)
      obtain ⟨its, v1, p1, _⟩ := I.tuple f1
      obtain ⟨its2, v2, p2, _⟩ := I.tuple f2
      cases v2
      obtain ⟨o1, ho1, hc1, n1, hd1⟩ := id p1
      obtain ⟨o2, ho2, hc2, n2, hd2⟩ := id p2
      have rc := SeqAt.RcAt.tuples (A := X.A) (e := fun _ => true) p1 p2 (by omega) (fun j h1 h2 => absurd h2 (by simp)) X.prog X.w X.xe (EP X pins σ Q)
      refine rc ⟨.bl _, H, I, ?_, q _ .refl hr⟩
      have el : its.length = xs.length := v1.length.symm.trans rs1.length
      show _ = Value.bool xs.isEmpty
      congr 1
      cases its <;> cases xs <;> simp at el ⊢
    · rename_i z1 z2 xs e1 e2
      obtain ⟨l, vs, rfl, f1, rs1⟩ := rep_lst r1 hr e1
      obtain ⟨b, ws, rfl, f2, rs2⟩ := rep_lst r2 hr e2
      obtain rfl := rs2.nil_inv'
      cases (show v = Value.ref l from rx)
      cases (show u = Value.ref b from ry)
      obtain ⟨_, its, n1, v1, hl1, ho1⟩ := f1.at_ I
      obtain ⟨_, its2, n2, v2, hl2, ho2⟩ := f2.at_ I
      cases v2
      have p1 : s.heap.IsList l its.toArray := ⟨_, ho1, rfl, n1, rfl⟩
      have p2 : s.heap.IsList b ([] : List Value).toArray := ⟨_, ho2, rfl, n2, rfl⟩
      have el : its.length = xs.length := v1.length.symm.trans rs1.length
      by_cases em : its = []
      · subst em
        have rc := SeqAt.RcAt.lists (A := X.A) (e := fun _ => true) p1 p2 rfl (by omega) (fun j h1 h2 => absurd h2 (by simp)) X.prog X.w X.xe (EP X pins σ Q)
        refine rc ⟨.bl _, H, I, ?_, q _ .refl hr⟩
        show _ = Value.bool xs.isEmpty
        cases xs with
        | nil => rfl
        | cons a r => simp at el
      · have hne : (its.toArray.size != ([] : List Value).toArray.size) = true := by
          cases its with
          | nil => exact absurd rfl em
          | cons a r => simp
        have rc := SeqAt.RcAt.lists_lengths (A := X.A) p1 p2 hne (by omega) X.prog X.w X.xe (EP X pins σ Q)
        refine rc ⟨.bl _, H, I, ?_, q _ .refl hr⟩
        show _ = Value.bool xs.isEmpty
        cases xs with
        | nil => cases its with
          | nil => exact absurd rfl em
          | cons a r => simp at el
        | cons a r => rfl
    · rename_i z1 z2 a b e1 e2
      cases rd_str e1
      cases rd_str e2
      obtain rfl := r1.str_inv
      obtain rfl := r2.str_inv
      refine op_eq pins s σ H _ _ v u Q I rx ry ⟨rfl, ?_⟩
      have e : decide (V.str a = V.str b) = decide (a = b) := by simp
      rw [e]
      exact q _ .refl hr
    · obtain ⟨_, e1⟩ := (rd_rx I r1 hr rx q.1.1.1).reads
      obtain ⟨_, e2⟩ := (rd_rx I r2 hr ry q.1.2.1).reads
      exact SeqAt.compareEq_shaped e1 e2 q.1.1.2 q.1.2.2 hu ⟨.bl _, H, I, rfl, q.2 _ .refl hr⟩
  · unfold neW at q
    split at q
    · rename_i z1 z2 xs e1 e2
      cases rd_tup e1
      cases rd_tup e2
      obtain ⟨l, vs, rfl, f1, rs1⟩ := r1.tup_inv
      obtain ⟨b, ws, rfl, f2, rs2⟩ := r2.tup_inv
      obtain rfl := rs2.nil_inv'
      cases (show v = Value.ref l from rx)
      cases (show u = Value.ref b from ry)
      obtain ⟨its, v1, p1, _⟩ := I.tuple f1
      obtain ⟨its2, v2, p2, _⟩ := I.tuple f2
      cases v2
      have rc := SeqAt.RcNeAt.tuples (A := X.A) (e := fun _ => true) p1 p2 (by omega) (fun j h1 h2 => absurd h2 (by simp)) X.prog X.w X.xe (EP X pins σ Q)
      refine rc ⟨.bl _, H, I, ?_, q _ .refl hr⟩
      have el : its.length = xs.length := v1.length.symm.trans rs1.length
      show _ = Value.bool (!xs.isEmpty)
      congr 1
      cases its <;> cases xs <;> simp at el ⊢
    · rename_i z1 z2 xs e1 e2
      obtain ⟨l, vs, rfl, f1, rs1⟩ := rep_lst r1 hr e1
      obtain ⟨b, ws, rfl, f2, rs2⟩ := rep_lst r2 hr e2
      obtain rfl := rs2.nil_inv'
      cases (show v = Value.ref l from rx)
      cases (show u = Value.ref b from ry)
      obtain ⟨_, its, n1, v1, hl1, ho1⟩ := f1.at_ I
      obtain ⟨_, its2, n2, v2, hl2, ho2⟩ := f2.at_ I
      cases v2
      have p1 : s.heap.IsList l its.toArray := ⟨_, ho1, rfl, n1, rfl⟩
      have p2 : s.heap.IsList b ([] : List Value).toArray := ⟨_, ho2, rfl, n2, rfl⟩
      have el : its.length = xs.length := v1.length.symm.trans rs1.length
      by_cases em : its = []
      · subst em
        have rc := SeqAt.RcNeAt.lists (A := X.A) (e := fun _ => true) p1 p2 rfl (by omega) (fun j h1 h2 => absurd h2 (by simp)) X.prog X.w X.xe (EP X pins σ Q)
        refine rc ⟨.bl _, H, I, ?_, q _ .refl hr⟩
        show _ = Value.bool (!xs.isEmpty)
        cases xs with
        | nil => rfl
        | cons a r => simp at el
      · have hne : (its.toArray.size != ([] : List Value).toArray.size) = true := by
          cases its with
          | nil => exact absurd rfl em
          | cons a r => simp
        have rc := SeqAt.RcNeAt.lists_lengths (A := X.A) p1 p2 hne (by omega) X.prog X.w X.xe (EP X pins σ Q)
        refine rc ⟨.bl _, H, I, ?_, q _ .refl hr⟩
        show _ = Value.bool (!xs.isEmpty)
        cases xs with
        | nil => cases its with
          | nil => exact absurd rfl em
          | cons a r => simp at el
        | cons a r => rfl
    · rename_i z1 z2 a b e1 e2
      cases rd_str e1
      cases rd_str e2
      obtain rfl := r1.str_inv
      obtain rfl := r2.str_inv
      refine op_ne pins s σ H _ _ v u Q I rx ry ⟨rfl, ?_⟩
      have e : decide (V.str a = V.str b) = decide (a = b) := by simp
      rw [e]
      exact q _ .refl hr
    · obtain ⟨_, e1⟩ := (rd_rx I r1 hr rx q.1.1.1).reads
      obtain ⟨_, e2⟩ := (rd_rx I r2 hr ry q.1.2.1).reads
      exact SeqAt.compareNe_shaped e1 e2 q.1.1.2 q.1.2.2 hu ⟨.bl _, H, I, rfl, q.2 _ .refl hr⟩
  · unfold cmpI at q
    split at q
    · cases r1.int_inv; cases r2.int_inv
      exact op_lt pins s σ H _ _ v u Q I rx ry ⟨_, _, rfl, rfl, q _ .refl hr⟩
    · obtain ⟨_, e1⟩ := (rd_rx I r1 hr rx q.1.1).reads
      obtain ⟨_, e2⟩ := (rd_rx I r2 hr ry q.1.2.1).reads
      have lm := q.1.2.2.2
      exact PySem.W.lt_data e1 e2 q.1.2.2.1 (fun z => nomatch z) (Nat.lt_of_le_of_lt (Nat.add_le_add_left (Nat.le_trans (Nat.min_le_left _ _) lm) _) hu) ⟨.bl _, H, I, rfl, q.2 _ .refl hr⟩
    · exact q.elim
  · unfold cmpI at q
    split at q
    · cases r1.int_inv; cases r2.int_inv
      exact op_le pins s σ H _ _ v u Q I rx ry ⟨_, _, rfl, rfl, q _ .refl hr⟩
    · obtain ⟨_, e1⟩ := (rd_rx I r1 hr rx q.1.1).reads
      obtain ⟨_, e2⟩ := (rd_rx I r2 hr ry q.1.2.1).reads
      have lm := q.1.2.2.2
      exact PySem.W.le_data e1 e2 q.1.2.2.1 (fun z => nomatch z) (Nat.lt_of_le_of_lt (Nat.add_le_add_left (Nat.le_trans (Nat.min_le_left _ _) lm) _) hu) ⟨.bl _, H, I, rfl, q.2 _ .refl hr⟩
    · exact q.elim
  · unfold cmpI at q
    split at q
    · cases r1.int_inv; cases r2.int_inv
      exact op_gt pins s σ H _ _ v u Q I rx ry ⟨_, _, rfl, rfl, q _ .refl hr⟩
    · obtain ⟨_, e1⟩ := (rd_rx I r1 hr rx q.1.1).reads
      obtain ⟨_, e2⟩ := (rd_rx I r2 hr ry q.1.2.1).reads
      have lm := q.1.2.2.2
      exact PySem.W.gt_data e1 e2 q.1.2.2.1 (fun z => nomatch z) (Nat.lt_of_le_of_lt (Nat.add_le_add_left (Nat.le_trans (Nat.min_le_left _ _) lm) _) hu) ⟨.bl _, H, I, rfl, q.2 _ .refl hr⟩
    · exact q.elim
  · unfold cmpI at q
    split at q
    · cases r1.int_inv; cases r2.int_inv
      exact op_ge pins s σ H _ _ v u Q I rx ry ⟨_, _, rfl, rfl, q _ .refl hr⟩
    · obtain ⟨_, e1⟩ := (rd_rx I r1 hr rx q.1.1).reads
      obtain ⟨_, e2⟩ := (rd_rx I r2 hr ry q.1.2.1).reads
      have lm := q.1.2.2.2
      exact PySem.W.ge_data e1 e2 q.1.2.2.1 (fun z => nomatch z) (Nat.lt_of_le_of_lt (Nat.add_le_add_left (Nat.le_trans (Nat.min_le_left _ _) lm) _) hu) ⟨.bl _, H, I, rfl, q.2 _ .refl hr⟩
    · exact q.elim
  · exact q.elim
theorem shaped_list {ds : List PyData} (h : SeqAt.shaped (.list ds) = true) : PyData.canLayAll0 ds = true ∧ PyData.depthAll ds + 1 ≤ 64 := by
  have a := SeqAt.canLay_of_shaped h
  have b := SeqAt.depth_of_shaped h
  simp only [PyData.canLay0, PyData.depth] at a b
  exact ⟨a, b⟩
theorem any_map (f : PyData → Bool) : ∀ xs : List PV, (toDs xs).any f = xs.any fun z => f (toD z)
  | [] => rfl
  | x :: r => by
    simp only [toDs, List.any_cons]
    rw [any_map f r]
theorem op_inW (neg : Bool) (hu : X.A.units + 65 < cLine) : OpR X (compareOp (if neg then .NotIn else .In)) (RC X.K (fun x y h T => inW x y h fun k h' => T (k != neg) h')) := by
  intro pins s σ H x y v u Q I rx ry h
  obtain ⟨vx, vy, h, r1, r2, hr, q⟩ := h
  unfold inW at q
  split at q
  · rename_i vy ts vs
    obtain ⟨ks, key, rfl, rfl, hk, q⟩ := q
    obtain ⟨a, o, rfl, g, rel⟩ := dget_rel r2 r1 hk
    cases (show u = Value.ref a from ry)
    have eo : o.isSome = (lookP ks vs key).isSome := by
      rcases rel with ⟨e1, e2⟩ | ⟨V, v, e1, e2, _⟩
      · rw [e1, e2]; rfl
      · rw [e1, e2]; rfl
    have q' := q _ .refl hr
    rw [← eo] at q'
    cases neg with
    | false => exact d_in (by omega) I g rx fun s' I' => ⟨.bl _, H, I', rfl, by simpa using q'⟩
    | true => exact d_notIn (by omega) I g rx fun s' I' => ⟨.bl _, H, I', rfl, by simpa using q'⟩
  · obtain ⟨a, rfl, q⟩ := q
    have q' := q _ .refl hr
    cases r1.str_inv
    cases r2.str_inv
    cases neg with
    | false => exact op_in_str pins s σ H _ _ v u Q I rx ry ⟨_, _, rfl, rfl, by simpa using q'⟩
    | true => exact op_notIn_str pins s σ H _ _ v u Q I rx ry ⟨_, _, rfl, rfl, by simpa using q'⟩
  rename_i vy _ _
  split at q
  · rename_i ps e
    obtain ⟨key, rfl, hk, q⟩ := q
    obtain ⟨a, o, rfl, g, rel⟩ := dcell_rel hr e r2 r1 hk
    cases (show u = Value.ref a from ry)
    have eo : o.isSome = (lookP (ps.map (·.1)) (ps.map (·.2)) key).isSome := by
      rcases rel with ⟨e1, e2⟩ | ⟨V, v, e1, e2, _⟩
      · rw [e1, e2]; rfl
      · rw [e1, e2]; rfl
    have q' := q _ .refl hr
    rw [← eo] at q'
    cases neg with
    | false => exact d_in (by omega) I g rx fun s' I' => ⟨.bl _, H, I', rfl, by simpa using q'⟩
    | true => exact d_notIn (by omega) I g rx fun s' I' => ⟨.bl _, H, I', rfl, by simpa using q'⟩
  split at q
  · rename_i ps e
    obtain ⟨hk, q⟩ := q
    obtain ⟨a, o, rfl, g, rel⟩ := kcell_rel hr e r2 r1 hk
    cases (show u = Value.ref a from ry)
    have eo : o.isSome = (lookK (ps.map (·.1)) (ps.map (·.2)) vx).isSome := by
      rcases rel with ⟨e1, e2⟩ | ⟨V, v, e1, e2, _⟩
      · rw [e1, e2]; rfl
      · rw [e1, e2]; rfl
    have q' := q _ .refl hr
    rw [← eo] at q'
    cases neg with
    | false => exact d_in (by omega) I g rx fun s' I' => ⟨.bl _, H, I', rfl, by simpa using q'⟩
    | true => exact d_notIn (by omega) I g rx fun s' I' => ⟨.bl _, H, I', rfl, by simpa using q'⟩
  obtain ⟨zs, e, ⟨ex, pz, sz⟩, q⟩ := q
  obtain ⟨_, e1⟩ := (rd_rx I r1 hr rx ex.1).reads
  obtain ⟨a, vs, rfl, f, rs⟩ := rep_seq r2 hr e
  cases (show u = Value.ref a from ry)
  obtain ⟨c1, c2⟩ := shaped_list sz
  have room : X.A.units + 1 + min (PyData.depthAll (toDs zs)) (toD (rd h vx)).depth < cLine := by
    have := Nat.min_le_left (PyData.depthAll (toDs zs)) (toD (rd h vx)).depth
    omega
  have q' := q _ .refl hr
  rw [show (zs.any fun z => eqP z (rd h vx)) = (toDs zs).any fun z => PyData.eqv z (toD (rd h vx)) from (any_map (fun z => PyData.eqv z (toD (rd h vx))) zs).symm] at q'
  rcases f with f | f
  · obtain ⟨_, its, n, rv, _, ho⟩ := f.at_ I
    obtain ⟨as, e2⟩ := (reps_rx I rs pz rv).reads
    have rl : Reads s.heap (.ref a) (.list (toDs zs)) (a :: as) := .list ho rfl rfl (by simpa using e2)
    cases neg with
    | false => exact SeqAt.in_list_reads rl e1 c1 ex.can.1 room ⟨.bl _, H, I, rfl, by simpa using q'⟩
    | true => exact SeqAt.notIn_list_reads rl e1 c1 ex.can.1 room ⟨.bl _, H, I, rfl, by simpa using q'⟩
  · obtain ⟨its, rv, ⟨o, ho, hc, n, hd⟩, _⟩ := I.tuple f
    obtain ⟨as, e2⟩ := (reps_rx I rs pz rv).reads
    have rl : Reads s.heap (.ref a) (.tuple (toDs zs)) as := .tuple ho hc hd (by simpa using e2)
    cases neg with
    | false => exact SeqAt.in_tuple_reads rl e1 c1 ex.can.1 room ⟨.bl _, H, I, rfl, by simpa using q'⟩
    | true => exact SeqAt.notIn_tuple_reads rl e1 c1 ex.can.1 room ⟨.bl _, H, I, rfl, by simpa using q'⟩
theorem op_isNW (neg : Bool) : OpR X (compareOp (if neg then .IsNot else .Is)) (fun x y H Q => y = .non ∧ ∃ vx h, Rep X.K H x vx ∧ HRep X.K h H ∧ isNW vx neg h (upT X.K H fun k H' => Q (.bl k) H')) := by
  intro pins s σ H x y v u Q I rx ry h
  obtain ⟨rfl, vx, h, r1, hr, q⟩ := h
  have key : ∀ k : Bool, (decide (x = .non)) = k → (if neg then !k else k) = (k != neg) := fun k _ => by cases neg <;> cases k <;> rfl
  have fin : Q (.bl (if neg then !decide (x = V.non) else decide (x = V.non))) H := by
    unfold isNW at q
    split at q
    · cases r1.non_inv
      have := q _ .refl hr
      cases neg <;> simpa using this
    · exact q.elim
    · have ne : x ≠ .non := by
        intro e
        subst e
        cases r1
        simp_all
      have := q _ .refl hr
      cases neg <;> simpa [ne] using this
  cases neg with
  | false => exact op_isN pins s σ H _ _ v u Q I rx ry ⟨rfl, fin⟩
  | true => exact op_notN pins s σ H _ _ v u Q I rx ry ⟨rfl, fin⟩
theorem op_isBW (b neg : Bool) : OpR X (compareOp (if neg then .IsNot else .Is)) (fun x y H Q => y = .bl b ∧ ∃ vx h, Rep X.K H x vx ∧ HRep X.K h H ∧ isBW vx b neg h (upT X.K H fun k H' => Q (.bl k) H')) := by
  intro pins s σ H x y v u Q I rx ry h
  obtain ⟨rfl, vx, h, r1, hr, q⟩ := h
  unfold isBW at q
  split at q
  · rename_i c
    cases r1.bl_inv
    have q := q _ .refl hr
    cases neg with
    | false => exact op_isBl pins s σ H _ _ v u Q I rx ry ⟨c, b, rfl, rfl, by cases c <;> cases b <;> exact q⟩
    | true => exact op_notBl pins s σ H _ _ v u Q I rx ry ⟨c, b, rfl, rfl, by cases c <;> cases b <;> exact q⟩
  · exact q.elim
theorem truW_V {K : KF} {H : Hp} {h : MH} {x : V} {vx : PV} {T : Bool → MH → Prop} (r : Rep K H x vx) (hr : HRep K h H) (q : truW vx h T) : ∃ k, TruV K x H k ∧ T k h := by
  unfold truW at q
  split at q
  · rename_i b e
    cases rd_bl e; cases r.bl_inv
    exact ⟨b, rfl, q⟩
  · rename_i e
    cases rd_non e; cases r.non_inv
    exact ⟨false, rfl, q⟩
  · rename_i i e
    cases rd_int e; cases r.int_inv
    refine ⟨decide (i ≠ 0), ?_, q⟩
    show decide (i ≠ 0) = (i != 0)
    by_cases h : i = 0 <;> simp [h]
  · rename_i xs e
    cases rd_tup e
    obtain ⟨a, vs, rfl, f, rs⟩ := r.tup_inv
    refine ⟨!xs.isEmpty, .inr (.inl ⟨vs, f, ?_⟩), q⟩
    cases rs <;> rfl
  · rename_i xs e
    obtain ⟨a, vs, rfl, f, rs⟩ := rep_lst r hr e
    refine ⟨!xs.isEmpty, .inl ⟨vs, f.sq, ?_⟩, q⟩
    cases rs <;> rfl
  · exact q.elim
theorem atI_eq {vs : List V} {xs : List PV} {K : KF} {H : Hp} (rs : Reps K H vs xs) {i : Int} {y : PV} (e : atI xs i = some y) : ∃ z, atI vs i = some z ∧ Rep K H z y := by
  unfold atI at e ⊢
  rw [rs.length]
  cases q : ixN xs.length i with
  | none => rw [q] at e; cases e
  | some j =>
    rw [q] at e
    obtain ⟨z, h1, h2⟩ := rs.get e
    exact ⟨z, h1, h2⟩
end
end MP
set_option Elab.async false
set_option linter.all false
set_option maxRecDepth 100000
set_option maxHeartbeats 1000000
namespace MP
open PySem PySem.Spec PyProof.Rows L2
section
variable {X : Cx} {pins : List (Addr × Obj)} {σ : L2.St} {H : Hp} {s : Shared}
theorem ix_W : IxR X (RB X.K idxW) := by
  intro value slice pins s σ H x y v u Q I rx ry h hs
  obtain ⟨vx, vy, h, r1, r2, hr, q⟩ := h
  unfold idxW at q
  split at q
  · rename_i xs k e
    obtain ⟨w, e1, q⟩ := q
    cases rd_tup e
    cases r2.int_inv
    obtain ⟨a, vs, rfl, f, rs⟩ := r1.tup_inv
    obtain ⟨z, e2, rz⟩ := atI_eq rs e1
    exact ix_tup value slice pins s σ H _ _ v u Q I rx ry ⟨a, vs, k, z, rfl, rfl, f, e2, q _ _ .refl rz hr⟩ hs
  · rename_i xs k e
    obtain ⟨w, e1, q⟩ := q
    cases r2.int_inv
    obtain ⟨a, vs, rfl, f, rs⟩ := rep_lst r1 hr e
    obtain ⟨z, e2, rz⟩ := atI_eq rs e1
    exact ix_list value slice pins s σ H _ _ v u Q I rx ry ⟨a, vs, k, z, rfl, rfl, f.sq, e2, q _ _ .refl rz hr⟩ hs
  · rename_i z k e
    obtain ⟨c, ⟨lz, e1⟩, q⟩ := q
    cases rd_str e
    cases r2.int_inv
    cases r1.str_inv
    exact ix_str value slice pins s σ H _ _ v u Q I rx ry ⟨z, k, c, rfl, rfl, lz, e1, q _ _ .refl (.str _) hr⟩ hs
  · exact q.elim
theorem cutP_rep {K : KF} {H : Hp} {vs : List V} {xs : List PV} (rs : Reps K H vs xs) (l u : Option Int) : Reps K H (cutV vs l u) (slcW.cutP xs l u) := by
  unfold cutV slcW.cutP
  rw [rs.length]
  exact (rs.drop _).take _
theorem cutP_len (xs : List PV) (l u : Option Int) : (slcW.cutP xs l u).length ≤ xs.length := by
  unfold slcW.cutP
  rw [List.length_take, List.length_drop]
  omega
def rSl (K : KF) : V → Option Int → Option Int → Hp → VK → Prop := fun x lo hi H Q => ∃ vx h, Rep K H x vx ∧ HRep K h H ∧
  match rd h vx with
  | .tup xs => up K H Q (.tup (slcW.cutP xs lo hi)) h
  | .lst xs => up K H Q (.lst (slcW.cutP xs lo hi)) h
  | .str z => z.length ≤ sizeLine ∧ up K H Q (.str (cutS z lo hi)) h
  | _ => False
theorem sl_W : SlR X (rSl X.K) := by
  intro pins s σ H x v vl vu lo hi sl Q I rx hs pl pu h
  obtain ⟨vx, h, r1, hr, q⟩ := h
  split at q
  · rename_i xs e
    cases rd_tup e
    obtain ⟨a, vs, rfl, f, rs⟩ := r1.tup_inv
    by_cases w : HT.sIx vs.length 0 lo = 0 ∧ HT.sIx vs.length vs.length hi = vs.length
    · cases (show v = Value.ref a from rx)
      obtain ⟨its, r, ht, hz⟩ := I.tuple f
      refine ⟨"tuple", _, PyProof.Rows.slot_tuple_getitem.lookup, ht.typeIs, ?_⟩
      have el : its.toArray.size = vs.length := by rw [List.size_toArray]; exact r.length.symm
      have w1 : HT.sIx its.toArray.size 0 lo = 0 := by rw [el]; exact w.1
      have w2 : HT.sIx its.toArray.size its.toArray.size hi = its.toArray.size := by rw [el]; exact w.2
      obtain ⟨os, hos, hcs, hds⟩ := id hs
      have hTs : s.TypeIs (.ref sl) "slice" := ⟨os, hos, hcs⟩
      have ecut : slcW.cutP xs lo hi = xs := by
        unfold slcW.cutP
        rw [← rs.length, w.1, w.2, List.drop_zero, Nat.sub_zero, rs.length, List.take_length]
      have fin : EP X pins σ Q (.ref a) s := ⟨.ref a, H, I, rfl, by rw [ecut] at q; exact q _ _ .refl r1 hr⟩
      unfold getItem
      try with_reducible refine wpAny_holding ?_
      first | refine wpAny_bind (wpAny_pure ?_) | skip
      refine wpAny_bind (wpAny_sequenceKey ht.typeIs (by decide) ?_)
      refine wpAny_bind (wpAny_callSpecial?_slot (name := Str.ofString "__getitem__") ht.typeIs PyProof.Rows.slot_tuple_getitem
        (wpAny_call_entry PyProof.Rows.slot_tuple_getitem ht.typeIs entry_tuple_getitem ?_ (args_tuple_getitem _ _)))
      show wpAny _ _ (Builtin.Tuple.tupleItemsOf (.ref a) >>= _) _ _ s
      refine wpAny_bind (tupleItemsOf_ ht ?_)
      refine wpAny_bind (wpAny_typeOf hTs ?_)
      rw [if_pos (by decide)]
      refine wpAny_bind (HT.sliceApplied_gen hs pl pu ?_)
      rw [w1, w2]
      have hyes : ((((0 : Nat) : Int) == 0 && (1 : Int) == 1 && (its.toArray.size - 0) == its.toArray.size) = true) := by simp
      show wpAny _ _ (if ((((0 : Nat) : Int) == 0 && (1 : Int) == 1 && (its.toArray.size - 0) == its.toArray.size) = true) then _ else _) _ _ s
      rw [if_pos hyes]
      obtain ⟨o, ho, hc, n, hd⟩ := id ht
      refine wpAny_bind (m := Builtin.Tuple.tupleIsExact _) ?_
      refine wpAny_bind (wpAny_typeOf ht.typeIs (wpAny_pure ?_))
      rw [if_pos (by decide)]
      exact wpAny_bind (wpAny_rule (wpAny_pure ⟨_, rfl, wpAny_pure fin⟩))
    · refine sl_tup pins s σ H _ v vl vu lo hi sl Q I rx hs pl pu ⟨a, vs, rfl, f, w, ?_⟩
      exact tup_new .refl hr (cutP_rep rs lo hi) q
  · rename_i xs e
    obtain ⟨a, vs, rfl, f, rs⟩ := rep_lst r1 hr e
    have z := laid_new (m := false) .refl hr (cutP_rep rs lo hi) ⟨by
      have := cutP_len xs lo hi
      have := (f.at_ I).1
      rw [rs.length] at this
      omega, q⟩
    obtain ⟨T, id, a1, a2, a3⟩ := sl_list pins s σ H _ v vl vu lo hi sl (Laid Q) I rx hs pl pu ⟨a, vs, rfl, f.sq, z.2⟩
    exact ⟨T, id, a1, a2, thn a3 fun _ _ k => EP.laid k⟩
  · rename_i z e
    cases rd_str e
    cases r1.str_inv
    exact sl_str pins s σ H _ v vl vu lo hi sl Q I rx hs pl pu ⟨z, rfl, q.1, q.2 _ _ .refl (.str _) hr⟩
  · exact q.elim
theorem rev_adjust (n : Nat) : Builtin.Slice.sliceAdjust none none (-1) (n : Int) = ((n : Int) - 1, -1) := rfl
theorem rev_places (n : Nat) : Builtin.Slice.slicePlaces ((n : Int) - 1) (-1) (-1) = n := by
  unfold Builtin.Slice.slicePlaces
  rw [if_neg (by decide)]
  by_cases h : (n : Int) - 1 > -1
  · rw [if_pos h]
    have : ((n : Int) - 1 - -1 - 1) / (- -1) + 1 = n := by
      have e : (- -1 : Int) = 1 := by decide
      rw [e, Int.ediv_one]
      omega
    rw [this]
    exact Int.toNat_natCast n
  · rw [if_neg h]
    omega
theorem rev_pick (xs : List Value) : ((List.range xs.length).filterMap fun (k : Nat) => xs.toArray[(((xs.length : Nat) : Int) - 1 + (k : Int) * (-1)).toNat]?) = xs.reverse := by
  have e : (fun (k : Nat) => xs.toArray[(((xs.length : Nat) : Int) - 1 + (k : Int) * (-1)).toNat]?) = (fun k => xs.toArray[k]?) ∘ fun k => xs.length - 1 - k := by
    funext k
    have : (((xs.length : Nat) : Int) - 1 + (k : Int) * (-1)).toNat = xs.length - 1 - k := by omega
    simp only [Function.comp, this]
  rw [e, ← List.filterMap_map, PySem.W.krv_range, List.filterMap_reverse]
  have := PySem.W.krv_all xs.toArray
  rw [List.size_toArray] at this
  rw [this]
theorem slice_rev {sl : Addr} {n : Nat} {t : Tok} {A : Around} {E : Value → Shared → Prop} {Q : Int × Int × Nat → Shared → Prop} (hs : s.heap.IsSliceOf sl .none .none (.int (-1) t))
    (h : Q ((n : Int) - 1, -1, n) s) : wpAny (model X.prog X.w) A (Builtin.Slice.sliceApplied (.ref sl) (pure (n : Int))) Q E s := by
  obtain ⟨os, hos, hcs, hds⟩ := id hs
  unfold Builtin.Slice.sliceApplied Builtin.Slice.sliceFields
  refine wpAny_bind (wpAny_bind (wpAny_field hos hds (x := .none) rfl (wpAny_bind (wpAny_field hos hds (x := .none) rfl (wpAny_bind (wpAny_field hos hds (x := .int (-1) t) rfl (wpAny_pure ?_)))))))
  refine wpAny_bind (HT.slicePart_ (.int _ _) ?_)
  show wpAny _ _ (if ((-1 : Int) == 0) = true then _ else _) _ _ s
  rw [if_neg (by decide)]
  refine wpAny_bind (HT.slicePart_ .none (wpAny_bind (HT.slicePart_ .none (wpAny_bind (wpAny_pure ?_)))))
  show wpAny _ _ (pure (((n : Int) - 1), (-1 : Int), Builtin.Slice.slicePlaces ((n : Int) - 1) (-1) (-1))) _ _ s
  rw [rev_places]
  exact wpAny_pure h
theorem rev_tup {a sl : Addr} {t : Tok} {its : List Value} {E : Value → Shared → Prop} {Q : Value → Shared → Prop} (ht : IsTup s.heap a its.toArray) (hs : s.heap.IsSliceOf sl .none .none (.int (-1) t)) (hz : its.length ≤ sizeLine)
    (h : Q (.ref s.heap.objs.size) { s with heap := s.heap.push { cls := .type "tuple", data := .seq its.reverse.toArray } }) : wpAny (model X.prog X.w) X.A (getItem (.ref a) (.ref sl)) Q E s := by
  obtain ⟨os, hos, hcs, hds⟩ := id hs
  have hTs : s.TypeIs (.ref sl) "slice" := ⟨os, hos, hcs⟩
  have htake : sizeOk (.seq its.reverse.toArray) := by
    show its.reverse.toArray.size ≤ sizeLine
    rw [List.size_toArray, List.length_reverse]
    exact hz
  unfold getItem
  try with_reducible refine wpAny_holding ?_
  first | refine wpAny_bind (wpAny_pure ?_) | skip
  refine wpAny_bind (wpAny_sequenceKey ht.typeIs (by decide) ?_)
  refine wpAny_bind (wpAny_callSpecial?_slot (name := Str.ofString "__getitem__") ht.typeIs PyProof.Rows.slot_tuple_getitem
    (wpAny_call_entry PyProof.Rows.slot_tuple_getitem ht.typeIs entry_tuple_getitem ?_ (args_tuple_getitem _ _)))
  show wpAny _ _ (Builtin.Tuple.tupleItemsOf (.ref a) >>= _) _ _ s
  refine wpAny_bind (tupleItemsOf_ ht ?_)
  refine wpAny_bind (wpAny_typeOf hTs ?_)
  rw [if_pos (by decide)]
  refine wpAny_bind (slice_rev (X := X) hs ?_)
  have hno : ¬ ((((its.toArray.size : Nat) : Int) - 1 == 0 && (-1 : Int) == 1 && its.toArray.size == its.toArray.size) = true) := by simp
  show wpAny _ _ (if ((((its.toArray.size : Nat) : Int) - 1 == 0 && (-1 : Int) == 1 && its.toArray.size == its.toArray.size) = true) then _ else _) _ _ s
  rw [if_neg hno]
  have ep : ((List.range its.toArray.size).filterMap fun (k : Nat) => its.toArray[(((its.toArray.size : Nat) : Int) - 1 + (k : Int) * (-1)).toNat]?) = its.reverse := by
    rw [List.size_toArray]
    exact rev_pick its
  rw [ep]
  first
    | exact wpAny_bind (m := Builtin.Tuple.tupleExact _) (wpAny_newObj_type (wpAny_pure ⟨_, rfl, wpAny_pure h⟩) htake)
    | exact wpAny_bind (wpAny_bind (m := Builtin.Tuple.tupleExact _) (wpAny_newObj_type (wpAny_pure ⟨_, rfl, wpAny_pure h⟩) htake))
    | exact wpAny_bind (wpAny_bind (m := Builtin.Tuple.tupleExact _) (wpAny_newObj_type (wpAny_pure (wpAny_pure ⟨_, rfl, wpAny_pure h⟩)) htake))
abbrev minus1 (p q : Pos) (k : Nat) : PySem.Expr := .UnaryOp .USub (.Constant (.int 1) k p) q
theorem pe_rev {e : PySem.Expr} {te : TE} {p pq p2 pos : Pos} {k : Nat} (he : PE X e te) :
    PE X (.Subscript e (.Slice none none (some (minus1 p pq k)) p2) pos) (fun σ H Q => te σ H fun x H1 => ∃ vx h, Rep X.K H1 x vx ∧ HRep X.K h H1 ∧ revW vx h (up X.K H1 Q)) := by
  refine ⟨fun pins s σ H Q I h => ?_⟩
  refine Subscript_ (thn (he.run pins s σ H _ I h) fun v s1 ⟨x, H1, I1, r1, q1⟩ => ?_)
  refine wpAny_Slice ?_
  rw [evalPart_none, evalPart_some]
  refine wpAny_pure (wpAny_pure ?_)
  refine thn ((pe_un un_neg pe_int).run pins s1 σ H1 (fun z H2 => z = .int (-1) ∧ H2 = H1) I1 ⟨1, rfl, rfl, rfl⟩) fun vk s3 ⟨z, H2, I3, rz, e1, e2⟩ => ?_
  subst e2
  subst e1
  obtain ⟨t, rfl⟩ := (show ∃ t, vk = Value.int (-1) t from rz)
  obtain ⟨vx, h, r2, hr, q⟩ := q1
  have I4 : Inv X pins σ H2 { s3 with heap := s3.heap.push { cls := .type "slice", data := .fields #[.none, .none, .int (-1) t] } } := I3.kept (t' := s3.toks) fun b ob q => Heap.get?_push_of_some _ q
  show wpAny (model X.prog X.w) X.A (subscriptTail e (.Slice none none (some (minus1 p pq k)) p2) v (.ref s3.heap.objs.size)) (EP X pins σ Q) X.xe { s3 with heap := s3.heap.push { cls := .type "slice", data := .fields #[.none, .none, .int (-1) t] } }
  unfold revW at q
  split at q
  · rename_i xs e0
    cases rd_tup e0
    obtain ⟨a, vs, rfl, f, rs⟩ := r2.tup_inv
    cases (show v = Value.ref a from r1)
    obtain ⟨its, r, ht, hz⟩ := I4.tuple f
    refine tail_any (ops := [.ref a, .ref s3.heap.objs.size]) ht.typeIs PyProof.Rows.slot_tuple_getitem.lookup (rev_tup ht (Heap.IsSliceOf.new ..) (by rw [← r.length]; exact hz) ?_) (by with_unfolding_all rfl)
    refine ⟨.ref _, _, I4.laid (t' := s3.toks) (o := .tup vs.reverse) (fun b ob q => Heap.get?_push_of_some _ q) (Nat.le_refl _) ?_, rfl, tup_new .refl hr rs.rev q _ (I4.hok.fresh (Nat.le_refl _))⟩
    exact ⟨by rw [List.length_reverse]; exact hz, _, vals_rev r, IsTup.new _ _⟩
  · rename_i xs e0
    obtain ⟨a, vs, rfl, f, rs⟩ := rep_lst r2 hr e0
    cases (show v = Value.ref a from r1)
    obtain ⟨hz, its, n, r, hl, ho⟩ := f.at_ I4
    have isl : ({ s3 with heap := s3.heap.push { cls := .type "slice", data := .fields #[.none, .none, .int (-1) t] } } : Shared).heap.IsList a its.toArray := ⟨_, ho, rfl, n, rfl⟩
    have z := laid_new (m := false) .refl hr rs.rev ⟨by rw [← rs.rev.length, List.length_reverse]; exact hz, q⟩
    refine tail_any (ops := [.ref a, .ref s3.heap.objs.size]) isl.typeIs slot_list_getitem.lookup (wpAny_getItem_list_slice isl (Heap.IsSliceOf.new ..) .none .none (.int _ _) (by decide) ?_ (by rw [List.size_toArray, ← hl]; exact hz)) (by with_unfolding_all rfl)
    rw [PySem.W.krv_pick]
    refine EP.laid ⟨.ref _, _, I4.lnew (t' := s3.toks) (vals_rev r) (by rw [List.length_reverse]; exact hz), rfl, z.2 _ I4.fresh⟩
  · exact q.elim
where
  vals_rev {vs : List V} {us : List Value} (r : Vals vs us) : Vals vs.reverse us.reverse := by
    induction vs generalizing us with
    | nil => cases r; exact .nil
    | cons v vs ih => cases r with
      | cons a b => simp only [List.reverse_cons]; exact (ih b).append (.cons a .nil)
end
end MP
set_option Elab.async false
set_option linter.all false
set_option maxRecDepth 100000
set_option maxHeartbeats 1000000
namespace MP
open PySem PySem.Spec PyProof.Rows L2
section
variable {X : Cx} {pins : List (Addr × Obj)} {σ : L2.St} {H : Hp} {s : Shared}
theorem lst_wr {K : KF} {h : MH} {H : Hp} {a : Addr} {xs ys : List PV} {ws : List V} (hr : HRep K h H) (e : h a = some (.lst xs)) (rs : ∀ H', Pres H H' → Reps K H' ws ys) :
    ∃ vs, H a = some (.lst vs) ∧ Reps K H vs xs ∧ HRep K (h.put a (.lst ys)) (upd H a (.lst ws)) ∧ Pres H (upd H a (.lst ws)) := by
  obtain ⟨o, h1, h2⟩ := hr a _ e
  obtain ⟨vs, rfl, r⟩ := h2.lst_inv
  obtain ⟨p, q⟩ := hr.wr e (c' := .lst ys) (o' := .lst ws) fun H' pr => .lst (rs H' pr)
  exact ⟨vs, h1, r, p, q⟩
abbrev RM (K : KF) (m : M) : V → List V → Hp → VK → Prop := fun x vs H Q => ∃ vx ys h, Rep K H x vx ∧ Reps K H vs ys ∧ HRep K h H ∧ methW vx m ys h (up K H Q)
theorem lst_at {K : KF} {h : MH} {H : Hp} {a : Addr} {xs : List PV} (hr : HRep K h H) (e : h a = some (.lst xs)) : ∃ vs, H a = some (.lst vs) ∧ Reps K H vs xs := by
  obtain ⟨o, h1, h2⟩ := hr a _ e
  obtain ⟨vs, rfl, r⟩ := h2.lst_inv
  exact ⟨vs, h1, r⟩
theorem Reps.one {K : KF} {H : Hp} {vs : List V} {x : PV} (r : Reps K H vs [x]) : ∃ v, vs = [v] ∧ Rep K H v x := by
  cases r with
  | cons a b => cases b; exact ⟨_, rfl, a⟩
theorem Reps.nil_inv {K : KF} {H : Hp} {vs : List V} (r : Reps K H vs []) : vs = [] := by cases r; rfl
theorem Reps.dropLast {K : KF} {H : Hp} {vs : List V} {xs : List PV} (r : Reps K H vs xs) : Reps K H vs.dropLast xs.dropLast := by
  rw [List.dropLast_eq_take, List.dropLast_eq_take, r.length]
  exact r.take _
theorem mt_appendW : MtR X "list.append" (RM X.K .append) := by
  intro pins s σ H x vs v us Q I rx rv h
  obtain ⟨vx, ys, h, r1, r2, hr, q⟩ := h
  unfold methW at q
  split at q <;> first | exact q.elim | skip
  rename_i a y he
  · obtain ⟨xs, e, hz, q⟩ := q
    cases r1.loc_inv
    obtain ⟨w, rfl, rw'⟩ := r2.one
    obtain ⟨ws, h1, rs⟩ := lst_at hr e
    obtain ⟨_, _, _, k1, k2⟩ := lst_wr (ys := xs ++ [y]) (ws := ws ++ [w]) hr e fun H' p => (rs.keep p).append (.cons (rw'.keep p) .nil)
    exact mt_append pins s σ H _ _ v us Q I rx rv ⟨a, ws, w, rfl, rfl, h1, by rw [rs.length]; exact hz, q _ _ k2 .non k1⟩
  all_goals contradiction
theorem mt_pop0W : MtR X "list.pop" (RM X.K .pop0) := by
  intro pins s σ H x vs v us Q I rx rv h
  obtain ⟨vx, ys, h, r1, r2, hr, q⟩ := h
  unfold methW at q
  split at q <;> first | exact q.elim | skip
  all_goals first | contradiction | skip
  rename_i a he
  obtain ⟨xs, y, e, hy, q⟩ := q
  cases r1.loc_inv
  cases r2.nil_inv
  obtain ⟨ws, h1, rs⟩ := lst_at hr e
  obtain ⟨z, hz, rz⟩ := rs.get hy
  obtain ⟨_, _, _, k1, k2⟩ := lst_wr (ys := xs.dropLast) (ws := ws.dropLast) hr e fun H' p => (rs.keep p).dropLast
  exact mt_pop pins s σ H _ _ v us Q I rx rv ⟨a, ws, z, rfl, rfl, h1, by rw [rs.length]; exact hz, q _ _ k2 (rz.keep k2) k1⟩
theorem mt_pop1W : MtR X "list.pop" (RM X.K .pop1) := by
  intro pins s σ H x vs v us Q I rx rv h
  obtain ⟨vx, ys, h, r1, r2, hr, q⟩ := h
  unfold methW at q
  split at q <;> first | exact q.elim | skip
  all_goals first | contradiction | skip
  rename_i a i he
  obtain ⟨xs, k, y, e, b1, b2, hk, hy, q⟩ := q
  cases r1.loc_inv
  obtain ⟨w, rfl, rw'⟩ := r2.one
  cases rw'.int_inv
  obtain ⟨ws, h1, rs⟩ := lst_at hr e
  obtain ⟨z, hz, rz⟩ := rs.get hy
  obtain ⟨_, _, _, k1, k2⟩ := lst_wr (ys := xs.eraseIdx k) (ws := ws.eraseIdx k) hr e fun H' p => (rs.keep p).eraseIdx k
  exact mt_popAt pins s σ H _ _ v us Q I rx rv ⟨a, ws, i, k, z, rfl, rfl, h1, b1, b2, by rw [rs.length]; exact hk, hz, q _ _ k2 (rz.keep k2) k1⟩
theorem mt_extendW : MtR X "list.extend" (RM X.K .extend) := by
  intro pins s σ H x vs v us Q I rx rv h
  obtain ⟨vx, ys, h, r1, r2, hr, q⟩ := h
  unfold methW at q
  split at q <;> first | exact q.elim | skip
  all_goals first | contradiction | skip
  rename_i a y he
  obtain ⟨xs, zs, e, hzs, hz, q⟩ := q
  cases r1.loc_inv
  obtain ⟨w, rfl, rw'⟩ := r2.one
  obtain ⟨b, us2, rfl, f, r3⟩ := rep_lst rw' hr hzs
  obtain ⟨ws, h1, rs⟩ := lst_at hr e
  obtain ⟨_, _, _, k1, k2⟩ := lst_wr (ys := xs ++ zs) (ws := ws ++ us2) hr e fun H' p => (rs.keep p).append (r3.keep p)
  cases (show v = Value.ref a from rx)
  obtain ⟨u, rfl, ru⟩ := rv.one
  cases (show u = Value.ref b from ru)
  obtain ⟨_, its, n, r, hl, eo⟩ := I.lstM h1
  obtain ⟨_, its2, n2, r4, hl2, eo2⟩ := f.at_ I
  have hsz : its.toArray.size + its2.toArray.size ≤ sizeLine := by
    rw [List.size_toArray, List.size_toArray, ← hl, ← hl2, rs.length, r3.length]
    exact hz
  have hlong : ¬ (!its.toArray.isEmpty && Builtin.List.listTooLong (its.toArray.size + its2.toArray.size)) = true := by
    rw [notLongL hsz, Bool.and_false]
    exact Bool.false_ne_true
  refine call_meets F.slot_list_extend ⟨_, eo, rfl⟩ F.entry_list_extend (F.args_list_extend_2 _ _)
    (AutoSeq1.list_extend_list_list_0 a its.toArray n b its2.toArray n2 hlong (by rw [List.size_toArray] at hsz ⊢; omega) (by omega)) ⟨eo, eo2, ?_⟩
  refine ⟨.non, _, I.lset (its' := its ++ its2) h1 eo (by simp) (r.append r4) ?_, rfl, q _ _ k2 .non k1⟩
  rw [List.length_append, rs.length, r3.length]
  exact hz
theorem set_W (hu : X.A.units + 1 < cLine) : PSet X (fun o i v H Q => ∃ vo vi vv h, Rep X.K H o vo ∧ Rep X.K H i vi ∧ Rep X.K H v vv ∧ HRep X.K h H ∧ subW vo vi vv h fun h' => ∀ H', Pres H H' → HRep X.K h' H' → Q H') := by
  intro pins s σ H o i v ov iv u Q I ro ri rv h
  obtain ⟨vo, vi, vv, h, r1, r2, r3, hr, q⟩ := h
  unfold subW at q
  split at q <;> first | exact q.elim | skip
  · rename_i a key
    obtain ⟨ps, e, ⟨hk, hl⟩, q⟩ := q
    obtain rfl := r1.loc_inv
    cases (show ov = Value.ref a from ro)
    obtain ⟨b, ws, rfl, hb, rw'⟩ := r2.tup_invS
    obtain ⟨kk, hkk⟩ := keys_of hk
    obtain rfl := keys_V hkk rw'
    have go : ∀ (H1 : Hp) (h1 : MH) (kvs : List (List Key × V)), Inv X pins σ H1 s → Pres H H1 → HRep X.K h1 H1 → (∀ c, h1.put a c = h.put a c) → h1 a = some (.dtt ps) → H1 a = some (.dT kvs) → Paired Keys (ps.map (·.1)) (kvs.map (·.1)) → Reps X.K H1 (kvs.map (·.2)) (ps.map (·.2)) →
        wpAny (model X.prog X.w) X.A (setItem (.ref a) iv u) (fun _ s' => ∃ H', Inv X pins σ H' s' ∧ Q H') X.xe s := by
      intro H1 h1 kvs I1 p1 hr1 eh e1 e2 pk rs
      have lz : kvs.length < sizeLine := by
        have := rs.length
        simp only [List.length_map] at this
        omega
      refine d_setItem hu I1 (DPut.t e2 (p1.tup _ _ hb) lz) ri rv fun s' I' => ⟨_, I', ?_⟩
      have r3' := r3.keep p1
      have ⟨k1, k2⟩ := HRep.wr (c' := .dtt (putP ps key vv)) (o' := .dT (putK kvs kk v)) hr1 e1 fun H' p => by
        obtain ⟨a1, a2⟩ := put_rel pk (rs.keep p) hkk (r3'.keep p)
        exact .dtt a1 a2
      rw [eh] at k1
      exact q _ (p1.trans k2) k1
    rcases e with e | ⟨e, rfl⟩
    · obtain ⟨o, h1, c⟩ := hr a _ e
      cases c with
      | dtt x y => exact go H h _ I .refl hr (fun _ => rfl) e h1 x y
    · obtain ⟨o, h1, c⟩ := hr a _ e
      cases c with
      | @dctK kvs _ x y =>
        have e0 : kvs = [] := by
          cases kvs with
          | nil => rfl
          | cons k ks => cases x
        subst e0
        have ⟨k1, k2⟩ := HRep.wr (c' := .dtt []) (o' := .dT []) hr e fun H' p => .dtt .nil .nil
        exact go _ (h.put a (.dtt [])) [] (dk_turn I h1) k2 k1 (fun c => by funext z; unfold MH.put; split <;> rfl) (by unfold MH.put; rw [if_pos rfl]) upd_same .nil .nil
  rename_i a k
  obtain ⟨xs, j, e, hj, q⟩ := q
  cases r1.loc_inv
  cases r2.int_inv
  obtain ⟨ws, h1, rs⟩ := lst_at hr e
  obtain ⟨_, _, _, k1, k2⟩ := lst_wr (ys := xs.set j vv) (ws := ws.set j v) hr e fun H' p => (rs.keep p).set j (r3.keep p)
  exact set_list pins s σ H _ _ v ov iv u Q I ro ri rv ⟨a, ws, k, j, rfl, rfl, h1, by rw [rs.length]; exact hj, q _ k2 k1⟩
theorem set_Wd (hu : X.A.units + 1 < cLine) : PSet X (fun o i v H Q => ∃ vo vi vv h, Rep X.K H o vo ∧ Rep X.K H i vi ∧ Rep X.K H v vv ∧ HRep X.K h H ∧ subdW vo vi vv h fun h' => ∀ H', Pres H H' → HRep X.K h' H' → Q H') := by
  intro pins s σ H o i v ov iv u Q I ro ri rv h
  obtain ⟨vo, vi, vv, h, r1, r2, r3, hr, a, ps, rfl, e, hk, hl, q⟩ := h
  obtain rfl := r1.loc_inv
  cases (show ov = Value.ref a from ro)
  obtain ⟨kk, hkk⟩ := isKey_rep hk
  obtain rfl := key_V hkk r2
  obtain ⟨o, h1, c⟩ := hr a _ e
  cases c with
  | @dctK kvs _ x y =>
    have lz : kvs.length < sizeLine := by
      have := y.length
      simp only [List.length_map] at this
      omega
    refine d_setItem hu I (DPut.k h1 lz) ri rv fun s' I' => ⟨_, I', ?_⟩
    have ⟨k1, k2⟩ := HRep.wr (c' := .dct (putK1 ps vi vv)) (o' := .dK (putK kvs kk v)) hr e fun H' p => by
      obtain ⟨a1, a2⟩ := put_rel1 x (y.keep p) hkk (r3.keep p)
      exact .dctK a1 a2
    exact q _ k2 k1
end
end MP
set_option Elab.async false
set_option linter.all false
set_option maxRecDepth 100000
set_option maxHeartbeats 1000000
namespace MP
open PySem PySem.Spec PyProof.Rows L2
section
variable {X : Cx} {pins : List (Addr × Obj)} {σ : L2.St} {H : Hp} {s : Shared}
def tyN : PV → Option String
  | .non => some "NoneType"
  | .bl _ => some "bool"
  | .int _ => some "int"
  | .str _ => some "str"
  | .tup _ => some "tuple"
  | .lst _ => some "list"
  | .dct _ _ => some "dict"
  | .cst _ => some "tuple"
  | _ => none
def kitTab : List (String × String × Bool) := ["NoneType", "bool", "int", "str", "tuple", "list", "dict"].flatMap fun a => ["int", "bool", "tuple", "str", "list", "dict"].map fun b => (a, b, a == b || (a == "bool" && b == "int"))
theorem kit_all : (kitTab.all fun p => match kitB p.1 p.2.1 with | some r => r == p.2.2 | none => false) = true := by decide +kernel
theorem kit_at {a b : String} {r : Bool} (h : (a, b, r) ∈ kitTab) : kitB a b = some r := by
  have := List.all_eq_true.mp kit_all _ h
  simp only at this
  split at this
  · rename_i r' e
    rw [e, beq_iff_eq.mp this]
  · cases this
theorem isT_kit {t : String} {v : PV} {b : Bool} (ht : tyCls t) (h : isT t v = some b) : ∃ a, tyN v = some a ∧ kitB a t = some b := by
  cases v with
  | loc a => cases h
  | fn f => cases h
  | dtt _ _ => cases h
  | cst x =>
    refine ⟨_, rfl, kit_at ?_⟩
    rcases ht with rfl | rfl | rfl | rfl | rfl | rfl <;> (simp only [isT, Option.some.injEq] at h; subst h; decide)
  | non =>
    refine ⟨_, rfl, kit_at ?_⟩
    rcases ht with rfl | rfl | rfl | rfl | rfl | rfl <;> (simp only [isT, Option.some.injEq] at h; subst h; decide)
  | bl x =>
    refine ⟨_, rfl, kit_at ?_⟩
    rcases ht with rfl | rfl | rfl | rfl | rfl | rfl <;> (simp only [isT, Option.some.injEq] at h; subst h; decide)
  | int x =>
    refine ⟨_, rfl, kit_at ?_⟩
    rcases ht with rfl | rfl | rfl | rfl | rfl | rfl <;> (simp only [isT, Option.some.injEq] at h; subst h; decide)
  | str x =>
    refine ⟨_, rfl, kit_at ?_⟩
    rcases ht with rfl | rfl | rfl | rfl | rfl | rfl <;> (simp only [isT, Option.some.injEq] at h; subst h; decide)
  | tup x =>
    refine ⟨_, rfl, kit_at ?_⟩
    rcases ht with rfl | rfl | rfl | rfl | rfl | rfl <;> (simp only [isT, Option.some.injEq] at h; subst h; decide)
  | lst x =>
    refine ⟨_, rfl, kit_at ?_⟩
    rcases ht with rfl | rfl | rfl | rfl | rfl | rfl <;> (simp only [isT, Option.some.injEq] at h; subst h; decide)
  | dct x y =>
    refine ⟨_, rfl, kit_at ?_⟩
    rcases ht with rfl | rfl | rfl | rfl | rfl | rfl <;> (simp only [isT, Option.some.injEq] at h; subst h; decide)
theorem kit_v (I : Inv X pins σ H s) {h : MH} {x : V} {v : PV} {u : Value} {a : String} (r : Rep X.K H x v) (hr : HRep X.K h H) (rx : RelV x u) (e : tyN (rd h v) = some a) :
    ∃ P : Heap → Prop, PySem.W.KitX X.K u (.type a) P ∧ P s.heap ∧ u ≠ .builtin "__main__.__loader__#opaque" := by
  by_cases hl : ∃ xs, rd h v = .lst xs
  · obtain ⟨xs, e1⟩ := hl
    rw [e1] at e
    cases e
    obtain ⟨a, vs, rfl, ll, _⟩ := rep_lst r hr e1
    cases (show u = Value.ref a from rx)
    obtain ⟨_, its, n, _, _, ho⟩ := ll.at_ I
    exact ⟨_, PySem.W.kitx_list, ⟨_, ho, rfl⟩, fun z => nomatch z⟩
  · have e1 : rd h v = v := by
      cases v with
      | loc a =>
        exfalso
        simp only [rd] at e hl
        split at e
        · rename_i q; exact hl ⟨_, by rw [q]⟩
        · cases e
      | _ => rfl
    rw [e1] at e
    cases r with
    | non => cases e; exact kit_of I rx (.base .non)
    | bl b => cases e; exact kit_of I rx (.base (.bl b))
    | int i => cases e; exact kit_of I rx (.base (.int i))
    | str y => cases e; exact kit_of I rx (.base (.str y))
    | @tup a vs xs sq rs =>
      cases e
      cases (show u = Value.ref a from rx)
      obtain ⟨its, _, ⟨o, ho, hc, _⟩, _⟩ := I.tuple (.inl (.inl sq))
      exact ⟨_, PySem.W.kitx_tuple, ⟨o, ho, hc⟩, fun z => nomatch z⟩
    | @lst a vs xs sq rs => exact absurd ⟨_, e1⟩ hl
    | @dctK a o kvs ks vs hf _ _ => cases e; exact kit_of I rx (.fDict hf)
    | @dctT a o kvs ks vs hf _ _ =>
      cases e
      cases (show u = Value.ref a from rx)
      obtain ⟨_, _, _, _, _, o, es, ep, ho, hx, _⟩ := I.hok _ _ hf
      exact ⟨_, PySem.W.kitx_dict, ⟨o, ho, hx.1⟩, fun z => nomatch z⟩
    | loc a => cases e
    | fn _ _ _ => cases e
    | dtt _ _ _ => cases e
    | @cst a ns hc =>
      cases e
      cases (show u = Value.ref a from rx)
      obtain ⟨o, its, n, lk, oc, _⟩ := hc
      exact ⟨_, PySem.W.kitx_tuple, ⟨o, I.kIn _ _ lk, oc⟩, fun z => nomatch z⟩
theorem cr_isi {t : String} : CallR X (.builtin "isinstance") (fun xs H Q => ∃ x v h b, xs = [x, .ty t] ∧ Rep X.K H x v ∧ HRep X.K h H ∧ tyCls t ∧ isT t (rd h v) = some b ∧ Q (.bl b) H) := by
  intro pins s σ H xs us Q I r h
  obtain ⟨x, v, h, b, rfl, rv, hr, ht, e, q⟩ := h
  obtain ⟨u1, u2, rfl, r1, r2⟩ := vals2 r
  cases (show u2 = Value.type t from r2)
  obtain ⟨a, ea, ek⟩ := isT_kit ht e
  obtain ⟨P, Z, p, hx⟩ := kit_v I rv hr r1 ea
  exact PySem.W.kia_one Z I.kIn p (kit_ty ek) hx fun tk => ⟨.bl b, H, I.tok tk, rfl, q⟩
theorem Reps.two {K : KF} {H : Hp} {vs : List V} {x y : PV} (r : Reps K H vs [x, y]) : ∃ v w, vs = [v, w] ∧ Rep K H v x ∧ Rep K H w y := by
  cases r with
  | cons a b => obtain ⟨w, rfl, c⟩ := b.one; exact ⟨_, _, rfl, a, c⟩
theorem intsP_inv : ∀ {xs : List PV} {ns : List Int}, intsP xs = some ns → xs = ns.map PV.int
  | [], _, e => by cases e; rfl
  | .int i :: r, ns, e => by
    simp only [intsP] at e
    cases q : intsP r with
    | none => rw [q] at e; cases e
    | some ms =>
      rw [q] at e
      cases e
      rw [intsP_inv q]
      rfl
  | .non :: _, _, e => by cases e
  | .bl _ :: _, _, e => by cases e
  | .str _ :: _, _, e => by cases e
  | .tup _ :: _, _, e => by cases e
  | .lst _ :: _, _, e => by cases e
  | .dct _ _ :: _, _, e => by cases e
  | .loc _ :: _, _, e => by cases e
  | .fn _ :: _, _, e => by cases e
  | .cst _ :: _, _, e => by cases e
  | .dtt _ _ :: _, _, e => by cases e
theorem boolsP_inv : ∀ {xs : List PV} {ns : List Bool}, boolsP xs = some ns → xs = ns.map PV.bl
  | [], _, e => by cases e; rfl
  | .bl i :: r, ns, e => by
    simp only [boolsP] at e
    cases q : boolsP r with
    | none => rw [q] at e; cases e
    | some ms =>
      rw [q] at e
      cases e
      rw [boolsP_inv q]
      rfl
  | .non :: _, _, e => by cases e
  | .int _ :: _, _, e => by cases e
  | .str _ :: _, _, e => by cases e
  | .tup _ :: _, _, e => by cases e
  | .lst _ :: _, _, e => by cases e
  | .dct _ _ :: _, _, e => by cases e
  | .loc _ :: _, _, e => by cases e
  | .fn _ :: _, _, e => by cases e
  | .cst _ :: _, _, e => by cases e
  | .dtt _ _ :: _, _, e => by cases e
def bltV : B → Value
  | .abs => .builtin "abs" | .int => .type "int" | .len => .builtin "len" | .max2 => .builtin "max" | .min2 => .builtin "min"
  | .repr => .builtin "repr" | .str => .type "str" | .all => .builtin "all" | .any => .builtin "any" | .sum => .builtin "sum"
  | .max1 => .builtin "max" | .min1 => .builtin "min"
abbrev RBl (K : KF) (b : B) : List V → Hp → VK → Prop := fun xs H Q => ∃ vs h, Reps K H xs vs ∧ HRep K h H ∧ bltW b vs h (up K H Q)
theorem cr_blt (b : B) (hc : X.calm = true) (hg : X.A.guards = some []) (hu : X.A.units + 66 < cLine) : CallR X (bltV b) (RBl X.K b) := by
  intro pins s σ H xs us Q I r h
  obtain ⟨vs, h, rs, hr, q⟩ := h
  unfold bltW at q
  split at q
  · obtain ⟨v, rfl, rv⟩ := rs.one
    cases rv.int_inv
    exact call_abs pins s σ H _ us Q I r ⟨_, rfl, q _ _ .refl (.int _) hr⟩
  · obtain ⟨v, rfl, rv⟩ := rs.one
    cases rv.int_inv
    exact call_int1 pins s σ H _ us Q I r (.inl ⟨_, rfl, q _ _ .refl (.int _) hr⟩)
  · obtain ⟨v, rfl, rv⟩ := rs.one
    cases rv.bl_inv
    exact call_int1 pins s σ H _ us Q I r (.inr ⟨_, rfl, q _ _ .refl (.int _) hr⟩)
  · obtain ⟨v, rfl, rv⟩ := rs.one
    obtain ⟨n, ⟨e1, e2⟩, q⟩ := q
    cases rv.str_inv
    exact call_int_str pins s σ H _ us Q I r ⟨_, n, rfl, e1, e2, q _ _ .refl (.int _) hr⟩
  · obtain ⟨v, rfl, rv⟩ := rs.one
    obtain ⟨a, rfl, hc⟩ := rv.cst_inv
    refine call_len_seq pins s σ H _ us Q I r ⟨a, _, rfl, .inr (.inr hc), ?_⟩
    rw [List.length_map]; exact q _ _ .refl (.int _) hr
  · obtain ⟨v, rfl, rv⟩ := rs.one
    cases rv.str_inv
    exact call_len_str pins s σ H _ us Q I r ⟨_, rfl, q.1, q.2 _ _ .refl (.int _) hr⟩
  · obtain ⟨v, rfl, rv⟩ := rs.one
    obtain ⟨ys, e, q⟩ := q
    obtain ⟨a, ws, rfl, f, r3⟩ := rep_seq rv hr e
    refine call_len_seq pins s σ H _ us Q I r ⟨a, ws, rfl, ?_, ?_⟩
    · rcases f with f | f
      · exact .inl f.sq
      · exact .inr f
    · rw [r3.length]; exact q _ _ .refl (.int _) hr
  · obtain ⟨v, w, rfl, rv, rw'⟩ := rs.two
    cases rv.int_inv; cases rw'.int_inv
    exact call_max2 hc pins s σ H _ us Q I r ⟨_, _, rfl, q _ _ .refl (.int _) hr⟩
  · obtain ⟨v, w, rfl, rv, rw'⟩ := rs.two
    cases rv.int_inv; cases rw'.int_inv
    exact call_min2 hc pins s σ H _ us Q I r ⟨_, _, rfl, q _ _ .refl (.int _) hr⟩
  · rename_i v0
    obtain ⟨v, rfl, rv⟩ := rs.one
    obtain ⟨u, rfl, ru⟩ := vals1 r
    obtain ⟨⟨p1, p2, p3, p4⟩, q⟩ := q
    refine repr_rx (rep_rx I rv p1 ru) p2 hg (by omega) p4 fun h' u' tk hk => ?_
    exact ⟨.str _, H, I.kept (t' := tk) hk, ⟨u', rfl⟩, q _ _ .refl (.str _) hr⟩
  · obtain ⟨v, rfl, rv⟩ := rs.one
    cases rv.int_inv
    exact call_str_int pins s σ H _ us Q I r ⟨_, rfl, q.1, q.2 _ _ .refl (.str _) hr⟩
  · obtain ⟨v, rfl, rv⟩ := rs.one
    obtain ⟨ys, bs, e, eb, q⟩ := q
    obtain ⟨a, ws, rfl, f, r3⟩ := rep_lst rv hr e
    cases boolsP_inv eb
    cases r3.bls
    exact cr_all hc pins s σ H _ us Q I r ⟨a, bs, rfl, f.sq, q _ _ .refl (.bl _) hr⟩
  · obtain ⟨v, rfl, rv⟩ := rs.one
    obtain ⟨ys, bs, e, eb, q⟩ := q
    obtain ⟨a, ws, rfl, f, r3⟩ := rep_lst rv hr e
    cases boolsP_inv eb
    cases r3.bls
    exact cr_any hc pins s σ H _ us Q I r ⟨a, bs, rfl, f.sq, q _ _ .refl (.bl _) hr⟩
  · obtain ⟨v, rfl, rv⟩ := rs.one
    obtain ⟨ys, ns, e, eb, q⟩ := q
    obtain ⟨a, ws, rfl, f, r3⟩ := rep_lst rv hr e
    cases intsP_inv eb
    cases r3.ints
    exact cr_sum hc pins s σ H _ us Q I r ⟨a, ns, rfl, f.sq, q _ _ .refl (.int _) hr⟩
  · exact q.elim
theorem reads_in {h : Heap} {v : Value} {d : PyData} {as : List Addr} (r : Reads h v d as) : ∀ b ∈ as, ∃ o, h.get? b = some o :=
  Reads.rec (motive_1 := fun _ _ as _ => ∀ b ∈ as, ∃ o, h.get? b = some o) (motive_2 := fun _ _ as _ => ∀ b ∈ as, ∃ o, h.get? b = some o)
    (fun _ z => nomatch z) (fun _ _ z => nomatch z) (fun _ _ _ z => nomatch z) (fun _ _ _ z => nomatch z)
    (fun h1 _ _ _ ih b z => by
      rcases List.mem_cons.mp z with rfl | z
      · exact ⟨_, h1⟩
      · exact ih b z)
    (fun _ _ _ _ ih b z => ih b z)
    (fun h1 _ _ _ _ ih1 ih2 b z => by
      simp only [List.cons_append, List.mem_cons, List.mem_append] at z
      rcases z with rfl | z | z
      · exact ⟨_, h1⟩
      · exact ih1 b z
      · exact ih2 b z)
    (fun _ z => nomatch z)
    (fun _ _ ih1 ih2 b z => by
      rcases List.mem_append.mp z with z | z
      · exact ih1 b z
      · exact ih2 b z) r
theorem each_of {K : KF} {H : Hp} : ∀ {vs : List V} {xs : List PV} {us : List Value}, Reps K H vs xs → Vals vs us → PySem.W.EachIs (fun u b => ∃ v, RelV v u ∧ Rep K H v b) us xs
  | _, _, _, .nil, r => by cases r; exact .nil
  | _, _, _, .cons a b, r => by
    cases r with
    | cons p q => exact .cons ⟨_, p, a⟩ (each_of b q)
theorem of_each {K : KF} {H : Hp} : ∀ {us : List Value} {xs : List PV}, PySem.W.EachIs (fun u b => ∃ v, RelV v u ∧ Rep K H v b) us xs → ∃ vs, Vals vs us ∧ Reps K H vs xs
  | _, _, .nil => ⟨[], .nil, .nil⟩
  | _, _, .cons ⟨v, p, a⟩ r => let ⟨vs, q, b⟩ := of_each r; ⟨v :: vs, .cons p q, .cons a b⟩
theorem each_reads {h : Heap} {D : Addr} (hD : h.get? D = none) : ∀ {xs : List PV} {us : List Value}, RXs h us (toDs xs) → PySem.W.EachIs (fun v b => ∃ as, Reads h v (toD b) as ∧ D ∉ as) us xs
  | [], _, r => by simp only [toDs] at r; cases r; exact .nil
  | x :: xs, _, r => by
    simp only [toDs] at r
    cases r with
    | cons a b =>
      obtain ⟨as, q⟩ := a.reads
      refine .cons ⟨as, q, fun z => ?_⟩ (each_reads hD b)
      obtain ⟨o, e⟩ := reads_in q D z
      rw [hD] at e; cases e
theorem sorted_W {a : Addr} {T : String} {o : Obj} {us : List Value} {n : Nat} {h : MH} {xs : List PV} {vs : List V} {m : Bool} {Q : VK} (I : Inv X pins σ H s) (hu : X.A.units + 70 < cLine) (hT : T = "list" ∨ T = "tuple") (ho : s.heap.get? a = some o) (hc : o.cls = .type T) (hd : o.data = .seq us.toArray n)
    (rv : Vals vs us) (hz : us.length ≤ sizeLine) (rs : Reps X.K H vs xs) (hr : HRep X.K h H) (so : sortOk xs) (q : newL m (xs.mergeSort leP) h (up X.K H Q)) :
    wpAny (model X.prog X.w) X.A (call (.builtin "sorted") [.ref a]) (EP X pins σ Q) X.xe s := by
  obtain ⟨p1, p2, p3, p4⟩ := so
  refine PySem.Calls.call_function_entry kind_sorted plain_sorted entry_sorted (args_sorted1 _) ?_
  unfold Builtin.«sorted»
  refine wpAny_bind (m := checkCount "sorted" 1 1 _) (wpAny_pure ?_)
  refine wpAny_bind (wpAny_collect_seq (A := X.A.in1) a hT ho hc hd (fun h' hk => ?_) (by rw [List.size_toArray]; exact hz))
  refine wpAny_bind (wpAny_newList ?_ (by simpa using hz))
  have I1 : Inv X pins σ H { s with heap := h' } := I.kept (t' := s.toks) hk
  have hD : h'.get? h'.objs.size = none := Heap.get?_none_of_le (Nat.le_refl _)
  have rx := reps_rx I1 rs p1 rv
  have er : PySem.W.EachIs (fun v b => ∃ as, Reads (h'.push { cls := .type "list", data := .seq us.toArray }) v (toD b) as ∧ h'.objs.size ∉ as) us xs :=
    (each_reads hD rx).mono fun v b ⟨as, r, z⟩ => ⟨as, PyProof.Rows.Reads.keeps (fun _ _ e => Heap.get?_push_of_some _ e) r, z⟩
  have sx : (h'.push { cls := .type "list", data := .seq us.toArray }).get? h'.objs.size = some (seqObj "list" us.toArray 0) := Heap.get?_push_size _ rfl
  refine wpAny_bind (wpAny_holding (wpAny_mono (PySem.W.list_sort_data (a := h'.objs.size) (n := 0) (vs := us) (bs := xs) (enc := toD) (R := fun u b => ∃ v, RelV v u ∧ Rep X.K H v b) (Q := fun _ s' => EP X pins σ Q (.ref h'.objs.size) s')
    (by simpa using sx) (each_of rs rv) er (by rw [← toDs_eq]; exact p2) (by rw [← toDs_eq]; exact p3) (by rw [← rs.length, rv.length]; exact hz) (fun b hb => ?_) (fun out ol eo => ?_)) (fun _ s' k => wpAny_pure ⟨_, rfl, k⟩) fun _ _ e => e))
  · have := p4 b hb
    show X.A.units + 1 + 1 + (toD b).depth < cLine
    omega
  · obtain ⟨ws, w1, w2⟩ := of_each eo
    have z := laid_new .refl hr w2 q
    obtain ⟨ep, he⟩ := PyProof.Rows.sortedHeap_at (out := out.toArray) sx
    refine EP.laid ⟨.ref h'.objs.size, upd H h'.objs.size (.lst ws), ?_, rfl, z.2 _ (I1.hok.fresh (Nat.le_refl _))⟩
    refine I1.laid (t' := s.toks) (fun b ob e => ?_) (Nat.le_refl _) ⟨z.1, out, ep, w1, by simpa using he⟩
    have lt : b < h'.objs.size := Heap.lt_size e
    have e2 := PyProof.Rows.sortedHeap_old (a := h'.objs.size) (vs := us) (out := out.toArray) (h := h'.push { cls := .type "list", data := .seq us.toArray }) (Nat.ne_of_lt lt) (by rw [Heap.size_push]; exact Nat.lt_succ_of_lt lt)
    first
      | exact e2.trans (Heap.get?_push_of_some _ e)
      | simpa using e2.trans (Heap.get?_push_of_some _ e)
end
end MP
set_option Elab.async false
set_option linter.all false
set_option maxRecDepth 100000
set_option maxHeartbeats 1000000
namespace MP
open PySem PySem.Spec PyProof.Rows L2
def visB (N : List Str) (sc : Scope) (i : Nat) (x : Str) : Bool :=
  decide (N[i]? = some x) && (match sc.names.lookup x with | some .local => true | some .cell => true | some .free => true | _ => false) && !(x == ("__debug__" : Str)) && !(x == ("__classdict__" : Str))
def locB (N : List Str) (sc : Scope) (i : Nat) (x : Str) : Bool :=
  decide (N[i]? = some x) && (match sc.names.lookup x with | some .local => true | some .cell => true | _ => false)
def glB (sc : Scope) (x : Str) : Bool := (match sc.names.lookup x with | some .globalImplicit => true | _ => false) && !(x == ("__debug__" : Str)) && !(x == ("__name__" : Str))
def okTg (N : List Str) (sc : Scope) : Tg → PySem.Expr → Bool
  | .name i, e => match e with
    | .Name x _ => locB N sc i x
    | _ => false
  | .tup2 a b, e => match e with
    | .Tuple [a', b'] _ _ => okTg N sc a a' && okTg N sc b b'
    | _ => false
  | .tup3 a b c, e => match e with
    | .Tuple [a', b', c'] _ _ => okTg N sc a a' && okTg N sc b b' && okTg N sc c c'
    | _ => false
  | .tup4 a b c d, e => match e with
    | .Tuple [a', b', c', d'] _ _ => okTg N sc a a' && okTg N sc b b' && okTg N sc c c' && okTg N sc d d'
    | _ => false
def ownTg : Tg → PySem.Expr → List (Str × Nat)
  | .name i, e => match e with
    | .Name x _ => [(x, i)]
    | _ => []
  | .tup2 a b, e => match e with
    | .Tuple [a', b'] _ _ => ownTg a a' ++ ownTg b b'
    | _ => []
  | .tup3 a b c, e => match e with
    | .Tuple [a', b', c'] _ _ => ownTg a a' ++ ownTg b b' ++ ownTg c c'
    | _ => []
  | .tup4 a b c d, e => match e with
    | .Tuple [a', b', c', d'] _ _ => ownTg a a' ++ ownTg b b' ++ ownTg c c' ++ ownTg d d'
    | _ => []
def bltN : B → Str
  | .abs => "abs" | .int => "int" | .len => "len" | .max2 => "max" | .min2 => "min" | .repr => "repr" | .str => "str" | .all => "all" | .any => "any" | .sum => "sum"
  | .max1 => "max" | .min1 => "min"
def conN : C → Str
  | .list => "list" | .tuple => "tuple" | .sorted => "sorted"
def methN : M → Str
  | .append => "append" | .extend => "extend" | .pop0 => "pop" | .pop1 => "pop"
def tyB (t : String) : Bool := t == "int" || t == "bool" || t == "tuple" || t == "str" || t == "list" || t == "dict"
def itTg : It → Tg → Bool
  | .enum _, .name _ => false
  | .zip _ _, .name _ => false
  | _, _ => true
def noSup : PySem.Expr → Bool
  | .Call _ (_ :: _) _ _ => true
  | .Call .. => false
  | _ => true
def relab (sc sc' : Scope) : Scope :=
  { sc' with names := sc'.names.map fun (n, k) => if (k == .free && sc.kind == .function && sc.names.lookup n == some .cell) then (n, .cell) else (n, k) }
mutual
def okE (N : List Str) (fs : List Str) : Scope → E → PySem.Expr → Bool
  | sc, .var i, e => match e with
    | .Name x _ => visB N sc i x
    | _ => false
  | _, .non, e => match e with
    | .Constant .none _ _ => true
    | _ => false
  | _, .bl b, e => match e with
    | .Constant (.bool b') _ _ => b == b'
    | _ => false
  | _, .int i, e => match e with
    | .Constant (.int i') _ _ => i == i'
    | _ => false
  | _, .str x, e => match e with
    | .Constant (.str x') _ _ => decide (x = x')
    | _ => false
  | sc, .bin op a b, e => match e with
    | .BinOp a' op' b' _ => decide (op = op') && okE N fs sc a a' && okE N fs sc b b'
    | _ => false
  | sc, .neg a, e => match e with
    | .UnaryOp .USub a' _ => okE N fs sc a a'
    | _ => false
  | sc, .not a, e => match e with
    | .UnaryOp .Not a' _ => okE N fs sc a a'
    | _ => false
  | sc, .and a b, e => match e with
    | .BoolOp .And [a', b'] _ => okE N fs sc a a' && okE N fs sc b b'
    | .BoolOp .And (a' :: b' :: c' :: r) p => okE N fs sc a a' && okE N fs sc b (.BoolOp .And (b' :: c' :: r) p)
    | _ => false
  | sc, .or a b, e => match e with
    | .BoolOp .Or [a', b'] _ => okE N fs sc a a' && okE N fs sc b b'
    | .BoolOp .Or (a' :: b' :: c' :: r) p => okE N fs sc a a' && okE N fs sc b (.BoolOp .Or (b' :: c' :: r) p)
    | _ => false
  | sc, .ite c a b, e => match e with
    | .IfExp c' a' b' _ => okE N fs sc c c' && okE N fs sc a a' && okE N fs sc b b'
    | _ => false
  | sc, .cmp op a b, e => match e with
    | .Compare a' [op'] [b'] _ => decide (op = op') && (op != .In) && (op != .NotIn) && okE N fs sc a a' && okE N fs sc b b'
    | _ => false
  | sc, .chain o p a b c, e => match e with
    | .Compare a' [o', p'] [b', c'] _ => decide (o = o') && decide (p = p') && (o != .In) && (o != .NotIn) && (p != .In) && (p != .NotIn) && okE N fs sc a a' && okE N fs sc b b' && okE N fs sc c c'
    | _ => false
  | sc, .isN a neg, e => match e with
    | .Compare a' [op] [.Constant .none _ _] _ => decide (op = if neg then .IsNot else .Is) && okE N fs sc a a'
    | _ => false
  | sc, .isB a b neg, e => match e with
    | .Compare a' [op] [.Constant (.bool b') _ _] _ => decide (op = if neg then .IsNot else .Is) && b == b' && okE N fs sc a a'
    | _ => false
  | sc, .isin a b neg, e => match e with
    | .Compare a' [op] [b'] _ => decide (op = if neg then .NotIn else .In) && okE N fs sc a a' && okE N fs sc b b'
    | _ => false
  | sc, .tup es, e => match e with
    | .Tuple es' _ _ => okEs N fs sc es es'
    | _ => false
  | sc, .lst _ es, e => match e with
    | .List es' _ => okEs N fs sc es es'
    | _ => false
  | _, .dct0 _, e => match e with
    | .Dict [] [] _ => true
    | _ => false
  | sc, .dct1 k v, e => match e with
    | .Dict [some k'] [v'] _ => okE N fs sc k k' && okE N fs sc v v'
    | _ => false
  | sc, .idx a i, e => match e with
    | .Subscript a' i' _ => okE N fs sc a a' && okE N fs sc i i'
    | _ => false
  | sc, .slc a lo hi, e => match e with
    | .Subscript a' (.Slice lo' hi' none _) _ => okE N fs sc a a' && okEo N fs sc lo lo' && okEo N fs sc hi hi'
    | _ => false
  | sc, .rev a, e => match e with
    | .Subscript a' (.Slice none none (some (.UnaryOp .USub (.Constant (.int i) _ _) _)) _) _ => i == 1 && okE N fs sc a a'
    | _ => false
  | sc, .call f es, e => match e with
    | .Call (.Name x _) es' [] _ => decide (f = x) && glB sc x && (fs.contains f && ((gcst f).isNone && (methOf f).isNone)) && okEs N fs sc es es'
    | _ => false
  | sc, .gfn f, e => match e with
    | .Name x _ => decide (f = x) && glB sc x && (fs.contains f && ((gcst f).isNone && (methOf f).isNone))
    | _ => false
  | sc, .gcs f, e => match e with
    | .Name x _ => decide (f = x) && glB sc x && fs.contains f && ((gcst f).isSome && !isExc f)
    | _ => false
  | sc, .mkd a, e => match e with
    | .Call (.Name x _) [a'] [] _ => decide (x = ("dict" : Str)) && glB sc x && okE N fs sc a a'
    | _ => false
  | sc, .fld o f, e => match e with
    | .Attribute o' nm _ => decide (nm = f) && noSup o' && okE N fs sc o o'
    | _ => false
  | sc, .mcall o f C m es, e => match e with
    | .Call (.Attribute o' nm apos) (a' :: r) [] pos => decide (nm = m) && (decide (methOf f = some (C, m)) && !decide (m = "__init__") && fs.contains f && (gcst f).isNone) && (apos.endLine == pos.line) && (noSup o' && decide ((a' :: r).length < 29)) && okE N fs sc o o' && okEs N fs sc es (a' :: r)
    | _ => false
  | sc, .new f C es, e => match e with
    | .Call (.Name x _) (a' :: r) [] _ => decide (x = C) && glB sc x && (decide (methOf f = some (C, ("__init__" : Str))) && fs.contains f && (gcst f).isNone) && okEs N fs sc es (a' :: r)
    | _ => false
  | sc, .mkdm a, e => match e with
    | .Call (.Name x _) [a'] [] _ => decide (x = ("dict" : Str)) && glB sc x && okE N fs sc a a'
    | _ => false
  | sc, .mki a, e => match e with
    | .Call (.Name x _) [a'] [] _ => decide (x = ("dict" : Str)) && glB sc x && okE N fs sc a a'
    | _ => false
  | sc, .dix a i, e => match e with
    | .Subscript a' i' _ => okE N fs sc a a' && okE N fs sc i i'
    | _ => false
  | sc, .rpl a b, e => match e with
    | .BinOp a' op' b' _ => decide (op' = .Mult) && okE N fs sc a a' && okE N fs sc b b'
    | _ => false
  | sc, .dpop a b, e => match e with
    | .Call (.Attribute o' nm apos) [k'] [] pos => decide (nm = ("pop" : Str)) && (apos.endLine == pos.line) && noSup o' && okE N fs sc a o' && okE N fs sc b k'
    | _ => false
  | sc, .split _ a b, e => match e with
    | .Call (.Attribute o' nm apos) [k'] [] pos => decide (nm = ("split" : Str)) && (apos.endLine == pos.line) && noSup o' && okE N fs sc a o' && okE N fs sc b k'
    | _ => false
  | sc, .join a b, e => match e with
    | .Call (.Attribute o' nm apos) [k'] [] pos => decide (nm = ("join" : Str)) && (apos.endLine == pos.line) && noSup o' && okE N fs sc a o' && okE N fs sc b k'
    | _ => false
  | sc, .dget o k d, e => match e with
    | .Call (.Attribute o' nm apos) [k', d'] [] pos => decide (nm = ("get" : Str)) && (apos.endLine == pos.line) && noSup o' && okE N fs sc o o' && okE N fs sc k k' && okE N fs sc d d'
    | _ => false
  | sc, .callv i es, e => match e with
    | .Call (.Name x _) (a' :: r) [] _ => visB N sc i x && okEs N fs sc es (a' :: r)
    | _ => false
  | sc, .blt b es, e => match e with
    | .Call (.Name x _) (a' :: r) [] _ => decide (x = bltN b) && glB sc x && okEs N fs sc es (a' :: r)
    | _ => false
  | sc, .isi a t, e => match e with
    | .Call (.Name x _) [a', .Name t' _] [] _ => decide (x = ("isinstance" : Str)) && decide (Str.ofString t = t') && tyB t && glB sc x && glB sc t' && okE N fs sc a a'
    | _ => false
  | sc, .con c _ it, e => match e with
    | .Call (.Name x _) [a'] [] _ => decide (x = conN c) && glB sc x && okIt N fs sc it a' && (match c, it with | .sorted, .seq _ => true | .sorted, .keys _ => true | .sorted, _ => false | _, .seq _ => true | _, .rng1 _ => true | _, .rng2 _ _ => true | _, _ => false)
    | _ => false
  | sc, .comp _ elt tg it c, e => match e with
    | .ListComp elt' [⟨tg', it', ifs', 0⟩] sc' _ => okTg N sc' tg tg' && decide ((ownTg tg tg').map (·.2) = tg.own) && blkC N sc sc' (ownTg tg tg') && itTg it tg && okIt N fs sc it it' && okE N fs (relab sc sc') elt elt' &&
        (match c, ifs' with
        | .none, [] => true
        | .some c, [c'] => okE N fs (relab sc sc') c c'
        | _, _ => false)
    | _ => false
  | sc, .meth o m es, e => match e with
    | .Call (.Attribute o' nm apos) es' [] pos => decide (nm = methN m) && (apos.endLine == pos.line) && noSup o' && okE N fs sc o o' && okEs N fs sc es es' && (match m, es with | .pop0, .nil => true | .pop0, _ => false | _, .cons _ .nil => true | _, _ => false)
    | _ => false
def okEs (N : List Str) (fs : List Str) : Scope → Es → List PySem.Expr → Bool
  | _, .nil, es => match es with
    | [] => true
    | _ => false
  | sc, .cons e r, es => match es with
    | e' :: r' => okE N fs sc e e' && okEs N fs sc r r'
    | _ => false
def okEo (N : List Str) (fs : List Str) : Scope → Eo → Option PySem.Expr → Bool
  | _, .none, e => match e with
    | none => true
    | _ => false
  | sc, .some a, e => match e with
    | some a' => okE N fs sc a a'
    | _ => false
def okIt (N : List Str) (fs : List Str) : Scope → It → PySem.Expr → Bool
  | sc, .seq a, e => okE N fs sc a e
  | sc, .keys a, e => okE N fs sc a e
  | sc, .chars a, e => okE N fs sc a e
  | sc, .rng1 a, e => match e with
    | .Call (.Name x _) [a'] [] _ => decide (x = ("range" : Str)) && glB sc x && okE N fs sc a a'
    | _ => false
  | sc, .rng2 a b, e => match e with
    | .Call (.Name x _) [a', b'] [] _ => decide (x = ("range" : Str)) && glB sc x && okE N fs sc a a' && okE N fs sc b b'
    | _ => false
  | sc, .enum a, e => match e with
    | .Call (.Name x _) [a'] [] _ => decide (x = ("enumerate" : Str)) && glB sc x && okE N fs sc a a'
    | _ => false
  | sc, .zip a b, e => match e with
    | .Call (.Name x _) [a', b'] [] _ => decide (x = ("zip" : Str)) && glB sc x && okE N fs sc a a' && okE N fs sc b b'
    | _ => false
end
def EnvRep (K : KF) (H : Hp) (σ : L2.St) (env : Env) : Prop := σ.length = env.length ∧ ∀ (i : Nat) (v : PV), env[i]? = some (some v) → ∃ V, σ[i]? = some (some V) ∧ Rep K H V v
theorem EnvRep.keep {K : KF} {H H' : Hp} {σ : L2.St} {env : Env} (e : EnvRep K H σ env) (p : Pres H H') : EnvRep K H' σ env :=
  ⟨e.1, fun i v q => let ⟨V, a, b⟩ := e.2 i v q; ⟨V, a, b.keep p⟩⟩
theorem EnvRep.set {K : KF} {H : Hp} {σ : L2.St} {env : Env} {V : V} {v : PV} (e : EnvRep K H σ env) (i : Nat) (r : Rep K H V v) : EnvRep K H (σ.set i (some V)) (env.set i (some v)) := by
  refine ⟨by simp [e.1], fun j w q => ?_⟩
  by_cases h : i = j
  · subst h
    have hl : i < env.length := by
      have := (List.getElem?_eq_some_iff.mp q).1
      simpa using this
    rw [List.getElem?_set_self hl] at q
    cases q
    exact ⟨V, by rw [List.getElem?_set_self (by rw [e.1]; exact hl)], r⟩
  · rw [List.getElem?_set_ne h] at q
    obtain ⟨U, a, b⟩ := e.2 j w q
    exact ⟨U, by rw [List.getElem?_set_ne h]; exact a, b⟩
theorem EnvRep.setNone {K : KF} {H : Hp} {σ : L2.St} {env : Env} (e : EnvRep K H σ env) (i : Nat) : EnvRep K H (σ.set i none) (env.set i none) := by
  refine ⟨by simp [e.1], fun j w q => ?_⟩
  by_cases h : i = j
  · subst h
    have hl : i < env.length := by
      have := (List.getElem?_eq_some_iff.mp q).1
      simpa using this
    rw [List.getElem?_set_self hl] at q
    cases q
  · rw [List.getElem?_set_ne h] at q
    obtain ⟨U, a, b⟩ := e.2 j w q
    exact ⟨U, by rw [List.getElem?_set_ne h]; exact a, b⟩
theorem EnvRep.wipe {K : KF} {H : Hp} {σ : L2.St} {env : Env} (e : EnvRep K H σ env) : ∀ vs : List Nat, EnvRep K H (wipe σ vs) (wipeE env vs)
  | [] => e
  | v :: vs => (EnvRep.wipe e vs).setNone v
def ERep (mg : Str → Option Value) (K : KF) (H : Hp) (cls : Value) (d : Option Addr) (e : Exc) : Prop :=
  mg e.cls = some cls ∧ match e.arg with
    | none => d = none
    | some v => ∃ dx f V, d = some dx ∧ H dx = some (.xd [(f, V)]) ∧ Rep K H V v
def LW (X : Cx) (Ex : XP) : WX := fun cls d σ H => ∃ e env h, ERep X.mg X.K H cls d e ∧ EnvRep X.K H σ env ∧ HRep X.K h H ∧ Ex e env h
def upX (mg : Str → Option Value) (K : KF) (H : Hp) (E : XK) : XQ := fun e h' => ∀ cls d H', Pres H H' → ERep mg K H' cls d e → HRep K h' H' → E cls d H'
structure FnG (P : Program) (w : World) (K : KF) (mg : Str → Option Value) (base : Heap) (k : Nat) (f : Addr) (fd : FuncData) (ps : List Str) (sp : Sp) : Prop where
  len : ∀ vs H Q E, sp vs H Q E → vs.length = ps.length
  run : ∀ (A : Around) (outer : List PySem.Env) (s : Shared) (H : Hp) (args : Args) (us : List Value) (vs : List V) (Q : VK) (E : XK), Room (2 * k) A → A.guards = some [] → Env0 P w K mg base A outer s H → BindsTo s fd args (ps.zip us) → Vals vs us → sp vs H Q E →
    codeAny (model P w) A (.call (.ref f) args) (CR (L2.CX P w) outer P w H s Q E) s
def spG (K : KF) (mg : Str → Option Value) (G : Calls) (f : Str) : Sp := fun vs H Q E => ∃ xs h, Reps K H vs xs ∧ HRep K h H ∧ G f xs h (up K H Q) (upX mg K H E)
def AtF (K : KF) (mg : Str → Option Value) (f : Str) (a : Addr) : Prop :=
  match methOf f with
  | none => mg f = some (.ref a) ∧ PySem.W.nsIn K mainGlobals f = some (some (.ref a)) ∧ PySem.W.keepIn K (.ref a) = true
  | some (C, m) => ∃ Ca, mg C = some (.ref Ca) ∧ ClsK K C Ca ∧ (m = "__init__" → Mk K Ca a) ∧ (m ≠ "__init__" → Meth K Ca m a)
theorem AtF.fn {K : KF} {mg : Str → Option Value} {f : Str} {a : Addr} (h : AtF K mg f a) (n : methOf f = none) : mg f = some (.ref a) ∧ PySem.W.nsIn K mainGlobals f = some (some (.ref a)) ∧ PySem.W.keepIn K (.ref a) = true := by
  unfold AtF at h
  rw [n] at h
  exact h
theorem AtF.me {K : KF} {mg : Str → Option Value} {f C m : Str} {a : Addr} (h : AtF K mg f a) (n : methOf f = some (C, m)) : ∃ Ca, mg C = some (.ref Ca) ∧ ClsK K C Ca ∧ (m = "__init__" → Mk K Ca a) ∧ (m ≠ "__init__" → Meth K Ca m a) := by
  unfold AtF at h
  rw [n] at h
  exact h
structure Callee (X : Cx) (k : Nat) (G : Calls) (f : Str) : Prop where
  ex : ∃ (a : Addr) (fd : FuncData) (ps : List Str), AtF X.K X.mg f a ∧ Binds X.K fd ps [] ∧ FnG X.prog X.w X.K X.mg X.base k a fd ps (spG X.K X.mg G f)
structure CstK (K : KF) (mg : Str → Option Value) (f : Str) (v : PV) : Prop where
  ex : ∃ (V : V) (u : Value), mg f = some u ∧ RelV V u ∧ ∀ H, Rep K H V v
structure ExcOk (K : KF) (mg : Str → Option Value) (c : Str) : Prop where
  ex : ∃ C : Addr, mg c = some (.ref C) ∧ PySem.W.excIn K C [.type "ValueError", .type "Exception", .type "BaseException", .type "object"] "ValueError.__new__" = true ∧ PySem.W.keepIn K (.ref C) = true ∧
    PySem.W.subIn K (.ref C) (.type "BaseException") = some true ∧ PySem.W.typeIn K (.ref C) = some (.type "type")
abbrev CstOk (X : Cx) (f : Str) (v : PV) : Prop := CstK X.K X.mg f v
def bltNames : List Str := ["abs", "int", "len", "max", "min", "isinstance", "repr", "str", "all", "any", "sum", "list", "tuple", "sorted", "range", "enumerate", "zip", "bool", "dict"]
structure Good (X : Cx) (k : Nat) (G : Calls) (fs : List Str) (Ex : XP) : Prop where
  calm : X.calm = true
  nd : X.N.Nodup
  tk : Takes X (LW X Ex)
  room : Room (2 * k + 1) X.A
  gd : X.A.guards = some []
  blt : ∀ x ∈ bltNames, X.mg x = none
  fn : ∀ f ∈ fs, gcst f = none → Callee X k G f
  cst : ∀ f ∈ fs, ∀ v, gcst f = some v → isExc f = false → CstOk X f v
  exc : ∀ c ∈ fs, isExc c = true → ExcOk X.K X.mg c
  mono : GMono G
  only : ∀ f xs h Q E, G f xs h Q E → f ∈ fs ∧ gcst f = none
theorem Good.rm {X : Cx} {k : Nat} {G : Calls} {fs : List Str} {Ex : XP} (gd : Good X k G fs Ex) : Room (2 * k) X.A := gd.room.mono (Nat.le_succ _)
end MP
set_option Elab.async false
set_option linter.all false
set_option maxRecDepth 100000
set_option maxHeartbeats 1000000
namespace MP
open PySem PySem.Spec PyProof.Rows L2
section
variable {X : Cx} {k : Nat} {a : Addr} {fd : FuncData} {ps : List Str} {sp : Sp} {W : WX} {x : Str} {p pos : Pos} {e : PySem.Expr} {es : List PySem.Expr} {t : TA}
theorem run_G {pins : List (Addr × Obj)} {σ : L2.St} {H : Hp} {s : Shared} {Q : VK} {us : List Value} {vs : List V} (F : FnG X.prog X.w X.K X.mg X.base k a fd ps sp) (hr : Room (2 * k) X.A) (hg : X.A.guards = some []) (hb : Binds X.K fd ps []) (tk : Takes X W)
    (I : Inv X pins σ H s) (r : Vals vs us) (h : sp vs H Q (WE W σ)) : wpAny (model X.prog X.w) X.A (call (.ref a) us) (EP X pins σ Q) X.xe s := by
  have l : us.length = ps.length := r.length ▸ F.len _ _ _ _ h
  have b := hb s us I.kIn (by simpa using l)
  rw [List.append_nil] at b
  refine wpAny_call (codeAny_mono (F.run X.A X.stack s H ⟨us, []⟩ us vs Q (WE W σ) hr hg I.env0 b r h) fun r' s' q => ?_)
  cases r' with
  | error z => exact passAt tk σ pins H s z s' I q
  | ok f => cases f with
    | ret u => exact I.after q
    | next => exact q.elim
    | brk => exact q.elim
    | cont => exact q.elim
def tG (sp : Sp) (W : WX) (t : TA) : TE := fun σ H Q => t σ H fun vs H1 => sp vs H1 Q (WE W σ)
theorem pe_G (F : FnG X.prog X.w X.K X.mg X.base k a fd ps sp) (hr : Room (2 * k) X.A) (hgd : X.A.guards = some []) (hg : Gl X x) (hm : X.mg x = some (.ref a)) (hk : PySem.W.keepIn X.K (.ref a) = true) (hb : Binds X.K fd ps []) (tk : Takes X W)
    (ha : PA X (e :: es) t) (hdb : (x == ("__debug__" : Str)) = false) (he : starEach (e :: es) X.env = (false, eval e X.env) :: starEach es X.env) (hpl : (backTo pos (starEach es X.env)).any (·.1) = false) :
    PE X (.Call (.Name x p) (e :: es) [] pos) (tG sp W t) := ⟨fun pins s σ H Q I h =>
  wpAny_Call_Name_kw (ld_glob I hg hm (PySem.W.callWith_K (h₀ := X.base) I.ok.mod.kin hk (thn (ha.run pos pins s σ H _ I h) fun us s1 ⟨vs, H1, I1, r, q⟩ => ⟨I1.kIn, run_G F hr hgd hb tk I1 r q⟩) he hpl) hdb)⟩
theorem pe_G0 (F : FnG X.prog X.w X.K X.mg X.base k a fd ps sp) (hr : Room (2 * k) X.A) (hgd : X.A.guards = some []) (hg : Gl X x) (hm : X.mg x = some (.ref a)) (hk : PySem.W.keepIn X.K (.ref a) = true) (hb : Binds X.K fd ps []) (tk : Takes X W)
    (hdb : (x == ("__debug__" : Str)) = false) : PE X (.Call (.Name x p) [] [] pos) (tG sp W tNil) := ⟨fun pins s σ H Q I h =>
  wpAny_Call_Name_kw (ld_glob I hg hm (PySem.W.callWith_K0 I.kIn hk (run_G (us := []) F hr hgd hb tk I .nil h)) hdb)⟩
theorem wp_Gv {pins : List (Addr × Obj)} {σ : L2.St} {H : Hp} {s : Shared} {Q : VK} {te : TE} {t : TA} (hn : PE X (.Name x p) te) (ha : PA X (e :: es) t)
    (he : starEach (e :: es) X.env = (false, eval e X.env) :: starEach es X.env) (hpl : (backTo pos (starEach es X.env)).any (·.1) = false) (I : Inv X pins σ H s)
    (h : te σ H fun v H1 => ∃ a, v = .ref a ∧ PySem.W.keepIn X.K (.ref a) = true ∧ t σ H1 fun vs H2 => ∀ s2 us, Inv X pins σ H2 s2 → Vals vs us → wpAny (model X.prog X.w) X.A (call (.ref a) us) (EP X pins σ Q) X.xe s2) :
    wpAny (model X.prog X.w) X.A (eval (.Call (.Name x p) (e :: es) [] pos) X.env) (EP X pins σ Q) X.xe s := by
  refine wpAny_Call_Name_kw (thn (hn.run pins s σ H _ I h) fun f s1 ⟨v, H1, I1, r, a, ev, hk, q⟩ => ?_)
  subst ev
  cases (show f = Value.ref a from r)
  exact PySem.W.callWith_K (h₀ := X.base) I1.ok.mod.kin hk (thn (ha.run pos pins s1 σ H1 _ I1 q) fun us s2 ⟨vs, H2, I2, r2, q2⟩ => ⟨I2.kIn, q2 s2 us I2 r2⟩) he hpl
end
def noStar : PySem.Expr → Bool
  | .Starred .. => false
  | _ => true
theorem star_cons {e : PySem.Expr} (h : noStar e = true) (es : List PySem.Expr) (env : PySem.Env) : starEach (e :: es) env = (false, eval e env) :: starEach es env := by
  cases e <;> first | rfl | cases h
theorem star_any {es : List PySem.Expr} (h : ∀ e ∈ es, noStar e = true) (env : PySem.Env) (pos : Pos) : (backTo pos (starEach es env)).any (·.1) = false := by
  have key : ∀ (l : List PySem.Expr), (∀ e ∈ l, noStar e = true) → (starEach l env).any (·.1) = false := by
    intro l
    induction l with
    | nil => intro _; rfl
    | cons e r ih =>
      intro hl
      rw [star_cons (hl e (List.mem_cons_self ..))]
      simp only [List.any_cons, ih fun z hz => hl z (List.mem_cons_of_mem _ hz), Bool.or_false]
  have e2 : ∀ l : List (Bool × Sem Value), (backTo pos l).any (·.1) = l.any (·.1) := by
    intro l
    unfold backTo
    first
      | rfl
      | (rw [List.any_map]; rfl)
      | simp [List.any_map, Function.comp_def]
      | (induction l with
        | nil => rfl
        | cons b r ih => simp_all)
  rw [e2]
  exact key es h
theorem asg_cons {e : PySem.Expr} (h : noStar e = true) (es : List PySem.Expr) (env : PySem.Env) : assignEach (e :: es) env = (false, assign e env) :: assignEach es env := by
  cases e <;> first | rfl | cases h
theorem okTg_star {N : List Str} {sc : Scope} {t : Tg} {e : PySem.Expr} (h : okTg N sc t e = true) : noStar e = true := by
  cases t with
  | name i => simp only [okTg] at h; split at h <;> first | rfl | cases h
  | tup2 a b => simp only [okTg] at h; split at h <;> first | rfl | cases h
  | tup3 a b c => simp only [okTg] at h; split at h <;> first | rfl | cases h
  | tup4 a b c d => simp only [okTg] at h; split at h <;> first | rfl | cases h
def SG (X : Cx) (t : Tg) : TG := fun v σ H Q => ∃ vx env h, EnvRep X.K H σ env ∧ HRep X.K h H ∧ Rep X.K H v vx ∧
  tgW t vx env fun env' => ∀ σ', EnvRep X.K H σ' env' → σ'.length = σ.length → (∀ i, i ∉ t.own → σ'[i]? = σ[i]?) → Q σ' H
theorem PG.imp {X : Cx} {e : PySem.Expr} {t t' : TG} (h : PG X e t) (w : ∀ v σ H Q, t' v σ H Q → t v σ H Q) : PG X e t' := ⟨fun pins s σ H v u Q I r q => h.run pins s σ H v u Q I r (w v σ H Q q)⟩
theorem locB_loc {N : List Str} {sc : Scope} {i : Nat} {x : Str} (h : locB N sc i x = true) : N[i]? = some x ∧ (sc.names.lookup x = some .local ∨ sc.names.lookup x = some .cell) := by
  unfold locB at h
  rw [Bool.and_eq_true, decide_eq_true_eq] at h
  refine ⟨h.1, ?_⟩
  have h2 := h.2
  split at h2 <;> first | exact .inl (by assumption) | exact .inr (by assumption) | cases h2
theorem set_other {α : Type} {l : List (Option α)} {i j : Nat} {v : Option α} (h : j ≠ i) : (l.set i v)[j]? = l[j]? := List.getElem?_set_ne (Ne.symm h)
theorem sG {X : Cx} {sc : Scope} (hc : X.calm = true) (hN : X.N.Nodup) (lo : ∀ x, sc.names.lookup x = some .local → X.env.scope.names.lookup x = some .local) (cel : ∀ x, sc.names.lookup x = some .cell → X.env.scope.names.lookup x = some .cell ∧ X.fn x = true) : ∀ (t : Tg) (e : PySem.Expr), okTg X.N sc t e = true → PG X e (SG X t)
  | .name i, e, h => by
    simp only [okTg] at h
    split at h
    · rename_i x pos
      obtain ⟨hi, hl⟩ := locB_loc h
      refine PG.imp (pg_name hN hi (hl.imp (lo x) fun q => (cel x q).1) (by
        rcases hl with q | q
        · exact .inr (lo x q)
        · exact .inl (cel x q).2)) fun v σ H Q ⟨vx, env, hh, er, hr, rv, q⟩ => ?_
      exact q _ (er.set i rv) (by simp) fun j hj => set_other (by simpa [Tg.own] using hj)
    · cases h
  | .tup2 a b, e, h => by
    simp only [okTg] at h
    split at h
    · rename_i a' b' n pos
      simp only [Bool.and_eq_true] at h
      have pa := sG hc hN lo cel a a' h.1
      have pb := sG hc hN lo cel b b' h.2
      have sa := okTg_star h.1
      have sb := okTg_star h.2
      have g : PGs X [a', b'] (gCons (SG X a) (gCons (SG X b) gNil)) := pgs_cons pa (pgs_cons pb pgs_nil (by rw [asg_cons sb]; rfl)) (by rw [asg_cons sa]; rfl)
      refine PG.imp (pg_tup (n := 2) hc g (by rw [asg_cons sa, asg_cons sb]; rfl) (by rw [asg_cons sa, asg_cons sb]; rfl)) fun v σ H Q ⟨vx, env, hh, er, hr, rv, x, y, e1, q⟩ => ?_
      subst e1
      obtain ⟨p, vs, rfl, sq, rs⟩ := rv.tup_inv
      obtain ⟨v1, v2, rfl, r1, r2⟩ := rs.two
      refine ⟨p, [v1, v2], rfl, sq, rfl, v1, [v2], rfl, x, env, hh, er, hr, r1, tgW_mono (fun e1 q1 => ?_) q⟩
      intro σ1 er1 l1 o1
      refine ⟨v2, [], rfl, y, e1, hh, er1, hr, r2, tgW_mono (fun e2 q2 => ?_) q1⟩
      intro σ2 er2 l2 o2
      refine ⟨rfl, q2 σ2 er2 (l2.trans l1) fun i hi => ?_⟩
      simp only [Tg.own, List.mem_append, not_or] at hi
      exact (o2 i hi.2).trans (o1 i hi.1)
    · cases h
  | .tup3 a b c, e, h => by
    simp only [okTg] at h
    split at h
    · rename_i a' b' c' n pos
      simp only [Bool.and_eq_true] at h
      have pa := sG hc hN lo cel a a' h.1.1
      have pb := sG hc hN lo cel b b' h.1.2
      have pc := sG hc hN lo cel c c' h.2
      have sa := okTg_star h.1.1
      have sb := okTg_star h.1.2
      have sc := okTg_star h.2
      have g : PGs X [a', b', c'] (gCons (SG X a) (gCons (SG X b) (gCons (SG X c) gNil))) :=
        pgs_cons pa (pgs_cons pb (pgs_cons pc pgs_nil (by rw [asg_cons sc]; rfl)) (by rw [asg_cons sb]; rfl)) (by rw [asg_cons sa]; rfl)
      refine PG.imp (pg_tup (n := 3) hc g (by rw [asg_cons sa, asg_cons sb, asg_cons sc]; rfl) (by rw [asg_cons sa, asg_cons sb, asg_cons sc]; rfl)) fun v σ H Q ⟨vx, env, hh, er, hr, rv, x, y, z, e1, q⟩ => ?_
      subst e1
      obtain ⟨p, vs, rfl, sq, rs⟩ := rv.tup_inv
      cases rs with
      | @cons v1 _ _ _ r1 rs =>
        obtain ⟨v2, v3, rfl, r2, r3⟩ := rs.two
        refine ⟨p, [v1, v2, v3], rfl, sq, rfl, v1, [v2, v3], rfl, x, env, hh, er, hr, r1, tgW_mono (fun e1 q1 => ?_) q⟩
        intro σ1 er1 l1 o1
        refine ⟨v2, [v3], rfl, y, e1, hh, er1, hr, r2, tgW_mono (fun e2 q2 => ?_) q1⟩
        intro σ2 er2 l2 o2
        refine ⟨v3, [], rfl, z, e2, hh, er2, hr, r3, tgW_mono (fun e3 q3 => ?_) q2⟩
        intro σ3 er3 l3 o3
        refine ⟨rfl, q3 σ3 er3 ((l3.trans l2).trans l1) fun i hi => ?_⟩
        simp only [Tg.own, List.mem_append, not_or] at hi
        exact ((o3 i hi.2).trans (o2 i hi.1.2)).trans (o1 i hi.1.1)
    · cases h
  | .tup4 a b c d, e, h => by
    simp only [okTg] at h
    split at h
    · rename_i a' b' c' d' n pos
      simp only [Bool.and_eq_true] at h
      have pa := sG hc hN lo cel a a' h.1.1.1
      have pb := sG hc hN lo cel b b' h.1.1.2
      have pc := sG hc hN lo cel c c' h.1.2
      have pd := sG hc hN lo cel d d' h.2
      have sa := okTg_star h.1.1.1
      have sb := okTg_star h.1.1.2
      have sc := okTg_star h.1.2
      have sd := okTg_star h.2
      have g : PGs X [a', b', c', d'] (gCons (SG X a) (gCons (SG X b) (gCons (SG X c) (gCons (SG X d) gNil)))) :=
        pgs_cons pa (pgs_cons pb (pgs_cons pc (pgs_cons pd pgs_nil (by rw [asg_cons sd]; rfl)) (by rw [asg_cons sc]; rfl)) (by rw [asg_cons sb]; rfl)) (by rw [asg_cons sa]; rfl)
      refine PG.imp (pg_tup (n := 4) hc g (by rw [asg_cons sa, asg_cons sb, asg_cons sc, asg_cons sd]; rfl) (by rw [asg_cons sa, asg_cons sb, asg_cons sc, asg_cons sd]; rfl)) fun v σ H Q ⟨vx, env, hh, er, hr, rv, x, y, z, u, e1, q⟩ => ?_
      subst e1
      obtain ⟨p, vs, rfl, sq, rs⟩ := rv.tup_inv
      cases rs with
      | @cons v1 _ _ _ r1 rs =>
        cases rs with
        | @cons v2 _ _ _ r2 rs =>
          obtain ⟨v3, v4, rfl, r3, r4⟩ := rs.two
          refine ⟨p, [v1, v2, v3, v4], rfl, sq, rfl, v1, [v2, v3, v4], rfl, x, env, hh, er, hr, r1, tgW_mono (fun e1 q1 => ?_) q⟩
          intro σ1 er1 l1 o1
          refine ⟨v2, [v3, v4], rfl, y, e1, hh, er1, hr, r2, tgW_mono (fun e2 q2 => ?_) q1⟩
          intro σ2 er2 l2 o2
          refine ⟨v3, [v4], rfl, z, e2, hh, er2, hr, r3, tgW_mono (fun e3 q3 => ?_) q2⟩
          intro σ3 er3 l3 o3
          refine ⟨v4, [], rfl, u, e3, hh, er3, hr, r4, tgW_mono (fun e4 q4 => ?_) q3⟩
          intro σ4 er4 l4 o4
          refine ⟨rfl, q4 σ4 er4 (((l4.trans l3).trans l2).trans l1) fun i hi => ?_⟩
          simp only [Tg.own, List.mem_append, not_or] at hi
          exact (((o4 i hi.2).trans (o3 i hi.1.2)).trans (o2 i hi.1.1.2)).trans (o1 i hi.1.1.1)
    · cases h
def Grow (H H' : Hp) : Prop := ∀ a u, H a = some u → H' a = some u
theorem Grow.refl {H : Hp} : Grow H H := fun _ _ e => e
theorem Grow.pres {H H' : Hp} (g : Grow H H') : Pres H H' := ⟨fun a _ e => g a _ e, fun a _ _ e => g a _ e⟩
theorem Grow.hrep {K : KF} {h : MH} {H H' : Hp} (g : Grow H H') (r : HRep K h H) : HRep K h H' := r.keep g.pres fun a c e => by
  obtain ⟨o, h1, _⟩ := r a c e
  rw [h1, g a o h1]
structure Wk (K : KF) (H1 : Hp) (J : L2.It) (S : Src) : Prop where
  go : ∀ i H h, Pres H1 H → HRep K h H → S.stays h → i < S.xs.length → J.go i H
  stop : ∀ i H h, Pres H1 H → HRep K h H → S.stays h → S.xs.length ≤ i → J.stop i H
  yld : ∀ i H h x H', Pres H1 H → HRep K h H → S.stays h → i < S.xs.length → J.yld i H x H' → ∃ v, S.xs[i]? = some v ∧ Grow H H' ∧ Rep K H' x v
theorem wk_tup {K : KF} {H1 : Hp} {a : Addr} {vs : List V} {xs : List PV} (sq : SqT K H1 a vs) (rs : Reps K H1 vs xs) : Wk K H1 (Itt K a) ⟨xs, []⟩ where
  go := fun i H h p _ _ l => ⟨vs, vs[i]'(by rw [rs.length]; exact l), p.sqT sq, List.getElem?_eq_getElem _⟩
  stop := fun i H h p _ _ l => ⟨vs, p.sqT sq, by rw [rs.length]; exact l⟩
  yld := fun i H h x H' p hr _ _ y => by
    obtain ⟨e, y⟩ := y
    subst e
    obtain ⟨v, q, r⟩ := (rs.keep p).getV (y vs (p.sqT sq))
    exact ⟨v, q, .refl, r⟩
theorem wk_lst {K : KF} {H1 : Hp} {a : Addr} {xs : List PV} {st : List (Addr × List PV)} (sq : ∀ H h, Pres H1 H → HRep K h H → Src.stays ⟨xs, st⟩ h → ∃ ws, SqL K H a ws ∧ Reps K H ws xs) : Wk K H1 (Itl K a) ⟨xs, st⟩ where
  go := fun i H h p hr s l => by
    obtain ⟨ws, q, rs⟩ := sq H h p hr s
    exact ⟨ws, ws[i]'(by rw [rs.length]; exact l), q, List.getElem?_eq_getElem _⟩
  stop := fun i H h p hr s l => by
    obtain ⟨ws, q, rs⟩ := sq H h p hr s
    exact ⟨ws, q, by rw [rs.length]; exact l⟩
  yld := fun i H h x H' p hr s _ y => by
    obtain ⟨e, y⟩ := y
    subst e
    obtain ⟨ws, q, rs⟩ := sq H' h p hr s
    obtain ⟨v, q, r⟩ := rs.getV (y ws q)
    exact ⟨v, q, .refl, r⟩
theorem rngV_len (lo hi : Int) : (rngV lo hi).length = (hi - lo).toNat := by unfold rngV; rw [List.length_map, List.length_range]
theorem wk_rng {K : KF} {H1 : Hp} {lo hi : Int} : Wk K H1 (Itr lo (hi - lo).toNat) ⟨rngV lo hi, []⟩ where
  go := fun i H h _ _ _ l => by
    have l : i < (rngV lo hi).length := l
    rw [rngV_len] at l
    exact l
  stop := fun i H h _ _ _ l => by
    have l : (rngV lo hi).length ≤ i := l
    rw [rngV_len] at l
    exact l
  yld := fun i H h x H' p hr s l y => by
    obtain ⟨e, y⟩ := y
    subst e
    subst y
    have l : i < (rngV lo hi).length := l
    rw [rngV_len] at l
    refine ⟨.int (lo + i), ?_, .refl, .int _⟩
    show (rngV lo hi)[i]? = _
    unfold rngV
    rw [List.getElem?_map, List.getElem?_range l]
    rfl
def SI (X : Cx) (w : Env → MH → (Src → MH → Prop) → Prop) : TI := fun σ H R => ∃ env h, EnvRep X.K H σ env ∧ HRep X.K h H ∧
  w env h fun S h1 => ∀ J H1, Pres H H1 → HRep X.K h1 H1 → Wk X.K H1 J S → S.xs.length ≤ sizeLine → R J H1
theorem PI.imp {X : Cx} {tg e : PySem.Expr} {t t' : TI} (h : PI X tg e t) (w : ∀ σ H R, t' σ H R → t σ H R) : PI X tg e t' := ⟨fun pins s σ H R I q => h.run pins s σ H R I (w σ H R q)⟩
theorem pi_seqW {X : Cx} {tg e : PySem.Expr} {te : TE} (he : PE X e te) : PI X tg e (fun σ H R => te σ H fun x H1 => ∃ v h S, Rep X.K H1 x v ∧ HRep X.K h H1 ∧ srcV h v = some S ∧ (∀ J, Wk X.K H1 J S → S.xs.length ≤ sizeLine → R J H1)) := by
  refine ⟨fun pins s σ H R I h => ?_⟩
  refine thn (he.run pins s σ H _ I h) fun u s1 ⟨x, H1, I1, r1, v, h, S, rv, hr, es, q⟩ => ?_
  have lists : ∀ {a : Addr} {vs : List V}, x = .ref a → LL X.K H1 a vs → (vs.length ≤ sizeLine → R (Itl X.K a) H1) → wpAny (model X.prog X.w) X.A (pyIter u) (PIE X pins σ tg R) X.xe s1 := by
    intro a vs e ll k
    subst e
    cases (show u = Value.ref a from r1)
    obtain ⟨hz, its, n, rr, hl, ho⟩ := ll.at_ I1
    have isl : s1.heap.IsList a its.toArray := ⟨_, ho, rfl, n, rfl⟩
    exact wpAny_pyIter_list isl (pi_one (tk := s1.toks) I1 _ (turn_list a _) ⟨_, Heap.get?_push_size _ rfl, rfl, rfl⟩ (k hz))
  unfold srcV at es
  split at es
  · rename_i xs
    cases es
    obtain ⟨a, vs, rfl, sq, rs⟩ := rv.tup_inv
    cases (show u = Value.ref a from r1)
    obtain ⟨its, rr, p, hz⟩ := I1.tuple sq
    refine wpAny_pyIter_tuple (show s1.heap.IsTuple a its.toArray from p) (pi_one (tk := s1.toks) I1 _ (turn_tuple a _) ⟨_, Heap.get?_push_size _ rfl, rfl, rfl⟩ ?_)
    exact q _ (wk_tup sq rs) (by rw [← rs.length]; exact hz)
  · rename_i xs
    cases es
    obtain ⟨a, vs, e0, f, rs⟩ := rv.lst_inv
    refine lists e0 (.inr f) fun hz => q _ (wk_lst fun H h p _ _ => ⟨vs, (p.fzL f).sq, rs.keep p⟩) (by rw [← rs.length]; exact hz)
  · rename_i a
    split at es
    · rename_i xs e1
      cases es
      obtain ⟨vs, h1, rs⟩ := lst_at hr e1
      refine lists rv.loc_inv (.inl h1) fun hz => q _ (wk_lst fun H' h' p hr' st => by
        obtain ⟨ws, h2, rs2⟩ := lst_at hr' (st (a, xs) (by simp))
        exact ⟨ws, .of h2, rs2⟩) (by rw [← rs.length]; exact hz)
    · cases es
  · cases es
end MP
set_option Elab.async false
set_option linter.all false
set_option maxRecDepth 100000
set_option maxHeartbeats 1000000
namespace MP
open PySem PySem.Spec PyProof.Rows L2
def plainX : PySem.Expr → Bool
  | .Starred .. => false
  | .Set .. => false
  | .Slice .. => false
  | _ => true
theorem okE_plain {N fs : List Str} {sc : Scope} {e : E} {e' : PySem.Expr} (h : okE N fs sc e e' = true) : plainX e' = true := by
  cases e <;> unfold okE at h <;> (repeat' split at h) <;> first | rfl | cases h | skip
theorem plain_star {e : PySem.Expr} (h : plainX e = true) : noStar e = true := by cases e <;> first | rfl | cases h
theorem plain_behind {e : PySem.Expr} (h : plainX e = true) (op : CmpOp) : behindInMarks op e = false := by cases e <;> first | rfl | cases h
theorem plain_ix {e : PySem.Expr} (h : plainX e = true) : PlainIx e := by intro o i; cases e <;> first | rfl | cases h
theorem okEs_plain {N fs : List Str} {sc : Scope} : ∀ {es : Es} {l : List PySem.Expr}, okEs N fs sc es l = true → ∀ e ∈ l, noStar e = true
  | .nil, l, h => by
    simp only [okEs] at h
    split at h
    · intro e he; cases he
    · cases h
  | .cons a r, l, h => by
    simp only [okEs] at h
    split at h
    · rename_i a' r'
      rw [Bool.and_eq_true] at h
      intro e he
      rcases List.mem_cons.mp he with q | q
      · subst q; exact plain_star (okE_plain h.1)
      · exact okEs_plain h.2 e q
    · cases h
section
variable {K : KF} {H H1 : Hp} {Q : VK} {T : Bool → Hp → Prop}
theorem up.tr (p : Pres H H1) {v : PV} {h : MH} (q : up K H Q v h) : up K H1 Q v h := fun V H' p' r hr => q V H' (p.trans p') r hr
theorem upT.tr (p : Pres H H1) {v : Bool} {h : MH} (q : upT K H T v h) : upT K H1 T v h := fun H' p' hr => q H' (p.trans p') hr
def upA (K : KF) (H : Hp) (Q : List V → Hp → Prop) : List PV → MH → Prop := fun xs h' => ∀ vs H', Pres H H' → Reps K H' vs xs → HRep K h' H' → Q vs H'
end
def SE (X : Cx) (w : Env → MH → Post → Prop) : TE := fun σ H Q => ∃ env h, EnvRep X.K H σ env ∧ HRep X.K h H ∧ w env h (up X.K H Q)
def ST (X : Cx) (w : Env → MH → (Bool → MH → Prop) → Prop) : TT := fun σ H Q => ∃ env h, EnvRep X.K H σ env ∧ HRep X.K h H ∧ w env h (upT X.K H Q)
def SA (X : Cx) (w : Env → MH → (List PV → MH → Prop) → Prop) : TA := fun σ H Q => ∃ env h, EnvRep X.K H σ env ∧ HRep X.K h H ∧ w env h (upA X.K H Q)
section
variable {X : Cx} {G : Calls} {Ex : XP} {σ : L2.St} {H : Hp} {env : Env} {h : MH}
theorem se_mk {e : E} {P : Post} {R : VK} (hG : GMono G) (er : EnvRep X.K H σ env) (hr : HRep X.K h H) (q : wpE G Ex e env h P) (k : ∀ x h1 V H1, P x h1 → Pres H H1 → Rep X.K H1 V x → HRep X.K h1 H1 → R V H1) : SE X (wpE G Ex e) σ H R :=
  ⟨env, h, er, hr, wpE_mono hG (fun x h1 p V H1 p1 r1 hr1 => k x h1 V H1 p p1 r1 hr1) q⟩
theorem st_mk {e : E} {P : Bool → MH → Prop} {R : Bool → Hp → Prop} (hG : GMono G) (er : EnvRep X.K H σ env) (hr : HRep X.K h H) (q : wpT G Ex e env h P) (k : ∀ x h1 H1, P x h1 → Pres H H1 → HRep X.K h1 H1 → R x H1) : ST X (wpT G Ex e) σ H R :=
  ⟨env, h, er, hr, wpT_mono hG (fun x h1 p H1 p1 hr1 => k x h1 H1 p p1 hr1) q⟩
theorem sa_mk {e : Es} {P : List PV → MH → Prop} {R : List V → Hp → Prop} (hG : GMono G) (er : EnvRep X.K H σ env) (hr : HRep X.K h H) (q : wpEs G Ex e env h P) (k : ∀ x h1 V H1, P x h1 → Pres H H1 → Reps X.K H1 V x → HRep X.K h1 H1 → R V H1) : SA X (wpEs G Ex e) σ H R :=
  ⟨env, h, er, hr, wpEs_mono hG (fun x h1 p V H1 p1 r1 hr1 => k x h1 V H1 p p1 r1 hr1) q⟩
variable {a b c : E} {a' b' c' : PySem.Expr} {p pos : Pos} {n : Nat}
abbrev PEm (X : Cx) (G : Calls) (Ex : XP) (e : E) (e' : PySem.Expr) : Prop := PE X e' (SE X (wpE G Ex e))
abbrev PTm (X : Cx) (G : Calls) (Ex : XP) (e : E) (e' : PySem.Expr) : Prop := PT X e' (ST X (wpT G Ex e))
abbrev PAm (X : Cx) (G : Calls) (Ex : XP) (e : Es) (e' : List PySem.Expr) : Prop := PA X e' (SA X (wpEs G Ex e))
theorem e_var {i : Nat} {x : Str} (h : visB X.N X.env.scope i x = true) : PEm X G Ex (.var i) (.Name x pos) := by
  unfold visB at h
  simp only [Bool.and_eq_true, decide_eq_true_eq] at h
  obtain ⟨⟨⟨h1, h2⟩, h3⟩, h4⟩ := h
  have hv : Vis X.env.scope x := by
    unfold Vis
    split at h2
    · exact .inl (by assumption)
    · exact .inr (.inl (by assumption))
    · exact .inr (.inr (by assumption))
    · cases h2
  refine PE.imp (pe_var h1 hv (by simpa using h3) (by simpa using h4)) fun σ H Q ⟨env, h, er, hr, q⟩ => ?_
  simp only [wpE] at q
  obtain ⟨v, e, q⟩ := q
  obtain ⟨V, e2, r⟩ := er.2 i v e
  exact ⟨V, e2, q V H .refl r hr⟩
theorem e_non : PEm X G Ex .non (.Constant .none n pos) := PE.imp pe_non fun σ H Q ⟨env, h, er, hr, q⟩ => q _ H .refl .non hr
theorem e_bl {b : Bool} : PEm X G Ex (.bl b) (.Constant (.bool b) n pos) := PE.imp pe_bl fun σ H Q ⟨env, h, er, hr, q⟩ => q _ H .refl (.bl b) hr
theorem e_int {i : Int} : PEm X G Ex (.int i) (.Constant (.int i) n pos) := PE.imp pe_int fun σ H Q ⟨env, h, er, hr, q⟩ => q _ H .refl (.int i) hr
theorem e_str {x : Str} : PEm X G Ex (.str x) (.Constant (.str x) n pos) := PE.imp pe_str fun σ H Q ⟨env, h, er, hr, q⟩ => q _ H .refl (.str x) hr
theorem e_bin {op : Operator} (hG : GMono G) (ha : PEm X G Ex a a') (hb : PEm X G Ex b b') : PEm X G Ex (.bin op a b) (.BinOp a' op b' pos) := PE.imp (pe_op op_binW ha hb) fun σ H Q ⟨env, h, er, hr, q⟩ => by
  simp only [wpE] at q
  refine se_mk hG er hr q fun x h1 V H1 q p1 r1 hr1 => se_mk hG (er.keep p1) hr1 q fun y h2 W H2 q p2 r2 hr2 => ?_
  exact ⟨x, y, h2, r1.keep p2, r2, hr2, binW_mono (fun _ _ => up.tr (p1.trans p2)) q⟩
theorem e_neg (hG : GMono G) (ha : PEm X G Ex a a') : PEm X G Ex (.neg a) (.UnaryOp .USub a' pos) := PE.imp (pe_un un_neg ha) fun σ H Q ⟨env, h, er, hr, q⟩ => by
  simp only [wpE] at q
  refine se_mk hG er hr q fun x h1 V H1 ⟨i, e, q⟩ p1 r1 hr1 => ?_
  subst e
  exact ⟨i, r1.int_inv, q _ H1 p1 (.int _) hr1⟩
theorem e_not (hG : GMono G) (ha : PEm X G Ex a a') : PEm X G Ex (.not a) (.UnaryOp .Not a' pos) := PE.imp (pe_notT ha) fun σ H Q ⟨env, h, er, hr, q⟩ => by
  simp only [wpE] at q
  refine se_mk hG er hr q fun x h1 V H1 q p1 r1 hr1 => ?_
  obtain ⟨k, t, q⟩ := truW_V r1 hr1 q
  exact ⟨k, t, q _ H1 p1 (.bl _) hr1⟩
theorem e_and {r : List PySem.Expr} (hG : GMono G) (ha : PEm X G Ex a a') (hb : PEm X G Ex b (.BoolOp .And (b' :: r) pos)) : PEm X G Ex (.and a b) (.BoolOp .And (a' :: b' :: r) pos) := PE.imp (pe_andT ha hb) fun σ H Q ⟨env, h, er, hr, q⟩ => by
  simp only [wpE] at q
  refine se_mk hG er hr q fun x h1 V H1 q p1 r1 hr1 => ?_
  obtain ⟨k, t, q⟩ := truW_V r1 hr1 q
  refine ⟨k, t, ?_⟩
  cases k with
  | true => exact se_mk hG (er.keep p1) hr1 q fun y h2 W H2 q p2 r2 hr2 => q W H2 (p1.trans p2) r2 hr2
  | false => exact q _ H1 p1 r1 hr1
theorem e_or {r : List PySem.Expr} (hG : GMono G) (ha : PEm X G Ex a a') (hb : PEm X G Ex b (.BoolOp .Or (b' :: r) pos)) : PEm X G Ex (.or a b) (.BoolOp .Or (a' :: b' :: r) pos) := PE.imp (pe_orT ha hb) fun σ H Q ⟨env, h, er, hr, q⟩ => by
  simp only [wpE] at q
  refine se_mk hG er hr q fun x h1 V H1 q p1 r1 hr1 => ?_
  obtain ⟨k, t, q⟩ := truW_V r1 hr1 q
  refine ⟨k, t, ?_⟩
  cases k with
  | false => exact se_mk hG (er.keep p1) hr1 q fun y h2 W H2 q p2 r2 hr2 => q W H2 (p1.trans p2) r2 hr2
  | true => exact q _ H1 p1 r1 hr1
theorem e_ite (hG : GMono G) (hc : PTm X G Ex c c') (ha : PEm X G Ex a a') (hb : PEm X G Ex b b') : PEm X G Ex (.ite c a b) (.IfExp c' a' b' pos) := PE.imp (pe_ifExp hc ha hb) fun σ H Q ⟨env, h, er, hr, q⟩ => by
  simp only [wpE] at q
  refine st_mk hG er hr q fun k h1 H1 q p1 hr1 => ?_
  cases k with
  | true => exact se_mk hG (er.keep p1) hr1 q fun y h2 W H2 q p2 r2 hr2 => q W H2 (p1.trans p2) r2 hr2
  | false => exact se_mk hG (er.keep p1) hr1 q fun y h2 W H2 q p2 r2 hr2 => q W H2 (p1.trans p2) r2 hr2
theorem e_cmp {op : CmpOp} (hG : GMono G) (hu : X.A.units + 64 < cLine) (ha : PEm X G Ex a a') (hb : PEm X G Ex b b') (hm : behindInMarks op b' = false) : PEm X G Ex (.cmp op a b) (.Compare a' [op] [b'] pos) := PE.imp (pe_cmpR (op_cmpW hu) ha hb hm) fun σ H Q ⟨env, h, er, hr, q⟩ => by
  simp only [wpE] at q
  refine se_mk hG er hr q fun x h1 V H1 q p1 r1 hr1 => se_mk hG (er.keep p1) hr1 q fun y h2 W H2 q p2 r2 hr2 => ?_
  exact ⟨x, y, h2, r1.keep p2, r2, hr2, cmpW_mono (fun k _ q H' p3 hr3 => q _ H' ((p1.trans p2).trans p3) (.bl k) hr3) q⟩
theorem t_cmp {op : CmpOp} (hG : GMono G) (hu : X.A.units + 64 < cLine) (ha : PEm X G Ex a a') (hb : PEm X G Ex b b') (hm : behindInMarks op b' = false) : PTm X G Ex (.cmp op a b) (.Compare a' [op] [b'] pos) := PT.imp (pt_cmpR (op_cmpW hu) ha hb hm) fun σ H Q ⟨env, h, er, hr, q⟩ => by
  simp only [wpT] at q
  refine se_mk hG er hr q fun x h1 V H1 q p1 r1 hr1 => se_mk hG (er.keep p1) hr1 q fun y h2 W H2 q p2 r2 hr2 => ?_
  exact ⟨x, y, h2, r1.keep p2, r2, hr2, cmpW_mono (fun k _ q H' p3 hr3 => ⟨k, rfl, q H' ((p1.trans p2).trans p3) hr3⟩) q⟩
theorem e_chain {o o2 : CmpOp} (hG : GMono G) (hu : X.A.units + 64 < cLine) (ha : PEm X G Ex a a') (hb : PEm X G Ex b b') (hc : PEm X G Ex c c') (hm : behindInMarks o2 c' = false) :
    PEm X G Ex (.chain o o2 a b c) (.Compare a' [o, o2] [b', c'] pos) := PE.imp (pe_chain (op_cmpW hu) (op_cmpW hu) ha hb hc hm) fun σ H Q ⟨env, h, er, hr, q⟩ => by
  simp only [wpE] at q
  refine se_mk hG er hr q fun x h1 V H1 q p1 r1 hr1 => se_mk hG (er.keep p1) hr1 q fun y h2 W H2 q p2 r2 hr2 => ?_
  refine ⟨x, y, h2, r1.keep p2, r2, hr2, cmpW_mono (fun k h3 q H3 p3 hr3 => ⟨k, rfl, ?_⟩) q⟩
  cases k with
  | true =>
    refine se_mk hG (er.keep ((p1.trans p2).trans p3)) hr3 q fun z h4 Z H4 q p4 r4 hr4 => ?_
    exact ⟨y, z, h4, r2.keep (p3.trans p4), r4, hr4, cmpW_mono (fun k _ q H' p5 hr5 => q _ H' ((((p1.trans p2).trans p3).trans p4).trans p5) (.bl k) hr5) q⟩
  | false => exact q _ H3 ((p1.trans p2).trans p3) (.bl _) hr3
theorem t_chain {o o2 : CmpOp} (hG : GMono G) (hu : X.A.units + 64 < cLine) (ha : PEm X G Ex a a') (hb : PEm X G Ex b b') (hc : PEm X G Ex c c') (hm : behindInMarks o2 c' = false) :
    PTm X G Ex (.chain o o2 a b c) (.Compare a' [o, o2] [b', c'] pos) := PT.imp (pt_chain (op_cmpW hu) (op_cmpW hu) ha hb hc hm) fun σ H Q ⟨env, h, er, hr, q⟩ => by
  simp only [wpT] at q
  refine se_mk hG er hr q fun x h1 V H1 q p1 r1 hr1 => se_mk hG (er.keep p1) hr1 q fun y h2 W H2 q p2 r2 hr2 => ?_
  refine ⟨x, y, h2, r1.keep p2, r2, hr2, cmpW_mono (fun k h3 q H3 p3 hr3 => ⟨k, rfl, ?_⟩) q⟩
  cases k with
  | true =>
    refine se_mk hG (er.keep ((p1.trans p2).trans p3)) hr3 q fun z h4 Z H4 q p4 r4 hr4 => ?_
    exact ⟨y, z, h4, r2.keep (p3.trans p4), r4, hr4, cmpW_mono (fun k _ q H' p5 hr5 => ⟨k, rfl, q H' ((((p1.trans p2).trans p3).trans p4).trans p5) hr5⟩) q⟩
  | false => exact ⟨false, rfl, q H3 ((p1.trans p2).trans p3) hr3⟩
theorem e_isN {neg : Bool} (hG : GMono G) (ha : PEm X G Ex a a') : PEm X G Ex (.isN a neg) (.Compare a' [if neg then .IsNot else .Is] [.Constant .none n p] pos) := PE.imp (pe_cmpR (op_isNW neg) ha pe_non rfl) fun σ H Q ⟨env, h, er, hr, q⟩ => by
  simp only [wpE] at q
  refine se_mk hG er hr q fun x h1 V H1 q p1 r1 hr1 => ?_
  exact ⟨rfl, x, h1, r1, hr1, isNW_mono (fun k _ q H' p3 hr3 => q _ H' (p1.trans p3) (.bl k) hr3) q⟩
theorem t_isN {neg : Bool} (hG : GMono G) (ha : PEm X G Ex a a') : PTm X G Ex (.isN a neg) (.Compare a' [if neg then .IsNot else .Is] [.Constant .none n p] pos) := PT.imp (pt_cmpR (op_isNW neg) ha pe_non rfl) fun σ H Q ⟨env, h, er, hr, q⟩ => by
  simp only [wpT] at q
  refine se_mk hG er hr q fun x h1 V H1 q p1 r1 hr1 => ?_
  exact ⟨rfl, x, h1, r1, hr1, isNW_mono (fun k _ q H' p3 hr3 => ⟨k, rfl, q H' (p1.trans p3) hr3⟩) q⟩
theorem e_isB {b neg : Bool} (hG : GMono G) (ha : PEm X G Ex a a') : PEm X G Ex (.isB a b neg) (.Compare a' [if neg then .IsNot else .Is] [.Constant (.bool b) n p] pos) := PE.imp (pe_cmpR (op_isBW b neg) ha pe_bl rfl) fun σ H Q ⟨env, h, er, hr, q⟩ => by
  simp only [wpE] at q
  refine se_mk hG er hr q fun x h1 V H1 q p1 r1 hr1 => ?_
  exact ⟨rfl, x, h1, r1, hr1, isBW_mono (fun k _ q H' p3 hr3 => q _ H' (p1.trans p3) (.bl k) hr3) q⟩
theorem t_isB {b neg : Bool} (hG : GMono G) (ha : PEm X G Ex a a') : PTm X G Ex (.isB a b neg) (.Compare a' [if neg then .IsNot else .Is] [.Constant (.bool b) n p] pos) := PT.imp (pt_cmpR (op_isBW b neg) ha pe_bl rfl) fun σ H Q ⟨env, h, er, hr, q⟩ => by
  simp only [wpT] at q
  refine se_mk hG er hr q fun x h1 V H1 q p1 r1 hr1 => ?_
  exact ⟨rfl, x, h1, r1, hr1, isBW_mono (fun k _ q H' p3 hr3 => ⟨k, rfl, q H' (p1.trans p3) hr3⟩) q⟩
theorem e_isin {neg : Bool} (hG : GMono G) (hu : X.A.units + 65 < cLine) (ha : PEm X G Ex a a') (hb : PEm X G Ex b b') (hm : ∀ op, behindInMarks op b' = false) :
    PEm X G Ex (.isin a b neg) (.Compare a' [if neg then .NotIn else .In] [b'] pos) := PE.imp (pe_cmpR (op_inW neg hu) ha hb (hm _)) fun σ H Q ⟨env, h, er, hr, q⟩ => by
  simp only [wpE] at q
  refine se_mk hG er hr q fun x h1 V H1 q p1 r1 hr1 => se_mk hG (er.keep p1) hr1 q fun y h2 W H2 q p2 r2 hr2 => ?_
  exact ⟨x, y, h2, r1.keep p2, r2, hr2, inW_mono (fun k _ q H' p3 hr3 => q _ H' ((p1.trans p2).trans p3) (.bl _) hr3) q⟩
theorem t_isin {neg : Bool} (hG : GMono G) (hu : X.A.units + 65 < cLine) (ha : PEm X G Ex a a') (hb : PEm X G Ex b b') (hm : ∀ op, behindInMarks op b' = false) :
    PTm X G Ex (.isin a b neg) (.Compare a' [if neg then .NotIn else .In] [b'] pos) := PT.imp (pt_cmpR (op_inW neg hu) ha hb (hm _)) fun σ H Q ⟨env, h, er, hr, q⟩ => by
  simp only [wpT] at q
  refine se_mk hG er hr q fun x h1 V H1 q p1 r1 hr1 => se_mk hG (er.keep p1) hr1 q fun y h2 W H2 q p2 r2 hr2 => ?_
  exact ⟨x, y, h2, r1.keep p2, r2, hr2, inW_mono (fun k _ q H' p3 hr3 => ⟨_, rfl, q H' ((p1.trans p2).trans p3) hr3⟩) q⟩
theorem a_nil : PAm X G Ex .nil [] := PA.imp pa_nil fun σ H Q ⟨env, h, er, hr, q⟩ => by
  simp only [wpEs] at q
  exact q _ H .refl .nil hr
theorem a_cons {es : Es} {es' : List PySem.Expr} (hG : GMono G) (ha : PEm X G Ex a a') (hs : PAm X G Ex es es') (ns : noStar a' = true) : PAm X G Ex (.cons a es) (a' :: es') := PA.imp (pa_cons ha hs (star_cons ns _ _)) fun σ H Q ⟨env, h, er, hr, q⟩ => by
  simp only [wpEs] at q
  refine se_mk hG er hr q fun x h1 V H1 q p1 r1 hr1 => sa_mk hG (er.keep p1) hr1 q fun y h2 W H2 q p2 r2 hr2 => ?_
  exact q _ H2 (p1.trans p2) (.cons (r1.keep p2) r2) hr2
theorem e_tup {es : Es} {es' : List PySem.Expr} (hG : GMono G) (hs : PAm X G Ex es es') : PEm X G Ex (.tup es) (.Tuple es' n pos) := PE.imp (pe_tup hs) fun σ H Q ⟨env, h, er, hr, q⟩ => by
  simp only [wpE] at q
  refine sa_mk hG er hr q fun x h1 V H1 ⟨l, q⟩ p1 r1 hr1 => ?_
  exact ⟨by rw [r1.length]; exact l, tup_new p1 hr1 r1 q⟩
theorem e_lst {m : Bool} {es : Es} {es' : List PySem.Expr} (hG : GMono G) (hs : PAm X G Ex es es') : PEm X G Ex (.lst m es) (.List es' pos) := PE.imp (pe_laid (pe_lst hs)) fun σ H Q ⟨env, h, er, hr, q⟩ => by
  simp only [wpE] at q
  refine sa_mk hG er hr q fun x h1 V H1 q p1 r1 hr1 => ?_
  exact laid_new p1 hr1 r1 q
theorem e_idx (hG : GMono G) (ha : PEm X G Ex a a') (hb : PEm X G Ex b b') (hp : PlainIx b') : PEm X G Ex (.idx a b) (.Subscript a' b' pos) := PE.imp (pe_ix ix_W ha hb hp) fun σ H Q ⟨env, h, er, hr, q⟩ => by
  simp only [wpE] at q
  refine se_mk hG er hr q fun x h1 V H1 q p1 r1 hr1 => se_mk hG (er.keep p1) hr1 q fun y h2 W H2 q p2 r2 hr2 => ?_
  exact ⟨x, y, h2, r1.keep p2, r2, hr2, idxW_mono (fun _ _ => up.tr (p1.trans p2)) q⟩
theorem e_rev {k : Nat} {q p2 : Pos} (hG : GMono G) (ha : PEm X G Ex a a') : PEm X G Ex (.rev a) (.Subscript a' (.Slice none none (some (minus1 p q k)) p2) pos) := PE.imp (pe_rev ha) fun σ H Q ⟨env, h, er, hr, q⟩ => by
  simp only [wpE] at q
  refine se_mk hG er hr q fun x h1 V H1 q p1 r1 hr1 => ?_
  exact ⟨x, h1, r1, hr1, revW_mono (fun _ _ => up.tr p1) q⟩
theorem pw_of {op : BoolOp} {es : List PySem.Expr} {t : TT} (h0 : PT X (.BoolOp op es pos) t) : PW X (.BoolOp op es pos) t := ⟨fun wh pins s σ H Q I h => by
  have q := h0.run pins s σ H Q I h
  have e : ∀ w, PySem.isTrue (.BoolOp op es pos) X.env w = allTrue op es X.env := fun w => by simp only [PySem.isTrue]
  rw [e] at q ⊢
  exact q⟩
theorem t_not (hG : GMono G) (ha : PTm X G Ex a a') : PTm X G Ex (.not a) (.UnaryOp .Not a' pos) := PT.imp (pt_not ha) fun σ H Q ⟨env, h, er, hr, q⟩ => by
  simp only [wpT] at q
  exact st_mk hG er hr q fun x h1 H1 q p1 hr1 => q H1 p1 hr1
theorem t_and {r : List PySem.Expr} (hG : GMono G) (ha : PTm X G Ex a a') (hb : PW X (.BoolOp .And (b' :: r) pos) (ST X (wpT G Ex b))) : PTm X G Ex (.and a b) (.BoolOp .And (a' :: b' :: r) pos) := PT.imp (pw_and ha hb).pt fun σ H Q ⟨env, h, er, hr, q⟩ => by
  simp only [wpT] at q
  refine st_mk hG er hr q fun k h1 H1 q p1 hr1 => ?_
  cases k with
  | true => exact st_mk hG (er.keep p1) hr1 q fun y h2 H2 q p2 hr2 => q H2 (p1.trans p2) hr2
  | false => exact q H1 p1 hr1
theorem t_or {r : List PySem.Expr} (hG : GMono G) (ha : PTm X G Ex a a') (hb : PW X (.BoolOp .Or (b' :: r) pos) (ST X (wpT G Ex b))) : PTm X G Ex (.or a b) (.BoolOp .Or (a' :: b' :: r) pos) := PT.imp (pw_or ha hb).pt fun σ H Q ⟨env, h, er, hr, q⟩ => by
  simp only [wpT] at q
  refine st_mk hG er hr q fun k h1 H1 q p1 hr1 => ?_
  cases k with
  | false => exact st_mk hG (er.keep p1) hr1 q fun y h2 H2 q p2 hr2 => q H2 (p1.trans p2) hr2
  | true => exact q H1 p1 hr1
theorem t_ite (hG : GMono G) (hc : PTm X G Ex c c') (ha : PTm X G Ex a a') (hb : PTm X G Ex b b') : PTm X G Ex (.ite c a b) (.IfExp c' a' b' pos) := by
  refine ⟨fun pins s σ H Q I ⟨env, h, er, hr, q⟩ => ?_⟩
  simp only [wpT] at q
  simp only [PySem.isTrue]
  refine wpAny_bind (thn (hc.run pins s σ H (fun k H1 => if k = true then ST X (wpT G Ex a) σ H1 Q else ST X (wpT G Ex b) σ H1 Q) I (st_mk hG er hr q fun k h1 H1 q p1 hr1 => ?_)) fun k s1 ⟨H1, I1, q1⟩ => ?_)
  · cases k with
    | true => exact st_mk hG (er.keep p1) hr1 q fun y h2 H2 q p2 hr2 => q H2 (p1.trans p2) hr2
    | false => exact st_mk hG (er.keep p1) hr1 q fun y h2 H2 q p2 hr2 => q H2 (p1.trans p2) hr2
  · cases k with
    | true => exact ha.run pins s1 σ H1 Q I1 q1
    | false => exact hb.run pins s1 σ H1 Q I1 q1
theorem t_val {e : E} {e' : PySem.Expr} (hG : GMono G) (he : PEm X G Ex e e') (hw : ∀ env h Q, wpT G Ex e env h Q → wpE G Ex e env h (fun v h2 => truW v h2 Q))
    (ht : ∀ whole : Sem Value, PySem.isTrue e' X.env whole = (do let v ← whole; standAt e'.pos; holding [v] (truthy v))) : PTm X G Ex e e' := PT.imp (pt_truth he ht) fun σ H Q ⟨env, h, er, hr, q⟩ => by
  refine se_mk hG er hr (hw _ _ _ q) fun x h1 V H1 q p1 r1 hr1 => ?_
  obtain ⟨k, t, q⟩ := truW_V r1 hr1 q
  exact ⟨k, t, q H1 p1 hr1⟩
end
end MP
set_option Elab.async false
set_option linter.all false
set_option maxRecDepth 100000
set_option maxHeartbeats 1000000
namespace MP
open PySem PySem.Spec PyProof.Rows L2
section
variable {X : Cx} {pins : List (Addr × Obj)} {σ : L2.St} {H : Hp} {s : Shared}
abbrev frz2 (o : Obj) (u : HO) : HO := .frz o (.frz o u)
theorem inv_relock {d : Addr} {od : Obj} {u : HO} (I : Inv X pins σ H s) (h : H d = some (.frz od u)) (hn : ∀ o' u', X.H_0 d ≠ some (.frz o' u')) : Inv X pins σ (upd H d (frz2 od u)) s := by
  have away : ∀ b o, H b = some o → (∀ o' u', o ≠ .frz o' u') → b ≠ d := fun b o e k z => by
    subst z
    exact k _ _ (Option.some.inj (e.symm.trans h))
  have none_ne : ∀ b, H b = none → b ≠ d := fun b e z => by subst z; rw [h] at e; exact nomatch e
  have keepO : ∀ {b o}, ObjOk X.prog X.w H s.heap b o → ObjOk X.prog X.w (upd H d (frz2 od u)) s.heap b o := fun x =>
    x.stay (fun _ _ _ q => q) (fun c q => (upd_ne (away c _ q (fun _ _ z => nomatch z))).trans q) fun c xs q => (upd_ne (away c _ q (fun _ _ z => nomatch z))).trans q
  constructor
  · exact I.ok
  · exact I.os
  · exact I.bare
  · constructor
    · exact I.base.keep
    · exact I.base.slot
    · intro b o e n hx
      have q := I.base.free b o e n hx
      exact (upd_ne (none_ne b q)).trans q
    · exact I.base.there
    · intro b xs e
      have q := I.base.tups b xs e
      exact (upd_ne (away b _ q (fun _ _ z => nomatch z))).trans q
    · intro b o x e
      exact (upd_ne (fun z => by subst z; exact hn o x e)).trans (I.base.frzs b o x e)
    · intro b ps e
      obtain ⟨m, q⟩ := I.base.tbls b ps e
      exact ⟨m, (upd_ne (away b _ q (fun _ _ z => nomatch z))).trans q⟩
  · exact I.loc
  · exact I.cell
  · exact (upd_ne (none_ne _ I.free)).trans I.free
  · intro x c e
    have q := I.freeC x c e
    exact (upd_ne (none_ne c q)).trans q
  · intro p hp
    obtain ⟨e, n, r⟩ := I.pin p hp
    exact ⟨e, (upd_ne (none_ne _ n)).trans n, r⟩
  · intro b o e
    by_cases hb : b = d
    · subst hb
      rw [upd_same] at e
      cases e
      exact ⟨(I.hok b _ h).1, keepO (I.hok b _ h)⟩
    · rw [upd_ne hb] at e
      exact keepO (I.hok b o e)
  · exact I.len
theorem upd_upd {a : Addr} {o u : HO} : upd (upd H a o) a u = upd H a u := by
  funext b
  by_cases h : b = a
  · subst h; rw [upd_same, upd_same]
  · rw [upd_ne h, upd_ne h, upd_ne h]
theorem inv_lock2 {d : Addr} {u : HO} (I : Inv X pins σ H s) (h : H d = some u) (mu : Mut (some u)) : ∃ od, Inv X pins σ (upd H d (frz2 od u)) s := by
  obtain ⟨od, I1⟩ := I.lock h mu
  have I2 := inv_relock I1 upd_same (I.nofrz h mu)
  rw [upd_upd] at I2
  exact ⟨od, I2⟩
theorem inv_unlock2 {d : Addr} {od : Obj} {u : HO} (I : Inv X pins σ H s) (h : H d = some (frz2 od u)) (hn : ∀ o' u', X.H_0 d ≠ some (.frz o' u')) : Inv X pins σ (upd H d u) s := by
  have I1 := I.unlock h hn
  have I2 := I1.unlock (upd_same) hn
  rw [upd_upd] at I2
  exact I2
def lkE (d : Addr) (u : HO) (t : TE) : TE := fun σ H Q => H d = some u ∧ Mut (some u) ∧ ∀ od, t σ (upd H d (frz2 od u)) fun v H' => H' d = some (frz2 od u) ∧ Q v (upd H' d u)
theorem pe_lk {e : PySem.Expr} {t : TE} (h : PE X e t) : PE X e (fun σ H Q => ∃ d u, lkE d u t σ H Q) := ⟨fun pins s σ H Q I ⟨d, u, hd, mu, hw⟩ => by
  obtain ⟨od, I1⟩ := inv_lock2 I hd mu
  refine thn (h.run pins s σ _ _ I1 (hw od)) fun v s1 ⟨x, H', I2, r, e, q⟩ => ?_
  exact ⟨x, _, inv_unlock2 I2 e (I.nofrz hd mu), r, q⟩⟩
theorem pts_lk {e : List PySem.Expr} {t : TT} (h : PTs X e t) : PTs X e (fun σ H Q => ∃ d u, H d = some u ∧ Mut (some u) ∧ ∀ od, t σ (upd H d (frz2 od u)) fun v H' => H' d = some (frz2 od u) ∧ Q v (upd H' d u)) := ⟨fun pins s σ H Q I ⟨d, u, hd, mu, hw⟩ => by
  obtain ⟨od, I1⟩ := inv_lock2 I hd mu
  refine thn (h.run pins s σ _ _ I1 (hw od)) fun v s1 ⟨H', I2, e, q⟩ => ?_
  exact ⟨_, inv_unlock2 I2 e (I.nofrz hd mu), q⟩⟩
end
section
variable {K : KF} {H : Hp} {d : Addr} {od : Obj} {u : HO}
theorem sqT_un (h : H d = some (frz2 od u)) {a : Addr} {vs : List V} (q : SqT K H a vs) (o : HO) : SqT K (upd H d o) a vs := by
  rcases q with (q | ⟨o', q⟩) | q
  · exact .inl (.inl ((upd_ne fun z => by subst z; rw [h] at q; cases q).trans q))
  · exact .inl (.inr ⟨o', (upd_ne fun z => by subst z; rw [h] at q; cases q).trans q⟩)
  · exact .inr q
theorem fzL_un (h : H d = some (frz2 od u)) {a : Addr} {vs : List V} (q : FzL K H a vs) (o : HO) : FzL K (upd H d o) a vs := by
  rcases q with ⟨o', q⟩ | q
  · exact .inl ⟨o', (upd_ne fun z => by subst z; rw [h] at q; cases q).trans q⟩
  · exact .inr q
mutual
theorem Rep.un (h : H d = some (frz2 od u)) (o : HO) : ∀ {x : PV} {v : V}, Rep K H v x → Rep K (upd H d o) v x
  | _, _, .non => .non
  | _, _, .bl b => .bl b
  | _, _, .int i => .int i
  | _, _, .str x => .str x
  | _, _, .tup a b => .tup ((upd_ne fun z => by subst z; rw [h] at a; cases a).trans a) (Reps.un h o b)
  | _, _, .lst a b => .lst (fzL_un h a o) (Reps.un h o b)
  | _, _, .dctK a b c => .dctK ((upd_ne fun z => by subst z; rw [h] at a; cases a).trans a) b (Reps.un h o c)
  | _, _, .dctT a b c => .dctT ((upd_ne fun z => by subst z; rw [h] at a; cases a).trans a) b (Reps.un h o c)
  | _, _, .loc a => .loc a
  | _, _, .fn z a b => .fn z a b
  | _, _, .cst a => .cst a
  | _, _, .dtt a b c => .dtt ((upd_ne fun z => by subst z; rw [h] at a; cases a).trans a) b (Reps.un h o c)
theorem Reps.un (h : H d = some (frz2 od u)) (o : HO) : ∀ {xs : List PV} {vs : List V}, Reps K H vs xs → Reps K (upd H d o) vs xs
  | _, _, .nil => .nil
  | _, _, .cons a b => .cons (Rep.un h o a) (Reps.un h o b)
end
theorem HRep.un {h : MH} (hd : H d = some (frz2 od u)) (o : HO) (r : HRep K h H) : HRep K h (upd H d o) ∧ h d = none := by
  have hn : h d = none := by
    cases e : h d with
    | none => rfl
    | some c => obtain ⟨z, h1, h2⟩ := r d c e; rw [hd] at h1; cases h1; exact nomatch h2
  refine ⟨fun a c e => ?_, hn⟩
  obtain ⟨z, h1, h2⟩ := r a c e
  refine ⟨z, (upd_ne fun w => by subst w; rw [hn] at e; cases e).trans h1, ?_⟩
  exact match c, z, h2 with
    | _, _, .lst a => .lst (a.un hd o)
    | _, _, .dctK a b => .dctK a (b.un hd o)
    | _, _, .dtt a b => .dtt a (b.un hd o)
    | _, _, .dtf a b => .dtf a (b.un hd o)
    | _, _, .dcf a b => .dcf a (b.un hd o)
    | _, _, .ins a b c => .ins a b (c.un hd o)
theorem HRep.lk {h : MH} {o u0 : HO} (hd : H d = some u0) (m1 : ∀ xs, u0 ≠ .tup xs) (m2 : ∀ o v, u0 ≠ .frz o v) (hn : h d = none) (r : HRep K h H) : HRep K h (upd H d o) ∧ Pres H (upd H d o) := by
  have p : Pres H (upd H d o) := .wr hd m1 m2
  exact ⟨r.keep p fun a c e => upd_ne fun w => (by subst w; rw [hn] at e; cases e), p⟩
theorem laid_at {h : MH} {H0 : Hp} {Q : VK} {m : Bool} {xs : List PV} {vs : List V} (p0 : Pres H0 H) (hr : HRep K h H) (hn : h d = none) (hd : H d = some (.lst vs)) (rs : Reps K H vs xs) (q : newL m xs h (up K H0 Q)) : Laid Q (.ref d) H := by
  unfold newL at q
  cases m with
  | true =>
    refine Laid.none (q.2 d hn _ _ p0 (.loc d) fun b c e => ?_)
    unfold MH.put at e
    by_cases hb : b = d
    · subst hb
      rw [if_pos rfl] at e; cases e
      exact ⟨_, hd, .lst rs⟩
    · rw [if_neg hb] at e
      exact hr b c e
  | false =>
    have ok : ∀ a, a = d → ∃ u, H a = some u ∧ Fz1 u := fun a e => ⟨.lst vs, by subst e; exact hd, True.intro⟩
    refine ⟨fun a => a = d, ok, fun H' f => ?_⟩
    have pr : Pres H H' := f.pres ok
    obtain ⟨u, o, e1, e2⟩ := f.at_ d rfl
    rw [hd] at e1
    cases e1
    refine q.2 _ _ (p0.trans pr) (.lst (.inl ⟨o, e2⟩) (rs.keep pr)) (hr.keep pr fun a c e => ?_)
    exact f.out a fun w => by subst w; rw [hn] at e; cases e
end
theorem wipe_at {τ : L2.St} : ∀ {vs : List Nat} {i : Nat}, (wipe τ vs)[i]? = if i ∈ vs ∧ i < τ.length then some none else τ[i]?
  | [], i => by simp [wipe]
  | v :: vs, i => by
    have l : (wipe τ vs).length = τ.length := wipe_length τ vs
    show ((wipe τ vs).set v none)[i]? = _
    by_cases h : v = i
    · subst h
      by_cases hl : v < τ.length
      · rw [List.getElem?_set_self (by rw [l]; exact hl), if_pos ⟨List.mem_cons_self .., hl⟩]
      · rw [List.getElem?_eq_none (by simpa [l] using hl), if_neg (fun z => hl z.2), List.getElem?_eq_none (by simpa using hl)]
    · rw [List.getElem?_set_ne h, wipe_at]
      simp [Ne.symm h]
where
  wipe_length (τ : L2.St) : ∀ vs : List Nat, (wipe τ vs).length = τ.length
    | [] => rfl
    | v :: vs => by show ((wipe τ vs).set v none).length = _; rw [List.length_set, wipe_length]
theorem wipe_len (τ : L2.St) (vs : List Nat) : (wipe τ vs).length = τ.length := wipe_at.wipe_length τ vs
theorem wipe_same {σ σ2 : L2.St} {vs : List Nat} (l : σ2.length = (wipe σ vs).length) (o : ∀ i, i ∉ vs → σ2[i]? = (wipe σ vs)[i]?) : wipe σ2 vs = wipe σ vs := by
  apply List.ext_getElem?
  intro i
  rw [wipe_len] at l
  rw [wipe_at, wipe_at, l]
  by_cases h : i ∈ vs
  · by_cases hl : i < σ.length
    · rw [if_pos ⟨h, hl⟩, if_pos ⟨h, hl⟩]
    · rw [if_neg (fun z => hl z.2), if_neg (fun z => hl z.2), List.getElem?_eq_none (by rw [l]; omega), List.getElem?_eq_none (by omega)]
  · rw [if_neg (fun z => h z.1), if_neg (fun z => h z.1), o i h, wipe_at, if_neg (fun z => h z.1)]
theorem EnvRep.un {K : KF} {H : Hp} {d : Addr} {od : Obj} {u : HO} {σ : L2.St} {env : Env} (h : H d = some (frz2 od u)) (o : HO) (e : EnvRep K H σ env) : EnvRep K (upd H d o) σ env :=
  ⟨e.1, fun i v q => let ⟨V, a, b⟩ := e.2 i v q; ⟨V, a, b.un h o⟩⟩
theorem Pres.past {H1 H : Hp} {d : Addr} {o : HO} (p : Pres H1 H) (hn : H1 d = none) : Pres H1 (upd H d o) :=
  ⟨fun a xs e => (upd_ne (ne_of_none e hn)).trans (p.tup a xs e), fun a o' u e => (upd_ne (ne_of_none e hn)).trans (p.frz a o' u e)⟩
def SC (X : Cx) (w : Env → MH → (Bool → MH → Prop) → Prop) : TT := fun σ H Q => ∃ env h, EnvRep X.K H σ env ∧ HRep X.K h H ∧ w env h (upT X.K H Q)
theorem comp_imp {X : Cx} {G : Calls} {Ex : XP} {m : Bool} {elt : E} {tg : Tg} {it : It} {c : Eo} {own : List (Str × Nat)} (hG : GMono G) (hown : own.map (·.2) = tg.own) :
    ∀ {wi : TI} {g : TG} {tt : TT} {te : TE}, wi = SI X (wpIt G Ex it) → g = SG X tg → (tt = fun σ H Q => ∃ d u, H d = some u ∧ Mut (some u) ∧ ∀ od, SC X (wpC G c) σ (upd H d (frz2 od u)) fun v H' => H' d = some (frz2 od u) ∧ Q v (upd H' d u)) →
      (te = fun σ H Q => ∃ d u, lkE d u (SE X (wpE G noX elt)) σ H Q) → ∀ σ H Q, SE X (wpE G Ex (.comp m elt tg it c)) σ H Q → tLc wi g tt te (own.map (·.2)) σ H (Laid Q) := by
  intro wi g tt te ewi eg ett ete σ H Q ⟨env, h, er, hr, q⟩
  subst ewi eg ett ete
  simp only [wpE] at q
  rw [hown]
  refine ⟨env, h, er, hr, wpIt_mono hG (fun S h1 q J H1 p1 hr1 wk len D hD => ?_) q⟩
  generalize hturn : (fun (x : PV) (h2 : MH) (R : Option PV → MH → Prop) => tgW tg x (wipeE env tg.own) fun env' => wpC G c env' h2 fun k h3 => if k = true then wpE G noX elt env' h3 fun y h4 => R (some y) h4 else R none h3) = turn at q
  let W : Nat → Nat → Hp → Prop := fun i n Hc => ∃ h' acc vs, Hc D = some (.lst vs) ∧ Pres H1 Hc ∧ HRep X.K h' Hc ∧ h' D = none ∧ Reps X.K Hc vs acc ∧ acc.length ≤ i ∧ i ≤ S.xs.length ∧ n = S.xs.length - i ∧
    compW S.stays turn (S.xs.drop i) h' (fun ys h5 => newL m (acc ++ ys) h5 (up X.K H Q))
  refine ⟨W, ⟨S.xs.length, h1, [], [], upd_same, .new hD, hr1.newP hD, hr1.fresh hD, .nil, Nat.le_refl _, Nat.zero_le _, rfl, q⟩, ?_⟩
  intro i n Hc ⟨h', acc, vs, hDc, pc, hrc, hn, rs, la, li, en, cw⟩
  by_cases hi : i < S.xs.length
  · right
    rw [List.drop_eq_getElem_cons hi] at cw
    obtain ⟨st, cw⟩ := cw
    refine ⟨wk.go i Hc h' pc hrc st hi, W (i + 1) (S.xs.length - (i + 1)), fun H' w => ⟨_, by omega, w⟩, fun xv H' y => ?_⟩
    obtain ⟨v, ev, gr, rv⟩ := wk.yld i Hc h' xv H' pc hrc st hi y
    rw [List.getElem?_eq_getElem hi] at ev
    cases ev
    subst hturn
    have pH : Pres H1 H' := pc.trans gr.pres
    refine ⟨_, wipeE env tg.own, h', (((er.keep p1).keep pH).wipe tg.own), gr.hrep hrc, rv, tgW_mono (fun env2 qt σ2 er2 l2 o2 => ⟨wipe_same l2 o2, ?_⟩) cw⟩
    refine ⟨D, .lst vs, gr D _ hDc, True.intro, fun od => ?_⟩
    obtain ⟨hrl, pl⟩ := HRep.lk (o := frz2 od (.lst vs)) (gr D _ hDc) (fun _ z => nomatch z) (fun _ _ z => nomatch z) hn (gr.hrep hrc)
    refine ⟨env2, h', er2.keep pl, hrl, wpC_mono hG (fun b h3 qt H3 p3 hr3 => ?_) qt⟩
    have d3 : H3 D = some (frz2 od (.lst vs)) := p3.frz D _ _ upd_same
    obtain ⟨u1, u2⟩ := HRep.un d3 (.lst vs) hr3
    have rs3 : Reps X.K H3 vs acc := ((rs.keep gr.pres).keep pl).keep p3
    have ps3 : Pres H1 H3 := (pH.trans pl).trans p3
    refine ⟨d3, ?_⟩
    cases b with
    | false =>
      exact ⟨h3, acc, vs, upd_same, ps3.past hD, u1, u2, rs3.un d3 _, by omega, hi, rfl, qt⟩
    | true =>
      refine ⟨D, .lst vs, upd_same, True.intro, fun od2 => ?_⟩
      obtain ⟨hrl2, pl2⟩ := HRep.lk (o := frz2 od2 (.lst vs)) (H := upd H3 D (.lst vs)) upd_same (fun _ z => nomatch z) (fun _ _ z => nomatch z) u2 u1
      refine ⟨env2, h3, ((((er2.keep pl).keep p3).un d3 (.lst vs)).keep pl2), hrl2, wpE_mono hG (fun y h4 qt V H4 p4 r4 hr4 => ?_) qt⟩
      have d4 : H4 D = some (frz2 od2 (.lst vs)) := p4.frz D _ _ upd_same
      refine ⟨d4, vs, upd_same, ?_, ?_⟩
      · rw [rs.length]; omega
      · rw [upd_upd]
        obtain ⟨w1, w2⟩ := HRep.un d4 (.lst (vs ++ [V])) hr4
        have ps4 : Pres H1 H4 := ((ps3.past hD).trans pl2).trans p4
        refine ⟨h4, acc ++ [y], vs ++ [V], upd_same, ps4.past hD, w1, w2, ?_, by rw [List.length_append]; simpa using la, hi, rfl, ?_⟩
        · exact (((((rs3.un d3 (.lst vs)).keep pl2).keep p4).un d4 _).append (.cons (r4.un d4 _) .nil))
        · refine compW_mono (fun _ _ _ _ k q => ?_) (fun ys h k => ?_) qt
          · exact tgW_mono (fun _ q => wpC_mono hG (fun b _ q => by
              cases b with
              | true => exact wpE_mono hG (fun _ _ q => k _ _ q) q
              | false => exact k _ _ q) q) q
          · rw [List.append_assoc]; exact k
  · left
    have e : i = S.xs.length := by omega
    subst e
    rw [List.drop_length] at cw
    obtain ⟨st, cw⟩ := cw
    refine ⟨wk.stop _ Hc h' pc hrc st (Nat.le_refl _), laid_at (m := m) (p1.trans pc) hrc hn hDc rs ?_⟩
    simpa using cw
theorem e_comp {X : Cx} {G : Calls} {Ex : XP} {m : Bool} {elt : E} {tg : Tg} {it : It} {c : Eo} {elt' tg' it' : PySem.Expr} {ifs' : List PySem.Expr} {sc' : Scope} {own : List (Str × Nat)} {pos : Pos} (hG : GMono G) (hc : X.calm = true) (hN : X.N.Nodup)
    (hi : PI X tg' it' (SI X (wpIt G Ex it))) (ok : BlkOk X.N X.env.scope sc' own) (hown : own.map (·.2) = tg.own)
    (hg : ∀ (s : Shared) (H : Hp) (C : Addr) (cl : List (Str × Addr)) (fp : List Addr), PG (X.blk s H sc' (compEnvC sc' cl C X.env) fp) tg' (SG X tg))
    (ht : ∀ (s : Shared) (H : Hp) (C : Addr) (cl : List (Str × Addr)) (fp : List Addr), PTs (X.blk s H sc' (compEnvC sc' cl C X.env) fp) ifs' (SC X (wpC G c)))
    (he : ∀ (s : Shared) (H : Hp) (C : Addr) (cl : List (Str × Addr)) (fp : List Addr), PE (X.blk s H sc' (compEnvC sc' cl C X.env) fp) elt' (SE X (wpE G noX elt)))
    (hs : ∀ x, foldedSetIterable it' X.env x = pure x) : PE X (.ListComp elt' [⟨tg', it', ifs', 0⟩] sc' pos) (SE X (wpE G Ex (.comp m elt tg it c))) :=
  PE.imp (pe_laid (pe_lc hc hN hi ok hg (fun s H C cl fp => pts_lk (ht s H C cl fp)) (fun s H C cl fp => pe_lk (he s H C cl fp)) hs)) (comp_imp hG hown rfl rfl rfl rfl)
end MP
set_option Elab.async false
set_option linter.all false
set_option maxRecDepth 100000
namespace MP
open PySem L2
section
variable {X : Cx} {pins : List (Addr × Obj)} {σ : L2.St} {H : Hp} {s : Shared}
def tDisp1 (tk tv : TE) : TE := fun σ H Q => ∀ p, H p = none → tk σ (upd H p (.dK [])) fun x H1 => tv σ H1 fun y H2 => H2 p = some (.dK []) ∧
  ((∃ kk, x = kV kk ∧ Q (.ref p) (upd H2 p (.dK [(kk, y)]))) ∨ ∃ b ks, x = .ref b ∧ H2 b = some (.tup (ks.map kV)) ∧ Q (.ref p) (upd H2 p (.dT [(ks, y)])))
theorem pe_disp1 {k v : Expr} {tk tv : TE} {pos : Pos} (hu : X.A.units + 1 < cLine) (hk : PE X k tk) (hv : PE X v tv) : PE X (.Dict [some k] [v] pos) (tDisp1 tk tv) := by
  refine ⟨fun pins s σ H Q I q => ?_⟩
  have hn := I.hok.fresh (Nat.le_refl s.heap.objs.size)
  have I1 := I.laid (a := s.heap.objs.size) (o := .dK []) (h' := s.heap.push { cls := .type "dict", data := .dict #[] }) (t' := s.toks) (fun _ _ q => Heap.get?_push_of_some _ q) (Nat.le_refl _) (dk_empty s.heap I.big)
  refine wpAny_Dict_any rfl rfl (by simp) (by simp) ?_
  refine pairTrees_cons_walk (thn (hk.run pins _ σ _ _ I1 (q _ hn)) fun u s1 ⟨x, H1, I1, rx, q1⟩ => thn (hv.run pins s1 σ H1 _ I1 q1) fun w2 s2 ⟨y, H2, I2, ry, e, q2⟩ => pairTrees_nil_walk ?_)
  rcases q2 with ⟨kk, ek, q2⟩ | ⟨b, ks, eb, ht, q2⟩
  · subst ek
    obtain ⟨z, hd, vs0, r0, dd⟩ := dk_of I2.hok e
    cases r0
    refine wpAny_storeAll (knd := mixKind X.prog X.w) [(u, w2)] [(kk, w2)] [] s2 _ ⟨kV_is rx, rfl, True.intro⟩ dd (by rw [sizeLine_eq]; simp) fun h' dd' hs => ⟨.ref s.heap.objs.size, _, ?_, rfl, q2⟩
    have he : ∃ q, h'.get? s.heap.objs.size = some q := let ⟨q, _, _, hq, _⟩ := dd'; ⟨q, hq⟩
    exact d_write I2 (by rw [e]; exact True.intro) hs he (dk_new (by rw [sizeLine_eq]; simp) hd (.cons ⟨rfl, ry⟩ .nil) dd')
  · subst eb
    cases (show u = Value.ref b from rx)
    have I3 := dk_turn I2 e
    have e3 : upd H2 s.heap.objs.size (HO.dT []) s.heap.objs.size = some (.dT []) := upd_same
    have ne : b ≠ s.heap.objs.size := fun z => by subst z; rw [e] at ht; cases ht
    have ht3 : upd H2 s.heap.objs.size (HO.dT []) b = some (.tup (ks.map kV)) := (upd_ne ne).trans ht
    obtain ⟨z, hd, xs, rel, dd⟩ := dt_of I3.hok e3
    cases rel
    refine wpAny_storeAllH (A := X.A) (knd := tupleKind (mixKind X.prog X.w)) (Nat.lt_of_succ_lt hu) [(.ref b, w2)] [(ks, b, w2)] [] s2 _ ⟨rfl, rfl, key_of I3.hok ht3, True.intro⟩ dd (by rw [sizeLine_eq]; simp) fun h' tk dd' hs => ⟨.ref s.heap.objs.size, _, ?_, rfl, q2⟩
    obtain ⟨q, es, ep, hq, h2, h3, h4, _, h5⟩ := dd'
    have W := d_write (h' := h') (t' := tk) (ob := .dT [(ks, y)]) I3 (by rw [e3]; exact True.intro) hs ⟨q, hq⟩ ⟨by rw [sizeLine_eq]; simp, hd, [(ks, b, w2)], .cons ⟨rfl, by rw [upd_ne ne]; exact ht3, ry⟩ .nil, q, es, ep, hq, h2, h3, h4, h5⟩
    rw [upd_upd] at W
    exact W
end
end MP
set_option Elab.async false
set_option linter.all false
set_option maxRecDepth 100000
set_option maxHeartbeats 1000000
namespace MP
open PySem PySem.Spec PyProof.Rows L2
open AutoSeq1 (wpAny_loadPart')
theorem meets_enumerate_newT (l : Addr) (items : Array Value) (o : Obj) (n : Nat) (hc : o.cls = .type "tuple") (hd : o.data = .seq items n) :
    Meets (Builtin.«enumerate.__new__» ⟨[.type "enumerate", .ref l], []⟩) (fun _ R s => s.heap.get? l = some o ∧
      R (.ok (.ret (.ref (s.heap.push { cls := .type "tuple_iterator", data := .fields #[.ref l, .int 0 0] }).objs.size)))
        { s with heap := (s.heap.push { cls := .type "tuple_iterator", data := .fields #[.ref l, .int 0 0] }).push { cls := .type "enumerate", data := .fields #[.none, .bool false, .ref s.heap.objs.size, rawInt 0, .none, .none] } }) :=
  .of_wp fun prog w A R s h => by
    obtain ⟨hp, g, d, tk, os⟩ := s; obtain ⟨hl, h⟩ := h
    have hsub := sub_enumerate
    have hL : Heap.IsTuple (Shared.heap ⟨hp, g, d, tk, os⟩) l items := ⟨_, hl, hc, n, hd⟩
    wp_walk using wpAny_loadPart' hl
    refine wpAny_stack_any fun st => wpAny_pure ?_
    split
    · rename_i c _ _ _ _ _
      cases (c == Value.type "enumerate")
      · wp_walk using wpAny_loadPart' hl, wpAny_pyIter_tuple hL
        exact ⟨_, rfl, h⟩
      · wp_walk using wpAny_loadPart' hl, wpAny_pyIter_tuple hL
        exact ⟨_, rfl, h⟩
    · wp_walk using wpAny_loadPart' hl, wpAny_pyIter_tuple hL
      exact ⟨_, rfl, h⟩
section
variable {prog : Program} {w : World} {A : Around} {E : Value → Shared → Prop} {s : Shared}
theorem call_enumerate_tuple {l : Addr} {items : Array Value} {Q : Value → Shared → Prop} (hL : s.heap.IsTuple l items)
    (h : ∀ h', IsEnum h' (s.heap.objs.size + 1) s.heap.objs.size 0 .none → h'.IsTupleIter s.heap.objs.size l 0 → h'.objs.size = s.heap.objs.size + 2 →
      (∀ b o, s.heap.get? b = some o → h'.get? b = some o) → Q (.ref (s.heap.objs.size + 1)) { s with heap := h' }) :
    wpAny (model prog w) A (call (.type "enumerate") [.ref l]) Q E s := by
  obtain ⟨o, hl, hc, n, hd⟩ := hL
  refine callType_new F.called_enumerate (by decide) (F.typeCall_enumerate_1 _) (F.newCall_enumerate_1 _) (fun obj => F.args_object_init_2 obj _) F.entry_enumerate_new
    (meets_enumerate_newT l items o n hc hd) ⟨hl, ?_⟩
  have hz : (s.heap.push { cls := .type "tuple_iterator", data := .fields #[.ref l, .int 0 0] }).objs.size = s.heap.objs.size + 1 := Heap.size_push ..
  show _ ∧ _
  rw [hz]
  have he : IsEnum ((s.heap.push { cls := .type "tuple_iterator", data := .fields #[.ref l, .int 0 0] }).push
      { cls := .type "enumerate", data := .fields #[.none, .bool false, .ref s.heap.objs.size, rawInt 0, .none, .none] }) (s.heap.objs.size + 1) s.heap.objs.size 0 .none := by
    have := Heap.get?_push_size (s.heap.push { cls := .type "tuple_iterator", data := .fields #[.ref l, .int 0 0] })
      (o := { cls := .type "enumerate", data := .fields #[.none, .bool false, .ref s.heap.objs.size, rawInt 0, .none, .none] }) rfl
    rw [hz] at this; exact this
  refine ⟨⟨_, he, rfl⟩, h _ he ⟨_, Heap.get?_push_of_some _ (Heap.get?_push_size _ rfl), rfl, rfl⟩ (by rw [Heap.size_push, hz]) fun b o x => Heap.get?_push_of_some _ (Heap.get?_push_of_some _ x)⟩
end
def IteT (K : KF) (a : Addr) : L2.It :=
  ⟨fun i H => ∃ (xs : List V) (x : V), SqT K H a xs ∧ xs[i]? = some x, fun i H v H' => ∃ T x, v = .ref T ∧ H T = none ∧ H' = upd H T (.tup [.int (i : Nat), x]) ∧ ∀ xs, SqT K H a xs → xs[i]? = some x, fun i H => ∃ xs : List V, SqT K H a xs ∧ xs.length ≤ i⟩
theorem turn_enumT {P : Program} {w : World} {K : KF} {elts : List PySem.Expr} {kk : Nat} {tpos : Pos} (a e it : Addr) :
    L2.Turn P w K (.Tuple elts kk tpos) (IteT K a) [e, it] e (fun i h => (∃ old, IsEnum h e it ((i : Nat) : Int) old) ∧ h.IsTupleIter it a i ∧ e ≠ it) where
  mem := by simp
  obj := fun i h st b hb => by
    obtain ⟨⟨old, he⟩, ⟨o, ho, hc, hd⟩, _⟩ := st
    have e' : b = e ∨ b = it := by simpa using hb
    rcases e' with z | z
    · rw [z]; exact ⟨_, he, fun v q => nomatch q⟩
    · rw [z]; exact ⟨o, ho, fun v q => by rw [hd] at q; cases q⟩
  keep := fun i h h' st k => let ⟨⟨old, he⟩, hi, hne⟩ := st; ⟨⟨old, k e (by simp) _ he⟩, hi.at fun o q => k it (by simp) o q, hne⟩
  item := by
    intro X hP hw hK hc i pins s σ H E I hf st hg
    subst hP hw hK
    obtain ⟨⟨old, he⟩, hit, hne⟩ := st
    obtain ⟨xs, x, hq, hx⟩ := hg
    obtain ⟨its, rv, p, hz⟩ := I.tuple hq
    obtain ⟨u, hu, ru⟩ := rv.get hx
    have pt : s.heap.IsTuple a its.toArray := p
    have hel : e < s.heap.objs.size := Heap.lt_size he
    have hil : it < s.heap.objs.size := by obtain ⟨_, q, _⟩ := hit; exact Heap.lt_size q
    have nai : a ≠ it := fun z => by
      subst z
      obtain ⟨o1, h1, c1, _⟩ := pt
      obtain ⟨o2, h2, c2, _⟩ := hit
      rw [h1] at h2
      cases h2
      rw [c1] at c2
      exact absurd c2 (by decide)
    have nae : a ≠ e := fun z => by
      subst z
      obtain ⟨o1, h1, c1, _⟩ := pt
      have he2 : s.heap.get? a = some { cls := .type "enumerate", data := .fields #[.none, .bool false, .ref it, rawInt i, .none, old] } := he
      rw [h1] at he2
      cases he2
      exact absurd (show Value.type "enumerate" = Value.type "tuple" from c1) (by decide)
    have hlt : i < its.toArray.size := by
      have := (List.getElem?_eq_some_iff.mp hu).1
      simpa using this
    refine wpAny_pyNext_enum_itemD (Draws.tuple (prog := X.prog) (w := X.w) (A := X.A.in1) (I.ok.hd hc) it a nai its.toArray) he ⟨hit, pt⟩ hlt hne (by simp [hne, Ne.symm nae]) fun y h' tk hy ho hst hT hsz hk => ?_
    have ey : y = u := by
      have : its[i]? = some y := by simpa using hy
      rw [hu] at this
      exact (Option.some.inj this).symm
    subst ey
    refine ⟨_, rfl, wpAny_letOwnedTupleGo_enum (s := { s with heap := h', toks := tk + 1 }) ho fun h'' he' sb => ?_⟩
    have hT2 : h''.get? s.heap.objs.size = some { cls := .type "tuple", data := .seq #[.int i tk, y] } := (sb.2 _ (Nat.ne_of_gt hel)).trans hT
    have new : ObjOk X.prog X.w (upd H s.heap.objs.size (.tup [.int (i : Nat), x])) h'' s.heap.objs.size (.tup [.int (i : Nat), x]) :=
      ⟨by show 2 ≤ sizeLine; decide, [.int i tk, y], .cons ⟨_, rfl⟩ (.cons ru .nil), ⟨_, hT2, rfl, _, rfl⟩⟩
    have I1 : Inv X pins σ (upd H s.heap.objs.size (.tup [.int (i : Nat), x])) { s with heap := h'', toks := tk + 1 } :=
      I.turnedNew (ch := [e, it]) (fun b ob hb q => (sb.2 b (fun z => hb (by simp [z]))).trans (hk b ob (fun z => hb (by simp [z])) (fun z => hb (by simp [z])) q)) hf (Nat.le_refl _) new
    refine ⟨.ref s.heap.objs.size, _, I1, rfl, ⟨_, x, rfl, I.hok.fresh (Nat.le_refl _), rfl, fun ys hy => by rw [I.tuple_inj hy hq]; exact hx⟩, ⟨⟨y, ?_⟩, hst.1.at fun o q => (sb.2 it (Ne.symm hne)).trans q, hne⟩, fun b hb => ?_⟩
    · have e1 : ((i + 1 : Nat) : Int) = (i : Int) + 1 := by omega
      rw [e1]; exact he'
    · have hb' : b < s.heap.objs.size := by
        have e' : b = e ∨ b = it := by simpa using hb
        rcases e' with z | z
        · rw [z]; exact hel
        · rw [z]; exact hil
      rw [upd_ne (Nat.ne_of_lt hb')]
      exact (hf b hb).1
  done := by
    intro X hP hw hK hc i pins s σ H E I hf st hg
    subst hP hw hK
    obtain ⟨⟨old, he⟩, hit, hne⟩ := st
    obtain ⟨xs, hq, hx⟩ := hg
    obtain ⟨its, rv, p, hz⟩ := I.tuple hq
    obtain ⟨f0, f1, f2, f3, f4, f5⟩ := hf it (by simp)
    have hl := rv.length
    have pt : s.heap.IsTuple a its.toArray := p
    unfold pyNext
    have hT : s.TypeIs (.ref e) "enumerate" := ⟨_, he, rfl⟩
    refine wpAny_bind (wpAny_attempt (wpAny_callSpecial?_slot (name := Str.ofString "__next__") hT F.slot_enumerate_next
      (wpAny_call_entry F.slot_enumerate_next hT F.entry_enumerate_next ?_ (F.args_enumerate_next_1 _))))
    show wpAny _ _ (field (.ref e) 2 >>= _) _ _ _
    refine wpAny_bind (wpAny_field he rfl (x := .ref it) rfl ?_)
    refine wpAny_bind (wpAny_nextOf_tuple_end (I.ok.hd hc) hit pt (by simp; omega) fun h' x eb hx' => ?_)
    obtain ⟨o, ho, hc'⟩ := hx'
    refine wpAny_bind (wpAny_isInstance (T := "StopIteration") (b := true) ⟨o, ho, hc'⟩ isSubtype_stop ?_)
    exact wpAny_pure ⟨rfl, I.turned (t' := s.toks) (fun b o hb q => eb b o hb q) f0 f1 f3 f4 f5⟩
  self := fun A i s Q E st h => let ⟨⟨_, he⟩, _⟩ := st; wpAny_pyIter_enum he h
def iEnumT (K : KF) (ta : TA) : TI := fun σ H R => ta σ H fun vs H1 => ∃ a xs, vs = [.ref a] ∧ ((SqL K H1 a xs ∧ R (Ite K a) H1) ∨ (SqT K H1 a xs ∧ R (IteT K a) H1))
theorem pi_enumT {X : Cx} {e : PySem.Expr} {ta : TA} {p pos tpos : Pos} {elts : List PySem.Expr} {kk : Nat} (hg : Gl X "enumerate") (hm : X.mg "enumerate" = none) (ha : PA X [e] ta) (hs : starEach [e] X.env = [(false, eval e X.env)] := by rfl) :
    PI X (.Tuple elts kk tpos) (.Call (.Name "enumerate" p) [e] [] pos) (iEnumT X.K ta) := by
  refine ⟨fun pins s σ H R I h => ?_⟩
  refine Call_ (ld_blt I hg hm boot_enumerate (PyProof.Rows.callWith_type1 (thn (ha.run pos pins s σ H _ I h) fun us s1 ⟨vs, H1, I1, r1, q1⟩ => ?_) hs rfl))
  obtain ⟨a, xs, ex, q⟩ := q1
  subst ex
  cases r1 with
  | cons r rr =>
    cases rr
    cases r
    rcases q with ⟨hq, q⟩ | ⟨hq, q⟩
    · obtain ⟨its, rv, p', hz⟩ := I1.list hq
      refine call_enumerate_list p'.isList fun h' he hit hsz hk => wpAny_pyIter_enum he ?_
      have I2 : Inv X pins σ H1 { s1 with heap := h' } := I1.kept (t' := s1.toks) hk
      refine ⟨s1.heap.objs.size + 1, [s1.heap.objs.size + 1, s1.heap.objs.size], _, _, H1, rfl, I2, turn_enum a (s1.heap.objs.size + 1) s1.heap.objs.size, ⟨⟨.none, he⟩, hit, Nat.succ_ne_self _⟩, fun b hb => ?_, q⟩
      have e' : b = s1.heap.objs.size + 1 ∨ b = s1.heap.objs.size := by simpa using hb
      have hle : s1.heap.objs.size ≤ b := by
        rcases e' with z | z
        · rw [z]; exact Nat.le_add_right _ _
        · rw [z]; exact Nat.le_refl _
      exact I1.fpOk hle (I1.hok.fresh hle)
    · obtain ⟨its, rv, p', hz⟩ := I1.tuple hq
      have pt : s1.heap.IsTuple a its.toArray := p'
      refine call_enumerate_tuple pt fun h' he hit hsz hk => wpAny_pyIter_enum he ?_
      have I2 : Inv X pins σ H1 { s1 with heap := h' } := I1.kept (t' := s1.toks) hk
      refine ⟨s1.heap.objs.size + 1, [s1.heap.objs.size + 1, s1.heap.objs.size], _, _, H1, rfl, I2, turn_enumT a (s1.heap.objs.size + 1) s1.heap.objs.size, ⟨⟨.none, he⟩, hit, Nat.succ_ne_self _⟩, fun b hb => ?_, q⟩
      have e' : b = s1.heap.objs.size + 1 ∨ b = s1.heap.objs.size := by simpa using hb
      have hle : s1.heap.objs.size ≤ b := by
        rcases e' with z | z
        · rw [z]; exact Nat.le_add_right _ _
        · rw [z]; exact Nat.le_refl _
      exact I1.fpOk hle (I1.hok.fresh hle)
end MP
set_option Elab.async false
set_option linter.all false
set_option maxRecDepth 100000
set_option maxHeartbeats 1000000
namespace MP
open PySem PySem.Spec PyProof.Rows L2
section
variable {X : Cx} {G : Calls} {Ex : XP} {a b : E} {a' b' : PySem.Expr} {p pos : Pos} {k : Nat} {fs : List Str} {es : Es} {es' : List PySem.Expr} {x : Str}
theorem glB_gl {sc : Scope} {env : PySem.Env} (e : env.scope = sc) (h : glB sc x = true) : env.kindOf x = some .globalImplicit ∧ (x == ("__debug__" : Str)) = false ∧ x ≠ ("__name__" : Str) := by
  unfold glB at h
  simp only [Bool.and_eq_true] at h
  obtain ⟨⟨h1, h2⟩, h3⟩ := h
  refine ⟨?_, by simpa using h2, by simpa using h3⟩
  subst e
  split at h1
  · rename_i q; exact q
  · cases h1
theorem e_call {f : Str} (gd : Good X k G fs Ex) (hf : f ∈ fs ∧ gcst f = none ∧ methOf f = none) (hg : glB X.env.scope f = true) (hs : PAm X G Ex es es') (ok : okEs X.N fs X.env.scope es es' = true) : PEm X G Ex (.call f es) (.Call (.Name f p) es' [] pos) := by
  obtain ⟨a, fd, ps, hat, hb, F⟩ := (gd.fn f hf.1 hf.2.1).ex
  obtain ⟨hm, hns, hk⟩ := hat.fn hf.2.2
  obtain ⟨g1, g2, g3⟩ := glB_gl rfl hg
  have ns := okEs_plain ok
  have main : ∀ σ H Q, SE X (wpE G Ex (.call f es)) σ H Q → tG (spG X.K X.mg G f) (LW X Ex) (SA X (wpEs G Ex es)) σ H Q := fun σ H Q ⟨env, h, er, hr, q⟩ => by
    simp only [wpE] at q
    refine sa_mk gd.mono er hr q fun xs h1 V H1 q p1 r1 hr1 => ?_
    refine ⟨xs, h1, r1, hr1, gd.mono _ _ _ _ _ _ _ (fun v h => up.tr p1) (fun e h2 q cls d H' p' rE hr' => ?_) q⟩
    exact ⟨e, env, h2, rE, (er.keep p1).keep p', hr', q⟩
  cases es' with
  | nil =>
    have main0 : ∀ σ H Q, SE X (wpE G Ex (.call f es)) σ H Q → tG (spG X.K X.mg G f) (LW X Ex) tNil σ H Q := fun σ H Q ⟨env, h, er, hr, q⟩ => by
      cases es with
      | nil =>
        simp only [wpE, wpEs] at q
        exact ⟨[], h, .nil, hr, gd.mono _ _ _ _ _ _ _ (fun v h => id) (fun e h2 q cls d H' p' rE hr' => ⟨e, env, h2, rE, er.keep p', hr', q⟩) q⟩
      | cons a r => simp only [okEs] at ok; cases ok
    exact PE.imp (pe_G0 F gd.rm gd.gd g1 hm hk hb gd.tk g2) main0
  | cons e r =>
    have se := star_cons (ns e (List.mem_cons_self ..)) r X.env
    exact PE.imp (pe_G F gd.rm gd.gd g1 hm hk hb gd.tk hs g2 se (star_any (fun z hz => ns z (List.mem_cons_of_mem _ hz)) _ _)) main
theorem e_gfn {f : Str} (gd : Good X k G fs Ex) (hf : f ∈ fs ∧ gcst f = none ∧ methOf f = none) (hg : glB X.env.scope f = true) : PEm X G Ex (.gfn f) (.Name f p) := by
  obtain ⟨a, fd, ps, hat, hb, F⟩ := (gd.fn f hf.1 hf.2.1).ex
  obtain ⟨hm, hns, hk⟩ := hat.fn hf.2.2
  obtain ⟨g1, g2, g3⟩ := glB_gl rfl hg
  refine PE.imp (pe_glob g1 hm (v := .ref a) rfl g2) fun σ H Q ⟨env, h, er, hr, q⟩ => ?_
  simp only [wpE] at q
  exact q _ H .refl (.fn hf.2.2 hns hk) hr
theorem e_gcs {f : Str} (gd : Good X k G fs Ex) (hf : f ∈ fs) (hx : isExc f = false) (hg : glB X.env.scope f = true) : PEm X G Ex (.gcs f) (.Name f p) := by
  obtain ⟨g1, g2, g3⟩ := glB_gl rfl hg
  refine ⟨fun pins s σ H Q I ⟨env, h, er, hr, q⟩ => ?_⟩
  simp only [wpE] at q
  obtain ⟨v, ev, q⟩ := q
  obtain ⟨V, u, hm, ru, rp⟩ := (gd.cst f hf v ev hx).ex
  exact (pe_glob g1 hm (v := V) ru g2).run pins s σ H Q I (q _ H .refl (rp H) hr)
theorem e_callv {i : Nat} {e : PySem.Expr} {r : List PySem.Expr} (gd : Good X k G fs Ex) (hv : visB X.N X.env.scope i x = true) (hs : PAm X G Ex es (e :: r)) (ok : okEs X.N fs X.env.scope es (e :: r) = true) : PEm X G Ex (.callv i es) (.Call (.Name x p) (e :: r) [] pos) := by
  have hn : PEm X G Ex (.var i) (.Name x p) := e_var hv
  have ns := okEs_plain ok
  refine ⟨fun pins s σ H Q I ⟨env, h, er, hr, q⟩ => ?_⟩
  simp only [wpE] at q
  obtain ⟨f, ef, q⟩ := q
  refine wp_Gv hn hs (star_cons (ns e (List.mem_cons_self ..)) r X.env) (star_any (fun z hz => ns z (List.mem_cons_of_mem _ hz)) _ _) I ?_
  refine ⟨env, h, er, hr, ?_⟩
  simp only [wpE]
  refine ⟨_, ef, fun V H1 p1 r1 hr1 => ?_⟩
  obtain ⟨a, rfl, hm0, hns, hk⟩ := r1.fn_inv
  refine ⟨a, rfl, hk, sa_mk gd.mono (er.keep p1) hr1 q fun xs h2 vs H2 q p2 r2 hr2 s2 us I2 rv => ?_⟩
  obtain ⟨a', fd, ps, hat, hb, F⟩ := (gd.fn f (gd.only _ _ _ _ _ q).1 (gd.only _ _ _ _ _ q).2).ex
  obtain ⟨hm, hns', hk'⟩ := hat.fn hm0
  rw [hns] at hns'
  cases hns'
  refine run_G F gd.rm gd.gd hb gd.tk I2 rv ⟨xs, h2, r2, hr2, gd.mono _ _ _ _ _ _ _ (fun v h => up.tr (p1.trans p2)) (fun e h3 q cls d H' p' rE hr' => ?_) q⟩
  exact ⟨e, env, h3, rE, ((er.keep p1).keep p2).keep p', hr', q⟩
theorem bltN_mem (b : B) : bltN b ∈ bltNames := by cases b <;> decide
theorem bltN_ok (b : B) : bltN b ≠ ("__name__" : Str) ∧ (bltN b == ("__debug__" : Str)) = false := by cases b <;> decide
theorem boot_any : bootBuiltins "any" = some (.builtin "any") := by decide +kernel
theorem boot_all : bootBuiltins "all" = some (.builtin "all") := by decide +kernel
theorem boot_abs : bootBuiltins "abs" = some (.builtin "abs") := by decide +kernel
theorem boot_repr : bootBuiltins "repr" = some (.builtin "repr") := by decide +kernel
theorem boot_sorted : bootBuiltins "sorted" = some (.builtin "sorted") := by decide +kernel
theorem bltN_boot (b : B) : bootBuiltins (bltN b) = some (bltV b) := by
  cases b
  · exact boot_abs
  · exact PyProof.Rows.boot_int
  · exact boot_len
  · exact PyProof.Rows.boot_max
  · exact PyProof.Rows.boot_min
  · exact boot_repr
  · exact PyProof.Rows.boot_str
  · exact boot_all
  · exact boot_any
  · exact PyProof.Rows.boot_sum
  · exact PyProof.Rows.boot_max
  · exact PyProof.Rows.boot_min
theorem e_blt {b : B} {e : PySem.Expr} {r : List PySem.Expr} (gd : Good X k G fs Ex) (hu : X.A.units + 66 < cLine) (hg : glB X.env.scope (bltN b) = true) (hs : PAm X G Ex es (e :: r)) (ok : okEs X.N fs X.env.scope es (e :: r) = true) :
    PEm X G Ex (.blt b es) (.Call (.Name (bltN b) p) (e :: r) [] pos) := by
  obtain ⟨g1, g2, g3⟩ := glB_gl rfl hg
  have ns := okEs_plain ok
  have se := star_cons (ns e (List.mem_cons_self ..)) r X.env
  have sr := star_any (fun z hz => ns z (List.mem_cons_of_mem _ hz)) X.env pos
  have hm := gd.blt _ (bltN_mem b)
  have bo := bltN_boot b
  have cr := cr_blt (X := X) b gd.calm gd.gd hu
  have main : ∀ σ H Q, SE X (wpE G Ex (.blt b es)) σ H Q → tCB (RBl X.K b) (SA X (wpEs G Ex es)) σ H Q := fun σ H Q ⟨env, h, er, hr, q⟩ => by
    simp only [wpE] at q
    refine sa_mk gd.mono er hr q fun xs h1 V H1 q p1 r1 hr1 => ?_
    exact ⟨xs, h1, r1, hr1, bltW_mono (fun _ _ => up.tr p1) q⟩
  cases hv : bltV b with
  | builtin id => rw [hv] at cr bo; exact PE.imp (pe_callB cr g1 hm bo hs g3 g2 se sr) main
  | type T => rw [hv] at cr bo; exact PE.imp (pe_callTy cr g1 hm bo hs g3 g2 se sr) main
  | _ => cases b <;> cases hv
theorem tyB_cls {t : String} (h : tyB t = true) : tyCls t := by
  unfold tyB at h
  simp only [Bool.or_eq_true, beq_iff_eq] at h
  unfold tyCls
  rcases h with ((((h | h) | h) | h) | h) | h <;> simp [h]
theorem ty_boot {t : String} (h : tyCls t) : bootBuiltins (Str.ofString t) = some (.type t) ∧ Str.ofString t ∈ bltNames := by
  rcases h with h | h | h | h | h | h <;> subst h
  · exact ⟨PyProof.Rows.boot_int, by decide⟩
  · exact ⟨PyProof.Rows.boot_bool, by decide⟩
  · exact ⟨PyProof.Rows.boot_tuple, by decide⟩
  · exact ⟨PyProof.Rows.boot_str, by decide⟩
  · exact ⟨PyProof.Rows.boot_list, by decide⟩
  · exact ⟨PyProof.Rows.boot_dict, by decide⟩
theorem e_isi' {t : String} {q : Pos} (gd : Good X k G fs Ex) (hg : glB X.env.scope "isinstance" = true) (ht : tyB t = true) (hgt : glB X.env.scope (Str.ofString t) = true) (ha : PEm X G Ex a a') (na : noStar a' = true) :
    ∃ te, PE X (.Call (.Name "isinstance" p) [a', .Name (Str.ofString t) q] [] pos) te ∧ ∀ σ H Q env h, EnvRep X.K H σ env → HRep X.K h H → (wpE G Ex a env h fun x h1 => isiW x t h1 fun k h2 => ∀ H', Pres H H' → HRep X.K h2 H' → Q (.bl k) H') → te σ H Q := by
  obtain ⟨g1, g2, g3⟩ := glB_gl rfl hg
  obtain ⟨t1, t2, t3⟩ := glB_gl rfl hgt
  obtain ⟨bt, mt⟩ := ty_boot (tyB_cls ht)
  have pt : PE X (.Name (Str.ofString t) q) (tC (.ty t)) := pe_bltn t1 (gd.blt _ mt) bt rfl t3 t2
  have pa : PA X [a', .Name (Str.ofString t) q] (tCons (SE X (wpE G Ex a)) (tCons (tC (.ty t)) tNil)) := pa_cons ha (pa_cons pt pa_nil rfl) (star_cons na _ _)
  refine ⟨_, pe_callB (cr_isi (t := t)) g1 (gd.blt _ (by decide)) boot_isinstance pa (by decide) (by decide) (star_cons na _ _) rfl, fun σ H Q env h er hr w => ?_⟩
  refine se_mk gd.mono er hr w fun x h1 V H1 ⟨b, z, e, q⟩ p1 r1 hr1 => ?_
  exact ⟨V, x, h1, b, rfl, r1, hr1, z, e, q H1 p1 hr1⟩
theorem e_isi {t : String} {q : Pos} (gd : Good X k G fs Ex) (hg : glB X.env.scope "isinstance" = true) (ht : tyB t = true) (hgt : glB X.env.scope (Str.ofString t) = true) (ha : PEm X G Ex a a') (na : noStar a' = true) :
    PEm X G Ex (.isi a t) (.Call (.Name "isinstance" p) [a', .Name (Str.ofString t) q] [] pos) := by
  obtain ⟨te, h1, h2⟩ := e_isi' (p := p) (pos := pos) (q := q) gd hg ht hgt ha na
  refine PE.imp h1 fun σ H Q ⟨env, h, er, hr, w⟩ => h2 σ H Q env h er hr ?_
  simp only [wpE] at w
  exact wpE_mono gd.mono (fun x h1 w => isiW_mono (fun k h2 q H' p hr' => q _ H' p (.bl k) hr') w) w
theorem e_meth {o : E} {m : M} {o' e : PySem.Expr} {apos cpos : Pos} (gd : Good X k G fs Ex) (ho : PEm X G Ex o o') (hs : PAm X G Ex es [e]) (ne : noStar e = true) (hl : (apos.endLine == cpos.line) = true) (hb : attributeBase o' (methN m) X.env (eval o' X.env) = eval o' X.env) (hm : m ≠ .pop0) :
    PEm X G Ex (.meth o m es) (.Call (.Attribute o' (methN m) apos) [e] [] cpos) := by
  have se : starEach [e] X.env = (false, eval e X.env) :: starEach [] X.env := star_cons ne [] X.env
  have main : ∀ r : M → V → List V → Hp → VK → Prop, r m = RM X.K m → ∀ σ H Q, SE X (wpE G Ex (.meth o m es)) σ H Q → tBM X.K "list" (r m) (SE X (wpE G Ex o)) (SA X (wpEs G Ex es)) σ H Q := fun r er' σ H Q ⟨env, h, er, hr, q⟩ => by
    rw [er']
    simp only [wpE] at q
    refine se_mk gd.mono er hr q fun x h1 V H1 ⟨⟨a, xs, e1, e2⟩, q⟩ p1 r1 hr1 => ?_
    subst e1
    obtain rfl := r1.loc_inv
    obtain ⟨vs, hv, rs⟩ := lst_at hr1 e2
    refine ⟨.inl ⟨rfl, vs, .of hv⟩, sa_mk gd.mono (er.keep p1) hr1 q fun ys h2 W H2 q p2 r2 hr2 => ?_⟩
    exact ⟨_, ys, h2, r1.keep p2, r2, hr2, methW_mono (fun _ _ => up.tr (p1.trans p2)) q⟩
  have c1 : (((backTo cpos (starEach [e] X.env)).all (fun x => !x.1)) && (backToKw cpos (keywordEach [] X.env)).all (fun x => x.1.isSome) && decide (([e].length + ([] : List Keyword).length + if ([] : List Keyword).isEmpty = true then 0 else 1) < 30)) = true := by rw [se]; rfl
  cases m with
  | append => exact PE.imp (pe_bm PySem.F.plainAttrs_list PySem.F.slot_list_append PySem.F.type_list_append mt_appendW ho hs hb c1 hl se rfl) (main _ rfl)
  | extend => exact PE.imp (pe_bm PySem.F.plainAttrs_list PySem.F.slot_list_extend PySem.F.type_list_extend mt_extendW ho hs hb c1 hl se rfl) (main _ rfl)
  | pop0 => exact absurd rfl hm
  | pop1 => exact PE.imp (pe_bm PySem.F.plainAttrs_list PySem.F.slot_list_pop PySem.F.type_list_pop mt_pop1W ho hs hb c1 hl se rfl) (main _ rfl)
theorem e_meth0 {o : E} {o' : PySem.Expr} {apos cpos : Pos} (gd : Good X k G fs Ex) (ho : PEm X G Ex o o') (hl : (apos.endLine == cpos.line) = true) (hb : attributeBase o' "pop" X.env (eval o' X.env) = eval o' X.env) :
    PEm X G Ex (.meth o .pop0 .nil) (.Call (.Attribute o' "pop" apos) [] [] cpos) := by
  refine PE.imp (pe_bm0 PySem.F.plainAttrs_list PySem.F.slot_list_pop PySem.F.type_list_pop mt_pop0W ho hb hl) fun σ H Q ⟨env, h, er, hr, q⟩ => ?_
  simp only [wpE, wpEs] at q
  refine se_mk gd.mono er hr q fun x h1 V H1 ⟨⟨a, xs, e1, e2⟩, q⟩ p1 r1 hr1 => ?_
  subst e1
  obtain rfl := r1.loc_inv
  obtain ⟨vs, hv, rs⟩ := lst_at hr1 e2
  exact ⟨.inl ⟨rfl, vs, .of hv⟩, _, [], h1, r1, .nil, hr1, methW_mono (fun _ _ => up.tr p1) q⟩
def SO (X : Cx) (w : Env → MH → (Option PV → MH → Prop) → Prop) : TO := fun σ H Q => ∃ env h, EnvRep X.K H σ env ∧ HRep X.K h H ∧ w env h fun o h' => ∃ l, optI o = some l ∧ ∀ H', Pres H H' → HRep X.K h' H' → Q l H'
theorem PO.imp {e : Option PySem.Expr} {t t' : TO} (h : PO X e t) (w : ∀ σ H Q, t' σ H Q → t σ H Q) : PO X e t' := ⟨fun pins s σ H Q I q => h.run pins s σ H Q I (w σ H Q q)⟩
theorem o_none : PO X none (SO X (wpEo G Ex .none)) := PO.imp po_none fun σ H Q ⟨env, h, er, hr, q⟩ => by
  simp only [wpEo] at q
  obtain ⟨l, e, q⟩ := q
  cases e
  exact q H .refl hr
theorem o_some (hG : GMono G) (ha : PEm X G Ex a a') : PO X (some a') (SO X (wpEo G Ex (.some a))) := PO.imp (po_some ha) fun σ H Q ⟨env, h, er, hr, q⟩ => by
  simp only [wpEo] at q
  refine se_mk hG er hr q fun x h1 V H1 ⟨l, e, q⟩ p1 r1 hr1 => ?_
  unfold optI at e
  split at e
  · rename_i z; cases z
  · rename_i i z
    cases z; cases e
    exact ⟨i, r1.int_inv, q H1 p1 hr1⟩
  · cases e
theorem e_slc {lo hi : Eo} {lo' hi' : Option PySem.Expr} {p2 : Pos} (hG : GMono G) (ha : PEm X G Ex a a') (hl : PO X lo' (SO X (wpEo G Ex lo))) (hh : PO X hi' (SO X (wpEo G Ex hi))) : PEm X G Ex (.slc a lo hi) (.Subscript a' (.Slice lo' hi' none p2) pos) := PE.imp (pe_slice sl_W ha hl hh) fun σ H Q ⟨env, h, er, hr, q⟩ => by
  simp only [wpE] at q
  refine se_mk hG er hr q fun x h1 V H1 q p1 r1 hr1 => ?_
  refine ⟨env, h1, er.keep p1, hr1, wpEo_mono hG (fun l h2 ⟨li, el, q⟩ => ⟨li, el, fun H2 p2 hr2 => ?_⟩) q⟩
  refine ⟨env, h2, (er.keep p1).keep p2, hr2, wpEo_mono hG (fun u h3 ⟨ui, eu, q⟩ => ⟨ui, eu, fun H3 p3 hr3 => ?_⟩) q⟩
  have pp := (p1.trans p2).trans p3
  refine ⟨x, h3, r1.keep (p2.trans p3), hr3, ?_⟩
  unfold slcW at q
  split at q
  · rename_i xs e; first | (rw [e]; exact up.tr pp q) | exact up.tr pp q
  · rename_i xs e; first | (rw [e]; exact up.tr pp q) | exact up.tr pp q
  · rename_i xs e; first | (rw [e]; exact ⟨q.1, up.tr pp q.2⟩) | exact ⟨q.1, up.tr pp q.2⟩
  · exact q.elim
end
end MP
set_option Elab.async false
set_option linter.all false
set_option maxRecDepth 100000
set_option maxHeartbeats 1000000
namespace MP
open PySem PySem.Spec PyProof.Rows L2
section
variable {X : Cx} {G : Calls} {Ex : XP} {a b : E} {a' b' : PySem.Expr} {p pos : Pos} {k : Nat} {fs : List Str} {es : Es} {es' : List PySem.Expr} {x : Str} {m : Bool} {K : KF} {H H1 : Hp}
def Sized (K : KF) (v : V) (H : Hp) : Prop := ∀ p xs, v = .ref p → (LL K H p xs ∨ SqT K H p xs) → xs.length ≤ sizeLine
theorem pe_sized {e : PySem.Expr} {t : TE} (h : PE X e t) : PE X e (fun σ H Q => t σ H fun v H1 => Sized X.K v H1 → Q v H1) := ⟨fun pins s σ H Q I hq =>
  thn (h.run pins s σ H _ I hq) fun u s' ⟨v, H1, I1, r1, q⟩ => ⟨v, H1, I1, r1, q fun p xs e hp => by
    rcases hp with hp | hp
    · exact (hp.at_ I1).1
    · obtain ⟨its, r, _, hz⟩ := I1.tuple hp
      exact hz⟩⟩
theorem pa_sized {es : List PySem.Expr} {t : TA} (h : PA X es t) : PA X es (fun σ H Q => t σ H fun vs H1 => (∀ v ∈ vs, Sized X.K v H1) → Q vs H1) := ⟨fun pos pins s σ H Q I hq =>
  thn (h.run pos pins s σ H _ I hq) fun u s' ⟨v, H1, I1, r1, q⟩ => ⟨v, H1, I1, r1, q fun w _ p xs e hp => by
    rcases hp with hp | hp
    · exact (hp.at_ I1).1
    · obtain ⟨its, r, _, hz⟩ := I1.tuple hp
      exact hz⟩⟩
theorem srcV_seqT {h : MH} {v : PV} {S : Src} (e : srcV h v = some S) : seqT h v = some S.xs := by
  unfold srcV at e
  split at e
  · cases e; rfl
  · cases e; rfl
  · rename_i a
    split at e
    · rename_i xs e1
      cases e
      simp only [seqT, rd, e1]
    · cases e
  · cases e
theorem e_conList (gd : Good X k G fs Ex) (hg : glB X.env.scope "list" = true) (ha : PEm X G Ex a a') (na : noStar a' = true) : PEm X G Ex (.con .list m (.seq a)) (.Call (.Name "list" p) [a'] [] pos) := by
  obtain ⟨g1, g2, g3⟩ := glB_gl rfl hg
  have se := star_cons na [] X.env
  refine PE.imp (pe_laid (pe_callTy call_list_of g1 (gd.blt _ (by decide)) PyProof.Rows.boot_list (pa_cons (pe_sized ha) pa_nil se) g3 g2 se rfl)) fun σ H Q ⟨env, h, er, hr, q⟩ => ?_
  simp only [wpE, wpIt] at q
  refine se_mk gd.mono er hr q fun x h1 V H1 ⟨S, e, q⟩ p1 r1 hr1 sz => ?_
  obtain ⟨l, vs, rfl, sq, rs⟩ := rep_seq r1 hr1 (srcV_seqT e)
  have hz := sz l vs rfl sq
  have ln := laid_new p1 hr1 rs (q (by rw [← rs.length]; exact hz))
  exact ⟨l, vs, rfl, sq.imp LL.sq id, ln.2⟩
theorem e_conTup (gd : Good X k G fs Ex) (hg : glB X.env.scope "tuple" = true) (ha : PEm X G Ex a a') (na : noStar a' = true) : PEm X G Ex (.con .tuple m (.seq a)) (.Call (.Name "tuple" p) [a'] [] pos) := by
  obtain ⟨g1, g2, g3⟩ := glB_gl rfl hg
  refine PE.imp (pe_tupleOf g1 (gd.blt _ (by decide)) (pe_sized ha) (star_cons na [] X.env)) fun σ H Q ⟨env, h, er, hr, q⟩ => ?_
  simp only [wpE, wpIt] at q
  refine se_mk gd.mono er hr q fun x h1 V H1 ⟨S, e, q⟩ p1 r1 hr1 sz => ?_
  obtain ⟨l, vs, rfl, sq, rs⟩ := rep_seqS r1 hr1 (srcV_seqT e)
  have hz := sz l vs rfl (sq.imp id fun q => .inl (.inl q))
  have q : up X.K H Q (.tup S.xs) h1 := q (by rw [← rs.length]; exact hz)
  rcases sq with sq | sq
  · exact .inl ⟨l, vs, rfl, sq.sq, tup_new p1 hr1 rs q⟩
  · exact .inr ⟨l, vs, rfl, .inl (.inl sq), q _ H1 p1 (.tup sq rs) hr1⟩
theorem reps_rg {lo hi : Int} : Reps K H (rgV lo hi) (rngV lo hi) := by
  unfold rgV rngV
  generalize List.range (hi - lo).toNat = l
  induction l with
  | nil => exact .nil
  | cons n r ih => exact .cons (.int _) ih
theorem rg_ok {lo hi : Int} (h : RngOk lo hi) (l : hi - lo ≤ (sizeLine : Nat)) : RgOk lo hi := by
  obtain ⟨a, b, c, d⟩ := h
  have e := sizeLine_eq
  refine ⟨a, b, c, d, ?_⟩
  rw [e] at l
  omega
theorem e_conRg {lo hi : Int} {h1 : MH} {Q : VK} (p1 : Pres H H1) (hr1 : HRep K h1 H1) (ok : RngOk lo hi) (l : hi - lo ≤ (sizeLine : Nat)) (q : newL m (rngV lo hi) h1 (up K H Q)) :
    RgOk lo hi ∧ ∀ q, H1 q = none → Laid Q (.ref q) (upd H1 q (.lst (rgV lo hi))) := ⟨rg_ok ok l, (laid_new p1 hr1 reps_rg q).2⟩
theorem e_conList1 (gd : Good X k G fs Ex) {p2 pos2 : Pos} (hg : glB X.env.scope "list" = true) (hgr : glB X.env.scope "range" = true) (ha : PEm X G Ex a a') (na : noStar a' = true) : PEm X G Ex (.con .list m (.rng1 a)) (.Call (.Name "list" p) [.Call (.Name "range" p2) [a'] [] pos2] [] pos) := by
  obtain ⟨g1, _, _⟩ := glB_gl rfl hg
  obtain ⟨r1, _, _⟩ := glB_gl rfl hgr
  refine PE.imp (pe_laid (pe_listRg gd.calm g1 (gd.blt _ (by decide)) (prg_1 r1 (gd.blt _ (by decide)) ha (star_cons na [] X.env)) rfl)) fun σ H Q ⟨env, h, er, hr, q⟩ => ?_
  simp only [wpE, wpIt] at q
  refine se_mk gd.mono er hr q fun x h1 V H1 ⟨n, e, ok, l, q⟩ p1 r1 hr1 => ?_
  subst e
  exact ⟨n, r1.int_inv, e_conRg p1 hr1 ok (by simpa using l) q⟩
theorem e_conList2 (gd : Good X k G fs Ex) {p2 pos2 : Pos} (hg : glB X.env.scope "list" = true) (hgr : glB X.env.scope "range" = true) (ha : PEm X G Ex a a') (na : noStar a' = true) (hb : PEm X G Ex b b') (nb : noStar b' = true) :
    PEm X G Ex (.con .list m (.rng2 a b)) (.Call (.Name "list" p) [.Call (.Name "range" p2) [a', b'] [] pos2] [] pos) := by
  obtain ⟨g1, _, _⟩ := glB_gl rfl hg
  obtain ⟨r1, _, _⟩ := glB_gl rfl hgr
  refine PE.imp (pe_laid (pe_listRg gd.calm g1 (gd.blt _ (by decide)) (prg_2 r1 (gd.blt _ (by decide)) ha hb (star_cons na _ X.env) (star_cons nb _ X.env) (by rw [star_cons nb]; rfl)) rfl)) fun σ H Q ⟨env, h, er, hr, q⟩ => ?_
  simp only [wpE, wpIt] at q
  refine se_mk gd.mono er hr q fun x h1 V H1 q p1 r1 hr1 => se_mk gd.mono (er.keep p1) hr1 q fun y h2 W H2 ⟨n, m, e, e2, ok, l, w⟩ p2 r2 hr2 => ?_
  subst e e2
  exact ⟨n, m, r1.int_inv, r2.int_inv, e_conRg (p1.trans p2) hr2 ok l w⟩
theorem e_conTup1 (gd : Good X k G fs Ex) {p2 pos2 : Pos} (hg : glB X.env.scope "tuple" = true) (hgr : glB X.env.scope "range" = true) (ha : PEm X G Ex a a') (na : noStar a' = true) : PEm X G Ex (.con .tuple m (.rng1 a)) (.Call (.Name "tuple" p) [.Call (.Name "range" p2) [a'] [] pos2] [] pos) := by
  obtain ⟨g1, _, _⟩ := glB_gl rfl hg
  obtain ⟨r1, _, _⟩ := glB_gl rfl hgr
  refine PE.imp (pe_tupRg gd.calm g1 (gd.blt _ (by decide)) (prg_1 r1 (gd.blt _ (by decide)) ha (star_cons na [] X.env)) rfl) fun σ H Q ⟨env, h, er, hr, q⟩ => ?_
  simp only [wpE, wpIt] at q
  refine se_mk gd.mono er hr q fun x h1 V H1 ⟨n, e, ok, l, q⟩ p1 r1 hr1 => ?_
  subst e
  exact ⟨n, r1.int_inv, rg_ok ok (by simpa using l), tup_new p1 hr1 reps_rg q⟩
theorem e_conTup2 (gd : Good X k G fs Ex) {p2 pos2 : Pos} (hg : glB X.env.scope "tuple" = true) (hgr : glB X.env.scope "range" = true) (ha : PEm X G Ex a a') (na : noStar a' = true) (hb : PEm X G Ex b b') (nb : noStar b' = true) :
    PEm X G Ex (.con .tuple m (.rng2 a b)) (.Call (.Name "tuple" p) [.Call (.Name "range" p2) [a', b'] [] pos2] [] pos) := by
  obtain ⟨g1, _, _⟩ := glB_gl rfl hg
  obtain ⟨r1, _, _⟩ := glB_gl rfl hgr
  refine PE.imp (pe_tupRg gd.calm g1 (gd.blt _ (by decide)) (prg_2 r1 (gd.blt _ (by decide)) ha hb (star_cons na _ X.env) (star_cons nb _ X.env) (by rw [star_cons nb]; rfl)) rfl) fun σ H Q ⟨env, h, er, hr, q⟩ => ?_
  simp only [wpE, wpIt] at q
  refine se_mk gd.mono er hr q fun x h1 V H1 q p1 r1 hr1 => se_mk gd.mono (er.keep p1) hr1 q fun y h2 W H2 ⟨n, m, e, e2, ok, l, w⟩ p2 r2 hr2 => ?_
  subst e e2
  exact ⟨n, m, r1.int_inv, r2.int_inv, rg_ok ok l, tup_new (p1.trans p2) hr2 reps_rg w⟩
theorem cr_sorted (hu : X.A.units + 70 < cLine) : CallR X (.builtin "sorted") (fun xs H Q => ∃ x v h ys m, xs = [x] ∧ Rep X.K H x v ∧ HRep X.K h H ∧ seqT h v = some ys ∧ sortOk ys ∧ newL m (ys.mergeSort leP) h (up X.K H Q)) := by
  intro pins s σ H xs us Q I rv ⟨x, v, h, ys, m, e, r, hr, es, so, q⟩
  subst e
  obtain ⟨u, rfl, rx⟩ := vals1 rv
  obtain ⟨a, vs, rfl, sq, rs⟩ := rep_seq r hr es
  cases (show u = Value.ref a from rx)
  rcases sq with sq | sq
  · obtain ⟨hz, its, n, r1, hl, ho⟩ := sq.at_ I
    exact sorted_W I hu (.inl rfl) ho rfl rfl r1 (by rw [← hl]; exact hz) rs hr so q
  · obtain ⟨its, r1, pt, hz⟩ := I.tuple sq
    obtain ⟨⟨c1, d1, t1, sl1⟩, ho, hc, n, hd⟩ := pt
    exact sorted_W I hu (.inr rfl) ho hc hd r1 (by rw [← r1.length]; exact hz) rs hr so q
theorem e_conSorted (gd : Good X k G fs Ex) (hu : X.A.units + 70 < cLine) (hg : glB X.env.scope "sorted" = true) (ha : PEm X G Ex a a') (na : noStar a' = true) : PEm X G Ex (.con .sorted m (.seq a)) (.Call (.Name "sorted" p) [a'] [] pos) := by
  obtain ⟨g1, g2, g3⟩ := glB_gl rfl hg
  have se := star_cons na [] X.env
  refine PE.imp (pe_callB (cr_sorted hu) g1 (gd.blt _ (by decide)) boot_sorted (pa_cons (pe_sized ha) pa_nil se) g3 g2 se rfl) fun σ H Q ⟨env, h, er, hr, q⟩ => ?_
  simp only [wpE, wpIt] at q
  refine se_mk gd.mono er hr q fun x h1 V H1 ⟨S, e, q⟩ p1 r1 hr1 sz => ?_
  obtain ⟨l, vs, rfl, sq, rs⟩ := rep_seq r1 hr1 (srcV_seqT e)
  obtain ⟨so, q⟩ := q (by rw [← rs.length]; exact sz l vs rfl sq)
  exact ⟨_, x, h1, S.xs, m, rfl, r1, hr1, srcV_seqT e, so, newL_mono (fun _ _ => up.tr p1) q⟩
theorem i_seq {tg : PySem.Expr} (hG : GMono G) (ha : PEm X G Ex a a') : PI X tg a' (SI X (wpIt G Ex (.seq a))) := PI.imp (pi_seqW (pe_sized ha)) fun σ H R ⟨env, h, er, hr, q⟩ => by
  simp only [wpIt] at q
  refine se_mk hG er hr q fun x h1 V H1 ⟨S, e, q⟩ p1 r1 hr1 sz => ?_
  obtain ⟨l, vs, rfl, sq, rs⟩ := rep_seq r1 hr1 (srcV_seqT e)
  exact ⟨x, h1, S, r1, hr1, e, fun J wk l => q l J H1 p1 hr1 wk l⟩
theorem one_star {e : PySem.Expr} (h : noStar e = true) (env : PySem.Env) : starEach [e] env = [(false, eval e env)] := by rw [star_cons h]; rfl
theorem i_rng1 {tg : PySem.Expr} (gd : Good X k G fs Ex) (hgr : glB X.env.scope "range" = true) (ha : PEm X G Ex a a') (na : noStar a' = true) : PI X tg (.Call (.Name "range" p) [a'] [] pos) (SI X (wpIt G Ex (.rng1 a))) := by
  obtain ⟨r1, _, _⟩ := glB_gl rfl hgr
  refine PI.imp (pi_range1 r1 (gd.blt _ (by decide)) (pa_cons ha pa_nil (star_cons na [] X.env)) (one_star na _)) fun σ H R ⟨env, h, er, hr, q⟩ => ?_
  simp only [wpIt] at q
  refine se_mk gd.mono er hr q fun x h1 V H1 ⟨n, e, ok, l, q⟩ p1 r1 hr1 => ?_
  subst e
  refine ⟨n, by rw [r1.int_inv], ok.2.2.1, ok.2.2.2, ?_⟩
  have q := q (Itr 0 (n - 0).toNat) H1 p1 hr1 wk_rng (by show (rngV 0 n).length ≤ _; rw [rngV_len]; omega)
  rw [Int.sub_zero] at q
  exact q
theorem i_rng2 {tg : PySem.Expr} (gd : Good X k G fs Ex) (hgr : glB X.env.scope "range" = true) (ha : PEm X G Ex a a') (na : noStar a' = true) (hb : PEm X G Ex b b') (nb : noStar b' = true) : PI X tg (.Call (.Name "range" p) [a', b'] [] pos) (SI X (wpIt G Ex (.rng2 a b))) := by
  obtain ⟨r1, _, _⟩ := glB_gl rfl hgr
  refine PI.imp (pi_range2 r1 (gd.blt _ (by decide)) (pa_cons ha (pa_cons hb pa_nil (star_cons nb [] X.env)) (star_cons na _ X.env)) (by rw [star_cons na, star_cons nb]; rfl) (one_star nb _)) fun σ H R ⟨env, h, er, hr, q⟩ => ?_
  simp only [wpIt] at q
  refine se_mk gd.mono er hr q fun x h1 V H1 q p1 r1 hr1 => se_mk gd.mono (er.keep p1) hr1 q fun y h2 W H2 ⟨n, m, e, e2, ok, l, w⟩ p2 r2 hr2 => ?_
  subst e e2
  exact ⟨n, m, by rw [r1.int_inv, r2.int_inv], ok, w _ H2 (p1.trans p2) hr2 wk_rng (by show (rngV n m).length ≤ _; rw [rngV_len]; omega)⟩
theorem enumV_get {xs : List PV} {i : Nat} {y : PV} (e : xs[i]? = some y) : (enumV xs)[i]? = some (.tup [.int (i : Nat), y]) := by
  unfold enumV
  rw [List.getElem?_map, List.getElem?_zipIdx, e]
  simp
theorem enumV_len (xs : List PV) : (enumV xs).length = xs.length := by unfold enumV; simp
theorem wk_enum {a : Addr} {xs : List PV} {st : List (Addr × List PV)} (sq : ∀ H h, Pres H1 H → HRep K h H → Src.stays ⟨xs, st⟩ h → ∃ ws, SqL K H a ws ∧ Reps K H ws xs) : Wk K H1 (Ite K a) ⟨enumV xs, st⟩ where
  go := fun i H h p hr s l => by
    obtain ⟨ws, q, rs⟩ := sq H h p hr s
    have l : i < (enumV xs).length := l
    rw [enumV_len, ← rs.length] at l
    exact ⟨ws, ws[i]'l, q, List.getElem?_eq_getElem _⟩
  stop := fun i H h p hr s l => by
    obtain ⟨ws, q, rs⟩ := sq H h p hr s
    have l : (enumV xs).length ≤ i := l
    rw [enumV_len, ← rs.length] at l
    exact ⟨ws, q, l⟩
  yld := fun i H h x H' p hr s _ y => by
    obtain ⟨T, z, rfl, hT, rfl, y⟩ := y
    obtain ⟨ws, q, rs⟩ := sq H h p hr s
    obtain ⟨v, e, r⟩ := rs.getV (y ws q)
    exact ⟨_, enumV_get e, fun b u e => (upd_ne (ne_of_none e hT)).trans e, .tup upd_same (.cons (.int _) (.cons (r.keep (.new hT)) .nil))⟩
theorem keys_reps {K : KF} {H : Hp} {xs : List PV} {ks : List Key} (k : Keys xs ks) : Reps K H (ks.map kV) xs := by
  induction k with
  | nil => exact .nil
  | cons h t ih =>
    rw [List.map_cons]
    cases h with
    | int i => exact .cons (.int i) ih
    | str i => exact .cons (.str i) ih
theorem wk_enumT {a : Addr} {vs : List V} {xs : List PV} (sq : SqT K H1 a vs) (rs : Reps K H1 vs xs) : Wk K H1 (IteT K a) ⟨enumV xs, []⟩ where
  go := fun i H h p hr s l => by
    have l : i < (enumV xs).length := l
    rw [enumV_len, ← rs.length] at l
    exact ⟨vs, vs[i]'l, p.sqT sq, List.getElem?_eq_getElem _⟩
  stop := fun i H h p hr s l => by
    have l : (enumV xs).length ≤ i := l
    rw [enumV_len, ← rs.length] at l
    exact ⟨vs, p.sqT sq, l⟩
  yld := fun i H h x H' p hr s _ y => by
    obtain ⟨T, z, rfl, hT, rfl, y⟩ := y
    obtain ⟨v, e, r⟩ := (rs.keep p).getV (y vs (p.sqT sq))
    exact ⟨_, enumV_get e, fun b u e => (upd_ne (ne_of_none e hT)).trans e, .tup upd_same (.cons (.int _) (.cons (r.keep (.new hT)) .nil))⟩
theorem lstV_src {h : MH} {v : PV} {S : Src} {x : V} (r : Rep K H1 x v) (hr : HRep K h H1) (e : lstV h v = some S) : ∃ a ws, x = .ref a ∧ LL K H1 a ws ∧ Reps K H1 ws S.xs ∧ ∀ H h, Pres H1 H → HRep K h H → S.stays h → ∃ ws, SqL K H a ws ∧ Reps K H ws S.xs := by
  unfold lstV at e
  split at e
  · cases e
  · unfold srcV at e
    split at e
    · rename_i h0; exact (h0 _ rfl).elim
    · cases e
      obtain ⟨a, vs, e0, f, rs⟩ := r.lst_inv
      exact ⟨a, vs, e0, .inr f, rs, fun H h p _ _ => ⟨vs, (p.fzL f).sq, rs.keep p⟩⟩
    · rename_i a _
      split at e
      · rename_i xs e1
        cases e
        obtain ⟨vs, h1, rs⟩ := lst_at hr e1
        exact ⟨a, vs, r.loc_inv, .inl h1, rs, fun H' h p hr' st => by
          obtain ⟨ws, h2, rs2⟩ := lst_at hr' (st (a, xs) (by simp))
          exact ⟨ws, .of h2, rs2⟩⟩
      · cases e
    · cases e
theorem i_enum {elts : List PySem.Expr} {kk : Nat} {tpos : Pos} (gd : Good X k G fs Ex) (hge : glB X.env.scope "enumerate" = true) (ha : PEm X G Ex a a') (na : noStar a' = true) : PI X (.Tuple elts kk tpos) (.Call (.Name "enumerate" p) [a'] [] pos) (SI X (wpIt G Ex (.enum a))) := by
  obtain ⟨r1, _, _⟩ := glB_gl rfl hge
  refine PI.imp (pi_enumT r1 (gd.blt _ (by decide)) (pa_cons (pe_sized ha) pa_nil (star_cons na [] X.env)) (one_star na _)) fun σ H R ⟨env, h, er, hr, q⟩ => ?_
  simp only [wpIt] at q
  refine se_mk gd.mono er hr q fun x h1 V H1 ⟨S, e, q⟩ p1 r1 hr1 sz => ?_
  by_cases tt : ∃ xs, x = .tup xs
  · obtain ⟨xs, rfl⟩ := tt
    cases e
    obtain ⟨a, vs, rfl, sq, rs⟩ := r1.tup_inv
    have l : xs.length ≤ sizeLine := by rw [← rs.length]; exact sz a vs rfl (.inr sq)
    exact ⟨a, vs, rfl, .inr ⟨sq, q l _ H1 p1 hr1 (wk_enumT sq rs) (by show (enumV xs).length ≤ _; rw [enumV_len]; exact l)⟩⟩
  · have e' : lstV h1 x = some S := by
      cases x with
      | tup xs => exact absurd ⟨xs, rfl⟩ tt
      | _ => exact e
    obtain ⟨a, ws, rfl, ll, rs, st⟩ := lstV_src r1 hr1 e'
    have l : S.xs.length ≤ sizeLine := by rw [← rs.length]; exact sz a ws rfl (.inl ll)
    exact ⟨a, ws, rfl, .inl ⟨ll.sq, q l _ H1 p1 hr1 (wk_enum (xs := S.xs) (st := S.st) st) (by show (enumV S.xs).length ≤ _; rw [enumV_len]; exact l)⟩⟩
theorem wk_keysT {d : Addr} {o : Obj} {kvs : List (List Key × V)} {ks : List (List PV)} (hd : H1 d = some (.frz o (.dT kvs))) (pk : Paired Keys ks (kvs.map (·.1))) : Wk K H1 (Itkt d o kvs) ⟨ks.map PV.tup, []⟩ where
  go := fun i H h p hr s l => ⟨p.frz _ _ _ hd, by
    have := Paired.length pk
    simp only [List.length_map] at l this
    omega⟩
  stop := fun i H h p hr s l => ⟨p.frz _ _ _ hd, by
    have := Paired.length pk
    simp only [List.length_map] at l this
    omega⟩
  yld := fun i H h x H' p hr s l y => by
    obtain ⟨e, k, v, q, ek, rfl, hq⟩ := y
    subst e
    have ek' : (kvs.map (·.1))[i]? = some k := by rw [List.getElem?_map, ek]; rfl
    have l' : i < ks.length := by simpa using l
    obtain ⟨k2, e2, hk⟩ := paired_get pk (List.getElem?_eq_getElem l')
    rw [ek'] at e2
    cases e2
    refine ⟨.tup (ks[i]'l'), ?_, .refl, .tup hq (keys_reps hk)⟩
    show (ks.map PV.tup)[i]? = _
    rw [List.getElem?_map, List.getElem?_eq_getElem l']
    rfl
def SizedD (v : V) (H : Hp) : Prop := ∀ p kvs, v = .ref p → (H p = some (.dT kvs) ∨ ∃ o, H p = some (.frz o (.dT kvs))) → kvs.length ≤ sizeLine
theorem pe_sizedD {e : PySem.Expr} {t : TE} (h : PE X e t) : PE X e (fun σ H Q => t σ H fun v H1 => SizedD v H1 → Q v H1) := ⟨fun pins s σ H Q I hq =>
  thn (h.run pins s σ H _ I hq) fun u s' ⟨v, H1, I1, r1, q⟩ => ⟨v, H1, I1, r1, q fun p kvs e hp => by
    rcases hp with hp | ⟨o, hp⟩
    · exact (dt_of I1.hok hp).1
    · exact (dt_rd I1.hok (.inr ⟨o, hp⟩)).1⟩⟩
theorem wk_chars {z : Str} : Wk K H1 (Its z) ⟨z.cps.toList.map fun c => PV.str ⟨#[c]⟩, []⟩ where
  go := fun i H h p hr s l => show i < z.cps.size by simpa using l
  stop := fun i H h p hr s l => show z.cps.size ≤ i by simpa using l
  yld := fun i H h x H' p hr s l y => by
    obtain ⟨e, c, ec, rfl⟩ := y
    subst e
    refine ⟨.str ⟨#[c]⟩, ?_, .refl, .str _⟩
    show (z.cps.toList.map fun c => PV.str ⟨#[c]⟩)[i]? = _
    rw [List.getElem?_map, Array.getElem?_toList, ec]
    rfl
theorem i_chars {tg : PySem.Expr} (hG : GMono G) (ha : PEm X G Ex a a') : PI X tg a' (SI X (wpIt G Ex (.chars a))) := PI.imp (pi_str ha) fun σ H R ⟨env, h, er, hr, q⟩ => by
  simp only [wpIt] at q
  refine se_mk hG er hr q fun x h1 V H1 ⟨z, e, lz, q⟩ p1 r1 hr1 => ?_
  subst e
  cases r1.str_inv
  refine ⟨z, rfl, q (Its z) H1 p1 hr1 wk_chars ?_⟩
  have lz : z.cps.size ≤ sizeLine := lz
  simpa using lz
def SizedK (v : V) (H : Hp) : Prop := ∀ p kvs, v = .ref p → (H p = some (.dK kvs) ∨ ∃ o, H p = some (.frz o (.dK kvs))) → kvs.length ≤ sizeLine
theorem pe_sizedK {e : PySem.Expr} {t : TE} (h : PE X e t) : PE X e (fun σ H Q => t σ H fun v H1 => SizedK v H1 → Q v H1) := ⟨fun pins s σ H Q I hq =>
  thn (h.run pins s σ H _ I hq) fun u s' ⟨v, H1, I1, r1, q⟩ => ⟨v, H1, I1, r1, q fun p kvs e hp => by
    rcases hp with hp | ⟨o, hp⟩
    · exact (I1.hok p _ hp).1
    · exact (I1.hok p _ hp).2.1⟩⟩
theorem wk_keysK {d : Addr} {o : Obj} {kvs : List (Key × V)} {xs : List PV} (hd : H1 d = some (.frz o (.dK kvs))) (pk : Keys xs (kvs.map (·.1))) : Wk K H1 (Itk d o kvs) ⟨xs, []⟩ where
  go := fun i H h p hr s l => ⟨p.frz _ _ _ hd, by
    have := (keys_reps (K := K) (H := H) pk).length
    simp only [List.length_map] at l this
    omega⟩
  stop := fun i H h p hr s l => ⟨p.frz _ _ _ hd, by
    have := (keys_reps (K := K) (H := H) pk).length
    simp only [List.length_map] at l this
    omega⟩
  yld := fun i H h x H' p hr s l y => by
    obtain ⟨e, k, v, ek, rfl⟩ := y
    subst e
    have ek' : ((kvs.map (·.1)).map kV)[i]? = some (kV k) := by rw [List.getElem?_map, List.getElem?_map, ek]; rfl
    obtain ⟨z, q, r⟩ := (keys_reps (K := K) (H := H') pk).getV ek'
    exact ⟨z, q, .refl, r⟩
theorem i_keys {tg : PySem.Expr} (hG : GMono G) (ha : PEm X G Ex a a') : PI X tg a' (SI X (wpIt G Ex (.keys a))) := PI.imp (pi_keys (pe_laid (pe_sizedK (pe_sizedD ha)))) fun σ H R ⟨env, h, er, hr, q⟩ => by
  simp only [wpIt] at q
  refine se_mk hG er hr q fun x h1 V H1 q p1 r1 hr1 sz sk => ?_
  unfold keysW at q
  split at q
  · rename_i d
    split at q
    · rename_i ps e
      obtain rfl := r1.loc_inv
      obtain ⟨d', ed, e⟩ := kcell_loc e
      cases ed
      obtain ⟨kvs, hf, pk, rs⟩ := kcell_inv hr1 e
      have lz : ps.length ≤ sizeLine := by
        have := sk d kvs rfl hf
        have := rs.length
        simp only [List.length_map] at this
        omega
      have q := q lz
      have fin : ∀ H', Pres H1 H' → (∀ b, b ≠ d → H' b = H1 b) → (∃ o, H' d = some (.frz o (.dK kvs))) → ∃ d' o, V.ref d = .ref d' ∧ ((∃ kvs, H' d' = some (.frz o (.dK kvs)) ∧ R (Itk d' o kvs) H') ∨ ∃ kvs, H' d' = some (.frz o (.dT kvs)) ∧ R (Itkt d' o kvs) H') := by
        intro H' p' out ⟨o, hd⟩
        refine ⟨d, o, rfl, .inl ⟨kvs, hd, q _ H' (p1.trans p') (fun b c ec => ?_) (wk_keysK hd pk) (by simpa using lz)⟩⟩
        unfold MH.put at ec
        by_cases hb : b = d
        · subst hb
          rw [if_pos rfl] at ec; cases ec
          exact ⟨_, hd, .dcf pk (rs.keep p')⟩
        · rw [if_neg hb] at ec
          obtain ⟨u, h2, h3⟩ := hr1 b c ec
          exact ⟨u, (out b hb).trans h2, h3.keep p'⟩
      rcases hf with hf | ⟨o, hf⟩
      · have ok : ∀ a, a = d → ∃ u, H1 a = some u ∧ Fz1 u := fun a e => ⟨.dK kvs, by subst e; exact hf, True.intro⟩
        refine ⟨fun a => a = d, ok, fun H' f => ?_⟩
        obtain ⟨u, o, e1, e2⟩ := f.at_ d rfl
        rw [hf] at e1
        cases e1
        exact fin H' (f.pres ok) (fun b hb => f.out b hb) ⟨o, e2⟩
      · exact Laid.none (fin H1 .refl (fun _ _ => rfl) ⟨o, hf⟩)
    obtain ⟨ps, e, q⟩ := q
    obtain rfl := r1.loc_inv
    obtain ⟨d', ed, e⟩ := dcell_loc e
    cases ed
    obtain ⟨kvs, hf, pk, rs⟩ := dcell_inv hr1 e
    have lz : ps.length ≤ sizeLine := by
      have := sz d kvs rfl hf
      have := rs.length
      simp only [List.length_map] at this
      omega
    have q := q lz
    have em : (ps.map fun p => PV.tup p.1) = (ps.map (·.1)).map PV.tup := by rw [List.map_map]; rfl
    have fin : ∀ H', Pres H1 H' → (∀ b, b ≠ d → H' b = H1 b) → (∃ o, H' d = some (.frz o (.dT kvs))) → ∃ d' o, V.ref d = .ref d' ∧ ((∃ kvs, H' d' = some (.frz o (.dK kvs)) ∧ R (Itk d' o kvs) H') ∨ ∃ kvs, H' d' = some (.frz o (.dT kvs)) ∧ R (Itkt d' o kvs) H') := by
      intro H' p' out ⟨o, hd⟩
      refine ⟨d, o, rfl, .inr ⟨kvs, hd, q _ H' (p1.trans p') (fun b c ec => ?_) (by rw [em]; exact wk_keysT hd pk) (by simpa using lz)⟩⟩
      unfold MH.put at ec
      by_cases hb : b = d
      · subst hb
        rw [if_pos rfl] at ec; cases ec
        exact ⟨_, hd, .dtf pk (rs.keep p')⟩
      · rw [if_neg hb] at ec
        obtain ⟨u, h2, h3⟩ := hr1 b c ec
        exact ⟨u, (out b hb).trans h2, h3.keep p'⟩
    rcases hf with hf | ⟨o, hf⟩
    · have ok : ∀ a, a = d → ∃ u, H1 a = some u ∧ Fz1 u := fun a e => ⟨.dT kvs, by subst e; exact hf, True.intro⟩
      refine ⟨fun a => a = d, ok, fun H' f => ?_⟩
      obtain ⟨u, o, e1, e2⟩ := f.at_ d rfl
      rw [hf] at e1
      cases e1
      exact fin H' (f.pres ok) (fun b hb => f.out b hb) ⟨o, e2⟩
    · exact Laid.none (fin H1 .refl (fun _ _ => rfl) ⟨o, hf⟩)
  · exact q.elim
theorem wk_zip {a b : Addr} {xs ys : List PV} {st st2 : List (Addr × List PV)} (sq : ∀ H h, Pres H1 H → HRep K h H → Src.stays ⟨xs, st⟩ h → ∃ ws, SqL K H a ws ∧ Reps K H ws xs) (sq2 : ∀ H h, Pres H1 H → HRep K h H → Src.stays ⟨ys, st2⟩ h → ∃ ws, SqL K H b ws ∧ Reps K H ws ys) :
    Wk K H1 (Itz K a b) ⟨(xs.zip ys).map fun p => PV.tup [p.1, p.2], st ++ st2⟩ where
  go := fun i H h p hr s l => by
    obtain ⟨ws, q, rs⟩ := sq H h p hr fun z hz => s z (List.mem_append_left _ hz)
    obtain ⟨us, q2, rs2⟩ := sq2 H h p hr fun z hz => s z (List.mem_append_right _ hz)
    have l : i < ((xs.zip ys).map fun p => PV.tup [p.1, p.2]).length := l
    rw [List.length_map, List.length_zip, ← rs.length, ← rs2.length] at l
    exact ⟨ws, us, ws[i]'(by omega), us[i]'(by omega), q, q2, List.getElem?_eq_getElem _, List.getElem?_eq_getElem _⟩
  stop := fun i H h p hr s l => by
    obtain ⟨ws, q, rs⟩ := sq H h p hr fun z hz => s z (List.mem_append_left _ hz)
    obtain ⟨us, q2, rs2⟩ := sq2 H h p hr fun z hz => s z (List.mem_append_right _ hz)
    have l : ((xs.zip ys).map fun p => PV.tup [p.1, p.2]).length ≤ i := l
    rw [List.length_map, List.length_zip, ← rs.length, ← rs2.length] at l
    exact ⟨ws, us, q, q2, by omega⟩
  yld := fun i H h x H' p hr s _ y => by
    obtain ⟨T, z, w, rfl, hT, rfl, y1, y2⟩ := y
    obtain ⟨ws, q, rs⟩ := sq H h p hr fun z hz => s z (List.mem_append_left _ hz)
    obtain ⟨us, q2, rs2⟩ := sq2 H h p hr fun z hz => s z (List.mem_append_right _ hz)
    obtain ⟨v, e, r⟩ := rs.getV (y1 ws q)
    obtain ⟨v2, e2, r2⟩ := rs2.getV (y2 us q2)
    refine ⟨.tup [v, v2], ?_, fun b u e => (upd_ne (ne_of_none e hT)).trans e, .tup upd_same (.cons (r.keep (.new hT)) (.cons (r2.keep (.new hT)) .nil))⟩
    show ((xs.zip ys).map fun p => PV.tup [p.1, p.2])[i]? = _
    rw [List.getElem?_map, List.getElem?_zip_eq_some.mpr (show xs[i]? = some (v, v2).1 ∧ ys[i]? = some (v, v2).2 from ⟨e, e2⟩)]
    rfl
theorem wk_zipT {a b : Addr} {vs us : List V} {xs ys : List PV} (sq : SqT K H1 a vs) (rs : Reps K H1 vs xs) (sq2 : SqT K H1 b us) (rs2 : Reps K H1 us ys) : Wk K H1 (RZ.ItzT K a b) ⟨(xs.zip ys).map fun p => PV.tup [p.1, p.2], []⟩ where
  go := fun i H h p hr s l => by
    have l : i < ((xs.zip ys).map fun p => PV.tup [p.1, p.2]).length := l
    rw [List.length_map, List.length_zip, ← rs.length, ← rs2.length] at l
    exact ⟨vs, us, vs[i]'(by omega), us[i]'(by omega), p.sqT sq, p.sqT sq2, List.getElem?_eq_getElem _, List.getElem?_eq_getElem _⟩
  stop := fun i H h p hr s l => by
    have l : ((xs.zip ys).map fun p => PV.tup [p.1, p.2]).length ≤ i := l
    rw [List.length_map, List.length_zip, ← rs.length, ← rs2.length] at l
    exact ⟨vs, us, p.sqT sq, p.sqT sq2, by omega⟩
  yld := fun i H h x H' p hr s _ y => by
    obtain ⟨T, z, w, rfl, hT, rfl, y1, y2⟩ := y
    obtain ⟨v, e, r⟩ := (rs.keep p).getV (y1 vs (p.sqT sq))
    obtain ⟨v2, e2, r2⟩ := (rs2.keep p).getV (y2 us (p.sqT sq2))
    refine ⟨.tup [v, v2], ?_, fun b u e => (upd_ne (ne_of_none e hT)).trans e, .tup upd_same (.cons (r.keep (.new hT)) (.cons (r2.keep (.new hT)) .nil))⟩
    show ((xs.zip ys).map fun p => PV.tup [p.1, p.2])[i]? = _
    rw [List.getElem?_map, List.getElem?_zip_eq_some.mpr (show xs[i]? = some (v, v2).1 ∧ ys[i]? = some (v, v2).2 from ⟨e, e2⟩)]
    rfl
theorem i_zip {elts : List PySem.Expr} {kk : Nat} {tpos : Pos} (gd : Good X k G fs Ex) (hgz : glB X.env.scope "zip" = true) (ha : PEm X G Ex a a') (na : noStar a' = true) (hb : PEm X G Ex b b') (nb : noStar b' = true) :
    PI X (.Tuple elts kk tpos) (.Call (.Name "zip" p) [a', b'] [] pos) (SI X (wpIt G Ex (.zip a b))) := by
  obtain ⟨r1, _, _⟩ := glB_gl rfl hgz
  refine PI.imp (RZ.pi_zipA r1 (gd.blt _ (by decide)) (pa_sized (pa_cons ha (pa_cons hb pa_nil (star_cons nb [] X.env)) (star_cons na _ X.env))) (star_cons na _ _) (by rw [star_cons nb]; rfl)) fun σ H R ⟨env, h, er, hr, q⟩ => ?_
  simp only [wpIt] at q
  refine se_mk gd.mono er hr q fun x h1 V H1 q p1 r1 hr1 => se_mk gd.mono (er.keep p1) hr1 q fun y h2 W H2 ⟨S, T, e, w⟩ p2 r2 hr2 sz => ?_
  have zl : ∀ S T : Src, S.xs.length ≤ sizeLine → ((S.xs.zip T.xs).map fun p => PV.tup [p.1, p.2]).length ≤ sizeLine := fun S T l => by rw [List.length_map, List.length_zip]; omega
  unfold zipV at e
  split at e
  · rename_i z1 z2 xs ys q9
    cases e
    obtain ⟨a, vs, rfl, sq, rs⟩ := (r1.keep p2).tup_inv
    obtain ⟨b, us, rfl, sq2, rs2⟩ := r2.tup_inv
    have l1 : xs.length ≤ sizeLine := by rw [← rs.length]; exact sz _ (by simp) a vs rfl (.inr sq)
    have l2 : ys.length ≤ sizeLine := by rw [← rs2.length]; exact sz _ (by simp) b us rfl (.inr sq2)
    exact ⟨a, b, vs, us, rfl, .inr ⟨sq, sq2, w l1 l2 _ H2 (p1.trans p2) hr2 (wk_zipT sq rs sq2 rs2) (zl ⟨xs, []⟩ ⟨ys, []⟩ l1)⟩⟩
  · rename_i z1 z2 ns ys q9
    cases e
    obtain ⟨a, rfl, hc⟩ := (r1.keep p2).cst_inv
    obtain ⟨b, us, rfl, sq2, rs2⟩ := r2.tup_inv
    have sq : SqT X.K H2 a (ns.map V.int) := .inr hc
    have l1 : (ns.map PV.int).length ≤ sizeLine := by have := sz _ (by simp) a _ rfl (.inr sq); simpa using this
    have l2 : ys.length ≤ sizeLine := by rw [← rs2.length]; exact sz _ (by simp) b us rfl (.inr sq2)
    exact ⟨a, b, _, us, rfl, .inr ⟨sq, sq2, w l1 l2 _ H2 (p1.trans p2) hr2 (wk_zipT sq (Reps.of_ints ns) sq2 rs2) (zl ⟨ns.map PV.int, []⟩ ⟨ys, []⟩ l1)⟩⟩
  · split at e
    · rename_i S' T' e1 e2
      cases e
      obtain ⟨a, ws, rfl, ll, rs, st⟩ := lstV_src (r1.keep p2) hr2 e1
      obtain ⟨b, us, rfl, ll2, rs2, st2⟩ := lstV_src r2 hr2 e2
      have l1 : S.xs.length ≤ sizeLine := by rw [← rs.length]; exact sz _ (by simp) a ws rfl (.inl ll)
      have l2 : T.xs.length ≤ sizeLine := by rw [← rs2.length]; exact sz _ (by simp) b us rfl (.inl ll2)
      exact ⟨a, b, ws, us, rfl, .inl ⟨ll.sq, ll2.sq, w l1 l2 _ H2 (p1.trans p2) hr2 (wk_zip (xs := S.xs) (ys := T.xs) (st := S.st) (st2 := T.st) st st2) (zl S T l1)⟩⟩
    · cases e
theorem e_dct0 {pos : Pos} : PEm X G Ex (.dct0 m) (.Dict [] [] pos) := PE.imp (pe_laid pe_dnewK) fun σ H Q ⟨env, h, er, hr, q⟩ p hp => by
  simp only [wpE] at q
  cases m with
  | true =>
    exact Laid.none (q p (hr.fresh hp) _ _ (.new hp) (.loc p) (hr.new hp (CRep.dctK (ps := []) (kvs := []) .nil .nil)))
  | false =>
    have ok : ∀ a, a = p → ∃ u, upd H p (.dK []) a = some u ∧ Fz1 u := fun a e => ⟨.dK [], by subst e; exact upd_same, True.intro⟩
    refine ⟨fun a => a = p, ok, fun H' f => ?_⟩
    obtain ⟨u, o, e1, e2⟩ := f.at_ p rfl
    rw [upd_same] at e1
    cases e1
    have prH : Pres H H' := (Pres.new hp).trans (f.pres ok)
    refine q _ H' prH (.dctK e2 .nil .nil) (hr.keep prH fun a c e => ?_)
    obtain ⟨u, h1, _⟩ := hr a c e
    have ne : a ≠ p := ne_of_none h1 hp
    rw [f.out a ne, upd_ne ne]
theorem dct1W_key {x y : PV} {h : MH} {Q : Post} (q : dct1W x y h Q) : ((∃ kk, KeyRep x kk) ∨ ∃ xs ks, x = .tup xs ∧ Keys xs ks) ∧ Q (.dct [x] [y]) h := by
  unfold dct1W at q
  split at q
  · exact ⟨.inl ⟨_, .int _⟩, q⟩
  · exact ⟨.inl ⟨_, .str _⟩, q⟩
  · obtain ⟨ks, k⟩ := keys_of q.1
    exact ⟨.inr ⟨_, ks, rfl, k⟩, q.2⟩
  · exact q.elim
theorem e_dct1 {pos : Pos} (hu : X.A.units + 1 < cLine) (hG : GMono G) (ha : PEm X G Ex a a') (hb : PEm X G Ex b b') : PEm X G Ex (.dct1 a b) (.Dict [some a'] [b'] pos) := PE.imp (pe_laid (pe_disp1 hu (pe_lk ha) (pe_lk hb))) fun σ H Q ⟨env, h, er, hr, q⟩ p hp => by
  simp only [wpE] at q
  refine ⟨p, .dK [], upd_same, True.intro, fun od => ?_⟩
  have hn := hr.fresh hp
  have hr0 : HRep X.K h (upd H p (.dK [])) := hr.newP hp
  obtain ⟨hrl, pl⟩ := HRep.lk (o := frz2 od (.dK [])) (H := upd H p (.dK [])) upd_same (fun _ z => nomatch z) (fun _ _ z => nomatch z) hn hr0
  have p0 : Pres H (upd (upd H p (.dK [])) p (frz2 od (.dK []))) := (Pres.new hp).trans pl
  refine se_mk hG (er.keep p0) hrl q fun x h1 V H1 q p1 r1 hr1 => ?_
  have d1 : H1 p = some (frz2 od (.dK [])) := p1.frz p _ _ upd_same
  obtain ⟨u1, u2⟩ := HRep.un d1 (.dK []) hr1
  refine ⟨d1, p, .dK [], upd_same, True.intro, fun od2 => ?_⟩
  obtain ⟨hrl2, pl2⟩ := HRep.lk (o := frz2 od2 (.dK [])) (H := upd H1 p (.dK [])) upd_same (fun _ z => nomatch z) (fun _ _ z => nomatch z) u2 u1
  have er1 : EnvRep X.K (upd (upd H1 p (.dK [])) p (frz2 od2 (.dK []))) σ env := ((((er.keep p0).keep p1).un d1 (.dK [])).keep pl2)
  refine se_mk hG er1 hrl2 q fun y h2 W H2 q p2 r2 hr2 => ?_
  have d2 : H2 p = some (frz2 od2 (.dK [])) := p2.frz p _ _ upd_same
  obtain ⟨kr | ⟨xs, ks, rfl, kr⟩, q⟩ := dct1W_key q
  · obtain ⟨kk, kr⟩ := kr
    have eV : V = kV kk := key_V kr r1
    refine ⟨d2, upd_same, .inl ⟨kk, eV, ?_⟩⟩
    rw [upd_upd]
    obtain ⟨w1, w2⟩ := HRep.un d2 (.dK [(kk, W)]) hr2
    have ok : ∀ a, a = p → ∃ u, upd H2 p (.dK [(kk, W)]) a = some u ∧ Fz1 u := fun a e => ⟨.dK [(kk, W)], by subst e; exact upd_same, True.intro⟩
    refine ⟨fun a => a = p, ok, fun H' f => ?_⟩
    obtain ⟨u, o, e1, e2⟩ := f.at_ p rfl
    rw [upd_same] at e1
    cases e1
    have pf : Pres (upd H2 p (.dK [(kk, W)])) H' := f.pres ok
    have pH : Pres H (upd H2 p (.dK [(kk, W)])) := ((((p0.trans p1).past hp).trans pl2).trans p2).past hp
    refine q _ H' (pH.trans pf) (.dctK e2 (.cons kr .nil) (.cons ((r2.un d2 _).keep pf) .nil)) (w1.keep pf fun a c e => ?_)
    exact f.out a fun z => by subst z; rw [w2] at e; cases e
  · obtain ⟨b, vs, rfl, hb1, rs⟩ := r1.tup_invS
    have eV : vs = ks.map kV := keys_V kr rs
    subst eV
    have ne : b ≠ p := fun z => by subst z; rw [d1] at hb1; cases hb1
    have hb2 : H2 b = some (.tup (ks.map kV)) := p2.tup _ _ (pl2.tup _ _ ((upd_ne ne).trans hb1))
    refine ⟨d2, upd_same, .inr ⟨b, ks, rfl, (upd_ne ne).trans hb2, ?_⟩⟩
    rw [upd_upd]
    obtain ⟨w1, w2⟩ := HRep.un d2 (.dT [(ks, W)]) hr2
    have ok : ∀ a, a = p → ∃ u, upd H2 p (.dT [(ks, W)]) a = some u ∧ Fz1 u := fun a e => ⟨.dT [(ks, W)], by subst e; exact upd_same, True.intro⟩
    refine ⟨fun a => a = p, ok, fun H' f => ?_⟩
    obtain ⟨u, o, e1, e2⟩ := f.at_ p rfl
    rw [upd_same] at e1
    cases e1
    have pf : Pres (upd H2 p (.dT [(ks, W)])) H' := f.pres ok
    have pH : Pres H (upd H2 p (.dT [(ks, W)])) := ((((p0.trans p1).past hp).trans pl2).trans p2).past hp
    refine q _ H' (pH.trans pf) (.dctT (ks := [xs]) e2 (.cons kr .nil) (.cons ((r2.un d2 _).keep pf) .nil)) (w1.keep pf fun a c e => ?_)
    exact f.out a fun z => by subst z; rw [w2] at e; cases e
end
end MP
set_option Elab.async false
set_option linter.all false
set_option maxRecDepth 100000
set_option maxHeartbeats 1000000
namespace MP
open PySem PySem.Spec PyProof.Rows L2
section
variable {X : Cx} {pins : List (Addr × Obj)} {σ : L2.St} {H : Hp} {s : Shared}
abbrev TPair (K : KF) (H : Hp) (p : Addr) (kv : List Key × V) : Prop := ∃ b, SqT K H p [.ref b, kv.2] ∧ H b = some (.tup (kv.1.map kV))
theorem tpairs_of (I : Inv X pins σ H s) : ∀ {ps : List Addr} {kvs : List (List Key × V)}, Paired (TPair X.K H) ps kvs →
    ∃ prs : List (List Key × Addr × Value), KT H kvs prs ∧ prs.length = ps.length ∧ ∀ (j : Nat) (q : List Key × Addr × Value), prs[j]? = some q → ∃ b, ps[j]? = some b ∧ IsTup s.heap b #[.ref q.2.1, q.2.2]
  | _, _, .nil => ⟨[], .nil, rfl, fun j q e => by simp at e⟩
  | _, _, .cons (a := p) (b := kv) h t => by
    obtain ⟨prs, r, hl, hp⟩ := tpairs_of I t
    obtain ⟨b, h, hb⟩ := h
    obtain ⟨its, rv, ht, _⟩ := I.tuple h
    obtain ⟨u, y, ei, ru, ry⟩ := vals2 rv
    subst ei
    cases (show u = Value.ref b from ru)
    refine ⟨(kv.1, b, y) :: prs, .cons ⟨rfl, hb, ry⟩ r, by rw [List.length_cons, List.length_cons, hl], fun j q e => ?_⟩
    cases j with
    | zero =>
      have e' : (kv.1, b, y) = q := Option.some.inj e
      subst e'
      exact ⟨p, rfl, ht⟩
    | succ j =>
      obtain ⟨b', e1, e2⟩ := hp j q (by simpa using e)
      exact ⟨b', by simpa using e1, e2⟩
theorem kt_keys {kvs : List (List Key × V)} {prs : List (List Key × Addr × Value)} (r : KT H kvs prs) : kvs.map (·.1) = prs.map (·.1) := by
  induction r with
  | nil => rfl
  | cons a _ ih => simp only [List.map_cons, ih, a.1]
theorem stored_new : ∀ (ps acc : List (List Key × Addr × Value)), ((acc ++ ps).map (·.1)).Nodup → storedAllH acc ps = acc ++ ps
  | [], acc, _ => by simp [storedAllH]
  | p :: ps, acc, h => by
    have e : atKey acc p.1 = none := by
      cases z : atKey acc p.1 with
      | none => rfl
      | some q =>
        exfalso
        have hm : p.1 ∈ acc.map (·.1) := by
          unfold atKey at z
          cases y : acc.find? (fun kv => decide (kv.1 = p.1)) with
          | none => simp [y] at z
          | some kv =>
            have h1 := List.mem_of_find?_eq_some y
            have h2 := List.find?_some y
            exact List.mem_map.mpr ⟨kv, h1, by simpa using h2⟩
        rw [List.map_append, List.nodup_append] at h
        exact h.2.2 _ hm _ (List.mem_map.mpr ⟨p, List.mem_cons_self .., rfl⟩) rfl
    show storedAllH (storedH acc p.1 p.2.1 p.2.2) ps = _
    rw [storedH_new e, stored_new ps _ (by simpa using h)]
    simp
theorem call_dictT (hcalm : X.calm = true) (hu : X.A.units + 3 < cLine) : CallR X (.type "dict") (fun xs H Q => ∃ (a : Addr) (ps : List Addr) (kvs : List (List Key × V)), xs = [.ref a] ∧ SqL X.K H a (ps.map V.ref) ∧ Paired (TPair X.K H) ps kvs ∧
    (kvs.map (·.1)).Nodup ∧ ∀ p, H p = none → Q (.ref p) (upd H p (.dT kvs))) := by
  intro pins s σ H xs us Q I r q
  obtain ⟨a, ps, kvs, ex, hq, hp, nd, q⟩ := q
  subst ex
  obtain ⟨u, eu, rx⟩ := vals1 r
  subst eu
  cases rx
  obtain ⟨its, rv, pl, hz⟩ := I.list hq
  have ei := refs_at rv
  subst ei
  rw [List.length_map] at hz
  obtain ⟨prs, rel, hl, hpr⟩ := tpairs_of I hp
  obtain ⟨o, n, ho, hc, hd, hdat⟩ := pl
  have at_ : ∀ (j : Nat) (k v : Value), (prs.map fun q => (Value.ref q.2.1, q.2.2))[j]? = some (k, v) → ∃ q : List Key × Addr × Value, prs[j]? = some q ∧ k = Value.ref q.2.1 ∧ v = q.2.2 := fun j k v e => by
    rw [List.getElem?_map] at e
    cases z : prs[j]? with
    | none => rw [z] at e; cases e
    | some q => rw [z] at e; cases e; exact ⟨q, rfl, rfl, rfl⟩
  have is_ : ∀ x ∈ prs, (tupleKind (mixKind X.prog X.w)).is s.heap x.1 x.2.1 := by
    have all : ∀ {l : List (List Key × V)} {m : List (List Key × Addr × Value)}, KT H l m → ∀ x ∈ m, (tupleKind (mixKind X.prog X.w)).is s.heap x.1 x.2.1 := by
      intro l m q
      induction q with
      | nil => intro x hx; exact nomatch hx
      | @cons p q ps qs hq t ih =>
        intro x hx
        rcases List.mem_cons.mp hx with e | hx
        · subst e
          exact key_of I.hok (by rw [← hq.1]; exact hq.2.1)
        · exact ih x hx
    exact all rel
  refine call_dict_pairsH (knd := tupleKind (mixKind X.prog X.w)) (ps := prs) (PairArg.list a (ps.map Value.ref).toArray (fun j => ps.getD j 0) (prs.map fun q => (Value.ref q.2.1, q.2.2))) (I.ok.hd hcalm) ?_ ?_ ?_ ?_ ?_ ?_
  · show X.A.in1.in1.units < cLine
    simp only [Around.in1_units]; omega
  · refine ⟨⟨o, n, ho, hc, hd, hdat⟩, by simp [hl], fun j k v e => ?_⟩
    obtain ⟨q, e1, rfl, rfl⟩ := at_ j k v e
    obtain ⟨b, e2, e3⟩ := hpr j q e1
    have e4 : ps.getD j 0 = b := by simp [List.getD, e2]
    refine ⟨?_, ?_⟩
    · show _ = some (Value.ref (ps.getD j 0))
      rw [e4]; simp [e2]
    · show PairAt _ (ps.getD j 0) _ _
      rw [e4]; exact .inl e3
  · refine ⟨by simp, fun i key v e => ?_⟩
    obtain ⟨q, e1, rfl, rfl⟩ := at_ i key v e
    exact ⟨q.1, q.2.1, e1, rfl⟩
  · intro h' hk x hx
    obtain ⟨o', items, n', h1, h2, h3, h4⟩ := is_ x hx
    refine ⟨o', items, n', hk _ _ ?_ (by simp) h1, h2, h3, h4⟩
    exact Nat.ne_of_lt (Heap.lt_size h1)
  · rw [List.length_map, hl]; exact hz
  · intro h' tk hd' hk
    rw [stored_new prs [] (by rw [List.nil_append, ← kt_keys rel]; exact nd), List.nil_append] at hd'
    have hm : (s.heap.objs.size == sysModules) = false := beq_eq_false_iff_ne.mpr (Nat.ne_of_gt I.big)
    have hn := I.hok.fresh (Nat.le_refl s.heap.objs.size)
    obtain ⟨q', es, ep, hq', h2, h3, h4, _, h5⟩ := hd'
    have hlen : kvs.length ≤ sizeLine := by rw [Paired.length rel, hl]; exact hz
    exact ⟨.ref s.heap.objs.size, upd H s.heap.objs.size (.dT kvs), I.laid (t' := tk) (fun b u e => hk b u (by simp) e) (Nat.le_refl _)
      (show ObjOk X.prog X.w _ _ _ (.dT kvs) from ⟨hlen, hm, prs, rel.keeps fun b ys e => (upd_ne (ne_of_none e hn)).trans e, q', es, ep, hq', h2, h3, h4, h5⟩), rfl, q _ hn⟩
theorem pairs_inv {K : KF} : ∀ {ps : List (List PV × PV)} {vs : List V}, Reps K H vs (ps.map fun p => .tup [.tup p.1, p.2]) → (∀ p ∈ ps, p.1.all isKey = true) →
    ∃ (as : List Addr) (kvs : List (List Key × V)), vs = as.map V.ref ∧ Paired (TPair K H) as kvs ∧ Paired Keys (ps.map (·.1)) (kvs.map (·.1)) ∧ Reps K H (kvs.map (·.2)) (ps.map (·.2))
  | [], _, r, _ => by cases r; exact ⟨[], [], rfl, .nil, .nil, .nil⟩
  | p :: ps, _, r, hk => by
    rw [List.map_cons] at r
    cases r with
    | cons a b =>
      obtain ⟨as, kvs, e, h1, h2, h3⟩ := pairs_inv b fun q hq => hk q (List.mem_cons_of_mem _ hq)
      obtain ⟨l, ws, rfl, hl, rw'⟩ := a.tup_invS
      obtain ⟨v, w, rfl, r1, r2⟩ := rw'.two
      obtain ⟨c, us, rfl, hc, ru⟩ := r1.tup_invS
      obtain ⟨kk, hkk⟩ := keys_of (hk p (List.mem_cons_self ..))
      obtain rfl := keys_V hkk ru
      exact ⟨l :: as, (kk, w) :: kvs, by rw [e]; rfl, .cons ⟨c, .inl (.inl hl), hc⟩ h1, .cons hkk h2, .cons r2 h3⟩
theorem nodup_keys : ∀ {ks : List (List PV)} {kk : List (List Key)}, Paired Keys ks kk → ks.Pairwise (fun a b => eqKs a b = false) → kk.Nodup
  | _, _, .nil, _ => List.nodup_nil
  | _, _, .cons (l₁ := ks) (l₂ := kk) h t, p => by
    rw [List.pairwise_cons] at p
    rw [List.nodup_cons]
    refine ⟨fun hm => ?_, nodup_keys t p.2⟩
    have at_ : ∀ {ks : List (List PV)} {kk : List (List Key)}, Paired Keys ks kk → ∀ y ∈ kk, ∃ x ∈ ks, Keys x y := by
      intro ks kk q
      induction q with
      | nil => intro y hy; exact nomatch hy
      | cons h t ih =>
        intro y hy
        rcases List.mem_cons.mp hy with rfl | hy
        · exact ⟨_, List.mem_cons_self .., h⟩
        · obtain ⟨x, hx, k⟩ := ih y hy
          exact ⟨x, List.mem_cons_of_mem _ hx, k⟩
    obtain ⟨x, hx, k⟩ := at_ t _ hm
    have e := p.1 x hx
    rw [eqKs_dec h k] at e
    simp at e
end
section
variable {X : Cx} {G : Calls} {Ex : XP} {a b o : E} {a' b' o' : PySem.Expr} {p pos apos : Pos} {k : Nat} {fs : List Str}
theorem e_mkd (gd : Good X k G fs Ex) (hu : X.A.units + 3 < cLine) (hg : glB X.env.scope "dict" = true) (ha : PEm X G Ex a a') (na : noStar a' = true) : PEm X G Ex (.mkd a) (.Call (.Name "dict" p) [a'] [] pos) := by
  obtain ⟨g1, g2, g3⟩ := glB_gl rfl hg
  have se := star_cons na [] X.env
  refine PE.imp (pe_laid (pe_callTy (call_dictT gd.calm hu) g1 (gd.blt _ (by decide)) PyProof.Rows.boot_dict (pa_cons ha pa_nil se) g3 g2 se rfl)) fun σ H Q ⟨env, h, er, hr, q⟩ => ?_
  simp only [wpE] at q
  refine se_mk gd.mono er hr q fun x h1 V H1 ⟨ps, e, hk, nd, q⟩ p1 r1 hr1 => ?_
  obtain ⟨l, vs, rfl, ll, rs⟩ := rep_lst r1 hr1 e
  obtain ⟨as, kvs, rfl, t1, t2, t3⟩ := pairs_inv rs hk
  refine ⟨l, as, kvs, rfl, ll.sq, t1, nodup_keys t2 nd, fun p hp => ?_⟩
  have ok : ∀ a, a = p → ∃ u, upd H1 p (.dT kvs) a = some u ∧ Fz1 u := fun a e => ⟨.dT kvs, by subst e; exact upd_same, True.intro⟩
  refine ⟨fun a => a = p, ok, fun H' f => ?_⟩
  obtain ⟨u, o, e1, e2⟩ := f.at_ p rfl
  rw [upd_same] at e1
  cases e1
  have pH : Pres H1 H' := (Pres.new hp).trans (f.pres ok)
  refine q _ H' (p1.trans pH) (.dtt e2 t2 (t3.keep pH)) (hr1.keep pH fun a c e => ?_)
  obtain ⟨u, h2, _⟩ := hr1 a c e
  have ne : a ≠ p := ne_of_none h2 hp
  rw [f.out a ne, upd_ne ne]
theorem e_mkdm (gd : Good X k G fs Ex) (hu : X.A.units + 3 < cLine) (hg : glB X.env.scope "dict" = true) (ha : PEm X G Ex a a') (na : noStar a' = true) : PEm X G Ex (.mkdm a) (.Call (.Name "dict" p) [a'] [] pos) := by
  obtain ⟨g1, g2, g3⟩ := glB_gl rfl hg
  have se := star_cons na [] X.env
  refine PE.imp (pe_callTy (call_dictT gd.calm hu) g1 (gd.blt _ (by decide)) PyProof.Rows.boot_dict (pa_cons ha pa_nil se) g3 g2 se rfl) fun σ H Q ⟨env, h, er, hr, q⟩ => ?_
  simp only [wpE] at q
  refine se_mk gd.mono er hr q fun x h1 V H1 ⟨ps, e, hk, nd, q⟩ p1 r1 hr1 => ?_
  obtain ⟨l, vs, rfl, ll, rs⟩ := rep_lst r1 hr1 e
  obtain ⟨as, kvs, rfl, t1, t2, t3⟩ := pairs_inv rs hk
  refine ⟨l, as, kvs, rfl, ll.sq, t1, nodup_keys t2 nd, fun p hp => ?_⟩
  exact q p (hr1.fresh hp) _ _ (p1.trans (.new hp)) (.loc p) (hr1.new hp (.dtt t2 t3))
theorem pairsK_inv {K : KF} : ∀ {ps : List (PV × PV)} {vs : List V}, Reps K H vs (ps.map fun p => .tup [p.1, p.2]) → (∀ p ∈ ps, isKey p.1 = true) →
    ∃ (as : List Addr) (kvs : List (Key × V)), vs = as.map V.ref ∧ Paired (fun p kv => SqT K H p [kV kv.1, kv.2]) as kvs ∧ Keys (ps.map (·.1)) (kvs.map (·.1)) ∧ Reps K H (kvs.map (·.2)) (ps.map (·.2))
  | [], _, r, _ => by cases r; exact ⟨[], [], rfl, .nil, .nil, .nil⟩
  | p :: ps, _, r, hk => by
    rw [List.map_cons] at r
    cases r with
    | cons a b =>
      obtain ⟨as, kvs, e, h1, h2, h3⟩ := pairsK_inv b fun q hq => hk q (List.mem_cons_of_mem _ hq)
      obtain ⟨l, ws, rfl, hl, rw'⟩ := a.tup_invS
      obtain ⟨v, w, rfl, r1, r2⟩ := rw'.two
      obtain ⟨kk, hkk⟩ := isKey_rep (hk p (List.mem_cons_self ..))
      obtain rfl := key_V hkk r1
      exact ⟨l :: as, (kk, w) :: kvs, by rw [e]; rfl, .cons (.inl (.inl hl)) h1, .cons hkk h2, .cons r2 h3⟩
theorem nodup_keysK : ∀ {ks : List PV} {kk : List Key}, Keys ks kk → ks.Pairwise (fun a b => eqK1 a b = false) → kk.Nodup
  | _, _, .nil, _ => List.nodup_nil
  | _, _, .cons (l₁ := ks) (l₂ := kk) h t, p => by
    rw [List.pairwise_cons] at p
    rw [List.nodup_cons]
    refine ⟨fun hm => ?_, nodup_keysK t p.2⟩
    have at_ : ∀ {ks : List PV} {kk : List Key}, Keys ks kk → ∀ y ∈ kk, ∃ x ∈ ks, KeyRep x y := by
      intro ks kk q
      induction q with
      | nil => intro y hy; exact nomatch hy
      | cons h t ih =>
        intro y hy
        rcases List.mem_cons.mp hy with rfl | hy
        · exact ⟨_, List.mem_cons_self .., h⟩
        · obtain ⟨x, hx, k⟩ := ih y hy
          exact ⟨x, List.mem_cons_of_mem _ hx, k⟩
    obtain ⟨x, hx, k⟩ := at_ t _ hm
    have e := p.1 x hx
    rw [eqK1_dec h k] at e
    simp at e
theorem valV_none {kvs : List (Key × V)} {k : Key} (h : k ∉ kvs.map (·.1)) : valV kvs k = none := by
  unfold valV
  cases z : kvs.find? fun kv => decide (kv.1 = k) with
  | none => rfl
  | some q =>
    have h1 := List.mem_of_find?_eq_some z
    have h2 := List.find?_some z
    exact absurd (List.mem_map.mpr ⟨q, h1, by simpa using h2⟩) h
theorem merge_new : ∀ (ps acc : List (Key × V)), ((acc ++ ps).map (·.1)).Nodup → mergeK acc ps = acc ++ ps
  | [], acc, _ => by simp [mergeK]
  | p :: ps, acc, h => by
    have e : valV acc p.1 = none := valV_none fun hm => by
      rw [List.map_append, List.nodup_append] at h
      exact h.2.2 _ hm _ (List.mem_map.mpr ⟨p, List.mem_cons_self .., rfl⟩) rfl
    show mergeK (putK acc p.1 p.2) ps = _
    rw [putK_new _ e, merge_new ps _ (by simpa using h)]
    simp
theorem e_mki (gd : Good X k G fs Ex) (hg : glB X.env.scope "dict" = true) (ha : PEm X G Ex a a') (na : noStar a' = true) : PEm X G Ex (.mki a) (.Call (.Name "dict" p) [a'] [] pos) := by
  obtain ⟨g1, g2, g3⟩ := glB_gl rfl hg
  have se := star_cons na [] X.env
  refine PE.imp (pe_laid (pe_callTy (call_dictP gd.calm) g1 (gd.blt _ (by decide)) PyProof.Rows.boot_dict (pa_cons ha pa_nil se) g3 g2 se rfl)) fun σ H Q ⟨env, h, er, hr, q⟩ => ?_
  simp only [wpE] at q
  refine se_mk gd.mono er hr q fun x h1 V H1 ⟨ps, e, hk, nd, q⟩ p1 r1 hr1 => ?_
  obtain ⟨l, vs, rfl, ll, rs⟩ := rep_lst r1 hr1 e
  obtain ⟨as, kvs, rfl, t1, t2, t3⟩ := pairsK_inv rs hk
  refine ⟨l, as, kvs, rfl, ll.sq, t1, fun p hp => ?_⟩
  rw [merge_new kvs [] (by rw [List.nil_append]; exact nodup_keysK t2 nd), List.nil_append]
  have ok : ∀ a, a = p → ∃ u, upd H1 p (.dK kvs) a = some u ∧ Fz1 u := fun a e => ⟨.dK kvs, by subst e; exact upd_same, True.intro⟩
  refine ⟨fun a => a = p, ok, fun H' f => ?_⟩
  obtain ⟨u, o, e1, e2⟩ := f.at_ p rfl
  rw [upd_same] at e1
  cases e1
  have pH : Pres H1 H' := (Pres.new hp).trans (f.pres ok)
  refine q _ H' (p1.trans pH) (.dctK e2 t2 (t3.keep pH)) (hr1.keep pH fun a c e => ?_)
  obtain ⟨u, h2, _⟩ := hr1 a c e
  have ne : a ≠ p := ne_of_none h2 hp
  rw [f.out a ne, upd_ne ne]
theorem plain_noSl {i : PySem.Expr} (h : plainX i = true) : NoSl i := by intro o v; cases i <;> first | rfl | cases h
theorem e_dix (gd : Good X k G fs Ex) (hu : X.A.units + 1 < cLine) (ha : PEm X G Ex a a') (hb : PEm X G Ex b b') (pl : plainX b' = true) : PEm X G Ex (.dix a b) (.Subscript a' b' pos) := PE.imp (pe_dget hu ha hb (plain_noSl pl)) fun σ H Q ⟨env, h, er, hr, q⟩ => by
  simp only [wpE] at q
  refine se_mk gd.mono er hr q fun x h1 V H1 q p1 r1 hr1 => se_mk gd.mono (er.keep p1) hr1 q fun y h2 W H2 q p2 r2 hr2 => ?_
  have r3 := r1.keep p2
  rcases q with ⟨ks, vs, v, e, hk, lk, qf⟩ | ⟨v, dl, qf⟩
  · subst e
    obtain ⟨kk, hkk⟩ := isKey_rep hk
    obtain rfl := key_V hkk r2
    cases r3 with
    | dctK hf pk rs =>
      obtain ⟨V, e1, r⟩ := lookK_rel hkk pk rs lk
      exact ⟨_, V, rfl, .inl ⟨_, kk, .inr ⟨_, hf⟩, rfl, e1.symm⟩, qf _ H2 (p1.trans p2) r hr2⟩
    | dctT hf pk rs => rw [lookK_tup] at lk; cases lk
  · obtain ⟨a0, o, rfl, g, rel⟩ := dlk_rel hr2 dl r3 r2
    rcases rel with ⟨_, e2⟩ | ⟨U, u, e1, e2, r⟩
    · cases e2
    · cases e2
      subst e1
      exact ⟨a0, U, rfl, g, qf _ H2 (p1.trans p2) r hr2⟩
theorem e_dpop (gd : Good X k G fs Ex) (ho : PEm X G Ex a o') (ha : PEm X G Ex b a') (na : noStar a' = true) (hl : (apos.endLine == pos.line) = true) (hbs : attributeBase o' "pop" X.env (eval o' X.env) = eval o' X.env) : PEm X G Ex (.dpop a b) (.Call (.Attribute o' "pop" apos) [a'] [] pos) := by
  have se : starEach [a'] X.env = [(false, eval a' X.env)] := by rw [star_cons na]; rfl
  refine PE.imp (pe_dpop1 ho ha ⟨hbs, by rw [se]; rfl, hl, by rw [se]; rfl⟩) fun σ H Q ⟨env, h, er, hr, q⟩ => ?_
  simp only [wpE] at q
  refine se_mk gd.mono er hr q fun x h1 V H1 ⟨d, q⟩ p1 r1 hr1 => ?_
  obtain ⟨a0, rfl, isd⟩ := isDl_is hr1 d r1
  refine ⟨a0, rfl, isd, se_mk gd.mono (er.keep p1) hr1 q fun y h2 W H2 q p2 r2 hr2 => ?_⟩
  obtain ⟨a1, ps, v, e1, e2, hk, lk, qf⟩ := q
  subst e1
  cases (r1.loc_inv)
  obtain ⟨kk, hkk⟩ := isKey_rep hk
  obtain rfl := key_V hkk r2
  obtain ⟨o, h3, c⟩ := hr2 _ _ e2
  cases c with
  | @dctK kvs _ pk rs =>
    obtain ⟨U, e3, r⟩ := lookK_rel hkk pk rs lk
    refine ⟨kvs, kk, U, h3, rfl, e3, ?_⟩
    have ⟨k1, k2⟩ := HRep.wr (c' := .dct (dropK1 ps y)) (o' := .dK (dropK kvs kk)) hr2 e2 fun H' p => by
      obtain ⟨b1, b2⟩ := drop_rel1 hkk pk (rs.keep p)
      exact .dctK b1 b2
    exact qf _ _ ((p1.trans p2).trans k2) (r.keep k2) k1
theorem e_split {m : Bool} (gd : Good X k G fs Ex) (ho : PEm X G Ex a o') (ha : PEm X G Ex b a') (na : noStar a' = true) (hl : (apos.endLine == pos.line) = true) (hbs : attributeBase o' "split" X.env (eval o' X.env) = eval o' X.env) : PEm X G Ex (.split m a b) (.Call (.Attribute o' "split" apos) [a'] [] pos) := by
  have se : starEach [a'] X.env = [(false, eval a' X.env)] := by rw [star_cons na]; rfl
  refine PE.imp (pe_laid (pe_sized (pe_split ho ha se hbs hl))) fun σ H Q ⟨env, h, er, hr, q⟩ => ?_
  simp only [wpE] at q
  refine se_mk gd.mono er hr q fun x h1 V H1 ⟨⟨z, e⟩, q⟩ p1 r1 hr1 => ?_
  subst e
  cases r1.str_inv
  refine ⟨⟨z, rfl⟩, se_mk gd.mono (er.keep p1) hr1 q fun y h2 W H2 ⟨a0, b0, e1, e2, e3, q⟩ p2 r2 hr2 => ?_⟩
  cases e1
  subst e2
  cases r2.str_inv
  refine ⟨_, _, rfl, rfl, e3.1, e3.2, fun p hp sz => ?_⟩
  have l := sz p ((Txt.split z b0).map V.str) rfl (.inl (.inl upd_same))
  rw [List.length_map] at l
  exact (laid_new (p1.trans p2) hr2 (Reps.of_strs _) (q l)).2 p hp
theorem e_join (gd : Good X k G fs Ex) (ho : PEm X G Ex a o') (ha : PEm X G Ex b a') (na : noStar a' = true) (hl : (apos.endLine == pos.line) = true) (hbs : attributeBase o' "join" X.env (eval o' X.env) = eval o' X.env) : PEm X G Ex (.join a b) (.Call (.Attribute o' "join" apos) [a'] [] pos) := by
  have se : starEach [a'] X.env = [(false, eval a' X.env)] := by rw [star_cons na]; rfl
  refine PE.imp (pe_join ho ha se hbs hl) fun σ H Q ⟨env, h, er, hr, q⟩ => ?_
  simp only [wpE] at q
  refine se_mk gd.mono er hr q fun x h1 V H1 ⟨⟨z, e⟩, q⟩ p1 r1 hr1 => ?_
  subst e
  cases r1.str_inv
  refine ⟨⟨z, rfl⟩, se_mk gd.mono (er.keep p1) hr1 q fun y h2 W H2 ⟨a0, ys, e1, e2, e3, q⟩ p2 r2 hr2 => ?_⟩
  cases e1
  obtain ⟨l, vs, rfl, sq, rs⟩ := rep_seq r2 hr2 e2
  obtain rfl := rs.strs
  refine ⟨_, l, ys, rfl, rfl, ?_, e3, q _ H2 (p1.trans p2) (.str _) hr2⟩
  rcases sq with sq | sq
  · exact .inl sq.sq
  · exact .inr sq
abbrev RR (K : KF) : R2 := fun x y H Q => ∃ vx vy h, Rep K H x vx ∧ Rep K H y vy ∧ HRep K h H ∧ rplW vx vy h (up K H Q)
theorem op_rplW : OpR X (binaryOp .Mult) (RR X.K) := by
  intro pins s σ H x y v u Q I rx ry h
  obtain ⟨vx, vy, h, r1, r2, hr, xs, n, e1, rfl, q, ql⟩ := h
  obtain rfl := r2.int_inv
  obtain ⟨a, vs, rfl, l1, s1⟩ := rep_lst r1 hr e1
  have lz : vs.length * n.toNat ≤ sizeLine := by
    rw [s1.length]
    rcases Int.le_total 0 n with hn | hn
    · have e : ((xs.length * n.toNat : Nat) : Int) = n * xs.length := by
        rw [Int.natCast_mul, Int.toNat_of_nonneg hn, Int.mul_comm]
      have := q.1
      omega
    · have e : n.toNat = 0 := by omega
      rw [e, Nat.mul_zero]; exact Nat.zero_le _
  refine mul_l I rx ry l1 q.2.2 (by have := q.2.1; rw [sizeLine_eq] at this; omega) lz fun p hp => ?_
  unfold newL at ql
  simp only [if_true] at ql
  exact ql.2 p (hr.fresh hp) _ _ (.new hp) (.loc p) (hr.new hp (.lst (s1.rep n.toNat)))
theorem e_rpl (hG : GMono G) (ha : PEm X G Ex a a') (hb : PEm X G Ex b b') : PEm X G Ex (.rpl a b) (.BinOp a' .Mult b' pos) := PE.imp (pe_op op_rplW ha hb) fun σ H Q ⟨env, h, er, hr, q⟩ => by
  simp only [wpE] at q
  refine se_mk hG er hr q fun x h1 V H1 q p1 r1 hr1 => se_mk hG (er.keep p1) hr1 q fun y h2 W H2 q p2 r2 hr2 => ?_
  exact ⟨x, y, h2, r1.keep p2, r2, hr2, rplW_mono (fun _ _ => up.tr (p1.trans p2)) q⟩
theorem e_dget (gd : Good X k G fs Ex) (hu : X.A.units + 3 < cLine) (ho : PEm X G Ex o o') (ha : PEm X G Ex a a') (hb : PEm X G Ex b b') (na : noStar a' = true) (nb : noStar b' = true) (hl : (apos.endLine == pos.line) = true) (hbs : attributeBase o' "get" X.env (eval o' X.env) = eval o' X.env) :
    PEm X G Ex (.dget o a b) (.Call (.Attribute o' "get" apos) [a', b'] [] pos) := by
  have se : starEach [a', b'] X.env = [(false, eval a' X.env), (false, eval b' X.env)] := by rw [star_cons na, star_cons nb]; rfl
  refine PE.imp (pe_dget2 (by omega) ho ha hb ⟨hbs, by rw [se]; rfl, hl, by rw [se]; rfl⟩) fun σ H Q ⟨env, h, er, hr, q⟩ => ?_
  simp only [wpE] at q
  refine se_mk gd.mono er hr q fun x h1 V H1 ⟨isd0, q⟩ p1 r1 hr1 => ?_
  obtain ⟨a, rfl, isd⟩ := isDl_is hr1 isd0 r1
  refine ⟨a, rfl, isd, se_mk gd.mono (er.keep p1) hr1 q fun y h2 W H2 q p2 r2 hr2 => se_mk gd.mono ((er.keep p1).keep p2) hr2 q fun z h3 Z H3 q p3 r3 hr3 => ?_⟩
  obtain ⟨rr, dl, q⟩ := q
  obtain ⟨a', oo, ea, g, rel⟩ := dlk_rel hr3 dl (r1.keep (p2.trans p3)) (r2.keep p3)
  cases ea
  refine ⟨oo, g, ?_⟩
  rcases rel with ⟨e1, e2⟩ | ⟨V, v, e1, e2, r⟩
  · rw [e1]; rw [e2] at q
    exact q _ H3 ((p1.trans p2).trans p3) r3 hr3
  · rw [e1]; rw [e2] at q
    exact q _ H3 ((p1.trans p2).trans p3) r hr3
end
end MP
set_option Elab.async false
set_option linter.all false
set_option maxRecDepth 100000
set_option maxHeartbeats 1000000
namespace MP
open PySem PySem.Spec PyProof.Rows L2
section
variable {X : Cx} {k : Nat} {a C : Addr} {fd : FuncData} {ps : List Str} {sp : Sp} {W : WX} {x m : Str} {p pos apos : Pos} {e o : PySem.Expr} {es : List PySem.Expr} {t : TA} {ta : TE}
theorem mtree {env : PySem.Env} (hb : attributeBase o m env (eval o env) = eval o env) (hl : (apos.endLine == pos.line) = true) (hn : (e :: es).length < 29) (hs : (backTo pos (starEach (e :: es) env)).any (·.1) = false) :
    eval (.Call (.Attribute o m apos) (e :: es) [] pos) env = (do
      let ov ← eval o env
      standAt apos.atName
      let (f, first) ← holding [ov] (getMethod ov m (do return (← importBound o env).getD true))
      callWith pos f first (backTo pos (starEach (e :: es) env)) (backToKw pos (keywordEach [] env))) := by
  refine mcall_of hb fun ov => ?_
  have all : (backTo pos (starEach (e :: es) env)).all (fun x => !x.1) = true := by
    rw [List.all_eq_not_any_not]
    simpa using hs
  have few : methodCallForm ((e :: es).length + ([] : List Keyword).length) (backTo pos (starEach (e :: es) env)) (backToKw pos (keywordEach [] env)) = true := by
    unfold methodCallForm
    rw [all]
    have h2 : (backToKw pos (keywordEach [] env)).all (fun x => x.1.isSome) = true := rfl
    rw [h2]
    simp only [Bool.true_and, decide_eq_true_eq]
    show (e :: es).length + 0 + (if (backToKw pos (keywordEach [] env)).isEmpty = true then 0 else 1) < 30
    have h3 : (backToKw pos (keywordEach [] env)).isEmpty = true := rfl
    rw [if_pos h3]
    omega
  unfold methodCall
  rw [few]
  have cp : methodCallPos true o env apos pos = pure pos := by
    unfold methodCallPos
    rw [hl]
    rfl
  rw [cp]
  simp only [calleeOf, if_true, pure_bind]
theorem pe_GM (he : PE X o ta) (c : Cls X.K C) (hm : Meth X.K C m a) (F : FnG X.prog X.w X.K X.mg X.base k a fd ps sp) (hr : Room (2 * k) X.A) (hgd : X.A.guards = some []) (hb : Binds X.K fd ps []) (tk : Takes X W) (ha : PA X (e :: es) t)
    (hst : starEach (e :: es) X.env = (false, eval e X.env) :: starEach es X.env) (hpl : (backTo pos (starEach es X.env)).any (·.1) = false)
    (hbase : attributeBase o m X.env (eval o X.env) = eval o X.env) (hl : (apos.endLine == pos.line) = true) (hn : (e :: es).length < 29) (hs : (backTo pos (starEach (e :: es) X.env)).any (·.1) = false) :
    PE X (.Call (.Attribute o m apos) (e :: es) [] pos) (fun σ H Q => ta σ H fun x H1 => ∃ a dx fs, x = .ref a ∧ H1 a = some (.ins C dx fs) ∧ fs.lookup m = none ∧ t σ H1 fun vs H2 => sp (x :: vs) H2 Q (WE W σ)) := by
  refine ⟨fun pins s σ H Q I h => ?_⟩
  refine PySem.W.methodCall_KW (pl := (do return (← importBound o X.env).getD true)) (thn (he.run pins s σ H _ I h) fun u s1 ⟨x, H1, I1, rx, a0, dx, fs, ex, ea, l, q⟩ => ?_) (mtree hbase hl hn hs)
  subst ex
  obtain rfl : u = Value.ref a0 := rx
  refine getmeth_ok I1 ea c hm l ?_
  refine PySem.W.callWith_K (first := [.ref a0]) (h₀ := X.base) I.ok.mod.kin hm.kp (thn (ha.run pos pins s1 σ H1 _ I1 q) fun us s2 ⟨vs, H2, I2, r, q2⟩ => ⟨I2.kIn, ?_⟩) hst hpl
  exact run_G (us := .ref a0 :: us) (vs := .ref a0 :: vs) F hr hgd hb tk I2 (.cons rfl r) q2
theorem pe_GN (M : Mk X.K C a) (F : FnG X.prog X.w X.K X.mg X.base k a fd ps sp) (hr : Room (2 * k + 1) X.A) (hgd : X.A.guards = some []) (hg : Gl X x) (hm : X.mg x = some (.ref C)) (hb : Binds X.K fd ps []) (tk : Takes X W)
    (ha : PA X (e :: es) t) (hdb : (x == ("__debug__" : Str)) = false) (he : starEach (e :: es) X.env = (false, eval e X.env) :: starEach es X.env) (hpl : (backTo pos (starEach es X.env)).any (·.1) = false) :
    PE X (.Call (.Name x p) (e :: es) [] pos) (fun σ H Q => t σ H fun vs H1 => ∀ x dx, H1 x = none → H1 dx = none → dx ≠ x →
      sp (.ref x :: vs) (upd (upd H1 dx (.own x)) x (.ins C dx [])) (fun v H2 => v = .non ∧ Q (.ref x) H2) (WE W σ)) := by
  refine ⟨fun pins s σ H Q I h => ?_⟩
  refine wpAny_Call_Name_kw (ld_glob I hg hm ?_ hdb)
  refine PySem.W.callWith_K (h₀ := X.base) I.ok.mod.kin M.kp (thn (ha.run pos pins s σ H _ I h) fun us s1 ⟨vs, H1, I1, r, q⟩ => ⟨I1.kIn, ?_⟩) he hpl
  have hq := q (s1.heap.objs.size + 1) s1.heap.objs.size (I1.hok.fresh (Nat.le_succ _)) (I1.hok.fresh (Nat.le_refl _)) (Nat.ne_of_lt (Nat.lt_succ_self _))
  have I2 := Inv.made (C := C) I1
  have r2 : Vals (V.ref (s1.heap.objs.size + 1) :: vs) (Value.ref (s1.heap.objs.size + 1) :: us) := .cons rfl r
  have hl : (Value.ref (s1.heap.objs.size + 1) :: us).length = ps.length := by
    have e := r2.length
    rw [F.len _ _ _ _ hq] at e
    exact e.symm
  have bd := hb _ (Value.ref (s1.heap.objs.size + 1) :: us) I2.kIn (by simpa using hl)
  rw [List.append_nil] at bd
  have hgd2 : (X.A.under (.builtin "type.__call__" ⟨.ref C :: us, []⟩)).guards = some [] := by
    have e1 : (Code.builtin "type.__call__" ⟨.ref C :: us, []⟩).guards = [] := by
      unfold Code.guards
      rw [show (Code.builtin "type.__call__" ⟨.ref C :: us, []⟩).isGuard = false from (by decide : guardIds.contains "type.__call__" = false)]
      rfl
    simp only [Around.under, e1, pushGuards, hgd]
  refine wpAny_call (make_map (f := a) I1.kIn M.makes M.init (beq_iff_eq.mp M.fn) (codeAny_mono (F.run _ X.stack _ _ ⟨Value.ref (s1.heap.objs.size + 1) :: us, []⟩ (Value.ref (s1.heap.objs.size + 1) :: us) _ _ (WE W σ) (hr.make C us []) hgd2
    (I2.env0.make C us []) bd r2 hq) fun r s' hq' => ?_))
  cases r with
  | error z => exact passAt tk σ pins _ _ z s' I2 hq'
  | ok fl =>
    cases fl with
    | ret u =>
      obtain ⟨v, H', I3, rv, ev, q3⟩ := I2.after hq'
      subst ev
      exact ⟨rv, ⟨V.ref (s1.heap.objs.size + 1), H', I3, rfl, q3⟩⟩
    | next => exact False.elim hq'
    | brk => exact False.elim hq'
    | cont => exact False.elim hq'
end
theorem look_fv {K : KF} {H : Hp} {f : Str} : ∀ {fs : List (Str × PV)} {fv : List (Str × V)}, fv.map (·.1) = fs.map (·.1) → Reps K H (fv.map (·.2)) (fs.map (·.2)) → (fs.lookup f = none → fv.lookup f = none) ∧ ∀ v, fs.lookup f = some v → ∃ V, fv.lookup f = some V ∧ Rep K H V v
  | [], [], _, _ => ⟨fun _ => rfl, fun v e => by cases e⟩
  | [], _ :: _, e, _ => by cases e
  | _ :: _, [], e, _ => by cases e
  | (g, x) :: fs, (g', y) :: fv, e, r => by
    simp only [List.map_cons, List.cons.injEq] at e r
    obtain ⟨rfl, e⟩ := e
    cases r with
    | cons a b =>
      obtain ⟨i1, i2⟩ := look_fv (f := f) e b
      rw [List.lookup_cons, List.lookup_cons]
      cases z : f == g' with
      | true =>
        refine ⟨fun e2 => by simp at e2, fun v e2 => ?_⟩
        simp only [Option.some.injEq] at e2
        subst e2
        exact ⟨_, rfl, a⟩
      | false => exact ⟨i1, i2⟩
theorem put_fv {K : KF} {H : Hp} {f : Str} {y : V} {w : PV} (ry : Rep K H y w) : ∀ {fs : List (Str × PV)} {fv : List (Str × V)}, fv.map (·.1) = fs.map (·.1) → Reps K H (fv.map (·.2)) (fs.map (·.2)) →
    (putF f y fv).map (·.1) = (putFP f w fs).map (·.1) ∧ Reps K H ((putF f y fv).map (·.2)) ((putFP f w fs).map (·.2))
  | [], [], _, _ => ⟨rfl, .cons ry .nil⟩
  | [], _ :: _, e, _ => by cases e
  | _ :: _, [], e, _ => by cases e
  | (g, x) :: fs, (g', z) :: fv, e, r => by
    simp only [List.map_cons, List.cons.injEq] at e r
    obtain ⟨rfl, e⟩ := e
    cases r with
    | cons a b =>
      obtain ⟨i1, i2⟩ := put_fv (f := f) ry e b
      simp only [putF, putFP]
      by_cases c : g' = f
      · rw [if_pos c, if_pos c]
        simp only [List.map_cons]
        exact ⟨by rw [e], .cons ry b⟩
      · rw [if_neg c, if_neg c]
        simp only [List.map_cons]
        exact ⟨by rw [i1], .cons a i2⟩
theorem ins_at {K : KF} {H : Hp} {h : MH} {a : Addr} {C : Str} {fs : List (Str × PV)} (hr : HRep K h H) (e : h a = some (.ins C fs)) : ∃ Ca dx fv, H a = some (.ins Ca dx fv) ∧ ClsK K C Ca ∧ fv.map (·.1) = fs.map (·.1) ∧ Reps K H (fv.map (·.2)) (fs.map (·.2)) := by
  obtain ⟨o, h1, c⟩ := hr a _ e
  cases c with
  | ins x y z => exact ⟨_, _, _, h1, x, y, z⟩
section
variable {X : Cx} {G : Calls} {Ex : XP} {o : E} {o' : PySem.Expr} {p pos apos : Pos} {k : Nat} {fs : List Str} {es : Es} {f C m : Str} {e : PySem.Expr} {r : List PySem.Expr}
theorem e_fld (gd : Good X k G fs Ex) (ho : PEm X G Ex o o') (hb : attributeBase o' f X.env (eval o' X.env) = eval o' X.env) : PEm X G Ex (.fld o f) (.Attribute o' f pos) := PE.imp (pe_fld ho hb) fun σ H Q ⟨env, h, er, hr, q⟩ => by
  simp only [wpE] at q
  refine se_mk gd.mono er hr q fun x h1 V H1 ⟨a, C, fl, v, e1, e2, e3, e4, q⟩ p1 r1 hr1 => ?_
  subst e1
  obtain rfl := r1.loc_inv
  obtain ⟨Ca, dx, fv, i1, i2, i3, i4⟩ := ins_at hr1 e2
  obtain ⟨U, l, ru⟩ := (look_fv (f := f) i3 i4).2 v e4
  exact ⟨a, Ca, dx, fv, U, rfl, i1, i2.cls, i2.fld f e3, l, q _ _ p1 ru hr1⟩
theorem clsK_inj {K : KF} {C : Str} {a b : Addr} (x : ClsK K C a) (y : ClsK K C b) : a = b := by
  have := x.ns
  rw [y.ns] at this
  cases this
  rfl
theorem e_mcall (gd : Good X k G fs Ex) (hf : f ∈ fs) (hc : gcst f = none) (hm : methOf f = some (C, m)) (hi : ¬ m = "__init__") (ho : PEm X G Ex o o') (hs : PAm X G Ex es (e :: r)) (ok : okEs X.N fs X.env.scope es (e :: r) = true)
    (hl : (apos.endLine == pos.line) = true) (hb : attributeBase o' m X.env (eval o' X.env) = eval o' X.env) (hn : (e :: r).length < 29) : PEm X G Ex (.mcall o f C m es) (.Call (.Attribute o' m apos) (e :: r) [] pos) := by
  obtain ⟨a, fd, ps, hat, hbd, F⟩ := (gd.fn f hf hc).ex
  obtain ⟨Ca, hmg, hk, _, hme⟩ := hat.me hm
  have M := hme hi
  have ns := okEs_plain ok
  have se := star_cons (ns e (List.mem_cons_self ..)) r X.env
  refine PE.imp (pe_GM (C := Ca) ho hk.cls M F gd.rm gd.gd hbd gd.tk hs se (star_any (fun z hz => ns z (List.mem_cons_of_mem _ hz)) _ _) hb hl hn (star_any ns _ _)) fun σ H Q ⟨env, h, er, hr, q⟩ => ?_
  simp only [wpE] at q
  refine se_mk gd.mono er hr q fun x h1 V H1 ⟨⟨a0, fl, e1, e2, e3⟩, q⟩ p1 r1 hr1 => ?_
  subst e1
  obtain rfl := r1.loc_inv
  obtain ⟨Cb, dx, fv, i1, i2, i3, i4⟩ := ins_at hr1 e2
  cases clsK_inj hk i2
  refine ⟨a0, dx, fv, rfl, i1, (look_fv i3 i4).1 e3, sa_mk gd.mono (er.keep p1) hr1 q fun xs h2 vs H2 q p2 r2 hr2 => ?_⟩
  refine ⟨_, h2, .cons (r1.keep p2) r2, hr2, gd.mono _ _ _ _ _ _ _ (fun v h => up.tr (p1.trans p2)) (fun e h3 q cls d H' p' rE hr' => ?_) q⟩
  exact ⟨e, env, h3, rE, ((er.keep p1).keep p2).keep p', hr', q⟩
theorem e_new (gd : Good X k G fs Ex) (hf : f ∈ fs) (hc : gcst f = none) (hm : methOf f = some (C, ("__init__" : Str))) (hg : glB X.env.scope C = true) (hs : PAm X G Ex es (e :: r)) (ok : okEs X.N fs X.env.scope es (e :: r) = true) : PEm X G Ex (.new f C es) (.Call (.Name C p) (e :: r) [] pos) := by
  obtain ⟨a, fd, ps, hat, hbd, F⟩ := (gd.fn f hf hc).ex
  obtain ⟨Ca, hmg, hk, hin, _⟩ := hat.me hm
  have M := hin rfl
  obtain ⟨g1, g2, g3⟩ := glB_gl rfl hg
  have ns := okEs_plain ok
  have se := star_cons (ns e (List.mem_cons_self ..)) r X.env
  refine PE.imp (pe_GN (C := Ca) M F gd.room gd.gd g1 hmg hbd gd.tk hs g2 se (star_any (fun z hz => ns z (List.mem_cons_of_mem _ hz)) _ _)) fun σ H Q ⟨env, h, er, hr, q⟩ => ?_
  simp only [wpE] at q
  refine sa_mk gd.mono er hr q fun xs h1 vs H1 q p1 r1 hr1 => fun x dx hx hdx ne => ?_
  have p2 : Pres H1 (upd H1 dx (.own x)) := .new hdx
  have hx2 : upd H1 dx (.own x) x = none := (upd_ne (Ne.symm ne)).trans hx
  have p3 : Pres (upd H1 dx (.own x)) (upd (upd H1 dx (.own x)) x (.ins Ca dx [])) := .new hx2
  have hr2 := (hr1.newP (o := .own x) hdx).new (c := .ins C []) (o := .ins Ca dx []) hx2 (.ins hk rfl .nil)
  refine ⟨_, _, .cons (.loc x) ((r1.keep p2).keep p3), hr2, gd.mono _ _ _ _ _ _ _ (fun v h2 z V H' p' r' hr' => ?_) (fun e h3 q cls d H' p' rE hr' => ?_) (q x (hr1.fresh hx))⟩
  · obtain ⟨ev, q⟩ := z
    subst ev
    exact ⟨r'.non_inv, q _ H' (((p1.trans p2).trans p3).trans p') (.loc x) hr'⟩
  · exact ⟨e, env, h3, rE, ((((er.keep p1).keep p2).keep p3).keep p'), hr', q⟩
end
end MP
set_option Elab.async false
set_option linter.all false
set_option maxRecDepth 100000
set_option maxHeartbeats 1000000
namespace MP
open PySem PySem.Spec PyProof.Rows L2
section
variable {prog : Program} {w : World} {d : Addr} {o : Obj} {es : Array DictEntry} {ep : Nat}
theorem walks_raw {A : Around} (hh : A.handled = none) (I : Addr) (hne : d ≠ I) (hdt : o.data = .dict es ep) :
    Walks prog w A I [I, d] [I] es.size (fun i v => ∃ en, es[i]? = some en ∧ v = en.key) (fun i h => h.IsKeyIter I d i es.size ep ∧ h.get? d = some o) where
  sub := fun b hb => by simp at hb; simp [hb]
  frame := fun _ _ _ st hk => ⟨st.1.at fun o e => hk I (by simp) o e, hk d (by simp) _ st.2⟩
  item := fun i s Q E hi st hQ => by
    refine next_key_item st.1 st.2 hdt rfl (Array.getElem?_eq_getElem hi) fun h' hit' hs' => ?_
    exact hQ _ h' s.toks ⟨_, Array.getElem?_eq_getElem hi, rfl⟩ ⟨hit', (hs'.extBut d o hne st.2)⟩ fun b o hb e => hs'.extBut b o (fun h => hb (by simp [h])) e
  done := fun s Q E st hQ => next_key_end hh st.1 st.2 hdt rfl (Nat.le_refl _) fun h' he' => hQ h' s.toks fun b o hb e => he' b o (fun h => hb (by simp [h])) e
  self := fun _ _ _ _ st hQ => wpAny_pyIter_keyiter st.1 hQ
theorem src_raw (hs : (d == sysModules) = false) (hx : o.ExactDict) (hdt : o.data = .dict es ep) :
    PySem.W.KdlSrc prog w "dict" d d es.size (fun i v => ∃ en, es[i]? = some en ∧ v = en.key) (fun h => h.get? d = some o) where
  type := fun _ hm => ⟨o, hm, hx.1⟩
  there := fun _ hm => ⟨Heap.lt_size hm, Heap.lt_size hm⟩
  keep := fun _ _ hm hk => hk d (.inl rfl) _ hm
  notList := by decide
  notTuple := by decide
  hint := fun _ _ _ _ hm hq => PySem.W.kdl_hint_dict ⟨o, hm, hx.1⟩ hq
  iter := fun _ _ hh hm => ⟨_, _, (fun _ _ hq => iter_keys hs hm hx hdt hq), walks_raw hh _ (Nat.ne_of_lt (Heap.lt_size hm)) hdt, ⟨⟨_, Heap.get?_push_size _ rfl, rfl, rfl⟩, Heap.get?_push_of_some _ hm⟩⟩
end
theorem vals_of {K : KF} {H : Hp} : ∀ {us : List Value} {xs : List PV}, us.length = xs.length → (∀ (j : Nat) (u : Value) (x : PV), us[j]? = some u → xs[j]? = some x → ∃ v, RelV v u ∧ Rep K H v x) → ∃ vs, Vals vs us ∧ Reps K H vs xs
  | [], [], _, _ => ⟨[], .nil, .nil⟩
  | [], _ :: _, e, _ => nomatch e
  | _ :: _, [], e, _ => nomatch e
  | u :: us, x :: xs, e, hk => by
    obtain ⟨v, r1, r2⟩ := hk 0 u x rfl rfl
    obtain ⟨vs, r3, r4⟩ := vals_of (us := us) (xs := xs) (by simpa using e) fun j u x h1 h2 => hk (j + 1) u x (by simpa using h1) (by simpa using h2)
    exact ⟨v :: vs, .cons r1 r3, .cons r2 r4⟩
section
variable {X : Cx} {pins : List (Addr × Obj)} {σ : L2.St} {H : Hp} {s : Shared}
theorem sorted_D {d : Addr} {o : Obj} {es : Array DictEntry} {ep : Nat} {h : MH} {xs : List PV} {m : Bool} {Q : VK} (I : Inv X pins σ H s) (hu : X.A.units + 70 < cLine) (hc : X.calm = true) (hs : (d == sysModules) = false) (hgd : s.heap.get? d = some o) (hx : o.ExactDict)
    (hdt : o.data = .dict es ep) (hn : es.size = xs.length) (hz : xs.length ≤ sizeLine) (hk : ∀ (i : Nat) (x : PV), xs[i]? = some x → ∃ (en : DictEntry) (v : V), es[i]? = some en ∧ RelV v en.key ∧ Rep X.K H v x) (hr : HRep X.K h H) (so : sortOk xs) (q : newL m (xs.mergeSort leP) h (up X.K H Q)) :
    wpAny (model X.prog X.w) X.A (call (.builtin "sorted") [.ref d]) (EP X pins σ Q) X.xe s := by
  obtain ⟨p1, p2, p3, p4⟩ := so
  refine PySem.Calls.call_function_entry kind_sorted plain_sorted entry_sorted (args_sorted1 _) ?_
  unfold Builtin.«sorted»
  refine wpAny_bind (m := checkCount "sorted" 1 1 _) (wpAny_pure ?_)
  refine wpAny_bind (PySem.W.kdu_collect (A := X.A.in1) (src_raw hs hx hdt) (I.ok.hd hc) hgd (by rw [hn]; exact hz) fun h' tk acc hkp hacc => ?_)
  have hl : acc.toList.length = xs.length := by rw [Array.length_toList, hacc.1, hn]
  refine wpAny_bind (wpAny_newList ?_ (by rw [hl]; exact hz))
  have I1 : Inv X pins σ H { s with heap := h', toks := tk } := I.kept (t' := tk) hkp
  have hD : h'.get? h'.objs.size = none := Heap.get?_none_of_le (Nat.le_refl _)
  obtain ⟨vs, rv, rs⟩ := vals_of (K := X.K) (H := H) (us := acc.toList) (xs := xs) hl fun j u x h1 h2 => by
    obtain ⟨en, v, e1, r1, r2⟩ := hk j x h2
    obtain ⟨en', e2, e3⟩ := hacc.2 j u (by rw [← Array.getElem?_toList]; exact h1)
    rw [e1] at e2
    cases e2
    exact ⟨v, by rw [e3]; exact r1, r2⟩
  have rx := reps_rx I1 rs p1 rv
  have er : PySem.W.EachIs (fun v b => ∃ as, Reads (h'.push { cls := .type "list", data := .seq acc.toList.toArray }) v (toD b) as ∧ h'.objs.size ∉ as) acc.toList xs :=
    (each_reads hD rx).mono fun v b ⟨as, r, z⟩ => ⟨as, PyProof.Rows.Reads.keeps (fun _ _ e => Heap.get?_push_of_some _ e) r, z⟩
  have sx : (h'.push { cls := .type "list", data := .seq acc.toList.toArray }).get? h'.objs.size = some (seqObj "list" acc.toList.toArray 0) := Heap.get?_push_size _ rfl
  refine wpAny_bind (wpAny_holding (wpAny_mono (PySem.W.list_sort_data (s := { s with heap := h'.push { cls := .type "list", data := .seq acc.toList.toArray }, toks := tk }) (a := h'.objs.size) (n := 0) (vs := acc.toList) (bs := xs) (enc := toD) (R := fun u b => ∃ v, RelV v u ∧ Rep X.K H v b) (Q := fun _ s' => EP X pins σ Q (.ref h'.objs.size) s')
    (by simpa using sx) (each_of rs rv) er (by rw [← toDs_eq]; exact p2) (by rw [← toDs_eq]; exact p3) hz (fun b hb => ?_) (fun out ol eo => ?_)) (fun _ s' k => wpAny_pure ⟨_, rfl, k⟩) fun _ _ e => e))
  · have := p4 b hb
    show X.A.units + 1 + 1 + (toD b).depth < cLine
    omega
  · obtain ⟨ws, w1, w2⟩ := of_each eo
    have z := laid_new .refl hr w2 q
    obtain ⟨ep2, he⟩ := PyProof.Rows.sortedHeap_at (out := out.toArray) sx
    refine EP.laid ⟨.ref h'.objs.size, upd H h'.objs.size (.lst ws), ?_, rfl, z.2 _ (I1.hok.fresh (Nat.le_refl _))⟩
    refine I1.laid (t' := tk) (fun b ob e => ?_) (Nat.le_refl _) ⟨z.1, out, ep2, w1, by simpa using he⟩
    have lt : b < h'.objs.size := Heap.lt_size e
    have e2 := PyProof.Rows.sortedHeap_old (a := h'.objs.size) (vs := acc.toList) (out := out.toArray) (h := h'.push { cls := .type "list", data := .seq acc.toList.toArray }) (Nat.ne_of_lt lt) (by rw [Heap.size_push]; exact Nat.lt_succ_of_lt lt)
    first
      | exact e2.trans (Heap.get?_push_of_some _ e)
      | simpa using e2.trans (Heap.get?_push_of_some _ e)
theorem cr_sortedK (hc : X.calm = true) (hu : X.A.units + 70 < cLine) : CallR X (.builtin "sorted") (fun xs H Q => ∃ d o kvs ks h m, xs = [.ref d] ∧ H d = some (.frz o (.dK kvs)) ∧ Keys ks (kvs.map (·.1)) ∧ HRep X.K h H ∧ kvs.length ≤ sizeLine ∧ sortOk ks ∧ newL m (ks.mergeSort leP) h (up X.K H Q)) := by
  intro pins s σ H xs us Q I rv ⟨d, o, kvs, ks, h, m, e, hd, pk, hr, hz, so, q⟩
  subst e
  obtain ⟨u, rfl, rx⟩ := vals1 rv
  cases (show u = Value.ref d from rx)
  obtain ⟨hs, hgd, hx, es, ep, vs, hdt, hsz, kv, hm⟩ := I.frzK hd
  have kr := keys_reps (K := X.K) (H := H) pk
  have lk : ks.length = kvs.length := by
    have := kr.length
    simp only [List.length_map] at this
    omega
  obtain ⟨o2, es2, ho2, hc2, hdat2, hk2, hp2, hn2⟩ := id hm
  rw [hgd] at ho2
  cases ho2
  rw [hdt] at hdat2
  cases hdat2
  refine sorted_D I hu hc hs hgd hx hdt (by rw [hsz, lk]) (by rw [lk]; exact hz) (fun i x hx => ?_) hr so q
  have li : i < kvs.length := by rw [← lk]; exact (List.getElem?_eq_some_iff.mp hx).1
  obtain ⟨⟨k, v⟩, hkv⟩ : ∃ p, kvs[i]? = some p := ⟨kvs[i], List.getElem?_eq_getElem li⟩
  obtain ⟨u, hu, ru⟩ := kv_get kv hkv
  have le : i < es.size := by rw [hsz]; exact li
  have e1 : es.toList[i]? = some es[i] := by rw [Array.getElem?_toList, Array.getElem?_eq_getElem le]
  have ik := (hp2.get? e1 hu).1
  obtain ⟨V, e2, r2⟩ := kr.get hx
  have e3 : V = kV k := by
    rw [List.getElem?_map, List.getElem?_map, hkv] at e2
    exact (Option.some.inj e2).symm
  exact ⟨es[i], kV k, Array.getElem?_eq_getElem le, relV_key (show keyIs k es[i].key = true from ik), by rw [← e3]; exact r2⟩
theorem cr_sortedD (hc : X.calm = true) (hu : X.A.units + 70 < cLine) : CallR X (.builtin "sorted") (fun xs H Q => ∃ d o kvs ks h m, xs = [.ref d] ∧ H d = some (.frz o (.dT kvs)) ∧ Paired Keys ks (kvs.map (·.1)) ∧ HRep X.K h H ∧ kvs.length ≤ sizeLine ∧ sortOk (ks.map PV.tup) ∧ newL m ((ks.map PV.tup).mergeSort leP) h (up X.K H Q)) := by
  intro pins s σ H xs us Q I rv ⟨d, o, kvs, ks, h, m, e, hd, pk, hr, hz, so, q⟩
  subst e
  obtain ⟨u, rfl, rx⟩ := vals1 rv
  cases (show u = Value.ref d from rx)
  obtain ⟨hs, hgd, hx, es, ep, hdt, hsz, ent⟩ := I.frzT hd
  have lk : ks.length = kvs.length := by
    have := Paired.length pk
    simpa using this
  refine sorted_D I hu hc hs hgd hx hdt (by rw [hsz, List.length_map, lk]) (by rw [List.length_map, lk]; exact hz) (fun i x hx => ?_) hr so q
  rw [List.getElem?_map] at hx
  cases ek : ks[i]? with
  | none => rw [ek] at hx; cases hx
  | some key =>
    rw [ek] at hx
    obtain rfl : PV.tup key = x := Option.some.inj hx
    obtain ⟨k2, e2, hkk⟩ := paired_get pk ek
    rw [List.getElem?_map] at e2
    cases ev : kvs[i]? with
    | none => rw [ev] at e2; cases e2
    | some kv =>
      rw [ev] at e2
      obtain rfl : kv.1 = k2 := Option.some.inj e2
      obtain ⟨en, q, e3, e4, e5⟩ := ent i kv.1 kv.2 ev
      exact ⟨en, .ref q, e3, e4, .tup e5 (keys_reps hkk)⟩
end
section
variable {X : Cx} {k : Nat} {G : Calls} {fs : List Str} {Ex : XP} {a : E} {a' : PySem.Expr} {m : Bool} {p pos : Pos}
theorem cr_sortedDK (hc : X.calm = true) (hu : X.A.units + 70 < cLine) : CallR X (.builtin "sorted") (fun xs H Q => (∃ d o kvs ks h m, xs = [.ref d] ∧ H d = some (.frz o (.dK kvs)) ∧ Keys ks (kvs.map (·.1)) ∧ HRep X.K h H ∧ kvs.length ≤ sizeLine ∧ sortOk ks ∧ newL m (ks.mergeSort leP) h (up X.K H Q)) ∨
    ∃ d o kvs ks h m, xs = [.ref d] ∧ H d = some (.frz o (.dT kvs)) ∧ Paired Keys ks (kvs.map (·.1)) ∧ HRep X.K h H ∧ kvs.length ≤ sizeLine ∧ sortOk (ks.map PV.tup) ∧ newL m ((ks.map PV.tup).mergeSort leP) h (up X.K H Q)) := by
  intro pins s σ H xs us Q I rv q
  rcases q with q | q
  · exact cr_sortedK hc hu pins s σ H xs us Q I rv q
  · exact cr_sortedD hc hu pins s σ H xs us Q I rv q
theorem e_conSortedD (gd : Good X k G fs Ex) (hu : X.A.units + 70 < cLine) (hg : glB X.env.scope "sorted" = true) (ha : PEm X G Ex a a') (na : noStar a' = true) : PEm X G Ex (.con .sorted m (.keys a)) (.Call (.Name "sorted" p) [a'] [] pos) := by
  obtain ⟨g1, g2, g3⟩ := glB_gl rfl hg
  have se := star_cons na [] X.env
  refine PE.imp (pe_callB (cr_sortedDK gd.calm hu) g1 (gd.blt _ (by decide)) boot_sorted (pa_cons (pe_laid (pe_sizedK (pe_sizedD ha))) pa_nil se) g3 g2 se rfl) fun σ H Q ⟨env, h, er, hr, q⟩ => ?_
  simp only [wpE, wpIt] at q
  refine se_mk gd.mono er hr q fun x h1 V H1 q p1 r1 hr1 sz sk => ?_
  unfold keysW at q
  split at q
  · rename_i d
    split at q
    · rename_i ps e
      obtain rfl := r1.loc_inv
      obtain ⟨d', ed, e⟩ := kcell_loc e
      cases ed
      obtain ⟨kvs, hf, pk, rs⟩ := kcell_inv hr1 e
      have lkv := sk d kvs rfl hf
      have lz : ps.length ≤ sizeLine := by
        have := rs.length
        simp only [List.length_map] at this
        omega
      obtain ⟨so, q⟩ := q lz
      have fin : ∀ H', Pres H1 H' → (∀ b, b ≠ d → H' b = H1 b) → (∃ o, H' d = some (.frz o (.dK kvs))) → ∃ d' o kvs ks h m, [V.ref d] = [.ref d'] ∧ H' d' = some (.frz o (.dK kvs)) ∧ Keys ks (kvs.map (·.1)) ∧ HRep X.K h H' ∧ kvs.length ≤ sizeLine ∧ sortOk ks ∧ newL m (ks.mergeSort leP) h (up X.K H' Q) := by
        intro H' p' out ⟨o, hd⟩
        refine ⟨d, o, kvs, ps.map (·.1), h1.put d (.dcf ps), m, rfl, hd, pk, fun b c ec => ?_, lkv, so, newL_mono (fun _ _ => up.tr (p1.trans p')) q⟩
        unfold MH.put at ec
        by_cases hb : b = d
        · subst hb
          rw [if_pos rfl] at ec; cases ec
          exact ⟨_, hd, .dcf pk (rs.keep p')⟩
        · rw [if_neg hb] at ec
          obtain ⟨u, h2, h3⟩ := hr1 b c ec
          exact ⟨u, (out b hb).trans h2, h3.keep p'⟩
      rcases hf with hf | ⟨o, hf⟩
      · have ok : ∀ a, a = d → ∃ u, H1 a = some u ∧ Fz1 u := fun a e => ⟨.dK kvs, by subst e; exact hf, True.intro⟩
        refine ⟨fun a => a = d, ok, fun H' f => ?_⟩
        obtain ⟨u, o, e1, e2⟩ := f.at_ d rfl
        rw [hf] at e1
        cases e1
        exact .inl (fin H' (f.pres ok) (fun b hb => f.out b hb) ⟨o, e2⟩)
      · exact Laid.none (.inl (fin H1 .refl (fun _ _ => rfl) ⟨o, hf⟩))
    obtain ⟨ps, e, q⟩ := q
    obtain rfl := r1.loc_inv
    obtain ⟨d', ed, e⟩ := dcell_loc e
    cases ed
    obtain ⟨kvs, hf, pk, rs⟩ := dcell_inv hr1 e
    have lkv := sz d kvs rfl hf
    have lz : ps.length ≤ sizeLine := by
      have := rs.length
      simp only [List.length_map] at this
      omega
    obtain ⟨so, q⟩ := q lz
    have em : (ps.map fun p => PV.tup p.1) = (ps.map (·.1)).map PV.tup := by rw [List.map_map]; rfl
    have fin : ∀ H', Pres H1 H' → (∀ b, b ≠ d → H' b = H1 b) → (∃ o, H' d = some (.frz o (.dT kvs))) → ∃ d' o kvs ks h m, [V.ref d] = [.ref d'] ∧ H' d' = some (.frz o (.dT kvs)) ∧ Paired Keys ks (kvs.map (·.1)) ∧ HRep X.K h H' ∧ kvs.length ≤ sizeLine ∧ sortOk (ks.map PV.tup) ∧ newL m ((ks.map PV.tup).mergeSort leP) h (up X.K H' Q) := by
      intro H' p' out ⟨o, hd⟩
      refine ⟨d, o, kvs, ps.map (·.1), h1.put d (.dtf ps), m, rfl, hd, pk, fun b c ec => ?_, lkv, by rw [← em]; exact so, by rw [← em]; exact newL_mono (fun _ _ => up.tr (p1.trans p')) q⟩
      unfold MH.put at ec
      by_cases hb : b = d
      · subst hb
        rw [if_pos rfl] at ec; cases ec
        exact ⟨_, hd, .dtf pk (rs.keep p')⟩
      · rw [if_neg hb] at ec
        obtain ⟨u, h2, h3⟩ := hr1 b c ec
        exact ⟨u, (out b hb).trans h2, h3.keep p'⟩
    rcases hf with hf | ⟨o, hf⟩
    · have ok : ∀ a, a = d → ∃ u, H1 a = some u ∧ Fz1 u := fun a e => ⟨.dT kvs, by subst e; exact hf, True.intro⟩
      refine ⟨fun a => a = d, ok, fun H' f => ?_⟩
      obtain ⟨u, o, e1, e2⟩ := f.at_ d rfl
      rw [hf] at e1
      cases e1
      exact .inr (fin H' (f.pres ok) (fun b hb => f.out b hb) ⟨o, e2⟩)
    · exact Laid.none (.inr (fin H1 .refl (fun _ _ => rfl) ⟨o, hf⟩))
  · exact q.elim
end
end MP
set_option Elab.async false
set_option linter.all false
set_option maxRecDepth 100000
set_option maxHeartbeats 2000000
namespace MP
open PySem PySem.Spec PyProof.Rows L2
theorem room_units {k : Nat} {A : Around} (h : Room k A) : A.units + 100 < cLine := by
  obtain ⟨_, h⟩ := h
  have e : cLine = 9900 := rfl
  omega
theorem noSup_base {o : PySem.Expr} (h : noSup o = true) (m : Str) (env : PySem.Env) (w : Sem Value) : attributeBase o m env w = w := by
  cases o with
  | Call f es kw p =>
    cases es with
    | nil => cases h
    | cons a r => cases f <;> rfl
  | _ => rfl
theorem plain_fold {e : PySem.Expr} (h : plainX e = true) (env : PySem.Env) (x : Value) : foldedSetIterable e env x = pure x := by cases e <;> first | rfl | cases h
theorem okIt_plain {N fs : List Str} {sc : Scope} {it : It} {e' : PySem.Expr} (h : okIt N fs sc it e' = true) : plainX e' = true := by
  cases it <;> unfold okIt at h
  all_goals first
    | exact okE_plain h
    | (split at h
       · rfl
       · cases h)
theorem PTs.imp {X : Cx} {e : List PySem.Expr} {t t' : TT} (h : PTs X e t) (w : ∀ σ H Q, t' σ H Q → t σ H Q) : PTs X e t' := ⟨fun pins s σ H Q I hq => h.run pins s σ H Q I (w σ H Q hq)⟩
theorem Good.blk {X : Cx} {k : Nat} {G : Calls} {fs : List Str} {Ex : XP} (gd : Good X k G fs Ex) (s : Shared) (H : Hp) (sc' : Scope) (C : Addr) (cl : List (Str × Addr)) (fp : List Addr) : Good (X.blk s H sc' (compEnvC sc' cl C X.env) fp) k G fs noX where
  calm := gd.calm
  nd := gd.nd
  tk := fun _ _ ⟨_, _, _, _, _, _, _, _, _, _, _, _, _, _, _, _, w⟩ => by
    obtain ⟨_, _, _, _, _, _, z⟩ := w
    exact z.elim
  room := gd.room
  gd := gd.gd
  blt := gd.blt
  fn := fun f hf hn => ⟨(gd.fn f hf hn).ex⟩
  cst := gd.cst
  exc := gd.exc
  mono := gd.mono
  only := gd.only
theorem relab_lookup {sc : Scope} (x : Str) : ∀ {l : List (Str × NameKind)} {k : NameKind}, l.lookup x = some k → k ≠ .free →
    (l.map fun (n, k) => if (k == NameKind.free && sc.kind == ScopeKind.function && sc.names.lookup n == some NameKind.cell) then (n, NameKind.cell) else (n, k)).lookup x = some k
  | [], _, h, _ => by simp at h
  | (n, k0) :: r, k, h, hk => by
    have ih := @relab_lookup sc x r k
    rw [List.map_cons]
    cases hx : x == n with
    | true =>
      simp only [List.lookup_cons, hx] at h
      cases h
      have e : (k0 == NameKind.free) = false := by cases k0 <;> first | rfl | exact absurd rfl hk
      simp [List.lookup_cons, hx, e]
    | false =>
      simp only [List.lookup_cons, hx] at h
      have q := ih h hk
      dsimp only
      split <;> (simp only [List.lookup_cons, hx]; exact q)
theorem blk_tg {X : Cx} {k : Nat} {G : Calls} {fs : List Str} {Ex : XP} (gd : Good X k G fs Ex) (s : Shared) (H : Hp) (sc' : Scope) (C : Addr) (cl : List (Str × Addr)) (fp : List Addr) {t : Tg} {e : PySem.Expr} (h : okTg X.N sc' t e = true) :
    PG (X.blk s H sc' (compEnvC sc' cl C X.env) fp) e (SG X t) :=
  sG (X := X.blk s H sc' (compEnvC sc' cl C X.env) fp) (sc := sc') gd.calm gd.nd (fun x e => relab_lookup (sc := X.env.scope) x e (fun z => by cases z))
    (fun x e => ⟨relab_lookup (sc := X.env.scope) x e (fun z => by cases z), by show (sc'.names.lookup x == some NameKind.cell) = true; rw [e]; rfl⟩) t e h
theorem pt_no {X : Cx} {G : Calls} {Ex : XP} {e : E} {e' : PySem.Expr} (h : ∀ env h Q, ¬ wpT G Ex e env h Q) : PTm X G Ex e e' := ⟨fun pins s σ H Q I ⟨env, hh, er, hr, q⟩ => (h _ _ _ q).elim⟩
mutual
theorem pe_ok : ∀ (e : E) {X : Cx} {k : Nat} {G : Calls} {fs : List Str} {Ex : XP} {e' : PySem.Expr}, Good X k G fs Ex → okE X.N fs X.env.scope e e' = true → PEm X G Ex e e'
  | .var i, X, k, G, fs, Ex, e', gd, h => by
    simp only [okE] at h
    split at h
    · exact e_var h
    · cases h
  | .non, X, k, G, fs, Ex, e', gd, h => by
    simp only [okE] at h
    split at h
    · exact e_non
    · cases h
  | .bl b, X, k, G, fs, Ex, e', gd, h => by
    simp only [okE] at h
    split at h
    · cases eq_of_beq h; exact e_bl
    · cases h
  | .int b, X, k, G, fs, Ex, e', gd, h => by
    simp only [okE] at h
    split at h
    · cases eq_of_beq h; exact e_int
    · cases h
  | .str b, X, k, G, fs, Ex, e', gd, h => by
    simp only [okE] at h
    split at h
    · cases of_decide_eq_true h; exact e_str
    · cases h
  | .bin op a b, X, k, G, fs, Ex, e', gd, h => by
    simp only [okE] at h
    split at h
    · simp only [Bool.and_eq_true, decide_eq_true_eq] at h
      obtain ⟨⟨rfl, h1⟩, h2⟩ := h
      exact e_bin gd.mono (pe_ok a gd h1) (pe_ok b gd h2)
    · cases h
  | .neg a, X, k, G, fs, Ex, e', gd, h => by
    simp only [okE] at h
    split at h
    · exact e_neg gd.mono (pe_ok a gd h)
    · cases h
  | .not a, X, k, G, fs, Ex, e', gd, h => by
    simp only [okE] at h
    split at h
    · exact e_not gd.mono (pe_ok a gd h)
    · cases h
  | .and a b, X, k, G, fs, Ex, e', gd, h => by
    simp only [okE] at h
    split at h
    · simp only [Bool.and_eq_true] at h
      exact e_and gd.mono (pe_ok a gd h.1) (pe_one (pe_ok b gd h.2))
    · simp only [Bool.and_eq_true] at h
      exact e_and gd.mono (pe_ok a gd h.1) (pe_ok b gd h.2)
    · cases h
  | .or a b, X, k, G, fs, Ex, e', gd, h => by
    simp only [okE] at h
    split at h
    · simp only [Bool.and_eq_true] at h
      exact e_or gd.mono (pe_ok a gd h.1) (pe_one (pe_ok b gd h.2))
    · simp only [Bool.and_eq_true] at h
      exact e_or gd.mono (pe_ok a gd h.1) (pe_ok b gd h.2)
    · cases h
  | .ite c a b, X, k, G, fs, Ex, e', gd, h => by
    simp only [okE] at h
    split at h
    · simp only [Bool.and_eq_true] at h
      exact e_ite gd.mono (pt_ok c gd h.1.1) (pe_ok a gd h.1.2) (pe_ok b gd h.2)
    · cases h
  | .cmp op a b, X, k, G, fs, Ex, e', gd, h => by
    simp only [okE] at h
    split at h
    · simp only [Bool.and_eq_true, decide_eq_true_eq] at h
      obtain ⟨⟨⟨⟨rfl, h1⟩, h2⟩, h3⟩, h4⟩ := h
      exact e_cmp gd.mono (by have := room_units gd.room; omega) (pe_ok a gd h3) (pe_ok b gd h4) (plain_behind (okE_plain h4) _)
    · cases h
  | .chain o p a b c, X, k, G, fs, Ex, e', gd, h => by
    simp only [okE] at h
    split at h
    · simp only [Bool.and_eq_true, decide_eq_true_eq] at h
      obtain ⟨⟨⟨⟨⟨⟨⟨⟨rfl, rfl⟩, _⟩, _⟩, _⟩, _⟩, h3⟩, h4⟩, h5⟩ := h
      exact e_chain gd.mono (by have := room_units gd.room; omega) (pe_ok a gd h3) (pe_ok b gd h4) (pe_ok c gd h5) (plain_behind (okE_plain h5) _)
    · cases h
  | .isN a neg, X, k, G, fs, Ex, e', gd, h => by
    simp only [okE] at h
    split at h
    · simp only [Bool.and_eq_true, decide_eq_true_eq] at h
      obtain ⟨rfl, h1⟩ := h
      exact e_isN gd.mono (pe_ok a gd h1)
    · cases h
  | .isB a b neg, X, k, G, fs, Ex, e', gd, h => by
    simp only [okE] at h
    split at h
    · simp only [Bool.and_eq_true, decide_eq_true_eq] at h
      obtain ⟨⟨rfl, h2⟩, h1⟩ := h
      cases eq_of_beq h2
      exact e_isB gd.mono (pe_ok a gd h1)
    · cases h
  | .isin a b neg, X, k, G, fs, Ex, e', gd, h => by
    simp only [okE] at h
    split at h
    · simp only [Bool.and_eq_true, decide_eq_true_eq] at h
      obtain ⟨⟨rfl, h1⟩, h2⟩ := h
      exact e_isin gd.mono (by have := room_units gd.room; omega) (pe_ok a gd h1) (pe_ok b gd h2) fun op => plain_behind (okE_plain h2) op
    · cases h
  | .tup es, X, k, G, fs, Ex, e', gd, h => by
    simp only [okE] at h
    split at h
    · exact e_tup gd.mono (pa_ok es gd h)
    · cases h
  | .lst m es, X, k, G, fs, Ex, e', gd, h => by
    simp only [okE] at h
    split at h
    · exact e_lst gd.mono (pa_ok es gd h)
    · cases h
  | .dct0 m, X, k, G, fs, Ex, e', gd, h => by
    simp only [okE] at h
    split at h
    · exact e_dct0
    · cases h
  | .dct1 a b, X, k, G, fs, Ex, e', gd, h => by
    simp only [okE] at h
    split at h
    · simp only [Bool.and_eq_true] at h
      exact e_dct1 (by have := room_units gd.room; omega) gd.mono (pe_ok a gd h.1) (pe_ok b gd h.2)
    · cases h
  | .idx a b, X, k, G, fs, Ex, e', gd, h => by
    simp only [okE] at h
    split at h
    · simp only [Bool.and_eq_true] at h
      exact e_idx gd.mono (pe_ok a gd h.1) (pe_ok b gd h.2) (plain_ix (okE_plain h.2))
    · cases h
  | .slc a lo hi, X, k, G, fs, Ex, e', gd, h => by
    simp only [okE] at h
    split at h
    · simp only [Bool.and_eq_true] at h
      exact e_slc gd.mono (pe_ok a gd h.1.1) (po_ok lo gd h.1.2) (po_ok hi gd h.2)
    · cases h
  | .rev a, X, k, G, fs, Ex, e', gd, h => by
    simp only [okE] at h
    split at h
    · simp only [Bool.and_eq_true] at h
      cases eq_of_beq h.1
      exact e_rev gd.mono (pe_ok a gd h.2)
    · cases h
  | .call f es, X, k, G, fs, Ex, e', gd, h => by
    simp only [okE] at h
    split at h
    · simp only [Bool.and_eq_true, decide_eq_true_eq] at h
      obtain ⟨⟨⟨rfl, h1⟩, h2⟩, h3⟩ := h
      exact e_call gd (by simpa using h2) h1 (pa_ok es gd h3) h3
    · cases h
  | .gfn f, X, k, G, fs, Ex, e', gd, h => by
    simp only [okE] at h
    split at h
    · simp only [Bool.and_eq_true, decide_eq_true_eq] at h
      obtain ⟨⟨rfl, h1⟩, h2⟩ := h
      exact e_gfn gd (by simpa using h2) h1
    · cases h
  | .gcs f, X, k, G, fs, Ex, e', gd, h => by
    simp only [okE] at h
    split at h
    · simp only [Bool.and_eq_true, decide_eq_true_eq] at h
      obtain ⟨⟨⟨rfl, h1⟩, h2⟩, h3⟩ := h
      exact e_gcs gd (by simpa using h2) (by simpa using h3.2) h1
    · cases h
  | .mkd a, X, k, G, fs, Ex, e', gd, h => by
    simp only [okE] at h
    split at h
    · simp only [Bool.and_eq_true, decide_eq_true_eq] at h
      obtain ⟨⟨rfl, h1⟩, h2⟩ := h
      exact e_mkd gd (by have := room_units gd.room; omega) h1 (pe_ok a gd h2) (plain_star (okE_plain h2))
    · cases h
  | .fld o f, X, k, G, fs, Ex, e', gd, h => by
    simp only [okE] at h
    split at h
    · simp only [Bool.and_eq_true, decide_eq_true_eq] at h
      obtain ⟨⟨rfl, h1⟩, h2⟩ := h
      exact e_fld gd (pe_ok o gd h2) (noSup_base h1 _ _ _)
    · cases h
  | .mcall o f C m es, X, k, G, fs, Ex, e', gd, h => by
    simp only [okE] at h
    split at h
    · simp only [Bool.and_eq_true, decide_eq_true_eq, Bool.not_eq_true', decide_eq_false_iff_not, List.contains_iff_mem, Option.isNone_iff_eq_none] at h
      obtain ⟨⟨⟨⟨⟨rfl, ⟨⟨h1, h2⟩, h3⟩, h4⟩, h5⟩, h6, h7⟩, h8⟩, h9⟩ := h
      exact e_mcall gd h3 h4 h1 h2 (pe_ok o gd h8) (pa_ok es gd h9) h9 h5 (noSup_base h6 _ _ _) h7
    · cases h
  | .new f C es, X, k, G, fs, Ex, e', gd, h => by
    simp only [okE] at h
    split at h
    · simp only [Bool.and_eq_true, decide_eq_true_eq, List.contains_iff_mem, Option.isNone_iff_eq_none] at h
      obtain ⟨⟨⟨rfl, h1⟩, ⟨h2, h3⟩, h4⟩, h5⟩ := h
      exact e_new gd h3 h4 h2 h1 (pa_ok es gd h5) h5
    · cases h
  | .mkdm a, X, k, G, fs, Ex, e', gd, h => by
    simp only [okE] at h
    split at h
    · simp only [Bool.and_eq_true, decide_eq_true_eq] at h
      obtain ⟨⟨rfl, h1⟩, h2⟩ := h
      exact e_mkdm gd (by have := room_units gd.room; omega) h1 (pe_ok a gd h2) (plain_star (okE_plain h2))
    · cases h
  | .mki a, X, k, G, fs, Ex, e', gd, h => by
    simp only [okE] at h
    split at h
    · simp only [Bool.and_eq_true, decide_eq_true_eq] at h
      obtain ⟨⟨rfl, h1⟩, h2⟩ := h
      exact e_mki gd h1 (pe_ok a gd h2) (plain_star (okE_plain h2))
    · cases h
  | .dix a b, X, k, G, fs, Ex, e', gd, h => by
    simp only [okE] at h
    split at h
    · simp only [Bool.and_eq_true] at h
      exact e_dix gd (by have := room_units gd.room; omega) (pe_ok a gd h.1) (pe_ok b gd h.2) (okE_plain h.2)
    · cases h
  | .rpl a b, X, k, G, fs, Ex, e', gd, h => by
    simp only [okE] at h
    split at h
    · simp only [Bool.and_eq_true, decide_eq_true_eq] at h
      obtain ⟨⟨rfl, h1⟩, h2⟩ := h
      exact e_rpl gd.mono (pe_ok a gd h1) (pe_ok b gd h2)
    · cases h
  | .dpop a b, X, k, G, fs, Ex, e', gd, h => by
    simp only [okE] at h
    split at h
    · simp only [Bool.and_eq_true, decide_eq_true_eq] at h
      obtain ⟨⟨⟨⟨rfl, h1⟩, h2⟩, h3⟩, h4⟩ := h
      exact e_dpop gd (pe_ok a gd h3) (pe_ok b gd h4) (plain_star (okE_plain h4)) h1 (noSup_base h2 _ _ _)
    · cases h
  | .split m a b, X, k, G, fs, Ex, e', gd, h => by
    simp only [okE] at h
    split at h
    · simp only [Bool.and_eq_true, decide_eq_true_eq] at h
      obtain ⟨⟨⟨⟨rfl, h1⟩, h2⟩, h3⟩, h4⟩ := h
      exact e_split gd (pe_ok a gd h3) (pe_ok b gd h4) (plain_star (okE_plain h4)) h1 (noSup_base h2 _ _ _)
    · cases h
  | .join a b, X, k, G, fs, Ex, e', gd, h => by
    simp only [okE] at h
    split at h
    · simp only [Bool.and_eq_true, decide_eq_true_eq] at h
      obtain ⟨⟨⟨⟨rfl, h1⟩, h2⟩, h3⟩, h4⟩ := h
      exact e_join gd (pe_ok a gd h3) (pe_ok b gd h4) (plain_star (okE_plain h4)) h1 (noSup_base h2 _ _ _)
    · cases h
  | .dget o a b, X, k, G, fs, Ex, e', gd, h => by
    simp only [okE] at h
    split at h
    · simp only [Bool.and_eq_true, decide_eq_true_eq] at h
      obtain ⟨⟨⟨⟨⟨rfl, h1⟩, h2⟩, h3⟩, h4⟩, h5⟩ := h
      exact e_dget gd (by have := room_units gd.room; omega) (pe_ok o gd h3) (pe_ok a gd h4) (pe_ok b gd h5) (plain_star (okE_plain h4)) (plain_star (okE_plain h5)) h1 (noSup_base h2 _ _ _)
    · cases h
  | .callv i es, X, k, G, fs, Ex, e', gd, h => by
    simp only [okE] at h
    split at h
    · simp only [Bool.and_eq_true] at h
      exact e_callv gd h.1 (pa_ok es gd h.2) h.2
    · cases h
  | .blt b es, X, k, G, fs, Ex, e', gd, h => by
    simp only [okE] at h
    split at h
    · simp only [Bool.and_eq_true, decide_eq_true_eq] at h
      obtain ⟨⟨rfl, h1⟩, h3⟩ := h
      exact e_blt gd (by have := room_units gd.room; omega) h1 (pa_ok es gd h3) h3
    · cases h
  | .isi a t, X, k, G, fs, Ex, e', gd, h => by
    simp only [okE] at h
    split at h
    · simp only [Bool.and_eq_true, decide_eq_true_eq] at h
      obtain ⟨⟨⟨⟨⟨rfl, rfl⟩, h1⟩, h2⟩, h3⟩, h4⟩ := h
      exact e_isi gd h2 h1 h3 (pe_ok a gd h4) (plain_star (okE_plain h4))
    · cases h
  | .con c m it, X, k, G, fs, Ex, e', gd, h => by
    simp only [okE] at h
    split at h
    · rename_i x p a' pos
      simp only [Bool.and_eq_true, decide_eq_true_eq] at h
      obtain ⟨⟨⟨rfl, h1⟩, h2⟩, h3⟩ := h
      cases it with
      | seq a =>
        simp only [okIt] at h2
        have ha := pe_ok a gd h2
        have na := plain_star (okE_plain h2)
        cases c with
        | list => exact e_conList gd h1 ha na
        | tuple => exact e_conTup gd h1 ha na
        | sorted => exact e_conSorted gd (by have := room_units gd.room; omega) h1 ha na
      | rng1 a =>
        simp only [okIt] at h2
        split at h2
        · simp only [Bool.and_eq_true, decide_eq_true_eq] at h2
          obtain ⟨⟨rfl, h4⟩, h5⟩ := h2
          have ha := pe_ok a gd h5
          have na := plain_star (okE_plain h5)
          cases c with
          | list => exact e_conList1 gd h1 h4 ha na
          | tuple => exact e_conTup1 gd h1 h4 ha na
          | sorted => cases h3
        · cases h2
      | rng2 a b =>
        simp only [okIt] at h2
        split at h2
        · simp only [Bool.and_eq_true, decide_eq_true_eq] at h2
          obtain ⟨⟨⟨rfl, h4⟩, h5⟩, h6⟩ := h2
          have ha := pe_ok a gd h5
          have na := plain_star (okE_plain h5)
          have hb := pe_ok b gd h6
          have nb := plain_star (okE_plain h6)
          cases c with
          | list => exact e_conList2 gd h1 h4 ha na hb nb
          | tuple => exact e_conTup2 gd h1 h4 ha na hb nb
          | sorted => cases h3
        · cases h2
      | enum a => cases c <;> cases h3
      | chars a => cases c <;> cases h3
      | keys a =>
        simp only [okIt] at h2
        have ha := pe_ok a gd h2
        have na := plain_star (okE_plain h2)
        cases c with
        | list => cases h3
        | tuple => cases h3
        | sorted => exact e_conSortedD gd (by have := room_units gd.room; omega) h1 ha na
      | zip a b => cases c <;> cases h3
    · cases h
  | .comp m elt tg it c, X, k, G, fs, Ex, e', gd, h => by
    unfold okE at h
    split at h
    · rename_i elt' tg' it' ifs' sc' pos
      simp only [Bool.and_eq_true, decide_eq_true_eq] at h
      obtain ⟨⟨⟨⟨⟨⟨h1, h2⟩, h3⟩, h4⟩, h5⟩, h6⟩, h7⟩ := h
      refine e_comp gd.mono gd.calm gd.nd (pi_ok it gd h5 (by
        cases it <;> first | exact True.intro | (cases tg with
          | name i => cases h4
          | tup2 a b => simp only [okTg] at h1; split at h1 <;> first | exact ⟨_, _, _, rfl⟩ | cases h1
          | tup3 a b c => simp only [okTg] at h1; split at h1 <;> first | exact ⟨_, _, _, rfl⟩ | cases h1
          | tup4 a b c d => simp only [okTg] at h1; split at h1 <;> first | exact ⟨_, _, _, rfl⟩ | cases h1))) (blkOk_by h3) h2
        (fun s H C cl fp => blk_tg gd s H sc' C cl fp h1) (fun s H C cl fp => ?_) (fun s H C cl fp => pe_ok elt (gd.blk s H sc' C cl fp) h6) (plain_fold (okIt_plain h5) _)
      cases c with
      | none =>
        split at h7
        · refine PTs.imp pts_nil fun σ H Q ⟨env, h, er, hr, q⟩ => ?_
          simp only [wpC] at q
          exact q H .refl hr
        · rename_i z; cases z
        · cases h7
      | some c =>
        split at h7
        · rename_i z; cases z
        · rename_i z
          cases z
          refine PTs.imp (pts_one (pt_ok c (gd.blk s H sc' C cl fp) h7)) fun σ H Q ⟨env, h, er, hr, q⟩ => ?_
          simp only [wpC] at q
          exact ⟨env, h, er, hr, q⟩
        · cases h7
    · cases h
  | .meth o m es, X, k, G, fs, Ex, e', gd, h => by
    simp only [okE] at h
    split at h
    · simp only [Bool.and_eq_true, decide_eq_true_eq] at h
      obtain ⟨⟨⟨⟨⟨rfl, h1⟩, h2⟩, h3⟩, h4⟩, h5⟩ := h
      have ho := pe_ok o gd h3
      have hs := pa_ok es gd h4
      by_cases hm : m = .pop0
      · subst hm
        cases es with
        | nil =>
          simp only [okEs] at h4
          split at h4
          · exact e_meth0 gd ho h1 (noSup_base h2 _ _ _)
          · cases h4
        | cons a r => cases h5
      · cases es with
        | nil => cases m <;> first | exact absurd rfl hm | cases h5
        | cons a r =>
          cases r with
          | cons b r => cases m <;> cases h5
          | nil =>
            simp only [okEs] at h4
            split at h4
            · rename_i e1 r1
              simp only [Bool.and_eq_true] at h4
              have z := h4.2
              split at z
              · exact e_meth gd ho hs (plain_star (okE_plain h4.1)) h1 (noSup_base h2 _ _ _) hm
              · cases z
            · cases h4
    · cases h
theorem pt_ok : ∀ (e : E) {X : Cx} {k : Nat} {G : Calls} {fs : List Str} {Ex : XP} {e' : PySem.Expr}, Good X k G fs Ex → okE X.N fs X.env.scope e e' = true → PTm X G Ex e e'
  | .var i, X, k, G, fs, Ex, e', gd, h => by
    have he := pe_ok (.var i) gd h
    simp only [okE] at h
    split at h
    · exact t_val gd.mono he (fun _ _ _ q => by simpa only [wpT, wpE] using q) fun _ => rfl
    · cases h
  | .call f es, X, k, G, fs, Ex, e', gd, h => by
    have he := pe_ok (.call f es) gd h
    simp only [okE] at h
    split at h
    · exact t_val gd.mono he (fun _ _ _ q => by simpa only [wpT, wpE] using q) fun _ => rfl
    · cases h
  | .callv f es, X, k, G, fs, Ex, e', gd, h => by
    have he := pe_ok (.callv f es) gd h
    simp only [okE] at h
    split at h
    · exact t_val gd.mono he (fun _ _ _ q => by simpa only [wpT, wpE] using q) fun _ => rfl
    · cases h
  | .gfn f, X, k, G, fs, Ex, e', gd, h => pt_no (fun _ _ _ q => by simp only [wpT] at q)
  | .gcs f, X, k, G, fs, Ex, e', gd, h => pt_no (fun _ _ _ q => by simp only [wpT] at q)
  | .mkd f, X, k, G, fs, Ex, e', gd, h => pt_no (fun _ _ _ q => by simp only [wpT] at q)
  | .fld f g, X, k, G, fs, Ex, e', gd, h => pt_no (fun _ _ _ q => by simp only [wpT] at q)
  | .mcall _ _ _ _ _, X, k, G, fs, Ex, e', gd, h => pt_no (fun _ _ _ q => by simp only [wpT] at q)
  | .new _ _ _, X, k, G, fs, Ex, e', gd, h => pt_no (fun _ _ _ q => by simp only [wpT] at q)
  | .mkdm f, X, k, G, fs, Ex, e', gd, h => pt_no (fun _ _ _ q => by simp only [wpT] at q)
  | .mki f, X, k, G, fs, Ex, e', gd, h => pt_no (fun _ _ _ q => by simp only [wpT] at q)
  | .dix f g, X, k, G, fs, Ex, e', gd, h => pt_no (fun _ _ _ q => by simp only [wpT] at q)
  | .rpl f g, X, k, G, fs, Ex, e', gd, h => pt_no (fun _ _ _ q => by simp only [wpT] at q)
  | .dpop f g, X, k, G, fs, Ex, e', gd, h => pt_no (fun _ _ _ q => by simp only [wpT] at q)
  | .split _ f g, X, k, G, fs, Ex, e', gd, h => pt_no (fun _ _ _ q => by simp only [wpT] at q)
  | .join f g, X, k, G, fs, Ex, e', gd, h => pt_no (fun _ _ _ q => by simp only [wpT] at q)
  | .dget f a b, X, k, G, fs, Ex, e', gd, h => pt_no (fun _ _ _ q => by simp only [wpT] at q)
  | .blt f es, X, k, G, fs, Ex, e', gd, h => by
    have he := pe_ok (.blt f es) gd h
    simp only [okE] at h
    split at h
    · exact t_val gd.mono he (fun _ _ _ q => by simpa only [wpT, wpE] using q) fun _ => rfl
    · cases h
  | .idx a b, X, k, G, fs, Ex, e', gd, h => by
    have he := pe_ok (.idx a b) gd h
    simp only [okE] at h
    split at h
    · exact t_val gd.mono he (fun _ _ _ q => by simpa only [wpT, wpE] using q) fun _ => rfl
    · cases h
  | .isi a t, X, k, G, fs, Ex, e', gd, h => by
    have he := pe_ok (.isi a t) gd h
    simp only [okE] at h
    split at h
    · exact t_val gd.mono he (fun _ _ _ q => by simp only [wpT, wpE] at q ⊢; exact q) fun _ => rfl
    · cases h
  | .not a, X, k, G, fs, Ex, e', gd, h => by
    simp only [okE] at h
    split at h
    · exact t_not gd.mono (pt_ok a gd h)
    · cases h
  | .and a b, X, k, G, fs, Ex, e', gd, h => by
    simp only [okE] at h
    split at h
    · simp only [Bool.and_eq_true] at h
      exact t_and gd.mono (pt_ok a gd h.1) (pw_and1 (pt_ok b gd h.2))
    · simp only [Bool.and_eq_true] at h
      exact t_and gd.mono (pt_ok a gd h.1) (pw_of (pt_ok b gd h.2))
    · cases h
  | .or a b, X, k, G, fs, Ex, e', gd, h => by
    simp only [okE] at h
    split at h
    · simp only [Bool.and_eq_true] at h
      exact t_or gd.mono (pt_ok a gd h.1) (pw_or1 (pt_ok b gd h.2))
    · simp only [Bool.and_eq_true] at h
      exact t_or gd.mono (pt_ok a gd h.1) (pw_of (pt_ok b gd h.2))
    · cases h
  | .ite c a b, X, k, G, fs, Ex, e', gd, h => by
    simp only [okE] at h
    split at h
    · simp only [Bool.and_eq_true] at h
      exact t_ite gd.mono (pt_ok c gd h.1.1) (pt_ok a gd h.1.2) (pt_ok b gd h.2)
    · cases h
  | .cmp op a b, X, k, G, fs, Ex, e', gd, h => by
    simp only [okE] at h
    split at h
    · simp only [Bool.and_eq_true, decide_eq_true_eq] at h
      obtain ⟨⟨⟨⟨rfl, h1⟩, h2⟩, h3⟩, h4⟩ := h
      exact t_cmp gd.mono (by have := room_units gd.room; omega) (pe_ok a gd h3) (pe_ok b gd h4) (plain_behind (okE_plain h4) _)
    · cases h
  | .chain o p a b c, X, k, G, fs, Ex, e', gd, h => by
    simp only [okE] at h
    split at h
    · simp only [Bool.and_eq_true, decide_eq_true_eq] at h
      obtain ⟨⟨⟨⟨⟨⟨⟨⟨rfl, rfl⟩, _⟩, _⟩, _⟩, _⟩, h3⟩, h4⟩, h5⟩ := h
      exact t_chain gd.mono (by have := room_units gd.room; omega) (pe_ok a gd h3) (pe_ok b gd h4) (pe_ok c gd h5) (plain_behind (okE_plain h5) _)
    · cases h
  | .isN a neg, X, k, G, fs, Ex, e', gd, h => by
    simp only [okE] at h
    split at h
    · simp only [Bool.and_eq_true, decide_eq_true_eq] at h
      obtain ⟨rfl, h1⟩ := h
      exact t_isN gd.mono (pe_ok a gd h1)
    · cases h
  | .isB a b neg, X, k, G, fs, Ex, e', gd, h => by
    simp only [okE] at h
    split at h
    · simp only [Bool.and_eq_true, decide_eq_true_eq] at h
      obtain ⟨⟨rfl, h2⟩, h1⟩ := h
      cases eq_of_beq h2
      exact t_isB gd.mono (pe_ok a gd h1)
    · cases h
  | .isin a b neg, X, k, G, fs, Ex, e', gd, h => by
    simp only [okE] at h
    split at h
    · simp only [Bool.and_eq_true, decide_eq_true_eq] at h
      obtain ⟨⟨rfl, h1⟩, h2⟩ := h
      exact t_isin gd.mono (by have := room_units gd.room; omega) (pe_ok a gd h1) (pe_ok b gd h2) fun op => plain_behind (okE_plain h2) op
    · cases h
  | .non, X, k, G, fs, Ex, e', gd, h => pt_no (fun _ _ _ q => by simp only [wpT] at q)
  | .bl b, X, k, G, fs, Ex, e', gd, h => pt_no (fun _ _ _ q => by simp only [wpT] at q)
  | .int b, X, k, G, fs, Ex, e', gd, h => pt_no (fun _ _ _ q => by simp only [wpT] at q)
  | .str b, X, k, G, fs, Ex, e', gd, h => pt_no (fun _ _ _ q => by simp only [wpT] at q)
  | .bin op a b, X, k, G, fs, Ex, e', gd, h => pt_no (fun _ _ _ q => by simp only [wpT] at q)
  | .neg a, X, k, G, fs, Ex, e', gd, h => pt_no (fun _ _ _ q => by simp only [wpT] at q)
  | .tup a, X, k, G, fs, Ex, e', gd, h => pt_no (fun _ _ _ q => by simp only [wpT] at q)
  | .lst _ a, X, k, G, fs, Ex, e', gd, h => pt_no (fun _ _ _ q => by simp only [wpT] at q)
  | .dct0 a, X, k, G, fs, Ex, e', gd, h => pt_no (fun _ _ _ q => by simp only [wpT] at q)
  | .dct1 a b, X, k, G, fs, Ex, e', gd, h => pt_no (fun _ _ _ q => by simp only [wpT] at q)
  | .slc a b c, X, k, G, fs, Ex, e', gd, h => pt_no (fun _ _ _ q => by simp only [wpT] at q)
  | .rev a, X, k, G, fs, Ex, e', gd, h => pt_no (fun _ _ _ q => by simp only [wpT] at q)
  | .con a b c, X, k, G, fs, Ex, e', gd, h => pt_no (fun _ _ _ q => by simp only [wpT] at q)
  | .comp a b c d e, X, k, G, fs, Ex, e', gd, h => pt_no (fun _ _ _ q => by simp only [wpT] at q)
  | .meth a b c, X, k, G, fs, Ex, e', gd, h => pt_no (fun _ _ _ q => by simp only [wpT] at q)
theorem pa_ok : ∀ (e : Es) {X : Cx} {k : Nat} {G : Calls} {fs : List Str} {Ex : XP} {e' : List PySem.Expr}, Good X k G fs Ex → okEs X.N fs X.env.scope e e' = true → PAm X G Ex e e'
  | .nil, X, k, G, fs, Ex, e', gd, h => by
    simp only [okEs] at h
    split at h
    · exact a_nil
    · cases h
  | .cons a r, X, k, G, fs, Ex, e', gd, h => by
    simp only [okEs] at h
    split at h
    · simp only [Bool.and_eq_true] at h
      exact a_cons gd.mono (pe_ok a gd h.1) (pa_ok r gd h.2) (plain_star (okE_plain h.1))
    · cases h
theorem po_ok : ∀ (e : Eo) {X : Cx} {k : Nat} {G : Calls} {fs : List Str} {Ex : XP} {e' : Option PySem.Expr}, Good X k G fs Ex → okEo X.N fs X.env.scope e e' = true → PO X e' (SO X (wpEo G Ex e))
  | .none, X, k, G, fs, Ex, e', gd, h => by
    simp only [okEo] at h
    split at h
    · exact o_none
    · cases h
  | .some a, X, k, G, fs, Ex, e', gd, h => by
    simp only [okEo] at h
    split at h
    · exact o_some gd.mono (pe_ok a gd h)
    · cases h
theorem pi_ok : ∀ (it : It) {X : Cx} {k : Nat} {G : Calls} {fs : List Str} {Ex : XP} {e' tg' : PySem.Expr}, Good X k G fs Ex → okIt X.N fs X.env.scope it e' = true → (match it with | .enum _ => ∃ a b c, tg' = .Tuple a b c | .zip _ _ => ∃ a b c, tg' = .Tuple a b c | _ => True) → PI X tg' e' (SI X (wpIt G Ex it))
  | .seq a, X, k, G, fs, Ex, e', tg', gd, h, ht => by
    simp only [okIt] at h
    exact i_seq gd.mono (pe_ok a gd h)
  | .chars a, X, k, G, fs, Ex, e', tg', gd, h, ht => by
    simp only [okIt] at h
    exact i_chars gd.mono (pe_ok a gd h)
  | .keys a, X, k, G, fs, Ex, e', tg', gd, h, ht => by
    simp only [okIt] at h
    exact i_keys gd.mono (pe_ok a gd h)
  | .rng1 a, X, k, G, fs, Ex, e', tg', gd, h, ht => by
    simp only [okIt] at h
    split at h
    · simp only [Bool.and_eq_true, decide_eq_true_eq] at h
      obtain ⟨⟨rfl, h1⟩, h2⟩ := h
      exact i_rng1 gd h1 (pe_ok a gd h2) (plain_star (okE_plain h2))
    · cases h
  | .rng2 a b, X, k, G, fs, Ex, e', tg', gd, h, ht => by
    simp only [okIt] at h
    split at h
    · simp only [Bool.and_eq_true, decide_eq_true_eq] at h
      obtain ⟨⟨⟨rfl, h1⟩, h2⟩, h3⟩ := h
      exact i_rng2 gd h1 (pe_ok a gd h2) (plain_star (okE_plain h2)) (pe_ok b gd h3) (plain_star (okE_plain h3))
    · cases h
  | .enum a, X, k, G, fs, Ex, e', tg', gd, h, ht => by
    obtain ⟨_, _, _, rfl⟩ := ht
    simp only [okIt] at h
    split at h
    · simp only [Bool.and_eq_true, decide_eq_true_eq] at h
      obtain ⟨⟨rfl, h1⟩, h2⟩ := h
      exact i_enum gd h1 (pe_ok a gd h2) (plain_star (okE_plain h2))
    · cases h
  | .zip a b, X, k, G, fs, Ex, e', tg', gd, h, ht => by
    obtain ⟨_, _, _, rfl⟩ := ht
    simp only [okIt] at h
    split at h
    · simp only [Bool.and_eq_true, decide_eq_true_eq] at h
      obtain ⟨⟨⟨rfl, h1⟩, h2⟩, h3⟩ := h
      exact i_zip gd h1 (pe_ok a gd h2) (plain_star (okE_plain h2)) (pe_ok b gd h3) (plain_star (okE_plain h3))
    · cases h
end
end MP
set_option Elab.async false
set_option linter.all false
set_option maxRecDepth 100000
set_option maxHeartbeats 1000000
namespace MP
open PySem PySem.Spec PyProof.Rows L2
def noComp : PySem.Expr → Bool
  | .ListComp .. => false
  | .SetComp .. => false
  | .DictComp .. => false
  | _ => true
theorem sw_plain {e : PySem.Expr} (h : noComp e = true) (t : Option PySem.Expr) (l : Nat) (env : PySem.Env) : swapsWith e t l env = pure false := by cases e <;> first | rfl | cases h
theorem sw_tup {e : PySem.Expr} {a : List PySem.Expr} {b : Nat} {c : Pos} (l : Nat) (env : PySem.Env) : swapsWith e (some (.Tuple a b c)) l env = pure false := by cases e <;> rfl
theorem sw_sub {e : PySem.Expr} {a b : PySem.Expr} {c : Pos} (l : Nat) (env : PySem.Env) : swapsWith e (some (.Subscript a b c)) l env = pure false := by cases e <;> rfl
theorem sw_comp {elt : PySem.Expr} {gs : List Comprehension} {scope : Scope} {pos py : Pos} {y : Str} {l : Nat} {env : PySem.Env} (hk : env.scope.kind = .function) :
    swapsWith (.ListComp elt gs scope pos) (some (.Name y py)) l env = pure ((env.scope.names.lookup y == some .local) && py.line == pos.line && !(scope.names.any fun (n, k) => n == y && (k == .local || k == .cell))) := by
  have hb : env.blockKind = .function := by unfold Env.blockKind; rw [hk]; rfl
  unfold swapsWith
  simp only [hb, PySem.Expr.pos]
  rfl
theorem sws_tup {e : PySem.Expr} {a : List PySem.Expr} {b : Nat} {c : Pos} {l : Nat} {env : PySem.Env} : swapsWithSole [.Tuple a b c] e l env = pure false := by cases e <;> rfl
theorem sws_sub {e : PySem.Expr} {a b : PySem.Expr} {c : Pos} {l : Nat} {env : PySem.Env} : swapsWithSole [.Subscript a b c] e l env = pure false := by cases e <;> rfl
def nameAt (sc : Scope) (l : Nat) : PySem.Expr → Option Str
  | .Name id pos => if (sc.names.lookup id == some NameKind.local && pos.line == l) = true then some id else none
  | _ => none
def stB (sc : Scope) : PySem.Expr → PySem.Expr → Bool
  | .Tuple ts _ _, .Tuple vs _ _ => vs.length != ts.length || (ts.filterMap (nameAt sc ((ts.head?.map (·.pos.line)).getD 0))).length != ts.length || vs.all (foldedForSure 8)
  | _, _ => true
theorem st_none {t e : PySem.Expr} {env : PySem.Env} (h : stB env.scope t e = true) (ht : (∃ a b c, t = .Tuple a b c) ∨ (∃ x p, t = .Name x p) ∨ ∃ a b c, t = .Subscript a b c) : swappedStores [t] e env = pure none := by
  have key : ∀ (ts : List PySem.Expr), ts.filterMap (fun
    | .Name id pos => if (env.kindOf id == some NameKind.local && pos.line == (ts.head?.map (·.pos.line)).getD 0) = true then some id else none
    | _ => none) = ts.filterMap (nameAt env.scope ((ts.head?.map (·.pos.line)).getD 0)) := fun ts => by
    congr 1
  rcases ht with ⟨ts, b, c, rfl⟩ | ⟨x, p, rfl⟩ | ⟨a, b, c, rfl⟩
  · cases e with
    | Tuple vs b2 c2 =>
      simp only [stB, Bool.or_eq_true, bne_iff_ne, ne_eq] at h
      unfold swappedStores
      dsimp only
      by_cases c1 : (!(ts.length == 2 || ts.length == 3) || vs.length != ts.length || env.blockKind != ScopeKind.function) = true
      · rw [if_pos c1]
      · rw [if_neg c1]
        split
        · rfl
        · split
          · rfl
          · rename_i c3
            split
            · rfl
            · rename_i c4
              exfalso
              rcases h with (h | h) | h
              · simp [h] at c1
              · apply c3
                rw [Bool.or_eq_true]
                left
                simp only [bne_iff_ne, ne_eq]
                intro z
                apply h
                rw [← z]
                congr 1
              · exact c4 h
    | _ => rfl
  · cases e <;> rfl
  · cases e <;> rfl
def parB (sc : Scope) (x y : Str) (px py : Pos) (a b : PySem.Expr) : Bool :=
  (sc.names.lookup x == some .local) && (sc.names.lookup y == some .local) && py.line == px.line && !(x == y) && noStar a && noStar b && !(foldedForSure 8 a && foldedForSure 8 b) && !(constantsAlone 8 a && constantsAlone 8 b)
theorem par_some {env : PySem.Env} {x y : Str} {px py pt p2 : Pos} {kt k2 : Nat} {a b : PySem.Expr} (hk : env.scope.kind = .function) (h : parB env.scope x y px py a b = true) :
    swappedStores [.Tuple [.Name x px, .Name y py] kt pt] (.Tuple [a, b] k2 p2) env = pure (some [x, y]) := by
  unfold parB at h
  simp only [Bool.and_eq_true, beq_iff_eq, Bool.not_eq_true', Bool.and_eq_false_imp] at h
  obtain ⟨⟨⟨⟨⟨⟨⟨h1, h2⟩, h3⟩, h4⟩, h5⟩, h6⟩, h7⟩, h8⟩ := h
  have hb : env.blockKind = .function := by unfold Env.blockKind; rw [hk]; rfl
  have k1 : env.kindOf x = some .local := h1
  have k2 : env.kindOf y = some .local := h2
  have ne : (x == y) = false := h4
  have ne2 : (y == x) = false := by
    cases q : y == x with
    | false => rfl
    | true => rw [beq_iff_eq] at q; subst q; simp at ne
  unfold swappedStores
  dsimp only
  rw [if_neg (by simp [hb])]
  rw [if_neg (by
    simp only [List.any_cons, List.any_nil, Bool.or_false, Bool.or_eq_true]
    rintro (z | z)
    · cases a <;> first | exact absurd (show false = true from z) (by decide) | cases h5
    · cases b <;> first | exact absurd (show false = true from z) (by decide) | cases h6)]
  have n1 : nameAt env.scope px.line (.Name x px) = some x := by simp [nameAt, h1]
  have n2 : nameAt env.scope px.line (.Name y py) = some y := by simp [nameAt, h2, h3]
  have en : [PySem.Expr.Name x px, PySem.Expr.Name y py].filterMap (nameAt env.scope px.line) = [x, y] := by
    rw [List.filterMap_cons_some n1, List.filterMap_cons_some n2]; rfl
  have ed : [x, y].eraseDups = [x, y] := by
    simp [List.eraseDups_cons, ne, ne2]
  have e1 : ([a, b].all (foldedForSure 8)) = false := by
    simp only [List.all_cons, List.all_nil, Bool.and_true]
    cases q : foldedForSure 8 a with
    | false => rfl
    | true => simpa using h7 q
  have e2 : ([a, b].all (constantsAlone 8)) = false := by
    simp only [List.all_cons, List.all_nil, Bool.and_true]
    cases q : constantsAlone 8 a with
    | false => rfl
    | true => simpa using h8 q
  generalize hg : List.filterMap _ [PySem.Expr.Name x px, PySem.Expr.Name y py] = names
  have en' : names = [x, y] := hg.symm.trans en
  subst en'
  rw [if_neg (by rw [ed]; simp), if_neg (by rw [e1]; simp), if_neg (by rw [e2]; simp)]
end MP
set_option Elab.async false
set_option linter.all false
set_option maxRecDepth 100000
set_option maxHeartbeats 2000000
namespace MP
open PySem PySem.Spec PyProof.Rows L2
def notTup : PySem.Expr → Bool
  | .Tuple .. => false
  | _ => true
mutual
def okS (N : List Str) (fs : List Str) (sc : Scope) : S → Stmt → Bool
  | .asg t e, st => match st with
    | .Assign [t'] e' _ => okTg N sc t t' && okE N fs sc e e' && stB sc t' e'
    | _ => false
  | .par i j a b, st => match st with
    | .Assign [.Tuple [.Name x px, .Name y py] _ _] (.Tuple [a', b'] _ _) _ => decide (N[i]? = some x) && decide (N[j]? = some y) && decide (i ≠ j) && parB sc x y px py a' b' && okE N fs sc a a' && okE N fs sc b b'
    | _ => false
  | .sub o i v, st => match st with
    | .Assign [.Subscript o' i' _] v' _ => okE N fs sc o o' && okE N fs sc i i' && okE N fs sc v v'
    | _ => false
  | .subd o i v, st => match st with
    | .Assign [.Subscript o' i' _] v' _ => okE N fs sc o o' && okE N fs sc i i' && okE N fs sc v v'
    | _ => false
  | .ex e, st => match st with
    | .Expr e' _ => okE N fs sc e e' && noComp e'
    | _ => false
  | .ret e, st => match st with
    | .Return (some e') _ => okE N fs sc e e'
    | _ => false
  | .pass, st => match st with
    | .Pass _ => true
    | _ => false
  | .ife c a b, st => match st with
    | .If c' a' b' _ => okE N fs sc c c' && okSs N fs sc a a' && okSs N fs sc b b'
    | _ => false
  | .for t it body, st => match st with
    | .For t' it' body' [] _ => okTg N sc t t' && itTg it t && okIt N fs sc it it' && okSs N fs sc body body'
    | _ => false
  | .while c body, st => match st with
    | .While c' body' [] _ => okE N fs sc c c' && okSs N fs sc body body'
    | _ => false
  | .raise c, st => match st with
    | .Raise (some (.Call (.Name x _) [.Constant (.str _) _ _] [] _)) none _ => decide (c = x) && glB sc x && (fs.contains c && isExc c)
    | _ => false
  | .tryR, _ => false
  | .seta o f v, st => match st with
    | .Assign [.Attribute o' nm _] v' _ => decide (nm = f) && noSup o' && okE N fs sc o o' && okE N fs sc v v'
    | _ => false
def okSs (N : List Str) (fs : List Str) (sc : Scope) : Ss → List Stmt → Bool
  | .nil, l => match l with
    | [] => true
    | _ => false
  | .cons s r, l => match l with
    | s' :: r' => okS N fs sc s s' && okSs N fs sc r r'
    | _ => false
end
section
variable {K : KF} {H H1 : Hp}
def upN (K : KF) (H : Hp) (D : L2.St → Hp → Prop) : Env → MH → Prop := fun env' h' => ∀ σ' H', Pres H H' → EnvRep K H' σ' env' → HRep K h' H' → D σ' H'
def upD (K : KF) (H : Hp) (D : Ends) : En := ⟨upN K H D.nx, up K H D.rt, upN K H D.bk, upN K H D.ct⟩
theorem upN.tr (p : Pres H H1) {D : L2.St → Hp → Prop} {env : Env} {h : MH} (q : upN K H D env h) : upN K H1 D env h := fun σ' H' p' e r => q σ' H' (p.trans p') e r
theorem upD.tr (p : Pres H H1) {D : Ends} : EnLe (upD K H D) (upD K H1 D) := ⟨fun _ _ => upN.tr p, fun _ _ => up.tr p, fun _ _ => upN.tr p, fun _ _ => upN.tr p⟩
end
def SS (X : Cx) (w : Env → MH → En → Prop) : TS := fun D σ H => ∃ env h, EnvRep X.K H σ env ∧ HRep X.K h H ∧ w env h (upD X.K H D)
structure GoodS (X : Cx) (k : Nat) (G : Calls) (fs : List Str) (Ex : XP) : Prop extends Good X k G fs Ex where
  fnk : X.env.scope.kind = .function
  cel : ∀ x, X.env.scope.names.lookup x = some .cell → X.fn x = true
  pass : PassesOwn (model X.prog X.w) X.A X.env X.xe
abbrev PSm (X : Cx) (G : Calls) (Ex : XP) (e : S) (e' : Stmt) : Prop := PS X e' (SS X (wpS G Ex e))
abbrev PSsm (X : Cx) (G : Calls) (Ex : XP) (e : Ss) (e' : List Stmt) : Prop := PSs X e' (SS X (wpSs G Ex e))
section
variable {X : Cx} {k : Nat} {G : Calls} {fs : List Str} {Ex : XP} {e a b o i v c : E} {e' a' b' o' i' v' c' tg' it' : PySem.Expr} {pos p2 : Pos} {t : Tg}
theorem GoodS.tg (gd : GoodS X k G fs Ex) (h : okTg X.N X.env.scope t tg' = true) : PG X tg' (SG X t) :=
  sG gd.calm gd.nd (fun _ e => e) (fun x e => ⟨e, gd.cel x e⟩) t tg' h
theorem s_asgP (hG : GMono G) (he : PEm X G Ex e e') (hg : PG X tg' (SG X t)) (h1 : swapsWithSole [tg'] e' pos.line X.env = pure false) (h2 : swappedStores [tg'] e' X.env = pure none) (ns : noStar tg' = true) :
    PSm X G Ex (.asg t e) (.Assign [tg'] e' pos) := PS.imp (ps_asg he hg h1 h2 (by rw [asg_cons ns]; rfl)) fun D σ H ⟨env, h, er, hr, q⟩ => by
  simp only [wpS] at q
  refine se_mk hG er hr q fun x h1 V H1 q p1 r1 hr1 => ?_
  exact ⟨x, env, h1, er.keep p1, hr1, r1, tgW_mono (fun env' q σ' er' _ _ => q σ' H1 p1 er' hr1) q⟩
def LaidS (D : L2.St → Hp → Prop) : L2.St → Hp → Prop := fun σ H => ∃ S : Addr → Prop, (∀ a, S a → ∃ u, H a = some u ∧ Fz1 u) ∧ ∀ H', FzS S H H' → D σ H'
theorem ps_laid {st : Stmt} {t : TS} (h : PS X st t) : PS X st (fun D σ H => t { D with nx := LaidS D.nx } σ H) := ⟨fun pins s σ H D I hw =>
  thn (h.run pins s σ H _ I hw) fun f s1 q => by
    cases f with
    | next =>
      obtain ⟨σ', H', I1, S, ok, q⟩ := q
      obtain ⟨H2, f, I2⟩ := fz_inv I1 ok
      exact ⟨σ', H2, I2, q H2 f⟩
    | brk => exact q
    | cont => exact q
    | ret v => exact q⟩
theorem comp_parts {m : Bool} {elt : E} {tg : Tg} {it : It} {c : Eo} {e' : PySem.Expr} (gd : Good X k G fs Ex) (h : okE X.N fs X.env.scope (.comp m elt tg it c) e' = true) :
    ∃ elt' tg' it' ifs' sc' pos own, e' = .ListComp elt' [⟨tg', it', ifs', 0⟩] sc' pos ∧ PI X tg' it' (SI X (wpIt G Ex it)) ∧ BlkOk X.N X.env.scope sc' own ∧ own.map (·.2) = tg.own ∧
    (∀ (s : Shared) (H : Hp) (C : Addr) (cl : List (Str × Addr)) (fp : List Addr), PG (X.blk s H sc' (compEnvC sc' cl C X.env) fp) tg' (SG X tg)) ∧
    (∀ (s : Shared) (H : Hp) (C : Addr) (cl : List (Str × Addr)) (fp : List Addr), PTs (X.blk s H sc' (compEnvC sc' cl C X.env) fp) ifs' (SC X (wpC G c))) ∧
    (∀ (s : Shared) (H : Hp) (C : Addr) (cl : List (Str × Addr)) (fp : List Addr), PE (X.blk s H sc' (compEnvC sc' cl C X.env) fp) elt' (SE X (wpE G noX elt))) ∧
    (∀ x, foldedSetIterable it' X.env x = pure x) := by
  unfold okE at h
  split at h
  · rename_i elt' tg' it' ifs' sc' pos
    simp only [Bool.and_eq_true, decide_eq_true_eq] at h
    obtain ⟨⟨⟨⟨⟨⟨h1, h2⟩, h3⟩, h4⟩, h5⟩, h6⟩, h7⟩ := h
    refine ⟨elt', tg', it', ifs', sc', pos, _, rfl, pi_ok it gd h5 (by
      cases it <;> first | exact True.intro | (cases tg with
        | name i => cases h4
        | tup2 a b => simp only [okTg] at h1; split at h1 <;> first | exact ⟨_, _, _, rfl⟩ | cases h1
        | tup3 a b c => simp only [okTg] at h1; split at h1 <;> first | exact ⟨_, _, _, rfl⟩ | cases h1
        | tup4 a b c d => simp only [okTg] at h1; split at h1 <;> first | exact ⟨_, _, _, rfl⟩ | cases h1)), blkOk_by h3, h2,
      (fun s H C cl fp => blk_tg gd s H sc' C cl fp h1), (fun s H C cl fp => ?_), (fun s H C cl fp => pe_ok elt (gd.blk s H sc' C cl fp) h6), plain_fold (okIt_plain h5) _⟩
    cases c with
    | none =>
      split at h7
      · refine PTs.imp pts_nil fun σ H Q ⟨env, h, er, hr, q⟩ => ?_
        simp only [wpC] at q
        exact q H .refl hr
      · rename_i z; cases z
      · cases h7
    | some c =>
      split at h7
      · rename_i z; cases z
      · rename_i z
        cases z
        refine PTs.imp (pts_one (pt_ok c (gd.blk s H sc' C cl fp) h7)) fun σ H Q ⟨env, h, er, hr, q⟩ => ?_
        simp only [wpC] at q
        exact ⟨env, h, er, hr, q⟩
      · cases h7
  · cases h
theorem s_setLc {m : Bool} {elt : E} {tg : Tg} {it : It} {c : Eo} {n : Nat} {y : Str} {py : Pos} (gd : GoodS X k G fs Ex) (h : okE X.N fs X.env.scope (.comp m elt tg it c) e' = true) (hn : X.N[n]? = some y) (hy : X.env.scope.names.lookup y = some .local)
    (hsw : swapsWith e' (some (.Name y py)) pos.line X.env = pure true) : PSm X G Ex (.asg (.name n) (.comp m elt tg it c)) (.Assign [.Name y py] e' pos) := by
  obtain ⟨elt', tg', it', ifs', sc', pos', own, rfl, hi, ok, hown, hg, ht, he, hs⟩ := comp_parts gd.toGood h
  refine PS.imp (ps_laid (ps_setLc gd.calm gd.nd hn hy hsw hi ok hg (fun s H C cl fp => pts_lk (ht s H C cl fp)) (fun s H C cl fp => pe_lk (he s H C cl fp)) hs)) fun D σ H ⟨env, h, er, hr, q⟩ => ?_
  have main := comp_imp (X := X) (m := m) (Ex := Ex) (elt := elt) (it := it) (c := c) gd.mono hown rfl rfl rfl rfl σ H (fun x H1 => D.nx (σ.set n (some x)) H1)
  refine main ⟨env, h, er, hr, ?_⟩
  simp only [wpS] at q
  refine wpE_mono gd.mono (fun x h1 q V H1 p1 r1 hr1 => ?_) q
  simp only [tgW] at q
  exact q _ H1 p1 ((er.keep p1).set n r1) hr1
theorem okE_comp {N fs : List Str} {sc : Scope} {e : E} {e' : PySem.Expr} (h : okE N fs sc e e' = true) : noComp e' = true ∨ ((∃ m elt tg it c, e = .comp m elt tg it c) ∧ ∃ elt gs sc pos, e' = .ListComp elt gs sc pos) := by
  cases e <;> unfold okE at h <;> (repeat' split at h) <;> first | exact .inl rfl | exact .inr ⟨⟨_, _, _, _, _, rfl⟩, _, _, _, _, rfl⟩ | cases h
theorem s_asg {st : Stmt} (gd : GoodS X k G fs Ex) (h : okS X.N fs X.env.scope (.asg t e) st = true) : PSm X G Ex (.asg t e) st := by
  simp only [okS] at h
  split at h
  · rename_i t' e' pos
    simp only [Bool.and_eq_true] at h
    obtain ⟨⟨h1, h2⟩, h3⟩ := h
    have he := pe_ok e gd.toGood h2
    have hg := gd.tg h1
    have ns := okTg_star h1
    cases t with
    | name n =>
      simp only [okTg] at h1
      split at h1
      · rename_i y py
        have hst := st_none (env := X.env) h3 (.inr (.inl ⟨_, _, rfl⟩))
        rcases okE_comp h2 with hc | ⟨⟨m, elt, tg, it, c, rfl⟩, elt', gs', sc', p', rfl⟩
        · exact s_asgP gd.mono he hg (sw_plain hc (some (.Name y py)) pos.line X.env) hst ns
        · have sw := sw_comp (elt := elt') (gs := gs') (scope := sc') (pos := p') (py := py) (y := y) (l := pos.line) gd.fnk
          obtain ⟨l1, l2⟩ := locB_loc h1
          cases hb : (X.env.scope.names.lookup y == some NameKind.local) && py.line == p'.line && !(sc'.names.any fun (n, k) => n == y && (k == .local || k == .cell)) with
          | true =>
            rw [hb] at sw
            simp only [Bool.and_eq_true, beq_iff_eq] at hb
            exact s_setLc gd h2 l1 hb.1.1 sw
          | false =>
            rw [hb] at sw
            exact s_asgP gd.mono he hg sw hst ns
      · cases h1
    | tup2 a b =>
      simp only [okTg] at h1
      split at h1
      · exact s_asgP gd.mono he hg sws_tup (st_none h3 (.inl ⟨_, _, _, rfl⟩)) ns
      · cases h1
    | tup3 a b c =>
      simp only [okTg] at h1
      split at h1
      · exact s_asgP gd.mono he hg sws_tup (st_none h3 (.inl ⟨_, _, _, rfl⟩)) ns
      · cases h1
    | tup4 a b c d =>
      simp only [okTg] at h1
      split at h1
      · exact s_asgP gd.mono he hg sws_tup (st_none h3 (.inl ⟨_, _, _, rfl⟩)) ns
      · cases h1
  · cases h
theorem s_par {i j : Nat} {x y : Str} {px py pt : Pos} {kt k2 : Nat} (gd : GoodS X k G fs Ex) (hi : X.N[i]? = some x) (hj : X.N[j]? = some y) (ne : i ≠ j) (hb : parB X.env.scope x y px py a' b' = true) (ha : PEm X G Ex a a') (hbb : PEm X G Ex b b') :
    PSm X G Ex (.par i j a b) (.Assign [.Tuple [.Name x px, .Name y py] kt pt] (.Tuple [a', b'] k2 p2) pos) := by
  have hb0 := hb
  unfold parB at hb
  simp only [Bool.and_eq_true, beq_iff_eq] at hb
  obtain ⟨⟨⟨⟨⟨⟨⟨h1, h2⟩, h3⟩, h4⟩, h5⟩, h6⟩, h7⟩, h8⟩ := hb
  refine PS.imp (ps_par gd.calm gd.nd hi hj ne h1 h2 (pa_cons ha (pa_cons hbb pa_nil (star_cons h6 _ _)) (star_cons h5 _ _)) (par_some gd.fnk hb0) rfl) fun D σ H ⟨env, h, er, hr, q⟩ => ?_
  simp only [wpS] at q
  refine se_mk gd.mono er hr q fun x h1 V H1 q p1 r1 hr1 => se_mk gd.mono (er.keep p1) hr1 q fun y h2 W H2 q p2 r2 hr2 => ?_
  exact ⟨V, W, rfl, q _ H2 (p1.trans p2) (((er.keep (p1.trans p2)).set i (r1.keep p2)).set j r2) hr2⟩
theorem plain_sub {o i : PySem.Expr} {env : PySem.Env} (h : plainX i = true) (v : Value) : assign (.Subscript o i pos) env v = (do
    let ov ← holding [v] (eval o env)
    let iv ← holding [v, ov] (eval i env)
    standAt pos
    holding [v, ov, iv] (setItem ov iv v)
    release [v, ov, iv] []) := by cases i <;> first | rfl | cases h
theorem s_sub (gd : GoodS X k G fs Ex) (ho : PEm X G Ex o o') (hi : PEm X G Ex i i') (hv : PEm X G Ex v v') (pl : plainX i' = true) (hst : stB X.env.scope (.Subscript o' i' p2) v' = true) : PSm X G Ex (.sub o i v) (.Assign [.Subscript o' i' p2] v' pos) :=
  PS.imp (ps_asg hv (pg_sub ho hi (set_W (by have := room_units gd.room; omega)) (plain_sub pl)) sws_sub (st_none hst (.inr (.inr ⟨_, _, _, rfl⟩))) rfl) fun D σ H ⟨env, h, er, hr, q⟩ => by
    simp only [wpS] at q
    refine se_mk gd.mono er hr q fun z h1 Z H1 q p1 r1 hr1 => se_mk gd.mono (er.keep p1) hr1 q fun x h2 V H2 q p2 r2 hr2 => se_mk gd.mono ((er.keep p1).keep p2) hr2 q fun y h3 W H3 q p3 r3 hr3 => ?_
    exact ⟨x, y, z, h3, r2.keep p3, r3, r1.keep (p2.trans p3), hr3, subW_mono (fun h4 q H4 p4 hr4 => q σ H4 (((p1.trans p2).trans p3).trans p4) ((((er.keep p1).keep p2).keep p3).keep p4) hr4) q⟩
theorem s_subd (gd : GoodS X k G fs Ex) (ho : PEm X G Ex o o') (hi : PEm X G Ex i i') (hv : PEm X G Ex v v') (pl : plainX i' = true) (hst : stB X.env.scope (.Subscript o' i' p2) v' = true) : PSm X G Ex (.subd o i v) (.Assign [.Subscript o' i' p2] v' pos) :=
  PS.imp (ps_asg hv (pg_sub ho hi (set_Wd (by have := room_units gd.room; omega)) (plain_sub pl)) sws_sub (st_none hst (.inr (.inr ⟨_, _, _, rfl⟩))) rfl) fun D σ H ⟨env, h, er, hr, q⟩ => by
    simp only [wpS] at q
    refine se_mk gd.mono er hr q fun z h1 Z H1 q p1 r1 hr1 => se_mk gd.mono (er.keep p1) hr1 q fun x h2 V H2 q p2 r2 hr2 => se_mk gd.mono ((er.keep p1).keep p2) hr2 q fun y h3 W H3 q p3 r3 hr3 => ?_
    exact ⟨x, y, z, h3, r2.keep p3, r3, r1.keep (p2.trans p3), hr3, subdW_mono (fun h4 q H4 p4 hr4 => q σ H4 (((p1.trans p2).trans p3).trans p4) ((((er.keep p1).keep p2).keep p3).keep p4) hr4) q⟩
theorem sw_attr {e a : PySem.Expr} {b : Str} {c : Pos} {l : Nat} {env : PySem.Env} : swapsWith e (some (.Attribute a b c)) l env = pure false := by cases e <;> rfl
theorem s_seta {f : Str} (gd : GoodS X k G fs Ex) (ho : PEm X G Ex o o') (hv : PEm X G Ex v v') : PSm X G Ex (.seta o f v) (.Assign [.Attribute o' f p2] v' pos) := PS.imp (ps_fld ho hv sw_attr) fun D σ H ⟨env, h, er, hr, q⟩ => by
  simp only [wpS] at q
  refine se_mk gd.mono er hr q fun y h1 Y H1 q p1 r1 hr1 => se_mk gd.mono (er.keep p1) hr1 q fun x h2 V H2 ⟨a, C, fl, e1, e2, e3, e4, q⟩ p2 r2 hr2 => ?_
  subst e1
  obtain rfl := r2.loc_inv
  obtain ⟨Ca, dx, fv, i1, i2, i3, i4⟩ := ins_at hr2 e2
  have l : fv.length < 1000 := by
    have := congrArg List.length i3
    simp only [List.length_map] at this
    omega
  have r1' := r1.keep p2
  have ⟨k1, k2⟩ := HRep.wr (c' := .ins C (putFP f y fl)) (o' := .ins Ca dx (putF f Y fv)) hr2 e2 fun H' p => by
    obtain ⟨j1, j2⟩ := put_fv (f := f) (r1'.keep p) i3 (i4.keep p)
    exact .ins i2 j1 j2
  exact ⟨a, Ca, dx, fv, rfl, i1, i2.cls, i2.fld f e3, l, q σ _ ((p1.trans p2).trans k2) (((er.keep p1).keep p2).keep k2) k1⟩
theorem s_ex (gd : GoodS X k G fs Ex) (he : PEm X G Ex e e') (hc : noComp e' = true) : PSm X G Ex (.ex e) (.Expr e' pos) := PS.imp (ps_expr he (sw_plain hc _ _ _)) fun D σ H ⟨env, h, er, hr, q⟩ => by
  simp only [wpS] at q
  exact se_mk gd.mono er hr q fun x h1 V H1 q p1 r1 hr1 => q σ H1 p1 (er.keep p1) hr1
theorem s_ret (gd : GoodS X k G fs Ex) (he : PEm X G Ex e e') : PSm X G Ex (.ret e) (.Return (some e') pos) := PS.imp (ps_ret he) fun D σ H ⟨env, h, er, hr, q⟩ => by
  simp only [wpS] at q
  exact se_mk gd.mono er hr q fun x h1 V H1 q p1 r1 hr1 => q V H1 p1 r1 hr1
theorem s_pass : PSm X G Ex .pass (.Pass pos) := PS.imp ps_pass fun D σ H ⟨env, h, er, hr, q⟩ => by
  simp only [wpS] at q
  exact q σ H .refl er hr
theorem ss_mk {D : Ends} {σ : L2.St} {H : Hp} {env : Env} {h : MH} {b : Ss} {D0 : En} (hG : GMono G) (er : EnvRep X.K H σ env) (hr : HRep X.K h H) (q : wpSs G Ex b env h D0) (le : EnLe D0 (upD X.K H D)) : SS X (wpSs G Ex b) D σ H := ⟨env, h, er, hr, wpSs_mono hG le q⟩
theorem s_ife {a b : Ss} {a' b' : List Stmt} (gd : GoodS X k G fs Ex) (hc : PTm X G Ex c c') (ha : PSsm X G Ex a a') (hb : PSsm X G Ex b b') : PSm X G Ex (.ife c a b) (.If c' a' b' pos) := PS.imp (ps_if hc ha hb) fun D σ H ⟨env, h, er, hr, q⟩ => by
  simp only [wpS] at q
  refine st_mk gd.mono er hr q fun kk h1 H1 q p1 hr1 => ?_
  cases kk with
  | true => exact ss_mk gd.mono (er.keep p1) hr1 q (upD.tr p1)
  | false => exact ss_mk gd.mono (er.keep p1) hr1 q (upD.tr p1)
theorem s_nil : PSsm X G Ex .nil [] := PSs.imp pss_nil fun D σ H ⟨env, h, er, hr, q⟩ => by
  simp only [wpSs] at q
  exact q σ H .refl er hr
theorem s_cons {s : S} {r : Ss} {s' : Stmt} {r' : List Stmt} (gd : GoodS X k G fs Ex) (hs : PSm X G Ex s s') (hr' : PSsm X G Ex r r') : PSsm X G Ex (.cons s r) (s' :: r') := PSs.imp (pss_cons hs hr') fun D σ H ⟨env, h, er, hr, q⟩ => by
  simp only [wpSs] at q
  have le : EnLe { upD X.K H D with nx := fun env' h' => wpSs G Ex r env' h' (upD X.K H D) } (upD X.K H { D with nx := fun σ H => SS X (wpSs G Ex r) D σ H }) :=
    ⟨fun env1 h1 q σ1 H1 p1 er1 hr1 => ss_mk gd.mono er1 hr1 q (upD.tr p1), fun _ _ q => q, fun _ _ q => q, fun _ _ q => q⟩
  exact ⟨env, h, er, hr, wpS_mono gd.mono le q⟩
theorem s_raise {c m : Str} {j : Nat} {p p2 p3 : Pos} (gd : GoodS X k G fs Ex) (hc : c ∈ fs) (hx : isExc c = true) (hg : glB X.env.scope c = true) : PSm X G Ex (.raise c) (.Raise (some (.Call (.Name c p) [.Constant (.str m) j p2] [] p3)) none pos) := by
  obtain ⟨C, hm, hi, hk, hs, ht⟩ := (gd.exc c hc hx).ex
  obtain ⟨g1, g2, g3⟩ := glB_gl rfl hg
  refine PS.imp (ps_raise gd.calm gd.tk (pmk_own PySem.F.excBase_ValueError hi hm hk (raises_own hs ht) g1 g2)) fun D σ H ⟨env, h, er, hr, q⟩ => ?_
  simp only [wpS] at q
  exact ⟨⟨c, none⟩, env, h, ⟨hm, rfl⟩, er, hr, q⟩
theorem s_for {it : It} {body : Ss} {body' : List Stmt} (gd : GoodS X k G fs Ex) (hi : PI X tg' it' (SI X (wpIt G Ex it))) (hg : PG X tg' (SG X t)) (hb : PSsm X G Ex body body') (hf : ∀ x, foldedSetIterable it' X.env x = pure x) :
    PSm X G Ex (.for t it body) (.For tg' it' body' [] pos) := PS.imp (ps_for gd.pass gd.calm hi hg hb hf) fun D σ H ⟨env, h, er, hr, q⟩ => by
  simp only [wpS] at q
  refine ⟨env, h, er, hr, wpIt_mono gd.mono (fun S h1 q J H1 p1 hr1 wk len => ?_) q⟩
  generalize hturn : (fun (x : PV) (env' : Env) (h2 : MH) (D' : En) => tgW t x env' fun env2 => wpSs G Ex body env2 h2 D') = turn at q
  let W : Nat → Nat → L2.St → Hp → Prop := fun i n σ' H' => ∃ env' h', EnvRep X.K H' σ' env' ∧ HRep X.K h' H' ∧ Pres H1 H' ∧ i ≤ S.xs.length ∧ n = S.xs.length - i ∧ forW S.stays turn (upD X.K H D) (S.xs.drop i) env' h'
  refine ⟨W, ⟨S.xs.length, env, h1, er.keep p1, hr1, .refl, Nat.zero_le _, rfl, q⟩, ?_⟩
  intro i n σ' H' ⟨env', h', er', hr', pp, li, en, fw⟩
  by_cases hlt : i < S.xs.length
  · right
    rw [List.drop_eq_getElem_cons hlt] at fw
    obtain ⟨st, fw⟩ := fw
    refine ⟨wk.go i H' h' pp hr' st hlt, fun σ2 H2 => W (i + 1) (S.xs.length - (i + 1)) σ2 H2, fun σ2 H2 w => ⟨_, by omega, w⟩, fun xv H2 y => ?_⟩
    obtain ⟨v, ev, gr, rv⟩ := wk.yld i H' h' xv H2 pp hr' st hlt y
    rw [List.getElem?_eq_getElem hlt] at ev
    cases ev
    have p2 : Pres H1 H2 := pp.trans gr.pres
    subst hturn
    refine ⟨_, env', h', er'.keep gr.pres, gr.hrep hr', rv, tgW_mono (fun env2 qt σ2 er2 _ _ => ?_) fw⟩
    refine ss_mk gd.mono er2 (gr.hrep hr') qt ⟨fun env3 h3 q σ3 H3 p3 er3 hr3 => ?_, fun _ _ => up.tr (p1.trans p2), fun _ _ => upN.tr (p1.trans p2), fun env3 h3 q σ3 H3 p3 er3 hr3 => ?_⟩
    · exact ⟨env3, h3, er3, hr3, p2.trans p3, hlt, rfl, q⟩
    · exact ⟨env3, h3, er3, hr3, p2.trans p3, hlt, rfl, q⟩
  · left
    have e : i = S.xs.length := by omega
    subst e
    rw [List.drop_length] at fw
    obtain ⟨st, fw⟩ := fw
    exact ⟨wk.stop _ H' h' pp hr' st (Nat.le_refl _), fw σ' H' (p1.trans pp) er' hr'⟩
theorem s_while {body : Ss} {body' : List Stmt} (gd : GoodS X k G fs Ex) (hc : PTm X G Ex c c') (hb : PSsm X G Ex body body') : PSm X G Ex (.while c body) (.While c' body' [] pos) := PS.imp (ps_while gd.pass hc hb) fun D σ H ⟨env, h, er, hr, q⟩ => by
  simp only [wpS] at q
  obtain ⟨n, q⟩ := q
  refine ⟨fun m σ' H' => ∃ env' h', EnvRep X.K H' σ' env' ∧ HRep X.K h' H' ∧ Pres H H' ∧ whileW (fun env' h' Q => wpT G Ex c env' h' Q) (fun env' h' D' => wpSs G Ex body env' h' D') (upD X.K H D) m env' h', ⟨n, env, h, er, hr, .refl, q⟩, ?_⟩
  intro m σ' H' ⟨env', h', er', hr', pp, w⟩
  cases m with
  | zero => exact w.elim
  | succ m =>
    refine st_mk gd.mono er' hr' w fun kk h1 H1 q p1 hr1 => ?_
    cases kk with
    | true =>
      refine ⟨fun σ2 H2 => ∃ env' h', EnvRep X.K H2 σ2 env' ∧ HRep X.K h' H2 ∧ Pres H H2 ∧ whileW (fun env' h' Q => wpT G Ex c env' h' Q) (fun env' h' D' => wpSs G Ex body env' h' D') (upD X.K H D) m env' h', fun σ2 H2 w => ⟨m, Nat.lt_succ_self m, w⟩, ?_⟩
      have p2 : Pres H H1 := pp.trans p1
      refine ss_mk gd.mono (er'.keep p1) hr1 q ⟨fun env3 h3 q σ3 H3 p3 er3 hr3 => ?_, fun _ _ => up.tr p2, fun _ _ => upN.tr p2, fun env3 h3 q σ3 H3 p3 er3 hr3 => ?_⟩
      · exact ⟨env3, h3, er3, hr3, p2.trans p3, q⟩
      · exact ⟨env3, h3, er3, hr3, p2.trans p3, q⟩
    | false => exact q σ' H1 (pp.trans p1) (er'.keep p1) hr1
end
mutual
theorem ps_ok : ∀ (s : S) {X : Cx} {k : Nat} {G : Calls} {fs : List Str} {Ex : XP} {s' : Stmt}, GoodS X k G fs Ex → okS X.N fs X.env.scope s s' = true → PSm X G Ex s s'
  | .asg t e, X, k, G, fs, Ex, s', gd, h => s_asg gd h
  | .par i j a b, X, k, G, fs, Ex, s', gd, h => by
    simp only [okS] at h
    split at h
    · simp only [Bool.and_eq_true, decide_eq_true_eq] at h
      obtain ⟨⟨⟨⟨⟨h1, h2⟩, h3⟩, h4⟩, h5⟩, h6⟩ := h
      exact s_par gd h1 h2 h3 h4 (pe_ok a gd.toGood h5) (pe_ok b gd.toGood h6)
    · cases h
  | .sub o i v, X, k, G, fs, Ex, s', gd, h => by
    simp only [okS] at h
    split at h
    · simp only [Bool.and_eq_true] at h
      obtain ⟨⟨h1, h2⟩, h3⟩ := h
      exact s_sub gd (pe_ok o gd.toGood h1) (pe_ok i gd.toGood h2) (pe_ok v gd.toGood h3) (okE_plain h2) rfl
    · cases h
  | .subd o i v, X, k, G, fs, Ex, s', gd, h => by
    simp only [okS] at h
    split at h
    · simp only [Bool.and_eq_true] at h
      obtain ⟨⟨h1, h2⟩, h3⟩ := h
      exact s_subd gd (pe_ok o gd.toGood h1) (pe_ok i gd.toGood h2) (pe_ok v gd.toGood h3) (okE_plain h2) rfl
    · cases h
  | .ex e, X, k, G, fs, Ex, s', gd, h => by
    simp only [okS] at h
    split at h
    · simp only [Bool.and_eq_true] at h
      exact s_ex gd (pe_ok e gd.toGood h.1) h.2
    · cases h
  | .ret e, X, k, G, fs, Ex, s', gd, h => by
    simp only [okS] at h
    split at h
    · exact s_ret gd (pe_ok e gd.toGood h)
    · cases h
  | .pass, X, k, G, fs, Ex, s', gd, h => by
    simp only [okS] at h
    split at h
    · exact s_pass
    · cases h
  | .ife c a b, X, k, G, fs, Ex, s', gd, h => by
    simp only [okS] at h
    split at h
    · simp only [Bool.and_eq_true] at h
      exact s_ife gd (pt_ok c gd.toGood h.1.1) (pss_ok a gd h.1.2) (pss_ok b gd h.2)
    · cases h
  | .for t it body, X, k, G, fs, Ex, s', gd, h => by
    simp only [okS] at h
    split at h
    · simp only [Bool.and_eq_true] at h
      obtain ⟨⟨⟨h1, h2⟩, h3⟩, h4⟩ := h
      refine s_for gd (pi_ok it gd.toGood h3 (by
        cases it <;> first | exact True.intro | (cases t with
          | name i => cases h2
          | tup2 a b => simp only [okTg] at h1; split at h1 <;> first | exact ⟨_, _, _, rfl⟩ | cases h1
          | tup3 a b c => simp only [okTg] at h1; split at h1 <;> first | exact ⟨_, _, _, rfl⟩ | cases h1
          | tup4 a b c d => simp only [okTg] at h1; split at h1 <;> first | exact ⟨_, _, _, rfl⟩ | cases h1))) (gd.tg h1) (pss_ok body gd h4) (plain_fold (okIt_plain h3) _)
    · cases h
  | .while c body, X, k, G, fs, Ex, s', gd, h => by
    simp only [okS] at h
    split at h
    · simp only [Bool.and_eq_true] at h
      exact s_while gd (pt_ok c gd.toGood h.1) (pss_ok body gd h.2)
    · cases h
  | .seta o f v, X, k, G, fs, Ex, s', gd, h => by
    simp only [okS] at h
    split at h
    · simp only [Bool.and_eq_true, decide_eq_true_eq] at h
      obtain ⟨⟨⟨rfl, h1⟩, h2⟩, h3⟩ := h
      exact s_seta gd (pe_ok o gd.toGood h2) (pe_ok v gd.toGood h3)
    · cases h
  | .raise c, X, k, G, fs, Ex, s', gd, h => by
    simp only [okS] at h
    split at h
    · simp only [Bool.and_eq_true, decide_eq_true_eq] at h
      obtain ⟨⟨rfl, h1⟩, h2, h3⟩ := h
      exact s_raise gd (by simpa using h2) h3 h1
    · cases h
  | .tryR, X, k, G, fs, Ex, s', gd, h => by simp only [okS] at h; cases h
theorem pss_ok : ∀ (s : Ss) {X : Cx} {k : Nat} {G : Calls} {fs : List Str} {Ex : XP} {s' : List Stmt}, GoodS X k G fs Ex → okSs X.N fs X.env.scope s s' = true → PSsm X G Ex s s'
  | .nil, X, k, G, fs, Ex, s', gd, h => by
    simp only [okSs] at h
    split at h
    · exact s_nil
    · cases h
  | .cons s r, X, k, G, fs, Ex, s', gd, h => by
    simp only [okSs] at h
    split at h
    · simp only [Bool.and_eq_true] at h
      exact s_cons gd (ps_ok s gd h.1) (pss_ok r gd h.2)
    · cases h
end
end MP
set_option Elab.async false
set_option linter.all false
set_option maxRecDepth 100000
set_option maxHeartbeats 2000000
namespace MP
open PySem PySem.Spec PyProof.Rows L2
def isq1 (sc : Scope) (n c : Str) : PySem.Expr → Bool
  | .Call (.Name x _) [.Name y _, .Name z _] [] _ => decide (x = ("isinstance" : Str)) && decide (y = n) && decide (z = c) && glB sc x && glB sc z
  | _ => false
def namesB (sc : Scope) : List Str → List PySem.Expr → Bool
  | [], [] => true
  | c :: cs, .Name z _ :: es => decide (z = c) && glB sc z && namesB sc cs es
  | _, _ => false
def isqT (sc : Scope) (n : Str) (cs : List Str) : PySem.Expr → Bool
  | .Call (.Name x _) [.Name y _, .Tuple es _ _] [] _ => decide (x = ("isinstance" : Str)) && decide (y = n) && glB sc x && namesB sc cs es
  | _ => false
def rc1 : List Str := ["NoBack", "NoCell", "NoName", "NoPivot", "NoPlace", "NoRow", "NoText"]
def rc2 : List Str := ["NotEven", "NotFree", "Taken", "TooMany"]
def marksE : Es := .cons (.bl true) (.cons (.bl true) (.cons (.bl false) (.cons (.bl false) .nil)))
def okSuite (N : List Str) (sc : Scope) (n : Str) : List Stmt → Bool
  | [.Assign [.Name m1 p1] (.List [i1, i2] q1) _, .Expr (.Call (.Attribute (.Name m2 _) at2 ap2) [j1] [] cp2) _, .Expr (.Call (.Attribute (.Name m3 _) at3 ap3) [j2] [] cp3) _] =>
    (locB N sc 3 m1 && visB N sc 3 m2 && visB N sc 3 m3) && (decide (at2 = ("append" : Str)) && decide (at3 = ("append" : Str)) && (ap2.endLine == cp2.line) && (ap3.endLine == cp3.line)) &&
      (isq1 sc n "NoWorth" i1 && isq1 sc n "ValueError" i2 && isqT sc n rc1 j1 && isqT sc n rc2 j2)
  | _ => false
def okRef (N fs : List Str) (sc : Scope) : List Stmt → Bool
  | [s1, .Try [b1] [.ExceptHandler (some (.Name x _)) (some n) suite _] [] [] _, s3] =>
    okS N fs sc (.asg (.name 3) (.lst true .nil)) s1 && okS N fs sc (.ex (.callv 0 (.cons (.var 1) (.cons (.var 2) .nil)))) b1 && okS N fs sc (.ret (.cmp .Eq (.var 3) (.lst false marksE))) s3 &&
      (decide (x = ("FillError" : Str)) && glB sc x && decide (N[4]? = some n) && (sc.names.lookup n == some .local) && visB N sc 4 n && okSuite N sc n suite)
  | _ => false
structure RefK (K : KF) (mg : Str → Option Value) (C : Addr) : Prop where
  c : mg "NoWorth" = some (.ref C)
  exc : ExcC K C
  fe : ∃ F : Addr, mg "FillError" = some (.ref F) ∧ PySem.W.exmOne K (.ref C) (.ref F) = some true
  me : PySem.W.kitOne K (.ref C) (.ref C) = some true
  ve : mg "ValueError" = none ∧ PySem.W.kitOne K (.ref C) (.type "ValueError") = some true
  no : ∀ x ∈ rc1 ++ rc2, ∃ A : Addr, mg x = some (.ref A) ∧ PySem.W.kitOne K (.ref C) (.ref A) = some false
def rIsT (K : KF) (D a : Addr) : List V → Hp → VK → Prop := fun xs H Q => ∃ (b : Addr) (cs : List V) (cv : List Value) (r : Bool), xs = [.ref a, .ref b] ∧ H b = some (.tup cs) ∧ (∀ us, Vals cs us → us = cv) ∧ PySem.W.kitAny K (.ref D) cv = some r ∧ Q (.bl r) H
theorem call_isT {X : Cx} {a D : Addr} {oe : Obj} {pn : List (Addr × Obj)} (C : ExcC X.K D) (hz : Zc (.ref D) none oe) (hf : ∃ vs, oe.data = .fields vs) : CallR (X.suite a ((a, oe) :: pn)) (.builtin "isinstance") (rIsT X.K D a) := by
  intro pins s σ H xs us Q I r h
  obtain ⟨b, cs, cv, r', rfl, hb, hcv, e, q⟩ := h
  obtain ⟨u1, u2, rfl, rx, rt⟩ := vals2 r
  cases (show u1 = Value.ref a from rx)
  cases (show u2 = Value.ref b from rt)
  obtain ⟨its, rv, ⟨o, ho, hc, n, hd⟩, _⟩ := I.tuple (.inl (.inl hb))
  have ei := hcv _ rv
  subst ei
  obtain ⟨oc, od, oda, osl⟩ := o
  dsimp only at hc hd
  subst hc hd
  obtain ⟨hget, _⟩ := I.pin (a, oe) (List.mem_append.mpr (.inl List.mem_cons_self))
  obtain ⟨vs, hv⟩ := hf
  have J : PySem.W.InstAt s.heap a oe D none := by
    obtain ⟨oc, od, oda, osl⟩ := oe
    obtain ⟨h1, h2⟩ := hz
    dsimp only at h1 h2 hv
    subst h1 h2 hv
    exact ⟨hget, rfl, rfl, trivial⟩
  exact PySem.W.kia_tup (PySem.W.handS_kitx_exc C.hg C.hk C.hs C.hd C.ha C.hn C.ht C.hm) I.kIn J ho e (fun z => nomatch z) fun tk => ⟨.bl r', H, I.kept (t' := tk) fun _ _ z => z, rfl, q⟩
section
variable {X : Cx} {a C : Addr} {oe : Obj} {pn : List (Addr × Obj)} {G : Calls} {fs : List Str} {Ex : XP} {k : Nat} {n c : Str} {i' : PySem.Expr}
def wIs (a : Addr) (b : Bool) : Env → MH → Post → Prop := fun env h Q => env[4]? = some (some (.loc a)) ∧ Q (.bl b) h
theorem x_var {y : Str} {p : Pos} (hv : visB X.N X.env.scope 4 y = true) : PE (X.suite a pn) (.Name y p) (tVar 4) := by
  unfold visB at hv
  simp only [Bool.and_eq_true, decide_eq_true_eq] at hv
  obtain ⟨⟨⟨h1, h2⟩, h3⟩, h4⟩ := hv
  have hv : Vis X.env.scope y := by
    unfold Vis
    split at h2
    · exact .inl (by assumption)
    · exact .inr (.inl (by assumption))
    · exact .inr (.inr (by assumption))
    · cases h2
  exact pe_var (X := X.suite a pn) h1 hv (by simpa using h3) (by simpa using h4)
theorem x_is1 {v : V} {cv : Value} {b : Bool} (hb : ∀ x ∈ bltNames, X.mg x = none) (R : RefK X.K X.mg C) (hz : Zc (.ref C) none oe) (hf : ∃ vs, oe.data = .fields vs) (hv : visB X.N X.env.scope 4 n = true) (ok : isq1 X.env.scope n c i' = true)
    (hc : ∀ p, glB X.env.scope c = true → PE (X.suite a ((a, oe) :: pn)) (.Name c p) (tC v)) (hr : ∀ u, RelV v u → u = cv) (hk : PySem.W.kitOne X.K (.ref C) cv = some b) : PE (X.suite a ((a, oe) :: pn)) i' (SE X (wIs a b)) := by
  unfold isq1 at ok
  split at ok
  · rename_i x p1 y p2 z p3 pos
    simp only [Bool.and_eq_true, decide_eq_true_eq] at ok
    obtain ⟨⟨⟨⟨rfl, rfl⟩, rfl⟩, g⟩, g2⟩ := ok
    obtain ⟨g1, _, _⟩ := glB_gl (env := X.env) rfl g
    have pa : PA (X.suite a ((a, oe) :: pn)) [.Name y p2, .Name z p3] (tCons (tVar 4) (tCons (tC v) tNil)) := pa_cons (x_var hv) (pa_cons (hc p3 g2) pa_nil rfl) rfl
    refine PE.imp (pe_callB (call_isE R.exc hz hf) g1 (hb _ (by decide)) boot_isinstance pa (by decide) (by decide) rfl rfl) fun σ H Q ⟨env, h, er, hr', e4, q⟩ => ?_
    obtain ⟨V, e5, r5⟩ := er.2 4 _ e4
    obtain rfl := r5.loc_inv
    exact ⟨_, e5, v, cv, b, rfl, hr, hk, q _ H .refl (.bl b) hr'⟩
  · cases ok
theorem kit_none : ∀ {cs : List Value}, (∀ c ∈ cs, PySem.W.kitOne X.K (.ref C) c = some false) → PySem.W.kitAny X.K (.ref C) cs = some false
  | [], _ => rfl
  | c :: r, h => by
    unfold PySem.W.kitAny
    rw [h c (List.mem_cons_self ..)]
    exact kit_none fun d hd => h d (List.mem_cons_of_mem _ hd)
theorem x_names {cs : List Str} (hc : ∀ x ∈ cs, ∃ A : Addr, X.mg x = some (.ref A) ∧ PySem.W.kitOne X.K (.ref C) (.ref A) = some false) : ∀ {es : List PySem.Expr}, namesB X.env.scope cs es = true →
    ∃ as : List Addr, (∀ A ∈ as, PySem.W.kitOne X.K (.ref C) (.ref A) = some false) ∧ PA (X.suite a pn) es (fun σ H Q => Q (as.map V.ref) H) ∧ as.length = cs.length := by
  induction cs with
  | nil =>
    intro es ok
    cases es with
    | nil => exact ⟨[], (fun _ z => nomatch z), pa_nil, rfl⟩
    | cons e r => simp [namesB] at ok
  | cons c cs ih =>
    intro es ok
    cases es with
    | nil => simp [namesB] at ok
    | cons e r =>
      cases e <;> simp only [namesB] at ok <;> first | (cases ok; done) | skip
      rename_i z p
      simp only [Bool.and_eq_true, decide_eq_true_eq] at ok
      obtain ⟨⟨rfl, g⟩, ok⟩ := ok
      obtain ⟨as, h1, h2, h3⟩ := ih (fun x hx => hc x (List.mem_cons_of_mem _ hx)) ok
      obtain ⟨A, hm, hk⟩ := hc z (List.mem_cons_self ..)
      obtain ⟨g1, g2, _⟩ := glB_gl (env := X.env) rfl g
      refine ⟨A :: as, ?_, pa_cons (pe_glob (X := X.suite a pn) g1 hm (v := .ref A) rfl g2) h2 rfl, by simp [h3]⟩
      intro B hB
      rcases List.mem_cons.mp hB with rfl | hB
      · exact hk
      · exact h1 B hB
theorem vals_refs : ∀ {as : List Addr} {us : List Value}, Vals (as.map V.ref) us → us = as.map Value.ref := refs_at
theorem x_isT {cs : List Str} (hb : ∀ x ∈ bltNames, X.mg x = none) (R : RefK X.K X.mg C) (hz : Zc (.ref C) none oe) (hf : ∃ vs, oe.data = .fields vs) (hv : visB X.N X.env.scope 4 n = true) (ok : isqT X.env.scope n cs i' = true) (hl : cs.length ≤ 100)
    (hc : ∀ x ∈ cs, x ∈ rc1 ++ rc2) : PE (X.suite a ((a, oe) :: pn)) i' (SE X (wIs a false)) := by
  unfold isqT at ok
  split at ok
  · rename_i x p1 y p2 es kk p3 pos
    simp only [Bool.and_eq_true, decide_eq_true_eq] at ok
    obtain ⟨⟨⟨rfl, rfl⟩, g⟩, ok⟩ := ok
    obtain ⟨g1, _, _⟩ := glB_gl (env := X.env) rfl g
    obtain ⟨as, h1, h2, h3⟩ := x_names (a := a) (pn := (a, oe) :: pn) (fun x hx => R.no x (hc x hx)) ok
    have pa : PA (X.suite a ((a, oe) :: pn)) [.Name y p2, .Tuple es kk p3] (tCons (tVar 4) (tCons (tTup fun σ H Q => Q (as.map V.ref) H) tNil)) := pa_cons (x_var hv) (pa_cons (pe_tup h2) pa_nil rfl) rfl
    refine PE.imp (pe_callB (call_isT R.exc hz hf) g1 (hb _ (by decide)) boot_isinstance pa (by decide) (by decide) rfl rfl) fun σ H Q ⟨env, h, er, hr', e4, q⟩ => ?_
    obtain ⟨V, e5, r5⟩ := er.2 4 _ e4
    obtain rfl := r5.loc_inv
    refine ⟨_, e5, by rw [List.length_map, h3, sizeLine_eq]; omega, fun p hp => ⟨p, as.map L2.V.ref, as.map Value.ref, false, rfl, upd_same, fun us r => refs_at r, kit_none fun d hd => ?_, ?_⟩⟩
    · obtain ⟨A, hA, rfl⟩ := List.mem_map.mp hd
      exact h1 A hA
    · exact q _ _ (.new hp) (.bl false) (hr'.newP hp)
  · cases ok
theorem x_asg {m1 : Str} {p1 q1 pos : Pos} {i1 i2 : PySem.Expr} {b1 b2 : Bool} (hG : GMono G) (nd : X.N.Nodup) (cel : ∀ x, X.env.scope.names.lookup x = some .cell → X.fn x = true) (hm : locB X.N X.env.scope 3 m1 = true) (n1 : noStar i1 = true) (n2 : noStar i2 = true) (h1 : PE (X.suite a pn) i1 (SE X (wIs a b1))) (h2 : PE (X.suite a pn) i2 (SE X (wIs a b2))) :
    PS (X.suite a pn) (.Assign [.Name m1 p1] (.List [i1, i2] q1) pos) (fun D σ H => ∃ env h, EnvRep X.K H σ env ∧ HRep X.K h H ∧ env[4]? = some (some (.loc a)) ∧ ∀ p, h p = none → upN X.K H D.nx (env.set 3 (some (.loc p))) (h.put p (.lst [.bl b1, .bl b2]))) := by
  obtain ⟨l1, l2⟩ := locB_loc hm
  have st : swappedStores [.Name m1 p1] (.List [i1, i2] q1) X.env = pure none := st_none (env := X.env) rfl (.inr (.inl ⟨_, _, rfl⟩))
  have lc : X.fn m1 = true ∨ X.env.scope.names.lookup m1 = some .local := by
    rcases l2 with z | z
    · exact .inr z
    · exact .inl (cel _ z)
  refine PS.imp (ps_asg (X := X.suite a pn) (pe_lst (pa_cons h1 (pa_cons h2 pa_nil (star_cons n2 [] X.env)) (star_cons n1 _ X.env))) (pg_name nd l1 l2 lc) (sw_plain (e := .List [i1, i2] q1) rfl (some (.Name m1 p1)) pos.line X.env) st rfl) fun D σ H ⟨env, h, er, hr, e4, q⟩ => ?_
  refine ⟨env, h, er, hr, e4, fun V1 H1 p1 r1 hr1 => ⟨env, h, er.keep p1, hr1, e4, fun V2 H2 p2 r2 hr2 => ⟨by rw [sizeLine_eq]; show 2 ≤ _; omega, fun p hp => ?_⟩⟩⟩
  exact q p (hr2.fresh hp) _ _ ((p1.trans p2).trans (.new hp)) (((er.keep (p1.trans p2)).keep (.new hp)).set 3 (.loc p)) (hr2.new hp (.lst (.cons ((r1.keep p2)) (.cons r2 .nil))))
theorem x_app {m2 : Str} {p1 ap cp pos : Pos} {j1 : PySem.Expr} {b : Bool} (hG : GMono G) (hm : visB X.N X.env.scope 3 m2 = true) (hl : (ap.endLine == cp.line) = true) (n1 : noStar j1 = true) (h1 : PE (X.suite a pn) j1 (SE X (wIs a b))) :
    PS (X.suite a pn) (.Expr (.Call (.Attribute (.Name m2 p1) "append" ap) [j1] [] cp) pos) (fun D σ H => ∃ env h p xs, EnvRep X.K H σ env ∧ HRep X.K h H ∧ env[4]? = some (some (.loc a)) ∧ env[3]? = some (some (.loc p)) ∧ h p = some (.lst xs) ∧ xs.length < 100 ∧
      upN X.K H D.nx env (h.put p (.lst (xs ++ [.bl b])))) := by
  have se : starEach [j1] X.env = (false, eval j1 X.env) :: starEach [] X.env := star_cons n1 [] X.env
  have c1 : (((backTo cp (starEach [j1] X.env)).all (fun x => !x.1)) && (backToKw cp (keywordEach [] X.env)).all (fun x => x.1.isSome) && decide (([j1].length + ([] : List Keyword).length + if ([] : List Keyword).isEmpty = true then 0 else 1) < 30)) = true := by rw [se]; rfl
  have pv : PE (X.suite a pn) (.Name m2 p1) (tVar 3) := by
    unfold visB at hm
    simp only [Bool.and_eq_true, decide_eq_true_eq] at hm
    obtain ⟨⟨⟨h1, h2⟩, h3⟩, h4⟩ := hm
    have hv : Vis X.env.scope m2 := by
      unfold Vis
      split at h2
      · exact .inl (by assumption)
      · exact .inr (.inl (by assumption))
      · exact .inr (.inr (by assumption))
      · cases h2
    exact pe_var (X := X.suite a pn) h1 hv (by simpa using h3) (by simpa using h4)
  refine PS.imp (ps_expr (pe_bm (X := X.suite a pn) PySem.F.plainAttrs_list PySem.F.slot_list_append PySem.F.type_list_append mt_appendW pv (pa_cons h1 pa_nil se) rfl c1 hl se rfl) (sw_plain rfl _ _ _)) fun D σ H ⟨env, h, p, xs, er, hr, e4, e3, hp, lx, q⟩ => ?_
  obtain ⟨V, e5, r5⟩ := er.2 3 _ e3
  obtain rfl := r5.loc_inv
  obtain ⟨vs, hv, rs⟩ := lst_at hr hp
  refine ⟨_, e5, .inl ⟨rfl, vs, .of hv⟩, env, h, er, hr, e4, fun V1 H1 p1 r1 hr1 => ?_⟩
  refine ⟨.loc p, [.bl b], h, .loc p, .cons r1 .nil, hr1, xs, hp, by rw [sizeLine_eq]; omega, fun W H2 p2 _ hr2 => ?_⟩
  exact q σ H2 (p1.trans p2) (er.keep (p1.trans p2)) hr2
theorem pe_plain {i' : PySem.Expr} (h : (∃ c, isq1 X.env.scope n c i' = true) ∨ ∃ cs, isqT X.env.scope n cs i' = true) : noStar i' = true := by
  rcases h with ⟨c, h⟩ | ⟨c, h⟩
  · unfold isq1 at h; split at h <;> first | rfl | cases h
  · unfold isqT at h; split at h <;> first | rfl | cases h
theorem x_suite {st : List Stmt} (hb : ∀ x ∈ bltNames, X.mg x = none) (R : RefK X.K X.mg C) (hG : GMono G) (nd : X.N.Nodup) (cel : ∀ x, X.env.scope.names.lookup x = some .cell → X.fn x = true) (hz : Zc (.ref C) none oe) (hf : ∃ vs, oe.data = .fields vs) (hv : visB X.N X.env.scope 4 n = true) (ok : okSuite X.N X.env.scope n st = true) :
    PSs (X.suite a ((a, oe) :: pn)) st (fun D σ H => ∃ env h, EnvRep X.K H σ env ∧ HRep X.K h H ∧ env[4]? = some (some (.loc a)) ∧ 4 < env.length ∧ ∀ p, h p = none → upN X.K H D.nx (env.set 3 (some (.loc p))) (h.put p (.lst [.bl true, .bl true, .bl false, .bl false]))) := by
  unfold okSuite at ok
  split at ok
  · rename_i m1 p1 i1 i2 q1 ps1 m2 p2 at2 ap2 j1 cp2 ps2 m3 p3 at3 ap3 j2 cp3 ps3
    simp only [Bool.and_eq_true, decide_eq_true_eq] at ok
    obtain ⟨⟨⟨⟨l1, l2⟩, l3⟩, ⟨⟨⟨rfl, rfl⟩, e2⟩, e3⟩⟩, ⟨⟨⟨k1, k2⟩, k3⟩, k4⟩⟩ := ok
    have a1 := x_is1 (a := a) (oe := oe) (pn := pn) (v := .ref C) (cv := .ref C) hb R hz hf hv k1 (fun p g => by obtain ⟨g1, g2, _⟩ := glB_gl (env := X.env) rfl g; exact pe_glob (X := X.suite a ((a, oe) :: pn)) g1 R.c rfl g2) (fun u r => r) R.me
    have a2 := x_is1 (a := a) (oe := oe) (pn := pn) (v := .ty "ValueError") (cv := .type "ValueError") hb R hz hf hv k2 (fun p g => by obtain ⟨g1, g2, g3⟩ := glB_gl (env := X.env) rfl g; exact pe_bltn (X := X.suite a ((a, oe) :: pn)) g1 R.ve.1 (by decide +kernel) rfl g3 g2) (fun u r => r) R.ve.2
    have a3 := x_isT (a := a) (oe := oe) (pn := pn) hb R hz hf hv k3 (by decide) (fun x hx => List.mem_append.mpr (.inl hx))
    have a4 := x_isT (a := a) (oe := oe) (pn := pn) hb R hz hf hv k4 (by decide) (fun x hx => List.mem_append.mpr (.inr hx))
    refine PSs.imp (pss_cons (x_asg hG nd cel l1 (pe_plain (.inl ⟨_, k1⟩)) (pe_plain (.inl ⟨_, k2⟩)) a1 a2) (pss_cons (x_app hG l2 e2 (pe_plain (.inr ⟨_, k3⟩)) a3) (pss_one (x_app hG l3 e3 (pe_plain (.inr ⟨_, k4⟩)) a4)))) fun D σ H ⟨env, h, er, hr, e4, hl, q⟩ => ?_
    refine ⟨env, h, er, hr, e4, fun p hp σ1 H1 p1 er1 hr1 => ?_⟩
    have s4 : (env.set 3 (some (.loc p)))[4]? = some (some (.loc a)) := by rw [List.getElem?_set_ne (by decide)]; exact e4
    have s3 : (env.set 3 (some (.loc p)))[3]? = some (some (.loc p)) := List.getElem?_set_self (by omega)
    refine ⟨_, _, p, _, er1, hr1, s4, s3, if_pos rfl, by decide, fun σ2 H2 p2 er2 hr2 => ?_⟩
    refine ⟨_, _, p, _, er2, hr2, s4, s3, if_pos rfl, by decide, fun σ3 H3 p3 er3 hr3 => ?_⟩
    refine q p hp σ3 H3 ((p1.trans p2).trans p3) er3 ?_
    have e : ((h.put p (.lst [.bl true, .bl true])).put p (.lst ([.bl true, .bl true] ++ [.bl false]))).put p (.lst ([.bl true, .bl true] ++ [.bl false] ++ [.bl false])) = h.put p (.lst [.bl true, .bl true, .bl false, .bl false]) := by
      funext b; unfold MH.put; split <;> rfl
    rw [← e]; exact hr3
  · cases ok
theorem GoodS.tr {pn : List (Addr × Obj)} {xe : Value → Shared → Prop} {Ex' : XP} (gd : GoodS X k G fs Ex) (tk : Takes (X.tr pn xe) (LW X Ex')) (ps : PassesOwn (model X.prog X.w) X.A X.env xe) : GoodS (X.tr pn xe) k G fs Ex' :=
  { calm := gd.calm, nd := gd.nd, tk := tk, room := gd.room, gd := gd.gd, blt := gd.blt, fn := fun f hf hn => ⟨(gd.fn f hf hn).ex⟩, cst := gd.cst, exc := gd.exc, mono := gd.mono, only := gd.only, fnk := gd.fnk, cel := gd.cel, pass := ps }
theorem ref_ret {D0 : En} {p : Addr} {f a b : Option PV} {w : Option PV} {h : MH} {ms : List Bool} (hp : h p = some (.lst (ms.map .bl))) (q : D0.rt (.bl (decide (ms = [true, true, false, false]))) h) :
    wpS G Ex (.ret (.cmp .Eq (.var 3) (.lst false marksE))) [f, a, b, some (.loc p), w] h D0 := by
  simp only [wpS, wpE, wpEs, marksE]
  refine ⟨_, rfl, ?_⟩
  show _ ∧ _
  refine ⟨by rw [sizeLine_eq]; decide, ?_⟩
  show cmpW .Eq (.loc p) (.lst [.bl true, .bl true, .bl false, .bl false]) h (fun k h3 => D0.rt (.bl k) h3)
  unfold cmpW
  show eqW (rd h (.loc p)) (.lst [.bl true, .bl true, .bl false, .bl false]) h (fun k h3 => D0.rt (.bl k) h3)
  have e : rd h (.loc p) = .lst (ms.map .bl) := by simp only [rd, hp]
  rw [e]
  have sh : ∀ l : List Bool, eqOk (.lst (l.map .bl)) := fun l => by
    have pu : purs (l.map PV.bl) = true := by induction l with
      | nil => rfl
      | cons b r ih => simp [purs, pur, ih]
    have c : PyData.canLayAll0 (toDs (l.map PV.bl)) = true ∧ PyData.depthAll (toDs (l.map PV.bl)) = 0 := by
      induction l with
      | nil => exact ⟨rfl, rfl⟩
      | cons n r ih => simp [toDs, toD, PyData.canLayAll0, PyData.canLay0, PyData.depthAll, PyData.depth, ih (by simpa [purs, pur] using pu)]
    refine ⟨pu, ?_⟩
    unfold SeqAt.shaped
    simp only [toD, PyData.canLay0, PyData.depth, c.1, c.2]
    decide
  have ev : ∀ l m : List Bool, PyData.eqvAll (toDs (l.map PV.bl)) (toDs (m.map PV.bl)) = decide (l = m) := fun l => by
    induction l with
    | nil => intro m; cases m <;> rfl
    | cons x r ih =>
      intro m
      cases m with
      | nil => rfl
      | cons y t =>
        simp only [List.map_cons, toDs, toD, PyData.eqvAll, PyData.eqv, ih t]
        rw [Bool.eq_iff_iff]; simp
  refine ⟨⟨sh ms, sh [true, true, false, false]⟩, ?_⟩
  have ee : eqP (.lst (ms.map .bl)) (.lst ([true, true, false, false].map .bl)) = decide (ms = [true, true, false, false]) := by
    simp only [eqP, toD, PyData.eqv]
    exact ev _ _
  show D0.rt (.bl (eqP (.lst (ms.map .bl)) (.lst ([true, true, false, false].map .bl)))) h
  rw [ee]; exact q
theorem ref_run {st : List Stmt} (gd : GoodS X k G fs Ex) (R : RefK X.K X.mg C) (hs : X.stack = X.env :: X.outer) (hf : X.env.frame = some X.env.locals) (ok : okRef X.N fs X.env.scope st = true) :
    PSs X st (fun D σ H => X.H_0 = H ∧ SS X (wpSs G Ex (.cons .tryR .nil)) D σ H) := by
  unfold okRef at ok
  split at ok
  · rename_i s1 b1 x xp n suite hp tp s3
    simp only [Bool.and_eq_true, decide_eq_true_eq, beq_iff_eq] at ok
    obtain ⟨⟨⟨k1, k2⟩, k3⟩, ⟨⟨⟨⟨⟨rfl, gx⟩, hn⟩, hl⟩, hv⟩, ks⟩⟩ := ok
    obtain ⟨b0, rest, rfl⟩ : ∃ b0 rest, suite = b0 :: rest := by
      cases suite with
      | nil => simp [okSuite] at ks
      | cons a b => exact ⟨a, b, rfl⟩
    obtain ⟨F, hF, exm⟩ := R.fe
    obtain ⟨g1, g2, g3⟩ := glB_gl (env := X.env) rfl gx
    let ts : Addr → Value → Option Addr → TS := fun a cls d D σ H => (cls = .ref C ∧ d = none) ∧ (Pres X.H_0 H → ∃ env h, EnvRep X.K H σ env ∧ HRep X.K h H ∧ env[4]? = some (some (.loc a)) ∧ 4 < env.length ∧
      ∀ p, h p = none → upN X.K H D.nx (env.set 3 (some (.loc p))) (h.put p (.lst [.bl true, .bl true, .bl false, .bl false])))
    let tb : WX → TS := fun W D σ H => ∃ Ex' : XP, (∀ cls d σ H, LW X Ex' cls d σ H → W cls d σ H) ∧ SS X (wpSs G Ex' (.cons (.ex (.callv 0 (.cons (.var 1) (.cons (.var 2) .nil)))) .nil)) D σ H
    have S1 := ps_ok (.asg (.name 3) (.lst true .nil)) gd k1
    have S3 := ps_ok (.ret (.cmp .Eq (.var 3) (.lst false marksE))) gd k3
    have S2 := ps_try_as (pos := tp) (pos' := hp) (np := xp) (body := [b1]) (b₀ := b0) (suite := rest) hs hf gd.nd hn hl ⟨g1, g2, .inl hF⟩ gd.tk (tb := tb) (ts := ts)
      (fun W pn xe tk ps => ⟨fun pins s σ H D I ⟨Ex', le, q⟩ => (pss_ok (.cons (.ex (.callv 0 (.cons (.var 1) (.cons (.var 2) .nil)))) .nil) (gd.tr (tk.imp le) ps) (by simp only [okSs, Bool.and_true]; exact k2)).run pins s σ H D I q⟩)
      (fun a oe cls d pn hz hf' => ⟨fun pins s σ H D I ⟨⟨e1, e2⟩, q⟩ => by
        subst e1 e2
        exact (x_suite gd.blt R gd.mono gd.nd gd.cel hz hf' hv ks).run pins s σ H D I (q ⟨I.base.tups, I.base.frzs⟩)⟩)
    refine PSs.imp (pss_cons S1 (pss_cons S2 (pss_one S3))) fun D σ H ⟨h0, env, h, er, hr, q⟩ => ?_
    simp only [wpSs, wpS] at q
    obtain ⟨f, a, b, rfl, q⟩ := q
    refine ⟨_, h, er, hr, ?_⟩
    simp only [wpS, wpE, wpEs]
    show _ ∧ _
    refine ⟨Nat.zero_le _, fun p hp σ1 H1 p1 er1 hr1 => ?_⟩
    refine ⟨fun e env' h' => e.cls = "NoWorth" ∧ e.arg = none ∧ env' = [some (.fn f), some a, some b, some (.loc p), none] ∧ (upD X.K H D).rt (.bl true) h', ?_, [some (.fn f), some a, some b, some (.loc p), none], h.put p (.lst []), er1, hr1, ?_⟩
    · rintro cls d σ' H' ⟨e, env', h', ⟨m, da⟩, er', hr', c1, c2, rfl, q⟩
      rw [c1, R.c] at m
      cases m
      rw [c2] at da
      cases (show d = none from da)
      refine ⟨true, exm, fun _ a' ha => ⟨⟨rfl, rfl⟩, fun p0 => ⟨_, h', er'.set 4 (.loc a'), hr', rfl, Nat.lt_succ_self 4, fun p3 hp3 σ3 H3 p3' er3 hr3 => ?_⟩⟩, fun z => nomatch z⟩
      refine ⟨_, _, er3.setNone 4, hr3, ref_ret (ms := [true, true, false, false]) (if_pos rfl) ?_⟩
      intro V H4 p4 r4 hr4
      refine q V H4 (h0 ▸ (p0.trans (p3'.trans p4))) r4 fun b c e => hr4 b c ?_
      have ne : b ≠ p3 := fun z => by subst z; rw [hp3] at e; cases e
      exact (if_neg ne).trans e
    · simp only [wpSs, wpS, wpE, wpEs]
      refine ⟨f, rfl, a, rfl, b, rfl, gd.mono _ _ _ _ _ _ _ (fun v h' z => ?_) (fun e h2 z => ⟨z.1, z.2.1, trivial, z.2.2⟩) (q p hp)⟩
      obtain ⟨z, q⟩ := z
      intro σ2 H2 p2 er2 hr2
      exact ⟨_, h', er2, hr2, ref_ret (ms := []) z (up.tr (p1.trans p2) q)⟩
  · cases ok
end
end MP
set_option Elab.async false
set_option linter.all false
set_option maxRecDepth 100000
set_option maxHeartbeats 1000000
namespace MP
open PySem PySem.Spec PyProof.Rows L2
mutual
inductive Fzv (h : MH) (S : Addr → Prop) : PV → PV → Prop
  | same (v : PV) : Fzv h S v v
  | tup {xs ys : List PV} : Fzvs h S xs ys → Fzv h S (.tup xs) (.tup ys)
  | lst {xs ys : List PV} : Fzvs h S xs ys → Fzv h S (.lst xs) (.lst ys)
  | dct {ks xs ys : List PV} : Fzvs h S xs ys → Fzv h S (.dct ks xs) (.dct ks ys)
  | frz {a : Addr} {xs ys : List PV} : S a → h a = some (.lst xs) → Fzvs h S xs ys → Fzv h S (.loc a) (.lst ys)
inductive Fzvs (h : MH) (S : Addr → Prop) : List PV → List PV → Prop
  | nil : Fzvs h S [] []
  | cons {x y : PV} {xs ys : List PV} : Fzv h S x y → Fzvs h S xs ys → Fzvs h S (x :: xs) (y :: ys)
end
inductive Fzc (h : MH) (S : Addr → Prop) : Cell → Cell → Prop
  | same (c : Cell) : Fzc h S c c
  | lst {xs ys : List PV} : Fzvs h S xs ys → Fzc h S (.lst xs) (.lst ys)
def FzH (h : MH) (S : Addr → Prop) (h2 : MH) : Prop := ∀ a c, h2 a = some c → ¬ S a ∧ ∃ c', h a = some c' ∧ Fzc h S c' c
def retW (Q : Post) : Post := fun v h => ∃ (S : Addr → Prop) (v2 : PV) (h2 : MH), (∀ a, S a → ∃ xs, h a = some (.lst xs)) ∧ Fzv h S v v2 ∧ FzH h S h2 ∧ Q v2 h2
theorem retW_mono {Q Q' : Post} (w : ∀ v h, Q v h → Q' v h) {v : PV} {h : MH} (q : retW Q v h) : retW Q' v h := by
  obtain ⟨S, v2, h2, a, b, c, d⟩ := q
  exact ⟨S, v2, h2, a, b, c, w _ _ d⟩
def HLe (h2 h : MH) : Prop := ∀ a c, h2 a = some c → h a = some c
def retX (E : XQ) : XQ := fun e h => ∃ h2, HLe h2 h ∧ E e h2
section
variable {K : KF} {H H' : Hp} {h : MH} {S : Addr → Prop}
mutual
theorem Fzv.rep (p : Pres H H') (hr : HRep K h H) (f : FzS S H H') : ∀ {x y : PV} {v : V}, Fzv h S x y → Rep K H v x → Rep K H' v y
  | _, _, _, .same v, r => r.keep p
  | _, _, _, .tup z, r => by
    obtain ⟨a, vs, rfl, sq, rs⟩ := r.tup_invS
    exact .tup (p.tup _ _ sq) (Fzvs.reps p hr f z rs)
  | _, _, _, .lst z, r => by
    obtain ⟨a, vs, rfl, sq, rs⟩ := r.lst_inv
    exact .lst (p.fzL sq) (Fzvs.reps p hr f z rs)
  | _, _, _, .dct z, r => by
    cases r with
    | dctK a b c => exact .dctK (p.frz _ _ _ a) b (Fzvs.reps p hr f z c)
    | dctT a b c => exact .dctT (p.frz _ _ _ a) b (Fzvs.reps p hr f z c)
  | _, _, _, .frz hs e z, r => by
    obtain rfl := r.loc_inv
    obtain ⟨vs, h1, rs⟩ := lst_at hr e
    obtain ⟨u, o, e1, e2⟩ := f.at_ _ hs
    rw [h1] at e1
    cases e1
    exact .lst (.inl ⟨o, e2⟩) (Fzvs.reps p hr f z rs)
theorem Fzvs.reps (p : Pres H H') (hr : HRep K h H) (f : FzS S H H') : ∀ {xs ys : List PV} {vs : List V}, Fzvs h S xs ys → Reps K H vs xs → Reps K H' vs ys
  | _, _, _, .nil, .nil => .nil
  | _, _, _, .cons a b, .cons r t => .cons (Fzv.rep p hr f a r) (Fzvs.reps p hr f b t)
end
theorem up_ret {H0 : Hp} {Q : VK} {v : PV} {V : V} (q : retW (up K H0 Q) v h) (p0 : Pres H0 H) (r : Rep K H V v) (hr : HRep K h H) : Laid Q V H := by
  obtain ⟨S, v2, h2, ok, fv, fh, q⟩ := q
  have ok' : ∀ a, S a → ∃ u, H a = some u ∧ Fz1 u := fun a hs => by
    obtain ⟨xs, e⟩ := ok a hs
    obtain ⟨vs, h1, _⟩ := lst_at hr e
    exact ⟨_, h1, True.intro⟩
  refine ⟨S, ok', fun H' f => ?_⟩
  have p : Pres H H' := f.pres ok'
  refine q V H' (p0.trans p) (fv.rep p hr f r) fun a c e => ?_
  obtain ⟨ns, c', e1, fc⟩ := fh a c e
  obtain ⟨o, h1, cr⟩ := hr a c' e1
  refine ⟨o, (f.out a ns).trans h1, ?_⟩
  cases fc with
  | same => exact cr.keep p
  | lst z =>
    obtain ⟨vs, rfl, rs⟩ := cr.lst_inv
    exact .lst (z.reps p hr f rs)
end
structure Df where
  N : List Str
  n : Nat
  body : Ss
def startE (d : Df) (xs : List PV) : Env := xs.map some ++ List.replicate (d.N.length - xs.length) none
def callW (tab : Str → Option Df) : Nat → Calls
  | 0 => fun _ _ _ _ _ => False
  | k + 1 => fun f xs h Q E => ∃ d E0, tab f = some d ∧ xs.length = d.n ∧ (∀ e h, E0 e h → E e h) ∧ wpSs (callW tab k) (fun e _ h' => retX E0 e h') d.body (startE d xs) h { nx := fun _ h' => retW Q .non h', rt := retW Q }
theorem callW_mono (tab : Str → Option Df) : ∀ k, GMono (callW tab k)
  | 0 => fun _ _ _ _ _ _ _ _ _ q => q
  | k + 1 => fun f vs h Q Q' E E' w we ⟨d, E0, a, b, c, q⟩ => by
    have le : EnLe { nx := fun _ h' => retW Q .non h', rt := retW Q } { nx := fun _ h' => retW Q' .non h', rt := retW Q' } := ⟨fun _ _ => retW_mono w, fun _ _ => retW_mono w, fun _ _ q => q, fun _ _ q => q⟩
    exact ⟨d, E0, a, b, fun e h z => we e h (c e h z), wpSs_mono (callW_mono tab k) le q⟩
structure DefOk (K : KF) (mg : Str → Option Value) (fs : List Str) (f : Str) (d : Df) : Prop where
  ex : ∃ (a : Addr) (nm qual : Str) (params : Arguments) (body : List Stmt) (scope : Scope) (dV kV doc pm cdv ct oc : Value) (an od : Option Addr) (osl : Array (Option Value)),
    AtF K mg f a ∧ K.lookup a = some ⟨oc, od, .func (PySem.W.fnOf nm qual params body scope dV kV doc pm an cdv ct), osl⟩ ∧ PySem.W.codeIn K cdv qual = true ∧
    FnScope d.N (d.N.take d.n) scope ∧ d.n ≤ d.N.length ∧ Binds K (PySem.W.fnOf nm qual params body scope dV kV doc pm an cdv ct) (d.N.take d.n) [] ∧ (okSs d.N fs scope d.body body = true ∨ ∃ C, d.body = .cons .tryR .nil ∧ RefK K mg C ∧ okRef d.N fs scope body = true)
structure Prog (K : KF) (mg : Str → Option Value) (tab : Str → Option Df) (fs : List Str) : Prop where
  blt : ∀ x ∈ bltNames, mg x = none
  defs : ∀ f ∈ fs, gcst f = none → ∃ d, tab f = some d ∧ DefOk K mg fs f d
  only : ∀ f d, tab f = some d → f ∈ fs ∧ gcst f = none
  cst : ∀ f ∈ fs, ∀ v, gcst f = some v → isExc f = false → CstK K mg f v
  exc : ∀ c ∈ fs, isExc c = true → ExcOk K mg c
theorem envRep_start {K : KF} {H : Hp} {d : Df} {vs : List V} {xs : List PV} (rs : Reps K H vs xs) : EnvRep K H (L2.start d.N vs) (startE d xs) := by
  have l := rs.length
  refine ⟨by simp [L2.start, startE, l], fun i v e => ?_⟩
  unfold startE at e
  unfold L2.start
  by_cases hi : i < xs.length
  · rw [List.getElem?_append_left (by simpa using hi), List.getElem?_map] at e
    cases q : xs[i]? with
    | none => rw [q] at e; cases e
    | some x =>
      rw [q] at e; cases e
      obtain ⟨V, e1, r⟩ := rs.get q
      refine ⟨V, ?_, r⟩
      rw [List.getElem?_append_left (by simpa [l] using hi), List.getElem?_map, e1]
      rfl
  · rw [List.getElem?_append_right (by simpa using hi), List.getElem?_replicate] at e
    split at e <;> cases e
theorem pss_laidR {X : Cx} {st : List Stmt} {t : TS} (h : PSs X st t) : PSs X st (fun D σ H => t { D with nx := LaidS D.nx, rt := Laid D.rt } σ H) := ⟨fun pins s σ H D I hw =>
  thn (h.run pins s σ H _ I hw) fun f s1 q => by
    cases f with
    | next =>
      obtain ⟨σ', H', I1, S, ok, q⟩ := q
      obtain ⟨H2, f, I2⟩ := fz_inv I1 ok
      exact ⟨σ', H2, I2, q H2 f⟩
    | brk => exact q
    | cont => exact q
    | ret v =>
      obtain ⟨x, σ', H', I1, r, S, ok, q⟩ := q
      obtain ⟨H2, f, I2⟩ := fz_inv I1 ok
      exact ⟨x, σ', H2, I2, r, q H2 f⟩⟩
theorem base_pres {X : Cx} {pins : List (Addr × Obj)} {σ : L2.St} {H : Hp} {s : Shared} (I : Inv X pins σ H s) : Pres X.H_0 H := ⟨I.base.tups, I.base.frzs⟩
theorem takes_lw {X : Cx} {E : XK} {E0 : XQ} (tk : Takes X (fun cls d _ H => E cls d H)) (hE : ∀ e h, E0 e h → upX X.mg X.K X.H_0 E e h) : Takes X (LW X (fun e _ h' => retX E0 e h')) := fun u s' ⟨a, B, sI, pins, σ, H, cls, d, e, I, nb, up, sky, na, os, ag, w⟩ => by
  refine tk u s' ⟨a, B, sI, pins, σ, H, cls, d, e, I, nb, up, sky, na, os, ag, ?_⟩
  obtain ⟨ex, env, h, rE, er, hr, h2, le, q⟩ := w
  exact hE ex h2 q cls d H (base_pres I) rE fun a c e => hr a c (le a c e)
theorem fnG_of {P : Program} {w : World} {K : KF} {mg : Str → Option Value} {base : Heap} {tab : Str → Option Df} {fs : List Str} (pg : Prog K mg tab fs) :
    ∀ (k : Nat) (f : Str), f ∈ fs → gcst f = none → ∃ (a : Addr) (fd : FuncData) (ps : List Str), AtF K mg f a ∧ Binds K fd ps [] ∧ FnG P w K mg base k a fd ps (spG K mg (callW tab k) f)
  | 0, f, hf, hn => by
    obtain ⟨d, hd, ⟨a, nm, qual, params, body, scope, dV, kV, doc, pm, cdv, ct, oc, an, od, osl, h1, h3, h4, h5, h6, h7, h8⟩⟩ := pg.defs f hf hn
    exact ⟨a, _, _, h1, h7, ⟨fun vs H Q E ⟨_, _, _, _, q⟩ => q.elim, fun A outer s H args us vs Q E hr hg e0 hb r ⟨_, _, _, _, q⟩ => q.elim⟩⟩
  | k + 1, f, hf, hn => by
    have ih := fnG_of (P := P) (w := w) (base := base) pg k
    obtain ⟨d, hd, ⟨a, nm, qual, params, body, scope, dV, kV, doc, pm, cdv, ct, oc, an, od, osl, h1, lk, hcd, S, h6, h7, h8⟩⟩ := pg.defs f hf hn
    refine ⟨a, _, _, h1, h7, ⟨fun vs H Q E ⟨xs, h, rs, hr, d', E0, e1, e2, _, _⟩ => ?_, fun A outer s H args us vs Q E hr hg e0 hb r hsp => ?_⟩⟩
    · rw [hd] at e1; cases e1
      rw [rs.length, e2, List.length_take]; omega
    · obtain ⟨xs, h, rs, hh, d', E0, e1, e2, hE, q⟩ := hsp
      rw [hd] at e1; cases e1
      have hl : vs.length = (d.N.take d.n).length := by rw [rs.length, e2, List.length_take]; omega
      have KX : K.In s.heap := e0.mod.kin.keeps fun b o e => (e0.bs b o e).1
      have lim : s.heap.NoLimit := e0.mod.nolimit.keeps fun b o e => (e0.bs b o e).1
      have hkind : ∀ y ∈ (d.N.take d.n).zip us, scope.names.lookup y.1 = some .local ∨ (scope.names.lookup y.1 = some .cell ∧ ((cellsFrom (s.heap.objs.size + 1) scope.names []).lookup y.1).isSome = true) := fun ⟨n, v⟩ hy =>
        (S.par n (List.of_mem_zip hy).1).imp id fun q => ⟨q, PySem.W.cellsFrom_some _ _ _ (.inl q)⟩
      refine codeAny_call_function hr.depth (KX _ _ lk) rfl S.co S.gen rfl (PySem.W.codeRec_of KX hcd) (hb _ _ _ _ ?_)
      refine wpAny_newFunctionEnv_cells S.kind hkind fun env he s1 x => ?_
      subst he
      refine ⟨lim.keeps x.toInCall.keep, codeAny_func ?_⟩
      generalize hX : cxOf (L2.CX P w) P w K mg base d.N qual scope a cdv A outer s H E = X
      have I : Inv (cxOf (L2.CX P w) P w K mg base d.N qual scope a cdv A outer s H E) [] (L2.start d.N vs) H s1 := inv_start S hr.hd e0 hl r x
      have gd : GoodS (cxOf (L2.CX P w) P w K mg base d.N qual scope a cdv A outer s H E) k (callW tab k) fs (fun e _ h' => retX E0 e h') :=
        { calm := rfl
          nd := S.nd
          tk := takes_lw (takes_of (E := E) rfl rfl rfl rfl) hE
          room := hr.deeper _
          gd := hg
          blt := pg.blt
          fn := fun g hg hn => ⟨ih g hg hn⟩
          cst := pg.cst
          exc := pg.exc
          mono := callW_mono tab k
          only := fun f xs h Q E q => by
            cases k with
            | zero => exact q.elim
            | succ k => obtain ⟨d, _, e, _⟩ := q; exact pg.only f d e
          fnk := S.kind
          cel := fun _ _ => rfl
          pass := passes_of rfl }
      have body0 : PSs (cxOf (L2.CX P w) P w K mg base d.N qual scope a cdv A outer s H E) body (fun D σ H' => H = H' ∧ SS (cxOf (L2.CX P w) P w K mg base d.N qual scope a cdv A outer s H E) (wpSs (callW tab k) (fun e _ h' => retX E0 e h') d.body) D σ H') := by
        rcases h8 with h8 | ⟨C, eb, R, h8⟩
        · exact PSs.imp (pss_ok d.body gd h8) fun D σ H' q => q.2
        · rw [eb]
          exact ref_run gd R rfl rfl h8
      have body := pss_laidR body0
      refine wpAny_mono (body.run [] s1 (L2.start d.N vs) H { nx := fun _ H' => Q .non H', rt := Q } I ?_) (fun fl s' hs => ?_) fun e s' hs => hs
      · have le : EnLe { nx := fun _ h' => retW (up K H Q) .non h', rt := retW (up K H Q) } (upD K H { nx := LaidS fun _ H' => Q .non H', rt := Laid Q }) :=
          ⟨fun env' h' q σ' H' p' er' hr' => up_ret q p' .non hr', fun v h' q V H' p' r' hr' => up_ret q p' r' hr', fun _ _ z => z.elim, fun _ _ z => z.elim⟩
        exact ⟨rfl, startE d xs, h, envRep_start rs, hh, wpSs_mono (callW_mono tab k) le q⟩
      · cases fl with
        | ret u =>
          obtain ⟨v, σ', H', J, rv, q⟩ := hs
          exact ⟨v, H', J.os, J.bare, J.base, J.hok, rv, q⟩
        | next =>
          obtain ⟨σ', H', J, q⟩ := hs
          exact ⟨V.non, H', J.os, J.bare, J.base, J.hok, rfl, q⟩
        | brk => exact hs.elim fun _ z => z.elim fun _ z => z.2.elim
        | cont => exact hs.elim fun _ z => z.elim fun _ z => z.2.elim
end MP
set_option Elab.async false
set_option linter.all false
set_option maxRecDepth 100000
set_option maxHeartbeats 1000000
namespace MP
open PySem PySem.Spec PyProof.Rows L2
theorem room_entry : Room 230 callerA := ⟨rfl, by decide, by decide⟩
structure Ent (K : KF) (H : Hp) (a : Addr) (vs : List V) : Prop where
  fz : FzL K H a vs
  only : Only H
theorem hid_none {b : Addr} {o : Obj} {H : Hp} {h : Heap} (e : h.get? b = some o) (n : H b = none) : (hidT h H).get? b = some o := hidT_get e n
theorem law_callG {P : Program} {w : World} {K : KF} {mg mb : Str → Option Value} {k : Nat} {fa a : Addr} {sp : Sp} {st : Shared} {us : List Value} {ns : List Int}
    (inK : K.In st.heap) (nsG : st.heap.Ns mainGlobals mg) (nsB : st.heap.Ns builtinsNs mb) (isB : ∀ x : Str, x ≠ "__name__" → mb x = bootBuiltins x) (nl : st.heap.NoLimit) (noG : st.gens = #[])
    (obj : st.heap.get? a = some { cls := .type "list", data := .seq us.toArray }) (iv : IntsAre us ns) (small : ns.length ≤ sizeLine) (rm : Room (2 * k) callerA)
    (F : ∀ base : Heap, K.In base → base.Ns mainGlobals mg → ∃ (fd : FuncData) (ps : List Str), Binds K fd ps [] ∧ FnG P w K mg base k fa fd ps sp)
    (want : ∀ H : Hp, Ent K H a (ns.map V.int) → sp [.ref a] H (fun v _ => v = .bl true) fun _ _ _ => False) :
    codeAny (model P w) callerA (.call (.ref fa) ⟨[.ref a], []⟩) (fun r s' => r = .ok (.ret (.bool true)) ∧ OldK st.heap s'.heap ∧ s'.os = st.os ∧ AllBare s'.gens) st := by
  have rel := vals_ints iv
  have lu := iv.length
  have go : ∀ H : Hp, Ent K H a (ns.map V.int) → HOk P w H st.heap → (∀ b, H b ≠ none → b = a ∧ K.lookup a = none) →
      codeAny (model P w) callerA (.call (.ref fa) ⟨[.ref a], []⟩) (fun r s' => r = .ok (.ret (.bool true)) ∧ OldK st.heap s'.heap ∧ s'.os = st.os ∧ AllBare s'.gens) st := by
    intro H en ok only
    have notDict : ∀ {b : Addr} {o : Obj} {es : Array DictEntry} {ep : Nat}, st.heap.get? b = some o → o.data = .dict es ep → H b = none := by
      intro b o es ep e d
      cases z : H b with
      | none => rfl
      | some u =>
        obtain ⟨rfl, _⟩ := only b (by simp [z])
        rw [obj] at e
        cases e
        cases (show Data.seq us.toArray _ = Data.dict es ep from d)
    have hid : ∀ {b : Addr} {m : Str → Option Value}, st.heap.Ns b m → (hidT st.heap H).Ns b m := by
      rintro b m ⟨o, es, ep, e, d, r⟩
      exact ⟨o, es, ep, hid_none e (notDict e d), d, r⟩
    have inK2 : K.In (hidT st.heap H) := by
      intro b o e
      refine hid_none (inK b o e) ?_
      cases z : H b with
      | none => rfl
      | some u =>
        obtain ⟨rfl, z2⟩ := only b (by simp [z])
        rw [z2] at e
        cases e
    have limit : (hidT st.heap H).NoLimit := by
      obtain ⟨mc, h1, h2⟩ := nl
      exact ⟨mc, hid h1, h2⟩
    have env : Env0 P w K mg (hidT st.heap H) callerA [] st H :=
      { frames := rfl
        mod := ⟨inK2, hid nsG, ⟨mb, hid nsB, isB⟩, limit⟩
        bs := fun b o e => of_hidT e
        bsz := Nat.le_of_eq (hidT_size _ _)
        funs := trivial
        frf := fun b hb => by cases hb
        hok := ok
        bare := .of_eq noG }
    obtain ⟨fd, ps, bs, Fn⟩ := F _ inK2 (hid nsG)
    have ln : ps.length = 1 := (Fn.len _ _ _ _ (want H en)).symm
    have bnd := bs st [.ref a] inK (by rw [ln]; rfl)
    rw [List.append_nil] at bnd
    have run := Fn.run callerA [] st H ⟨[.ref a], []⟩ [.ref a] [.ref a] _ _ rm rfl env bnd (.cons rfl .nil) (want H en)
    refine codeAny_mono run fun r s' h => ?_
    cases r with
    | error e =>
      obtain ⟨_, _, _, _, _, _, _, _, _, _, _, _, z⟩ := h
      exact z.elim
    | ok fl =>
      cases fl with
      | ret u =>
        obtain ⟨v, H', os, bare, un, ok', ru, q⟩ := h
        cases (show v = .bl true from q)
        cases (show u = Value.bool true from ru)
        refine ⟨rfl, OldK.of_keep fun b o e => ?_, os, bare⟩
        cases z : H b with
        | none => exact un.keep b o e z (fun y => by cases y) (fun y => by cases y)
        | some u =>
          rcases en.only b with y | ⟨ob, xs, y⟩
          · rw [z] at y; cases y
          · obtain ⟨e1, _⟩ := ok b _ y
            obtain ⟨e2, _⟩ := ok' b _ (un.frzs b ob _ y)
            rw [e] at e1
            cases e1
            exact e2
      | next => cases h
      | brk => cases h
      | cont => cases h
  cases hk : K.lookup a with
  | some o =>
    have same := inK a o hk
    rw [obj] at same
    cases same
    refine go (fun _ => none) ⟨.inr ⟨us.toArray, _, hk, ?_, ?_⟩, fun _ => .inl rfl⟩ (fun b u z => nomatch z) fun b z => absurd rfl z
    · rw [List.size_toArray, lu]; exact small
    · simpa using rel
  | none =>
    let H : Hp := fun b => if b = a then some (.frz { cls := .type "list", data := .seq us.toArray } (.lst (ns.map V.int))) else none
    have at_a : H a = some (.frz { cls := .type "list", data := .seq us.toArray } (.lst (ns.map V.int))) := if_pos rfl
    have off : ∀ b, b ≠ a → H b = none := fun b z => if_neg z
    refine go H ⟨.inl ⟨_, at_a⟩, fun b => ?_⟩ (fun b u z => ?_) fun b z => ⟨Classical.byContradiction fun y => z (off b y), hk⟩
    · by_cases y : b = a
      · subst y; exact .inr ⟨_, _, at_a⟩
      · exact .inl (off b y)
    · by_cases y : b = a
      · subst y
        rw [at_a] at z
        cases z
        exact ⟨obj, by rw [List.length_map]; exact small, us, _, rel, obj⟩
      · rw [off b y] at z
        cases z
theorem walk_MP {l : PySem.W.OpenLaw} {n : Nat} {q : Program} {loose : List Str} {XP : (Str → Option Value) → Heap → Prop} {YP : World → Heap → Prop} {d : DefRec} {K : Params → KF} {tab : Str → Option Df} {fs : List Str} {k : Nat}
    (hn : l.most = some n) (hn2 : n ≤ sizeLine) (hdf : d.params.defaults = []) (hk : Room (2 * k) callerA) (hf : d.name ∈ fs) (hfn : gcst d.name = none ∧ methOf d.name = none)
    (hY : ∀ (w : World) (h : Heap), YP w h → (K w.params).In h)
    (hP : ∀ (w : World) (mg : Str → Option Value) (h : Heap), (K w.params).In h → h.Ns mainGlobals mg → Prog (K w.params) mg tab fs)
    (main : ∀ (ns : List Int), ns.length ≤ n → (∀ z ∈ ns, Builtin.Int.intBits z ≤ 1048576) → callW tab k d.name [.lst (ns.map PV.int)] (fun _ => none) (fun v _ => v = .bl true) (fun _ _ => False)) :
    PySem.W.WalkO q loose XP YP l.row.toRowW d [] (fun f vs => PySem.call f vs) := by
  refine Att.attach_callB hn hdf fun w s₀ s₁ mg mb fa o pm cd doc a vs ns G Y ho hd hcd hmg hobj hints hlen hbits hg => ?_
  have KX := hY w _ Y
  refine law_callG (sp := spG (K w.params) mg (callW tab k) d.name) KX G.T.g G.T.b G.T.builtins G.T.nolimit hg hobj hints (Nat.le_trans hlen hn2) hk (fun base hb hns => ?_) fun H en => ?_
  · obtain ⟨a', fd, ps, hat, bs, Fn⟩ := fnG_of (P := l.prog) (w := w) (base := base) (hP w mg _ KX G.T.g) k d.name hf hfn.1
    obtain ⟨e, _, _⟩ := hat.fn hfn.2
    rw [hmg] at e
    cases e
    exact ⟨fd, ps, bs, Fn⟩
  · refine ⟨[.lst (ns.map PV.int)], fun _ => none, .cons (.lst en.fz (.of_ints ns)) .nil, (fun a c e => nomatch e), ?_⟩
    exact callW_mono tab k _ _ _ _ _ _ _ (fun v h q V H' _ r _ => by subst q; exact r.bl_inv) (fun e h z => z.elim) (main ns hlen hbits)
end MP
set_option Elab.async false
set_option linter.all false
set_option maxRecDepth 100000
set_option maxHeartbeats 1000000
namespace MP
open PySem PySem.Spec PyProof.Rows L2
def scB (N ps : List Str) (sc : Scope) : Bool :=
  (match sc.kind with | .function => true | _ => false) && !sc.isCoroutine && !sc.isGenerator && decide N.Nodup && decide (N.take ps.length = ps) &&
    (ps.all fun x => match sc.names.lookup x with | some .local => true | some .cell => true | _ => false) && (sc.names.all fun y => match y.2 with | .free => false | _ => true)
def defB (fs : List Str) (d : Df) (st : Stmt) : Bool :=
  scB d.N (d.N.take d.n) (defScope st) && decide (d.n ≤ d.N.length) && okSs d.N fs (defScope st) d.body (defBody st)
theorem scB_ok {N ps : List Str} {sc : Scope} (h : scB N ps sc = true) : FnScope N ps sc := by
  unfold scB at h
  simp only [Bool.and_eq_true, Bool.not_eq_true', decide_eq_true_eq, List.all_eq_true] at h
  obtain ⟨⟨⟨⟨⟨⟨h1, h2⟩, h3⟩, h4⟩, h5⟩, h6⟩, h7⟩ := h
  refine ⟨?_, h2, h3, h4, h5, fun x hx => ?_, fun y hy z => ?_⟩
  · split at h1
    · assumption
    · cases h1
  · have q := h6 x hx
    split at q <;> first | exact .inl (by assumption) | exact .inr (by assumption) | cases q
  · have q := h7 y hy
    rw [z] at q
    cases q
theorem atF_fn {K : KF} {mg : Str → Option Value} {f : Str} {a : Addr} (n : methOf f = none) (h1 : mg f = some (.ref a)) (h2 : PySem.W.nsIn K mainGlobals f = some (some (.ref a))) (h3 : PySem.W.keepIn K (.ref a) = true) : AtF K mg f a := by
  unfold AtF
  rw [n]
  exact ⟨h1, h2, h3⟩
theorem atF_me {K : KF} {mg : Str → Option Value} {f C m : Str} {a Ca : Addr} (n : methOf f = some (C, m)) (h1 : mg C = some (.ref Ca)) (h2 : ClsK K C Ca) (h3 : m = "__init__" → Mk K Ca a) (h4 : m ≠ "__init__" → Meth K Ca m a) : AtF K mg f a := by
  unfold AtF
  rw [n]
  exact ⟨Ca, h1, h2, h3, h4⟩
def clsBody : Stmt → List Stmt
  | .ClassDef _ _ _ b _ _ _ _ _ _ _ => b
  | _ => []
theorem defOk_me {K : KF} {mg : Str → Option Value} {fs : List Str} {f m : Str} {d : Df} {st : Stmt} {a : Addr} {oc dV kV doc pm cdv ct : Value} {od an : Option Addr} {osl : Array (Option Value)}
    (hat : AtF K mg f a) (lk : K.lookup a = some ⟨oc, od, .func (PySem.W.fnOf m f (defArgs st) (defBody st) (defScope st) dV kV doc pm an cdv ct), osl⟩)
    (hc : PySem.W.codeIn K cdv f = true) (chk : defB fs d st = true)
    (hb : ∀ us : List Value, us.length = (d.N.take d.n).length → bindArgs (PySem.W.fnOf m f (defArgs st) (defBody st) (defScope st) dV kV doc pm an cdv ct) ⟨us, []⟩ = pure ((d.N.take d.n).zip us)) : DefOk K mg fs f d := by
  unfold defB at chk
  simp only [Bool.and_eq_true, decide_eq_true_eq] at chk
  obtain ⟨⟨c1, c2⟩, c3⟩ := chk
  exact ⟨a, m, f, defArgs st, defBody st, defScope st, dV, kV, doc, pm, cdv, ct, oc, an, od, osl, hat, lk, hc, scB_ok c1, c2, .all hb, .inl c3⟩
theorem defOk_mk {K : KF} {h : Heap} {mg : Str → Option Value} {fs : List Str} {f : Str} {d : Df} {st : Stmt} {a : Addr} {oc dV kV doc pm cdv ct : Value} {od an : Option Addr} {osl : Array (Option Value)}
    (X : K.In h) (G : h.Ns mainGlobals mg) (h1 : PySem.W.nsIn K mainGlobals f = some (some (.ref a))) (lk : K.lookup a = some ⟨oc, od, .func (PySem.W.fnOf f f (defArgs st) (defBody st) (defScope st) dV kV doc pm an cdv ct), osl⟩)
    (hc : PySem.W.codeIn K cdv f = true) (hk : PySem.W.keepIn K (.ref a) = true) (hm0 : methOf f = none) (chk : defB fs d st = true)
    (hb : ∀ us : List Value, us.length = (d.N.take d.n).length → bindArgs (PySem.W.fnOf f f (defArgs st) (defBody st) (defScope st) dV kV doc pm an cdv ct) ⟨us, []⟩ = pure ((d.N.take d.n).zip us)) : DefOk K mg fs f d := by
  unfold defB at chk
  simp only [Bool.and_eq_true, decide_eq_true_eq] at chk
  obtain ⟨⟨c1, c2⟩, c3⟩ := chk
  exact ⟨a, f, f, defArgs st, defBody st, defScope st, dV, kV, doc, pm, cdv, ct, oc, an, od, osl, atF_fn hm0 (PySem.W.mg_of X G h1) h1 hk, lk, hc, scB_ok c1, c2, .all hb, .inl c3⟩
def dRef : Df := ⟨["ask", "one", "other", "marks", "e"], 3, .cons .tryR .nil⟩
def refB (fs : List Str) (st : Stmt) : Bool := scB dRef.N (dRef.N.take dRef.n) (defScope st) && okRef dRef.N fs (defScope st) (defBody st)
theorem defOk_ref {K : KF} {h : Heap} {mg : Str → Option Value} {fs : List Str} {f : Str} {st : Stmt} {a C : Addr} {oc dV kV doc pm cdv ct : Value} {od an : Option Addr} {osl : Array (Option Value)}
    (X : K.In h) (G : h.Ns mainGlobals mg) (h1 : PySem.W.nsIn K mainGlobals f = some (some (.ref a))) (lk : K.lookup a = some ⟨oc, od, .func (PySem.W.fnOf f f (defArgs st) (defBody st) (defScope st) dV kV doc pm an cdv ct), osl⟩)
    (hc : PySem.W.codeIn K cdv f = true) (hk : PySem.W.keepIn K (.ref a) = true) (R : RefK K mg C) (hm0 : methOf f = none) (chk : refB fs st = true)
    (hb : ∀ us : List Value, us.length = 3 → bindArgs (PySem.W.fnOf f f (defArgs st) (defBody st) (defScope st) dV kV doc pm an cdv ct) ⟨us, []⟩ = pure ((dRef.N.take dRef.n).zip us)) : DefOk K mg fs f dRef := by
  unfold refB at chk
  simp only [Bool.and_eq_true, decide_eq_true_eq] at chk
  obtain ⟨c1, c3⟩ := chk
  exact ⟨a, f, f, defArgs st, defBody st, defScope st, dV, kV, doc, pm, cdv, ct, oc, an, od, osl, atF_fn hm0 (PySem.W.mg_of X G h1) h1 hk, lk, hc, scB_ok c1, by decide, .all hb, .inr ⟨C, rfl, R, c3⟩⟩
theorem excOk_mk {K : KF} {h : Heap} {mg : Str → Option Value} {c : Str} {C : Addr} (X : K.In h) (G : h.Ns mainGlobals mg) (h1 : PySem.W.nsIn K mainGlobals c = some (some (.ref C)))
    (h2 : PySem.W.excIn K C [.type "ValueError", .type "Exception", .type "BaseException", .type "object"] "ValueError.__new__" = true) (h3 : PySem.W.keepIn K (.ref C) = true) (h4 : PySem.W.subIn K (.ref C) (.type "BaseException") = some true) (h5 : PySem.W.typeIn K (.ref C) = some (.type "type")) : ExcOk K mg c :=
  ⟨C, PySem.W.mg_of X G h1, h2, h3, h4, h5⟩
theorem cstK_mk {K : KF} {h : Heap} {mg : Str → Option Value} {f : Str} {a : Addr} {ns : List Int} {its : Array Value} {od : Option Addr} {n : Nat} {sl : Array (Option Value)}
    (X : K.In h) (G : h.Ns mainGlobals mg) (h1 : PySem.W.nsIn K mainGlobals f = some (some (.ref a))) (lk : K.lookup a = some ⟨.type "tuple", od, .seq its n, sl⟩) (hs : its.size ≤ sizeLine) (hv : Vals (ns.map V.int) its.toList) : CstK K mg f (.cst ns) :=
  ⟨.ref a, .ref a, PySem.W.mg_of X G h1, rfl, fun H => .cst ⟨_, its, n, lk, rfl, rfl, hs, hv⟩⟩
theorem cstK_str {K : KF} {h : Heap} {mg : Str → Option Value} {f x : Str} {t : Tok} (X : K.In h) (G : h.Ns mainGlobals mg) (h1 : PySem.W.nsIn K mainGlobals f = some (some (.str x t))) : CstK K mg f (.str x) :=
  ⟨.str x, .str x t, PySem.W.mg_of X G h1, ⟨t, rfl⟩, fun H => .str x⟩
theorem cstK_int {K : KF} {h : Heap} {mg : Str → Option Value} {f : Str} {x : Int} {t : Tok} (X : K.In h) (G : h.Ns mainGlobals mg) (h1 : PySem.W.nsIn K mainGlobals f = some (some (.int x t))) : CstK K mg f (.int x) :=
  ⟨.int x, .int x t, PySem.W.mg_of X G h1, ⟨t, rfl⟩, fun H => .int x⟩
theorem lookup_mem {f : Str} {d : Df} : ∀ {l : List (Str × Df)}, l.lookup f = some d → f ∈ l.map (·.1)
  | [], h => by cases h
  | (g, e) :: r, h => by
    rw [List.lookup_cons] at h
    split at h
    · rename_i z
      rw [beq_iff_eq] at z
      subst z; exact List.mem_cons_self ..
    · exact List.mem_cons_of_mem _ (lookup_mem h)
end MP
set_option Elab.async false
set_option linter.all false
set_option maxRecDepth 100000
set_option maxHeartbeats 1000000
namespace MP
open PySem L2
section
variable {G : Calls} {Ex : XP} {env : Env} {h : MH} {Q : Post} {T : Bool → MH → Prop} {D : En} {a b c : E} {es : Es}
@[simp] theorem wE_var {i : Nat} : wpE G Ex (.var i) env h Q = ∃ v, env[i]? = some (some v) ∧ Q v h := by simp only [wpE]
@[simp] theorem wE_non : wpE G Ex .non env h Q = Q .non h := by simp only [wpE]
@[simp] theorem wE_bl {b : Bool} : wpE G Ex (.bl b) env h Q = Q (.bl b) h := by simp only [wpE]
@[simp] theorem wE_int {b : Int} : wpE G Ex (.int b) env h Q = Q (.int b) h := by simp only [wpE]
@[simp] theorem wE_str {b : Str} : wpE G Ex (.str b) env h Q = Q (.str b) h := by simp only [wpE]
@[simp] theorem wE_bin {op : Operator} : wpE G Ex (.bin op a b) env h Q = wpE G Ex a env h fun x h1 => wpE G Ex b env h1 fun y h2 => binW op x y h2 Q := by simp only [wpE]
@[simp] theorem wE_neg : wpE G Ex (.neg a) env h Q = wpE G Ex a env h fun x h1 => ∃ i, x = .int i ∧ Q (.int (-i)) h1 := by simp only [wpE]
@[simp] theorem wE_not : wpE G Ex (.not a) env h Q = wpE G Ex a env h fun x h1 => truW x h1 fun k h2 => Q (.bl (!k)) h2 := by simp only [wpE]
@[simp] theorem wE_and : wpE G Ex (.and a b) env h Q = wpE G Ex a env h fun x h1 => truW x h1 fun k h2 => if k = true then wpE G Ex b env h2 Q else Q x h2 := by simp only [wpE]
@[simp] theorem wE_or : wpE G Ex (.or a b) env h Q = wpE G Ex a env h fun x h1 => truW x h1 fun k h2 => if k = true then Q x h2 else wpE G Ex b env h2 Q := by simp only [wpE]
@[simp] theorem wE_ite : wpE G Ex (.ite c a b) env h Q = wpT G Ex c env h fun k h1 => if k = true then wpE G Ex a env h1 Q else wpE G Ex b env h1 Q := by simp only [wpE]
@[simp] theorem wE_cmp {op : CmpOp} : wpE G Ex (.cmp op a b) env h Q = wpE G Ex a env h fun x h1 => wpE G Ex b env h1 fun y h2 => cmpW op x y h2 fun k h3 => Q (.bl k) h3 := by simp only [wpE]
@[simp] theorem wE_chain {o p : CmpOp} : wpE G Ex (.chain o p a b c) env h Q = wpE G Ex a env h fun x h1 => wpE G Ex b env h1 fun y h2 => cmpW o x y h2 fun k h3 =>
      if k = true then wpE G Ex c env h3 fun z h4 => cmpW p y z h4 fun k h5 => Q (.bl k) h5 else Q (.bl false) h3 := by simp only [wpE]
@[simp] theorem wE_isN {n : Bool} : wpE G Ex (.isN a n) env h Q = wpE G Ex a env h fun x h1 => isNW x n h1 fun k h2 => Q (.bl k) h2 := by simp only [wpE]
@[simp] theorem wE_isB {b n : Bool} : wpE G Ex (.isB a b n) env h Q = wpE G Ex a env h fun x h1 => isBW x b n h1 fun k h2 => Q (.bl k) h2 := by simp only [wpE]
@[simp] theorem wE_isin {n : Bool} : wpE G Ex (.isin a b n) env h Q = wpE G Ex a env h fun x h1 => wpE G Ex b env h1 fun y h2 => inW x y h2 fun k h3 => Q (.bl (k != n)) h3 := by simp only [wpE]
@[simp] theorem wE_tup : wpE G Ex (.tup es) env h Q = wpEs G Ex es env h fun xs h1 => xs.length ≤ sizeLine ∧ Q (.tup xs) h1 := by simp only [wpE]
@[simp] theorem wE_lst {m : Bool} : wpE G Ex (.lst m es) env h Q = wpEs G Ex es env h fun xs h1 => newL m xs h1 Q := by simp only [wpE]
@[simp] theorem wE_dct0 : wpE G Ex (.dct0 false) env h Q = Q (.dct [] []) h := by simp only [wpE]; rfl
@[simp] theorem wE_dct0m : wpE G Ex (.dct0 true) env h Q = ∀ p, h p = none → Q (.loc p) (h.put p (.dct [])) := by simp only [wpE]; rfl
@[simp] theorem wE_dct1 : wpE G Ex (.dct1 a b) env h Q = wpE G Ex a env h fun x h1 => wpE G Ex b env h1 fun y h2 => dct1W x y h2 Q := by simp only [wpE]
@[simp] theorem wE_idx : wpE G Ex (.idx a b) env h Q = wpE G Ex a env h fun x h1 => wpE G Ex b env h1 fun y h2 => idxW x y h2 Q := by simp only [wpE]
@[simp] theorem wE_slc {lo hi : Eo} : wpE G Ex (.slc a lo hi) env h Q = wpE G Ex a env h fun x h1 => wpEo G Ex lo env h1 fun l h2 => ∃ li, optI l = some li ∧ wpEo G Ex hi env h2 fun u h3 => ∃ ui, optI u = some ui ∧ slcW x li ui h3 Q := by simp only [wpE]
@[simp] theorem wE_rev : wpE G Ex (.rev a) env h Q = wpE G Ex a env h fun x h1 => revW x h1 Q := by simp only [wpE]
@[simp] theorem wE_call {f : Str} : wpE G Ex (.call f es) env h Q = wpEs G Ex es env h fun xs h1 => G f xs h1 Q (fun e h2 => Ex e env h2) := by simp only [wpE]
@[simp] theorem wE_gfn {f : Str} : wpE G Ex (.gfn f) env h Q = Q (.fn f) h := by simp only [wpE]
@[simp] theorem wE_callv {i : Nat} : wpE G Ex (.callv i es) env h Q = ∃ f, env[i]? = some (some (.fn f)) ∧ wpEs G Ex es env h fun xs h1 => G f xs h1 Q (fun e h2 => Ex e env h2) := by simp only [wpE]
@[simp] theorem wE_blt {b : B} : wpE G Ex (.blt b es) env h Q = wpEs G Ex es env h fun xs h1 => bltW b xs h1 Q := by simp only [wpE]
@[simp] theorem wE_isi {t : String} : wpE G Ex (.isi a t) env h Q = wpE G Ex a env h fun x h1 => isiW x t h1 fun k h2 => Q (.bl k) h2 := by simp only [wpE]
@[simp] theorem wE_con {c : C} {m : Bool} {it : It} : wpE G Ex (.con c m it) env h Q = wpIt G Ex it env h fun S h1 => conW c m S.xs h1 Q := by simp only [wpE]
@[simp] theorem wE_comp {m : Bool} {elt : E} {tg : Tg} {it : It} {c : Eo} : wpE G Ex (.comp m elt tg it c) env h Q = wpIt G Ex it env h fun S h1 =>
      compW S.stays (fun x h2 R => tgW tg x (wipeE env tg.own) fun env' => wpC G c env' h2 fun k h3 =>
        if k = true then wpE G noX elt env' h3 fun y h4 => R (some y) h4 else R none h3) S.xs h1 fun ys h5 => newL m ys h5 Q := by simp only [wpE]
@[simp] theorem wE_meth {m : M} : wpE G Ex (.meth a m es) env h Q = wpE G Ex a env h fun x h1 => (∃ a xs, x = .loc a ∧ h1 a = some (.lst xs)) ∧ wpEs G Ex es env h1 fun ys h2 => methW x m ys h2 Q := by simp only [wpE]
@[simp] theorem wE_mkd : wpE G Ex (.mkd a) env h Q = wpE G Ex a env h fun x h1 => mkdW x h1 Q := by simp only [wpE]
@[simp] theorem wE_fld {f : Str} : wpE G Ex (.fld a f) env h Q = wpE G Ex a env h fun x h1 => ∃ a C fs v, x = .loc a ∧ h1 a = some (.ins C fs) ∧ f ∈ fieldsOf C ∧ fs.lookup f = some v ∧ Q v h1 := by simp only [wpE]
@[simp] theorem wE_mcall {f C m : Str} : wpE G Ex (.mcall a f C m es) env h Q = wpE G Ex a env h fun x h1 => (∃ a fs, x = .loc a ∧ h1 a = some (.ins C fs) ∧ fs.lookup m = none) ∧ wpEs G Ex es env h1 fun vs h2 => G f (x :: vs) h2 Q (fun e h3 => Ex e env h3) := by simp only [wpE]
@[simp] theorem wE_new {f C : Str} : wpE G Ex (.new f C es) env h Q = wpEs G Ex es env h fun vs h1 => ∀ p, h1 p = none → G f (.loc p :: vs) (h1.put p (.ins C [])) (fun v h2 => v = .non ∧ Q (.loc p) h2) (fun e h3 => Ex e env h3) := by simp only [wpE]
@[simp] theorem wE_mkdm : wpE G Ex (.mkdm a) env h Q = wpE G Ex a env h fun x h1 => mkdmW x h1 Q := by simp only [wpE]
@[simp] theorem wE_mki : wpE G Ex (.mki a) env h Q = wpE G Ex a env h fun x h1 => mkiW x h1 Q := by simp only [wpE]
@[simp] theorem wE_dix : wpE G Ex (.dix a b) env h Q = wpE G Ex a env h fun x h1 => wpE G Ex b env h1 fun y h2 => dixW x y h2 Q := by simp only [wpE]
@[simp] theorem wE_dpop : wpE G Ex (.dpop a b) env h Q = wpE G Ex a env h fun x h1 => isDl h1 x = true ∧ wpE G Ex b env h1 fun y h2 => dpopW x y h2 Q := by simp only [wpE]
@[simp] theorem wE_split {m : Bool} : wpE G Ex (.split m a b) env h Q = wpE G Ex a env h fun x h1 => (∃ z, x = .str z) ∧ wpE G Ex b env h1 fun y h2 => splitW m x y h2 Q := by simp only [wpE]
@[simp] theorem wE_join : wpE G Ex (.join a b) env h Q = wpE G Ex a env h fun x h1 => (∃ z, x = .str z) ∧ wpE G Ex b env h1 fun y h2 => joinW x y h2 Q := by simp only [wpE]
@[simp] theorem wE_rpl : wpE G Ex (.rpl a b) env h Q = wpE G Ex a env h fun x h1 => wpE G Ex b env h1 fun y h2 => rplW x y h2 Q := by simp only [wpE]
@[simp] theorem wE_dget : wpE G Ex (.dget a b c) env h Q = wpE G Ex a env h fun x h1 => isDl h1 x = true ∧ wpE G Ex b env h1 fun y h2 => wpE G Ex c env h2 fun z h3 => dgetW x y z h3 Q := by simp only [wpE]
@[simp] theorem wE_gcs {f : Str} : wpE G Ex (.gcs f) env h Q = ∃ v, gcst f = some v ∧ Q v h := by simp only [wpE]
@[simp] theorem wT_not : wpT G Ex (.not a) env h T = wpT G Ex a env h fun k h1 => T (!k) h1 := by simp only [wpT]
@[simp] theorem wT_and : wpT G Ex (.and a b) env h T = wpT G Ex a env h fun k h1 => if k = true then wpT G Ex b env h1 T else T false h1 := by simp only [wpT]
@[simp] theorem wT_or : wpT G Ex (.or a b) env h T = wpT G Ex a env h fun k h1 => if k = true then T true h1 else wpT G Ex b env h1 T := by simp only [wpT]
@[simp] theorem wT_ite : wpT G Ex (.ite c a b) env h T = wpT G Ex c env h fun k h1 => if k = true then wpT G Ex a env h1 T else wpT G Ex b env h1 T := by simp only [wpT]
@[simp] theorem wT_cmp {op : CmpOp} : wpT G Ex (.cmp op a b) env h T = wpE G Ex a env h fun x h1 => wpE G Ex b env h1 fun y h2 => cmpW op x y h2 T := by simp only [wpT]
@[simp] theorem wT_chain {o p : CmpOp} : wpT G Ex (.chain o p a b c) env h T = wpE G Ex a env h fun x h1 => wpE G Ex b env h1 fun y h2 => cmpW o x y h2 fun k h3 =>
      if k = true then wpE G Ex c env h3 fun z h4 => cmpW p y z h4 T else T false h3 := by simp only [wpT]
@[simp] theorem wT_isN {n : Bool} : wpT G Ex (.isN a n) env h T = wpE G Ex a env h fun x h1 => isNW x n h1 T := by simp only [wpT]
@[simp] theorem wT_isB {b n : Bool} : wpT G Ex (.isB a b n) env h T = wpE G Ex a env h fun x h1 => isBW x b n h1 T := by simp only [wpT]
@[simp] theorem wT_isin {n : Bool} : wpT G Ex (.isin a b n) env h T = wpE G Ex a env h fun x h1 => wpE G Ex b env h1 fun y h2 => inW x y h2 fun k h3 => T (k != n) h3 := by simp only [wpT]
@[simp] theorem wT_var {i : Nat} : wpT G Ex (.var i) env h T = ∃ v, env[i]? = some (some v) ∧ truW v h T := by simp only [wpT]
@[simp] theorem wT_call {f : Str} : wpT G Ex (.call f es) env h T = wpEs G Ex es env h fun xs h1 => G f xs h1 (fun v h2 => truW v h2 T) (fun e h2 => Ex e env h2) := by simp only [wpT]
@[simp] theorem wT_blt {b : B} : wpT G Ex (.blt b es) env h T = wpEs G Ex es env h fun xs h1 => bltW b xs h1 fun v h2 => truW v h2 T := by simp only [wpT]
@[simp] theorem wT_idx : wpT G Ex (.idx a b) env h T = wpE G Ex a env h fun x h1 => wpE G Ex b env h1 fun y h2 => idxW x y h2 fun v h3 => truW v h3 T := by simp only [wpT]
@[simp] theorem wT_isi {t : String} : wpT G Ex (.isi a t) env h T = wpE G Ex a env h fun x h1 => isiW x t h1 T := by simp only [wpT]
@[simp] theorem wC_non : wpC G .none env h T = T true h := by simp only [wpC]
@[simp] theorem wC_som : wpC G (.some c) env h T = wpT G noX c env h T := by simp only [wpC]
@[simp] theorem wEs_nil {L : List PV → MH → Prop} : wpEs G Ex .nil env h L = L [] h := by simp only [wpEs]
@[simp] theorem wEs_cons {L : List PV → MH → Prop} : wpEs G Ex (.cons a es) env h L = wpE G Ex a env h fun x h1 => wpEs G Ex es env h1 fun xs h2 => L (x :: xs) h2 := by simp only [wpEs]
@[simp] theorem wEo_non {L : Option PV → MH → Prop} : wpEo G Ex .none env h L = L none h := by simp only [wpEo]
@[simp] theorem wEo_som {L : Option PV → MH → Prop} : wpEo G Ex (.some a) env h L = wpE G Ex a env h fun x h1 => L (some x) h1 := by simp only [wpEo]
@[simp] theorem wIt_seq {L : Src → MH → Prop} : wpIt G Ex (.seq a) env h L = wpE G Ex a env h fun x h1 => ∃ S, srcV h1 x = some S ∧ (S.xs.length ≤ sizeLine → L S h1) := by simp only [wpIt]
@[simp] theorem wIt_rng1 {L : Src → MH → Prop} : wpIt G Ex (.rng1 a) env h L = wpE G Ex a env h fun x h1 => ∃ n, x = .int n ∧ RngOk 0 n ∧ n ≤ sizeLine ∧ L ⟨rngV 0 n, []⟩ h1 := by simp only [wpIt]
@[simp] theorem wIt_rng2 {L : Src → MH → Prop} : wpIt G Ex (.rng2 a b) env h L = wpE G Ex a env h fun x h1 => wpE G Ex b env h1 fun y h2 => ∃ n m, x = .int n ∧ y = .int m ∧ RngOk n m ∧ m - n ≤ sizeLine ∧ L ⟨rngV n m, []⟩ h2 := by simp only [wpIt]
@[simp] theorem wIt_enum {L : Src → MH → Prop} : wpIt G Ex (.enum a) env h L = wpE G Ex a env h fun x h1 => ∃ S, srcV h1 x = some S ∧ (S.xs.length ≤ sizeLine → L ⟨enumV S.xs, S.st⟩ h1) := by simp only [wpIt]
@[simp] theorem wIt_chars {L : Src → MH → Prop} : wpIt G Ex (.chars a) env h L = wpE G Ex a env h fun x h1 => ∃ z, x = .str z ∧ z.length ≤ sizeLine ∧ L ⟨z.cps.toList.map fun c => .str ⟨#[c]⟩, []⟩ h1 := by simp only [wpIt]
@[simp] theorem wIt_keys {L : Src → MH → Prop} : wpIt G Ex (.keys a) env h L = wpE G Ex a env h fun x h1 => keysW x h1 L := by simp only [wpIt]
@[simp] theorem wIt_zip {L : Src → MH → Prop} : wpIt G Ex (.zip a b) env h L = wpE G Ex a env h fun x h1 => wpE G Ex b env h1 fun y h2 => ∃ S T, zipV h2 x y = some (S, T) ∧
      (S.xs.length ≤ sizeLine → T.xs.length ≤ sizeLine → L ⟨(S.xs.zip T.xs).map fun p => PV.tup [p.1, p.2], S.st ++ T.st⟩ h2) := by simp only [wpIt]
@[simp] theorem wipe_no : wipeE env [] = env := rfl
@[simp] theorem wipe_one {v : Nat} {vs : List Nat} : wipeE env (v :: vs) = (wipeE env vs).set v none := rfl
@[simp] theorem own_name {i : Nat} : (Tg.name i).own = [i] := rfl
@[simp] theorem own_two {s t : Tg} : (Tg.tup2 s t).own = s.own ++ t.own := rfl
@[simp] theorem own_four {s t u v : Tg} : (Tg.tup4 s t u v).own = s.own ++ t.own ++ u.own ++ v.own := rfl
@[simp] theorem own_three {s t u : Tg} : (Tg.tup3 s t u).own = s.own ++ t.own ++ u.own := rfl
theorem w_nil : wpSs G Ex .nil env h D = D.nx env h := by simp only [wpSs]
theorem w_end (q : D.nx env h) : wpSs G Ex .nil env h D := by rw [w_nil]; exact q
theorem w_asg {t : Tg} {r : Ss} : wpSs G Ex (.cons (.asg t a) r) env h D = wpE G Ex a env h fun x h1 => tgW t x env fun env' => wpSs G Ex r env' h1 D := by simp only [wpSs, wpS]
theorem w_par {i j : Nat} {r : Ss} : wpSs G Ex (.cons (.par i j a b) r) env h D = wpE G Ex a env h fun x h1 => wpE G Ex b env h1 fun y h2 => wpSs G Ex r ((env.set i (some x)).set j (some y)) h2 D := by simp only [wpSs, wpS]
theorem w_subd {r : Ss} : wpSs G Ex (.cons (.subd a b c) r) env h D = wpE G Ex c env h fun z h1 => wpE G Ex a env h1 fun x h2 => wpE G Ex b env h2 fun y h3 => subdW x y z h3 fun h4 => wpSs G Ex r env h4 D := by simp only [wpSs, wpS]
theorem w_sub {r : Ss} : wpSs G Ex (.cons (.sub a b c) r) env h D = wpE G Ex c env h fun z h1 => wpE G Ex a env h1 fun x h2 => wpE G Ex b env h2 fun y h3 => subW x y z h3 fun h4 => wpSs G Ex r env h4 D := by simp only [wpSs, wpS]
theorem w_ex {r : Ss} : wpSs G Ex (.cons (.ex a) r) env h D = wpE G Ex a env h fun _ h1 => wpSs G Ex r env h1 D := by simp only [wpSs, wpS]
theorem w_ret {r : Ss} : wpSs G Ex (.cons (.ret a) r) env h D = wpE G Ex a env h D.rt := by simp only [wpSs, wpS]
theorem w_raise {c : Str} {r : Ss} : wpSs G Ex (.cons (.raise c) r) env h D = Ex ⟨c, none⟩ env h := by simp only [wpSs, wpS]
theorem w_tryR : wpSs G Ex (.cons .tryR .nil) env h D = ∃ f a b, env = [some (.fn f), some a, some b, none, none] ∧ ∀ p, h p = none → G f [a, b] (h.put p (.lst [])) (fun _ h' => h' p = some (.lst []) ∧ D.rt (.bl false) h') (fun e h' => e.cls = "NoWorth" ∧ e.arg = none ∧ D.rt (.bl true) h') := by simp only [wpSs, wpS]
theorem w_seta {r : Ss} {f : Str} : wpSs G Ex (.cons (.seta a f b) r) env h D = wpE G Ex b env h fun y h1 => wpE G Ex a env h1 fun x h2 => ∃ a C fs, x = .loc a ∧ h2 a = some (.ins C fs) ∧ f ∈ fieldsOf C ∧ fs.length < 1000 ∧ wpSs G Ex r env (h2.put a (.ins C (putFP f y fs))) D := by simp only [wpSs, wpS]
theorem w_pass {r : Ss} : wpSs G Ex (.cons .pass r) env h D = wpSs G Ex r env h D := by simp only [wpSs, wpS]
theorem w_ife {s t r : Ss} : wpSs G Ex (.cons (.ife c s t) r) env h D = wpT G Ex c env h fun k h1 =>
    if k = true then wpSs G Ex s env h1 { D with nx := fun env' h' => wpSs G Ex r env' h' D } else wpSs G Ex t env h1 { D with nx := fun env' h' => wpSs G Ex r env' h' D } := by simp only [wpSs, wpS]
theorem w_for {t : Tg} {it : It} {s r : Ss} : wpSs G Ex (.cons (.for t it s) r) env h D = wpIt G Ex it env h fun S h1 =>
    forW S.stays (fun x env' h2 D' => tgW t x env' fun env2 => wpSs G Ex s env2 h2 D') { D with nx := fun env' h' => wpSs G Ex r env' h' D } S.xs env h1 := by simp only [wpSs, wpS]
theorem w_while {s r : Ss} : wpSs G Ex (.cons (.while c s) r) env h D = ∃ n, whileW (fun env' h' Q => wpT G Ex c env' h' Q) (fun env' h' D' => wpSs G Ex s env' h' D') { D with nx := fun env' h' => wpSs G Ex r env' h' D } n env h := by simp only [wpSs, wpS]
@[simp] theorem rd_i {i : Int} : rd h (.int i) = .int i := rfl
@[simp] theorem rd_b {i : Bool} : rd h (.bl i) = .bl i := rfl
@[simp] theorem rd_s {i : Str} : rd h (.str i) = .str i := rfl
@[simp] theorem rd_n : rd h .non = .non := rfl
@[simp] theorem rd_t {xs : List PV} : rd h (.tup xs) = .tup xs := rfl
@[simp] theorem rd_l {xs : List PV} : rd h (.lst xs) = .lst xs := rfl
@[simp] theorem rd_d {xs ys : List PV} : rd h (.dct xs ys) = .dct xs ys := rfl
@[simp] theorem seqT_t {xs : List PV} : seqT h (.tup xs) = some xs := rfl
@[simp] theorem seqT_l {xs : List PV} : seqT h (.lst xs) = some xs := rfl
@[simp] theorem srcV_t {xs : List PV} : srcV h (.tup xs) = some ⟨xs, []⟩ := rfl
@[simp] theorem srcV_l {xs : List PV} : srcV h (.lst xs) = some ⟨xs, []⟩ := rfl
@[simp] theorem lstV_l {xs : List PV} : lstV h (.lst xs) = some ⟨xs, []⟩ := rfl
@[simp] theorem stays_nil {xs : List PV} : Src.stays ⟨xs, []⟩ h = True := by simp [Src.stays]
theorem rd_loc {p : Addr} {xs : List PV} (e : h p = some (.lst xs)) : rd h (.loc p) = .lst xs := by simp [rd, e]
theorem seqT_loc {p : Addr} {xs : List PV} (e : h p = some (.lst xs)) : seqT h (.loc p) = some xs := by simp [seqT, rd, e]
theorem srcV_loc {p : Addr} {xs : List PV} (e : h p = some (.lst xs)) : srcV h (.loc p) = some ⟨xs, [(p, xs)]⟩ := by simp [srcV, e]
theorem lstV_loc {p : Addr} {xs : List PV} (e : h p = some (.lst xs)) : lstV h (.loc p) = some ⟨xs, [(p, xs)]⟩ := by simp [lstV, srcV, e]
@[simp] theorem put_at {p : Addr} {x : Cell} : (h.put p x) p = some x := if_pos rfl
@[simp] theorem put_put {p : Addr} {x y : Cell} : (h.put p x).put p y = h.put p y := by
  funext q
  unfold MH.put
  split <;> rfl
theorem put_off {p q : Addr} {x : Cell} (n : q ≠ p) : (h.put p x) q = h q := if_neg n
@[simp] theorem bin_add {i j : Int} : binW .Add (.int i) (.int j) h Q = Q (.int (i + j)) h := rfl
@[simp] theorem bin_sub {i j : Int} : binW .Sub (.int i) (.int j) h Q = Q (.int (i - j)) h := rfl
@[simp] theorem bin_mul {i j : Int} : binW .Mult (.int i) (.int j) h Q = ((i.natAbs < 2 ^ 64 ∨ j.natAbs < 2 ^ 64 ∨ i.natAbs.log2 + j.natAbs.log2 < 1000000) ∧ Q (.int (i * j)) h) := rfl
@[simp] theorem bin_div {i j : Int} : binW .FloorDiv (.int i) (.int j) h Q = if 0 < j then (j < 2 ^ 256 ∨ j.natAbs.log2 < 9000) ∧ Q (.int (i / j)) h else (j ≠ 0 ∧ (-j < 2 ^ 256 ∨ j.natAbs.log2 < 9000)) ∧ Q (.int (i.fdiv j)) h := rfl
@[simp] theorem bin_mod {i j : Int} : binW .Mod (.int i) (.int j) h Q = (0 < j ∧ Q (.int (i % j)) h) := rfl
@[simp] theorem bin_pow {i j : Int} : binW .Pow (.int i) (.int j) h Q = ((0 ≤ j ∧ j ≤ 1000000 ∧ i.natAbs < 2 ^ 64) ∧ Q (.int (i ^ j.toNat)) h) := rfl
@[simp] theorem bin_addL {xs ys : List PV} : binW .Add (.lst xs) (.lst ys) h Q = (xs.length + ys.length ≤ sizeLine ∧ Q (.lst (xs ++ ys)) h) := rfl
@[simp] theorem bin_addT {xs ys : List PV} : binW .Add (.tup xs) (.tup ys) h Q = (xs.length + ys.length ≤ sizeLine ∧ Q (.tup (xs ++ ys)) h) := rfl
@[simp] theorem bin_addS {xs ys : Str} : binW .Add (.str xs) (.str ys) h Q = (xs.length + ys.length ≤ sizeLine ∧ Q (.str (xs ++ ys)) h) := rfl
@[simp] theorem bin_mulT {xs : List PV} {n : Int} : binW .Mult (.tup xs) (.int n) h Q = ((n = 0 ∨ n = 1) ∧ Q (.tup (if n = 0 then [] else xs)) h) := rfl
@[simp] theorem bin_mulS {a : Str} {n : Int} : binW .Mult (.str a) (.int n) h Q = ((n = 0 ∨ n = 1) ∧ Q (.str (if n = 0 then "" else a)) h) := rfl
@[simp] theorem bin_mulL {xs : List PV} {n : Int} : binW .Mult (.lst xs) (.int n) h Q = ((n * xs.length ≤ sizeLine ∧ n ≤ sizeLine ∧ -(2 ^ 63) ≤ n) ∧ Q (.lst (List.flatten (List.replicate n.toNat xs))) h) := rfl
@[simp] theorem cmp_lt {i j : Int} : cmpW .Lt (.int i) (.int j) h T = T (decide (i < j)) h := rfl
@[simp] theorem cmp_le {i j : Int} : cmpW .LtE (.int i) (.int j) h T = T (decide (i ≤ j)) h := rfl
@[simp] theorem cmp_gt {i j : Int} : cmpW .Gt (.int i) (.int j) h T = T (decide (j < i)) h := rfl
@[simp] theorem cmp_ge {i j : Int} : cmpW .GtE (.int i) (.int j) h T = T (decide (j ≤ i)) h := rfl
theorem eqOk_int {i : Int} : eqOk (.int i) := ⟨rfl, rfl⟩
theorem eqOk_bl {i : Bool} : eqOk (.bl i) := ⟨rfl, rfl⟩
theorem eqOk_non : eqOk .non := ⟨rfl, rfl⟩
@[simp] theorem eq_ii {i j : Int} : cmpW .Eq (.int i) (.int j) h T = T (decide (i = j)) h := by
  have e : eqP (.int i) (.int j) = decide (i = j) := by simp only [eqP, toD, PyData.eqv]; rw [Bool.eq_iff_iff]; simp
  simp [cmpW, eqW, eqOk_int, e]
@[simp] theorem ne_ii {i j : Int} : cmpW .NotEq (.int i) (.int j) h T = T (decide (i ≠ j)) h := by
  have e : eqP (.int i) (.int j) = decide (i = j) := by simp only [eqP, toD, PyData.eqv]; rw [Bool.eq_iff_iff]; simp
  simp [cmpW, neW, eqOk_int, e]
@[simp] theorem eq_bb {i j : Bool} : cmpW .Eq (.bl i) (.bl j) h T = T (decide (i = j)) h := by
  have e : eqP (.bl i) (.bl j) = decide (i = j) := by simp only [eqP, toD, PyData.eqv]; rw [Bool.eq_iff_iff]; simp
  simp [cmpW, eqW, eqOk_bl, e]
@[simp] theorem eq_ss {a b : Str} : cmpW .Eq (.str a) (.str b) h T = T (decide (a = b)) h := rfl
@[simp] theorem ne_ss {a b : Str} : cmpW .NotEq (.str a) (.str b) h T = T (!decide (a = b)) h := rfl
@[simp] theorem ne_t0 {xs : List PV} : cmpW .NotEq (.tup xs) (.tup []) h T = T (!xs.isEmpty) h := rfl
@[simp] theorem eq_t0 {xs : List PV} : cmpW .Eq (.tup xs) (.tup []) h T = T xs.isEmpty h := rfl
@[simp] theorem eq_l0 {xs : List PV} : cmpW .Eq (.lst xs) (.lst []) h T = T xs.isEmpty h := rfl
@[simp] theorem ne_l0 {xs : List PV} : cmpW .NotEq (.lst xs) (.lst []) h T = T (!xs.isEmpty) h := rfl
theorem eq_ll_of {xs ys : List PV} (q : (eqOk (.lst xs) ∧ eqOk (.lst ys)) ∧ T (eqP (.lst xs) (.lst ys)) h) : cmpW .Eq (.lst xs) (.lst ys) h T := by
  cases ys with
  | nil =>
    have e : eqP (.lst xs) (.lst []) = xs.isEmpty := by
      cases xs <;> simp [eqP, toD, toDs, PyData.eqv, PyData.eqvAll]
    rw [e] at q
    exact q.2
  | cons y r => exact q
@[simp] theorem eq_ll {xs ys : List PV} {y : PV} : cmpW .Eq (.lst xs) (.lst (y :: ys)) h T = ((eqOk (.lst xs) ∧ eqOk (.lst (y :: ys))) ∧ T (eqP (.lst xs) (.lst (y :: ys))) h) := rfl
@[simp] theorem tru_b {b : Bool} : truW (.bl b) h T = T b h := rfl
@[simp] theorem tru_i {i : Int} : truW (.int i) h T = T (decide (i ≠ 0)) h := rfl
@[simp] theorem tru_t {xs : List PV} : truW (.tup xs) h T = T (!xs.isEmpty) h := rfl
@[simp] theorem tru_l {xs : List PV} : truW (.lst xs) h T = T (!xs.isEmpty) h := rfl
@[simp] theorem tru_n : truW .non h T = T false h := rfl
@[simp] theorem idx_t {xs : List PV} {k : Int} : idxW (.tup xs) (.int k) h Q = ∃ v, L2.atI xs k = some v ∧ Q v h := rfl
@[simp] theorem idx_l {xs : List PV} {k : Int} : idxW (.lst xs) (.int k) h Q = ∃ v, L2.atI xs k = some v ∧ Q v h := rfl
theorem idx_p {p : Addr} {xs : List PV} {k : Int} (e : h p = some (.lst xs)) : idxW (.loc p) (.int k) h Q = ∃ v, L2.atI xs k = some v ∧ Q v h := by simp [idxW, rd, e]
@[simp] theorem newL_f {xs : List PV} : newL false xs h Q = (xs.length ≤ sizeLine ∧ Q (.lst xs) h) := rfl
@[simp] theorem newL_t {xs : List PV} : newL true xs h Q = (xs.length ≤ sizeLine ∧ ∀ p, h p = none → Q (.loc p) (h.put p (.lst xs))) := rfl
@[simp] theorem tg_name {i : Nat} {v : PV} {K : Env → Prop} : tgW (.name i) v env K = K (env.set i (some v)) := rfl
@[simp] theorem tg_two {s t : Tg} {x y : PV} {K : Env → Prop} : tgW (.tup2 s t) (.tup [x, y]) env K = tgW s x env fun e1 => tgW t y e1 K := propext ⟨fun ⟨_, _, e, q⟩ => by cases e; exact q, fun q => ⟨_, _, rfl, q⟩⟩
@[simp] theorem tg_three {s t u : Tg} {x y z : PV} {K : Env → Prop} : tgW (.tup3 s t u) (.tup [x, y, z]) env K = tgW s x env fun e1 => tgW t y e1 fun e2 => tgW u z e2 K := propext ⟨fun ⟨_, _, _, e, q⟩ => by cases e; exact q, fun q => ⟨_, _, _, rfl, q⟩⟩
@[simp] theorem tg_four {s t u v : Tg} {x y z w : PV} {K : Env → Prop} : tgW (.tup4 s t u v) (.tup [x, y, z, w]) env K = tgW s x env fun e1 => tgW t y e1 fun e2 => tgW u z e2 fun e3 => tgW v w e3 K := propext ⟨fun ⟨_, _, _, _, e, q⟩ => by cases e; exact q, fun q => ⟨_, _, _, _, rfl, q⟩⟩
@[simp] theorem zip_t {xs ys : List PV} : zipV h (.tup xs) (.tup ys) = some (⟨xs, []⟩, ⟨ys, []⟩) := rfl
@[simp] theorem zip_l {xs ys : List PV} : zipV h (.lst xs) (.lst ys) = some (⟨xs, []⟩, ⟨ys, []⟩) := rfl
@[simp] theorem con_list {m : Bool} {xs : List PV} : conW .list m xs h Q = newL m xs h Q := rfl
@[simp] theorem con_tup {m : Bool} {xs : List PV} : conW .tuple m xs h Q = Q (.tup xs) h := rfl
@[simp] theorem con_sorted {m : Bool} {xs : List PV} : conW .sorted m xs h Q = (sortOk xs ∧ newL m (xs.mergeSort leP) h Q) := rfl
theorem dcell_t {p : Addr} {ps : List (List PV × PV)} (e : h p = some (.dtt ps)) : dcell h (.loc p) = some ps := by simp [dcell, e]
theorem dcell_f {p : Addr} {ps : List (List PV × PV)} (e : h p = some (.dtf ps)) : dcell h (.loc p) = some ps := by simp [dcell, e]
theorem in_d {p : Addr} {ps : List (List PV × PV)} {key : List PV} (e : dcell h (.loc p) = some ps) : inW (.tup key) (.loc p) h T = (key.all isKey = true ∧ T (lookP (ps.map (·.1)) (ps.map (·.2)) key).isSome h) := by
  refine propext ⟨fun q => ?_, fun ⟨a, q⟩ => ?_⟩
  · simp only [inW, e] at q
    obtain ⟨k, ek, q⟩ := q
    cases ek
    exact q
  · simp only [inW, e]
    exact ⟨_, rfl, a, q⟩
theorem keys_d {p : Addr} {ps : List (List PV × PV)} {L : Src → MH → Prop} (e : dcell h (.loc p) = some ps) (q : ps.length ≤ sizeLine → L ⟨ps.map fun p => .tup p.1, []⟩ (h.put p (.dtf ps))) : keysW (.loc p) h L := by
  have k0 : kcell h (.loc p) = none := by
    unfold dcell at e
    unfold kcell
    simp only at e ⊢
    split at e
    · rename_i e1; rw [e1]
    · rename_i e1; rw [e1]
    · cases e
  unfold keysW
  simp only [k0]
  exact ⟨ps, e, q⟩
theorem kcell_d {p : Addr} {ps : List (PV × PV)} (e : h p = some (.dct ps)) : kcell h (.loc p) = some ps := by simp [kcell, e]
theorem kcell_f {p : Addr} {ps : List (PV × PV)} (e : h p = some (.dcf ps)) : kcell h (.loc p) = some ps := by simp [kcell, e]
theorem keys_k {p : Addr} {ps : List (PV × PV)} {L : Src → MH → Prop} (e : kcell h (.loc p) = some ps) (q : ps.length ≤ sizeLine → L ⟨ps.map (·.1), []⟩ (h.put p (.dcf ps))) : keysW (.loc p) h L := by
  unfold keysW
  simp only [e]
  exact q
theorem in_k {p : Addr} {ps : List (PV × PV)} {x : PV} (e : kcell h (.loc p) = some ps) (hk : isKey x = true) (q : T (lookK (ps.map (·.1)) (ps.map (·.2)) x).isSome h) : inW x (.loc p) h T := by
  have k0 : dcell h (.loc p) = none := by
    unfold kcell at e
    unfold dcell
    simp only at e ⊢
    split at e
    · rename_i e1; rw [e1]
    · rename_i e1; rw [e1]
    · cases e
  simp only [inW, k0, e]
  exact ⟨hk, q⟩
@[simp] theorem slc_t {xs : List PV} {l u : Option Int} : slcW (.tup xs) l u h Q = Q (.tup (slcW.cutP xs l u)) h := rfl
@[simp] theorem slc_l {xs : List PV} {l u : Option Int} : slcW (.lst xs) l u h Q = Q (.lst (slcW.cutP xs l u)) h := rfl
@[simp] theorem rev_t {xs : List PV} : revW (.tup xs) h Q = Q (.tup xs.reverse) h := rfl
@[simp] theorem rev_l {xs : List PV} : revW (.lst xs) h Q = Q (.lst xs.reverse) h := rfl
@[simp] theorem optI_n : optI none = some none := rfl
@[simp] theorem optI_i {i : Int} : optI (some (.int i)) = some (some i) := rfl
@[simp] theorem dct1_i {i : Int} {v : PV} : dct1W (.int i) v h Q = Q (.dct [.int i] [v]) h := rfl
@[simp] theorem isN_n {n : Bool} : isNW .non n h T = T (!n) h := rfl
@[simp] theorem isB_b {x b n : Bool} : isBW (.bl x) b n h T = T ((x == b) != n) h := rfl
@[simp] theorem b_abs {i : Int} : bltW .abs [.int i] h Q = Q (.int (if i < 0 then -i else i)) h := rfl
@[simp] theorem b_int {i : Int} : bltW .int [.int i] h Q = Q (.int i) h := rfl
@[simp] theorem b_intb {i : Bool} : bltW .int [.bl i] h Q = Q (.int (if i then 1 else 0)) h := rfl
@[simp] theorem b_lent {xs : List PV} : bltW .len [.tup xs] h Q = Q (.int xs.length) h := by simp [bltW]
@[simp] theorem b_lenl {xs : List PV} : bltW .len [.lst xs] h Q = Q (.int xs.length) h := by simp [bltW]
theorem b_lenp {p : Addr} {xs : List PV} (e : h p = some (.lst xs)) : bltW .len [.loc p] h Q = Q (.int xs.length) h := by simp [bltW, seqT_loc e]
@[simp] theorem b_max {i j : Int} : bltW .max2 [.int i, .int j] h Q = Q (.int (if j > i then j else i)) h := rfl
@[simp] theorem b_min {i j : Int} : bltW .min2 [.int i, .int j] h Q = Q (.int (if j < i then j else i)) h := rfl
@[simp] theorem b_repr {v : PV} : bltW .repr [v] h Q = (reprOk v ∧ Q (.str (toD v).shown) h) := rfl
@[simp] theorem b_stri {i : Int} : bltW .str [.int i] h Q = (i.natAbs.log2 < 1920 ∧ Q (.str (toString i)) h) := rfl
def isTb (t : String) (v : PV) : Bool := (isT t v).getD false
theorem isT_pur {t : String} {v : PV} (h : pur v = true) : isT t v = some (isTb t v) := by cases v <;> first | rfl | cases h
theorem rd_pur {v : PV} (hv : pur v = true) : rd h v = v := by cases v <;> first | rfl | cases hv
theorem isi_w {t : String} {v : PV} (hv : pur v = true) (ht : tyB t = true) (q : T (isTb t v) h) : isiW v t h T := ⟨_, tyB_cls ht, by rw [rd_pur hv]; exact isT_pur hv, q⟩
theorem isi_eq {t : String} {v : PV} (hv : pur v = true) (ht : tyB t = true) : isiW v t h T = T (isTb t v) h := by
  refine propext ⟨fun ⟨b, _, e, q⟩ => ?_, isi_w hv ht⟩
  rw [rd_pur hv, isT_pur hv] at e
  cases e
  exact q
end
theorem atI_nat {α : Type} (xs : List α) (n : Nat) : L2.atI xs (n : Int) = xs[n]? := by
  unfold L2.atI L2.ixN
  rw [if_pos (by omega)]
  by_cases h : (n : Int) < (xs.length : Nat)
  · rw [if_pos h]; simp
  · rw [if_neg h, List.getElem?_eq_none (by omega)]; rfl
theorem atI_int {α : Type} (xs : List α) {i : Int} (h0 : 0 ≤ i) : L2.atI xs i = xs[i.toNat]? := by
  have e : i = (i.toNat : Int) := by omega
  conv => lhs; rw [e]
  exact atI_nat xs _
@[simp] theorem atI_0 {α : Type} {xs : List α} : L2.atI xs 0 = xs[0]? := atI_nat xs 0
@[simp] theorem atI_1 {α : Type} {xs : List α} : L2.atI xs 1 = xs[1]? := atI_nat xs 1
@[simp] theorem atI_2 {α : Type} {xs : List α} : L2.atI xs 2 = xs[2]? := atI_nat xs 2
@[simp] theorem atI_3 {α : Type} {xs : List α} : L2.atI xs 3 = xs[3]? := atI_nat xs 3
@[simp] theorem atI_4 {α : Type} {xs : List α} : L2.atI xs 4 = xs[4]? := atI_nat xs 4
@[simp] theorem atI_5 {α : Type} {xs : List α} : L2.atI xs 5 = xs[5]? := atI_nat xs 5
@[simp] theorem atI_6 {α : Type} {xs : List α} : L2.atI xs 6 = xs[6]? := atI_nat xs 6
@[simp] theorem atI_7 {α : Type} {xs : List α} : L2.atI xs 7 = xs[7]? := atI_nat xs 7
@[simp] theorem atI_8 {α : Type} {xs : List α} : L2.atI xs 8 = xs[8]? := atI_nat xs 8
@[simp] theorem atI_9 {α : Type} {xs : List α} : L2.atI xs 9 = xs[9]? := atI_nat xs 9
@[simp] theorem atI_10 {α : Type} {xs : List α} : L2.atI xs 10 = xs[10]? := atI_nat xs 10
@[simp] theorem atI_11 {α : Type} {xs : List α} : L2.atI xs 11 = xs[11]? := atI_nat xs 11
theorem atI_m1 {α : Type} {xs : List α} (h : xs ≠ []) : L2.atI xs (-1) = xs[xs.length - 1]? := by
  have l : 0 < xs.length := List.length_pos_iff.mpr h
  unfold L2.atI L2.ixN
  rw [if_neg (by omega), if_pos (by omega)]
  have e : (-1 + (xs.length : Int)).toNat = xs.length - 1 := by omega
  simp [e]
theorem rng_ok {m : Nat} (h : m ≤ 1000000) : RngOk 0 (m : Int) ∧ m ≤ sizeLine ∧ (rngV 0 (m : Int)).length ≤ sizeLine := by
  refine ⟨⟨by decide, by decide, by omega, by omega⟩, by rw [PySem.sizeLine_eq]; omega, ?_⟩
  rw [rngV_len, PySem.sizeLine_eq]; omega
theorem call_body {tab : Str → Option Df} {k : Nat} {f : Str} {d : Df} {xs : List PV} {h : MH} {Q : Post} {E : XQ} (ht : tab f = some d) (hl : xs.length = d.n)
    (q : wpSs (callW tab k) (fun e _ h' => retX E e h') d.body (startE d xs) h { nx := fun _ h' => retW Q .non h', rt := retW Q }) : callW tab (k + 1) f xs h Q E := ⟨d, E, ht, hl, fun _ _ q => q, q⟩
theorem ret_same {Q : Post} {v : PV} {h : MH} (q : Q v h) : retW Q v h := ⟨fun _ => False, v, h, fun _ z => z.elim, .same v, fun _ c e => ⟨fun z => z, c, e, .same c⟩, q⟩
theorem ret_drop {Q : Post} {v : PV} {h h2 : MH} (le : HLe h2 h) (q : Q v h2) : retW Q v h := ⟨fun _ => False, v, h2, fun _ z => z.elim, .same v, fun a c e => ⟨fun z => z, c, le a c e, .same c⟩, q⟩
theorem hle_refl {h : MH} : HLe h h := fun _ _ e => e
theorem hle_put {h h2 : MH} {p : Addr} {c : Cell} (hn : h p = none) (le : HLe h h2) : HLe h (h2.put p c) := fun a x e => by
  have ne : a ≠ p := fun z => by subst z; rw [hn] at e; cases e
  rw [put_off ne]
  exact le a x e
theorem hle_trans {a b c : MH} (x : HLe a b) (y : HLe b c) : HLe a c := fun p o e => y p o (x p o e)
theorem hle_mono {h h2 : MH} {p : Addr} {c : Cell} (le : HLe h h2) : HLe (h.put p c) (h2.put p c) := fun a x e => by
  by_cases z : a = p
  · subst z; rw [put_at] at e ⊢; exact e
  · rw [put_off z] at e ⊢; exact le a x e
theorem put_comm {h : MH} {p q : Addr} {x y : Cell} (n : p ≠ q) : (h.put p x).put q y = (h.put q y).put p x := by
  funext r
  unfold MH.put
  by_cases a : r = p
  · subst a; simp [n]
  · simp [a]
theorem for_inv {st : MH → Prop} {turn : PV → Env → MH → En → Prop} {D : En} : ∀ {xs : List PV} (I : Nat → Env → MH → Prop) {env : Env} {h : MH} (i0 : Nat), I i0 env h → (∀ i e h, I i e h → st h) →
    (∀ i x e h (N : Env → MH → Prop), xs[i - i0]? = some x → i0 ≤ i → I i e h → (∀ e' h', I (i + 1) e' h' → N e' h') → turn x e h { D with nx := N, ct := N, bk := D.nx }) → (∀ e h, I (i0 + xs.length) e h → D.nx e h) → forW st turn D xs env h
  | [], I, env, h, i0, h0, hs, _, fin => ⟨hs _ _ _ h0, fin _ _ h0⟩
  | x :: r, I, env, h, i0, h0, hs, step, fin => by
    refine ⟨hs _ _ _ h0, ?_⟩
    refine step i0 x env h _ (by simp) (Nat.le_refl _) h0 fun e' h' h1 => ?_
    refine for_inv I (i0 + 1) h1 hs (fun i y e h N hy hi hI k => ?_) (fun e h z => fin e h (by rw [List.length_cons]; rwa [Nat.add_assoc, Nat.add_comm 1] at z))
    refine step i y e h N ?_ (by omega) hI k
    have : i - i0 = (i - (i0 + 1)) + 1 := by omega
    rw [this, List.getElem?_cons_succ]
    exact hy
theorem for_all {st : MH → Prop} {turn : PV → Env → MH → En → Prop} {D : En} {xs : List PV} {env : Env} {h : MH} (I : Nat → Env → MH → Prop) (h0 : I 0 env h) (hs : ∀ i e h, I i e h → st h)
    (step : ∀ i x e h (N : Env → MH → Prop), xs[i]? = some x → I i e h → (∀ e' h', I (i + 1) e' h' → N e' h') → turn x e h { D with nx := N, ct := N, bk := D.nx }) (fin : ∀ e h, I xs.length e h → D.nx e h) : forW st turn D xs env h :=
  for_inv I 0 h0 hs (fun i x e h N hx _ hI k => step i x e h N (by simpa using hx) hI k) (fun e h z => fin e h (by simpa using z))
theorem comp_pure {st : MH → Prop} {turn : PV → MH → (Option PV → MH → Prop) → Prop} {h : MH} (f : PV → Option PV) (hs : st h) : ∀ {xs : List PV} {K : List PV → MH → Prop}, (∀ x ∈ xs, ∀ R : Option PV → MH → Prop, R (f x) h → turn x h R) → K (xs.filterMap f) h → compW st turn xs h K
  | [], _, _, k => ⟨hs, k⟩
  | x :: r, K, ht, k => by
    refine ⟨hs, ht x (List.mem_cons_self ..) _ ?_⟩
    refine comp_pure f hs (fun y hy => ht y (List.mem_cons_of_mem _ hy)) ?_
    cases e : f x with
    | none => rw [List.filterMap_cons_none e] at k; exact k
    | some y => rw [List.filterMap_cons_some e] at k; exact k
theorem while_inv {c : Env → MH → (Bool → MH → Prop) → Prop} {body : Env → MH → En → Prop} {D : En} (I : Nat → Env → MH → Prop) (step : ∀ n e h (N : Env → MH → Prop), I n e h → (∀ e' h' m, m < n → I m e' h' → N e' h') → c e h fun k h1 => if k = true then body e h1 { D with nx := N, ct := N, bk := D.nx } else D.nx e h1)
    (mc : ∀ e h Q Q', (∀ v h, Q v h → Q' v h) → c e h Q → c e h Q') (mb : ∀ e h D D', EnLe D D' → body e h D → body e h D') : ∀ (n : Nat) (env : Env) (h : MH), I n env h → whileW c body D (n + 1) env h := by
  have up : ∀ n env h, whileW c body D n env h → whileW c body D (n + 1) env h := by
    intro n
    induction n with
    | zero => intro _ _ z; exact z.elim
    | succ n ih =>
      intro env h z
      refine mc _ _ _ _ (fun k h1 q => ?_) z
      cases k with
      | true =>
        have le : EnLe { D with nx := whileW c body D n, ct := whileW c body D n, bk := D.nx } { D with nx := whileW c body D (n + 1), ct := whileW c body D (n + 1), bk := D.nx } :=
          ⟨fun e' h' q => ih e' h' q, fun _ _ q => q, fun _ _ q => q, fun e' h' q => ih e' h' q⟩
        exact mb _ _ _ _ le q
      | false => exact q
  have upm : ∀ m n env h, n ≤ m → whileW c body D n env h → whileW c body D m env h := by
    intro m
    induction m with
    | zero => intro n env h le z; cases n with
      | zero => exact z
      | succ n => omega
    | succ m ih =>
      intro n env h le z
      by_cases e : n = m + 1
      · subst e; exact z
      · exact up _ _ _ (ih n env h (by omega) z)
  intro n
  induction n using Nat.strongRecOn with
  | ind n ih =>
    intro env h hI
    exact step n env h _ hI fun e' h' m hm hI' => upm n (m + 1) e' h' (by omega) (ih m hm e' h' hI')
theorem comp_inv0 {st : MH → Prop} {turn : PV → MH → (Option PV → MH → Prop) → Prop} : ∀ {xs : List PV} {h : MH} {K : List PV → MH → Prop} (I : Nat → List PV → MH → Prop) (i0 : Nat) (acc0 : List PV), I i0 acc0 h → (∀ i acc h, I i acc h → st h) →
    (∀ i x acc h (R : Option PV → MH → Prop), xs[i - i0]? = some x → i0 ≤ i → I i acc h → (∀ o h', I (i + 1) (acc ++ o.toList) h' → R o h') → turn x h R) → (∀ acc h', I (i0 + xs.length) (acc0 ++ acc) h' → K acc h') → compW st turn xs h K
  | [], h, K, I, i0, acc0, h0, hs, _, fin => ⟨hs _ _ _ h0, fin [] h (by simpa using h0)⟩
  | x :: r, h, K, I, i0, acc0, h0, hs, step, fin => by
    refine ⟨hs _ _ _ h0, step i0 x acc0 h _ (by simp) (Nat.le_refl _) h0 fun o h' h1 => ?_⟩
    refine comp_inv0 I (i0 + 1) (acc0 ++ o.toList) h1 hs (fun i y acc h R hy hi hI k => ?_) (fun acc h' z => ?_)
    · refine step i y acc h R ?_ (by omega) hI k
      have : i - i0 = (i - (i0 + 1)) + 1 := by omega
      rw [this, List.getElem?_cons_succ]
      exact hy
    · refine fin _ _ ?_
      rw [List.length_cons, ← List.append_assoc]
      rwa [Nat.add_assoc, Nat.add_comm 1] at z
theorem comp_inv {st : MH → Prop} {turn : PV → MH → (Option PV → MH → Prop) → Prop} {xs : List PV} {h : MH} {K : List PV → MH → Prop} (I : Nat → List PV → MH → Prop) (h0 : I 0 [] h) (hs : ∀ i acc h, I i acc h → st h)
    (step : ∀ i x acc h (R : Option PV → MH → Prop), xs[i]? = some x → I i acc h → (∀ o h', I (i + 1) (acc ++ o.toList) h' → R o h') → turn x h R) (fin : ∀ acc h', I xs.length acc h' → K acc h') : compW st turn xs h K :=
  comp_inv0 I 0 [] h0 hs (fun i x acc h R hx _ hI k => step i x acc h R (by simpa using hx) hI k) (fun acc h' z => fin acc h' (by simpa using z))
end MP
set_option Elab.async false
set_option linter.all false
set_option maxRecDepth 100000
set_option maxHeartbeats 1000000
namespace MP
open PySem L2
mutual
def leaf (B : Nat) : PV → Bool
  | .non | .bl _ => true
  | .int i => decide (i.natAbs ≤ B)
  | .str x => x.cps.toList.all fun c => decide (c < 16 ^ 8)
  | .tup xs | .lst xs => leafs B xs
  | .dct ks vs => leafs B ks && leafs B vs
  | .loc _ | .fn _ | .cst _ | .dtt _ _ => false
def leafs (B : Nat) : List PV → Bool
  | [] => true
  | x :: r => leaf B x && leafs B r
end
structure P1 (B d : Nat) (v : PV) : Prop where
  lf : leaf B v = true
  dp : (toD v).depth ≤ d
def wt (v : PV) : Nat := (toD v).weight
def wts (xs : List PV) : Nat := PyData.weightAll (toDs xs)
@[simp] theorem wts_nil : wts [] = 0 := by simp [wts, toDs, PyData.weightAll]
@[simp] theorem wts_cons {x : PV} {r : List PV} : wts (x :: r) = wt x + 1 + wts r := by simp [wts, wt, toDs, PyData.weightAll]
@[simp] theorem wts_append : ∀ {xs ys : List PV}, wts (xs ++ ys) = wts xs + wts ys
  | [], ys => by simp
  | x :: r, ys => by
    have e := @wts_append r ys
    simp only [List.cons_append, wts_cons, e]; omega
@[simp] theorem wt_tup {xs : List PV} : wt (.tup xs) = wts xs := by simp [wt, wts, toD, PyData.weight]
@[simp] theorem wt_lst {xs : List PV} : wt (.lst xs) = wts xs := by simp [wt, wts, toD, PyData.weight]
@[simp] theorem wt_non : wt .non = 0 := by simp [wt, toD, PyData.weight]
@[simp] theorem wt_bl {b : Bool} : wt (.bl b) = 0 := by simp [wt, toD, PyData.weight]
theorem wt_str {x : Str} : wt (.str x) = x.length := by simp only [wt, toD, PyData.weight]; rfl
theorem wt_int {i : Int} {k : Nat} (h : i.natAbs < 2 ^ k) : wt (.int i) ≤ k := by
  simp only [wt, toD, PyData.weight]
  split
  · omega
  · rename_i z
    have hz : i.natAbs ≠ 0 := by intro y; apply z; simp [Int.natAbs_eq_zero.mp y]
    have := (Nat.log2_lt hz).mpr h
    omega
@[simp] theorem wt_dct0 : wt (.dct [] []) = 0 := by simp [wt, toD, toDs, PyData.weight, PyData.weightKv]
@[simp] theorem wt_dct1 {x y : PV} : wt (.dct [x] [y]) = wt x + wt y + 2 := by simp [wt, toD, toDs, PyData.weight, PyData.weightKv]
theorem wts_take (xs : List PV) (n : Nat) : wts (xs.take n) ≤ wts xs := by
  have e : wts (xs.take n ++ xs.drop n) = wts xs := by rw [List.take_append_drop]
  rw [wts_append] at e; omega
theorem wts_drop (xs : List PV) (n : Nat) : wts (xs.drop n) ≤ wts xs := by
  have e : wts (xs.take n ++ xs.drop n) = wts xs := by rw [List.take_append_drop]
  rw [wts_append] at e; omega
theorem wts_rev (xs : List PV) : wts xs.reverse = wts xs := by
  induction xs with
  | nil => rfl
  | cons x r ih => simp [ih]; omega
theorem len_wts (xs : List PV) : xs.length ≤ wts xs := by
  induction xs with
  | nil => simp
  | cons x r ih => simp; omega
theorem wt_mem {x : PV} {xs : List PV} (h : x ∈ xs) : wt x + 1 ≤ wts xs := by
  induction xs with
  | nil => cases h
  | cons y r ih =>
    rcases List.mem_cons.mp h with e | e
    · subst e; simp
    · have := ih e; simp; omega
theorem int_shows {i : Int} (h : i.natAbs < 10 ^ 59) : (PyData.int i).leavesShort 60 = true ∧ (PyData.int i).showable = true := by
  constructor
  · simp only [PyData.leavesShort, decide_eq_true_eq]
    have e := int_text_length_le10 (k := 59) (by decide) h
    show (Str.ofString (toString i)).length ≤ 60
    rw [ofString_length]; exact e
  · simp only [PyData.showable, decide_eq_true_eq]
    by_cases z : i.natAbs = 0
    · rw [z]; decide
    · refine (Nat.log2_lt z).mpr (Nat.lt_of_lt_of_le h ?_)
      exact Nat.le_trans (Nat.pow_le_pow_left (show 10 ≤ 2 ^ 4 by decide) 59) (by rw [← Nat.pow_mul]; exact Nat.pow_le_pow_right (by decide) (by decide))
mutual
theorem leaf_ok {B : Nat} (hB : B < 10 ^ 59) : ∀ v : PV, leaf B v = true → pur v = true ∧ (toD v).leavesShort 60 = true ∧ (toD v).showable = true
  | .non, _ => ⟨rfl, rfl, rfl⟩
  | .bl _, _ => ⟨rfl, rfl, rfl⟩
  | .int i, h => by
    simp only [leaf, decide_eq_true_eq] at h
    exact ⟨rfl, int_shows (Nat.lt_of_le_of_lt h hB)⟩
  | .str x, h => ⟨rfl, by simpa only [leaf, toD, PyData.leavesShort] using h, rfl⟩
  | .tup xs, h => by
    obtain ⟨a, b, c⟩ := leafs_ok hB xs (by simpa only [leaf] using h)
    exact ⟨a, b, c⟩
  | .lst xs, h => by
    obtain ⟨a, b, c⟩ := leafs_ok hB xs (by simpa only [leaf] using h)
    exact ⟨a, b, c⟩
  | .dct ks vs, h => by
    simp only [leaf, Bool.and_eq_true] at h
    obtain ⟨a, b, c⟩ := leafs_ok hB ks h.1
    obtain ⟨a2, b2, c2⟩ := leafs_ok hB vs h.2
    have z1 : ∀ xs ys : List PyData, PyData.leavesShortAll 60 xs = true → PyData.leavesShortAll 60 ys = true → PyData.leavesShortKv 60 (xs.zip ys) = true := by
      intro xs
      induction xs with
      | nil => intro _ _ _; rfl
      | cons x r ih =>
        intro ys h1 h2
        cases ys with
        | nil => rfl
        | cons y s =>
          simp only [PyData.leavesShortAll, Bool.and_eq_true] at h1 h2
          simp only [List.zip_cons_cons, PyData.leavesShortKv, Bool.and_eq_true]
          exact ⟨⟨h1.1, h2.1⟩, ih s h1.2 h2.2⟩
    have z2 : ∀ xs ys : List PyData, PyData.showableAll xs = true → PyData.showableAll ys = true → PyData.showableKv (xs.zip ys) = true := by
      intro xs
      induction xs with
      | nil => intro _ _ _; rfl
      | cons x r ih =>
        intro ys h1 h2
        cases ys with
        | nil => rfl
        | cons y s =>
          simp only [PyData.showableAll, Bool.and_eq_true] at h1 h2
          simp only [List.zip_cons_cons, PyData.showableKv, Bool.and_eq_true]
          exact ⟨⟨h1.1, h2.1⟩, ih s h1.2 h2.2⟩
    exact ⟨by simp [pur, a, a2], z1 _ _ b b2, z2 _ _ c c2⟩
  | .loc _, h => by simp only [leaf] at h; cases h
  | .fn _, h => by simp only [leaf] at h; cases h
  | .cst _, h => by simp only [leaf] at h; cases h
  | .dtt _ _, h => by simp only [leaf] at h; cases h
theorem leafs_ok {B : Nat} (hB : B < 10 ^ 59) : ∀ xs : List PV, leafs B xs = true → purs xs = true ∧ PyData.leavesShortAll 60 (toDs xs) = true ∧ PyData.showableAll (toDs xs) = true
  | [], _ => ⟨rfl, rfl, rfl⟩
  | x :: r, h => by
    simp only [leafs, Bool.and_eq_true] at h
    obtain ⟨a, b, c⟩ := leaf_ok hB x h.1
    obtain ⟨a2, b2, c2⟩ := leafs_ok hB r h.2
    simp [purs, toDs, PyData.leavesShortAll, PyData.showableAll, a, b, c, a2, b2, c2]
end
mutual
theorem leaf_pur {B : Nat} : ∀ v : PV, leaf B v = true → pur v = true
  | .non, _ => rfl
  | .bl _, _ => rfl
  | .int i, h => rfl
  | .str x, h => rfl
  | .tup xs, h => leafs_pur xs (by simpa only [leaf] using h)
  | .lst xs, h => leafs_pur xs (by simpa only [leaf] using h)
  | .dct ks vs, h => by
    simp only [leaf, Bool.and_eq_true] at h
    simp [pur, leafs_pur ks h.1, leafs_pur vs h.2]
  | .loc _, h => by simp only [leaf] at h; cases h
  | .fn _, h => by simp only [leaf] at h; cases h
  | .cst _, h => by simp only [leaf] at h; cases h
  | .dtt _ _, h => by simp only [leaf] at h; cases h
theorem leafs_pur {B : Nat} : ∀ xs : List PV, leafs B xs = true → purs xs = true
  | [], _ => rfl
  | x :: r, h => by
    simp only [leafs, Bool.and_eq_true] at h
    simp [purs, leaf_pur x h.1, leafs_pur r h.2]
end
mutual
theorem leaf_mono {B B' : Nat} (hB : B ≤ B') : ∀ v : PV, leaf B v = true → leaf B' v = true
  | .non, _ => rfl
  | .bl _, _ => rfl
  | .int i, h => by simp only [leaf, decide_eq_true_eq] at h ⊢; omega
  | .str x, h => h
  | .tup xs, h => by simp only [leaf] at h ⊢; exact leafs_mono hB xs h
  | .lst xs, h => by simp only [leaf] at h ⊢; exact leafs_mono hB xs h
  | .dct ks vs, h => by
    simp only [leaf, Bool.and_eq_true] at h ⊢
    exact ⟨leafs_mono hB ks h.1, leafs_mono hB vs h.2⟩
  | .loc _, h => by simp only [leaf] at h; cases h
  | .fn _, h => by simp only [leaf] at h; cases h
  | .cst _, h => by simp only [leaf] at h; cases h
  | .dtt _ _, h => by simp only [leaf] at h; cases h
theorem leafs_mono {B B' : Nat} (hB : B ≤ B') : ∀ xs : List PV, leafs B xs = true → leafs B' xs = true
  | [], _ => rfl
  | x :: r, h => by
    simp only [leafs, Bool.and_eq_true] at h ⊢
    exact ⟨leaf_mono hB x h.1, leafs_mono hB r h.2⟩
end
section
variable {B d : Nat} {v x y : PV} {xs : List PV}
theorem P1.pu (p : P1 B d v) : pur v = true := leaf_pur v p.lf
theorem P1.mono {B' d' : Nat} (p : P1 B d v) (hB : B ≤ B') (h : d ≤ d') : P1 B' d' v := ⟨leaf_mono hB v p.lf, Nat.le_trans p.dp h⟩
theorem P1s : ∀ {xs : List PV}, (∀ x ∈ xs, P1 B d x) ↔ (leafs B xs = true ∧ PyData.depthAll (toDs xs) ≤ d)
  | [] => by simp [leafs, toDs, PyData.depthAll]
  | x :: r => by
    have ih := @P1s r
    simp only [leafs, toDs, PyData.depthAll, Bool.and_eq_true, List.mem_cons, forall_eq_or_imp]
    constructor
    · rintro ⟨p, q⟩
      obtain ⟨a, e⟩ := ih.mp q
      exact ⟨⟨p.lf, a⟩, Nat.max_le.mpr ⟨p.dp, e⟩⟩
    · rintro ⟨⟨a1, a2⟩, e⟩
      have e := Nat.max_le.mp e
      exact ⟨⟨a1, e.1⟩, ih.mpr ⟨a2, e.2⟩⟩
theorem P1.tup (h : ∀ x ∈ xs, P1 B d x) : P1 B (d + 1) (.tup xs) := by
  obtain ⟨a, e⟩ := P1s.mp h
  exact ⟨by simpa only [leaf] using a, Nat.succ_le_succ e⟩
theorem P1.lst (h : ∀ x ∈ xs, P1 B d x) : P1 B (d + 1) (.lst xs) := by
  obtain ⟨a, e⟩ := P1s.mp h
  exact ⟨by simpa only [leaf] using a, Nat.succ_le_succ e⟩
theorem P1.of_tup (h : P1 B (d + 1) (.tup xs)) : ∀ x ∈ xs, P1 B d x := P1s.mpr ⟨by simpa only [leaf] using h.lf, Nat.le_of_succ_le_succ h.dp⟩
theorem P1.of_lst (h : P1 B (d + 1) (.lst xs)) : ∀ x ∈ xs, P1 B d x := P1s.mpr ⟨by simpa only [leaf] using h.lf, Nat.le_of_succ_le_succ h.dp⟩
theorem P1.tup_depth (h : P1 B d (.tup xs)) : ∃ e, d = e + 1 := by
  have q := h.dp
  simp only [toD, PyData.depth] at q
  exact ⟨d - 1, by omega⟩
theorem P1.lst_depth (h : P1 B d (.lst xs)) : ∃ e, d = e + 1 := by
  have q := h.dp
  simp only [toD, PyData.depth] at q
  exact ⟨d - 1, by omega⟩
theorem P1.dct0 : P1 B (d + 1) (.dct [] []) := ⟨rfl, by simp [toD, toDs, PyData.depth, PyData.depthKv]⟩
theorem P1.dct1 (p : P1 B d x) (q : P1 B d y) : P1 B (d + 1) (.dct [x] [y]) := by
  refine ⟨by simp [leaf, leafs, p.lf, q.lf], ?_⟩
  have := p.dp
  have := q.dp
  simp only [toD, toDs, PyData.depth, PyData.depthKv, List.zip_cons_cons, List.zip_nil_right]
  omega
theorem P1.non : P1 B d .non := ⟨rfl, Nat.zero_le _⟩
theorem P1.bl {b : Bool} : P1 B d (.bl b) := ⟨rfl, Nat.zero_le _⟩
theorem P1.int {i : Int} (h : i.natAbs ≤ B) : P1 B d (.int i) := ⟨by simpa only [leaf, decide_eq_true_eq] using h, Nat.zero_le _⟩
theorem P1.of_int {i : Int} (h : P1 B d (.int i)) : i.natAbs ≤ B := by simpa only [leaf, decide_eq_true_eq] using h.lf
theorem P1.str {x : Str} (h : ∀ c ∈ x.cps.toList, c < 16 ^ 8) : P1 B d (.str x) := ⟨by simpa only [leaf, List.all_eq_true, decide_eq_true_eq] using h, Nat.zero_le _⟩
theorem P1.shown (p : P1 B d v) (hB : B < 10 ^ 59) (hd : d ≤ 64) (hw : 62 * wt v + 60 ≤ sizeLine) : reprOk v := by
  obtain ⟨a, b, c⟩ := leaf_ok hB v p.lf
  have l := PyData.shown_le 60 (by decide) (toD v) b
  exact ⟨a, c, Nat.le_trans p.dp hd, Nat.le_trans l hw⟩
end
theorem cutP_lo (xs : List PV) {i : Int} (h0 : 0 ≤ i) : slcW.cutP xs none (some i) = xs.take i.toNat := by
  have e : HT.sIx xs.length xs.length (some i) = min i.toNat xs.length := by
    show (if i < 0 then _ else min i.toNat xs.length) = _
    rw [if_neg (by omega)]
  unfold slcW.cutP
  rw [e, HT.sIx_none]
  simp only [List.drop_zero, Nat.sub_zero]
  rcases Nat.le_total i.toNat xs.length with h | h
  · rw [Nat.min_eq_left h]
  · rw [Nat.min_eq_right h, List.take_length, List.take_of_length_le h]
theorem cutP_hi (xs : List PV) {i : Int} (h0 : 0 ≤ i) : slcW.cutP xs (some i) none = xs.drop i.toNat := by
  have e : HT.sIx xs.length 0 (some i) = min i.toNat xs.length := by
    show (if i < 0 then _ else min i.toNat xs.length) = _
    rw [if_neg (by omega)]
  unfold slcW.cutP
  rw [e, HT.sIx_none]
  rcases Nat.le_total i.toNat xs.length with h | h
  · rw [Nat.min_eq_left h, List.take_of_length_le (by rw [List.length_drop]; omega)]
  · rw [Nat.min_eq_right h, Nat.sub_self, List.take_zero, List.drop_of_length_le h]
theorem cutP_mid (xs : List PV) {i j : Int} (h0 : 0 ≤ i) (h1 : 0 ≤ j) : slcW.cutP xs (some i) (some j) = (xs.drop i.toNat).take (j.toNat - i.toNat) := by
  have e : HT.sIx xs.length 0 (some i) = min i.toNat xs.length := by
    show (if i < 0 then _ else min i.toNat xs.length) = _
    rw [if_neg (by omega)]
  have e2 : HT.sIx xs.length xs.length (some j) = min j.toNat xs.length := by
    show (if j < 0 then _ else min j.toNat xs.length) = _
    rw [if_neg (by omega)]
  unfold slcW.cutP
  rw [e, e2]
  rcases Nat.le_total i.toNat xs.length with h | h
  · rw [Nat.min_eq_left h]
    rcases Nat.le_total j.toNat xs.length with g | g
    · rw [Nat.min_eq_left g]
    · rw [Nat.min_eq_right g, List.take_of_length_le (by rw [List.length_drop]; omega), List.take_of_length_le (by rw [List.length_drop]; omega)]
  · rw [Nat.min_eq_right h, List.drop_of_length_le (Nat.le_refl _), List.drop_of_length_le h]; simp
theorem boolsP_map : ∀ bs : List Bool, boolsP (bs.map PV.bl) = some bs
  | [] => rfl
  | b :: r => by simp [boolsP, boolsP_map r]
theorem toDs_ints : ∀ ns : List Int, toDs (ns.map PV.int) = ns.map PyData.int
  | [] => rfl
  | n :: r => by simp [toDs, toD, toDs_ints r]
theorem purs_ints : ∀ ns : List Int, purs (ns.map PV.int) = true
  | [] => rfl
  | n :: r => by simp [purs, pur, purs_ints r]
theorem eqv_ints : ∀ as bs : List Int, PyData.eqvAll (as.map .int) (bs.map .int) = decide (as = bs)
  | [], [] => rfl
  | [], _ :: _ => rfl
  | _ :: _, [] => rfl
  | a :: r, b :: s => by
    have ih := eqv_ints r s
    simp only [List.map_cons, PyData.eqvAll, PyData.eqv, ih]
    rw [Bool.eq_iff_iff]; simp
theorem eqOk_lints (ns : List Int) : eqOk (.lst (ns.map .int)) := by
  refine ⟨purs_ints ns, ?_⟩
  have c : ∀ ns : List Int, PyData.canLayAll0 (toDs (ns.map PV.int)) = true ∧ PyData.depthAll (toDs (ns.map PV.int)) = 0 := by
    intro ns
    induction ns with
    | nil => exact ⟨rfl, rfl⟩
    | cons n r ih => simp [toDs, toD, PyData.canLayAll0, PyData.canLay0, PyData.depthAll, PyData.depth, ih.1, ih.2]
  unfold SeqAt.shaped
  simp only [toD, PyData.canLay0, PyData.depth, (c ns).1, (c ns).2]
  decide
theorem eqP_lints (as bs : List Int) : eqP (.lst (as.map .int)) (.lst (bs.map .int)) = decide (as = bs) := by
  simp only [eqP, toD, PyData.eqv, toDs_ints]
  exact eqv_ints as bs
end MP
set_option Elab.async false
set_option linter.all false
namespace MP
open PySem PySem.Spec PyProof.Rows L2
theorem kit_ref {K : KF} {C D : Addr} {b : Bool} (ne : (Value.ref C == Value.ref D) = false) (hd : PySem.W.hasDictIn K D = true) (ht : PySem.W.typeIn K (.ref D) = some (.type "type")) (h4 : PySem.W.subIn K (.ref C) (.ref D) = some b) : PySem.W.kitOne K (.ref C) (.ref D) = some b := by
  obtain ⟨cd, hc, _⟩ := PySem.W.any_some hd
  have e2 : ((PySem.W.clsIn K D).isSome && PySem.W.typeIn K (.ref D) == some (.type "type")) = true := by rw [hc, ht] <;> rfl
  unfold PySem.W.kitOne PySem.W.kitCls
  rw [if_neg (by rw [ne]; decide)]
  dsimp only
  rw [if_pos e2]
  exact h4
theorem kit_self {K : KF} {t : Addr} : PySem.W.kitOne K (.ref t) (.ref t) = some true := by
  unfold PySem.W.kitOne
  rw [if_pos (by simp)]
theorem kit_ve {K : KF} {C : Addr} (h : PySem.W.subIn K (.ref C) (.type "ValueError") = some true) : PySem.W.kitOne K (.ref C) (.type "ValueError") = some true := by
  unfold PySem.W.kitOne PySem.W.kitCls
  rw [if_neg (by simp)]
  dsimp only
  rw [if_pos (by decide +kernel)]
  exact h
end MP
set_option Elab.async false
set_option linter.all false
set_option maxRecDepth 100000
set_option maxHeartbeats 1000000
namespace MP
open PySem L2
def d_is_whole : Df := ⟨["thing"], 1, .cons (.ret (.and (.isi (.var 0) "int") (.not (.isi (.var 0) "bool")))) .nil⟩
def d_is_order : Df := ⟨["many", "thing", "one"], 2, .cons (.ife (.or (.not (.isi (.var 1) "tuple")) (.or (.cmp .NotEq (.blt .len (.cons (.var 1) .nil)) (.var 0)) (.not (.blt .all (.cons (.comp false (.call "is_whole" (.cons (.var 2) .nil)) (.name 2) (.seq (.var 1)) .none) .nil))))) (.cons (.ret (.bl false)) .nil) (.nil)) (.cons (.ret (.cmp .Eq (.con .sorted false (.seq (.var 1))) (.con .list false (.rng1 (.var 0))))) .nil)⟩
def d__law_deck : Df := ⟨["script", "k", "cell"], 2, .cons (.asg (.name 2) (.int 0)) (.cons (.ife (.cmp .Lt (.var 1) (.blt .len (.cons (.var 0) .nil))) (.cons (.asg (.name 2) (.blt .max2 (.cons (.int 0) (.cons (.idx (.var 0) (.var 1)) .nil)))) .nil) (.nil)) (.cons (.ret (.lst true (.cons (.bin .Mult (.var 2) (.blt .int (.cons (.cmp .GtE (.var 2) (.bin .Pow (.int 10) (.int 18))) .nil))) (.cons (.bin .Add (.bin .Mod (.var 2) (.int 2147483647)) (.bin .Mult (.int 7907) (.var 1))) (.cons (.int 0) .nil))))) .nil))⟩
def d__law_draw : Df := ⟨["deck", "most", "digit", "number"], 2, .cons (.ife (.cmp .Gt (.idx (.var 0) (.int 0)) (.int 0)) (.cons (.asg (.name 2) (.bin .Mod (.idx (.var 0) (.int 0)) (.var 1))) (.cons (.sub (.var 0) (.int 0) (.bin .FloorDiv (.idx (.var 0) (.int 0)) (.var 1))) (.cons (.ret (.var 2)) .nil))) (.nil)) (.cons (.sub (.var 0) (.int 2) (.bin .Add (.idx (.var 0) (.int 2)) (.int 1))) (.cons (.asg (.name 3) (.bin .Mod (.bin .Mult (.bin .Add (.idx (.var 0) (.int 1)) (.bin .Mult (.int 104723) (.idx (.var 0) (.int 2)))) (.int 48271)) (.int 2147483647))) (.cons (.asg (.name 3) (.bin .Mod (.bin .Add (.bin .Add (.bin .Mult (.var 3) (.var 3)) (.bin .Mult (.int 69621) (.idx (.var 0) (.int 2)))) (.int 17)) (.int 2147483629))) (.cons (.ret (.bin .Mod (.bin .FloorDiv (.bin .Mod (.bin .Add (.bin .Mult (.var 3) (.var 3)) (.int 32749)) (.int 2147483587)) (.int 8)) (.var 1))) .nil))))⟩
def d__law_turn : Df := ⟨["deck", "many", "left", "found", "k"], 2, .cons (.asg (.name 2) (.con .list true (.rng1 (.var 1)))) (.cons (.asg (.name 3) (.lst true (.nil))) (.cons (.for (.name 4) (.rng1 (.var 1)) (.cons (.ex (.meth (.var 3) .append (.cons (.meth (.var 2) .pop1 (.cons (.call "_law_draw" (.cons (.var 0) (.cons (.blt .len (.cons (.var 2) .nil)) .nil))) .nil)) .nil))) .nil)) (.cons (.ret (.con .tuple false (.seq (.var 3)))) .nil)))⟩
def d__law_whole : Df := ⟨["thing"], 1, .cons (.ret (.and (.isi (.var 0) "int") (.not (.isi (.var 0) "bool")))) .nil⟩
variable {tab : Str → Option Df} {k : Nat} {h : MH} {Q : Post} {E : XQ}
def whole : PV → Bool
  | .int _ => true
  | _ => false
theorem whole_eq (v : PV) : (isTb "int" v && !isTb "bool" v) = whole v := by cases v <;> rfl
theorem is_whole_ok (ht : tab "is_whole" = some d_is_whole) {v : PV} (hv : pur v = true) (q : Q (.bl (whole v)) h) : callW tab (k + 1) "is_whole" [v] h Q E := by
  refine call_body ht rfl ?_
  rw [d_is_whole, w_ret]
  simp only [startE]
  simp [isi_eq hv, tyB]
  have e := whole_eq v
  split <;> (refine ret_same ?_; simp_all)
theorem law_draw_ok (ht : tab "_law_draw" = some d__law_draw) {p : Addr} {a b c m : Int} (hp : h p = some (.lst [.int a, .int b, .int c])) (h1 : 0 < m) (h2 : m < 1073741824)
    (q : ∀ r a' b' c', 0 ≤ r → r < m → Q (.int r) (h.put p (.lst [.int a', .int b', .int c']))) : callW tab (k + 1) "_law_draw" [.loc p, .int m] h Q E := by
  refine call_body ht rfl ?_
  rw [d__law_draw, w_ife]
  simp only [startE]
  simp [idx_p hp]
  split
  · rw [w_asg]
    simp [idx_p hp, h1]
    rw [w_sub]
    simp [idx_p hp, h1, h2, subW, hp, L2.ixN]
    refine ⟨.inl (by omega), ?_⟩
    rw [w_ret]
    simp
    exact ret_same (q _ _ _ _ (Int.emod_nonneg _ (by omega)) (Int.emod_lt_of_pos _ h1))
  · rw [w_nil]
    simp
    rw [w_sub]
    simp [idx_p hp, h1, h2, subW, hp, L2.ixN]
    rw [w_asg]
    simp [idx_p put_at, h1, h2]
    rw [w_asg]
    simp [idx_p put_at, h1, h2]
    refine ⟨by omega, ?_⟩
    rw [w_ret]
    simp [h1]
    refine ⟨by omega, ret_same (q _ _ _ _ (Int.emod_nonneg _ (by omega)) (Int.emod_lt_of_pos _ h1))⟩
theorem atI_ints {ns : List Int} {i : Int} (h0 : 0 ≤ i) (h1 : i < ns.length) : ∃ z, L2.atI (ns.map PV.int) i = some (.int z) := by
  rw [atI_int _ h0, List.getElem?_map, List.getElem?_eq_getElem (by omega)]
  exact ⟨_, rfl⟩
theorem law_deck_ok (ht : tab "_law_deck" = some d__law_deck) {ns : List Int} {i : Int} (h0 : 0 ≤ i)
    (q : ∀ p a b, h p = none → Q (.loc p) (h.put p (.lst [.int a, .int b, .int 0]))) : callW tab (k + 1) "_law_deck" [.lst (ns.map PV.int), .int i] h Q E := by
  refine call_body ht rfl ?_
  rw [d__law_deck, w_asg]
  simp only [startE]
  simp
  rw [w_ife]
  simp
  have fin : ∀ (c : Int), wpSs (callW tab k) (fun e x h' => retX E e h') (.cons (.ret (.lst true (.cons (.bin .Mult (.var 2) (.blt .int (.cons (.cmp .GtE (.var 2) (.bin .Pow (.int 10) (.int 18))) .nil))) (.cons (.bin .Add (.bin .Mod (.var 2) (.int 2147483647)) (.bin .Mult (.int 7907) (.var 1))) (.cons (.int 0) .nil))))) .nil)
      [some (.lst (ns.map PV.int)), some (.int i), some (.int c)] h { nx := fun x h' => retW Q PV.non h', rt := retW Q } := by
    intro c
    rw [w_ret]
    simp
    refine ⟨by right; left; split <;> decide, by decide, fun p hp => ?_⟩
    exact ret_same (q p _ _ hp)
  split
  · rename_i hi
    obtain ⟨z, hz⟩ := atI_ints h0 hi
    rw [w_asg]
    simp [hz]
    rw [w_nil]
    exact fin _
  · rw [w_nil]
    exact fin _
theorem law_whole_ok (ht : tab "_law_whole" = some d__law_whole) {v : PV} (hv : pur v = true) (q : Q (.bl (whole v)) h) : callW tab (k + 1) "_law_whole" [v] h Q E := by
  refine call_body ht rfl ?_
  rw [d__law_whole, w_ret]
  simp only [startE]
  simp [isi_eq hv, tyB]
  have e := whole_eq v
  split <;> (refine ret_same ?_; simp_all)
structure Ap3 (p q r : Addr) : Prop where
  pq : p ≠ q
  pr : p ≠ r
  qr : q ≠ r
def H3 (h : MH) (p q r : Addr) (x y z : Cell) : MH := ((h.put p x).put q y).put r z
section
variable {p q r : Addr} {x y z w : Cell} (A : Ap3 p q r)
include A
theorem H3.at1 : H3 h p q r x y z p = some x := by unfold H3; rw [put_off A.pr, put_off A.pq, put_at]
theorem H3.at2 : H3 h p q r x y z q = some y := by unfold H3; rw [put_off A.qr, put_at]
theorem H3.at3 : H3 h p q r x y z r = some z := by unfold H3; rw [put_at]
theorem H3.put1 : (H3 h p q r x y z).put p w = H3 h p q r w y z := by
  unfold H3; rw [put_comm (Ne.symm A.pr), put_comm (Ne.symm A.pq), put_put]
theorem H3.put2 : (H3 h p q r x y z).put q w = H3 h p q r x w z := by
  unfold H3; rw [put_comm (Ne.symm A.qr), put_put]
theorem H3.put3 : (H3 h p q r x y z).put r w = H3 h p q r x y w := by
  unfold H3; rw [put_put]
theorem H3.le (hq : h q = none) (hr : h r = none) : HLe (h.put p x) (H3 h p q r x y z) := by
  unfold H3
  exact hle_put (by rw [put_off (Ne.symm A.pr)]; exact hr) (hle_put (by rw [put_off (Ne.symm A.pq)]; exact hq) hle_refl)
end
theorem put_self {p : Addr} {c : Cell} (e : h p = some c) : h.put p c = h := by
  funext a
  unfold MH.put
  by_cases z : a = p
  · subst z; rw [if_pos rfl, e]
  · rw [if_neg z]
theorem ne_of_h {p q : Addr} {c : Cell} (e : h p = some c) (n : h q = none) : p ≠ q := fun z => by subst z; rw [e] at n; cases n
def nats (os : List Nat) : List PV := os.map fun o => .int (o : Nat)
theorem rngV_nat (m : Nat) : rngV 0 (m : Int) = nats (List.range m) := by
  unfold rngV nats
  simp
theorem map_erase {α β : Type} (f : α → β) : ∀ (xs : List α) (i : Nat), (xs.map f).eraseIdx i = (xs.eraseIdx i).map f
  | [], _ => rfl
  | _ :: _, 0 => rfl
  | x :: r, i + 1 => by simp [map_erase f r i]
theorem erase_perm {α : Type} : ∀ {xs : List α} {i : Nat} (h : i < xs.length), (xs[i] :: xs.eraseIdx i).Perm xs
  | x :: r, 0, _ => List.Perm.refl _
  | x :: r, i + 1, h => by
    have q := erase_perm (xs := r) (i := i) (by simpa using h)
    simp only [List.getElem_cons_succ, List.eraseIdx_cons_succ]
    exact (List.Perm.swap _ _ _).trans (q.cons x)
theorem seqIdx_nat {r : Int} {n : Nat} (h0 : 0 ≤ r) (h1 : r < n) : seqIndex? r n = some r.toNat := by
  have n : ¬ r < 0 := by omega
  unfold seqIndex?
  simp [n, h0, h1]
theorem law_turn_ok (ht : tab "_law_turn" = some d__law_turn) (hdr : tab "_law_draw" = some d__law_draw) {p : Addr} {a b c : Int} {m : Nat} (hp : h p = some (.lst [.int a, .int b, .int c])) (h1 : 1 ≤ m) (h2 : m ≤ 1000000)
    (q : ∀ (os : List Nat) a' b' c', os.Perm (List.range m) → Q (.tup (nats os)) (h.put p (.lst [.int a', .int b', .int c']))) : callW tab (k + 2) "_law_turn" [.loc p, .int m] h Q E := by
  refine call_body ht rfl ?_
  rw [d__law_turn, w_asg]
  simp only [startE]
  simp
  refine ⟨⟨by decide, by decide, by omega, by omega⟩, by rw [PySem.sizeLine_eq]; omega, by rw [rngV_nat]; unfold nats; rw [List.length_map, List.length_range, PySem.sizeLine_eq]; omega, fun p1 n1 => ?_⟩
  rw [w_asg]
  simp
  intro p2 n2
  have ne1 : p ≠ p1 := ne_of_h hp n1
  have ne2 : p2 ≠ p1 := fun z => by subst z; rw [put_at] at n2; cases n2
  rw [put_off ne2] at n2
  have A : Ap3 p p1 p2 := ⟨ne1, ne_of_h hp n2, ne2.symm⟩
  have e0 : (h.put p1 (.lst (rngV 0 m))).put p2 (.lst []) = H3 h p p1 p2 (.lst [.int a, .int b, .int c]) (.lst (nats (List.range m))) (.lst (nats [])) := by
    unfold H3; rw [put_self hp, rngV_nat]; rfl
  rw [e0]
  rw [w_for]
  simp
  refine ⟨⟨by decide, by decide, by omega, by omega⟩, by rw [PySem.sizeLine_eq]; omega, ?_⟩
  refine for_all (fun i e g => ∃ w a b c ls fs, e = [some (.loc p), some (.int m), some (.loc p1), some (.loc p2), w] ∧ g = H3 h p p1 p2 (.lst [.int a, .int b, .int c]) (.lst (nats ls)) (.lst (nats fs)) ∧ (ls ++ fs).Perm (List.range m) ∧ fs.length = i)
    ⟨_, a, b, c, _, [], rfl, rfl, by simp, rfl⟩ (fun _ _ _ _ => by simp) ?_ ?_
  · rintro i x e g N hx ⟨w, a, b, c, ls, fs, rfl, rfl, pm, lf⟩ hN
    have hi : i < m := by
      have := (List.getElem?_eq_some_iff.mp hx).1
      rwa [rngV_len, Int.sub_zero, Int.toNat_natCast] at this
    have ll : ls.length = m - i := by
      have := pm.length_eq
      rw [List.length_append, List.length_range] at this
      omega
    simp
    rw [w_ex]
    simp [H3.at3 A, H3.at2 A, b_lenp (H3.at2 A)]
    refine law_draw_ok hdr (H3.at1 A) (by simp [nats]; omega) (by simp [nats]; omega) fun r a' b' c' hr0 hr1 => ?_
    have lr : (nats ls).length = ls.length := by unfold nats; rw [List.length_map]
    rw [lr] at hr1
    have hj : r.toNat < ls.length := by omega
    rw [H3.put1 A]
    refine ⟨nats ls, r.toNat, .int (ls[r.toNat] : Nat), H3.at2 A, by omega, by omega, seqIdx_nat hr0 (by rw [lr]; exact hr1), by simp [nats, hj], ?_⟩
    rw [H3.put2 A]
    refine ⟨nats fs, H3.at3 A, by simp only [nats, List.length_map, PySem.sizeLine_eq]; omega, ?_⟩
    rw [H3.put3 A]
    refine w_end ?_
    refine hN _ _ ⟨_, a', b', c', ls.eraseIdx r.toNat, fs ++ [ls[r.toNat]], rfl, by simp [nats, map_erase], ?_, by simp [lf]⟩
    refine List.Perm.trans ?_ pm
    have e1 := erase_perm hj
    refine List.Perm.trans ?_ (e1.append_right fs)
    rw [← List.append_assoc]
    exact List.perm_append_comm
  · rintro e g ⟨w, a, b, c, ls, fs, rfl, rfl, pm, lf⟩
    have lm : fs.length = m := by rw [lf, rngV_len, Int.sub_zero, Int.toNat_natCast]
    have ll : ls = [] := by
      have := pm.length_eq
      rw [List.length_append, List.length_range] at this
      exact List.length_eq_zero_iff.mp (by omega)
    subst ll
    rw [List.nil_append] at pm
    simp
    rw [w_ret]
    simp [srcV_loc (H3.at3 A)]
    intro _
    refine ret_drop (h2 := h.put p (.lst [.int a, .int b, .int c])) (H3.le A n1 n2) ?_
    exact q fs a b c pm
end MP
set_option Elab.async false
set_option linter.all false
set_option maxRecDepth 100000
set_option maxHeartbeats 1000000
namespace MP
open PySem L2
variable {tab : Str → Option Df} {k : Nat} {h : MH} {Q : Post} {E : XQ}
theorem leP_int (a b : Int) : leP (.int a) (.int b) = decide (a ≤ b) := congrFun (congrFun (PySem.W.dataLe_int (fun z : Int => z)) a) b
theorem sort_ints (zs : List Int) : (zs.map PV.int).mergeSort leP = (zs.mergeSort (fun a b => decide (a ≤ b))).map PV.int :=
  (List.map_mergeSort fun a _ b _ => (leP_int a b).symm).symm
theorem sortOk_ints (zs : List Int) : sortOk (zs.map PV.int) := by
  have m : ∀ d ∈ toDs (zs.map PV.int), ∃ i, d = .int i := fun d hd => by
    rw [toDs_ints] at hd
    obtain ⟨i, _, e⟩ := List.mem_map.mp hd
    exact ⟨i, e.symm⟩
  refine ⟨purs_ints zs, fun d hd d' hd' => ?_, .inr fun d hd => ?_, fun x hx => ?_⟩
  · obtain ⟨i, rfl⟩ := m d hd
    obtain ⟨j, rfl⟩ := m d' hd'
    rfl
  · obtain ⟨i, rfl⟩ := m d hd
    exact ⟨(fun z => nomatch z), (fun _ z => nomatch z)⟩
  · obtain ⟨i, _, rfl⟩ := List.mem_map.mp hx
    exact Nat.zero_le _
theorem sorted_eq : ∀ {as bs : List Int}, as.Pairwise (· ≤ ·) → bs.Pairwise (· ≤ ·) → as.Perm bs → as = bs
  | [], bs, _, _, p => (List.nil_perm.mp p).symm
  | a :: r, [], _, _, p => by have := p.length_eq; simp at this
  | a :: r, b :: s, ha, hb, p => by
    have h1 : b ≤ a := by
      rcases List.mem_cons.mp (p.mem_iff.mp (List.mem_cons_self ..)) with e | e
      · omega
      · exact (List.pairwise_cons.mp hb).1 a e
    have h2 : a ≤ b := by
      rcases List.mem_cons.mp (p.mem_iff.mpr (List.mem_cons_self ..)) with e | e
      · omega
      · exact (List.pairwise_cons.mp ha).1 b e
    have e : a = b := by omega
    subst e
    rw [sorted_eq (List.pairwise_cons.mp ha).2 (List.pairwise_cons.mp hb).2 ((List.perm_cons a).mp p)]
theorem sort_le (zs : List Int) : (zs.mergeSort (fun a b => decide (a ≤ b))).Pairwise (· ≤ ·) :=
  (List.pairwise_mergeSort (le := fun a b : Int => decide (a ≤ b)) (fun a b c => by simp; omega) (fun a b => by simp; omega) zs).imp (by simp)
def upto (m : Nat) : List Int := (List.range m).map Int.ofNat
theorem upto_le (m : Nat) : (upto m).Pairwise (· ≤ ·) := by
  unfold upto
  rw [List.pairwise_map]
  exact List.pairwise_le_range.imp fun h => by simpa using h
theorem upto_len (m : Nat) : (upto m).length = m := by simp [upto]
theorem rngV_upto (m : Nat) : rngV 0 (m : Int) = (upto m).map PV.int := by
  unfold rngV upto
  simp
theorem perm_of {zs : List Int} : ∀ {ls : List Int}, ls.Nodup → (∀ a ∈ ls, a ∈ zs) → zs.length = ls.length → zs.Perm ls := by
  intro ls
  induction ls generalizing zs with
  | nil => intro _ _ l; rw [List.length_eq_zero_iff.mp l]
  | cons a r ih =>
    intro nd hm l
    have ha := hm a (List.mem_cons_self ..)
    refine (List.perm_cons_erase ha).trans (List.Perm.cons a (ih (List.nodup_cons.mp nd).2 (fun b hb => ?_) ?_))
    · have nb : b ≠ a := fun z => (List.nodup_cons.mp nd).1 (z ▸ hb)
      exact (List.mem_erase_of_ne nb).mpr (hm b (List.mem_cons_of_mem _ hb))
    · rw [List.length_erase_of_mem ha, l]; rfl
theorem upto_nodup (m : Nat) : (upto m).Nodup := by
  unfold upto
  exact List.Pairwise.map _ (fun a b h z => h (Int.ofNat.inj z)) List.nodup_range
theorem order_iff (zs : List Int) (m : Nat) (hl : zs.length = m) : zs.mergeSort (fun a b => decide (a ≤ b)) = upto m ↔ ∀ i < m, (zs.filter fun z => decide (z = (i : Int))).length = 1 := by
  constructor
  · intro e i hi
    have p : zs.Perm (upto m) := by rw [← e]; exact (List.mergeSort_perm _ _).symm
    rw [(p.filter _).length_eq]
    have c := (upto_nodup m)
    have hm : (i : Int) ∈ upto m := List.mem_map.mpr ⟨i, List.mem_range.mpr hi, rfl⟩
    have : ((upto m).filter fun z => decide (z = (i : Int))).length = (upto m).count (i : Int) := by
      rw [List.count_eq_length_filter]; congr 1
    rw [this, c.count, if_pos hm]
  · intro h
    refine sorted_eq (sort_le zs) (upto_le m) ((List.mergeSort_perm _ _).trans (perm_of (upto_nodup m) (fun a ha => ?_) (by rw [upto_len]; exact hl)))
    obtain ⟨i, hi, rfl⟩ := List.mem_map.mp ha
    have := h i (List.mem_range.mp hi)
    have ne : (zs.filter fun z => decide (z = (i : Int))) ≠ [] := fun z => by rw [z] at this; simp at this
    obtain ⟨x, hx⟩ := List.exists_mem_of_ne_nil _ ne
    have := List.mem_filter.mp hx
    simp at this
    have e : x = Int.ofNat i := this.2
    rw [← e]; exact this.1
theorem all_whole : ∀ {xs : List PV}, xs.all whole = true → ∃ zs : List Int, xs = zs.map PV.int
  | [], _ => ⟨[], rfl⟩
  | x :: r, h => by
    simp only [List.all_cons, Bool.and_eq_true] at h
    obtain ⟨zs, e⟩ := all_whole h.2
    cases x <;> first | (cases h.1; done) | skip
    rename_i i
    exact ⟨i :: zs, by rw [e]; rfl⟩
def PV.asI : PV → Int
  | .int i => i
  | _ => 0
def isOrd (m : Nat) : PV → Bool
  | .tup xs => decide (xs.length = m) && xs.all whole && eqP (.lst (xs.mergeSort leP)) (.lst (rngV 0 m))
  | _ => false
theorem is_order_ok (ht : tab "is_order" = some d_is_order) (hw : tab "is_whole" = some d_is_whole) {m : Nat} {v : PV} (hv : pur v = true) (hm : m ≤ 1000) (q : Q (.bl (isOrd m v)) h) : callW tab (k + 2) "is_order" [.int m, v] h Q E := by
  refine call_body ht rfl ?_
  rw [d_is_order, w_ife]
  simp only [startE]
  simp [isi_eq hv, tyB]
  have no : isTb "tuple" v = false → isOrd m v = false := fun e => by cases v <;> first | rfl | cases e
  by_cases t : isTb "tuple" v = true
  · obtain ⟨xs, rfl⟩ : ∃ xs, v = .tup xs := by cases v <;> first | exact ⟨_, rfl⟩ | (cases t; done) | (cases hv; done) | (cases pv.pu; done)
    simp [t]
    have hxs : ∀ x ∈ xs, pur x = true := by
      have := hv
      simp only [pur, purs_eq, List.all_eq_true] at this
      exact this
    split
    · rename_i hl
      have hl : xs.length = m := by omega
      intro _
      refine comp_pure (fun x => some (.bl (whole x))) (by simp) (fun x hx R hR => ?_) ?_
      · exact is_whole_ok hw (hxs x hx) hR
      · have eb : xs.filterMap (fun x => some (PV.bl (whole x))) = (xs.map whole).map PV.bl := by simp
        rw [eb]
        refine ⟨by simp [PySem.sizeLine_eq]; omega, _, _, rfl, boolsP_map _, ?_⟩
        simp only [tru_b]
        split
        · rename_i ha
          have ha : xs.all whole = true := by simpa using ha
          obtain ⟨zs, rfl⟩ := all_whole ha
          rw [w_nil]
          simp
          rw [w_ret]
          simp
          intro _
          obtain ⟨g1, g2, g3⟩ := rng_ok (m := m) (by omega)
          have lz : zs.length = m := by simpa using hl
          refine ⟨sortOk_ints zs, by rw [PySem.sizeLine_eq]; omega, g1, g2, g3, ?_⟩
          have z : isOrd m (.tup (zs.map PV.int)) = eqP (.lst ((zs.map PV.int).mergeSort leP)) (.lst (rngV 0 m)) := by simp only [isOrd, ha, lz, List.length_map, decide_true, Bool.true_and]
          rw [z] at q
          rw [sort_ints, rngV_upto]
          rw [sort_ints, rngV_upto] at q
          exact eq_ll_of ⟨⟨eqOk_lints _, eqOk_lints _⟩, ret_same q⟩
        · rename_i ha
          rw [w_ret]
          simp
          have z : isOrd m (.tup xs) = false := by simp [isOrd]; intro _ y; simp_all
          rw [z] at q
          exact ret_same q
    · rename_i hl
      rw [w_ret]
      simp
      have z : isOrd m (.tup xs) = false := by simp [isOrd]; intro y; omega
      rw [z] at q
      exact ret_same q
  · simp at t
    simp [t]
    rw [w_ret]
    simp
    rw [no t] at q
    exact ret_same q
def lawOrd (m : Nat) : PV → Bool
  | .tup xs => decide (xs.length = m) && (List.range m).all fun i => decide ((xs.filter fun x => whole x && decide (x.asI = (i : Int))).length = 1)
  | _ => false
def d__law_is_order : Df := ⟨["many", "thing", "place", "one"], 2, .cons (.ife (.or (.not (.isi (.var 1) "tuple")) (.cmp .NotEq (.blt .len (.cons (.var 1) .nil)) (.var 0))) (.cons (.ret (.bl false)) .nil) (.nil)) (.cons (.for (.name 2) (.rng1 (.var 0)) (.cons (.ife (.cmp .NotEq (.blt .len (.cons (.comp false (.var 3) (.name 3) (.seq (.var 1)) (.some (.and (.call "_law_whole" (.cons (.var 3) .nil)) (.cmp .Eq (.var 3) (.var 2))))) .nil)) (.int 1)) (.cons (.ret (.bl false)) .nil) (.nil)) .nil)) (.cons (.ret (.bl true)) .nil))⟩
theorem filter_ints (i : Int) : ∀ zs : List Int, (zs.map PV.int).filter (fun x => whole x && decide (x.asI = i)) = (zs.filter fun z => decide (z = i)).map PV.int
  | [] => rfl
  | z :: r => by
    have ih := filter_ints i r
    simp only [List.map_cons, List.filter_cons]
    show (if (true && decide (z = i)) = true then _ else _) = _
    rw [Bool.true_and, ih]
    split <;> rfl
theorem lawOrd_eq {m : Nat} {v : PV} : isOrd m v = lawOrd m v := by
  cases v with
  | tup xs =>
    by_cases hl : xs.length = m
    · by_cases ha : xs.all whole = true
      · obtain ⟨zs, rfl⟩ := all_whole ha
        have lz : zs.length = m := by simpa using hl
        have e1 : isOrd m (.tup (zs.map PV.int)) = decide (zs.mergeSort (fun a b => decide (a ≤ b)) = upto m) := by
          simp only [isOrd, ha, List.length_map, lz, decide_true, Bool.true_and]
          rw [sort_ints, rngV_upto, eqP_lints]
        have e2 : lawOrd m (.tup (zs.map PV.int)) = decide (∀ i < m, (zs.filter fun z => decide (z = (i : Int))).length = 1) := by
          simp only [lawOrd, List.length_map, lz, decide_true, Bool.true_and]
          rw [Bool.eq_iff_iff]
          simp only [List.all_eq_true, List.mem_range, decide_eq_true_eq]
          constructor
          · intro h i hi
            have := h i hi
            rwa [filter_ints, List.length_map] at this
          · intro h i hi
            rw [filter_ints, List.length_map]
            exact h i hi
        rw [e1, e2, Bool.eq_iff_iff, decide_eq_true_eq, decide_eq_true_eq]
        exact order_iff zs m lz
      · have e1 : isOrd m (.tup xs) = false := by simp only [isOrd, ha, Bool.and_false, Bool.false_and]
        rw [e1]
        symm
        rw [Bool.eq_false_iff]
        intro z
        simp only [lawOrd, Bool.and_eq_true, List.all_eq_true, List.mem_range, decide_eq_true_eq] at z
        have cnt : ∀ n, n ≤ m → n ≤ (xs.filter fun x => whole x && decide (0 ≤ x.asI) && decide (x.asI < (n : Int))).length := by
          intro n
          induction n with
          | zero => intro _; exact Nat.zero_le _
          | succ n ih =>
            intro hn
            have h1 := ih (by omega)
            have h2 := z.2 n (by omega)
            have sp : ∀ l : List PV, (l.filter fun x => whole x && decide (0 ≤ x.asI) && decide (x.asI < ((n + 1 : Nat) : Int))).length = (l.filter fun x => whole x && decide (0 ≤ x.asI) && decide (x.asI < (n : Int))).length + (l.filter fun x => whole x && decide (x.asI = (n : Int))).length := by
              intro l
              induction l with
              | nil => rfl
              | cons x r ihr =>
                simp only [List.filter_cons]
                cases whole x with
                | false => simpa using ihr
                | true =>
                  simp only [Bool.true_and, Bool.and_eq_true, decide_eq_true_eq] at ihr ⊢
                  by_cases a : x.asI = (n : Int)
                  · rw [if_pos (by omega), if_neg (by omega), if_pos a]; simp only [List.length_cons]; omega
                  · by_cases b : 0 ≤ x.asI ∧ x.asI < (n : Int)
                    · rw [if_pos (by omega), if_pos b, if_neg a]; simp only [List.length_cons]; omega
                    · rw [if_neg (by omega), if_neg b, if_neg a]; exact ihr
            rw [sp, h2]; omega
        have c := cnt m (Nat.le_refl _)
        have le := List.length_filter_le (fun x => whole x && decide (0 ≤ x.asI) && decide (x.asI < (m : Int))) xs
        have all : xs.filter (fun x => whole x && decide (0 ≤ x.asI) && decide (x.asI < (m : Int))) = xs := List.filter_eq_self.mpr (by
          have := (List.length_filter_eq_length_iff (p := fun x => whole x && decide (0 ≤ x.asI) && decide (x.asI < (m : Int)))).mp (by omega : _ = xs.length)
          exact this)
        apply ha
        rw [List.all_eq_true]
        intro x hx
        rw [← all] at hx
        have := (List.mem_filter.mp hx).2
        simp only [Bool.and_eq_true] at this
        exact this.1.1
    · simp [isOrd, lawOrd, hl]
  | _ => rfl
theorem law_is_order_ok (ht : tab "_law_is_order" = some d__law_is_order) (hw : tab "_law_whole" = some d__law_whole) {m : Nat} {v : PV} (hv : pur v = true) (hm : m ≤ 1000) (q : Q (.bl (lawOrd m v)) h) : callW tab (k + 2) "_law_is_order" [.int m, v] h Q E := by
  refine call_body ht rfl ?_
  rw [d__law_is_order, w_ife]
  simp only [startE]
  simp [isi_eq hv, tyB]
  have no : isTb "tuple" v = false → lawOrd m v = false := fun e => by cases v <;> first | rfl | cases e
  by_cases t : isTb "tuple" v = true
  · obtain ⟨xs, rfl⟩ : ∃ xs, v = .tup xs := by cases v <;> first | exact ⟨_, rfl⟩ | (cases t; done) | (cases hv; done) | (cases pv.pu; done)
    simp [t]
    have hxs : ∀ x ∈ xs, pur x = true := by
      have := hv
      simp only [pur, purs_eq, List.all_eq_true] at this
      exact this
    split
    · rename_i hl
      have hl : xs.length = m := by omega
      rw [w_nil]
      simp
      rw [w_for]
      simp
      obtain ⟨g1, g2, g3⟩ := rng_ok (m := m) (by omega)
      refine ⟨g1, g2, ?_⟩
      refine for_all (fun i e g => ∃ w, e = [some (.int m), some (.tup xs), w, none] ∧ g = h ∧ ∀ j < i, (xs.filter fun x => whole x && decide (x.asI = (j : Int))).length = 1) ⟨_, rfl, rfl, fun j z => by omega⟩ (fun _ _ _ _ => by simp) ?_ ?_
      · rintro i x e g N hx ⟨w, rfl, rfl, hj⟩ hN
        have ex : x = .int (i : Nat) := by
          rw [rngV_upto, List.getElem?_map] at hx
          unfold upto at hx
          rw [List.getElem?_map] at hx
          have hi : i < m := by
            by_cases z : i < m
            · exact z
            · rw [List.getElem?_eq_none (by simpa using z)] at hx; simp at hx
          rw [List.getElem?_range hi] at hx
          simpa using hx.symm
        subst ex
        simp
        rw [w_ife]
        simp
        intro _
        refine comp_pure (fun x => if whole x && decide (x.asI = (i : Int)) then some x else none) (by simp) (fun x hx R hR => ?_) ?_
        · refine law_whole_ok hw (hxs x hx) ?_
          cases x <;> simp [whole, PV.asI] at hR ⊢ <;> first | exact hR | skip
          rename_i z
          by_cases y : z = (i : Int)
          · simp [y] at hR ⊢; exact hR
          · simp [y] at hR ⊢; exact hR
        · have ef : xs.filterMap (fun x => if (whole x && decide (x.asI = (i : Int))) = true then some x else none) = xs.filter fun x => whole x && decide (x.asI = (i : Int)) := by
            rw [← List.filterMap_eq_filter]; congr 1
          rw [ef]
          refine ⟨Nat.le_trans (List.length_filter_le _ _) (by rw [PySem.sizeLine_eq]; omega), ?_⟩
          split
          · rename_i h1
            simp only [w_nil]
            refine hN _ _ ⟨_, rfl, rfl, fun j hj' => ?_⟩
            by_cases y : j = i
            · subst y; exact_mod_cast h1
            · exact hj j (by omega)
          · rename_i h1
            rw [w_ret]
            simp
            have z : lawOrd m (.tup xs) = false := by
              rw [Bool.eq_false_iff]
              intro z
              simp only [lawOrd, Bool.and_eq_true, List.all_eq_true, List.mem_range, decide_eq_true_eq] at z
              have hi : i < m := by
                have := (List.getElem?_eq_some_iff.mp hx).1
                rw [rngV_len] at this; omega
              exact h1 (by exact_mod_cast z.2 i hi)
            rw [z] at q
            exact ret_same q
      · rintro e g ⟨w, rfl, rfl, hj⟩
        simp
        rw [w_ret]
        simp
        have z : lawOrd m (.tup xs) = true := by
          simp only [lawOrd, hl, decide_true, Bool.true_and, List.all_eq_true, List.mem_range, decide_eq_true_eq]
          intro j hj'
          exact hj j (by rw [rngV_len]; omega)
        rw [z] at q
        exact ret_same q
    · rename_i hl
      rw [w_ret]
      simp
      have z : lawOrd m (.tup xs) = false := by simp [lawOrd]; intro y; omega
      rw [z] at q
      exact ret_same q
  · simp at t
    simp [t]
    rw [w_ret]
    simp
    rw [no t] at q
    exact ret_same q
def prV (p : Nat × Nat) : PV := .tup [.int (p.1 : Nat), .int (p.2 : Nat)]
def le2 (p q : Nat × Nat) : Bool := decide (p.1 < q.1 ∨ (p.1 = q.1 ∧ p.2 ≤ q.2))
def lt2 (p q : Nat × Nat) : Prop := p.1 < q.1 ∨ (p.1 = q.1 ∧ p.2 < q.2)
theorem leP_pr (p q : Nat × Nat) : leP (prV p) (prV q) = le2 p q := by
  have e := congrFun (congrFun (PySem.W.dataLe_ii (fun z : Nat × Nat => (z.1 : Int)) (fun z => (z.2 : Int))) p) q
  have e2 : leP (prV p) (prV q) = PySem.W.dataLe false (fun b : Nat × Nat => PyData.tuple [.int (b.1 : Int), .int (b.2 : Int)]) p q := rfl
  rw [e2, e]
  unfold le2
  rw [Bool.eq_iff_iff, decide_eq_true_eq, decide_eq_true_eq]
  omega
theorem sort_prs (ps : List (Nat × Nat)) : (ps.map prV).mergeSort leP = (ps.mergeSort le2).map prV := (List.map_mergeSort fun a _ b _ => (leP_pr a b).symm).symm
theorem toDs_prs (ps : List (Nat × Nat)) : toDs (ps.map prV) = ps.map fun p => PyData.tuple [.int (p.1 : Int), .int (p.2 : Int)] := by
  induction ps with
  | nil => rfl
  | cons p r ih => simp only [List.map_cons, toDs, ih]; rfl
theorem purs_prs (ps : List (Nat × Nat)) : purs (ps.map prV) = true := by
  induction ps with
  | nil => rfl
  | cons p r ih => simp only [List.map_cons, purs, ih]; rfl
theorem sortOk_prs (ps : List (Nat × Nat)) : sortOk (ps.map prV) := by
  have m : ∀ d ∈ toDs (ps.map prV), ∃ i j : Int, d = .tuple [.int i, .int j] := fun d hd => by
    rw [toDs_prs] at hd
    obtain ⟨p, _, e⟩ := List.mem_map.mp hd
    exact ⟨_, _, e.symm⟩
  refine ⟨purs_prs ps, fun d hd d' hd' => ?_, .inl fun d hd => ?_, fun x hx => ?_⟩
  · obtain ⟨i, j, rfl⟩ := m d hd
    obtain ⟨i', j', rfl⟩ := m d' hd'
    rfl
  · obtain ⟨i, j, rfl⟩ := m d hd
    exact ⟨_, _, rfl⟩
  · obtain ⟨p, _, rfl⟩ := List.mem_map.mp hx
    show (PyData.tuple [.int _, .int _]).depth ≤ 64
    simp [PyData.depth, PyData.depthAll]
theorem sort2_lt {ps : List (Nat × Nat)} (nd : ps.Nodup) : (ps.mergeSort le2).Pairwise lt2 := by
  have h1 := List.pairwise_mergeSort (le := le2) (fun a b c => by unfold le2; simp only [decide_eq_true_eq]; omega) (fun a b => by unfold le2; simp only [Bool.or_eq_true, decide_eq_true_eq]; omega) ps
  have h2 : (ps.mergeSort le2).Nodup := (List.mergeSort_perm ps le2).nodup_iff.mpr nd
  refine (h1.and h2).imp fun {a b} h => ?_
  obtain ⟨x, y⟩ := h
  unfold le2 at x
  rw [decide_eq_true_eq] at x
  unfold lt2
  have : a ≠ b := y
  have : ¬ (a.1 = b.1 ∧ a.2 = b.2) := fun z => this (Prod.ext z.1 z.2)
  omega
theorem rising_eq {α : Type} {lt : α → α → Prop} (irr : ∀ a, ¬ lt a a) (tr : ∀ a b c, lt a b → lt b c → lt a c) : ∀ {as bs : List α}, as.Pairwise lt → bs.Pairwise lt → (∀ x, x ∈ as ↔ x ∈ bs) → as = bs
  | [], [], _, _, _ => rfl
  | [], b :: s, _, _, m => by have := (m b).mpr (List.mem_cons_self ..); cases this
  | a :: r, [], _, _, m => by have := (m a).mp (List.mem_cons_self ..); cases this
  | a :: r, b :: s, ha, hb, m => by
    have ha := List.pairwise_cons.mp ha
    have hb := List.pairwise_cons.mp hb
    have e : a = b := by
      rcases List.mem_cons.mp ((m a).mp (List.mem_cons_self ..)) with e | e
      · exact e
      · rcases List.mem_cons.mp ((m b).mpr (List.mem_cons_self ..)) with e2 | e2
        · exact e2.symm
        · exact (irr _ (tr _ _ _ (ha.1 b e2) (hb.1 a e))).elim
    subst e
    congr 1
    refine rising_eq irr tr ha.2 hb.2 fun x => ⟨fun hx => ?_, fun hx => ?_⟩
    · rcases List.mem_cons.mp ((m x).mp (List.mem_cons_of_mem _ hx)) with e | e
      · subst e; exact (irr _ (ha.1 _ hx)).elim
      · exact e
    · rcases List.mem_cons.mp ((m x).mpr (List.mem_cons_of_mem _ hx)) with e | e
      · subst e; exact (irr _ (hb.1 _ hx)).elim
      · exact e
theorem lt2_irr (a : Nat × Nat) : ¬ lt2 a a := by unfold lt2; omega
theorem lt2_tr (a b c : Nat × Nat) : lt2 a b → lt2 b c → lt2 a c := by unfold lt2; omega
end MP
set_option Elab.async false
set_option linter.all false
set_option maxRecDepth 100000
set_option maxHeartbeats 1000000
namespace MP
open PySem L2
variable {tab : Str → Option Df} {k : Nat} {h : MH} {Q : Post} {E : XQ}
def d__law_odd : Df := ⟨["deck", "thing", "some"], 2, .cons (.asg (.name 2) (.lst false (.cons (.non) (.cons (.bl true) (.cons (.bl false) (.cons (.neg (.int 1)) (.cons (.int 0) (.cons (.int 1) (.cons (.int 24) (.cons (.bin .Pow (.int 10) (.int 39)) (.cons (.str "") (.cons (.str "0") (.cons (.str "()") (.cons (.tup (.nil)) (.cons (.lst false (.nil)) (.cons (.dct0 false) (.cons (.lst false (.cons (.var 1) .nil)) (.cons (.dct1 (.int 0) (.var 1)) (.cons (.tup (.cons (.var 1) .nil)) (.cons (.tup (.cons (.tup (.nil)) .nil)) .nil)))))))))))))))))))) (.cons (.ife (.call "_law_whole" (.cons (.var 1) .nil)) (.cons (.asg (.name 2) (.bin .Add (.var 2) (.bin .Mult (.lst false (.cons (.bin .Add (.var 1) (.int 1)) (.cons (.bin .Sub (.var 1) (.int 1)) (.cons (.bin .Add (.var 1) (.int 2)) (.cons (.cmp .Eq (.var 1) (.int 1)) (.cons (.blt .str (.cons (.var 1) .nil)) (.cons (.bin .Sub (.int 0) (.var 1)) .nil))))))) (.int 3)))) .nil) (.nil)) (.cons (.ret (.idx (.var 2) (.call "_law_draw" (.cons (.var 0) (.cons (.blt .len (.cons (.var 2) .nil)) .nil))))) .nil))⟩
def d__law_spoilt : Df := ⟨["deck", "thing", "kind", "at"], 2, .cons (.asg (.name 2) (.call "_law_draw" (.cons (.var 0) (.cons (.int 9) .nil)))) (.cons (.ife (.or (.not (.isi (.var 1) "tuple")) (.or (.cmp .Eq (.var 1) (.tup (.nil))) (.cmp .Eq (.var 2) (.int 0)))) (.cons (.ret (.call "_law_odd" (.cons (.var 0) (.cons (.var 1) .nil)))) .nil) (.nil)) (.cons (.asg (.name 3) (.idx (.lst false (.cons (.call "_law_draw" (.cons (.var 0) (.cons (.blt .len (.cons (.var 1) .nil)) .nil))) (.cons (.bin .Sub (.blt .len (.cons (.var 1) .nil)) (.int 1)) .nil))) (.blt .int (.cons (.cmp .Eq (.call "_law_draw" (.cons (.var 0) (.cons (.int 4) .nil))) (.int 0)) .nil)))) (.cons (.ife (.cmp .Eq (.var 2) (.int 1)) (.cons (.ret (.bin .Add (.slc (.var 1) .none (.some (.var 3))) (.slc (.var 1) (.some (.bin .Add (.var 3) (.int 1))) .none))) .nil) (.nil)) (.cons (.ife (.cmp .Eq (.var 2) (.int 2)) (.cons (.ret (.bin .Add (.bin .Add (.slc (.var 1) .none (.some (.var 3))) (.slc (.var 1) (.some (.var 3)) (.some (.bin .Add (.var 3) (.int 1))))) (.slc (.var 1) (.some (.var 3)) .none))) .nil) (.nil)) (.cons (.ife (.cmp .Eq (.var 2) (.int 3)) (.cons (.ret (.bin .Add (.bin .Add (.slc (.var 1) .none (.some (.var 3))) (.rev (.slc (.var 1) (.some (.var 3)) (.some (.bin .Add (.var 3) (.int 2)))))) (.slc (.var 1) (.some (.bin .Add (.var 3) (.int 2))) .none))) .nil) (.nil)) (.cons (.ife (.and (.cmp .Eq (.var 2) (.int 4)) (.cmp .Eq (.call "_law_draw" (.cons (.var 0) (.cons (.int 2) .nil))) (.int 0))) (.cons (.ret (.con .list false (.seq (.var 1)))) .nil) (.nil)) (.cons (.ret (.bin .Add (.bin .Add (.slc (.var 1) .none (.some (.var 3))) (.tup (.cons (.call "_law_spoilt" (.cons (.var 0) (.cons (.idx (.var 1) (.var 3)) .nil))) .nil))) (.slc (.var 1) (.some (.bin .Add (.var 3) (.int 1))) .none))) .nil)))))))⟩
def d__law_right : Df := ⟨["many", "thing", "written", "found"], 2, .cons (.asg (.name 2) (.blt .repr (.cons (.var 1) .nil))) (.cons (.asg (.name 3) (.call "is_order" (.cons (.var 0) (.cons (.var 1) .nil)))) (.cons (.ret (.and (.isi (.var 3) "bool") (.and (.cmp .Eq (.var 3) (.call "_law_is_order" (.cons (.var 0) (.cons (.var 1) .nil)))) (.cmp .Eq (.blt .repr (.cons (.var 1) .nil)) (.var 2))))) .nil))⟩
theorem of_lt (s : String) : ∀ c ∈ (Str.ofString s).cps.toList, c < 16 ^ 8 := by
  intro c hc
  rw [PyProof.Rows.signs_ofString] at hc
  obtain ⟨x, _, rfl⟩ := List.mem_map.mp hc
  have e : x.toNat < 0x110000 := by
    rcases x.valid with h | h
    · exact Nat.lt_trans h (by decide)
    · exact h.2
  omega
theorem wt_of (s : String) : wt (.str s) = s.length := by rw [wt_str, ofString_length]
theorem law_odd_ok {B d : Nat} (ht : tab "_law_odd" = some d__law_odd) (hdr : tab "_law_draw" = some d__law_draw) (hw : tab "_law_whole" = some d__law_whole) {p : Addr} {a b c : Int} {v : PV}
    (hp : h p = some (.lst [.int a, .int b, .int c])) (pv : P1 B d v) (h1 : 10 ^ 39 ≤ B) (h2 : B + 2 ≤ 10 ^ 40)
    (q : ∀ w a' b' c', P1 (B + 2) (d + 2) w → wt w ≤ wt v + 200 → Q w (h.put p (.lst [.int a', .int b', .int c']))) : callW tab (k + 2) "_law_odd" [.loc p, v] h Q E := by
  refine call_body ht rfl ?_
  rw [d__law_odd, w_asg]
  simp only [startE]
  simp
  refine ⟨by decide, by rw [PySem.sizeLine_eq]; decide, ?_⟩
  rw [w_ife]
  simp
  have odd : ∀ x ∈ ([PV.non, PV.bl true, PV.bl false, PV.int (-1), PV.int 0, PV.int 1, PV.int 24, PV.int 1000000000000000000000000000000000000000, PV.str "", PV.str "0", PV.str "()", PV.tup [], PV.lst [], PV.dct [] [], PV.lst [v], PV.dct [PV.int 0] [v], PV.tup [v], PV.tup [PV.tup []]] : List PV),
      P1 (B + 2) (d + 2) x ∧ wt x ≤ wt v + 200 := by
    have pv' : P1 (B + 2) (d + 1) v := pv.mono (by omega) (by omega)
    have one : ∀ y ∈ [v], P1 (B + 2) (d + 1) y := by simpa using pv'
    have i0 : wt (.int 0) ≤ 0 := wt_int (by decide)
    intro x hx
    simp only [List.mem_cons, List.not_mem_nil, or_false] at hx
    rcases hx with rfl | rfl | rfl | rfl | rfl | rfl | rfl | rfl | rfl | rfl | rfl | rfl | rfl | rfl | rfl | rfl | rfl | rfl
    · exact ⟨.non, by simp⟩
    · exact ⟨.bl, by simp⟩
    · exact ⟨.bl, by simp⟩
    · exact ⟨.int (by omega), Nat.le_trans (wt_int (k := 1) (by decide)) (by omega)⟩
    · exact ⟨.int (by omega), by omega⟩
    · exact ⟨.int (by omega), Nat.le_trans (wt_int (k := 1) (by decide)) (by omega)⟩
    · exact ⟨.int (by omega), Nat.le_trans (wt_int (k := 5) (by decide)) (by omega)⟩
    · exact ⟨.int (by omega), Nat.le_trans (wt_int (k := 130) (by decide)) (by omega)⟩
    · exact ⟨.str (of_lt _), by rw [wt_of]; exact Nat.le_trans (by decide) (Nat.le_add_left 200 _)⟩
    · exact ⟨.str (of_lt _), by rw [wt_of]; exact Nat.le_trans (by decide) (Nat.le_add_left 200 _)⟩
    · exact ⟨.str (of_lt _), by rw [wt_of]; exact Nat.le_trans (by decide) (Nat.le_add_left 200 _)⟩
    · exact ⟨.tup (by simp), by simp⟩
    · exact ⟨.lst (by simp), by simp⟩
    · exact ⟨.dct0, by simp⟩
    · exact ⟨.lst one, by simp⟩
    · exact ⟨.dct1 (.int (by omega)) pv', by simp; omega⟩
    · exact ⟨.tup one, by simp⟩
    · exact ⟨.tup (by simp; exact .tup (by simp)), by simp⟩
  have fin : ∀ L : List PV, L ≠ [] → L.length ≤ 1000 → (∀ x ∈ L, P1 (B + 2) (d + 2) x ∧ wt x ≤ wt v + 200) →
      wpSs (callW tab (k + 1)) (fun e x h' => retX E e h') (.cons (.ret (.idx (.var 2) (.call "_law_draw" (.cons (.var 0) (.cons (.blt .len (.cons (.var 2) .nil)) .nil))))) .nil) [some (.loc p), some v, some (.lst L)] h { nx := fun x h' => retW Q PV.non h', rt := retW Q } := by
    intro L h0 h1 hL
    have l0 : 0 < L.length := List.length_pos_iff.mpr h0
    rw [w_ret]
    simp
    refine law_draw_ok hdr hp (by omega) (by omega) fun r a' b' c' r0 r1 => ?_
    simp
    rw [atI_int _ r0]
    have hr : r.toNat < L.length := by omega
    refine ⟨L[r.toNat], List.getElem?_eq_getElem hr, ret_same ?_⟩
    obtain ⟨g1, g2⟩ := hL _ (List.getElem_mem hr)
    exact q _ _ _ _ g1 g2
  refine law_whole_ok hw pv.pu ?_
  simp only [tru_b]
  split
  · rename_i hwh
    obtain ⟨i, rfl⟩ : ∃ i, v = .int i := by cases v <;> first | exact ⟨_, rfl⟩ | cases hwh
    have bi := pv.of_int
    rw [w_asg]
    simp
    have hlog : i.natAbs.log2 < 1920 := by
      have := (int_shows (i := i) (by omega)).2
      simpa only [PyData.showable, decide_eq_true_eq] using this
    refine ⟨hlog, by rw [PySem.sizeLine_eq]; decide, by rw [PySem.sizeLine_eq]; decide, by rw [PySem.sizeLine_eq]; decide, ?_⟩
    rw [w_nil]
    refine fin _ (by simp) (by simp) fun x hx => ?_
    have big : ∀ z : Int, z.natAbs ≤ B + 2 → wt (.int z) ≤ 140 := fun z hz => wt_int (Nat.lt_of_le_of_lt hz (Nat.lt_of_le_of_lt h2 (by decide)))
    have more : ∀ y ∈ ([PV.int (i + 1), PV.int (i - 1), PV.int (i + 2), PV.bl (decide (i = 1)), PV.str i.repr, PV.int (-i)] : List PV), P1 (B + 2) (d + 2) y ∧ wt y ≤ wt (.int i) + 200 := by
      intro y hy
      simp only [List.mem_cons, List.not_mem_nil, or_false] at hy
      rcases hy with rfl | rfl | rfl | rfl | rfl | rfl
      · exact ⟨.int (by omega), Nat.le_trans (big _ (by omega)) (by omega)⟩
      · exact ⟨.int (by omega), Nat.le_trans (big _ (by omega)) (by omega)⟩
      · exact ⟨.int (by omega), Nat.le_trans (big _ (by omega)) (by omega)⟩
      · exact ⟨.bl, by simp⟩
      · refine ⟨.str (of_lt _), ?_⟩
        rw [wt_of]
        exact Nat.le_trans (int_text_length_le10 (k := 59) (by decide) (by omega)) (by omega)
      · exact ⟨.int (by omega), Nat.le_trans (big _ (by omega)) (by omega)⟩
    have hx' : x ∈ ([PV.non, PV.bl true, PV.bl false, PV.int (-1), PV.int 0, PV.int 1, PV.int 24, PV.int 1000000000000000000000000000000000000000, PV.str "", PV.str "0", PV.str "()", PV.tup [], PV.lst [], PV.dct [] [], PV.lst [PV.int i], PV.dct [PV.int 0] [PV.int i], PV.tup [PV.int i], PV.tup [PV.tup []]] : List PV) ++
        (([PV.int (i + 1), PV.int (i - 1), PV.int (i + 2), PV.bl (decide (i = 1)), PV.str i.repr, PV.int (-i)] : List PV) ++ (([PV.int (i + 1), PV.int (i - 1), PV.int (i + 2), PV.bl (decide (i = 1)), PV.str i.repr, PV.int (-i)] : List PV) ++
          ([PV.int (i + 1), PV.int (i - 1), PV.int (i + 2), PV.bl (decide (i = 1)), PV.str i.repr, PV.int (-i)] : List PV))) := hx
    simp only [List.mem_append] at hx'
    rcases hx' with z | z | z | z
    · exact odd x z
    · exact more x z
    · exact more x z
    · exact more x z
  · rw [w_nil]
    exact fin _ (by simp) (by simp) odd
theorem spoilt_cut {B d : Nat} {xs ys : List PV} (px : ∀ x ∈ xs, P1 B d x) (hy : ∀ y ∈ ys, y ∈ xs) : P1 (B + 2) (d + 3) (.tup ys) := (P1.tup fun y hy' => (px y (hy y hy')).mono (Nat.le_refl _) (Nat.le_refl _)).mono (by omega) (by omega)
theorem law_spoilt_ok {B : Nat} (ht : tab "_law_spoilt" = some d__law_spoilt) (ho : tab "_law_odd" = some d__law_odd) (hdr : tab "_law_draw" = some d__law_draw) (hw : tab "_law_whole" = some d__law_whole) (h1 : 10 ^ 39 ≤ B) (h2 : B + 2 ≤ 10 ^ 40) :
    ∀ (d k : Nat) {p : Addr} {a b c : Int} {v : PV} {h : MH} {Q : Post} {E : XQ}, h p = some (.lst [.int a, .int b, .int c]) → P1 B d v → wt v ≤ 100000 →
      (∀ w a' b' c', P1 (B + 2) (d + 2) w → wt w ≤ 2 * wt v + 200 → Q w (h.put p (.lst [.int a', .int b', .int c']))) → callW tab (d + k + 3) "_law_spoilt" [.loc p, v] h Q E := by
  intro d
  induction d using Nat.strongRecOn with
  | ind d ih =>
    intro k p a b c v h Q E hp pv hwt q
    refine call_body ht rfl ?_
    rw [d__law_spoilt, w_asg]
    simp only [startE]
    simp
    refine law_draw_ok (k := d + k + 1) hdr hp (by decide) (by decide) fun r a1 b1 c1 r0 r1 => ?_
    rw [w_ife]
    simp [isi_eq pv.pu, tyB]
    have odd : ∀ (e3 : Option PV) (D : En), D.rt = retW Q → wpSs (callW tab (d + k + 2)) (fun e x h' => retX E e h') (.cons (.ret (.call "_law_odd" (.cons (.var 0) (.cons (.var 1) .nil)))) .nil) [some (.loc p), some v, some (.int r), e3] (h.put p (.lst [.int a1, .int b1, .int c1])) D := by
      intro e3 D hD
      rw [w_ret]
      simp
      refine law_odd_ok (k := d + k) ho hdr hw put_at pv h1 h2 fun w a' b' c' pw ww => ?_
      rw [hD, put_put]
      exact ret_same (q _ _ _ _ pw (by omega))
    by_cases t : isTb "tuple" v = true
    · obtain ⟨xs, rfl⟩ : ∃ xs, v = .tup xs := by cases v <;> first | exact ⟨_, rfl⟩ | (cases t; done) | (cases hv; done) | (cases pv.pu; done)
      obtain ⟨d, rfl⟩ := pv.tup_depth
      have px := pv.of_tup
      have lw : xs.length ≤ 100000 := Nat.le_trans (len_wts xs) (by simpa using hwt)
      simp [t]
      split
      · exact odd _ _ rfl
      · rename_i hne
        have hne : xs ≠ [] := by simpa using hne
        have l0 : 0 < xs.length := List.length_pos_iff.mpr hne
        split
        · exact odd _ _ rfl
        · rename_i hr0
          rw [w_nil]
          simp
          rw [w_asg]
          simp
          refine law_draw_ok (k := d + 1 + k + 1) hdr put_at (by omega) (by omega) fun r2 a2 b2 c2 r20 r21 => ?_
          simp
          refine ⟨by rw [PySem.sizeLine_eq]; decide, ?_⟩
          refine law_draw_ok (k := d + 1 + k + 1) hdr put_at (by omega) (by omega) fun r3 a3 b3 c3 r30 r31 => ?_
          simp
          obtain ⟨z, hz, z0, z1⟩ : ∃ z, L2.atI [PV.int r2, PV.int (xs.length - 1)] (if r3 = 0 then 1 else 0) = some (.int z) ∧ 0 ≤ z ∧ z < xs.length := by
            split
            · exact ⟨_, by simp; rfl, by omega, by omega⟩
            · exact ⟨_, by simp; rfl, by omega, by omega⟩
          refine ⟨_, hz, ?_⟩
          have zn : z.toNat < xs.length := by omega
          have ex : xs = xs.take z.toNat ++ (xs[z.toNat] :: xs.drop (z.toNat + 1)) := by rw [List.getElem_cons_drop, List.take_append_drop]
          have ew : wts xs = wts (xs.take z.toNat) + (wt xs[z.toNat] + 1 + wts (xs.drop (z.toNat + 1))) := by
            have := congrArg wts ex
            rwa [wts_append, wts_cons] at this
          have et : xs = xs.take z.toNat ++ xs.drop z.toNat := (List.take_append_drop _ _).symm
          have ewt : wts xs = wts (xs.take z.toNat) + wts (xs.drop z.toNat) := by
            have := congrArg wts et
            rwa [wts_append] at this
          have n1 : (z + 1).toNat = z.toNat + 1 := by omega
          have n2 : (z + 2).toNat = z.toNat + 2 := by omega
          have s1 : slcW.cutP xs none (some z) = xs.take z.toNat := cutP_lo xs z0
          have s2 : slcW.cutP xs (some (z + 1)) none = xs.drop (z.toNat + 1) := by rw [cutP_hi xs (by omega), n1]
          have s3 : slcW.cutP xs (some z) (some (z + 1)) = (xs.drop z.toNat).take 1 := by rw [cutP_mid xs z0 (by omega), n1]; congr 1; omega
          have s4 : slcW.cutP xs (some z) none = xs.drop z.toNat := cutP_hi xs z0
          have s5 : slcW.cutP xs (some z) (some (z + 2)) = (xs.drop z.toNat).take 2 := by rw [cutP_mid xs z0 (by omega), n2]; congr 1; omega
          have s6 : slcW.cutP xs (some (z + 2)) none = xs.drop (z.toNat + 2) := by rw [cutP_hi xs (by omega), n2]
          have lt := List.length_take_le z.toNat xs
          have small : ∀ m : Nat, m ≤ 400000 → m ≤ sizeLine := fun m hm => by rw [PySem.sizeLine_eq]; omega
          have le3 : P1 (B + 2) (d + 3) (.tup xs) := pv.mono (by omega) (by omega)
          rw [w_ife]
          simp
          split
          · rw [w_ret]
            simp [s1, s2]
            refine ⟨small _ (by omega), ret_same (q _ _ _ _ (spoilt_cut px fun y hy => ?_) ?_)⟩
            · rcases List.mem_append.mp hy with z | z
              · exact List.mem_of_mem_take z
              · exact List.mem_of_mem_drop z
            · simp; omega
          rw [w_nil]
          simp
          rw [w_ife]
          simp
          split
          · rw [w_ret]
            simp [s1, s3, s4]
            have h1' := wts_take (xs.drop z.toNat) 1
            refine ⟨small _ (by omega), small _ (by omega), ret_same (q _ _ _ _ (spoilt_cut px fun y hy => ?_) ?_)⟩
            · simp only [List.mem_append] at hy
              rcases hy with z | z | z
              · exact List.mem_of_mem_take z
              · exact List.mem_of_mem_drop (List.mem_of_mem_take z)
              · exact List.mem_of_mem_drop z
            · simp; omega
          rw [w_nil]
          simp
          rw [w_ife]
          simp
          split
          · rw [w_ret]
            simp [s1, s5, s6]
            have e2 : wts (xs.drop z.toNat) = wts ((xs.drop z.toNat).take 2) + wts (xs.drop (z.toNat + 2)) := by
              have := congrArg wts (List.take_append_drop 2 (xs.drop z.toNat)).symm
              rwa [wts_append, List.drop_drop] at this
            refine ⟨small _ (by omega), small _ (by omega), ret_same (q _ _ _ _ (spoilt_cut px fun y hy => ?_) ?_)⟩
            · simp only [List.mem_append, List.mem_reverse] at hy
              rcases hy with z | z | z
              · exact List.mem_of_mem_take z
              · exact List.mem_of_mem_drop (List.mem_of_mem_take z)
              · exact List.mem_of_mem_drop z
            · simp [wts_rev]; omega
          rw [w_nil]
          simp
          rw [w_ife]
          simp
          have last : ∀ (a4 b4 c4 : Int) (D : En), D.rt = retW Q → wpSs (callW tab (d + 1 + k + 2)) (fun e x h' => retX E e h') (.cons (.ret (.bin .Add (.bin .Add (.slc (.var 1) .none (.some (.var 3))) (.tup (.cons (.call "_law_spoilt" (.cons (.var 0) (.cons (.idx (.var 1) (.var 3)) .nil))) .nil))) (.slc (.var 1) (.some (.bin .Add (.var 3) (.int 1))) .none))) .nil)
              [some (.loc p), some (.tup xs), some (.int r), some (.int z)] (h.put p (.lst [.int a4, .int b4, .int c4])) D := by
            intro a4 b4 c4 D hD
            rw [w_ret]
            simp [s1, s2, atI_int _ z0, zn]
            have el : d + 1 + k + 2 = d + k + 3 := by omega
            rw [el]
            have pe := px _ (List.getElem_mem zn)
            have we := wt_mem (List.getElem_mem zn)
            simp only [wt_tup] at hwt
            refine ih d (by omega) k put_at pe (by omega) fun w a5 b5 c5 pw ww => ?_
            simp
            refine ⟨by decide, small _ (by omega), small _ (by omega), ?_⟩
            rw [hD]
            refine ret_same (q _ _ _ _ (P1.tup fun y hy => ?_) ?_)
            · simp only [List.mem_append, List.mem_cons] at hy
              rcases hy with z | rfl | z
              · exact (px y (List.mem_of_mem_take z)).mono (by omega) (by omega)
              · exact pw
              · exact (px y (List.mem_of_mem_drop z)).mono (by omega) (by omega)
            · simp; omega
          split
          · refine law_draw_ok (k := d + 1 + k + 1) hdr put_at (by decide) (by decide) fun r4 a4 b4 c4 _ _ => ?_
            simp
            split
            · rw [w_ret]
              simp
              intro _
              exact ⟨small _ (by omega), ret_same (q _ _ _ _ ((P1.lst px).mono (by omega) (by omega)) (by simp; omega))⟩
            · rw [w_nil]
              exact last _ _ _ _ rfl
          · rw [w_nil]
            exact last _ _ _ _ rfl
    · simp at t
      simp [t]
      exact odd _ _ rfl
theorem law_right_ok {B d : Nat} (ht : tab "_law_right" = some d__law_right) (h1 : tab "is_order" = some d_is_order) (h2 : tab "_law_is_order" = some d__law_is_order) (h3 : tab "is_whole" = some d_is_whole) (h4 : tab "_law_whole" = some d__law_whole) {m : Nat} {v : PV}
    (pv : P1 B d v) (hB : B < 10 ^ 59) (hd : d ≤ 64) (hw : 62 * wt v + 60 ≤ sizeLine) (hm : m ≤ 1000) (q : Q (.bl true) h) : callW tab (k + 3) "_law_right" [.int m, v] h Q E := by
  refine call_body ht rfl ?_
  rw [d__law_right, w_asg]
  simp only [startE]
  simp
  refine ⟨pv.shown hB hd hw, ?_⟩
  rw [w_asg]
  simp
  refine is_order_ok (k := k) h1 h3 pv.pu hm ?_
  rw [w_ret]
  simp [isi_eq (show pur (.bl (isOrd m v)) = true from rfl) (show tyB "bool" = true from rfl), isTb, isT]
  refine law_is_order_ok (k := k) h2 h4 pv.pu hm ?_
  simp [lawOrd_eq]
  exact ⟨pv.shown hB hd hw, ret_same q⟩
theorem nats_ints (os : List Nat) : nats os = (os.map Int.ofNat).map PV.int := by unfold nats; rw [List.map_map]; rfl
theorem isOrd_perm {m : Nat} {os : List Nat} (p : os.Perm (List.range m)) : isOrd m (.tup (nats os)) = true := by
  have lo : os.length = m := by rw [p.length_eq, List.length_range]
  rw [nats_ints]
  have w : ((os.map Int.ofNat).map PV.int).all whole = true := by simp [whole]
  simp only [isOrd, w, List.length_map, lo, decide_true, Bool.true_and]
  rw [sort_ints, rngV_upto, eqP_lints, decide_eq_true_eq]
  exact sorted_eq (sort_le _) (upto_le m) ((List.mergeSort_perm _ _).trans (p.map _))
theorem wts_le {c : Nat} : ∀ {xs : List PV}, (∀ x ∈ xs, wt x ≤ c) → wts xs ≤ (c + 1) * xs.length
  | [], _ => by simp
  | x :: r, h => by
    have h1 := h x (List.mem_cons_self ..)
    have h2 := wts_le (xs := r) fun y hy => h y (List.mem_cons_of_mem _ hy)
    rw [wts_cons, List.length_cons, Nat.mul_add, Nat.mul_one]
    omega
theorem order_P1 {m B : Nat} {os : List Nat} (p : os.Perm (List.range m)) (hm : m ≤ 60) (hB : 100 ≤ B) : P1 B 1 (.tup (nats os)) ∧ wt (.tup (nats os)) ≤ 420 := by
  have lt : ∀ o ∈ os, o < m := fun o ho => by simpa using p.mem_iff.mp ho
  have lo : os.length = m := by rw [p.length_eq, List.length_range]
  constructor
  · refine P1.tup fun x hx => ?_
    obtain ⟨o, ho, rfl⟩ := List.mem_map.mp hx
    have := lt o ho
    exact .int (by omega)
  · rw [wt_tup]
    refine Nat.le_trans (wts_le (c := 6) fun x hx => ?_) (by unfold nats; rw [List.length_map, lo]; omega)
    obtain ⟨o, ho, rfl⟩ := List.mem_map.mp hx
    have := lt o ho
    exact wt_int (by show o < 2 ^ 6; omega)
theorem rngV_nats (m : Nat) : rngV 0 (m : Int) = nats (List.range m) := rngV_nat m
theorem rngV_get {m i : Nat} {x : PV} (h : (rngV 0 (m : Int))[i]? = some x) : x = .int (i : Nat) ∧ i < m := by
  rw [rngV_nat] at h
  unfold nats at h
  rw [List.getElem?_map] at h
  by_cases z : i < m
  · rw [List.getElem?_range z] at h
    exact ⟨by simpa using h.symm, z⟩
  · rw [List.getElem?_eq_none (by simpa using z)] at h; simp at h
end MP
set_option Elab.async false
set_option linter.all false
set_option maxRecDepth 100000
set_option maxHeartbeats 2000000
namespace MP
open PySem L2
variable {tab : Str → Option Df} {k : Nat} {h : MH} {Q : Post} {E : XQ}
def d_deck : Df := ⟨["cell"], 1, .cons (.ret (.lst true (.cons (.bin .Mult (.var 0) (.blt .int (.cons (.cmp .GtE (.var 0) (.bin .Pow (.int 10) (.int 18))) .nil))) (.cons (.bin .Mod (.var 0) (.int 2147483587)) (.cons (.int 0) .nil))))) .nil⟩
def d_draw : Df := ⟨["deck", "most", "got", "mixed"], 2, .cons (.ife (.cmp .Gt (.idx (.var 0) (.int 0)) (.int 0)) (.cons (.asg (.name 2) (.bin .Mod (.idx (.var 0) (.int 0)) (.var 1))) (.cons (.sub (.var 0) (.int 0) (.bin .FloorDiv (.idx (.var 0) (.int 0)) (.var 1))) (.cons (.ret (.var 2)) .nil))) (.nil)) (.cons (.sub (.var 0) (.int 2) (.bin .Add (.idx (.var 0) (.int 2)) (.int 1))) (.cons (.asg (.name 3) (.bin .Mod (.bin .Mult (.bin .Add (.bin .Add (.idx (.var 0) (.int 1)) (.bin .Mult (.int 104729) (.idx (.var 0) (.int 2)))) (.int 17)) (.int 48271)) (.int 2147483647))) (.cons (.asg (.name 3) (.bin .Mod (.bin .Add (.bin .Add (.bin .Mult (.var 3) (.var 3)) (.bin .Mult (.int 69621) (.var 3))) (.idx (.var 0) (.int 2))) (.int 2147483629))) (.cons (.ret (.bin .Mod (.bin .FloorDiv (.bin .Mod (.bin .Mult (.var 3) (.int 39373)) (.int 2147483563)) (.int 8)) (.var 1))) .nil))))⟩
theorem draw_ok (ht : tab "_law_draw" = some d_draw) {p : Addr} {a b c m : Int} (hp : h p = some (.lst [.int a, .int b, .int c])) (h1 : 0 < m) (h2 : m < 1073741824)
    (q : ∀ r a' b' c', 0 ≤ r → r < m → Q (.int r) (h.put p (.lst [.int a', .int b', .int c']))) : callW tab (k + 1) "_law_draw" [.loc p, .int m] h Q E := by
  refine call_body ht rfl ?_
  rw [d_draw, w_ife]
  simp only [startE]
  simp [idx_p hp]
  split
  · rw [w_asg]
    simp [idx_p hp, h1]
    rw [w_sub]
    simp [idx_p hp, h1, h2, subW, hp, L2.ixN]
    refine ⟨.inl (by omega), ?_⟩
    rw [w_ret]
    simp
    exact ret_same (q _ _ _ _ (Int.emod_nonneg _ (by omega)) (Int.emod_lt_of_pos _ h1))
  · rw [w_nil]
    simp
    rw [w_sub]
    simp [idx_p hp, h1, h2, subW, hp, L2.ixN]
    rw [w_asg]
    simp [idx_p put_at, h1, h2]
    rw [w_asg]
    simp [idx_p put_at, h1, h2]
    refine ⟨by omega, ?_⟩
    rw [w_ret]
    simp [h1]
    exact ret_same (q _ _ _ _ (Int.emod_nonneg _ (by omega)) (Int.emod_lt_of_pos _ h1))
theorem deck_ok (ht : tab "_law_deck" = some d_deck) {i : Int} (q : ∀ p a b, h p = none → Q (.loc p) (h.put p (.lst [.int a, .int b, .int 0]))) : callW tab (k + 1) "_law_deck" [.int i] h Q E := by
  refine call_body ht rfl ?_
  rw [d_deck, w_ret]
  simp only [startE]
  simp
  refine ⟨by right; left; split <;> decide, by rw [PySem.sizeLine_eq]; decide, fun p hp => ret_same (q p _ _ hp)⟩
theorem pickW {xs : List PV} {i : Int} {P : PV → Prop} (h0 : 0 ≤ i) (h1 : i < xs.length) (q : ∀ x ∈ xs, P x) : ∃ v, L2.atI xs i = some v ∧ P v := by
  rw [atI_int _ h0]
  have hr : i.toNat < xs.length := by omega
  exact ⟨xs[i.toNat], List.getElem?_eq_getElem hr, q _ (List.getElem_mem hr)⟩
@[simp] theorem ne_bb {T : Bool → MH → Prop} {i j : Bool} : cmpW .NotEq (.bl i) (.bl j) h T = T (decide (i ≠ j)) h := by
  have e : eqP (.bl i) (.bl j) = decide (i = j) := by simp only [eqP, toD, PyData.eqv]; rw [Bool.eq_iff_iff]; simp
  simp [cmpW, neW, eqOk_bl, e]
@[simp] theorem dct1_t {x : List PV} {Q : Post} {v : PV} : dct1W (.tup x) v h Q = (x.all isKey = true ∧ Q (.dct [.tup x] [v]) h) := rfl
def Ss.from : Nat → Ss → Ss
  | 0, s => s
  | n + 1, .cons _ r => Ss.from n r
  | _ + 1, .nil => .nil
theorem szl {n : Nat} (h : n ≤ 400000) : n ≤ sizeLine := by rw [PySem.sizeLine_eq]; omega
end MP
set_option Elab.async false
set_option linter.all false
set_option maxRecDepth 100000
set_option maxHeartbeats 2000000
namespace MP
open PySem L2
def d_struck_at : Df := ⟨["order", "found", "at", "place"], 1, .cons (.asg (.name 1) (.rpl (.lst false (.cons (.int 0) .nil)) (.blt .len (.cons (.var 0) .nil)))) (.cons (.for (.tup2 (.name 2) (.name 3)) (.enum (.var 0)) (.cons (.sub (.var 1) (.var 3) (.var 2)) .nil)) (.cons (.ret (.var 1)) .nil))⟩
def d_are_three_places : Df := ⟨["many", "thing", "one"], 2, .cons (.ife (.or (.not (.isi (.var 1) "tuple")) (.cmp .NotEq (.blt .len (.cons (.var 1) .nil)) (.int 3))) (.cons (.ret (.bl false)) .nil) (.nil)) (.cons (.ife (.not (.blt .all (.cons (.comp false (.and (.call "is_whole" (.cons (.var 2) .nil)) (.chain .LtE .Lt (.int 0) (.var 2) (.var 0))) (.name 2) (.seq (.var 1)) .none) .nil))) (.cons (.ret (.bl false)) .nil) (.nil)) (.cons (.ret (.cmp .NotEq (.idx (.var 1) (.int 0)) (.idx (.var 1) (.int 1)))) .nil))⟩
def d_is_due : Df := ⟨["cells", "at", "i", "k", "p"], 5, .cons (.ife (.or (.isin (.tup (.cons (.var 2) (.cons (.var 3) .nil))) (.var 0) false) (.or (.cmp .Gt (.idx (.var 1) (.var 4)) (.blt .min2 (.cons (.idx (.var 1) (.var 2)) (.cons (.idx (.var 1) (.var 3)) .nil)))) (.isin (.var 4) (.tup (.cons (.var 2) (.cons (.var 3) .nil))) false))) (.cons (.ret (.bl false)) .nil) (.nil)) (.cons (.ret (.and (.isin (.tup (.cons (.var 2) (.cons (.var 4) .nil))) (.var 0) false) (.isin (.tup (.cons (.var 4) (.cons (.var 3) .nil))) (.var 0) false))) .nil)⟩
def d_is_shut : Df := ⟨["cells", "at", "rows_with", "place", "i", "p", "k"], 2, .cons (.asg (.name 2) (.comp false (.lst true (.nil)) (.name 3) (.seq (.var 1)) .none)) (.cons (.for (.tup2 (.name 4) (.name 5)) (.keys (.var 0)) (.cons (.ife (.cmp .Lt (.idx (.var 1) (.var 5)) (.idx (.var 1) (.var 4))) (.cons (.ex (.meth (.idx (.var 2) (.var 5)) .append (.cons (.var 4) .nil))) .nil) (.nil)) .nil)) (.cons (.for (.tup2 (.name 5) (.name 6)) (.keys (.var 0)) (.cons (.ife (.and (.cmp .Lt (.idx (.var 1) (.var 5)) (.idx (.var 1) (.var 6))) (.blt .any (.cons (.comp false (.and (.cmp .NotEq (.var 4) (.var 6)) (.isin (.tup (.cons (.var 4) (.cons (.var 6) .nil))) (.var 0) true)) (.name 4) (.seq (.idx (.var 2) (.var 5))) .none) .nil))) (.cons (.ret (.bl false)) .nil) (.nil)) .nil)) (.cons (.ret (.bl true)) .nil)))⟩
def d_fills_holds : Df := ⟨["pattern", "order", "thing", "at", "cells", "cell", "one"], 3, .cons (.ife (.not (.isi (.var 2) "tuple")) (.cons (.ret (.bl false)) .nil) (.nil)) (.cons (.asg (.name 3) (.call "struck_at" (.cons (.var 1) .nil))) (.cons (.asg (.name 4) (.mkdm (.comp false (.tup (.cons (.var 5) (.cons (.bl true) .nil))) (.name 5) (.seq (.idx (.var 0) (.int 1))) .none))) (.cons (.for (.name 6) (.seq (.var 2)) (.cons (.ife (.or (.not (.call "are_three_places" (.cons (.idx (.var 0) (.int 0)) (.cons (.var 6) .nil)))) (.not (.call "is_due" (.cons (.var 4) (.cons (.var 3) (.cons (.idx (.var 6) (.int 0)) (.cons (.idx (.var 6) (.int 1)) (.cons (.idx (.var 6) (.int 2)) .nil)))))))) (.cons (.ret (.bl false)) .nil) (.nil)) (.cons (.sub (.var 4) (.slc (.var 6) .none (.some (.int 2))) (.bl true)) .nil))) (.cons (.ret (.call "is_shut" (.cons (.var 4) (.cons (.var 3) .nil)))) .nil))))⟩
def d__law_is_triple : Df := ⟨["many", "at", "there", "thing", "one", "i", "k", "p"], 4, .cons (.ife (.or (.not (.isi (.var 3) "tuple")) (.cmp .NotEq (.blt .len (.cons (.var 3) .nil)) (.int 3))) (.cons (.ret (.bl false)) .nil) (.nil)) (.cons (.ife (.cmp .NotEq (.comp false (.var 4) (.name 4) (.seq (.var 3)) (.some (.or (.not (.call "_law_whole" (.cons (.var 4) .nil))) (.not (.chain .LtE .Lt (.int 0) (.var 4) (.var 0)))))) (.lst false (.nil))) (.cons (.ret (.bl false)) .nil) (.nil)) (.cons (.asg (.tup3 (.name 5) (.name 6) (.name 7)) (.var 3)) (.cons (.ife (.or (.cmp .Eq (.var 5) (.var 6)) (.or (.isin (.tup (.cons (.var 5) (.cons (.var 6) .nil))) (.var 2) false) (.or (.cmp .GtE (.dix (.var 1) (.var 7)) (.dix (.var 1) (.var 5))) (.cmp .GtE (.dix (.var 1) (.var 7)) (.dix (.var 1) (.var 6)))))) (.cons (.ret (.bl false)) .nil) (.nil)) (.cons (.ret (.and (.isin (.tup (.cons (.var 5) (.cons (.var 7) .nil))) (.var 2) false) (.isin (.tup (.cons (.var 7) (.cons (.var 6) .nil))) (.var 2) false))) .nil))))⟩
def d__law_due_cells : Df := ⟨["many", "order", "there", "found", "at", "p", "rows", "i", "columns", "k"], 3, .cons (.asg (.name 3) (.lst true (.nil))) (.cons (.for (.tup2 (.name 4) (.name 5)) (.enum (.var 1)) (.cons (.asg (.name 6) (.comp false (.var 7) (.name 7) (.seq (.slc (.var 1) (.some (.bin .Add (.var 4) (.int 1))) .none)) (.some (.isin (.tup (.cons (.var 7) (.cons (.var 5) .nil))) (.var 2) false)))) (.cons (.asg (.name 8) (.comp false (.var 9) (.name 9) (.seq (.slc (.var 1) (.some (.bin .Add (.var 4) (.int 1))) .none)) (.some (.isin (.tup (.cons (.var 5) (.cons (.var 9) .nil))) (.var 2) false)))) (.cons (.for (.name 7) (.seq (.var 6)) (.cons (.ex (.meth (.var 3) .extend (.cons (.comp false (.tup (.cons (.var 7) (.cons (.var 9) (.cons (.var 5) .nil)))) (.name 9) (.seq (.var 8)) (.some (.and (.cmp .NotEq (.var 7) (.var 9)) (.isin (.tup (.cons (.var 7) (.cons (.var 9) .nil))) (.var 2) true)))) .nil))) .nil)) .nil)))) (.cons (.ret (.var 3)) .nil))⟩
def d__law_holds : Df := ⟨["pattern", "order", "thing", "at", "k", "place", "there", "cell", "one"], 3, .cons (.ife (.not (.isi (.var 2) "tuple")) (.cons (.ret (.bl false)) .nil) (.nil)) (.cons (.asg (.name 3) (.mki (.comp false (.tup (.cons (.var 5) (.cons (.var 4) .nil))) (.tup2 (.name 4) (.name 5)) (.enum (.var 1)) .none))) (.cons (.asg (.name 6) (.mkdm (.comp false (.tup (.cons (.var 7) (.cons (.bl true) .nil))) (.name 7) (.seq (.idx (.var 0) (.int 1))) .none))) (.cons (.for (.name 8) (.seq (.var 2)) (.cons (.ife (.not (.call "_law_is_triple" (.cons (.idx (.var 0) (.int 0)) (.cons (.var 3) (.cons (.var 6) (.cons (.var 8) .nil)))))) (.cons (.ret (.bl false)) .nil) (.nil)) (.cons (.sub (.var 6) (.slc (.var 8) .none (.some (.int 2))) (.bl true)) .nil))) (.cons (.ret (.cmp .Eq (.call "_law_due_cells" (.cons (.idx (.var 0) (.int 0)) (.cons (.var 1) (.cons (.var 6) .nil)))) (.lst false (.nil)))) .nil))))⟩
def d__law_hand : Df := ⟨["deck", "pattern", "order", "there", "cell", "found", "some", "one"], 3, .cons (.asg (.name 3) (.mkdm (.comp false (.tup (.cons (.var 4) (.cons (.bl true) .nil))) (.name 4) (.seq (.idx (.var 1) (.int 1))) .none))) (.cons (.asg (.name 5) (.tup (.nil))) (.cons (.asg (.name 6) (.call "_law_due_cells" (.cons (.idx (.var 1) (.int 0)) (.cons (.var 2) (.cons (.var 3) .nil))))) (.cons (.while (.cmp .NotEq (.var 6) (.lst false (.nil))) (.cons (.asg (.name 7) (.idx (.var 6) (.call "_law_draw" (.cons (.var 0) (.cons (.blt .len (.cons (.var 6) .nil)) .nil))))) (.cons (.sub (.var 3) (.slc (.var 7) .none (.some (.int 2))) (.bl true)) (.cons (.asg (.name 5) (.bin .Add (.var 5) (.tup (.cons (.var 7) .nil)))) (.cons (.asg (.name 6) (.call "_law_due_cells" (.cons (.idx (.var 1) (.int 0)) (.cons (.var 2) (.cons (.var 3) .nil))))) .nil))))) (.cons (.ret (.var 5)) .nil))))⟩
structure FT (tab : Str → Option Df) : Prop where
  isw : tab "is_whole" = some d_is_whole
  sta : tab "struck_at" = some d_struck_at
  thr : tab "are_three_places" = some d_are_three_places
  due : tab "is_due" = some d_is_due
  shu : tab "is_shut" = some d_is_shut
  fho : tab "fills_holds" = some d_fills_holds
variable {tab : Str → Option Df} {k : Nat} {h : MH} {Q : Post} {E : XQ}
theorem nats_at {os : List Nat} {i : Nat} (hi : i < os.length) : L2.atI (nats os) (i : Int) = some (.int (os[i]'hi : Nat)) := by
  rw [atI_nat, nats, List.getElem?_map, List.getElem?_eq_getElem hi]; rfl
theorem nats_len (os : List Nat) : (nats os).length = os.length := by simp [nats]
def posL (os : List Nat) (m : Nat) : List Nat := (List.range m).map fun j => os.idxOf j
theorem posL_at {os : List Nat} {m j : Nat} (hj : j < m) : L2.atI (nats (posL os m)) (j : Int) = some (.int (os.idxOf j : Nat)) := by
  rw [nats_at (by simpa [posL] using hj)]
  simp [posL]
theorem enumV_get2 {xs : List PV} {i : Nat} {x : PV} (e : (enumV xs)[i]? = some x) : ∃ y, xs[i]? = some y ∧ x = .tup [.int (i : Nat), y] := by
  unfold enumV at e
  rw [List.getElem?_map, List.getElem?_zipIdx] at e
  cases q : xs[i]? with
  | none => rw [q] at e; cases e
  | some y => rw [q] at e; exact ⟨y, rfl, by simpa using e.symm⟩
theorem nats_get {os : List Nat} {i : Nat} {y : PV} (e : (nats os)[i]? = some y) : ∃ hi : i < os.length, y = .int (os[i] : Nat) := by
  unfold nats at e
  rw [List.getElem?_map] at e
  cases q : os[i]? with
  | none => rw [q] at e; cases e
  | some z =>
    rw [q] at e
    obtain ⟨hi, ez⟩ := List.getElem?_eq_some_iff.mp q
    exact ⟨hi, by rw [ez]; simpa using e.symm⟩
theorem ixN_nat {n i : Nat} (hi : i < n) : L2.ixN n (i : Int) = some i := by
  unfold L2.ixN
  rw [if_pos (by omega), if_pos (by omega)]
  simp
def partL (os : List Nat) (m i : Nat) : List Nat := (List.range m).map fun j => if os.idxOf j < i then os.idxOf j else 0
theorem partL0 (os : List Nat) (m : Nat) : List.replicate m (PV.int 0) = nats (partL os m 0) := by
  unfold partL nats
  rw [List.map_map]
  apply List.ext_getElem
  · simp
  · intro i h1 h2; simp
theorem idx_at {os : List Nat} (nd : os.Nodup) {i : Nat} (hi : i < os.length) : os.idxOf os[i] = i := by
  exact List.Nodup.idxOf_getElem nd i hi
theorem partL_step {os : List Nat} {m i : Nat} (nd : os.Nodup) (hi : i < os.length) : (nats (partL os m i)).set os[i] (.int (i : Nat)) = nats (partL os m (i + 1)) := by
  unfold partL nats
  apply List.ext_getElem
  · simp
  · intro j h1 h2
    rw [List.getElem_set]
    simp only [List.getElem_map, List.getElem_range]
    by_cases e : os[i] = j
    · rw [if_pos e]
      have : os.idxOf j = i := by rw [← e]; exact idx_at nd hi
      rw [this, if_pos (by omega)]
    · rw [if_neg e]
      have : os.idxOf j ≠ i := fun z => by
        apply e
        subst z
        exact List.getElem_idxOf hi
      by_cases c : os.idxOf j < i
      · rw [if_pos c, if_pos (by omega)]
      · rw [if_neg c, if_neg (by omega)]
theorem partL_all {os : List Nat} {m : Nat} (po : os.Perm (List.range m)) : partL os m m = posL os m := by
  unfold partL posL
  apply List.map_congr_left
  intro j hj
  have : j ∈ os := po.mem_iff.mpr hj
  have l := List.idxOf_lt_length_of_mem this
  rw [po.length_eq, List.length_range] at l
  rw [if_pos l]
theorem fzvs_same {h : MH} {S : Addr → Prop} : ∀ xs : List PV, Fzvs h S xs xs
  | [] => .nil
  | x :: r => .cons (.same x) (fzvs_same r)
theorem struck_at_ok (ht : tab "struck_at" = some d_struck_at) {os : List Nat} {m : Nat} (po : os.Perm (List.range m)) (hm : m ≤ 1000) (q : Q (.lst (nats (posL os m))) h) : callW tab (k + 1) "struck_at" [.tup (nats os)] h Q E := by
  have lo : os.length = m := by rw [po.length_eq, List.length_range]
  have nd : os.Nodup := po.nodup_iff.mpr List.nodup_range
  refine call_body ht rfl ?_
  rw [d_struck_at, w_asg]
  simp only [startE]
  simp [rplW, nats_len]
  refine ⟨szl (by omega), szl (by omega), fun p hp => ?_⟩
  rw [w_for]
  simp
  intro _
  refine for_all (fun i e g => ∃ w1 w2, e = [some (.tup (nats os)), some (.loc p), w1, w2] ∧ g = h.put p (.lst (nats (partL os m i)))) ⟨_, _, rfl, by rw [lo, partL0]⟩ (fun _ _ _ _ => by simp) ?_ ?_
  · rintro i x e g N hx ⟨w1, w2, rfl, rfl⟩ hN
    obtain ⟨y, ey, rfl⟩ := enumV_get2 hx
    obtain ⟨hi, rfl⟩ := nats_get ey
    have hm2 : os[i] < m := by simpa using po.mem_iff.mp (List.getElem_mem hi)
    simp
    rw [w_sub]
    simp [subW]
    refine ⟨os[i], ixN_nat (by rw [nats_len]; simpa [partL] using hm2), ?_⟩
    refine w_end ?_
    exact hN _ _ ⟨_, _, rfl, by rw [partL_step nd hi]⟩
  · rintro e g ⟨w1, w2, rfl, rfl⟩
    simp
    rw [w_ret]
    simp
    have el : partL os m (enumV (nats os)).length = posL os m := by
      rw [enumV_len, nats_len, lo]
      exact partL_all po
    rw [el]
    refine ⟨fun a => a = p, _, h, fun a e => ⟨_, by subst e; exact put_at⟩, .frz rfl put_at (fzvs_same _), fun a c e => ?_, q⟩
    have ne : a ≠ p := fun z => by rw [z, hp] at e; cases e
    exact ⟨ne, c, (put_off ne).trans e, .same c⟩
def tri (m : Nat) : PV → Option (Nat × Nat × Nat)
  | .tup [.int i, .int k, .int p] => if 0 ≤ i ∧ i < m ∧ 0 ≤ k ∧ k < m ∧ 0 ≤ p ∧ p < m ∧ i ≠ k then some (i.toNat, k.toNat, p.toNat) else none
  | _ => none
def inr (m : Nat) : PV → Bool
  | .int i => decide (0 ≤ i ∧ i < m)
  | _ => false
theorem pur3 {x y z : PV} (h : pur (.tup [x, y, z]) = true) : pur x = true ∧ pur y = true ∧ pur z = true := by
  simp only [pur, purs, Bool.and_eq_true, and_true] at h
  exact ⟨h.1, h.2.1, h.2.2⟩
theorem tri3 {m : Nat} {x y z : PV} : tri m (.tup [x, y, z]) = none ∨ ∃ i k p : Nat, x = .int i ∧ y = .int k ∧ z = .int p ∧ i < m ∧ k < m ∧ p < m ∧ i ≠ k ∧ tri m (.tup [x, y, z]) = some (i, k, p) := by
  cases e : tri m (.tup [x, y, z]) with
  | none => exact .inl rfl
  | some t =>
    right
    unfold tri at e
    split at e
    · rename_i h0
      cases h0
      split at e
      · rename_i i k p c
        obtain ⟨c1, c2, c3, c4, c5, c6, c7⟩ := c
        cases e
        refine ⟨i.toNat, k.toNat, p.toNat, ?_, ?_, ?_, by omega, by omega, by omega, by omega, rfl⟩ <;> congr 1 <;> omega
      · cases e
    · cases e
theorem tri_in {m : Nat} {x y z : PV} (hx : inr m x = true) (hy : inr m y = true) (hz : inr m z = true) : ∃ i k p : Int, x = .int i ∧ y = .int k ∧ z = .int p ∧ 0 ≤ i ∧ i < m ∧ 0 ≤ k ∧ k < m ∧ 0 ≤ p ∧ p < m := by
  unfold inr at hx hy hz
  split at hx <;> first | cases hx | skip
  split at hy <;> first | cases hy | skip
  split at hz <;> first | cases hz | skip
  simp only [decide_eq_true_eq] at hx hy hz
  exact ⟨_, _, _, rfl, rfl, rfl, hx.1, hx.2, hy.1, hy.2, hz.1, hz.2⟩
theorem tri_out {m : Nat} {x y z : PV} (h : (inr m x && (inr m y && inr m z)) = false) : tri m (.tup [x, y, z]) = none := by
  rcases tri3 (m := m) (x := x) (y := y) (z := z) with e | ⟨i, k, p, rfl, rfl, rfl, h1, h2, h3, _, _⟩
  · exact e
  · exfalso
    simp only [inr] at h
    simp at h
    omega
theorem tri_len {m : Nat} {xs : List PV} (h : xs.length ≠ 3) : tri m (.tup xs) = none := by
  unfold tri
  split
  · rename_i e; cases e; simp at h
  · rfl
theorem inr_is {x : PV} {m : Nat} {T : Post} {e : Env} (q : T (.bl (inr m x)) h) (hx : pur x = true) (hw : tab "is_whole" = some d_is_whole) :
    callW tab (k + 1) "is_whole" [x] h (fun v h1 => truW v h1 fun c h2 => if c = true then cmpW CmpOp.LtE (PV.int 0) x h2 fun c h3 => if c = true then cmpW CmpOp.Lt x (PV.int m) h3 fun c h5 => T (PV.bl c) h5 else T (PV.bl false) h3 else T v h2) E := by
  refine is_whole_ok hw hx ?_
  cases x with
  | int i =>
    simp [whole]
    simp only [inr] at q
    by_cases c : 0 ≤ i
    · simp [c] at q ⊢; exact q
    · simp [c] at q ⊢; exact q
  | _ => simpa [whole, inr] using q
theorem are_three_ok (T : FT tab) {m : Nat} {v : PV} (hv : pur v = true) (q : Q (.bl (tri m v).isSome) h) : callW tab (k + 2) "are_three_places" [.int (m : Nat), v] h Q E := by
  refine call_body T.thr rfl ?_
  rw [d_are_three_places, w_ife]
  simp only [startE]
  simp [isi_eq hv, tyB]
  by_cases t : isTb "tuple" v = true
  · obtain ⟨xs, rfl⟩ : ∃ xs, v = .tup xs := by cases v <;> first | exact ⟨_, rfl⟩ | (cases t; done) | (cases hv; done)
    simp [t]
    by_cases l : xs.length = 3
    · simp [l]
      obtain ⟨x, y, z, rfl⟩ : ∃ x y z, xs = [x, y, z] := by
        match xs, l with
        | [x, y, z], _ => exact ⟨x, y, z, rfl⟩
      obtain ⟨p1, p2, p3⟩ := pur3 hv
      rw [w_nil]
      simp
      rw [w_ife]
      simp
      intro _
      refine comp_pure (fun x => some (.bl (inr m x))) (by simp) (fun x hx R hR => ?_) ?_
      · have px : pur x = true := by
          simp only [List.mem_cons, List.not_mem_nil, or_false] at hx
          rcases hx with rfl | rfl | rfl <;> assumption
        exact inr_is (T := fun v h => R (some v) h) (e := []) hR px T.isw
      · have eb : [x, y, z].filterMap (fun x => some (PV.bl (inr m x))) = [inr m x, inr m y, inr m z].map PV.bl := by simp
        rw [eb]
        refine ⟨by simp [PySem.sizeLine_eq], _, _, rfl, boolsP_map _, ?_⟩
        simp only [tru_b]
        by_cases c : (inr m x && (inr m y && inr m z)) = true
        · simp [c]
          simp at c
          obtain ⟨i, k', p, rfl, rfl, rfl, i0, i1, k0, k1, q0, q1⟩ := tri_in c.1 c.2.1 c.2.2
          rw [w_nil]
          simp
          rw [w_ret]
          simp
          refine ret_same ?_
          simpa [tri, i0, i1, k0, k1, q0, q1, apply_ite] using q
        · simp at c
          rw [tri_out (by simpa using c)] at q
          rw [if_neg (by simpa using c), w_ret]
          simp
          exact ret_same q
    · rw [tri_len l] at q
      have : ¬ (xs.length : Int) = 3 := by omega
      simp [this]
      rw [w_ret]
      simp
      exact ret_same q
  · simp at t
    simp [t]
    rw [w_ret]
    simp
    have : tri m v = none := by cases v <;> first | rfl | (cases t; done)
    rw [this] at q
    exact ret_same q
def dd (ds : List (Nat × Nat)) : List (List PV × PV) := ds.map fun c => ([PV.int (c.1 : Nat), PV.int (c.2 : Nat)], PV.bl true)
theorem eqKs_pr (a b c d : Nat) : eqKs [.int (a : Nat), .int (b : Nat)] [.int (c : Nat), .int (d : Nat)] = decide ((a, b) = (c, d)) := by
  simp only [eqKs, eqK1, Bool.and_true]
  rw [Bool.eq_iff_iff]
  simp
  omega
theorem look_dd (i j : Nat) : ∀ ds : List (Nat × Nat), (lookP ((dd ds).map (·.1)) ((dd ds).map (·.2)) [.int (i : Nat), .int (j : Nat)]).isSome = decide ((i, j) ∈ ds)
  | [] => rfl
  | c :: ds => by
    have ih := look_dd i j ds
    unfold dd at ih ⊢
    simp only [List.map_cons, lookP, eqKs_pr]
    by_cases e : (c.1, c.2) = (i, j)
    · have e2 : c = (i, j) := e
      simp [e2]
    · have e2 : ¬ (i, j) = c := fun z => e (by rw [← z])
      have e3 : ¬ decide ((c.1, c.2) = (i, j)) = true := by simpa using e
      rw [if_neg e3, ih]
      simp [e2]
theorem in_dd {d : Addr} {ds : List (Nat × Nat)} {i j : Nat} {T : Bool → MH → Prop} (hd : dcell h (.loc d) = some (dd ds)) : inW (.tup [.int (i : Nat), .int (j : Nat)]) (.loc d) h T = T (decide ((i, j) ∈ ds)) h := by
  rw [in_d hd, look_dd]
  simp [isKey]
theorem put_dd {ds : List (Nat × Nat)} {c : Nat × Nat} (hc : c ∉ ds) : putP (dd ds) [.int (c.1 : Nat), .int (c.2 : Nat)] (.bl true) = dd (ds ++ [c]) := by
  unfold putP
  rw [if_neg]
  · simp [dd]
  · simp only [dd, List.any_map, List.any_eq_true, Function.comp_apply, eqKs_pr, decide_eq_true_eq, not_exists, not_and]
    intro x hx e
    apply hc
    have : x = c := e
    rwa [← this]
end MP
set_option Elab.async false
set_option linter.all false
set_option maxRecDepth 100000
set_option maxHeartbeats 2000000
namespace MP
open PySem L2
variable {tab : Str → Option Df} {k : Nat} {h : MH} {Q : Post} {E : XQ}
def dueB (os : List Nat) (ds : List (Nat × Nat)) (t : Nat × Nat × Nat) : Bool :=
  decide ((t.1, t.2.1) ∉ ds) && (decide (os.idxOf t.2.2 < os.idxOf t.1) && (decide (os.idxOf t.2.2 < os.idxOf t.2.1) && (decide ((t.1, t.2.2) ∈ ds) && decide ((t.2.2, t.2.1) ∈ ds))))
def step (os : List Nat) (m : Nat) (ds : List (Nat × Nat)) (v : PV) : Option (Nat × Nat) :=
  match tri m v with
  | some t => if dueB os ds t = true then some (t.1, t.2.1) else none
  | none => none
def run (os : List Nat) (m : Nat) : List PV → List (Nat × Nat) → Option (List (Nat × Nat))
  | [], ds => some ds
  | x :: r, ds => match step os m ds x with
    | some c => run os m r (ds ++ [c])
    | none => none
def rowsOf (os : List Nat) (ds : List (Nat × Nat)) (p : Nat) : List Nat := (ds.filter fun c => decide (c.2 = p) && decide (os.idxOf c.2 < os.idxOf c.1)).map (·.1)
def chk (os : List Nat) (ds : List (Nat × Nat)) (c : Nat × Nat) : Bool := !decide (os.idxOf c.1 < os.idxOf c.2) || (rowsOf os ds c.1).all fun i => decide (i = c.2) || decide ((i, c.2) ∈ ds)
def shut (os : List Nat) (ds : List (Nat × Nat)) : Bool := ds.all (chk os ds)
def holds (os : List Nat) (m : Nat) (cs : List (Nat × Nat)) : PV → Bool
  | .tup xs => match run os m xs cs with
    | some ds => shut os ds
    | none => false
  | _ => false
structure Dw (m : Nat) (ds : List (Nat × Nat)) : Prop where
  lt : ∀ c ∈ ds, c.1 < m ∧ c.2 < m ∧ c.1 ≠ c.2
  nd : ds.Nodup
theorem idx_ne {os : List Nat} {m i j : Nat} (po : os.Perm (List.range m)) (hi : i < m) (hj : j < m) (ne : i ≠ j) : os.idxOf i ≠ os.idxOf j := fun e => by
  have mi : i ∈ os := po.mem_iff.mpr (by simpa using hi)
  have mj : j ∈ os := po.mem_iff.mpr (by simpa using hj)
  have h1 := List.getElem_idxOf (List.idxOf_lt_length_of_mem mi)
  have h2 := List.getElem_idxOf (List.idxOf_lt_length_of_mem mj)
  apply ne
  rw [← h1, ← h2]
  congr 1
theorem eqP_nat (i j : Nat) : eqP (.int (i : Nat)) (.int (j : Nat)) = decide (i = j) := by
  simp only [eqP, toD, PyData.eqv]
  rw [Bool.eq_iff_iff]
  simp
  omega
theorem in_two {i j p : Nat} {T : Bool → MH → Prop} : inW (.int (p : Nat)) (.tup [.int (i : Nat), .int (j : Nat)]) h T = T (decide (p = i ∨ p = j)) h := by
  have e1 : decide (i = p) = decide (p = i) := by simp [eq_comm]
  have e2 : decide (j = p) = decide (p = j) := by simp [eq_comm]
  simp only [inW, dcell, seqT_t, Option.some.injEq, exists_eq_left', rd_i, List.any_cons, List.any_nil, Bool.or_false, eqP_nat, e1, e2, Bool.decide_or]
  refine propext ⟨fun z => z.2, fun z => ⟨⟨eqOk_int, rfl, rfl⟩, z⟩⟩
theorem is_due_ok (T : FT tab) {d : Addr} {os : List Nat} {m i j p : Nat} {ds : List (Nat × Nat)} (po : os.Perm (List.range m)) (hd : dcell h (.loc d) = some (dd ds)) (hi : i < m) (hj : j < m) (hp : p < m)
    (q : Q (.bl (dueB os ds (i, j, p))) h) : callW tab (k + 1) "is_due" [.loc d, .lst (nats (posL os m)), .int (i : Nat), .int (j : Nat), .int (p : Nat)] h Q E := by
  refine call_body T.due rfl ?_
  rw [d_is_due, w_ife]
  simp only [startE]
  simp [in_dd hd, posL_at hi, posL_at hj, posL_at hp, in_two]
  refine ⟨szl (by omega), ?_⟩
  have n1 := idx_ne po hp hi
  have n2 := idx_ne po hp hj
  by_cases c1 : (i, j) ∈ ds
  · rw [if_pos c1, w_ret]
    simp
    exact ret_same (by simpa [dueB, c1] using q)
  · rw [if_neg c1]
    by_cases c2 : os.idxOf p ≤ os.idxOf i ∧ os.idxOf p ≤ os.idxOf j
    · rw [if_neg (by split <;> omega)]
      refine ⟨szl (by omega), ?_⟩
      by_cases c3 : p = i ∨ p = j
      · rw [if_pos c3, w_ret]
        simp
        have f : dueB os ds (i, j, p) = false := by
          rcases c3 with rfl | rfl <;> simp [dueB]
        rw [f] at q
        exact ret_same q
      · rw [if_neg c3, w_nil]
        have c4 : p ≠ i ∧ p ≠ j := by
          constructor <;> intro z <;> simp [z] at c3
        have l1 : os.idxOf p < os.idxOf i := by have := n1 c4.1; omega
        have l2 : os.idxOf p < os.idxOf j := by have := n2 c4.2; omega
        simp
        rw [w_ret]
        simp [in_dd hd]
        refine ⟨szl (by omega), ?_⟩
        have e : dueB os ds (i, j, p) = (decide ((i, p) ∈ ds) && decide ((p, j) ∈ ds)) := by simp [dueB, c1, l1, l2]
        rw [e] at q
        by_cases c5 : (i, p) ∈ ds
        · rw [if_pos c5]
          refine ⟨szl (by omega), ret_same ?_⟩
          simpa [c5] using q
        · rw [if_neg c5]
          exact ret_same (by simpa [c5] using q)
    · rw [if_pos (by split <;> omega), w_ret]
      simp
      have f : dueB os ds (i, j, p) = false := by
        by_cases z1 : os.idxOf p < os.idxOf i
        · by_cases z2 : os.idxOf p < os.idxOf j
          · omega
          · simp [dueB, z1, z2]
        · simp [dueB, z1]
      rw [f] at q
      exact ret_same q
theorem dd_keys (ds : List (Nat × Nat)) : ((dd ds).map fun p => PV.tup p.1) = ds.map prV := by unfold dd; rw [List.map_map]; rfl
theorem dd_len (ds : List (Nat × Nat)) : (dd ds).length = ds.length := by simp [dd]
theorem pr_get {ds : List (Nat × Nat)} {i : Nat} {x : PV} (e : (ds.map prV)[i]? = some x) : ∃ hi : i < ds.length, x = prV ds[i] := by
  rw [List.getElem?_map] at e
  cases q : ds[i]? with
  | none => rw [q] at e; cases e
  | some z =>
    rw [q] at e
    obtain ⟨hi, ez⟩ := List.getElem?_eq_some_iff.mp q
    exact ⟨hi, by rw [ez]; simpa using e.symm⟩
theorem rows_step {os : List Nat} {ds : List (Nat × Nat)} {i p : Nat} (hi : i < ds.length) : rowsOf os (ds.take (i + 1)) p = rowsOf os (ds.take i) p ++ (if ds[i].2 = p ∧ os.idxOf ds[i].2 < os.idxOf ds[i].1 then [ds[i].1] else []) := by
  unfold rowsOf
  rw [List.take_succ_eq_append_getElem hi, List.filter_append, List.map_append]
  congr 1
  by_cases c : ds[i].2 = p ∧ os.idxOf ds[i].2 < os.idxOf ds[i].1
  · rw [if_pos c, List.filter_cons_of_pos (by simp [c.1]; have := c.2; rw [c.1] at this; exact this)]
    simp
  · rw [if_neg c, List.filter_cons_of_neg (by simpa using c)]
    simp
theorem rows_len (os : List Nat) (ds : List (Nat × Nat)) (p : Nat) : (rowsOf os ds p).length ≤ ds.length := by
  unfold rowsOf
  rw [List.length_map]
  exact List.length_filter_le _ _
theorem loc_at {qs : List Addr} {j : Nat} (hj : j < qs.length) : L2.atI (qs.map PV.loc) (j : Int) = some (.loc qs[j]) := by
  rw [atI_nat, List.getElem?_map, List.getElem?_eq_getElem hj]; rfl
theorem all_any (ds : List (Nat × Nat)) (b : Nat) : ∀ l : List Nat, (l.all fun i => decide (i = b) || decide ((i, b) ∈ ds)) = !((l.map fun z => decide (z ≠ b) && !decide ((z, b) ∈ ds)).any id)
  | [] => rfl
  | a :: r => by
    rw [List.all_cons, List.map_cons, List.any_cons, all_any ds b r]
    by_cases c1 : a = b <;> by_cases c2 : (a, b) ∈ ds <;> simp [c1, c2]
theorem is_shut_ok (T : FT tab) {d : Addr} {os : List Nat} {m : Nat} {ds : List (Nat × Nat)} (po : os.Perm (List.range m)) (hm : m ≤ 1000) (hd : dcell h (.loc d) = some (dd ds)) (D : Dw m ds) (lz : ds.length ≤ 10000)
    (q : Q (.bl (shut os ds)) (h.put d (.dtf (dd ds)))) : callW tab (k + 1) "is_shut" [.loc d, .lst (nats (posL os m))] h Q E := by
  have lp : (posL os m).length = m := by simp [posL]
  refine call_body T.shu rfl ?_
  rw [d_is_shut, w_asg]
  simp only [startE]
  simp
  intro _
  have hdn : h d ≠ none := fun z => by simp [dcell, z] at hd
  refine comp_inv (fun i acc g => ∃ qs : List Addr, acc = qs.map PV.loc ∧ qs.length = i ∧ qs.Nodup ∧ (∀ q ∈ qs, h q = none ∧ g q = some (.lst [])) ∧ HLe h g) ⟨[], rfl, rfl, List.nodup_nil, by simp, hle_refl⟩ (fun _ _ _ _ => by simp) ?_ ?_
  · rintro i x acc g R hx ⟨qs, rfl, lq, nd, hq, le⟩ hR
    intro p hp
    refine hR _ _ ⟨qs ++ [p], by simp, by simp [lq], ?_, ?_, ?_⟩
    · have pn : p ∉ qs := fun z => by have := (hq p z).2; rw [hp] at this; cases this
      rw [List.nodup_append]
      exact ⟨nd, by simp, fun a ha b hb => by rw [List.mem_singleton] at hb; subst hb; intro z; subst z; exact pn ha⟩
    · intro q hq'
      rw [List.mem_append, List.mem_singleton] at hq'
      rcases hq' with z | rfl
      · have ne : q ≠ p := fun e => by have := (hq q z).2; rw [e, hp] at this; cases this
        exact ⟨(hq q z).1, (put_off ne).trans (hq q z).2⟩
      · refine ⟨?_, put_at⟩
        cases e : h q with
        | none => rfl
        | some c => have := le q c e; rw [hp] at this; cases this
    · refine hle_put ?_ le
      cases e : h p with
      | none => rfl
      | some c => have := le p c e; rw [hp] at this; cases this
  · rintro acc g ⟨qs, rfl, lq, nd, hq, le⟩
    rw [nats_len, lp] at lq
    refine ⟨by rw [List.length_map]; exact szl (by omega), ?_⟩
    rw [w_for]
    simp
    have hg : dcell g (.loc d) = some (dd ds) := by
      obtain ⟨a, e1, e2⟩ := dcell_loc hd
      cases e1
      rcases e2 with e2 | e2
      · exact dcell_t (le d _ e2)
      · exact dcell_f (le d _ e2)
    refine keys_d hg fun _ => ?_
    rw [dd_keys]
    have dn : ∀ q ∈ qs, q ≠ d := fun q z e => by rw [e] at z; exact hdn (hq d z).1
    refine for_all (fun i e g2 => ∃ w4 w5, e = [some (.loc d), some (.lst (nats (posL os m))), some (.lst (qs.map .loc)), none, w4, w5, none] ∧ HLe (h.put d (.dtf (dd ds))) g2 ∧ ∀ j (hj : j < m), g2 (qs[j]'(by omega)) = some (.lst (nats (rowsOf os (ds.take i) j))))
      ⟨_, _, rfl, hle_mono le, fun j hj => ?_⟩ (fun _ _ _ _ => by simp) ?_ ?_
    · have hj' : j < qs.length := by omega
      rw [put_off (dn _ (List.getElem_mem hj')), (hq _ (List.getElem_mem hj')).2]
      simp [rowsOf, nats]
    · rintro i x e g2 N hx ⟨w4, w5, rfl, le2, hr⟩ hN
      obtain ⟨hi, rfl⟩ := pr_get hx
      obtain ⟨l1, l2, l3⟩ := D.lt _ (List.getElem_mem hi)
      simp [prV]
      rw [w_ife]
      simp [posL_at l1, posL_at l2]
      by_cases c : os.idxOf ds[i].2 < os.idxOf ds[i].1
      · rw [if_pos c, w_ex]
        simp [loc_at (show ds[i].2 < qs.length by omega)]
        refine ⟨⟨_, hr _ l2⟩, _, hr _ l2, by rw [nats_len]; exact Nat.lt_of_le_of_lt (rows_len _ _ _) (by rw [List.length_take, PySem.sizeLine_eq]; omega), ?_⟩
        simp only [w_nil]
        have qn : h qs[ds[i].2] = none := (hq _ (List.getElem_mem _)).1
        refine hN _ _ ⟨_, _, rfl, hle_put (by rw [put_off (dn _ (List.getElem_mem _))]; exact qn) le2, fun j hj => ?_⟩
        rw [rows_step hi]
        by_cases z : j = ds[i].2
        · subst z
          rw [put_at, if_pos ⟨rfl, c⟩]
          simp [nats]
        · have ne : qs[j]'(by omega) ≠ qs[ds[i].2]'(by omega) := fun e => z ((List.getElem_inj nd).mp e)
          rw [put_off ne, if_neg (fun y => z y.1.symm), List.append_nil]
          exact hr j hj
      · rw [if_neg c, w_nil]
        refine hN _ _ ⟨_, _, rfl, le2, fun j hj => ?_⟩
        rw [rows_step hi, if_neg (fun z => c z.2), List.append_nil]
        exact hr j hj
    · rintro e g2 ⟨w4, w5, rfl, le2, hr⟩
      simp
      rw [w_for]
      simp
      have hg2 : g2 d = some (.dtf (dd ds)) := le2 _ _ put_at
      refine keys_d (dcell_f hg2) fun _ => ?_
      rw [dd_keys, put_self hg2]
      have hr' : ∀ (j : Nat) (hj : j < m), g2 (qs[j]'(by omega)) = some (.lst (nats (rowsOf os ds j))) := fun j hj => by
        rw [hr j hj]
        simp
      refine for_all (fun i e g3 => ∃ w4 w5 w6, e = [some (.loc d), some (.lst (nats (posL os m))), some (.lst (qs.map .loc)), none, w4, w5, w6] ∧ g3 = g2 ∧ (ds.take i).all (chk os ds) = true)
        ⟨_, _, _, rfl, rfl, by simp⟩ (fun _ _ _ _ => by simp) ?_ ?_
      · rintro i x e g3 N hx ⟨w4, w5, w6, rfl, rfl, hc⟩ hN
        obtain ⟨hi, rfl⟩ := pr_get hx
        obtain ⟨l1, l2, l3⟩ := D.lt _ (List.getElem_mem hi)
        have more : chk os ds ds[i] = true → (ds.take (i + 1)).all (chk os ds) = true := fun z => by
          rw [List.take_succ_eq_append_getElem hi, List.all_append, hc]
          simp [z]
        have less : chk os ds ds[i] = false → shut os ds = false := fun z => by
          unfold shut
          rw [List.all_eq_false]
          exact ⟨_, List.getElem_mem hi, by simp [z]⟩
        simp [prV]
        rw [w_ife]
        simp [posL_at l1, posL_at l2]
        by_cases c : os.idxOf ds[i].1 < os.idxOf ds[i].2
        · rw [if_pos c]
          simp [loc_at (show ds[i].1 < qs.length by omega), srcV_loc (hr' _ l1)]
          intro _
          refine comp_pure (fun x => match x with | .int z => some (.bl (decide (z.toNat ≠ ds[i].2) && !decide ((z.toNat, ds[i].2) ∈ ds))) | _ => none) (by simp [Src.stays, hr' _ l1]) (fun x hx R hR => ?_) ?_
          · obtain ⟨z, hz, rfl⟩ := List.mem_map.mp hx
            simp [in_dd (dcell_f hg2)]
            simp at hR
            by_cases y : z = ds[i].2
            · have y' : (z : Int) = (ds[i].2 : Nat) := by omega
              rw [if_pos y']
              simpa [y] using hR
            · have y' : ¬ (z : Int) = (ds[i].2 : Nat) := by omega
              rw [if_neg y']
              exact ⟨szl (by omega), by simpa [y] using hR⟩
          · have eb : ∀ l : List Nat, (nats l).filterMap (fun x => match x with | .int z => some (PV.bl (decide (z.toNat ≠ ds[i].2) && !decide ((z.toNat, ds[i].2) ∈ ds))) | _ => none) = (l.map fun z => decide (z ≠ ds[i].2) && !decide ((z, ds[i].2) ∈ ds)).map PV.bl := by
              intro l
              induction l with
              | nil => rfl
              | cons a r ih =>
                unfold nats at ih ⊢
                simp only [List.map_cons, List.filterMap_cons, Int.toNat_natCast, ih]
            rw [eb]
            refine ⟨by simp only [List.length_map]; exact szl (by have := rows_len os ds ds[i].1; omega), _, _, rfl, boolsP_map _, ?_⟩
            simp only [tru_b]
            have ec : chk os ds ds[i] = !(((rowsOf os ds ds[i].1).map fun z => decide (z ≠ ds[i].2) && !decide ((z, ds[i].2) ∈ ds)).any id) := by
              unfold chk
              rw [← all_any]
              simp only [c, decide_true, Bool.not_true, Bool.false_or]
            split
            · rename_i y
              rw [y] at ec
              rw [w_ret]
              simp
              rw [less (by simpa using ec)] at q
              refine ret_drop le2 ?_
              exact q
            · rename_i y
              have y' : (((rowsOf os ds ds[i].1).map fun z => decide (z ≠ ds[i].2) && !decide ((z, ds[i].2) ∈ ds)).any id) = false := by simpa using y
              rw [y'] at ec
              rw [w_nil]
              exact hN _ _ ⟨_, _, _, rfl, rfl, more (by simpa using ec)⟩
        · rw [if_neg c, w_nil]
          exact hN _ _ ⟨_, _, _, rfl, rfl, more (by simp [chk, c])⟩
      · rintro e g3 ⟨w4, w5, w6, rfl, rfl, hc⟩
        simp
        rw [w_ret]
        simp
        have s1 : shut os ds = true := by
          unfold shut
          simpa using hc
        rw [s1] at q
        exact ret_drop le2 q
end MP
set_option Elab.async false
set_option linter.all false
set_option maxRecDepth 100000
set_option maxHeartbeats 2000000
namespace MP
open PySem L2
variable {tab : Str → Option Df} {k : Nat} {h : MH} {Q : Post} {E : XQ}
theorem tri_some {m : Nat} {v : PV} {t : Nat × Nat × Nat} (e : tri m v = some t) : v = .tup [.int (t.1 : Nat), .int (t.2.1 : Nat), .int (t.2.2 : Nat)] ∧ t.1 < m ∧ t.2.1 < m ∧ t.2.2 < m ∧ t.1 ≠ t.2.1 := by
  unfold tri at e
  split at e
  · split at e
    · rename_i i k p c
      obtain ⟨c1, c2, c3, c4, c5, c6, c7⟩ := c
      cases e
      refine ⟨?_, by simp only; omega, by simp only; omega, by simp only; omega, by simp only; omega⟩
      simp only [Int.toNat_of_nonneg c1, Int.toNat_of_nonneg c3, Int.toNat_of_nonneg c5]
    · cases e
  · cases e
def patV (m : Nat) (cs : List (Nat × Nat)) : PV := .tup [.int (m : Nat), .tup (cs.map prV)]
theorem Dw.more {m : Nat} {ds : List (Nat × Nat)} {c : Nat × Nat} (D : Dw m ds) (h1 : c.1 < m) (h2 : c.2 < m) (h3 : c.1 ≠ c.2) (h4 : c ∉ ds) : Dw m (ds ++ [c]) := by
  refine ⟨fun x hx => ?_, ?_⟩
  · rcases List.mem_append.mp hx with z | z
    · exact D.lt x z
    · rw [List.mem_singleton] at z
      subst z
      exact ⟨h1, h2, h3⟩
  · rw [List.nodup_append]
    exact ⟨D.nd, by simp, fun a ha b hb => by rw [List.mem_singleton] at hb; subst hb; intro z; subst z; exact h4 ha⟩
theorem sum_const (c : Nat) : ∀ l : List Nat, (l.map fun _ => c).sum = l.length * c
  | [] => by simp
  | a :: r => by rw [List.map_cons, List.sum_cons, sum_const c r, List.length_cons, Nat.add_mul, Nat.one_mul]; omega
theorem fm_some {α β : Type} (f : α → β) : ∀ l : List α, l.filterMap (fun x => some (f x)) = l.map f
  | [] => rfl
  | a :: r => by simp only [List.filterMap_cons, List.map_cons, fm_some f r]
theorem Dw.len {m : Nat} {ds : List (Nat × Nat)} (D : Dw m ds) : ds.length ≤ m * m := by
  have sub : ds ⊆ (List.range m).flatMap fun i => (List.range m).map fun j => (i, j) := fun c hc => by
    obtain ⟨c1, c2, _⟩ := D.lt c hc
    exact List.mem_flatMap.mpr ⟨c.1, by simpa using c1, List.mem_map.mpr ⟨c.2, by simpa using c2, rfl⟩⟩
  have l := List.Nodup.length_le_of_subset D.nd sub
  have e : ((List.range m).flatMap fun i => (List.range m).map fun j => (i, j)).length = m * m := by
    rw [List.length_flatMap]
    simp only [List.length_map, List.length_range]
    rw [sum_const, List.length_range]
  rw [e] at l
  exact l
theorem cut2 {x y z : PV} : slcW.cutP [x, y, z] none (some 2) = [x, y] := by
  rw [cutP_lo _ (by decide)]; rfl
theorem dd_pairs (cs : List (Nat × Nat)) : (cs.map prV).map (fun x => PV.tup [x, .bl true]) = (dd cs).map fun p => PV.tup [.tup p.1, p.2] := by
  unfold dd; rw [List.map_map, List.map_map]; rfl
theorem dd_key (cs : List (Nat × Nat)) : ∀ p ∈ dd cs, p.1.all isKey = true := by
  intro p hp
  obtain ⟨c, _, rfl⟩ := List.mem_map.mp hp
  rfl
theorem dd_nd {cs : List (Nat × Nat)} (nd : cs.Nodup) : ((dd cs).map (·.1)).Pairwise (fun a b => eqKs a b = false) := by
  unfold dd
  rw [List.map_map, List.pairwise_map]
  refine nd.imp fun {a b} ne => ?_
  show eqKs [.int (a.1 : Nat), .int (a.2 : Nat)] [.int (b.1 : Nat), .int (b.2 : Nat)] = false
  rw [eqKs_pr, decide_eq_false_iff_not]
  exact ne
theorem fills_holds_ok (T : FT tab) {os : List Nat} {m : Nat} {cs : List (Nat × Nat)} {v : PV} (po : os.Perm (List.range m)) (hm : m ≤ 100) (D : Dw m cs) (hv : pur v = true) (lv : wt v ≤ 100000)
    (q : Q (.bl (holds os m cs v)) h) : callW tab (k + 3) "fills_holds" [patV m cs, .tup (nats os), v] h Q E := by
  refine call_body T.fho rfl ?_
  rw [d_fills_holds, w_ife]
  simp only [startE]
  simp [isi_eq hv, tyB]
  by_cases t : isTb "tuple" v = true
  · obtain ⟨xs, rfl⟩ : ∃ xs, v = .tup xs := by cases v <;> first | exact ⟨_, rfl⟩ | (cases t; done) | (cases hv; done)
    simp [t]
    rw [w_nil]
    simp
    rw [w_asg]
    simp
    refine struck_at_ok (k := k + 1) T.sta po (by omega) ?_
    rw [w_asg]
    simp [patV]
    intro _
    refine comp_pure (fun x => some (.tup [x, .bl true])) (by simp) (fun x hx R hR => ⟨szl (by omega), hR⟩) ?_
    have mm : m * m ≤ 10000 := Nat.mul_le_mul hm hm
    have eb : (cs.map prV).filterMap (fun x => some (PV.tup [x, .bl true])) = (dd cs).map fun p => PV.tup [.tup p.1, p.2] := by
      rw [← dd_pairs, fm_some]
    rw [eb]
    refine ⟨szl (by rw [List.length_map, dd_len]; have := D.len; omega), dd cs, rfl, dd_key cs, dd_nd D.nd, fun p hp => ?_⟩
    show wpSs _ _ _ _ _ _
    rw [w_for]
    simp
    intro _
    refine for_all (fun i e g => ∃ w6 ds, e = [some (patV m cs), some (.tup (nats os)), some (.tup xs), some (.lst (nats (posL os m))), some (.loc p), none, w6] ∧ g = h.put p (.dtt (dd ds)) ∧ Dw m ds ∧ run os m xs cs = run os m (xs.drop i) ds)
      ⟨_, cs, rfl, rfl, D, by simp⟩ (fun _ _ _ _ => by simp) ?_ ?_
    · rintro i x e g N hx ⟨w6, ds, rfl, rfl, D2, hr⟩ hN
      obtain ⟨hi, ex⟩ := List.getElem?_eq_some_iff.mp hx
      have px : pur x = true := by
        simp only [pur, purs_eq, List.all_eq_true] at hv
        exact hv x (List.mem_of_getElem? hx)
      have hd' : xs.drop i = x :: xs.drop (i + 1) := by rw [← ex, List.getElem_cons_drop]
      rw [hd'] at hr
      simp only [run] at hr
      have no : step os m ds x = none → holds os m cs (.tup xs) = false := fun z => by
        rw [z] at hr
        simp only [holds, hr]
      simp
      rw [w_ife]
      simp [patV]
      refine are_three_ok (k := k) T px ?_
      cases et : tri m x with
      | none =>
        simp
        rw [w_ret]
        simp
        rw [no (by simp [step, et])] at q
        exact ret_drop (hle_put hp hle_refl) q
      | some t =>
        obtain ⟨i1, j1, p1⟩ := t
        obtain ⟨rfl, t1, t2, t3, t4⟩ := tri_some et
        simp only at t1 t2 t3 t4
        simp
        refine is_due_ok (k := k + 1) T (m := m) (ds := ds) po (dcell_t put_at) t1 t2 t3 ?_
        by_cases c : dueB os ds (i1, j1, p1) = true
        · have es : step os m ds (.tup [.int i1, .int j1, .int p1]) = some (i1, j1) := by simp [step, et, c]
          rw [es] at hr
          simp only at hr
          have nc : (i1, j1) ∉ ds := by
            simp [dueB] at c
            exact c.1
          simp [c]
          rw [w_nil]
          simp
          rw [w_sub]
          simp [cut2, subW]
          refine ⟨⟨⟨rfl, rfl⟩, ?_⟩, ?_⟩
          · rw [dd_len, PySem.sizeLine_eq]
            have := D2.len
            omega
          · simp only [w_nil]
            have := put_dd (c := (i1, j1)) nc
            simp only at this
            rw [this]
            exact hN _ _ ⟨_, ds ++ [(i1, j1)], rfl, rfl, D2.more t1 t2 t4 nc, hr⟩
        · simp [c]
          rw [w_ret]
          simp
          rw [no (by simp [step, et, c])] at q
          exact ret_drop (hle_put hp hle_refl) q
    · rintro e g ⟨w6, ds, rfl, rfl, D2, hr⟩
      simp [patV]
      rw [w_ret]
      simp
      have hr : run os m xs cs = some ds := by
        rw [hr]
        simp [run]
      refine is_shut_ok (k := k + 1) T (m := m) (ds := ds) po (by omega) (dcell_t put_at) D2 (by have := D2.len; omega) ?_
      have e1 : holds os m cs (.tup xs) = shut os ds := by simp only [holds, hr]
      rw [e1] at q
      rw [put_put]
      exact ret_drop (hle_put hp hle_refl) q
  · simp at t
    simp [t]
    rw [w_ret]
    simp
    have : holds os m cs v = false := by cases v <;> first | rfl | (cases t; done)
    rw [this] at q
    exact ret_same q
end MP
set_option Elab.async false
set_option linter.all false
set_option maxRecDepth 100000
set_option maxHeartbeats 2000000
namespace MP
open PySem L2
structure FL (tab : Str → Option Df) : Prop where
  ft : FT tab
  whl : tab "_law_whole" = some d__law_whole
  tri : tab "_law_is_triple" = some d__law_is_triple
  duc : tab "_law_due_cells" = some d__law_due_cells
  hol : tab "_law_holds" = some d__law_holds
variable {tab : Str → Option Df} {k : Nat} {h : MH} {Q : Post} {E : XQ}
def atK (os : List Nat) : List (PV × PV) := (os.zipIdx).map fun p => (.int (p.1 : Nat), .int (p.2 : Nat))
def atD (os : List Nat) : PV := .dct ((atK os).map (·.1)) ((atK os).map (·.2))
theorem look_zip (p : Nat) : ∀ (os : List Nat) (s : Nat), p ∈ os → lookK (((os.zipIdx s).map fun p => ((PV.int (p.1 : Nat), PV.int (p.2 : Nat)) : PV × PV)).map (·.1)) (((os.zipIdx s).map fun p => ((PV.int (p.1 : Nat), PV.int (p.2 : Nat)) : PV × PV)).map (·.2)) (.int (p : Nat)) = some (.int ((s + os.idxOf p : Nat) : Int))
  | [], _, hp => by cases hp
  | a :: r, s, hp => by
    rw [List.zipIdx_cons]
    simp only [List.map_cons, lookK, eqK1]
    by_cases e : a = p
    · subst e
      simp
    · have e' : ¬ (a : Int) = (p : Nat) := by omega
      have ih := look_zip p r (s + 1) (by rcases List.mem_cons.mp hp with z | z; exact absurd z.symm e; exact z)
      simp only [e', decide_false, Bool.false_eq_true, if_false]
      rw [ih, List.idxOf_cons]
      have : (a == p) = false := by simpa using e
      rw [this]
      simp only [cond_false]
      congr 2
      omega
theorem dix_at {os : List Nat} {m p : Nat} (po : os.Perm (List.range m)) (hp : p < m) (q : Q (.int (os.idxOf p : Nat)) h) : dixW (atD os) (.int (p : Nat)) h Q := by
  refine .inl ⟨_, _, _, rfl, rfl, ?_, q⟩
  have := look_zip p os 0 (po.mem_iff.mpr (by simpa using hp))
  rw [Nat.zero_add] at this
  exact this
theorem law_triple_ok (T : FL tab) {d : Addr} {os : List Nat} {m : Nat} {ds : List (Nat × Nat)} {v : PV} (po : os.Perm (List.range m)) (hd : dcell h (.loc d) = some (dd ds)) (hv : pur v = true)
    (q : Q (.bl (step os m ds v).isSome) h) : callW tab (k + 2) "_law_is_triple" [.int (m : Nat), atD os, .loc d, v] h Q E := by
  refine call_body T.tri rfl ?_
  rw [d__law_is_triple, w_ife]
  simp only [startE]
  simp [isi_eq hv, tyB]
  by_cases t : isTb "tuple" v = true
  · obtain ⟨xs, rfl⟩ : ∃ xs, v = .tup xs := by cases v <;> first | exact ⟨_, rfl⟩ | (cases t; done) | (cases hv; done)
    simp [t]
    by_cases l : xs.length = 3
    · simp [l]
      obtain ⟨x, y, z, rfl⟩ : ∃ x y z, xs = [x, y, z] := by
        match xs, l with
        | [x, y, z], _ => exact ⟨x, y, z, rfl⟩
      obtain ⟨p1, p2, p3⟩ := pur3 hv
      rw [w_nil]
      simp
      rw [w_ife]
      simp
      intro _
      refine comp_pure (fun x => if inr m x = true then none else some x) (by simp) (fun x hx R hR => ?_) ?_
      · have px : pur x = true := by
          simp only [List.mem_cons, List.not_mem_nil, or_false] at hx
          rcases hx with rfl | rfl | rfl <;> assumption
        refine law_whole_ok T.whl px ?_
        cases x with
        | int i =>
          simp [whole]
          simp only [inr] at hR
          by_cases c : 0 ≤ i
          · by_cases c2 : i < m
            · simp [c, c2] at hR ⊢; exact hR
            · simp [c, c2] at hR ⊢; exact hR
          · simp [c] at hR ⊢; exact hR
        | _ => simpa [whole, inr] using hR
      · have eb : ([x, y, z].filterMap (fun x => if inr m x = true then none else some x)).isEmpty = (inr m x && (inr m y && inr m z)) := by
          by_cases a : inr m x = true <;> by_cases b : inr m y = true <;> by_cases c : inr m z = true <;> simp [List.filterMap_cons, a, b, c]
        have lb := List.length_filterMap_le (fun x => if inr m x = true then none else some x) [x, y, z]
        refine ⟨szl (by simp only [List.length_cons, List.length_nil] at lb; omega), ?_⟩
        have ei : ([x, y, z].filterMap (fun x => if inr m x = true then none else some x)) = [] ↔ (inr m x && (inr m y && inr m z)) = true := by rw [← eb, List.isEmpty_iff]
        by_cases c : (inr m x && (inr m y && inr m z)) = true
        · rw [if_pos (ei.mpr c)]
          simp at c
          obtain ⟨i', k', p', rfl, rfl, rfl, i0, i1, k0, k1, q0, q1⟩ := tri_in c.1 c.2.1 c.2.2
          obtain ⟨i, rfl⟩ : ∃ n : Nat, i' = n := ⟨i'.toNat, by omega⟩
          obtain ⟨j, rfl⟩ : ∃ n : Nat, k' = n := ⟨k'.toNat, by omega⟩
          obtain ⟨p, rfl⟩ : ∃ n : Nat, p' = n := ⟨p'.toNat, by omega⟩
          have i1 : i < m := by omega
          have k1 : j < m := by omega
          have q1 : p < m := by omega
          rw [w_nil]
          simp
          rw [w_asg]
          simp
          rw [w_ife]
          simp [in_dd hd]
          have no : ∀ (e : Env) (D : En), D.rt = retW Q → (step os m ds (.tup [.int (i : Nat), .int (j : Nat), .int (p : Nat)])).isSome = false → wpSs (callW tab (k + 1)) (fun e x h' => retX E e h') (.cons (.ret (.bl false)) .nil) e h D := by
            intro e D hD z
            rw [w_ret]
            simp only [wE_bl, hD]
            rw [z] at q
            exact ret_same q
          by_cases c1 : i = j
          · rw [if_pos (by omega)]
            exact no _ _ rfl (by simp [step, tri, c1])
          · rw [if_neg (by omega)]
            have et : tri m (.tup [.int (i : Nat), .int (j : Nat), .int (p : Nat)]) = some (i, j, p) := by
              simp only [tri]
              rw [if_pos ⟨i0, by omega, k0, by omega, q0, by omega, by omega⟩]
              simp
            have es : (step os m ds (.tup [.int (i : Nat), .int (j : Nat), .int (p : Nat)])).isSome = dueB os ds (i, j, p) := by
              simp only [step, et]
              split <;> simp_all
            refine ⟨szl (by omega), ?_⟩
            by_cases c2 : (i, j) ∈ ds
            · rw [if_pos c2]
              exact no _ _ rfl (by rw [es]; simp [dueB, c2])
            · rw [if_neg c2]
              refine dix_at po q1 (dix_at po i1 ?_)
              simp
              by_cases c3 : os.idxOf p < os.idxOf i
              · rw [if_neg (by omega)]
                refine dix_at po q1 (dix_at po k1 ?_)
                simp
                by_cases c4 : os.idxOf p < os.idxOf j
                · rw [if_neg (by omega), w_nil]
                  simp
                  rw [w_ret]
                  simp [in_dd hd]
                  have e : dueB os ds (i, j, p) = (decide ((i, p) ∈ ds) && decide ((p, j) ∈ ds)) := by simp [dueB, c2, c3, c4]
                  rw [es, e] at q
                  refine ⟨szl (by omega), ?_⟩
                  by_cases c5 : (i, p) ∈ ds
                  · rw [if_pos c5]
                    refine ⟨szl (by omega), ret_same ?_⟩
                    simpa [c5] using q
                  · rw [if_neg c5]
                    exact ret_same (by simpa [c5] using q)
                · rw [if_pos (by omega)]
                  exact no _ _ rfl (by rw [es]; simp [dueB, c4])
              · rw [if_pos (by omega)]
                exact no _ _ rfl (by rw [es]; simp [dueB, c3])
        · rw [if_neg (fun z => c (ei.mp z)), w_ret]
          simp at c
          have e : step os m ds (.tup [x, y, z]) = none := by simp [step, tri_out (by simpa using c)]
          rw [e] at q
          simp
          exact ret_same q
    · have : ¬ (xs.length : Int) = 3 := by omega
      simp [this]
      rw [w_ret]
      simp
      have : step os m ds (.tup xs) = none := by simp [step, tri_len l]
      rw [this] at q
      exact ret_same q
  · simp at t
    simp [t]
    rw [w_ret]
    simp
    have : step os m ds v = none := by
      have e : tri m v = none := by cases v <;> first | rfl | (cases t; done)
      simp [step, e]
    rw [this] at q
    exact ret_same q
def trV (t : Nat × Nat × Nat) : PV := .tup [.int (t.1 : Nat), .int (t.2.1 : Nat), .int (t.2.2 : Nat)]
def rest (os : List Nat) (n : Nat) : List Nat := os.drop (n + 1)
def rowsB (os : List Nat) (ds : List (Nat × Nat)) (n p : Nat) : List Nat := (rest os n).filter fun i => decide ((i, p) ∈ ds)
def colsB (os : List Nat) (ds : List (Nat × Nat)) (n p : Nat) : List Nat := (rest os n).filter fun j => decide ((p, j) ∈ ds)
def newB (ds : List (Nat × Nat)) (cols : List Nat) (i p : Nat) : List (Nat × Nat × Nat) := (cols.filter fun j => decide (i ≠ j) && !decide ((i, j) ∈ ds)).map fun j => (i, j, p)
def dueAt (os : List Nat) (ds : List (Nat × Nat)) (n p : Nat) : List (Nat × Nat × Nat) := (rowsB os ds n p).flatMap fun i => newB ds (colsB os ds n p) i p
def dueTo (os : List Nat) (ds : List (Nat × Nat)) (n : Nat) : List (Nat × Nat × Nat) := (List.range n).flatMap fun a => dueAt os ds a (os.getD a 0)
def dueL (os : List Nat) (ds : List (Nat × Nat)) : List (Nat × Nat × Nat) := dueTo os ds os.length
theorem newB_len (ds : List (Nat × Nat)) (cols : List Nat) (i p : Nat) : (newB ds cols i p).length ≤ cols.length := by
  unfold newB
  rw [List.length_map]
  exact List.length_filter_le _ _
theorem flat_len {α β : Type} (f : α → List β) (c : Nat) : ∀ l : List α, (∀ x ∈ l, (f x).length ≤ c) → (l.flatMap f).length ≤ l.length * c
  | [], _ => by simp
  | a :: r, h => by
    rw [List.flatMap_cons, List.length_append, List.length_cons, Nat.add_mul, Nat.one_mul]
    have h1 := h a (List.mem_cons_self ..)
    have h2 := flat_len f c r fun x hx => h x (List.mem_cons_of_mem _ hx)
    omega
theorem rest_len (os : List Nat) (n : Nat) : (rest os n).length ≤ os.length := by unfold rest; rw [List.length_drop]; omega
theorem cols_len (os : List Nat) (ds : List (Nat × Nat)) (n p : Nat) : (colsB os ds n p).length ≤ os.length := Nat.le_trans (List.length_filter_le _ _) (rest_len os n)
theorem rows_lenB (os : List Nat) (ds : List (Nat × Nat)) (n p : Nat) : (rowsB os ds n p).length ≤ os.length := Nat.le_trans (List.length_filter_le _ _) (rest_len os n)
theorem dueAt_len (os : List Nat) (ds : List (Nat × Nat)) (n p : Nat) : (dueAt os ds n p).length ≤ os.length * os.length := by
  refine Nat.le_trans (flat_len _ os.length _ fun i _ => Nat.le_trans (newB_len ..) (cols_len ..)) ?_
  exact Nat.mul_le_mul_right _ (rows_lenB ..)
theorem dueTo_len (os : List Nat) (ds : List (Nat × Nat)) (n : Nat) : (dueTo os ds n).length ≤ n * (os.length * os.length) := by
  have := flat_len (fun a => dueAt os ds a (os.getD a 0)) (os.length * os.length) (List.range n) fun a _ => dueAt_len ..
  rw [List.length_range] at this
  exact this
theorem dueTo_step (os : List Nat) (ds : List (Nat × Nat)) (n : Nat) : dueTo os ds (n + 1) = dueTo os ds n ++ dueAt os ds n (os.getD n 0) := by
  unfold dueTo
  rw [List.range_succ, List.flatMap_append, List.flatMap_cons, List.flatMap_nil, List.append_nil]
def selF (P : Nat → Bool) (f : Nat → PV) : PV → Option PV
  | .int z => if P z.toNat = true then some (f z.toNat) else none
  | _ => none
theorem selF_nats (P : Nat → Bool) (f : Nat → PV) : ∀ l : List Nat, (nats l).filterMap (selF P f) = (l.filter P).map f
  | [] => rfl
  | a :: r => by
    have ih := selF_nats P f r
    unfold nats at ih ⊢
    rw [List.map_cons, List.filterMap_cons, ih]
    simp only [selF, Int.toNat_natCast]
    by_cases c : P a = true
    · simp [c]
    · simp [c]
theorem cut_rest (os : List Nat) (n : Nat) : slcW.cutP (nats os) (some ((n : Int) + 1)) none = nats (rest os n) := by
  rw [cutP_hi _ (by omega)]
  unfold nats rest
  rw [List.map_drop]
  congr 1
theorem law_due_ok (T : FL tab) {d : Addr} {os : List Nat} {m : Nat} {ds : List (Nat × Nat)} (po : os.Perm (List.range m)) (hm : m ≤ 60) (hd : dcell h (.loc d) = some (dd ds))
    (q : Q (.lst ((dueL os ds).map trV)) h) : callW tab (k + 1) "_law_due_cells" [.int (m : Nat), .tup (nats os), .loc d] h Q E := by
  have lo : os.length = m := by rw [po.length_eq, List.length_range]
  refine call_body T.duc rfl ?_
  rw [d__law_due_cells, w_asg]
  simp only [startE]
  simp
  refine fun p hp => ?_
  have npd : d ≠ p := fun z => by subst z; simp [dcell, hp] at hd
  have hdp : ∀ c, dcell (h.put p c) (.loc d) = some (dd ds) := fun c => by
    simp only [dcell, put_off npd]
    exact hd
  rw [w_for]
  simp
  intro _
  refine for_all (fun i e g => ∃ w4 w5 w6 w7 w8 w9, e = [some (.int (m : Nat)), some (.tup (nats os)), some (.loc d), some (.loc p), w4, w5, w6, w7, w8, w9] ∧ g = h.put p (.lst ((dueTo os ds i).map trV)))
    ⟨_, _, _, _, _, _, rfl, by simp [dueTo]⟩ (fun _ _ _ _ => by simp) ?_ ?_
  · rintro n x e g N hx ⟨w4, w5, w6, w7, w8, w9, rfl, rfl⟩ hN
    obtain ⟨y, ey, rfl⟩ := enumV_get2 hx
    obtain ⟨hi, rfl⟩ := nats_get ey
    simp
    rw [w_asg]
    simp
    rw [cut_rest]
    intro _
    refine comp_pure (selF (fun i => decide ((i, os[n]) ∈ ds)) fun z => .int (z : Nat)) (by simp) (fun x hx R hR => ?_) ?_
    · obtain ⟨z, hz, rfl⟩ := List.mem_map.mp hx
      refine ⟨szl (by omega), ?_⟩
      rw [in_dd (hdp _)]
      simp only [selF, Int.toNat_natCast] at hR
      split <;> rename_i c <;> simp [c] at hR <;> exact hR
    rw [selF_nats]
    have lr := rows_lenB os ds n os[n]
    have lc := cols_len os ds n os[n]
    refine ⟨by rw [List.length_map]; exact szl (by unfold rowsB at lr; omega), ?_⟩
    rw [w_asg]
    simp
    rw [cut_rest]
    intro _
    refine comp_pure (selF (fun j => decide ((os[n], j) ∈ ds)) fun z => .int (z : Nat)) (by simp) (fun x hx R hR => ?_) ?_
    · obtain ⟨z, hz, rfl⟩ := List.mem_map.mp hx
      refine ⟨szl (by omega), ?_⟩
      rw [in_dd (hdp _)]
      simp only [selF, Int.toNat_natCast] at hR
      split <;> rename_i c <;> simp [c] at hR <;> exact hR
    rw [selF_nats]
    refine ⟨by rw [List.length_map]; exact szl (by unfold colsB at lc; omega), ?_⟩
    rw [w_for]
    simp
    intro _
    have er : ((rest os n).filter fun i => decide ((i, os[n]) ∈ ds)) = rowsB os ds n os[n] := rfl
    have ec : ((rest os n).filter fun j => decide ((os[n], j) ∈ ds)) = colsB os ds n os[n] := rfl
    rw [er, ec]
    refine for_all (fun i e g => ∃ w7 w9, e = [some (.int (m : Nat)), some (.tup (nats os)), some (.loc d), some (.loc p), some (.int (n : Nat)), some (.int (os[n] : Nat)), some (.lst (nats (rowsB os ds n os[n]))), w7, some (.lst (nats (colsB os ds n os[n]))), w9] ∧
        g = h.put p (.lst ((dueTo os ds n ++ ((rowsB os ds n os[n]).take i).flatMap fun i => newB ds (colsB os ds n os[n]) i os[n]).map trV)))
      ⟨_, _, rfl, by simp⟩ (fun _ _ _ _ => by simp) ?_ ?_
    · rintro i x e g N2 hx2 ⟨w7, w9, rfl, rfl⟩ hN2
      obtain ⟨hi2, rfl⟩ := nats_get hx2
      simp
      rw [w_ex]
      simp
      generalize ei : (rowsB os ds n os[n])[i] = a
      intro _
      refine comp_pure (selF (fun j => decide (a ≠ j) && !decide ((a, j) ∈ ds)) fun j => trV (a, j, os[n])) (by simp) (fun x hx R hR => ?_) ?_
      · obtain ⟨z, hz, rfl⟩ := List.mem_map.mp hx
        simp only [selF, Int.toNat_natCast] at hR
        simp
        by_cases c1 : a = z
        · rw [if_pos (by omega)]
          simpa [c1] using hR
        · rw [if_neg (by omega)]
          refine ⟨szl (by omega), ?_⟩
          rw [in_dd (hdp _)]
          by_cases c2 : (a, z) ∈ ds
          · simpa [c1, c2] using hR
          · simp [c1, c2] at hR ⊢
            exact ⟨szl (by omega), hR⟩
      rw [selF_nats]
      have el : ((colsB os ds n os[n]).filter fun j => decide (a ≠ j) && !decide ((a, j) ∈ ds)).map (fun j => trV (a, j, os[n])) = (newB ds (colsB os ds n os[n]) a os[n]).map trV := by
        unfold newB
        rw [List.map_map]
        rfl
      rw [el]
      have ln := newB_len ds (colsB os ds n os[n]) a os[n]
      refine ⟨by rw [List.length_map]; exact szl (by omega), _, _, put_at, rfl, ?_, ?_⟩
      · simp only [List.length_append, List.length_map]
        have l1 := dueTo_len os ds n
        have l2 := flat_len (fun i => newB ds (colsB os ds n os[n]) i os[n]) os.length ((rowsB os ds n os[n]).take i) fun i _ => Nat.le_trans (newB_len ..) lc
        have l3 : ((rowsB os ds n os[n]).take i).length ≤ os.length := by rw [List.length_take]; omega
        have l4 : ((rowsB os ds n os[n]).take i).length * os.length ≤ 60 * 60 := Nat.mul_le_mul (by omega) (by omega)
        have l5 : n * (os.length * os.length) ≤ 60 * (60 * 60) := Nat.mul_le_mul (by omega) (Nat.mul_le_mul (by omega) (by omega))
        exact szl (by omega)
      · rw [put_put]
        simp only [w_nil]
        refine hN2 _ _ ⟨_, _, rfl, ?_⟩
        rw [List.take_succ_eq_append_getElem hi2, List.flatMap_append, ei]
        simp
    · rintro e g ⟨w7, w9, rfl, rfl⟩
      refine hN _ _ ⟨_, _, _, _, _, _, rfl, ?_⟩
      rw [dueTo_step]
      have eT : ∀ r : List Nat, r.take ((nats r).length) = r := fun r => by rw [nats_len, List.take_length]
      show h.put p (.lst ((_ ++ ((rowsB os ds n os[n]).take (nats (rowsB os ds n os[n])).length).flatMap _).map trV)) = _
      rw [eT]
      have : os.getD n 0 = os[n] := by simp [List.getD, hi]
      rw [this]
      rfl
  · rintro e g ⟨w4, w5, w6, w7, w8, w9, rfl, rfl⟩
    simp
    rw [w_ret]
    simp
    have q : Q (.lst ((dueTo os ds (enumV (nats os)).length).map trV)) h := by
      rw [enumV_len, nats_len]
      exact q
    refine ⟨fun a => a = p, _, h, fun a e => ⟨_, by subst e; exact put_at⟩, .frz rfl put_at (fzvs_same _), fun a c e => ?_, q⟩
    have ne : a ≠ p := fun z => by rw [z, hp] at e; cases e
    exact ⟨ne, c, (put_off ne).trans e, .same c⟩
end MP
set_option Elab.async false
set_option linter.all false
set_option maxRecDepth 100000
set_option maxHeartbeats 2000000
namespace MP
open PySem L2
variable {tab : Str → Option Df} {k : Nat} {h : MH} {Q : Post} {E : XQ}
theorem mem_rest {os : List Nat} (nd : os.Nodup) {n i : Nat} : i ∈ rest os n ↔ i ∈ os ∧ n < os.idxOf i := by
  unfold rest
  constructor
  · intro hi
    obtain ⟨j, hj, e⟩ := List.mem_iff_getElem.mp hi
    rw [List.getElem_drop] at e
    rw [List.length_drop] at hj
    have hl : n + 1 + j < os.length := by omega
    refine ⟨List.mem_of_mem_drop hi, ?_⟩
    have := List.Nodup.idxOf_getElem nd (n + 1 + j) hl
    rw [e] at this
    omega
  · rintro ⟨hi, hn⟩
    have hl := List.idxOf_lt_length_of_mem hi
    have e := List.getElem_idxOf hl
    refine List.mem_iff_getElem.mpr ⟨os.idxOf i - (n + 1), by rw [List.length_drop]; omega, ?_⟩
    rw [List.getElem_drop]
    have : n + 1 + (os.idxOf i - (n + 1)) = os.idxOf i := by omega
    simp only [this]
    exact e
theorem mem_dueL {os : List Nat} {m : Nat} {ds : List (Nat × Nat)} (po : os.Perm (List.range m)) (D : Dw m ds) {t : Nat × Nat × Nat} : t ∈ dueL os ds ↔ dueB os ds t = true ∧ t.1 ≠ t.2.1 := by
  obtain ⟨i, j, p⟩ := t
  have nd : os.Nodup := po.nodup_iff.mpr List.nodup_range
  have mo : ∀ x, x ∈ os ↔ x < m := fun x => by rw [po.mem_iff]; simp
  unfold dueL dueTo
  simp only [List.mem_flatMap, List.mem_range, dueAt, newB, List.mem_map, List.mem_filter, rowsB, colsB, mem_rest nd, Prod.mk.injEq, Bool.and_eq_true, Bool.not_eq_true', decide_eq_true_eq, decide_eq_false_iff_not, dueB]
  constructor
  · rintro ⟨a, ha, x, ⟨⟨x1, x2⟩, x3⟩, y, ⟨⟨⟨y1, y2⟩, y3⟩, y4, y5⟩, rfl, rfl, e⟩
    have e0 : os.getD a 0 = os[a] := by simp [List.getD, ha]
    rw [e0] at e x3 y3
    have ia := List.Nodup.idxOf_getElem nd a ha
    rw [e] at ia x3 y3
    exact ⟨⟨y5, by omega, by omega, x3, y3⟩, y4⟩
  · rintro ⟨⟨h1, h2, h3, h4, h5⟩, h6⟩
    obtain ⟨b1, b2, _⟩ := D.lt _ h4
    obtain ⟨b3, b4, _⟩ := D.lt _ h5
    simp only at b1 b2 b3 b4
    have hp : p ∈ os := (mo p).mpr b2
    have hl := List.idxOf_lt_length_of_mem hp
    have e : os.getD (os.idxOf p) 0 = p := by
      simp only [List.getD, List.getElem?_eq_getElem hl, Option.getD_some]
      exact List.getElem_idxOf hl
    refine ⟨os.idxOf p, hl, i, ⟨⟨(mo i).mpr b1, h2⟩, by rw [e]; exact h4⟩, j, ⟨⟨⟨(mo j).mpr b4, h3⟩, by rw [e]; exact h5⟩, h6, h1⟩, rfl, rfl, e⟩
theorem shut_due {os : List Nat} {m : Nat} {ds : List (Nat × Nat)} (po : os.Perm (List.range m)) (D : Dw m ds) : shut os ds = (dueL os ds).isEmpty := by
  rw [Bool.eq_iff_iff, List.isEmpty_iff, List.eq_nil_iff_forall_not_mem]
  constructor
  · intro hs t ht
    rw [mem_dueL po D] at ht
    obtain ⟨i, j, p⟩ := t
    simp only [dueB, Bool.and_eq_true, decide_eq_true_eq] at ht
    obtain ⟨⟨h1, h2, h3, h4, h5⟩, h6⟩ := ht
    unfold shut at hs
    rw [List.all_eq_true] at hs
    have := hs _ h5
    simp only [chk, h3, decide_true, Bool.not_true, Bool.false_or, List.all_eq_true, Bool.or_eq_true, decide_eq_true_eq] at this
    have mi : i ∈ rowsOf os ds p := by
      unfold rowsOf
      exact List.mem_map.mpr ⟨(i, p), List.mem_filter.mpr ⟨h4, by simp [h2]⟩, rfl⟩
    rcases this i mi with z | z
    · exact h6 z
    · exact h1 z
  · intro hn
    unfold shut
    rw [List.all_eq_true]
    rintro ⟨p, j⟩ hc
    by_cases c : os.idxOf p < os.idxOf j
    · simp only [chk, c, decide_true, Bool.not_true, Bool.false_or, List.all_eq_true, Bool.or_eq_true, decide_eq_true_eq]
      intro i hi
      unfold rowsOf at hi
      obtain ⟨⟨x, y⟩, hx, rfl⟩ := List.mem_map.mp hi
      obtain ⟨hx1, hx2⟩ := List.mem_filter.mp hx
      simp only [Bool.and_eq_true, decide_eq_true_eq] at hx2
      obtain ⟨rfl, hx3⟩ := hx2
      apply Classical.byContradiction
      intro nn
      rw [not_or] at nn
      refine hn (x, j, y) ((mem_dueL po D).mpr ⟨?_, nn.1⟩)
      simp only [dueB, Bool.and_eq_true, decide_eq_true_eq]
      exact ⟨nn.2, hx3, c, hx1, hc⟩
    · simp [chk, c]
theorem step_some {os : List Nat} {m : Nat} {ds : List (Nat × Nat)} {v : PV} {c : Nat × Nat} (e : step os m ds v = some c) :
    ∃ i j p : Nat, v = .tup [.int (i : Nat), .int (j : Nat), .int (p : Nat)] ∧ i < m ∧ j < m ∧ p < m ∧ i ≠ j ∧ (i, j) ∉ ds ∧ c = (i, j) := by
  unfold step at e
  split at e
  · rename_i t et
    split at e
    · rename_i d
      cases e
      obtain ⟨i, j, p⟩ := t
      obtain ⟨e1, t1, t2, t3, t4⟩ := tri_some et
      refine ⟨i, j, p, e1, t1, t2, t3, t4, ?_, rfl⟩
      simp [dueB] at d
      exact d.1
    · cases e
  · cases e
def swP : PV → Option PV
  | .tup [a, b] => some (.tup [b, a])
  | _ => none
theorem sw_enum (os : List Nat) : (enumV (nats os)).filterMap swP = (atK os).map fun p => PV.tup [p.1, p.2] := by
  unfold enumV atK nats
  rw [List.zipIdx_map, List.map_map, List.map_map, List.filterMap_map]
  rw [show (swP ∘ (fun p : PV × Nat => PV.tup [.int (p.2 : Nat), p.1]) ∘ Prod.map (fun o : Nat => PV.int (o : Nat)) id) = fun p : Nat × Nat => some (PV.tup [.int (p.1 : Nat), .int (p.2 : Nat)]) from rfl]
  rw [fm_some]
  rfl
theorem atK_key (os : List Nat) : ∀ p ∈ atK os, isKey p.1 = true := by
  intro p hp
  obtain ⟨c, _, rfl⟩ := List.mem_map.mp hp
  rfl
theorem atK_keys (os : List Nat) : (atK os).map (·.1) = nats os := by
  unfold atK nats
  rw [List.map_map]
  have e : os = os.zipIdx.map (·.1) := by simp
  conv => rhs; rw [e, List.map_map]
  rfl
theorem atK_nd {os : List Nat} (nd : os.Nodup) : ((atK os).map (·.1)).Pairwise (fun a b => eqK1 a b = false) := by
  rw [atK_keys]
  unfold nats
  rw [List.pairwise_map]
  refine nd.imp fun {a b} ne => ?_
  simp only [eqK1, decide_eq_false_iff_not]
  omega
theorem law_holds_ok (T : FL tab) {os : List Nat} {m : Nat} {cs : List (Nat × Nat)} {v : PV} (po : os.Perm (List.range m)) (hm : m ≤ 60) (D : Dw m cs) (hv : pur v = true) (lv : wt v ≤ 100000)
    (q : Q (.bl (holds os m cs v)) h) : callW tab (k + 3) "_law_holds" [patV m cs, .tup (nats os), v] h Q E := by
  have lo : os.length = m := by rw [po.length_eq, List.length_range]
  have nd : os.Nodup := po.nodup_iff.mpr List.nodup_range
  refine call_body T.hol rfl ?_
  rw [d__law_holds, w_ife]
  simp only [startE]
  simp [isi_eq hv, tyB]
  by_cases t : isTb "tuple" v = true
  · obtain ⟨xs, rfl⟩ : ∃ xs, v = .tup xs := by cases v <;> first | exact ⟨_, rfl⟩ | (cases t; done) | (cases hv; done)
    simp [t]
    rw [w_nil]
    simp
    rw [w_asg]
    simp
    intro _
    refine comp_pure swP (by simp) (fun x hx R hR => ?_) ?_
    · obtain ⟨n, hn⟩ := List.mem_iff_getElem?.mp hx
      obtain ⟨y, ey, rfl⟩ := enumV_get2 hn
      simp
      exact ⟨szl (by omega), hR⟩
    rw [sw_enum]
    refine ⟨by rw [List.length_map]; simp only [atK, List.length_map, List.length_zipIdx]; exact szl (by omega), atK os, rfl, atK_key os, atK_nd nd, ?_⟩
    show wpSs _ _ _ _ _ _
    rw [w_asg]
    simp [patV]
    intro _
    refine comp_pure (fun x => some (.tup [x, .bl true])) (by simp) (fun x hx R hR => ⟨szl (by omega), hR⟩) ?_
    have mm : m * m ≤ 60 * 60 := Nat.mul_le_mul hm hm
    have eb : (cs.map prV).filterMap (fun x => some (PV.tup [x, .bl true])) = (dd cs).map fun p => PV.tup [.tup p.1, p.2] := by
      rw [← dd_pairs, fm_some]
    rw [eb]
    refine ⟨szl (by rw [List.length_map, dd_len]; have := D.len; omega), dd cs, rfl, dd_key cs, dd_nd D.nd, fun p hp => ?_⟩
    show wpSs _ _ _ _ _ _
    rw [w_for]
    simp
    intro _
    refine for_all (fun i e g => ∃ w8 ds, e = [some (patV m cs), some (.tup (nats os)), some (.tup xs), some (atD os), none, none, some (.loc p), none, w8] ∧ g = h.put p (.dtt (dd ds)) ∧ Dw m ds ∧ run os m xs cs = run os m (xs.drop i) ds)
      ⟨_, cs, rfl, rfl, D, by simp⟩ (fun _ _ _ _ => by simp) ?_ ?_
    · rintro i x e g N hx ⟨w8, ds, rfl, rfl, D2, hr⟩ hN
      obtain ⟨hi, ex⟩ := List.getElem?_eq_some_iff.mp hx
      have px : pur x = true := by
        simp only [pur, purs_eq, List.all_eq_true] at hv
        exact hv x (List.mem_of_getElem? hx)
      have hd' : xs.drop i = x :: xs.drop (i + 1) := by rw [← ex, List.getElem_cons_drop]
      rw [hd'] at hr
      simp only [run] at hr
      simp
      rw [w_ife]
      simp [patV]
      refine law_triple_ok (k := k) T (d := p) (ds := ds) po (dcell_t put_at) px ?_
      cases es : step os m ds x with
      | none =>
        simp
        rw [w_ret]
        simp
        have : holds os m cs (.tup xs) = false := by
          rw [es] at hr
          simp only [holds, hr]
        rw [this] at q
        exact ret_drop (hle_put hp hle_refl) q
      | some c =>
        rw [es] at hr
        simp only at hr
        simp
        rw [w_nil]
        simp
        rw [w_sub]
        obtain ⟨i1, j1, p1, rfl, t1, t2, t3, t4, nc, rfl⟩ := step_some es
        simp [cut2, subW]
        refine ⟨⟨⟨rfl, rfl⟩, ?_⟩, ?_⟩
        · rw [dd_len, PySem.sizeLine_eq]
          have := D2.len
          omega
        · simp only [w_nil]
          have := put_dd (c := (i1, j1)) nc
          simp only at this
          rw [this]
          exact hN _ _ ⟨_, ds ++ [(i1, j1)], rfl, rfl, D2.more t1 t2 t4 nc, hr⟩
    · rintro e g ⟨w8, ds, rfl, rfl, D2, hr⟩
      simp [patV]
      rw [w_ret]
      simp
      have hr : run os m xs cs = some ds := by
        rw [hr]
        simp [run]
      refine law_due_ok (k := k + 1) T (m := m) (ds := ds) po hm (dcell_t put_at) ?_
      have e1 : holds os m cs (.tup xs) = (dueL os ds).isEmpty := by simp only [holds, hr, shut_due po D2]
      rw [e1] at q
      simp
      exact ret_drop (hle_put hp hle_refl) (by simpa using q)
  · simp at t
    simp [t]
    rw [w_ret]
    simp
    have : holds os m cs v = false := by cases v <;> first | rfl | (cases t; done)
    rw [this] at q
    exact ret_same q
end MP
set_option Elab.async false
set_option linter.all false
set_option maxRecDepth 100000
set_option maxHeartbeats 2000000
namespace MP
open PySem L2
variable {tab : Str → Option Df} {k : Nat} {h : MH} {Q : Post} {E : XQ}
structure FHd (tab : Str → Option Df) : Prop where
  fl : FL tab
  draw : tab "_law_draw" = some d__law_draw
  han : tab "_law_hand" = some d__law_hand
theorem run_more (os : List Nat) (m : Nat) (x : PV) : ∀ (xs : List PV) (cs ds : List (Nat × Nat)) (c : Nat × Nat), run os m xs cs = some ds → step os m ds x = some c → run os m (xs ++ [x]) cs = some (ds ++ [c])
  | [], cs, ds, c, h1, h2 => by
    simp only [run] at h1
    cases h1
    simp only [List.nil_append, run, h2]
  | y :: r, cs, ds, c, h1, h2 => by
    simp only [run] at h1
    simp only [List.cons_append, run]
    cases e : step os m cs y with
    | none => rw [e] at h1; cases h1
    | some b =>
      rw [e] at h1
      exact run_more os m x r _ ds c h1 h2
structure Paper (os : List Nat) (m : Nat) (cs : List (Nat × Nat)) (ts : List (Nat × Nat × Nat)) : Prop where
  ok : holds os m cs (.tup (ts.map trV)) = true
  lt : ∀ t ∈ ts, t.1 < m ∧ t.2.1 < m ∧ t.2.2 < m
  len : ts.length ≤ m * m
theorem put2 {p q : Addr} {x y z : Cell} (n : p ≠ q) : ((h.put p x).put q y).put p z = (h.put p z).put q y := by rw [put_comm (Ne.symm n), put_put]
theorem law_hand_ok (T : FHd tab) {p : Addr} {a b c : Int} {os : List Nat} {m : Nat} {cs : List (Nat × Nat)} (hp : h p = some (.lst [.int a, .int b, .int c])) (po : os.Perm (List.range m)) (hm : m ≤ 60) (D : Dw m cs)
    (q : ∀ ts a' b' c', Paper os m cs ts → Q (.tup (ts.map trV)) (h.put p (.lst [.int a', .int b', .int c']))) : callW tab (k + 2) "_law_hand" [.loc p, patV m cs, .tup (nats os)] h Q E := by
  have mm : m * m ≤ 60 * 60 := Nat.mul_le_mul hm hm
  have lo : os.length = m := by rw [po.length_eq, List.length_range]
  refine call_body T.han rfl ?_
  rw [d__law_hand, w_asg]
  simp only [startE]
  simp [patV]
  intro _
  refine comp_pure (fun x => some (.tup [x, .bl true])) (by simp) (fun x hx R hR => ⟨szl (by omega), hR⟩) ?_
  have eb : (cs.map prV).filterMap (fun x => some (PV.tup [x, .bl true])) = (dd cs).map fun p => PV.tup [.tup p.1, p.2] := by
    rw [← dd_pairs, fm_some]
  rw [eb]
  refine ⟨szl (by rw [List.length_map, dd_len]; have := D.len; omega), dd cs, rfl, dd_key cs, dd_nd D.nd, fun p1 hp1 => ?_⟩
  show wpSs _ _ _ _ _ _
  have ne : p ≠ p1 := ne_of_h hp hp1
  rw [w_asg]
  simp
  rw [w_asg]
  simp
  refine law_due_ok (k := k) T.fl (m := m) (ds := cs) po hm (dcell_t put_at) ?_
  rw [w_while]
  refine ⟨_, while_inv (fun n e g => ∃ w7 ts ds a b c, e = [some (.loc p), some (patV m cs), some (.tup (nats os)), some (.loc p1), none, some (.tup (ts.map trV)), some (.lst ((dueL os ds).map trV)), w7] ∧
      g = (h.put p (.lst [.int a, .int b, .int c])).put p1 (.dtt (dd ds)) ∧ Dw m ds ∧ run os m (ts.map trV) cs = some ds ∧ (∀ t ∈ ts, t.1 < m ∧ t.2.1 < m ∧ t.2.2 < m) ∧ ts.length ≤ ds.length ∧ n + ds.length = m * m) ?_ ?_ ?_ (m * m - cs.length) _ _
    ⟨_, [], cs, a, b, c, rfl, by rw [put_self hp], D, rfl, by simp, by simp, by have := D.len; omega⟩⟩
  · rintro n e g N ⟨w7, ts, ds, a, b, c, rfl, rfl, D2, hr, hb, lt, hn⟩ st
    simp
    by_cases z : dueL os ds = []
    · rw [if_pos z, w_ret]
      simp
      have pa : Paper os m cs ts := ⟨by simp only [holds, hr, shut_due po D2, z, List.isEmpty_nil], hb, by have := D2.len; omega⟩
      exact ret_drop (hle_put (by rw [put_off (Ne.symm ne)]; exact hp1) hle_refl) (q ts a b c pa)
    · rw [if_neg z, w_asg]
      have l0 : 0 < (dueL os ds).length := List.length_pos_iff.mpr z
      have l1 : (dueL os ds).length ≤ 60 * (60 * 60) := by
        have := dueTo_len os ds os.length
        have l5 : os.length * (os.length * os.length) ≤ 60 * (60 * 60) := Nat.mul_le_mul (by omega) (Nat.mul_le_mul (by omega) (by omega))
        unfold dueL
        omega
      simp
      refine law_draw_ok (k := k) T.draw (by rw [put_off ne, put_at]) (by omega) (by omega) fun r a' b' c' r0 r1 => ?_
      rw [put2 ne]
      have hr0 : r.toNat < (dueL os ds).length := by omega
      refine ⟨trV (dueL os ds)[r.toNat], by rw [atI_int _ r0, List.getElem?_map, List.getElem?_eq_getElem hr0]; rfl, ?_⟩
      have mt := List.getElem_mem hr0
      rw [mem_dueL po D2] at mt
      generalize (dueL os ds)[r.toNat] = t at mt
      obtain ⟨i, j, p'⟩ := t
      simp only at mt
      obtain ⟨d1, d2⟩ := mt
      have d3 := d1
      simp only [dueB, Bool.and_eq_true, decide_eq_true_eq] at d3
      obtain ⟨h1, h2, h3, h4, h5⟩ := d3
      obtain ⟨b1, b2, _⟩ := D2.lt _ h4
      obtain ⟨b3, b4, _⟩ := D2.lt _ h5
      simp only at b1 b2 b3 b4
      have D3 := D2.more (c := (i, j)) b1 b4 d2 h1
      have es : step os m ds (trV (i, j, p')) = some (i, j) := by
        have et : tri m (trV (i, j, p')) = some (i, j, p') := by
          simp only [trV, tri]
          rw [if_pos ⟨by omega, by omega, by omega, by omega, by omega, by omega, by omega⟩]
          simp
        simp [step, et, d1]
      have ll := D3.len
      rw [List.length_append] at ll
      simp only [List.length_cons, List.length_nil] at ll
      show wpSs _ _ _ _ _ _
      rw [w_sub]
      simp [trV, cut2, subW]
      refine ⟨⟨⟨rfl, rfl⟩, ?_⟩, ?_⟩
      · rw [dd_len, PySem.sizeLine_eq]
        omega
      have e2 := put_dd (c := (i, j)) h1
      simp only at e2
      rw [e2]
      rw [w_asg]
      simp
      refine ⟨szl (by omega), szl (by omega), ?_⟩
      rw [w_asg]
      simp [patV]
      refine law_due_ok (k := k) T.fl (m := m) (ds := ds ++ [(i, j)]) po hm (dcell_t put_at) ?_
      simp only [w_nil]
      refine st _ _ (n - 1) (by omega) ⟨some (trV (i, j, p')), ts ++ [(i, j, p')], ds ++ [(i, j)], a', b', c', ?_, rfl, D3, ?_, ?_, ?_, ?_⟩
      · simp [patV, trV]
      · rw [List.map_append]
        exact run_more os m _ _ _ _ _ hr es
      · intro t ht
        rcases List.mem_append.mp ht with z | z
        · exact hb t z
        · rw [List.mem_singleton] at z
          subst z
          exact ⟨b1, b4, b2⟩
      · simp; omega
      · simp only [List.length_append, List.length_cons, List.length_nil]; omega
  · exact fun e g Q Q' w q => wpT_mono (callW_mono tab _) w q
  · exact fun e g D D' le q => wpSs_mono (callW_mono tab _) le q
end MP
set_option Elab.async false
set_option linter.all false
set_option maxRecDepth 100000
set_option maxHeartbeats 2000000
namespace MP
open PySem L2
def d__law_pairs : Df := ⟨["deck", "way", "many", "every", "k", "i", "pair", "low", "wide", "high"], 3, .cons (.asg (.name 3) (.lst true (.nil))) (.cons (.for (.name 4) (.rng1 (.var 2)) (.cons (.ex (.meth (.var 3) .extend (.cons (.comp false (.tup (.cons (.var 5) (.cons (.var 4) .nil))) (.name 5) (.rng1 (.var 4)) .none) .nil))) .nil)) (.cons (.ife (.cmp .Lt (.var 1) (.int 3)) (.cons (.ret (.comp false (.var 6) (.name 6) (.seq (.var 3)) (.some (.cmp .NotEq (.cmp .Eq (.call "_law_draw" (.cons (.var 0) (.cons (.idx (.lst false (.cons (.int 4) (.cons (.int 2) (.cons (.int 8) .nil)))) (.var 1)) .nil))) (.int 0)) (.cmp .Eq (.var 1) (.int 2)))))) .nil) (.nil)) (.cons (.asg (.tup2 (.name 7) (.name 8)) (.tup (.cons (.call "_law_draw" (.cons (.var 0) (.cons (.var 2) .nil))) (.cons (.bin .Add (.int 1) (.call "_law_draw" (.cons (.var 0) (.cons (.int 4) .nil)))) .nil)))) (.cons (.ife (.cmp .Eq (.var 1) (.int 5)) (.cons (.ret (.comp false (.tup (.cons (.int 0) (.cons (.var 4) .nil))) (.name 4) (.rng2 (.int 1) (.var 2)) .none)) .nil) (.nil)) (.cons (.ife (.cmp .Eq (.var 1) (.int 6)) (.cons (.ret (.comp false (.tup (.cons (.call "_law_draw" (.cons (.var 0) (.cons (.var 4) .nil))) (.cons (.var 4) .nil))) (.name 4) (.rng2 (.int 1) (.var 2)) .none)) .nil) (.nil)) (.cons (.ife (.cmp .Eq (.var 1) (.int 7)) (.cons (.asg (.name 9) (.bin .Add (.var 7) (.call "_law_draw" (.cons (.var 0) (.cons (.bin .Sub (.var 2) (.var 7)) .nil))))) (.cons (.ret (.comp false (.tup (.cons (.var 5) (.cons (.var 4) .nil))) (.tup2 (.name 5) (.name 4)) (.seq (.var 3)) (.some (.or (.cmp .GtE (.var 5) (.var 7)) (.cmp .LtE (.var 4) (.var 9)))))) .nil)) (.nil)) (.cons (.ife (.cmp .Eq (.var 1) (.int 8)) (.cons (.ret (.comp false (.tup (.cons (.var 5) (.cons (.var 4) .nil))) (.tup2 (.name 5) (.name 4)) (.seq (.var 3)) (.some (.chain .LtE .Lt (.var 5) (.var 7) (.var 4))))) .nil) (.nil)) (.cons (.ife (.cmp .Eq (.var 1) (.int 9)) (.cons (.ret (.comp false (.tup (.cons (.var 5) (.cons (.var 4) .nil))) (.tup2 (.name 5) (.name 4)) (.seq (.var 3)) (.some (.or (.cmp .Eq (.var 4) (.bin .Add (.var 5) (.var 8))) (.and (.cmp .Eq (.var 4) (.bin .Add (.var 5) (.int 1))) (.cmp .Gt (.bin .Mod (.var 4) (.var 8)) (.int 0))))))) .nil) (.nil)) (.cons (.ret (.comp false (.tup (.cons (.var 5) (.cons (.var 4) .nil))) (.tup2 (.name 5) (.name 4)) (.seq (.var 3)) (.some (.or (.cmp .Eq (.var 4) (.bin .Add (.var 5) (.int 1))) (.and (.cmp .Eq (.var 1) (.int 4)) (.and (.cmp .Eq (.var 5) (.int 0)) (.cmp .Eq (.var 4) (.bin .Sub (.var 2) (.int 1))))))))) .nil)))))))))⟩
def d__law_pattern : Df := ⟨["deck", "least", "most", "web", "way", "great", "many", "called", "cells", "i", "k", "side"], 4, .cons (.asg (.name 4) (.call "_law_draw" (.cons (.var 0) (.cons (.int 10) .nil)))) (.cons (.asg (.name 5) (.blt .int (.cons (.cmp .Eq (.call "_law_draw" (.cons (.var 0) (.cons (.int 8) .nil))) (.int 5)) .nil))) (.cons (.asg (.name 6) (.idx (.lst false (.cons (.bin .Add (.var 1) (.call "_law_draw" (.cons (.var 0) (.cons (.blt .max2 (.cons (.int 1) (.cons (.bin .Sub (.int 7) (.var 1)) .nil))) .nil)))) (.cons (.blt .max2 (.cons (.var 1) (.cons (.bin .Sub (.var 2) (.call "_law_draw" (.cons (.var 0) (.cons (.int 9) .nil)))) .nil))) .nil))) (.var 5))) (.cons (.asg (.name 7) (.call "_law_turn" (.cons (.var 0) (.cons (.var 6) .nil)))) (.cons (.asg (.name 8) (.lst true (.nil))) (.cons (.for (.tup2 (.name 9) (.name 10)) (.seq (.call "_law_pairs" (.cons (.var 0) (.cons (.var 4) (.cons (.var 6) .nil))))) (.cons (.asg (.name 11) (.bin .Mult (.call "_law_draw" (.cons (.var 0) (.cons (.int 3) .nil))) (.blt .int (.cons (.not (.var 3)) .nil)))) (.cons (.ex (.meth (.var 8) .extend (.cons (.idx (.lst false (.cons (.lst false (.cons (.tup (.cons (.var 9) (.cons (.var 10) .nil))) (.cons (.tup (.cons (.var 10) (.cons (.var 9) .nil))) .nil))) (.cons (.lst false (.cons (.tup (.cons (.var 9) (.cons (.var 10) .nil))) .nil)) (.cons (.lst false (.cons (.tup (.cons (.var 10) (.cons (.var 9) .nil))) .nil)) .nil)))) (.var 11)) .nil))) .nil))) (.cons (.ret (.tup (.cons (.var 6) (.cons (.con .tuple false (.seq (.con .sorted false (.seq (.comp false (.tup (.cons (.idx (.var 7) (.var 9)) (.cons (.idx (.var 7) (.var 10)) .nil))) (.tup2 (.name 9) (.name 10)) (.seq (.var 8)) .none))))) .nil)))) .nil))))))⟩
def d__law_order : Df := ⟨["deck", "many", "way", "drawn"], 2, .cons (.asg (.name 2) (.call "_law_draw" (.cons (.var 0) (.cons (.int 4) .nil)))) (.cons (.asg (.name 3) (.call "_law_turn" (.cons (.var 0) (.cons (.var 1) .nil)))) (.cons (.ret (.idx (.lst false (.cons (.var 3) (.cons (.var 3) (.cons (.con .tuple false (.rng1 (.var 1))) (.cons (.rev (.con .tuple false (.rng1 (.var 1)))) .nil))))) (.var 2))) .nil))⟩
variable {tab : Str → Option Df} {k : Nat} {h : MH} {Q : Post} {E : XQ}
structure FPT (tab : Str → Option Df) : Prop where
  draw : tab "_law_draw" = some d__law_draw
  turn : tab "_law_turn" = some d__law_turn
  prs : tab "_law_pairs" = some d__law_pairs
  pat : tab "_law_pattern" = some d__law_pattern
  ord : tab "_law_order" = some d__law_order
theorem law_order_ok (T : FPT tab) {p : Addr} {a b c : Int} {m : Nat} (hp : h p = some (.lst [.int a, .int b, .int c])) (h1 : 1 ≤ m) (h2 : m ≤ 1000)
    (q : ∀ (os : List Nat) a' b' c', os.Perm (List.range m) → Q (.tup (nats os)) (h.put p (.lst [.int a', .int b', .int c']))) : callW tab (k + 3) "_law_order" [.loc p, .int (m : Nat)] h Q E := by
  refine call_body T.ord rfl ?_
  rw [d__law_order, w_asg]
  simp only [startE]
  simp
  refine law_draw_ok (k := k + 1) T.draw hp (by decide) (by decide) fun way a1 b1 c1 y0 y1 => ?_
  rw [w_asg]
  simp
  refine law_turn_ok (k := k) T.turn T.draw put_at h1 (by omega) fun od a5 b5 c5 pd => ?_
  rw [w_ret]
  simp
  obtain ⟨q1, q2, q3⟩ := rng_ok (m := m) (by omega)
  refine ⟨q1, q2, q1, q2, by rw [PySem.sizeLine_eq]; decide, ?_⟩
  obtain ⟨os, hos, po⟩ : ∃ us : List Nat, L2.atI [PV.tup (nats od), PV.tup (nats od), PV.tup (rngV 0 m), PV.tup (rngV 0 m).reverse] way = some (.tup (nats us)) ∧ us.Perm (List.range m) := by
    have : way = 0 ∨ way = 1 ∨ way = 2 ∨ way = 3 := by omega
    rcases this with rfl | rfl | rfl | rfl
    · exact ⟨od, by simp, pd⟩
    · exact ⟨od, by simp, pd⟩
    · exact ⟨List.range m, by simp [rngV_nats], List.Perm.refl _⟩
    · exact ⟨(List.range m).reverse, by simp [rngV_nats, nats], List.reverse_perm _⟩
  exact ⟨_, hos, ret_same (q _ _ _ _ po)⟩
structure Pw (m : Nat) (L : List (Nat × Nat)) : Prop where
  lt : ∀ c ∈ L, c.1 < c.2 ∧ c.2 < m
  nd : L.Nodup
def everyL : Nat → List (Nat × Nat)
  | 0 => []
  | m + 1 => everyL m ++ (List.range m).map fun i => (i, m)
theorem every_pw : ∀ m, Pw m (everyL m)
  | 0 => ⟨by simp [everyL], by simp [everyL]⟩
  | m + 1 => by
    have ih := every_pw m
    refine ⟨fun c hc => ?_, ?_⟩
    · rcases List.mem_append.mp hc with z | z
      · have := ih.lt c z; omega
      · obtain ⟨i, hi, rfl⟩ := List.mem_map.mp z
        simp at hi
        simp; omega
    · unfold everyL
      rw [List.nodup_append]
      refine ⟨ih.nd, ?_, fun x hx y hy => ?_⟩
      · rw [List.nodup_iff_pairwise_ne, List.pairwise_map]
        exact List.nodup_range.imp fun {a b} ne z => ne (by cases z; rfl)
      · obtain ⟨i, hi, rfl⟩ := List.mem_map.mp hy
        have := ih.lt x hx
        intro z
        subst z
        simp at this
theorem Pw.filter {m : Nat} {L : List (Nat × Nat)} (W : Pw m L) (P : Nat × Nat → Bool) : Pw m (L.filter P) := ⟨fun c hc => W.lt c (List.mem_filter.mp hc).1, W.nd.filter P⟩
theorem Pw.dw {m : Nat} {L : List (Nat × Nat)} (W : Pw m L) : Dw m L := ⟨fun c hc => by have := W.lt c hc; exact ⟨by omega, by omega, by omega⟩, W.nd⟩
theorem Pw.len {m : Nat} {L : List (Nat × Nat)} (W : Pw m L) : L.length ≤ m * m := W.dw.len
theorem Pw.sub {m : Nat} {L M : List (Nat × Nat)} (W : Pw m L) (s : M.Sublist L) : Pw m M := ⟨fun c hc => W.lt c (s.subset hc), W.nd.sublist s⟩
def selP (P : Nat × Nat → Bool) : PV → Option PV
  | .tup [.int i, .int j] => if P (i.toNat, j.toNat) = true then some (.tup [.int i, .int j]) else none
  | _ => none
theorem sel_pr (P : Nat × Nat → Bool) (c : Nat × Nat) : selP P (prV c) = if P c = true then some (prV c) else none := by
  simp only [selP, prV, Int.toNat_natCast]
theorem selP_prs (P : Nat × Nat → Bool) : ∀ l : List (Nat × Nat), (l.map prV).filterMap (selP P) = (l.filter P).map prV
  | [] => rfl
  | a :: r => by
    rw [List.map_cons, List.filterMap_cons, selP_prs P r]
    simp only [selP, prV, Int.toNat_natCast]
    by_cases c : P a = true
    · rw [if_pos c, List.filter_cons_of_pos c]; rfl
    · rw [if_neg c, List.filter_cons_of_neg c]
theorem law_pairs_ok (T : FPT tab) {p : Addr} {a b c way : Int} {m : Nat} (hp : h p = some (.lst [.int a, .int b, .int c])) (h1 : 1 ≤ m) (h2 : m ≤ 60) (w0 : 0 ≤ way) (w1 : way < 10)
    (q : ∀ L a' b' c', Pw m L → Q (.lst (L.map prV)) (h.put p (.lst [.int a', .int b', .int c']))) : callW tab (k + 2) "_law_pairs" [.loc p, .int way, .int (m : Nat)] h Q E := by
  refine call_body T.prs rfl ?_
  rw [d__law_pairs, w_asg]
  simp only [startE]
  simp
  refine fun p1 hp1 => ?_
  have ne : p ≠ p1 := ne_of_h hp hp1
  obtain ⟨q1, q2, q3⟩ := rng_ok (m := m) (by omega)
  rw [w_for]
  simp
  refine ⟨q1, q2, ?_⟩
  have mm : m * m ≤ 60 * 60 := Nat.mul_le_mul h2 h2
  refine for_all (fun i e g => ∃ w4, e = [some (.loc p), some (.int way), some (.int (m : Nat)), some (.loc p1), w4, none, none, none, none, none] ∧ g = h.put p1 (.lst ((everyL i).map prV)))
    ⟨_, rfl, rfl⟩ (fun _ _ _ _ => by simp) ?_ ?_
  · rintro i x e g N hx ⟨w4, rfl, rfl⟩ hN
    obtain ⟨rfl, hi⟩ := rngV_get hx
    obtain ⟨g1, g2, g3⟩ := rng_ok (m := i) (by omega)
    simp
    rw [w_ex]
    simp
    refine ⟨g1, g2, ?_⟩
    refine comp_pure (fun x => some (.tup [x, .int (i : Nat)])) (by simp) (fun x hx R hR => ⟨szl (by omega), hR⟩) ?_
    have eb : (rngV 0 (i : Int)).filterMap (fun x => some (PV.tup [x, .int (i : Nat)])) = ((List.range i).map fun j => (j, i)).map prV := by
      rw [fm_some, rngV_nat]
      unfold nats
      rw [List.map_map, List.map_map]
      rfl
    rw [eb]
    refine ⟨szl (by simp; omega), _, _, put_at, rfl, ?_, ?_⟩
    · have := (every_pw i).len
      have l5 : i * i ≤ 60 * 60 := Nat.mul_le_mul (by omega) (by omega)
      simp only [List.length_map, List.length_range]
      exact szl (by omega)
    · rw [put_put]
      simp only [w_nil]
      refine hN _ _ ⟨_, rfl, ?_⟩
      simp [everyL]
  · rintro e g ⟨w4, rfl, rfl⟩
    have el : (rngV 0 (m : Int)).length = m := by rw [rngV_len]; omega
    rw [el]
    simp
    have W := every_pw m
    have le := W.len
    have fin : ∀ (L : List (Nat × Nat)) (a b c : Int), Pw m L → retW Q (.lst (L.map prV)) ((h.put p (.lst [.int a, .int b, .int c])).put p1 (.lst ((everyL m).map prV))) := fun L a b c W =>
      ret_drop (hle_put (by rw [put_off (Ne.symm ne)]; exact hp1) hle_refl) (q L a b c W)
    have e0 : h.put p1 (.lst ((everyL m).map prV)) = (h.put p (.lst [.int a, .int b, .int c])).put p1 (.lst ((everyL m).map prV)) := by rw [put_self hp]
    rw [e0]
    rw [w_ife]
    simp
    by_cases y3 : way < 3
    · rw [if_pos y3, w_ret]
      simp [srcV_loc put_at]
      intro _
      refine comp_inv (fun i acc g => ∃ a b c M, acc = M.map prV ∧ M.Sublist ((everyL m).take i) ∧ g = (h.put p (.lst [.int a, .int b, .int c])).put p1 (.lst ((everyL m).map prV))) ⟨a, b, c, [], rfl, by simp, rfl⟩ ?_ ?_ ?_
      · rintro i acc g ⟨a, b, c, M, rfl, hs, rfl⟩
        simp [Src.stays]
      · rintro i x acc g R hx ⟨a, b, c, M, rfl, hs, rfl⟩ hR
        obtain ⟨hi, rfl⟩ := pr_get hx
        obtain ⟨f, hf, f0, f1⟩ : ∃ f : Int, L2.atI [PV.int 4, PV.int 2, PV.int 8] way = some (.int f) ∧ 0 < f ∧ f < 100 := by
          have : way = 0 ∨ way = 1 ∨ way = 2 := by omega
          rcases this with rfl | rfl | rfl
          · exact ⟨4, by simp, by decide, by decide⟩
          · exact ⟨2, by simp, by decide, by decide⟩
          · exact ⟨8, by simp, by decide, by decide⟩
        refine ⟨by rw [PySem.sizeLine_eq]; decide, _, hf, ?_⟩
        refine law_draw_ok (k := k) T.draw (by rw [put_off ne, put_at]) f0 (by omega) fun r a' b' c' r0 r1 => ?_
        rw [put2 ne]
        have st := List.take_succ_eq_append_getElem hi
        have yes : R (some (prV (everyL m)[i])) ((h.put p (.lst [.int a', .int b', .int c'])).put p1 (.lst ((everyL m).map prV))) := hR _ _ ⟨a', b', c', M ++ [(everyL m)[i]], by simp, by rw [st]; exact hs.append (List.Sublist.refl _), rfl⟩
        have no : R none ((h.put p (.lst [.int a', .int b', .int c'])).put p1 (.lst ((everyL m).map prV))) := hR _ _ ⟨a', b', c', M, by simp, by rw [st]; exact hs.trans (List.sublist_append_left _ _), rfl⟩
        simp
        split <;> first | exact yes | exact no
      · rintro acc g ⟨a, b, c, M, rfl, hs, rfl⟩
        have W2 : Pw m M := W.sub (hs.trans (List.take_sublist _ _))
        exact ⟨szl (by have := W2.len; simp; omega), fin M a b c W2⟩
    · rw [if_neg y3, w_nil]
      simp
      rw [w_asg]
      simp
      refine law_draw_ok (k := k) T.draw (by rw [put_off ne, put_at]) (by omega) (by omega) fun low a1 b1 c1 l0 l1 => ?_
      rw [put2 ne]
      refine law_draw_ok (k := k) T.draw (by rw [put_off ne, put_at]) (by decide) (by decide) fun wd a2 b2 c2 d0 d1 => ?_
      rw [put2 ne]
      simp
      refine ⟨szl (by omega), ?_⟩
      rw [w_ife]
      simp
      have ro : RngOk 1 (m : Int) := ⟨by decide, by decide, by omega, by omega⟩
      have rv : rngV 1 (m : Int) = (List.range (m - 1)).map fun j => PV.int ((1 + j : Nat) : Int) := by
        unfold rngV
        have : ((m : Int) - 1).toNat = m - 1 := by omega
        rw [this]
        apply List.map_congr_left
        intro j _
        congr 1
      by_cases y5 : way = 5
      · rw [if_pos y5, w_ret]
        simp
        refine ⟨ro, by rw [PySem.sizeLine_eq]; omega, ?_⟩
        rw [rv]
        refine comp_pure (fun x => some (.tup [.int 0, x])) (by simp) (fun x hx R hR => ⟨szl (by omega), hR⟩) ?_
        have eb : ((List.range (m - 1)).map fun j => PV.int ((1 + j : Nat) : Int)).filterMap (fun x => some (PV.tup [.int 0, x])) = ((List.range (m - 1)).map fun j => (0, 1 + j)).map prV := by
          rw [fm_some, List.map_map, List.map_map]
          rfl
        rw [eb]
        refine ⟨szl (by simp; omega), fin _ _ _ _ ⟨fun c hc => ?_, ?_⟩⟩
        · obtain ⟨j, hj, rfl⟩ := List.mem_map.mp hc
          simp at hj
          simp only
          omega
        · rw [List.nodup_iff_pairwise_ne, List.pairwise_map]
          exact List.nodup_range.imp fun {a b} ne z => ne (by simp at z; omega)
      · rw [if_neg y5, w_nil]
        simp
        rw [w_ife]
        simp
        by_cases y6 : way = 6
        · rw [if_pos y6, w_ret]
          simp
          refine ⟨ro, by rw [PySem.sizeLine_eq]; omega, ?_⟩
          rw [rv]
          refine comp_inv (fun i acc g => ∃ a b c M, acc = M.map prV ∧ M.map (·.2) = (List.range i).map (fun j => 1 + j) ∧ (∀ c ∈ M, c.1 < c.2) ∧ g = (h.put p (.lst [.int a, .int b, .int c])).put p1 (.lst ((everyL m).map prV))) ⟨_, _, _, [], rfl, rfl, by simp, rfl⟩ (fun _ _ _ _ => by simp) ?_ ?_
          · rintro i x acc g R hx ⟨a, b, c, M, rfl, hs, hl, rfl⟩ hR
            have hi : i < m - 1 := by
              have := (List.getElem?_eq_some_iff.mp hx).1
              simpa using this
            have ex : x = .int ((1 + i : Nat) : Int) := by
              rw [List.getElem?_map, List.getElem?_range hi] at hx
              simpa using hx.symm
            subst ex
            refine law_draw_ok (k := k) T.draw (by rw [put_off ne, put_at]) (by omega) (by omega) fun r a' b' c' r0 r1 => ?_
            rw [put2 ne]
            refine ⟨szl (by omega), hR _ _ ⟨a', b', c', M ++ [(r.toNat, 1 + i)], ?_, ?_, ?_, rfl⟩⟩
            · simp [prV]; omega
            · rw [List.map_append, hs, List.range_succ, List.map_append]; rfl
            · intro c hc
              rcases List.mem_append.mp hc with z | z
              · exact hl c z
              · rw [List.mem_singleton] at z
                subst z
                simp only
                omega
          · rintro acc g ⟨a, b, c, M, rfl, hs, hl, rfl⟩
            simp only [List.length_map, List.length_range] at hs
            have W2 : Pw m M := by
              refine ⟨fun c hc => ⟨hl c hc, ?_⟩, ?_⟩
              · have : c.2 ∈ M.map (·.2) := List.mem_map.mpr ⟨c, hc, rfl⟩
                rw [hs] at this
                obtain ⟨j, hj, ej⟩ := List.mem_map.mp this
                simp at hj
                omega
              · have nd2 : (M.map (·.2)).Nodup := by
                  rw [hs, List.nodup_iff_pairwise_ne, List.pairwise_map]
                  exact List.nodup_range.imp fun {a b} ne z => ne (by omega)
                rw [List.nodup_iff_pairwise_ne, List.pairwise_map] at nd2
                exact nd2.imp fun {a b} ne z => ne (by rw [z])
            exact ⟨szl (by have := W2.len; simp; omega), fin M a b c W2⟩
        · rw [if_neg y6, w_nil]
          simp
          rw [w_ife]
          simp
          by_cases y7 : way = 7
          · rw [if_pos y7, w_asg]
            simp
            refine law_draw_ok (k := k) T.draw (by rw [put_off ne, put_at]) (by omega) (by omega) fun hh a3 b3 c3 h0 h3 => ?_
            rw [put2 ne]
            simp
            rw [w_ret]
            simp [srcV_loc put_at]
            intro _
            refine comp_pure (selP fun c => decide (low ≤ (c.1 : Int)) || decide ((c.2 : Int) ≤ low + hh)) (by simp [Src.stays]) (fun x hx R hR => ?_) ?_
            · obtain ⟨c, hc, rfl⟩ := List.mem_map.mp hx
              rw [sel_pr] at hR
              simp [prV]
              by_cases c1 : low ≤ (c.1 : Int) <;> by_cases c2 : (c.2 : Int) ≤ low + hh <;> simp [c1, c2, prV] at hR ⊢ <;> first | exact hR | exact ⟨szl (by omega), hR⟩
            · rw [selP_prs]
              have W2 := W.filter fun c => decide (low ≤ (c.1 : Int)) || decide ((c.2 : Int) ≤ low + hh)
              exact ⟨szl (by have := W2.len; simp only [List.length_map]; omega), fin _ _ _ _ W2⟩
          · rw [if_neg y7, w_nil]
            simp
            rw [w_ife]
            simp
            by_cases y8 : way = 8
            · rw [if_pos y8, w_ret]
              simp [srcV_loc put_at]
              intro _
              refine comp_pure (selP fun c => decide ((c.1 : Int) ≤ low) && decide (low < (c.2 : Int))) (by simp [Src.stays]) (fun x hx R hR => ?_) ?_
              · obtain ⟨c, hc, rfl⟩ := List.mem_map.mp hx
                rw [sel_pr] at hR
                simp [prV]
                by_cases c1 : (c.1 : Int) ≤ low <;> by_cases c2 : low < (c.2 : Int) <;> simp [c1, c2, prV] at hR ⊢ <;> first | exact hR | exact ⟨szl (by omega), hR⟩
              · rw [selP_prs]
                have W2 := W.filter fun c => decide ((c.1 : Int) ≤ low) && decide (low < (c.2 : Int))
                exact ⟨szl (by have := W2.len; simp only [List.length_map]; omega), fin _ _ _ _ W2⟩
            · rw [if_neg y8, w_nil]
              simp
              rw [w_ife]
              simp
              by_cases y9 : way = 9
              · rw [if_pos y9, w_ret]
                simp [srcV_loc put_at]
                intro _
                refine comp_pure (selP fun c => decide ((c.2 : Int) = (c.1 : Int) + (1 + wd)) || (decide ((c.2 : Int) = (c.1 : Int) + 1) && decide (0 < (c.2 : Int) % (1 + wd)))) (by simp [Src.stays]) (fun x hx R hR => ?_) ?_
                · obtain ⟨c, hc, rfl⟩ := List.mem_map.mp hx
                  rw [sel_pr] at hR
                  simp [prV]
                  by_cases c1 : (c.2 : Int) = (c.1 : Int) + (1 + wd)
                  · rw [if_pos c1]
                    refine ⟨szl (by omega), ?_⟩
                    rw [if_pos (by simp [c1])] at hR
                    exact hR
                  · rw [if_neg c1]
                    by_cases c2 : (c.2 : Int) = (c.1 : Int) + 1
                    · rw [if_pos c2]
                      refine ⟨by omega, ?_⟩
                      by_cases c3 : 0 < (c.2 : Int) % (1 + wd)
                      · rw [if_pos c3]
                        refine ⟨szl (by omega), ?_⟩
                        rw [if_pos (by rw [decide_eq_true c2, decide_eq_true c3]; simp)] at hR
                        exact hR
                      · rw [if_neg c3]
                        rw [if_neg (by rw [decide_eq_false c1, decide_eq_false c3]; simp)] at hR
                        exact hR
                    · rw [if_neg c2]
                      rw [if_neg (by rw [decide_eq_false c1, decide_eq_false c2]; simp)] at hR
                      exact hR
                · rw [selP_prs]
                  have W2 := W.filter fun c => decide ((c.2 : Int) = (c.1 : Int) + (1 + wd)) || (decide ((c.2 : Int) = (c.1 : Int) + 1) && decide (0 < (c.2 : Int) % (1 + wd)))
                  exact ⟨szl (by have := W2.len; simp only [List.length_map]; omega), fin _ _ _ _ W2⟩
              · rw [if_neg y9, w_nil]
                simp
                rw [w_ret]
                simp [srcV_loc put_at]
                intro _
                refine comp_pure (selP fun c => decide ((c.2 : Int) = (c.1 : Int) + 1) || (decide (way = 4) && (decide (c.1 = 0) && decide ((c.2 : Int) = (m : Int) - 1)))) (by simp [Src.stays]) (fun x hx R hR => ?_) ?_
                · obtain ⟨c, hc, rfl⟩ := List.mem_map.mp hx
                  rw [sel_pr] at hR
                  simp [prV]
                  by_cases c1 : (c.2 : Int) = (c.1 : Int) + 1
                  · rw [if_pos c1]
                    refine ⟨szl (by omega), ?_⟩
                    rw [if_pos (by simp [c1])] at hR
                    exact hR
                  · rw [if_neg c1]
                    rw [decide_eq_false c1, Bool.false_or] at hR
                    by_cases c2 : way = 4
                    · rw [if_pos c2]
                      rw [decide_eq_true c2, Bool.true_and] at hR
                      by_cases c3 : c.1 = 0
                      · rw [if_pos c3]
                        rw [decide_eq_true c3, Bool.true_and] at hR
                        by_cases c4 : (c.2 : Int) = (m : Int) - 1
                        · rw [if_pos c4]
                          rw [if_pos (by simp [c4])] at hR
                          exact ⟨szl (by omega), hR⟩
                        · rw [if_neg c4]
                          rw [if_neg (by simp [c4])] at hR
                          exact hR
                      · rw [if_neg c3]
                        rw [if_neg (by simp [c3])] at hR
                        exact hR
                    · rw [if_neg c2]
                      rw [if_neg (by simp [c2])] at hR
                      exact hR
                · rw [selP_prs]
                  have W2 := W.filter fun c => decide ((c.2 : Int) = (c.1 : Int) + 1) || (decide (way = 4) && (decide (c.1 = 0) && decide ((c.2 : Int) = (m : Int) - 1)))
                  exact ⟨szl (by have := W2.len; simp only [List.length_map]; omega), fin _ _ _ _ W2⟩
end MP
set_option Elab.async false
set_option linter.all false
set_option maxRecDepth 100000
set_option maxHeartbeats 2000000
namespace MP
open PySem L2
variable {tab : Str → Option Df} {k : Nat} {h : MH} {Q : Post} {E : XQ}
structure Cw (L : List (Nat × Nat)) (C : List (Nat × Nat)) : Prop where
  of : ∀ c ∈ C, c ∈ L ∨ (c.2, c.1) ∈ L
  nd : C.Nodup
theorem Cw.dw {m : Nat} {L C : List (Nat × Nat)} (W : Pw m L) (c : Cw L C) : Dw m C := ⟨fun x hx => by
  rcases c.of x hx with z | z
  · have := W.lt x z; omega
  · have := W.lt _ z
    simp only at this
    omega, c.nd⟩
theorem Cw.more {m : Nat} {L C D : List (Nat × Nat)} {n : Nat} (W : Pw m L) (hn : n < L.length) (c : Cw (L.take n) C) (hD : D = [L[n], (L[n].2, L[n].1)] ∨ D = [L[n]] ∨ D = [(L[n].2, L[n].1)]) : Cw (L.take (n + 1)) (C ++ D) := by
  have st := List.take_succ_eq_append_getElem hn
  have lt := W.lt _ (List.getElem_mem hn)
  have nin : L[n] ∉ L.take n := fun z => by
    have nd := W.nd.sublist (List.take_sublist (n + 1) L)
    rw [st, List.nodup_append] at nd
    exact nd.2.2 _ z _ (List.mem_singleton.mpr rfl) rfl
  have tk : ∀ x ∈ L.take n, x.1 < x.2 := fun x hx => (W.lt x (List.mem_of_mem_take hx)).1
  have n1 : L[n] ∉ C := fun z => by
    rcases c.of _ z with y | y
    · exact nin y
    · have := tk _ y; simp only at this; omega
  have n2 : (L[n].2, L[n].1) ∉ C := fun z => by
    rcases c.of _ z with y | y
    · have := tk _ y; simp only at this; omega
    · exact nin y
  have dn : L[n] ≠ (L[n].2, L[n].1) := fun z => by
    have := congrArg Prod.fst z
    simp only at this
    omega
  have mD : ∀ x ∈ D, x = L[n] ∨ x = (L[n].2, L[n].1) := fun x hx => by
    rcases hD with rfl | rfl | rfl
    · simpa using hx
    · left; simpa using hx
    · right; simpa using hx
  refine ⟨fun x hx => ?_, ?_⟩
  · rw [st]
    rcases List.mem_append.mp hx with z | z
    · exact (c.of x z).imp (List.mem_append_left _) (List.mem_append_left _)
    · rcases mD x z with rfl | rfl
      · exact .inl (List.mem_append_right _ (List.mem_singleton.mpr rfl))
      · exact .inr (List.mem_append_right _ (List.mem_singleton.mpr rfl))
  · rw [List.nodup_append]
    refine ⟨c.nd, ?_, fun a ha b hb z => ?_⟩
    · rcases hD with rfl | rfl | rfl
      · simp [dn]
      · simp
      · simp
    · subst z
      rcases mD _ hb with e | e
      · rw [e] at ha; exact n1 ha
      · rw [e] at ha; exact n2 ha
def call (os : List Nat) (c : Nat × Nat) : Nat × Nat := (os.getD c.1 0, os.getD c.2 0)
theorem call_dw {os : List Nat} {m : Nat} {C : List (Nat × Nat)} (po : os.Perm (List.range m)) (D : Dw m C) : Dw m (C.map (call os)) := by
  have lo : os.length = m := by rw [po.length_eq, List.length_range]
  have nd : os.Nodup := po.nodup_iff.mpr List.nodup_range
  have gt : ∀ i, i < m → ∃ hi : i < os.length, os.getD i 0 = os[i] := fun i hi => ⟨by omega, by simp [List.getD, show i < os.length by omega]⟩
  have lt : ∀ i, i < m → os.getD i 0 < m := fun i hi => by
    obtain ⟨h1, e⟩ := gt i hi
    rw [e]
    simpa using po.mem_iff.mp (List.getElem_mem h1)
  have inj : ∀ i j, i < m → j < m → os.getD i 0 = os.getD j 0 → i = j := fun i j hi hj e => by
    obtain ⟨h1, e1⟩ := gt i hi
    obtain ⟨h2, e2⟩ := gt j hj
    rw [e1, e2] at e
    exact (List.getElem_inj nd).mp e
  refine ⟨fun c hc => ?_, ?_⟩
  · obtain ⟨x, hx, rfl⟩ := List.mem_map.mp hc
    obtain ⟨a, b, n⟩ := D.lt x hx
    exact ⟨lt _ a, lt _ b, fun e => n (inj _ _ a b e)⟩
  · have key : C.Pairwise fun a b => call os a ≠ call os b := by
      have := D.nd
      rw [List.nodup_iff_pairwise_ne] at this
      refine List.Pairwise.imp_of_mem (fun {a b} ha hb ne z => ?_) this
      obtain ⟨a1, a2, _⟩ := D.lt a ha
      obtain ⟨b1, b2, _⟩ := D.lt b hb
      unfold call at z
      simp only [Prod.mk.injEq] at z
      exact ne (Prod.ext (inj _ _ a1 b1 z.1) (inj _ _ a2 b2 z.2))
    rw [List.nodup_iff_pairwise_ne, List.pairwise_map]
    exact key
theorem sort_dw {m : Nat} {C : List (Nat × Nat)} (D : Dw m C) : Dw m (C.mergeSort le2) := by
  have p := List.mergeSort_perm C le2
  exact ⟨fun c hc => D.lt c (p.mem_iff.mp hc), p.nodup_iff.mpr D.nd⟩
def callF (os : List Nat) : PV → Option PV
  | .tup [.int i, .int j] => some (prV (call os (i.toNat, j.toNat)))
  | _ => none
theorem callF_prs (os : List Nat) : ∀ l : List (Nat × Nat), (l.map prV).filterMap (callF os) = (l.map (call os)).map prV
  | [] => rfl
  | a :: r => by
    rw [List.map_cons, List.filterMap_cons, callF_prs os r]
    simp only [callF, prV, Int.toNat_natCast]
    rfl
theorem law_pattern_ok2 (T : FPT tab) {p : Addr} {a b c most : Int} {web : Bool} (hp : h p = some (.lst [.int a, .int b, .int c])) (h1 : 10 ≤ most) (h2 : most ≤ 60)
    (q : ∀ (m : Nat) cs a' b' c', 1 ≤ m → (m : Int) ≤ most → Dw m cs → cs.Pairwise lt2 → (web = true → ∀ c ∈ cs, (c.2, c.1) ∈ cs) → Q (patV m cs) (h.put p (.lst [.int a', .int b', .int c']))) : callW tab (k + 3) "_law_pattern" [.loc p, .int 1, .int most, .bl web] h Q E := by
  refine call_body T.pat rfl ?_
  rw [d__law_pattern, w_asg]
  simp only [startE]
  simp
  refine law_draw_ok (k := k + 1) T.draw hp (by decide) (by decide) fun way a1 b1 c1 y0 y1 => ?_
  rw [w_asg]
  simp
  refine law_draw_ok (k := k + 1) T.draw put_at (by decide) (by decide) fun g0 a2 b2 c2 g1 g2 => ?_
  simp
  rw [w_asg]
  simp
  refine law_draw_ok (k := k + 1) T.draw put_at (by decide) (by decide) fun r2 a3 b3 c3 r20 r21 => ?_
  simp
  refine law_draw_ok (k := k + 1) T.draw put_at (by decide) (by decide) fun r3 a4 b4 c4 r30 r31 => ?_
  simp
  refine ⟨szl (by omega), ?_⟩
  obtain ⟨m, hm, m1, m2⟩ : ∃ m : Nat, L2.atI [PV.int (1 + r2), PV.int (if 1 < most - r3 then most - r3 else 1)] (if g0 = 5 then 1 else 0) = some (.int (m : Nat)) ∧ 1 ≤ m ∧ (m : Int) ≤ most := by
    by_cases z : g0 = 5
    · refine ⟨(if 1 < most - r3 then most - r3 else 1).toNat, ?_, ?_, ?_⟩
      · rw [if_pos z]
        simp
        split <;> omega
      · split <;> omega
      · split <;> omega
    · refine ⟨(1 + r2).toNat, ?_, by omega, by omega⟩
      rw [if_neg z]
      simp
      omega
  refine ⟨_, hm, ?_⟩
  rw [w_asg]
  simp
  refine law_turn_ok (k := k) T.turn T.draw put_at m1 (by omega) fun od a5 b5 c5 pd => ?_
  have lo : od.length = m := by rw [pd.length_eq, List.length_range]
  rw [w_asg]
  simp
  intro p8 hp8
  have ne : p ≠ p8 := fun z => by rw [z, put_at] at hp8; cases hp8
  have hn8 : h p8 = none := by rwa [put_off (Ne.symm ne)] at hp8
  rw [w_for]
  simp
  refine law_pairs_ok (k := k) T (by rw [put_off ne, put_at]) m1 (by omega) y0 y1 fun L a6 b6 c6 W => ?_
  rw [put2 ne]
  have lL := W.len
  have mm : m * m ≤ 60 * 60 := Nat.mul_le_mul (by omega) (by omega)
  simp
  intro _
  refine for_all (fun i e g => ∃ w9 w10 w11 C a b c, e = [some (.loc p), some (.int 1), some (.int most), some (.bl web), some (.int way), some (.int (if g0 = 5 then 1 else 0)), some (.int (m : Nat)), some (.tup (nats od)), some (.loc p8), w9, w10, w11] ∧ g = (h.put p (.lst [.int a, .int b, .int c])).put p8 (.lst (C.map prV)) ∧ Cw (L.take i) C ∧ C.length ≤ 2 * i ∧ (web = true → ∀ c ∈ C, (c.2, c.1) ∈ C))
    ⟨_, _, _, [], a6, b6, c6, rfl, rfl, ⟨by simp, by simp⟩, by simp, by simp⟩ (fun _ _ _ _ => by simp) ?_ ?_
  · rintro i x e g N hx ⟨w9, w10, w11, C, a, b, c, rfl, rfl, cw, lc, sy⟩ hN
    obtain ⟨hi, rfl⟩ := pr_get hx
    simp [prV]
    rw [w_asg]
    simp
    refine law_draw_ok (k := k + 1) T.draw (by rw [put_off ne, put_at]) (by decide) (by decide) fun r a7 b7 c7 r0 r1 => ?_
    rw [put2 ne]
    simp
    refine ⟨.inl (by omega), ?_⟩
    obtain ⟨sd, es, s0, s1, sw⟩ : ∃ sd : Int, (r * if web = false then 1 else 0) = sd ∧ 0 ≤ sd ∧ sd < 3 ∧ (web = true → sd = 0) := by
      refine ⟨_, rfl, ?_, ?_, fun e => by rw [e]; simp⟩ <;> (split <;> omega)
    rw [es]
    rw [w_ex]
    simp
    obtain ⟨D, hD, eD, eD0⟩ : ∃ D, L2.atI [PV.lst [prV L[i], prV (L[i].2, L[i].1)], PV.lst [prV L[i]], PV.lst [prV (L[i].2, L[i].1)]] sd = some (.lst (D.map prV)) ∧ (D = [L[i], (L[i].2, L[i].1)] ∨ D = [L[i]] ∨ D = [(L[i].2, L[i].1)]) ∧ (sd = 0 → D = [L[i], (L[i].2, L[i].1)]) := by
      have : sd = 0 ∨ sd = 1 ∨ sd = 2 := by omega
      rcases this with rfl | rfl | rfl
      · exact ⟨[L[i], (L[i].2, L[i].1)], by simp, .inl rfl, fun _ => rfl⟩
      · exact ⟨[L[i]], by simp, .inr (.inl rfl), fun z => absurd z (by decide)⟩
      · exact ⟨[(L[i].2, L[i].1)], by simp, .inr (.inr rfl), fun z => absurd z (by decide)⟩
    have lD : D.length ≤ 2 := by rcases eD with rfl | rfl | rfl <;> simp
    refine ⟨szl (by omega), szl (by omega), szl (by omega), szl (by omega), szl (by omega), ?_⟩
    refine ⟨_, hD, ?_⟩
    refine ⟨C.map prV, D.map prV, put_at, rfl, szl (by simp only [List.length_map]; omega), ?_⟩
    rw [put_put]
    simp only [w_nil]
    exact hN _ _ ⟨_, _, _, C ++ D, a7, b7, c7, rfl, by rw [List.map_append], cw.more W hi eD, by rw [List.length_append]; omega, fun e c hc => by
      have e2 := eD0 (sw e)
      rcases List.mem_append.mp hc with z | z
      · exact List.mem_append_left _ (sy e c z)
      · refine List.mem_append_right _ ?_
        rw [e2] at z ⊢
        simp only [List.mem_cons, List.not_mem_nil, or_false] at z ⊢
        rcases z with rfl | rfl
        · exact .inr rfl
        · exact .inl rfl⟩
  · rintro e g ⟨w9, w10, w11, C, a, b, c, rfl, rfl, cw, lc, sy⟩
    simp only [List.length_map] at cw lc
    rw [List.take_length] at cw
    simp
    rw [w_ret]
    simp [srcV_loc put_at]
    have DC := cw.dw W
    refine fun _ => ?_
    refine comp_pure (callF od) (by simp [Src.stays]) (fun x hx R hR => ?_) ?_
    · obtain ⟨z, hz, rfl⟩ := List.mem_map.mp hx
      obtain ⟨z1, z2, _⟩ := DC.lt z hz
      simp [prV, nats_at (show z.1 < od.length by omega), nats_at (show z.2 < od.length by omega)]
      simp only [callF, prV, Int.toNat_natCast, call] at hR
      simp [List.getD, show z.1 < od.length by omega, show z.2 < od.length by omega] at hR
      exact ⟨szl (by omega), hR⟩
    · rw [callF_prs]
      have D2 := call_dw pd DC
      have D3 := sort_dw D2
      have l2 := D2.len
      have l3 := D3.len
      refine ⟨szl (by rw [List.length_map]; omega), fun _ => ⟨sortOk_prs _, szl (by rw [List.length_map]; omega), fun _ => ⟨szl (by omega), ?_⟩⟩⟩
      rw [sort_prs]
      exact ret_drop (hle_put (by rw [put_off (Ne.symm ne)]; exact hn8) hle_refl) (q m _ a b c m1 m2 D3 (sort2_lt D2.nd) fun e x hx => by
        have hp := fun z => (List.mergeSort_perm (C.map (call od)) le2).mem_iff (a := z)
        rw [hp] at hx ⊢
        obtain ⟨y, hy, rfl⟩ := List.mem_map.mp hx
        exact List.mem_map.mpr ⟨_, sy e y hy, rfl⟩)
theorem law_pattern_ok (T : FPT tab) {p : Addr} {a b c most : Int} {web : Bool} (hp : h p = some (.lst [.int a, .int b, .int c])) (h1 : 10 ≤ most) (h2 : most ≤ 60)
    (q : ∀ (m : Nat) cs a' b' c', 1 ≤ m → (m : Int) ≤ most → Dw m cs → Q (patV m cs) (h.put p (.lst [.int a', .int b', .int c']))) : callW tab (k + 3) "_law_pattern" [.loc p, .int 1, .int most, .bl web] h Q E :=
  law_pattern_ok2 T hp h1 h2 fun m cs a b c x y D _ _ => q m cs a b c x y D
end MP
set_option Elab.async false
set_option linter.all false
set_option maxRecDepth 100000
set_option maxHeartbeats 2000000
namespace MP
open PySem L2
def d_Filling___init__ : Df := ⟨["self", "pattern", "order", "place", "i", "k"], 3, .cons (.seta (.var 0) "at" (.call "struck_at" (.cons (.var 2) .nil))) (.cons (.seta (.var 0) "cells" (.dct0 true)) (.cons (.seta (.var 0) "rows_with" (.comp false (.lst true (.nil)) (.name 3) (.seq (.var 2)) .none)) (.cons (.seta (.var 0) "columns_with" (.comp false (.lst true (.nil)) (.name 3) (.seq (.var 2)) .none)) (.cons (.for (.tup2 (.name 4) (.name 5)) (.seq (.idx (.var 1) (.int 1))) (.cons (.ex (.mcall (.var 0) "Filling.put_in" "Filling" "put_in" (.cons (.var 4) (.cons (.var 5) .nil)))) .nil)) .nil))))⟩
def d_Filling_put_in : Df := ⟨["self", "i", "k"], 3, .cons (.sub (.fld (.var 0) "cells") (.tup (.cons (.var 1) (.cons (.var 2) .nil))) (.bl true)) (.cons (.ex (.meth (.idx (.fld (.var 0) "rows_with") (.var 2)) .append (.cons (.var 1) .nil))) (.cons (.ex (.meth (.idx (.fld (.var 0) "columns_with") (.var 1)) .append (.cons (.var 2) .nil))) .nil))⟩
def d_Filling_behind : Df := ⟨["self", "p", "some", "one"], 3, .cons (.ret (.comp false (.var 3) (.name 3) (.seq (.var 2)) (.some (.cmp .Gt (.idx (.fld (.var 0) "at") (.var 3)) (.idx (.fld (.var 0) "at") (.var 1)))))) .nil⟩
def d_Filling_new_cells : Df := ⟨["self", "p", "columns", "found", "i", "k"], 2, .cons (.asg (.name 2) (.mcall (.var 0) "Filling.behind" "Filling" "behind" (.cons (.var 1) (.cons (.idx (.fld (.var 0) "columns_with") (.var 1)) .nil)))) (.cons (.asg (.name 3) (.lst true (.nil))) (.cons (.for (.name 4) (.seq (.mcall (.var 0) "Filling.behind" "Filling" "behind" (.cons (.var 1) (.cons (.idx (.fld (.var 0) "rows_with") (.var 1)) .nil)))) (.cons (.ex (.meth (.var 3) .extend (.cons (.comp false (.tup (.cons (.var 4) (.cons (.var 5) .nil))) (.name 5) (.seq (.var 2)) (.some (.and (.cmp .NotEq (.var 4) (.var 5)) (.isin (.tup (.cons (.var 4) (.cons (.var 5) .nil))) (.fld (.var 0) "cells") true)))) .nil))) .nil)) (.cons (.ret (.con .sorted false (.seq (.var 3)))) .nil)))⟩
def d_Filling_strike : Df := ⟨["self", "p", "found", "i", "k"], 2, .cons (.asg (.name 2) (.mcall (.var 0) "Filling.new_cells" "Filling" "new_cells" (.cons (.var 1) .nil))) (.cons (.for (.tup2 (.name 3) (.name 4)) (.seq (.var 2)) (.cons (.ex (.mcall (.var 0) "Filling.put_in" "Filling" "put_in" (.cons (.var 3) (.cons (.var 4) .nil)))) .nil)) (.cons (.ret (.comp false (.tup (.cons (.var 3) (.cons (.var 4) (.cons (.var 1) .nil)))) (.tup2 (.name 3) (.name 4)) (.seq (.var 2)) .none)) .nil))⟩
def d_fills : Df := ⟨["pattern", "order", "filling", "found", "p"], 2, .cons (.asg (.name 2) (.new "Filling.__init__" "Filling" (.cons (.var 0) (.cons (.var 1) .nil)))) (.cons (.asg (.name 3) (.lst true (.nil))) (.cons (.for (.name 4) (.seq (.var 1)) (.cons (.ex (.meth (.var 3) .extend (.cons (.mcall (.var 2) "Filling.strike" "Filling" "strike" (.cons (.var 4) .nil)) .nil))) .nil)) (.cons (.ret (.con .tuple false (.seq (.var 3)))) .nil)))⟩
variable {tab : Str → Option Df} {k : Nat} {h : MH} {Q : Post} {E : XQ}
structure FF (tab : Str → Option Df) : Prop where
  sta : tab "struck_at" = some d_struck_at
  ini : tab "Filling.__init__" = some d_Filling___init__
  put : tab "Filling.put_in" = some d_Filling_put_in
  beh : tab "Filling.behind" = some d_Filling_behind
  new : tab "Filling.new_cells" = some d_Filling_new_cells
  str : tab "Filling.strike" = some d_Filling_strike
  fil : tab "fills" = some d_fills
def rowL (ds : List (Nat × Nat)) (j : Nat) : List Nat := (ds.filter fun c => decide (c.2 = j)).map (·.1)
def colL (ds : List (Nat × Nat)) (j : Nat) : List Nat := (ds.filter fun c => decide (c.1 = j)).map (·.2)
theorem rowL_add (ds : List (Nat × Nat)) (c : Nat × Nat) (j : Nat) : rowL (ds ++ [c]) j = rowL ds j ++ (if c.2 = j then [c.1] else []) := by
  unfold rowL
  rw [List.filter_append, List.map_append]
  congr 1
  by_cases e : c.2 = j
  · rw [if_pos e, List.filter_cons_of_pos (by simpa using e)]; rfl
  · rw [if_neg e, List.filter_cons_of_neg (by simpa using e)]; rfl
theorem colL_add (ds : List (Nat × Nat)) (c : Nat × Nat) (j : Nat) : colL (ds ++ [c]) j = colL ds j ++ (if c.1 = j then [c.2] else []) := by
  unfold colL
  rw [List.filter_append, List.map_append]
  congr 1
  by_cases e : c.1 = j
  · rw [if_pos e, List.filter_cons_of_pos (by simpa using e)]; rfl
  · rw [if_neg e, List.filter_cons_of_neg (by simpa using e)]; rfl
theorem rowL_len (ds : List (Nat × Nat)) (j : Nat) : (rowL ds j).length ≤ ds.length := by unfold rowL; rw [List.length_map]; exact List.length_filter_le _ _
theorem colL_len (ds : List (Nat × Nat)) (j : Nat) : (colL ds j).length ≤ ds.length := by unfold colL; rw [List.length_map]; exact List.length_filter_le _ _
def flds (os : List Nat) (m : Nat) (d : Addr) (rs cs : List Addr) : List (Str × PV) := [("at", .lst (nats (posL os m))), ("cells", .loc d), ("rows_with", .lst (rs.map .loc)), ("columns_with", .lst (cs.map .loc))]
structure FA (m : Nat) (s d : Addr) (rs cs : List Addr) (h0 : MH) : Prop where
  lr : rs.length = m
  lc : cs.length = m
  nr : rs.Nodup
  nc : cs.Nodup
  sd : s ≠ d
  sr : s ∉ rs
  sc : s ∉ cs
  dr : d ∉ rs
  dc : d ∉ cs
  rc : ∀ a ∈ rs, a ∉ cs
  fs : h0 s = none
  fd : h0 d = none
  fr : ∀ a ∈ rs, h0 a = none
  fc : ∀ a ∈ cs, h0 a = none
structure Fil (os : List Nat) (m : Nat) (s d : Addr) (rs cs : List Addr) (h0 : MH) (ds : List (Nat × Nat)) (g : MH) : Prop where
  ob : g s = some (.ins "Filling" (flds os m d rs cs))
  ce : g d = some (.dtt (dd ds)) ∨ (g d = some (.dct []) ∧ ds = [])
  rw_ : ∀ j (a : Addr), rs[j]? = some a → g a = some (.lst (nats (rowL ds j)))
  cl : ∀ j (a : Addr), cs[j]? = some a → g a = some (.lst (nats (colL ds j)))
  le : HLe h0 g
@[simp] theorem mf_at : Str.ofString "at" ∈ fieldsOf (Str.ofString "Filling") := by decide +kernel
@[simp] theorem mf_cells : Str.ofString "cells" ∈ fieldsOf (Str.ofString "Filling") := by decide +kernel
@[simp] theorem mf_rows : Str.ofString "rows_with" ∈ fieldsOf (Str.ofString "Filling") := by decide +kernel
@[simp] theorem mf_cols : Str.ofString "columns_with" ∈ fieldsOf (Str.ofString "Filling") := by decide +kernel
section
variable {os : List Nat} {m : Nat} {s d : Addr} {rs cs : List Addr} {h0 g : MH} {ds : List (Nat × Nat)}
@[simp] theorem fl_at : (flds os m d rs cs).lookup (Str.ofString "at") = some (.lst (nats (posL os m))) := rfl
@[simp] theorem fl_cells : (flds os m d rs cs).lookup (Str.ofString "cells") = some (.loc d) := rfl
@[simp] theorem fl_rows : (flds os m d rs cs).lookup (Str.ofString "rows_with") = some (.lst (rs.map .loc)) := rfl
@[simp] theorem fl_cols : (flds os m d rs cs).lookup (Str.ofString "columns_with") = some (.lst (cs.map .loc)) := rfl
theorem getq {l : List Addr} {j : Nat} (h : j < l.length) : l[j]? = some l[j] := List.getElem?_eq_getElem h
theorem wE_f0 {G : Calls} {Ex : XP} {h : MH} {Q : Post} {a : Addr} {C f : Str} {fs : List (Str × PV)} {v : PV} {rest : Env} (e : h a = some (.ins C fs)) (hf : f ∈ fieldsOf C) (hl : fs.lookup f = some v) : wpE G Ex (.fld (.var 0) f) (some (.loc a) :: rest) h Q = Q v h := by
  simp only [wpE]
  refine propext ⟨fun ⟨x, e0, a', C', fs', v', e1, e2, e3, e4, q⟩ => ?_, fun q => ⟨_, rfl, a, C, fs, v, rfl, e, hf, hl, q⟩⟩
  simp at e0
  subst e0
  cases e1
  rw [e] at e2
  cases e2
  rw [hl] at e4
  cases e4
  exact q
theorem put_in_ok (T : FF tab) (A : FA m s d rs cs h0) (F : Fil os m s d rs cs h0 ds g) {i j : Nat} (hi : i < m) (hj : j < m) (nin : (i, j) ∉ ds) (lz : ds.length ≤ 10000)
    (q : ∀ g', Fil os m s d rs cs h0 (ds ++ [(i, j)]) g' → Q .non g') : callW tab (k + 1) "Filling.put_in" [.loc s, .int (i : Nat), .int (j : Nat)] g Q E := by
  have hjr : j < rs.length := by rw [A.lr]; exact hj
  have hic : i < cs.length := by rw [A.lc]; exact hi
  have mr : rs[j] ∈ rs := List.getElem_mem hjr
  have mc : cs[i] ∈ cs := List.getElem_mem hic
  have n1 : d ≠ rs[j] := fun z => A.dr (by rw [z]; exact mr)
  have n2 : d ≠ cs[i] := fun z => A.dc (by rw [z]; exact mc)
  have n3 : s ≠ rs[j] := fun z => A.sr (by rw [z]; exact mr)
  have n4 : s ≠ cs[i] := fun z => A.sc (by rw [z]; exact mc)
  have n5 : cs[i] ≠ rs[j] := fun z => A.rc _ mr (by rw [← z]; exact mc)
  have r0 := F.rw_ j _ (getq hjr)
  have c0 := F.cl i _ (getq hic)
  refine call_body T.put rfl ?_
  rw [d_Filling_put_in, w_sub]
  simp only [startE]
  simp [-wE_fld, wE_f0 F.ob mf_cells fl_cells, subW]
  refine ⟨szl (by omega), dd ds, F.ce.imp id fun z => ⟨z.1, by rw [z.2]; rfl⟩, ⟨⟨rfl, rfl⟩, by rw [dd_len, PySem.sizeLine_eq]; omega⟩, ?_⟩
  have pd := put_dd (c := (i, j)) nin
  simp only at pd
  rw [pd, w_ex]
  have o1 : (g.put d (.dtt (dd (ds ++ [(i, j)])))) s = some (.ins "Filling" (flds os m d rs cs)) := (put_off A.sd).trans F.ob
  have o2 : (g.put d (.dtt (dd (ds ++ [(i, j)])))) rs[j] = some (.lst (nats (rowL ds j))) := (put_off (Ne.symm n1)).trans r0
  have o3 : (g.put d (.dtt (dd (ds ++ [(i, j)])))) cs[i] = some (.lst (nats (colL ds i))) := (put_off (Ne.symm n2)).trans c0
  simp [-wE_fld, wE_f0 o1 mf_rows fl_rows, loc_at hjr]
  refine ⟨⟨_, o2⟩, _, o2, by rw [nats_len]; exact Nat.lt_of_le_of_lt (rowL_len _ _) (by rw [PySem.sizeLine_eq]; omega), ?_⟩
  show wpSs _ _ _ _ _ _
  rw [w_ex]
  have p1 : ((g.put d (.dtt (dd (ds ++ [(i, j)])))).put rs[j] (.lst (nats (rowL ds j) ++ [.int (i : Nat)]))) s = some (.ins "Filling" (flds os m d rs cs)) := (put_off n3).trans o1
  have p3 : ((g.put d (.dtt (dd (ds ++ [(i, j)])))).put rs[j] (.lst (nats (rowL ds j) ++ [.int (i : Nat)]))) cs[i] = some (.lst (nats (colL ds i))) := (put_off n5).trans o3
  simp [-wE_fld, wE_f0 p1 mf_cols fl_cols, loc_at hic]
  refine ⟨⟨_, p3⟩, _, p3, by rw [nats_len]; exact Nat.lt_of_le_of_lt (colL_len _ _) (by rw [PySem.sizeLine_eq]; omega), ?_⟩
  show wpSs _ _ _ _ _ _
  rw [w_nil]
  refine ret_same (q _ ⟨(put_off n4).trans p1, .inl ?_, fun j' a ea => ?_, fun j' a ea => ?_, ?_⟩)
  · rw [put_off n2, put_off n1, put_at]
  · obtain ⟨hl, e⟩ := List.getElem?_eq_some_iff.mp ea
    have ma : a ∈ rs := by rw [← e]; exact List.getElem_mem hl
    have na : a ≠ cs[i] := fun z => A.rc _ ma (by rw [z]; exact mc)
    have nd : a ≠ d := fun z => A.dr (by rw [← z]; exact ma)
    rw [put_off na, rowL_add]
    by_cases z : j = j'
    · subst z
      rw [← e, put_at, if_pos rfl]
      simp [nats]
    · have ne : a ≠ rs[j] := fun y => z ((List.getElem_inj A.nr).mp (by rw [← y, e]))
      rw [put_off ne, put_off nd, if_neg z, List.append_nil]
      exact F.rw_ j' a ea
  · obtain ⟨hl, e⟩ := List.getElem?_eq_some_iff.mp ea
    have ma : a ∈ cs := by rw [← e]; exact List.getElem_mem hl
    have na : a ≠ rs[j] := fun z => A.rc _ mr (by rw [← z]; exact ma)
    have nd : a ≠ d := fun z => A.dc (by rw [← z]; exact ma)
    rw [colL_add]
    by_cases z : i = j'
    · subst z
      rw [← e, put_at, if_pos rfl]
      simp [nats]
    · have ne : a ≠ cs[i] := fun y => z ((List.getElem_inj A.nc).mp (by rw [← y, e]))
      rw [put_off ne, put_off na, put_off nd, if_neg z, List.append_nil]
      exact F.cl j' a ea
  · exact hle_put (A.fc _ mc) (hle_put (A.fr _ mr) (hle_put A.fd F.le))
theorem behind_ok (T : FF tab) (F : Fil os m s d rs cs h0 ds g) {p : Nat} {a : Addr} {L : List Nat} (hp : p < m) (ha : g a = some (.lst (nats L))) (hL : ∀ x ∈ L, x < m) (lz : L.length ≤ 10000)
    (q : Q (.lst (nats (L.filter fun x => decide (os.idxOf p < os.idxOf x)))) g) : callW tab (k + 1) "Filling.behind" [.loc s, .int (p : Nat), .loc a] g Q E := by
  refine call_body T.beh rfl ?_
  rw [d_Filling_behind, w_ret]
  simp only [startE]
  simp [-wE_fld, srcV_loc ha]
  intro _
  refine comp_pure (selF (fun x => decide (os.idxOf p < os.idxOf x)) fun z => .int (z : Nat)) (by simp [Src.stays, ha]) (fun x hx R hR => ?_) ?_
  · obtain ⟨z, hz, rfl⟩ := List.mem_map.mp hx
    simp [-wE_fld, wE_f0 F.ob mf_at fl_at, posL_at (hL z hz), posL_at hp]
    simp only [selF, Int.toNat_natCast] at hR
    by_cases c : os.idxOf p < os.idxOf z
    · simp [c] at hR ⊢; exact hR
    · simp [c] at hR ⊢; exact hR
  · rw [selF_nats]
    refine ⟨?_, ret_same q⟩
    rw [List.length_map]
    exact szl (Nat.le_trans (List.length_filter_le _ _) (by omega))
end
end MP
set_option Elab.async false
set_option linter.all false
set_option maxRecDepth 100000
set_option maxHeartbeats 2000000
namespace MP
open PySem L2
variable {tab : Str → Option Df} {k : Nat} {h : MH} {Q : Post} {E : XQ}
section
variable {os : List Nat} {m : Nat} {s d : Addr} {rs cs : List Addr} {h0 g : MH} {ds : List (Nat × Nat)}
def bh (os : List Nat) (p : Nat) (L : List Nat) : List Nat := L.filter fun x => decide (os.idxOf p < os.idxOf x)
def newC (ds : List (Nat × Nat)) (cols : List Nat) (i : Nat) : List (Nat × Nat) := (cols.filter fun j => decide (i ≠ j) && !decide ((i, j) ∈ ds)).map fun j => (i, j)
def newP (os : List Nat) (ds : List (Nat × Nat)) (p : Nat) : List (Nat × Nat) := (bh os p (rowL ds p)).flatMap fun i => newC ds (bh os p (colL ds p)) i
def slP (os : List Nat) (ds : List (Nat × Nat)) (p : Nat) : List (Nat × Nat) := (newP os ds p).mergeSort le2
theorem newC_len (ds : List (Nat × Nat)) (cols : List Nat) (i : Nat) : (newC ds cols i).length ≤ cols.length := by
  unfold newC
  rw [List.length_map]
  exact List.length_filter_le _ _
theorem bh_len (os : List Nat) (p : Nat) (L : List Nat) : (bh os p L).length ≤ L.length := List.length_filter_le _ _
theorem rowL_mem {j x : Nat} : x ∈ rowL ds j ↔ (x, j) ∈ ds := by
  unfold rowL
  simp only [List.mem_map, List.mem_filter, decide_eq_true_eq]
  constructor
  · rintro ⟨c, ⟨h1, h2⟩, rfl⟩
    rw [← h2]; exact h1
  · intro h
    exact ⟨_, ⟨h, rfl⟩, rfl⟩
theorem colL_mem {j x : Nat} : x ∈ colL ds j ↔ (j, x) ∈ ds := by
  unfold colL
  simp only [List.mem_map, List.mem_filter, decide_eq_true_eq]
  constructor
  · rintro ⟨c, ⟨h1, h2⟩, rfl⟩
    rw [← h2]; exact h1
  · intro h
    exact ⟨_, ⟨h, rfl⟩, rfl⟩
theorem newP_mem {p : Nat} {c : Nat × Nat} : c ∈ newP os ds p ↔ (c.1, p) ∈ ds ∧ (p, c.2) ∈ ds ∧ os.idxOf p < os.idxOf c.1 ∧ os.idxOf p < os.idxOf c.2 ∧ c.1 ≠ c.2 ∧ c ∉ ds := by
  obtain ⟨i, j⟩ := c
  unfold newP newC bh
  simp only [List.mem_flatMap, List.mem_map, List.mem_filter, rowL_mem, colL_mem, Bool.and_eq_true, decide_eq_true_eq, Bool.not_eq_true', decide_eq_false_iff_not, Prod.mk.injEq]
  constructor
  · rintro ⟨x, ⟨h1, h2⟩, y, ⟨⟨h3, h4⟩, h5, h6⟩, rfl, rfl⟩
    exact ⟨h1, h3, h2, h4, h5, h6⟩
  · rintro ⟨h1, h3, h2, h4, h5, h6⟩
    exact ⟨i, ⟨h1, h2⟩, j, ⟨⟨h3, h4⟩, h5, h6⟩, rfl, rfl⟩
theorem rowL_nd (nd : ds.Nodup) (j : Nat) : (rowL ds j).Nodup := by
  unfold rowL
  rw [List.nodup_iff_pairwise_ne, List.pairwise_map]
  have := nd.filter fun c => decide (c.2 = j)
  refine List.Pairwise.imp_of_mem (fun {a b} ha hb ne e => ne ?_) this
  have a2 := (List.mem_filter.mp ha).2
  have b2 := (List.mem_filter.mp hb).2
  simp only [decide_eq_true_eq] at a2 b2
  exact Prod.ext e (by rw [a2, b2])
theorem colL_nd (nd : ds.Nodup) (j : Nat) : (colL ds j).Nodup := by
  unfold colL
  rw [List.nodup_iff_pairwise_ne, List.pairwise_map]
  have := nd.filter fun c => decide (c.1 = j)
  refine List.Pairwise.imp_of_mem (fun {a b} ha hb ne e => ne ?_) this
  have a2 := (List.mem_filter.mp ha).2
  have b2 := (List.mem_filter.mp hb).2
  simp only [decide_eq_true_eq] at a2 b2
  exact Prod.ext (by rw [a2, b2]) e
theorem newC_nd {cols : List Nat} (nd : cols.Nodup) (i : Nat) : (newC ds cols i).Nodup := by
  unfold newC
  rw [List.nodup_iff_pairwise_ne, List.pairwise_map]
  have := nd.filter fun j => decide (i ≠ j) && !decide ((i, j) ∈ ds)
  exact this.imp fun {a b} ne e => ne (by cases e; rfl)
theorem flat_nd {cols : List Nat} (nc : cols.Nodup) : ∀ {l : List Nat}, l.Nodup → (l.flatMap fun i => newC ds cols i).Nodup
  | [], _ => by simp
  | a :: r, h => by
    rw [List.nodup_cons] at h
    rw [List.flatMap_cons, List.nodup_append]
    refine ⟨newC_nd nc a, flat_nd nc h.2, fun x hx y hy e => ?_⟩
    subst e
    obtain ⟨i, hi, hy⟩ := List.mem_flatMap.mp hy
    unfold newC at hx hy
    obtain ⟨u, _, rfl⟩ := List.mem_map.mp hx
    obtain ⟨w, _, e⟩ := List.mem_map.mp hy
    cases e
    exact h.1 hi
theorem newP_nd (nd : ds.Nodup) (p : Nat) : (newP os ds p).Nodup := flat_nd ((colL_nd nd p).filter _) ((rowL_nd nd p).filter _)
theorem newP_dw {p : Nat} (D : Dw m ds) : Dw m (newP os ds p) := ⟨fun c hc => by
  obtain ⟨h1, h2, _, _, h3, _⟩ := newP_mem.mp hc
  have a := D.lt _ h1
  have b := D.lt _ h2
  exact ⟨a.1, b.2.1, h3⟩, newP_nd D.nd p⟩
theorem new_cells_ok (T : FF tab) (A : FA m s d rs cs h0) (F : Fil os m s d rs cs h0 ds g) (D : Dw m ds) {p : Nat} (hp : p < m) (hm : m ≤ 60)
    (q : Q (.lst ((slP os ds p).map prV)) g) : callW tab (k + 2) "Filling.new_cells" [.loc s, .int (p : Nat)] g Q E := by
  have mm : m * m ≤ 60 * 60 := Nat.mul_le_mul hm hm
  have ld := D.len
  have hpr : p < rs.length := by rw [A.lr]; exact hp
  have hpc : p < cs.length := by rw [A.lc]; exact hp
  have r0 := F.rw_ p _ (getq hpr)
  have c0 := F.cl p _ (getq hpc)
  have lr := rowL_len ds p
  have lc := colL_len ds p
  have lrb := bh_len os p (rowL ds p)
  have lcb := bh_len os p (colL ds p)
  refine call_body T.new rfl ?_
  rw [d_Filling_new_cells, w_asg]
  simp only [startE]
  simp [-wE_fld, -List.lookup_eq_none_iff, wE_f0 F.ob mf_cols fl_cols, loc_at hpc]
  refine ⟨⟨_, F.ob, rfl⟩, ?_⟩
  refine behind_ok (k := k) T F hp c0 (fun x hx => (D.lt _ (colL_mem.mp hx)).2.1) (by omega) ?_
  rw [w_asg]
  simp
  refine fun n hn => ?_
  have nin : ∀ a c, g a = some c → a ≠ n := fun a c e z => by rw [z, hn] at e; cases e
  have F2 : Fil os m s d rs cs h0 ds (g.put n (.lst [])) := ⟨(put_off (nin _ _ F.ob)).trans F.ob, by
      rcases F.ce with z | ⟨z, e⟩
      · exact .inl ((put_off (nin _ _ z)).trans z)
      · exact .inr ⟨(put_off (nin _ _ z)).trans z, e⟩, fun j a ea => (put_off (nin _ _ (F.rw_ j a ea))).trans (F.rw_ j a ea), fun j a ea => (put_off (nin _ _ (F.cl j a ea))).trans (F.cl j a ea), fun a c e => (put_off (nin _ _ (F.le a c e))).trans (F.le a c e)⟩
  have r1 : (g.put n (.lst [])) rs[p] = some (.lst (nats (rowL ds p))) := (put_off (nin _ _ r0)).trans r0
  rw [w_for]
  simp [-wE_fld, -List.lookup_eq_none_iff, wE_f0 F2.ob mf_rows fl_rows, loc_at hpr]
  refine ⟨⟨_, F2.ob, rfl⟩, ?_⟩
  refine behind_ok (k := k) T F2 hp r1 (fun x hx => (D.lt _ (rowL_mem.mp hx)).1) (by omega) ?_
  simp
  intro _
  refine for_all (fun i e g2 => ∃ w4, e = [some (.loc s), some (.int (p : Nat)), some (.lst (nats (bh os p (colL ds p)))), some (.loc n), w4, none] ∧ g2 = g.put n (.lst ((((bh os p (rowL ds p)).take i).flatMap fun i => newC ds (bh os p (colL ds p)) i).map prV)))
    ⟨_, rfl, by simp⟩ (fun _ _ _ _ => by simp) ?_ ?_
  · rintro i x e g2 N hx ⟨w4, rfl, rfl⟩ hN
    have hx' : (nats (bh os p (rowL ds p)))[i]? = some x := hx
    obtain ⟨hi, rfl⟩ := nats_get hx'
    have mb : ∀ x ∈ bh os p (rowL ds p), (x, p) ∈ ds := fun x hx => rowL_mem.mp (List.mem_filter.mp hx).1
    have ne : ds ≠ [] := List.ne_nil_of_mem (mb _ (List.getElem_mem hi))
    have gd : g d = some (.dtt (dd ds)) := by
      rcases F.ce with z | ⟨_, z⟩
      · exact z
      · exact absurd z ne
    have o2 : ∀ c, (g.put n c) s = some (.ins "Filling" (flds os m d rs cs)) := fun c => (put_off (nin _ _ F.ob)).trans F.ob
    have d2 : ∀ c, dcell (g.put n c) (.loc d) = some (dd ds) := fun c => dcell_t ((put_off (nin _ _ gd)).trans gd)
    simp
    rw [w_ex]
    simp [-wE_fld, -List.lookup_eq_none_iff]
    generalize ei : (bh os p (rowL ds p))[i] = a
    intro _
    refine comp_pure (selF (fun j => decide (a ≠ j) && !decide ((a, j) ∈ ds)) fun j => prV (a, j)) (by simp) (fun x hx R hR => ?_) ?_
    · obtain ⟨z, hz, rfl⟩ := List.mem_map.mp hx
      simp only [selF, Int.toNat_natCast] at hR
      simp [-wE_fld, -List.lookup_eq_none_iff, wE_f0 (o2 _) mf_cells fl_cells]
      by_cases c1 : a = z
      · rw [if_pos (by omega)]
        simpa [c1] using hR
      · rw [if_neg (by omega)]
        refine ⟨szl (by omega), ?_⟩
        rw [in_dd (d2 _)]
        by_cases c2 : (a, z) ∈ ds
        · simpa [c1, c2] using hR
        · simp [c1, c2] at hR ⊢
          exact ⟨szl (by omega), hR⟩
    rw [selF_nats]
    have el : ((bh os p (colL ds p)).filter fun j => decide (a ≠ j) && !decide ((a, j) ∈ ds)).map (fun j => prV (a, j)) = (newC ds (bh os p (colL ds p)) a).map prV := by
      unfold newC
      rw [List.map_map]
      rfl
    rw [el]
    have ln := newC_len ds (bh os p (colL ds p)) a
    refine ⟨by rw [List.length_map]; exact szl (by omega), _, _, put_at, rfl, ?_, ?_⟩
    · simp only [List.length_append, List.length_map]
      have l2 := flat_len (fun i => newC ds (bh os p (colL ds p)) i) (m * m) ((bh os p (rowL ds p)).take i) fun i _ => by have := newC_len ds (bh os p (colL ds p)) i; omega
      have l3 : ((bh os p (rowL ds p)).take i).length ≤ m := by
        rw [List.length_take]
        have : (bh os p (rowL ds p)).length ≤ m := by
          have sub : bh os p (rowL ds p) ⊆ List.range m := fun x hx => by
            unfold bh at hx
            have := (D.lt _ (rowL_mem.mp (List.mem_filter.mp hx).1)).1
            simpa using this
          have := List.Nodup.length_le_of_subset ((rowL_nd D.nd p).filter _) sub
          rw [List.length_range] at this
          exact this
        omega
      have l4 : ((bh os p (rowL ds p)).take i).length * (m * m) ≤ 60 * (60 * 60) := Nat.mul_le_mul (by omega) mm
      exact szl (by omega)
    · rw [put_put]
      simp only [w_nil]
      refine hN _ _ ⟨_, rfl, ?_⟩
      rw [List.take_succ_eq_append_getElem hi, List.flatMap_append, ei]
      simp
  · rintro e g2 ⟨w4, rfl, rfl⟩
    have eT : ∀ r : List Nat, r.take ((nats r).length) = r := fun r => by rw [nats_len, List.take_length]
    have er : ((bh os p (rowL ds p)).take (nats (bh os p (rowL ds p))).length).flatMap (fun i => newC ds (bh os p (colL ds p)) i) = newP os ds p := by rw [eT]; rfl
    have er' : g.put n (.lst ((((bh os p (rowL ds p)).take (nats (bh os p (rowL ds p))).length).flatMap fun i => newC ds (bh os p (colL ds p)) i).map prV)) = g.put n (.lst ((newP os ds p).map prV)) := by rw [er]
    show wpSs _ _ _ _ (g.put n (.lst ((((bh os p (rowL ds p)).take (nats (bh os p (rowL ds p))).length).flatMap fun i => newC ds (bh os p (colL ds p)) i).map prV))) _
    rw [er']
    have W := newP_dw (os := os) (p := p) D
    have lw := W.len
    rw [w_ret]
    simp [srcV_loc put_at]
    intro _
    refine ⟨sortOk_prs _, szl (by omega), ?_⟩
    rw [sort_prs]
    exact ret_drop (hle_put hn hle_refl) q
end
end MP
set_option Elab.async false
set_option linter.all false
set_option maxRecDepth 100000
set_option maxHeartbeats 2000000
namespace MP
open PySem L2
variable {tab : Str → Option Df} {k : Nat} {h : MH} {Q : Post} {E : XQ}
def setaW (x : PV) (f : Str) (y : PV) (h : MH) (K : MH → Prop) : Prop := ∃ a C fs, x = .loc a ∧ h a = some (.ins C fs) ∧ f ∈ fieldsOf C ∧ fs.length < 1000 ∧ K (h.put a (.ins C (putFP f y fs)))
theorem w_setaW {G : Calls} {Ex : XP} {env : Env} {h : MH} {D : En} {a b : MP.E} {r : Ss} {f : Str} : wpSs G Ex (.cons (.seta a f b) r) env h D = wpE G Ex b env h fun y h1 => wpE G Ex a env h1 fun x h2 => setaW x f y h2 fun h3 => wpSs G Ex r env h3 D := w_seta
theorem seta_p {s : Addr} {C f : Str} {y : PV} {fs : List (Str × PV)} {K : MH → Prop} (e : h s = some (.ins C fs)) (hf : f ∈ fieldsOf C) (hl : fs.length < 1000) (q : K (h.put s (.ins C (putFP f y fs)))) : setaW (.loc s) f y h K := ⟨s, C, fs, rfl, e, hf, hl, q⟩
theorem mk_lists {G : Calls} {Ex : XP} {env : Env} {g : MH} {os : List Nat} {m : Nat} {Q : Post} (he : env[2]? = some (some (.tup (nats os)))) (lo : os.length = m) (hm : m ≤ 1000)
    (q : ∀ (rs : List Addr) (g' : MH), rs.length = m → rs.Nodup → (∀ a ∈ rs, g a = none ∧ g' a = some (.lst [])) → HLe g g' → Q (.lst (rs.map .loc)) g') : wpE G Ex (.comp false (.lst true .nil) (.name 3) (.seq (.var 2)) .none) env g Q := by
  simp
  refine ⟨_, he, _, rfl, fun _ => ?_⟩
  refine comp_inv (fun i acc g' => ∃ qs : List Addr, acc = qs.map PV.loc ∧ qs.length = i ∧ qs.Nodup ∧ (∀ q ∈ qs, g q = none ∧ g' q = some (.lst [])) ∧ HLe g g') ⟨[], rfl, rfl, List.nodup_nil, by simp, hle_refl⟩ (fun _ _ _ _ => by simp) ?_ ?_
  · rintro i x acc g' R hx ⟨qs, rfl, lq, nd, hq, le⟩ hR
    intro p hp
    refine hR _ _ ⟨qs ++ [p], by simp, by simp [lq], ?_, ?_, ?_⟩
    · have pn : p ∉ qs := fun z => by have := (hq p z).2; rw [hp] at this; cases this
      rw [List.nodup_append]
      exact ⟨nd, by simp, fun a ha b hb => by rw [List.mem_singleton] at hb; subst hb; intro z; subst z; exact pn ha⟩
    · intro q hq'
      rw [List.mem_append, List.mem_singleton] at hq'
      rcases hq' with z | rfl
      · have ne : q ≠ p := fun e => by have := (hq q z).2; rw [e, hp] at this; cases this
        exact ⟨(hq q z).1, (put_off ne).trans (hq q z).2⟩
      · refine ⟨?_, put_at⟩
        cases e : g q with
        | none => rfl
        | some c => have := le q c e; rw [hp] at this; cases this
    · refine hle_put ?_ le
      cases e : g p with
      | none => rfl
      | some c => have := le p c e; rw [hp] at this; cases this
  · rintro acc g' ⟨qs, rfl, lq, nd, hq, le⟩
    have lq' : qs.length = m := by rw [lq]; show (nats os).length = m; rw [nats_len, lo]
    exact ⟨by rw [List.length_map]; exact szl (by omega), q qs g' lq' nd hq le⟩
section
variable {os : List Nat} {m : Nat} {s d : Addr} {rs cs : List Addr} {h0 g : MH} {ds : List (Nat × Nat)}
theorem sl_mem {p : Nat} {c : Nat × Nat} : c ∈ slP os ds p ↔ c ∈ newP os ds p := (List.mergeSort_perm _ _).mem_iff
theorem sl_dw {p : Nat} (D : Dw m ds) : Dw m (slP os ds p) := sort_dw (newP_dw D)
theorem app_dw {p : Nat} (D : Dw m ds) : Dw m (ds ++ slP os ds p) := ⟨fun c hc => by
  rcases List.mem_append.mp hc with z | z
  · exact D.lt c z
  · exact (sl_dw D).lt c z, by
  rw [List.nodup_append]
  exact ⟨D.nd, (sl_dw D).nd, fun a ha b hb e => by subst e; exact (newP_mem.mp (sl_mem.mp hb)).2.2.2.2.2 ha⟩⟩
def trP (p : Nat) (c : Nat × Nat) : Nat × Nat × Nat := (c.1, c.2, p)
theorem strike_ok (T : FF tab) (A : FA m s d rs cs h0) (F : Fil os m s d rs cs h0 ds g) (D : Dw m ds) {p : Nat} (hp : p < m) (hm : m ≤ 60)
    (q : ∀ g', Fil os m s d rs cs h0 (ds ++ slP os ds p) g' → Q (.lst (((slP os ds p).map (trP p)).map trV)) g') : callW tab (k + 3) "Filling.strike" [.loc s, .int (p : Nat)] g Q E := by
  have mm : m * m ≤ 60 * 60 := Nat.mul_le_mul hm hm
  have DA := app_dw (os := os) (p := p) D
  have la := DA.len
  rw [List.length_append] at la
  refine call_body T.str rfl ?_
  rw [d_Filling_strike, w_asg]
  simp only [startE]
  simp [-wE_fld, -List.lookup_eq_none_iff]
  refine ⟨⟨_, F.ob, rfl⟩, ?_⟩
  refine new_cells_ok (k := k) T A F D hp hm ?_
  rw [w_for]
  simp
  intro _
  refine for_all (fun i e g' => ∃ w3 w4, e = [some (.loc s), some (.int (p : Nat)), some (.lst ((slP os ds p).map prV)), w3, w4] ∧ Fil os m s d rs cs h0 (ds ++ (slP os ds p).take i) g')
    ⟨_, _, rfl, by simpa using F⟩ (fun _ _ _ _ => by simp) ?_ ?_
  · rintro i x e g' N hx ⟨w3, w4, rfl, F'⟩ hN
    obtain ⟨hi, rfl⟩ := pr_get hx
    have mi := List.getElem_mem hi
    obtain ⟨l1, l2, l3⟩ := (sl_dw D).lt _ mi
    have st := List.take_succ_eq_append_getElem hi
    have nin : (slP os ds p)[i] ∉ ds ++ (slP os ds p).take i := fun z => by
      have nd : (ds ++ (slP os ds p).take (i + 1)).Nodup := DA.nd.sublist ((List.take_sublist _ _).append_left _)
      rw [st, ← List.append_assoc, List.nodup_append] at nd
      exact nd.2.2 _ z _ (List.mem_singleton.mpr rfl) rfl
    simp [prV]
    rw [w_ex]
    simp [-wE_fld, -List.lookup_eq_none_iff]
    refine ⟨⟨_, F'.ob, rfl⟩, ?_⟩
    refine put_in_ok (k := k + 1) T A F' l1 l2 nin (by rw [List.length_append, List.length_take]; omega) fun g2 F2 => ?_
    simp only [w_nil]
    refine hN _ _ ⟨_, _, rfl, ?_⟩
    rw [st, ← List.append_assoc]
    exact F2
  · rintro e g' ⟨w3, w4, rfl, F'⟩
    have F2 : Fil os m s d rs cs h0 (ds ++ slP os ds p) g' := by
      have e1 : ((slP os ds p).map prV).length = (slP os ds p).length := List.length_map ..
      have e2 : (slP os ds p).take ((slP os ds p).map prV).length = slP os ds p := by rw [e1, List.take_length]
      have F'' : Fil os m s d rs cs h0 (ds ++ (slP os ds p).take ((slP os ds p).map prV).length) g' := F'
      rw [e2] at F''
      exact F''
    simp
    rw [w_ret]
    simp
    intro _
    refine comp_pure (fun x => match x with | .tup [a, b] => some (.tup [a, b, .int (p : Nat)]) | _ => none) (by simp) (fun x hx R hR => ?_) ?_
    · obtain ⟨z, hz, rfl⟩ := List.mem_map.mp hx
      simp [prV] at hR ⊢
      exact ⟨szl (by omega), hR⟩
    · have eb : ∀ l : List (Nat × Nat), (l.map prV).filterMap (fun x => match x with | .tup [a, b] => some (PV.tup [a, b, .int (p : Nat)]) | _ => none) = (l.map (trP p)).map trV := by
        intro l
        induction l with
        | nil => rfl
        | cons a r ih =>
          simp only [List.map_cons, List.filterMap_cons, prV, ih]
          rfl
      rw [eb]
      exact ⟨szl (by simp only [List.length_map]; omega), ret_same (q _ F2)⟩
end
end MP
set_option Elab.async false
set_option linter.all false
set_option maxRecDepth 100000
set_option maxHeartbeats 2000000
namespace MP
open PySem L2
variable {tab : Str → Option Df} {k : Nat} {h : MH} {Q : Post} {E : XQ}
section
variable {os : List Nat} {m : Nat} {s d : Addr} {rs cs : List Addr} {h0 g : MH} {ds : List (Nat × Nat)}
theorem pre_nd {l : List (Nat × Nat)} (nd : l.Nodup) {i : Nat} (hi : i < l.length) : l[i] ∉ l.take i := fun z => by
  have nd := nd.sublist (List.take_sublist (i + 1) l)
  rw [List.take_succ_eq_append_getElem hi, List.nodup_append] at nd
  exact nd.2.2 _ z _ (List.mem_singleton.mpr rfl) rfl
theorem init_ok (T : FF tab) (po : os.Perm (List.range m)) (hm : m ≤ 60) (D : Dw m ds) (hs : h0 s = none)
    (q : ∀ d rs cs g', FA m s d rs cs h0 → Fil os m s d rs cs h0 ds g' → Q .non g') : callW tab (k + 2) "Filling.__init__" [.loc s, patV m ds, .tup (nats os)] (h0.put s (.ins "Filling" [])) Q E := by
  have lo : os.length = m := by rw [po.length_eq, List.length_range]
  have mm : m * m ≤ 60 * 60 := Nat.mul_le_mul hm hm
  have ld := D.len
  refine call_body T.ini rfl ?_
  rw [d_Filling___init__, w_setaW]
  simp only [startE]
  simp
  refine struck_at_ok (k := k) T.sta po (by omega) ?_
  refine seta_p put_at mf_at (by simp) ?_
  rw [put_put]
  have le1 : HLe h0 (h0.put s (.ins "Filling" (putFP "at" (.lst (nats (posL os m))) []))) := hle_put hs hle_refl
  rw [w_setaW]
  simp
  intro d hd
  have nsd : s ≠ d := fun z => by rw [z, put_at] at hd; cases hd
  have hd0 : h0 d = none := by rwa [put_off (Ne.symm nsd)] at hd
  refine seta_p ((put_off nsd).trans put_at) mf_cells (by simp [putFP]) ?_
  generalize hg2 : (((h0.put s (.ins "Filling" (putFP "at" (.lst (nats (posL os m))) []))).put d (.dct [])).put s (.ins "Filling" (putFP "cells" (.loc d) (putFP "at" (.lst (nats (posL os m))) [])))) = g2
  have e2s : g2 s = some (.ins "Filling" (putFP "cells" (.loc d) (putFP "at" (.lst (nats (posL os m))) []))) := by rw [← hg2, put_at]
  have e2d : g2 d = some (.dct []) := by rw [← hg2, put_off (Ne.symm nsd), put_at]
  have le2 : HLe h0 g2 := by rw [← hg2]; exact hle_put hs (hle_put hd0 le1)
  have e2o : ∀ a, a ≠ s → a ≠ d → g2 a = h0 a := fun a x y => by rw [← hg2, put_off x, put_off y, put_off x]
  rw [w_setaW]
  refine mk_lists (os := os) (m := m) rfl lo (by omega) fun rs g3 lr nr hr le3 => ?_
  have s3 : g3 s = some (.ins "Filling" (putFP "cells" (.loc d) (putFP "at" (.lst (nats (posL os m))) []))) := le3 _ _ e2s
  simp only [wE_var]
  refine ⟨_, rfl, seta_p s3 mf_rows (show 2 < 1000 by decide) ?_⟩
  generalize hg4 : g3.put s (.ins "Filling" (putFP "rows_with" (.lst (rs.map PV.loc)) (putFP "cells" (.loc d) (putFP "at" (.lst (nats (posL os m))) [])))) = g4
  have sr : s ∉ rs := fun z => by have := (hr s z).1; rw [e2s] at this; cases this
  have dr : d ∉ rs := fun z => by have := (hr d z).1; rw [e2d] at this; cases this
  have e4s : g4 s = some (.ins "Filling" (putFP "rows_with" (.lst (rs.map PV.loc)) (putFP "cells" (.loc d) (putFP "at" (.lst (nats (posL os m))) [])))) := by rw [← hg4, put_at]
  have e4d : g4 d = some (.dct []) := by rw [← hg4, put_off (Ne.symm nsd)]; exact le3 _ _ e2d
  have e4r : ∀ a ∈ rs, g4 a = some (.lst []) := fun a ha => by
    rw [← hg4, put_off (fun z => sr (by rw [← z]; exact ha))]
    exact (hr a ha).2
  have le4 : HLe h0 g4 := by rw [← hg4]; exact hle_put hs (hle_trans le2 le3)
  rw [w_setaW]
  refine mk_lists (os := os) (m := m) rfl lo (by omega) fun cs g5 lc nc hc le5 => ?_
  have s5 : g5 s = _ := le5 _ _ e4s
  simp only [wE_var]
  refine ⟨_, rfl, seta_p s5 mf_cols (show 3 < 1000 by decide) ?_⟩
  generalize hg6 : g5.put s (.ins "Filling" (putFP "columns_with" (.lst (cs.map PV.loc)) (putFP "rows_with" (.lst (rs.map PV.loc)) (putFP "cells" (.loc d) (putFP "at" (.lst (nats (posL os m))) []))))) = g6
  have ef : putFP "columns_with" (.lst (cs.map PV.loc)) (putFP "rows_with" (.lst (rs.map PV.loc)) (putFP "cells" (.loc d) (putFP "at" (.lst (nats (posL os m))) []))) = flds os m d rs cs := rfl
  have sc : s ∉ cs := fun z => by have := (hc s z).1; rw [e4s] at this; cases this
  have dc : d ∉ cs := fun z => by have := (hc d z).1; rw [e4d] at this; cases this
  have rc : ∀ a ∈ rs, a ∉ cs := fun a ha z => by have := (hc a z).1; rw [e4r a ha] at this; cases this
  have none0 : ∀ a g', HLe h0 g' → g' a = none → h0 a = none := fun a g' le e => by
    cases z : h0 a with
    | none => rfl
    | some c => have := le a c z; rw [e] at this; cases this
  have A : FA m s d rs cs h0 := ⟨lr, lc, nr, nc, nsd, sr, sc, dr, dc, rc, hs, hd0, fun a ha => none0 a g2 le2 (hr a ha).1, fun a ha => none0 a g4 le4 (hc a ha).1⟩
  have F : Fil os m s d rs cs h0 [] g6 := by
    refine ⟨by rw [← hg6, put_at, ef], .inr ⟨?_, rfl⟩, fun j a ea => ?_, fun j a ea => ?_, ?_⟩
    · rw [← hg6, put_off (Ne.symm nsd)]
      exact le5 _ _ e4d
    · have ma := List.mem_of_getElem? ea
      rw [← hg6, put_off (fun z => sr (by rw [← z]; exact ma))]
      exact le5 _ _ (e4r a ma)
    · have ma := List.mem_of_getElem? ea
      rw [← hg6, put_off (fun z => sc (by rw [← z]; exact ma))]
      exact (hc a ma).2
    · rw [← hg6]
      exact hle_put hs (hle_trans le4 le5)
  rw [w_for]
  simp [patV]
  intro _
  refine for_all (fun i e g' => ∃ w4 w5, e = [some (.loc s), some (patV m ds), some (.tup (nats os)), none, w4, w5] ∧ Fil os m s d rs cs h0 (ds.take i) g')
    ⟨_, _, rfl, by simpa using F⟩ (fun _ _ _ _ => by simp) ?_ ?_
  · rintro i x e g' N hx ⟨w4, w5, rfl, F'⟩ hN
    obtain ⟨hi, rfl⟩ := pr_get hx
    have mi := List.getElem_mem hi
    obtain ⟨l1, l2, l3⟩ := D.lt _ mi
    simp [prV]
    rw [w_ex]
    simp [-wE_fld, -List.lookup_eq_none_iff]
    refine ⟨⟨_, F'.ob, rfl⟩, ?_⟩
    refine put_in_ok (k := k) T A F' l1 l2 (pre_nd D.nd hi) (by rw [List.length_take]; omega) fun g2 F2 => ?_
    simp only [w_nil]
    refine hN _ _ ⟨_, _, rfl, ?_⟩
    rw [List.take_succ_eq_append_getElem hi]
    exact F2
  · rintro e g' ⟨w4, w5, rfl, F'⟩
    have F2 : Fil os m s d rs cs h0 ds g' := by
      have F'' : Fil os m s d rs cs h0 (ds.take (ds.map prV).length) g' := F'
      rw [List.length_map, List.take_length] at F''
      exact F''
    simp only [w_nil]
    exact ret_same (q d rs cs g' A F2)
def stT (os : List Nat) (cs : List (Nat × Nat)) : Nat → List (Nat × Nat)
  | 0 => cs
  | n + 1 => stT os cs n ++ slP os (stT os cs n) (os.getD n 0)
def flT (os : List Nat) (cs : List (Nat × Nat)) : Nat → List (Nat × Nat × Nat)
  | 0 => []
  | n + 1 => flT os cs n ++ (slP os (stT os cs n) (os.getD n 0)).map (trP (os.getD n 0))
theorem stT_dw {cs : List (Nat × Nat)} (D : Dw m cs) : ∀ n, Dw m (stT os cs n)
  | 0 => D
  | n + 1 => app_dw (stT_dw D n)
theorem fl_len {cs : List (Nat × Nat)} : ∀ n, (flT os cs n).length + cs.length = (stT os cs n).length
  | 0 => by simp [flT, stT]
  | n + 1 => by
    have := fl_len (cs := cs) n
    simp only [flT, stT, List.length_append, List.length_map]
    omega
theorem FA.bump {n : Addr} {X : Cell} (A : FA m s d rs cs h0) (F : Fil os m s d rs cs h0 ds g) (hn : g n = none) : FA m s d rs cs (h0.put n X) ∧ Fil os m s d rs cs (h0.put n X) ds (g.put n X) := by
  have off : ∀ a, g a ≠ none → a ≠ n := fun a e z => e (by rw [z]; exact hn)
  have os_ : s ≠ n := off s (by rw [F.ob]; exact fun z => nomatch z)
  have od : d ≠ n := off d (by rcases F.ce with z | ⟨z, _⟩ <;> rw [z] <;> exact fun z => nomatch z)
  have or_ : ∀ a ∈ rs, a ≠ n := fun a ha => by
    obtain ⟨j, hj⟩ := List.getElem?_of_mem ha
    exact off a (by rw [F.rw_ j a hj]; exact fun z => nomatch z)
  have oc : ∀ a ∈ cs, a ≠ n := fun a ha => by
    obtain ⟨j, hj⟩ := List.getElem?_of_mem ha
    exact off a (by rw [F.cl j a hj]; exact fun z => nomatch z)
  refine ⟨⟨A.lr, A.lc, A.nr, A.nc, A.sd, A.sr, A.sc, A.dr, A.dc, A.rc, (put_off os_).trans A.fs, (put_off od).trans A.fd, fun a ha => (put_off (or_ a ha)).trans (A.fr a ha), fun a ha => (put_off (oc a ha)).trans (A.fc a ha)⟩,
    ⟨(put_off os_).trans F.ob, ?_, fun j a ea => (put_off (or_ a (List.mem_of_getElem? ea))).trans (F.rw_ j a ea), fun j a ea => (put_off (oc a (List.mem_of_getElem? ea))).trans (F.cl j a ea), hle_mono F.le⟩⟩
  rcases F.ce with z | ⟨z, e⟩
  · exact .inl ((put_off od).trans z)
  · exact .inr ⟨(put_off od).trans z, e⟩
theorem bump2 {n : Addr} {X Y : Cell} {ds2 : List (Nat × Nat)} {h0 g2 : MH} (A : FA m s d rs cs (h0.put n X)) (F : Fil os m s d rs cs (h0.put n X) ds2 g2) : FA m s d rs cs (h0.put n Y) ∧ Fil os m s d rs cs (h0.put n Y) ds2 (g2.put n Y) := by
  have off : ∀ a, (h0.put n X) a = none → a ≠ n := fun a e z => by rw [z, put_at] at e; cases e
  have tr : ∀ a, (h0.put n X) a = none → (h0.put n Y) a = none := fun a e => by
    have ne := off a e
    rw [put_off ne] at e ⊢
    exact e
  have os_ := off s A.fs
  have od := off d A.fd
  refine ⟨⟨A.lr, A.lc, A.nr, A.nc, A.sd, A.sr, A.sc, A.dr, A.dc, A.rc, tr s A.fs, tr d A.fd, fun a ha => tr a (A.fr a ha), fun a ha => tr a (A.fc a ha)⟩,
    ⟨(put_off os_).trans F.ob, ?_, fun j a ea => (put_off (off a (A.fr a (List.mem_of_getElem? ea)))).trans (F.rw_ j a ea), fun j a ea => (put_off (off a (A.fc a (List.mem_of_getElem? ea)))).trans (F.cl j a ea), fun a c e => ?_⟩⟩
  · rcases F.ce with z | ⟨z, e⟩
    · exact .inl ((put_off od).trans z)
    · exact .inr ⟨(put_off od).trans z, e⟩
  · by_cases z : a = n
    · subst z
      rw [put_at] at e ⊢
      exact e
    · rw [put_off z] at e ⊢
      exact F.le a c ((put_off z).trans e)
theorem fills_ok (T : FF tab) (po : os.Perm (List.range m)) (hm : m ≤ 60) (D : Dw m ds) (q : Q (.tup ((flT os ds m).map trV)) h) : callW tab (k + 4) "fills" [patV m ds, .tup (nats os)] h Q E := by
  have lo : os.length = m := by rw [po.length_eq, List.length_range]
  have mm : m * m ≤ 60 * 60 := Nat.mul_le_mul hm hm
  refine call_body T.fil rfl ?_
  rw [d_fills, w_asg]
  simp only [startE]
  simp
  intro s hs
  refine init_ok (k := k + 1) T po hm D hs fun d rs cs g A F => ?_
  refine ⟨rfl, ?_⟩
  rw [w_asg]
  simp
  intro n hn
  have hn0 : h n = none := by
    cases z : h n with
    | none => rfl
    | some c => have := F.le n c z; rw [hn] at this; cases this
  have A0 : FA m s d rs cs (h.put n (.lst ((flT os ds 0).map trV))) ∧ Fil os m s d rs cs (h.put n (.lst ((flT os ds 0).map trV))) (stT os ds 0) (g.put n (.lst ((flT os ds 0).map trV))) := A.bump F hn
  rw [w_for]
  simp
  intro _
  refine for_all (fun i e g' => ∃ w4, e = [some (patV m ds), some (.tup (nats os)), some (.loc s), some (.loc n), w4] ∧ FA m s d rs cs (h.put n (.lst ((flT os ds i).map trV))) ∧ Fil os m s d rs cs (h.put n (.lst ((flT os ds i).map trV))) (stT os ds i) g')
    ⟨_, rfl, A0⟩ (fun _ _ _ _ => by simp) ?_ ?_
  · rintro i x e g' N hx ⟨w4, rfl, A1, F1⟩ hN
    obtain ⟨hi, rfl⟩ := nats_get hx
    have hp : os[i] < m := by simpa using po.mem_iff.mp (List.getElem_mem hi)
    have D1 := stT_dw (os := os) D i
    have hgn := F1.le n _ put_at
    have eg : os.getD i 0 = os[i] := by simp [List.getD, hi]
    simp
    rw [w_ex]
    simp [-wE_fld, -List.lookup_eq_none_iff]
    refine ⟨⟨_, hgn⟩, ⟨_, F1.ob, rfl⟩, ?_⟩
    refine strike_ok (k := k) T A1 F1 D1 hp hm fun g2 F2 => ?_
    have hgn2 := F2.le n _ put_at
    have D2 := stT_dw (os := os) D (i + 1)
    have l2 := D2.len
    have lf := fl_len (os := os) (cs := ds) (i + 1)
    simp only [flT, stT, List.length_append, List.length_map, eg] at lf l2
    refine ⟨_, _, hgn2, rfl, szl (by simp only [List.length_map]; omega), ?_⟩
    simp only [w_nil]
    have ef : (flT os ds i).map trV ++ ((slP os (stT os ds i) os[i]).map (trP os[i])).map trV = (flT os ds (i + 1)).map trV := by
      simp only [flT, eg, List.map_append]
    rw [ef]
    have es : stT os ds i ++ slP os (stT os ds i) os[i] = stT os ds (i + 1) := by simp only [stT, eg]
    rw [es] at F2
    exact hN _ _ ⟨_, rfl, bump2 A1 F2⟩
  · rintro e g' ⟨w4, rfl, A1, F1⟩
    have el : (nats os).length = m := by rw [nats_len, lo]
    have F1' : Fil os m s d rs cs (h.put n (.lst ((flT os ds (nats os).length).map trV))) (stT os ds (nats os).length) g' := F1
    rw [el] at F1'
    have hgn := F1'.le n _ put_at
    simp
    rw [w_ret]
    simp [srcV_loc hgn]
    intro _
    refine ret_drop (h2 := h) (fun a c e => ?_) q
    have ne : a ≠ n := fun z => by rw [z, hn0] at e; cases e
    exact F1'.le a c ((put_off ne).trans e)
end
end MP
set_option Elab.async false
set_option linter.all false
set_option maxRecDepth 100000
set_option maxHeartbeats 2000000
namespace MP
open PySem L2
section
variable {os : List Nat} {m : Nat} {ds : List (Nat × Nat)}
theorem run_app : ∀ (xs ys : List PV) (cs ds : List (Nat × Nat)), run os m xs cs = some ds → run os m (xs ++ ys) cs = run os m ys ds
  | [], ys, cs, ds, h => by
    simp only [run] at h
    cases h
    rfl
  | x :: r, ys, cs, ds, h => by
    simp only [run] at h
    simp only [List.cons_append, run]
    cases e : step os m cs x with
    | none => rw [e] at h; cases h
    | some b =>
      rw [e] at h
      exact run_app r ys _ ds h
theorem step_tr {i j p : Nat} {cur : List (Nat × Nat)} (hi : i < m) (hj : j < m) (hp : p < m) (ne : i ≠ j) (d : dueB os cur (i, j, p) = true) : step os m cur (trV (i, j, p)) = some (i, j) := by
  have et : tri m (trV (i, j, p)) = some (i, j, p) := by
    simp only [trV, tri]
    rw [if_pos ⟨by omega, by omega, by omega, by omega, by omega, by omega, by omega⟩]
    simp
  simp [step, et, d]
theorem run_sl {p : Nat} (hp : p < m) : ∀ (L cur : List (Nat × Nat)), (∀ c ∈ L, (c.1, p) ∈ cur ∧ (p, c.2) ∈ cur ∧ os.idxOf p < os.idxOf c.1 ∧ os.idxOf p < os.idxOf c.2 ∧ c.1 ≠ c.2 ∧ c.1 < m ∧ c.2 < m) → L.Nodup → (∀ c ∈ L, c ∉ cur) →
    run os m ((L.map (trP p)).map trV) cur = some (cur ++ L)
  | [], cur, _, _, _ => by simp [run]
  | c :: r, cur, h, nd, ni => by
    obtain ⟨h1, h2, h3, h4, h5, h6, h7⟩ := h c (List.mem_cons_self ..)
    rw [List.nodup_cons] at nd
    have hn := ni c (List.mem_cons_self ..)
    have d : dueB os cur (c.1, c.2, p) = true := by
      simp only [dueB, Bool.and_eq_true, decide_eq_true_eq]
      exact ⟨hn, h3, h4, h1, h2⟩
    have es := step_tr h6 h7 hp h5 d
    have e1 : ((c :: r).map (trP p)).map trV = trV (c.1, c.2, p) :: (r.map (trP p)).map trV := rfl
    rw [e1]
    simp only [run, es]
    have ih := run_sl hp r (cur ++ [c]) (fun x hx => by
      obtain ⟨a, b, q⟩ := h x (List.mem_cons_of_mem _ hx)
      exact ⟨List.mem_append_left _ a, List.mem_append_left _ b, q⟩) nd.2 (fun x hx z => by
      rcases List.mem_append.mp z with z | z
      · exact ni x (List.mem_cons_of_mem _ hx) z
      · rw [List.mem_singleton] at z
        subst z
        exact nd.1 hx)
    have e2 : (cur ++ [(c.1, c.2)]) = cur ++ [c] := rfl
    rw [e2, ih]
    simp
theorem at_os (po : os.Perm (List.range m)) {n : Nat} (hn : n < m) : ∃ p, os.getD n 0 = p ∧ p < m ∧ os.idxOf p = n := by
  have lo : os.length = m := by rw [po.length_eq, List.length_range]
  have nd : os.Nodup := po.nodup_iff.mpr List.nodup_range
  have hn' : n < os.length := by omega
  refine ⟨os[n], by simp [List.getD, hn'], by simpa using po.mem_iff.mp (List.getElem_mem hn'), List.Nodup.idxOf_getElem nd n hn'⟩
theorem run_fl (po : os.Perm (List.range m)) (D : Dw m ds) : ∀ n, n ≤ m → run os m ((flT os ds n).map trV) ds = some (stT os ds n)
  | 0, _ => by simp [flT, stT, run]
  | n + 1, hn => by
    have ih := run_fl po D n (by omega)
    obtain ⟨p, ep, hp, _⟩ := at_os po (show n < m by omega)
    have D1 := stT_dw (os := os) D n
    simp only [flT, stT, ep, List.map_append]
    rw [run_app _ _ _ _ ih]
    refine run_sl hp _ _ (fun c hc => ?_) (sl_dw D1).nd (fun c hc => (newP_mem.mp (sl_mem.mp hc)).2.2.2.2.2)
    obtain ⟨h1, h2, h3, h4, h5, _⟩ := newP_mem.mp (sl_mem.mp hc)
    obtain ⟨l1, l2, _⟩ := (sl_dw D1).lt c hc
    exact ⟨h1, h2, h3, h4, h5, l1, l2⟩
theorem shut_fl (po : os.Perm (List.range m)) (D : Dw m ds) : ∀ n, n ≤ m → ∀ i j p, os.idxOf p < n → dueB os (stT os ds n) (i, j, p) = true → i = j
  | 0, _, _, _, _, h, _ => by omega
  | n + 1, hn, i, j, p, hp, d => by
    have ih := shut_fl po D n (by omega)
    obtain ⟨p0, ep, hp0, ei⟩ := at_os po (show n < m by omega)
    simp only [stT, ep] at d
    simp only [dueB, Bool.and_eq_true, decide_eq_true_eq] at d
    obtain ⟨h1, h2, h3, h4, h5⟩ := d
    have old1 : (i, p) ∈ stT os ds n := by
      rcases List.mem_append.mp h4 with z | z
      · exact z
      · have := (newP_mem.mp (sl_mem.mp z)).2.2.2.1
        simp only at this
        omega
    have old2 : (p, j) ∈ stT os ds n := by
      rcases List.mem_append.mp h5 with z | z
      · exact z
      · have := (newP_mem.mp (sl_mem.mp z)).2.2.1
        simp only at this
        omega
    have nin : (i, j) ∉ stT os ds n := fun z => h1 (List.mem_append_left _ z)
    by_cases e : os.idxOf p < n
    · exact ih i j p e (by simp only [dueB, Bool.and_eq_true, decide_eq_true_eq]; exact ⟨nin, h2, h3, old1, old2⟩)
    · apply Classical.byContradiction
      intro ne
      have pm : p < m := ((stT_dw (os := os) D n).lt _ old1).2.1
      have pp : p = p0 := Classical.byContradiction fun z => idx_ne po pm hp0 z (by omega)
      subst pp
      exact h1 (List.mem_append_right _ (sl_mem.mpr (newP_mem.mpr ⟨old1, old2, h2, h3, ne, nin⟩)))
theorem flT_lt (po : os.Perm (List.range m)) (D : Dw m ds) : ∀ n, n ≤ m → ∀ t ∈ flT os ds n, t.1 < m ∧ t.2.1 < m ∧ t.2.2 < m
  | 0, _, t, h => by cases h
  | n + 1, hn, t, h => by
    simp only [flT] at h
    rcases List.mem_append.mp h with z | z
    · exact flT_lt po D n (by omega) t z
    · obtain ⟨c, hc, rfl⟩ := List.mem_map.mp z
      obtain ⟨p, ep, hp, _⟩ := at_os po (show n < m by omega)
      obtain ⟨l1, l2, _⟩ := (sl_dw (os := os) (p := os.getD n 0) (stT_dw (os := os) D n)).lt c hc
      exact ⟨l1, l2, by simp only [trP, ep]; exact hp⟩
theorem fills_paper (po : os.Perm (List.range m)) (D : Dw m ds) : Paper os m ds (flT os ds m) := by
  have D1 := stT_dw (os := os) D m
  refine ⟨?_, flT_lt po D m (Nat.le_refl _), ?_⟩
  · simp only [holds, run_fl po D m (Nat.le_refl _), shut_due po D1, List.isEmpty_iff]
    rw [List.eq_nil_iff_forall_not_mem]
    intro t ht
    obtain ⟨i, j, p⟩ := t
    rw [mem_dueL po D1] at ht
    have d := ht.1
    simp only [dueB, Bool.and_eq_true, decide_eq_true_eq] at d
    have pm : p < m := (D1.lt _ d.2.2.2.1).2.1
    have hl := List.idxOf_lt_length_of_mem (po.mem_iff.mpr (by simpa using pm : p ∈ List.range m))
    rw [po.length_eq, List.length_range] at hl
    exact ht.2 (shut_fl po D m (Nat.le_refl _) i j p hl ht.1)
  · have := fl_len (os := os) (cs := ds) m
    have := D1.len
    omega
end
end MP
set_option Elab.async false
set_option linter.all false
set_option maxRecDepth 100000
set_option maxHeartbeats 2000000
namespace MP
open PySem L2
inductive Fd (os : List Nat) (cs : List (Nat × Nat)) : Nat → Nat → Prop
  | base {i k : Nat} : (i, k) ∈ cs → Fd os cs i k
  | fill {i p k : Nat} : Fd os cs i p → Fd os cs p k → os.idxOf p < os.idxOf i → os.idxOf p < os.idxOf k → i ≠ k → Fd os cs i k
section
variable {os : List Nat} {m : Nat} {ds cs : List (Nat × Nat)}
theorem stT_to {i k : Nat} : ∀ n, (i, k) ∈ stT os ds n → Fd os ds i k
  | 0, h => .base h
  | n + 1, h => by
    simp only [stT] at h
    rcases List.mem_append.mp h with z | z
    · exact stT_to n z
    · obtain ⟨h1, h2, h3, h4, h5, _⟩ := newP_mem.mp (sl_mem.mp z)
      exact .fill (stT_to n h1) (stT_to n h2) h3 h4 h5
theorem stT_base {c : Nat × Nat} : ∀ n, c ∈ ds → c ∈ stT os ds n
  | 0, h => h
  | n + 1, h => List.mem_append_left _ (stT_base n h)
theorem stT_of (po : os.Perm (List.range m)) (D : Dw m ds) {i k : Nat} (f : Fd os ds i k) : (i, k) ∈ stT os ds m := by
  induction f with
  | base h => exact stT_base m h
  | @fill i p k f1 f2 h1 h2 ne i1 i2 =>
    apply Classical.byContradiction
    intro nin
    have pm : p < m := ((stT_dw (os := os) D m).lt _ i1).2.1
    have hl := List.idxOf_lt_length_of_mem (po.mem_iff.mpr (by simpa using pm : p ∈ List.range m))
    rw [po.length_eq, List.length_range] at hl
    exact ne (shut_fl po D m (Nat.le_refl _) i k p hl (by simp only [dueB, Bool.and_eq_true, decide_eq_true_eq]; exact ⟨nin, h1, h2, i1, i2⟩))
theorem mem_stT (po : os.Perm (List.range m)) (D : Dw m ds) {i k : Nat} : (i, k) ∈ stT os ds m ↔ Fd os ds i k := ⟨stT_to m, stT_of po D⟩
def fpL (os : List Nat) (cs : List (Nat × Nat)) (m : Nat) : List (Nat × Nat) := (stT os cs m).mergeSort le2
theorem mem_fpL (po : os.Perm (List.range m)) (D : Dw m ds) {c : Nat × Nat} : c ∈ fpL os ds m ↔ Fd os ds c.1 c.2 := by
  unfold fpL
  rw [(List.mergeSort_perm _ _).mem_iff]
  exact mem_stT po D
theorem fpL_dw (D : Dw m ds) : Dw m (fpL os ds m) := sort_dw (stT_dw D m)
theorem fpL_up (D : Dw m ds) : (fpL os ds m).Pairwise lt2 := sort2_lt (stT_dw D m).nd
theorem up_eq {as bs : List (Nat × Nat)} (ha : as.Pairwise lt2) (hb : bs.Pairwise lt2) (h : ∀ x, x ∈ as ↔ x ∈ bs) : as = bs := rising_eq lt2_irr lt2_tr ha hb h
theorem fpL_len (D : Dw m ds) : (fpL os ds m).length = (flT os ds m).length + ds.length := by
  unfold fpL
  rw [(List.mergeSort_perm _ _).length_eq, fl_len]
theorem Fd.mono (s : ∀ c ∈ cs, c ∈ ds) {i k : Nat} (f : Fd os cs i k) : Fd os ds i k := by
  induction f with
  | base h => exact .base (s _ h)
  | fill _ _ h1 h2 ne i1 i2 => exact .fill i1 i2 h1 h2 ne
theorem Fd.idem (s : ∀ c ∈ cs, Fd os ds c.1 c.2) {i k : Nat} (f : Fd os cs i k) : Fd os ds i k := by
  induction f with
  | base h => exact s _ h
  | fill _ _ h1 h2 ne i1 i2 => exact .fill i1 i2 h1 h2 ne
theorem Fd.swap (s : ∀ c ∈ cs, (c.2, c.1) ∈ ds) {i k : Nat} (f : Fd os cs i k) : Fd os ds k i := by
  induction f with
  | base h => exact .base (s _ h)
  | fill _ _ h1 h2 ne i1 i2 => exact .fill i2 i1 h2 h1 (Ne.symm ne)
theorem no_new (po : os.Perm (List.range m)) (D : Dw m ds) (cl : ∀ i k, Fd os ds i k → (i, k) ∈ ds) : flT os ds m = [] := by
  have sub : ∀ c ∈ stT os ds m, c ∈ ds := fun c hc => cl _ _ (stT_to m hc)
  have e := List.Nodup.length_le_of_subset (stT_dw (os := os) D m).nd sub
  have l := fl_len (os := os) (cs := ds) m
  exact List.eq_nil_of_length_eq_zero (by omega)
theorem fpL_no_new (po : os.Perm (List.range m)) (D : Dw m ds) : flT os (fpL os ds m) m = [] :=
  no_new po (fpL_dw D) fun i k f => by
    rw [mem_fpL po D]
    exact f.idem fun c hc => (mem_fpL po D).mp hc
theorem Fd.order {ot : List Nat} (h : ∀ i p, Fd os ds i p → Fd os ds p i ∨ True → os.idxOf i ≠ os.idxOf p → ot.idxOf p < ot.idxOf i → os.idxOf p < os.idxOf i) : True := trivial
theorem Fd.conv {ot : List Nat} (h : ∀ i p, (Fd os ds i p ∨ Fd os ds p i) → ot.idxOf p < ot.idxOf i → os.idxOf p < os.idxOf i) {i k : Nat} (f : Fd ot ds i k) : Fd os ds i k := by
  induction f with
  | base h => exact .base h
  | fill _ _ h1 h2 ne i1 i2 => exact .fill i1 i2 (h _ _ (.inl i1) h1) (h _ _ (.inr i2) h2) ne
theorem idx_map {σ : Nat → Nat} : ∀ {os : List Nat} {x : Nat}, (∀ a ∈ os, σ a = σ x → a = x) → (os.map σ).idxOf (σ x) = os.idxOf x
  | [], _, _ => rfl
  | a :: r, x, h => by
    rw [List.map_cons, List.idxOf_cons, List.idxOf_cons]
    by_cases e : a = x
    · subst e; simp
    · have ne : σ a ≠ σ x := fun z => e (h a (List.mem_cons_self ..) z)
      rw [beq_eq_false_iff_ne.mpr e, beq_eq_false_iff_ne.mpr ne]
      simp only [Bool.cond_false]
      rw [idx_map fun b hb => h b (List.mem_cons_of_mem _ hb)]
theorem Fd.called {σ : Nat → Nat} (D : Dw m ds) (lt : ∀ a ∈ os, a < m) (inj : ∀ a b, a < m → b < m → σ a = σ b → a = b) {i k : Nat} (f : Fd os ds i k) : (i < m ∧ k < m) ∧ Fd (os.map σ) (ds.map fun c => (σ c.1, σ c.2)) (σ i) (σ k) := by
  induction f with
  | base h => exact ⟨⟨(D.lt _ h).1, (D.lt _ h).2.1⟩, .base (List.mem_map.mpr ⟨_, h, rfl⟩)⟩
  | fill _ _ h1 h2 ne i1 i2 =>
    obtain ⟨⟨a1, a2⟩, f1⟩ := i1
    obtain ⟨⟨b1, b2⟩, f2⟩ := i2
    have ix : ∀ x, x < m → (os.map σ).idxOf (σ x) = os.idxOf x := fun x hx => idx_map fun a ha e => inj a x (lt a ha) hx e
    refine ⟨⟨a1, b2⟩, .fill f1 f2 (by rw [ix _ a2, ix _ a1]; exact h1) (by rw [ix _ a2, ix _ b2]; exact h2) fun e => ne (inj _ _ a1 b2 e)⟩
theorem Fd.uncalled {σ : Nat → Nat} (D : Dw m ds) (lt : ∀ a ∈ os, a < m) (inj : ∀ a b, a < m → b < m → σ a = σ b → a = b) {x y : Nat} (f : Fd (os.map σ) (ds.map fun c => (σ c.1, σ c.2)) x y) :
    ∃ i k, i < m ∧ k < m ∧ x = σ i ∧ y = σ k ∧ Fd os ds i k := by
  induction f with
  | base h =>
    obtain ⟨c, hc, e⟩ := List.mem_map.mp h
    injection e with e1 e2
    exact ⟨c.1, c.2, (D.lt _ hc).1, (D.lt _ hc).2.1, e1.symm, e2.symm, .base hc⟩
  | fill _ _ h1 h2 ne i1 i2 =>
    obtain ⟨i, p, li, lp, rfl, rfl, f1⟩ := i1
    obtain ⟨p', k, lp', lk, e, rfl, f2⟩ := i2
    obtain rfl := inj _ _ lp lp' e
    have ix : ∀ x, x < m → (os.map σ).idxOf (σ x) = os.idxOf x := fun x hx => idx_map fun a ha e => inj a x (lt a ha) hx e
    rw [ix _ lp, ix _ li] at h1
    rw [ix _ lp, ix _ lk] at h2
    exact ⟨i, k, li, lk, rfl, rfl, .fill f1 f2 h1 h2 fun e => ne (by rw [e])⟩
end
end MP
set_option Elab.async false
set_option linter.all false
set_option maxRecDepth 100000
set_option maxHeartbeats 2000000
namespace MP
open PySem L2
mutual
def nice : PV → Nat → Bool
  | .non, _ => true
  | .int _, _ => true
  | .str x, _ => PyData.canLay0 (.str x)
  | .tup xs, d + 1 => nices xs d
  | .lst xs, d + 1 => nices xs d
  | _, _ => false
def nices : List PV → Nat → Bool
  | [], _ => true
  | x :: r, d => nice x d && nices r d
end
theorem nices_all : ∀ {xs : List PV} {d : Nat}, nices xs d = true ↔ ∀ x ∈ xs, nice x d = true
  | [], d => by simp [nices]
  | x :: r, d => by simp [nices, nices_all (xs := r)]
mutual
theorem nice_ok : ∀ (v : PV) (d : Nat), nice v d = true → pur v = true ∧ (toD v).canLay0 = true ∧ (toD v).depth ≤ d
  | .non, d, _ => ⟨rfl, rfl, Nat.zero_le _⟩
  | .int _, d, _ => ⟨rfl, rfl, Nat.zero_le _⟩
  | .str _, d, h => ⟨rfl, h, Nat.zero_le _⟩
  | .tup xs, d + 1, h => by
    obtain ⟨a, b, c⟩ := nices_ok xs d h
    exact ⟨a, b, Nat.succ_le_succ c⟩
  | .lst xs, d + 1, h => by
    obtain ⟨a, b, c⟩ := nices_ok xs d h
    exact ⟨a, b, Nat.succ_le_succ c⟩
  | .tup _, 0, h => nomatch h
  | .lst _, 0, h => nomatch h
  | .bl _, _, h => nomatch h
  | .dct _ _, _, h => nomatch h
  | .loc _, _, h => nomatch h
  | .fn _, _, h => nomatch h
  | .cst _, _, h => nomatch h
  | .dtt _ _, _, h => nomatch h
theorem nices_ok : ∀ (xs : List PV) (d : Nat), nices xs d = true → purs xs = true ∧ PyData.canLayAll0 (toDs xs) = true ∧ PyData.depthAll (toDs xs) ≤ d
  | [], d, _ => ⟨rfl, rfl, Nat.zero_le _⟩
  | x :: r, d, h => by
    simp only [nices, Bool.and_eq_true] at h
    obtain ⟨a, b, c⟩ := nice_ok x d h.1
    obtain ⟨a2, b2, c2⟩ := nices_ok r d h.2
    simp only [purs, toDs, PyData.canLayAll0, PyData.depthAll, a, a2, b, b2, Bool.and_self, true_and]
    exact Nat.max_le.mpr ⟨c, c2⟩
end
theorem nice_eqOk {v : PV} {d : Nat} (h : nice v d = true) (hd : d ≤ 64) : eqOk v := by
  obtain ⟨a, b, c⟩ := nice_ok v d h
  refine ⟨a, ?_⟩
  unfold SeqAt.shaped
  rw [b, decide_eq_true (Nat.le_trans c hd)]; rfl
theorem nices_shaped {xs : List PV} {d : Nat} (h : nices xs d = true) (hd : d ≤ 63) : purs xs = true ∧ SeqAt.shaped (.list (toDs xs)) = true := by
  obtain ⟨a, b, c⟩ := nices_ok xs d h
  refine ⟨a, ?_⟩
  have z : (PyData.list (toDs xs)).depth ≤ 64 := Nat.le_trans (Nat.succ_le_succ c) (by omega)
  have z2 : (PyData.list (toDs xs)).canLay0 = true := b
  unfold SeqAt.shaped
  rw [z2, decide_eq_true z]; rfl
mutual
theorem nice_eq : ∀ (v w : PV) (d e : Nat), nice v d = true → nice w e = true → (PyData.eqv (toD v) (toD w) = true ↔ v = w)
  | .non, w, d, e, _, h => by cases w <;> first | (cases h; done) | simp [toD, PyData.eqv]
  | .int _, w, d, e, _, h => by cases w <;> first | (cases h; done) | simp [toD, PyData.eqv]
  | .str _, w, d, e, _, h => by cases w <;> first | (cases h; done) | simp [toD, PyData.eqv]
  | .tup xs, w, 0, e, h0, _ => nomatch h0
  | .lst xs, w, 0, e, h0, _ => nomatch h0
  | .tup xs, .tup ys, d + 1, e, h0, h => by
    cases e with
    | zero => cases h
    | succ e =>
      have ih := nices_eq xs ys d e h0 h
      simp only [toD, PyData.eqv, PV.tup.injEq]
      exact ih
  | .lst xs, .lst ys, d + 1, e, h0, h => by
    cases e with
    | zero => cases h
    | succ e =>
      have ih := nices_eq xs ys d e h0 h
      simp only [toD, PyData.eqv, PV.lst.injEq]
      exact ih
  | .tup xs, .non, d + 1, e, h0, h => by simp [toD, PyData.eqv]
  | .tup xs, .int _, d + 1, e, h0, h => by simp [toD, PyData.eqv]
  | .tup xs, .str _, d + 1, e, h0, h => by simp [toD, PyData.eqv]
  | .tup xs, .lst _, d + 1, e, h0, h => by simp [toD, PyData.eqv]
  | .lst xs, .non, d + 1, e, h0, h => by simp [toD, PyData.eqv]
  | .lst xs, .int _, d + 1, e, h0, h => by simp [toD, PyData.eqv]
  | .lst xs, .str _, d + 1, e, h0, h => by simp [toD, PyData.eqv]
  | .lst xs, .tup _, d + 1, e, h0, h => by simp [toD, PyData.eqv]
  | .bl _, w, _, _, h, _ => nomatch h
  | .dct _ _, w, _, _, h, _ => nomatch h
  | .loc _, w, _, _, h, _ => nomatch h
  | .fn _, w, _, _, h, _ => nomatch h
  | .cst _, w, _, _, h, _ => nomatch h
  | .dtt _ _, w, _, _, h, _ => nomatch h
  | .tup _, .bl _, _, _, _, h => nomatch h
  | .tup _, .dct _ _, _, _, _, h => nomatch h
  | .tup _, .loc _, _, _, _, h => nomatch h
  | .tup _, .fn _, _, _, _, h => nomatch h
  | .tup _, .cst _, _, _, _, h => nomatch h
  | .tup _, .dtt _ _, _, _, _, h => nomatch h
  | .lst _, .bl _, _, _, _, h => nomatch h
  | .lst _, .dct _ _, _, _, _, h => nomatch h
  | .lst _, .loc _, _, _, _, h => nomatch h
  | .lst _, .fn _, _, _, _, h => nomatch h
  | .lst _, .cst _, _, _, _, h => nomatch h
  | .lst _, .dtt _ _, _, _, _, h => nomatch h
theorem nices_eq : ∀ (xs ys : List PV) (d e : Nat), nices xs d = true → nices ys e = true → (PyData.eqvAll (toDs xs) (toDs ys) = true ↔ xs = ys)
  | [], [], _, _, _, _ => by simp [toDs, PyData.eqvAll]
  | [], y :: s, _, _, _, _ => by simp [toDs, PyData.eqvAll]
  | x :: r, [], _, _, _, _ => by simp [toDs, PyData.eqvAll]
  | x :: r, y :: s, d, e, h, h2 => by
    simp only [nices, Bool.and_eq_true] at h h2
    have a := nice_eq x y d e h.1 h2.1
    have b := nices_eq r s d e h.2 h2.2
    simp only [toDs, PyData.eqvAll, Bool.and_eq_true, List.cons.injEq, a, b]
end
theorem eqP_nice {v w : PV} {d e : Nat} (h : nice v d = true) (h2 : nice w e = true) : eqP v w = true ↔ v = w := nice_eq v w d e h h2
theorem rd_nice {h : MH} {v : PV} {d : Nat} (n : nice v d = true) : rd h v = v := by
  cases v <;> first | rfl | cases n
theorem cmp_eq_nice {v w : PV} {d e : Nat} {h : MH} {T : Bool → MH → Prop} (n1 : nice v d = true) (n2 : nice w e = true) (hd : d ≤ 64) (he : e ≤ 64) (q : ∀ b, (b = true ↔ v = w) → T b h) : cmpW .Eq v w h T := by
  show eqW (rd h v) (rd h w) h T
  rw [rd_nice n1, rd_nice n2]
  have gen : (eqOk v ∧ eqOk w) ∧ T (eqP v w) h := ⟨⟨nice_eqOk n1 hd, nice_eqOk n2 he⟩, q _ (eqP_nice n1 n2)⟩
  unfold eqW
  split
  · exact q _ (by simp)
  · exact q _ (by simp)
  · exact q _ (by simp)
  · exact gen
theorem cmp_ne_nice {v w : PV} {d e : Nat} {h : MH} {T : Bool → MH → Prop} (n1 : nice v d = true) (n2 : nice w e = true) (hd : d ≤ 64) (he : e ≤ 64) (q : ∀ b, (b = true ↔ v ≠ w) → T b h) : cmpW .NotEq v w h T := by
  show neW (rd h v) (rd h w) h T
  rw [rd_nice n1, rd_nice n2]
  have gen : (eqOk v ∧ eqOk w) ∧ T (!eqP v w) h := ⟨⟨nice_eqOk n1 hd, nice_eqOk n2 he⟩, q _ (by
    have := eqP_nice n1 n2
    cases z : eqP v w <;> simp [z] at this ⊢ <;> exact this)⟩
  unfold neW
  split
  · exact q _ (by simp)
  · exact q _ (by simp)
  · exact q _ (by simp)
  · exact gen
theorem cmp_ne_same {v w : PV} {d : Nat} {h : MH} {T : Bool → MH → Prop} (n1 : nice v d = true) (hd : d ≤ 64) (e : v = w) (q : T false h) : cmpW .NotEq v w h T := by
  subst e
  refine cmp_ne_nice n1 n1 hd hd fun b hb => ?_
  have : b = false := by cases b <;> simp at hb ⊢
  rw [this]; exact q
theorem cmp_eq_same {v w : PV} {d : Nat} {h : MH} {T : Bool → MH → Prop} (n1 : nice v d = true) (hd : d ≤ 64) (e : v = w) (q : T true h) : cmpW .Eq v w h T := by
  subst e
  refine cmp_eq_nice n1 n1 hd hd fun b hb => ?_
  have : b = true := hb.mpr rfl
  rw [this]; exact q
theorem any_nice {x : PV} {d : Nat} (n : nice x d = true) : ∀ {xs : List PV}, nices xs d = true → ((xs.any fun z => eqP z x) = true ↔ x ∈ xs)
  | [], _ => by simp
  | y :: r, h => by
    simp only [nices, Bool.and_eq_true] at h
    have a := eqP_nice h.1 n
    have b := any_nice n h.2
    simp only [List.any_cons, Bool.or_eq_true, a, b, List.mem_cons]
    constructor
    · rintro (z | z)
      · exact .inl z.symm
      · exact .inr z
    · rintro (z | z)
      · exact .inl z.symm
      · exact .inr z
theorem in_nice_t {x : PV} {d : Nat} {xs : List PV} {h : MH} {T : Bool → MH → Prop} (n : nice x d = true) (ns : nices xs d = true) (hd : d ≤ 63) (q : ∀ b, (b = true ↔ x ∈ xs) → T b h) : inW x (.tup xs) h T := by
  refine ⟨xs, rfl, ?_, ?_⟩
  · rw [rd_nice n]
    exact ⟨nice_eqOk n (by omega), nices_shaped ns hd⟩
  · rw [rd_nice n]
    exact q _ (any_nice n ns)
theorem in_nice_l {x : PV} {d : Nat} {xs : List PV} {h : MH} {T : Bool → MH → Prop} (n : nice x d = true) (ns : nices xs d = true) (hd : d ≤ 63) (q : ∀ b, (b = true ↔ x ∈ xs) → T b h) : inW x (.lst xs) h T := by
  refine ⟨xs, rfl, ?_, ?_⟩
  · rw [rd_nice n]
    exact ⟨nice_eqOk n (by omega), nices_shaped ns hd⟩
  · rw [rd_nice n]
    exact q _ (any_nice n ns)
theorem in_nice_p {x : PV} {d : Nat} {xs : List PV} {h : MH} {p : Addr} {T : Bool → MH → Prop} (e : h p = some (.lst xs)) (n : nice x d = true) (ns : nices xs d = true) (hd : d ≤ 63) (q : ∀ b, (b = true ↔ x ∈ xs) → T b h) : inW x (.loc p) h T := by
  have dc : dcell h (.loc p) = none := by simp [dcell, e]
  have kc : kcell h (.loc p) = none := by simp [kcell, e]
  simp only [inW, dc, kc]
  refine ⟨xs, seqT_loc e, ?_, ?_⟩
  · rw [rd_nice n]
    exact ⟨nice_eqOk n (by omega), nices_shaped ns hd⟩
  · rw [rd_nice n]
    exact q _ (any_nice n ns)
theorem nice_nats (l : List Nat) (d : Nat) : nices (nats l) d = true := by
  rw [nices_all]
  intro x hx
  obtain ⟨n, _, rfl⟩ := List.mem_map.mp hx
  cases d <;> rfl
theorem nice_pr (c : Nat × Nat) (d : Nat) : nice (prV c) (d + 1) = true := by
  show nices [_, _] d = true
  simp [nices, nice]
theorem nice_prs (l : List (Nat × Nat)) (d : Nat) : nices (l.map prV) (d + 1) = true := by
  rw [nices_all]
  intro x hx
  obtain ⟨n, _, rfl⟩ := List.mem_map.mp hx
  exact nice_pr n d
theorem prV_inj {a b : Nat × Nat} (e : prV a = prV b) : a = b := by
  simp only [prV, PV.tup.injEq, List.cons.injEq, PV.int.injEq, and_true] at e
  exact Prod.ext (by omega) (by omega)
theorem mem_prs {c : Nat × Nat} {l : List (Nat × Nat)} : prV c ∈ l.map prV ↔ c ∈ l := by
  constructor
  · intro h
    obtain ⟨x, hx, e⟩ := List.mem_map.mp h
    rw [← prV_inj e]; exact hx
  · exact fun h => List.mem_map.mpr ⟨c, h, rfl⟩
end MP
set_option Elab.async false
set_option linter.all false
set_option maxRecDepth 100000
set_option maxHeartbeats 2000000
namespace MP
open PySem L2
def d_filled_cells : Df := ⟨["pattern", "order", "found", "cell", "i", "k", "p"], 2, .cons (.asg (.name 2) (.mkdm (.comp false (.tup (.cons (.var 3) (.cons (.bl true) .nil))) (.name 3) (.seq (.idx (.var 0) (.int 1))) .none))) (.cons (.for (.tup3 (.name 4) (.name 5) (.name 6)) (.seq (.call "fills" (.cons (.var 0) (.cons (.var 1) .nil)))) (.cons (.sub (.var 2) (.tup (.cons (.var 4) (.cons (.var 5) .nil))) (.bl true)) .nil)) (.cons (.ret (.var 2)) .nil))⟩
def d_filled_pattern : Df := ⟨["pattern", "order"], 2, .cons (.ret (.tup (.cons (.idx (.var 0) (.int 0)) (.cons (.con .tuple false (.seq (.con .sorted false (.keys (.call "filled_cells" (.cons (.var 0) (.cons (.var 1) .nil))))))) .nil)))) .nil⟩
structure FC (tab : Str → Option Df) : Prop where
  ff : FF tab
  fic : tab "filled_cells" = some d_filled_cells
  fip : tab "filled_pattern" = some d_filled_pattern
variable {tab : Str → Option Df} {k : Nat} {h : MH} {Q : Post} {E : XQ}
section
variable {os : List Nat} {m : Nat} {ds cs : List (Nat × Nat)}
def pr3 (t : Nat × Nat × Nat) : Nat × Nat := (t.1, t.2.1)
theorem stT_app : ∀ n, stT os ds n = ds ++ (flT os ds n).map pr3
  | 0 => by simp [stT, flT]
  | n + 1 => by
    simp only [stT, flT, stT_app n, List.map_append, List.map_map, List.append_assoc]
    congr 2
    rw [← stT_app n]
    have : (pr3 ∘ trP (os.getD n 0)) = id := rfl
    rw [this, List.map_id]
theorem filled_cells_ok (T : FC tab) (po : os.Perm (List.range m)) (hm : m ≤ 60) (D : Dw m cs)
    (q : ∀ p, h p = none → Q (.loc p) (h.put p (.dtt (dd (stT os cs m))))) : callW tab (k + 5) "filled_cells" [patV m cs, .tup (nats os)] h Q E := by
  have mm : m * m ≤ 60 * 60 := Nat.mul_le_mul hm hm
  have lc := D.len
  refine call_body T.fic rfl ?_
  rw [d_filled_cells, w_asg]
  simp only [startE]
  simp [patV]
  intro _
  refine comp_pure (fun x => some (.tup [x, .bl true])) (by simp) (fun x hx R hR => ⟨szl (by omega), hR⟩) ?_
  have eb : (cs.map prV).filterMap (fun x => some (PV.tup [x, .bl true])) = (dd cs).map fun p => PV.tup [.tup p.1, p.2] := by
    rw [← dd_pairs, fm_some]
  rw [eb]
  refine ⟨szl (by rw [List.length_map, dd_len]; omega), dd cs, rfl, dd_key cs, dd_nd D.nd, fun p hp => ?_⟩
  show wpSs _ _ _ _ _ _
  rw [w_for]
  simp
  refine fills_ok (k := k) T.ff po hm D ?_
  simp
  intro _
  have DT := stT_dw (os := os) D m
  have lT := DT.len
  refine for_all (fun i e g => ∃ w4 w5 w6, e = [some (patV m cs), some (.tup (nats os)), some (.loc p), none, w4, w5, w6] ∧ g = h.put p (.dtt (dd (cs ++ ((flT os cs m).map pr3).take i))))
    ⟨_, _, _, rfl, by simp⟩ (fun _ _ _ _ => by simp) ?_ ?_
  · rintro i x e g N hx ⟨w4, w5, w6, rfl, rfl⟩ hN
    rw [List.getElem?_map] at hx
    cases et : (flT os cs m)[i]? with
    | none => rw [et] at hx; cases hx
    | some t =>
      rw [et] at hx
      obtain rfl : trV t = x := Option.some.inj hx
      obtain ⟨hi, ei⟩ := List.getElem?_eq_some_iff.mp et
      have hi' : i < ((flT os cs m).map pr3).length := by rw [List.length_map]; exact hi
      have st := List.take_succ_eq_append_getElem hi'
      have ge : ((flT os cs m).map pr3)[i] = pr3 t := by rw [List.getElem_map, ei]
      rw [ge] at st
      have nin : pr3 t ∉ cs ++ ((flT os cs m).map pr3).take i := fun z => by
        have nd := DT.nd
        rw [stT_app] at nd
        have nd : (cs ++ ((flT os cs m).map pr3).take (i + 1)).Nodup := nd.sublist ((List.take_sublist _ _).append_left _)
        rw [st, ← List.append_assoc, List.nodup_append] at nd
        exact nd.2.2 _ z _ (List.mem_singleton.mpr rfl) rfl
      have ll : (cs ++ ((flT os cs m).map pr3).take i).length ≤ m * m := by
        rw [stT_app] at lT
        rw [List.length_append] at lT ⊢
        rw [List.length_take]
        omega
      simp [trV]
      rw [w_sub]
      simp [subW]
      refine ⟨szl (by omega), ⟨⟨rfl, rfl⟩, ?_⟩, ?_⟩
      · rw [dd_len, PySem.sizeLine_eq]
        omega
      · simp only [w_nil]
        have := put_dd nin
        simp only [pr3] at this
        rw [this]
        refine hN _ _ ⟨_, _, _, rfl, ?_⟩
        rw [st, ← List.append_assoc]
        rfl
  · rintro e g ⟨w4, w5, w6, rfl, rfl⟩
    simp
    rw [w_ret]
    simp
    have e1 : cs ++ ((flT os cs m).map pr3).take ((flT os cs m).map trV).length = stT os cs m := by
      rw [stT_app, List.length_map, ← List.length_map (f := pr3), List.take_length]
    have q := q p hp
    rw [← e1] at q
    exact ret_same (by simpa using q)
theorem filled_pattern_ok (T : FC tab) (po : os.Perm (List.range m)) (hm : m ≤ 60) (D : Dw m cs)
    (q : Q (patV m (fpL os cs m)) h) : callW tab (k + 6) "filled_pattern" [patV m cs, .tup (nats os)] h Q E := by
  have mm : m * m ≤ 60 * 60 := Nat.mul_le_mul hm hm
  have DT := stT_dw (os := os) D m
  have lT := DT.len
  have lF := (fpL_dw (os := os) D).len
  refine call_body T.fip rfl ?_
  rw [d_filled_pattern, w_ret]
  simp only [startE]
  simp
  refine ⟨_, rfl, ?_⟩
  refine filled_cells_ok (k := k) T po hm D fun p hp => ?_
  refine keys_d (dcell_t put_at) fun _ => ?_
  rw [dd_keys]
  refine ⟨sortOk_prs _, ?_⟩
  rw [sort_prs]
  refine ⟨szl (by simp only [List.length_map, List.length_mergeSort]; omega), ?_⟩
  rw [put_put]
  simp
  exact fun _ => ⟨szl (by omega), ret_drop (hle_put hp hle_refl) q⟩
end
end MP
set_option Elab.async false
set_option linter.all false
set_option maxRecDepth 100000
set_option maxHeartbeats 2000000
namespace MP
open PySem L2
def d_is_place : Df := ⟨["many", "thing"], 2, .cons (.ret (.and (.call "is_whole" (.cons (.var 1) .nil)) (.chain .LtE .Lt (.int 0) (.var 1) (.var 0)))) .nil⟩
def d_is_pair : Df := ⟨["many", "thing"], 2, .cons (.ife (.or (.not (.isi (.var 1) "tuple")) (.cmp .NotEq (.blt .len (.cons (.var 1) .nil)) (.int 2))) (.cons (.ret (.bl false)) .nil) (.nil)) (.cons (.ret (.and (.call "is_place" (.cons (.var 0) (.cons (.idx (.var 1) (.int 0)) .nil))) (.and (.call "is_place" (.cons (.var 0) (.cons (.idx (.var 1) (.int 1)) .nil))) (.cmp .NotEq (.idx (.var 1) (.int 0)) (.idx (.var 1) (.int 1)))))) .nil)⟩
def d_are_rising : Df := ⟨["things", "one", "other"], 1, .cons (.ret (.blt .all (.cons (.comp false (.cmp .Lt (.var 1) (.var 2)) (.tup2 (.name 1) (.name 2)) (.zip (.slc (.var 0) .none (.some (.neg (.int 1)))) (.slc (.var 0) (.some (.int 1)) .none)) .none) .nil))) .nil⟩
def d_is_pattern : Df := ⟨["thing", "many", "cells", "cell"], 1, .cons (.ife (.or (.not (.isi (.var 0) "tuple")) (.or (.cmp .NotEq (.blt .len (.cons (.var 0) .nil)) (.int 2)) (.or (.not (.call "is_whole" (.cons (.idx (.var 0) (.int 0)) .nil))) (.cmp .Lt (.idx (.var 0) (.int 0)) (.int 1))))) (.cons (.ret (.bl false)) .nil) (.nil)) (.cons (.asg (.tup2 (.name 1) (.name 2)) (.var 0)) (.cons (.ife (.or (.not (.isi (.var 2) "tuple")) (.not (.blt .all (.cons (.comp false (.call "is_pair" (.cons (.var 1) (.cons (.var 3) .nil))) (.name 3) (.seq (.var 2)) .none) .nil)))) (.cons (.ret (.bl false)) .nil) (.nil)) (.cons (.ret (.call "are_rising" (.cons (.var 2) .nil))) .nil)))⟩
def d_is_web : Df := ⟨["thing", "there", "cell", "i", "k"], 1, .cons (.ife (.not (.call "is_pattern" (.cons (.var 0) .nil))) (.cons (.ret (.bl false)) .nil) (.nil)) (.cons (.asg (.name 1) (.mkd (.comp false (.tup (.cons (.var 2) (.cons (.bl true) .nil))) (.name 2) (.seq (.idx (.var 0) (.int 1))) .none))) (.cons (.ret (.blt .all (.cons (.comp false (.isin (.tup (.cons (.var 4) (.cons (.var 3) .nil))) (.var 1) false) (.tup2 (.name 3) (.name 4)) (.seq (.idx (.var 0) (.int 1))) .none) .nil))) .nil))⟩
structure PAT (tab : Str → Option Df) : Prop where
  isw : tab "is_whole" = some d_is_whole
  pla : tab "is_place" = some d_is_place
  pai : tab "is_pair" = some d_is_pair
  ris : tab "are_rising" = some d_are_rising
  pat : tab "is_pattern" = some d_is_pattern
variable {tab : Str → Option Df} {k : Nat} {h : MH} {Q : Post} {E : XQ}
def isPl (m : Int) : PV → Bool
  | .int i => decide (0 ≤ i ∧ i < m)
  | _ => false
theorem is_place_ok (T : PAT tab) {m : Int} {v : PV} (hv : pur v = true) (q : Q (.bl (isPl m v)) h) : callW tab (k + 2) "is_place" [.int m, v] h Q E := by
  refine call_body T.pla rfl ?_
  rw [d_is_place, w_ret]
  simp only [startE]
  simp
  refine is_whole_ok T.isw hv ?_
  simp
  cases v with
  | int i =>
    simp only [whole, if_true, cmp_le]
    by_cases a : 0 ≤ i
    · rw [if_pos (by simpa using a)]
      refine ret_same ?_
      simp only [isPl, a, true_and] at q
      simpa using q
    · rw [if_neg (by simpa using a)]
      refine ret_same ?_
      simp only [isPl, a, false_and] at q
      simpa using q
  | _ => exact ret_same q
def isPr (m : Int) : PV → Bool
  | .tup [.int i, .int j] => decide (0 ≤ i ∧ i < m) && (decide (0 ≤ j ∧ j < m) && !decide (i = j))
  | _ => false
theorem isPr_eq (m : Int) (x y : PV) : isPr m (.tup [x, y]) = (isPl m x && (isPl m y && !decide (x.asI = y.asI))) := by
  cases x <;> cases y <;> first | rfl | (simp [isPr, isPl]; done)
theorem is_pair_ok (T : PAT tab) {m : Int} {v : PV} (hv : pur v = true) (q : Q (.bl (isPr m v)) h) : callW tab (k + 3) "is_pair" [.int m, v] h Q E := by
  refine call_body T.pai rfl ?_
  rw [d_is_pair, w_ife]
  simp only [startE]
  simp [isi_eq hv, tyB]
  by_cases t : isTb "tuple" v = true
  · obtain ⟨xs, rfl⟩ : ∃ xs, v = .tup xs := by cases v <;> first | exact ⟨_, rfl⟩ | (cases t; done) | (cases hv; done)
    simp [t]
    split
    · rename_i hl
      obtain ⟨x, y, rfl⟩ : ∃ x y, xs = [x, y] := by
        match xs, (show xs.length = 2 by omega) with
        | [x, y], _ => exact ⟨x, y, rfl⟩
      have px : pur x = true ∧ pur y = true := by simpa [pur, purs] using hv
      rw [w_nil]
      simp
      rw [w_ret]
      simp
      refine is_place_ok (k := k) T px.1 ?_
      rw [isPr_eq] at q
      simp
      cases ex : isPl m x with
      | false =>
        rw [ex] at q
        simp
        exact ret_same (by simpa using q)
      | true =>
        simp
        refine is_place_ok (k := k) T px.2 ?_
        cases ey : isPl m y with
        | false =>
          rw [ex, ey] at q
          simp
          exact ret_same (by simpa using q)
        | true =>
          obtain ⟨i, rfl⟩ : ∃ i, x = .int i := by cases x <;> first | exact ⟨_, rfl⟩ | cases ex
          obtain ⟨j, rfl⟩ : ∃ j, y = .int j := by cases y <;> first | exact ⟨_, rfl⟩ | cases ey
          rw [ex, ey] at q
          simp
          refine ret_same ?_
          by_cases e : i = j
          · subst e
            simpa using q
          · have e2 : ¬ (PV.int i).asI = (PV.int j).asI := e
            simp only [decide_eq_false e2] at q
            simp only [decide_eq_false e]
            simpa using q
    · rename_i hl
      rw [w_ret]
      simp
      have z : isPr m (.tup xs) = false := by
        unfold isPr
        split
        · rename_i e
          cases e
          exact absurd rfl hl
        · rfl
      rw [z] at q
      exact ret_same q
  · simp at t
    simp [t]
    rw [w_ret]
    simp
    have z : isPr m v = false := by cases v <;> first | rfl | cases t
    rw [z] at q
    exact ret_same q
instance (a b : Nat × Nat) : Decidable (lt2 a b) := inferInstanceAs (Decidable (a.1 < b.1 ∨ (a.1 = b.1 ∧ a.2 < b.2)))
theorem lt_pr {p q : Nat × Nat} {T : Bool → MH → Prop} : cmpW .Lt (prV p) (prV q) h T = T (decide (lt2 p q)) h := by
  have e : PySem.W.dataLt (toD (prV p)) (toD (prV q)) = decide (lt2 p q) := by
    have e1 : leP (prV q) (prV p) = !PySem.W.dataLt (toD (prV p)) (toD (prV q)) := rfl
    rw [leP_pr] at e1
    have e2 : PySem.W.dataLt (toD (prV p)) (toD (prV q)) = !le2 q p := by rw [e1, Bool.not_not]
    rw [e2]
    rw [Bool.eq_iff_iff, decide_eq_true_eq, Bool.not_eq_true']
    unfold le2 lt2
    rw [decide_eq_false_iff_not]
    omega
  refine propext ⟨fun z => ?_, fun z => ?_⟩
  · have z2 : T (PySem.W.dataLt (toD (prV p)) (toD (prV q))) h := z.2
    rw [e] at z2
    exact z2
  · refine ⟨⟨rfl, rfl, rfl, by show (PyData.tuple [.int _, .int _]).depth ≤ 64; simp [PyData.depth, PyData.depthAll]⟩, ?_⟩
    show T (PySem.W.dataLt (toD (prV p)) (toD (prV q))) h
    rw [e]
    exact z
def risB : List (Nat × Nat) → Bool
  | a :: b :: r => decide (lt2 a b) && risB (b :: r)
  | _ => true
theorem risB_iff : ∀ {l : List (Nat × Nat)}, risB l = true ↔ l.Pairwise lt2
  | [] => by simp [risB]
  | [a] => by simp [risB]
  | a :: b :: r => by
    simp only [risB, Bool.and_eq_true, decide_eq_true_eq, risB_iff (l := b :: r)]
    constructor
    · rintro ⟨h1, h2⟩
      refine List.pairwise_cons.mpr ⟨fun x hx => ?_, h2⟩
      rcases List.mem_cons.mp hx with rfl | hx
      · exact h1
      · exact lt2_tr _ _ _ h1 ((List.pairwise_cons.mp h2).1 x hx)
    · intro p
      exact ⟨(List.pairwise_cons.mp p).1 b (List.mem_cons_self ..), (List.pairwise_cons.mp p).2⟩
theorem risB_zip : ∀ (l : List (Nat × Nat)), ((l.dropLast.zip l.tail).all fun p => decide (lt2 p.1 p.2)) = risB l
  | [] => rfl
  | [a] => rfl
  | a :: b :: r => by
    have ih := risB_zip (b :: r)
    simp only [List.dropLast_cons₂, List.tail_cons, List.zip_cons_cons, List.all_cons, risB] at ih ⊢
    rw [ih]
theorem cutP_m1 (xs : List PV) : slcW.cutP xs none (some (-1)) = xs.dropLast := by
  have e1 : HT.sIx xs.length 0 none = 0 := rfl
  have e2 : HT.sIx xs.length xs.length (some (-1)) = xs.length - 1 := by
    unfold HT.sIx
    simp
    omega
  unfold slcW.cutP
  rw [e1, e2, List.drop_zero, Nat.sub_zero, ← List.dropLast_eq_take]
def risF : PV → Option PV
  | .tup [.tup [.int a, .int b], .tup [.int c, .int d]] => some (.bl (decide (lt2 (a.toNat, b.toNat) (c.toNat, d.toNat))))
  | _ => none
theorem risF_pr (p : (Nat × Nat) × (Nat × Nat)) : risF (PV.tup [prV p.1, prV p.2]) = some (.bl (decide (lt2 p.1 p.2))) := by
  simp only [prV, risF, Int.toNat_natCast]
theorem are_rising_ok (T : PAT tab) {cs : List (Nat × Nat)} (q : Q (.bl (decide (cs.Pairwise lt2))) h) : callW tab (k + 1) "are_rising" [.tup (cs.map prV)] h Q E := by
  refine call_body T.ris rfl ?_
  rw [d_are_rising, w_ret]
  simp only [startE]
  simp
  rw [cutP_m1, cutP_hi _ (by decide)]
  simp
  refine ⟨_, _, ⟨rfl, rfl⟩, fun l1 l2 => ?_⟩
  have eb : risB cs = decide (cs.Pairwise lt2) := by
    rw [Bool.eq_iff_iff, risB_iff, decide_eq_true_eq]
  rw [← eb, ← risB_zip] at q
  have ez : ((cs.map prV).dropLast.zip (cs.map prV).tail).map (fun p => PV.tup [p.1, p.2]) = (cs.dropLast.zip cs.tail).map fun p => PV.tup [prV p.1, prV p.2] := by
    rw [← List.map_dropLast, ← List.map_tail, List.zip_map, List.map_map]
    rfl
  rw [ez]
  refine comp_pure risF (by simp) (fun x hx R hR => ?_) ?_
  · obtain ⟨p, _, rfl⟩ := List.mem_map.mp hx
    rw [risF_pr] at hR
    simp
    rw [lt_pr]
    exact hR
  · have ef : ∀ l : List ((Nat × Nat) × (Nat × Nat)), (l.map fun p => PV.tup [prV p.1, prV p.2]).filterMap risF = (l.map fun p => decide (lt2 p.1 p.2)).map PV.bl := by
      intro l
      induction l with
      | nil => rfl
      | cons a r ih =>
        rw [List.map_cons, List.filterMap_cons, risF_pr, ih]; rfl
    rw [ef]
    refine ⟨?_, _, _, rfl, boolsP_map _, ret_same ?_⟩
    · simp only [List.length_map, List.length_zip, List.length_dropLast] at l1 ⊢
      omega
    · rw [List.all_map]
      exact q
theorem isPr_pr {m : Int} {v : PV} (e : isPr m v = true) : ∃ c : Nat × Nat, v = prV c ∧ (c.1 : Int) < m ∧ (c.2 : Int) < m ∧ c.1 ≠ c.2 := by
  unfold isPr at e
  split at e
  · rename_i i j
    simp only [Bool.and_eq_true, decide_eq_true_eq, Bool.not_eq_true', decide_eq_false_iff_not] at e
    refine ⟨(i.toNat, j.toNat), ?_, ?_, ?_, ?_⟩
    · simp only [prV]
      rw [Int.toNat_of_nonneg e.1.1, Int.toNat_of_nonneg e.2.1.1]
    · simp only; omega
    · simp only; omega
    · simp only; omega
  · cases e
theorem isPr_of {m : Int} {c : Nat × Nat} (h1 : (c.1 : Int) < m) (h2 : (c.2 : Int) < m) (h3 : c.1 ≠ c.2) : isPr m (prV c) = true := by
  simp only [isPr, prV, Bool.and_eq_true, decide_eq_true_eq, Bool.not_eq_true', decide_eq_false_iff_not]
  omega
theorem all_prs {m : Int} : ∀ {xs : List PV}, xs.all (isPr m) = true → ∃ cs : List (Nat × Nat), xs = cs.map prV ∧ ∀ c ∈ cs, (c.1 : Int) < m ∧ (c.2 : Int) < m ∧ c.1 ≠ c.2
  | [], _ => ⟨[], rfl, by simp⟩
  | x :: r, h => by
    simp only [List.all_cons, Bool.and_eq_true] at h
    obtain ⟨c, rfl, hc⟩ := isPr_pr h.1
    obtain ⟨cs, rfl, hcs⟩ := all_prs h.2
    exact ⟨c :: cs, rfl, fun x hx => by
      rcases List.mem_cons.mp hx with rfl | hx
      · exact hc
      · exact hcs x hx⟩
def IsPat (m : Nat) (cs : List (Nat × Nat)) : Prop := 1 ≤ m ∧ Dw m cs ∧ cs.Pairwise lt2
theorem up_nodup {cs : List (Nat × Nat)} (u : cs.Pairwise lt2) : cs.Nodup := by
  rw [List.nodup_iff_pairwise_ne]
  exact u.imp fun {a b} (l : lt2 a b) (e : a = b) => lt2_irr a (by rw [← e] at l; exact l)
theorem is_pattern_ok (T : PAT tab) {v : PV} (hv : pur v = true)
    (q : ∀ b, (b = true ↔ ∃ m cs, v = patV m cs ∧ IsPat m cs) → Q (.bl b) h) : callW tab (k + 4) "is_pattern" [v] h Q E := by
  refine call_body T.pat rfl ?_
  rw [d_is_pattern, w_ife]
  simp only [startE]
  simp [isi_eq hv, tyB]
  have no : (∀ m cs, v = patV m cs → IsPat m cs → False) → Q (.bl false) h := fun n => q false ⟨fun z => (nomatch z), fun ⟨m, cs, e, i⟩ => (n m cs e i).elim⟩
  by_cases t : isTb "tuple" v = true
  · obtain ⟨xs, rfl⟩ : ∃ xs, v = .tup xs := by cases v <;> first | exact ⟨_, rfl⟩ | (cases t; done) | (cases hv; done)
    simp [t]
    split
    · rename_i hl
      obtain ⟨x, y, rfl⟩ : ∃ x y, xs = [x, y] := by
        match xs, (show xs.length = 2 by omega) with
        | [x, y], _ => exact ⟨x, y, rfl⟩
      have px : pur x = true ∧ pur y = true := by simpa [pur, purs] using hv
      simp
      refine is_whole_ok T.isw px.1 ?_
      simp
      by_cases w : whole x = true
      · obtain ⟨m, rfl⟩ : ∃ i, x = .int i := by cases x <;> first | exact ⟨_, rfl⟩ | cases w
        simp [w]
        split
        · rename_i hm
          rw [w_ret]
          simp
          refine ret_same (no fun m' cs e ip => ?_)
          simp only [patV, PV.tup.injEq, List.cons.injEq, PV.int.injEq] at e
          have := ip.1
          omega
        · rename_i hm
          rw [w_nil]
          simp
          rw [w_asg]
          simp
          rw [w_ife]
          simp [isi_eq px.2, tyB]
          by_cases t2 : isTb "tuple" y = true
          · obtain ⟨ys, rfl⟩ : ∃ xs, y = .tup xs := by cases y <;> first | exact ⟨_, rfl⟩ | (cases t2; done) | (cases hv; done)
            simp [t2]
            intro ly
            have py : ∀ z ∈ ys, pur z = true := by
              have := px.2
              simp only [pur, purs_eq, List.all_eq_true] at this
              exact this
            refine comp_pure (fun z => some (.bl (isPr m z))) (by simp) (fun z hz R hR => is_pair_ok (k := k) T (py z hz) hR) ?_
            have eb : ys.filterMap (fun z => some (PV.bl (isPr m z))) = (ys.map (isPr m)).map PV.bl := by simp
            rw [eb]
            refine ⟨by simpa using ly, _, _, rfl, boolsP_map _, ?_⟩
            simp only [tru_b]
            split
            · rename_i ha
              have ha : ys.all (isPr m) = true := by simpa using ha
              obtain ⟨cs, rfl, hcs⟩ := all_prs ha
              rw [w_nil]
              simp
              rw [w_ret]
              simp
              refine are_rising_ok (k := k + 2) T ?_
              refine ret_same (q _ ?_)
              rw [decide_eq_true_eq]
              constructor
              · intro u
                refine ⟨m.toNat, cs, ?_, by omega, ⟨fun c hc => ?_, up_nodup u⟩, u⟩
                · simp only [patV]
                  rw [Int.toNat_of_nonneg (by omega)]
                · have := hcs c hc
                  exact ⟨by omega, by omega, this.2.2⟩
              · rintro ⟨m', cs', e, _, _, u⟩
                simp only [patV, PV.tup.injEq, List.cons.injEq, and_true] at e
                have e2 : cs.map prV = cs'.map prV := e.2
                have e3 : cs = cs' := (List.map_inj_right (f := prV) fun a b h => prV_inj h).mp e2
                rw [e3]; exact u
            · rename_i ha
              rw [w_ret]
              simp
              refine ret_same (no fun m' cs e ip => ?_)
              simp only [patV, PV.tup.injEq, List.cons.injEq, PV.int.injEq, and_true] at e
              obtain ⟨rfl, rfl⟩ := e
              refine ha ?_
              simp only [List.all_map, id_eq, List.all_eq_true, Function.comp]
              intro c hc
              obtain ⟨l1, l2, l3⟩ := ip.2.1.lt c hc
              simpa using isPr_of (m := (m' : Int)) (by omega) (by omega) l3
          · simp at t2
            simp [t2]
            rw [w_ret]
            simp
            refine ret_same (no fun m' cs e ip => ?_)
            simp only [patV, PV.tup.injEq, List.cons.injEq, and_true] at e
            rw [e.2] at t2
            cases t2
      · simp at w
        simp [w]
        rw [w_ret]
        simp
        refine ret_same (no fun m' cs e ip => ?_)
        simp only [patV, PV.tup.injEq, List.cons.injEq] at e
        rw [e.1] at w
        cases w
    · rename_i hl
      rw [w_ret]
      simp
      refine ret_same (no fun m cs e ip => ?_)
      simp only [patV, PV.tup.injEq] at e
      rw [e] at hl
      exact hl rfl
  · simp at t
    simp [t]
    rw [w_ret]
    simp
    refine ret_same (no fun m cs e ip => ?_)
    rw [e] at t
    cases t
def webF (cs : List (Nat × Nat)) : PV → Option PV
  | .tup [.int i, .int j] => some (.bl (decide ((j.toNat, i.toNat) ∈ cs)))
  | _ => none
theorem webF_pr (cs : List (Nat × Nat)) (c : Nat × Nat) : webF cs (prV c) = some (.bl (decide ((c.2, c.1) ∈ cs))) := by
  simp only [prV, webF, Int.toNat_natCast]
theorem webF_prs (cs : List (Nat × Nat)) : ∀ l : List (Nat × Nat), (l.map prV).filterMap (webF cs) = (l.map fun c => decide ((c.2, c.1) ∈ cs)).map PV.bl
  | [] => rfl
  | a :: r => by rw [List.map_cons, List.filterMap_cons, webF_pr, webF_prs cs r]; rfl
theorem is_web_ok (T : PAT tab) (hw : tab "is_web" = some d_is_web) {v : PV} (hv : pur v = true) (q1 : (∀ m cs, v = patV m cs → IsPat m cs → False) → Q (.bl false) h)
    (q2 : ∀ m cs, v = patV m cs → IsPat m cs → Q (.bl (cs.all fun c => decide ((c.2, c.1) ∈ cs))) h) : callW tab (k + 5) "is_web" [v] h Q E := by
  refine call_body hw rfl ?_
  rw [d_is_web, w_ife]
  simp only [startE]
  simp
  refine is_pattern_ok (k := k) T hv fun b hb => ?_
  cases b with
  | false =>
    simp
    rw [w_ret]
    simp
    exact ret_same (q1 fun m cs e i => nomatch hb.mpr ⟨m, cs, e, i⟩)
  | true =>
    obtain ⟨m, cs, rfl, ip⟩ := hb.mp rfl
    have q2 := q2 m cs rfl ip
    simp
    rw [w_nil]
    simp
    rw [w_asg]
    simp [patV]
    intro lz
    refine comp_pure (fun x => some (.tup [x, .bl true])) (by simp) (fun x hx R hR => ⟨szl (by omega), hR⟩) ?_
    have eb : (cs.map prV).filterMap (fun x => some (PV.tup [x, .bl true])) = (dd cs).map fun p => PV.tup [.tup p.1, p.2] := by
      rw [← dd_pairs, fm_some]
    rw [eb]
    refine ⟨by simpa [dd_len] using lz, dd cs, rfl, dd_key cs, dd_nd (up_nodup ip.2.2), ?_⟩
    show wpSs _ _ _ _ _ _
    rw [w_ret]
    simp
    intro _
    refine comp_pure (webF cs) (by simp) (fun x hx R hR => ?_) ?_
    · obtain ⟨c, hc, rfl⟩ := List.mem_map.mp hx
      rw [webF_pr] at hR
      simp [prV]
      refine ⟨szl (by omega), (dd cs).map (·.1), _, by simp, rfl, rfl, ?_⟩
      have lk := look_dd c.2 c.1 cs
      simp only [List.map_map] at lk ⊢
      have e2 : (lookP (List.map (fun x => x.1) (dd cs)) (List.map (fun x => x.2) (dd cs)) [PV.int (c.2 : Nat), PV.int (c.1 : Nat)]).isSome = decide ((c.2, c.1) ∈ cs) := look_dd c.2 c.1 cs
      rw [e2]
      exact hR
    · rw [webF_prs]
      exact ⟨by simpa using lz, _, _, rfl, boolsP_map _, ret_same (by rw [List.all_map]; exact q2)⟩
end MP
set_option Elab.async false
set_option linter.all false
set_option maxRecDepth 100000
set_option maxHeartbeats 2000000
namespace MP
open PySem L2 TL
section
variable {G : Calls} {Ex : XP} {env : Env} {h : MH} {Q : Post} {T : Bool → MH → Prop}
@[simp] theorem idx_s {z : Str} {k : Int} : idxW (.str z) (.int k) h Q = ∃ c, (z.length ≤ sizeLine ∧ L2.atI z.cps.toList k = some c) ∧ Q (.str ⟨#[c]⟩) h := rfl
@[simp] theorem slc_s {z : Str} {l u : Option Int} : slcW (.str z) l u h Q = (z.length ≤ sizeLine ∧ Q (.str (cutS z l u)) h) := rfl
@[simp] theorem b_lens {z : Str} : bltW .len [.str z] h Q = (z.length ≤ sizeLine ∧ Q (.int z.length) h) := rfl
@[simp] theorem b_ints {z : Str} : bltW .int [.str z] h Q = ∃ n, (intText? z = some n ∧ z.length ≤ 640) ∧ Q (.int n) h := rfl
theorem in_sign {z : Str} {c : Nat} (q : T (decide (c ∈ tl z)) h) : inW (.str ⟨#[c]⟩) (.str z) h T := ⟨_, rfl, by rw [StrLaws.found_one]; exact q⟩
theorem split_s {m : Bool} {a b : Str} {ys : List Str} (hb : b.length ≠ 0) (ha : a.length + 2 ≤ sizeLine) (e : Txt.split a b = ys) (q : ys.length ≤ sizeLine → newL m (ys.map PV.str) h Q) : splitW m (.str a) (.str b) h Q := ⟨a, b, rfl, rfl, ⟨by simpa using hb, ha⟩, by rw [e]; exact q⟩
theorem join_l {a : Str} {ys : List Str} (hl : (ys.map (·.length)).sum + ys.length * a.length ≤ 16777216) (q : Q (.str (Txt.join a ys)) h) : joinW (.str a) (.lst (ys.map PV.str)) h Q := ⟨a, ys, rfl, rfl, hl, q⟩
end
def numS (n : Nat) : Str := Str.ofString (toString ((n : Nat) : Int))
theorem numS_tl (n : Nat) : tl (numS n) = numL n := tl_num n
theorem len_tl (x : Str) : x.length = (tl x).length := by
  show x.cps.size = _
  rw [Array.length_toList]
theorem numL_head {n : Nat} (h : 0 < n) : ∃ c r, numL n = c :: r ∧ c ≠ 48 := by
  induction n using Nat.strongRecOn with
  | _ n ih =>
    by_cases z : n < 10
    · rw [numL_lt z]
      exact ⟨_, _, rfl, by omega⟩
    · obtain ⟨c, r, e, hc⟩ := ih (n / 10) (by omega) (by omega)
      rw [numL_step (by omega), e]
      exact ⟨c, r ++ _, rfl, hc⟩
theorem numL_one {n : Nat} (h : (numL n).head? = some 48) : n = 0 := by
  apply Classical.byContradiction
  intro z
  obtain ⟨c, r, e, hc⟩ := numL_head (n := n) (by omega)
  rw [e] at h
  simp at h
  exact hc h
theorem numS_len {n k : Nat} (hk : 0 < k) (h : n < 10 ^ k) : (numS n).length ≤ k := by
  rw [len_tl, numS_tl]
  exact numL_len hk h
theorem numS_pos (n : Nat) : 1 ≤ (numS n).length := by
  rw [len_tl, numS_tl]
  have := numL_ne n
  cases e : numL n with
  | nil => exact absurd e this
  | cons a r => simp
theorem numS_reads {n : Nat} (h : n < 10 ^ 30) : intText? (numS n) = some ((n : Nat) : Int) := by
  have l := numS_len (by decide : 0 < 30) h
  have d : NumText.AllDigits (numS n).cps.toList := by
    show NumText.AllDigits (tl (numS n))
    rw [numS_tl]
    exact numL_digits n
  have ne : (numS n).cps.toList ≠ [] := by
    show tl (numS n) ≠ []
    rw [numS_tl]
    exact numL_ne n
  rw [intText_digits d ne (by omega)]
  have e : (numS n).cps.toList = numL n := numS_tl n
  rw [e, numL_val]
def d_number_in : Df := ⟨["word", "sign"], 1, .cons (.ife (.or (.not (.chain .LtE .LtE (.int 1) (.blt .len (.cons (.var 0) .nil)) (.gcs "MOST_FIGURES"))) (.not (.blt .all (.cons (.comp false (.isin (.var 1) (.gcs "FIGURES") false) (.name 1) (.chars (.var 0)) .none) .nil)))) (.cons (.raise "NoText") .nil) (.nil)) (.cons (.ife (.and (.cmp .Eq (.idx (.var 0) (.int 0)) (.str "0")) (.cmp .NotEq (.var 0) (.str "0"))) (.cons (.raise "NoText") .nil) (.nil)) (.cons (.ret (.blt .int (.cons (.var 0) .nil))) .nil))⟩
def d_lines_in : Df := ⟨["text", "lines", "line"], 1, .cons (.ife (.not (.isi (.var 0) "str")) (.cons (.raise "NoText") .nil) (.nil)) (.cons (.asg (.name 1) (.comp false (.split false (.var 2) (.str " ")) (.name 2) (.seq (.split false (.var 0) (.str "\n"))) .none)) (.cons (.ife (.or (.cmp .NotEq (.blt .len (.cons (.idx (.var 1) (.int 0)) .nil)) (.int 2)) (.cmp .NotEq (.idx (.idx (.var 1) (.int 0)) (.int 0)) (.str "places"))) (.cons (.raise "NoText") .nil) (.nil)) (.cons (.ret (.tup (.cons (.call "number_in" (.cons (.idx (.idx (.var 1) (.int 0)) (.int 1)) .nil)) (.cons (.slc (.var 1) (.some (.int 1)) .none) .nil)))) .nil)))⟩
def d_read_pattern : Df := ⟨["text", "many", "lines", "pattern", "word", "words"], 1, .cons (.asg (.tup2 (.name 1) (.name 2)) (.call "lines_in" (.cons (.var 0) .nil))) (.cons (.asg (.name 3) (.tup (.cons (.var 1) (.cons (.con .tuple false (.seq (.comp false (.con .tuple false (.seq (.comp false (.call "number_in" (.cons (.var 4) .nil)) (.name 4) (.seq (.var 5)) .none))) (.name 5) (.seq (.var 2)) .none))) .nil)))) (.cons (.ife (.not (.call "is_pattern" (.cons (.var 3) .nil))) (.cons (.raise "NoText") .nil) (.nil)) (.cons (.ret (.var 3)) .nil)))⟩
structure RDT (tab : Str → Option Df) : Prop where
  pa : PAT tab
  num : tab "number_in" = some d_number_in
  lin : tab "lines_in" = some d_lines_in
  red : tab "read_pattern" = some d_read_pattern
variable {tab : Str → Option Df} {k : Nat} {h : MH} {Q : Post} {E : XQ}
theorem number_in_ok (hn : tab "number_in" = some d_number_in) {n : Nat} (hn30 : n < 10 ^ 30) (q : Q (.int (n : Nat)) h) : callW tab (k + 1) "number_in" [.str (numS n)] h Q E := by
  have l := numS_len (by decide : 0 < 30) hn30
  have l1 := numS_pos n
  refine call_body hn rfl ?_
  rw [d_number_in, w_ife]
  simp only [startE]
  simp
  refine ⟨szl (by omega), ?_⟩
  rw [if_pos (by omega)]
  refine ⟨.int 30, rfl, ?_⟩
  simp
  rw [if_pos (by omega)]
  refine ⟨szl (by omega), ?_⟩
  refine comp_pure (fun _ => some (.bl true)) (by simp) (fun x hx R hR => ?_) ?_
  · obtain ⟨c, hc, rfl⟩ := List.mem_map.mp hx
    refine ⟨.str "0123456789", rfl, ?_⟩
    refine in_sign ?_
    have hc' : c ∈ tl (numS n) := hc
    rw [numS_tl] at hc'
    have r := numL_digits n c hc'
    have e : decide (c ∈ tl "0123456789") = true := by
      rw [decide_eq_true_eq]
      have : tl "0123456789" = [48, 49, 50, 51, 52, 53, 54, 55, 56, 57] := by decide +kernel
      rw [this]
      have : c = 48 ∨ c = 49 ∨ c = 50 ∨ c = 51 ∨ c = 52 ∨ c = 53 ∨ c = 54 ∨ c = 55 ∨ c = 56 ∨ c = 57 := by omega
      rcases this with rfl | rfl | rfl | rfl | rfl | rfl | rfl | rfl | rfl | rfl <;> simp
    rw [e]
    simpa using hR
  · have eb : ∀ l : List PV, l.filterMap (fun _ => some (PV.bl true)) = (List.replicate l.length true).map PV.bl := by
      intro l
      induction l with
      | nil => rfl
      | cons a r ih => rw [List.filterMap_cons, ih]; rfl
    rw [eb]
    refine ⟨szl (by simp only [List.length_map, List.length_replicate]; have := len_tl (numS n); have : (numS n).cps.toList.length = (tl (numS n)).length := rfl; omega), _, _, rfl, boolsP_map _, ?_⟩
    simp only [tru_b]
    rw [if_pos (by simp)]
    rw [w_nil]
    simp
    rw [w_ife]
    simp
    obtain ⟨c, r, ec⟩ : ∃ c r, tl (numS n) = c :: r := by
      cases e : tl (numS n) with
      | nil => rw [len_tl, e] at l1; simp at l1
      | cons c r => exact ⟨c, r, rfl⟩
    refine ⟨c, ⟨szl (by omega), by rw [← Array.getElem?_toList, show (numS n).cps.toList = c :: r from ec]; rfl⟩, ?_⟩
    have fin : wpSs (callW tab k) (fun e _ h' => retX E e h') (.cons (.ret (.blt .int (.cons (.var 0) .nil))) .nil) [some (.str (numS n)), none] h { nx := fun _ h' => retW Q .non h', rt := retW Q } := by
      rw [w_ret]
      simp
      exact ⟨_, ⟨numS_reads hn30, by omega⟩, ret_same q⟩
    by_cases z : n = 0
    · subst z
      have e0 : numS 0 = "0" := by decide +kernel
      rw [e0] at ec ⊢
      split
      · simp
        rw [w_nil]
        rw [e0] at fin
        exact fin
      · rw [w_nil]
        rw [e0] at fin
        exact fin
    · have nc : c ≠ 48 := fun e => z (numL_one (by rw [← numS_tl, ec, e]; rfl))
      rw [if_neg (fun e => by
        have e2 : tl (⟨#[c]⟩ : Str) = tl "0" := by rw [e]
        have e3 : tl "0" = [48] := by decide +kernel
        rw [e3] at e2
        exact nc (List.cons.inj e2).1)]
      rw [w_nil]
      exact fin
end MP
set_option Elab.async false
set_option linter.all false
set_option maxRecDepth 100000
set_option maxHeartbeats 2000000
namespace MP
open PySem L2 TL
theorem joinL_len (S : List Nat) : ∀ ps : List (List Nat), (joinL S ps).length ≤ (ps.map (·.length)).sum + ps.length * S.length
  | [] => by simp [joinL]
  | [p] => by simp [joinL]
  | p :: q :: r => by
    have ih := joinL_len S (q :: r)
    simp only [joinL, List.length_append, List.map_cons, List.sum_cons, List.length_cons] at ih ⊢
    have e : (r.length + 1 + 1) * S.length = (r.length + 1) * S.length + S.length := Nat.succ_mul _ _
    rw [e]
    omega
theorem joinL_mem {S : List Nat} {c : Nat} : ∀ {ps : List (List Nat)}, c ∈ joinL S ps → c ∈ S ∨ ∃ p ∈ ps, c ∈ p
  | [], h => by simp [joinL] at h
  | [p], h => .inr ⟨p, List.mem_singleton.mpr rfl, h⟩
  | p :: q :: r, h => by
    simp only [joinL] at h
    rcases List.mem_append.mp h with z | z
    · exact .inr ⟨p, List.mem_cons_self .., z⟩
    · rcases List.mem_append.mp z with z | z
      · exact .inl z
      · rcases joinL_mem z with y | ⟨x, hx, y⟩
        · exact .inl y
        · exact .inr ⟨x, List.mem_cons_of_mem _ hx, y⟩
theorem tl_joinT (y : Str) (ps : List Str) : tl (Txt.join y ps) = joinL (tl y) (ps.map tl) := by rw [join_eq, tl_join]
theorem join_len (y : Str) (ps : List Str) : (Txt.join y ps).length ≤ (ps.map (·.length)).sum + ps.length * y.length := by
  rw [len_tl, tl_joinT]
  have := joinL_len (tl y) (ps.map tl)
  rw [List.map_map, List.length_map] at this
  have e : ((fun x : List Nat => x.length) ∘ tl) = fun x : Str => x.length := funext fun x => (len_tl x).symm
  rw [e, ← len_tl] at this
  exact this
def lineS (ws : List Str) : Str := Txt.join " " ws
def textS (rows : List (List Str)) : Str := Txt.join "\n" (rows.map lineS)
theorem tl_sp : tl " " = [32] := by decide +kernel
theorem tl_nl : tl "\n" = [10] := by decide +kernel
theorem line_two (a b : Str) : lineS [a, b] = a ++ " " ++ b := by
  refine ext_tl ?_
  show tl (Txt.join " " [a, b]) = _
  rw [tl_joinT, tl_append, tl_append]
  simp [joinL]
def Wd (w : Str) : Prop := 32 ∉ tl w ∧ 10 ∉ tl w
theorem numS_wd (n : Nat) : Wd (numS n) := by
  constructor
  · rw [numS_tl]; exact numL_free (by decide)
  · rw [numS_tl]; exact numL_free (by decide)
theorem split_line {ws : List Str} (ne : ws ≠ []) (fr : ∀ w ∈ ws, Wd w) : Txt.split (lineS ws) " " = ws :=
  TL.split_join (y := " ") (s := 32) (S := []) tl_sp (by decide +kernel) ne fun p hp => (fr p hp).1
theorem line_free {ws : List Str} (fr : ∀ w ∈ ws, Wd w) : 10 ∉ tl (lineS ws) := fun h => by
  unfold lineS at h
  rw [tl_joinT, tl_sp] at h
  rcases joinL_mem h with z | ⟨p, hp, z⟩
  · simp at z
  · obtain ⟨w, hw, rfl⟩ := List.mem_map.mp hp
    exact (fr w hw).2 z
theorem split_text {rows : List (List Str)} (ne : rows ≠ []) (fr : ∀ ws ∈ rows, ∀ w ∈ ws, Wd w) : Txt.split (textS rows) "\n" = rows.map lineS :=
  TL.split_join (y := "\n") (s := 10) (S := []) tl_nl (by decide +kernel) (fun e => ne (List.map_eq_nil_iff.mp e)) fun p hp => by
    obtain ⟨ws, hw, rfl⟩ := List.mem_map.mp hp
    exact line_free (fr ws hw)
def headW (m : Nat) : List Str := [("places" : Str), numS m]
def wordsF (ls : List (List Str)) : PV := .lst (ls.map fun ws => .lst (ws.map PV.str))
variable {tab : Str → Option Df} {k : Nat} {h : MH} {Q : Post} {E : XQ}
theorem lines_in_ok (hn : tab "number_in" = some d_number_in) (hl : tab "lines_in" = some d_lines_in) {m : Nat} {rows : List (List Str)} (hm : m < 10 ^ 30) (fr : ∀ ws ∈ rows, ws ≠ [] ∧ ∀ w ∈ ws, Wd w)
    (lt : (textS (headW m :: rows)).length ≤ 400000) (ll : ∀ ws ∈ rows, (lineS ws).length ≤ 400000) (lr : rows.length ≤ 300000)
    (q : Q (.tup [.int (m : Nat), wordsF rows]) h) : callW tab (k + 2) "lines_in" [.str (textS (headW m :: rows))] h Q E := by
  have lw := numS_len (by decide : 0 < 30) hm
  have pw : Wd "places" := ⟨by decide +kernel, by decide +kernel⟩
  have fr1 : ∀ ws ∈ headW m :: rows, ws ≠ [] ∧ ∀ w ∈ ws, Wd w := fun ws hw => by
    rcases List.mem_cons.mp hw with rfl | hw
    · refine ⟨by simp [headW], fun w hw => ?_⟩
      simp only [headW, List.mem_cons, List.not_mem_nil, or_false] at hw
      rcases hw with rfl | rfl
      · exact pw
      · exact numS_wd m
    · exact fr ws hw
  have l1 : (lineS (headW m)).length ≤ 400000 := by
    have := join_len " " (headW m)
    have e : (("places" : Str)).length = 6 := by decide +kernel
    have e2 : ((" " : Str)).length = 1 := by decide +kernel
    simp only [headW, List.map_cons, List.map_nil, List.sum_cons, List.sum_nil, List.length_cons, List.length_nil, e, e2] at this
    unfold lineS
    simp only [headW]
    omega
  refine call_body hl rfl ?_
  rw [d_lines_in, w_ife]
  simp only [startE]
  simp [isi_eq (show pur (.str (textS (headW m :: rows))) = true from rfl), tyB, isTb, isT]
  rw [w_nil]
  simp
  rw [w_asg]
  simp
  refine split_s (ys := (headW m :: rows).map lineS) (by decide +kernel) (by rw [PySem.sizeLine_eq]; omega) (split_text (by simp) fun ws hw => (fr1 ws hw).2) fun _ => ?_
  refine ⟨szl (by simp only [List.length_map, List.length_cons]; omega), ?_⟩
  refine ⟨_, rfl, fun _ => ?_⟩
  refine comp_pure (fun x => match x with | .str z => some (.lst ((Txt.split z " ").map PV.str)) | _ => none) (by simp) (fun x hx R hR => ?_) ?_
  · rw [List.map_map] at hx
    obtain ⟨ws, hw, rfl⟩ := List.mem_map.mp hx
    have l2 : (lineS ws).length ≤ 400000 := by
      rcases List.mem_cons.mp hw with rfl | hw
      · exact l1
      · exact ll ws hw
    simp
    exact split_s (by decide +kernel) (by rw [PySem.sizeLine_eq]; omega) rfl fun l => ⟨by rw [List.length_map]; exact l, hR⟩
  · have eb : ∀ ls : List (List Str), (∀ ws ∈ ls, ws ≠ [] ∧ ∀ w ∈ ws, Wd w) → ((ls.map lineS).map PV.str).filterMap (fun x => match x with | .str z => some (PV.lst ((Txt.split z " ").map PV.str)) | _ => none) = ls.map fun ws => PV.lst (ws.map PV.str) := by
      intro ls
      induction ls with
      | nil => intro _; rfl
      | cons a r ih =>
        intro hh
        obtain ⟨ne, fa⟩ := hh a (List.mem_cons_self ..)
        rw [List.map_cons, List.map_cons, List.filterMap_cons, ih fun ws hw => hh ws (List.mem_cons_of_mem _ hw)]
        simp only [split_line ne fa]
        rfl
    rw [eb _ fr1]
    refine ⟨szl (by simp only [List.length_map, List.length_cons]; omega), ?_⟩
    show wpSs _ _ _ _ _ _
    rw [w_ife]
    simp [headW]
    rw [w_nil]
    simp
    rw [w_ret]
    simp
    refine number_in_ok (k := k) hn hm ?_
    rw [cutP_hi _ (by decide)]
    simp
    exact ⟨szl (by omega), ret_same q⟩
def pairW (c : Nat × Nat) : List Str := [numS c.1, numS c.2]
def patT (m : Nat) (cs : List (Nat × Nat)) : Str := textS (headW m :: cs.map pairW)
theorem read_pattern_ok (T : RDT tab) {m : Nat} {cs : List (Nat × Nat)} (ip : IsPat m cs) (hm : m < 10 ^ 30) (lz : cs.length ≤ 5000) (q : Q (patV m cs) h) : callW tab (k + 5) "read_pattern" [.str (patT m cs)] h Q E := by
  have lw := numS_len (by decide : 0 < 30) hm
  have lp : ∀ c ∈ cs, (lineS (pairW c)).length ≤ 62 ∧ c.1 < 10 ^ 30 ∧ c.2 < 10 ^ 30 := fun c hc => by
    obtain ⟨a, b, _⟩ := ip.2.1.lt c hc
    have h1 := numS_len (n := c.1) (by decide : 0 < 30) (by omega)
    have h2 := numS_len (n := c.2) (by decide : 0 < 30) (by omega)
    refine ⟨?_, by omega, by omega⟩
    have := join_len " " (pairW c)
    have e2 : ((" " : Str)).length = 1 := by decide +kernel
    simp only [pairW, List.map_cons, List.map_nil, List.sum_cons, List.sum_nil, List.length_cons, List.length_nil, e2] at this
    unfold lineS
    simp only [pairW]
    omega
  have lt : (patT m cs).length ≤ 400000 := by
    have a := join_len "\n" ((headW m :: cs.map pairW).map lineS)
    have e2 : (("\n" : Str)).length = 1 := by decide +kernel
    have l1 : (lineS (headW m)).length ≤ 40 := by
      have := join_len " " (headW m)
      have e : (("places" : Str)).length = 6 := by decide +kernel
      have e2 : ((" " : Str)).length = 1 := by decide +kernel
      simp only [headW, List.map_cons, List.map_nil, List.sum_cons, List.sum_nil, List.length_cons, List.length_nil, e, e2] at this
      unfold lineS
      simp only [headW]
      omega
    have sm : ∀ l : List (Nat × Nat), (∀ c ∈ l, (lineS (pairW c)).length ≤ 62) → (((l.map pairW).map lineS).map (·.length)).sum ≤ l.length * 62 := by
      intro l
      induction l with
      | nil => intro _; simp
      | cons a r ih =>
        intro hh
        have := ih fun c hc => hh c (List.mem_cons_of_mem _ hc)
        have := hh a (List.mem_cons_self ..)
        simp only [List.map_cons, List.sum_cons, List.length_cons, Nat.succ_mul]
        omega
    have s2 := sm cs fun c hc => (lp c hc).1
    simp only [List.map_cons, List.sum_cons, List.length_cons, List.length_map, e2] at a
    unfold patT textS
    simp only [List.map_cons]
    omega
  refine call_body T.red rfl ?_
  rw [d_read_pattern, w_asg]
  simp only [startE]
  simp
  refine lines_in_ok (k := k + 2) T.num T.lin hm (fun ws hw => ?_) lt (fun ws hw => ?_) (by rw [List.length_map]; omega) ?_
  · obtain ⟨c, hc, rfl⟩ := List.mem_map.mp hw
    refine ⟨by simp [pairW], fun w hw => ?_⟩
    simp only [pairW, List.mem_cons, List.not_mem_nil, or_false] at hw
    rcases hw with rfl | rfl <;> exact numS_wd _
  · obtain ⟨c, hc, rfl⟩ := List.mem_map.mp hw
    have := (lp c hc).1
    omega
  simp [wordsF]
  rw [w_asg]
  simp
  intro _
  refine comp_pure (fun x => match x with | .lst [.str a, .str b] => (match intText? a, intText? b with | some i, some j => some (.tup [.int i, .int j]) | _, _ => none) | _ => none) (by simp) (fun x hx R hR => ?_) ?_
  · obtain ⟨c, hc, rfl⟩ := List.mem_map.mp hx
    obtain ⟨_, h1, h2⟩ := lp c hc
    simp [pairW, numS_reads h1, numS_reads h2] at hR ⊢
    intro _
    refine comp_pure (fun x => match x with | .str a => (match intText? a with | some i => some (.int i) | none => none) | _ => none) (by simp) (fun x hx R2 hR2 => ?_) ?_
    · simp only [List.mem_cons, List.not_mem_nil, or_false] at hx
      rcases hx with rfl | rfl
      · simp only [numS_reads h1] at hR2
        exact number_in_ok (k := k + 3) T.num h1 hR2
      · simp only [numS_reads h2] at hR2
        exact number_in_ok (k := k + 3) T.num h2 hR2
    · simp [numS_reads h1, numS_reads h2]
      exact ⟨szl (by omega), fun _ => hR⟩
  · have eb : ∀ l : List (Nat × Nat), (∀ c ∈ l, c.1 < 10 ^ 30 ∧ c.2 < 10 ^ 30) → (l.map fun c => PV.lst ((pairW c).map PV.str)).filterMap (fun x => match x with | .lst [.str a, .str b] => (match intText? a, intText? b with | some i, some j => some (PV.tup [.int i, .int j]) | _, _ => none) | _ => none) = l.map prV := by
      intro l
      induction l with
      | nil => intro _; rfl
      | cons a r ih =>
        intro hh
        obtain ⟨h1, h2⟩ := hh a (List.mem_cons_self ..)
        rw [List.map_cons, List.filterMap_cons, ih fun c hc => hh c (List.mem_cons_of_mem _ hc)]
        simp only [pairW, List.map_cons, List.map_nil, numS_reads h1, numS_reads h2]
        rfl
    have eb2 := eb cs fun c hc => (lp c hc).2
    have e0 : ∀ (f : PV → Option PV), (List.map ((fun ws : List Str => PV.lst (ws.map PV.str)) ∘ pairW) cs).filterMap f = (cs.map fun c => PV.lst ((pairW c).map PV.str)).filterMap f := fun f => rfl
    rw [e0, eb2]
    refine ⟨szl (by rw [List.length_map]; omega), fun _ => ⟨szl (by omega), ?_⟩⟩
    show wpSs _ _ _ _ _ _
    rw [w_ife]
    simp
    have pp : pur (patV m cs) = true := by
      show pur (.tup [.int _, .tup (cs.map prV)]) = true
      simp [pur, purs, purs_prs]
    refine is_pattern_ok (k := k) T.pa pp fun b hb => ?_
    have : b = true := hb.mpr ⟨m, cs, rfl, ip⟩
    subst this
    simp
    rw [w_nil]
    simp
    rw [w_ret]
    simp
    exact ret_same q
end MP
set_option Elab.async false
set_option linter.all false
set_option maxRecDepth 100000
set_option maxHeartbeats 2000000
namespace SW
open PySem L2 MP
def d__law_divides : Df := ⟨["one", "other"], 2, .cons (.par 0 1 (.blt .abs (.cons (.var 0) .nil)) (.blt .abs (.cons (.var 1) .nil))) (.cons (.while (.cmp .Gt (.var 1) (.int 0)) (.cons (.par 0 1 (.var 1) (.bin .Mod (.var 0) (.var 1))) .nil)) (.cons (.ret (.var 0)) .nil))⟩
def d__law_worth : Df := ⟨["top", "bottom", "by"], 2, .cons (.asg (.name 2) (.call "_law_divides" (.cons (.var 0) (.cons (.var 1) .nil)))) (.cons (.ife (.cmp .Lt (.var 1) (.int 0)) (.cons (.asg (.name 2) (.bin .Sub (.int 0) (.var 2))) .nil) (.nil)) (.cons (.ret (.tup (.cons (.bin .FloorDiv (.var 0) (.var 2)) (.cons (.bin .FloorDiv (.var 1) (.var 2)) .nil)))) .nil))⟩
def d__law_far : Df := ⟨["deck", "far"], 1, .cons (.asg (.name 1) (.bin .Add (.bin .Mult (.call "_law_draw" (.cons (.var 0) (.cons (.bin .Pow (.int 10) (.int 5)) .nil))) (.bin .Pow (.int 10) (.int 4))) (.call "_law_draw" (.cons (.var 0) (.cons (.bin .Pow (.int 10) (.int 4)) .nil))))) (.cons (.ret (.idx (.lst false (.cons (.var 1) (.cons (.bin .Sub (.int 0) (.var 1)) (.cons (.bin .Pow (.int 10) (.int 9)) (.cons (.bin .Sub (.int 0) (.bin .Pow (.int 10) (.int 9))) .nil))))) (.call "_law_draw" (.cons (.var 0) (.cons (.int 4) .nil))))) .nil)⟩
def d__law_some_worth : Df := ⟨["deck", "way"], 1, .cons (.asg (.name 1) (.call "_law_draw" (.cons (.var 0) (.cons (.int 8) .nil)))) (.cons (.ife (.cmp .Lt (.var 1) (.int 4)) (.cons (.ret (.tup (.cons (.bin .Sub (.call "_law_draw" (.cons (.var 0) (.cons (.int 9) .nil))) (.int 4)) (.cons (.int 1) .nil)))) .nil) (.nil)) (.cons (.ife (.cmp .Lt (.var 1) (.int 6)) (.cons (.ret (.call "_law_worth" (.cons (.bin .Sub (.call "_law_draw" (.cons (.var 0) (.cons (.int 41) .nil))) (.int 20)) (.cons (.bin .Add (.int 1) (.call "_law_draw" (.cons (.var 0) (.cons (.int 12) .nil)))) .nil)))) .nil) (.nil)) (.cons (.ife (.cmp .Eq (.var 1) (.int 6)) (.cons (.ret (.idx (.lst false (.cons (.tup (.cons (.int 0) (.cons (.int 1) .nil))) (.cons (.tup (.cons (.int 1) (.cons (.int 1) .nil))) (.cons (.tup (.cons (.neg (.int 1)) (.cons (.int 1) .nil))) (.cons (.tup (.cons (.int 1) (.cons (.int 2) .nil))) .nil))))) (.call "_law_draw" (.cons (.var 0) (.cons (.int 4) .nil))))) .nil) (.nil)) (.cons (.ret (.call "_law_worth" (.cons (.call "_law_far" (.cons (.var 0) .nil)) (.cons (.blt .max2 (.cons (.int 1) (.cons (.blt .abs (.cons (.call "_law_far" (.cons (.var 0) .nil)) .nil)) .nil))) .nil)))) .nil))))⟩
variable {tab : Str → Option Df} {k : Nat} {h : MH} {Q : Post} {E : XQ}
structure Tab (tab : Str → Option Df) : Prop where
  t__law_draw : tab "_law_draw" = some d_draw
  t__law_divides : tab "_law_divides" = some d__law_divides
  t__law_worth : tab "_law_worth" = some d__law_worth
  t__law_far : tab "_law_far" = some d__law_far
  t__law_some_worth : tab "_law_some_worth" = some d__law_some_worth
theorem absI (a : Int) : (if a < 0 then -a else a) = ((a.natAbs : Nat) : Int) := by split <;> omega
theorem divides_ok (ht : tab "_law_divides" = some d__law_divides) {a b : Int} (q : Q (.int (Int.gcd a b)) h) : callW tab (k + 1) "_law_divides" [.int a, .int b] h Q E := by
  refine call_body ht rfl ?_
  rw [d__law_divides, w_par]
  simp only [startE]
  simp
  rw [w_while]
  rw [absI, absI]
  refine ⟨_, while_inv (fun n e h' => h' = h ∧ ∃ x y : Nat, e = [some (.int x), some (.int y)] ∧ y = n ∧ Nat.gcd x y = Int.gcd a b) ?_ ?_ ?_ b.natAbs _ _ ⟨rfl, a.natAbs, b.natAbs, rfl, rfl, rfl⟩⟩
  · rintro n e h' N ⟨rfl, x, y, rfl, rfl, g⟩ st
    simp
    by_cases z : y = 0
    · subst z
      rw [if_neg (by omega)]
      rw [w_ret]
      simp
      rw [Nat.gcd_zero_right] at g
      subst g
      exact ret_same q
    · rw [if_pos (by omega), w_par]
      simp
      have yp : 0 < y := Nat.pos_of_ne_zero z
      exact ⟨yp, w_end (st _ _ (x % y) (Nat.mod_lt _ yp) ⟨rfl, y, x % y, by simp, rfl, by rw [← g, Nat.gcd_comm x y, Nat.gcd_rec y x, Nat.gcd_comm]⟩)⟩
  · intro e h Q Q' w q; exact wpT_mono (callW_mono _ _) (fun _ _ q => w _ _ q) q
  · intro e h D D' le q; exact wpSs_mono (callW_mono _ _) le q
theorem worth_ok (T : Tab tab) {B : Nat} (hB : B ≤ 10 ^ 40) {t b : Int} (ht : t.natAbs ≤ B) (b0 : 0 < b) (hb : b ≤ B)
    (q : ∀ x y : Int, x.natAbs ≤ B → 1 ≤ y → y ≤ B → Int.gcd x y = 1 → Q (.tup [.int x, .int y]) h) : callW tab (k + 2) "_law_worth" [.int t, .int b] h Q E := by
  refine call_body T.t__law_worth rfl ?_
  rw [d__law_worth, w_asg]
  simp only [startE]
  simp
  refine divides_ok T.t__law_divides ?_
  have g0 : 0 < Int.gcd t b := Int.gcd_pos_of_ne_zero_right _ (by omega)
  have g1 : Int.gcd t b ≤ b.natAbs := Nat.gcd_le_right _ (by omega)
  rw [w_ife]
  simp
  rw [if_neg (by omega)]
  rw [w_nil]
  try dsimp only
  rw [w_ret]
  have b1 : b ≠ 0 := by omega
  simp [b1]
  have y0 : 1 ≤ b / (Int.gcd t b : Int) := by rw [Int.le_ediv_iff_mul_le (by omega)]; omega
  have y1 : b / (Int.gcd t b : Int) ≤ b := Int.ediv_le_self _ (by omega)
  have x0 := Int.natAbs_ediv_le_natAbs t (Int.gcd t b : Int)
  exact ⟨by omega, szl (by omega), ret_same (q _ _ (by omega) y0 (by omega) (Int.gcd_ediv_gcd_ediv_gcd g0))⟩
theorem far_ok (T : Tab tab) {p : Addr} {a b c : Int} (hp : h p = some (.lst [.int a, .int b, .int c]))
    (q : ∀ (f a' b' c' : Int), f.natAbs ≤ 10 ^ 9 → Q (.int f) (h.put p (.lst [.int a', .int b', .int c']))) : callW tab (k + 2) "_law_far" [.loc p] h Q E := by
  refine call_body T.t__law_far rfl ?_
  rw [d__law_far, w_asg]
  simp only [startE]
  simp
  refine draw_ok (k := k) T.t__law_draw hp (by decide) (by decide) fun r1 a1 b1 c1 r10 r11 => ?_
  simp
  refine draw_ok (k := k) T.t__law_draw put_at (by decide) (by decide) fun r2 a2 b2 c2 r20 r21 => ?_
  simp
  rw [w_ret]
  simp
  refine ⟨szl (by decide), ?_⟩
  refine draw_ok (k := k) T.t__law_draw put_at (by decide) (by decide) fun r3 a3 b3 c3 r30 r31 => ?_
  simp
  refine pickW r30 (by simpa using r31) ?_
  simp only [List.mem_cons, List.not_mem_nil, or_false, forall_eq_or_imp, forall_eq]
  refine ⟨?_, ?_, ?_, ?_⟩ <;> exact ret_same (q _ _ _ _ (by omega))
theorem some_worth_ok (T : Tab tab) {p : Addr} {a b c : Int} (hp : h p = some (.lst [.int a, .int b, .int c]))
    (q : ∀ (x y a' b' c' : Int), x.natAbs ≤ 10 ^ 9 → 1 ≤ y → y ≤ 10 ^ 9 → Int.gcd x y = 1 → Q (.tup [.int x, .int y]) (h.put p (.lst [.int a', .int b', .int c']))) : callW tab (k + 3) "_law_some_worth" [.loc p] h Q E := by
  refine call_body T.t__law_some_worth rfl ?_
  rw [d__law_some_worth, w_asg]
  simp only [startE]
  simp
  refine draw_ok (k := k + 1) T.t__law_draw hp (by decide) (by decide) fun r1 a1 b1 c1 r10 r11 => ?_
  rw [w_ife]
  simp
  split
  · rw [w_ret]
    simp
    refine draw_ok (k := k + 1) T.t__law_draw put_at (by decide) (by decide) fun r2 a2 b2 c2 r20 r21 => ?_
    simp
    exact ⟨szl (by decide), ret_same (q _ _ _ _ _ (by omega) (by omega) (by omega) (by simp))⟩
  rw [w_nil]
  simp
  rw [w_ife]
  simp
  split
  · rw [w_ret]
    simp
    refine draw_ok (k := k + 1) T.t__law_draw put_at (by decide) (by decide) fun r2 a2 b2 c2 r20 r21 => ?_
    simp
    refine draw_ok (k := k + 1) T.t__law_draw put_at (by decide) (by decide) fun r3 a3 b3 c3 r30 r31 => ?_
    simp
    exact worth_ok (k := k) T (B := 10 ^ 9) (by decide) (by omega) (by omega) (by omega) fun x y hx hy hy2 hg => ret_same (q _ _ _ _ _ hx hy (by omega) hg)
  rw [w_nil]
  simp
  rw [w_ife]
  simp
  split
  · rw [w_ret]
    simp
    refine ⟨szl (by decide), szl (by decide), ?_⟩
    refine draw_ok (k := k + 1) T.t__law_draw put_at (by decide) (by decide) fun r2 a2 b2 c2 r20 r21 => ?_
    simp
    refine pickW r20 (by simpa using r21) ?_
    simp only [List.mem_cons, List.not_mem_nil, or_false, forall_eq_or_imp, forall_eq]
    refine ⟨?_, ?_, ?_, ?_⟩ <;> exact ret_same (q _ _ _ _ _ (by decide) (by decide) (by decide) (by decide))
  rw [w_nil]
  simp
  rw [w_ret]
  simp
  refine far_ok (k := k) T put_at fun f1 a2 b2 c2 hf1 => ?_
  simp
  refine far_ok (k := k) T put_at fun f2 a3 b3 c3 hf2 => ?_
  simp
  exact worth_ok (k := k) T (B := 10 ^ 9) (by decide) hf1 (by split <;> split <;> omega) (by split <;> split <;> omega) fun x y hx hy hy2 hg => ret_same (q _ _ _ _ _ hx hy (by omega) hg)
end SW
set_option Elab.async false
set_option linter.all false
set_option maxRecDepth 100000
set_option maxHeartbeats 2000000
namespace WB
open PySem L2 MP
def d__law_many : Df := ⟨["deck", "few", "most"], 3, .cons (.ret (.bin .Add (.int 1) (.call "_law_draw" (.cons (.var 0) (.cons (.idx (.lst false (.cons (.var 1) (.cons (.var 2) .nil))) (.blt .int (.cons (.cmp .Eq (.call "_law_draw" (.cons (.var 0) (.cons (.int 8) .nil))) (.int 5)) .nil))) .nil))))) .nil⟩
def d__law_there : Df := ⟨["deck", "way", "spots", "i", "k", "many", "cut", "wide", "heads", "got"], 5, .cons (.asg (.tup4 (.name 5) (.name 6) (.name 7) (.name 8)) (.var 2)) (.cons (.ife (.cmp .Lt (.var 1) (.int 3)) (.cons (.asg (.name 9) (.call "_law_draw" (.cons (.var 0) (.cons (.idx (.lst false (.cons (.int 5) (.cons (.int 2) (.cons (.int 6) .nil)))) (.var 1)) .nil)))) (.cons (.ret (.idx (.lst false (.cons (.cmp .Eq (.var 9) (.int 0)) (.cons (.cmp .Eq (.var 9) (.int 0)) (.cons (.cmp .Gt (.var 9) (.int 0)) .nil)))) (.var 1))) .nil)) (.nil)) (.cons (.ife (.cmp .Eq (.var 1) (.int 3)) (.cons (.ret (.cmp .Eq (.var 4) (.bin .Add (.var 3) (.int 1)))) .nil) (.nil)) (.cons (.ife (.cmp .Eq (.var 1) (.int 4)) (.cons (.ret (.or (.cmp .Eq (.var 4) (.bin .Add (.var 3) (.int 1))) (.and (.cmp .Eq (.var 3) (.int 0)) (.cmp .Eq (.var 4) (.bin .Sub (.var 5) (.int 1)))))) .nil) (.nil)) (.cons (.ife (.cmp .Eq (.var 1) (.int 5)) (.cons (.ret (.or (.cmp .Eq (.var 3) (.int 0)) (.cmp .Eq (.idx (.var 8) (.var 4)) (.var 3)))) .nil) (.nil)) (.cons (.ife (.cmp .Eq (.var 1) (.int 6)) (.cons (.ret (.cmp .Eq (.idx (.var 8) (.var 4)) (.var 3))) .nil) (.nil)) (.cons (.ife (.cmp .Eq (.var 1) (.int 7)) (.cons (.ret (.or (.cmp .LtE (.var 4) (.var 6)) (.cmp .GtE (.var 3) (.bin .Sub (.var 6) (.var 7))))) .nil) (.nil)) (.cons (.ife (.cmp .Eq (.var 1) (.int 8)) (.cons (.ret (.and (.chain .Lt .LtE (.var 3) (.var 6) (.var 4)) (.cmp .Gt (.call "_law_draw" (.cons (.var 0) (.cons (.int 4) .nil))) (.int 0)))) .nil) (.nil)) (.cons (.ife (.cmp .Eq (.var 1) (.int 9)) (.cons (.ret (.or (.cmp .Eq (.var 4) (.bin .Add (.var 3) (.var 7))) (.and (.cmp .Eq (.var 4) (.bin .Add (.var 3) (.int 1))) (.cmp .Gt (.bin .Mod (.var 4) (.var 7)) (.int 0))))) .nil) (.nil)) (.cons (.ret (.and (.cmp .Eq (.bin .FloorDiv (.var 3) (.var 7)) (.bin .FloorDiv (.var 4) (.var 7))) (.cmp .Gt (.call "_law_draw" (.cons (.var 0) (.cons (.int 3) .nil))) (.int 0)))) .nil)))))))))⟩
def d__law_order : Df := ⟨["deck", "many", "way", "left", "found", "k"], 2, .cons (.asg (.name 2) (.call "_law_draw" (.cons (.var 0) (.cons (.int 4) .nil)))) (.cons (.asg (.name 3) (.con .list true (.rng1 (.var 1)))) (.cons (.asg (.name 4) (.lst true (.nil))) (.cons (.for (.name 5) (.rng1 (.var 1)) (.cons (.ex (.meth (.var 4) .append (.cons (.meth (.var 3) .pop1 (.cons (.idx (.lst false (.cons (.int 0) (.cons (.bin .Sub (.blt .len (.cons (.var 3) .nil)) (.int 1)) (.cons (.call "_law_draw" (.cons (.var 0) (.cons (.blt .len (.cons (.var 3) .nil)) .nil))) (.cons (.call "_law_draw" (.cons (.var 0) (.cons (.blt .len (.cons (.var 3) .nil)) .nil))) .nil))))) (.var 2)) .nil)) .nil))) .nil)) (.cons (.ret (.con .tuple false (.seq (.var 4)))) .nil))))⟩
def d__law_web : Df := ⟨["deck", "many", "way", "heads", "k", "spots", "called", "cells", "i"], 2, .cons (.asg (.name 2) (.call "_law_draw" (.cons (.var 0) (.cons (.int 11) .nil)))) (.cons (.asg (.name 3) (.bin .Add (.lst false (.cons (.int 0) .nil)) (.comp false (.call "_law_draw" (.cons (.var 0) (.cons (.var 4) .nil))) (.name 4) (.rng2 (.int 1) (.var 1)) .none))) (.cons (.asg (.name 5) (.tup (.cons (.var 1) (.cons (.call "_law_draw" (.cons (.var 0) (.cons (.bin .Add (.var 1) (.int 1)) .nil))) (.cons (.bin .Add (.int 1) (.call "_law_draw" (.cons (.var 0) (.cons (.int 4) .nil)))) (.cons (.var 3) .nil)))))) (.cons (.asg (.name 6) (.call "_law_order" (.cons (.var 0) (.cons (.var 1) .nil)))) (.cons (.asg (.name 7) (.lst false (.nil))) (.cons (.for (.name 4) (.rng2 (.int 1) (.var 1)) (.cons (.for (.name 8) (.rng1 (.var 4)) (.cons (.ife (.call "_law_there" (.cons (.var 0) (.cons (.var 2) (.cons (.var 5) (.cons (.var 8) (.cons (.var 4) .nil)))))) (.cons (.asg (.name 7) (.bin .Add (.var 7) (.lst false (.cons (.tup (.cons (.idx (.var 6) (.var 8)) (.cons (.idx (.var 6) (.var 4)) .nil))) (.cons (.tup (.cons (.idx (.var 6) (.var 4)) (.cons (.idx (.var 6) (.var 8)) .nil))) .nil))))) .nil) (.nil)) .nil)) .nil)) (.cons (.ret (.tup (.cons (.var 1) (.cons (.con .tuple false (.seq (.con .sorted false (.seq (.var 7))))) .nil)))) .nil))))))⟩
def d__law_same : Df := ⟨["found", "due", "one", "other"], 2, .cons (.ife (.isi (.var 1) "tuple") (.cons (.ife (.or (.not (.isi (.var 0) "tuple")) (.cmp .NotEq (.blt .len (.cons (.var 0) .nil)) (.blt .len (.cons (.var 1) .nil)))) (.cons (.ret (.bl false)) .nil) (.nil)) (.cons (.ret (.isin (.bl false) (.comp false (.call "_law_same" (.cons (.var 2) (.cons (.var 3) .nil))) (.tup2 (.name 2) (.name 3)) (.zip (.var 0) (.var 1)) .none) true)) .nil)) (.nil)) (.cons (.ife (.isi (.var 1) "str") (.cons (.ret (.and (.isi (.var 0) "str") (.cmp .Eq (.var 0) (.var 1)))) .nil) (.nil)) (.cons (.ret (.and (.isi (.var 0) "int") (.and (.cmp .Eq (.isi (.var 0) "bool") (.isi (.var 1) "bool")) (.cmp .Eq (.var 0) (.var 1))))) .nil))⟩
variable {tab : Str → Option Df} {k : Nat} {h : MH} {Q : Post} {E : XQ}
structure Tab (tab : Str → Option Df) : Prop where
  t__law_deck : tab "_law_deck" = some d_deck
  t__law_draw : tab "_law_draw" = some d_draw
  t__law_many : tab "_law_many" = some d__law_many
  t__law_there : tab "_law_there" = some d__law_there
  t__law_order : tab "_law_order" = some d__law_order
  t__law_web : tab "_law_web" = some d__law_web
  t__law_same : tab "_law_same" = some d__law_same
theorem draw_ok (T : Tab tab) {p : Addr} {a b c m : Int} (hp : h p = some (.lst [.int a, .int b, .int c])) (h1 : 0 < m) (h2 : m < 1073741824)
    (q : ∀ r a' b' c', 0 ≤ r → r < m → Q (.int r) (h.put p (.lst [.int a', .int b', .int c']))) : callW tab (k + 1) "_law_draw" [.loc p, .int m] h Q E := MP.draw_ok T.t__law_draw hp h1 h2 q
theorem deck_ok (T : Tab tab) {i : Int} (q : ∀ p a b, h p = none → Q (.loc p) (h.put p (.lst [.int a, .int b, .int 0]))) : callW tab (k + 1) "_law_deck" [.int i] h Q E := MP.deck_ok T.t__law_deck q
theorem many_ok (T : Tab tab) {p : Addr} {a b c f m : Int} (hp : h p = some (.lst [.int a, .int b, .int c])) (h0 : 0 < f) (h1 : f ≤ m) (h2 : m < 1073741824)
    (q : ∀ r a' b' c', 1 ≤ r → r ≤ m → Q (.int r) (h.put p (.lst [.int a', .int b', .int c']))) : callW tab (k + 2) "_law_many" [.loc p, .int f, .int m] h Q E := by
  refine call_body T.t__law_many rfl ?_
  rw [d__law_many, w_ret]
  simp only [startE]
  simp
  refine ⟨by rw [PySem.sizeLine_eq]; decide, ?_⟩
  refine draw_ok (k := k) T hp (by decide) (by decide) fun r a1 b1 c1 r0 r1 => ?_
  simp
  obtain ⟨z, hz, z0, z1⟩ : ∃ z, L2.atI [PV.int f, PV.int m] (if r = 5 then 1 else 0) = some (.int z) ∧ 0 < z ∧ z ≤ m := by
    split
    · exact ⟨_, by simp; rfl, by omega, by omega⟩
    · exact ⟨_, by simp; rfl, by omega, by omega⟩
  refine ⟨_, hz, ?_⟩
  refine draw_ok (k := k) T put_at z0 (by omega) fun r2 a2 b2 c2 r20 r21 => ?_
  simp
  exact ret_same (q _ _ _ _ (by omega) (by omega))
theorem there_ok (T : Tab tab) {p : Addr} {a b c way cut wide i j : Int} {m : Nat} {hs : List Int} (hp : h p = some (.lst [.int a, .int b, .int c])) (w0 : 0 ≤ way) (w1 : way < 11) (hw : 1 ≤ wide) (hw2 : wide < 100) (i0 : 0 ≤ i) (hi : i < j) (hj : j < m) (hh : hs.length = m)
    (q : ∀ t a' b' c', Q (.bl t) (h.put p (.lst [.int a', .int b', .int c']))) : callW tab (k + 2) "_law_there" [.loc p, .int way, .tup [.int m, .int cut, .int wide, .lst (hs.map .int)], .int i, .int j] h Q E := by
  have q0 : ∀ t, Q (.bl t) h := fun t => by have := q t a b c; rwa [put_self hp] at this
  obtain ⟨hd, hhd⟩ := atI_ints (ns := hs) (i := j) (by omega) (by omega)
  refine call_body T.t__law_there rfl ?_
  rw [d__law_there, w_asg]
  simp only [startE]
  simp
  have qs : ∀ t, retW Q (.bl t) h := fun t => ret_same (q0 t)
  have dr : ∀ n : Int, 0 < n → n < 1000 → callW tab (k + 1) "_law_draw" [.loc p, .int n] h (fun x h1 => cmpW .Gt x (.int 0) h1 fun k h3 => retW Q (.bl k) h3) (fun e h2 => retX E e h2) := fun n n0 n1 =>
    draw_ok (k := k) T hp n0 (by omega) fun r a1 b1 c1 _ _ => by simp; exact ret_same (q _ _ _ _)
  have cases : way = 0 ∨ way = 1 ∨ way = 2 ∨ way = 3 ∨ way = 4 ∨ way = 5 ∨ way = 6 ∨ way = 7 ∨ way = 8 ∨ way = 9 ∨ way = 10 := by omega
  rcases cases with rfl | rfl | rfl | rfl | rfl | rfl | rfl | rfl | rfl | rfl | rfl
  iterate 3
    · rw [w_ife]
      simp
      rw [w_asg]
      simp
      refine ⟨by rw [PySem.sizeLine_eq]; decide, ?_⟩
      refine draw_ok (k := k) T hp ?_ ?_ fun r a1 b1 c1 _ _ => ?_
      · decide
      · decide
      rw [w_ret]
      simp
      exact ⟨by rw [PySem.sizeLine_eq]; decide, ret_same (q _ _ _ _)⟩
  all_goals
    iterate 9
      try (rw [w_ife]; simp [hhd])
      try (rw [w_nil]; try simp [hhd])
    try rw [w_ret]
    try simp [hhd]
  all_goals
    repeat' (first | exact qs _ | apply And.intro | omega | split)
  · exact dr 4 (by decide) (by decide)
  · exact dr 3 (by decide) (by decide)
theorem order_ok (T : Tab tab) {p : Addr} {a b c : Int} {m : Nat} (hp : h p = some (.lst [.int a, .int b, .int c])) (h1 : 1 ≤ m) (h2 : m ≤ 1000000)
    (q : ∀ (os : List Nat) a' b' c', os.Perm (List.range m) → Q (.tup (nats os)) (h.put p (.lst [.int a', .int b', .int c']))) : callW tab (k + 2) "_law_order" [.loc p, .int m] h Q E := by
  refine call_body T.t__law_order rfl ?_
  rw [d__law_order, w_asg]
  simp only [startE]
  simp
  refine draw_ok (k := k) T hp (by decide) (by decide) fun way a0 b0 c0 y0 y1 => ?_
  rw [w_asg]
  simp
  obtain ⟨g1, g2, g3⟩ := rng_ok (m := m) (by omega)
  refine ⟨g1, g2, g3, fun p1 n1 => ?_⟩
  rw [w_asg]
  simp
  intro p2 n2
  have ne1 : p1 ≠ p := fun z => by subst z; rw [put_at] at n1; cases n1
  rw [put_off ne1] at n1
  have ne2 : p2 ≠ p1 := fun z => by subst z; rw [put_at] at n2; cases n2
  rw [put_off ne2] at n2
  have ne3 : p2 ≠ p := fun z => by subst z; rw [put_at] at n2; cases n2
  rw [put_off ne3] at n2
  have A : Ap3 p p1 p2 := ⟨ne1.symm, ne3.symm, ne2.symm⟩
  have e0 : ((h.put p (.lst [.int a0, .int b0, .int c0])).put p1 (.lst (rngV 0 m))).put p2 (.lst []) = H3 h p p1 p2 (.lst [.int a0, .int b0, .int c0]) (.lst (nats (List.range m))) (.lst (nats [])) := by
    unfold H3; rw [rngV_nat]; rfl
  rw [e0]
  rw [w_for]
  simp
  refine ⟨g1, g2, ?_⟩
  refine for_all (fun i e g => ∃ w a b c ls fs, e = [some (.loc p), some (.int m), some (.int way), some (.loc p1), some (.loc p2), w] ∧ g = H3 h p p1 p2 (.lst [.int a, .int b, .int c]) (.lst (nats ls)) (.lst (nats fs)) ∧ (ls ++ fs).Perm (List.range m) ∧ fs.length = i)
    ⟨_, a0, b0, c0, _, [], rfl, rfl, by simp, rfl⟩ (fun _ _ _ _ => by simp) ?_ ?_
  · rintro i x e g N hx ⟨w, a, b, c, ls, fs, rfl, rfl, pm, lf⟩ hN
    have hi : i < m := by
      have := (List.getElem?_eq_some_iff.mp hx).1
      rwa [rngV_len, Int.sub_zero, Int.toNat_natCast] at this
    have ll : ls.length = m - i := by
      have := pm.length_eq
      rw [List.length_append, List.length_range] at this
      omega
    have lr : (nats ls).length = ls.length := by unfold nats; rw [List.length_map]
    simp
    rw [w_ex]
    simp [H3.at3 A, H3.at2 A, b_lenp (H3.at2 A)]
    refine draw_ok (k := k) T (H3.at1 A) (by rw [lr]; omega) (by rw [lr]; omega) fun r a1 b1 c1 r0 r1 => ?_
    rw [H3.put1 A]
    simp [b_lenp (H3.at2 A)]
    refine draw_ok (k := k) T (H3.at1 A) (by rw [lr]; omega) (by rw [lr]; omega) fun r2 a2 b2 c2 r20 r21 => ?_
    rw [H3.put1 A]
    rw [lr] at r1 r21
    refine ⟨by rw [PySem.sizeLine_eq]; decide, ?_⟩
    obtain ⟨z, hz, z0, z1⟩ : ∃ z, L2.atI [PV.int 0, PV.int ((nats ls).length - 1), PV.int r, PV.int r2] way = some (.int z) ∧ 0 ≤ z ∧ z < ls.length := by
      have : way = 0 ∨ way = 1 ∨ way = 2 ∨ way = 3 := by omega
      rcases this with rfl | rfl | rfl | rfl
      · exact ⟨_, by simp; rfl, by omega, by omega⟩
      · exact ⟨_, by simp; rfl, by omega, by omega⟩
      · exact ⟨_, by simp; rfl, by omega, by omega⟩
      · exact ⟨_, by simp; rfl, by omega, by omega⟩
    refine ⟨_, hz, ?_⟩
    have hj : z.toNat < ls.length := by omega
    refine ⟨nats ls, z.toNat, .int (ls[z.toNat] : Nat), H3.at2 A, by omega, by omega, seqIdx_nat z0 (by rw [lr]; exact z1), by simp [nats, hj], ?_⟩
    rw [H3.put2 A]
    refine ⟨nats fs, H3.at3 A, by simp only [nats, List.length_map, PySem.sizeLine_eq]; omega, ?_⟩
    rw [H3.put3 A]
    refine w_end ?_
    refine hN _ _ ⟨_, a2, b2, c2, ls.eraseIdx z.toNat, fs ++ [ls[z.toNat]], rfl, by simp [nats, map_erase], ?_, by simp [lf]⟩
    refine List.Perm.trans ?_ pm
    have e1 := erase_perm hj
    refine List.Perm.trans ?_ (e1.append_right fs)
    rw [← List.append_assoc]
    exact List.perm_append_comm
  · rintro e g ⟨w, a, b, c, ls, fs, rfl, rfl, pm, lf⟩
    have lm : fs.length = m := by rw [lf, rngV_len, Int.sub_zero, Int.toNat_natCast]
    have ll : ls = [] := by
      have := pm.length_eq
      rw [List.length_append, List.length_range] at this
      exact List.length_eq_zero_iff.mp (by omega)
    subst ll
    rw [List.nil_append] at pm
    simp
    rw [w_ret]
    simp [srcV_loc (H3.at3 A)]
    intro _
    refine ret_drop (h2 := h.put p (.lst [.int a, .int b, .int c])) (H3.le A n1 n2) ?_
    exact q fs a b c pm
def webV (m : Nat) (c : List (Nat × Nat)) : PV := .tup [.int (m : Nat), .tup (c.map prV)]
def deepI : Nat → PV → Prop
  | _, .int _ => True
  | d + 1, .tup xs => xs.length ≤ 100000 ∧ ∀ x ∈ xs, deepI d x
  | _, _ => False
theorem deepI_tup {d : Nat} {v : PV} (h : deepI (d + 1) v) : (∃ i, v = .int i) ∨ ∃ xs, v = .tup xs ∧ xs.length ≤ 100000 ∧ ∀ x ∈ xs, deepI d x := by
  cases v <;> first | exact .inl ⟨_, rfl⟩ | exact .inr ⟨_, rfl, h⟩ | exact h.elim
theorem deepI_pur : ∀ (d : Nat) (v : PV), deepI d v → pur v = true := by
  intro d
  induction d with
  | zero => intro v h; cases v <;> first | rfl | exact h.elim
  | succ d ih =>
    intro v h
    rcases deepI_tup h with ⟨i, rfl⟩ | ⟨xs, rfl, _, hx⟩
    · rfl
    · simp only [pur, purs_eq, List.all_eq_true]
      exact fun x hx' => ih x (hx x hx')
theorem same_int (T : Tab tab) {i : Int} (q : Q (.bl true) h) : callW tab (k + 1) "_law_same" [.int i, .int i] h Q E := by
  refine call_body T.t__law_same rfl ?_
  rw [d__law_same, w_ife]
  simp only [startE]
  have pu : pur (PV.int i) = true := rfl
  simp [isi_eq pu, tyB, isTb, isT]
  rw [w_nil]
  simp
  rw [w_ife]
  simp [isi_eq pu, tyB, isTb, isT]
  rw [w_nil]
  simp
  rw [w_ret]
  simp [isi_eq pu, tyB, isTb, isT]
  exact ret_same q
theorem zip_self : ∀ xs : List PV, xs.zip xs = xs.map fun x => (x, x)
  | [] => rfl
  | x :: r => by simp [zip_self r]
theorem bl_list : ∀ bs : List Bool, purs (bs.map .bl) = true ∧ PyData.canLayAll0 (toDs (bs.map .bl)) = true ∧ PyData.depthAll (toDs (bs.map .bl)) = 0
  | [] => ⟨rfl, rfl, rfl⟩
  | b :: r => by
    obtain ⟨x, y, z⟩ := bl_list r
    simp [purs, pur, toDs, toD, PyData.canLayAll0, PyData.canLay0, PyData.depthAll, PyData.depth, x, y, z]
theorem bl_shaped (bs : List Bool) : SeqAt.shaped (.list (toDs (bs.map .bl))) = true := by
  obtain ⟨x, y, z⟩ := bl_list bs
  unfold SeqAt.shaped
  simp only [PyData.canLay0, PyData.depth, y, z]
  decide
theorem fm_const : ∀ l : List PV, l.filterMap (fun _ => some (PV.bl true)) = (List.replicate l.length true).map PV.bl
  | [] => rfl
  | x :: r => by
    have := fm_const r
    simp only [List.filterMap_cons, this]
    rfl
theorem same_ok (T : Tab tab) : ∀ (d k : Nat) {v : PV} {h : MH} {Q : Post} {E : XQ}, deepI d v → Q (.bl true) h → callW tab (d + k + 1) "_law_same" [v, v] h Q E := by
  intro d
  induction d with
  | zero =>
    intro k v h Q E dv q
    obtain ⟨i, rfl⟩ : ∃ i, v = .int i := by cases v <;> first | exact ⟨_, rfl⟩ | exact dv.elim
    exact same_int T q
  | succ d ih =>
    intro k v h Q E dv q
    have pv := deepI_pur _ _ dv
    rcases deepI_tup dv with ⟨i, rfl⟩ | ⟨xs, rfl, hl, hx⟩
    · exact same_int T q
    · refine call_body T.t__law_same rfl ?_
      rw [d__law_same, w_ife]
      simp only [startE]
      simp [isi_eq pv, tyB, isTb, isT]
      rw [w_ife]
      simp [isi_eq pv, tyB, isTb, isT]
      rw [w_nil]
      simp
      rw [w_ret]
      simp
      refine ⟨_, _, ⟨rfl, rfl⟩, fun _ _ => ?_⟩
      refine comp_pure (fun _ => some (.bl true)) (by simp) (fun x hx' R hR => ?_) ?_
      · rw [zip_self] at hx'
        simp only [List.map_map] at hx'
        obtain ⟨y, hy, rfl⟩ := List.mem_map.mp hx'
        simp
        have el : d + 1 + k = d + k + 1 := by omega
        rw [el]
        exact ih k (hx y hy) hR
      · have ef : ((xs.zip xs).map fun p => PV.tup [p.1, p.2]).filterMap (fun _ => some (PV.bl true)) = (List.replicate xs.length true).map PV.bl := by
          rw [fm_const, List.length_map, List.length_zip, Nat.min_self]
        rw [ef]
        have an : ((List.replicate xs.length true).map PV.bl).any (fun z => eqP z (.bl false)) = false := by
          rw [List.any_eq_false]
          intro x hx
          obtain ⟨b, hb, rfl⟩ := List.mem_map.mp hx
          rw [List.mem_replicate] at hb
          rw [hb.2]; decide
        refine ⟨by simp [PySem.sizeLine_eq]; omega, _, rfl, ⟨eqOk_bl, (bl_list _).1, bl_shaped _⟩, ?_⟩
        simp only [rd_b, an]
        exact ret_same q
structure Web (m : Nat) (c : List (Nat × Nat)) : Prop where
  lt : ∀ p ∈ c, p.1 < m ∧ p.2 < m
  up : c.Pairwise lt2
  len : c.length ≤ 50000
  sm : m ≤ 1000
  ne : ∀ p ∈ c, p.1 ≠ p.2
theorem rngV_get2 {lo hi : Int} {i : Nat} {x : PV} (h : (rngV lo hi)[i]? = some x) : x = .int (lo + (i : Nat)) ∧ i < (hi - lo).toNat := by
  unfold rngV at h
  rw [List.getElem?_map] at h
  by_cases z : i < (hi - lo).toNat
  · rw [List.getElem?_range z] at h
    exact ⟨by simpa using h.symm, z⟩
  · rw [List.getElem?_eq_none (by simpa using z)] at h; simp at h
def nth (os : List Nat) (i : Nat) : Nat := os.getD i 0
theorem nth_at {os : List Nat} {i : Nat} (h : i < os.length) : L2.atI (nats os) (i : Int) = some (.int (nth os i : Nat)) := by
  rw [MP.atI_nat]
  unfold nats nth
  rw [List.getElem?_map, List.getElem?_eq_getElem h, List.getD_eq_getElem?_getD, List.getElem?_eq_getElem h]
  rfl
theorem nth_eq {os : List Nat} {i : Nat} (h : i < os.length) : nth os i = os[i] := by
  unfold nth
  rw [List.getD_eq_getElem?_getD, List.getElem?_eq_getElem h]; rfl
structure Cells (os : List Nat) (m K I : Nat) (L : List (Nat × Nat)) : Prop where
  nd : L.Nodup
  len : L.length ≤ 2 * (K * m + I)
  mem : ∀ p ∈ L, ∃ i k, i < k ∧ k < m ∧ (k < K ∨ (k = K ∧ i < I)) ∧ (p = (nth os i, nth os k) ∨ p = (nth os k, nth os i))
theorem Cells.more {os : List Nat} {m K I : Nat} {L : List (Nat × Nat)} (po : os.Perm (List.range m)) (C : Cells os m K I L) (h1 : I < K) (h2 : K < m) : Cells os m K (I + 1) (L ++ [(nth os I, nth os K), (nth os K, nth os I)]) := by
  have lo : os.length = m := by rw [po.length_eq, List.length_range]
  have nd : os.Nodup := po.nodup_iff.mpr List.nodup_range
  have inj : ∀ i k, i < m → k < m → nth os i = nth os k → i = k := fun i k hi hk e => by
    rw [nth_eq (by omega), nth_eq (by omega)] at e
    have pw := List.pairwise_iff_getElem.mp nd
    rcases Nat.lt_trichotomy i k with h | h | h
    · exact (pw i k (by omega) (by omega) h e).elim
    · exact h
    · exact (pw k i (by omega) (by omega) h e.symm).elim
  have ne : nth os I ≠ nth os K := fun e => by have := inj I K (by omega) h2 e; omega
  have out : ∀ p ∈ L, p ≠ (nth os I, nth os K) ∧ p ≠ (nth os K, nth os I) := fun p hp => by
    obtain ⟨i, k, a, b, c, d⟩ := C.mem p hp
    constructor
    · rintro rfl
      rcases d with d | d
      · have e1 := inj _ _ (by omega) (by omega) (congrArg Prod.fst d)
        have e2 := inj _ _ (by omega) (by omega) (congrArg Prod.snd d)
        omega
      · have e1 := inj _ _ (by omega) (by omega) (congrArg Prod.fst d)
        have e2 := inj _ _ (by omega) (by omega) (congrArg Prod.snd d)
        omega
    · rintro rfl
      rcases d with d | d
      · have e1 := inj _ _ (by omega) (by omega) (congrArg Prod.fst d)
        have e2 := inj _ _ (by omega) (by omega) (congrArg Prod.snd d)
        omega
      · have e1 := inj _ _ (by omega) (by omega) (congrArg Prod.fst d)
        have e2 := inj _ _ (by omega) (by omega) (congrArg Prod.snd d)
        omega
  refine ⟨?_, ?_, fun p hp => ?_⟩
  · rw [List.nodup_append]
    refine ⟨C.nd, ?_, fun a ha b hb => ?_⟩
    · simp only [List.nodup_cons, List.mem_cons, List.not_mem_nil, or_false, not_false_eq_true, List.nodup_nil, and_true]
      intro e
      exact ne (congrArg Prod.fst e)
    · simp only [List.mem_cons, List.not_mem_nil, or_false] at hb
      rcases hb with rfl | rfl
      · exact (out a ha).1
      · exact (out a ha).2
  · have := C.len
    rw [List.length_append]; simp only [List.length_cons, List.length_nil]; omega
  · rcases List.mem_append.mp hp with hp | hp
    · obtain ⟨i, k, a, b, c, d⟩ := C.mem p hp
      exact ⟨i, k, a, b, by omega, d⟩
    · simp only [List.mem_cons, List.not_mem_nil, or_false] at hp
      exact ⟨I, K, h1, h2, by omega, hp⟩
theorem Cells.stay {os : List Nat} {m K I : Nat} {L : List (Nat × Nat)} (C : Cells os m K I L) : Cells os m K (I + 1) L :=
  ⟨C.nd, by have := C.len; omega, fun p hp => let ⟨i, k, a, b, c, d⟩ := C.mem p hp; ⟨i, k, a, b, by omega, d⟩⟩
theorem Cells.next {os : List Nat} {m K : Nat} {L : List (Nat × Nat)} (C : Cells os m K K L) (h : K < m) : Cells os m (K + 1) 0 L :=
  ⟨C.nd, by have := C.len; rw [Nat.add_mul, Nat.one_mul]; omega, fun p hp => let ⟨i, k, a, b, c, d⟩ := C.mem p hp; ⟨i, k, a, b, by omega, d⟩⟩
theorem Cells.web {os : List Nat} {m : Nat} {L : List (Nat × Nat)} (po : os.Perm (List.range m)) (hm : m ≤ 100) (C : Cells os m m 0 L) : Web m (L.mergeSort le2) := by
  have lo : os.length = m := by rw [po.length_eq, List.length_range]
  have lt : ∀ i < m, nth os i < m := fun i hi => by
    rw [nth_eq (by omega)]
    simpa using po.mem_iff.mp (List.getElem_mem (by omega : i < os.length))
  have inj : ∀ i k, i < k → k < m → nth os i ≠ nth os k := fun i k hi hk e => by
    rw [nth_eq (by omega), nth_eq (by omega)] at e
    exact List.pairwise_iff_getElem.mp (po.nodup_iff.mpr List.nodup_range) i k (by omega) (by omega) hi e
  refine ⟨fun p hp => ?_, sort2_lt C.nd, ?_, by omega, fun p hp => ?_⟩
  rotate_left 2
  · obtain ⟨i, k, a, b, c, d⟩ := C.mem p ((List.mergeSort_perm L le2).mem_iff.mp hp)
    rcases d with rfl | rfl
    · exact inj i k a b
    · exact (inj i k a b).symm
  · obtain ⟨i, k, a, b, c, d⟩ := C.mem p ((List.mergeSort_perm L le2).mem_iff.mp hp)
    rcases d with rfl | rfl
    · exact ⟨lt i (by omega), lt k b⟩
    · exact ⟨lt k b, lt i (by omega)⟩
  · rw [List.length_mergeSort]
    have := C.len
    have : m * m ≤ 100 * 100 := Nat.mul_le_mul hm hm
    omega
theorem web_ok (T : Tab tab) {p : Addr} {a b c : Int} {m : Nat} (hp : h p = some (.lst [.int a, .int b, .int c])) (h1 : 1 ≤ m) (h2 : m ≤ 100)
    (q : ∀ c a' b' c', Web m c → Q (webV m c) (h.put p (.lst [.int a', .int b', .int c']))) : callW tab (k + 3) "_law_web" [.loc p, .int (m : Nat)] h Q E := by
  refine call_body T.t__law_web rfl ?_
  rw [d__law_web, w_asg]
  simp only [startE]
  simp
  refine draw_ok (k := k + 1) T hp (by decide) (by decide) fun way a0 b0 c0 y0 y1 => ?_
  rw [w_asg]
  simp
  have rg : RngOk 1 (m : Int) := ⟨by decide, by decide, by omega, by omega⟩
  have sm : ∀ n : Nat, n ≤ 1000000 → n ≤ sizeLine := fun n hn => by rw [PySem.sizeLine_eq]; omega
  refine ⟨sm 1 (by decide), rg, by rw [PySem.sizeLine_eq]; omega, ?_⟩
  refine comp_inv (fun i acc g => ∃ (hs : List Int) (a b c : Int), acc = hs.map .int ∧ hs.length = i ∧ g = h.put p (.lst [.int a, .int b, .int c])) ⟨[], _, _, _, rfl, rfl, rfl⟩ (fun _ _ _ _ => by simp) ?_ ?_
  · rintro i x acc g R hx ⟨hs, a1, b1, c1, rfl, lh, rfl⟩ hR
    obtain ⟨rfl, hi⟩ := rngV_get2 hx
    refine draw_ok (k := k + 1) T put_at (by omega) (by omega) fun r a2 b2 c2 r0 r1 => ?_
    rw [put_put]
    exact hR _ _ ⟨hs ++ [r], _, _, _, by simp, by simp [lh], rfl⟩
  · rintro acc g ⟨hs, a1, b1, c1, rfl, lh, rfl⟩
    have lh : hs.length = m - 1 := by rw [lh, rngV_len]; omega
    refine ⟨sm _ (by rw [List.length_map]; omega), sm _ (by rw [List.length_map]; omega), ?_⟩
    rw [w_asg]
    simp
    refine draw_ok (k := k + 1) T put_at (by omega) (by omega) fun cut a2 b2 c2 r20 r21 => ?_
    simp
    refine draw_ok (k := k + 1) T put_at (by decide) (by decide) fun wd a3 b3 c3 r30 r31 => ?_
    simp
    refine ⟨sm 4 (by decide), ?_⟩
    rw [w_asg]
    simp
    refine order_ok (k := k) T put_at h1 (by omega) fun os a4 b4 c4 po => ?_
    have lo : os.length = m := by rw [po.length_eq, List.length_range]
    rw [w_asg]
    simp
    rw [w_for]
    simp
    refine ⟨rg, by rw [PySem.sizeLine_eq]; omega, ?_⟩
    refine for_all (fun i1 e g => ∃ w4 w8 L a b c, e = [some (.loc p), some (.int (m : Nat)), some (.int way), some (.lst (PV.int 0 :: hs.map .int)), w4, some (.tup [.int (m : Nat), .int cut, .int (1 + wd), .lst (PV.int 0 :: hs.map .int)]), some (.tup (nats os)), some (.lst (L.map prV)), w8] ∧
      g = h.put p (.lst [.int a, .int b, .int c]) ∧ Cells os m (1 + i1) 0 L) ⟨_, _, [], _, _, _, rfl, rfl, ⟨List.nodup_nil, Nat.zero_le _, fun _ z => by cases z⟩⟩ (fun _ _ _ _ => by simp) ?_ ?_
    · rintro i1 x e g N hx ⟨w4, w8, L, a5, b5, c5, rfl, rfl, C⟩ hN
      obtain ⟨rfl, hi1⟩ := rngV_get2 hx
      obtain ⟨K, hK⟩ : ∃ K, K = 1 + i1 := ⟨_, rfl⟩
      have eK : 1 + (i1 : Int) = (K : Nat) := by omega
      have hKm : K < m := by omega
      rw [← hK] at C
      rw [eK]
      simp
      rw [w_for]
      simp
      obtain ⟨g1, g2, g3⟩ := rng_ok (m := K) (by omega)
      refine ⟨g1, g2, ?_⟩
      refine for_all (fun i2 e g => ∃ w8 L a b c, e = [some (.loc p), some (.int (m : Nat)), some (.int way), some (.lst (PV.int 0 :: hs.map .int)), some (.int (K : Nat)), some (.tup [.int (m : Nat), .int cut, .int (1 + wd), .lst (PV.int 0 :: hs.map .int)]), some (.tup (nats os)), some (.lst (L.map prV)), w8] ∧
        g = h.put p (.lst [.int a, .int b, .int c]) ∧ Cells os m K i2 L) ⟨_, _, _, _, _, rfl, rfl, C⟩ (fun _ _ _ _ => by simp) ?_ ?_
      · rintro i2 x e g N2 hx2 ⟨w8, L, a6, b6, c6, rfl, rfl, C⟩ hN2
        obtain ⟨rfl, hi2⟩ := rngV_get2 hx2
        have hi2 : i2 < K := by omega
        have e0 : (0 : Int) + (i2 : Int) = (i2 : Nat) := by omega
        rw [e0]
        simp
        rw [w_ife]
        simp
        have n1 := nth_at (os := os) (i := i2) (by omega)
        have n2 := nth_at (os := os) (i := K) (by omega)
        have lL : L.length ≤ 200000 := by
          have := C.len
          have : K * m ≤ 100 * 100 := Nat.mul_le_mul (by omega) h2
          omega
        refine there_ok (k := k) (hs := 0 :: hs) (m := m) T put_at y0 y1 (by omega) (by omega) (by omega) (by omega) (by omega) (by simp; omega) fun t a7 b7 c7 => ?_
        rw [put_put]
        simp only [tru_b]
        cases t with
        | true =>
          simp
          rw [w_asg]
          simp [n1, n2]
          refine ⟨sm 2 (by decide), sm _ (by omega), ?_⟩
          first | simp only [w_nil] | skip
          refine hN2 _ _ ⟨some (.int (i2 : Nat)), L ++ [(nth os i2, nth os K), (nth os K, nth os i2)], _, _, _, ?_, rfl, C.more po hi2 hKm⟩
          simp [prV]
        | false =>
          simp only [w_nil]
          simp
          exact hN2 _ _ ⟨_, L, _, _, _, rfl, rfl, C.stay⟩
      · rintro e g ⟨w8, L, a6, b6, c6, rfl, rfl, C⟩
        have em : (rngV 0 (K : Int)).length = K := by rw [rngV_len]; omega
        rw [em] at C
        simp only [w_nil]
        refine hN _ _ ⟨_, _, L, _, _, _, rfl, rfl, ?_⟩
        have := C.next hKm
        rwa [hK, Nat.add_assoc] at this
    · rintro e g ⟨w4, w8, L, a5, b5, c5, rfl, rfl, C⟩
      have em : 1 + (rngV 1 (m : Int)).length = m := by rw [rngV_len]; omega
      rw [em] at C
      have W := C.web po h2
      simp
      rw [w_ret]
      simp
      intro hl
      refine ⟨sortOk_prs L, by simpa using hl, fun _ => ⟨sm 2 (by decide), ?_⟩⟩
      rw [sort_prs]
      exact ret_same (q _ _ _ _ W)
end WB
set_option Elab.async false
set_option linter.all false
set_option maxRecDepth 100000
set_option maxHeartbeats 2000000
namespace PT
open PySem L2 MP
def d__law_pattern : Df := ⟨["deck", "many", "web", "some", "cell"], 2, .cons (.asg (.name 2) (.call "_law_web" (.cons (.var 0) (.cons (.var 1) .nil)))) (.cons (.asg (.name 3) (.call "_law_draw" (.cons (.var 0) (.cons (.int 3) .nil)))) (.cons (.ret (.tup (.cons (.var 1) (.cons (.con .tuple false (.seq (.comp false (.var 4) (.name 4) (.seq (.idx (.var 2) (.int 1))) (.some (.or (.cmp .Eq (.var 3) (.int 0)) (.cmp .Gt (.call "_law_draw" (.cons (.var 0) (.cons (.int 3) .nil))) (.int 0))))))) .nil)))) .nil))⟩
def d__law_table : Df := ⟨["deck", "many", "own", "pattern", "cells", "cell", "place"], 2, .cons (.asg (.name 2) (.call "_law_draw" (.cons (.var 0) (.cons (.int 4) .nil)))) (.cons (.asg (.name 3) (.call "_law_pattern" (.cons (.var 0) (.cons (.var 1) .nil)))) (.cons (.asg (.name 4) (.comp true (.bin .Add (.var 5) (.tup (.cons (.call "_law_some_worth" (.cons (.var 0) .nil)) .nil))) (.name 5) (.seq (.idx (.var 3) (.int 1))) .none)) (.cons (.for (.name 6) (.rng1 (.var 1)) (.cons (.ife (.cmp .Lt (.call "_law_draw" (.cons (.var 0) (.cons (.int 4) .nil))) (.bin .Add (.var 2) (.int 1))) (.cons (.ex (.meth (.var 4) .append (.cons (.tup (.cons (.var 6) (.cons (.var 6) (.cons (.call "_law_some_worth" (.cons (.var 0) .nil)) .nil)))) .nil))) .nil) (.nil)) .nil)) (.cons (.ret (.tup (.cons (.var 1) (.cons (.con .tuple false (.seq (.con .sorted false (.seq (.var 4))))) .nil)))) .nil))))⟩
variable {tab : Str → Option Df} {k : Nat} {h : MH} {Q : Post} {E : XQ}
structure Tab (tab : Str → Option Df) : Prop where
  wb : WB.Tab tab
  sw : SW.Tab tab
  t_pattern : tab "_law_pattern" = some d__law_pattern
  t_table : tab "_law_table" = some d__law_table
open WB (Web webV)
theorem _root_.WB.Web.sub {m : Nat} {c l : List (Nat × Nat)} (W : Web m c) (s : l.Sublist c) : Web m l :=
  ⟨fun p hp => W.lt p (s.subset hp), W.up.sublist s, Nat.le_trans s.length_le W.len, W.sm, fun p hp => W.ne p (s.subset hp)⟩
theorem sub_more {α : Type} {l c : List α} {i : Nat} {x : α} (s : l.Sublist (c.take i)) (e : c[i]? = some x) : (l ++ [x]).Sublist (c.take (i + 1)) ∧ l.Sublist (c.take (i + 1)) := by
  rw [List.take_add_one, e]
  exact ⟨s.append (List.Sublist.refl _), s.trans (List.sublist_append_left _ _)⟩
theorem pattern_ok (T : Tab tab) {p : Addr} {a b c : Int} {m : Nat} (hp : h p = some (.lst [.int a, .int b, .int c])) (h1 : 1 ≤ m) (h2 : m ≤ 100)
    (q : ∀ c a' b' c', Web m c → Q (webV m c) (h.put p (.lst [.int a', .int b', .int c']))) : callW tab (k + 4) "_law_pattern" [.loc p, .int (m : Nat)] h Q E := by
  refine call_body T.t_pattern rfl ?_
  rw [d__law_pattern, w_asg]
  simp only [startE]
  simp
  refine WB.web_ok (k := k) T.wb hp h1 h2 fun cs a1 b1 c1 W => ?_
  rw [w_asg]
  simp
  refine draw_ok (k := k + 2) T.wb.t__law_draw put_at (by decide) (by decide) fun so a2 b2 c2 s0 s1 => ?_
  rw [w_ret]
  simp [webV]
  intro hl
  refine comp_inv (fun i acc g => ∃ l a b c, acc = l.map prV ∧ l.Sublist (cs.take i) ∧ g = h.put p (.lst [.int a, .int b, .int c])) ⟨[], _, _, _, rfl, List.nil_sublist _, rfl⟩ (fun _ _ _ _ => by simp) ?_ ?_
  · rintro i x acc g R hx ⟨l, a, b, c, rfl, sl, rfl⟩ hR
    rw [List.getElem?_map] at hx
    cases e : cs[i]? with
    | none => rw [e] at hx; cases hx
    | some pr =>
      rw [e] at hx
      obtain rfl : prV pr = x := Option.some.inj hx
      obtain ⟨m1, m2⟩ := sub_more sl e
      split
      · exact hR _ _ ⟨l ++ [pr], _, _, _, by simp, m1, rfl⟩
      · refine draw_ok (k := k + 2) T.wb.t__law_draw put_at (by decide) (by decide) fun r a b c r0 r1 => ?_
        simp
        split
        · exact hR _ _ ⟨l ++ [pr], _, _, _, by simp, m1, rfl⟩
        · exact hR _ _ ⟨l, _, _, _, by simp, m2, rfl⟩
  · rintro acc g ⟨l, a, b, c, rfl, sl, rfl⟩
    have sl : l.Sublist cs := sl.trans (List.take_sublist _ _)
    have ll : (l.map prV).length ≤ sizeLine := by rw [List.length_map]; exact szl (Nat.le_trans sl.length_le (Nat.le_trans W.len (by decide)))
    exact ⟨ll, fun _ => ⟨szl (by decide), ret_same (q l _ _ _ (W.sub sl))⟩⟩
abbrev Tr := Nat × Nat × Int × Int
def woV (t : Tr) : PV := .tup [.int t.2.2.1, .int t.2.2.2]
def trV (t : Tr) : PV := .tup [.int (t.1 : Nat), .int (t.2.1 : Nat), woV t]
def key (t : Tr) : Nat × Nat := (t.1, t.2.1)
structure Table (m : Nat) (c : List Tr) : Prop where
  nd : (c.map key).Nodup
  lt : ∀ t ∈ c, t.1 < m ∧ t.2.1 < m
  wo : ∀ t ∈ c, t.2.2.1.natAbs ≤ 10 ^ 9 ∧ 1 ≤ t.2.2.2 ∧ t.2.2.2 ≤ 10 ^ 9 ∧ Int.gcd t.2.2.1 t.2.2.2 = 1
  len : c.length ≤ 60000
  sm : m ≤ 1000
def tabV (m : Nat) (c : List Tr) : PV := .tup [.int (m : Nat), .tup (c.map trV)]
def leT (s t : Tr) : Bool := leP (trV s) (trV t)
theorem sort_trs (c : List Tr) : (c.map trV).mergeSort leP = (c.mergeSort leT).map trV := (List.map_mergeSort (f := trV) (r := leT) fun a _ b _ => (rfl : leT a b = leP (trV a) (trV b))).symm
theorem toDs_map {α : Type} (f : α → PV) (l : List α) : toDs (l.map f) = l.map fun x => toD (f x) := by rw [toDs_eq, List.map_map]; rfl
theorem purs_map {α : Type} {f : α → PV} (hf : ∀ x, pur (f x) = true) (l : List α) : purs (l.map f) = true := by
  rw [purs_eq, List.all_eq_true]
  intro x hx
  obtain ⟨y, _, rfl⟩ := List.mem_map.mp hx
  exact hf y
theorem sortOk_trs (c : List Tr) : sortOk (c.map trV) := by
  refine ⟨purs_map (fun _ => rfl) c, ?_, ?_, fun x hx => ?_⟩
  · rw [toDs_map]
    exact PySem.W.AllAlike.of fun b b' => rfl
  · rw [toDs_map]
    exact PySem.W.Sortable.tuples fun b => ⟨_, _, rfl⟩
  · obtain ⟨p, _, rfl⟩ := List.mem_map.mp hx
    show (PyData.tuple [.int _, .int _, .tuple [.int _, .int _]]).depth ≤ 64
    simp [PyData.depth, PyData.depthAll]
theorem Table.sort {m : Nat} {c : List Tr} (T : Table m c) : Table m (c.mergeSort leT) := by
  have p := List.mergeSort_perm c leT
  exact ⟨((p.map key).nodup_iff).mpr T.nd, fun t ht => T.lt t (p.mem_iff.mp ht), fun t ht => T.wo t (p.mem_iff.mp ht), by rw [p.length_eq]; exact T.len, T.sm⟩
def le4 (s t : Tr) : Prop := s.1 < t.1 ∨ (s.1 = t.1 ∧ (s.2.1 < t.2.1 ∨ (s.2.1 = t.2.1 ∧ (s.2.2.1 < t.2.2.1 ∨ (s.2.2.1 = t.2.2.1 ∧ s.2.2.2 ≤ t.2.2.2)))))
theorem leT_4 (s t : Tr) : leT s t = true ↔ le4 s t := by
  have e0 : leT s t = !PySem.W.dataLt (.tuple [.int (t.1 : Nat), .int (t.2.1 : Nat), .tuple [.int t.2.2.1, .int t.2.2.2]]) (.tuple [.int (s.1 : Nat), .int (s.2.1 : Nat), .tuple [.int s.2.2.1, .int s.2.2.2]]) := rfl
  rw [e0, PySem.W.dataLt_tuple, PySem.W.dataLt_cons (by simp [PySem.W.alike]), PySem.W.dataLt_cons (by simp [PySem.W.alike]), PySem.W.dataLt_cons (by simp [PySem.W.alike, PySem.W.alikeAll]), PySem.W.dataLt_int, PySem.W.dataLt_int, PySem.W.dataLt_ii]
  have er : PyProof.Rows.lexLt PyProof.Rows.itemOrd (PySem.W.keyToksAll []) (PySem.W.keyToksAll []) = false := rfl
  rw [er]
  simp only [PyData.eqv, PyData.eqvAll, beq_iff_eq, Bool.and_true, Bool.and_eq_true, Bool.not_eq_true']
  unfold le4
  by_cases h1 : (t.1 : Int) = s.1
  · rw [if_pos h1]
    by_cases h2 : (t.2.1 : Int) = s.2.1
    · rw [if_pos h2]
      by_cases h3 : t.2.2.1 = s.2.2.1 ∧ t.2.2.2 = s.2.2.2
      · rw [if_pos h3]
        simp
        omega
      · rw [if_neg h3]
        simp only [decide_eq_false_iff_not]
        omega
    · rw [if_neg h2]
      simp only [decide_eq_false_iff_not]
      omega
  · rw [if_neg h1]
    simp only [decide_eq_false_iff_not]
    omega
theorem leT_lt {s t : Tr} (h : leT s t = true) (n : key s ≠ key t) : lt2 (key s) (key t) := by
  rw [leT_4] at h
  unfold le4 at h
  unfold lt2 key
  have n' : ¬ (s.1 = t.1 ∧ s.2.1 = t.2.1) := fun z => n (Prod.ext z.1 z.2)
  simp only
  omega
theorem leT_total (s t : Tr) : (leT s t || leT t s) = true := by
  rw [Bool.or_eq_true, leT_4, leT_4]
  unfold le4
  omega
theorem leT_trans (a b c : Tr) (h1 : leT a b = true) (h2 : leT b c = true) : leT a c = true := by
  rw [leT_4] at *
  unfold le4 at *
  omega
theorem sort_up {c : List Tr} (nd : (c.map key).Nodup) : ((c.mergeSort leT).map key).Pairwise lt2 := by
  have h1 := List.pairwise_mergeSort (le := leT) leT_trans leT_total c
  have h2 : ((c.mergeSort leT).map key).Nodup := (((List.mergeSort_perm c leT).map key).nodup_iff).mpr nd
  rw [List.nodup_iff_pairwise_ne, List.pairwise_map] at h2
  rw [List.pairwise_map]
  exact (h1.and h2).imp fun {a b} h => leT_lt h.1 h.2
theorem table_ok (T : Tab tab) {p : Addr} {a b c : Int} {m : Nat} (hp : h p = some (.lst [.int a, .int b, .int c])) (h1 : 1 ≤ m) (h2 : m ≤ 100)
    (q : ∀ c h' a' b' c', Table m c → (c.map key).Pairwise lt2 → h' p = some (.lst [.int a', .int b', .int c']) → Q (tabV m c) h') : callW tab (k + 6) "_law_table" [.loc p, .int (m : Nat)] h Q E := by
  refine call_body T.t_table rfl ?_
  rw [d__law_table, w_asg]
  simp only [startE]
  simp
  refine draw_ok (k := k + 4) T.wb.t__law_draw hp (by decide) (by decide) fun own a1 b1 c1 o0 o1 => ?_
  rw [w_asg]
  simp
  refine pattern_ok (k := k + 1) T put_at h1 h2 fun cs a2 b2 c2 W => ?_
  rw [w_asg]
  simp [webV]
  intro hl
  refine comp_inv (fun i acc g => ∃ c' a b c, acc = c'.map trV ∧ c'.map key = cs.take i ∧ (∀ t ∈ c', t.2.2.1.natAbs ≤ 10 ^ 9 ∧ 1 ≤ t.2.2.2 ∧ t.2.2.2 ≤ 10 ^ 9 ∧ Int.gcd t.2.2.1 t.2.2.2 = 1) ∧ g = h.put p (.lst [.int a, .int b, .int c])) ⟨[], _, _, _, rfl, rfl, (fun t ht => nomatch ht), rfl⟩ (fun _ _ _ _ => by simp) ?_ ?_
  · rintro i x acc g R hx ⟨l, a, b, c, rfl, sl, wo, rfl⟩ hR
    rw [List.getElem?_map] at hx
    cases e : cs[i]? with
    | none => rw [e] at hx; cases hx
    | some pr =>
      rw [e] at hx
      obtain rfl : prV pr = x := Option.some.inj hx
      refine SW.some_worth_ok (k := k + 2) T.sw put_at fun X Y a b c hX hY hY2 hG => ?_
      simp [prV]
      refine ⟨szl (by decide), szl (by decide), hR _ _ ⟨l ++ [(pr.1, pr.2, X, Y)], _, _, _, by simp [trV, woV], ?_, ?_, rfl⟩⟩
      · rw [List.map_append, sl, List.take_add_one, e]; rfl
      · intro t ht
        rcases List.mem_append.mp ht with ht | ht
        · exact wo t ht
        · simp only [List.mem_cons, List.not_mem_nil, or_false] at ht
          subst ht
          exact ⟨hX, hY, hY2, hG⟩
  · rintro acc g ⟨l, a, b, c, rfl, sl, wo, rfl⟩
    have sl : l.map key = cs := by rw [List.length_map, List.take_length] at sl; exact sl
    have ln : l.length = cs.length := by rw [← sl, List.length_map]
    have wl := W.len
    refine ⟨by rw [List.length_map]; exact szl (by omega), fun s hs => ?_⟩
    have ns : s ≠ p := fun z => by subst z; rw [put_at] at hs; cases hs
    rw [w_for]
    simp
    obtain ⟨g1, g2, g3⟩ := rng_ok (m := m) (by omega)
    refine ⟨g1, g2, ?_⟩
    refine for_all (fun i e g => ∃ w5 w6 c' a b c, e = [some (.loc p), some (.int (m : Nat)), some (.int own), some (.tup [.int (m : Nat), .tup (cs.map prV)]), some (.loc s), w5, w6] ∧ (c'.map key).Nodup ∧
        (∀ t ∈ c', (t.1 < m ∧ t.2.1 < m) ∧ (t.1 = t.2.1 → t.1 < i) ∧ t.2.2.1.natAbs ≤ 10 ^ 9 ∧ 1 ≤ t.2.2.2 ∧ t.2.2.2 ≤ 10 ^ 9 ∧ Int.gcd t.2.2.1 t.2.2.2 = 1) ∧ c'.length ≤ 50000 + i ∧ g p = some (.lst [.int a, .int b, .int c]) ∧ g s = some (.lst (c'.map trV)))
      ⟨_, _, l, _, _, _, rfl, ?_, ?_, by omega, (put_off ns.symm).trans put_at, put_at⟩ (fun _ _ _ _ => by simp) ?_ ?_
    · rw [sl]
      exact List.Pairwise.imp (fun {x y} (h : lt2 x y) (e : x = y) => lt2_irr x (by rw [← e] at h; exact h)) W.up
    · intro t ht
      have hm : key t ∈ cs := by rw [← sl]; exact List.mem_map.mpr ⟨t, ht, rfl⟩
      exact ⟨W.lt _ hm, fun z => (W.ne _ hm z).elim, wo t ht⟩
    · rintro i x e g N hx ⟨w5, w6, c', a, b, c, rfl, nd, ct, lc, hg, hs'⟩ hN
      obtain ⟨rfl, hi⟩ := rngV_get hx
      simp
      rw [w_ife]
      simp
      refine draw_ok (k := k + 4) T.wb.t__law_draw hg (by decide) (by decide) fun r a b c r0 r1 => ?_
      simp
      split
      · rw [w_ex]
        simp
        refine ⟨⟨_, (put_off ns).trans hs'⟩, ?_⟩
        refine SW.some_worth_ok (k := k + 2) T.sw put_at fun X Y a b c hX hY hY2 hG => ?_
        simp [methW, (put_off ns).trans hs']
        refine ⟨szl (by decide), by rw [PySem.sizeLine_eq]; omega, ?_⟩
        simp only [w_nil]
        refine hN _ _ ⟨_, _, c' ++ [(i, i, X, Y)], a, b, c, rfl, ?_, ?_, ?_, (put_off ns.symm).trans put_at, ?_⟩
        · rw [List.map_append, List.nodup_append]
          refine ⟨nd, by simp, fun x hx y hy z => ?_⟩
          subst z
          obtain ⟨t, ht, rfl⟩ := List.mem_map.mp hx
          simp only [List.map_cons, List.map_nil, List.mem_cons, List.not_mem_nil, or_false] at hy
          have h1 : t.1 = i := congrArg Prod.fst hy
          have h2 : t.2.1 = i := congrArg Prod.snd hy
          have := (ct t ht).2.1 (h1.trans h2.symm)
          omega
        · intro t ht
          rcases List.mem_append.mp ht with ht | ht
          · obtain ⟨a1, a2, a3⟩ := ct t ht
            exact ⟨a1, fun z => Nat.lt_succ_of_lt (a2 z), a3⟩
          · simp only [List.mem_cons, List.not_mem_nil, or_false] at ht
            subst ht
            exact ⟨⟨hi, hi⟩, fun _ => Nat.lt_succ_self _, hX, hY, hY2, hG⟩
        · rw [List.length_append]; simp; omega
        · rw [put_at, List.map_append]; rfl
      · simp only [w_nil]
        refine hN _ _ ⟨_, _, c', a, b, c, rfl, nd, fun t ht => ?_, by omega, put_at, (put_off ns).trans hs'⟩
        obtain ⟨a1, a2, a3⟩ := ct t ht
        exact ⟨a1, fun z => Nat.lt_succ_of_lt (a2 z), a3⟩
    · rintro e g ⟨w5, w6, c', a, b, c, rfl, nd, ct, lc, hg, hs'⟩
      have lm : (rngV 0 (m : Int)).length ≤ 100 := by rw [rngV_len]; omega
      have Tb : Table m c' := ⟨nd, fun t ht => (ct t ht).1, fun t ht => (ct t ht).2.2, by omega, by omega⟩
      simp
      rw [w_ret]
      simp
      refine ⟨_, srcV_loc hs', fun _ => ⟨sortOk_trs _, by rw [List.length_map]; exact szl (by omega), fun _ => ⟨szl (by decide), ?_⟩⟩⟩
      show retW Q (PV.tup [.int (m : Nat), .tup ((c'.map trV).mergeSort leP)]) g
      rw [sort_trs]
      exact ret_same (q _ _ _ _ _ Tb.sort (sort_up Tb.nd) hg)
end PT
set_option Elab.async false
set_option linter.all false
set_option maxRecDepth 100000
set_option maxHeartbeats 2000000
namespace IW
open PySem L2 MP
variable {tab : Str → Option Df} {k : Nat} {h : MH} {Q : Post} {E : XQ}
def d_divisor_of : Df := ⟨["one", "other"], 2, .cons (.asg (.name 0) (.blt .abs (.cons (.var 0) .nil))) (.cons (.asg (.name 1) (.blt .abs (.cons (.var 1) .nil))) (.cons (.while (.cmp .NotEq (.var 1) (.int 0)) (.cons (.par 0 1 (.var 1) (.bin .Mod (.var 0) (.var 1))) .nil)) (.cons (.ret (.var 0)) .nil)))⟩
def d_is_worth : Df := ⟨["thing"], 1, .cons (.ife (.or (.not (.isi (.var 0) "tuple")) (.cmp .NotEq (.blt .len (.cons (.var 0) .nil)) (.int 2))) (.cons (.ret (.bl false)) .nil) (.nil)) (.cons (.ife (.or (.not (.call "is_whole" (.cons (.idx (.var 0) (.int 0)) .nil))) (.or (.not (.call "is_whole" (.cons (.idx (.var 0) (.int 1)) .nil))) (.cmp .Lt (.idx (.var 0) (.int 1)) (.int 1)))) (.cons (.ret (.bl false)) .nil) (.nil)) (.cons (.ret (.cmp .Eq (.call "divisor_of" (.cons (.idx (.var 0) (.int 0)) (.cons (.idx (.var 0) (.int 1)) .nil))) (.int 1))) .nil))⟩
theorem absI (a : Int) : (if a < 0 then -a else a) = ((a.natAbs : Nat) : Int) := by split <;> omega
theorem divisor_ok (ht : tab "divisor_of" = some d_divisor_of) {a b : Int} (q : Q (.int (Int.gcd a b)) h) : callW tab (k + 1) "divisor_of" [.int a, .int b] h Q E := by
  refine call_body ht rfl ?_
  rw [d_divisor_of, w_asg]
  simp only [startE]
  simp
  rw [w_asg]
  simp
  rw [w_while]
  rw [absI, absI]
  refine ⟨_, while_inv (fun n e h' => h' = h ∧ ∃ x y : Nat, e = [some (.int x), some (.int y)] ∧ y = n ∧ Nat.gcd x y = Int.gcd a b) ?_ ?_ ?_ b.natAbs _ _ ⟨rfl, a.natAbs, b.natAbs, rfl, rfl, rfl⟩⟩
  · rintro n e h' N ⟨rfl, x, y, rfl, rfl, g⟩ st
    simp
    by_cases z : y = 0
    · subst z
      rw [if_pos rfl]
      rw [w_ret]
      simp
      rw [Nat.gcd_zero_right] at g
      subst g
      exact ret_same q
    · rw [if_neg z, w_par]
      simp
      have yp : 0 < y := Nat.pos_of_ne_zero z
      exact ⟨yp, w_end (st _ _ (x % y) (Nat.mod_lt _ yp) ⟨rfl, y, x % y, by simp, rfl, by rw [← g, Nat.gcd_comm x y, Nat.gcd_rec y x, Nat.gcd_comm]⟩)⟩
  · intro e h Q Q' w q; exact wpT_mono (callW_mono _ _) (fun _ _ q => w _ _ q) q
  · intro e h D D' le q; exact wpSs_mono (callW_mono _ _) le q
def isW : PV → Bool
  | .tup [.int a, .int b] => decide (0 < b) && decide (Int.gcd a b = 1)
  | _ => false
theorem is_worth_ok (ht : tab "is_worth" = some d_is_worth) (hw : tab "is_whole" = some MP.d_is_whole) (hd : tab "divisor_of" = some d_divisor_of) {v : PV} (hv : pur v = true) (q : Q (.bl (isW v)) h) : callW tab (k + 2) "is_worth" [v] h Q E := by
  refine call_body ht rfl ?_
  rw [d_is_worth, w_ife]
  simp only [startE]
  simp [isi_eq hv, tyB]
  by_cases t : isTb "tuple" v = true
  · obtain ⟨xs, rfl⟩ : ∃ xs, v = .tup xs := by cases v <;> first | exact ⟨_, rfl⟩ | (cases t; done) | (cases hv; done) | (cases pv.pu; done)
    simp [t]
    by_cases l : xs.length = 2
    · obtain ⟨x, y, rfl⟩ : ∃ x y, xs = [x, y] := by
        match xs, l with
        | [x, y], _ => exact ⟨x, y, rfl⟩
      simp [pur, purs_eq] at hv
      simp
      rw [w_nil]
      dsimp only
      rw [w_ife]
      simp [idxW]
      refine is_whole_ok hw hv.1 ?_
      simp
      have out : isW (.tup [x, y]) = false → wpSs (callW tab (k + 1)) (fun e x h' => retX E e h') (Ss.cons (S.ret (MP.E.bl false)) Ss.nil) [some (PV.tup [x, y])] h
          { nx := fun env' h' => wpSs (callW tab (k + 1)) (fun e x h' => retX E e h') (Ss.cons (S.ret (MP.E.cmp CmpOp.Eq (MP.E.call (Str.ofString "divisor_of") (Es.cons ((MP.E.var 0).idx (MP.E.int 0)) (Es.cons ((MP.E.var 0).idx (MP.E.int 1)) Es.nil))) (MP.E.int 1))) Ss.nil) env' h' { nx := fun x h' => retW Q PV.non h', rt := retW Q }, rt := retW Q } := fun no => by
        rw [no] at q
        rw [w_ret]
        simp
        exact ret_same q
      split
      · rename_i hx
        refine is_whole_ok hw hv.2 ?_
        simp
        split
        · rename_i hy
          obtain ⟨a, rfl⟩ : ∃ a, x = .int a := by cases x <;> first | exact ⟨_, rfl⟩ | cases hx
          obtain ⟨b, rfl⟩ : ∃ b, y = .int b := by cases y <;> first | exact ⟨_, rfl⟩ | cases hy
          simp
          split
          · rename_i hb
            exact out (by simp [isW]; omega)
          · rename_i hb
            rw [w_nil]
            dsimp only
            rw [w_ret]
            simp [idxW]
            refine divisor_ok hd ?_
            simp
            have e : isW (.tup [.int a, .int b]) = decide ((Int.gcd a b : Int) = 1) := by
              have b0 : 0 < b := by omega
              simp [isW, b0]
              omega
            rw [e] at q
            exact ret_same q
        · rename_i hy
          exact out (by cases x <;> cases y <;> first | rfl | exact absurd rfl hy)
      · rename_i hx
        exact out (by cases x <;> first | rfl | exact absurd rfl hx)
    · have no : isW (.tup xs) = false := by
        match xs, l with
        | [], _ => rfl
        | [_], _ => simp [isW]
        | [_, _], l => exact absurd rfl l
        | _ :: _ :: _ :: _, _ => simp [isW]
      rw [no] at q
      have l' : ¬ (xs.length : Int) = 2 := by omega
      simp [l, l']
      rw [w_ret]
      simp
      exact ret_same q
  · have no : isW v = false := by cases v <;> first | rfl | exact absurd rfl t
    simp [t]
    rw [no] at q
    rw [w_ret]
    simp
    exact ret_same q
end IW
set_option Elab.async false
set_option linter.all false
set_option maxRecDepth 100000
set_option maxHeartbeats 2000000
namespace MP
open PySem L2 TL
def d_worth_word : Df := ⟨["worth", "top", "bottom"], 1, .cons (.asg (.tup2 (.name 1) (.name 2)) (.var 0)) (.cons (.ife (.cmp .Eq (.var 2) (.int 1)) (.cons (.ret (.blt .str (.cons (.var 1) .nil))) .nil) (.nil)) (.cons (.ret (.bin .Add (.bin .Add (.blt .str (.cons (.var 1) .nil)) (.str "/")) (.blt .str (.cons (.var 2) .nil)))) .nil))⟩
def d_top_in : Df := ⟨["word", "number"], 1, .cons (.ife (.cmp .NotEq (.slc (.var 0) .none (.some (.int 1))) (.str "-")) (.cons (.ret (.call "number_in" (.cons (.var 0) .nil))) .nil) (.nil)) (.cons (.asg (.name 1) (.call "number_in" (.cons (.slc (.var 0) (.some (.int 1)) .none) .nil))) (.cons (.ife (.cmp .Eq (.var 1) (.int 0)) (.cons (.raise "NoText") .nil) (.nil)) (.cons (.ret (.bin .Sub (.int 0) (.var 1))) .nil)))⟩
def d_worth_in : Df := ⟨["word", "pieces", "worth"], 1, .cons (.asg (.name 1) (.split false (.var 0) (.str "/"))) (.cons (.ife (.cmp .Gt (.blt .len (.cons (.var 1) .nil)) (.int 2)) (.cons (.raise "NoText") .nil) (.nil)) (.cons (.asg (.name 2) (.tup (.cons (.call "top_in" (.cons (.idx (.var 1) (.int 0)) .nil)) (.cons (.int 1) .nil)))) (.cons (.ife (.cmp .Eq (.blt .len (.cons (.var 1) .nil)) (.int 2)) (.cons (.asg (.name 2) (.tup (.cons (.idx (.var 2) (.int 0)) (.cons (.call "number_in" (.cons (.idx (.var 1) (.int 1)) .nil)) .nil)))) (.cons (.ife (.or (.cmp .Eq (.idx (.var 2) (.int 1)) (.int 1)) (.not (.call "is_worth" (.cons (.var 2) .nil)))) (.cons (.raise "NoText") .nil) (.nil)) .nil)) (.nil)) (.cons (.ret (.var 2)) .nil))))⟩
def d_cell_in : Df := ⟨["words"], 1, .cons (.ife (.cmp .NotEq (.blt .len (.cons (.var 0) .nil)) (.int 3)) (.cons (.raise "NoText") .nil) (.nil)) (.cons (.ret (.tup (.cons (.call "number_in" (.cons (.idx (.var 0) (.int 0)) .nil)) (.cons (.call "number_in" (.cons (.idx (.var 0) (.int 1)) .nil)) (.cons (.call "worth_in" (.cons (.idx (.var 0) (.int 2)) .nil)) .nil))))) .nil)⟩
def d_show_pattern : Df := ⟨["pattern", "many", "cells", "i", "k"], 1, .cons (.asg (.tup2 (.name 1) (.name 2)) (.var 0)) (.cons (.ret (.join (.str "\n") (.bin .Add (.lst false (.cons (.bin .Add (.str "places ") (.blt .str (.cons (.var 1) .nil))) .nil)) (.comp false (.bin .Add (.bin .Add (.blt .str (.cons (.var 3) .nil)) (.str " ")) (.blt .str (.cons (.var 4) .nil))) (.tup2 (.name 3) (.name 4)) (.seq (.var 2)) .none)))) .nil)⟩
def d_show_table : Df := ⟨["table", "many", "cells", "lines", "i", "k", "worth"], 1, .cons (.asg (.tup2 (.name 1) (.name 2)) (.var 0)) (.cons (.asg (.name 3) (.comp false (.bin .Add (.bin .Add (.bin .Add (.bin .Add (.blt .str (.cons (.var 4) .nil)) (.str " ")) (.blt .str (.cons (.var 5) .nil))) (.str " ")) (.call "worth_word" (.cons (.var 6) .nil))) (.tup3 (.name 4) (.name 5) (.name 6)) (.seq (.var 2)) .none)) (.cons (.ret (.join (.str "\n") (.bin .Add (.lst false (.cons (.bin .Add (.str "places ") (.blt .str (.cons (.var 1) .nil))) .nil)) (.var 3)))) .nil))⟩
def d_read_table : Df := ⟨["text", "many", "lines", "table", "words"], 1, .cons (.asg (.tup2 (.name 1) (.name 2)) (.call "lines_in" (.cons (.var 0) .nil))) (.cons (.asg (.name 3) (.tup (.cons (.var 1) (.cons (.con .tuple false (.seq (.comp false (.call "cell_in" (.cons (.var 4) .nil)) (.name 4) (.seq (.var 2)) .none))) .nil)))) (.cons (.ife (.not (.call "is_table" (.cons (.var 3) .nil))) (.cons (.raise "NoText") .nil) (.nil)) (.cons (.ret (.var 3)) .nil)))⟩
def d_is_told_cell : Df := ⟨["many", "thing"], 2, .cons (.ife (.or (.not (.isi (.var 1) "tuple")) (.cmp .NotEq (.blt .len (.cons (.var 1) .nil)) (.int 3))) (.cons (.ret (.bl false)) .nil) (.nil)) (.cons (.ret (.and (.call "is_place" (.cons (.var 0) (.cons (.idx (.var 1) (.int 0)) .nil))) (.and (.call "is_place" (.cons (.var 0) (.cons (.idx (.var 1) (.int 1)) .nil))) (.call "is_worth" (.cons (.idx (.var 1) (.int 2)) .nil))))) .nil)⟩
def d_is_table : Df := ⟨["thing", "many", "cells", "cell"], 1, .cons (.ife (.or (.not (.isi (.var 0) "tuple")) (.or (.cmp .NotEq (.blt .len (.cons (.var 0) .nil)) (.int 2)) (.or (.not (.call "is_whole" (.cons (.idx (.var 0) (.int 0)) .nil))) (.cmp .Lt (.idx (.var 0) (.int 0)) (.int 1))))) (.cons (.ret (.bl false)) .nil) (.nil)) (.cons (.asg (.tup2 (.name 1) (.name 2)) (.var 0)) (.cons (.ife (.or (.not (.isi (.var 2) "tuple")) (.not (.blt .all (.cons (.comp false (.call "is_told_cell" (.cons (.var 1) (.cons (.var 3) .nil))) (.name 3) (.seq (.var 2)) .none) .nil)))) (.cons (.ret (.bl false)) .nil) (.nil)) (.cons (.ret (.call "are_rising" (.cons (.comp false (.slc (.var 3) .none (.some (.int 2))) (.name 3) (.seq (.var 2)) .none) .nil))) .nil)))⟩
structure RTT (tab : Str → Option Df) : Prop where
  rd : RDT tab
  div : tab "divisor_of" = some IW.d_divisor_of
  isw : tab "is_worth" = some IW.d_is_worth
  top : tab "top_in" = some d_top_in
  wor : tab "worth_in" = some d_worth_in
  cel : tab "cell_in" = some d_cell_in
  tol : tab "is_told_cell" = some d_is_told_cell
  tbl : tab "is_table" = some d_is_table
  red : tab "read_table" = some d_read_table
variable {tab : Str → Option Df} {k : Nat} {h : MH} {Q : Post} {E : XQ}
def intS (x : Int) : Str := Str.ofString (toString x)
theorem intS_nat (n : Nat) : intS (n : Nat) = numS n := rfl
theorem tl_int_neg (n : Nat) : tl (intS (-((n + 1 : Nat) : Int))) = 45 :: numL (n + 1) := by
  have e : toString (-((n + 1 : Nat) : Int)) = "-" ++ toString (((n + 1 : Nat)) : Int) := rfl
  unfold intS
  rw [e, tl_ofString, String.toList_append, List.map_append, ← tl_ofString, ← tl_ofString, tl_num]
  have : tl (Str.ofString "-") = [45] := by decide +kernel
  rw [this]
  rfl
theorem intS_neg {x : Int} (h : x < 0) : tl (intS x) = 45 :: numL x.natAbs := by
  obtain ⟨n, rfl⟩ : ∃ n : Nat, x = -((n + 1 : Nat) : Int) := ⟨x.natAbs - 1, by omega⟩
  rw [tl_int_neg]
  congr 1
theorem intS_pos {x : Int} (h : 0 ≤ x) : intS x = numS x.natAbs := by
  obtain ⟨n, rfl⟩ : ∃ n : Nat, x = (n : Int) := ⟨x.toNat, by omega⟩
  rfl
theorem intS_len {x : Int} (h : x.natAbs < 10 ^ 30) : (intS x).length ≤ 31 := by
  rcases Int.lt_or_le x 0 with z | z
  · rw [TL.len_tl, intS_neg z, List.length_cons]
    have := numL_len (by decide : 0 < 30) h
    omega
  · rw [intS_pos z]
    have := numS_len (by decide : 0 < 30) h
    omega
theorem numL_fr (n : Nat) {c : Nat} (h : c < 48 ∨ 57 < c) : c ∉ numL n := numL_free h
theorem intS_free {x : Int} {c : Nat} (h : c < 45 ∨ 57 < c ∨ c = 46 ∨ c = 47) : c ∉ tl (intS x) := by
  rcases Int.lt_or_le x 0 with z | z
  · rw [intS_neg z]
    intro m
    rcases List.mem_cons.mp m with e | m
    · omega
    · exact numL_fr _ (by omega) m
  · rw [intS_pos z, numS_tl]
    exact numL_fr _ (by omega)
theorem intS_wd (x : Int) : Wd (intS x) := ⟨intS_free (by decide), intS_free (by decide)⟩
theorem tl_cut (z : Str) (l u : Option Int) : tl (cutS z l u) = ((tl z).drop (HT.sIx z.length 0 l)).take (HT.sIx z.length z.length u - HT.sIx z.length 0 l) := rfl
theorem sIx_1 {n d : Nat} (h : 1 ≤ n) : HT.sIx n d (some 1) = 1 := by
  unfold HT.sIx
  simp
  omega
theorem cut_first {z : Str} {c : Nat} {r : List Nat} (e : tl z = c :: r) : cutS z none (some 1) = ⟨#[c]⟩ := by
  have l : 1 ≤ z.length := by rw [TL.len_tl, e]; simp
  refine ext_tl ?_
  rw [tl_cut, sIx_1 l, e]
  rfl
theorem cut_rest1 {z w : Str} {c : Nat} (e : tl z = c :: tl w) : cutS z (some 1) none = w := by
  have l : 1 ≤ z.length := by rw [TL.len_tl, e]; simp
  refine ext_tl ?_
  rw [tl_cut, sIx_1 l, e]
  have e2 : HT.sIx z.length z.length none = z.length := rfl
  rw [e2]
  have : z.length = (tl w).length + 1 := by rw [TL.len_tl, e]; simp
  rw [List.drop_succ_cons, List.drop_zero, this, Nat.add_sub_cancel, List.take_length]
theorem minus_is : (⟨#[45]⟩ : Str) = "-" := by decide +kernel
theorem top_in_ok (T : RTT tab) {x : Int} (hx : x.natAbs < 10 ^ 30) (q : Q (.int x) h) : callW tab (k + 2) "top_in" [.str (intS x)] h Q E := by
  have lx := intS_len hx
  refine call_body T.top rfl ?_
  rw [d_top_in, w_ife]
  simp only [startE]
  simp
  refine ⟨szl (by omega), ?_⟩
  rcases Int.lt_or_le x 0 with z | z
  · have e := intS_neg z
    rw [cut_first e, minus_is]
    simp
    rw [w_nil]
    simp
    rw [w_asg]
    simp
    rw [cut_rest1 (w := numS x.natAbs) (by rw [e, numS_tl])]
    refine ⟨szl (by omega), ?_⟩
    refine number_in_ok (k := k) T.rd.num hx ?_
    rw [w_ife]
    simp
    rw [if_neg (by omega), w_nil]
    simp
    rw [w_ret]
    simp
    have e2 : -(x.natAbs : Int) = x := by omega
    rw [e2]
    exact ret_same q
  · obtain ⟨n, rfl⟩ : ∃ n : Nat, x = (n : Int) := ⟨x.toNat, by omega⟩
    rw [intS_nat]
    obtain ⟨c, r, e⟩ : ∃ c r, tl (numS n) = c :: r := by
      have := numS_pos n
      cases e : tl (numS n) with
      | nil => rw [TL.len_tl, e] at this; simp at this
      | cons c r => exact ⟨c, r, rfl⟩
    have hc : c ≠ 45 := by
      have := numL_digits n c (by rw [← numS_tl, e]; exact List.mem_cons_self ..)
      omega
    rw [cut_first e, ← minus_is]
    have ne : (⟨#[c]⟩ : Str) ≠ ⟨#[45]⟩ := fun e2 => by
      injection e2 with e3
      injection e3 with e4
      injection e4 with e5
      exact hc e5
    simp [ne]
    rw [w_ret]
    simp
    exact number_in_ok (k := k) T.rd.num (by omega) (ret_same q)
def worL (x y : Int) : List Str := if y = 1 then [intS x] else [intS x, intS y]
def worS (x y : Int) : Str := Txt.join "/" (worL x y)
theorem tl_sl : tl "/" = [47] := by decide +kernel
theorem join_one (y p : Str) : Txt.join y [p] = p := ext_tl (by rw [tl_joinT]; rfl)
theorem worS_1 (x : Int) : worS x 1 = intS x := by unfold worS worL; rw [if_pos rfl, join_one]
theorem join_two (s a b : Str) : Txt.join s [a, b] = a ++ s ++ b := by
  refine ext_tl ?_
  rw [tl_joinT, tl_append, tl_append]
  simp [joinL]
theorem worS_2 {x y : Int} (h : y ≠ 1) : worS x y = intS x ++ "/" ++ intS y := by
  unfold worS worL
  rw [if_neg h, join_two]
theorem split_wor (x y : Int) : Txt.split (worS x y) "/" = worL x y :=
  TL.split_join (y := "/") (s := 47) (S := []) tl_sl (by decide +kernel) (by unfold worL; split <;> simp) fun p hp => by
    unfold worL at hp
    split at hp
    · rw [List.mem_singleton] at hp
      subst hp
      exact intS_free (by decide)
    · simp only [List.mem_cons, List.not_mem_nil, or_false] at hp
      rcases hp with rfl | rfl <;> exact intS_free (by decide)
theorem worS_len {x y : Int} (hx : x.natAbs < 10 ^ 30) (hy : y.natAbs < 10 ^ 30) : (worS x y).length ≤ 64 := by
  have l1 := intS_len hx
  have l2 := intS_len hy
  have e : (("/" : Str)).length = 1 := by decide +kernel
  by_cases z : y = 1
  · subst z
    rw [worS_1]
    omega
  · have := join_len "/" [intS x, intS y]
    rw [worS, worL, if_neg z]
    simp only [List.map_cons, List.map_nil, List.sum_cons, List.sum_nil, List.length_cons, List.length_nil, e] at this
    omega
theorem worS_wd (x y : Int) : Wd (worS x y) := by
  have g : ∀ c, (c < 45 ∨ 57 < c ∨ c = 46 ∨ c = 47) → c ≠ 47 → c ∉ tl (worS x y) := fun c hc ne m => by
    unfold worS at m
    rw [tl_joinT, tl_sl] at m
    rcases joinL_mem m with z | ⟨p, hp, z⟩
    · simp at z; exact ne z
    · obtain ⟨w, hw, rfl⟩ := List.mem_map.mp hp
      unfold worL at hw
      split at hw
      · rw [List.mem_singleton] at hw
        subst hw
        exact intS_free hc z
      · simp only [List.mem_cons, List.not_mem_nil, or_false] at hw
        rcases hw with rfl | rfl <;> exact intS_free hc z
  exact ⟨g 32 (by decide) (by decide), g 10 (by decide) (by decide)⟩
structure Wo (x y : Int) : Prop where
  hx : x.natAbs < 10 ^ 30
  y1 : 1 ≤ y
  hy : y < 10 ^ 30
  g : Int.gcd x y = 1
theorem worth_in_ok (T : RTT tab) {x y : Int} (W : Wo x y) (q : Q (.tup [.int x, .int y]) h) : callW tab (k + 3) "worth_in" [.str (worS x y)] h Q E := by
  have hy' : y.natAbs < 10 ^ 30 := by have := W.y1; have := W.hy; omega
  have lw := worS_len W.hx hy'
  refine call_body T.wor rfl ?_
  rw [d_worth_in, w_asg]
  simp only [startE]
  simp
  refine split_s (ys := worL x y) (by decide +kernel) (by rw [PySem.sizeLine_eq]; omega) (split_wor x y) fun _ => ?_
  by_cases z : y = 1
  · subst z
    have e : worL x 1 = [intS x] := if_pos rfl
    rw [e]
    simp
    refine ⟨szl (by omega), ?_⟩
    rw [w_ife]
    simp
    rw [w_nil]
    simp
    rw [w_asg]
    simp
    refine top_in_ok (k := k) T W.hx ?_
    refine ⟨szl (by omega), ?_⟩
    rw [w_ife]
    simp
    rw [w_nil]
    simp
    rw [w_ret]
    simp
    exact ret_same q
  · have e : worL x y = [intS x, intS y] := if_neg z
    rw [e]
    simp
    refine ⟨szl (by omega), ?_⟩
    rw [w_ife]
    simp
    rw [w_nil]
    simp
    rw [w_asg]
    simp
    refine top_in_ok (k := k) T W.hx ?_
    refine ⟨szl (by omega), ?_⟩
    rw [w_ife]
    simp
    rw [w_asg]
    simp
    have y1 := W.y1
    obtain ⟨n, rfl⟩ : ∃ n : Nat, y = (n : Int) := ⟨y.toNat, by omega⟩
    rw [intS_nat]
    refine number_in_ok (k := k + 1) T.rd.num (by omega) ?_
    refine ⟨szl (by omega), ?_⟩
    rw [w_ife]
    simp
    rw [if_neg (by omega)]
    refine IW.is_worth_ok (k := k) T.isw T.rd.pa.isw T.div (by rfl) ?_
    have ew : IW.isW (.tup [.int x, .int (n : Nat)]) = true := by
      simp only [IW.isW, Bool.and_eq_true, decide_eq_true_eq]
      exact ⟨by omega, W.g⟩
    rw [ew]
    simp
    rw [w_nil]
    simp only [w_nil]
    rw [w_ret]
    simp
    exact ret_same q
structure Tb (m : Nat) (c : List PT.Tr) : Prop where
  m1 : 1 ≤ m
  mm : m < 10 ^ 30
  lt : ∀ t ∈ c, t.1 < m ∧ t.2.1 < m
  wo : ∀ t ∈ c, Wo t.2.2.1 t.2.2.2
  up : (c.map PT.key).Pairwise lt2
  len : c.length ≤ 3000
def rowW (t : PT.Tr) : List Str := [numS t.1, numS t.2.1, worS t.2.2.1 t.2.2.2]
def tabT (m : Nat) (c : List PT.Tr) : Str := textS (headW m :: c.map rowW)
theorem cell_in_ok (T : RTT tab) {t : PT.Tr} (h1 : t.1 < 10 ^ 30) (h2 : t.2.1 < 10 ^ 30) (W : Wo t.2.2.1 t.2.2.2) (q : Q (PT.trV t) h) : callW tab (k + 4) "cell_in" [.lst ((rowW t).map PV.str)] h Q E := by
  refine call_body T.cel rfl ?_
  rw [d_cell_in, w_ife]
  simp only [startE]
  simp [rowW]
  rw [w_nil]
  simp
  rw [w_ret]
  simp
  refine number_in_ok (k := k + 2) T.rd.num h1 ?_
  refine number_in_ok (k := k + 2) T.rd.num h2 ?_
  refine worth_in_ok (k := k) T W ?_
  exact ⟨szl (by omega), ret_same q⟩
theorem is_told_cell_ok (T : RTT tab) {m : Nat} {t : PT.Tr} (h1 : t.1 < m) (h2 : t.2.1 < m) (W : Wo t.2.2.1 t.2.2.2) (q : Q (.bl true) h) : callW tab (k + 3) "is_told_cell" [.int (m : Nat), PT.trV t] h Q E := by
  refine call_body T.tol rfl ?_
  rw [d_is_told_cell, w_ife]
  simp only [startE]
  simp [isi_eq (show pur (PT.trV t) = true from rfl), tyB]
  simp [PT.trV, isTb, isT]
  rw [w_nil]
  simp
  rw [w_ret]
  simp
  have pl : ∀ n : Nat, n < m → isPl (m : Int) (.int (n : Nat)) = true := fun n hn => by
    simp [isPl]
    omega
  refine is_place_ok (k := k) T.rd.pa (by rfl) ?_
  rw [pl _ h1]
  simp
  refine is_place_ok (k := k) T.rd.pa (by rfl) ?_
  rw [pl _ h2]
  simp
  refine IW.is_worth_ok (k := k) T.isw T.rd.pa.isw T.div (by rfl) ?_
  have ew : IW.isW (PT.woV t) = true := by
    simp only [PT.woV, IW.isW, Bool.and_eq_true, decide_eq_true_eq]
    exact ⟨by have := W.y1; omega, W.g⟩
  rw [ew]
  exact ret_same q
theorem are_rising_okL (T : PAT tab) {cs : List (Nat × Nat)} (q : Q (.bl (decide (cs.Pairwise lt2))) h) : callW tab (k + 1) "are_rising" [.lst (cs.map prV)] h Q E := by
  refine call_body T.ris rfl ?_
  rw [d_are_rising, w_ret]
  simp only [startE]
  simp
  rw [cutP_m1, cutP_hi _ (by decide)]
  simp
  refine ⟨_, _, ⟨rfl, rfl⟩, fun l1 l2 => ?_⟩
  have eb : risB cs = decide (cs.Pairwise lt2) := by
    rw [Bool.eq_iff_iff, risB_iff, decide_eq_true_eq]
  rw [← eb, ← risB_zip] at q
  have ez : ((cs.map prV).dropLast.zip (cs.map prV).tail).map (fun p => PV.tup [p.1, p.2]) = (cs.dropLast.zip cs.tail).map fun p => PV.tup [prV p.1, prV p.2] := by
    rw [← List.map_dropLast, ← List.map_tail, List.zip_map, List.map_map]
    rfl
  rw [ez]
  refine comp_pure risF (by simp) (fun x hx R hR => ?_) ?_
  · obtain ⟨p, _, rfl⟩ := List.mem_map.mp hx
    rw [risF_pr] at hR
    simp
    rw [lt_pr]
    exact hR
  · have ef : ∀ l : List ((Nat × Nat) × (Nat × Nat)), (l.map fun p => PV.tup [prV p.1, prV p.2]).filterMap risF = (l.map fun p => decide (lt2 p.1 p.2)).map PV.bl := by
      intro l
      induction l with
      | nil => rfl
      | cons a r ih =>
        rw [List.map_cons, List.filterMap_cons, risF_pr, ih]; rfl
    rw [ef]
    refine ⟨?_, _, _, rfl, boolsP_map _, ret_same ?_⟩
    · simp only [List.length_map, List.length_zip, List.length_dropLast] at l1 ⊢
      omega
    · rw [List.all_map]
      exact q
def cutF : PV → Option PV
  | .tup [a, b, _] => some (.tup [a, b])
  | _ => none
theorem cutF_trs : ∀ l : List PT.Tr, (l.map PT.trV).filterMap cutF = (l.map PT.key).map prV
  | [] => rfl
  | a :: r => by rw [List.map_cons, List.filterMap_cons, cutF_trs r]; rfl
theorem is_table_ok (T : RTT tab) {m : Nat} {c : List PT.Tr} (B : Tb m c) (q : Q (.bl true) h) : callW tab (k + 4) "is_table" [PT.tabV m c] h Q E := by
  have pt : pur (PT.tabV m c) = true := by
    have : purs (c.map PT.trV) = true := PT.purs_map (fun _ => rfl) c
    simp [PT.tabV, pur, purs, this]
  have m1 := B.m1
  have lc := B.len
  refine call_body T.tbl rfl ?_
  rw [d_is_table, w_ife]
  simp only [startE]
  simp [isi_eq pt, tyB]
  simp [PT.tabV, isTb, isT]
  refine is_whole_ok (k := k + 2) T.rd.pa.isw (by rfl) ?_
  simp [whole]
  rw [if_neg (by omega), w_nil]
  simp
  rw [w_asg]
  simp
  rw [w_ife]
  have pc : pur (.tup (c.map PT.trV)) = true := by
    have : purs (c.map PT.trV) = true := PT.purs_map (fun _ => rfl) c
    simpa [pur] using this
  simp [isi_eq pc, tyB, isTb, isT]
  intro _
  refine comp_pure (fun _ => some (.bl true)) (by simp) (fun x hx R hR => ?_) ?_
  · obtain ⟨t, ht, rfl⟩ := List.mem_map.mp hx
    obtain ⟨h1, h2⟩ := B.lt t ht
    exact is_told_cell_ok (k := k) T h1 h2 (B.wo t ht) hR
  · have eb : ∀ l : List PV, l.filterMap (fun _ => some (PV.bl true)) = (List.replicate l.length true).map PV.bl := by
      intro l
      induction l with
      | nil => rfl
      | cons a r ih => rw [List.filterMap_cons, ih]; rfl
    rw [eb]
    refine ⟨szl (by simp only [List.length_map, List.length_replicate]; omega), _, _, rfl, boolsP_map _, ?_⟩
    simp
    rw [w_nil]
    simp
    rw [w_ret]
    simp
    intro _
    refine comp_pure cutF (by simp) (fun x hx R hR => ?_) ?_
    · obtain ⟨t, ht, rfl⟩ := List.mem_map.mp hx
      simp [PT.trV, cut2]
      exact hR
    · rw [cutF_trs]
      refine ⟨szl (by simp only [List.length_map]; omega), ?_⟩
      refine are_rising_okL (k := k + 2) T.rd.pa ?_
      rw [decide_eq_true B.up]
      exact ret_same q
theorem rowW_len {t : PT.Tr} (h1 : t.1 < 10 ^ 30) (h2 : t.2.1 < 10 ^ 30) (W : Wo t.2.2.1 t.2.2.2) : (lineS (rowW t)).length ≤ 130 := by
  have l1 := numS_len (by decide : 0 < 30) h1
  have l2 := numS_len (by decide : 0 < 30) h2
  have l3 := worS_len W.hx (show t.2.2.2.natAbs < 10 ^ 30 by have := W.y1; have := W.hy; omega)
  have := join_len " " (rowW t)
  have e2 : ((" " : Str)).length = 1 := by decide +kernel
  simp only [rowW, List.map_cons, List.map_nil, List.sum_cons, List.sum_nil, List.length_cons, List.length_nil, e2] at this
  unfold lineS
  simp only [rowW]
  omega
theorem head_len {m : Nat} (hm : m < 10 ^ 30) : (lineS (headW m)).length ≤ 40 := by
  have lw := numS_len (by decide : 0 < 30) hm
  have := join_len " " (headW m)
  have e : (("places" : Str)).length = 6 := by decide +kernel
  have e2 : ((" " : Str)).length = 1 := by decide +kernel
  simp only [headW, List.map_cons, List.map_nil, List.sum_cons, List.sum_nil, List.length_cons, List.length_nil, e, e2] at this
  unfold lineS
  simp only [headW]
  omega
theorem sum_le {c : Nat} : ∀ {ys : List Str}, (∀ y ∈ ys, y.length ≤ c) → (ys.map (·.length)).sum ≤ ys.length * c
  | [], _ => by simp
  | a :: r, h => by
    have h1 := h a (List.mem_cons_self ..)
    have h2 := sum_le (ys := r) fun y hy => h y (List.mem_cons_of_mem _ hy)
    simp only [List.map_cons, List.sum_cons, List.length_cons, Nat.succ_mul]
    omega
theorem lines_le {m : Nat} (hm : m < 10 ^ 30) {rows : List (List Str)} (hr : ∀ ws ∈ rows, (lineS ws).length ≤ 130) : ∀ y ∈ (headW m :: rows).map lineS, y.length ≤ 130 := fun y hy => by
  obtain ⟨ws, hw, rfl⟩ := List.mem_map.mp hy
  rcases List.mem_cons.mp hw with rfl | hw
  · have := head_len hm; omega
  · exact hr ws hw
theorem text_len {m : Nat} (hm : m < 10 ^ 30) {rows : List (List Str)} (hr : ∀ ws ∈ rows, (lineS ws).length ≤ 130) (lr : rows.length ≤ 3000) : (textS (headW m :: rows)).length ≤ 400000 := by
  have a := join_len "\n" ((headW m :: rows).map lineS)
  have e2 : (("\n" : Str)).length = 1 := by decide +kernel
  have b := sum_le (lines_le hm hr)
  simp only [List.length_map, List.length_cons, e2] at a b
  unfold textS
  simp only [List.map_cons] at *
  omega
theorem rowW_fr (c : List PT.Tr) : ∀ ws ∈ c.map rowW, ws ≠ [] ∧ ∀ w ∈ ws, Wd w := fun ws hw => by
  obtain ⟨t, ht, rfl⟩ := List.mem_map.mp hw
  refine ⟨by simp [rowW], fun w hw => ?_⟩
  simp only [rowW, List.mem_cons, List.not_mem_nil, or_false] at hw
  rcases hw with rfl | rfl | rfl
  · exact numS_wd _
  · exact numS_wd _
  · exact worS_wd _ _
theorem Tb.rows {m : Nat} {c : List PT.Tr} (B : Tb m c) : ∀ ws ∈ c.map rowW, (lineS ws).length ≤ 130 := fun ws hw => by
  obtain ⟨t, ht, rfl⟩ := List.mem_map.mp hw
  obtain ⟨h1, h2⟩ := B.lt t ht
  have := B.mm
  exact rowW_len (by omega) (by omega) (B.wo t ht)
theorem read_table_ok (T : RTT tab) {m : Nat} {c : List PT.Tr} (B : Tb m c) (q : Q (PT.tabV m c) h) : callW tab (k + 5) "read_table" [.str (tabT m c)] h Q E := by
  have lc := B.len
  refine call_body T.red rfl ?_
  rw [d_read_table, w_asg]
  simp only [startE]
  simp
  refine lines_in_ok (k := k + 2) T.rd.num T.rd.lin B.mm (rowW_fr c) (text_len B.mm B.rows (by simpa using lc)) (fun ws hw => by have := B.rows ws hw; omega) (by rw [List.length_map]; omega) ?_
  simp [wordsF]
  rw [w_asg]
  simp
  intro _
  refine comp_inv (fun i acc g => acc = (c.take i).map PT.trV ∧ g = h) ⟨rfl, rfl⟩ (fun _ _ _ _ => by simp) ?_ ?_
  · rintro i x acc g R hx ⟨rfl, rfl⟩ hR
    rw [List.getElem?_map] at hx
    cases e : c[i]? with
    | none => rw [e] at hx; cases hx
    | some t =>
      rw [e] at hx
      obtain rfl := Option.some.inj hx
      have ht := List.mem_of_getElem? e
      obtain ⟨h1, h2⟩ := B.lt t ht
      have mm := B.mm
      refine cell_in_ok (k := k) T (by omega) (by omega) (B.wo t ht) ?_
      refine hR _ _ ⟨?_, rfl⟩
      rw [List.take_add_one, e]
      simp
  · rintro acc g ⟨rfl, rfl⟩
    have et : ∀ {β : Type} (f : PT.Tr → β), List.take (List.map f c).length c = c := fun f => by rw [List.length_map, List.take_length]
    simp only [et]
    refine ⟨szl (by rw [List.length_map]; omega), fun _ => ⟨szl (by omega), ?_⟩⟩
    show wpSs _ _ _ _ _ _
    rw [w_ife]
    simp
    refine is_table_ok (k := k) T B ?_
    simp
    rw [w_nil]
    simp
    rw [w_ret]
    simp
    exact ret_same q
structure SHT (tab : Str → Option Df) : Prop where
  wow : tab "worth_word" = some d_worth_word
  shp : tab "show_pattern" = some d_show_pattern
  sht : tab "show_table" = some d_show_table
theorem lg30 {x : Int} (h : x.natAbs < 10 ^ 30) : x.natAbs.log2 < 1920 := by
  by_cases z : x.natAbs = 0
  · rw [z]; decide
  · have : x.natAbs.log2 < 100 := (Nat.log2_lt z).mpr (Nat.lt_trans h (by decide))
    omega
theorem lgN {n : Nat} (h : n < 10 ^ 30) : n.log2 < 1920 := lg30 (x := (n : Int)) h
theorem app_len (a b : Str) : (a ++ b).length = a.length + b.length := by
  rw [TL.len_tl, TL.len_tl, TL.len_tl, tl_append, List.length_append]
theorem worth_word_ok (hw : tab "worth_word" = some d_worth_word) {x y : Int} (W : Wo x y) (q : Q (.str (worS x y)) h) : callW tab (k + 1) "worth_word" [.tup [.int x, .int y]] h Q E := by
  have hy' : y.natAbs < 10 ^ 30 := by have := W.y1; have := W.hy; omega
  have l1 := intS_len W.hx
  have l2 := intS_len hy'
  have e1 : (("/" : Str)).length = 1 := by decide +kernel
  have st : ∀ n : Int, Str.ofString n.repr = intS n := fun _ => rfl
  refine call_body hw rfl ?_
  rw [d_worth_word, w_asg]
  simp only [startE]
  simp
  rw [w_ife]
  simp
  split
  · rename_i e
    subst e
    rw [w_ret]
    simp
    rw [worS_1] at q
    exact ⟨lg30 W.hx, ret_same q⟩
  · rename_i ne
    rw [w_nil]
    simp
    rw [w_ret]
    simp
    rw [worS_2 ne] at q
    simp only [st]
    exact ⟨lg30 W.hx, szl (by omega), lg30 hy', szl (by rw [app_len]; omega), ret_same q⟩
theorem places_ : ("places" : Str) ++ (" " : Str) = "places " := by decide +kernel
theorem head_eq (m : Nat) : ("places " : Str) ++ numS m = lineS (headW m) := by
  unfold headW
  rw [line_two, places_]
def pairF : PV → Option PV
  | .tup [.int i, .int j] => some (.str (lineS (pairW (i.toNat, j.toNat))))
  | _ => none
theorem pairF_prs : ∀ l : List (Nat × Nat), (l.map prV).filterMap pairF = ((l.map pairW).map lineS).map PV.str
  | [] => rfl
  | a :: r => by
    rw [List.map_cons, List.filterMap_cons, pairF_prs r]
    simp [prV, pairF]
theorem pair_len {c : Nat × Nat} (h1 : c.1 < 10 ^ 30) (h2 : c.2 < 10 ^ 30) : (lineS (pairW c)).length ≤ 62 := by
  have l1 := numS_len (by decide : 0 < 30) h1
  have l2 := numS_len (by decide : 0 < 30) h2
  have := join_len " " (pairW c)
  have e2 : ((" " : Str)).length = 1 := by decide +kernel
  simp only [pairW, List.map_cons, List.map_nil, List.sum_cons, List.sum_nil, List.length_cons, List.length_nil, e2] at this
  unfold lineS
  simp only [pairW]
  omega
theorem join_text {m : Nat} (hm : m < 10 ^ 30) {rows : List (List Str)} (hr : ∀ ws ∈ rows, (lineS ws).length ≤ 130) (lr : rows.length ≤ 3000) (q : Q (.str (textS (headW m :: rows))) h) :
    joinW (.str "\n") (.lst (((headW m :: rows).map lineS).map PV.str)) h Q := by
  have en : (("\n" : Str)).length = 1 := by decide +kernel
  have b := sum_le (lines_le hm hr)
  refine join_l ?_ q
  rw [en]
  simp only [List.length_map, List.length_cons] at b ⊢
  omega
theorem show_pattern_ok (hs : tab "show_pattern" = some d_show_pattern) {m : Nat} {cs : List (Nat × Nat)} (hm : m < 10 ^ 30) (D : Dw m cs) (lz : cs.length ≤ 3000) (q : Q (.str (patT m cs)) h) : callW tab (k + 1) "show_pattern" [patV m cs] h Q E := by
  have e7 : (("places " : Str)).length = 7 := by decide +kernel
  have e1 : ((" " : Str)).length = 1 := by decide +kernel
  have st : ∀ n : Nat, Str.ofString ((n : Nat) : Int).repr = numS n := fun _ => rfl
  have lw := numS_len (by decide : 0 < 30) hm
  have rows : ∀ ws ∈ cs.map pairW, (lineS ws).length ≤ 130 := fun ws hw => by
    obtain ⟨c, hc, rfl⟩ := List.mem_map.mp hw
    obtain ⟨c1, c2, _⟩ := D.lt c hc
    have := pair_len (c := c) (by omega) (by omega)
    omega
  refine call_body hs rfl ?_
  rw [d_show_pattern, w_asg]
  simp only [startE]
  simp [patV]
  rw [w_ret]
  simp
  simp only [st]
  refine ⟨lgN (by omega), szl (by omega), szl (by omega), fun _ => ?_⟩
  refine comp_pure pairF (by simp) (fun x hx R hR => ?_) ?_
  · obtain ⟨c, hc, rfl⟩ := List.mem_map.mp hx
    obtain ⟨c1, c2, _⟩ := D.lt c hc
    have l1 := numS_len (n := c.1) (by decide : 0 < 30) (by omega)
    have l2 := numS_len (n := c.2) (by decide : 0 < 30) (by omega)
    simp [prV, pairF] at hR ⊢
    simp only [st] at hR ⊢
    rw [pairW, line_two] at hR
    exact ⟨lgN (by omega), szl (by omega), lgN (by omega), szl (by rw [app_len]; omega), hR⟩
  · rw [pairF_prs]
    refine ⟨szl (by simp only [List.length_map]; omega), szl (by simp only [List.length_map]; omega), ?_⟩
    have eh : PV.str (("places " : Str) ++ numS m) = PV.str (lineS (headW m)) := by rw [head_eq]
    rw [eh]
    exact join_text hm rows (by rw [List.length_map]; exact lz) (ret_same q)
def rowF : PV → Option PV
  | .tup [.int i, .int j, .tup [.int x, .int y]] => some (.str (lineS (rowW (i.toNat, j.toNat, x, y))))
  | _ => none
theorem rowF_trs : ∀ l : List PT.Tr, (l.map PT.trV).filterMap rowF = ((l.map rowW).map lineS).map PV.str
  | [] => rfl
  | a :: r => by
    rw [List.map_cons, List.filterMap_cons, rowF_trs r]
    simp [PT.trV, PT.woV, rowF]
theorem line_three (a b c : Str) : lineS [a, b, c] = a ++ " " ++ b ++ " " ++ c := by
  refine ext_tl ?_
  unfold lineS
  rw [tl_joinT]
  simp only [tl_append, List.map_cons, List.map_nil, joinL, List.append_assoc]
theorem show_table_ok (S : SHT tab) {m : Nat} {c : List PT.Tr} (B : Tb m c) (q : Q (.str (tabT m c)) h) : callW tab (k + 2) "show_table" [PT.tabV m c] h Q E := by
  have e7 : (("places " : Str)).length = 7 := by decide +kernel
  have e1 : ((" " : Str)).length = 1 := by decide +kernel
  have st : ∀ n : Nat, Str.ofString ((n : Nat) : Int).repr = numS n := fun _ => rfl
  have hm := B.mm
  have lw := numS_len (by decide : 0 < 30) hm
  have lc := B.len
  refine call_body S.sht rfl ?_
  rw [d_show_table, w_asg]
  simp only [startE]
  simp [PT.tabV]
  rw [w_asg]
  simp
  intro _
  refine comp_pure rowF (by simp) (fun x hx R hR => ?_) ?_
  · obtain ⟨t, ht, rfl⟩ := List.mem_map.mp hx
    obtain ⟨c1, c2⟩ := B.lt t ht
    have W := B.wo t ht
    have l1 := numS_len (n := t.1) (by decide : 0 < 30) (by omega)
    have l2 := numS_len (n := t.2.1) (by decide : 0 < 30) (by omega)
    have l3 := worS_len W.hx (show t.2.2.2.natAbs < 10 ^ 30 by have := W.y1; have := W.hy; omega)
    simp [PT.trV, PT.woV, rowF] at hR ⊢
    simp only [st] at hR ⊢
    rw [rowW, line_three] at hR
    refine ⟨lgN (by omega), szl (by omega), lgN (by omega), szl (by rw [app_len]; omega), szl (by rw [app_len, app_len]; omega), ?_⟩
    refine worth_word_ok (k := k) S.wow W ?_
    exact ⟨szl (by rw [app_len, app_len, app_len]; omega), hR⟩
  · rw [rowF_trs]
    refine ⟨szl (by simp only [List.length_map]; omega), ?_⟩
    rw [w_ret]
    simp
    simp only [st]
    refine ⟨lgN (by omega), szl (by omega), szl (by omega), szl (by omega), ?_⟩
    have eh : PV.str (("places " : Str) ++ numS m) = PV.str (lineS (headW m)) := by rw [head_eq]
    rw [eh]
    have ej : PV.lst (PV.str (lineS (headW m)) :: List.map (PV.str ∘ lineS ∘ rowW) c) = PV.lst (((headW m :: c.map rowW).map lineS).map PV.str) := by simp
    rw [ej]
    exact join_text hm B.rows (by rw [List.length_map]; exact lc) (ret_same q)
end MP
set_option Elab.async false
set_option linter.all false
set_option maxRecDepth 100000
set_option maxHeartbeats 2000000
namespace K07
open PySem L2 MP
def d_is_whole : Df := ⟨["thing"], 1, .cons (.ret (.and (.isi (.var 0) "int") (.not (.isi (.var 0) "bool")))) .nil⟩
def d_divisor_of : Df := ⟨["one", "other"], 2, .cons (.asg (.name 0) (.blt .abs (.cons (.var 0) .nil))) (.cons (.asg (.name 1) (.blt .abs (.cons (.var 1) .nil))) (.cons (.while (.cmp .NotEq (.var 1) (.int 0)) (.cons (.par 0 1 (.var 1) (.bin .Mod (.var 0) (.var 1))) .nil)) (.cons (.ret (.var 0)) .nil)))⟩
def d_is_worth : Df := ⟨["thing"], 1, .cons (.ife (.or (.not (.isi (.var 0) "tuple")) (.cmp .NotEq (.blt .len (.cons (.var 0) .nil)) (.int 2))) (.cons (.ret (.bl false)) .nil) (.nil)) (.cons (.ife (.or (.not (.call "is_whole" (.cons (.idx (.var 0) (.int 0)) .nil))) (.or (.not (.call "is_whole" (.cons (.idx (.var 0) (.int 1)) .nil))) (.cmp .Lt (.idx (.var 0) (.int 1)) (.int 1)))) (.cons (.ret (.bl false)) .nil) (.nil)) (.cons (.ret (.cmp .Eq (.call "divisor_of" (.cons (.idx (.var 0) (.int 0)) (.cons (.idx (.var 0) (.int 1)) .nil))) (.int 1))) .nil))⟩
def d_is_place : Df := ⟨["many", "thing"], 2, .cons (.ret (.and (.call "is_whole" (.cons (.var 1) .nil)) (.chain .LtE .Lt (.int 0) (.var 1) (.var 0)))) .nil⟩
def d_is_pair : Df := ⟨["many", "thing"], 2, .cons (.ife (.or (.not (.isi (.var 1) "tuple")) (.cmp .NotEq (.blt .len (.cons (.var 1) .nil)) (.int 2))) (.cons (.ret (.bl false)) .nil) (.nil)) (.cons (.ret (.and (.call "is_place" (.cons (.var 0) (.cons (.idx (.var 1) (.int 0)) .nil))) (.and (.call "is_place" (.cons (.var 0) (.cons (.idx (.var 1) (.int 1)) .nil))) (.cmp .NotEq (.idx (.var 1) (.int 0)) (.idx (.var 1) (.int 1)))))) .nil)⟩
def d_are_rising : Df := ⟨["things", "one", "other"], 1, .cons (.ret (.blt .all (.cons (.comp false (.cmp .Lt (.var 1) (.var 2)) (.tup2 (.name 1) (.name 2)) (.zip (.slc (.var 0) .none (.some (.neg (.int 1)))) (.slc (.var 0) (.some (.int 1)) .none)) .none) .nil))) .nil⟩
def d_is_pattern : Df := ⟨["thing", "many", "cells", "cell"], 1, .cons (.ife (.or (.not (.isi (.var 0) "tuple")) (.or (.cmp .NotEq (.blt .len (.cons (.var 0) .nil)) (.int 2)) (.or (.not (.call "is_whole" (.cons (.idx (.var 0) (.int 0)) .nil))) (.cmp .Lt (.idx (.var 0) (.int 0)) (.int 1))))) (.cons (.ret (.bl false)) .nil) (.nil)) (.cons (.asg (.tup2 (.name 1) (.name 2)) (.var 0)) (.cons (.ife (.or (.not (.isi (.var 2) "tuple")) (.not (.blt .all (.cons (.comp false (.call "is_pair" (.cons (.var 1) (.cons (.var 3) .nil))) (.name 3) (.seq (.var 2)) .none) .nil)))) (.cons (.ret (.bl false)) .nil) (.nil)) (.cons (.ret (.call "are_rising" (.cons (.var 2) .nil))) .nil)))⟩
def d_is_told_cell : Df := ⟨["many", "thing"], 2, .cons (.ife (.or (.not (.isi (.var 1) "tuple")) (.cmp .NotEq (.blt .len (.cons (.var 1) .nil)) (.int 3))) (.cons (.ret (.bl false)) .nil) (.nil)) (.cons (.ret (.and (.call "is_place" (.cons (.var 0) (.cons (.idx (.var 1) (.int 0)) .nil))) (.and (.call "is_place" (.cons (.var 0) (.cons (.idx (.var 1) (.int 1)) .nil))) (.call "is_worth" (.cons (.idx (.var 1) (.int 2)) .nil))))) .nil)⟩
def d_is_table : Df := ⟨["thing", "many", "cells", "cell"], 1, .cons (.ife (.or (.not (.isi (.var 0) "tuple")) (.or (.cmp .NotEq (.blt .len (.cons (.var 0) .nil)) (.int 2)) (.or (.not (.call "is_whole" (.cons (.idx (.var 0) (.int 0)) .nil))) (.cmp .Lt (.idx (.var 0) (.int 0)) (.int 1))))) (.cons (.ret (.bl false)) .nil) (.nil)) (.cons (.asg (.tup2 (.name 1) (.name 2)) (.var 0)) (.cons (.ife (.or (.not (.isi (.var 2) "tuple")) (.not (.blt .all (.cons (.comp false (.call "is_told_cell" (.cons (.var 1) (.cons (.var 3) .nil))) (.name 3) (.seq (.var 2)) .none) .nil)))) (.cons (.ret (.bl false)) .nil) (.nil)) (.cons (.ret (.call "are_rising" (.cons (.comp false (.slc (.var 3) .none (.some (.int 2))) (.name 3) (.seq (.var 2)) .none) .nil))) .nil)))⟩
def d_worth_word : Df := ⟨["worth", "top", "bottom"], 1, .cons (.asg (.tup2 (.name 1) (.name 2)) (.var 0)) (.cons (.ife (.cmp .Eq (.var 2) (.int 1)) (.cons (.ret (.blt .str (.cons (.var 1) .nil))) .nil) (.nil)) (.cons (.ret (.bin .Add (.bin .Add (.blt .str (.cons (.var 1) .nil)) (.str "/")) (.blt .str (.cons (.var 2) .nil)))) .nil))⟩
def d_number_in : Df := ⟨["word", "sign"], 1, .cons (.ife (.or (.not (.chain .LtE .LtE (.int 1) (.blt .len (.cons (.var 0) .nil)) (.gcs "MOST_FIGURES"))) (.not (.blt .all (.cons (.comp false (.isin (.var 1) (.gcs "FIGURES") false) (.name 1) (.chars (.var 0)) .none) .nil)))) (.cons (.raise "NoText") .nil) (.nil)) (.cons (.ife (.and (.cmp .Eq (.idx (.var 0) (.int 0)) (.str "0")) (.cmp .NotEq (.var 0) (.str "0"))) (.cons (.raise "NoText") .nil) (.nil)) (.cons (.ret (.blt .int (.cons (.var 0) .nil))) .nil))⟩
def d_top_in : Df := ⟨["word", "number"], 1, .cons (.ife (.cmp .NotEq (.slc (.var 0) .none (.some (.int 1))) (.str "-")) (.cons (.ret (.call "number_in" (.cons (.var 0) .nil))) .nil) (.nil)) (.cons (.asg (.name 1) (.call "number_in" (.cons (.slc (.var 0) (.some (.int 1)) .none) .nil))) (.cons (.ife (.cmp .Eq (.var 1) (.int 0)) (.cons (.raise "NoText") .nil) (.nil)) (.cons (.ret (.bin .Sub (.int 0) (.var 1))) .nil)))⟩
def d_worth_in : Df := ⟨["word", "pieces", "worth"], 1, .cons (.asg (.name 1) (.split false (.var 0) (.str "/"))) (.cons (.ife (.cmp .Gt (.blt .len (.cons (.var 1) .nil)) (.int 2)) (.cons (.raise "NoText") .nil) (.nil)) (.cons (.asg (.name 2) (.tup (.cons (.call "top_in" (.cons (.idx (.var 1) (.int 0)) .nil)) (.cons (.int 1) .nil)))) (.cons (.ife (.cmp .Eq (.blt .len (.cons (.var 1) .nil)) (.int 2)) (.cons (.asg (.name 2) (.tup (.cons (.idx (.var 2) (.int 0)) (.cons (.call "number_in" (.cons (.idx (.var 1) (.int 1)) .nil)) .nil)))) (.cons (.ife (.or (.cmp .Eq (.idx (.var 2) (.int 1)) (.int 1)) (.not (.call "is_worth" (.cons (.var 2) .nil)))) (.cons (.raise "NoText") .nil) (.nil)) .nil)) (.nil)) (.cons (.ret (.var 2)) .nil))))⟩
def d_lines_in : Df := ⟨["text", "lines", "line"], 1, .cons (.ife (.not (.isi (.var 0) "str")) (.cons (.raise "NoText") .nil) (.nil)) (.cons (.asg (.name 1) (.comp false (.split false (.var 2) (.str " ")) (.name 2) (.seq (.split false (.var 0) (.str "\n"))) .none)) (.cons (.ife (.or (.cmp .NotEq (.blt .len (.cons (.idx (.var 1) (.int 0)) .nil)) (.int 2)) (.cmp .NotEq (.idx (.idx (.var 1) (.int 0)) (.int 0)) (.str "places"))) (.cons (.raise "NoText") .nil) (.nil)) (.cons (.ret (.tup (.cons (.call "number_in" (.cons (.idx (.idx (.var 1) (.int 0)) (.int 1)) .nil)) (.cons (.slc (.var 1) (.some (.int 1)) .none) .nil)))) .nil)))⟩
def d_show_pattern : Df := ⟨["pattern", "many", "cells", "i", "k"], 1, .cons (.asg (.tup2 (.name 1) (.name 2)) (.var 0)) (.cons (.ret (.join (.str "\n") (.bin .Add (.lst false (.cons (.bin .Add (.str "places ") (.blt .str (.cons (.var 1) .nil))) .nil)) (.comp false (.bin .Add (.bin .Add (.blt .str (.cons (.var 3) .nil)) (.str " ")) (.blt .str (.cons (.var 4) .nil))) (.tup2 (.name 3) (.name 4)) (.seq (.var 2)) .none)))) .nil)⟩
def d_read_pattern : Df := ⟨["text", "many", "lines", "pattern", "word", "words"], 1, .cons (.asg (.tup2 (.name 1) (.name 2)) (.call "lines_in" (.cons (.var 0) .nil))) (.cons (.asg (.name 3) (.tup (.cons (.var 1) (.cons (.con .tuple false (.seq (.comp false (.con .tuple false (.seq (.comp false (.call "number_in" (.cons (.var 4) .nil)) (.name 4) (.seq (.var 5)) .none))) (.name 5) (.seq (.var 2)) .none))) .nil)))) (.cons (.ife (.not (.call "is_pattern" (.cons (.var 3) .nil))) (.cons (.raise "NoText") .nil) (.nil)) (.cons (.ret (.var 3)) .nil)))⟩
def d_show_table : Df := ⟨["table", "many", "cells", "lines", "i", "k", "worth"], 1, .cons (.asg (.tup2 (.name 1) (.name 2)) (.var 0)) (.cons (.asg (.name 3) (.comp false (.bin .Add (.bin .Add (.bin .Add (.bin .Add (.blt .str (.cons (.var 4) .nil)) (.str " ")) (.blt .str (.cons (.var 5) .nil))) (.str " ")) (.call "worth_word" (.cons (.var 6) .nil))) (.tup3 (.name 4) (.name 5) (.name 6)) (.seq (.var 2)) .none)) (.cons (.ret (.join (.str "\n") (.bin .Add (.lst false (.cons (.bin .Add (.str "places ") (.blt .str (.cons (.var 1) .nil))) .nil)) (.var 3)))) .nil))⟩
def d_cell_in : Df := ⟨["words"], 1, .cons (.ife (.cmp .NotEq (.blt .len (.cons (.var 0) .nil)) (.int 3)) (.cons (.raise "NoText") .nil) (.nil)) (.cons (.ret (.tup (.cons (.call "number_in" (.cons (.idx (.var 0) (.int 0)) .nil)) (.cons (.call "number_in" (.cons (.idx (.var 0) (.int 1)) .nil)) (.cons (.call "worth_in" (.cons (.idx (.var 0) (.int 2)) .nil)) .nil))))) .nil)⟩
def d_read_table : Df := ⟨["text", "many", "lines", "table", "words"], 1, .cons (.asg (.tup2 (.name 1) (.name 2)) (.call "lines_in" (.cons (.var 0) .nil))) (.cons (.asg (.name 3) (.tup (.cons (.var 1) (.cons (.con .tuple false (.seq (.comp false (.call "cell_in" (.cons (.var 4) .nil)) (.name 4) (.seq (.var 2)) .none))) .nil)))) (.cons (.ife (.not (.call "is_table" (.cons (.var 3) .nil))) (.cons (.raise "NoText") .nil) (.nil)) (.cons (.ret (.var 3)) .nil)))⟩
def d__law_deck : Df := ⟨["cell"], 1, .cons (.ret (.lst true (.cons (.bin .Mult (.var 0) (.blt .int (.cons (.cmp .GtE (.var 0) (.bin .Pow (.int 10) (.int 18))) .nil))) (.cons (.bin .Mod (.var 0) (.int 2147483587)) (.cons (.int 0) .nil))))) .nil⟩
def d__law_draw : Df := ⟨["deck", "most", "got", "mixed"], 2, .cons (.ife (.cmp .Gt (.idx (.var 0) (.int 0)) (.int 0)) (.cons (.asg (.name 2) (.bin .Mod (.idx (.var 0) (.int 0)) (.var 1))) (.cons (.sub (.var 0) (.int 0) (.bin .FloorDiv (.idx (.var 0) (.int 0)) (.var 1))) (.cons (.ret (.var 2)) .nil))) (.nil)) (.cons (.sub (.var 0) (.int 2) (.bin .Add (.idx (.var 0) (.int 2)) (.int 1))) (.cons (.asg (.name 3) (.bin .Mod (.bin .Mult (.bin .Add (.bin .Add (.idx (.var 0) (.int 1)) (.bin .Mult (.int 104729) (.idx (.var 0) (.int 2)))) (.int 17)) (.int 48271)) (.int 2147483647))) (.cons (.asg (.name 3) (.bin .Mod (.bin .Add (.bin .Add (.bin .Mult (.var 3) (.var 3)) (.bin .Mult (.int 69621) (.var 3))) (.idx (.var 0) (.int 2))) (.int 2147483629))) (.cons (.ret (.bin .Mod (.bin .FloorDiv (.bin .Mod (.bin .Mult (.var 3) (.int 39373)) (.int 2147483563)) (.int 8)) (.var 1))) .nil))))⟩
def d__law_divides : Df := ⟨["one", "other"], 2, .cons (.par 0 1 (.blt .abs (.cons (.var 0) .nil)) (.blt .abs (.cons (.var 1) .nil))) (.cons (.while (.cmp .Gt (.var 1) (.int 0)) (.cons (.par 0 1 (.var 1) (.bin .Mod (.var 0) (.var 1))) .nil)) (.cons (.ret (.var 0)) .nil))⟩
def d__law_worth : Df := ⟨["top", "bottom", "by"], 2, .cons (.asg (.name 2) (.call "_law_divides" (.cons (.var 0) (.cons (.var 1) .nil)))) (.cons (.ife (.cmp .Lt (.var 1) (.int 0)) (.cons (.asg (.name 2) (.bin .Sub (.int 0) (.var 2))) .nil) (.nil)) (.cons (.ret (.tup (.cons (.bin .FloorDiv (.var 0) (.var 2)) (.cons (.bin .FloorDiv (.var 1) (.var 2)) .nil)))) .nil))⟩
def d__law_far : Df := ⟨["deck", "far"], 1, .cons (.asg (.name 1) (.bin .Add (.bin .Mult (.call "_law_draw" (.cons (.var 0) (.cons (.bin .Pow (.int 10) (.int 5)) .nil))) (.bin .Pow (.int 10) (.int 4))) (.call "_law_draw" (.cons (.var 0) (.cons (.bin .Pow (.int 10) (.int 4)) .nil))))) (.cons (.ret (.idx (.lst false (.cons (.var 1) (.cons (.bin .Sub (.int 0) (.var 1)) (.cons (.bin .Pow (.int 10) (.int 9)) (.cons (.bin .Sub (.int 0) (.bin .Pow (.int 10) (.int 9))) .nil))))) (.call "_law_draw" (.cons (.var 0) (.cons (.int 4) .nil))))) .nil)⟩
def d__law_some_worth : Df := ⟨["deck", "way"], 1, .cons (.asg (.name 1) (.call "_law_draw" (.cons (.var 0) (.cons (.int 8) .nil)))) (.cons (.ife (.cmp .Lt (.var 1) (.int 4)) (.cons (.ret (.tup (.cons (.bin .Sub (.call "_law_draw" (.cons (.var 0) (.cons (.int 9) .nil))) (.int 4)) (.cons (.int 1) .nil)))) .nil) (.nil)) (.cons (.ife (.cmp .Lt (.var 1) (.int 6)) (.cons (.ret (.call "_law_worth" (.cons (.bin .Sub (.call "_law_draw" (.cons (.var 0) (.cons (.int 41) .nil))) (.int 20)) (.cons (.bin .Add (.int 1) (.call "_law_draw" (.cons (.var 0) (.cons (.int 12) .nil)))) .nil)))) .nil) (.nil)) (.cons (.ife (.cmp .Eq (.var 1) (.int 6)) (.cons (.ret (.idx (.lst false (.cons (.tup (.cons (.int 0) (.cons (.int 1) .nil))) (.cons (.tup (.cons (.int 1) (.cons (.int 1) .nil))) (.cons (.tup (.cons (.neg (.int 1)) (.cons (.int 1) .nil))) (.cons (.tup (.cons (.int 1) (.cons (.int 2) .nil))) .nil))))) (.call "_law_draw" (.cons (.var 0) (.cons (.int 4) .nil))))) .nil) (.nil)) (.cons (.ret (.call "_law_worth" (.cons (.call "_law_far" (.cons (.var 0) .nil)) (.cons (.blt .max2 (.cons (.int 1) (.cons (.blt .abs (.cons (.call "_law_far" (.cons (.var 0) .nil)) .nil)) .nil))) .nil)))) .nil))))⟩
def d__law_many : Df := ⟨["deck", "few", "most"], 3, .cons (.ret (.bin .Add (.int 1) (.call "_law_draw" (.cons (.var 0) (.cons (.idx (.lst false (.cons (.var 1) (.cons (.var 2) .nil))) (.blt .int (.cons (.cmp .Eq (.call "_law_draw" (.cons (.var 0) (.cons (.int 8) .nil))) (.int 5)) .nil))) .nil))))) .nil⟩
def d__law_there : Df := ⟨["deck", "way", "spots", "i", "k", "many", "cut", "wide", "heads", "got"], 5, .cons (.asg (.tup4 (.name 5) (.name 6) (.name 7) (.name 8)) (.var 2)) (.cons (.ife (.cmp .Lt (.var 1) (.int 3)) (.cons (.asg (.name 9) (.call "_law_draw" (.cons (.var 0) (.cons (.idx (.lst false (.cons (.int 5) (.cons (.int 2) (.cons (.int 6) .nil)))) (.var 1)) .nil)))) (.cons (.ret (.idx (.lst false (.cons (.cmp .Eq (.var 9) (.int 0)) (.cons (.cmp .Eq (.var 9) (.int 0)) (.cons (.cmp .Gt (.var 9) (.int 0)) .nil)))) (.var 1))) .nil)) (.nil)) (.cons (.ife (.cmp .Eq (.var 1) (.int 3)) (.cons (.ret (.cmp .Eq (.var 4) (.bin .Add (.var 3) (.int 1)))) .nil) (.nil)) (.cons (.ife (.cmp .Eq (.var 1) (.int 4)) (.cons (.ret (.or (.cmp .Eq (.var 4) (.bin .Add (.var 3) (.int 1))) (.and (.cmp .Eq (.var 3) (.int 0)) (.cmp .Eq (.var 4) (.bin .Sub (.var 5) (.int 1)))))) .nil) (.nil)) (.cons (.ife (.cmp .Eq (.var 1) (.int 5)) (.cons (.ret (.or (.cmp .Eq (.var 3) (.int 0)) (.cmp .Eq (.idx (.var 8) (.var 4)) (.var 3)))) .nil) (.nil)) (.cons (.ife (.cmp .Eq (.var 1) (.int 6)) (.cons (.ret (.cmp .Eq (.idx (.var 8) (.var 4)) (.var 3))) .nil) (.nil)) (.cons (.ife (.cmp .Eq (.var 1) (.int 7)) (.cons (.ret (.or (.cmp .LtE (.var 4) (.var 6)) (.cmp .GtE (.var 3) (.bin .Sub (.var 6) (.var 7))))) .nil) (.nil)) (.cons (.ife (.cmp .Eq (.var 1) (.int 8)) (.cons (.ret (.and (.chain .Lt .LtE (.var 3) (.var 6) (.var 4)) (.cmp .Gt (.call "_law_draw" (.cons (.var 0) (.cons (.int 4) .nil))) (.int 0)))) .nil) (.nil)) (.cons (.ife (.cmp .Eq (.var 1) (.int 9)) (.cons (.ret (.or (.cmp .Eq (.var 4) (.bin .Add (.var 3) (.var 7))) (.and (.cmp .Eq (.var 4) (.bin .Add (.var 3) (.int 1))) (.cmp .Gt (.bin .Mod (.var 4) (.var 7)) (.int 0))))) .nil) (.nil)) (.cons (.ret (.and (.cmp .Eq (.bin .FloorDiv (.var 3) (.var 7)) (.bin .FloorDiv (.var 4) (.var 7))) (.cmp .Gt (.call "_law_draw" (.cons (.var 0) (.cons (.int 3) .nil))) (.int 0)))) .nil)))))))))⟩
def d__law_order : Df := ⟨["deck", "many", "way", "left", "found", "k"], 2, .cons (.asg (.name 2) (.call "_law_draw" (.cons (.var 0) (.cons (.int 4) .nil)))) (.cons (.asg (.name 3) (.con .list true (.rng1 (.var 1)))) (.cons (.asg (.name 4) (.lst true (.nil))) (.cons (.for (.name 5) (.rng1 (.var 1)) (.cons (.ex (.meth (.var 4) .append (.cons (.meth (.var 3) .pop1 (.cons (.idx (.lst false (.cons (.int 0) (.cons (.bin .Sub (.blt .len (.cons (.var 3) .nil)) (.int 1)) (.cons (.call "_law_draw" (.cons (.var 0) (.cons (.blt .len (.cons (.var 3) .nil)) .nil))) (.cons (.call "_law_draw" (.cons (.var 0) (.cons (.blt .len (.cons (.var 3) .nil)) .nil))) .nil))))) (.var 2)) .nil)) .nil))) .nil)) (.cons (.ret (.con .tuple false (.seq (.var 4)))) .nil))))⟩
def d__law_web : Df := ⟨["deck", "many", "way", "heads", "k", "spots", "called", "cells", "i"], 2, .cons (.asg (.name 2) (.call "_law_draw" (.cons (.var 0) (.cons (.int 11) .nil)))) (.cons (.asg (.name 3) (.bin .Add (.lst false (.cons (.int 0) .nil)) (.comp false (.call "_law_draw" (.cons (.var 0) (.cons (.var 4) .nil))) (.name 4) (.rng2 (.int 1) (.var 1)) .none))) (.cons (.asg (.name 5) (.tup (.cons (.var 1) (.cons (.call "_law_draw" (.cons (.var 0) (.cons (.bin .Add (.var 1) (.int 1)) .nil))) (.cons (.bin .Add (.int 1) (.call "_law_draw" (.cons (.var 0) (.cons (.int 4) .nil)))) (.cons (.var 3) .nil)))))) (.cons (.asg (.name 6) (.call "_law_order" (.cons (.var 0) (.cons (.var 1) .nil)))) (.cons (.asg (.name 7) (.lst false (.nil))) (.cons (.for (.name 4) (.rng2 (.int 1) (.var 1)) (.cons (.for (.name 8) (.rng1 (.var 4)) (.cons (.ife (.call "_law_there" (.cons (.var 0) (.cons (.var 2) (.cons (.var 5) (.cons (.var 8) (.cons (.var 4) .nil)))))) (.cons (.asg (.name 7) (.bin .Add (.var 7) (.lst false (.cons (.tup (.cons (.idx (.var 6) (.var 8)) (.cons (.idx (.var 6) (.var 4)) .nil))) (.cons (.tup (.cons (.idx (.var 6) (.var 4)) (.cons (.idx (.var 6) (.var 8)) .nil))) .nil))))) .nil) (.nil)) .nil)) .nil)) (.cons (.ret (.tup (.cons (.var 1) (.cons (.con .tuple false (.seq (.con .sorted false (.seq (.var 7))))) .nil)))) .nil))))))⟩
def d__law_pattern : Df := ⟨["deck", "many", "web", "some", "cell"], 2, .cons (.asg (.name 2) (.call "_law_web" (.cons (.var 0) (.cons (.var 1) .nil)))) (.cons (.asg (.name 3) (.call "_law_draw" (.cons (.var 0) (.cons (.int 3) .nil)))) (.cons (.ret (.tup (.cons (.var 1) (.cons (.con .tuple false (.seq (.comp false (.var 4) (.name 4) (.seq (.idx (.var 2) (.int 1))) (.some (.or (.cmp .Eq (.var 3) (.int 0)) (.cmp .Gt (.call "_law_draw" (.cons (.var 0) (.cons (.int 3) .nil))) (.int 0))))))) .nil)))) .nil))⟩
def d__law_table : Df := ⟨["deck", "many", "own", "pattern", "cells", "cell", "place"], 2, .cons (.asg (.name 2) (.call "_law_draw" (.cons (.var 0) (.cons (.int 4) .nil)))) (.cons (.asg (.name 3) (.call "_law_pattern" (.cons (.var 0) (.cons (.var 1) .nil)))) (.cons (.asg (.name 4) (.comp true (.bin .Add (.var 5) (.tup (.cons (.call "_law_some_worth" (.cons (.var 0) .nil)) .nil))) (.name 5) (.seq (.idx (.var 3) (.int 1))) .none)) (.cons (.for (.name 6) (.rng1 (.var 1)) (.cons (.ife (.cmp .Lt (.call "_law_draw" (.cons (.var 0) (.cons (.int 4) .nil))) (.bin .Add (.var 2) (.int 1))) (.cons (.ex (.meth (.var 4) .append (.cons (.tup (.cons (.var 6) (.cons (.var 6) (.cons (.call "_law_some_worth" (.cons (.var 0) .nil)) .nil)))) .nil))) .nil) (.nil)) .nil)) (.cons (.ret (.tup (.cons (.var 1) (.cons (.con .tuple false (.seq (.con .sorted false (.seq (.var 4))))) .nil)))) .nil))))⟩
def d__law_same : Df := ⟨["found", "due", "one", "other"], 2, .cons (.ife (.isi (.var 1) "tuple") (.cons (.ife (.or (.not (.isi (.var 0) "tuple")) (.cmp .NotEq (.blt .len (.cons (.var 0) .nil)) (.blt .len (.cons (.var 1) .nil)))) (.cons (.ret (.bl false)) .nil) (.nil)) (.cons (.ret (.isin (.bl false) (.comp false (.call "_law_same" (.cons (.var 2) (.cons (.var 3) .nil))) (.tup2 (.name 2) (.name 3)) (.zip (.var 0) (.var 1)) .none) true)) .nil)) (.nil)) (.cons (.ife (.isi (.var 1) "str") (.cons (.ret (.and (.isi (.var 0) "str") (.cmp .Eq (.var 0) (.var 1)))) .nil) (.nil)) (.cons (.ret (.and (.isi (.var 0) "int") (.and (.cmp .Eq (.isi (.var 0) "bool") (.isi (.var 1) "bool")) (.cmp .Eq (.var 0) (.var 1))))) .nil))⟩
def d__law_worth_text : Df := ⟨["worth"], 1, .cons (.ife (.cmp .Eq (.idx (.var 0) (.int 1)) (.int 1)) (.cons (.ret (.blt .str (.cons (.idx (.var 0) (.int 0)) .nil))) .nil) (.nil)) (.cons (.ret (.bin .Add (.bin .Add (.blt .str (.cons (.idx (.var 0) (.int 0)) .nil)) (.str "/")) (.blt .str (.cons (.idx (.var 0) (.int 1)) .nil)))) .nil)⟩
def d__law_text : Df := ⟨["thing", "rows", "cell", "words", "worth"], 1, .cons (.asg (.name 1) (.lst true (.cons (.bin .Add (.str "places ") (.blt .str (.cons (.idx (.var 0) (.int 0)) .nil))) .nil))) (.cons (.for (.name 2) (.seq (.idx (.var 0) (.int 1))) (.cons (.asg (.name 3) (.bin .Add (.lst false (.cons (.blt .str (.cons (.idx (.var 2) (.int 0)) .nil)) (.cons (.blt .str (.cons (.idx (.var 2) (.int 1)) .nil)) .nil))) (.comp false (.call "_law_worth_text" (.cons (.var 4) .nil)) (.name 4) (.seq (.slc (.var 2) (.some (.int 2)) .none)) .none))) (.cons (.ex (.meth (.var 1) .append (.cons (.join (.str " ") (.var 3)) .nil))) .nil))) (.cons (.ret (.join (.str "\n") (.var 1))) .nil))⟩
def d__law_shown_right : Df := ⟨["show", "read", "thing", "text", "turn", "found"], 3, .cons (.asg (.name 3) (.call "_law_text" (.cons (.var 2) .nil))) (.cons (.for (.name 4) (.rng1 (.int 2)) (.cons (.asg (.name 5) (.callv 0 (.cons (.var 2) .nil))) (.cons (.ife (.or (.not (.isi (.var 5) "str")) (.or (.cmp .NotEq (.var 5) (.var 3)) (.not (.call "_law_same" (.cons (.callv 1 (.cons (.var 3) .nil)) (.cons (.var 2) .nil)))))) (.cons (.ret (.bl false)) .nil) (.nil)) .nil))) (.cons (.ret (.bl true)) .nil))⟩
def d__law_read_right : Df := ⟨["show", "read", "thing", "text", "found"], 3, .cons (.asg (.name 3) (.call "_law_text" (.cons (.var 2) .nil))) (.cons (.asg (.name 4) (.callv 1 (.cons (.var 3) .nil))) (.cons (.ret (.and (.call "_law_same" (.cons (.var 4) (.cons (.var 2) .nil))) (.cmp .Eq (.callv 0 (.cons (.var 4) .nil)) (.var 3)))) .nil))⟩
def d__law_far_places : Df := ⟨["deck", "thing", "table", "far", "top", "ends", "worths", "more", "spot", "worth"], 3, .cons (.asg (.name 3) (.bin .Add (.bin .Pow (.int 10) (.int 29)) (.blt .abs (.cons (.call "_law_far" (.cons (.var 0) .nil)) .nil)))) (.cons (.asg (.name 4) (.bin .Mult (.bin .Sub (.bin .Sub (.bin .Pow (.int 10) (.int 30)) (.int 1)) (.bin .Mult (.int 2) (.blt .abs (.cons (.call "_law_far" (.cons (.var 0) .nil)) .nil)))) (.idx (.lst false (.cons (.int 1) (.cons (.neg (.int 1)) .nil))) (.call "_law_draw" (.cons (.var 0) (.cons (.int 2) .nil)))))) (.cons (.asg (.name 5) (.lst false (.cons (.tup (.cons (.bin .Sub (.var 3) (.int 2)) (.cons (.int 0) .nil))) (.cons (.tup (.cons (.bin .Sub (.var 3) (.int 2)) (.cons (.bin .Sub (.var 3) (.int 1)) .nil))) (.cons (.tup (.cons (.bin .Sub (.var 3) (.int 1)) (.cons (.bin .Sub (.var 3) (.int 2)) .nil))) .nil))))) (.cons (.asg (.name 6) (.lst false (.cons (.tup (.cons (.var 4) (.cons (.int 1) .nil))) (.cons (.call "_law_worth" (.cons (.var 4) (.cons (.bin .Add (.bin .Pow (.int 10) (.int 29)) (.int 3)) .nil))) (.cons (.call "_law_worth" (.cons (.bin .Sub (.int 0) (.int 3)) (.cons (.bin .Add (.bin .Pow (.int 10) (.int 29)) (.int 1)) .nil))) .nil))))) (.cons (.asg (.name 7) (.comp false (.bin .Add (.var 8) (.bin .Mult (.tup (.cons (.var 9) .nil)) (.blt .int (.cons (.var 2) .nil)))) (.tup2 (.name 8) (.name 9)) (.zip (.var 5) (.var 6)) .none)) (.cons (.ret (.tup (.cons (.var 3) (.cons (.bin .Add (.idx (.var 1) (.int 1)) (.con .tuple false (.seq (.var 7)))) .nil)))) .nil)))))⟩
def d__law_great_numbers : Df := ⟨["deck", "table", "by", "cells", "i", "k", "worth"], 2, .cons (.asg (.name 2) (.bin .Add (.bin .Pow (.int 10) (.int 29)) (.blt .abs (.cons (.call "_law_far" (.cons (.var 0) .nil)) .nil)))) (.cons (.asg (.name 3) (.comp false (.tup (.cons (.var 4) (.cons (.var 5) (.cons (.call "_law_worth" (.cons (.bin .Add (.bin .Mult (.var 2) (.idx (.lst false (.cons (.int 1) (.cons (.neg (.int 1)) .nil))) (.call "_law_draw" (.cons (.var 0) (.cons (.int 2) .nil))))) (.var 4)) (.cons (.bin .Sub (.bin .Sub (.var 2) (.var 5)) (.int 1)) .nil))) .nil)))) (.tup3 (.name 4) (.name 5) (.name 6)) (.seq (.idx (.var 1) (.int 1))) .none)) (.cons (.ret (.tup (.cons (.idx (.var 1) (.int 0)) (.cons (.con .tuple false (.seq (.var 3))) .nil)))) .nil))⟩
def d__law_wide_pattern : Df := ⟨["deck", "many", "cells", "place"], 1, .cons (.asg (.name 1) (.bin .Add (.int 25) (.call "_law_draw" (.cons (.var 0) (.cons (.int 76) .nil))))) (.cons (.asg (.name 2) (.lst true (.nil))) (.cons (.for (.name 3) (.rng1 (.bin .Sub (.var 1) (.int 1))) (.cons (.ex (.meth (.var 2) .append (.cons (.tup (.cons (.var 3) (.cons (.bin .Add (.var 3) (.int 1)) .nil))) .nil))) (.cons (.ife (.cmp .Eq (.call "_law_draw" (.cons (.var 0) (.cons (.int 2) .nil))) (.int 0)) (.cons (.ex (.meth (.var 2) .append (.cons (.tup (.cons (.bin .Add (.var 3) (.int 1)) (.cons (.var 3) .nil))) .nil))) .nil) (.nil)) .nil))) (.cons (.ret (.tup (.cons (.var 1) (.cons (.con .tuple false (.seq (.con .sorted false (.seq (.var 2))))) .nil)))) .nil)))⟩
def d_law : Df := ⟨["script", "kept", "cell", "deck", "pattern", "table", "far", "other", "few"], 1, .cons (.asg (.name 1) (.tup (.cons (.int 1) (.cons (.tup (.nil)) .nil)))) (.cons (.for (.name 2) (.seq (.bin .Add (.slc (.var 0) .none (.some (.int 8))) (.lst false (.cons (.int 3) .nil)))) (.cons (.asg (.name 3) (.call "_law_deck" (.cons (.var 2) .nil))) (.cons (.asg (.name 4) (.call "_law_pattern" (.cons (.var 3) (.cons (.call "_law_many" (.cons (.var 3) (.cons (.int 6) (.cons (.int 24) .nil)))) .nil)))) (.cons (.asg (.name 5) (.call "_law_table" (.cons (.var 3) (.cons (.call "_law_many" (.cons (.var 3) (.cons (.int 5) (.cons (.int 12) .nil)))) .nil)))) (.cons (.ife (.not (.call "_law_shown_right" (.cons (.gfn "show_pattern") (.cons (.gfn "read_pattern") (.cons (.var 4) .nil))))) (.cons (.ret (.bl false)) .nil) (.nil)) (.cons (.ife (.not (.call "_law_shown_right" (.cons (.gfn "show_table") (.cons (.gfn "read_table") (.cons (.var 5) .nil))))) (.cons (.ret (.bl false)) .nil) (.nil)) (.cons (.par 6 7 (.call "_law_far_places" (.cons (.var 3) (.cons (.var 4) (.cons (.bl false) .nil)))) (.call "_law_far_places" (.cons (.var 3) (.cons (.tup (.cons (.int 1) (.cons (.slc (.idx (.var 5) (.int 1)) .none (.some (.int 20))) .nil))) (.cons (.bl true) .nil))))) (.cons (.ife (.or (.not (.call "_law_same" (.cons (.call "read_pattern" (.cons (.call "_law_text" (.cons (.var 6) .nil)) .nil)) (.cons (.var 6) .nil)))) (.not (.call "_law_same" (.cons (.call "read_table" (.cons (.call "_law_text" (.cons (.var 7) .nil)) .nil)) (.cons (.var 7) .nil))))) (.cons (.ret (.bl false)) .nil) (.nil)) (.cons (.asg (.name 8) (.tup (.cons (.idx (.var 5) (.int 0)) (.cons (.slc (.idx (.var 5) (.int 1)) .none (.some (.int 20))) .nil)))) (.cons (.ife (.not (.call "_law_read_right" (.cons (.gfn "show_table") (.cons (.gfn "read_table") (.cons (.call "_law_great_numbers" (.cons (.var 3) (.cons (.var 8) .nil))) .nil))))) (.cons (.ret (.bl false)) .nil) (.nil)) (.cons (.ife (.not (.call "_law_read_right" (.cons (.gfn "show_pattern") (.cons (.gfn "read_pattern") (.cons (.call "_law_wide_pattern" (.cons (.var 3) .nil)) .nil))))) (.cons (.ret (.bl false)) .nil) (.nil)) (.cons (.ife (.or (.not (.call "_law_same" (.cons (.call "read_pattern" (.cons (.call "_law_text" (.cons (.var 1) .nil)) .nil)) (.cons (.var 1) .nil)))) (.not (.call "_law_same" (.cons (.call "read_table" (.cons (.call "_law_text" (.cons (.var 5) .nil)) .nil)) (.cons (.var 5) .nil))))) (.cons (.ret (.bl false)) .nil) (.nil)) (.cons (.asg (.name 1) (.var 4)) .nil))))))))))))) (.cons (.ret (.and (.cmp .Eq (.call "show_table" (.cons (.tup (.cons (.int 1) (.cons (.tup (.cons (.tup (.cons (.int 0) (.cons (.int 0) (.cons (.tup (.cons (.neg (.int 1)) (.cons (.int 2) .nil))) .nil)))) .nil)) .nil))) .nil)) (.str "places 1\n0 0 -1/2")) (.cmp .Eq (.call "read_table" (.cons (.str "places 9") .nil)) (.tup (.cons (.int 9) (.cons (.tup (.nil)) .nil)))))) .nil))⟩
end K07
set_option Elab.async false
set_option linter.all false
set_option maxRecDepth 100000
set_option maxHeartbeats 4000000
namespace K07
open PySem L2 MP
structure Tab (tab : Str → Option Df) : Prop where
  rt : RTT tab
  sh : SHT tab
  pt : PT.Tab tab
  wot : tab "_law_worth_text" = some d__law_worth_text
  txt : tab "_law_text" = some d__law_text
  shr : tab "_law_shown_right" = some d__law_shown_right
  rer : tab "_law_read_right" = some d__law_read_right
  far : tab "_law_far_places" = some d__law_far_places
  gre : tab "_law_great_numbers" = some d__law_great_numbers
  wid : tab "_law_wide_pattern" = some d__law_wide_pattern
  law : tab "law" = some d_law
variable {tab : Str → Option Df} {k : Nat} {h : MH} {Q : Post} {E : XQ}
theorem worth_text_ok (T : Tab tab) {x y : Int} (W : Wo x y) (q : Q (.str (worS x y)) h) : callW tab (k + 1) "_law_worth_text" [.tup [.int x, .int y]] h Q E := by
  have hy' : y.natAbs < 10 ^ 30 := by have := W.y1; have := W.hy; omega
  have l1 := intS_len W.hx
  have l2 := intS_len hy'
  have e1 : (("/" : Str)).length = 1 := by decide +kernel
  have st : ∀ n : Int, Str.ofString n.repr = intS n := fun _ => rfl
  refine call_body T.wot rfl ?_
  rw [d__law_worth_text, w_ife]
  simp only [startE]
  simp
  split
  · rename_i e
    subst e
    rw [w_ret]
    simp
    rw [worS_1] at q
    exact ⟨lg30 W.hx, ret_same q⟩
  · rename_i ne
    rw [w_nil]
    simp
    rw [w_ret]
    simp
    rw [worS_2 ne] at q
    simp only [st]
    exact ⟨lg30 W.hx, szl (by omega), lg30 hy', szl (by rw [app_len]; omega), ret_same q⟩
abbrev Cl := Nat × Nat × List (Int × Int)
def wV (w : Int × Int) : PV := .tup [.int w.1, .int w.2]
def clV (c : Cl) : PV := .tup (.int (c.1 : Nat) :: .int (c.2.1 : Nat) :: c.2.2.map wV)
def clW (c : Cl) : List Str := numS c.1 :: numS c.2.1 :: c.2.2.map fun w => worS w.1 w.2
structure Cls (m : Nat) (cs : List Cl) : Prop where
  mm : m < 10 ^ 30
  lt : ∀ c ∈ cs, c.1 < m ∧ c.2.1 < m
  wo : ∀ c ∈ cs, c.2.2.length ≤ 1 ∧ ∀ w ∈ c.2.2, Wo w.1 w.2
  len : cs.length ≤ 3000
theorem clW_len {m : Nat} {cs : List Cl} (B : Cls m cs) : ∀ ws ∈ cs.map clW, (lineS ws).length ≤ 130 := fun ws hw => by
  obtain ⟨c, hc, rfl⟩ := List.mem_map.mp hw
  obtain ⟨c1, c2⟩ := B.lt c hc
  obtain ⟨w1, w2⟩ := B.wo c hc
  have mm := B.mm
  have l1 := numS_len (n := c.1) (by decide : 0 < 30) (by omega)
  have l2 := numS_len (n := c.2.1) (by decide : 0 < 30) (by omega)
  have := join_len " " (clW c)
  have e2 : ((" " : Str)).length = 1 := by decide +kernel
  obtain ⟨i, j, ws⟩ := c
  simp only at w1 w2 l1 l2
  match ws, w1 with
  | [], _ =>
    simp only [clW, List.map_cons, List.map_nil, List.sum_cons, List.sum_nil, List.length_cons, List.length_nil, e2] at this
    unfold lineS
    simp only [clW, List.map_nil]
    omega
  | [w], _ =>
    have W := w2 w (List.mem_singleton.mpr rfl)
    have l3 := worS_len W.hx (show w.2.natAbs < 10 ^ 30 by have := W.y1; have := W.hy; omega)
    simp only [clW, List.map_cons, List.map_nil, List.sum_cons, List.sum_nil, List.length_cons, List.length_nil, e2] at this
    unfold lineS
    simp only [clW, List.map_cons, List.map_nil]
    omega
def wtF : PV → Option PV
  | .tup [.int x, .int y] => some (.str (worS x y))
  | _ => none
theorem wtF_ws : ∀ l : List (Int × Int), (l.map wV).filterMap wtF = (l.map fun w => worS w.1 w.2).map PV.str
  | [] => rfl
  | a :: r => by rw [List.map_cons, List.filterMap_cons, wtF_ws r]; rfl
theorem join_p {p : Addr} {a : Str} {ys : List Str} (e : h p = some (.lst (ys.map PV.str))) (hl : (ys.map (·.length)).sum + ys.length * a.length ≤ 16777216) (q : Q (.str (Txt.join a ys)) h) : joinW (.str a) (.loc p) h Q := ⟨a, ys, rfl, seqT_loc e, hl, q⟩
theorem text_ok (T : Tab tab) {m : Nat} {cs : List Cl} (B : Cls m cs) (q : Q (.str (textS (headW m :: cs.map clW))) h) : callW tab (k + 2) "_law_text" [.tup [.int (m : Nat), .tup (cs.map clV)]] h Q E := by
  have e7 : (("places " : Str)).length = 7 := by decide +kernel
  have e1 : ((" " : Str)).length = 1 := by decide +kernel
  have en : (("\n" : Str)).length = 1 := by decide +kernel
  have st : ∀ n : Nat, Str.ofString ((n : Nat) : Int).repr = numS n := fun _ => rfl
  have hm := B.mm
  have lw := numS_len (by decide : 0 < 30) hm
  have lc := B.len
  refine call_body T.txt rfl ?_
  rw [d__law_text, w_asg]
  simp only [startE]
  simp
  simp only [st]
  refine ⟨lgN (by omega), szl (by omega), szl (by omega), fun p hp => ?_⟩
  have eh : PV.str (("places " : Str) ++ numS m) = PV.str (lineS (headW m)) := by rw [head_eq]
  rw [eh]
  rw [w_for]
  simp
  intro _
  refine for_all (fun i e g => ∃ w2 w3 w4, e = [some (.tup [.int (m : Nat), .tup (cs.map clV)]), some (.loc p), w2, w3, w4] ∧ g = h.put p (.lst (((headW m :: (cs.take i).map clW).map lineS).map PV.str)))
    ⟨_, _, _, rfl, by simp⟩ (fun _ _ _ _ => by simp) ?_ ?_
  · rintro i x e g N hx ⟨w2, w3, w4, rfl, rfl⟩ hN
    rw [List.getElem?_map] at hx
    cases e : cs[i]? with
    | none => rw [e] at hx; cases hx
    | some c =>
      rw [e] at hx
      obtain rfl : clV c = x := Option.some.inj hx
      have hc := List.mem_of_getElem? e
      obtain ⟨c1, c2⟩ := B.lt c hc
      obtain ⟨k1, k2⟩ := B.wo c hc
      have l1 := numS_len (n := c.1) (by decide : 0 < 30) (by omega)
      have l2 := numS_len (n := c.2.1) (by decide : 0 < 30) (by omega)
      have ln := clW_len B _ (List.mem_map.mpr ⟨c, hc, rfl⟩)
      simp
      rw [w_asg]
      simp [clV]
      simp only [st]
      rw [cutP_hi _ (by decide)]
      refine ⟨lgN (by omega), lgN (by omega), szl (by omega), ?_⟩
      simp
      intro _
      refine comp_pure wtF (by simp) (fun x hx R hR => ?_) ?_
      · obtain ⟨w, hw, rfl⟩ := List.mem_map.mp hx
        exact worth_text_ok (k := k) T (k2 w hw) hR
      · rw [wtF_ws]
        refine ⟨szl (by simp only [List.length_map]; omega), szl (by simp only [List.length_map]; omega), ?_⟩
        rw [w_ex]
        simp
        have ej : PV.lst (PV.str (numS c.1) :: PV.str (numS c.2.1) :: List.map (PV.str ∘ fun w => worS w.1 w.2) c.2.2) = PV.lst ((clW c).map PV.str) := by simp [clW]
        rw [ej]
        have lw : ∀ y ∈ clW c, y.length ≤ 64 := fun y hy => by
          simp only [clW, List.mem_cons, List.mem_map] at hy
          rcases hy with rfl | rfl | ⟨w, hw, rfl⟩
          · omega
          · omega
          · have W := k2 w hw
            exact worS_len W.hx (show w.2.natAbs < 10 ^ 30 by have := W.y1; have := W.hy; omega)
        have ls := sum_le lw
        have lk : (clW c).length ≤ 3 := by simp only [clW, List.length_cons, List.length_map]; omega
        refine join_l (by rw [e1]; omega) ?_
        refine ⟨_, put_at, ?_, ?_⟩
        · rw [PySem.sizeLine_eq]
          simp only [List.length_cons, List.length_take, List.length_map]
          omega
        · rw [put_put]
          simp only [w_nil]
          refine hN _ _ ⟨_, _, _, rfl, ?_⟩
          rw [List.take_add_one, e]
          simp [lineS]
  · rintro e g ⟨w2, w3, w4, rfl, rfl⟩
    have et : List.take (List.map clV cs).length cs = cs := by rw [List.length_map, List.take_length]
    simp only [et]
    show wpSs _ _ _ _ _ _
    rw [w_ret]
    simp
    have b := sum_le (lines_le hm (clW_len B))
    refine join_p (ys := (headW m :: cs.map clW).map lineS) (by rw [put_at]; simp) (by rw [en]; simp only [List.length_map, List.length_cons] at b ⊢; omega) ?_
    exact ret_drop (hle_put hp hle_refl) q
theorem same4 (T : Tab tab) {v : PV} (dv : WB.deepI 4 v) (q : Q (.bl true) h) : callW tab (k + 6) "_law_same" [v, v] h Q E := by
  have := WB.same_ok (h := h) (E := E) T.pt.wb 4 (k + 1) dv q
  rwa [show 4 + (k + 1) + 1 = k + 6 by omega] at this
theorem shown_ok (T : Tab tab) {fs fr : Str} {v : PV} {z : Str} (ht : ∀ (h : MH) (Q : Post) (E : XQ), Q (.str z) h → callW tab (k + 6) "_law_text" [v] h Q E)
    (hs : ∀ (h : MH) (Q : Post) (E : XQ), Q (.str z) h → callW tab (k + 6) fs [v] h Q E) (hr : ∀ (h : MH) (Q : Post) (E : XQ), Q v h → callW tab (k + 6) fr [.str z] h Q E) (dv : WB.deepI 4 v) (q : Q (.bl true) h) :
    callW tab (k + 7) "_law_shown_right" [.fn fs, .fn fr, v] h Q E := by
  refine call_body T.shr rfl ?_
  rw [d__law_shown_right, w_asg]
  simp only [startE]
  simp
  refine ht _ _ _ ?_
  rw [w_for]
  simp
  obtain ⟨g1, g2, g3⟩ := rng_ok (m := 2) (by omega)
  refine ⟨g1, by rw [PySem.sizeLine_eq]; decide, ?_⟩
  refine for_all (fun i e g => ∃ w4 w5, e = [some (.fn fs), some (.fn fr), some v, some (.str z), w4, w5] ∧ g = h) ⟨_, _, rfl, rfl⟩ (fun _ _ _ _ => by simp) ?_ ?_
  · rintro i x e g N hx ⟨w4, w5, rfl, rfl⟩ hN
    simp
    rw [w_asg]
    simp
    refine hs _ _ _ ?_
    rw [w_ife]
    simp [isi_eq (show pur (.str z) = true from rfl), tyB, isTb, isT]
    refine hr _ _ _ ?_
    refine same4 (k := k) T dv ?_
    simp
    rw [w_nil]
    simp only [w_nil]
    exact hN _ _ ⟨_, _, rfl, rfl⟩
  · rintro e g ⟨w4, w5, rfl, rfl⟩
    simp
    rw [w_ret]
    simp
    exact ret_same q
theorem read_ok (T : Tab tab) {fs fr : Str} {v : PV} {z : Str} (ht : ∀ (h : MH) (Q : Post) (E : XQ), Q (.str z) h → callW tab (k + 6) "_law_text" [v] h Q E)
    (hs : ∀ (h : MH) (Q : Post) (E : XQ), Q (.str z) h → callW tab (k + 6) fs [v] h Q E) (hr : ∀ (h : MH) (Q : Post) (E : XQ), Q v h → callW tab (k + 6) fr [.str z] h Q E) (dv : WB.deepI 4 v) (q : Q (.bl true) h) :
    callW tab (k + 7) "_law_read_right" [.fn fs, .fn fr, v] h Q E := by
  refine call_body T.rer rfl ?_
  rw [d__law_read_right, w_asg]
  simp only [startE]
  simp
  refine ht _ _ _ ?_
  rw [w_asg]
  simp
  refine hr _ _ _ ?_
  rw [w_ret]
  simp
  refine same4 (k := k) T dv ?_
  simp
  refine hs _ _ _ ?_
  simp
  exact ret_same q
end K07
set_option Elab.async false
set_option linter.all false
set_option maxRecDepth 100000
set_option maxHeartbeats 4000000
namespace K07
open PySem L2 MP
variable {tab : Str → Option Df} {k : Nat} {h : MH} {Q : Post} {E : XQ}
def endV (b : Bool) (i j : Int) (x y : Int) : PV := .tup ([.int i, .int j] ++ if b = true then [.tup [.int x, .int y]] else [])
theorem wo_of {x y : Int} (h1 : x.natAbs ≤ 10 ^ 30 - 1) (h2 : 1 ≤ y) (h3 : y ≤ ((10 ^ 30 - 1 : Nat) : Int)) (g : Int.gcd x y = 1) : Wo x y := ⟨by omega, h2, by omega, g⟩
def endF (b : Bool) : PV → Option PV
  | .tup [.tup s, w] => some (.tup (s ++ if b = true then [w] else []))
  | _ => none
theorem sign_at {r : Int} (r0 : 0 ≤ r) (r1 : r < 2) : ∃ sg : Int, L2.atI [PV.int 1, PV.int (-1)] r = some (.int sg) ∧ (sg = 1 ∨ sg = -1) := by
  have : r = 0 ∨ r = 1 := by omega
  rcases this with rfl | rfl
  · exact ⟨1, by simp, .inl rfl⟩
  · exact ⟨-1, by simp, .inr rfl⟩
theorem far_ok (T : Tab tab) {b : Bool} {p : Addr} {d1 d2 d3 : Int} {v0 : PV} {xs : List PV} (hp : h p = some (.lst [.int d1, .int d2, .int d3])) (lx : xs.length ≤ 3000)
    (q : ∀ (f x1 y1 x2 y2 x3 y3 a' b' c' : Int), 10 ^ 29 ≤ f → f ≤ 10 ^ 29 + 10 ^ 9 → Wo x1 y1 → Wo x2 y2 → Wo x3 y3 → Q (.tup [.int f, .tup (xs ++ [endV b (f - 2) 0 x1 y1, endV b (f - 2) (f - 1) x2 y2, endV b (f - 1) (f - 2) x3 y3])]) (h.put p (.lst [.int a', .int b', .int c']))) :
    callW tab (k + 3) "_law_far_places" [.loc p, .tup [v0, .tup xs], .bl b] h Q E := by
  refine call_body T.far rfl ?_
  rw [d__law_far_places, w_asg]
  simp only [startE]
  simp
  refine SW.far_ok (k := k) T.pt.sw hp fun f0 a1 b1 c1 hf0 => ?_
  simp
  rw [SW.absI]
  obtain ⟨f, hf, f1, f2⟩ : ∃ f : Int, (100000000000000000000000000000 : Int) + (f0.natAbs : Nat) = f ∧ 10 ^ 29 ≤ f ∧ f ≤ 10 ^ 29 + 10 ^ 9 := ⟨_, rfl, by omega, by omega⟩
  rw [hf]
  rw [w_asg]
  simp
  refine SW.far_ok (k := k) T.pt.sw put_at fun f3 a2 b2 c2 hf3 => ?_
  simp
  rw [SW.absI]
  refine ⟨szl (by omega), ?_⟩
  refine MP.draw_ok (k := k + 1) T.pt.sw.t__law_draw put_at (by decide) (by decide) fun r a3 b3 c3 r0 r1 => ?_
  obtain ⟨sg, hs, hsg⟩ := sign_at r0 r1
  refine ⟨_, hs, ?_⟩
  simp
  refine ⟨.inr (.inl (by rcases hsg with rfl | rfl <;> decide)), ?_⟩
  obtain ⟨top, ht, ht1⟩ : ∃ top : Int, (999999999999999999999999999999 - 2 * (f3.natAbs : Int)) * sg = top ∧ top.natAbs ≤ 10 ^ 30 - 1 := by
    refine ⟨_, rfl, ?_⟩
    rcases hsg with rfl | rfl <;> omega
  rw [ht]
  rw [w_asg]
  simp
  refine ⟨szl (by omega), szl (by omega), ?_⟩
  rw [w_asg]
  simp
  refine ⟨szl (by omega), ?_⟩
  refine SW.worth_ok (k := k) T.pt.sw (B := 10 ^ 30 - 1) (by decide) ht1 (by omega) (by omega) fun x2 y2 hx2 hy2 hy2' g2 => ?_
  refine SW.worth_ok (k := k) T.pt.sw (B := 10 ^ 30 - 1) (by decide) (by decide) (by omega) (by omega) fun x3 y3 hx3 hy3 hy3' g3 => ?_
  refine ⟨szl (by omega), ?_⟩
  rw [w_asg]
  simp
  have W1 : Wo top 1 := wo_of ht1 (by decide) (by decide) (by simp)
  have W2 := wo_of hx2 hy2 hy2' g2
  have W3 := wo_of hx3 hy3 hy3' g3
  have q := q f top 1 x2 y2 x3 y3 a3 b3 c3 f1 f2 W1 W2 W3
  refine ⟨_, _, ⟨rfl, rfl⟩, fun _ _ => ?_⟩
  refine comp_pure (endF b) (by simp) (fun x hx R hR => ?_) ?_
  · simp only [List.zip_cons_cons, List.zip_nil_right, List.map_cons, List.map_nil, List.mem_cons, List.not_mem_nil, or_false] at hx
    rcases hx with rfl | rfl | rfl <;> (cases b <;> (simp [endF] at hR ⊢; exact ⟨szl (by omega), szl (by omega), hR⟩))
  · have ef : List.filterMap (endF b) (List.map (fun p : PV × PV => PV.tup [p.1, p.2]) ([PV.tup [PV.int (f - 2), PV.int 0], PV.tup [PV.int (f - 2), PV.int (f - 1)], PV.tup [PV.int (f - 1), PV.int (f - 2)]].zip [PV.tup [PV.int top, PV.int 1], PV.tup [PV.int x2, PV.int y2], PV.tup [PV.int x3, PV.int y3]])) =
        [endV b (f - 2) 0 top 1, endV b (f - 2) (f - 1) x2 y2, endV b (f - 1) (f - 2) x3 y3] := rfl
    rw [ef]
    refine ⟨szl (by simp), ?_⟩
    show wpSs _ _ _ _ _ _
    rw [w_ret]
    simp
    exact fun _ => ⟨szl (by omega), szl (by omega), ret_same (by simpa using q)⟩
theorem great_ok (T : Tab tab) {p : Addr} {d1 d2 d3 : Int} {m : Nat} {c : List PT.Tr} (hp : h p = some (.lst [.int d1, .int d2, .int d3])) (hm : m ≤ 100) (lt : ∀ t ∈ c, t.1 < m ∧ t.2.1 < m) (lc : c.length ≤ 3000)
    (q : ∀ (c' : List PT.Tr) a' b' c0, c'.map PT.key = c.map PT.key → (∀ t ∈ c', Wo t.2.2.1 t.2.2.2) → Q (PT.tabV m c') (h.put p (.lst [.int a', .int b', .int c0]))) :
    callW tab (k + 3) "_law_great_numbers" [.loc p, PT.tabV m c] h Q E := by
  refine call_body T.gre rfl ?_
  rw [d__law_great_numbers, w_asg]
  simp only [startE]
  simp
  refine SW.far_ok (k := k) T.pt.sw hp fun f0 a1 b1 c1 hf0 => ?_
  simp
  rw [SW.absI]
  obtain ⟨f, hf, f1, f2⟩ : ∃ f : Int, (100000000000000000000000000000 : Int) + (f0.natAbs : Nat) = f ∧ 10 ^ 29 ≤ f ∧ f ≤ 10 ^ 29 + 10 ^ 9 := ⟨_, rfl, by omega, by omega⟩
  rw [hf]
  rw [w_asg]
  simp [PT.tabV]
  intro _
  refine comp_inv (fun i acc g => ∃ l a b c0, acc = l.map PT.trV ∧ l.map PT.key = (c.take i).map PT.key ∧ (∀ t ∈ l, Wo t.2.2.1 t.2.2.2) ∧ g = h.put p (.lst [.int a, .int b, .int c0])) ⟨[], _, _, _, rfl, rfl, (fun t ht => nomatch ht), rfl⟩ (fun _ _ _ _ => by simp) ?_ ?_
  · rintro i x acc g R hx ⟨l, a, b, c0, rfl, sl, wo, rfl⟩ hR
    rw [List.getElem?_map] at hx
    cases e : c[i]? with
    | none => rw [e] at hx; cases hx
    | some t =>
      rw [e] at hx
      obtain rfl : PT.trV t = x := Option.some.inj hx
      obtain ⟨t1, t2⟩ := lt t (List.mem_of_getElem? e)
      simp [PT.trV, PT.woV]
      refine ⟨szl (by omega), ?_⟩
      refine MP.draw_ok (k := k + 1) T.pt.sw.t__law_draw put_at (by decide) (by decide) fun r a3 b3 c3 r0 r1 => ?_
      obtain ⟨sg, hs, hsg⟩ := sign_at r0 r1
      refine ⟨_, hs, ?_⟩
      simp
      refine ⟨.inr (.inl (by rcases hsg with rfl | rfl <;> decide)), ?_⟩
      refine SW.worth_ok (k := k) T.pt.sw (B := 10 ^ 30 - 1) (by decide) (by rcases hsg with rfl | rfl <;> omega) (by omega) (by omega) fun x2 y2 hx2 hy2 hy2' g2 => ?_
      refine ⟨szl (by omega), hR _ _ ⟨l ++ [(t.1, t.2.1, x2, y2)], _, _, _, by simp [PT.trV, PT.woV], ?_, fun u hu => ?_, rfl⟩⟩
      · rw [List.map_append, sl, List.take_add_one, e]
        simp [PT.key]
      · rcases List.mem_append.mp hu with z | z
        · exact wo u z
        · rw [List.mem_singleton] at z
          subst z
          exact wo_of hx2 hy2 hy2' g2
  · rintro acc g ⟨l, a, b, c0, rfl, sl, wo, rfl⟩
    rw [List.length_map, List.take_length] at sl
    have ll : l.length = c.length := by have := congrArg List.length sl; simpa using this
    refine ⟨szl (by rw [List.length_map]; omega), ?_⟩
    show wpSs _ _ _ _ _ _
    rw [w_ret]
    simp
    exact fun _ => ⟨szl (by omega), ret_same (q l a b c0 sl wo)⟩
theorem wide_ok (T : Tab tab) {p : Addr} {d1 d2 d3 : Int} (hp : h p = some (.lst [.int d1, .int d2, .int d3]))
    (q : ∀ (m : Nat) cs a' b' c', IsPat m cs → m ≤ 100 → cs.length ≤ 3000 → Q (patV m cs) (h.put p (.lst [.int a', .int b', .int c']))) : callW tab (k + 2) "_law_wide_pattern" [.loc p] h Q E := by
  refine call_body T.wid rfl ?_
  rw [d__law_wide_pattern, w_asg]
  simp only [startE]
  simp
  refine MP.draw_ok (k := k) T.pt.sw.t__law_draw hp (by decide) (by decide) fun r a1 b1 c1 r0 r1 => ?_
  simp
  obtain ⟨m, hm, m1, m2⟩ : ∃ m : Nat, 25 + r = (m : Int) ∧ 25 ≤ m ∧ m ≤ 100 := ⟨(25 + r).toNat, by omega, by omega, by omega⟩
  rw [hm]
  rw [w_asg]
  simp
  intro p2 hp2
  have ne : p ≠ p2 := fun z => by rw [z, put_at] at hp2; cases hp2
  have hn2 : h p2 = none := by rwa [put_off (Ne.symm ne)] at hp2
  rw [w_for]
  simp
  have em : (m : Int) - 1 = ((m - 1 : Nat) : Int) := by omega
  rw [em]
  obtain ⟨g1, g2, g3⟩ := rng_ok (m := m - 1) (by omega)
  refine ⟨g1, by omega, ?_⟩
  refine for_all (fun i e g => ∃ w3 C a b c, e = [some (.loc p), some (.int (m : Nat)), some (.loc p2), w3] ∧ g = (h.put p (.lst [.int a, .int b, .int c])).put p2 (.lst (C.map prV)) ∧ C.Nodup ∧ (∀ c ∈ C, (c.2 = c.1 + 1 ∧ c.1 < i) ∨ (c.1 = c.2 + 1 ∧ c.2 < i)) ∧ C.length ≤ 2 * i)
    ⟨_, [], _, _, _, rfl, rfl, by simp, by simp, by simp⟩ (fun _ _ _ _ => by simp) ?_ ?_
  · rintro i x e g N hx ⟨w3, C, a, b, c, rfl, rfl, nd, mem, lC⟩ hN
    obtain ⟨rfl, hi⟩ := rngV_get hx
    simp
    rw [w_ex]
    simp [methW]
    refine ⟨szl (by omega), szl (by omega), ?_⟩
    rw [w_ife]
    simp
    refine MP.draw_ok (k := k) T.pt.sw.t__law_draw (by rw [put_off ne, put_at]) (by decide) (by decide) fun r a' b' c' r0 r1 => ?_
    rw [put2 ne]
    have e1 : List.map prV C ++ [PV.tup [PV.int (i : Nat), PV.int ((i : Int) + 1)]] = (C ++ [(i, i + 1)]).map prV := by simp [prV]
    have nd1 : (C ++ [(i, i + 1)]).Nodup := by
      rw [List.nodup_append]
      refine ⟨nd, by simp, fun a ha b hb z => ?_⟩
      subst z
      rw [List.mem_singleton] at hb
      subst hb
      rcases mem _ ha with z | z <;> (simp only at z; omega)
    have mem1 : ∀ c ∈ C ++ [(i, i + 1)], (c.2 = c.1 + 1 ∧ c.1 < i + 1) ∨ (c.1 = c.2 + 1 ∧ c.2 < i) := fun c hc => by
      rcases List.mem_append.mp hc with z | z
      · rcases mem c z with y | y <;> omega
      · rw [List.mem_singleton] at z
        subst z
        exact .inl ⟨rfl, Nat.lt_succ_self _⟩
    rw [e1]
    simp
    split
    · rw [w_ex]
      simp [methW]
      have e2 : List.map prV C ++ prV (i, i + 1) :: [PV.tup [PV.int ((i : Int) + 1), PV.int (i : Nat)]] = ((C ++ [(i, i + 1)]) ++ [(i + 1, i)]).map prV := by simp [prV]
      refine ⟨szl (by omega), szl (by omega), ?_⟩
      simp only [w_nil]
      refine hN _ _ ⟨_, (C ++ [(i, i + 1)]) ++ [(i + 1, i)], a', b', c', rfl, by simp [prV], ?_, fun c hc => ?_, by simp only [List.length_append, List.length_cons, List.length_nil]; omega⟩
      · rw [List.nodup_append]
        refine ⟨nd1, by simp, fun a ha b hb z => ?_⟩
        subst z
        rw [List.mem_singleton] at hb
        subst hb
        rcases mem1 _ ha with z | z <;> (simp only at z; omega)
      · rcases List.mem_append.mp hc with z | z
        · rcases mem1 c z with y | y <;> omega
        · rw [List.mem_singleton] at z
          subst z
          exact .inr ⟨rfl, Nat.lt_succ_self _⟩
    · simp only [w_nil]
      exact hN _ _ ⟨_, C ++ [(i, i + 1)], a', b', c', rfl, by simp, nd1, fun c hc => by rcases mem1 c hc with y | y <;> omega, by simp only [List.length_append, List.length_cons, List.length_nil]; omega⟩
  · rintro e g ⟨w3, C, a, b, c, rfl, rfl, nd, mem, lC⟩
    have lr : (rngV 0 ((m - 1 : Nat) : Int)).length = m - 1 := by rw [rngV_len]; omega
    rw [lr] at mem lC
    have D : Dw m C := ⟨fun c hc => by rcases mem c hc with z | z <;> omega, nd⟩
    simp
    rw [w_ret]
    simp [srcV_loc put_at]
    refine fun _ => ⟨sortOk_prs _, szl (by omega), fun _ => ⟨szl (by omega), ?_⟩⟩
    rw [sort_prs]
    exact ret_drop (hle_put (by rw [put_off (Ne.symm ne)]; exact hn2) hle_refl) (q m _ a b c ⟨by omega, sort_dw D, sort2_lt nd⟩ m2 (by rw [List.length_mergeSort]; omega))
end K07
set_option Elab.async false
set_option linter.all false
set_option maxRecDepth 100000
set_option maxHeartbeats 4000000
namespace K07
open PySem L2 MP
variable {tab : Str → Option Df} {k : Nat} {h : MH} {Q : Post} {E : XQ}
structure Pt (m : Nat) (cs : List (Nat × Nat)) : Prop where
  ip : IsPat m cs
  mm : m < 10 ^ 30
  len : cs.length ≤ 3000
theorem text_pat (T : Tab tab) {m : Nat} {cs : List (Nat × Nat)} (P : Pt m cs) (q : Q (.str (patT m cs)) h) : callW tab (k + 2) "_law_text" [patV m cs] h Q E := by
  have e1 : patV m cs = .tup [.int (m : Nat), .tup ((cs.map fun c => ((c.1, c.2, []) : Cl)).map clV)] := by
    rw [List.map_map]; rfl
  have e2 : patT m cs = textS (headW m :: (cs.map fun c => ((c.1, c.2, []) : Cl)).map clW) := by
    rw [List.map_map]; rfl
  rw [e1]
  rw [e2] at q
  refine text_ok T ⟨P.mm, fun c hc => ?_, fun c hc => ?_, by rw [List.length_map]; exact P.len⟩ q
  · obtain ⟨x, hx, rfl⟩ := List.mem_map.mp hc
    have := P.ip.2.1.lt x hx
    exact ⟨this.1, this.2.1⟩
  · obtain ⟨x, hx, rfl⟩ := List.mem_map.mp hc
    exact ⟨Nat.zero_le _, fun w hw => nomatch hw⟩
theorem text_tab (T : Tab tab) {m : Nat} {c : List PT.Tr} (B : Tb m c) (q : Q (.str (tabT m c)) h) : callW tab (k + 2) "_law_text" [PT.tabV m c] h Q E := by
  have e1 : PT.tabV m c = .tup [.int (m : Nat), .tup ((c.map fun t => ((t.1, t.2.1, [(t.2.2.1, t.2.2.2)]) : Cl)).map clV)] := by
    rw [List.map_map]; rfl
  have e2 : tabT m c = textS (headW m :: (c.map fun t => ((t.1, t.2.1, [(t.2.2.1, t.2.2.2)]) : Cl)).map clW) := by
    rw [List.map_map]; rfl
  rw [e1]
  rw [e2] at q
  refine text_ok T ⟨B.mm, fun c hc => ?_, fun c hc => ?_, by rw [List.length_map]; exact B.len⟩ q
  · obtain ⟨x, hx, rfl⟩ := List.mem_map.mp hc
    exact B.lt x hx
  · obtain ⟨x, hx, rfl⟩ := List.mem_map.mp hc
    refine ⟨Nat.le_refl _, fun w hw => ?_⟩
    rw [List.mem_singleton] at hw
    subst hw
    exact B.wo x hx
theorem deep_pat {m : Nat} {cs : List (Nat × Nat)} (P : Pt m cs) : WB.deepI 4 (patV m cs) := by
  have := P.len
  simp only [patV, WB.deepI]
  refine ⟨by simp, fun x hx => ?_⟩
  simp only [List.mem_cons, List.not_mem_nil, or_false] at hx
  rcases hx with rfl | rfl
  · trivial
  · refine ⟨by rw [List.length_map]; omega, fun x hx => ?_⟩
    obtain ⟨c, _, rfl⟩ := List.mem_map.mp hx
    refine ⟨by simp, fun x hx => ?_⟩
    simp only [List.mem_cons, List.not_mem_nil, or_false] at hx
    rcases hx with rfl | rfl <;> trivial
theorem deep_tab {m : Nat} {c : List PT.Tr} (B : Tb m c) : WB.deepI 4 (PT.tabV m c) := by
  have := B.len
  simp only [PT.tabV, WB.deepI]
  refine ⟨by simp, fun x hx => ?_⟩
  simp only [List.mem_cons, List.not_mem_nil, or_false] at hx
  rcases hx with rfl | rfl
  · trivial
  · refine ⟨by rw [List.length_map]; omega, fun x hx => ?_⟩
    obtain ⟨t, _, rfl⟩ := List.mem_map.mp hx
    refine ⟨by simp, fun x hx => ?_⟩
    simp only [List.mem_cons, List.not_mem_nil, or_false] at hx
    rcases hx with rfl | rfl | rfl
    · trivial
    · trivial
    · refine ⟨by simp, fun x hx => ?_⟩
      simp only [List.mem_cons, List.not_mem_nil, or_false] at hx
      rcases hx with rfl | rfl <;> trivial
theorem pairs_len {m : Nat} {l : List (Nat × Nat)} (nd : l.Nodup) (lt : ∀ c ∈ l, c.1 < m ∧ c.2 < m) : l.length ≤ m * m := by
  have : ∀ c ∈ l, c ∈ (List.range m).flatMap fun i => (List.range m).map fun j => (i, j) := fun c hc => by
    have := lt c hc
    simp only [List.mem_flatMap, List.mem_map, List.mem_range]
    exact ⟨c.1, this.1, c.2, this.2, rfl⟩
  have e := List.Nodup.length_le_of_subset nd this
  have f := flat_len (fun i => (List.range m).map fun j => (i, j)) m (List.range m) fun i _ => by simp
  rw [List.length_range] at f
  exact Nat.le_trans e f
theorem pt_of {m : Nat} {cs : List (Nat × Nat)} (W : WB.Web m cs) (h1 : 1 ≤ m) (h2 : m ≤ 24) : Pt m cs := by
  have D : Dw m cs := ⟨fun c hc => ⟨(W.lt c hc).1, (W.lt c hc).2, W.ne c hc⟩, up_nodup W.up⟩
  have l := D.len
  have mm : m * m ≤ 24 * 24 := Nat.mul_le_mul h2 h2
  exact ⟨⟨h1, D, W.up⟩, by omega, by omega⟩
theorem tb_of {m : Nat} {c : List PT.Tr} (T : PT.Table m c) (up : (c.map PT.key).Pairwise lt2) (h1 : 1 ≤ m) (h2 : m ≤ 12) : Tb m c := by
  have l := pairs_len (m := m) T.nd fun x hx => by
    obtain ⟨t, ht, rfl⟩ := List.mem_map.mp hx
    exact T.lt t ht
  rw [List.length_map] at l
  have mm : m * m ≤ 12 * 12 := Nat.mul_le_mul h2 h2
  exact ⟨h1, by omega, T.lt, fun t ht => by
    obtain ⟨a, b, c, d⟩ := T.wo t ht
    exact ⟨by omega, b, by omega, d⟩, up, by omega⟩
theorem _root_.MP.Tb.take {m : Nat} {c : List PT.Tr} (B : Tb m c) (n : Nat) : Tb m (c.take n) :=
  ⟨B.m1, B.mm, fun t ht => B.lt t (List.mem_of_mem_take ht), fun t ht => B.wo t (List.mem_of_mem_take ht), B.up.sublist ((List.take_sublist n c).map _), by rw [List.length_take]; have := B.len; omega⟩
def endL (f : Nat) : List (Nat × Nat) := [(f - 2, 0), (f - 2, f - 1), (f - 1, f - 2)]
theorem endL_up {f : Nat} (hf : 1000 ≤ f) {l : List (Nat × Nat)} (up : l.Pairwise lt2) (lt : ∀ c ∈ l, c.1 < 100) : (l ++ endL f).Pairwise lt2 := by
  rw [List.pairwise_append]
  refine ⟨up, ?_, fun a ha b hb => ?_⟩
  · simp only [endL, List.pairwise_cons, List.mem_cons, List.not_mem_nil, or_false, forall_eq_or_imp, forall_eq, lt2]
    refine ⟨⟨?_, ?_⟩, ?_, ?_, .nil⟩ <;> first | omega | exact .inr ⟨trivial, by omega⟩ | (intro a z; exact z.elim)
  · have := lt a ha
    simp only [endL, List.mem_cons, List.not_mem_nil, or_false] at hb
    unfold lt2
    rcases hb with rfl | rfl | rfl <;> (left; simp only; omega)
theorem far_pat {f : Int} {m : Nat} {cs : List (Nat × Nat)} (f1 : 10 ^ 29 ≤ f) (f2 : f ≤ 10 ^ 29 + 10 ^ 9) (P : Pt m cs) (hm : m ≤ 24) (x1 y1 x2 y2 x3 y3 : Int) :
    Pt f.toNat (cs ++ endL f.toNat) ∧ PV.tup [.int f, .tup (cs.map prV ++ [endV false (f - 2) 0 x1 y1, endV false (f - 2) (f - 1) x2 y2, endV false (f - 1) (f - 2) x3 y3])] = patV f.toNat (cs ++ endL f.toNat) := by
  obtain ⟨n, rfl⟩ : ∃ n : Nat, f = (n : Int) := ⟨f.toNat, by omega⟩
  have D := P.ip.2.1
  have lc := D.len
  have mm : m * m ≤ 24 * 24 := Nat.mul_le_mul hm hm
  have up := endL_up (f := n) (by omega) P.ip.2.2 fun c hc => by have := D.lt c hc; omega
  rw [Int.toNat_natCast]
  refine ⟨⟨⟨by omega, ⟨fun c hc => ?_, up_nodup up⟩, up⟩, by omega, by simp only [endL, List.length_append, List.length_cons, List.length_nil]; omega⟩, ?_⟩
  · rcases List.mem_append.mp hc with z | z
    · have := D.lt c z
      exact ⟨by omega, by omega, this.2.2⟩
    · simp only [endL, List.mem_cons, List.not_mem_nil, or_false] at z
      rcases z with rfl | rfl | rfl <;> (simp only; omega)
  · have e1 : ((n - 2 : Nat) : Int) = (n : Int) - 2 := by omega
    have e2 : ((n - 1 : Nat) : Int) = (n : Int) - 1 := by omega
    simp [patV, endL, endV, prV, e1, e2]
def endT (f : Nat) (x1 y1 x2 y2 x3 y3 : Int) : List PT.Tr := [(f - 2, 0, x1, y1), (f - 2, f - 1, x2, y2), (f - 1, f - 2, x3, y3)]
theorem far_tab {f : Int} {m : Nat} {c : List PT.Tr} (f1 : 10 ^ 29 ≤ f) (f2 : f ≤ 10 ^ 29 + 10 ^ 9) (B : Tb m c) (hm : m ≤ 24) (lc : c.length ≤ 20) {x1 y1 x2 y2 x3 y3 : Int} (W1 : Wo x1 y1) (W2 : Wo x2 y2) (W3 : Wo x3 y3) :
    Tb f.toNat (c ++ endT f.toNat x1 y1 x2 y2 x3 y3) ∧ PV.tup [.int f, .tup (c.map PT.trV ++ [endV true (f - 2) 0 x1 y1, endV true (f - 2) (f - 1) x2 y2, endV true (f - 1) (f - 2) x3 y3])] = PT.tabV f.toNat (c ++ endT f.toNat x1 y1 x2 y2 x3 y3) := by
  obtain ⟨n, rfl⟩ : ∃ n : Nat, f = (n : Int) := ⟨f.toNat, by omega⟩
  have ek : (endT n x1 y1 x2 y2 x3 y3).map PT.key = endL n := rfl
  have up := endL_up (f := n) (by omega) B.up fun x hx => by
    obtain ⟨t, ht, rfl⟩ := List.mem_map.mp hx
    have := B.lt t ht
    simp only [PT.key]
    omega
  rw [Int.toNat_natCast]
  refine ⟨⟨by omega, by omega, fun t ht => ?_, fun t ht => ?_, by rw [List.map_append, ek]; exact up, by simp only [endT, List.length_append, List.length_cons, List.length_nil]; omega⟩, ?_⟩
  · rcases List.mem_append.mp ht with z | z
    · have := B.lt t z
      omega
    · simp only [endT, List.mem_cons, List.not_mem_nil, or_false] at z
      rcases z with rfl | rfl | rfl <;> (simp only; omega)
  · rcases List.mem_append.mp ht with z | z
    · exact B.wo t z
    · simp only [endT, List.mem_cons, List.not_mem_nil, or_false] at z
      rcases z with rfl | rfl | rfl
      · exact W1
      · exact W2
      · exact W3
  · have e1 : ((n - 2 : Nat) : Int) = (n : Int) - 2 := by omega
    have e2 : ((n - 1 : Nat) : Int) = (n : Int) - 1 := by omega
    simp [PT.tabV, endT, endV, PT.trV, PT.woV, e1, e2]
def bodyS : Ss := match d_law.body with
  | .cons _ (.cons (.for _ _ b) _) => b
  | _ => .nil
theorem rest_ok (T : Tab tab) {D : En} {Ex : XP} {v0 v2 : PV} {w6 w7 w8 : Option PV} {p : Addr} {d1 d2 d3 : Int} {mk m n : Nat} {ck cs : List (Nat × Nat)} {c : List PT.Tr} (hp : h p = some (.lst [.int d1, .int d2, .int d3])) (K : Pt mk ck) (P : Pt m cs) (hm : m ≤ 24) (B : Tb n c) (hn : n ≤ 12)
    (hN : ∀ w6 w7 w8 h', D.nx [some v0, some (patV m cs), some v2, some (.loc p), some (patV m cs), some (PT.tabV n c), w6, w7, w8] h') :
    wpSs (callW tab (k + 8)) Ex (Ss.from 3 bodyS) [some v0, some (patV mk ck), some v2, some (.loc p), some (patV m cs), some (PT.tabV n c), w6, w7, w8] h D := by
  have tp := fun {m cs} (P : Pt m cs) (k : Nat) (h : MH) (Q : Post) (E : XQ) (q : Q (.str (patT m cs)) h) => text_pat (k := k) (h := h) (Q := Q) (E := E) T P q
  have rp := fun {m cs} (P : Pt m cs) (k : Nat) (h : MH) (Q : Post) (E : XQ) (q : Q (patV m cs) h) => read_pattern_ok (k := k) (h := h) (Q := Q) (E := E) T.rt.rd P.ip P.mm (by have := P.len; omega) q
  have sp := fun {m cs} (P : Pt m cs) (k : Nat) (h : MH) (Q : Post) (E : XQ) (q : Q (.str (patT m cs)) h) => show_pattern_ok (k := k) (h := h) (Q := Q) (E := E) T.sh.shp P.mm P.ip.2.1 P.len q
  have tt := fun {m c} (B : Tb m c) (k : Nat) (h : MH) (Q : Post) (E : XQ) (q : Q (.str (tabT m c)) h) => text_tab (k := k) (h := h) (Q := Q) (E := E) T B q
  have rt := fun {m c} (B : Tb m c) (k : Nat) (h : MH) (Q : Post) (E : XQ) (q : Q (PT.tabV m c) h) => read_table_ok (k := k) (h := h) (Q := Q) (E := E) T.rt B q
  have st := fun {m c} (B : Tb m c) (k : Nat) (h : MH) (Q : Post) (E : XQ) (q : Q (.str (tabT m c)) h) => show_table_ok (k := k) (h := h) (Q := Q) (E := E) T.sh B q
  have lc := B.len
  have lp := P.len
  have lt20 : (c.take 20).length ≤ 20 := by rw [List.length_take]; omega
  simp only [bodyS, d_law, Ss.from]
  rw [w_ife]
  simp
  refine shown_ok (k := k + 1) T (fun h Q E q => tp P (k + 5) h Q E q) (fun h Q E q => sp P (k + 6) h Q E q) (fun h Q E q => rp P (k + 2) h Q E q) (deep_pat P) ?_
  simp
  rw [w_nil]
  simp
  rw [w_ife]
  simp
  refine shown_ok (k := k + 1) T (fun h Q E q => tt B (k + 5) h Q E q) (fun h Q E q => st B (k + 5) h Q E q) (fun h Q E q => rt B (k + 2) h Q E q) (deep_tab B) ?_
  simp
  rw [w_nil]
  simp
  rw [w_par]
  simp
  refine far_ok (k := k + 5) (b := false) (v0 := .int (m : Nat)) (xs := cs.map prV) T hp (by rw [List.length_map]; exact lp) fun f x1 y1 x2 y2 x3 y3 a1 b1 c1 f1 f2 W1 W2 W3 => ?_
  obtain ⟨P2, e2⟩ := far_pat f1 f2 P hm x1 y1 x2 y2 x3 y3
  rw [e2]
  have cutE : slcW.cutP (c.map PT.trV) none (some 20) = (c.take 20).map PT.trV := by
    rw [cutP_lo _ (by decide), List.map_take]
    rfl
  have idx1 : ∀ (h : MH) (Q : Post), Q (.tup (c.map PT.trV)) h → idxW (PT.tabV n c) (.int 1) h Q := fun h Q q => ⟨_, rfl, q⟩
  have idx0 : ∀ (h : MH) (Q : Post), Q (.int (n : Nat)) h → idxW (PT.tabV n c) (.int 0) h Q := fun h Q q => ⟨_, rfl, q⟩
  refine idx1 _ _ ?_
  simp
  rw [cutE]
  refine ⟨szl (by omega), ?_⟩
  refine far_ok (k := k + 5) (b := true) (v0 := .int 1) (xs := (c.take 20).map PT.trV) T put_at (by rw [List.length_map]; omega) fun f' x1 y1 x2 y2 x3 y3 a2 b2 c2 f1' f2' W1 W2 W3 => ?_
  obtain ⟨B2, e3⟩ := far_tab f1' f2' (B.take 20) (by omega) lt20 W1 W2 W3
  rw [e3]
  rw [w_ife]
  simp
  refine tp P2 (k + 6) _ _ _ ?_
  refine rp P2 (k + 3) _ _ _ ?_
  refine same4 (k := k + 2) T (deep_pat P2) ?_
  simp
  refine tt B2 (k + 6) _ _ _ ?_
  refine rt B2 (k + 3) _ _ _ ?_
  refine same4 (k := k + 2) T (deep_tab B2) ?_
  simp
  rw [w_nil]
  simp
  rw [w_asg]
  simp
  refine idx0 _ _ ?_
  refine idx1 _ _ ?_
  simp
  rw [cutE]
  refine ⟨szl (by omega), ?_⟩
  rw [w_ife]
  simp
  rw [← List.map_take]
  refine great_ok (k := k + 5) (m := n) (c := c.take 20) T put_at (by omega) (B.take 20).lt (B.take 20).len fun c' a3 b3 c3 ek wo => ?_
  have B3 : Tb n c' := by
    have lk : c'.length = (c.take 20).length := by have := congrArg List.length ek; simpa using this
    refine ⟨B.m1, B.mm, fun t ht => ?_, wo, by rw [ek]; exact (B.take 20).up, by omega⟩
    have : PT.key t ∈ (c.take 20).map PT.key := by rw [← ek]; exact List.mem_map.mpr ⟨t, ht, rfl⟩
    obtain ⟨u, hu, e⟩ := List.mem_map.mp this
    have := (B.take 20).lt u hu
    simp only [PT.key, Prod.mk.injEq] at e
    omega
  refine read_ok (k := k + 1) T (fun h Q E q => tt B3 (k + 5) h Q E q) (fun h Q E q => st B3 (k + 5) h Q E q) (fun h Q E q => rt B3 (k + 2) h Q E q) (deep_tab B3) ?_
  simp
  rw [w_nil]
  simp
  rw [w_ife]
  simp
  refine wide_ok (k := k + 6) T put_at fun m' cs' a4 b4 c4 ip hm' ll => ?_
  have P3 : Pt m' cs' := ⟨ip, by omega, ll⟩
  refine read_ok (k := k + 1) T (fun h Q E q => tp P3 (k + 5) h Q E q) (fun h Q E q => sp P3 (k + 6) h Q E q) (fun h Q E q => rp P3 (k + 2) h Q E q) (deep_pat P3) ?_
  simp
  rw [w_nil]
  simp
  rw [w_ife]
  simp
  refine tp K (k + 6) _ _ _ ?_
  refine rp K (k + 3) _ _ _ ?_
  refine same4 (k := k + 2) T (deep_pat K) ?_
  simp
  refine tt B (k + 6) _ _ _ ?_
  refine rt B (k + 3) _ _ _ ?_
  refine same4 (k := k + 2) T (deep_tab B) ?_
  simp
  rw [w_nil]
  simp
  rw [w_asg]
  simp
  simp only [w_nil]
  exact hN _ _ _ _
theorem one_T : tabT 1 [(0, 0, -1, 2)] = "places 1\n0 0 -1/2" := by decide +kernel
theorem nine_T : tabT 9 [] = "places 9" := by decide +kernel
theorem main (T : Tab tab) (ns : List Int) (hl : ns.length ≤ 63) (hb : ∀ z ∈ ns, Builtin.Int.intBits z ≤ 1048576) : callW tab 100 "law" [.lst (ns.map PV.int)] (fun _ => none) (fun v _ => v = .bl true) (fun _ _ => False) := by
  have P1 : Pt 1 [] := ⟨⟨by decide, ⟨(fun _ h => nomatch h), .nil⟩, .nil⟩, by decide, by decide⟩
  refine call_body T.law rfl ?_
  rw [d_law, w_asg]
  simp only [startE]
  simp
  refine ⟨szl (by omega), ?_⟩
  rw [w_for]
  simp
  rw [cutP_lo _ (by decide)]
  have l8 : (List.take (Int.toNat 8) (ns.map PV.int)).length ≤ 8 := by rw [List.length_take]; exact Nat.min_le_left _ _
  refine ⟨szl (by omega), szl (by omega), fun _ => ?_⟩
  have allI : ∀ x ∈ List.take (Int.toNat 8) (ns.map PV.int) ++ [PV.int 3], ∃ z, x = .int z := fun x hx => by
    rcases List.mem_append.mp hx with z | z
    · obtain ⟨y, _, rfl⟩ := List.mem_map.mp (List.mem_of_mem_take z)
      exact ⟨y, rfl⟩
    · rw [List.mem_singleton] at z
      exact ⟨_, z⟩
  refine for_all (fun i e g => ∃ mk ck w2 w3 w4 w5 w6 w7 w8, e = [some (.lst (ns.map PV.int)), some (patV mk ck), w2, w3, w4, w5, w6, w7, w8] ∧ Pt mk ck) ⟨1, [], _, _, _, _, _, _, _, rfl, P1⟩ (fun _ _ _ _ => by simp) ?_ ?_
  · rintro i x e g N hx ⟨mk, ck, w2, w3, w4, w5, w6, w7, w8, rfl, K⟩ hN
    obtain ⟨z, rfl⟩ := allI x (List.mem_of_getElem? hx)
    simp
    rw [w_asg]
    simp
    refine WB.deck_ok (k := 98) T.pt.wb fun p a b hp => ?_
    rw [w_asg]
    simp
    refine WB.many_ok (k := 97) T.pt.wb put_at (by decide) (by decide) (by decide) fun r a1 b1 c1 r1 r2 => ?_
    obtain ⟨m, rfl⟩ : ∃ m : Nat, r = (m : Int) := ⟨r.toNat, by omega⟩
    refine PT.pattern_ok (k := 95) T.pt put_at (by omega) (by omega) fun cs a2 b2 c2 W => ?_
    have P := pt_of W (by omega) (by omega)
    rw [w_asg]
    simp
    refine WB.many_ok (k := 97) T.pt.wb put_at (by decide) (by decide) (by decide) fun r a3 b3 c3 r3 r4 => ?_
    obtain ⟨n, rfl⟩ : ∃ m : Nat, r = (m : Int) := ⟨r.toNat, by omega⟩
    refine PT.table_ok (k := 93) T.pt put_at (by omega) (by omega) fun c h' a4 b4 c4 Tb up hp' => ?_
    have B := tb_of Tb up (by omega) (by omega)
    exact rest_ok (k := 91) T hp' K P (by omega) B (by omega) fun w6 w7 w8 h' => hN _ _ ⟨m, cs, _, _, _, _, _, _, _, rfl, P⟩
  · rintro e g ⟨mk, ck, w2, w3, w4, w5, w6, w7, w8, rfl, K⟩
    simp
    rw [w_ret]
    simp
    have B1 : Tb 1 [(0, 0, -1, 2)] := ⟨by decide, by decide, by simp, by
      intro t ht
      rw [List.mem_singleton] at ht
      subst ht
      exact ⟨by decide, by decide, by decide, by decide⟩, by simp [PT.key], by decide⟩
    have B9 : Tb 9 [] := ⟨by decide, by decide, by simp, by simp, .nil, by decide⟩
    refine ⟨szl (by omega), szl (by omega), szl (by omega), szl (by omega), ?_⟩
    refine show_table_ok (k := 97) (m := 1) (c := [(0, 0, -1, 2)]) T.sh B1 ?_
    rw [one_T]
    simp
    have e9 : PV.str "places 9" = PV.str (tabT 9 []) := by rw [nine_T]
    rw [e9]
    refine read_table_ok (k := 94) T.rt B9 ?_
    refine ⟨szl (by omega), ?_⟩
    exact cmp_eq_same (d := 5) (by rfl) (by decide) (by rfl) (ret_same rfl)
end K07
set_option Elab.async false
set_option linter.all false
set_option maxRecDepth 100000
namespace K07
open PySem PySem.Spec PyProof.Rows L2 MP
def fs : List Str := "is_whole" :: "divisor_of" :: "is_worth" :: "is_place" :: "is_pair" :: "are_rising" :: "is_pattern" :: "is_told_cell" :: "is_table" :: "worth_word" :: "number_in" :: "top_in" :: "worth_in" :: "lines_in" :: "show_pattern" :: "read_pattern" :: "show_table" :: "cell_in" :: "read_table" :: "_law_deck" :: "_law_draw" :: "_law_divides" :: "_law_worth" :: "_law_far" :: "_law_some_worth" :: "_law_many" :: "_law_there" :: "_law_order" :: "_law_web" :: "_law_pattern" :: "_law_table" :: "_law_same" :: "_law_worth_text" :: "_law_text" :: "_law_shown_right" :: "_law_read_right" :: "_law_far_places" :: "_law_great_numbers" :: "_law_wide_pattern" :: "law" :: "FIGURES" :: "MOST_FIGURES" :: "NoText" :: []
def top (i : Nat) : Stmt := PySem.Challenge.pw_fewfilled_k07_written_and_read.main.body.getD i (.Pass ⟨0, 0, 0, 0⟩)
theorem c_is_whole : defB fs d_is_whole (top 4) = true := by decide +kernel
theorem c_divisor_of : defB fs d_divisor_of (top 5) = true := by decide +kernel
theorem c_is_worth : defB fs d_is_worth (top 6) = true := by decide +kernel
theorem c_is_place : defB fs d_is_place (top 8) = true := by decide +kernel
theorem c_is_pair : defB fs d_is_pair (top 9) = true := by decide +kernel
theorem c_are_rising : defB fs d_are_rising (top 10) = true := by decide +kernel
theorem c_is_pattern : defB fs d_is_pattern (top 11) = true := by decide +kernel
theorem c_is_told_cell : defB fs d_is_told_cell (top 13) = true := by decide +kernel
theorem c_is_table : defB fs d_is_table (top 14) = true := by decide +kernel
theorem c_worth_word : defB fs d_worth_word (top 18) = true := by decide +kernel
theorem c_number_in : defB fs d_number_in (top 19) = true := by decide +kernel
theorem c_top_in : defB fs d_top_in (top 20) = true := by decide +kernel
theorem c_worth_in : defB fs d_worth_in (top 21) = true := by decide +kernel
theorem c_lines_in : defB fs d_lines_in (top 22) = true := by decide +kernel
theorem c_show_pattern : defB fs d_show_pattern (top 23) = true := by decide +kernel
theorem c_read_pattern : defB fs d_read_pattern (top 24) = true := by decide +kernel
theorem c_show_table : defB fs d_show_table (top 25) = true := by decide +kernel
theorem c_cell_in : defB fs d_cell_in (top 26) = true := by decide +kernel
theorem c_read_table : defB fs d_read_table (top 27) = true := by decide +kernel
theorem c__law_deck : defB fs d__law_deck (top 29) = true := by decide +kernel
theorem c__law_draw : defB fs d__law_draw (top 30) = true := by decide +kernel
theorem c__law_divides : defB fs d__law_divides (top 31) = true := by decide +kernel
theorem c__law_worth : defB fs d__law_worth (top 32) = true := by decide +kernel
theorem c__law_far : defB fs d__law_far (top 33) = true := by decide +kernel
theorem c__law_some_worth : defB fs d__law_some_worth (top 34) = true := by decide +kernel
theorem c__law_many : defB fs d__law_many (top 35) = true := by decide +kernel
theorem c__law_there : defB fs d__law_there (top 36) = true := by decide +kernel
theorem c__law_order : defB fs d__law_order (top 37) = true := by decide +kernel
theorem c__law_web : defB fs d__law_web (top 38) = true := by decide +kernel
theorem c__law_pattern : defB fs d__law_pattern (top 39) = true := by decide +kernel
theorem c__law_table : defB fs d__law_table (top 40) = true := by decide +kernel
theorem c__law_same : defB fs d__law_same (top 41) = true := by decide +kernel
theorem c__law_worth_text : defB fs d__law_worth_text (top 42) = true := by decide +kernel
theorem c__law_text : defB fs d__law_text (top 43) = true := by decide +kernel
theorem c__law_shown_right : defB fs d__law_shown_right (top 44) = true := by decide +kernel
theorem c__law_read_right : defB fs d__law_read_right (top 45) = true := by decide +kernel
theorem c__law_far_places : defB fs d__law_far_places (top 46) = true := by decide +kernel
theorem c__law_great_numbers : defB fs d__law_great_numbers (top 47) = true := by decide +kernel
theorem c__law_wide_pattern : defB fs d__law_wide_pattern (top 48) = true := by decide +kernel
theorem c_law : defB fs d_law (top 49) = true := by decide +kernel
def tab : Str → Option Df := fun f => ((("is_whole", d_is_whole) :: ("divisor_of", d_divisor_of) :: ("is_worth", d_is_worth) :: ("is_place", d_is_place) :: ("is_pair", d_is_pair) :: ("are_rising", d_are_rising) :: ("is_pattern", d_is_pattern) :: ("is_told_cell", d_is_told_cell) :: ("is_table", d_is_table) :: ("worth_word", d_worth_word) :: ("number_in", d_number_in) :: ("top_in", d_top_in) :: ("worth_in", d_worth_in) :: ("lines_in", d_lines_in) :: ("show_pattern", d_show_pattern) :: ("read_pattern", d_read_pattern) :: ("show_table", d_show_table) :: ("cell_in", d_cell_in) :: ("read_table", d_read_table) :: ("_law_deck", d__law_deck) :: ("_law_draw", d__law_draw) :: ("_law_divides", d__law_divides) :: ("_law_worth", d__law_worth) :: ("_law_far", d__law_far) :: ("_law_some_worth", d__law_some_worth) :: ("_law_many", d__law_many) :: ("_law_there", d__law_there) :: ("_law_order", d__law_order) :: ("_law_web", d__law_web) :: ("_law_pattern", d__law_pattern) :: ("_law_table", d__law_table) :: ("_law_same", d__law_same) :: ("_law_worth_text", d__law_worth_text) :: ("_law_text", d__law_text) :: ("_law_shown_right", d__law_shown_right) :: ("_law_read_right", d__law_read_right) :: ("_law_far_places", d__law_far_places) :: ("_law_great_numbers", d__law_great_numbers) :: ("_law_wide_pattern", d__law_wide_pattern) :: ("law", d_law) :: []) : List (Str × Df)).lookup f
theorem all_defs : ((("is_whole" :: "divisor_of" :: "is_worth" :: "is_place" :: "is_pair" :: "are_rising" :: "is_pattern" :: "is_told_cell" :: "is_table" :: "worth_word" :: "number_in" :: "top_in" :: "worth_in" :: "lines_in" :: "show_pattern" :: "read_pattern" :: "show_table" :: "cell_in" :: "read_table" :: "_law_deck" :: "_law_draw" :: "_law_divides" :: "_law_worth" :: "_law_far" :: "_law_some_worth" :: "_law_many" :: "_law_there" :: "_law_order" :: "_law_web" :: "_law_pattern" :: "_law_table" :: "_law_same" :: "_law_worth_text" :: "_law_text" :: "_law_shown_right" :: "_law_read_right" :: "_law_far_places" :: "_law_great_numbers" :: "_law_wide_pattern" :: "law" :: []) : List Str).all fun x => decide (x ∈ fs) && (gcst x).isNone) = true := by decide +kernel
theorem prog_mk {K : KF} {h : Heap} {mg : Str → Option Value} (X : K.In h) (G : h.Ns mainGlobals mg)
    {a0 : Addr} {oc0 dV0 kV0 doc0 pm0 cd0 ct0 : Value} {od0 an0 : Option Addr} {osl0 : Array (Option Value)}
    (n0 : PySem.W.nsIn K mainGlobals "is_whole" = some (some (.ref a0))) (l0 : K.lookup a0 = some ⟨oc0, od0, .func (PySem.W.fnOf "is_whole" "is_whole" (defArgs (top 4)) (defBody (top 4)) (defScope (top 4)) dV0 kV0 doc0 pm0 an0 cd0 ct0), osl0⟩) (c0 : PySem.W.codeIn K cd0 "is_whole" = true) (k0 : PySem.W.keepIn K (.ref a0) = true) (v0 : dV0 = .none)
    {a1 : Addr} {oc1 dV1 kV1 doc1 pm1 cd1 ct1 : Value} {od1 an1 : Option Addr} {osl1 : Array (Option Value)}
    (n1 : PySem.W.nsIn K mainGlobals "divisor_of" = some (some (.ref a1))) (l1 : K.lookup a1 = some ⟨oc1, od1, .func (PySem.W.fnOf "divisor_of" "divisor_of" (defArgs (top 5)) (defBody (top 5)) (defScope (top 5)) dV1 kV1 doc1 pm1 an1 cd1 ct1), osl1⟩) (c1 : PySem.W.codeIn K cd1 "divisor_of" = true) (k1 : PySem.W.keepIn K (.ref a1) = true) (v1 : dV1 = .none)
    {a2 : Addr} {oc2 dV2 kV2 doc2 pm2 cd2 ct2 : Value} {od2 an2 : Option Addr} {osl2 : Array (Option Value)}
    (n2 : PySem.W.nsIn K mainGlobals "is_worth" = some (some (.ref a2))) (l2 : K.lookup a2 = some ⟨oc2, od2, .func (PySem.W.fnOf "is_worth" "is_worth" (defArgs (top 6)) (defBody (top 6)) (defScope (top 6)) dV2 kV2 doc2 pm2 an2 cd2 ct2), osl2⟩) (c2 : PySem.W.codeIn K cd2 "is_worth" = true) (k2 : PySem.W.keepIn K (.ref a2) = true) (v2 : dV2 = .none)
    {a3 : Addr} {oc3 dV3 kV3 doc3 pm3 cd3 ct3 : Value} {od3 an3 : Option Addr} {osl3 : Array (Option Value)}
    (n3 : PySem.W.nsIn K mainGlobals "is_place" = some (some (.ref a3))) (l3 : K.lookup a3 = some ⟨oc3, od3, .func (PySem.W.fnOf "is_place" "is_place" (defArgs (top 8)) (defBody (top 8)) (defScope (top 8)) dV3 kV3 doc3 pm3 an3 cd3 ct3), osl3⟩) (c3 : PySem.W.codeIn K cd3 "is_place" = true) (k3 : PySem.W.keepIn K (.ref a3) = true) (v3 : dV3 = .none)
    {a4 : Addr} {oc4 dV4 kV4 doc4 pm4 cd4 ct4 : Value} {od4 an4 : Option Addr} {osl4 : Array (Option Value)}
    (n4 : PySem.W.nsIn K mainGlobals "is_pair" = some (some (.ref a4))) (l4 : K.lookup a4 = some ⟨oc4, od4, .func (PySem.W.fnOf "is_pair" "is_pair" (defArgs (top 9)) (defBody (top 9)) (defScope (top 9)) dV4 kV4 doc4 pm4 an4 cd4 ct4), osl4⟩) (c4 : PySem.W.codeIn K cd4 "is_pair" = true) (k4 : PySem.W.keepIn K (.ref a4) = true) (v4 : dV4 = .none)
    {a5 : Addr} {oc5 dV5 kV5 doc5 pm5 cd5 ct5 : Value} {od5 an5 : Option Addr} {osl5 : Array (Option Value)}
    (n5 : PySem.W.nsIn K mainGlobals "are_rising" = some (some (.ref a5))) (l5 : K.lookup a5 = some ⟨oc5, od5, .func (PySem.W.fnOf "are_rising" "are_rising" (defArgs (top 10)) (defBody (top 10)) (defScope (top 10)) dV5 kV5 doc5 pm5 an5 cd5 ct5), osl5⟩) (c5 : PySem.W.codeIn K cd5 "are_rising" = true) (k5 : PySem.W.keepIn K (.ref a5) = true) (v5 : dV5 = .none)
    {a6 : Addr} {oc6 dV6 kV6 doc6 pm6 cd6 ct6 : Value} {od6 an6 : Option Addr} {osl6 : Array (Option Value)}
    (n6 : PySem.W.nsIn K mainGlobals "is_pattern" = some (some (.ref a6))) (l6 : K.lookup a6 = some ⟨oc6, od6, .func (PySem.W.fnOf "is_pattern" "is_pattern" (defArgs (top 11)) (defBody (top 11)) (defScope (top 11)) dV6 kV6 doc6 pm6 an6 cd6 ct6), osl6⟩) (c6 : PySem.W.codeIn K cd6 "is_pattern" = true) (k6 : PySem.W.keepIn K (.ref a6) = true) (v6 : dV6 = .none)
    {a7 : Addr} {oc7 dV7 kV7 doc7 pm7 cd7 ct7 : Value} {od7 an7 : Option Addr} {osl7 : Array (Option Value)}
    (n7 : PySem.W.nsIn K mainGlobals "is_told_cell" = some (some (.ref a7))) (l7 : K.lookup a7 = some ⟨oc7, od7, .func (PySem.W.fnOf "is_told_cell" "is_told_cell" (defArgs (top 13)) (defBody (top 13)) (defScope (top 13)) dV7 kV7 doc7 pm7 an7 cd7 ct7), osl7⟩) (c7 : PySem.W.codeIn K cd7 "is_told_cell" = true) (k7 : PySem.W.keepIn K (.ref a7) = true) (v7 : dV7 = .none)
    {a8 : Addr} {oc8 dV8 kV8 doc8 pm8 cd8 ct8 : Value} {od8 an8 : Option Addr} {osl8 : Array (Option Value)}
    (n8 : PySem.W.nsIn K mainGlobals "is_table" = some (some (.ref a8))) (l8 : K.lookup a8 = some ⟨oc8, od8, .func (PySem.W.fnOf "is_table" "is_table" (defArgs (top 14)) (defBody (top 14)) (defScope (top 14)) dV8 kV8 doc8 pm8 an8 cd8 ct8), osl8⟩) (c8 : PySem.W.codeIn K cd8 "is_table" = true) (k8 : PySem.W.keepIn K (.ref a8) = true) (v8 : dV8 = .none)
    {a9 : Addr} {oc9 dV9 kV9 doc9 pm9 cd9 ct9 : Value} {od9 an9 : Option Addr} {osl9 : Array (Option Value)}
    (n9 : PySem.W.nsIn K mainGlobals "worth_word" = some (some (.ref a9))) (l9 : K.lookup a9 = some ⟨oc9, od9, .func (PySem.W.fnOf "worth_word" "worth_word" (defArgs (top 18)) (defBody (top 18)) (defScope (top 18)) dV9 kV9 doc9 pm9 an9 cd9 ct9), osl9⟩) (c9 : PySem.W.codeIn K cd9 "worth_word" = true) (k9 : PySem.W.keepIn K (.ref a9) = true) (v9 : dV9 = .none)
    {a10 : Addr} {oc10 dV10 kV10 doc10 pm10 cd10 ct10 : Value} {od10 an10 : Option Addr} {osl10 : Array (Option Value)}
    (n10 : PySem.W.nsIn K mainGlobals "number_in" = some (some (.ref a10))) (l10 : K.lookup a10 = some ⟨oc10, od10, .func (PySem.W.fnOf "number_in" "number_in" (defArgs (top 19)) (defBody (top 19)) (defScope (top 19)) dV10 kV10 doc10 pm10 an10 cd10 ct10), osl10⟩) (c10 : PySem.W.codeIn K cd10 "number_in" = true) (k10 : PySem.W.keepIn K (.ref a10) = true) (v10 : dV10 = .none)
    {a11 : Addr} {oc11 dV11 kV11 doc11 pm11 cd11 ct11 : Value} {od11 an11 : Option Addr} {osl11 : Array (Option Value)}
    (n11 : PySem.W.nsIn K mainGlobals "top_in" = some (some (.ref a11))) (l11 : K.lookup a11 = some ⟨oc11, od11, .func (PySem.W.fnOf "top_in" "top_in" (defArgs (top 20)) (defBody (top 20)) (defScope (top 20)) dV11 kV11 doc11 pm11 an11 cd11 ct11), osl11⟩) (c11 : PySem.W.codeIn K cd11 "top_in" = true) (k11 : PySem.W.keepIn K (.ref a11) = true) (v11 : dV11 = .none)
    {a12 : Addr} {oc12 dV12 kV12 doc12 pm12 cd12 ct12 : Value} {od12 an12 : Option Addr} {osl12 : Array (Option Value)}
    (n12 : PySem.W.nsIn K mainGlobals "worth_in" = some (some (.ref a12))) (l12 : K.lookup a12 = some ⟨oc12, od12, .func (PySem.W.fnOf "worth_in" "worth_in" (defArgs (top 21)) (defBody (top 21)) (defScope (top 21)) dV12 kV12 doc12 pm12 an12 cd12 ct12), osl12⟩) (c12 : PySem.W.codeIn K cd12 "worth_in" = true) (k12 : PySem.W.keepIn K (.ref a12) = true) (v12 : dV12 = .none)
    {a13 : Addr} {oc13 dV13 kV13 doc13 pm13 cd13 ct13 : Value} {od13 an13 : Option Addr} {osl13 : Array (Option Value)}
    (n13 : PySem.W.nsIn K mainGlobals "lines_in" = some (some (.ref a13))) (l13 : K.lookup a13 = some ⟨oc13, od13, .func (PySem.W.fnOf "lines_in" "lines_in" (defArgs (top 22)) (defBody (top 22)) (defScope (top 22)) dV13 kV13 doc13 pm13 an13 cd13 ct13), osl13⟩) (c13 : PySem.W.codeIn K cd13 "lines_in" = true) (k13 : PySem.W.keepIn K (.ref a13) = true) (v13 : dV13 = .none)
    {a14 : Addr} {oc14 dV14 kV14 doc14 pm14 cd14 ct14 : Value} {od14 an14 : Option Addr} {osl14 : Array (Option Value)}
    (n14 : PySem.W.nsIn K mainGlobals "show_pattern" = some (some (.ref a14))) (l14 : K.lookup a14 = some ⟨oc14, od14, .func (PySem.W.fnOf "show_pattern" "show_pattern" (defArgs (top 23)) (defBody (top 23)) (defScope (top 23)) dV14 kV14 doc14 pm14 an14 cd14 ct14), osl14⟩) (c14 : PySem.W.codeIn K cd14 "show_pattern" = true) (k14 : PySem.W.keepIn K (.ref a14) = true) (v14 : dV14 = .none)
    {a15 : Addr} {oc15 dV15 kV15 doc15 pm15 cd15 ct15 : Value} {od15 an15 : Option Addr} {osl15 : Array (Option Value)}
    (n15 : PySem.W.nsIn K mainGlobals "read_pattern" = some (some (.ref a15))) (l15 : K.lookup a15 = some ⟨oc15, od15, .func (PySem.W.fnOf "read_pattern" "read_pattern" (defArgs (top 24)) (defBody (top 24)) (defScope (top 24)) dV15 kV15 doc15 pm15 an15 cd15 ct15), osl15⟩) (c15 : PySem.W.codeIn K cd15 "read_pattern" = true) (k15 : PySem.W.keepIn K (.ref a15) = true) (v15 : dV15 = .none)
    {a16 : Addr} {oc16 dV16 kV16 doc16 pm16 cd16 ct16 : Value} {od16 an16 : Option Addr} {osl16 : Array (Option Value)}
    (n16 : PySem.W.nsIn K mainGlobals "show_table" = some (some (.ref a16))) (l16 : K.lookup a16 = some ⟨oc16, od16, .func (PySem.W.fnOf "show_table" "show_table" (defArgs (top 25)) (defBody (top 25)) (defScope (top 25)) dV16 kV16 doc16 pm16 an16 cd16 ct16), osl16⟩) (c16 : PySem.W.codeIn K cd16 "show_table" = true) (k16 : PySem.W.keepIn K (.ref a16) = true) (v16 : dV16 = .none)
    {a17 : Addr} {oc17 dV17 kV17 doc17 pm17 cd17 ct17 : Value} {od17 an17 : Option Addr} {osl17 : Array (Option Value)}
    (n17 : PySem.W.nsIn K mainGlobals "cell_in" = some (some (.ref a17))) (l17 : K.lookup a17 = some ⟨oc17, od17, .func (PySem.W.fnOf "cell_in" "cell_in" (defArgs (top 26)) (defBody (top 26)) (defScope (top 26)) dV17 kV17 doc17 pm17 an17 cd17 ct17), osl17⟩) (c17 : PySem.W.codeIn K cd17 "cell_in" = true) (k17 : PySem.W.keepIn K (.ref a17) = true) (v17 : dV17 = .none)
    {a18 : Addr} {oc18 dV18 kV18 doc18 pm18 cd18 ct18 : Value} {od18 an18 : Option Addr} {osl18 : Array (Option Value)}
    (n18 : PySem.W.nsIn K mainGlobals "read_table" = some (some (.ref a18))) (l18 : K.lookup a18 = some ⟨oc18, od18, .func (PySem.W.fnOf "read_table" "read_table" (defArgs (top 27)) (defBody (top 27)) (defScope (top 27)) dV18 kV18 doc18 pm18 an18 cd18 ct18), osl18⟩) (c18 : PySem.W.codeIn K cd18 "read_table" = true) (k18 : PySem.W.keepIn K (.ref a18) = true) (v18 : dV18 = .none)
    {a19 : Addr} {oc19 dV19 kV19 doc19 pm19 cd19 ct19 : Value} {od19 an19 : Option Addr} {osl19 : Array (Option Value)}
    (n19 : PySem.W.nsIn K mainGlobals "_law_deck" = some (some (.ref a19))) (l19 : K.lookup a19 = some ⟨oc19, od19, .func (PySem.W.fnOf "_law_deck" "_law_deck" (defArgs (top 29)) (defBody (top 29)) (defScope (top 29)) dV19 kV19 doc19 pm19 an19 cd19 ct19), osl19⟩) (c19 : PySem.W.codeIn K cd19 "_law_deck" = true) (k19 : PySem.W.keepIn K (.ref a19) = true) (v19 : dV19 = .none)
    {a20 : Addr} {oc20 dV20 kV20 doc20 pm20 cd20 ct20 : Value} {od20 an20 : Option Addr} {osl20 : Array (Option Value)}
    (n20 : PySem.W.nsIn K mainGlobals "_law_draw" = some (some (.ref a20))) (l20 : K.lookup a20 = some ⟨oc20, od20, .func (PySem.W.fnOf "_law_draw" "_law_draw" (defArgs (top 30)) (defBody (top 30)) (defScope (top 30)) dV20 kV20 doc20 pm20 an20 cd20 ct20), osl20⟩) (c20 : PySem.W.codeIn K cd20 "_law_draw" = true) (k20 : PySem.W.keepIn K (.ref a20) = true) (v20 : dV20 = .none)
    {a21 : Addr} {oc21 dV21 kV21 doc21 pm21 cd21 ct21 : Value} {od21 an21 : Option Addr} {osl21 : Array (Option Value)}
    (n21 : PySem.W.nsIn K mainGlobals "_law_divides" = some (some (.ref a21))) (l21 : K.lookup a21 = some ⟨oc21, od21, .func (PySem.W.fnOf "_law_divides" "_law_divides" (defArgs (top 31)) (defBody (top 31)) (defScope (top 31)) dV21 kV21 doc21 pm21 an21 cd21 ct21), osl21⟩) (c21 : PySem.W.codeIn K cd21 "_law_divides" = true) (k21 : PySem.W.keepIn K (.ref a21) = true) (v21 : dV21 = .none)
    {a22 : Addr} {oc22 dV22 kV22 doc22 pm22 cd22 ct22 : Value} {od22 an22 : Option Addr} {osl22 : Array (Option Value)}
    (n22 : PySem.W.nsIn K mainGlobals "_law_worth" = some (some (.ref a22))) (l22 : K.lookup a22 = some ⟨oc22, od22, .func (PySem.W.fnOf "_law_worth" "_law_worth" (defArgs (top 32)) (defBody (top 32)) (defScope (top 32)) dV22 kV22 doc22 pm22 an22 cd22 ct22), osl22⟩) (c22 : PySem.W.codeIn K cd22 "_law_worth" = true) (k22 : PySem.W.keepIn K (.ref a22) = true) (v22 : dV22 = .none)
    {a23 : Addr} {oc23 dV23 kV23 doc23 pm23 cd23 ct23 : Value} {od23 an23 : Option Addr} {osl23 : Array (Option Value)}
    (n23 : PySem.W.nsIn K mainGlobals "_law_far" = some (some (.ref a23))) (l23 : K.lookup a23 = some ⟨oc23, od23, .func (PySem.W.fnOf "_law_far" "_law_far" (defArgs (top 33)) (defBody (top 33)) (defScope (top 33)) dV23 kV23 doc23 pm23 an23 cd23 ct23), osl23⟩) (c23 : PySem.W.codeIn K cd23 "_law_far" = true) (k23 : PySem.W.keepIn K (.ref a23) = true) (v23 : dV23 = .none)
    {a24 : Addr} {oc24 dV24 kV24 doc24 pm24 cd24 ct24 : Value} {od24 an24 : Option Addr} {osl24 : Array (Option Value)}
    (n24 : PySem.W.nsIn K mainGlobals "_law_some_worth" = some (some (.ref a24))) (l24 : K.lookup a24 = some ⟨oc24, od24, .func (PySem.W.fnOf "_law_some_worth" "_law_some_worth" (defArgs (top 34)) (defBody (top 34)) (defScope (top 34)) dV24 kV24 doc24 pm24 an24 cd24 ct24), osl24⟩) (c24 : PySem.W.codeIn K cd24 "_law_some_worth" = true) (k24 : PySem.W.keepIn K (.ref a24) = true) (v24 : dV24 = .none)
    {a25 : Addr} {oc25 dV25 kV25 doc25 pm25 cd25 ct25 : Value} {od25 an25 : Option Addr} {osl25 : Array (Option Value)}
    (n25 : PySem.W.nsIn K mainGlobals "_law_many" = some (some (.ref a25))) (l25 : K.lookup a25 = some ⟨oc25, od25, .func (PySem.W.fnOf "_law_many" "_law_many" (defArgs (top 35)) (defBody (top 35)) (defScope (top 35)) dV25 kV25 doc25 pm25 an25 cd25 ct25), osl25⟩) (c25 : PySem.W.codeIn K cd25 "_law_many" = true) (k25 : PySem.W.keepIn K (.ref a25) = true) (v25 : dV25 = .none)
    {a26 : Addr} {oc26 dV26 kV26 doc26 pm26 cd26 ct26 : Value} {od26 an26 : Option Addr} {osl26 : Array (Option Value)}
    (n26 : PySem.W.nsIn K mainGlobals "_law_there" = some (some (.ref a26))) (l26 : K.lookup a26 = some ⟨oc26, od26, .func (PySem.W.fnOf "_law_there" "_law_there" (defArgs (top 36)) (defBody (top 36)) (defScope (top 36)) dV26 kV26 doc26 pm26 an26 cd26 ct26), osl26⟩) (c26 : PySem.W.codeIn K cd26 "_law_there" = true) (k26 : PySem.W.keepIn K (.ref a26) = true) (v26 : dV26 = .none)
    {a27 : Addr} {oc27 dV27 kV27 doc27 pm27 cd27 ct27 : Value} {od27 an27 : Option Addr} {osl27 : Array (Option Value)}
    (n27 : PySem.W.nsIn K mainGlobals "_law_order" = some (some (.ref a27))) (l27 : K.lookup a27 = some ⟨oc27, od27, .func (PySem.W.fnOf "_law_order" "_law_order" (defArgs (top 37)) (defBody (top 37)) (defScope (top 37)) dV27 kV27 doc27 pm27 an27 cd27 ct27), osl27⟩) (c27 : PySem.W.codeIn K cd27 "_law_order" = true) (k27 : PySem.W.keepIn K (.ref a27) = true) (v27 : dV27 = .none)
    {a28 : Addr} {oc28 dV28 kV28 doc28 pm28 cd28 ct28 : Value} {od28 an28 : Option Addr} {osl28 : Array (Option Value)}
    (n28 : PySem.W.nsIn K mainGlobals "_law_web" = some (some (.ref a28))) (l28 : K.lookup a28 = some ⟨oc28, od28, .func (PySem.W.fnOf "_law_web" "_law_web" (defArgs (top 38)) (defBody (top 38)) (defScope (top 38)) dV28 kV28 doc28 pm28 an28 cd28 ct28), osl28⟩) (c28 : PySem.W.codeIn K cd28 "_law_web" = true) (k28 : PySem.W.keepIn K (.ref a28) = true) (v28 : dV28 = .none)
    {a29 : Addr} {oc29 dV29 kV29 doc29 pm29 cd29 ct29 : Value} {od29 an29 : Option Addr} {osl29 : Array (Option Value)}
    (n29 : PySem.W.nsIn K mainGlobals "_law_pattern" = some (some (.ref a29))) (l29 : K.lookup a29 = some ⟨oc29, od29, .func (PySem.W.fnOf "_law_pattern" "_law_pattern" (defArgs (top 39)) (defBody (top 39)) (defScope (top 39)) dV29 kV29 doc29 pm29 an29 cd29 ct29), osl29⟩) (c29 : PySem.W.codeIn K cd29 "_law_pattern" = true) (k29 : PySem.W.keepIn K (.ref a29) = true) (v29 : dV29 = .none)
    {a30 : Addr} {oc30 dV30 kV30 doc30 pm30 cd30 ct30 : Value} {od30 an30 : Option Addr} {osl30 : Array (Option Value)}
    (n30 : PySem.W.nsIn K mainGlobals "_law_table" = some (some (.ref a30))) (l30 : K.lookup a30 = some ⟨oc30, od30, .func (PySem.W.fnOf "_law_table" "_law_table" (defArgs (top 40)) (defBody (top 40)) (defScope (top 40)) dV30 kV30 doc30 pm30 an30 cd30 ct30), osl30⟩) (c30 : PySem.W.codeIn K cd30 "_law_table" = true) (k30 : PySem.W.keepIn K (.ref a30) = true) (v30 : dV30 = .none)
    {a31 : Addr} {oc31 dV31 kV31 doc31 pm31 cd31 ct31 : Value} {od31 an31 : Option Addr} {osl31 : Array (Option Value)}
    (n31 : PySem.W.nsIn K mainGlobals "_law_same" = some (some (.ref a31))) (l31 : K.lookup a31 = some ⟨oc31, od31, .func (PySem.W.fnOf "_law_same" "_law_same" (defArgs (top 41)) (defBody (top 41)) (defScope (top 41)) dV31 kV31 doc31 pm31 an31 cd31 ct31), osl31⟩) (c31 : PySem.W.codeIn K cd31 "_law_same" = true) (k31 : PySem.W.keepIn K (.ref a31) = true) (v31 : dV31 = .none)
    {a32 : Addr} {oc32 dV32 kV32 doc32 pm32 cd32 ct32 : Value} {od32 an32 : Option Addr} {osl32 : Array (Option Value)}
    (n32 : PySem.W.nsIn K mainGlobals "_law_worth_text" = some (some (.ref a32))) (l32 : K.lookup a32 = some ⟨oc32, od32, .func (PySem.W.fnOf "_law_worth_text" "_law_worth_text" (defArgs (top 42)) (defBody (top 42)) (defScope (top 42)) dV32 kV32 doc32 pm32 an32 cd32 ct32), osl32⟩) (c32 : PySem.W.codeIn K cd32 "_law_worth_text" = true) (k32 : PySem.W.keepIn K (.ref a32) = true) (v32 : dV32 = .none)
    {a33 : Addr} {oc33 dV33 kV33 doc33 pm33 cd33 ct33 : Value} {od33 an33 : Option Addr} {osl33 : Array (Option Value)}
    (n33 : PySem.W.nsIn K mainGlobals "_law_text" = some (some (.ref a33))) (l33 : K.lookup a33 = some ⟨oc33, od33, .func (PySem.W.fnOf "_law_text" "_law_text" (defArgs (top 43)) (defBody (top 43)) (defScope (top 43)) dV33 kV33 doc33 pm33 an33 cd33 ct33), osl33⟩) (c33 : PySem.W.codeIn K cd33 "_law_text" = true) (k33 : PySem.W.keepIn K (.ref a33) = true) (v33 : dV33 = .none)
    {a34 : Addr} {oc34 dV34 kV34 doc34 pm34 cd34 ct34 : Value} {od34 an34 : Option Addr} {osl34 : Array (Option Value)}
    (n34 : PySem.W.nsIn K mainGlobals "_law_shown_right" = some (some (.ref a34))) (l34 : K.lookup a34 = some ⟨oc34, od34, .func (PySem.W.fnOf "_law_shown_right" "_law_shown_right" (defArgs (top 44)) (defBody (top 44)) (defScope (top 44)) dV34 kV34 doc34 pm34 an34 cd34 ct34), osl34⟩) (c34 : PySem.W.codeIn K cd34 "_law_shown_right" = true) (k34 : PySem.W.keepIn K (.ref a34) = true) (v34 : dV34 = .none)
    {a35 : Addr} {oc35 dV35 kV35 doc35 pm35 cd35 ct35 : Value} {od35 an35 : Option Addr} {osl35 : Array (Option Value)}
    (n35 : PySem.W.nsIn K mainGlobals "_law_read_right" = some (some (.ref a35))) (l35 : K.lookup a35 = some ⟨oc35, od35, .func (PySem.W.fnOf "_law_read_right" "_law_read_right" (defArgs (top 45)) (defBody (top 45)) (defScope (top 45)) dV35 kV35 doc35 pm35 an35 cd35 ct35), osl35⟩) (c35 : PySem.W.codeIn K cd35 "_law_read_right" = true) (k35 : PySem.W.keepIn K (.ref a35) = true) (v35 : dV35 = .none)
    {a36 : Addr} {oc36 dV36 kV36 doc36 pm36 cd36 ct36 : Value} {od36 an36 : Option Addr} {osl36 : Array (Option Value)}
    (n36 : PySem.W.nsIn K mainGlobals "_law_far_places" = some (some (.ref a36))) (l36 : K.lookup a36 = some ⟨oc36, od36, .func (PySem.W.fnOf "_law_far_places" "_law_far_places" (defArgs (top 46)) (defBody (top 46)) (defScope (top 46)) dV36 kV36 doc36 pm36 an36 cd36 ct36), osl36⟩) (c36 : PySem.W.codeIn K cd36 "_law_far_places" = true) (k36 : PySem.W.keepIn K (.ref a36) = true) (v36 : dV36 = .none)
    {a37 : Addr} {oc37 dV37 kV37 doc37 pm37 cd37 ct37 : Value} {od37 an37 : Option Addr} {osl37 : Array (Option Value)}
    (n37 : PySem.W.nsIn K mainGlobals "_law_great_numbers" = some (some (.ref a37))) (l37 : K.lookup a37 = some ⟨oc37, od37, .func (PySem.W.fnOf "_law_great_numbers" "_law_great_numbers" (defArgs (top 47)) (defBody (top 47)) (defScope (top 47)) dV37 kV37 doc37 pm37 an37 cd37 ct37), osl37⟩) (c37 : PySem.W.codeIn K cd37 "_law_great_numbers" = true) (k37 : PySem.W.keepIn K (.ref a37) = true) (v37 : dV37 = .none)
    {a38 : Addr} {oc38 dV38 kV38 doc38 pm38 cd38 ct38 : Value} {od38 an38 : Option Addr} {osl38 : Array (Option Value)}
    (n38 : PySem.W.nsIn K mainGlobals "_law_wide_pattern" = some (some (.ref a38))) (l38 : K.lookup a38 = some ⟨oc38, od38, .func (PySem.W.fnOf "_law_wide_pattern" "_law_wide_pattern" (defArgs (top 48)) (defBody (top 48)) (defScope (top 48)) dV38 kV38 doc38 pm38 an38 cd38 ct38), osl38⟩) (c38 : PySem.W.codeIn K cd38 "_law_wide_pattern" = true) (k38 : PySem.W.keepIn K (.ref a38) = true) (v38 : dV38 = .none)
    {a39 : Addr} {oc39 dV39 kV39 doc39 pm39 cd39 ct39 : Value} {od39 an39 : Option Addr} {osl39 : Array (Option Value)}
    (n39 : PySem.W.nsIn K mainGlobals "law" = some (some (.ref a39))) (l39 : K.lookup a39 = some ⟨oc39, od39, .func (PySem.W.fnOf "law" "law" (defArgs (top 49)) (defBody (top 49)) (defScope (top 49)) dV39 kV39 doc39 pm39 an39 cd39 ct39), osl39⟩) (c39 : PySem.W.codeIn K cd39 "law" = true) (k39 : PySem.W.keepIn K (.ref a39) = true) (v39 : dV39 = .none)
    {gt0 : Tok}
    {gt1 : Tok}
    {e_NoText : Addr}
    (x0 : PySem.W.nsIn K mainGlobals "FIGURES" = some (some (.str "0123456789" gt0)))
    (x1 : PySem.W.nsIn K mainGlobals "MOST_FIGURES" = some (some (.int 30 gt1)))
    (nE_NoText : PySem.W.nsIn K mainGlobals "NoText" = some (some (.ref e_NoText)))
    (xF_NoText : PySem.W.excIn K e_NoText [.type "ValueError", .type "Exception", .type "BaseException", .type "object"] "ValueError.__new__" = true)
    (kF_NoText : PySem.W.keepIn K (.ref e_NoText) = true)
    (bF_NoText : PySem.W.subIn K (.ref e_NoText) (.type "BaseException") = some true)
    (tF_NoText : PySem.W.typeIn K (.ref e_NoText) = some (.type "type"))
    (b_abs : PySem.W.nsIn K mainGlobals "abs" = some none)
    (b_int : PySem.W.nsIn K mainGlobals "int" = some none)
    (b_len : PySem.W.nsIn K mainGlobals "len" = some none)
    (b_max : PySem.W.nsIn K mainGlobals "max" = some none)
    (b_min : PySem.W.nsIn K mainGlobals "min" = some none)
    (b_isinstance : PySem.W.nsIn K mainGlobals "isinstance" = some none)
    (b_repr : PySem.W.nsIn K mainGlobals "repr" = some none)
    (b_str : PySem.W.nsIn K mainGlobals "str" = some none)
    (b_all : PySem.W.nsIn K mainGlobals "all" = some none)
    (b_any : PySem.W.nsIn K mainGlobals "any" = some none)
    (b_sum : PySem.W.nsIn K mainGlobals "sum" = some none)
    (b_list : PySem.W.nsIn K mainGlobals "list" = some none)
    (b_tuple : PySem.W.nsIn K mainGlobals "tuple" = some none)
    (b_sorted : PySem.W.nsIn K mainGlobals "sorted" = some none)
    (b_range : PySem.W.nsIn K mainGlobals "range" = some none)
    (b_enumerate : PySem.W.nsIn K mainGlobals "enumerate" = some none)
    (b_zip : PySem.W.nsIn K mainGlobals "zip" = some none)
    (b_bool : PySem.W.nsIn K mainGlobals "bool" = some none)
    (b_dict : PySem.W.nsIn K mainGlobals "dict" = some none)
    : Prog K mg tab fs := by
  subst v0
  subst v1
  subst v2
  subst v3
  subst v4
  subst v5
  subst v6
  subst v7
  subst v8
  subst v9
  subst v10
  subst v11
  subst v12
  subst v13
  subst v14
  subst v15
  subst v16
  subst v17
  subst v18
  subst v19
  subst v20
  subst v21
  subst v22
  subst v23
  subst v24
  subst v25
  subst v26
  subst v27
  subst v28
  subst v29
  subst v30
  subst v31
  subst v32
  subst v33
  subst v34
  subst v35
  subst v36
  subst v37
  subst v38
  subst v39
  refine ⟨fun x hx => ?_, fun f hf hn => ?_, fun f d hf => ?_, fun f hf v hv hx => ?_, fun f hf hx => ?_⟩
  · have hx : x ∈ (["abs", "int", "len", "max", "min", "isinstance", "repr", "str", "all", "any", "sum", "list", "tuple", "sorted", "range", "enumerate", "zip", "bool", "dict"] : List Str) := hx
    simp only [List.mem_cons, List.not_mem_nil, or_false] at hx
    rcases hx with rfl | rfl | rfl | rfl | rfl | rfl | rfl | rfl | rfl | rfl | rfl | rfl | rfl | rfl | rfl | rfl | rfl | rfl | rfl
    · exact PySem.W.mg_none_of X G b_abs
    · exact PySem.W.mg_none_of X G b_int
    · exact PySem.W.mg_none_of X G b_len
    · exact PySem.W.mg_none_of X G b_max
    · exact PySem.W.mg_none_of X G b_min
    · exact PySem.W.mg_none_of X G b_isinstance
    · exact PySem.W.mg_none_of X G b_repr
    · exact PySem.W.mg_none_of X G b_str
    · exact PySem.W.mg_none_of X G b_all
    · exact PySem.W.mg_none_of X G b_any
    · exact PySem.W.mg_none_of X G b_sum
    · exact PySem.W.mg_none_of X G b_list
    · exact PySem.W.mg_none_of X G b_tuple
    · exact PySem.W.mg_none_of X G b_sorted
    · exact PySem.W.mg_none_of X G b_range
    · exact PySem.W.mg_none_of X G b_enumerate
    · exact PySem.W.mg_none_of X G b_zip
    · exact PySem.W.mg_none_of X G b_bool
    · exact PySem.W.mg_none_of X G b_dict
  · have hf : f ∈ (("is_whole" :: "divisor_of" :: "is_worth" :: "is_place" :: "is_pair" :: "are_rising" :: "is_pattern" :: "is_told_cell" :: "is_table" :: "worth_word" :: "number_in" :: "top_in" :: "worth_in" :: "lines_in" :: "show_pattern" :: "read_pattern" :: "show_table" :: "cell_in" :: "read_table" :: "_law_deck" :: "_law_draw" :: "_law_divides" :: "_law_worth" :: "_law_far" :: "_law_some_worth" :: "_law_many" :: "_law_there" :: "_law_order" :: "_law_web" :: "_law_pattern" :: "_law_table" :: "_law_same" :: "_law_worth_text" :: "_law_text" :: "_law_shown_right" :: "_law_read_right" :: "_law_far_places" :: "_law_great_numbers" :: "_law_wide_pattern" :: "law" :: "FIGURES" :: "MOST_FIGURES" :: "NoText" :: []) : List Str) := hf
    simp only [List.mem_cons, List.not_mem_nil, or_false] at hf
    rcases hf with rfl | rfl | rfl | rfl | rfl | rfl | rfl | rfl | rfl | rfl | rfl | rfl | rfl | rfl | rfl | rfl | rfl | rfl | rfl | rfl | rfl | rfl | rfl | rfl | rfl | rfl | rfl | rfl | rfl | rfl | rfl | rfl | rfl | rfl | rfl | rfl | rfl | rfl | rfl | rfl | rfl | rfl | rfl
    · exact ⟨d_is_whole, by kernel_rfl, defOk_mk X G n0 l0 c0 k0 (by decide +kernel) c_is_whole fun us hl => match us, hl with | [_], _ => rfl⟩
    · exact ⟨d_divisor_of, by kernel_rfl, defOk_mk X G n1 l1 c1 k1 (by decide +kernel) c_divisor_of fun us hl => match us, hl with | [_, _], _ => rfl⟩
    · exact ⟨d_is_worth, by kernel_rfl, defOk_mk X G n2 l2 c2 k2 (by decide +kernel) c_is_worth fun us hl => match us, hl with | [_], _ => rfl⟩
    · exact ⟨d_is_place, by kernel_rfl, defOk_mk X G n3 l3 c3 k3 (by decide +kernel) c_is_place fun us hl => match us, hl with | [_, _], _ => rfl⟩
    · exact ⟨d_is_pair, by kernel_rfl, defOk_mk X G n4 l4 c4 k4 (by decide +kernel) c_is_pair fun us hl => match us, hl with | [_, _], _ => rfl⟩
    · exact ⟨d_are_rising, by kernel_rfl, defOk_mk X G n5 l5 c5 k5 (by decide +kernel) c_are_rising fun us hl => match us, hl with | [_], _ => rfl⟩
    · exact ⟨d_is_pattern, by kernel_rfl, defOk_mk X G n6 l6 c6 k6 (by decide +kernel) c_is_pattern fun us hl => match us, hl with | [_], _ => rfl⟩
    · exact ⟨d_is_told_cell, by kernel_rfl, defOk_mk X G n7 l7 c7 k7 (by decide +kernel) c_is_told_cell fun us hl => match us, hl with | [_, _], _ => rfl⟩
    · exact ⟨d_is_table, by kernel_rfl, defOk_mk X G n8 l8 c8 k8 (by decide +kernel) c_is_table fun us hl => match us, hl with | [_], _ => rfl⟩
    · exact ⟨d_worth_word, by kernel_rfl, defOk_mk X G n9 l9 c9 k9 (by decide +kernel) c_worth_word fun us hl => match us, hl with | [_], _ => rfl⟩
    · exact ⟨d_number_in, by kernel_rfl, defOk_mk X G n10 l10 c10 k10 (by decide +kernel) c_number_in fun us hl => match us, hl with | [_], _ => rfl⟩
    · exact ⟨d_top_in, by kernel_rfl, defOk_mk X G n11 l11 c11 k11 (by decide +kernel) c_top_in fun us hl => match us, hl with | [_], _ => rfl⟩
    · exact ⟨d_worth_in, by kernel_rfl, defOk_mk X G n12 l12 c12 k12 (by decide +kernel) c_worth_in fun us hl => match us, hl with | [_], _ => rfl⟩
    · exact ⟨d_lines_in, by kernel_rfl, defOk_mk X G n13 l13 c13 k13 (by decide +kernel) c_lines_in fun us hl => match us, hl with | [_], _ => rfl⟩
    · exact ⟨d_show_pattern, by kernel_rfl, defOk_mk X G n14 l14 c14 k14 (by decide +kernel) c_show_pattern fun us hl => match us, hl with | [_], _ => rfl⟩
    · exact ⟨d_read_pattern, by kernel_rfl, defOk_mk X G n15 l15 c15 k15 (by decide +kernel) c_read_pattern fun us hl => match us, hl with | [_], _ => rfl⟩
    · exact ⟨d_show_table, by kernel_rfl, defOk_mk X G n16 l16 c16 k16 (by decide +kernel) c_show_table fun us hl => match us, hl with | [_], _ => rfl⟩
    · exact ⟨d_cell_in, by kernel_rfl, defOk_mk X G n17 l17 c17 k17 (by decide +kernel) c_cell_in fun us hl => match us, hl with | [_], _ => rfl⟩
    · exact ⟨d_read_table, by kernel_rfl, defOk_mk X G n18 l18 c18 k18 (by decide +kernel) c_read_table fun us hl => match us, hl with | [_], _ => rfl⟩
    · exact ⟨d__law_deck, by kernel_rfl, defOk_mk X G n19 l19 c19 k19 (by decide +kernel) c__law_deck fun us hl => match us, hl with | [_], _ => rfl⟩
    · exact ⟨d__law_draw, by kernel_rfl, defOk_mk X G n20 l20 c20 k20 (by decide +kernel) c__law_draw fun us hl => match us, hl with | [_, _], _ => rfl⟩
    · exact ⟨d__law_divides, by kernel_rfl, defOk_mk X G n21 l21 c21 k21 (by decide +kernel) c__law_divides fun us hl => match us, hl with | [_, _], _ => rfl⟩
    · exact ⟨d__law_worth, by kernel_rfl, defOk_mk X G n22 l22 c22 k22 (by decide +kernel) c__law_worth fun us hl => match us, hl with | [_, _], _ => rfl⟩
    · exact ⟨d__law_far, by kernel_rfl, defOk_mk X G n23 l23 c23 k23 (by decide +kernel) c__law_far fun us hl => match us, hl with | [_], _ => rfl⟩
    · exact ⟨d__law_some_worth, by kernel_rfl, defOk_mk X G n24 l24 c24 k24 (by decide +kernel) c__law_some_worth fun us hl => match us, hl with | [_], _ => rfl⟩
    · exact ⟨d__law_many, by kernel_rfl, defOk_mk X G n25 l25 c25 k25 (by decide +kernel) c__law_many fun us hl => match us, hl with | [_, _, _], _ => rfl⟩
    · exact ⟨d__law_there, by kernel_rfl, defOk_mk X G n26 l26 c26 k26 (by decide +kernel) c__law_there fun us hl => match us, hl with | [_, _, _, _, _], _ => rfl⟩
    · exact ⟨d__law_order, by kernel_rfl, defOk_mk X G n27 l27 c27 k27 (by decide +kernel) c__law_order fun us hl => match us, hl with | [_, _], _ => rfl⟩
    · exact ⟨d__law_web, by kernel_rfl, defOk_mk X G n28 l28 c28 k28 (by decide +kernel) c__law_web fun us hl => match us, hl with | [_, _], _ => rfl⟩
    · exact ⟨d__law_pattern, by kernel_rfl, defOk_mk X G n29 l29 c29 k29 (by decide +kernel) c__law_pattern fun us hl => match us, hl with | [_, _], _ => rfl⟩
    · exact ⟨d__law_table, by kernel_rfl, defOk_mk X G n30 l30 c30 k30 (by decide +kernel) c__law_table fun us hl => match us, hl with | [_, _], _ => rfl⟩
    · exact ⟨d__law_same, by kernel_rfl, defOk_mk X G n31 l31 c31 k31 (by decide +kernel) c__law_same fun us hl => match us, hl with | [_, _], _ => rfl⟩
    · exact ⟨d__law_worth_text, by kernel_rfl, defOk_mk X G n32 l32 c32 k32 (by decide +kernel) c__law_worth_text fun us hl => match us, hl with | [_], _ => rfl⟩
    · exact ⟨d__law_text, by kernel_rfl, defOk_mk X G n33 l33 c33 k33 (by decide +kernel) c__law_text fun us hl => match us, hl with | [_], _ => rfl⟩
    · exact ⟨d__law_shown_right, by kernel_rfl, defOk_mk X G n34 l34 c34 k34 (by decide +kernel) c__law_shown_right fun us hl => match us, hl with | [_, _, _], _ => rfl⟩
    · exact ⟨d__law_read_right, by kernel_rfl, defOk_mk X G n35 l35 c35 k35 (by decide +kernel) c__law_read_right fun us hl => match us, hl with | [_, _, _], _ => rfl⟩
    · exact ⟨d__law_far_places, by kernel_rfl, defOk_mk X G n36 l36 c36 k36 (by decide +kernel) c__law_far_places fun us hl => match us, hl with | [_, _, _], _ => rfl⟩
    · exact ⟨d__law_great_numbers, by kernel_rfl, defOk_mk X G n37 l37 c37 k37 (by decide +kernel) c__law_great_numbers fun us hl => match us, hl with | [_, _], _ => rfl⟩
    · exact ⟨d__law_wide_pattern, by kernel_rfl, defOk_mk X G n38 l38 c38 k38 (by decide +kernel) c__law_wide_pattern fun us hl => match us, hl with | [_], _ => rfl⟩
    · exact ⟨d_law, by kernel_rfl, defOk_mk X G n39 l39 c39 k39 (by decide +kernel) c_law fun us hl => match us, hl with | [_], _ => rfl⟩
    · have z : (gcst "FIGURES").isSome = true := by decide +kernel
      rw [hn] at z; cases z
    · have z : (gcst "MOST_FIGURES").isSome = true := by decide +kernel
      rw [hn] at z; cases z
    · have z : (gcst "NoText").isSome = true := by decide +kernel
      rw [hn] at z; cases z
  · have m := MP.lookup_mem (l := (("is_whole", d_is_whole) :: ("divisor_of", d_divisor_of) :: ("is_worth", d_is_worth) :: ("is_place", d_is_place) :: ("is_pair", d_is_pair) :: ("are_rising", d_are_rising) :: ("is_pattern", d_is_pattern) :: ("is_told_cell", d_is_told_cell) :: ("is_table", d_is_table) :: ("worth_word", d_worth_word) :: ("number_in", d_number_in) :: ("top_in", d_top_in) :: ("worth_in", d_worth_in) :: ("lines_in", d_lines_in) :: ("show_pattern", d_show_pattern) :: ("read_pattern", d_read_pattern) :: ("show_table", d_show_table) :: ("cell_in", d_cell_in) :: ("read_table", d_read_table) :: ("_law_deck", d__law_deck) :: ("_law_draw", d__law_draw) :: ("_law_divides", d__law_divides) :: ("_law_worth", d__law_worth) :: ("_law_far", d__law_far) :: ("_law_some_worth", d__law_some_worth) :: ("_law_many", d__law_many) :: ("_law_there", d__law_there) :: ("_law_order", d__law_order) :: ("_law_web", d__law_web) :: ("_law_pattern", d__law_pattern) :: ("_law_table", d__law_table) :: ("_law_same", d__law_same) :: ("_law_worth_text", d__law_worth_text) :: ("_law_text", d__law_text) :: ("_law_shown_right", d__law_shown_right) :: ("_law_read_right", d__law_read_right) :: ("_law_far_places", d__law_far_places) :: ("_law_great_numbers", d__law_great_numbers) :: ("_law_wide_pattern", d__law_wide_pattern) :: ("law", d_law) :: [])) hf
    have z := List.all_eq_true.mp all_defs f m
    simp only [Bool.and_eq_true, decide_eq_true_eq, Option.isNone_iff_eq_none] at z
    exact z
  · have hf : f ∈ (("is_whole" :: "divisor_of" :: "is_worth" :: "is_place" :: "is_pair" :: "are_rising" :: "is_pattern" :: "is_told_cell" :: "is_table" :: "worth_word" :: "number_in" :: "top_in" :: "worth_in" :: "lines_in" :: "show_pattern" :: "read_pattern" :: "show_table" :: "cell_in" :: "read_table" :: "_law_deck" :: "_law_draw" :: "_law_divides" :: "_law_worth" :: "_law_far" :: "_law_some_worth" :: "_law_many" :: "_law_there" :: "_law_order" :: "_law_web" :: "_law_pattern" :: "_law_table" :: "_law_same" :: "_law_worth_text" :: "_law_text" :: "_law_shown_right" :: "_law_read_right" :: "_law_far_places" :: "_law_great_numbers" :: "_law_wide_pattern" :: "law" :: "FIGURES" :: "MOST_FIGURES" :: "NoText" :: []) : List Str) := hf
    simp only [List.mem_cons, List.not_mem_nil, or_false] at hf
    rcases hf with rfl | rfl | rfl | rfl | rfl | rfl | rfl | rfl | rfl | rfl | rfl | rfl | rfl | rfl | rfl | rfl | rfl | rfl | rfl | rfl | rfl | rfl | rfl | rfl | rfl | rfl | rfl | rfl | rfl | rfl | rfl | rfl | rfl | rfl | rfl | rfl | rfl | rfl | rfl | rfl | rfl | rfl | rfl
    · have z : (gcst "is_whole").isNone = true := by decide +kernel
      rw [hv] at z; cases z
    · have z : (gcst "divisor_of").isNone = true := by decide +kernel
      rw [hv] at z; cases z
    · have z : (gcst "is_worth").isNone = true := by decide +kernel
      rw [hv] at z; cases z
    · have z : (gcst "is_place").isNone = true := by decide +kernel
      rw [hv] at z; cases z
    · have z : (gcst "is_pair").isNone = true := by decide +kernel
      rw [hv] at z; cases z
    · have z : (gcst "are_rising").isNone = true := by decide +kernel
      rw [hv] at z; cases z
    · have z : (gcst "is_pattern").isNone = true := by decide +kernel
      rw [hv] at z; cases z
    · have z : (gcst "is_told_cell").isNone = true := by decide +kernel
      rw [hv] at z; cases z
    · have z : (gcst "is_table").isNone = true := by decide +kernel
      rw [hv] at z; cases z
    · have z : (gcst "worth_word").isNone = true := by decide +kernel
      rw [hv] at z; cases z
    · have z : (gcst "number_in").isNone = true := by decide +kernel
      rw [hv] at z; cases z
    · have z : (gcst "top_in").isNone = true := by decide +kernel
      rw [hv] at z; cases z
    · have z : (gcst "worth_in").isNone = true := by decide +kernel
      rw [hv] at z; cases z
    · have z : (gcst "lines_in").isNone = true := by decide +kernel
      rw [hv] at z; cases z
    · have z : (gcst "show_pattern").isNone = true := by decide +kernel
      rw [hv] at z; cases z
    · have z : (gcst "read_pattern").isNone = true := by decide +kernel
      rw [hv] at z; cases z
    · have z : (gcst "show_table").isNone = true := by decide +kernel
      rw [hv] at z; cases z
    · have z : (gcst "cell_in").isNone = true := by decide +kernel
      rw [hv] at z; cases z
    · have z : (gcst "read_table").isNone = true := by decide +kernel
      rw [hv] at z; cases z
    · have z : (gcst "_law_deck").isNone = true := by decide +kernel
      rw [hv] at z; cases z
    · have z : (gcst "_law_draw").isNone = true := by decide +kernel
      rw [hv] at z; cases z
    · have z : (gcst "_law_divides").isNone = true := by decide +kernel
      rw [hv] at z; cases z
    · have z : (gcst "_law_worth").isNone = true := by decide +kernel
      rw [hv] at z; cases z
    · have z : (gcst "_law_far").isNone = true := by decide +kernel
      rw [hv] at z; cases z
    · have z : (gcst "_law_some_worth").isNone = true := by decide +kernel
      rw [hv] at z; cases z
    · have z : (gcst "_law_many").isNone = true := by decide +kernel
      rw [hv] at z; cases z
    · have z : (gcst "_law_there").isNone = true := by decide +kernel
      rw [hv] at z; cases z
    · have z : (gcst "_law_order").isNone = true := by decide +kernel
      rw [hv] at z; cases z
    · have z : (gcst "_law_web").isNone = true := by decide +kernel
      rw [hv] at z; cases z
    · have z : (gcst "_law_pattern").isNone = true := by decide +kernel
      rw [hv] at z; cases z
    · have z : (gcst "_law_table").isNone = true := by decide +kernel
      rw [hv] at z; cases z
    · have z : (gcst "_law_same").isNone = true := by decide +kernel
      rw [hv] at z; cases z
    · have z : (gcst "_law_worth_text").isNone = true := by decide +kernel
      rw [hv] at z; cases z
    · have z : (gcst "_law_text").isNone = true := by decide +kernel
      rw [hv] at z; cases z
    · have z : (gcst "_law_shown_right").isNone = true := by decide +kernel
      rw [hv] at z; cases z
    · have z : (gcst "_law_read_right").isNone = true := by decide +kernel
      rw [hv] at z; cases z
    · have z : (gcst "_law_far_places").isNone = true := by decide +kernel
      rw [hv] at z; cases z
    · have z : (gcst "_law_great_numbers").isNone = true := by decide +kernel
      rw [hv] at z; cases z
    · have z : (gcst "_law_wide_pattern").isNone = true := by decide +kernel
      rw [hv] at z; cases z
    · have z : (gcst "law").isNone = true := by decide +kernel
      rw [hv] at z; cases z
    · have e : gcst "FIGURES" = some (.str "0123456789") := rfl
      rw [e] at hv; cases hv
      exact cstK_str X G x0
    · have e : gcst "MOST_FIGURES" = some (.int 30) := rfl
      rw [e] at hv; cases hv
      exact cstK_int X G x1
    · have z : isExc "NoText" = true := by decide +kernel
      rw [hx] at z; cases z
  · have hf : f ∈ (("is_whole" :: "divisor_of" :: "is_worth" :: "is_place" :: "is_pair" :: "are_rising" :: "is_pattern" :: "is_told_cell" :: "is_table" :: "worth_word" :: "number_in" :: "top_in" :: "worth_in" :: "lines_in" :: "show_pattern" :: "read_pattern" :: "show_table" :: "cell_in" :: "read_table" :: "_law_deck" :: "_law_draw" :: "_law_divides" :: "_law_worth" :: "_law_far" :: "_law_some_worth" :: "_law_many" :: "_law_there" :: "_law_order" :: "_law_web" :: "_law_pattern" :: "_law_table" :: "_law_same" :: "_law_worth_text" :: "_law_text" :: "_law_shown_right" :: "_law_read_right" :: "_law_far_places" :: "_law_great_numbers" :: "_law_wide_pattern" :: "law" :: "FIGURES" :: "MOST_FIGURES" :: "NoText" :: []) : List Str) := hf
    simp only [List.mem_cons, List.not_mem_nil, or_false] at hf
    rcases hf with rfl | rfl | rfl | rfl | rfl | rfl | rfl | rfl | rfl | rfl | rfl | rfl | rfl | rfl | rfl | rfl | rfl | rfl | rfl | rfl | rfl | rfl | rfl | rfl | rfl | rfl | rfl | rfl | rfl | rfl | rfl | rfl | rfl | rfl | rfl | rfl | rfl | rfl | rfl | rfl | rfl | rfl | rfl
    · have z : isExc "is_whole" = false := by decide +kernel
      rw [hx] at z; cases z
    · have z : isExc "divisor_of" = false := by decide +kernel
      rw [hx] at z; cases z
    · have z : isExc "is_worth" = false := by decide +kernel
      rw [hx] at z; cases z
    · have z : isExc "is_place" = false := by decide +kernel
      rw [hx] at z; cases z
    · have z : isExc "is_pair" = false := by decide +kernel
      rw [hx] at z; cases z
    · have z : isExc "are_rising" = false := by decide +kernel
      rw [hx] at z; cases z
    · have z : isExc "is_pattern" = false := by decide +kernel
      rw [hx] at z; cases z
    · have z : isExc "is_told_cell" = false := by decide +kernel
      rw [hx] at z; cases z
    · have z : isExc "is_table" = false := by decide +kernel
      rw [hx] at z; cases z
    · have z : isExc "worth_word" = false := by decide +kernel
      rw [hx] at z; cases z
    · have z : isExc "number_in" = false := by decide +kernel
      rw [hx] at z; cases z
    · have z : isExc "top_in" = false := by decide +kernel
      rw [hx] at z; cases z
    · have z : isExc "worth_in" = false := by decide +kernel
      rw [hx] at z; cases z
    · have z : isExc "lines_in" = false := by decide +kernel
      rw [hx] at z; cases z
    · have z : isExc "show_pattern" = false := by decide +kernel
      rw [hx] at z; cases z
    · have z : isExc "read_pattern" = false := by decide +kernel
      rw [hx] at z; cases z
    · have z : isExc "show_table" = false := by decide +kernel
      rw [hx] at z; cases z
    · have z : isExc "cell_in" = false := by decide +kernel
      rw [hx] at z; cases z
    · have z : isExc "read_table" = false := by decide +kernel
      rw [hx] at z; cases z
    · have z : isExc "_law_deck" = false := by decide +kernel
      rw [hx] at z; cases z
    · have z : isExc "_law_draw" = false := by decide +kernel
      rw [hx] at z; cases z
    · have z : isExc "_law_divides" = false := by decide +kernel
      rw [hx] at z; cases z
    · have z : isExc "_law_worth" = false := by decide +kernel
      rw [hx] at z; cases z
    · have z : isExc "_law_far" = false := by decide +kernel
      rw [hx] at z; cases z
    · have z : isExc "_law_some_worth" = false := by decide +kernel
      rw [hx] at z; cases z
    · have z : isExc "_law_many" = false := by decide +kernel
      rw [hx] at z; cases z
    · have z : isExc "_law_there" = false := by decide +kernel
      rw [hx] at z; cases z
    · have z : isExc "_law_order" = false := by decide +kernel
      rw [hx] at z; cases z
    · have z : isExc "_law_web" = false := by decide +kernel
      rw [hx] at z; cases z
    · have z : isExc "_law_pattern" = false := by decide +kernel
      rw [hx] at z; cases z
    · have z : isExc "_law_table" = false := by decide +kernel
      rw [hx] at z; cases z
    · have z : isExc "_law_same" = false := by decide +kernel
      rw [hx] at z; cases z
    · have z : isExc "_law_worth_text" = false := by decide +kernel
      rw [hx] at z; cases z
    · have z : isExc "_law_text" = false := by decide +kernel
      rw [hx] at z; cases z
    · have z : isExc "_law_shown_right" = false := by decide +kernel
      rw [hx] at z; cases z
    · have z : isExc "_law_read_right" = false := by decide +kernel
      rw [hx] at z; cases z
    · have z : isExc "_law_far_places" = false := by decide +kernel
      rw [hx] at z; cases z
    · have z : isExc "_law_great_numbers" = false := by decide +kernel
      rw [hx] at z; cases z
    · have z : isExc "_law_wide_pattern" = false := by decide +kernel
      rw [hx] at z; cases z
    · have z : isExc "law" = false := by decide +kernel
      rw [hx] at z; cases z
    · have z : isExc "FIGURES" = false := by decide +kernel
      rw [hx] at z; cases z
    · have z : isExc "MOST_FIGURES" = false := by decide +kernel
      rw [hx] at z; cases z
    · exact excOk_mk X G nE_NoText xF_NoText kF_NoText bF_NoText tF_NoText
theorem tabs : Tab tab := ⟨⟨⟨⟨by kernel_rfl, by kernel_rfl, by kernel_rfl, by kernel_rfl, by kernel_rfl⟩, by kernel_rfl, by kernel_rfl, by kernel_rfl⟩, by kernel_rfl, by kernel_rfl, by kernel_rfl, by kernel_rfl, by kernel_rfl, by kernel_rfl, by kernel_rfl, by kernel_rfl⟩, ⟨by kernel_rfl, by kernel_rfl, by kernel_rfl⟩, ⟨⟨by kernel_rfl, by kernel_rfl, by kernel_rfl, by kernel_rfl, by kernel_rfl, by kernel_rfl, by kernel_rfl⟩, ⟨by kernel_rfl, by kernel_rfl, by kernel_rfl, by kernel_rfl, by kernel_rfl⟩, by kernel_rfl, by kernel_rfl⟩, by kernel_rfl, by kernel_rfl, by kernel_rfl, by kernel_rfl, by kernel_rfl, by kernel_rfl, by kernel_rfl, by kernel_rfl⟩
theorem fin (ns : List Int) (hl : ns.length ≤ 63) (hb : ∀ z ∈ ns, Builtin.Int.intBits z ≤ 1048576) : callW tab 100 "law" [.lst (ns.map PV.int)] (fun _ => none) (fun v _ => v = .bl true) (fun _ _ => False) := main tabs ns hl hb
end K07
open PySem PySem.W PyProof.Rows in
set_option maxRecDepth 100000 in
set_option maxHeartbeats 0 in
theorem PySem.Challenge.cw_fewfilled_k07_written_and_read_holds : PySem.Challenge.rw_fewfilled_k07_written_and_read.Holds := by
  w_on; o_law; k_head; (case hw => w_witness2)
  k_fill
  refine MP.walk_MP (l := PySem.Challenge.rw_fewfilled_k07_written_and_read) (n := 63) (k := 100) (tab := K07.tab) (fs := K07.fs) rfl (by decide) rfl (MP.room_entry.mono (by decide)) (by decide) ⟨show MP.gcst "law" = none from if_neg (by decide), by decide +kernel⟩ (fun w h Y => PySem.W.kIn_of Y) ?P K07.fin
  case P =>
    intro w mg h KX G
    refine' K07.prog_mk KX G ?n0 ?l0 ?c0 ?k0 ?v0 ?n1 ?l1 ?c1 ?k1 ?v1 ?n2 ?l2 ?c2 ?k2 ?v2 ?n3 ?l3 ?c3 ?k3 ?v3 ?n4 ?l4 ?c4 ?k4 ?v4 ?n5 ?l5 ?c5 ?k5 ?v5 ?n6 ?l6 ?c6 ?k6 ?v6 ?n7 ?l7 ?c7 ?k7 ?v7 ?n8 ?l8 ?c8 ?k8 ?v8 ?n9 ?l9 ?c9 ?k9 ?v9 ?n10 ?l10 ?c10 ?k10 ?v10 ?n11 ?l11 ?c11 ?k11 ?v11 ?n12 ?l12 ?c12 ?k12 ?v12 ?n13 ?l13 ?c13 ?k13 ?v13 ?n14 ?l14 ?c14 ?k14 ?v14 ?n15 ?l15 ?c15 ?k15 ?v15 ?n16 ?l16 ?c16 ?k16 ?v16 ?n17 ?l17 ?c17 ?k17 ?v17 ?n18 ?l18 ?c18 ?k18 ?v18 ?n19 ?l19 ?c19 ?k19 ?v19 ?n20 ?l20 ?c20 ?k20 ?v20 ?n21 ?l21 ?c21 ?k21 ?v21 ?n22 ?l22 ?c22 ?k22 ?v22 ?n23 ?l23 ?c23 ?k23 ?v23 ?n24 ?l24 ?c24 ?k24 ?v24 ?n25 ?l25 ?c25 ?k25 ?v25 ?n26 ?l26 ?c26 ?k26 ?v26 ?n27 ?l27 ?c27 ?k27 ?v27 ?n28 ?l28 ?c28 ?k28 ?v28 ?n29 ?l29 ?c29 ?k29 ?v29 ?n30 ?l30 ?c30 ?k30 ?v30 ?n31 ?l31 ?c31 ?k31 ?v31 ?n32 ?l32 ?c32 ?k32 ?v32 ?n33 ?l33 ?c33 ?k33 ?v33 ?n34 ?l34 ?c34 ?k34 ?v34 ?n35 ?l35 ?c35 ?k35 ?v35 ?n36 ?l36 ?c36 ?k36 ?v36 ?n37 ?l37 ?c37 ?k37 ?v37 ?n38 ?l38 ?c38 ?k38 ?v38 ?n39 ?l39 ?c39 ?k39 ?v39 ?x0 ?x1 ?nE_NoText ?xF_NoText ?kF_NoText ?bF_NoText ?tF_NoText ?b_abs ?b_int ?b_len ?b_max ?b_min ?b_isinstance ?b_repr ?b_str ?b_all ?b_any ?b_sum ?b_list ?b_tuple ?b_sorted ?b_range ?b_enumerate ?b_zip ?b_bool ?b_dict
    (case n0 => k_is)
    (case l0 => k_is)
    (case c0 => k_is)
    (case k0 => k_is)
    (case v0 => rfl)
    (case n1 => k_is)
    (case l1 => k_is)
    (case c1 => k_is)
    (case k1 => k_is)
    (case v1 => rfl)
    (case n2 => k_is)
    (case l2 => k_is)
    (case c2 => k_is)
    (case k2 => k_is)
    (case v2 => rfl)
    (case n3 => k_is)
    (case l3 => k_is)
    (case c3 => k_is)
    (case k3 => k_is)
    (case v3 => rfl)
    (case n4 => k_is)
    (case l4 => k_is)
    (case c4 => k_is)
    (case k4 => k_is)
    (case v4 => rfl)
    (case n5 => k_is)
    (case l5 => k_is)
    (case c5 => k_is)
    (case k5 => k_is)
    (case v5 => rfl)
    (case n6 => k_is)
    (case l6 => k_is)
    (case c6 => k_is)
    (case k6 => k_is)
    (case v6 => rfl)
    (case n7 => k_is)
    (case l7 => k_is)
    (case c7 => k_is)
    (case k7 => k_is)
    (case v7 => rfl)
    (case n8 => k_is)
    (case l8 => k_is)
    (case c8 => k_is)
    (case k8 => k_is)
    (case v8 => rfl)
    (case n9 => k_is)
    (case l9 => k_is)
    (case c9 => k_is)
    (case k9 => k_is)
    (case v9 => rfl)
    (case n10 => k_is)
    (case l10 => k_is)
    (case c10 => k_is)
    (case k10 => k_is)
    (case v10 => rfl)
    (case n11 => k_is)
    (case l11 => k_is)
    (case c11 => k_is)
    (case k11 => k_is)
    (case v11 => rfl)
    (case n12 => k_is)
    (case l12 => k_is)
    (case c12 => k_is)
    (case k12 => k_is)
    (case v12 => rfl)
    (case n13 => k_is)
    (case l13 => k_is)
    (case c13 => k_is)
    (case k13 => k_is)
    (case v13 => rfl)
    (case n14 => k_is)
    (case l14 => k_is)
    (case c14 => k_is)
    (case k14 => k_is)
    (case v14 => rfl)
    (case n15 => k_is)
    (case l15 => k_is)
    (case c15 => k_is)
    (case k15 => k_is)
    (case v15 => rfl)
    (case n16 => k_is)
    (case l16 => k_is)
    (case c16 => k_is)
    (case k16 => k_is)
    (case v16 => rfl)
    (case n17 => k_is)
    (case l17 => k_is)
    (case c17 => k_is)
    (case k17 => k_is)
    (case v17 => rfl)
    (case n18 => k_is)
    (case l18 => k_is)
    (case c18 => k_is)
    (case k18 => k_is)
    (case v18 => rfl)
    (case n19 => k_is)
    (case l19 => k_is)
    (case c19 => k_is)
    (case k19 => k_is)
    (case v19 => rfl)
    (case n20 => k_is)
    (case l20 => k_is)
    (case c20 => k_is)
    (case k20 => k_is)
    (case v20 => rfl)
    (case n21 => k_is)
    (case l21 => k_is)
    (case c21 => k_is)
    (case k21 => k_is)
    (case v21 => rfl)
    (case n22 => k_is)
    (case l22 => k_is)
    (case c22 => k_is)
    (case k22 => k_is)
    (case v22 => rfl)
    (case n23 => k_is)
    (case l23 => k_is)
    (case c23 => k_is)
    (case k23 => k_is)
    (case v23 => rfl)
    (case n24 => k_is)
    (case l24 => k_is)
    (case c24 => k_is)
    (case k24 => k_is)
    (case v24 => rfl)
    (case n25 => k_is)
    (case l25 => k_is)
    (case c25 => k_is)
    (case k25 => k_is)
    (case v25 => rfl)
    (case n26 => k_is)
    (case l26 => k_is)
    (case c26 => k_is)
    (case k26 => k_is)
    (case v26 => rfl)
    (case n27 => k_is)
    (case l27 => k_is)
    (case c27 => k_is)
    (case k27 => k_is)
    (case v27 => rfl)
    (case n28 => k_is)
    (case l28 => k_is)
    (case c28 => k_is)
    (case k28 => k_is)
    (case v28 => rfl)
    (case n29 => k_is)
    (case l29 => k_is)
    (case c29 => k_is)
    (case k29 => k_is)
    (case v29 => rfl)
    (case n30 => k_is)
    (case l30 => k_is)
    (case c30 => k_is)
    (case k30 => k_is)
    (case v30 => rfl)
    (case n31 => k_is)
    (case l31 => k_is)
    (case c31 => k_is)
    (case k31 => k_is)
    (case v31 => rfl)
    (case n32 => k_is)
    (case l32 => k_is)
    (case c32 => k_is)
    (case k32 => k_is)
    (case v32 => rfl)
    (case n33 => k_is)
    (case l33 => k_is)
    (case c33 => k_is)
    (case k33 => k_is)
    (case v33 => rfl)
    (case n34 => k_is)
    (case l34 => k_is)
    (case c34 => k_is)
    (case k34 => k_is)
    (case v34 => rfl)
    (case n35 => k_is)
    (case l35 => k_is)
    (case c35 => k_is)
    (case k35 => k_is)
    (case v35 => rfl)
    (case n36 => k_is)
    (case l36 => k_is)
    (case c36 => k_is)
    (case k36 => k_is)
    (case v36 => rfl)
    (case n37 => k_is)
    (case l37 => k_is)
    (case c37 => k_is)
    (case k37 => k_is)
    (case v37 => rfl)
    (case n38 => k_is)
    (case l38 => k_is)
    (case c38 => k_is)
    (case k38 => k_is)
    (case v38 => rfl)
    (case n39 => k_is)
    (case l39 => k_is)
    (case c39 => k_is)
    (case k39 => k_is)
    (case v39 => rfl)
    (case x0 => k_is)
    (case x1 => k_is)
    (case nE_NoText => k_is)
    (case xF_NoText => k_exc)
    (case kF_NoText => k_is)
    (case bF_NoText => k_is)
    (case tF_NoText => k_is)
    (case b_abs => k_is)
    (case b_int => k_is)
    (case b_len => k_is)
    (case b_max => k_is)
    (case b_min => k_is)
    (case b_isinstance => k_is)
    (case b_repr => k_is)
    (case b_str => k_is)
    (case b_all => k_is)
    (case b_any => k_is)
    (case b_sum => k_is)
    (case b_list => k_is)
    (case b_tuple => k_is)
    (case b_sorted => k_is)
    (case b_range => k_is)
    (case b_enumerate => k_is)
    (case b_zip => k_is)
    (case b_bool => k_is)
    (case b_dict => k_is)

