import PyProof.Rows.All
import Wide.All
import OpenK.AllK
import Wide.FinOn
import HandS.ForMost
import HandS.Style
import HandS.IsInst
import HandS.Flow
import HandS.Exc
import HandS.ExcOwn
import HandS.Conv
import HandS.Dict
import HandS.Text
import HandS.AnyAll
import HandS.Wide
import HandS.Zip
import KE.SortData
import KE.KRevSl
import KE.KDictDisplayH
import KE.KDictPairs
import HandS.ExcIs
import HandS.EndBits
import PyProof.ReprLen
import PySem.Challenge.RW_fewfilled_k02_worths_reckoned
set_option Elab.async false
set_option linter.all false
set_option maxRecDepth 100000
namespace MP
open PySem
inductive PV where
  | non | bl (b : Bool) | int (i : Int) | str (x : Str)
  | tup (xs : List PV) | lst (xs : List PV) | dct (ks vs : List PV)
  | loc (a : Addr) | fn (f : Str)
  | cst (ns : List Int) | dtt (ks vs : List PV)
inductive Cell where
  | lst (xs : List PV) | dct (kvs : List (PV × PV)) | ins (C : Str) (fs : List (Str × PV))
abbrev MH := Addr → Option Cell
def MH.put (h : MH) (a : Addr) (c : Cell) : MH := fun b => if b = a then some c else h b
abbrev Env := List (Option PV)
abbrev Post := PV → MH → Prop
structure Exc where
  cls : Str
  arg : Option PV
abbrev XQ := Exc → MH → Prop
abbrev XP := Exc → Env → MH → Prop
abbrev Calls := Str → List PV → MH → Post → XQ → Prop
mutual
def toD : PV → PyData
  | .non => .none | .bl b => .bool b | .int i => .int i | .str x => .str x
  | .tup xs => .tuple (toDs xs) | .lst xs => .list (toDs xs) | .dct ks vs => .dict ((toDs ks).zip (toDs vs))
  | .loc _ => .none | .fn _ => .none | .cst _ => .none | .dtt _ _ => .none
def toDs : List PV → List PyData
  | [] => []
  | x :: r => toD x :: toDs r
end
mutual
def pur : PV → Bool
  | .non | .bl _ | .int _ | .str _ => true
  | .tup xs => purs xs | .lst xs => purs xs | .dct ks vs => purs ks && purs vs
  | .loc _ => false | .fn _ => false | .cst _ => false | .dtt _ _ => false
def purs : List PV → Bool
  | [] => true
  | x :: r => pur x && purs r
end
def rd (h : MH) : PV → PV
  | .loc a => match h a with
    | some (.lst xs) => .lst xs
    | _ => .loc a
  | v => v
def seqT (h : MH) (v : PV) : Option (List PV) := match rd h v with
  | .tup xs => some xs
  | .lst xs => some xs
  | _ => none
def newL (m : Bool) (xs : List PV) (h : MH) (Q : Post) : Prop :=
  if m then xs.length ≤ sizeLine ∧ ∀ p, h p = none → Q (.loc p) (h.put p (.lst xs)) else xs.length ≤ sizeLine ∧ Q (.lst xs) h
def eqOk (v : PV) : Prop := pur v = true ∧ SeqAt.shaped (toD v) = true
def eqP (x y : PV) : Bool := PyData.eqv (toD x) (toD y)
def binW (op : Operator) (x y : PV) (h : MH) (Q : Post) : Prop :=
  match op, rd h x, rd h y with
  | .Add, .int i, .int j => Q (.int (i + j)) h
  | .Sub, .int i, .int j => Q (.int (i - j)) h
  | .Mult, .int i, .int j => (i.natAbs < 2 ^ 64 ∨ j.natAbs < 2 ^ 64 ∨ i.natAbs.log2 + j.natAbs.log2 < 1000000) ∧ Q (.int (i * j)) h
  | .FloorDiv, .int i, .int j => if 0 < j then (j < 2 ^ 256 ∨ j.natAbs.log2 < 9000) ∧ Q (.int (i / j)) h else (j ≠ 0 ∧ (-j < 2 ^ 256 ∨ j.natAbs.log2 < 9000)) ∧ Q (.int (i.fdiv j)) h
  | .Mod, .int i, .int j => 0 < j ∧ Q (.int (i % j)) h
  | .Pow, .int i, .int j => (0 ≤ j ∧ j ≤ 1000000 ∧ i.natAbs < 2 ^ 64) ∧ Q (.int (i ^ j.toNat)) h
  | .Add, .lst xs, .lst ys => xs.length + ys.length ≤ sizeLine ∧ Q (.lst (xs ++ ys)) h
  | .Add, .tup xs, .tup ys => xs.length + ys.length ≤ sizeLine ∧ Q (.tup (xs ++ ys)) h
  | .Add, .str a, .str b => a.length + b.length ≤ sizeLine ∧ Q (.str (a ++ b)) h
  | .Mult, .lst xs, .int n => (n * xs.length ≤ sizeLine ∧ n ≤ sizeLine ∧ -(2 ^ 63) ≤ n) ∧ Q (.lst (List.flatten (List.replicate n.toNat xs))) h
  | _, _, _ => False
def eqW (x y : PV) (h : MH) (Q : Bool → MH → Prop) : Prop :=
  match x, y with
  | .tup xs, .tup [] => Q xs.isEmpty h
  | .str a, .str b => Q (decide (a = b)) h
  | x, y => (eqOk x ∧ eqOk y) ∧ Q (eqP x y) h
def neW (x y : PV) (h : MH) (Q : Bool → MH → Prop) : Prop :=
  match x, y with
  | .tup xs, .tup [] => Q (!xs.isEmpty) h
  | .str a, .str b => Q (!decide (a = b)) h
  | x, y => (eqOk x ∧ eqOk y) ∧ Q (!eqP x y) h
def cmpW (op : CmpOp) (x y : PV) (h : MH) (Q : Bool → MH → Prop) : Prop :=
  match op with
  | .Eq => eqW (rd h x) (rd h y) h Q
  | .NotEq => neW (rd h x) (rd h y) h Q
  | .Lt => ∃ i j, x = .int i ∧ y = .int j ∧ Q (decide (i < j)) h
  | .LtE => ∃ i j, x = .int i ∧ y = .int j ∧ Q (decide (i ≤ j)) h
  | .Gt => ∃ i j, x = .int i ∧ y = .int j ∧ Q (decide (j < i)) h
  | .GtE => ∃ i j, x = .int i ∧ y = .int j ∧ Q (decide (j ≤ i)) h
  | _ => False
def truW (v : PV) (h : MH) (Q : Bool → MH → Prop) : Prop :=
  match rd h v with
  | .bl b => Q b h
  | .non => Q false h
  | .int i => Q (decide (i ≠ 0)) h
  | .tup xs => Q (!xs.isEmpty) h
  | .lst xs => Q (!xs.isEmpty) h
  | _ => False
def idxW (x i : PV) (h : MH) (Q : Post) : Prop :=
  match rd h x, i with
  | .tup xs, .int k => ∃ v, L2.atI xs k = some v ∧ Q v h
  | .lst xs, .int k => ∃ v, L2.atI xs k = some v ∧ Q v h
  | _, _ => False
end MP
set_option Elab.async false
set_option linter.all false
set_option maxRecDepth 100000
namespace MP
open PySem L2
abbrev KF := PySem.W.Frag
def FzL (K : KF) (H : Hp) (a : Addr) (xs : List V) : Prop :=
  (∃ o, H a = some (.frz o (.lst xs))) ∨
    ∃ (its : Array Value) (n : Nat), K.lookup a = some ({ cls := .type "list", data := .seq its n } : Obj) ∧ its.size ≤ sizeLine ∧ Vals xs its.toList
theorem FzL.sq {K : KF} {H : Hp} {a : Addr} {xs : List V} (h : FzL K H a xs) : SqL K H a xs := by
  rcases h with ⟨o, h⟩ | ⟨its, n, h1, h2, h3⟩
  · exact .inl (.inr ⟨o, h⟩)
  · exact .inr ⟨_, its, n, h1, rfl, rfl, rfl, h2, h3⟩
def LL (K : KF) (H : Hp) (a : Addr) (xs : List V) : Prop := H a = some (.lst xs) ∨ FzL K H a xs
theorem LL.sq {K : KF} {H : Hp} {a : Addr} {xs : List V} (h : LL K H a xs) : SqL K H a xs := by
  rcases h with h | h
  · exact .of h
  · exact h.sq
theorem LL.at_ {X : Cx} {pins : List (Addr × Obj)} {σ : L2.St} {H : Hp} {s : Shared} {a : Addr} {xs : List V} (h : LL X.K H a xs) (I : Inv X pins σ H s) :
    xs.length ≤ sizeLine ∧ ∃ (its : List Value) (n : Nat), Vals xs its ∧ xs.length = its.length ∧ s.heap.get? a = some { cls := .type "list", data := .seq its.toArray n } := by
  rcases h with h | ⟨o, h⟩ | ⟨its, n, h1, h2, h3⟩
  · exact I.lstM h
  · obtain ⟨_, z, its, n, r, e⟩ := I.hok a _ h
    exact ⟨z, its, n, r, r.length, e⟩
  · have l := h3.length
    refine ⟨by rw [l]; simpa using h2, its.toList, n, h3, l, ?_⟩
    simpa using I.kIn a _ h1
inductive KeyRep : PV → Key → Prop
  | int (i : Int) : KeyRep (.int i) (.inl i)
  | str (x : Str) : KeyRep (.str x) (.inr x)
abbrev Keys : List PV → List Key → Prop := Paired KeyRep
def CstAt (K : KF) (a : Addr) (ns : List Int) : Prop := ∃ (o : Obj) (its : Array Value) (n : Nat), K.lookup a = some o ∧ o.cls = .type "tuple" ∧ o.data = .seq its n ∧ its.size ≤ sizeLine ∧ Vals (ns.map V.int) its.toList
mutual
inductive Rep (K : KF) (H : Hp) : V → PV → Prop
  | non : Rep K H .non .non
  | bl (b : Bool) : Rep K H (.bl b) (.bl b)
  | int (i : Int) : Rep K H (.int i) (.int i)
  | str (x : Str) : Rep K H (.str x) (.str x)
  | tup {a : Addr} {vs : List V} {xs : List PV} : H a = some (.tup vs) → Reps K H vs xs → Rep K H (.ref a) (.tup xs)
  | lst {a : Addr} {vs : List V} {xs : List PV} : FzL K H a vs → Reps K H vs xs → Rep K H (.ref a) (.lst xs)
  | dctK {a : Addr} {o : Obj} {kvs : List (Key × V)} {ks vs : List PV} : H a = some (.frz o (.dK kvs)) → Keys ks (kvs.map (·.1)) → Reps K H (kvs.map (·.2)) vs → Rep K H (.ref a) (.dct ks vs)
  | dctT {a : Addr} {o : Obj} {kvs : List (List Key × V)} {ks : List (List PV)} {vs : List PV} : H a = some (.frz o (.dT kvs)) → Paired Keys ks (kvs.map (·.1)) → Reps K H (kvs.map (·.2)) vs → Rep K H (.ref a) (.dct (ks.map PV.tup) vs)
  | loc (a : Addr) : Rep K H (.ref a) (.loc a)
  | cst {a : Addr} {ns : List Int} : CstAt K a ns → Rep K H (.ref a) (.cst ns)
  | dtt {a : Addr} {o : Obj} {kvs : List (List Key × V)} {ks : List (List PV)} {vs : List PV} : H a = some (.frz o (.dT kvs)) → Paired Keys ks (kvs.map (·.1)) → Reps K H (kvs.map (·.2)) vs → Rep K H (.ref a) (.dtt (ks.map PV.tup) vs)
  | fn {a : Addr} {f : Str} : PySem.W.nsIn K mainGlobals f = some (some (.ref a)) → PySem.W.keepIn K (.ref a) = true → Rep K H (.ref a) (.fn f)
inductive Reps (K : KF) (H : Hp) : List V → List PV → Prop
  | nil : Reps K H [] []
  | cons {v : V} {x : PV} {vs : List V} {xs : List PV} : Rep K H v x → Reps K H vs xs → Reps K H (v :: vs) (x :: xs)
end
section
variable {K : KF} {H H' : Hp}
theorem Reps.length : ∀ {vs : List V} {xs : List PV}, Reps K H vs xs → vs.length = xs.length
  | _, _, .nil => rfl
  | _, _, .cons _ t => by simp [Reps.length t]
theorem Reps.get : ∀ {vs : List V} {xs : List PV} {i : Nat} {x : PV}, Reps K H vs xs → xs[i]? = some x → ∃ v, vs[i]? = some v ∧ Rep K H v x
  | _, _, _, _, .nil, e => by simp at e
  | _, _, 0, _, .cons r _, e => by simp at e; subst e; exact ⟨_, rfl, r⟩
  | _, _, i + 1, x, .cons _ t, e => by
    obtain ⟨u, h1, h2⟩ := Reps.get (i := i) (x := x) t (by simpa using e)
    exact ⟨u, by simpa using h1, h2⟩
theorem Reps.getV : ∀ {vs : List V} {xs : List PV} {i : Nat} {v : V}, Reps K H vs xs → vs[i]? = some v → ∃ x, xs[i]? = some x ∧ Rep K H v x
  | _, _, _, _, .nil, e => by simp at e
  | _, _, 0, _, .cons r _, e => by simp at e; subst e; exact ⟨_, rfl, r⟩
  | _, _, i + 1, x, .cons _ t, e => by
    obtain ⟨u, h1, h2⟩ := Reps.getV (i := i) (v := x) t (by simpa using e)
    exact ⟨u, by simpa using h1, h2⟩
theorem Reps.append : ∀ {vs us : List V} {xs ys : List PV}, Reps K H vs xs → Reps K H us ys → Reps K H (vs ++ us) (xs ++ ys)
  | _, _, _, _, .nil, s => s
  | _, _, _, _, .cons r t, s => .cons r (Reps.append t s)
theorem Reps.take : ∀ {vs : List V} {xs : List PV} (n : Nat), Reps K H vs xs → Reps K H (vs.take n) (xs.take n)
  | _, _, 0, _ => .nil
  | _, _, _ + 1, .nil => .nil
  | _, _, n + 1, .cons r t => .cons r (Reps.take n t)
theorem Reps.drop : ∀ {vs : List V} {xs : List PV} (n : Nat), Reps K H vs xs → Reps K H (vs.drop n) (xs.drop n)
  | _, _, 0, r => r
  | _, _, _ + 1, .nil => .nil
  | _, _, n + 1, .cons _ t => Reps.drop n t
theorem Reps.set : ∀ {vs : List V} {xs : List PV} {v : V} {x : PV} (i : Nat), Rep K H v x → Reps K H vs xs → Reps K H (vs.set i v) (xs.set i x)
  | _, _, _, _, _, _, .nil => .nil
  | _, _, _, _, 0, r, .cons _ t => .cons r t
  | _, _, _, _, i + 1, r, .cons q t => .cons q (Reps.set i r t)
theorem Reps.eraseIdx : ∀ {vs : List V} {xs : List PV} (i : Nat), Reps K H vs xs → Reps K H (vs.eraseIdx i) (xs.eraseIdx i)
  | _, _, _, .nil => by simp; exact .nil
  | _, _, 0, .cons _ t => by simpa using t
  | _, _, i + 1, .cons q t => by simpa using Reps.cons q (Reps.eraseIdx i t)
theorem Reps.rev {vs : List V} {xs : List PV} (r : Reps K H vs xs) : Reps K H vs.reverse xs.reverse := by
  induction vs generalizing xs with
  | nil => cases r; exact .nil
  | cons v vs ih => cases r with
    | cons a b => simp only [List.reverse_cons]; exact (ih b).append (.cons a .nil)
theorem Reps.rep : ∀ {vs : List V} {xs : List PV} (n : Nat), Reps K H vs xs → Reps K H (List.replicate n vs).flatten (List.replicate n xs).flatten
  | _, _, 0, _ => .nil
  | _, _, n + 1, r => by simp only [List.replicate_succ, List.flatten_cons]; exact r.append (Reps.rep n r)
theorem Rep.int_inv {v : V} {i : Int} (r : Rep K H v (.int i)) : v = .int i := by cases r; rfl
theorem Rep.bl_inv {v : V} {i : Bool} (r : Rep K H v (.bl i)) : v = .bl i := by cases r; rfl
theorem Rep.str_inv {v : V} {i : Str} (r : Rep K H v (.str i)) : v = .str i := by cases r; rfl
theorem Rep.non_inv {v : V} (r : Rep K H v .non) : v = .non := by cases r; rfl
theorem Rep.loc_inv {v : V} {a : Addr} (r : Rep K H v (.loc a)) : v = .ref a := by cases r; rfl
theorem Rep.fn_inv {v : V} {f : Str} (r : Rep K H v (.fn f)) : ∃ a, v = .ref a ∧ PySem.W.nsIn K mainGlobals f = some (some (.ref a)) ∧ PySem.W.keepIn K (.ref a) = true := by cases r with | fn a b => exact ⟨_, rfl, a, b⟩
theorem Rep.cst_inv {v : V} {ns : List Int} (r : Rep K H v (.cst ns)) : ∃ a, v = .ref a ∧ CstAt K a ns := by cases r with | cst a => exact ⟨_, rfl, a⟩
theorem Rep.tup_inv {v : V} {xs : List PV} (r : Rep K H v (.tup xs)) : ∃ a vs, v = .ref a ∧ SqT K H a vs ∧ Reps K H vs xs := by cases r with | tup a b => exact ⟨_, _, rfl, .inl (.inl a), b⟩
theorem Rep.tup_invS {v : V} {xs : List PV} (r : Rep K H v (.tup xs)) : ∃ a vs, v = .ref a ∧ H a = some (.tup vs) ∧ Reps K H vs xs := by cases r with | tup a b => exact ⟨_, _, rfl, a, b⟩
theorem Rep.lst_inv {v : V} {xs : List PV} (r : Rep K H v (.lst xs)) : ∃ a vs, v = .ref a ∧ FzL K H a vs ∧ Reps K H vs xs := by cases r with | lst a b => exact ⟨_, _, rfl, a, b⟩
theorem Reps.ints : ∀ {vs : List V} {ns : List Int}, Reps K H vs (ns.map PV.int) → vs = ns.map V.int
  | _, [], h => by cases h; rfl
  | _, n :: ns, h => by
    cases h with
    | cons a b => rw [a.int_inv, Reps.ints b]; rfl
theorem Reps.of_ints : ∀ (ns : List Int), Reps K H (ns.map V.int) (ns.map PV.int)
  | [] => .nil
  | n :: ns => .cons (.int n) (Reps.of_ints ns)
theorem Reps.bls : ∀ {vs : List V} {ns : List Bool}, Reps K H vs (ns.map PV.bl) → vs = ns.map V.bl
  | _, [], h => by cases h; rfl
  | _, n :: ns, h => by
    cases h with
    | cons a b => rw [a.bl_inv, Reps.bls b]; rfl
structure Pres (H H' : Hp) : Prop where
  tup : ∀ a xs, H a = some (.tup xs) → H' a = some (.tup xs)
  frz : ∀ a o u, H a = some (.frz o u) → H' a = some (.frz o u)
theorem Pres.refl : Pres H H := ⟨fun _ _ h => h, fun _ _ _ h => h⟩
theorem Pres.trans {H2 : Hp} (a : Pres H H') (b : Pres H' H2) : Pres H H2 := ⟨fun _ _ h => b.tup _ _ (a.tup _ _ h), fun _ _ _ h => b.frz _ _ _ (a.frz _ _ _ h)⟩
theorem Pres.sqT (p : Pres H H') {a : Addr} {vs : List V} (h : SqT K H a vs) : SqT K H' a vs := by
  rcases h with (h | ⟨o, h⟩) | h
  · exact .inl (.inl (p.tup _ _ h))
  · exact .inl (.inr ⟨o, p.frz _ _ _ h⟩)
  · exact .inr h
theorem Pres.fzL (p : Pres H H') {a : Addr} {vs : List V} (h : FzL K H a vs) : FzL K H' a vs := by
  rcases h with ⟨o, h⟩ | h
  · exact .inl ⟨o, p.frz _ _ _ h⟩
  · exact .inr h
mutual
theorem Rep.keep (p : Pres H H') : ∀ {x : PV} {v : V}, Rep K H v x → Rep K H' v x
  | _, _, .non => .non
  | _, _, .bl b => .bl b
  | _, _, .int i => .int i
  | _, _, .str x => .str x
  | _, _, .tup a b => .tup (p.tup _ _ a) (Reps.keep p b)
  | _, _, .lst a b => .lst (p.fzL a) (Reps.keep p b)
  | _, _, .dctK a b c => .dctK (p.frz _ _ _ a) b (Reps.keep p c)
  | _, _, .dctT a b c => .dctT (p.frz _ _ _ a) b (Reps.keep p c)
  | _, _, .loc a => .loc a
  | _, _, .fn a b => .fn a b
  | _, _, .cst a => .cst a
  | _, _, .dtt a b c => .dtt (p.frz _ _ _ a) b (Reps.keep p c)
theorem Reps.keep (p : Pres H H') : ∀ {xs : List PV} {vs : List V}, Reps K H vs xs → Reps K H' vs xs
  | _, _, .nil => .nil
  | _, _, .cons a b => .cons (Rep.keep p a) (Reps.keep p b)
end
theorem Pres.new {a : Addr} {o : HO} (hn : H a = none) : Pres H (upd H a o) :=
  ⟨fun b xs h => by rw [upd_ne (ne_of_none h hn)]; exact h, fun b o u h => by rw [upd_ne (ne_of_none h hn)]; exact h⟩
theorem Pres.wr {a : Addr} {o u : HO} (hn : H a = some u) (ht : ∀ xs, u ≠ .tup xs) (hf : ∀ o v, u ≠ .frz o v) : Pres H (upd H a o) :=
  ⟨fun b xs h => by rw [upd_ne (fun e => by subst e; rw [hn] at h; cases h; exact ht _ rfl)]; exact h, fun b o u h => by rw [upd_ne (fun e => by subst e; rw [hn] at h; cases h; exact hf _ _ rfl)]; exact h⟩
inductive CRep (K : KF) (H : Hp) : Cell → HO → Prop
  | lst {vs : List V} {xs : List PV} : Reps K H vs xs → CRep K H (.lst xs) (.lst vs)
  | dctK {kvs : List (Key × V)} {ps : List (PV × PV)} : Keys (ps.map (·.1)) (kvs.map (·.1)) → Reps K H (kvs.map (·.2)) (ps.map (·.2)) → CRep K H (.dct ps) (.dK kvs)
  | dctT {kvs : List (List Key × V)} {ps : List (List PV × PV)} : Paired Keys (ps.map (·.1)) (kvs.map (·.1)) → Reps K H (kvs.map (·.2)) (ps.map (·.2)) → CRep K H (.dct (ps.map fun p => (PV.tup p.1, p.2))) (.dT kvs)
theorem CRep.keep (p : Pres H H') {c : Cell} {o : HO} (r : CRep K H c o) : CRep K H' c o := by
  cases r with
  | lst a => exact .lst (a.keep p)
  | dctK a b => exact .dctK a (b.keep p)
  | dctT a b => exact .dctT a (b.keep p)
def HRep (K : KF) (h : MH) (H : Hp) : Prop := ∀ a c, h a = some c → ∃ o, H a = some o ∧ CRep K H c o
theorem HRep.new {h : MH} {a : Addr} {c : Cell} {o : HO} (r : HRep K h H) (hn : H a = none) (hc : CRep K H c o) : HRep K (h.put a c) (upd H a o) := fun b d e => by
  unfold MH.put at e
  by_cases hb : b = a
  · subst hb
    rw [if_pos rfl] at e; cases e
    exact ⟨o, upd_same, hc.keep (.new hn)⟩
  · rw [if_neg hb] at e
    obtain ⟨u, h1, h2⟩ := r b d e
    exact ⟨u, by rw [upd_ne hb]; exact h1, h2.keep (.new hn)⟩
theorem HRep.fresh {h : MH} {a : Addr} (r : HRep K h H) (hn : H a = none) : h a = none := by
  cases e : h a with
  | none => rfl
  | some c => obtain ⟨o, h1, _⟩ := r a c e; rw [hn] at h1; cases h1
theorem HRep.wr {h : MH} {a : Addr} {c c' : Cell} {o' : HO} (r : HRep K h H) (hc : h a = some c) (hc' : ∀ H', Pres H H' → CRep K H' c' o') : HRep K (h.put a c') (upd H a o') ∧ Pres H (upd H a o') := by
  obtain ⟨o, h1, h2⟩ := r a c hc
  have p : Pres H (upd H a o') := .wr h1 (by cases h2 <;> intro _ e <;> cases e) (by cases h2 <;> intro _ _ e <;> cases e)
  refine ⟨fun b d e => ?_, p⟩
  unfold MH.put at e
  by_cases hb : b = a
  · subst hb
    rw [if_pos rfl] at e; cases e
    exact ⟨o', upd_same, hc' _ p⟩
  · rw [if_neg hb] at e
    obtain ⟨u, h1, h2⟩ := r b d e
    exact ⟨u, by rw [upd_ne hb]; exact h1, h2.keep p⟩
theorem HRep.keep {h : MH} (r : HRep K h H) (p : Pres H H') (q : ∀ a c, h a = some c → H' a = H a) : HRep K h H' := fun a c e => by
  obtain ⟨o, h1, h2⟩ := r a c e
  exact ⟨o, (q a c e).trans h1, h2.keep p⟩
theorem HRep.newP {h : MH} {a : Addr} {o : HO} (r : HRep K h H) (hn : H a = none) : HRep K h (upd H a o) := r.keep (.new hn) fun b c e => by
  obtain ⟨u, h1, _⟩ := r b c e
  exact upd_ne (ne_of_none h1 hn)
end
structure FzS (S : Addr → Prop) (H H' : Hp) : Prop where
  out : ∀ a, ¬ S a → H' a = H a
  at_ : ∀ a, S a → ∃ u o, H a = some u ∧ H' a = some (.frz o u)
def Fz1 : HO → Prop
  | .lst _ => True
  | .dK _ => True
  | .dT _ => True
  | _ => False
theorem FzS.pres {S : Addr → Prop} {H H' : Hp} (f : FzS S H H') (ok : ∀ a, S a → ∃ u, H a = some u ∧ Fz1 u) : Pres H H' := by
  constructor
  · intro a xs h
    rw [f.out a fun hs => by obtain ⟨u, e, z⟩ := ok a hs; rw [h] at e; cases e; exact z]; exact h
  · intro a o u h
    rw [f.out a fun hs => by obtain ⟨u, e, z⟩ := ok a hs; rw [h] at e; cases e; exact z]; exact h
section
variable {X : Cx} {pins : List (Addr × Obj)} {σ : L2.St} {H : Hp} {s : Shared}
open Classical in
theorem fz_hok {P : Program} {w : World} {h : Heap} {S : Addr → Prop} (x : HOk P w H h) (ok : ∀ a, S a → ∃ u, H a = some u ∧ Fz1 u) :
    ∃ H', FzS S H H' ∧ HOk P w H' h := by
  let H' : Hp := fun a => if S a then (match H a, h.get? a with
    | some u, some o => some (.frz o u)
    | u, _ => u) else H a
  have out : ∀ a, ¬ S a → H' a = H a := fun a n => if_neg n
  have at_ : ∀ a, S a → ∃ u o, H a = some u ∧ H' a = some (.frz o u) ∧ h.get? a = some o := fun a hs => by
    obtain ⟨u, e, z⟩ := ok a hs
    have k := x a u e
    have : ∃ o, h.get? a = some o := by
      cases u with
      | lst xs => obtain ⟨_, _, _, _, e⟩ := k; exact ⟨_, e⟩
      | dK kvs => obtain ⟨_, _, _, _, o, _, _, e, _⟩ := k; exact ⟨_, e⟩
      | dT kvs => obtain ⟨_, _, _, _, o, _, _, e, _⟩ := k; exact ⟨_, e⟩
      | _ => exact z.elim
    obtain ⟨o, ho⟩ := this
    exact ⟨u, o, e, by show (if S a then _ else _) = _; rw [if_pos hs, e, ho], ho⟩
  have f : FzS S H H' := ⟨out, fun a hs => by obtain ⟨u, o, a, b, _⟩ := at_ a hs; exact ⟨u, o, a, b⟩⟩
  have p := f.pres ok
  have own : ∀ b y, H b = some (.own y) → H' b = some (.own y) := fun b y e => by
    rw [out b fun hs => by obtain ⟨u, e2, z⟩ := ok b hs; rw [e] at e2; cases e2; exact z]; exact e
  refine ⟨H', f, fun a o e => ?_⟩
  by_cases hs : S a
  · obtain ⟨u, o', e1, e2, e3⟩ := at_ a hs
    rw [e2] at e; cases e
    exact ⟨e3, (x a u e1).stay (fun _ _ _ q => q) (fun b q => own b a q) p.tup⟩
  · rw [out a hs] at e
    exact (x a o e).stay (fun _ _ _ q => q) (fun b q => own b a q) p.tup
theorem fz_un {S : Addr → Prop} {H H' : Hp} {fs ex : List Addr} {h : Heap} (f : FzS S H H') (ok : ∀ a, S a → ∃ u, H a = some u ∧ Fz1 u) : Un fs ex H H' h h where
  keep := fun b u q _ _ _ => q
  slot := fun b u q _ _ _ => ⟨u.slots, q⟩
  free := fun b u q n _ => by
    rw [f.out b fun hs => by obtain ⟨u, e, _⟩ := ok b hs; rw [n] at e; cases e]; exact n
  there := fun b u q _ => ⟨u, q⟩
  tups := (f.pres ok).tup
  frzs := (f.pres ok).frz
  tbls := fun b ps q => ⟨#[], by
    rw [f.out b fun hs => by obtain ⟨u, e, z⟩ := ok b hs; rw [q] at e; cases e; exact z, q]; simp⟩
theorem fz_inv {S : Addr → Prop} (I : Inv X pins σ H s) (ok : ∀ a, S a → ∃ u, H a = some u ∧ Fz1 u) : ∃ H', FzS S H H' ∧ Inv X pins σ H' s := by
  obtain ⟨H', f, x⟩ := fz_hok I.hok ok
  exact ⟨H', f, I.un (h' := s.heap) (t' := s.toks) (fz_un f ok) x⟩
def Laid (Q : VK) : VK := fun v H => ∃ S : Addr → Prop, (∀ a, S a → ∃ u, H a = some u ∧ Fz1 u) ∧ ∀ H', FzS S H H' → Q v H'
theorem pe_laid {e : Expr} {t : TE} (h : PE X e t) : PE X e (fun σ H Q => t σ H (Laid Q)) := ⟨fun pins s σ H Q I hq =>
  thn (h.run pins s σ H _ I hq) fun u s' ⟨v, H1, I1, r1, S, ok, q⟩ => by
    obtain ⟨H2, f, I2⟩ := fz_inv I1 ok
    exact ⟨v, H2, I2, r1, q H2 f⟩⟩
theorem PE.imp {e : Expr} {t t' : TE} (h : PE X e t) (w : ∀ σ H Q, t' σ H Q → t σ H Q) : PE X e t' := ⟨fun pins s σ H Q I hq => h.run pins s σ H Q I (w σ H Q hq)⟩
theorem PT.imp {e : Expr} {t t' : TT} (h : PT X e t) (w : ∀ σ H Q, t' σ H Q → t σ H Q) : PT X e t' := ⟨fun pins s σ H Q I hq => h.run pins s σ H Q I (w σ H Q hq)⟩
theorem PW.imp {e : Expr} {t t' : TT} (h : PW X e t) (w : ∀ σ H Q, t' σ H Q → t σ H Q) : PW X e t' := ⟨fun wh pins s σ H Q I hq => h.run wh pins s σ H Q I (w σ H Q hq)⟩
theorem PA.imp {e : List Expr} {t t' : TA} (h : PA X e t) (w : ∀ σ H Q, t' σ H Q → t σ H Q) : PA X e t' := ⟨fun pos pins s σ H Q I hq => h.run pos pins s σ H Q I (w σ H Q hq)⟩
theorem PS.imp {e : Stmt} {t t' : TS} (h : PS X e t) (w : ∀ D σ H, t' D σ H → t D σ H) : PS X e t' := ⟨fun pins s σ H D I hq => h.run pins s σ H D I (w D σ H hq)⟩
theorem PSs.imp {e : List Stmt} {t t' : TS} (h : PSs X e t) (w : ∀ D σ H, t' D σ H → t D σ H) : PSs X e t' := ⟨fun pins s σ H D I hq => h.run pins s σ H D I (w D σ H hq)⟩
end
end MP
set_option Elab.async false
set_option linter.all false
set_option maxRecDepth 100000
namespace MP
open PySem L2
inductive B where
  | abs | int | len | max2 | min2 | repr | str | all | any | sum | max1 | min1
  deriving DecidableEq
inductive C where
  | list | tuple | sorted
  deriving DecidableEq
inductive M where
  | append | extend | pop0 | pop1
  deriving DecidableEq
inductive Tg where
  | name (i : Nat)
  | tup2 (a b : Tg)
  | tup3 (a b c : Tg)
  | tup4 (a b c d : Tg)
mutual
inductive E where
  | var (i : Nat) | non | bl (b : Bool) | int (i : Int) | str (x : Str)
  | bin (op : Operator) (a b : E) | neg (a : E)
  | not (a : E) | and (a b : E) | or (a b : E) | ite (c a b : E)
  | cmp (op : CmpOp) (a b : E) | chain (o p : CmpOp) (a b c : E)
  | isN (a : E) (neg : Bool) | isB (a : E) (b neg : Bool) | isin (a b : E) (neg : Bool)
  | tup (es : Es) | lst (m : Bool) (es : Es) | dct0 (m : Bool) | dct1 (k v : E)
  | idx (a i : E) | slc (a : E) (lo hi : Eo) | rev (a : E)
  | call (f : Str) (es : Es)
  | gfn (f : Str)
  | callv (i : Nat) (es : Es)
  | blt (b : B) (es : Es)
  | isi (a : E) (t : String)
  | con (c : C) (m : Bool) (it : It)
  | comp (m : Bool) (elt : E) (tg : Tg) (it : It) (c : Eo)
  | meth (o : E) (m : M) (es : Es)
  | mkd (a : E) | dget (o k d : E) | gcs (f : Str)
inductive Es where
  | nil
  | cons (e : E) (es : Es)
inductive Eo where
  | none
  | some (e : E)
inductive It where
  | seq (e : E) | rng1 (e : E) | rng2 (a b : E) | enum (e : E) | zip (a b : E)
end
mutual
inductive S where
  | asg (t : Tg) (e : E)
  | par (i j : Nat) (a b : E)
  | sub (o i v : E)
  | ex (e : E) | ret (e : E) | pass
  | ife (c : E) (a b : Ss)
  | for (t : Tg) (it : It) (body : Ss)
  | while (c : E) (body : Ss)
  | raise (c : Str)
  | tryR
inductive Ss where
  | nil
  | cons (s : S) (r : Ss)
end
def Tg.own : Tg → List Nat
  | .name i => [i]
  | .tup2 a b => a.own ++ b.own
  | .tup3 a b c => a.own ++ b.own ++ c.own
  | .tup4 a b c d => a.own ++ b.own ++ c.own ++ d.own
def tgW : Tg → PV → Env → (Env → Prop) → Prop
  | .name i, v, env, K => K (env.set i (some v))
  | .tup2 a b, v, env, K => ∃ x y, v = .tup [x, y] ∧ tgW a x env fun e1 => tgW b y e1 K
  | .tup3 a b c, v, env, K => ∃ x y z, v = .tup [x, y, z] ∧ tgW a x env fun e1 => tgW b y e1 fun e2 => tgW c z e2 K
  | .tup4 a b c d, v, env, K => ∃ x y z u, v = .tup [x, y, z, u] ∧ tgW a x env fun e1 => tgW b y e1 fun e2 => tgW c z e2 fun e3 => tgW d u e3 K
def wipeE (env : Env) : List Nat → Env
  | [] => env
  | v :: vs => (wipeE env vs).set v none
structure Src where
  xs : List PV
  st : List (Addr × List PV)
def Src.stays (S : Src) (h : MH) : Prop := ∀ p ∈ S.st, h p.1 = some (.lst p.2)
def srcV (h : MH) (v : PV) : Option Src := match v with
  | .tup xs => some ⟨xs, []⟩
  | .lst xs => some ⟨xs, []⟩
  | .loc a => match h a with
    | some (.lst xs) => some ⟨xs, [(a, xs)]⟩
    | _ => none
  | _ => none
def lstV (h : MH) (v : PV) : Option Src := match v with
  | .tup _ => none
  | v => srcV h v
def zipV (h : MH) (x y : PV) : Option (Src × Src) := match x, y with
  | .tup xs, .tup ys => some (⟨xs, []⟩, ⟨ys, []⟩)
  | .cst ns, .tup ys => some (⟨ns.map .int, []⟩, ⟨ys, []⟩)
  | x, y => match lstV h x, lstV h y with
    | some S, some T => some (S, T)
    | _, _ => none
def rngV (lo hi : Int) : List PV := (List.range (hi - lo).toNat).map fun (k : Nat) => PV.int (lo + k)
def RngOk (lo hi : Int) : Prop := -(2 ^ 62) ≤ lo ∧ lo < 2 ^ 62 ∧ -(2 ^ 62) ≤ hi ∧ hi < 2 ^ 62
def enumV (xs : List PV) : List PV := xs.zipIdx.map fun p => PV.tup [.int (p.2 : Nat), p.1]
def compW (stays : MH → Prop) (turn : PV → MH → (Option PV → MH → Prop) → Prop) : List PV → MH → (List PV → MH → Prop) → Prop
  | [], h, K => stays h ∧ K [] h
  | x :: r, h, K => stays h ∧ turn x h fun o h1 => compW stays turn r h1 fun ys h2 => K (o.toList ++ ys) h2
def isT (t : String) : PV → Option Bool
  | .non => some false
  | .bl _ => some (t == "bool" || t == "int")
  | .int _ => some (t == "int")
  | .str _ => some (t == "str")
  | .tup _ => some (t == "tuple")
  | .lst _ => some (t == "list")
  | .dct _ _ => some (t == "dict")
  | .cst _ => some (t == "tuple")
  | _ => none
def tyCls (t : String) : Prop := t = "int" ∨ t = "bool" ∨ t = "tuple" ∨ t = "str" ∨ t = "list" ∨ t = "dict"
def intsP : List PV → Option (List Int)
  | [] => some []
  | .int i :: r => (intsP r).map (i :: ·)
  | _ :: _ => none
def boolsP : List PV → Option (List Bool)
  | [] => some []
  | .bl i :: r => (boolsP r).map (i :: ·)
  | _ :: _ => none
def reprOk (v : PV) : Prop := pur v = true ∧ (toD v).showable = true ∧ (toD v).depth ≤ 64 ∧ (toD v).shown.length ≤ sizeLine
def bltW (b : B) (vs : List PV) (h : MH) (Q : Post) : Prop :=
  match b, vs with
  | .abs, [.int i] => Q (.int (if i < 0 then -i else i)) h
  | .int, [.int i] => Q (.int i) h
  | .int, [.bl b] => Q (.int (if b then 1 else 0)) h
  | .len, [.cst ns] => Q (.int ns.length) h
  | .len, [v] => ∃ xs, seqT h v = some xs ∧ Q (.int xs.length) h
  | .max2, [.int i, .int j] => Q (.int (if j > i then j else i)) h
  | .min2, [.int i, .int j] => Q (.int (if j < i then j else i)) h
  | .repr, [v] => reprOk v ∧ Q (.str (toD v).shown) h
  | .str, [.int i] => i.natAbs.log2 < 1920 ∧ Q (.str (toString i)) h
  | .all, [v] => ∃ xs bs, rd h v = .lst xs ∧ boolsP xs = some bs ∧ Q (.bl (bs.all id)) h
  | .any, [v] => ∃ xs bs, rd h v = .lst xs ∧ boolsP xs = some bs ∧ Q (.bl (bs.any id)) h
  | .sum, [v] => ∃ xs ns, rd h v = .lst xs ∧ intsP xs = some ns ∧ Q (.int ns.sum) h
  | _, _ => False
def leP (x y : PV) : Bool := PySem.W.dataLe false toD x y
def sortOk (xs : List PV) : Prop := purs xs = true ∧ PySem.W.AllAlike (toDs xs) ∧ PySem.W.Sortable (toDs xs) ∧ ∀ x ∈ xs, (toD x).depth ≤ 64
def conW (c : C) (m : Bool) (xs : List PV) (h : MH) (Q : Post) : Prop :=
  match c with
  | .list => newL m xs h Q
  | .tuple => Q (.tup xs) h
  | .sorted => sortOk xs ∧ newL m (xs.mergeSort leP) h Q
def methW (o : PV) (m : M) (vs : List PV) (h : MH) (Q : Post) : Prop :=
  match o, m, vs with
  | .loc a, .append, [y] => ∃ xs, h a = some (.lst xs) ∧ xs.length < sizeLine ∧ Q .non (h.put a (.lst (xs ++ [y])))
  | .loc a, .extend, [v] => ∃ xs zs, h a = some (.lst xs) ∧ rd h v = .lst zs ∧ xs.length + zs.length ≤ sizeLine ∧ Q .non (h.put a (.lst (xs ++ zs)))
  | .loc a, .pop0, [] => ∃ xs y, h a = some (.lst xs) ∧ xs[xs.length - 1]? = some y ∧ Q y (h.put a (.lst xs.dropLast))
  | .loc a, .pop1, [.int i] => ∃ xs k y, h a = some (.lst xs) ∧ -(2 ^ 63) ≤ i ∧ i < 2 ^ 63 ∧ seqIndex? i xs.length = some k ∧ xs[k]? = some y ∧ Q y (h.put a (.lst (xs.eraseIdx k)))
  | _, _, _ => False
def subW (o i v : PV) (h : MH) (K : MH → Prop) : Prop :=
  match o, i with
  | .loc a, .int i => ∃ xs k, h a = some (.lst xs) ∧ ixN xs.length i = some k ∧ K (h.put a (.lst (xs.set k v)))
  | _, _ => False
def isKey : PV → Bool
  | .int _ => true
  | .str _ => true
  | _ => false
def eqK1 : PV → PV → Bool
  | .int i, .int j => decide (i = j)
  | .str a, .str b => decide (a = b)
  | _, _ => false
def eqKs : List PV → List PV → Bool
  | [], [] => true
  | a :: r, b :: s => eqK1 a b && eqKs r s
  | _, _ => false
def lookP : List (List PV) → List PV → List PV → Option PV
  | k :: ks, v :: vs, y => if eqKs k y = true then some v else lookP ks vs y
  | _, _, _ => none
def mkdW (x : PV) (h : MH) (Q : Post) : Prop :=
  ∃ ps : List (List PV × PV), rd h x = .lst (ps.map fun p => .tup [.tup p.1, p.2]) ∧ (∀ p ∈ ps, p.1.all isKey = true) ∧ (ps.map (·.1)).Pairwise (fun a b => eqKs a b = false) ∧ Q (.dtt ((ps.map (·.1)).map PV.tup) (ps.map (·.2))) h
def dgetW (x y z : PV) (h : MH) (Q : Post) : Prop :=
  ∃ ks vs key, x = .dtt (ks.map PV.tup) vs ∧ y = .tup key ∧ key.all isKey = true ∧ Q ((lookP ks vs key).getD z) h
def isExc (f : Str) : Bool := (["NoWorth", "NoText", "NotEven", "NoCell", "NoPlace", "TooMany", "NoName", "Taken", "NoBack", "NoRow"] : List Str).contains f
def gcst (f : Str) : Option PV := if f = "NOUGHT" then some (.cst [0, 1]) else if isExc f = true then some .non else none
def inW (x y : PV) (h : MH) (Q : Bool → MH → Prop) : Prop :=
  match y with
  | .dtt ts vs => ∃ ks key, ts = ks.map PV.tup ∧ x = .tup key ∧ key.all isKey = true ∧ Q (lookP ks vs key).isSome h
  | y => ∃ zs, seqT h y = some zs ∧ (eqOk (rd h x) ∧ purs zs = true ∧ SeqAt.shaped (.list (toDs zs)) = true) ∧ Q (zs.any fun z => eqP z (rd h x)) h
def isiW (x : PV) (t : String) (h : MH) (Q : Bool → MH → Prop) : Prop := ∃ b, tyCls t ∧ isT t (rd h x) = some b ∧ Q b h
def optI : Option PV → Option (Option Int)
  | none => some none
  | some (.int i) => some (some i)
  | some _ => none
def slcW (x : PV) (l u : Option Int) (h : MH) (Q : Post) : Prop :=
  match rd h x with
  | .tup xs => Q (.tup (cutP xs l u)) h
  | .lst xs => Q (.lst (cutP xs l u)) h
  | _ => False
where
  cutP (xs : List PV) (l u : Option Int) : List PV := (xs.drop (HT.sIx xs.length 0 l)).take (HT.sIx xs.length xs.length u - HT.sIx xs.length 0 l)
def revW (x : PV) (h : MH) (Q : Post) : Prop :=
  match rd h x with
  | .tup xs => Q (.tup xs.reverse) h
  | .lst xs => Q (.lst xs.reverse) h
  | _ => False
def dct1W (k v : PV) (h : MH) (Q : Post) : Prop :=
  match k with
  | .int _ => Q (.dct [k] [v]) h
  | .str _ => Q (.dct [k] [v]) h
  | .tup xs => xs.all isKey = true ∧ Q (.dct [k] [v]) h
  | _ => False
abbrev noX : XP := fun _ _ _ => False
mutual
def wpE (G : Calls) (Ex : XP) : E → Env → MH → Post → Prop
  | .var i, env, h, Q => ∃ v, env[i]? = some (some v) ∧ Q v h
  | .non, _, h, Q => Q .non h
  | .bl b, _, h, Q => Q (.bl b) h
  | .int i, _, h, Q => Q (.int i) h
  | .str x, _, h, Q => Q (.str x) h
  | .bin op a b, env, h, Q => wpE G Ex a env h fun x h1 => wpE G Ex b env h1 fun y h2 => binW op x y h2 Q
  | .neg a, env, h, Q => wpE G Ex a env h fun x h1 => ∃ i, x = .int i ∧ Q (.int (-i)) h1
  | .not a, env, h, Q => wpE G Ex a env h fun x h1 => truW x h1 fun k h2 => Q (.bl (!k)) h2
  | .and a b, env, h, Q => wpE G Ex a env h fun x h1 => truW x h1 fun k h2 => if k = true then wpE G Ex b env h2 Q else Q x h2
  | .or a b, env, h, Q => wpE G Ex a env h fun x h1 => truW x h1 fun k h2 => if k = true then Q x h2 else wpE G Ex b env h2 Q
  | .ite c a b, env, h, Q => wpT G Ex c env h fun k h1 => if k = true then wpE G Ex a env h1 Q else wpE G Ex b env h1 Q
  | .cmp op a b, env, h, Q => wpE G Ex a env h fun x h1 => wpE G Ex b env h1 fun y h2 => cmpW op x y h2 fun k h3 => Q (.bl k) h3
  | .chain o p a b c, env, h, Q => wpE G Ex a env h fun x h1 => wpE G Ex b env h1 fun y h2 => cmpW o x y h2 fun k h3 =>
      if k = true then wpE G Ex c env h3 fun z h4 => cmpW p y z h4 fun k h5 => Q (.bl k) h5 else Q (.bl false) h3
  | .isN a neg, env, h, Q => wpE G Ex a env h fun x h1 => isNW x neg h1 fun k h2 => Q (.bl k) h2
  | .isB a b neg, env, h, Q => wpE G Ex a env h fun x h1 => isBW x b neg h1 fun k h2 => Q (.bl k) h2
  | .isin a b neg, env, h, Q => wpE G Ex a env h fun x h1 => wpE G Ex b env h1 fun y h2 => inW x y h2 fun k h3 => Q (.bl (k != neg)) h3
  | .tup es, env, h, Q => wpEs G Ex es env h fun xs h1 => xs.length ≤ sizeLine ∧ Q (.tup xs) h1
  | .lst m es, env, h, Q => wpEs G Ex es env h fun xs h1 => newL m xs h1 Q
  | .dct0 m, _, h, Q => if m then ∀ p, h p = none → Q (.loc p) (h.put p (.dct [])) else Q (.dct [] []) h
  | .dct1 k v, env, h, Q => wpE G Ex k env h fun x h1 => wpE G Ex v env h1 fun y h2 => dct1W x y h2 Q
  | .idx a i, env, h, Q => wpE G Ex a env h fun x h1 => wpE G Ex i env h1 fun y h2 => idxW x y h2 Q
  | .slc a lo hi, env, h, Q => wpE G Ex a env h fun x h1 => wpEo G Ex lo env h1 fun l h2 => ∃ li, optI l = some li ∧ wpEo G Ex hi env h2 fun u h3 => ∃ ui, optI u = some ui ∧ slcW x li ui h3 Q
  | .rev a, env, h, Q => wpE G Ex a env h fun x h1 => revW x h1 Q
  | .call f es, env, h, Q => wpEs G Ex es env h fun xs h1 => G f xs h1 Q (fun e h2 => Ex e env h2)
  | .gfn f, _, h, Q => Q (.fn f) h
  | .callv i es, env, h, Q => ∃ f, env[i]? = some (some (.fn f)) ∧ wpEs G Ex es env h fun xs h1 => G f xs h1 Q (fun e h2 => Ex e env h2)
  | .blt b es, env, h, Q => wpEs G Ex es env h fun xs h1 => bltW b xs h1 Q
  | .isi a t, env, h, Q => wpE G Ex a env h fun x h1 => isiW x t h1 fun k h2 => Q (.bl k) h2
  | .con c m it, env, h, Q => wpIt G Ex it env h fun S h1 => conW c m S.xs h1 Q
  | .comp m elt tg it c, env, h, Q => wpIt G Ex it env h fun S h1 =>
      compW S.stays (fun x h2 R => tgW tg x (wipeE env tg.own) fun env' => wpC G c env' h2 fun k h3 =>
        if k = true then wpE G noX elt env' h3 fun y h4 => R (some y) h4 else R none h3) S.xs h1 fun ys h5 => newL m ys h5 Q
  | .meth o m es, env, h, Q => wpE G Ex o env h fun x h1 => (∃ a xs, x = .loc a ∧ h1 a = some (.lst xs)) ∧ wpEs G Ex es env h1 fun ys h2 => methW x m ys h2 Q
  | .mkd a, env, h, Q => wpE G Ex a env h fun x h1 => mkdW x h1 Q
  | .dget o k d, env, h, Q => wpE G Ex o env h fun x h1 => (∃ ks vs, x = .dtt ks vs) ∧ wpE G Ex k env h1 fun y h2 => wpE G Ex d env h2 fun z h3 => dgetW x y z h3 Q
  | .gcs f, _, h, Q => ∃ v, gcst f = some v ∧ Q v h
def wpT (G : Calls) (Ex : XP) : E → Env → MH → (Bool → MH → Prop) → Prop
  | .not a, env, h, Q => wpT G Ex a env h fun k h1 => Q (!k) h1
  | .and a b, env, h, Q => wpT G Ex a env h fun k h1 => if k = true then wpT G Ex b env h1 Q else Q false h1
  | .or a b, env, h, Q => wpT G Ex a env h fun k h1 => if k = true then Q true h1 else wpT G Ex b env h1 Q
  | .ite c a b, env, h, Q => wpT G Ex c env h fun k h1 => if k = true then wpT G Ex a env h1 Q else wpT G Ex b env h1 Q
  | .cmp op a b, env, h, Q => wpE G Ex a env h fun x h1 => wpE G Ex b env h1 fun y h2 => cmpW op x y h2 Q
  | .chain o p a b c, env, h, Q => wpE G Ex a env h fun x h1 => wpE G Ex b env h1 fun y h2 => cmpW o x y h2 fun k h3 =>
      if k = true then wpE G Ex c env h3 fun z h4 => cmpW p y z h4 Q else Q false h3
  | .isN a neg, env, h, Q => wpE G Ex a env h fun x h1 => isNW x neg h1 Q
  | .isB a b neg, env, h, Q => wpE G Ex a env h fun x h1 => isBW x b neg h1 Q
  | .isin a b neg, env, h, Q => wpE G Ex a env h fun x h1 => wpE G Ex b env h1 fun y h2 => inW x y h2 fun k h3 => Q (k != neg) h3
  | .var i, env, h, Q => ∃ v, env[i]? = some (some v) ∧ truW v h Q
  | .call f es, env, h, Q => wpEs G Ex es env h fun xs h1 => G f xs h1 (fun v h2 => truW v h2 Q) (fun e h2 => Ex e env h2)
  | .callv i es, env, h, Q => ∃ f, env[i]? = some (some (.fn f)) ∧ wpEs G Ex es env h fun xs h1 => G f xs h1 (fun v h2 => truW v h2 Q) (fun e h2 => Ex e env h2)
  | .blt b es, env, h, Q => wpEs G Ex es env h fun xs h1 => bltW b xs h1 fun v h2 => truW v h2 Q
  | .idx a i, env, h, Q => wpE G Ex a env h fun x h1 => wpE G Ex i env h1 fun y h2 => idxW x y h2 fun v h3 => truW v h3 Q
  | .isi a t, env, h, Q => wpE G Ex a env h fun x h1 => isiW x t h1 Q
  | _, _, _, _ => False
def wpC (G : Calls) : Eo → Env → MH → (Bool → MH → Prop) → Prop
  | .none, _, h, Q => Q true h
  | .some c, env, h, Q => wpT G noX c env h Q
def wpEs (G : Calls) (Ex : XP) : Es → Env → MH → (List PV → MH → Prop) → Prop
  | .nil, _, h, Q => Q [] h
  | .cons e es, env, h, Q => wpE G Ex e env h fun x h1 => wpEs G Ex es env h1 fun xs h2 => Q (x :: xs) h2
def wpEo (G : Calls) (Ex : XP) : Eo → Env → MH → (Option PV → MH → Prop) → Prop
  | .none, _, h, Q => Q none h
  | .some e, env, h, Q => wpE G Ex e env h fun x h1 => Q (some x) h1
def wpIt (G : Calls) (Ex : XP) : It → Env → MH → (Src → MH → Prop) → Prop
  | .seq e, env, h, Q => wpE G Ex e env h fun x h1 => ∃ S, srcV h1 x = some S ∧ (S.xs.length ≤ sizeLine → Q S h1)
  | .rng1 e, env, h, Q => wpE G Ex e env h fun x h1 => ∃ n, x = .int n ∧ RngOk 0 n ∧ n ≤ sizeLine ∧ Q ⟨rngV 0 n, []⟩ h1
  | .rng2 a b, env, h, Q => wpE G Ex a env h fun x h1 => wpE G Ex b env h1 fun y h2 => ∃ n m, x = .int n ∧ y = .int m ∧ RngOk n m ∧ m - n ≤ sizeLine ∧ Q ⟨rngV n m, []⟩ h2
  | .enum e, env, h, Q => wpE G Ex e env h fun x h1 => ∃ S, lstV h1 x = some S ∧ (S.xs.length ≤ sizeLine → Q ⟨enumV S.xs, S.st⟩ h1)
  | .zip a b, env, h, Q => wpE G Ex a env h fun x h1 => wpE G Ex b env h1 fun y h2 => ∃ S T, zipV h2 x y = some (S, T) ∧
      (S.xs.length ≤ sizeLine → T.xs.length ≤ sizeLine → Q ⟨(S.xs.zip T.xs).map fun p => PV.tup [p.1, p.2], S.st ++ T.st⟩ h2)
def isNW (x : PV) (neg : Bool) (h : MH) (Q : Bool → MH → Prop) : Prop :=
  match x with
  | .non => Q (!neg) h
  | .fn _ => False
  | _ => Q neg h
def isBW (x : PV) (b neg : Bool) (h : MH) (Q : Bool → MH → Prop) : Prop :=
  match x with
  | .bl c => Q ((c == b) != neg) h
  | _ => False
end
structure En where
  nx : Env → MH → Prop
  rt : Post
  bk : Env → MH → Prop := fun _ _ => False
  ct : Env → MH → Prop := fun _ _ => False
def forW (stays : MH → Prop) (turn : PV → Env → MH → En → Prop) (D : En) : List PV → Env → MH → Prop
  | [], env, h => stays h ∧ D.nx env h
  | x :: r, env, h => stays h ∧ turn x env h { D with nx := forW stays turn D r, ct := forW stays turn D r, bk := D.nx }
def whileW (test : Env → MH → (Bool → MH → Prop) → Prop) (body : Env → MH → En → Prop) (D : En) : Nat → Env → MH → Prop
  | 0, _, _ => False
  | n + 1, env, h => test env h fun k h1 => if k = true then body env h1 { D with nx := whileW test body D n, ct := whileW test body D n, bk := D.nx } else D.nx env h1
mutual
def wpS (G : Calls) (Ex : XP) : S → Env → MH → En → Prop
  | .asg t e, env, h, D => wpE G Ex e env h fun x h1 => tgW t x env fun env' => D.nx env' h1
  | .par i j a b, env, h, D => wpE G Ex a env h fun x h1 => wpE G Ex b env h1 fun y h2 => D.nx ((env.set i (some x)).set j (some y)) h2
  | .sub o i v, env, h, D => wpE G Ex v env h fun z h1 => wpE G Ex o env h1 fun x h2 => wpE G Ex i env h2 fun y h3 => subW x y z h3 fun h4 => D.nx env h4
  | .ex e, env, h, D => wpE G Ex e env h fun _ h1 => D.nx env h1
  | .ret e, env, h, D => wpE G Ex e env h D.rt
  | .pass, env, h, D => D.nx env h
  | .ife c a b, env, h, D => wpT G Ex c env h fun k h1 => if k = true then wpSs G Ex a env h1 D else wpSs G Ex b env h1 D
  | .for t it body, env, h, D => wpIt G Ex it env h fun S h1 => forW S.stays (fun x env' h2 D' => tgW t x env' fun env2 => wpSs G Ex body env2 h2 D') D S.xs env h1
  | .raise c, env, h, _ => Ex ⟨c, none⟩ env h
  | .tryR, env, h, D => ∃ f a b, env = [some (.fn f), some a, some b, none, none] ∧ ∀ p, h p = none → G f [a, b] (h.put p (.lst [])) (fun _ h' => h' p = some (.lst []) ∧ D.rt (.bl false) h') (fun e h' => e.cls = "NoWorth" ∧ e.arg = none ∧ D.rt (.bl true) h')
  | .while c body, env, h, D => ∃ n, whileW (fun env' h' Q => wpT G Ex c env' h' Q) (fun env' h' D' => wpSs G Ex body env' h' D') D n env h
def wpSs (G : Calls) (Ex : XP) : Ss → Env → MH → En → Prop
  | .nil, env, h, D => D.nx env h
  | .cons s r, env, h, D => wpS G Ex s env h { D with nx := fun env' h' => wpSs G Ex r env' h' D }
end
end MP
set_option Elab.async false
set_option linter.all false
set_option maxRecDepth 100000
namespace MP
open PySem L2
def GMono (G : Calls) : Prop := ∀ f vs h Q Q' Ex Ex', (∀ v h, Q v h → Q' v h) → (∀ e h, Ex e h → Ex' e h) → G f vs h Q Ex → G f vs h Q' Ex'
section
variable {h : MH} {x y : PV} {Q Q' : Post} {T T' : Bool → MH → Prop}
theorem newL_mono {m xs} (w : ∀ v h, Q v h → Q' v h) (q : newL m xs h Q) : newL m xs h Q' := by
  unfold newL at *
  cases m with
  | true => exact ⟨q.1, fun p hp => w _ _ (q.2 p hp)⟩
  | false => exact ⟨q.1, w _ _ q.2⟩
theorem binW_mono {op} (w : ∀ v h, Q v h → Q' v h) (q : binW op x y h Q) : binW op x y h Q' := by
  unfold binW at *
  split at q <;> first | exact w _ _ q | exact ⟨q.1, w _ _ q.2⟩ | exact q.elim | (rename_i i j _ _; by_cases z : 0 < j <;> simp only [z, if_true, if_false] at q ⊢ <;> exact ⟨q.1, w _ _ q.2⟩)
theorem eqW_mono (w : ∀ v h, T v h → T' v h) (q : eqW x y h T) : eqW x y h T' := by
  unfold eqW at *
  split at q <;> first | exact w _ _ q | exact ⟨q.1, w _ _ q.2⟩
theorem neW_mono (w : ∀ v h, T v h → T' v h) (q : neW x y h T) : neW x y h T' := by
  unfold neW at *
  split at q <;> first | exact w _ _ q | exact ⟨q.1, w _ _ q.2⟩
theorem cmpW_mono {op} (w : ∀ v h, T v h → T' v h) (q : cmpW op x y h T) : cmpW op x y h T' := by
  unfold cmpW at *
  split at q <;> first | exact eqW_mono w q | exact neW_mono w q | (obtain ⟨i, j, a, b, q⟩ := q; exact ⟨i, j, a, b, w _ _ q⟩) | exact q.elim
theorem truW_mono (w : ∀ v h, T v h → T' v h) (q : truW x h T) : truW x h T' := by
  unfold truW at *
  split at q <;> first | exact w _ _ q | exact q.elim
theorem isNW_mono {neg} (w : ∀ v h, T v h → T' v h) (q : isNW x neg h T) : isNW x neg h T' := by
  unfold isNW at *
  split at q <;> first | exact w _ _ q | exact q.elim
theorem isBW_mono {b neg} (w : ∀ v h, T v h → T' v h) (q : isBW x b neg h T) : isBW x b neg h T' := by
  unfold isBW at *
  split at q <;> first | exact w _ _ q | exact q.elim
theorem inW_mono (w : ∀ v h, T v h → T' v h) (q : inW x y h T) : inW x y h T' := by
  unfold inW at *
  split at q
  · obtain ⟨ks, key, a, b, c, q⟩ := q
    exact ⟨ks, key, a, b, c, w _ _ q⟩
  · obtain ⟨zs, a, b, q⟩ := q
    exact ⟨zs, a, b, w _ _ q⟩
theorem mkdW_mono {Q Q' : Post} (w : ∀ v h, Q v h → Q' v h) (q : mkdW x h Q) : mkdW x h Q' := by
  obtain ⟨ps, a, b, c, q⟩ := q
  exact ⟨ps, a, b, c, w _ _ q⟩
theorem dgetW_mono {z : PV} {Q Q' : Post} (w : ∀ v h, Q v h → Q' v h) (q : dgetW x y z h Q) : dgetW x y z h Q' := by
  obtain ⟨ps, vs, key, a, b, c, q⟩ := q
  exact ⟨ps, vs, key, a, b, c, w _ _ q⟩
theorem isiW_mono {t} (w : ∀ v h, T v h → T' v h) (q : isiW x t h T) : isiW x t h T' := by
  obtain ⟨b, a, e, q⟩ := q
  exact ⟨b, a, e, w _ _ q⟩
theorem idxW_mono (w : ∀ v h, Q v h → Q' v h) (q : idxW x y h Q) : idxW x y h Q' := by
  unfold idxW at *
  split at q <;> first | (obtain ⟨v, a, q⟩ := q; exact ⟨v, a, w _ _ q⟩) | exact q.elim
theorem slcW_mono {l u} (w : ∀ v h, Q v h → Q' v h) (q : slcW x l u h Q) : slcW x l u h Q' := by
  unfold slcW at *
  split at q <;> first | exact w _ _ q | exact q.elim
theorem revW_mono (w : ∀ v h, Q v h → Q' v h) (q : revW x h Q) : revW x h Q' := by
  unfold revW at *
  split at q <;> first | exact w _ _ q | exact q.elim
theorem dct1W_mono (w : ∀ v h, Q v h → Q' v h) (q : dct1W x y h Q) : dct1W x y h Q' := by
  unfold dct1W at *
  split at q <;> first | exact w _ _ q | exact ⟨q.1, w _ _ q.2⟩ | exact q.elim
theorem bltW_mono {b vs} (w : ∀ v h, Q v h → Q' v h) (q : bltW b vs h Q) : bltW b vs h Q' := by
  unfold bltW at *
  split at q <;> first | exact w _ _ q | exact ⟨q.1, w _ _ q.2⟩ | (obtain ⟨v, a, q⟩ := q; exact ⟨v, a, w _ _ q⟩) | (obtain ⟨v, a, b, q⟩ := q; exact ⟨v, a, b, w _ _ q⟩) | (obtain ⟨v, u, a, b, q⟩ := q; exact ⟨v, u, a, b, w _ _ q⟩) | exact q.elim
theorem conW_mono {c m vs} (w : ∀ v h, Q v h → Q' v h) (q : conW c m vs h Q) : conW c m vs h Q' := by
  unfold conW at *
  split at q <;> first | exact newL_mono w q | exact w _ _ q | exact ⟨q.1, newL_mono w q.2⟩
theorem methW_mono {m vs} (w : ∀ v h, Q v h → Q' v h) (q : methW x m vs h Q) : methW x m vs h Q' := by
  unfold methW at *
  split at q
  · obtain ⟨a, b, c, q⟩ := q; exact ⟨a, b, c, w _ _ q⟩
  · obtain ⟨a, b, c, d, e, q⟩ := q; exact ⟨a, b, c, d, e, w _ _ q⟩
  · obtain ⟨a, b, c, d, q⟩ := q; exact ⟨a, b, c, d, w _ _ q⟩
  · obtain ⟨a, b, c, d, e, f, g, k, q⟩ := q; exact ⟨a, b, c, d, e, f, g, k, w _ _ q⟩
  · exact q.elim
theorem subW_mono {v : PV} {K K' : MH → Prop} (w : ∀ h, K h → K' h) (q : subW x y v h K) : subW x y v h K' := by
  unfold subW at *
  split at q
  · obtain ⟨a, b, c, d, q⟩ := q; exact ⟨a, b, c, d, w _ q⟩
  · exact q.elim
theorem tgW_mono : ∀ {t : Tg} {v : PV} {env : Env} {K K' : Env → Prop}, (∀ e, K e → K' e) → tgW t v env K → tgW t v env K'
  | .name i, _, _, _, _, w, q => w _ q
  | .tup2 a b, _, _, _, _, w, ⟨x, y, e, q⟩ => ⟨x, y, e, tgW_mono (fun _ q => tgW_mono w q) q⟩
  | .tup3 a b c, _, _, _, _, w, ⟨x, y, z, e, q⟩ => ⟨x, y, z, e, tgW_mono (fun _ q => tgW_mono (fun _ q => tgW_mono w q) q) q⟩
  | .tup4 a b c d, _, _, _, _, w, ⟨x, y, z, u, e, q⟩ => ⟨x, y, z, u, e, tgW_mono (fun _ q => tgW_mono (fun _ q => tgW_mono (fun _ q => tgW_mono w q) q) q) q⟩
theorem compW_mono {st : MH → Prop} {t t' : PV → MH → (Option PV → MH → Prop) → Prop} (wt : ∀ x h R R', (∀ o h, R o h → R' o h) → t x h R → t' x h R') : ∀ {xs : List PV} {h : MH} {K K' : List PV → MH → Prop}, (∀ ys h, K ys h → K' ys h) → compW st t xs h K → compW st t' xs h K'
  | [], _, _, _, w, ⟨a, q⟩ => ⟨a, w _ _ q⟩
  | x :: r, _, _, _, w, ⟨a, q⟩ => ⟨a, wt _ _ _ _ (fun _ _ q => compW_mono wt (fun _ _ q => w _ _ q) q) q⟩
end
mutual
theorem wpE_mono {G : Calls} (hG : GMono G) {Ex : XP} : ∀ {e : E} {env : Env} {h : MH} {Q Q' : Post}, (∀ v h, Q v h → Q' v h) → wpE G Ex e env h Q → wpE G Ex e env h Q'
  | .var i, env, h, Q, Q', w, q => by
    simp only [wpE] at *
    obtain ⟨v, a, q⟩ := q
    exact ⟨v, a, w _ _ q⟩
  | .non, env, h, Q, Q', w, q => by simp only [wpE] at *; exact w _ _ q
  | .bl _, env, h, Q, Q', w, q => by simp only [wpE] at *; exact w _ _ q
  | .int _, env, h, Q, Q', w, q => by simp only [wpE] at *; exact w _ _ q
  | .str _, env, h, Q, Q', w, q => by simp only [wpE] at *; exact w _ _ q
  | .bin op a b, env, h, Q, Q', w, q => by
    simp only [wpE] at *
    exact wpE_mono hG (fun _ _ q => wpE_mono hG (fun _ _ q => binW_mono w q) q) q
  | .neg a, env, h, Q, Q', w, q => by
    simp only [wpE] at *
    exact wpE_mono hG (fun _ _ ⟨i, e, q⟩ => ⟨i, e, w _ _ q⟩) q
  | .not a, env, h, Q, Q', w, q => by
    simp only [wpE] at *
    exact wpE_mono hG (fun _ _ q => truW_mono (fun _ _ q => w _ _ q) q) q
  | .and a b, env, h, Q, Q', w, q => by
    simp only [wpE] at *
    refine wpE_mono hG (fun _ _ q => truW_mono (fun k _ q => ?_) q) q
    cases k with
    | true => exact wpE_mono hG w q
    | false => exact w _ _ q
  | .or a b, env, h, Q, Q', w, q => by
    simp only [wpE] at *
    refine wpE_mono hG (fun _ _ q => truW_mono (fun k _ q => ?_) q) q
    cases k with
    | true => exact w _ _ q
    | false => exact wpE_mono hG w q
  | .ite c a b, env, h, Q, Q', w, q => by
    simp only [wpE] at *
    refine wpT_mono hG (fun k _ q => ?_) q
    cases k with
    | true => exact wpE_mono hG w q
    | false => exact wpE_mono hG w q
  | .cmp op a b, env, h, Q, Q', w, q => by
    simp only [wpE] at *
    exact wpE_mono hG (fun _ _ q => wpE_mono hG (fun _ _ q => cmpW_mono (fun _ _ q => w _ _ q) q) q) q
  | .chain o p a b c, env, h, Q, Q', w, q => by
    simp only [wpE] at *
    refine wpE_mono hG (fun _ _ q => wpE_mono hG (fun _ _ q => cmpW_mono (fun k _ q => ?_) q) q) q
    cases k with
    | true => exact wpE_mono hG (fun _ _ q => cmpW_mono (fun _ _ q => w _ _ q) q) q
    | false => exact w _ _ q
  | .isN a neg, env, h, Q, Q', w, q => by
    simp only [wpE] at *
    exact wpE_mono hG (fun _ _ q => isNW_mono (fun _ _ q => w _ _ q) q) q
  | .isB a b neg, env, h, Q, Q', w, q => by
    simp only [wpE] at *
    exact wpE_mono hG (fun _ _ q => isBW_mono (fun _ _ q => w _ _ q) q) q
  | .isin a b neg, env, h, Q, Q', w, q => by
    simp only [wpE] at *
    exact wpE_mono hG (fun _ _ q => wpE_mono hG (fun _ _ q => inW_mono (fun _ _ q => w _ _ q) q) q) q
  | .tup es, env, h, Q, Q', w, q => by
    simp only [wpE] at *
    exact wpEs_mono hG (fun _ _ q => ⟨q.1, w _ _ q.2⟩) q
  | .lst m es, env, h, Q, Q', w, q => by
    simp only [wpE] at *
    exact wpEs_mono hG (fun _ _ q => newL_mono w q) q
  | .dct0 m, env, h, Q, Q', w, q => by
    simp only [wpE] at *
    cases m with
    | true => exact fun p hp => w _ _ (q p hp)
    | false => exact w _ _ q
  | .dct1 k v, env, h, Q, Q', w, q => by
    simp only [wpE] at *
    exact wpE_mono hG (fun _ _ q => wpE_mono hG (fun _ _ q => dct1W_mono w q) q) q
  | .idx a i, env, h, Q, Q', w, q => by
    simp only [wpE] at *
    exact wpE_mono hG (fun _ _ q => wpE_mono hG (fun _ _ q => idxW_mono w q) q) q
  | .slc a lo hi, env, h, Q, Q', w, q => by
    simp only [wpE] at *
    exact wpE_mono hG (fun _ _ q => wpEo_mono hG (fun _ _ ⟨l, e, q⟩ => ⟨l, e, wpEo_mono hG (fun _ _ ⟨u, e, q⟩ => ⟨u, e, slcW_mono w q⟩) q⟩) q) q
  | .rev a, env, h, Q, Q', w, q => by
    simp only [wpE] at *
    exact wpE_mono hG (fun _ _ q => revW_mono w q) q
  | .call f es, env, h, Q, Q', w, q => by
    simp only [wpE] at *
    exact wpEs_mono hG (fun _ _ q => hG _ _ _ _ _ _ _ w (fun _ _ q => q) q) q
  | .gfn f, env, h, Q, Q', w, q => by
    simp only [wpE] at *
    exact w _ _ q
  | .callv i es, env, h, Q, Q', w, q => by
    simp only [wpE] at *
    obtain ⟨f, a, q⟩ := q
    exact ⟨f, a, wpEs_mono hG (fun _ _ q => hG _ _ _ _ _ _ _ w (fun _ _ q => q) q) q⟩
  | .blt b es, env, h, Q, Q', w, q => by
    simp only [wpE] at *
    exact wpEs_mono hG (fun _ _ q => bltW_mono w q) q
  | .isi a t, env, h, Q, Q', w, q => by
    simp only [wpE] at *
    exact wpE_mono hG (fun _ _ q => isiW_mono (fun _ _ q => w _ _ q) q) q
  | .con c m it, env, h, Q, Q', w, q => by
    simp only [wpE] at *
    exact wpIt_mono hG (fun _ _ q => conW_mono w q) q
  | .comp m elt tg it c, env, h, Q, Q', w, q => by
    simp only [wpE] at *
    refine wpIt_mono hG (fun S _ q => compW_mono (fun _ _ _ _ r q => tgW_mono (fun _ q => wpC_mono hG (fun k _ q => ?_) q) q) (fun _ _ q => newL_mono w q) q) q
    cases k with
    | true => exact wpE_mono hG (fun _ _ q => r _ _ q) q
    | false => exact r _ _ q
  | .meth o m es, env, h, Q, Q', w, q => by
    simp only [wpE] at *
    exact wpE_mono hG (fun _ _ ⟨z, q⟩ => ⟨z, wpEs_mono hG (fun _ _ q => methW_mono w q) q⟩) q
  | .mkd a, env, h, Q, Q', w, q => by
    simp only [wpE] at *
    exact wpE_mono hG (fun _ _ q => mkdW_mono w q) q
  | .dget o k d, env, h, Q, Q', w, q => by
    simp only [wpE] at *
    exact wpE_mono hG (fun _ _ ⟨z, q⟩ => ⟨z, wpE_mono hG (fun _ _ q => wpE_mono hG (fun _ _ q => dgetW_mono w q) q) q⟩) q
  | .gcs f, env, h, Q, Q', w, q => by
    simp only [wpE] at *
    obtain ⟨v, e, q⟩ := q
    exact ⟨v, e, w _ _ q⟩
theorem wpT_mono {G : Calls} (hG : GMono G) {Ex : XP} : ∀ {e : E} {env : Env} {h : MH} {Q Q' : Bool → MH → Prop}, (∀ v h, Q v h → Q' v h) → wpT G Ex e env h Q → wpT G Ex e env h Q'
  | .not a, env, h, Q, Q', w, q => by
    simp only [wpT] at *
    exact wpT_mono hG (fun _ _ q => w _ _ q) q
  | .and a b, env, h, Q, Q', w, q => by
    simp only [wpT] at *
    refine wpT_mono hG (fun k _ q => ?_) q
    cases k with
    | true => exact wpT_mono hG w q
    | false => exact w _ _ q
  | .or a b, env, h, Q, Q', w, q => by
    simp only [wpT] at *
    refine wpT_mono hG (fun k _ q => ?_) q
    cases k with
    | true => exact w _ _ q
    | false => exact wpT_mono hG w q
  | .ite c a b, env, h, Q, Q', w, q => by
    simp only [wpT] at *
    refine wpT_mono hG (fun k _ q => ?_) q
    cases k with
    | true => exact wpT_mono hG w q
    | false => exact wpT_mono hG w q
  | .cmp op a b, env, h, Q, Q', w, q => by
    simp only [wpT] at *
    exact wpE_mono hG (fun _ _ q => wpE_mono hG (fun _ _ q => cmpW_mono w q) q) q
  | .chain o p a b c, env, h, Q, Q', w, q => by
    simp only [wpT] at *
    refine wpE_mono hG (fun _ _ q => wpE_mono hG (fun _ _ q => cmpW_mono (fun k _ q => ?_) q) q) q
    cases k with
    | true => exact wpE_mono hG (fun _ _ q => cmpW_mono w q) q
    | false => exact w _ _ q
  | .isN a neg, env, h, Q, Q', w, q => by
    simp only [wpT] at *
    exact wpE_mono hG (fun _ _ q => isNW_mono w q) q
  | .isB a b neg, env, h, Q, Q', w, q => by
    simp only [wpT] at *
    exact wpE_mono hG (fun _ _ q => isBW_mono w q) q
  | .isin a b neg, env, h, Q, Q', w, q => by
    simp only [wpT] at *
    exact wpE_mono hG (fun _ _ q => wpE_mono hG (fun _ _ q => inW_mono (fun _ _ q => w _ _ q) q) q) q
  | .var i, env, h, Q, Q', w, q => by
    simp only [wpT] at *
    obtain ⟨v, a, q⟩ := q
    exact ⟨v, a, truW_mono w q⟩
  | .call f es, env, h, Q, Q', w, q => by
    simp only [wpT] at *
    exact wpEs_mono hG (fun _ _ q => hG _ _ _ _ _ _ _ (fun _ _ q => truW_mono w q) (fun _ _ q => q) q) q
  | .callv i es, env, h, Q, Q', w, q => by
    simp only [wpT] at *
    obtain ⟨f, a, q⟩ := q
    exact ⟨f, a, wpEs_mono hG (fun _ _ q => hG _ _ _ _ _ _ _ (fun _ _ q => truW_mono w q) (fun _ _ q => q) q) q⟩
  | .gfn _, env, h, Q, Q', w, q => by simp only [wpT] at q
  | .blt b es, env, h, Q, Q', w, q => by
    simp only [wpT] at *
    exact wpEs_mono hG (fun _ _ q => bltW_mono (fun _ _ q => truW_mono w q) q) q
  | .idx a i, env, h, Q, Q', w, q => by
    simp only [wpT] at *
    exact wpE_mono hG (fun _ _ q => wpE_mono hG (fun _ _ q => idxW_mono (fun _ _ q => truW_mono w q) q) q) q
  | .isi a t, env, h, Q, Q', w, q => by
    simp only [wpT] at *
    exact wpE_mono hG (fun _ _ q => isiW_mono w q) q
  | .non, env, h, Q, Q', w, q => by simp only [wpT] at q
  | .bl _, env, h, Q, Q', w, q => by simp only [wpT] at q
  | .int _, env, h, Q, Q', w, q => by simp only [wpT] at q
  | .str _, env, h, Q, Q', w, q => by simp only [wpT] at q
  | .bin _ _ _, env, h, Q, Q', w, q => by simp only [wpT] at q
  | .neg _, env, h, Q, Q', w, q => by simp only [wpT] at q
  | .tup _, env, h, Q, Q', w, q => by simp only [wpT] at q
  | .lst _ _, env, h, Q, Q', w, q => by simp only [wpT] at q
  | .dct0 _, env, h, Q, Q', w, q => by simp only [wpT] at q
  | .dct1 _ _, env, h, Q, Q', w, q => by simp only [wpT] at q
  | .slc _ _ _, env, h, Q, Q', w, q => by simp only [wpT] at q
  | .rev _, env, h, Q, Q', w, q => by simp only [wpT] at q
  | .con _ _ _, env, h, Q, Q', w, q => by simp only [wpT] at q
  | .comp _ _ _ _ _, env, h, Q, Q', w, q => by simp only [wpT] at q
  | .meth _ _ _, env, h, Q, Q', w, q => by simp only [wpT] at q
  | .mkd _, env, h, Q, Q', w, q => by simp only [wpT] at q
  | .dget _ _ _, env, h, Q, Q', w, q => by simp only [wpT] at q
  | .gcs _, env, h, Q, Q', w, q => by simp only [wpT] at q
theorem wpC_mono {G : Calls} (hG : GMono G) : ∀ {c : Eo} {env : Env} {h : MH} {Q Q' : Bool → MH → Prop}, (∀ v h, Q v h → Q' v h) → wpC G c env h Q → wpC G c env h Q'
  | .none, env, h, Q, Q', w, q => by simp only [wpC] at *; exact w _ _ q
  | .some c, env, h, Q, Q', w, q => by simp only [wpC] at *; exact wpT_mono hG w q
theorem wpEs_mono {G : Calls} (hG : GMono G) {Ex : XP} : ∀ {e : Es} {env : Env} {h : MH} {Q Q' : List PV → MH → Prop}, (∀ v h, Q v h → Q' v h) → wpEs G Ex e env h Q → wpEs G Ex e env h Q'
  | .nil, env, h, Q, Q', w, q => by simp only [wpEs] at *; exact w _ _ q
  | .cons e es, env, h, Q, Q', w, q => by
    simp only [wpEs] at *
    exact wpE_mono hG (fun _ _ q => wpEs_mono hG (fun _ _ q => w _ _ q) q) q
theorem wpEo_mono {G : Calls} (hG : GMono G) {Ex : XP} : ∀ {e : Eo} {env : Env} {h : MH} {Q Q' : Option PV → MH → Prop}, (∀ v h, Q v h → Q' v h) → wpEo G Ex e env h Q → wpEo G Ex e env h Q'
  | .none, env, h, Q, Q', w, q => by simp only [wpEo] at *; exact w _ _ q
  | .some e, env, h, Q, Q', w, q => by simp only [wpEo] at *; exact wpE_mono hG (fun _ _ q => w _ _ q) q
theorem wpIt_mono {G : Calls} (hG : GMono G) {Ex : XP} : ∀ {e : It} {env : Env} {h : MH} {Q Q' : Src → MH → Prop}, (∀ v h, Q v h → Q' v h) → wpIt G Ex e env h Q → wpIt G Ex e env h Q'
  | .seq e, env, h, Q, Q', w, q => by simp only [wpIt] at *; exact wpE_mono hG (fun _ _ ⟨S, a, q⟩ => ⟨S, a, fun l => w _ _ (q l)⟩) q
  | .rng1 e, env, h, Q, Q', w, q => by simp only [wpIt] at *; exact wpE_mono hG (fun _ _ ⟨n, a, b, c, q⟩ => ⟨n, a, b, c, w _ _ q⟩) q
  | .rng2 a b, env, h, Q, Q', w, q => by simp only [wpIt] at *; exact wpE_mono hG (fun _ _ q => wpE_mono hG (fun _ _ ⟨n, m, a, b, c, d, q⟩ => ⟨n, m, a, b, c, d, w _ _ q⟩) q) q
  | .enum e, env, h, Q, Q', w, q => by simp only [wpIt] at *; exact wpE_mono hG (fun _ _ ⟨S, a, q⟩ => ⟨S, a, fun l => w _ _ (q l)⟩) q
  | .zip a b, env, h, Q, Q', w, q => by simp only [wpIt] at *; exact wpE_mono hG (fun _ _ q => wpE_mono hG (fun _ _ ⟨n, m, a, q⟩ => ⟨n, m, a, fun l k => w _ _ (q l k)⟩) q) q
end
structure EnLe (D D' : En) : Prop where
  nx : ∀ e h, D.nx e h → D'.nx e h
  rt : ∀ v h, D.rt v h → D'.rt v h
  bk : ∀ e h, D.bk e h → D'.bk e h
  ct : ∀ e h, D.ct e h → D'.ct e h
theorem EnLe.refl (D : En) : EnLe D D := ⟨fun _ _ q => q, fun _ _ q => q, fun _ _ q => q, fun _ _ q => q⟩
theorem forW_mono {st : MH → Prop} {t t' : PV → Env → MH → En → Prop} (wt : ∀ x e h D D', EnLe D D' → t x e h D → t' x e h D') {D D' : En} (w : EnLe D D') : ∀ {xs : List PV} {env : Env} {h : MH}, forW st t D xs env h → forW st t' D' xs env h
  | [], _, _, ⟨a, q⟩ => ⟨a, w.nx _ _ q⟩
  | x :: r, _, _, ⟨a, q⟩ => ⟨a, wt x _ _ ⟨forW st t D r, D.rt, D.nx, forW st t D r⟩ ⟨forW st t' D' r, D'.rt, D'.nx, forW st t' D' r⟩ ⟨fun _ _ q => forW_mono wt w q, w.rt, w.nx, fun _ _ q => forW_mono wt w q⟩ q⟩
theorem whileW_mono {c c' : Env → MH → (Bool → MH → Prop) → Prop} {t t' : Env → MH → En → Prop} (wc : ∀ e h Q Q', (∀ v h, Q v h → Q' v h) → c e h Q → c' e h Q') (wt : ∀ e h D D', EnLe D D' → t e h D → t' e h D') {D D' : En} (w : EnLe D D') :
    ∀ {n : Nat} {env : Env} {h : MH}, whileW c t D n env h → whileW c' t' D' n env h
  | 0, _, _, q => q.elim
  | n + 1, _, _, q => by
    simp only [whileW] at *
    refine wc _ _ _ _ (fun k _ q => ?_) q
    cases k with
    | true => exact wt _ _ ⟨whileW c t D n, D.rt, D.nx, whileW c t D n⟩ ⟨whileW c' t' D' n, D'.rt, D'.nx, whileW c' t' D' n⟩ ⟨fun _ _ q => whileW_mono wc wt w q, w.rt, w.nx, fun _ _ q => whileW_mono wc wt w q⟩ q
    | false => exact w.nx _ _ q
mutual
theorem wpS_mono {G : Calls} (hG : GMono G) {Ex : XP} : ∀ {s : S} {env : Env} {h : MH} {D D' : En}, EnLe D D' → wpS G Ex s env h D → wpS G Ex s env h D'
  | .asg t e, env, h, D, D', w, q => by simp only [wpS] at *; exact wpE_mono hG (fun _ _ q => tgW_mono (fun _ q => w.nx _ _ q) q) q
  | .par i j a b, env, h, D, D', w, q => by simp only [wpS] at *; exact wpE_mono hG (fun _ _ q => wpE_mono hG (fun _ _ q => w.nx _ _ q) q) q
  | .sub o i v, env, h, D, D', w, q => by simp only [wpS] at *; exact wpE_mono hG (fun _ _ q => wpE_mono hG (fun _ _ q => wpE_mono hG (fun _ _ q => subW_mono (fun _ q => w.nx _ _ q) q) q) q) q
  | .ex e, env, h, D, D', w, q => by simp only [wpS] at *; exact wpE_mono hG (fun _ _ q => w.nx _ _ q) q
  | .ret e, env, h, D, D', w, q => by simp only [wpS] at *; exact wpE_mono hG w.rt q
  | .pass, env, h, D, D', w, q => by simp only [wpS] at *; exact w.nx _ _ q
  | .ife c a b, env, h, D, D', w, q => by
    simp only [wpS] at *
    refine wpT_mono hG (fun k _ q => ?_) q
    cases k with
    | true => exact wpSs_mono hG w q
    | false => exact wpSs_mono hG w q
  | .for t it body, env, h, D, D', w, q => by
    simp only [wpS] at *
    exact wpIt_mono hG (fun S _ q => forW_mono (fun _ _ _ _ _ w q => tgW_mono (fun _ q => wpSs_mono hG w q) q) w q) q
  | .while c body, env, h, D, D', w, q => by
    simp only [wpS] at *
    obtain ⟨n, q⟩ := q
    exact ⟨n, whileW_mono (c := fun env' h' Q => wpT G Ex c env' h' Q) (t := fun env' h' D' => wpSs G Ex body env' h' D') (fun _ _ _ _ w q => wpT_mono hG w q) (fun _ _ _ _ w q => wpSs_mono hG w q) w q⟩
  | .raise c, env, h, D, D', w, q => by simp only [wpS] at *; exact q
  | .tryR, env, h, D, D', w, q => by
    simp only [wpS] at *
    obtain ⟨f, a, b, e, q⟩ := q
    exact ⟨f, a, b, e, fun p hp => hG _ _ _ _ _ _ _ (fun _ _ q => ⟨q.1, w.rt _ _ q.2⟩) (fun _ _ q => ⟨q.1, q.2.1, w.rt _ _ q.2.2⟩) (q p hp)⟩
theorem wpSs_mono {G : Calls} (hG : GMono G) {Ex : XP} : ∀ {s : Ss} {env : Env} {h : MH} {D D' : En}, EnLe D D' → wpSs G Ex s env h D → wpSs G Ex s env h D'
  | .nil, env, h, D, D', w, q => by simp only [wpSs] at *; exact w.nx _ _ q
  | .cons s r, env, h, D, D', w, q => by simp only [wpSs] at *; exact wpS_mono hG (D := ⟨fun env' h' => wpSs G Ex r env' h' D, D.rt, D.bk, D.ct⟩) (D' := ⟨fun env' h' => wpSs G Ex r env' h' D', D'.rt, D'.bk, D'.ct⟩) ⟨fun _ _ q => wpSs_mono hG w q, w.rt, w.bk, w.ct⟩ q
end
end MP
set_option Elab.async false
set_option linter.all false
set_option maxRecDepth 100000
namespace MP
open PySem L2
theorem toDs_eq : ∀ xs : List PV, toDs xs = xs.map toD
  | [] => rfl
  | x :: r => by simp only [toDs, List.map_cons, toDs_eq r]
theorem purs_eq : ∀ xs : List PV, purs xs = xs.all pur
  | [] => rfl
  | x :: r => by simp only [purs, List.all_cons, purs_eq r]
mutual
inductive RX (h : Heap) : Value → PyData → Prop
  | none : RX h .none .none
  | bool (b : Bool) : RX h (.bool b) (.bool b)
  | int (i : Int) (t : Tok) : RX h (.int i t) (.int i)
  | str (x : Str) (t : Tok) : RX h (.str x t) (.str x)
  | list {a : Addr} {o : Obj} {vs : Array Value} {n : Nat} {ds : List PyData} : h.get? a = some o → o.cls = .type "list" → o.data = .seq vs n → RXs h vs.toList ds → RX h (.ref a) (.list ds)
  | tuple {a : Addr} {o : Obj} {vs : Array Value} {n : Nat} {ds : List PyData} : h.get? a = some o → o.cls = .type "tuple" → o.data = .seq vs n → RXs h vs.toList ds → RX h (.ref a) (.tuple ds)
  | dict {a : Addr} {o : Obj} {es : Array DictEntry} {n : Nat} {ps : List (PyData × PyData)} : (a == sysModules) = false → h.get? a = some o → o.cls = .type "dict" → o.data = .dict es n →
      RXs h (es.toList.map (·.key)) (ps.map (·.1)) → RXs h (es.toList.map (·.val)) (ps.map (·.2)) → RX h (.ref a) (.dict ps)
inductive RXs (h : Heap) : List Value → List PyData → Prop
  | nil : RXs h [] []
  | cons {v : Value} {vs : List Value} {d : PyData} {ds : List PyData} : RX h v d → RXs h vs ds → RXs h (v :: vs) (d :: ds)
end
section
variable {h : Heap}
mutual
theorem RX.reads : ∀ {d : PyData} {v : Value}, RX h v d → ∃ as, Reads h v d as
  | _, _, .none => ⟨_, .none⟩
  | _, _, .bool b => ⟨_, .bool b⟩
  | _, _, .int i t => ⟨_, .int i t⟩
  | _, _, .str x t => ⟨_, .str x t⟩
  | _, _, .list a b c e => let ⟨_, r⟩ := RXs.reads e; ⟨_, .list a b c r⟩
  | _, _, .tuple a b c e => let ⟨_, r⟩ := RXs.reads e; ⟨_, .tuple a b c r⟩
  | _, _, .dict _ a b c e f => let ⟨_, r⟩ := RXs.reads e; let ⟨_, q⟩ := RXs.reads f; ⟨_, .dict a b c r q⟩
theorem RXs.reads : ∀ {d : List PyData} {v : List Value}, RXs h v d → ∃ as, ReadsAll h v d as
  | _, _, .nil => ⟨_, .nil⟩
  | _, _, .cons a b => let ⟨_, r⟩ := RX.reads a; let ⟨_, q⟩ := RXs.reads b; ⟨_, .cons r q⟩
end
end
section
variable {prog : Program} {w : World} {h : Heap}
mutual
theorem rk_of : ∀ {d : PyData} {v : Value}, RX h v d → d.showable = true → d.shown.length ≤ sizeLine →
    ∃ bs, ReadAtMost h d.depth bs ∧ ReprK prog w bs h d.depth v d.shown
  | _, _, .none, _, _ => ⟨[], (fun _ q => nomatch q), by simp only [PyData.shown]; exact .of_is ReprIs.none _ _ _⟩
  | _, _, .bool b, _, _ => ⟨[], (fun _ q => nomatch q), by simp only [PyData.shown]; exact .of_is (.bool b) _ _ _⟩
  | _, _, .int i t, sh, _ => ⟨[], (fun _ q => nomatch q), by
      simp only [PyData.shown]
      refine .of_is (.int t ?_) _ _ _
      simpa [PyData.showable] using sh⟩
  | _, _, .str x t, _, sz => ⟨[], (fun _ q => nomatch q), by
      simp only [PyData.shown]
      refine .of_is (.str x t ?_) _ _ _
      simpa only [PyData.shown] using sz⟩
  | .list ds, .ref a, .list (vs := vs) g1 g2 g3 g4, sh, sz => by
    simp only [PyData.shown] at sz
    simp only [PyData.showable] at sh
    obtain ⟨bs, hb, hk⟩ := rks_of g4 sh (fun t ht => Nat.le_trans (listText_mem_le ht) sz)
    obtain ⟨as, r⟩ := RX.reads (.list g1 g2 g3 g4)
    have na : a ∉ bs := not_mem_of_deeper r (by simp only [PyData.depth]; omega) hb
    refine ⟨a :: bs, .cons r (by simp only [PyData.depth]; omega) hb, ?_⟩
    simp only [PyData.depth, PyData.shown]
    obtain ⟨l⟩ := vs
    cases l with
    | nil =>
      cases (show RXs h [] ds from g4)
      simp only [PyData.shownAll]
      rw [listText_nil]
      exact .listEmpty g1 g2 g3
    | cons y l => exact .list g1 g2 g3 na (by simpa using hk.length_eq) (fun i z e => hk.item i z (by simpa using e))
  | .tuple ds, .ref a, .tuple g1 g2 g3 g4, sh, sz => by
    simp only [PyData.shown] at sz
    simp only [PyData.showable] at sh
    obtain ⟨bs, hb, hk⟩ := rks_of g4 sh (fun t ht => Nat.le_trans (tupleText_mem_le ht) sz)
    obtain ⟨as, r⟩ := RX.reads (.tuple g1 g2 g3 g4)
    have na : a ∉ bs := not_mem_of_deeper r (by simp only [PyData.depth]; omega) hb
    refine ⟨a :: bs, .cons r (by simp only [PyData.depth]; omega) hb, ?_⟩
    simp only [PyData.depth, PyData.shown]
    exact .tuple g1 g2 g3 na hk
  | .dict ps, .ref a, .dict (es := es) g0 g1 g2 g3 g4 g5, sh, sz => by
    simp only [PyData.shown] at sz
    simp only [PyData.showable] at sh
    obtain ⟨s1, s2⟩ := PyData.showableKv_split ps sh
    obtain ⟨b1, m1, k1⟩ := rks_of g4 s1 (fun t ht => by
      obtain ⟨p, hp, hl⟩ := PyData.shownKv_key_le ps t ht
      exact Nat.le_trans hl (Nat.le_trans (dictText_mem_le hp) sz))
    obtain ⟨b2, m2, k2⟩ := rks_of g5 s2 (fun t ht => by
      obtain ⟨p, hp, hl⟩ := PyData.shownKv_val_le ps t ht
      exact Nat.le_trans hl (Nat.le_trans (dictText_mem_le hp) sz))
    obtain ⟨as, r⟩ := RX.reads (.dict g0 g1 g2 g3 g4 g5)
    have hb : ReadAtMost h (PyData.depthKv ps) (b1 ++ b2) := .append (m1.mono (PyData.depthAll_keys_le ps)) (m2.mono (PyData.depthAll_vals_le ps))
    have na : a ∉ b1 ++ b2 := not_mem_of_deeper r (by simp only [PyData.depth]; omega) hb
    refine ⟨a :: (b1 ++ b2), .cons r (by simp only [PyData.depth]; omega) hb, ?_⟩
    simp only [PyData.depth, PyData.shown]
    rw [PyData.shownKv_eq]
    refine .dict g1 g2 g3 g0 na (.of_two es.toList _ _ (k1.more_le (fun b q => ?_) (PyData.depthAll_keys_le ps)) (k2.more_le (fun b q => ?_) (PyData.depthAll_vals_le ps)))
    · exact List.mem_append_left _ q
    · exact List.mem_append_right _ q
theorem rks_of : ∀ {ds : List PyData} {vs : List Value}, RXs h vs ds → PyData.showableAll ds = true → (∀ t ∈ PyData.shownAll ds, t.length ≤ sizeLine) →
    ∃ bs, ReadAtMost h (PyData.depthAll ds) bs ∧ ReprAllK prog w bs h (PyData.depthAll ds) vs (PyData.shownAll ds)
  | _, _, .nil, _, _ => ⟨[], (fun _ q => nomatch q), by simp only [PyData.shownAll]; exact .nil⟩
  | d :: ds, _, .cons r rs, sh, sz => by
    simp only [PyData.showableAll, Bool.and_eq_true] at sh
    simp only [PyData.shownAll, List.mem_cons] at sz
    obtain ⟨b1, m1, k1⟩ := rk_of r sh.1 (sz _ (.inl rfl))
    obtain ⟨b2, m2, k2⟩ := rks_of rs sh.2 (fun t ht => sz t (.inr ht))
    refine ⟨b1 ++ b2, .append (m1.mono (Nat.le_max_left _ _)) (m2.mono (Nat.le_max_right _ _)), ?_⟩
    simp only [PyData.depthAll, PyData.shownAll]
    refine .cons ((k1.more fun b q => ?_).level_le (Nat.le_max_left _ _)) (k2.more_le (fun b q => ?_) (Nat.le_max_right _ _))
    · exact List.mem_append_left _ q
    · exact List.mem_append_right _ q
end
theorem repr_rx {A : Around} {E : Value → Shared → Prop} {s : Shared} {Q : Value → Shared → Prop} {v : Value} {d : PyData} (r : RX s.heap v d) (sh : d.showable = true) (hg : A.guards = some []) (hu : A.units + (d.depth + 1) < cLine) (sz : d.shown.length ≤ sizeLine)
    (hQ : ∀ h' u tk, (∀ b o, s.heap.get? b = some o → h'.get? b = some o) → Q (.str d.shown u) { s with heap := h', toks := tk }) : wpAny (model prog w) A (call (.builtin "repr") [v]) Q E s := by
  have hz := sz
  cases r with
  | none => exact PySem.P.repr_of_none (by simpa only [PyData.shown] using hQ s.heap _ _ fun _ _ q => q)
  | bool b => exact PySem.P.repr_of_bool (by simpa only [PyData.shown] using hQ s.heap _ _ fun _ _ q => q)
  | int i t => exact PySem.P.repr_of_int (by simpa [PyData.showable] using sh) (by simpa only [PyData.shown] using hQ s.heap _ _ fun _ _ q => q)
  | str x t => exact PySem.P.repr_of_str (by simpa only [PyData.shown] using hQ s.heap _ _ fun _ _ q => q) (by simpa only [PyData.shown] using sz)
  | @list a o vs n ds g1 g2 g3 g4 =>
    obtain ⟨as, rr⟩ := RX.reads (.list g1 g2 g3 g4)
    simp only [PyData.shown] at sz
    simp only [PyData.showable] at sh
    obtain ⟨bs, hb, hk⟩ := rks_of (prog := prog) (w := w) g4 sh (fun t ht => Nat.le_trans (listText_mem_le ht) sz)
    have na : a ∉ bs := not_mem_of_deeper rr (by simp only [PyData.depth]; omega) hb
    simp only [PyData.depth] at hu
    simp only [PyData.shown] at hQ
    refine call_repr_slot (T := "list") (by omega) ⟨o, g1, g2⟩ F.slot_list_repr.toG ?_
    obtain ⟨l⟩ := vs
    cases l with
    | nil =>
      cases (show RXs s.heap [] ds from g4)
      simp only [PyData.shownAll, listText_nil] at hQ
      exact call_list_repr_empty ⟨o, g1, g2⟩ g1 g3 ⟨_, _, rfl, hQ s.heap _ _ fun _ _ q => q⟩
    | cons y l =>
      refine call_list_reprK g1 g2 g3 na (by simpa using hk.length_eq) (fun i z e => hk.item i z (by simpa using e)) hg (fun b _ => Clear.nil b) ?_ (fun _ _ q => q) (fun h' u tk q => ⟨_, _, rfl, hQ h' u tk q⟩) sz
      show A.units + 1 + _ < cLine
      omega
  | @tuple a o vs n ds g1 g2 g3 g4 =>
    obtain ⟨as, rr⟩ := RX.reads (.tuple g1 g2 g3 g4)
    simp only [PyData.shown] at sz
    simp only [PyData.showable] at sh
    obtain ⟨bs, hb, hk⟩ := rks_of (prog := prog) (w := w) g4 sh (fun t ht => Nat.le_trans (tupleText_mem_le ht) sz)
    have na : a ∉ bs := not_mem_of_deeper rr (by simp only [PyData.depth]; omega) hb
    simp only [PyData.depth] at hu
    simp only [PyData.shown] at hQ
    refine call_repr_slot (T := "tuple") (by omega) ⟨o, g1, g2⟩ F.slot_tuple_repr ?_
    refine call_tuple_reprK g1 g2 g3 na hk hg (fun b _ => Clear.nil b) ?_ (fun _ _ q => q) (fun h' u tk q => ⟨_, _, rfl, hQ h' u tk q⟩) sz
    show A.units + 1 + _ < cLine
    omega
  | @dict a o es n ps g0 g1 g2 g3 g4 g5 =>
    obtain ⟨as, rr⟩ := RX.reads (.dict g0 g1 g2 g3 g4 g5)
    simp only [PyData.shown] at sz
    simp only [PyData.showable] at sh
    obtain ⟨s1, s2⟩ := PyData.showableKv_split ps sh
    obtain ⟨b1, m1, k1⟩ := rks_of (prog := prog) (w := w) g4 s1 (fun t ht => by
      obtain ⟨p, hp, hl⟩ := PyData.shownKv_key_le ps t ht
      exact Nat.le_trans hl (Nat.le_trans (dictText_mem_le hp) sz))
    obtain ⟨b2, m2, k2⟩ := rks_of (prog := prog) (w := w) g5 s2 (fun t ht => by
      obtain ⟨p, hp, hl⟩ := PyData.shownKv_val_le ps t ht
      exact Nat.le_trans hl (Nat.le_trans (dictText_mem_le hp) sz))
    have hb : ReadAtMost s.heap (PyData.depthKv ps) (b1 ++ b2) := .append (m1.mono (PyData.depthAll_keys_le ps)) (m2.mono (PyData.depthAll_vals_le ps))
    have na : a ∉ b1 ++ b2 := not_mem_of_deeper rr (by simp only [PyData.depth]; omega) hb
    simp only [PyData.depth] at hu
    simp only [PyData.shown, PyData.shownKv_eq] at hQ
    refine call_repr_slot (T := "dict") (by omega) ⟨o, g1, g2⟩ F.slot_dict_repr ?_
    refine call_dict_reprK g1 g2 g3 g0 na (.of_two es.toList _ _ (k1.more_le (fun b q => ?_) (PyData.depthAll_keys_le ps)) (k2.more_le (fun b q => ?_) (PyData.depthAll_vals_le ps))) hg (fun b _ => Clear.nil b) ?_ (fun _ _ q => q) (fun h' u tk q => ⟨_, _, rfl, hQ h' u tk q⟩) (by rw [← PyData.shownKv_eq]; exact sz)
    · exact List.mem_append_left _ q
    · exact List.mem_append_right _ q
    · show A.units + 1 + _ < cLine
      omega
end
end MP
set_option Elab.async false
set_option linter.all false
set_option maxRecDepth 100000
set_option maxHeartbeats 2000000
namespace MP
open PySem L2
section
variable {P : Program} {w : World} {h : Heap}
theorem pairs_vals {es : List DictEntry} {vs : List (Key × Value)} (p : Pairs (mixKind P w) es vs) : es.map (·.val) = vs.map (·.2) := by
  induction p with
  | nil => rfl
  | cons _ e _ ih => simp only [List.map_cons, ih, e]
theorem pairs_keys {es : List DictEntry} {vs : List (Key × Value)} (p : Pairs (mixKind P w) es vs) : ∀ {ks : List PV}, Keys ks (vs.map (·.1)) → RXs h (es.map (·.key)) (toDs ks) := by
  induction p with
  | nil =>
    intro ks hk
    cases hk
    simp only [toDs, List.map_nil]
    exact .nil
  | cons hi _ _ ih =>
    intro ks hk
    cases hk with
    | cons a b =>
      simp only [toDs, List.map_cons]
      refine .cons ?_ (ih b)
      dsimp only at a
      rcases keyIs_shape hi with ⟨i, t, e1, e2⟩ | ⟨x, t, e1, e2⟩
      · rw [e1] at a
        cases a
        rw [e2]
        exact .int _ _
      · rw [e1] at a
        cases a
        rw [e2]
        exact .str _ _
theorem kv_keys {kvs : List (Key × V)} {vs : List (Key × Value)} (r : KV kvs vs) : kvs.map (·.1) = vs.map (·.1) := by
  induction r with
  | nil => rfl
  | cons a _ ih => simp only [List.map_cons, ih, a.1]
theorem kv_vals {kvs : List (Key × V)} {vs : List (Key × Value)} (r : KV kvs vs) : Vals (kvs.map (·.2)) (vs.map (·.2)) := by
  induction r with
  | nil => exact .nil
  | cons a _ ih => exact .cons a.2 ih
theorem zip_fst {α β : Type} : ∀ {a : List α} {b : List β}, a.length = b.length → (a.zip b).map (·.1) = a
  | [], _, _ => rfl
  | x :: a, [], e => by cases e
  | x :: a, y :: b, e => by simp only [List.zip_cons_cons, List.map_cons, zip_fst (Nat.succ.inj e)]
theorem zip_snd {α β : Type} : ∀ {a : List α} {b : List β}, a.length = b.length → (a.zip b).map (·.2) = b
  | [], [], _ => rfl
  | [], y :: b, e => by cases e
  | x :: a, [], e => by cases e
  | x :: a, y :: b, e => by simp only [List.zip_cons_cons, List.map_cons, zip_snd (Nat.succ.inj e)]
theorem toDs_length (xs : List PV) : (toDs xs).length = xs.length := by rw [toDs_eq, List.length_map]
theorem Paired.len {α β : Type} {F : α → β → Prop} {a : List α} {b : List β} (p : Paired F a b) : a.length = b.length := Paired.length p
theorem keyV_rep {k : Key} {x : PV} (a : KeyRep x k) {u : Value} (r : RelV (kV k) u) : RX h u (toD x) := by
  cases a with
  | int i =>
    obtain ⟨t, rfl⟩ := (show ∃ t, u = Value.int i t from r)
    exact .int _ _
  | str y =>
    obtain ⟨t, rfl⟩ := (show ∃ t, u = Value.str y t from r)
    exact .str _ _
theorem keysV_rep : ∀ {ks : List PV} {k : List Key} {us : List Value}, Keys ks k → Vals (k.map kV) us → RXs h us (toDs ks)
  | _, _, _, .nil, r => by
    cases r
    simp only [toDs]
    exact .nil
  | _, _, _, .cons a b, r => by
    cases r with
    | cons p q =>
      simp only [toDs]
      exact .cons (keyV_rep a p) (keysV_rep b q)
end
section
variable {X : Cx} {pins : List (Addr × Obj)} {σ : L2.St} {H : Hp} {s : Shared}
theorem dT_keys (I : Inv X pins σ H s) : ∀ {kvs : List (List Key × V)} {xs : List (List Key × Addr × Value)} {ks : List (List PV)},
    Paired (fun (p : List Key × V) (q : List Key × Addr × Value) => p.1 = q.1 ∧ H q.2.1 = some (.tup (p.1.map kV)) ∧ RelV p.2 q.2.2) kvs xs → Paired Keys ks (kvs.map (·.1)) →
    RXs s.heap ((xs.map (entryOfKey (tupleKind (mixKind X.prog X.w)))).map (·.key)) (toDs (ks.map PV.tup))
  | _, _, _, .nil, hk => by
    cases hk
    simp only [List.map_nil, toDs]
    exact .nil
  | _, _, _, .cons (a := a) (b := b) p t, hk => by
    cases hk with
    | cons k r =>
      simp only [List.map_cons, toDs]
      refine .cons ?_ (dT_keys I t r)
      obtain ⟨_, its, rv, ⟨o, ho, hc, n, hd⟩⟩ := I.hok _ _ p.2.1
      simp only [toD]
      exact .tuple ho hc hd (by simpa using keysV_rep k rv)
theorem dT_vals {kvs : List (List Key × V)} {xs : List (List Key × Addr × Value)}
    (p : Paired (fun (p : List Key × V) (q : List Key × Addr × Value) => p.1 = q.1 ∧ H q.2.1 = some (.tup (p.1.map kV)) ∧ RelV p.2 q.2.2) kvs xs) :
    Vals (kvs.map (·.2)) ((xs.map (entryOfKey (tupleKind (mixKind X.prog X.w)))).map (·.val)) := by
  induction p with
  | nil => exact .nil
  | cons a _ ih => exact .cons a.2.2 ih
mutual
theorem rep_rx (I : Inv X pins σ H s) : ∀ {x : PV} {v : V} {u : Value}, Rep X.K H v x → pur x = true → RelV v u → RX s.heap u (toD x)
  | _, _, _, .non, _, r => by cases (show _ = Value.none from r); simp only [toD]; exact .none
  | _, _, _, .bl b, _, r => by cases (show _ = Value.bool b from r); simp only [toD]; exact .bool b
  | _, _, _, .int i, _, r => by obtain ⟨t, rfl⟩ := (show ∃ t, _ = Value.int i t from r); simp only [toD]; exact .int i t
  | _, _, _, .str y, _, r => by obtain ⟨t, rfl⟩ := (show ∃ t, _ = Value.str y t from r); simp only [toD]; exact .str y t
  | _, _, _, .tup (a := a) sq rs, hp, r => by
    cases (show _ = Value.ref a from r)
    obtain ⟨its, rv, ⟨o, ho, hc, n, hd⟩, _⟩ := I.tuple (.inl (.inl sq))
    simp only [toD]
    simp only [pur] at hp
    exact .tuple ho hc hd (by simpa using reps_rx I rs hp rv)
  | _, _, _, .lst (a := a) sq rs, hp, r => by
    cases (show _ = Value.ref a from r)
    obtain ⟨_, its, n, rv, _, ho⟩ := (LL.at_ (.inr sq) I)
    simp only [toD]
    simp only [pur] at hp
    exact .list ho rfl rfl (by simpa using reps_rx I rs hp rv)
  | _, _, _, .dctK (a := a) (kvs := kvs) (ks := ks) (vs := vs) hf hk rs, hp, r => by
    cases (show _ = Value.ref a from r)
    obtain ⟨_, _, ys, ws, kv, o, es, ep, ho, hx, hdt, _, pr, _⟩ := I.hok _ _ hf
    simp only [toD]
    simp only [pur, Bool.and_eq_true] at hp
    have l1 : ks.length = vs.length := by
      have a1 := Paired.len hk
      have a2 := rs.length
      simp only [List.length_map] at a1 a2
      omega
    have l2 : (toDs ks).length = (toDs vs).length := by rw [toDs_length, toDs_length]; exact l1
    refine .dict ys ho hx.1 hdt ?_ ?_
    · rw [zip_fst l2]
      exact pairs_keys pr (by rw [← kv_keys kv]; exact hk)
    · rw [zip_snd l2, pairs_vals pr]
      exact reps_rx I rs hp.2 (kv_vals kv)
  | _, _, _, .dctT (a := a) (kvs := kvs) (ks := ks) (vs := vs) hf hk rs, hp, r => by
    cases (show _ = Value.ref a from r)
    obtain ⟨_, _, ys, xs, pr, o, es, ep, ho, hx, hdt, he, _⟩ := I.hok _ _ hf
    simp only [toD]
    simp only [pur, Bool.and_eq_true] at hp
    have l1 : ks.length = vs.length := by
      have a1 := Paired.len hk
      have a2 := rs.length
      simp only [List.length_map] at a1 a2
      omega
    have l2 : (toDs (ks.map PV.tup)).length = (toDs vs).length := by rw [toDs_length, toDs_length, List.length_map]; exact l1
    refine .dict ys ho hx.1 hdt ?_ ?_
    · rw [zip_fst l2, he]
      exact dT_keys I pr hk
    · rw [zip_snd l2, he]
      exact reps_rx I rs hp.2 (dT_vals pr)
  | _, _, _, .loc _, hp, _ => by simp only [pur] at hp; cases hp
  | _, _, _, .fn _ _, hp, _ => by simp only [pur] at hp; cases hp
  | _, _, _, .cst _, hp, _ => by simp only [pur] at hp; cases hp
  | _, _, _, .dtt _ _ _, hp, _ => by simp only [pur] at hp; cases hp
theorem reps_rx (I : Inv X pins σ H s) : ∀ {xs : List PV} {vs : List V} {us : List Value}, Reps X.K H vs xs → purs xs = true → Vals vs us → RXs s.heap us (toDs xs)
  | _, _, _, .nil, _, r => by cases r; simp only [toDs]; exact .nil
  | _, _, _, .cons a b, hp, r => by
    cases r with
    | cons p q =>
      simp only [purs, Bool.and_eq_true] at hp
      simp only [toDs]
      exact .cons (rep_rx I a hp.1 p) (reps_rx I b hp.2 q)
end
end
section
variable {K : KF} {H : Hp} {h : MH} {x : V} {v : PV} {xs : List PV}
theorem rd_of (hv : ∀ a, v ≠ .loc a) : rd h v = v := by
  cases v with
  | loc a => exact absurd rfl (hv a)
  | _ => rfl
theorem rd_lst (e : rd h v = .lst xs) : v = .lst xs ∨ ∃ a, v = .loc a ∧ h a = some (.lst xs) := by
  cases v with
  | loc a =>
    refine .inr ⟨a, rfl, ?_⟩
    simp only [rd] at e
    split at e
    · rename_i q; cases e; exact q
    · cases e
  | lst ys => exact .inl e
  | _ => cases e
theorem rd_else (e : rd h v = xs') (hl : ∀ ys, xs' ≠ .lst ys) (ha : ∀ a, xs' ≠ .loc a) : v = xs' := by
  cases v with
  | loc a =>
    simp only [rd] at e
    split at e
    · exact absurd e.symm (hl _)
    · exact absurd e.symm (ha _)
  | _ => exact e
theorem rd_int {i : Int} (e : rd h v = .int i) : v = .int i := rd_else e (fun _ q => nomatch q) (fun _ q => nomatch q)
theorem rd_str {i : Str} (e : rd h v = .str i) : v = .str i := rd_else e (fun _ q => nomatch q) (fun _ q => nomatch q)
theorem rd_bl {i : Bool} (e : rd h v = .bl i) : v = .bl i := rd_else e (fun _ q => nomatch q) (fun _ q => nomatch q)
theorem rd_non (e : rd h v = .non) : v = .non := rd_else e (fun _ q => nomatch q) (fun _ q => nomatch q)
theorem rd_tup (e : rd h v = .tup xs) : v = .tup xs := rd_else e (fun _ q => nomatch q) (fun _ q => nomatch q)
theorem rd_dct {ks vs : List PV} (e : rd h v = .dct ks vs) : v = .dct ks vs := rd_else e (fun _ q => nomatch q) (fun _ q => nomatch q)
theorem CRep.lst_inv {o : HO} (c : CRep K H (.lst xs) o) : ∃ vs, o = .lst vs ∧ Reps K H vs xs := by cases c with | lst a => exact ⟨_, rfl, a⟩
theorem rep_lst (r : Rep K H x v) (hr : HRep K h H) (e : rd h v = .lst xs) : ∃ a vs, x = .ref a ∧ LL K H a vs ∧ Reps K H vs xs := by
  rcases rd_lst e with rfl | ⟨a, rfl, q⟩
  · obtain ⟨a, vs, rfl, f, rs⟩ := r.lst_inv
    exact ⟨a, vs, rfl, .inr f, rs⟩
  · obtain ⟨o, h1, h2⟩ := hr a _ q
    obtain ⟨vs, rfl, rs⟩ := h2.lst_inv
    exact ⟨a, vs, r.loc_inv, .inl h1, rs⟩
theorem rep_seqS (r : Rep K H x v) (hr : HRep K h H) (e : seqT h v = some xs) : ∃ a vs, x = .ref a ∧ (LL K H a vs ∨ H a = some (.tup vs)) ∧ Reps K H vs xs := by
  unfold seqT at e
  split at e
  · rename_i ys q
    cases e
    cases rd_tup q
    obtain ⟨a, vs, rfl, f, rs⟩ := r.tup_invS
    exact ⟨a, vs, rfl, .inr f, rs⟩
  · rename_i ys q
    cases e
    obtain ⟨a, vs, e1, f, rs⟩ := rep_lst r hr q
    exact ⟨a, vs, e1, .inl f, rs⟩
  · cases e
theorem rep_seq (r : Rep K H x v) (hr : HRep K h H) (e : seqT h v = some xs) : ∃ a vs, x = .ref a ∧ (LL K H a vs ∨ SqT K H a vs) ∧ Reps K H vs xs := by
  obtain ⟨a, vs, e1, f, rs⟩ := rep_seqS r hr e
  exact ⟨a, vs, e1, f.imp id fun q => .inl (.inl q), rs⟩
end
section
variable {X : Cx} {pins : List (Addr × Obj)} {σ : L2.St} {H : Hp} {s : Shared} {h : MH} {x : V} {v : PV} {u : Value}
theorem rd_rx (I : Inv X pins σ H s) (r : Rep X.K H x v) (hr : HRep X.K h H) (rx : RelV x u) (hp : pur (rd h v) = true) : RX s.heap u (toD (rd h v)) := by
  by_cases hl : ∃ xs, rd h v = .lst xs
  · obtain ⟨xs, e⟩ := hl
    obtain ⟨a, vs, rfl, ll, rs⟩ := rep_lst r hr e
    cases (show u = Value.ref a from rx)
    rw [e] at hp ⊢
    simp only [pur] at hp
    obtain ⟨_, its, n, rv, _, ho⟩ := ll.at_ I
    simp only [toD]
    exact .list ho rfl rfl (by simpa using reps_rx I rs hp rv)
  · have e : rd h v = v := by
      cases v with
      | loc a =>
        exfalso
        simp only [rd] at hp hl
        split at hp
        · rename_i q; exact hl ⟨_, by rw [q]⟩
        · cases hp
      | _ => rfl
    rw [e] at hp ⊢
    exact rep_rx I r hp rx
end
end MP
set_option Elab.async false
set_option linter.all false
set_option maxRecDepth 100000
set_option maxHeartbeats 1000000
namespace MP
open PySem PySem.Spec PyProof.Rows L2
def up (K : KF) (H : Hp) (Q : VK) : Post := fun v h' => ∀ V H', Pres H H' → Rep K H' V v → HRep K h' H' → Q V H'
def upT (K : KF) (H : Hp) (Q : Bool → Hp → Prop) : Bool → MH → Prop := fun b h' => ∀ H', Pres H H' → HRep K h' H' → Q b H'
section
variable {X : Cx} {pins : List (Addr × Obj)} {σ : L2.St} {H : Hp} {s : Shared}
theorem EP.laid {Q : VK} {u : Value} {s' : Shared} (h : EP X pins σ (Laid Q) u s') : EP X pins σ Q u s' := by
  obtain ⟨v, H1, I1, r1, S, ok, q⟩ := h
  obtain ⟨H2, f, I2⟩ := fz_inv I1 ok
  exact ⟨v, H2, I2, r1, q H2 f⟩
theorem Laid.none {Q : VK} {v : V} {H : Hp} (q : Q v H) : Laid Q v H := ⟨fun _ => False, fun _ z => z.elim, fun H' f => by
  have e : H' = H := funext fun a => f.out a fun z => z
  rw [e]; exact q⟩
theorem laid_new {K : KF} {h : MH} {H0 H : Hp} {Q : VK} {m : Bool} {xs : List PV} {vs : List V} (p0 : Pres H0 H) (hr : HRep K h H) (rs : Reps K H vs xs) (q : newL m xs h (up K H0 Q)) :
    vs.length ≤ sizeLine ∧ ∀ p, H p = none → Laid Q (.ref p) (upd H p (.lst vs)) := by
  unfold newL at q
  have l := rs.length
  cases m with
  | true =>
    refine ⟨by rw [l]; exact q.1, fun p hp => Laid.none ?_⟩
    exact q.2 p (hr.fresh hp) _ _ (p0.trans (.new hp)) (.loc p) (hr.new hp (.lst rs))
  | false =>
    refine ⟨by rw [l]; exact q.1, fun p hp => ?_⟩
    have ok : ∀ a, a = p → ∃ u, upd H p (.lst vs) a = some u ∧ Fz1 u := fun a e => ⟨.lst vs, by subst e; exact upd_same, True.intro⟩
    refine ⟨fun a => a = p, ok, fun H' f => ?_⟩
    have pr : Pres (upd H p (.lst vs)) H' := f.pres ok
    obtain ⟨u, o, e1, e2⟩ := f.at_ p rfl
    rw [upd_same] at e1
    cases e1
    have prH : Pres H H' := (Pres.new hp).trans pr
    refine q.2 _ _ (p0.trans prH) (.lst (.inl ⟨o, e2⟩) (rs.keep prH)) (hr.keep prH fun a c e => ?_)
    obtain ⟨u, h1, _⟩ := hr a c e
    have ne : a ≠ p := ne_of_none h1 hp
    rw [f.out a ne, upd_ne ne]
theorem tup_new {K : KF} {h : MH} {H0 H : Hp} {Q : VK} {xs : List PV} {vs : List V} (p0 : Pres H0 H) (hr : HRep K h H) (rs : Reps K H vs xs) (q : up K H0 Q (.tup xs) h) :
    ∀ p, H p = none → Q (.ref p) (upd H p (.tup vs)) := fun p hp =>
  q _ _ (p0.trans (.new hp)) (.tup upd_same (rs.keep (.new hp))) (hr.newP hp)
abbrev RB (K : KF) (W : PV → PV → MH → Post → Prop) : R2 := fun x y H Q => ∃ vx vy h, Rep K H x vx ∧ Rep K H y vy ∧ HRep K h H ∧ W vx vy h (up K H Q)
theorem add_ll {l b : Addr} {vs ws : List V} {v u : Value} {Q : VK} (I : Inv X pins σ H s) (rx : RelV (.ref l) v) (ry : RelV (.ref b) u) (a1 : LL X.K H l vs) (a2 : LL X.K H b ws) (hz : vs.length + ws.length ≤ sizeLine)
    (q : ∀ p, H p = none → Q (.ref p) (upd H p (.lst (vs ++ ws)))) : wpAny (model X.prog X.w) X.A (binaryOp .Add v u) (EP X pins σ Q) X.xe s := by
  cases (show v = Value.ref l from rx)
  cases (show u = Value.ref b from ry)
  obtain ⟨_, its, n, r, hl, e⟩ := a1.at_ I
  obtain ⟨_, its2, n2, r2, hl2, e2⟩ := a2.at_ I
  refine PySem.P.add_list e e2 ?_ (by rw [List.size_toArray, List.size_toArray]; omega)
  rw [show its.toArray ++ its2.toArray = (its ++ its2).toArray by simp]
  exact ⟨.ref _, _, I.lnew (t' := s.toks) (r.append r2) (by rw [List.length_append]; omega), rfl, q _ I.fresh⟩
theorem add_tt {l b : Addr} {vs ws : List V} {v u : Value} {Q : VK} (I : Inv X pins σ H s) (rx : RelV (.ref l) v) (ry : RelV (.ref b) u) (a1 : SqT X.K H l vs) (a2 : SqT X.K H b ws) (hz : vs.length + ws.length ≤ sizeLine)
    (q0 : vs = [] → Q (.ref b) H) (q1 : vs ≠ [] → ws = [] → Q (.ref l) H) (q2 : ∀ p, H p = none → Q (.ref p) (upd H p (.tup (vs ++ ws)))) : wpAny (model X.prog X.w) X.A (binaryOp .Add v u) (EP X pins σ Q) X.xe s := by
  cases (show v = Value.ref l from rx)
  cases (show u = Value.ref b from ry)
  obtain ⟨its, r1, p1, _⟩ := I.tuple a1
  obtain ⟨its2, r2, p2, _⟩ := I.tuple a2
  obtain ⟨⟨c1, d1, t1, sl1⟩, ho, hc, n, hd⟩ := id p1
  obtain ⟨⟨c2, d2, t2, sl2⟩, ho2, hc2, n2, hd2⟩ := id p2
  simp only at hc hd hc2 hd2
  subst hc hd hc2 hd2
  by_cases hv : its = []
  · refine concat_meets ⟨_, ho, rfl⟩ ⟨_, ho2, rfl⟩ noFill_tuple_add seq_tuple_add PySem.F.slot_tuple_add PySem.F.entry_tuple_add (PySem.F.args_tuple_add_2 _ _)
      (PyProof.Rows.tuple_addW0 l b its.toArray its2.toArray n n2 d1 d2 sl1 sl2 (by simp [hv])) ⟨ho, ho2, ?_⟩
    exact ⟨.ref b, H, I, rfl, q0 (r1.nil_iff.mp hv)⟩
  · by_cases hw : its2 = []
    · refine concat_meets ⟨_, ho, rfl⟩ ⟨_, ho2, rfl⟩ noFill_tuple_add seq_tuple_add PySem.F.slot_tuple_add PySem.F.entry_tuple_add (PySem.F.args_tuple_add_2 _ _)
        (PyProof.Rows.tuple_addW1 l b its.toArray its2.toArray n n2 d1 d2 sl1 sl2 (by simpa using hv) (by simp [hw])) ⟨ho, ho2, ?_⟩
      exact ⟨.ref l, H, I, rfl, q1 (fun z => hv (r1.nil_iff.mpr z)) (r2.nil_iff.mp hw)⟩
    · refine concat_meets ⟨_, ho, rfl⟩ ⟨_, ho2, rfl⟩ noFill_tuple_add seq_tuple_add PySem.F.slot_tuple_add PySem.F.entry_tuple_add (PySem.F.args_tuple_add_2 _ _)
        (PyProof.Rows.tuple_addW2 l b its.toArray its2.toArray n n2 d1 d2 sl1 sl2 (by simpa using hv) (by simpa using hw) (by rw [List.size_toArray, List.size_toArray, ← r1.length, ← r2.length]; exact hz)) ⟨ho, ho2, ?_⟩
      rw [show its.toArray ++ its2.toArray = (its ++ its2).toArray by simp]
      refine ⟨.ref s.heap.objs.size, _, I.laid (t' := s.toks) (o := .tup (vs ++ ws)) (fun b ob z => Heap.get?_push_of_some _ z) (Nat.le_refl _) ?_, rfl, q2 _ I.fresh⟩
      exact ⟨by rw [List.length_append]; exact hz, _, r1.append r2, IsTup.new _ _⟩
theorem mul_l {l : Addr} {vs : List V} {k : Int} {v u : Value} {Q : VK} (I : Inv X pins σ H s) (rx : RelV (.ref l) v) (ry : RelV (.int k) u) (a1 : LL X.K H l vs) (h1 : -(2 ^ 63) ≤ k) (h2 : k < 2 ^ 63) (hz : vs.length * k.toNat ≤ sizeLine)
    (q : ∀ p, H p = none → Q (.ref p) (upd H p (.lst (List.replicate k.toNat vs).flatten))) : wpAny (model X.prog X.w) X.A (binaryOp .Mult v u) (EP X pins σ Q) X.xe s := by
  rcases a1 with a1 | ⟨o, a1⟩ | ⟨its, n, a1, a2, a3⟩
  · exact op_rep pins s σ H _ _ v u Q I rx ry ⟨l, k, vs, rfl, rfl, a1, h1, h2, hz, q⟩
  all_goals
    cases (show v = Value.ref l from rx)
    obtain ⟨t, rfl⟩ := (show ∃ t, u = Value.int k t from ry)
  · obtain ⟨_, _, its, n, r, e⟩ := I.hok l _ a1
    exact mul_at I e r h1 h2 hz q
  · have e := I.kIn l _ a1
    have e' : s.heap.get? l = some { cls := .type "list", data := .seq its.toList.toArray n } := by simpa using e
    exact mul_at I e' a3 h1 h2 hz q
where
  mul_at {l : Addr} {vs : List V} {k : Int} {t : Tok} {Q : VK} {its : List Value} {n : Nat} (I : Inv X pins σ H s) (e : s.heap.get? l = some { cls := .type "list", data := .seq its.toArray n }) (r : Vals vs its) (h1 : -(2 ^ 63) ≤ k) (h2 : k < 2 ^ 63)
      (hz : vs.length * k.toNat ≤ sizeLine) (q : ∀ p, H p = none → Q (.ref p) (upd H p (.lst (List.replicate k.toNat vs).flatten))) : wpAny (model X.prog X.w) X.A (binaryOp .Mult (.ref l) (.int k t)) (EP X pins σ Q) X.xe s := by
    have hlen : its.toArray.size * k.toNat ≤ sizeLine := by rw [List.size_toArray, ← r.length]; exact hz
    have hcap : ¬ its.toArray.size * k.toNat > (2 ^ 63 - 1) / 8 := by
      have : (sizeLine : Nat) ≤ (2 ^ 63 - 1) / 8 := by decide
      omega
    have hfit : ¬ (!Builtin.List.listFitsIndex k) = true := by rw [fitsIndex_both h1 h2]; exact Bool.false_ne_true
    have hlong : ¬ Builtin.List.listTooLong (its.toArray.size * k.toNat) = true := by rw [notLongL hlen]; exact Bool.false_ne_true
    have f0 : ∀ m : Nat, List.foldl (fun x1 x2 => x1 ++ x2) #[] (List.replicate m its.toArray) = (List.replicate m its).flatten.toArray := fun m => by simpa using foldl_rep its m []
    have hnew : List.foldl (fun x1 x2 => x1 ++ x2) #[] (List.replicate (if its.toArray.isEmpty = true then 0 else k.toNat) its.toArray) = (List.replicate k.toNat its).flatten.toArray := by
      rw [f0]
      cases its with
      | nil => simp
      | cons a b => rw [if_neg (by simp)]
    refine wpAny_binaryOp_repeat_ref (T := "list") (U := "int") (by decide) ⟨_, e, rfl⟩ (fun s' => typeIs_int s' k t) noFill_list_mul F.fills_int_mul F.slot_int_rmul repeat_list F.slot_int_index.lookup
      (call_meets F.slot_int_rmul (typeIs_int s k t) F.entry_int_rmul (F.args_int_rmul_2 _ _) (PySem.int___rmul___int_list k t l its.toArray n)
        ⟨e, rfl, ⟨_, e, rfl⟩, call_meets F.slot_list_mul ⟨_, e, rfl⟩ F.entry_list_mul (F.args_list_mul_2 _ _) (AutoListH.list___mul___list_int_3 l its.toArray n k t hfit hcap hlong) ⟨e, ?_⟩⟩)
    rw [hnew]
    exact ⟨.ref _, _, I.lnew (t' := s.toks) (r.rep k.toNat) (by rw [PyProof.Rows.lm_len_rep_flat, Nat.mul_comm]; exact hz), rfl, q _ I.fresh⟩
end
end MP
set_option Elab.async false
set_option linter.all false
set_option maxRecDepth 100000
set_option maxHeartbeats 1000000
namespace MP
open PySem PySem.Spec PyProof.Rows L2
theorem keys_of : ∀ {xs : List PV}, xs.all isKey = true → ∃ ks, Keys xs ks
  | [], _ => ⟨[], .nil⟩
  | x :: r, e => by
    rw [List.all_cons, Bool.and_eq_true] at e
    obtain ⟨ks, k⟩ := keys_of e.2
    cases x with
    | int i => exact ⟨_, .cons (.int i) k⟩
    | str i => exact ⟨_, .cons (.str i) k⟩
    | _ => exact nomatch e.1
theorem key_V {K : KF} {x : PV} {kk : Key} {H : Hp} {V : V} (kr : KeyRep x kk) (r : Rep K H V x) : V = kV kk := by
  cases kr with
  | int i => exact r.int_inv
  | str i => exact r.str_inv
theorem keys_V {K : KF} {xs : List PV} {ks : List Key} {H : Hp} (kr : Keys xs ks) : ∀ {vs : List L2.V}, Reps K H vs xs → vs = ks.map kV := by
  induction kr with
  | nil => intro vs r; cases r; rfl
  | cons h t ih =>
    intro vs r
    cases r with
    | cons a b => rw [key_V h a, ih b]; rfl
theorem eqK1_dec {a b : PV} {x y : Key} (ha : KeyRep a x) (hb : KeyRep b y) : eqK1 a b = decide (x = y) := by
  cases ha <;> cases hb <;> simp [eqK1]
theorem eqKs_dec {a b : List PV} {x y : List Key} (ha : Keys a x) (hb : Keys b y) : eqKs a b = decide (x = y) := by
  induction ha generalizing b y with
  | nil => cases hb <;> simp [eqKs]
  | cons h t ih =>
    cases hb with
    | nil => simp [eqKs]
    | cons h2 t2 =>
      simp only [eqKs, eqK1_dec h h2, ih t2]
      rw [Bool.eq_iff_iff]; simp
theorem look_rel {K : KF} {H : Hp} : ∀ {ks : List (List PV)} {kvs : List (List Key × V)} {vs : List PV} {key : List PV} {kk : List Key}, Paired Keys ks (kvs.map (·.1)) → Reps K H (kvs.map (·.2)) vs → Keys key kk →
    (valV kvs kk = none ∧ lookP ks vs key = none) ∨ ∃ V v, valV kvs kk = some V ∧ lookP ks vs key = some v ∧ Rep K H V v
  | _, [], _, _, _, hk, rs, _ => by
    cases hk
    cases rs
    exact .inl ⟨rfl, rfl⟩
  | _, kv :: kvs, _, key, kk, hk, rs, hy => by
    rw [List.map_cons] at hk rs
    cases hk with
    | cons h t =>
      cases rs with
      | cons r s =>
        have e := eqKs_dec h hy
        by_cases z : kv.1 = kk
        · rw [valV_pos z]
          refine .inr ⟨_, _, rfl, ?_, r⟩
          simp only [lookP]
          rw [if_pos (by rw [e]; simpa using z)]
        · rw [valV_neg z]
          simp only [lookP]
          rw [if_neg (by rw [e]; simpa using z)]
          exact look_rel t s hy
theorem map_tup_inj : ∀ {a b : List (List PV)}, a.map PV.tup = b.map PV.tup → a = b
  | [], [], _ => rfl
  | [], _ :: _, e => by cases e
  | _ :: _, [], e => by cases e
  | x :: a, y :: b, e => by
    rw [List.map_cons, List.map_cons] at e
    injection e with e1 e2
    cases e1
    rw [map_tup_inj e2]
theorem dtt_inv {K : KF} {H : Hp} {x : V} {ts : List PV} {ks : List (List PV)} {vs : List PV} (r : Rep K H x (.dtt ts vs)) (e : ts = ks.map PV.tup) :
    ∃ a o kvs, x = .ref a ∧ H a = some (.frz o (.dT kvs)) ∧ Paired Keys ks (kvs.map (·.1)) ∧ Reps K H (kvs.map (·.2)) vs := by
  cases r with
  | dtt a b c =>
    cases map_tup_inj e
    exact ⟨_, _, _, rfl, a, b, c⟩
theorem dget_rel {K : KF} {H : Hp} {x y : V} {ks : List (List PV)} {vs key : List PV} (r1 : Rep K H x (.dtt (ks.map PV.tup) vs)) (r2 : Rep K H y (.tup key)) (hk : key.all isKey = true) :
    ∃ a o, x = .ref a ∧ DGet H a y o ∧ ((o = none ∧ lookP ks vs key = none) ∨ ∃ V v, o = some V ∧ lookP ks vs key = some v ∧ Rep K H V v) := by
  obtain ⟨a, o, kvs, rfl, hf, pk, rs⟩ := dtt_inv r1 rfl
  obtain ⟨b, ws, rfl, hb, rw'⟩ := r2.tup_invS
  obtain ⟨kk, hkk⟩ := keys_of hk
  obtain rfl := keys_V hkk rw'
  exact ⟨a, valV kvs kk, rfl, .inr ⟨kvs, kk, b, .inr ⟨o, hf⟩, rfl, hb, rfl⟩, look_rel pk rs hkk⟩
end MP
set_option Elab.async false
set_option linter.all false
set_option maxRecDepth 100000
set_option maxHeartbeats 1000000
namespace MP
open PySem PySem.Spec PyProof.Rows L2
section
variable {X : Cx} {pins : List (Addr × Obj)} {σ : L2.St} {H : Hp} {s : Shared}
theorem op_fdivX : OpR X (binaryOp .FloorDiv) (rI (fun _ j => j ≠ 0 ∧ j.natAbs.log2 < 9000) fun i j => .int (i.fdiv j)) := opI fun _ _ _ _ _ _ _ hc q => floordiv_int hc.1 q (.inl (PyProof.noPylong_of_log2 hc.2))
theorem op_binW {op : Operator} : OpR X (binaryOp op) (RB X.K (binW op)) := by
  intro pins s σ H x y v u Q I rx ry h
  obtain ⟨vx, vy, h, r1, r2, hr, q⟩ := h
  unfold binW at q
  split at q
  · rename_i i j e1 e2
    cases rd_int e1; cases rd_int e2; cases r1.int_inv; cases r2.int_inv
    exact op_add pins s σ H _ _ v u Q I rx ry ⟨i, j, rfl, rfl, q _ _ .refl (.int _) hr⟩
  · rename_i i j e1 e2
    cases rd_int e1; cases rd_int e2; cases r1.int_inv; cases r2.int_inv
    exact op_sub pins s σ H _ _ v u Q I rx ry ⟨i, j, rfl, rfl, q _ _ .refl (.int _) hr⟩
  · rename_i i j e1 e2
    cases rd_int e1; cases rd_int e2; cases r1.int_inv; cases r2.int_inv
    rcases q.1 with z | z | z
    · exact op_mul pins s σ H _ _ v u Q I rx ry ⟨i, j, rfl, rfl, .inl (by omega), q.2 _ _ .refl (.int _) hr⟩
    · exact op_mul pins s σ H _ _ v u Q I rx ry ⟨i, j, rfl, rfl, .inr (by omega), q.2 _ _ .refl (.int _) hr⟩
    · exact op_mulW pins s σ H _ _ v u Q I rx ry ⟨i, j, rfl, rfl, z, q.2 _ _ .refl (.int _) hr⟩
  · rename_i i j e1 e2
    cases rd_int e1; cases rd_int e2; cases r1.int_inv; cases r2.int_inv
    have lg : ∀ n : Nat, n < 2 ^ 256 → n.log2 < 9000 := fun n hn => by
      by_cases z : n = 0
      · subst z; decide +kernel
      · have := (Nat.log2_lt z).mpr hn
        omega
    split at q
    · rename_i j0
      refine op_fdivW pins s σ H _ _ v u Q I rx ry ⟨i, j, rfl, rfl, ⟨j0, ?_⟩, q.2 _ _ .refl (.int _) hr⟩
      rcases q.1 with z | z
      · exact lg _ (by omega)
      · exact z
    · refine op_fdivX pins s σ H _ _ v u Q I rx ry ⟨i, j, rfl, rfl, ⟨q.1.1, ?_⟩, q.2 _ _ .refl (.int _) hr⟩
      rcases q.1.2 with z | z
      · exact lg _ (by omega)
      · exact z
  · rename_i i j e1 e2
    cases rd_int e1; cases rd_int e2; cases r1.int_inv; cases r2.int_inv
    exact op_mod pins s σ H _ _ v u Q I rx ry ⟨i, j, rfl, rfl, q.1, q.2 _ _ .refl (.int _) hr⟩
  · rename_i i j e1 e2
    cases rd_int e1; cases rd_int e2; cases r1.int_inv; cases r2.int_inv
    exact op_pow pins s σ H _ _ v u Q I rx ry ⟨i, j, rfl, rfl, q.1, q.2 _ _ .refl (.int _) hr⟩
  · rename_i xs ys e1 e2
    obtain ⟨a, vs, rfl, l1, s1⟩ := rep_lst r1 hr e1
    obtain ⟨b, ws, rfl, l2, s2⟩ := rep_lst r2 hr e2
    have z := laid_new (m := false) .refl hr (s1.append s2) ⟨by rw [List.length_append]; exact q.1, q.2⟩
    rw [List.length_append] at z
    exact thn (add_ll I rx ry l1 l2 z.1 z.2) fun _ _ k => EP.laid k
  · rename_i xs ys e1 e2
    cases rd_tup e1; cases rd_tup e2
    obtain ⟨a, vs, rfl, l1, s1⟩ := r1.tup_inv
    obtain ⟨b, ws, rfl, l2, s2⟩ := r2.tup_inv
    refine add_tt I rx ry l1 l2 (by rw [s1.length, s2.length]; exact q.1) (fun z => ?_) (fun _ z => ?_) (tup_new .refl hr (s1.append s2) q.2)
    · subst z
      cases s1
      exact q.2 _ _ .refl r2 hr
    · subst z
      cases s2
      have q2 := q.2
      rw [List.append_nil] at q2
      exact q2 _ _ .refl r1 hr
  · rename_i a b e1 e2
    cases rd_str e1; cases rd_str e2; cases r1.str_inv; cases r2.str_inv
    exact op_add_str pins s σ H _ _ v u Q I rx ry ⟨a, b, rfl, rfl, q.1, q.2 _ _ .refl (.str _) hr⟩
  · rename_i xs n e1 e2
    cases rd_int e2; cases r2.int_inv
    obtain ⟨a, vs, rfl, l1, s1⟩ := rep_lst r1 hr e1
    have lz : vs.length * n.toNat ≤ sizeLine := by
      rw [s1.length]
      rcases Int.le_total 0 n with hn | hn
      · have e : ((xs.length * n.toNat : Nat) : Int) = n * xs.length := by
          rw [Int.natCast_mul, Int.toNat_of_nonneg hn, Int.mul_comm]
        have := q.1.1
        omega
      · have e : n.toNat = 0 := by omega
        rw [e, Nat.mul_zero]; exact Nat.zero_le _
    by_cases hn : -(2 ^ 63) ≤ n
    · have z := laid_new (m := false) .refl hr (s1.rep n.toNat) ⟨by rw [← (s1.rep n.toNat).length, PyProof.Rows.lm_len_rep_flat, Nat.mul_comm]; exact lz, q.2⟩
      exact thn (mul_l I rx ry l1 hn (by have := q.1.2.1; rw [sizeLine_eq] at this; omega) lz z.2) fun _ _ k => EP.laid k
    · exact absurd q.1.2.2 (by omega)
  · exact q.elim
theorem eqOk.can {v : PV} (h : eqOk v) : (toD v).canLay0 = true ∧ (toD v).depth ≤ 64 := ⟨SeqAt.canLay_of_shaped h.2, SeqAt.depth_of_shaped h.2⟩
abbrev RC (K : KF) (W : PV → PV → MH → (Bool → MH → Prop) → Prop) : R2 := fun x y H Q => ∃ vx vy h, Rep K H x vx ∧ Rep K H y vy ∧ HRep K h H ∧ W vx vy h (upT K H fun k H' => Q (.bl k) H')
theorem Reps.nil_inv' {K : KF} {H : Hp} {vs : List V} (r : Reps K H vs []) : vs = [] := by cases r; rfl
theorem op_cmpW {op : CmpOp} (hu : X.A.units + 64 < cLine) : OpR X (compareOp op) (RC X.K (cmpW op)) := by
  intro pins s σ H x y v u Q I rx ry h
  obtain ⟨vx, vy, h, r1, r2, hr, q⟩ := h
  unfold cmpW at q
  split at q
  · unfold eqW at q
    split at q
    · rename_i z1 z2 xs e1 e2
      cases rd_tup e1
      cases rd_tup e2
      obtain ⟨l, vs, rfl, f1, rs1⟩ := r1.tup_inv
      obtain ⟨b, ws, rfl, f2, rs2⟩ := r2.tup_inv
      obtain rfl := rs2.nil_inv'
      cases (show v = Value.ref l from rx)
      cases (show u = Value.ref b from ry)
      obtain ⟨its, v1, p1, _⟩ := I.tuple f1
      obtain ⟨its2, v2, p2, _⟩ := I.tuple f2
      cases v2
      obtain ⟨o1, ho1, hc1, n1, hd1⟩ := id p1
      obtain ⟨o2, ho2, hc2, n2, hd2⟩ := id p2
      have rc := SeqAt.RcAt.tuples (A := X.A) (e := fun _ => true) p1 p2 (by omega) (fun j h1 h2 => absurd h2 (by simp)) X.prog X.w X.xe (EP X pins σ Q)
      refine rc ⟨.bl _, H, I, ?_, q _ .refl hr⟩
      have el : its.length = xs.length := v1.length.symm.trans rs1.length
      show _ = Value.bool xs.isEmpty
      congr 1
      cases its <;> cases xs <;> simp at el ⊢
    · rename_i z1 z2 a b e1 e2
      cases rd_str e1
      cases rd_str e2
      obtain rfl := r1.str_inv
      obtain rfl := r2.str_inv
      refine op_eq pins s σ H _ _ v u Q I rx ry ⟨rfl, ?_⟩
      have e : decide (V.str a = V.str b) = decide (a = b) := by simp
      rw [e]
      exact q _ .refl hr
    · obtain ⟨_, e1⟩ := (rd_rx I r1 hr rx q.1.1.1).reads
      obtain ⟨_, e2⟩ := (rd_rx I r2 hr ry q.1.2.1).reads
      exact SeqAt.compareEq_shaped e1 e2 q.1.1.2 q.1.2.2 hu ⟨.bl _, H, I, rfl, q.2 _ .refl hr⟩
  · unfold neW at q
    split at q
    · rename_i z1 z2 xs e1 e2
      cases rd_tup e1
      cases rd_tup e2
      obtain ⟨l, vs, rfl, f1, rs1⟩ := r1.tup_inv
      obtain ⟨b, ws, rfl, f2, rs2⟩ := r2.tup_inv
      obtain rfl := rs2.nil_inv'
      cases (show v = Value.ref l from rx)
      cases (show u = Value.ref b from ry)
      obtain ⟨its, v1, p1, _⟩ := I.tuple f1
      obtain ⟨its2, v2, p2, _⟩ := I.tuple f2
      cases v2
      have rc := SeqAt.RcNeAt.tuples (A := X.A) (e := fun _ => true) p1 p2 (by omega) (fun j h1 h2 => absurd h2 (by simp)) X.prog X.w X.xe (EP X pins σ Q)
      refine rc ⟨.bl _, H, I, ?_, q _ .refl hr⟩
      have el : its.length = xs.length := v1.length.symm.trans rs1.length
      show _ = Value.bool (!xs.isEmpty)
      congr 1
      cases its <;> cases xs <;> simp at el ⊢
    · rename_i z1 z2 a b e1 e2
      cases rd_str e1
      cases rd_str e2
      obtain rfl := r1.str_inv
      obtain rfl := r2.str_inv
      refine op_ne pins s σ H _ _ v u Q I rx ry ⟨rfl, ?_⟩
      have e : decide (V.str a = V.str b) = decide (a = b) := by simp
      rw [e]
      exact q _ .refl hr
    · obtain ⟨_, e1⟩ := (rd_rx I r1 hr rx q.1.1.1).reads
      obtain ⟨_, e2⟩ := (rd_rx I r2 hr ry q.1.2.1).reads
      exact SeqAt.compareNe_shaped e1 e2 q.1.1.2 q.1.2.2 hu ⟨.bl _, H, I, rfl, q.2 _ .refl hr⟩
  · obtain ⟨i, j, rfl, rfl, q⟩ := q
    cases r1.int_inv; cases r2.int_inv
    exact op_lt pins s σ H _ _ v u Q I rx ry ⟨i, j, rfl, rfl, q _ .refl hr⟩
  · obtain ⟨i, j, rfl, rfl, q⟩ := q
    cases r1.int_inv; cases r2.int_inv
    exact op_le pins s σ H _ _ v u Q I rx ry ⟨i, j, rfl, rfl, q _ .refl hr⟩
  · obtain ⟨i, j, rfl, rfl, q⟩ := q
    cases r1.int_inv; cases r2.int_inv
    exact op_gt pins s σ H _ _ v u Q I rx ry ⟨i, j, rfl, rfl, q _ .refl hr⟩
  · obtain ⟨i, j, rfl, rfl, q⟩ := q
    cases r1.int_inv; cases r2.int_inv
    exact op_ge pins s σ H _ _ v u Q I rx ry ⟨i, j, rfl, rfl, q _ .refl hr⟩
  · exact q.elim
theorem shaped_list {ds : List PyData} (h : SeqAt.shaped (.list ds) = true) : PyData.canLayAll0 ds = true ∧ PyData.depthAll ds + 1 ≤ 64 := by
  have a := SeqAt.canLay_of_shaped h
  have b := SeqAt.depth_of_shaped h
  simp only [PyData.canLay0, PyData.depth] at a b
  exact ⟨a, b⟩
theorem any_map (f : PyData → Bool) : ∀ xs : List PV, (toDs xs).any f = xs.any fun z => f (toD z)
  | [] => rfl
  | x :: r => by
    simp only [toDs, List.any_cons]
    rw [any_map f r]
theorem op_inW (neg : Bool) (hu : X.A.units + 65 < cLine) : OpR X (compareOp (if neg then .NotIn else .In)) (RC X.K (fun x y h T => inW x y h fun k h' => T (k != neg) h')) := by
  intro pins s σ H x y v u Q I rx ry h
  obtain ⟨vx, vy, h, r1, r2, hr, q⟩ := h
  unfold inW at q
  split at q
  · rename_i vy ts vs
    obtain ⟨ks, key, rfl, rfl, hk, q⟩ := q
    obtain ⟨a, o, rfl, g, rel⟩ := dget_rel r2 r1 hk
    cases (show u = Value.ref a from ry)
    have eo : o.isSome = (lookP ks vs key).isSome := by
      rcases rel with ⟨e1, e2⟩ | ⟨V, v, e1, e2, _⟩
      · rw [e1, e2]; rfl
      · rw [e1, e2]; rfl
    have q' := q _ .refl hr
    rw [← eo] at q'
    cases neg with
    | false => exact d_in (by omega) I g rx fun s' I' => ⟨.bl _, H, I', rfl, by simpa using q'⟩
    | true => exact d_notIn (by omega) I g rx fun s' I' => ⟨.bl _, H, I', rfl, by simpa using q'⟩
  rename_i vy
  obtain ⟨zs, e, ⟨ex, pz, sz⟩, q⟩ := q
  obtain ⟨_, e1⟩ := (rd_rx I r1 hr rx ex.1).reads
  obtain ⟨a, vs, rfl, f, rs⟩ := rep_seq r2 hr e
  cases (show u = Value.ref a from ry)
  obtain ⟨c1, c2⟩ := shaped_list sz
  have room : X.A.units + 1 + min (PyData.depthAll (toDs zs)) (toD (rd h vx)).depth < cLine := by
    have := Nat.min_le_left (PyData.depthAll (toDs zs)) (toD (rd h vx)).depth
    omega
  have q' := q _ .refl hr
  rw [show (zs.any fun z => eqP z (rd h vx)) = (toDs zs).any fun z => PyData.eqv z (toD (rd h vx)) from (any_map (fun z => PyData.eqv z (toD (rd h vx))) zs).symm] at q'
  rcases f with f | f
  · obtain ⟨_, its, n, rv, _, ho⟩ := f.at_ I
    obtain ⟨as, e2⟩ := (reps_rx I rs pz rv).reads
    have rl : Reads s.heap (.ref a) (.list (toDs zs)) (a :: as) := .list ho rfl rfl (by simpa using e2)
    cases neg with
    | false => exact SeqAt.in_list_reads rl e1 c1 ex.can.1 room ⟨.bl _, H, I, rfl, by simpa using q'⟩
    | true => exact SeqAt.notIn_list_reads rl e1 c1 ex.can.1 room ⟨.bl _, H, I, rfl, by simpa using q'⟩
  · obtain ⟨its, rv, ⟨o, ho, hc, n, hd⟩, _⟩ := I.tuple f
    obtain ⟨as, e2⟩ := (reps_rx I rs pz rv).reads
    have rl : Reads s.heap (.ref a) (.tuple (toDs zs)) as := .tuple ho hc hd (by simpa using e2)
    cases neg with
    | false => exact SeqAt.in_tuple_reads rl e1 c1 ex.can.1 room ⟨.bl _, H, I, rfl, by simpa using q'⟩
    | true => exact SeqAt.notIn_tuple_reads rl e1 c1 ex.can.1 room ⟨.bl _, H, I, rfl, by simpa using q'⟩
theorem op_isNW (neg : Bool) : OpR X (compareOp (if neg then .IsNot else .Is)) (fun x y H Q => y = .non ∧ ∃ vx h, Rep X.K H x vx ∧ HRep X.K h H ∧ isNW vx neg h (upT X.K H fun k H' => Q (.bl k) H')) := by
  intro pins s σ H x y v u Q I rx ry h
  obtain ⟨rfl, vx, h, r1, hr, q⟩ := h
  have key : ∀ k : Bool, (decide (x = .non)) = k → (if neg then !k else k) = (k != neg) := fun k _ => by cases neg <;> cases k <;> rfl
  have fin : Q (.bl (if neg then !decide (x = V.non) else decide (x = V.non))) H := by
    unfold isNW at q
    split at q
    · cases r1.non_inv
      have := q _ .refl hr
      cases neg <;> simpa using this
    · exact q.elim
    · have ne : x ≠ .non := by
        intro e
        subst e
        cases r1
        simp_all
      have := q _ .refl hr
      cases neg <;> simpa [ne] using this
  cases neg with
  | false => exact op_isN pins s σ H _ _ v u Q I rx ry ⟨rfl, fin⟩
  | true => exact op_notN pins s σ H _ _ v u Q I rx ry ⟨rfl, fin⟩
theorem op_isBW (b neg : Bool) : OpR X (compareOp (if neg then .IsNot else .Is)) (fun x y H Q => y = .bl b ∧ ∃ vx h, Rep X.K H x vx ∧ HRep X.K h H ∧ isBW vx b neg h (upT X.K H fun k H' => Q (.bl k) H')) := by
  intro pins s σ H x y v u Q I rx ry h
  obtain ⟨rfl, vx, h, r1, hr, q⟩ := h
  unfold isBW at q
  split at q
  · rename_i c
    cases r1.bl_inv
    have q := q _ .refl hr
    cases neg with
    | false => exact op_isBl pins s σ H _ _ v u Q I rx ry ⟨c, b, rfl, rfl, by cases c <;> cases b <;> exact q⟩
    | true => exact op_notBl pins s σ H _ _ v u Q I rx ry ⟨c, b, rfl, rfl, by cases c <;> cases b <;> exact q⟩
  · exact q.elim
theorem truW_V {K : KF} {H : Hp} {h : MH} {x : V} {vx : PV} {T : Bool → MH → Prop} (r : Rep K H x vx) (hr : HRep K h H) (q : truW vx h T) : ∃ k, TruV K x H k ∧ T k h := by
  unfold truW at q
  split at q
  · rename_i b e
    cases rd_bl e; cases r.bl_inv
    exact ⟨b, rfl, q⟩
  · rename_i e
    cases rd_non e; cases r.non_inv
    exact ⟨false, rfl, q⟩
  · rename_i i e
    cases rd_int e; cases r.int_inv
    refine ⟨decide (i ≠ 0), ?_, q⟩
    show decide (i ≠ 0) = (i != 0)
    by_cases h : i = 0 <;> simp [h]
  · rename_i xs e
    cases rd_tup e
    obtain ⟨a, vs, rfl, f, rs⟩ := r.tup_inv
    refine ⟨!xs.isEmpty, .inr (.inl ⟨vs, f, ?_⟩), q⟩
    cases rs <;> rfl
  · rename_i xs e
    obtain ⟨a, vs, rfl, f, rs⟩ := rep_lst r hr e
    refine ⟨!xs.isEmpty, .inl ⟨vs, f.sq, ?_⟩, q⟩
    cases rs <;> rfl
  · exact q.elim
theorem atI_eq {vs : List V} {xs : List PV} {K : KF} {H : Hp} (rs : Reps K H vs xs) {i : Int} {y : PV} (e : atI xs i = some y) : ∃ z, atI vs i = some z ∧ Rep K H z y := by
  unfold atI at e ⊢
  rw [rs.length]
  cases q : ixN xs.length i with
  | none => rw [q] at e; cases e
  | some j =>
    rw [q] at e
    obtain ⟨z, h1, h2⟩ := rs.get e
    exact ⟨z, h1, h2⟩
end
end MP
set_option Elab.async false
set_option linter.all false
set_option maxRecDepth 100000
set_option maxHeartbeats 1000000
namespace MP
open PySem PySem.Spec PyProof.Rows L2
section
variable {X : Cx} {pins : List (Addr × Obj)} {σ : L2.St} {H : Hp} {s : Shared}
theorem ix_W : IxR X (RB X.K idxW) := by
  intro value slice pins s σ H x y v u Q I rx ry h hs
  obtain ⟨vx, vy, h, r1, r2, hr, q⟩ := h
  unfold idxW at q
  split at q
  · rename_i xs k e
    obtain ⟨w, e1, q⟩ := q
    cases rd_tup e
    cases r2.int_inv
    obtain ⟨a, vs, rfl, f, rs⟩ := r1.tup_inv
    obtain ⟨z, e2, rz⟩ := atI_eq rs e1
    exact ix_tup value slice pins s σ H _ _ v u Q I rx ry ⟨a, vs, k, z, rfl, rfl, f, e2, q _ _ .refl rz hr⟩ hs
  · rename_i xs k e
    obtain ⟨w, e1, q⟩ := q
    cases r2.int_inv
    obtain ⟨a, vs, rfl, f, rs⟩ := rep_lst r1 hr e
    obtain ⟨z, e2, rz⟩ := atI_eq rs e1
    exact ix_list value slice pins s σ H _ _ v u Q I rx ry ⟨a, vs, k, z, rfl, rfl, f.sq, e2, q _ _ .refl rz hr⟩ hs
  · exact q.elim
theorem cutP_rep {K : KF} {H : Hp} {vs : List V} {xs : List PV} (rs : Reps K H vs xs) (l u : Option Int) : Reps K H (cutV vs l u) (slcW.cutP xs l u) := by
  unfold cutV slcW.cutP
  rw [rs.length]
  exact (rs.drop _).take _
theorem cutP_len (xs : List PV) (l u : Option Int) : (slcW.cutP xs l u).length ≤ xs.length := by
  unfold slcW.cutP
  rw [List.length_take, List.length_drop]
  omega
def rSl (K : KF) : V → Option Int → Option Int → Hp → VK → Prop := fun x lo hi H Q => ∃ vx h, Rep K H x vx ∧ HRep K h H ∧
  match rd h vx with
  | .tup xs => up K H Q (.tup (slcW.cutP xs lo hi)) h
  | .lst xs => up K H Q (.lst (slcW.cutP xs lo hi)) h
  | _ => False
theorem sl_W : SlR X (rSl X.K) := by
  intro pins s σ H x v vl vu lo hi sl Q I rx hs pl pu h
  obtain ⟨vx, h, r1, hr, q⟩ := h
  split at q
  · rename_i xs e
    cases rd_tup e
    obtain ⟨a, vs, rfl, f, rs⟩ := r1.tup_inv
    by_cases w : HT.sIx vs.length 0 lo = 0 ∧ HT.sIx vs.length vs.length hi = vs.length
    · cases (show v = Value.ref a from rx)
      obtain ⟨its, r, ht, hz⟩ := I.tuple f
      refine ⟨"tuple", _, PyProof.Rows.slot_tuple_getitem.lookup, ht.typeIs, ?_⟩
      have el : its.toArray.size = vs.length := by rw [List.size_toArray]; exact r.length.symm
      have w1 : HT.sIx its.toArray.size 0 lo = 0 := by rw [el]; exact w.1
      have w2 : HT.sIx its.toArray.size its.toArray.size hi = its.toArray.size := by rw [el]; exact w.2
      obtain ⟨os, hos, hcs, hds⟩ := id hs
      have hTs : s.TypeIs (.ref sl) "slice" := ⟨os, hos, hcs⟩
      have ecut : slcW.cutP xs lo hi = xs := by
        unfold slcW.cutP
        rw [← rs.length, w.1, w.2, List.drop_zero, Nat.sub_zero, rs.length, List.take_length]
      have fin : EP X pins σ Q (.ref a) s := ⟨.ref a, H, I, rfl, by rw [ecut] at q; exact q _ _ .refl r1 hr⟩
      unfold getItem
      try with_reducible refine wpAny_holding ?_
      first | refine wpAny_bind (wpAny_pure ?_) | skip
      refine wpAny_bind (wpAny_sequenceKey ht.typeIs (by decide) ?_)
      refine wpAny_bind (wpAny_callSpecial?_slot (name := Str.ofString "__getitem__") ht.typeIs PyProof.Rows.slot_tuple_getitem
        (wpAny_call_entry PyProof.Rows.slot_tuple_getitem ht.typeIs entry_tuple_getitem ?_ (args_tuple_getitem _ _)))
      show wpAny _ _ (Builtin.Tuple.tupleItemsOf (.ref a) >>= _) _ _ s
      refine wpAny_bind (tupleItemsOf_ ht ?_)
      refine wpAny_bind (wpAny_typeOf hTs ?_)
      rw [if_pos (by decide)]
      refine wpAny_bind (HT.sliceApplied_gen hs pl pu ?_)
      rw [w1, w2]
      have hyes : ((((0 : Nat) : Int) == 0 && (1 : Int) == 1 && (its.toArray.size - 0) == its.toArray.size) = true) := by simp
      show wpAny _ _ (if ((((0 : Nat) : Int) == 0 && (1 : Int) == 1 && (its.toArray.size - 0) == its.toArray.size) = true) then _ else _) _ _ s
      rw [if_pos hyes]
      obtain ⟨o, ho, hc, n, hd⟩ := id ht
      refine wpAny_bind (m := Builtin.Tuple.tupleIsExact _) ?_
      refine wpAny_bind (wpAny_typeOf ht.typeIs (wpAny_pure ?_))
      rw [if_pos (by decide)]
      exact wpAny_bind (wpAny_rule (wpAny_pure ⟨_, rfl, wpAny_pure fin⟩))
    · refine sl_tup pins s σ H _ v vl vu lo hi sl Q I rx hs pl pu ⟨a, vs, rfl, f, w, ?_⟩
      exact tup_new .refl hr (cutP_rep rs lo hi) q
  · rename_i xs e
    obtain ⟨a, vs, rfl, f, rs⟩ := rep_lst r1 hr e
    have z := laid_new (m := false) .refl hr (cutP_rep rs lo hi) ⟨by
      have := cutP_len xs lo hi
      have := (f.at_ I).1
      rw [rs.length] at this
      omega, q⟩
    obtain ⟨T, id, a1, a2, a3⟩ := sl_list pins s σ H _ v vl vu lo hi sl (Laid Q) I rx hs pl pu ⟨a, vs, rfl, f.sq, z.2⟩
    exact ⟨T, id, a1, a2, thn a3 fun _ _ k => EP.laid k⟩
  · exact q.elim
theorem rev_adjust (n : Nat) : Builtin.Slice.sliceAdjust none none (-1) (n : Int) = ((n : Int) - 1, -1) := rfl
theorem rev_places (n : Nat) : Builtin.Slice.slicePlaces ((n : Int) - 1) (-1) (-1) = n := by
  unfold Builtin.Slice.slicePlaces
  rw [if_neg (by decide)]
  by_cases h : (n : Int) - 1 > -1
  · rw [if_pos h]
    have : ((n : Int) - 1 - -1 - 1) / (- -1) + 1 = n := by
      have e : (- -1 : Int) = 1 := by decide
      rw [e, Int.ediv_one]
      omega
    rw [this]
    exact Int.toNat_natCast n
  · rw [if_neg h]
    omega
theorem rev_pick (xs : List Value) : ((List.range xs.length).filterMap fun (k : Nat) => xs.toArray[(((xs.length : Nat) : Int) - 1 + (k : Int) * (-1)).toNat]?) = xs.reverse := by
  have e : (fun (k : Nat) => xs.toArray[(((xs.length : Nat) : Int) - 1 + (k : Int) * (-1)).toNat]?) = (fun k => xs.toArray[k]?) ∘ fun k => xs.length - 1 - k := by
    funext k
    have : (((xs.length : Nat) : Int) - 1 + (k : Int) * (-1)).toNat = xs.length - 1 - k := by omega
    simp only [Function.comp, this]
  rw [e, ← List.filterMap_map, PySem.W.krv_range, List.filterMap_reverse]
  have := PySem.W.krv_all xs.toArray
  rw [List.size_toArray] at this
  rw [this]
theorem slice_rev {sl : Addr} {n : Nat} {t : Tok} {A : Around} {E : Value → Shared → Prop} {Q : Int × Int × Nat → Shared → Prop} (hs : s.heap.IsSliceOf sl .none .none (.int (-1) t))
    (h : Q ((n : Int) - 1, -1, n) s) : wpAny (model X.prog X.w) A (Builtin.Slice.sliceApplied (.ref sl) (pure (n : Int))) Q E s := by
  obtain ⟨os, hos, hcs, hds⟩ := id hs
  unfold Builtin.Slice.sliceApplied Builtin.Slice.sliceFields
  refine wpAny_bind (wpAny_bind (wpAny_field hos hds (x := .none) rfl (wpAny_bind (wpAny_field hos hds (x := .none) rfl (wpAny_bind (wpAny_field hos hds (x := .int (-1) t) rfl (wpAny_pure ?_)))))))
  refine wpAny_bind (HT.slicePart_ (.int _ _) ?_)
  show wpAny _ _ (if ((-1 : Int) == 0) = true then _ else _) _ _ s
  rw [if_neg (by decide)]
  refine wpAny_bind (HT.slicePart_ .none (wpAny_bind (HT.slicePart_ .none (wpAny_bind (wpAny_pure ?_)))))
  show wpAny _ _ (pure (((n : Int) - 1), (-1 : Int), Builtin.Slice.slicePlaces ((n : Int) - 1) (-1) (-1))) _ _ s
  rw [rev_places]
  exact wpAny_pure h
theorem rev_tup {a sl : Addr} {t : Tok} {its : List Value} {E : Value → Shared → Prop} {Q : Value → Shared → Prop} (ht : IsTup s.heap a its.toArray) (hs : s.heap.IsSliceOf sl .none .none (.int (-1) t)) (hz : its.length ≤ sizeLine)
    (h : Q (.ref s.heap.objs.size) { s with heap := s.heap.push { cls := .type "tuple", data := .seq its.reverse.toArray } }) : wpAny (model X.prog X.w) X.A (getItem (.ref a) (.ref sl)) Q E s := by
  obtain ⟨os, hos, hcs, hds⟩ := id hs
  have hTs : s.TypeIs (.ref sl) "slice" := ⟨os, hos, hcs⟩
  have htake : sizeOk (.seq its.reverse.toArray) := by
    show its.reverse.toArray.size ≤ sizeLine
    rw [List.size_toArray, List.length_reverse]
    exact hz
  unfold getItem
  try with_reducible refine wpAny_holding ?_
  first | refine wpAny_bind (wpAny_pure ?_) | skip
  refine wpAny_bind (wpAny_sequenceKey ht.typeIs (by decide) ?_)
  refine wpAny_bind (wpAny_callSpecial?_slot (name := Str.ofString "__getitem__") ht.typeIs PyProof.Rows.slot_tuple_getitem
    (wpAny_call_entry PyProof.Rows.slot_tuple_getitem ht.typeIs entry_tuple_getitem ?_ (args_tuple_getitem _ _)))
  show wpAny _ _ (Builtin.Tuple.tupleItemsOf (.ref a) >>= _) _ _ s
  refine wpAny_bind (tupleItemsOf_ ht ?_)
  refine wpAny_bind (wpAny_typeOf hTs ?_)
  rw [if_pos (by decide)]
  refine wpAny_bind (slice_rev (X := X) hs ?_)
  have hno : ¬ ((((its.toArray.size : Nat) : Int) - 1 == 0 && (-1 : Int) == 1 && its.toArray.size == its.toArray.size) = true) := by simp
  show wpAny _ _ (if ((((its.toArray.size : Nat) : Int) - 1 == 0 && (-1 : Int) == 1 && its.toArray.size == its.toArray.size) = true) then _ else _) _ _ s
  rw [if_neg hno]
  have ep : ((List.range its.toArray.size).filterMap fun (k : Nat) => its.toArray[(((its.toArray.size : Nat) : Int) - 1 + (k : Int) * (-1)).toNat]?) = its.reverse := by
    rw [List.size_toArray]
    exact rev_pick its
  rw [ep]
  first
    | exact wpAny_bind (m := Builtin.Tuple.tupleExact _) (wpAny_newObj_type (wpAny_pure ⟨_, rfl, wpAny_pure h⟩) htake)
    | exact wpAny_bind (wpAny_bind (m := Builtin.Tuple.tupleExact _) (wpAny_newObj_type (wpAny_pure ⟨_, rfl, wpAny_pure h⟩) htake))
    | exact wpAny_bind (wpAny_bind (m := Builtin.Tuple.tupleExact _) (wpAny_newObj_type (wpAny_pure (wpAny_pure ⟨_, rfl, wpAny_pure h⟩)) htake))
abbrev minus1 (p q : Pos) (k : Nat) : PySem.Expr := .UnaryOp .USub (.Constant (.int 1) k p) q
theorem pe_rev {e : PySem.Expr} {te : TE} {p pq p2 pos : Pos} {k : Nat} (he : PE X e te) :
    PE X (.Subscript e (.Slice none none (some (minus1 p pq k)) p2) pos) (fun σ H Q => te σ H fun x H1 => ∃ vx h, Rep X.K H1 x vx ∧ HRep X.K h H1 ∧ revW vx h (up X.K H1 Q)) := by
  refine ⟨fun pins s σ H Q I h => ?_⟩
  refine Subscript_ (thn (he.run pins s σ H _ I h) fun v s1 ⟨x, H1, I1, r1, q1⟩ => ?_)
  refine wpAny_Slice ?_
  rw [evalPart_none, evalPart_some]
  refine wpAny_pure (wpAny_pure ?_)
  refine thn ((pe_un un_neg pe_int).run pins s1 σ H1 (fun z H2 => z = .int (-1) ∧ H2 = H1) I1 ⟨1, rfl, rfl, rfl⟩) fun vk s3 ⟨z, H2, I3, rz, e1, e2⟩ => ?_
  subst e2
  subst e1
  obtain ⟨t, rfl⟩ := (show ∃ t, vk = Value.int (-1) t from rz)
  obtain ⟨vx, h, r2, hr, q⟩ := q1
  have I4 : Inv X pins σ H2 { s3 with heap := s3.heap.push { cls := .type "slice", data := .fields #[.none, .none, .int (-1) t] } } := I3.kept (t' := s3.toks) fun b ob q => Heap.get?_push_of_some _ q
  show wpAny (model X.prog X.w) X.A (subscriptTail e (.Slice none none (some (minus1 p pq k)) p2) v (.ref s3.heap.objs.size)) (EP X pins σ Q) X.xe { s3 with heap := s3.heap.push { cls := .type "slice", data := .fields #[.none, .none, .int (-1) t] } }
  unfold revW at q
  split at q
  · rename_i xs e0
    cases rd_tup e0
    obtain ⟨a, vs, rfl, f, rs⟩ := r2.tup_inv
    cases (show v = Value.ref a from r1)
    obtain ⟨its, r, ht, hz⟩ := I4.tuple f
    refine tail_any (ops := [.ref a, .ref s3.heap.objs.size]) ht.typeIs PyProof.Rows.slot_tuple_getitem.lookup (rev_tup ht (Heap.IsSliceOf.new ..) (by rw [← r.length]; exact hz) ?_) (by with_unfolding_all rfl)
    refine ⟨.ref _, _, I4.laid (t' := s3.toks) (o := .tup vs.reverse) (fun b ob q => Heap.get?_push_of_some _ q) (Nat.le_refl _) ?_, rfl, tup_new .refl hr rs.rev q _ (I4.hok.fresh (Nat.le_refl _))⟩
    exact ⟨by rw [List.length_reverse]; exact hz, _, vals_rev r, IsTup.new _ _⟩
  · rename_i xs e0
    obtain ⟨a, vs, rfl, f, rs⟩ := rep_lst r2 hr e0
    cases (show v = Value.ref a from r1)
    obtain ⟨hz, its, n, r, hl, ho⟩ := f.at_ I4
    have isl : ({ s3 with heap := s3.heap.push { cls := .type "slice", data := .fields #[.none, .none, .int (-1) t] } } : Shared).heap.IsList a its.toArray := ⟨_, ho, rfl, n, rfl⟩
    have z := laid_new (m := false) .refl hr rs.rev ⟨by rw [← rs.rev.length, List.length_reverse]; exact hz, q⟩
    refine tail_any (ops := [.ref a, .ref s3.heap.objs.size]) isl.typeIs slot_list_getitem.lookup (wpAny_getItem_list_slice isl (Heap.IsSliceOf.new ..) .none .none (.int _ _) (by decide) ?_ (by rw [List.size_toArray, ← hl]; exact hz)) (by with_unfolding_all rfl)
    rw [PySem.W.krv_pick]
    refine EP.laid ⟨.ref _, _, I4.lnew (t' := s3.toks) (vals_rev r) (by rw [List.length_reverse]; exact hz), rfl, z.2 _ I4.fresh⟩
  · exact q.elim
where
  vals_rev {vs : List V} {us : List Value} (r : Vals vs us) : Vals vs.reverse us.reverse := by
    induction vs generalizing us with
    | nil => cases r; exact .nil
    | cons v vs ih => cases r with
      | cons a b => simp only [List.reverse_cons]; exact (ih b).append (.cons a .nil)
end
end MP
set_option Elab.async false
set_option linter.all false
set_option maxRecDepth 100000
set_option maxHeartbeats 1000000
namespace MP
open PySem PySem.Spec PyProof.Rows L2
section
variable {X : Cx} {pins : List (Addr × Obj)} {σ : L2.St} {H : Hp} {s : Shared}
theorem lst_wr {K : KF} {h : MH} {H : Hp} {a : Addr} {xs ys : List PV} {ws : List V} (hr : HRep K h H) (e : h a = some (.lst xs)) (rs : ∀ H', Pres H H' → Reps K H' ws ys) :
    ∃ vs, H a = some (.lst vs) ∧ Reps K H vs xs ∧ HRep K (h.put a (.lst ys)) (upd H a (.lst ws)) ∧ Pres H (upd H a (.lst ws)) := by
  obtain ⟨o, h1, h2⟩ := hr a _ e
  obtain ⟨vs, rfl, r⟩ := h2.lst_inv
  obtain ⟨p, q⟩ := hr.wr e (c' := .lst ys) (o' := .lst ws) fun H' pr => .lst (rs H' pr)
  exact ⟨vs, h1, r, p, q⟩
abbrev RM (K : KF) (m : M) : V → List V → Hp → VK → Prop := fun x vs H Q => ∃ vx ys h, Rep K H x vx ∧ Reps K H vs ys ∧ HRep K h H ∧ methW vx m ys h (up K H Q)
theorem lst_at {K : KF} {h : MH} {H : Hp} {a : Addr} {xs : List PV} (hr : HRep K h H) (e : h a = some (.lst xs)) : ∃ vs, H a = some (.lst vs) ∧ Reps K H vs xs := by
  obtain ⟨o, h1, h2⟩ := hr a _ e
  obtain ⟨vs, rfl, r⟩ := h2.lst_inv
  exact ⟨vs, h1, r⟩
theorem Reps.one {K : KF} {H : Hp} {vs : List V} {x : PV} (r : Reps K H vs [x]) : ∃ v, vs = [v] ∧ Rep K H v x := by
  cases r with
  | cons a b => cases b; exact ⟨_, rfl, a⟩
theorem Reps.nil_inv {K : KF} {H : Hp} {vs : List V} (r : Reps K H vs []) : vs = [] := by cases r; rfl
theorem Reps.dropLast {K : KF} {H : Hp} {vs : List V} {xs : List PV} (r : Reps K H vs xs) : Reps K H vs.dropLast xs.dropLast := by
  rw [List.dropLast_eq_take, List.dropLast_eq_take, r.length]
  exact r.take _
theorem mt_appendW : MtR X "list.append" (RM X.K .append) := by
  intro pins s σ H x vs v us Q I rx rv h
  obtain ⟨vx, ys, h, r1, r2, hr, q⟩ := h
  unfold methW at q
  split at q <;> first | exact q.elim | skip
  rename_i a y he
  · obtain ⟨xs, e, hz, q⟩ := q
    cases r1.loc_inv
    obtain ⟨w, rfl, rw'⟩ := r2.one
    obtain ⟨ws, h1, rs⟩ := lst_at hr e
    obtain ⟨_, _, _, k1, k2⟩ := lst_wr (ys := xs ++ [y]) (ws := ws ++ [w]) hr e fun H' p => (rs.keep p).append (.cons (rw'.keep p) .nil)
    exact mt_append pins s σ H _ _ v us Q I rx rv ⟨a, ws, w, rfl, rfl, h1, by rw [rs.length]; exact hz, q _ _ k2 .non k1⟩
  all_goals contradiction
theorem mt_pop0W : MtR X "list.pop" (RM X.K .pop0) := by
  intro pins s σ H x vs v us Q I rx rv h
  obtain ⟨vx, ys, h, r1, r2, hr, q⟩ := h
  unfold methW at q
  split at q <;> first | exact q.elim | skip
  all_goals first | contradiction | skip
  rename_i a he
  obtain ⟨xs, y, e, hy, q⟩ := q
  cases r1.loc_inv
  cases r2.nil_inv
  obtain ⟨ws, h1, rs⟩ := lst_at hr e
  obtain ⟨z, hz, rz⟩ := rs.get hy
  obtain ⟨_, _, _, k1, k2⟩ := lst_wr (ys := xs.dropLast) (ws := ws.dropLast) hr e fun H' p => (rs.keep p).dropLast
  exact mt_pop pins s σ H _ _ v us Q I rx rv ⟨a, ws, z, rfl, rfl, h1, by rw [rs.length]; exact hz, q _ _ k2 (rz.keep k2) k1⟩
theorem mt_pop1W : MtR X "list.pop" (RM X.K .pop1) := by
  intro pins s σ H x vs v us Q I rx rv h
  obtain ⟨vx, ys, h, r1, r2, hr, q⟩ := h
  unfold methW at q
  split at q <;> first | exact q.elim | skip
  all_goals first | contradiction | skip
  rename_i a i he
  obtain ⟨xs, k, y, e, b1, b2, hk, hy, q⟩ := q
  cases r1.loc_inv
  obtain ⟨w, rfl, rw'⟩ := r2.one
  cases rw'.int_inv
  obtain ⟨ws, h1, rs⟩ := lst_at hr e
  obtain ⟨z, hz, rz⟩ := rs.get hy
  obtain ⟨_, _, _, k1, k2⟩ := lst_wr (ys := xs.eraseIdx k) (ws := ws.eraseIdx k) hr e fun H' p => (rs.keep p).eraseIdx k
  exact mt_popAt pins s σ H _ _ v us Q I rx rv ⟨a, ws, i, k, z, rfl, rfl, h1, b1, b2, by rw [rs.length]; exact hk, hz, q _ _ k2 (rz.keep k2) k1⟩
theorem mt_extendW : MtR X "list.extend" (RM X.K .extend) := by
  intro pins s σ H x vs v us Q I rx rv h
  obtain ⟨vx, ys, h, r1, r2, hr, q⟩ := h
  unfold methW at q
  split at q <;> first | exact q.elim | skip
  all_goals first | contradiction | skip
  rename_i a y he
  obtain ⟨xs, zs, e, hzs, hz, q⟩ := q
  cases r1.loc_inv
  obtain ⟨w, rfl, rw'⟩ := r2.one
  obtain ⟨b, us2, rfl, f, r3⟩ := rep_lst rw' hr hzs
  obtain ⟨ws, h1, rs⟩ := lst_at hr e
  obtain ⟨_, _, _, k1, k2⟩ := lst_wr (ys := xs ++ zs) (ws := ws ++ us2) hr e fun H' p => (rs.keep p).append (r3.keep p)
  cases (show v = Value.ref a from rx)
  obtain ⟨u, rfl, ru⟩ := rv.one
  cases (show u = Value.ref b from ru)
  obtain ⟨_, its, n, r, hl, eo⟩ := I.lstM h1
  obtain ⟨_, its2, n2, r4, hl2, eo2⟩ := f.at_ I
  have hsz : its.toArray.size + its2.toArray.size ≤ sizeLine := by
    rw [List.size_toArray, List.size_toArray, ← hl, ← hl2, rs.length, r3.length]
    exact hz
  have hlong : ¬ (!its.toArray.isEmpty && Builtin.List.listTooLong (its.toArray.size + its2.toArray.size)) = true := by
    rw [notLongL hsz, Bool.and_false]
    exact Bool.false_ne_true
  refine call_meets F.slot_list_extend ⟨_, eo, rfl⟩ F.entry_list_extend (F.args_list_extend_2 _ _)
    (AutoSeq1.list_extend_list_list_0 a its.toArray n b its2.toArray n2 hlong (by rw [List.size_toArray] at hsz ⊢; omega) (by omega)) ⟨eo, eo2, ?_⟩
  refine ⟨.non, _, I.lset (its' := its ++ its2) h1 eo (by simp) (r.append r4) ?_, rfl, q _ _ k2 .non k1⟩
  rw [List.length_append, rs.length, r3.length]
  exact hz
theorem set_W : PSet X (fun o i v H Q => ∃ vo vi vv h, Rep X.K H o vo ∧ Rep X.K H i vi ∧ Rep X.K H v vv ∧ HRep X.K h H ∧ subW vo vi vv h fun h' => ∀ H', Pres H H' → HRep X.K h' H' → Q H') := by
  intro pins s σ H o i v ov iv u Q I ro ri rv h
  obtain ⟨vo, vi, vv, h, r1, r2, r3, hr, q⟩ := h
  unfold subW at q
  split at q <;> first | exact q.elim | skip
  rename_i a k
  obtain ⟨xs, j, e, hj, q⟩ := q
  cases r1.loc_inv
  cases r2.int_inv
  obtain ⟨ws, h1, rs⟩ := lst_at hr e
  obtain ⟨_, _, _, k1, k2⟩ := lst_wr (ys := xs.set j vv) (ws := ws.set j v) hr e fun H' p => (rs.keep p).set j (r3.keep p)
  exact set_list pins s σ H _ _ v ov iv u Q I ro ri rv ⟨a, ws, k, j, rfl, rfl, h1, by rw [rs.length]; exact hj, q _ k2 k1⟩
end
end MP
set_option Elab.async false
set_option linter.all false
set_option maxRecDepth 100000
set_option maxHeartbeats 1000000
namespace MP
open PySem PySem.Spec PyProof.Rows L2
section
variable {X : Cx} {pins : List (Addr × Obj)} {σ : L2.St} {H : Hp} {s : Shared}
def tyN : PV → Option String
  | .non => some "NoneType"
  | .bl _ => some "bool"
  | .int _ => some "int"
  | .str _ => some "str"
  | .tup _ => some "tuple"
  | .lst _ => some "list"
  | .dct _ _ => some "dict"
  | .cst _ => some "tuple"
  | _ => none
def kitTab : List (String × String × Bool) := ["NoneType", "bool", "int", "str", "tuple", "list", "dict"].flatMap fun a => ["int", "bool", "tuple", "str", "list", "dict"].map fun b => (a, b, a == b || (a == "bool" && b == "int"))
theorem kit_all : (kitTab.all fun p => match kitB p.1 p.2.1 with | some r => r == p.2.2 | none => false) = true := by decide +kernel
theorem kit_at {a b : String} {r : Bool} (h : (a, b, r) ∈ kitTab) : kitB a b = some r := by
  have := List.all_eq_true.mp kit_all _ h
  simp only at this
  split at this
  · rename_i r' e
    rw [e, beq_iff_eq.mp this]
  · cases this
theorem isT_kit {t : String} {v : PV} {b : Bool} (ht : tyCls t) (h : isT t v = some b) : ∃ a, tyN v = some a ∧ kitB a t = some b := by
  cases v with
  | loc a => cases h
  | fn f => cases h
  | dtt _ _ => cases h
  | cst x =>
    refine ⟨_, rfl, kit_at ?_⟩
    rcases ht with rfl | rfl | rfl | rfl | rfl | rfl <;> (simp only [isT, Option.some.injEq] at h; subst h; decide)
  | non =>
    refine ⟨_, rfl, kit_at ?_⟩
    rcases ht with rfl | rfl | rfl | rfl | rfl | rfl <;> (simp only [isT, Option.some.injEq] at h; subst h; decide)
  | bl x =>
    refine ⟨_, rfl, kit_at ?_⟩
    rcases ht with rfl | rfl | rfl | rfl | rfl | rfl <;> (simp only [isT, Option.some.injEq] at h; subst h; decide)
  | int x =>
    refine ⟨_, rfl, kit_at ?_⟩
    rcases ht with rfl | rfl | rfl | rfl | rfl | rfl <;> (simp only [isT, Option.some.injEq] at h; subst h; decide)
  | str x =>
    refine ⟨_, rfl, kit_at ?_⟩
    rcases ht with rfl | rfl | rfl | rfl | rfl | rfl <;> (simp only [isT, Option.some.injEq] at h; subst h; decide)
  | tup x =>
    refine ⟨_, rfl, kit_at ?_⟩
    rcases ht with rfl | rfl | rfl | rfl | rfl | rfl <;> (simp only [isT, Option.some.injEq] at h; subst h; decide)
  | lst x =>
    refine ⟨_, rfl, kit_at ?_⟩
    rcases ht with rfl | rfl | rfl | rfl | rfl | rfl <;> (simp only [isT, Option.some.injEq] at h; subst h; decide)
  | dct x y =>
    refine ⟨_, rfl, kit_at ?_⟩
    rcases ht with rfl | rfl | rfl | rfl | rfl | rfl <;> (simp only [isT, Option.some.injEq] at h; subst h; decide)
theorem kit_v (I : Inv X pins σ H s) {h : MH} {x : V} {v : PV} {u : Value} {a : String} (r : Rep X.K H x v) (hr : HRep X.K h H) (rx : RelV x u) (e : tyN (rd h v) = some a) :
    ∃ P : Heap → Prop, PySem.W.KitX X.K u (.type a) P ∧ P s.heap ∧ u ≠ .builtin "__main__.__loader__#opaque" := by
  by_cases hl : ∃ xs, rd h v = .lst xs
  · obtain ⟨xs, e1⟩ := hl
    rw [e1] at e
    cases e
    obtain ⟨a, vs, rfl, ll, _⟩ := rep_lst r hr e1
    cases (show u = Value.ref a from rx)
    obtain ⟨_, its, n, _, _, ho⟩ := ll.at_ I
    exact ⟨_, PySem.W.kitx_list, ⟨_, ho, rfl⟩, fun z => nomatch z⟩
  · have e1 : rd h v = v := by
      cases v with
      | loc a =>
        exfalso
        simp only [rd] at e hl
        split at e
        · rename_i q; exact hl ⟨_, by rw [q]⟩
        · cases e
      | _ => rfl
    rw [e1] at e
    cases r with
    | non => cases e; exact kit_of I rx (.base .non)
    | bl b => cases e; exact kit_of I rx (.base (.bl b))
    | int i => cases e; exact kit_of I rx (.base (.int i))
    | str y => cases e; exact kit_of I rx (.base (.str y))
    | @tup a vs xs sq rs =>
      cases e
      cases (show u = Value.ref a from rx)
      obtain ⟨its, _, ⟨o, ho, hc, _⟩, _⟩ := I.tuple (.inl (.inl sq))
      exact ⟨_, PySem.W.kitx_tuple, ⟨o, ho, hc⟩, fun z => nomatch z⟩
    | @lst a vs xs sq rs => exact absurd ⟨_, e1⟩ hl
    | @dctK a o kvs ks vs hf _ _ => cases e; exact kit_of I rx (.fDict hf)
    | @dctT a o kvs ks vs hf _ _ =>
      cases e
      cases (show u = Value.ref a from rx)
      obtain ⟨_, _, _, _, _, o, es, ep, ho, hx, _⟩ := I.hok _ _ hf
      exact ⟨_, PySem.W.kitx_dict, ⟨o, ho, hx.1⟩, fun z => nomatch z⟩
    | loc a => cases e
    | fn _ _ => cases e
    | dtt _ _ _ => cases e
    | @cst a ns hc =>
      cases e
      cases (show u = Value.ref a from rx)
      obtain ⟨o, its, n, lk, oc, _⟩ := hc
      exact ⟨_, PySem.W.kitx_tuple, ⟨o, I.kIn _ _ lk, oc⟩, fun z => nomatch z⟩
theorem cr_isi {t : String} : CallR X (.builtin "isinstance") (fun xs H Q => ∃ x v h b, xs = [x, .ty t] ∧ Rep X.K H x v ∧ HRep X.K h H ∧ tyCls t ∧ isT t (rd h v) = some b ∧ Q (.bl b) H) := by
  intro pins s σ H xs us Q I r h
  obtain ⟨x, v, h, b, rfl, rv, hr, ht, e, q⟩ := h
  obtain ⟨u1, u2, rfl, r1, r2⟩ := vals2 r
  cases (show u2 = Value.type t from r2)
  obtain ⟨a, ea, ek⟩ := isT_kit ht e
  obtain ⟨P, Z, p, hx⟩ := kit_v I rv hr r1 ea
  exact PySem.W.kia_one Z I.kIn p (kit_ty ek) hx fun tk => ⟨.bl b, H, I.tok tk, rfl, q⟩
theorem Reps.two {K : KF} {H : Hp} {vs : List V} {x y : PV} (r : Reps K H vs [x, y]) : ∃ v w, vs = [v, w] ∧ Rep K H v x ∧ Rep K H w y := by
  cases r with
  | cons a b => obtain ⟨w, rfl, c⟩ := b.one; exact ⟨_, _, rfl, a, c⟩
theorem intsP_inv : ∀ {xs : List PV} {ns : List Int}, intsP xs = some ns → xs = ns.map PV.int
  | [], _, e => by cases e; rfl
  | .int i :: r, ns, e => by
    simp only [intsP] at e
    cases q : intsP r with
    | none => rw [q] at e; cases e
    | some ms =>
      rw [q] at e
      cases e
      rw [intsP_inv q]
      rfl
  | .non :: _, _, e => by cases e
  | .bl _ :: _, _, e => by cases e
  | .str _ :: _, _, e => by cases e
  | .tup _ :: _, _, e => by cases e
  | .lst _ :: _, _, e => by cases e
  | .dct _ _ :: _, _, e => by cases e
  | .loc _ :: _, _, e => by cases e
  | .fn _ :: _, _, e => by cases e
  | .cst _ :: _, _, e => by cases e
  | .dtt _ _ :: _, _, e => by cases e
theorem boolsP_inv : ∀ {xs : List PV} {ns : List Bool}, boolsP xs = some ns → xs = ns.map PV.bl
  | [], _, e => by cases e; rfl
  | .bl i :: r, ns, e => by
    simp only [boolsP] at e
    cases q : boolsP r with
    | none => rw [q] at e; cases e
    | some ms =>
      rw [q] at e
      cases e
      rw [boolsP_inv q]
      rfl
  | .non :: _, _, e => by cases e
  | .int _ :: _, _, e => by cases e
  | .str _ :: _, _, e => by cases e
  | .tup _ :: _, _, e => by cases e
  | .lst _ :: _, _, e => by cases e
  | .dct _ _ :: _, _, e => by cases e
  | .loc _ :: _, _, e => by cases e
  | .fn _ :: _, _, e => by cases e
  | .cst _ :: _, _, e => by cases e
  | .dtt _ _ :: _, _, e => by cases e
def bltV : B → Value
  | .abs => .builtin "abs" | .int => .type "int" | .len => .builtin "len" | .max2 => .builtin "max" | .min2 => .builtin "min"
  | .repr => .builtin "repr" | .str => .type "str" | .all => .builtin "all" | .any => .builtin "any" | .sum => .builtin "sum"
  | .max1 => .builtin "max" | .min1 => .builtin "min"
abbrev RBl (K : KF) (b : B) : List V → Hp → VK → Prop := fun xs H Q => ∃ vs h, Reps K H xs vs ∧ HRep K h H ∧ bltW b vs h (up K H Q)
theorem cr_blt (b : B) (hc : X.calm = true) (hg : X.A.guards = some []) (hu : X.A.units + 66 < cLine) : CallR X (bltV b) (RBl X.K b) := by
  intro pins s σ H xs us Q I r h
  obtain ⟨vs, h, rs, hr, q⟩ := h
  unfold bltW at q
  split at q
  · obtain ⟨v, rfl, rv⟩ := rs.one
    cases rv.int_inv
    exact call_abs pins s σ H _ us Q I r ⟨_, rfl, q _ _ .refl (.int _) hr⟩
  · obtain ⟨v, rfl, rv⟩ := rs.one
    cases rv.int_inv
    exact call_int1 pins s σ H _ us Q I r (.inl ⟨_, rfl, q _ _ .refl (.int _) hr⟩)
  · obtain ⟨v, rfl, rv⟩ := rs.one
    cases rv.bl_inv
    exact call_int1 pins s σ H _ us Q I r (.inr ⟨_, rfl, q _ _ .refl (.int _) hr⟩)
  · obtain ⟨v, rfl, rv⟩ := rs.one
    obtain ⟨a, rfl, hc⟩ := rv.cst_inv
    refine call_len_seq pins s σ H _ us Q I r ⟨a, _, rfl, .inr (.inr hc), ?_⟩
    rw [List.length_map]; exact q _ _ .refl (.int _) hr
  · obtain ⟨v, rfl, rv⟩ := rs.one
    obtain ⟨ys, e, q⟩ := q
    obtain ⟨a, ws, rfl, f, r3⟩ := rep_seq rv hr e
    refine call_len_seq pins s σ H _ us Q I r ⟨a, ws, rfl, ?_, ?_⟩
    · rcases f with f | f
      · exact .inl f.sq
      · exact .inr f
    · rw [r3.length]; exact q _ _ .refl (.int _) hr
  · obtain ⟨v, w, rfl, rv, rw'⟩ := rs.two
    cases rv.int_inv; cases rw'.int_inv
    exact call_max2 hc pins s σ H _ us Q I r ⟨_, _, rfl, q _ _ .refl (.int _) hr⟩
  · obtain ⟨v, w, rfl, rv, rw'⟩ := rs.two
    cases rv.int_inv; cases rw'.int_inv
    exact call_min2 hc pins s σ H _ us Q I r ⟨_, _, rfl, q _ _ .refl (.int _) hr⟩
  · rename_i v0
    obtain ⟨v, rfl, rv⟩ := rs.one
    obtain ⟨u, rfl, ru⟩ := vals1 r
    obtain ⟨⟨p1, p2, p3, p4⟩, q⟩ := q
    refine repr_rx (rep_rx I rv p1 ru) p2 hg (by omega) p4 fun h' u' tk hk => ?_
    exact ⟨.str _, H, I.kept (t' := tk) hk, ⟨u', rfl⟩, q _ _ .refl (.str _) hr⟩
  · obtain ⟨v, rfl, rv⟩ := rs.one
    cases rv.int_inv
    exact call_str_int pins s σ H _ us Q I r ⟨_, rfl, q.1, q.2 _ _ .refl (.str _) hr⟩
  · obtain ⟨v, rfl, rv⟩ := rs.one
    obtain ⟨ys, bs, e, eb, q⟩ := q
    obtain ⟨a, ws, rfl, f, r3⟩ := rep_lst rv hr e
    cases boolsP_inv eb
    cases r3.bls
    exact cr_all hc pins s σ H _ us Q I r ⟨a, bs, rfl, f.sq, q _ _ .refl (.bl _) hr⟩
  · obtain ⟨v, rfl, rv⟩ := rs.one
    obtain ⟨ys, bs, e, eb, q⟩ := q
    obtain ⟨a, ws, rfl, f, r3⟩ := rep_lst rv hr e
    cases boolsP_inv eb
    cases r3.bls
    exact cr_any hc pins s σ H _ us Q I r ⟨a, bs, rfl, f.sq, q _ _ .refl (.bl _) hr⟩
  · obtain ⟨v, rfl, rv⟩ := rs.one
    obtain ⟨ys, ns, e, eb, q⟩ := q
    obtain ⟨a, ws, rfl, f, r3⟩ := rep_lst rv hr e
    cases intsP_inv eb
    cases r3.ints
    exact cr_sum hc pins s σ H _ us Q I r ⟨a, ns, rfl, f.sq, q _ _ .refl (.int _) hr⟩
  · exact q.elim
theorem reads_in {h : Heap} {v : Value} {d : PyData} {as : List Addr} (r : Reads h v d as) : ∀ b ∈ as, ∃ o, h.get? b = some o :=
  Reads.rec (motive_1 := fun _ _ as _ => ∀ b ∈ as, ∃ o, h.get? b = some o) (motive_2 := fun _ _ as _ => ∀ b ∈ as, ∃ o, h.get? b = some o)
    (fun _ z => nomatch z) (fun _ _ z => nomatch z) (fun _ _ _ z => nomatch z) (fun _ _ _ z => nomatch z)
    (fun h1 _ _ _ ih b z => by
      rcases List.mem_cons.mp z with rfl | z
      · exact ⟨_, h1⟩
      · exact ih b z)
    (fun _ _ _ _ ih b z => ih b z)
    (fun h1 _ _ _ _ ih1 ih2 b z => by
      simp only [List.cons_append, List.mem_cons, List.mem_append] at z
      rcases z with rfl | z | z
      · exact ⟨_, h1⟩
      · exact ih1 b z
      · exact ih2 b z)
    (fun _ z => nomatch z)
    (fun _ _ ih1 ih2 b z => by
      rcases List.mem_append.mp z with z | z
      · exact ih1 b z
      · exact ih2 b z) r
theorem each_of {K : KF} {H : Hp} : ∀ {vs : List V} {xs : List PV} {us : List Value}, Reps K H vs xs → Vals vs us → PySem.W.EachIs (fun u b => ∃ v, RelV v u ∧ Rep K H v b) us xs
  | _, _, _, .nil, r => by cases r; exact .nil
  | _, _, _, .cons a b, r => by
    cases r with
    | cons p q => exact .cons ⟨_, p, a⟩ (each_of b q)
theorem of_each {K : KF} {H : Hp} : ∀ {us : List Value} {xs : List PV}, PySem.W.EachIs (fun u b => ∃ v, RelV v u ∧ Rep K H v b) us xs → ∃ vs, Vals vs us ∧ Reps K H vs xs
  | _, _, .nil => ⟨[], .nil, .nil⟩
  | _, _, .cons ⟨v, p, a⟩ r => let ⟨vs, q, b⟩ := of_each r; ⟨v :: vs, .cons p q, .cons a b⟩
theorem each_reads {h : Heap} {D : Addr} (hD : h.get? D = none) : ∀ {xs : List PV} {us : List Value}, RXs h us (toDs xs) → PySem.W.EachIs (fun v b => ∃ as, Reads h v (toD b) as ∧ D ∉ as) us xs
  | [], _, r => by simp only [toDs] at r; cases r; exact .nil
  | x :: xs, _, r => by
    simp only [toDs] at r
    cases r with
    | cons a b =>
      obtain ⟨as, q⟩ := a.reads
      refine .cons ⟨as, q, fun z => ?_⟩ (each_reads hD b)
      obtain ⟨o, e⟩ := reads_in q D z
      rw [hD] at e; cases e
theorem sorted_W {a : Addr} {T : String} {o : Obj} {us : List Value} {n : Nat} {h : MH} {xs : List PV} {vs : List V} {m : Bool} {Q : VK} (I : Inv X pins σ H s) (hu : X.A.units + 70 < cLine) (hT : T = "list" ∨ T = "tuple") (ho : s.heap.get? a = some o) (hc : o.cls = .type T) (hd : o.data = .seq us.toArray n)
    (rv : Vals vs us) (hz : us.length ≤ sizeLine) (rs : Reps X.K H vs xs) (hr : HRep X.K h H) (so : sortOk xs) (q : newL m (xs.mergeSort leP) h (up X.K H Q)) :
    wpAny (model X.prog X.w) X.A (call (.builtin "sorted") [.ref a]) (EP X pins σ Q) X.xe s := by
  obtain ⟨p1, p2, p3, p4⟩ := so
  refine PySem.Calls.call_function_entry kind_sorted plain_sorted entry_sorted (args_sorted1 _) ?_
  unfold Builtin.«sorted»
  refine wpAny_bind (m := checkCount "sorted" 1 1 _) (wpAny_pure ?_)
  refine wpAny_bind (wpAny_collect_seq (A := X.A.in1) a hT ho hc hd (fun h' hk => ?_) (by rw [List.size_toArray]; exact hz))
  refine wpAny_bind (wpAny_newList ?_ (by simpa using hz))
  have I1 : Inv X pins σ H { s with heap := h' } := I.kept (t' := s.toks) hk
  have hD : h'.get? h'.objs.size = none := Heap.get?_none_of_le (Nat.le_refl _)
  have rx := reps_rx I1 rs p1 rv
  have er : PySem.W.EachIs (fun v b => ∃ as, Reads (h'.push { cls := .type "list", data := .seq us.toArray }) v (toD b) as ∧ h'.objs.size ∉ as) us xs :=
    (each_reads hD rx).mono fun v b ⟨as, r, z⟩ => ⟨as, PyProof.Rows.Reads.keeps (fun _ _ e => Heap.get?_push_of_some _ e) r, z⟩
  have sx : (h'.push { cls := .type "list", data := .seq us.toArray }).get? h'.objs.size = some (seqObj "list" us.toArray 0) := Heap.get?_push_size _ rfl
  refine wpAny_bind (wpAny_holding (wpAny_mono (PySem.W.list_sort_data (a := h'.objs.size) (n := 0) (vs := us) (bs := xs) (enc := toD) (R := fun u b => ∃ v, RelV v u ∧ Rep X.K H v b) (Q := fun _ s' => EP X pins σ Q (.ref h'.objs.size) s')
    (by simpa using sx) (each_of rs rv) er (by rw [← toDs_eq]; exact p2) (by rw [← toDs_eq]; exact p3) (by rw [← rs.length, rv.length]; exact hz) (fun b hb => ?_) (fun out ol eo => ?_)) (fun _ s' k => wpAny_pure ⟨_, rfl, k⟩) fun _ _ e => e))
  · have := p4 b hb
    show X.A.units + 1 + 1 + (toD b).depth < cLine
    omega
  · obtain ⟨ws, w1, w2⟩ := of_each eo
    have z := laid_new .refl hr w2 q
    obtain ⟨ep, he⟩ := PyProof.Rows.sortedHeap_at (out := out.toArray) sx
    refine EP.laid ⟨.ref h'.objs.size, upd H h'.objs.size (.lst ws), ?_, rfl, z.2 _ (I1.hok.fresh (Nat.le_refl _))⟩
    refine I1.laid (t' := s.toks) (fun b ob e => ?_) (Nat.le_refl _) ⟨z.1, out, ep, w1, by simpa using he⟩
    have lt : b < h'.objs.size := Heap.lt_size e
    have e2 := PyProof.Rows.sortedHeap_old (a := h'.objs.size) (vs := us) (out := out.toArray) (h := h'.push { cls := .type "list", data := .seq us.toArray }) (Nat.ne_of_lt lt) (by rw [Heap.size_push]; exact Nat.lt_succ_of_lt lt)
    first
      | exact e2.trans (Heap.get?_push_of_some _ e)
      | simpa using e2.trans (Heap.get?_push_of_some _ e)
end
end MP
set_option Elab.async false
set_option linter.all false
set_option maxRecDepth 100000
set_option maxHeartbeats 1000000
namespace MP
open PySem PySem.Spec PyProof.Rows L2
def visB (N : List Str) (sc : Scope) (i : Nat) (x : Str) : Bool :=
  decide (N[i]? = some x) && (match sc.names.lookup x with | some .local => true | some .cell => true | some .free => true | _ => false) && !(x == ("__debug__" : Str)) && !(x == ("__classdict__" : Str))
def locB (N : List Str) (sc : Scope) (i : Nat) (x : Str) : Bool :=
  decide (N[i]? = some x) && (match sc.names.lookup x with | some .local => true | some .cell => true | _ => false)
def glB (sc : Scope) (x : Str) : Bool := (match sc.names.lookup x with | some .globalImplicit => true | _ => false) && !(x == ("__debug__" : Str)) && !(x == ("__name__" : Str))
def okTg (N : List Str) (sc : Scope) : Tg → PySem.Expr → Bool
  | .name i, e => match e with
    | .Name x _ => locB N sc i x
    | _ => false
  | .tup2 a b, e => match e with
    | .Tuple [a', b'] _ _ => okTg N sc a a' && okTg N sc b b'
    | _ => false
  | .tup3 a b c, e => match e with
    | .Tuple [a', b', c'] _ _ => okTg N sc a a' && okTg N sc b b' && okTg N sc c c'
    | _ => false
  | .tup4 a b c d, e => match e with
    | .Tuple [a', b', c', d'] _ _ => okTg N sc a a' && okTg N sc b b' && okTg N sc c c' && okTg N sc d d'
    | _ => false
def ownTg : Tg → PySem.Expr → List (Str × Nat)
  | .name i, e => match e with
    | .Name x _ => [(x, i)]
    | _ => []
  | .tup2 a b, e => match e with
    | .Tuple [a', b'] _ _ => ownTg a a' ++ ownTg b b'
    | _ => []
  | .tup3 a b c, e => match e with
    | .Tuple [a', b', c'] _ _ => ownTg a a' ++ ownTg b b' ++ ownTg c c'
    | _ => []
  | .tup4 a b c d, e => match e with
    | .Tuple [a', b', c', d'] _ _ => ownTg a a' ++ ownTg b b' ++ ownTg c c' ++ ownTg d d'
    | _ => []
def bltN : B → Str
  | .abs => "abs" | .int => "int" | .len => "len" | .max2 => "max" | .min2 => "min" | .repr => "repr" | .str => "str" | .all => "all" | .any => "any" | .sum => "sum"
  | .max1 => "max" | .min1 => "min"
def conN : C → Str
  | .list => "list" | .tuple => "tuple" | .sorted => "sorted"
def methN : M → Str
  | .append => "append" | .extend => "extend" | .pop0 => "pop" | .pop1 => "pop"
def tyB (t : String) : Bool := t == "int" || t == "bool" || t == "tuple" || t == "str" || t == "list" || t == "dict"
def itTg : It → Tg → Bool
  | .enum _, .name _ => false
  | .zip _ _, .name _ => false
  | _, _ => true
def noSup : PySem.Expr → Bool
  | .Call _ (_ :: _) _ _ => true
  | .Call .. => false
  | _ => true
def relab (sc sc' : Scope) : Scope :=
  { sc' with names := sc'.names.map fun (n, k) => if (k == .free && sc.kind == .function && sc.names.lookup n == some .cell) then (n, .cell) else (n, k) }
mutual
def okE (N : List Str) (fs : List Str) : Scope → E → PySem.Expr → Bool
  | sc, .var i, e => match e with
    | .Name x _ => visB N sc i x
    | _ => false
  | _, .non, e => match e with
    | .Constant .none _ _ => true
    | _ => false
  | _, .bl b, e => match e with
    | .Constant (.bool b') _ _ => b == b'
    | _ => false
  | _, .int i, e => match e with
    | .Constant (.int i') _ _ => i == i'
    | _ => false
  | _, .str x, e => match e with
    | .Constant (.str x') _ _ => decide (x = x')
    | _ => false
  | sc, .bin op a b, e => match e with
    | .BinOp a' op' b' _ => decide (op = op') && okE N fs sc a a' && okE N fs sc b b'
    | _ => false
  | sc, .neg a, e => match e with
    | .UnaryOp .USub a' _ => okE N fs sc a a'
    | _ => false
  | sc, .not a, e => match e with
    | .UnaryOp .Not a' _ => okE N fs sc a a'
    | _ => false
  | sc, .and a b, e => match e with
    | .BoolOp .And [a', b'] _ => okE N fs sc a a' && okE N fs sc b b'
    | .BoolOp .And (a' :: b' :: c' :: r) p => okE N fs sc a a' && okE N fs sc b (.BoolOp .And (b' :: c' :: r) p)
    | _ => false
  | sc, .or a b, e => match e with
    | .BoolOp .Or [a', b'] _ => okE N fs sc a a' && okE N fs sc b b'
    | .BoolOp .Or (a' :: b' :: c' :: r) p => okE N fs sc a a' && okE N fs sc b (.BoolOp .Or (b' :: c' :: r) p)
    | _ => false
  | sc, .ite c a b, e => match e with
    | .IfExp c' a' b' _ => okE N fs sc c c' && okE N fs sc a a' && okE N fs sc b b'
    | _ => false
  | sc, .cmp op a b, e => match e with
    | .Compare a' [op'] [b'] _ => decide (op = op') && (op != .In) && (op != .NotIn) && okE N fs sc a a' && okE N fs sc b b'
    | _ => false
  | sc, .chain o p a b c, e => match e with
    | .Compare a' [o', p'] [b', c'] _ => decide (o = o') && decide (p = p') && (o != .In) && (o != .NotIn) && (p != .In) && (p != .NotIn) && okE N fs sc a a' && okE N fs sc b b' && okE N fs sc c c'
    | _ => false
  | sc, .isN a neg, e => match e with
    | .Compare a' [op] [.Constant .none _ _] _ => decide (op = if neg then .IsNot else .Is) && okE N fs sc a a'
    | _ => false
  | sc, .isB a b neg, e => match e with
    | .Compare a' [op] [.Constant (.bool b') _ _] _ => decide (op = if neg then .IsNot else .Is) && b == b' && okE N fs sc a a'
    | _ => false
  | sc, .isin a b neg, e => match e with
    | .Compare a' [op] [b'] _ => decide (op = if neg then .NotIn else .In) && okE N fs sc a a' && okE N fs sc b b'
    | _ => false
  | sc, .tup es, e => match e with
    | .Tuple es' _ _ => okEs N fs sc es es'
    | _ => false
  | sc, .lst _ es, e => match e with
    | .List es' _ => okEs N fs sc es es'
    | _ => false
  | _, .dct0 _, e => match e with
    | .Dict [] [] _ => true
    | _ => false
  | sc, .dct1 k v, e => match e with
    | .Dict [some k'] [v'] _ => okE N fs sc k k' && okE N fs sc v v'
    | _ => false
  | sc, .idx a i, e => match e with
    | .Subscript a' i' _ => okE N fs sc a a' && okE N fs sc i i'
    | _ => false
  | sc, .slc a lo hi, e => match e with
    | .Subscript a' (.Slice lo' hi' none _) _ => okE N fs sc a a' && okEo N fs sc lo lo' && okEo N fs sc hi hi'
    | _ => false
  | sc, .rev a, e => match e with
    | .Subscript a' (.Slice none none (some (.UnaryOp .USub (.Constant (.int i) _ _) _)) _) _ => i == 1 && okE N fs sc a a'
    | _ => false
  | sc, .call f es, e => match e with
    | .Call (.Name x _) es' [] _ => decide (f = x) && glB sc x && (fs.contains f && (gcst f).isNone) && okEs N fs sc es es'
    | _ => false
  | sc, .gfn f, e => match e with
    | .Name x _ => decide (f = x) && glB sc x && (fs.contains f && (gcst f).isNone)
    | _ => false
  | sc, .gcs f, e => match e with
    | .Name x _ => decide (f = x) && glB sc x && fs.contains f && ((gcst f).isSome && !isExc f)
    | _ => false
  | sc, .mkd a, e => match e with
    | .Call (.Name x _) [a'] [] _ => decide (x = ("dict" : Str)) && glB sc x && okE N fs sc a a'
    | _ => false
  | sc, .dget o k d, e => match e with
    | .Call (.Attribute o' nm apos) [k', d'] [] pos => decide (nm = ("get" : Str)) && (apos.endLine == pos.line) && noSup o' && okE N fs sc o o' && okE N fs sc k k' && okE N fs sc d d'
    | _ => false
  | sc, .callv i es, e => match e with
    | .Call (.Name x _) (a' :: r) [] _ => visB N sc i x && okEs N fs sc es (a' :: r)
    | _ => false
  | sc, .blt b es, e => match e with
    | .Call (.Name x _) (a' :: r) [] _ => decide (x = bltN b) && glB sc x && okEs N fs sc es (a' :: r)
    | _ => false
  | sc, .isi a t, e => match e with
    | .Call (.Name x _) [a', .Name t' _] [] _ => decide (x = ("isinstance" : Str)) && decide (Str.ofString t = t') && tyB t && glB sc x && glB sc t' && okE N fs sc a a'
    | _ => false
  | sc, .con c _ it, e => match e with
    | .Call (.Name x _) [a'] [] _ => decide (x = conN c) && glB sc x && okIt N fs sc it a' && (match c, it with | .sorted, .seq _ => true | .sorted, _ => false | _, .seq _ => true | _, .rng1 _ => true | _, .rng2 _ _ => true | _, _ => false)
    | _ => false
  | sc, .comp _ elt tg it c, e => match e with
    | .ListComp elt' [⟨tg', it', ifs', 0⟩] sc' _ => okTg N sc' tg tg' && decide ((ownTg tg tg').map (·.2) = tg.own) && blkC N sc sc' (ownTg tg tg') && itTg it tg && okIt N fs sc it it' && okE N fs (relab sc sc') elt elt' &&
        (match c, ifs' with
        | .none, [] => true
        | .some c, [c'] => okE N fs (relab sc sc') c c'
        | _, _ => false)
    | _ => false
  | sc, .meth o m es, e => match e with
    | .Call (.Attribute o' nm apos) es' [] pos => decide (nm = methN m) && (apos.endLine == pos.line) && noSup o' && okE N fs sc o o' && okEs N fs sc es es' && (match m, es with | .pop0, .nil => true | .pop0, _ => false | _, .cons _ .nil => true | _, _ => false)
    | _ => false
def okEs (N : List Str) (fs : List Str) : Scope → Es → List PySem.Expr → Bool
  | _, .nil, es => match es with
    | [] => true
    | _ => false
  | sc, .cons e r, es => match es with
    | e' :: r' => okE N fs sc e e' && okEs N fs sc r r'
    | _ => false
def okEo (N : List Str) (fs : List Str) : Scope → Eo → Option PySem.Expr → Bool
  | _, .none, e => match e with
    | none => true
    | _ => false
  | sc, .some a, e => match e with
    | some a' => okE N fs sc a a'
    | _ => false
def okIt (N : List Str) (fs : List Str) : Scope → It → PySem.Expr → Bool
  | sc, .seq a, e => okE N fs sc a e
  | sc, .rng1 a, e => match e with
    | .Call (.Name x _) [a'] [] _ => decide (x = ("range" : Str)) && glB sc x && okE N fs sc a a'
    | _ => false
  | sc, .rng2 a b, e => match e with
    | .Call (.Name x _) [a', b'] [] _ => decide (x = ("range" : Str)) && glB sc x && okE N fs sc a a' && okE N fs sc b b'
    | _ => false
  | sc, .enum a, e => match e with
    | .Call (.Name x _) [a'] [] _ => decide (x = ("enumerate" : Str)) && glB sc x && okE N fs sc a a'
    | _ => false
  | sc, .zip a b, e => match e with
    | .Call (.Name x _) [a', b'] [] _ => decide (x = ("zip" : Str)) && glB sc x && okE N fs sc a a' && okE N fs sc b b'
    | _ => false
end
def EnvRep (K : KF) (H : Hp) (σ : L2.St) (env : Env) : Prop := σ.length = env.length ∧ ∀ (i : Nat) (v : PV), env[i]? = some (some v) → ∃ V, σ[i]? = some (some V) ∧ Rep K H V v
theorem EnvRep.keep {K : KF} {H H' : Hp} {σ : L2.St} {env : Env} (e : EnvRep K H σ env) (p : Pres H H') : EnvRep K H' σ env :=
  ⟨e.1, fun i v q => let ⟨V, a, b⟩ := e.2 i v q; ⟨V, a, b.keep p⟩⟩
theorem EnvRep.set {K : KF} {H : Hp} {σ : L2.St} {env : Env} {V : V} {v : PV} (e : EnvRep K H σ env) (i : Nat) (r : Rep K H V v) : EnvRep K H (σ.set i (some V)) (env.set i (some v)) := by
  refine ⟨by simp [e.1], fun j w q => ?_⟩
  by_cases h : i = j
  · subst h
    have hl : i < env.length := by
      have := (List.getElem?_eq_some_iff.mp q).1
      simpa using this
    rw [List.getElem?_set_self hl] at q
    cases q
    exact ⟨V, by rw [List.getElem?_set_self (by rw [e.1]; exact hl)], r⟩
  · rw [List.getElem?_set_ne h] at q
    obtain ⟨U, a, b⟩ := e.2 j w q
    exact ⟨U, by rw [List.getElem?_set_ne h]; exact a, b⟩
theorem EnvRep.setNone {K : KF} {H : Hp} {σ : L2.St} {env : Env} (e : EnvRep K H σ env) (i : Nat) : EnvRep K H (σ.set i none) (env.set i none) := by
  refine ⟨by simp [e.1], fun j w q => ?_⟩
  by_cases h : i = j
  · subst h
    have hl : i < env.length := by
      have := (List.getElem?_eq_some_iff.mp q).1
      simpa using this
    rw [List.getElem?_set_self hl] at q
    cases q
  · rw [List.getElem?_set_ne h] at q
    obtain ⟨U, a, b⟩ := e.2 j w q
    exact ⟨U, by rw [List.getElem?_set_ne h]; exact a, b⟩
theorem EnvRep.wipe {K : KF} {H : Hp} {σ : L2.St} {env : Env} (e : EnvRep K H σ env) : ∀ vs : List Nat, EnvRep K H (wipe σ vs) (wipeE env vs)
  | [] => e
  | v :: vs => (EnvRep.wipe e vs).setNone v
def ERep (mg : Str → Option Value) (K : KF) (H : Hp) (cls : Value) (d : Option Addr) (e : Exc) : Prop :=
  mg e.cls = some cls ∧ match e.arg with
    | none => d = none
    | some v => ∃ dx f V, d = some dx ∧ H dx = some (.xd [(f, V)]) ∧ Rep K H V v
def LW (X : Cx) (Ex : XP) : WX := fun cls d σ H => ∃ e env h, ERep X.mg X.K H cls d e ∧ EnvRep X.K H σ env ∧ HRep X.K h H ∧ Ex e env h
def upX (mg : Str → Option Value) (K : KF) (H : Hp) (E : XK) : XQ := fun e h' => ∀ cls d H', Pres H H' → ERep mg K H' cls d e → HRep K h' H' → E cls d H'
structure FnG (P : Program) (w : World) (K : KF) (mg : Str → Option Value) (base : Heap) (k : Nat) (f : Addr) (fd : FuncData) (ps : List Str) (sp : Sp) : Prop where
  len : ∀ vs H Q E, sp vs H Q E → vs.length = ps.length
  run : ∀ (A : Around) (outer : List PySem.Env) (s : Shared) (H : Hp) (args : Args) (us : List Value) (vs : List V) (Q : VK) (E : XK), Room k A → A.guards = some [] → Env0 P w K mg base A outer s H → BindsTo s fd args (ps.zip us) → Vals vs us → sp vs H Q E →
    codeAny (model P w) A (.call (.ref f) args) (CR (L2.CX P w) outer P w H s Q E) s
def spG (K : KF) (mg : Str → Option Value) (G : Calls) (f : Str) : Sp := fun vs H Q E => ∃ xs h, Reps K H vs xs ∧ HRep K h H ∧ G f xs h (up K H Q) (upX mg K H E)
structure Callee (X : Cx) (k : Nat) (G : Calls) (f : Str) : Prop where
  ex : ∃ (a : Addr) (fd : FuncData) (ps : List Str), X.mg f = some (.ref a) ∧ PySem.W.nsIn X.K mainGlobals f = some (some (.ref a)) ∧ PySem.W.keepIn X.K (.ref a) = true ∧ Binds X.K fd ps [] ∧ FnG X.prog X.w X.K X.mg X.base k a fd ps (spG X.K X.mg G f)
structure CstK (K : KF) (mg : Str → Option Value) (f : Str) (v : PV) : Prop where
  ex : ∃ (a : Addr) (ns : List Int), v = .cst ns ∧ mg f = some (.ref a) ∧ CstAt K a ns
structure ExcOk (K : KF) (mg : Str → Option Value) (c : Str) : Prop where
  ex : ∃ C : Addr, mg c = some (.ref C) ∧ PySem.W.excIn K C [.type "ValueError", .type "Exception", .type "BaseException", .type "object"] "ValueError.__new__" = true ∧ PySem.W.keepIn K (.ref C) = true ∧
    PySem.W.subIn K (.ref C) (.type "BaseException") = some true ∧ PySem.W.typeIn K (.ref C) = some (.type "type")
abbrev CstOk (X : Cx) (f : Str) (v : PV) : Prop := CstK X.K X.mg f v
def bltNames : List Str := ["abs", "int", "len", "max", "min", "isinstance", "repr", "str", "all", "any", "sum", "list", "tuple", "sorted", "range", "enumerate", "zip", "bool", "dict"]
structure Good (X : Cx) (k : Nat) (G : Calls) (fs : List Str) (Ex : XP) : Prop where
  calm : X.calm = true
  nd : X.N.Nodup
  tk : Takes X (LW X Ex)
  room : Room k X.A
  gd : X.A.guards = some []
  blt : ∀ x ∈ bltNames, X.mg x = none
  fn : ∀ f ∈ fs, gcst f = none → Callee X k G f
  cst : ∀ f ∈ fs, ∀ v, gcst f = some v → isExc f = false → CstOk X f v
  exc : ∀ c ∈ fs, isExc c = true → ExcOk X.K X.mg c
  mono : GMono G
  only : ∀ f xs h Q E, G f xs h Q E → f ∈ fs ∧ gcst f = none
end MP
set_option Elab.async false
set_option linter.all false
set_option maxRecDepth 100000
set_option maxHeartbeats 1000000
namespace MP
open PySem PySem.Spec PyProof.Rows L2
section
variable {X : Cx} {k : Nat} {a : Addr} {fd : FuncData} {ps : List Str} {sp : Sp} {W : WX} {x : Str} {p pos : Pos} {e : PySem.Expr} {es : List PySem.Expr} {t : TA}
theorem run_G {pins : List (Addr × Obj)} {σ : L2.St} {H : Hp} {s : Shared} {Q : VK} {us : List Value} {vs : List V} (F : FnG X.prog X.w X.K X.mg X.base k a fd ps sp) (hr : Room k X.A) (hg : X.A.guards = some []) (hb : Binds X.K fd ps []) (tk : Takes X W)
    (I : Inv X pins σ H s) (r : Vals vs us) (h : sp vs H Q (WE W σ)) : wpAny (model X.prog X.w) X.A (call (.ref a) us) (EP X pins σ Q) X.xe s := by
  have l : us.length = ps.length := r.length ▸ F.len _ _ _ _ h
  have b := hb s us I.kIn (by simpa using l)
  rw [List.append_nil] at b
  refine wpAny_call (codeAny_mono (F.run X.A X.stack s H ⟨us, []⟩ us vs Q (WE W σ) hr hg I.env0 b r h) fun r' s' q => ?_)
  cases r' with
  | error z => exact passAt tk σ pins H s z s' I q
  | ok f => cases f with
    | ret u => exact I.after q
    | next => exact q.elim
    | brk => exact q.elim
    | cont => exact q.elim
def tG (sp : Sp) (W : WX) (t : TA) : TE := fun σ H Q => t σ H fun vs H1 => sp vs H1 Q (WE W σ)
theorem pe_G (F : FnG X.prog X.w X.K X.mg X.base k a fd ps sp) (hr : Room k X.A) (hgd : X.A.guards = some []) (hg : Gl X x) (hm : X.mg x = some (.ref a)) (hk : PySem.W.keepIn X.K (.ref a) = true) (hb : Binds X.K fd ps []) (tk : Takes X W)
    (ha : PA X (e :: es) t) (hdb : (x == ("__debug__" : Str)) = false) (he : starEach (e :: es) X.env = (false, eval e X.env) :: starEach es X.env) (hpl : (backTo pos (starEach es X.env)).any (·.1) = false) :
    PE X (.Call (.Name x p) (e :: es) [] pos) (tG sp W t) := ⟨fun pins s σ H Q I h =>
  wpAny_Call_Name_kw (ld_glob I hg hm (PySem.W.callWith_K (h₀ := X.base) I.ok.mod.kin hk (thn (ha.run pos pins s σ H _ I h) fun us s1 ⟨vs, H1, I1, r, q⟩ => ⟨I1.kIn, run_G F hr hgd hb tk I1 r q⟩) he hpl) hdb)⟩
theorem pe_G0 (F : FnG X.prog X.w X.K X.mg X.base k a fd ps sp) (hr : Room k X.A) (hgd : X.A.guards = some []) (hg : Gl X x) (hm : X.mg x = some (.ref a)) (hk : PySem.W.keepIn X.K (.ref a) = true) (hb : Binds X.K fd ps []) (tk : Takes X W)
    (hdb : (x == ("__debug__" : Str)) = false) : PE X (.Call (.Name x p) [] [] pos) (tG sp W tNil) := ⟨fun pins s σ H Q I h =>
  wpAny_Call_Name_kw (ld_glob I hg hm (PySem.W.callWith_K0 I.kIn hk (run_G (us := []) F hr hgd hb tk I .nil h)) hdb)⟩
theorem wp_Gv {pins : List (Addr × Obj)} {σ : L2.St} {H : Hp} {s : Shared} {Q : VK} {te : TE} {t : TA} (hn : PE X (.Name x p) te) (ha : PA X (e :: es) t)
    (he : starEach (e :: es) X.env = (false, eval e X.env) :: starEach es X.env) (hpl : (backTo pos (starEach es X.env)).any (·.1) = false) (I : Inv X pins σ H s)
    (h : te σ H fun v H1 => ∃ a, v = .ref a ∧ PySem.W.keepIn X.K (.ref a) = true ∧ t σ H1 fun vs H2 => ∀ s2 us, Inv X pins σ H2 s2 → Vals vs us → wpAny (model X.prog X.w) X.A (call (.ref a) us) (EP X pins σ Q) X.xe s2) :
    wpAny (model X.prog X.w) X.A (eval (.Call (.Name x p) (e :: es) [] pos) X.env) (EP X pins σ Q) X.xe s := by
  refine wpAny_Call_Name_kw (thn (hn.run pins s σ H _ I h) fun f s1 ⟨v, H1, I1, r, a, ev, hk, q⟩ => ?_)
  subst ev
  cases (show f = Value.ref a from r)
  exact PySem.W.callWith_K (h₀ := X.base) I1.ok.mod.kin hk (thn (ha.run pos pins s1 σ H1 _ I1 q) fun us s2 ⟨vs, H2, I2, r2, q2⟩ => ⟨I2.kIn, q2 s2 us I2 r2⟩) he hpl
end
def noStar : PySem.Expr → Bool
  | .Starred .. => false
  | _ => true
theorem star_cons {e : PySem.Expr} (h : noStar e = true) (es : List PySem.Expr) (env : PySem.Env) : starEach (e :: es) env = (false, eval e env) :: starEach es env := by
  cases e <;> first | rfl | cases h
theorem star_any {es : List PySem.Expr} (h : ∀ e ∈ es, noStar e = true) (env : PySem.Env) (pos : Pos) : (backTo pos (starEach es env)).any (·.1) = false := by
  have key : ∀ (l : List PySem.Expr), (∀ e ∈ l, noStar e = true) → (starEach l env).any (·.1) = false := by
    intro l
    induction l with
    | nil => intro _; rfl
    | cons e r ih =>
      intro hl
      rw [star_cons (hl e (List.mem_cons_self ..))]
      simp only [List.any_cons, ih fun z hz => hl z (List.mem_cons_of_mem _ hz), Bool.or_false]
  have e2 : ∀ l : List (Bool × Sem Value), (backTo pos l).any (·.1) = l.any (·.1) := by
    intro l
    unfold backTo
    first
      | rfl
      | (rw [List.any_map]; rfl)
      | simp [List.any_map, Function.comp_def]
      | (induction l with
        | nil => rfl
        | cons b r ih => simp_all)
  rw [e2]
  exact key es h
theorem asg_cons {e : PySem.Expr} (h : noStar e = true) (es : List PySem.Expr) (env : PySem.Env) : assignEach (e :: es) env = (false, assign e env) :: assignEach es env := by
  cases e <;> first | rfl | cases h
theorem okTg_star {N : List Str} {sc : Scope} {t : Tg} {e : PySem.Expr} (h : okTg N sc t e = true) : noStar e = true := by
  cases t with
  | name i => simp only [okTg] at h; split at h <;> first | rfl | cases h
  | tup2 a b => simp only [okTg] at h; split at h <;> first | rfl | cases h
  | tup3 a b c => simp only [okTg] at h; split at h <;> first | rfl | cases h
  | tup4 a b c d => simp only [okTg] at h; split at h <;> first | rfl | cases h
def SG (X : Cx) (t : Tg) : TG := fun v σ H Q => ∃ vx env h, EnvRep X.K H σ env ∧ HRep X.K h H ∧ Rep X.K H v vx ∧
  tgW t vx env fun env' => ∀ σ', EnvRep X.K H σ' env' → σ'.length = σ.length → (∀ i, i ∉ t.own → σ'[i]? = σ[i]?) → Q σ' H
theorem PG.imp {X : Cx} {e : PySem.Expr} {t t' : TG} (h : PG X e t) (w : ∀ v σ H Q, t' v σ H Q → t v σ H Q) : PG X e t' := ⟨fun pins s σ H v u Q I r q => h.run pins s σ H v u Q I r (w v σ H Q q)⟩
theorem locB_loc {N : List Str} {sc : Scope} {i : Nat} {x : Str} (h : locB N sc i x = true) : N[i]? = some x ∧ (sc.names.lookup x = some .local ∨ sc.names.lookup x = some .cell) := by
  unfold locB at h
  rw [Bool.and_eq_true, decide_eq_true_eq] at h
  refine ⟨h.1, ?_⟩
  have h2 := h.2
  split at h2 <;> first | exact .inl (by assumption) | exact .inr (by assumption) | cases h2
theorem set_other {α : Type} {l : List (Option α)} {i j : Nat} {v : Option α} (h : j ≠ i) : (l.set i v)[j]? = l[j]? := List.getElem?_set_ne (Ne.symm h)
theorem sG {X : Cx} {sc : Scope} (hc : X.calm = true) (hN : X.N.Nodup) (lo : ∀ x, sc.names.lookup x = some .local → X.env.scope.names.lookup x = some .local) (cel : ∀ x, sc.names.lookup x = some .cell → X.env.scope.names.lookup x = some .cell ∧ X.fn x = true) : ∀ (t : Tg) (e : PySem.Expr), okTg X.N sc t e = true → PG X e (SG X t)
  | .name i, e, h => by
    simp only [okTg] at h
    split at h
    · rename_i x pos
      obtain ⟨hi, hl⟩ := locB_loc h
      refine PG.imp (pg_name hN hi (hl.imp (lo x) fun q => (cel x q).1) (by
        rcases hl with q | q
        · exact .inr (lo x q)
        · exact .inl (cel x q).2)) fun v σ H Q ⟨vx, env, hh, er, hr, rv, q⟩ => ?_
      exact q _ (er.set i rv) (by simp) fun j hj => set_other (by simpa [Tg.own] using hj)
    · cases h
  | .tup2 a b, e, h => by
    simp only [okTg] at h
    split at h
    · rename_i a' b' n pos
      simp only [Bool.and_eq_true] at h
      have pa := sG hc hN lo cel a a' h.1
      have pb := sG hc hN lo cel b b' h.2
      have sa := okTg_star h.1
      have sb := okTg_star h.2
      have g : PGs X [a', b'] (gCons (SG X a) (gCons (SG X b) gNil)) := pgs_cons pa (pgs_cons pb pgs_nil (by rw [asg_cons sb]; rfl)) (by rw [asg_cons sa]; rfl)
      refine PG.imp (pg_tup (n := 2) hc g (by rw [asg_cons sa, asg_cons sb]; rfl) (by rw [asg_cons sa, asg_cons sb]; rfl)) fun v σ H Q ⟨vx, env, hh, er, hr, rv, x, y, e1, q⟩ => ?_
      subst e1
      obtain ⟨p, vs, rfl, sq, rs⟩ := rv.tup_inv
      obtain ⟨v1, v2, rfl, r1, r2⟩ := rs.two
      refine ⟨p, [v1, v2], rfl, sq, rfl, v1, [v2], rfl, x, env, hh, er, hr, r1, tgW_mono (fun e1 q1 => ?_) q⟩
      intro σ1 er1 l1 o1
      refine ⟨v2, [], rfl, y, e1, hh, er1, hr, r2, tgW_mono (fun e2 q2 => ?_) q1⟩
      intro σ2 er2 l2 o2
      refine ⟨rfl, q2 σ2 er2 (l2.trans l1) fun i hi => ?_⟩
      simp only [Tg.own, List.mem_append, not_or] at hi
      exact (o2 i hi.2).trans (o1 i hi.1)
    · cases h
  | .tup3 a b c, e, h => by
    simp only [okTg] at h
    split at h
    · rename_i a' b' c' n pos
      simp only [Bool.and_eq_true] at h
      have pa := sG hc hN lo cel a a' h.1.1
      have pb := sG hc hN lo cel b b' h.1.2
      have pc := sG hc hN lo cel c c' h.2
      have sa := okTg_star h.1.1
      have sb := okTg_star h.1.2
      have sc := okTg_star h.2
      have g : PGs X [a', b', c'] (gCons (SG X a) (gCons (SG X b) (gCons (SG X c) gNil))) :=
        pgs_cons pa (pgs_cons pb (pgs_cons pc pgs_nil (by rw [asg_cons sc]; rfl)) (by rw [asg_cons sb]; rfl)) (by rw [asg_cons sa]; rfl)
      refine PG.imp (pg_tup (n := 3) hc g (by rw [asg_cons sa, asg_cons sb, asg_cons sc]; rfl) (by rw [asg_cons sa, asg_cons sb, asg_cons sc]; rfl)) fun v σ H Q ⟨vx, env, hh, er, hr, rv, x, y, z, e1, q⟩ => ?_
      subst e1
      obtain ⟨p, vs, rfl, sq, rs⟩ := rv.tup_inv
      cases rs with
      | @cons v1 _ _ _ r1 rs =>
        obtain ⟨v2, v3, rfl, r2, r3⟩ := rs.two
        refine ⟨p, [v1, v2, v3], rfl, sq, rfl, v1, [v2, v3], rfl, x, env, hh, er, hr, r1, tgW_mono (fun e1 q1 => ?_) q⟩
        intro σ1 er1 l1 o1
        refine ⟨v2, [v3], rfl, y, e1, hh, er1, hr, r2, tgW_mono (fun e2 q2 => ?_) q1⟩
        intro σ2 er2 l2 o2
        refine ⟨v3, [], rfl, z, e2, hh, er2, hr, r3, tgW_mono (fun e3 q3 => ?_) q2⟩
        intro σ3 er3 l3 o3
        refine ⟨rfl, q3 σ3 er3 ((l3.trans l2).trans l1) fun i hi => ?_⟩
        simp only [Tg.own, List.mem_append, not_or] at hi
        exact ((o3 i hi.2).trans (o2 i hi.1.2)).trans (o1 i hi.1.1)
    · cases h
  | .tup4 a b c d, e, h => by
    simp only [okTg] at h
    split at h
    · rename_i a' b' c' d' n pos
      simp only [Bool.and_eq_true] at h
      have pa := sG hc hN lo cel a a' h.1.1.1
      have pb := sG hc hN lo cel b b' h.1.1.2
      have pc := sG hc hN lo cel c c' h.1.2
      have pd := sG hc hN lo cel d d' h.2
      have sa := okTg_star h.1.1.1
      have sb := okTg_star h.1.1.2
      have sc := okTg_star h.1.2
      have sd := okTg_star h.2
      have g : PGs X [a', b', c', d'] (gCons (SG X a) (gCons (SG X b) (gCons (SG X c) (gCons (SG X d) gNil)))) :=
        pgs_cons pa (pgs_cons pb (pgs_cons pc (pgs_cons pd pgs_nil (by rw [asg_cons sd]; rfl)) (by rw [asg_cons sc]; rfl)) (by rw [asg_cons sb]; rfl)) (by rw [asg_cons sa]; rfl)
      refine PG.imp (pg_tup (n := 4) hc g (by rw [asg_cons sa, asg_cons sb, asg_cons sc, asg_cons sd]; rfl) (by rw [asg_cons sa, asg_cons sb, asg_cons sc, asg_cons sd]; rfl)) fun v σ H Q ⟨vx, env, hh, er, hr, rv, x, y, z, u, e1, q⟩ => ?_
      subst e1
      obtain ⟨p, vs, rfl, sq, rs⟩ := rv.tup_inv
      cases rs with
      | @cons v1 _ _ _ r1 rs =>
        cases rs with
        | @cons v2 _ _ _ r2 rs =>
          obtain ⟨v3, v4, rfl, r3, r4⟩ := rs.two
          refine ⟨p, [v1, v2, v3, v4], rfl, sq, rfl, v1, [v2, v3, v4], rfl, x, env, hh, er, hr, r1, tgW_mono (fun e1 q1 => ?_) q⟩
          intro σ1 er1 l1 o1
          refine ⟨v2, [v3, v4], rfl, y, e1, hh, er1, hr, r2, tgW_mono (fun e2 q2 => ?_) q1⟩
          intro σ2 er2 l2 o2
          refine ⟨v3, [v4], rfl, z, e2, hh, er2, hr, r3, tgW_mono (fun e3 q3 => ?_) q2⟩
          intro σ3 er3 l3 o3
          refine ⟨v4, [], rfl, u, e3, hh, er3, hr, r4, tgW_mono (fun e4 q4 => ?_) q3⟩
          intro σ4 er4 l4 o4
          refine ⟨rfl, q4 σ4 er4 (((l4.trans l3).trans l2).trans l1) fun i hi => ?_⟩
          simp only [Tg.own, List.mem_append, not_or] at hi
          exact (((o4 i hi.2).trans (o3 i hi.1.2)).trans (o2 i hi.1.1.2)).trans (o1 i hi.1.1.1)
    · cases h
def Grow (H H' : Hp) : Prop := ∀ a u, H a = some u → H' a = some u
theorem Grow.refl {H : Hp} : Grow H H := fun _ _ e => e
theorem Grow.pres {H H' : Hp} (g : Grow H H') : Pres H H' := ⟨fun a _ e => g a _ e, fun a _ _ e => g a _ e⟩
theorem Grow.hrep {K : KF} {h : MH} {H H' : Hp} (g : Grow H H') (r : HRep K h H) : HRep K h H' := r.keep g.pres fun a c e => by
  obtain ⟨o, h1, _⟩ := r a c e
  rw [h1, g a o h1]
structure Wk (K : KF) (H1 : Hp) (J : L2.It) (S : Src) : Prop where
  go : ∀ i H h, Pres H1 H → HRep K h H → S.stays h → i < S.xs.length → J.go i H
  stop : ∀ i H h, Pres H1 H → HRep K h H → S.stays h → S.xs.length ≤ i → J.stop i H
  yld : ∀ i H h x H', Pres H1 H → HRep K h H → S.stays h → i < S.xs.length → J.yld i H x H' → ∃ v, S.xs[i]? = some v ∧ Grow H H' ∧ Rep K H' x v
theorem wk_tup {K : KF} {H1 : Hp} {a : Addr} {vs : List V} {xs : List PV} (sq : SqT K H1 a vs) (rs : Reps K H1 vs xs) : Wk K H1 (Itt K a) ⟨xs, []⟩ where
  go := fun i H h p _ _ l => ⟨vs, vs[i]'(by rw [rs.length]; exact l), p.sqT sq, List.getElem?_eq_getElem _⟩
  stop := fun i H h p _ _ l => ⟨vs, p.sqT sq, by rw [rs.length]; exact l⟩
  yld := fun i H h x H' p hr _ _ y => by
    obtain ⟨e, y⟩ := y
    subst e
    obtain ⟨v, q, r⟩ := (rs.keep p).getV (y vs (p.sqT sq))
    exact ⟨v, q, .refl, r⟩
theorem wk_lst {K : KF} {H1 : Hp} {a : Addr} {xs : List PV} {st : List (Addr × List PV)} (sq : ∀ H h, Pres H1 H → HRep K h H → Src.stays ⟨xs, st⟩ h → ∃ ws, SqL K H a ws ∧ Reps K H ws xs) : Wk K H1 (Itl K a) ⟨xs, st⟩ where
  go := fun i H h p hr s l => by
    obtain ⟨ws, q, rs⟩ := sq H h p hr s
    exact ⟨ws, ws[i]'(by rw [rs.length]; exact l), q, List.getElem?_eq_getElem _⟩
  stop := fun i H h p hr s l => by
    obtain ⟨ws, q, rs⟩ := sq H h p hr s
    exact ⟨ws, q, by rw [rs.length]; exact l⟩
  yld := fun i H h x H' p hr s _ y => by
    obtain ⟨e, y⟩ := y
    subst e
    obtain ⟨ws, q, rs⟩ := sq H' h p hr s
    obtain ⟨v, q, r⟩ := rs.getV (y ws q)
    exact ⟨v, q, .refl, r⟩
theorem rngV_len (lo hi : Int) : (rngV lo hi).length = (hi - lo).toNat := by unfold rngV; rw [List.length_map, List.length_range]
theorem wk_rng {K : KF} {H1 : Hp} {lo hi : Int} : Wk K H1 (Itr lo (hi - lo).toNat) ⟨rngV lo hi, []⟩ where
  go := fun i H h _ _ _ l => by
    have l : i < (rngV lo hi).length := l
    rw [rngV_len] at l
    exact l
  stop := fun i H h _ _ _ l => by
    have l : (rngV lo hi).length ≤ i := l
    rw [rngV_len] at l
    exact l
  yld := fun i H h x H' p hr s l y => by
    obtain ⟨e, y⟩ := y
    subst e
    subst y
    have l : i < (rngV lo hi).length := l
    rw [rngV_len] at l
    refine ⟨.int (lo + i), ?_, .refl, .int _⟩
    show (rngV lo hi)[i]? = _
    unfold rngV
    rw [List.getElem?_map, List.getElem?_range l]
    rfl
def SI (X : Cx) (w : Env → MH → (Src → MH → Prop) → Prop) : TI := fun σ H R => ∃ env h, EnvRep X.K H σ env ∧ HRep X.K h H ∧
  w env h fun S h1 => ∀ J H1, Pres H H1 → HRep X.K h1 H1 → Wk X.K H1 J S → S.xs.length ≤ sizeLine → R J H1
theorem PI.imp {X : Cx} {tg e : PySem.Expr} {t t' : TI} (h : PI X tg e t) (w : ∀ σ H R, t' σ H R → t σ H R) : PI X tg e t' := ⟨fun pins s σ H R I q => h.run pins s σ H R I (w σ H R q)⟩
theorem pi_seqW {X : Cx} {tg e : PySem.Expr} {te : TE} (he : PE X e te) : PI X tg e (fun σ H R => te σ H fun x H1 => ∃ v h S, Rep X.K H1 x v ∧ HRep X.K h H1 ∧ srcV h v = some S ∧ (∀ J, Wk X.K H1 J S → S.xs.length ≤ sizeLine → R J H1)) := by
  refine ⟨fun pins s σ H R I h => ?_⟩
  refine thn (he.run pins s σ H _ I h) fun u s1 ⟨x, H1, I1, r1, v, h, S, rv, hr, es, q⟩ => ?_
  have lists : ∀ {a : Addr} {vs : List V}, x = .ref a → LL X.K H1 a vs → (vs.length ≤ sizeLine → R (Itl X.K a) H1) → wpAny (model X.prog X.w) X.A (pyIter u) (PIE X pins σ tg R) X.xe s1 := by
    intro a vs e ll k
    subst e
    cases (show u = Value.ref a from r1)
    obtain ⟨hz, its, n, rr, hl, ho⟩ := ll.at_ I1
    have isl : s1.heap.IsList a its.toArray := ⟨_, ho, rfl, n, rfl⟩
    exact wpAny_pyIter_list isl (pi_one (tk := s1.toks) I1 _ (turn_list a _) ⟨_, Heap.get?_push_size _ rfl, rfl, rfl⟩ (k hz))
  unfold srcV at es
  split at es
  · rename_i xs
    cases es
    obtain ⟨a, vs, rfl, sq, rs⟩ := rv.tup_inv
    cases (show u = Value.ref a from r1)
    obtain ⟨its, rr, p, hz⟩ := I1.tuple sq
    refine wpAny_pyIter_tuple (show s1.heap.IsTuple a its.toArray from p) (pi_one (tk := s1.toks) I1 _ (turn_tuple a _) ⟨_, Heap.get?_push_size _ rfl, rfl, rfl⟩ ?_)
    exact q _ (wk_tup sq rs) (by rw [← rs.length]; exact hz)
  · rename_i xs
    cases es
    obtain ⟨a, vs, e0, f, rs⟩ := rv.lst_inv
    refine lists e0 (.inr f) fun hz => q _ (wk_lst fun H h p _ _ => ⟨vs, (p.fzL f).sq, rs.keep p⟩) (by rw [← rs.length]; exact hz)
  · rename_i a
    split at es
    · rename_i xs e1
      cases es
      obtain ⟨vs, h1, rs⟩ := lst_at hr e1
      refine lists rv.loc_inv (.inl h1) fun hz => q _ (wk_lst fun H' h' p hr' st => by
        obtain ⟨ws, h2, rs2⟩ := lst_at hr' (st (a, xs) (by simp))
        exact ⟨ws, .of h2, rs2⟩) (by rw [← rs.length]; exact hz)
    · cases es
  · cases es
end MP
set_option Elab.async false
set_option linter.all false
set_option maxRecDepth 100000
set_option maxHeartbeats 1000000
namespace MP
open PySem PySem.Spec PyProof.Rows L2
def plainX : PySem.Expr → Bool
  | .Starred .. => false
  | .Set .. => false
  | .Slice .. => false
  | _ => true
theorem okE_plain {N fs : List Str} {sc : Scope} {e : E} {e' : PySem.Expr} (h : okE N fs sc e e' = true) : plainX e' = true := by
  cases e <;> unfold okE at h <;> (repeat' split at h) <;> first | rfl | cases h | skip
theorem plain_star {e : PySem.Expr} (h : plainX e = true) : noStar e = true := by cases e <;> first | rfl | cases h
theorem plain_behind {e : PySem.Expr} (h : plainX e = true) (op : CmpOp) : behindInMarks op e = false := by cases e <;> first | rfl | cases h
theorem plain_ix {e : PySem.Expr} (h : plainX e = true) : PlainIx e := by intro o i; cases e <;> first | rfl | cases h
theorem okEs_plain {N fs : List Str} {sc : Scope} : ∀ {es : Es} {l : List PySem.Expr}, okEs N fs sc es l = true → ∀ e ∈ l, noStar e = true
  | .nil, l, h => by
    simp only [okEs] at h
    split at h
    · intro e he; cases he
    · cases h
  | .cons a r, l, h => by
    simp only [okEs] at h
    split at h
    · rename_i a' r'
      rw [Bool.and_eq_true] at h
      intro e he
      rcases List.mem_cons.mp he with q | q
      · subst q; exact plain_star (okE_plain h.1)
      · exact okEs_plain h.2 e q
    · cases h
section
variable {K : KF} {H H1 : Hp} {Q : VK} {T : Bool → Hp → Prop}
theorem up.tr (p : Pres H H1) {v : PV} {h : MH} (q : up K H Q v h) : up K H1 Q v h := fun V H' p' r hr => q V H' (p.trans p') r hr
theorem upT.tr (p : Pres H H1) {v : Bool} {h : MH} (q : upT K H T v h) : upT K H1 T v h := fun H' p' hr => q H' (p.trans p') hr
def upA (K : KF) (H : Hp) (Q : List V → Hp → Prop) : List PV → MH → Prop := fun xs h' => ∀ vs H', Pres H H' → Reps K H' vs xs → HRep K h' H' → Q vs H'
end
def SE (X : Cx) (w : Env → MH → Post → Prop) : TE := fun σ H Q => ∃ env h, EnvRep X.K H σ env ∧ HRep X.K h H ∧ w env h (up X.K H Q)
def ST (X : Cx) (w : Env → MH → (Bool → MH → Prop) → Prop) : TT := fun σ H Q => ∃ env h, EnvRep X.K H σ env ∧ HRep X.K h H ∧ w env h (upT X.K H Q)
def SA (X : Cx) (w : Env → MH → (List PV → MH → Prop) → Prop) : TA := fun σ H Q => ∃ env h, EnvRep X.K H σ env ∧ HRep X.K h H ∧ w env h (upA X.K H Q)
section
variable {X : Cx} {G : Calls} {Ex : XP} {σ : L2.St} {H : Hp} {env : Env} {h : MH}
theorem se_mk {e : E} {P : Post} {R : VK} (hG : GMono G) (er : EnvRep X.K H σ env) (hr : HRep X.K h H) (q : wpE G Ex e env h P) (k : ∀ x h1 V H1, P x h1 → Pres H H1 → Rep X.K H1 V x → HRep X.K h1 H1 → R V H1) : SE X (wpE G Ex e) σ H R :=
  ⟨env, h, er, hr, wpE_mono hG (fun x h1 p V H1 p1 r1 hr1 => k x h1 V H1 p p1 r1 hr1) q⟩
theorem st_mk {e : E} {P : Bool → MH → Prop} {R : Bool → Hp → Prop} (hG : GMono G) (er : EnvRep X.K H σ env) (hr : HRep X.K h H) (q : wpT G Ex e env h P) (k : ∀ x h1 H1, P x h1 → Pres H H1 → HRep X.K h1 H1 → R x H1) : ST X (wpT G Ex e) σ H R :=
  ⟨env, h, er, hr, wpT_mono hG (fun x h1 p H1 p1 hr1 => k x h1 H1 p p1 hr1) q⟩
theorem sa_mk {e : Es} {P : List PV → MH → Prop} {R : List V → Hp → Prop} (hG : GMono G) (er : EnvRep X.K H σ env) (hr : HRep X.K h H) (q : wpEs G Ex e env h P) (k : ∀ x h1 V H1, P x h1 → Pres H H1 → Reps X.K H1 V x → HRep X.K h1 H1 → R V H1) : SA X (wpEs G Ex e) σ H R :=
  ⟨env, h, er, hr, wpEs_mono hG (fun x h1 p V H1 p1 r1 hr1 => k x h1 V H1 p p1 r1 hr1) q⟩
variable {a b c : E} {a' b' c' : PySem.Expr} {p pos : Pos} {n : Nat}
abbrev PEm (X : Cx) (G : Calls) (Ex : XP) (e : E) (e' : PySem.Expr) : Prop := PE X e' (SE X (wpE G Ex e))
abbrev PTm (X : Cx) (G : Calls) (Ex : XP) (e : E) (e' : PySem.Expr) : Prop := PT X e' (ST X (wpT G Ex e))
abbrev PAm (X : Cx) (G : Calls) (Ex : XP) (e : Es) (e' : List PySem.Expr) : Prop := PA X e' (SA X (wpEs G Ex e))
theorem e_var {i : Nat} {x : Str} (h : visB X.N X.env.scope i x = true) : PEm X G Ex (.var i) (.Name x pos) := by
  unfold visB at h
  simp only [Bool.and_eq_true, decide_eq_true_eq] at h
  obtain ⟨⟨⟨h1, h2⟩, h3⟩, h4⟩ := h
  have hv : Vis X.env.scope x := by
    unfold Vis
    split at h2
    · exact .inl (by assumption)
    · exact .inr (.inl (by assumption))
    · exact .inr (.inr (by assumption))
    · cases h2
  refine PE.imp (pe_var h1 hv (by simpa using h3) (by simpa using h4)) fun σ H Q ⟨env, h, er, hr, q⟩ => ?_
  simp only [wpE] at q
  obtain ⟨v, e, q⟩ := q
  obtain ⟨V, e2, r⟩ := er.2 i v e
  exact ⟨V, e2, q V H .refl r hr⟩
theorem e_non : PEm X G Ex .non (.Constant .none n pos) := PE.imp pe_non fun σ H Q ⟨env, h, er, hr, q⟩ => q _ H .refl .non hr
theorem e_bl {b : Bool} : PEm X G Ex (.bl b) (.Constant (.bool b) n pos) := PE.imp pe_bl fun σ H Q ⟨env, h, er, hr, q⟩ => q _ H .refl (.bl b) hr
theorem e_int {i : Int} : PEm X G Ex (.int i) (.Constant (.int i) n pos) := PE.imp pe_int fun σ H Q ⟨env, h, er, hr, q⟩ => q _ H .refl (.int i) hr
theorem e_str {x : Str} : PEm X G Ex (.str x) (.Constant (.str x) n pos) := PE.imp pe_str fun σ H Q ⟨env, h, er, hr, q⟩ => q _ H .refl (.str x) hr
theorem e_bin {op : Operator} (hG : GMono G) (ha : PEm X G Ex a a') (hb : PEm X G Ex b b') : PEm X G Ex (.bin op a b) (.BinOp a' op b' pos) := PE.imp (pe_op op_binW ha hb) fun σ H Q ⟨env, h, er, hr, q⟩ => by
  simp only [wpE] at q
  refine se_mk hG er hr q fun x h1 V H1 q p1 r1 hr1 => se_mk hG (er.keep p1) hr1 q fun y h2 W H2 q p2 r2 hr2 => ?_
  exact ⟨x, y, h2, r1.keep p2, r2, hr2, binW_mono (fun _ _ => up.tr (p1.trans p2)) q⟩
theorem e_neg (hG : GMono G) (ha : PEm X G Ex a a') : PEm X G Ex (.neg a) (.UnaryOp .USub a' pos) := PE.imp (pe_un un_neg ha) fun σ H Q ⟨env, h, er, hr, q⟩ => by
  simp only [wpE] at q
  refine se_mk hG er hr q fun x h1 V H1 ⟨i, e, q⟩ p1 r1 hr1 => ?_
  subst e
  exact ⟨i, r1.int_inv, q _ H1 p1 (.int _) hr1⟩
theorem e_not (hG : GMono G) (ha : PEm X G Ex a a') : PEm X G Ex (.not a) (.UnaryOp .Not a' pos) := PE.imp (pe_notT ha) fun σ H Q ⟨env, h, er, hr, q⟩ => by
  simp only [wpE] at q
  refine se_mk hG er hr q fun x h1 V H1 q p1 r1 hr1 => ?_
  obtain ⟨k, t, q⟩ := truW_V r1 hr1 q
  exact ⟨k, t, q _ H1 p1 (.bl _) hr1⟩
theorem e_and {r : List PySem.Expr} (hG : GMono G) (ha : PEm X G Ex a a') (hb : PEm X G Ex b (.BoolOp .And (b' :: r) pos)) : PEm X G Ex (.and a b) (.BoolOp .And (a' :: b' :: r) pos) := PE.imp (pe_andT ha hb) fun σ H Q ⟨env, h, er, hr, q⟩ => by
  simp only [wpE] at q
  refine se_mk hG er hr q fun x h1 V H1 q p1 r1 hr1 => ?_
  obtain ⟨k, t, q⟩ := truW_V r1 hr1 q
  refine ⟨k, t, ?_⟩
  cases k with
  | true => exact se_mk hG (er.keep p1) hr1 q fun y h2 W H2 q p2 r2 hr2 => q W H2 (p1.trans p2) r2 hr2
  | false => exact q _ H1 p1 r1 hr1
theorem e_or {r : List PySem.Expr} (hG : GMono G) (ha : PEm X G Ex a a') (hb : PEm X G Ex b (.BoolOp .Or (b' :: r) pos)) : PEm X G Ex (.or a b) (.BoolOp .Or (a' :: b' :: r) pos) := PE.imp (pe_orT ha hb) fun σ H Q ⟨env, h, er, hr, q⟩ => by
  simp only [wpE] at q
  refine se_mk hG er hr q fun x h1 V H1 q p1 r1 hr1 => ?_
  obtain ⟨k, t, q⟩ := truW_V r1 hr1 q
  refine ⟨k, t, ?_⟩
  cases k with
  | false => exact se_mk hG (er.keep p1) hr1 q fun y h2 W H2 q p2 r2 hr2 => q W H2 (p1.trans p2) r2 hr2
  | true => exact q _ H1 p1 r1 hr1
theorem e_ite (hG : GMono G) (hc : PTm X G Ex c c') (ha : PEm X G Ex a a') (hb : PEm X G Ex b b') : PEm X G Ex (.ite c a b) (.IfExp c' a' b' pos) := PE.imp (pe_ifExp hc ha hb) fun σ H Q ⟨env, h, er, hr, q⟩ => by
  simp only [wpE] at q
  refine st_mk hG er hr q fun k h1 H1 q p1 hr1 => ?_
  cases k with
  | true => exact se_mk hG (er.keep p1) hr1 q fun y h2 W H2 q p2 r2 hr2 => q W H2 (p1.trans p2) r2 hr2
  | false => exact se_mk hG (er.keep p1) hr1 q fun y h2 W H2 q p2 r2 hr2 => q W H2 (p1.trans p2) r2 hr2
theorem e_cmp {op : CmpOp} (hG : GMono G) (hu : X.A.units + 64 < cLine) (ha : PEm X G Ex a a') (hb : PEm X G Ex b b') (hm : behindInMarks op b' = false) : PEm X G Ex (.cmp op a b) (.Compare a' [op] [b'] pos) := PE.imp (pe_cmpR (op_cmpW hu) ha hb hm) fun σ H Q ⟨env, h, er, hr, q⟩ => by
  simp only [wpE] at q
  refine se_mk hG er hr q fun x h1 V H1 q p1 r1 hr1 => se_mk hG (er.keep p1) hr1 q fun y h2 W H2 q p2 r2 hr2 => ?_
  exact ⟨x, y, h2, r1.keep p2, r2, hr2, cmpW_mono (fun k _ q H' p3 hr3 => q _ H' ((p1.trans p2).trans p3) (.bl k) hr3) q⟩
theorem t_cmp {op : CmpOp} (hG : GMono G) (hu : X.A.units + 64 < cLine) (ha : PEm X G Ex a a') (hb : PEm X G Ex b b') (hm : behindInMarks op b' = false) : PTm X G Ex (.cmp op a b) (.Compare a' [op] [b'] pos) := PT.imp (pt_cmpR (op_cmpW hu) ha hb hm) fun σ H Q ⟨env, h, er, hr, q⟩ => by
  simp only [wpT] at q
  refine se_mk hG er hr q fun x h1 V H1 q p1 r1 hr1 => se_mk hG (er.keep p1) hr1 q fun y h2 W H2 q p2 r2 hr2 => ?_
  exact ⟨x, y, h2, r1.keep p2, r2, hr2, cmpW_mono (fun k _ q H' p3 hr3 => ⟨k, rfl, q H' ((p1.trans p2).trans p3) hr3⟩) q⟩
theorem e_chain {o o2 : CmpOp} (hG : GMono G) (hu : X.A.units + 64 < cLine) (ha : PEm X G Ex a a') (hb : PEm X G Ex b b') (hc : PEm X G Ex c c') (hm : behindInMarks o2 c' = false) :
    PEm X G Ex (.chain o o2 a b c) (.Compare a' [o, o2] [b', c'] pos) := PE.imp (pe_chain (op_cmpW hu) (op_cmpW hu) ha hb hc hm) fun σ H Q ⟨env, h, er, hr, q⟩ => by
  simp only [wpE] at q
  refine se_mk hG er hr q fun x h1 V H1 q p1 r1 hr1 => se_mk hG (er.keep p1) hr1 q fun y h2 W H2 q p2 r2 hr2 => ?_
  refine ⟨x, y, h2, r1.keep p2, r2, hr2, cmpW_mono (fun k h3 q H3 p3 hr3 => ⟨k, rfl, ?_⟩) q⟩
  cases k with
  | true =>
    refine se_mk hG (er.keep ((p1.trans p2).trans p3)) hr3 q fun z h4 Z H4 q p4 r4 hr4 => ?_
    exact ⟨y, z, h4, r2.keep (p3.trans p4), r4, hr4, cmpW_mono (fun k _ q H' p5 hr5 => q _ H' ((((p1.trans p2).trans p3).trans p4).trans p5) (.bl k) hr5) q⟩
  | false => exact q _ H3 ((p1.trans p2).trans p3) (.bl _) hr3
theorem t_chain {o o2 : CmpOp} (hG : GMono G) (hu : X.A.units + 64 < cLine) (ha : PEm X G Ex a a') (hb : PEm X G Ex b b') (hc : PEm X G Ex c c') (hm : behindInMarks o2 c' = false) :
    PTm X G Ex (.chain o o2 a b c) (.Compare a' [o, o2] [b', c'] pos) := PT.imp (pt_chain (op_cmpW hu) (op_cmpW hu) ha hb hc hm) fun σ H Q ⟨env, h, er, hr, q⟩ => by
  simp only [wpT] at q
  refine se_mk hG er hr q fun x h1 V H1 q p1 r1 hr1 => se_mk hG (er.keep p1) hr1 q fun y h2 W H2 q p2 r2 hr2 => ?_
  refine ⟨x, y, h2, r1.keep p2, r2, hr2, cmpW_mono (fun k h3 q H3 p3 hr3 => ⟨k, rfl, ?_⟩) q⟩
  cases k with
  | true =>
    refine se_mk hG (er.keep ((p1.trans p2).trans p3)) hr3 q fun z h4 Z H4 q p4 r4 hr4 => ?_
    exact ⟨y, z, h4, r2.keep (p3.trans p4), r4, hr4, cmpW_mono (fun k _ q H' p5 hr5 => ⟨k, rfl, q H' ((((p1.trans p2).trans p3).trans p4).trans p5) hr5⟩) q⟩
  | false => exact ⟨false, rfl, q H3 ((p1.trans p2).trans p3) hr3⟩
theorem e_isN {neg : Bool} (hG : GMono G) (ha : PEm X G Ex a a') : PEm X G Ex (.isN a neg) (.Compare a' [if neg then .IsNot else .Is] [.Constant .none n p] pos) := PE.imp (pe_cmpR (op_isNW neg) ha pe_non rfl) fun σ H Q ⟨env, h, er, hr, q⟩ => by
  simp only [wpE] at q
  refine se_mk hG er hr q fun x h1 V H1 q p1 r1 hr1 => ?_
  exact ⟨rfl, x, h1, r1, hr1, isNW_mono (fun k _ q H' p3 hr3 => q _ H' (p1.trans p3) (.bl k) hr3) q⟩
theorem t_isN {neg : Bool} (hG : GMono G) (ha : PEm X G Ex a a') : PTm X G Ex (.isN a neg) (.Compare a' [if neg then .IsNot else .Is] [.Constant .none n p] pos) := PT.imp (pt_cmpR (op_isNW neg) ha pe_non rfl) fun σ H Q ⟨env, h, er, hr, q⟩ => by
  simp only [wpT] at q
  refine se_mk hG er hr q fun x h1 V H1 q p1 r1 hr1 => ?_
  exact ⟨rfl, x, h1, r1, hr1, isNW_mono (fun k _ q H' p3 hr3 => ⟨k, rfl, q H' (p1.trans p3) hr3⟩) q⟩
theorem e_isB {b neg : Bool} (hG : GMono G) (ha : PEm X G Ex a a') : PEm X G Ex (.isB a b neg) (.Compare a' [if neg then .IsNot else .Is] [.Constant (.bool b) n p] pos) := PE.imp (pe_cmpR (op_isBW b neg) ha pe_bl rfl) fun σ H Q ⟨env, h, er, hr, q⟩ => by
  simp only [wpE] at q
  refine se_mk hG er hr q fun x h1 V H1 q p1 r1 hr1 => ?_
  exact ⟨rfl, x, h1, r1, hr1, isBW_mono (fun k _ q H' p3 hr3 => q _ H' (p1.trans p3) (.bl k) hr3) q⟩
theorem t_isB {b neg : Bool} (hG : GMono G) (ha : PEm X G Ex a a') : PTm X G Ex (.isB a b neg) (.Compare a' [if neg then .IsNot else .Is] [.Constant (.bool b) n p] pos) := PT.imp (pt_cmpR (op_isBW b neg) ha pe_bl rfl) fun σ H Q ⟨env, h, er, hr, q⟩ => by
  simp only [wpT] at q
  refine se_mk hG er hr q fun x h1 V H1 q p1 r1 hr1 => ?_
  exact ⟨rfl, x, h1, r1, hr1, isBW_mono (fun k _ q H' p3 hr3 => ⟨k, rfl, q H' (p1.trans p3) hr3⟩) q⟩
theorem e_isin {neg : Bool} (hG : GMono G) (hu : X.A.units + 65 < cLine) (ha : PEm X G Ex a a') (hb : PEm X G Ex b b') (hm : ∀ op, behindInMarks op b' = false) :
    PEm X G Ex (.isin a b neg) (.Compare a' [if neg then .NotIn else .In] [b'] pos) := PE.imp (pe_cmpR (op_inW neg hu) ha hb (hm _)) fun σ H Q ⟨env, h, er, hr, q⟩ => by
  simp only [wpE] at q
  refine se_mk hG er hr q fun x h1 V H1 q p1 r1 hr1 => se_mk hG (er.keep p1) hr1 q fun y h2 W H2 q p2 r2 hr2 => ?_
  exact ⟨x, y, h2, r1.keep p2, r2, hr2, inW_mono (fun k _ q H' p3 hr3 => q _ H' ((p1.trans p2).trans p3) (.bl _) hr3) q⟩
theorem t_isin {neg : Bool} (hG : GMono G) (hu : X.A.units + 65 < cLine) (ha : PEm X G Ex a a') (hb : PEm X G Ex b b') (hm : ∀ op, behindInMarks op b' = false) :
    PTm X G Ex (.isin a b neg) (.Compare a' [if neg then .NotIn else .In] [b'] pos) := PT.imp (pt_cmpR (op_inW neg hu) ha hb (hm _)) fun σ H Q ⟨env, h, er, hr, q⟩ => by
  simp only [wpT] at q
  refine se_mk hG er hr q fun x h1 V H1 q p1 r1 hr1 => se_mk hG (er.keep p1) hr1 q fun y h2 W H2 q p2 r2 hr2 => ?_
  exact ⟨x, y, h2, r1.keep p2, r2, hr2, inW_mono (fun k _ q H' p3 hr3 => ⟨_, rfl, q H' ((p1.trans p2).trans p3) hr3⟩) q⟩
theorem a_nil : PAm X G Ex .nil [] := PA.imp pa_nil fun σ H Q ⟨env, h, er, hr, q⟩ => by
  simp only [wpEs] at q
  exact q _ H .refl .nil hr
theorem a_cons {es : Es} {es' : List PySem.Expr} (hG : GMono G) (ha : PEm X G Ex a a') (hs : PAm X G Ex es es') (ns : noStar a' = true) : PAm X G Ex (.cons a es) (a' :: es') := PA.imp (pa_cons ha hs (star_cons ns _ _)) fun σ H Q ⟨env, h, er, hr, q⟩ => by
  simp only [wpEs] at q
  refine se_mk hG er hr q fun x h1 V H1 q p1 r1 hr1 => sa_mk hG (er.keep p1) hr1 q fun y h2 W H2 q p2 r2 hr2 => ?_
  exact q _ H2 (p1.trans p2) (.cons (r1.keep p2) r2) hr2
theorem e_tup {es : Es} {es' : List PySem.Expr} (hG : GMono G) (hs : PAm X G Ex es es') : PEm X G Ex (.tup es) (.Tuple es' n pos) := PE.imp (pe_tup hs) fun σ H Q ⟨env, h, er, hr, q⟩ => by
  simp only [wpE] at q
  refine sa_mk hG er hr q fun x h1 V H1 ⟨l, q⟩ p1 r1 hr1 => ?_
  exact ⟨by rw [r1.length]; exact l, tup_new p1 hr1 r1 q⟩
theorem e_lst {m : Bool} {es : Es} {es' : List PySem.Expr} (hG : GMono G) (hs : PAm X G Ex es es') : PEm X G Ex (.lst m es) (.List es' pos) := PE.imp (pe_laid (pe_lst hs)) fun σ H Q ⟨env, h, er, hr, q⟩ => by
  simp only [wpE] at q
  refine sa_mk hG er hr q fun x h1 V H1 q p1 r1 hr1 => ?_
  exact laid_new p1 hr1 r1 q
theorem e_idx (hG : GMono G) (ha : PEm X G Ex a a') (hb : PEm X G Ex b b') (hp : PlainIx b') : PEm X G Ex (.idx a b) (.Subscript a' b' pos) := PE.imp (pe_ix ix_W ha hb hp) fun σ H Q ⟨env, h, er, hr, q⟩ => by
  simp only [wpE] at q
  refine se_mk hG er hr q fun x h1 V H1 q p1 r1 hr1 => se_mk hG (er.keep p1) hr1 q fun y h2 W H2 q p2 r2 hr2 => ?_
  exact ⟨x, y, h2, r1.keep p2, r2, hr2, idxW_mono (fun _ _ => up.tr (p1.trans p2)) q⟩
theorem e_rev {k : Nat} {q p2 : Pos} (hG : GMono G) (ha : PEm X G Ex a a') : PEm X G Ex (.rev a) (.Subscript a' (.Slice none none (some (minus1 p q k)) p2) pos) := PE.imp (pe_rev ha) fun σ H Q ⟨env, h, er, hr, q⟩ => by
  simp only [wpE] at q
  refine se_mk hG er hr q fun x h1 V H1 q p1 r1 hr1 => ?_
  exact ⟨x, h1, r1, hr1, revW_mono (fun _ _ => up.tr p1) q⟩
theorem pw_of {op : BoolOp} {es : List PySem.Expr} {t : TT} (h0 : PT X (.BoolOp op es pos) t) : PW X (.BoolOp op es pos) t := ⟨fun wh pins s σ H Q I h => by
  have q := h0.run pins s σ H Q I h
  have e : ∀ w, PySem.isTrue (.BoolOp op es pos) X.env w = allTrue op es X.env := fun w => by simp only [PySem.isTrue]
  rw [e] at q ⊢
  exact q⟩
theorem t_not (hG : GMono G) (ha : PTm X G Ex a a') : PTm X G Ex (.not a) (.UnaryOp .Not a' pos) := PT.imp (pt_not ha) fun σ H Q ⟨env, h, er, hr, q⟩ => by
  simp only [wpT] at q
  exact st_mk hG er hr q fun x h1 H1 q p1 hr1 => q H1 p1 hr1
theorem t_and {r : List PySem.Expr} (hG : GMono G) (ha : PTm X G Ex a a') (hb : PW X (.BoolOp .And (b' :: r) pos) (ST X (wpT G Ex b))) : PTm X G Ex (.and a b) (.BoolOp .And (a' :: b' :: r) pos) := PT.imp (pw_and ha hb).pt fun σ H Q ⟨env, h, er, hr, q⟩ => by
  simp only [wpT] at q
  refine st_mk hG er hr q fun k h1 H1 q p1 hr1 => ?_
  cases k with
  | true => exact st_mk hG (er.keep p1) hr1 q fun y h2 H2 q p2 hr2 => q H2 (p1.trans p2) hr2
  | false => exact q H1 p1 hr1
theorem t_or {r : List PySem.Expr} (hG : GMono G) (ha : PTm X G Ex a a') (hb : PW X (.BoolOp .Or (b' :: r) pos) (ST X (wpT G Ex b))) : PTm X G Ex (.or a b) (.BoolOp .Or (a' :: b' :: r) pos) := PT.imp (pw_or ha hb).pt fun σ H Q ⟨env, h, er, hr, q⟩ => by
  simp only [wpT] at q
  refine st_mk hG er hr q fun k h1 H1 q p1 hr1 => ?_
  cases k with
  | false => exact st_mk hG (er.keep p1) hr1 q fun y h2 H2 q p2 hr2 => q H2 (p1.trans p2) hr2
  | true => exact q H1 p1 hr1
theorem t_ite (hG : GMono G) (hc : PTm X G Ex c c') (ha : PTm X G Ex a a') (hb : PTm X G Ex b b') : PTm X G Ex (.ite c a b) (.IfExp c' a' b' pos) := by
  refine ⟨fun pins s σ H Q I ⟨env, h, er, hr, q⟩ => ?_⟩
  simp only [wpT] at q
  simp only [PySem.isTrue]
  refine wpAny_bind (thn (hc.run pins s σ H (fun k H1 => if k = true then ST X (wpT G Ex a) σ H1 Q else ST X (wpT G Ex b) σ H1 Q) I (st_mk hG er hr q fun k h1 H1 q p1 hr1 => ?_)) fun k s1 ⟨H1, I1, q1⟩ => ?_)
  · cases k with
    | true => exact st_mk hG (er.keep p1) hr1 q fun y h2 H2 q p2 hr2 => q H2 (p1.trans p2) hr2
    | false => exact st_mk hG (er.keep p1) hr1 q fun y h2 H2 q p2 hr2 => q H2 (p1.trans p2) hr2
  · cases k with
    | true => exact ha.run pins s1 σ H1 Q I1 q1
    | false => exact hb.run pins s1 σ H1 Q I1 q1
theorem t_val {e : E} {e' : PySem.Expr} (hG : GMono G) (he : PEm X G Ex e e') (hw : ∀ env h Q, wpT G Ex e env h Q → wpE G Ex e env h (fun v h2 => truW v h2 Q))
    (ht : ∀ whole : Sem Value, PySem.isTrue e' X.env whole = (do let v ← whole; standAt e'.pos; holding [v] (truthy v))) : PTm X G Ex e e' := PT.imp (pt_truth he ht) fun σ H Q ⟨env, h, er, hr, q⟩ => by
  refine se_mk hG er hr (hw _ _ _ q) fun x h1 V H1 q p1 r1 hr1 => ?_
  obtain ⟨k, t, q⟩ := truW_V r1 hr1 q
  exact ⟨k, t, q H1 p1 hr1⟩
end
end MP
set_option Elab.async false
set_option linter.all false
set_option maxRecDepth 100000
set_option maxHeartbeats 1000000
namespace MP
open PySem PySem.Spec PyProof.Rows L2
section
variable {X : Cx} {pins : List (Addr × Obj)} {σ : L2.St} {H : Hp} {s : Shared}
abbrev frz2 (o : Obj) (u : HO) : HO := .frz o (.frz o u)
theorem inv_relock {d : Addr} {od : Obj} {u : HO} (I : Inv X pins σ H s) (h : H d = some (.frz od u)) (hn : ∀ o' u', X.H_0 d ≠ some (.frz o' u')) : Inv X pins σ (upd H d (frz2 od u)) s := by
  have away : ∀ b o, H b = some o → (∀ o' u', o ≠ .frz o' u') → b ≠ d := fun b o e k z => by
    subst z
    exact k _ _ (Option.some.inj (e.symm.trans h))
  have none_ne : ∀ b, H b = none → b ≠ d := fun b e z => by subst z; rw [h] at e; exact nomatch e
  have keepO : ∀ {b o}, ObjOk X.prog X.w H s.heap b o → ObjOk X.prog X.w (upd H d (frz2 od u)) s.heap b o := fun x =>
    x.stay (fun _ _ _ q => q) (fun c q => (upd_ne (away c _ q (fun _ _ z => nomatch z))).trans q) fun c xs q => (upd_ne (away c _ q (fun _ _ z => nomatch z))).trans q
  constructor
  · exact I.ok
  · exact I.os
  · exact I.bare
  · constructor
    · exact I.base.keep
    · exact I.base.slot
    · intro b o e n hx
      have q := I.base.free b o e n hx
      exact (upd_ne (none_ne b q)).trans q
    · exact I.base.there
    · intro b xs e
      have q := I.base.tups b xs e
      exact (upd_ne (away b _ q (fun _ _ z => nomatch z))).trans q
    · intro b o x e
      exact (upd_ne (fun z => by subst z; exact hn o x e)).trans (I.base.frzs b o x e)
    · intro b ps e
      obtain ⟨m, q⟩ := I.base.tbls b ps e
      exact ⟨m, (upd_ne (away b _ q (fun _ _ z => nomatch z))).trans q⟩
  · exact I.loc
  · exact I.cell
  · exact (upd_ne (none_ne _ I.free)).trans I.free
  · intro x c e
    have q := I.freeC x c e
    exact (upd_ne (none_ne c q)).trans q
  · intro p hp
    obtain ⟨e, n, r⟩ := I.pin p hp
    exact ⟨e, (upd_ne (none_ne _ n)).trans n, r⟩
  · intro b o e
    by_cases hb : b = d
    · subst hb
      rw [upd_same] at e
      cases e
      exact ⟨(I.hok b _ h).1, keepO (I.hok b _ h)⟩
    · rw [upd_ne hb] at e
      exact keepO (I.hok b o e)
  · exact I.len
theorem upd_upd {a : Addr} {o u : HO} : upd (upd H a o) a u = upd H a u := by
  funext b
  by_cases h : b = a
  · subst h; rw [upd_same, upd_same]
  · rw [upd_ne h, upd_ne h, upd_ne h]
theorem inv_lock2 {d : Addr} {u : HO} (I : Inv X pins σ H s) (h : H d = some u) (mu : Mut (some u)) : ∃ od, Inv X pins σ (upd H d (frz2 od u)) s := by
  obtain ⟨od, I1⟩ := I.lock h mu
  have I2 := inv_relock I1 upd_same (I.nofrz h mu)
  rw [upd_upd] at I2
  exact ⟨od, I2⟩
theorem inv_unlock2 {d : Addr} {od : Obj} {u : HO} (I : Inv X pins σ H s) (h : H d = some (frz2 od u)) (hn : ∀ o' u', X.H_0 d ≠ some (.frz o' u')) : Inv X pins σ (upd H d u) s := by
  have I1 := I.unlock h hn
  have I2 := I1.unlock (upd_same) hn
  rw [upd_upd] at I2
  exact I2
def lkE (d : Addr) (u : HO) (t : TE) : TE := fun σ H Q => H d = some u ∧ Mut (some u) ∧ ∀ od, t σ (upd H d (frz2 od u)) fun v H' => H' d = some (frz2 od u) ∧ Q v (upd H' d u)
theorem pe_lk {e : PySem.Expr} {t : TE} (h : PE X e t) : PE X e (fun σ H Q => ∃ d u, lkE d u t σ H Q) := ⟨fun pins s σ H Q I ⟨d, u, hd, mu, hw⟩ => by
  obtain ⟨od, I1⟩ := inv_lock2 I hd mu
  refine thn (h.run pins s σ _ _ I1 (hw od)) fun v s1 ⟨x, H', I2, r, e, q⟩ => ?_
  exact ⟨x, _, inv_unlock2 I2 e (I.nofrz hd mu), r, q⟩⟩
theorem pts_lk {e : List PySem.Expr} {t : TT} (h : PTs X e t) : PTs X e (fun σ H Q => ∃ d u, H d = some u ∧ Mut (some u) ∧ ∀ od, t σ (upd H d (frz2 od u)) fun v H' => H' d = some (frz2 od u) ∧ Q v (upd H' d u)) := ⟨fun pins s σ H Q I ⟨d, u, hd, mu, hw⟩ => by
  obtain ⟨od, I1⟩ := inv_lock2 I hd mu
  refine thn (h.run pins s σ _ _ I1 (hw od)) fun v s1 ⟨H', I2, e, q⟩ => ?_
  exact ⟨_, inv_unlock2 I2 e (I.nofrz hd mu), q⟩⟩
end
section
variable {K : KF} {H : Hp} {d : Addr} {od : Obj} {u : HO}
theorem sqT_un (h : H d = some (frz2 od u)) {a : Addr} {vs : List V} (q : SqT K H a vs) (o : HO) : SqT K (upd H d o) a vs := by
  rcases q with (q | ⟨o', q⟩) | q
  · exact .inl (.inl ((upd_ne fun z => by subst z; rw [h] at q; cases q).trans q))
  · exact .inl (.inr ⟨o', (upd_ne fun z => by subst z; rw [h] at q; cases q).trans q⟩)
  · exact .inr q
theorem fzL_un (h : H d = some (frz2 od u)) {a : Addr} {vs : List V} (q : FzL K H a vs) (o : HO) : FzL K (upd H d o) a vs := by
  rcases q with ⟨o', q⟩ | q
  · exact .inl ⟨o', (upd_ne fun z => by subst z; rw [h] at q; cases q).trans q⟩
  · exact .inr q
mutual
theorem Rep.un (h : H d = some (frz2 od u)) (o : HO) : ∀ {x : PV} {v : V}, Rep K H v x → Rep K (upd H d o) v x
  | _, _, .non => .non
  | _, _, .bl b => .bl b
  | _, _, .int i => .int i
  | _, _, .str x => .str x
  | _, _, .tup a b => .tup ((upd_ne fun z => by subst z; rw [h] at a; cases a).trans a) (Reps.un h o b)
  | _, _, .lst a b => .lst (fzL_un h a o) (Reps.un h o b)
  | _, _, .dctK a b c => .dctK ((upd_ne fun z => by subst z; rw [h] at a; cases a).trans a) b (Reps.un h o c)
  | _, _, .dctT a b c => .dctT ((upd_ne fun z => by subst z; rw [h] at a; cases a).trans a) b (Reps.un h o c)
  | _, _, .loc a => .loc a
  | _, _, .fn a b => .fn a b
  | _, _, .cst a => .cst a
  | _, _, .dtt a b c => .dtt ((upd_ne fun z => by subst z; rw [h] at a; cases a).trans a) b (Reps.un h o c)
theorem Reps.un (h : H d = some (frz2 od u)) (o : HO) : ∀ {xs : List PV} {vs : List V}, Reps K H vs xs → Reps K (upd H d o) vs xs
  | _, _, .nil => .nil
  | _, _, .cons a b => .cons (Rep.un h o a) (Reps.un h o b)
end
theorem HRep.un {h : MH} (hd : H d = some (frz2 od u)) (o : HO) (r : HRep K h H) : HRep K h (upd H d o) ∧ h d = none := by
  have hn : h d = none := by
    cases e : h d with
    | none => rfl
    | some c => obtain ⟨z, h1, h2⟩ := r d c e; rw [hd] at h1; cases h1; exact nomatch h2
  refine ⟨fun a c e => ?_, hn⟩
  obtain ⟨z, h1, h2⟩ := r a c e
  refine ⟨z, (upd_ne fun w => by subst w; rw [hn] at e; cases e).trans h1, ?_⟩
  exact match c, z, h2 with
    | _, _, .lst a => .lst (a.un hd o)
    | _, _, .dctK a b => .dctK a (b.un hd o)
    | _, _, .dctT a b => .dctT a (b.un hd o)
theorem HRep.lk {h : MH} {o u0 : HO} (hd : H d = some u0) (m1 : ∀ xs, u0 ≠ .tup xs) (m2 : ∀ o v, u0 ≠ .frz o v) (hn : h d = none) (r : HRep K h H) : HRep K h (upd H d o) ∧ Pres H (upd H d o) := by
  have p : Pres H (upd H d o) := .wr hd m1 m2
  exact ⟨r.keep p fun a c e => upd_ne fun w => (by subst w; rw [hn] at e; cases e), p⟩
theorem laid_at {h : MH} {H0 : Hp} {Q : VK} {m : Bool} {xs : List PV} {vs : List V} (p0 : Pres H0 H) (hr : HRep K h H) (hn : h d = none) (hd : H d = some (.lst vs)) (rs : Reps K H vs xs) (q : newL m xs h (up K H0 Q)) : Laid Q (.ref d) H := by
  unfold newL at q
  cases m with
  | true =>
    refine Laid.none (q.2 d hn _ _ p0 (.loc d) fun b c e => ?_)
    unfold MH.put at e
    by_cases hb : b = d
    · subst hb
      rw [if_pos rfl] at e; cases e
      exact ⟨_, hd, .lst rs⟩
    · rw [if_neg hb] at e
      exact hr b c e
  | false =>
    have ok : ∀ a, a = d → ∃ u, H a = some u ∧ Fz1 u := fun a e => ⟨.lst vs, by subst e; exact hd, True.intro⟩
    refine ⟨fun a => a = d, ok, fun H' f => ?_⟩
    have pr : Pres H H' := f.pres ok
    obtain ⟨u, o, e1, e2⟩ := f.at_ d rfl
    rw [hd] at e1
    cases e1
    refine q.2 _ _ (p0.trans pr) (.lst (.inl ⟨o, e2⟩) (rs.keep pr)) (hr.keep pr fun a c e => ?_)
    exact f.out a fun w => by subst w; rw [hn] at e; cases e
end
theorem wipe_at {τ : L2.St} : ∀ {vs : List Nat} {i : Nat}, (wipe τ vs)[i]? = if i ∈ vs ∧ i < τ.length then some none else τ[i]?
  | [], i => by simp [wipe]
  | v :: vs, i => by
    have l : (wipe τ vs).length = τ.length := wipe_length τ vs
    show ((wipe τ vs).set v none)[i]? = _
    by_cases h : v = i
    · subst h
      by_cases hl : v < τ.length
      · rw [List.getElem?_set_self (by rw [l]; exact hl), if_pos ⟨List.mem_cons_self .., hl⟩]
      · rw [List.getElem?_eq_none (by simpa [l] using hl), if_neg (fun z => hl z.2), List.getElem?_eq_none (by simpa using hl)]
    · rw [List.getElem?_set_ne h, wipe_at]
      simp [Ne.symm h]
where
  wipe_length (τ : L2.St) : ∀ vs : List Nat, (wipe τ vs).length = τ.length
    | [] => rfl
    | v :: vs => by show ((wipe τ vs).set v none).length = _; rw [List.length_set, wipe_length]
theorem wipe_len (τ : L2.St) (vs : List Nat) : (wipe τ vs).length = τ.length := wipe_at.wipe_length τ vs
theorem wipe_same {σ σ2 : L2.St} {vs : List Nat} (l : σ2.length = (wipe σ vs).length) (o : ∀ i, i ∉ vs → σ2[i]? = (wipe σ vs)[i]?) : wipe σ2 vs = wipe σ vs := by
  apply List.ext_getElem?
  intro i
  rw [wipe_len] at l
  rw [wipe_at, wipe_at, l]
  by_cases h : i ∈ vs
  · by_cases hl : i < σ.length
    · rw [if_pos ⟨h, hl⟩, if_pos ⟨h, hl⟩]
    · rw [if_neg (fun z => hl z.2), if_neg (fun z => hl z.2), List.getElem?_eq_none (by rw [l]; omega), List.getElem?_eq_none (by omega)]
  · rw [if_neg (fun z => h z.1), if_neg (fun z => h z.1), o i h, wipe_at, if_neg (fun z => h z.1)]
theorem EnvRep.un {K : KF} {H : Hp} {d : Addr} {od : Obj} {u : HO} {σ : L2.St} {env : Env} (h : H d = some (frz2 od u)) (o : HO) (e : EnvRep K H σ env) : EnvRep K (upd H d o) σ env :=
  ⟨e.1, fun i v q => let ⟨V, a, b⟩ := e.2 i v q; ⟨V, a, b.un h o⟩⟩
theorem Pres.past {H1 H : Hp} {d : Addr} {o : HO} (p : Pres H1 H) (hn : H1 d = none) : Pres H1 (upd H d o) :=
  ⟨fun a xs e => (upd_ne (ne_of_none e hn)).trans (p.tup a xs e), fun a o' u e => (upd_ne (ne_of_none e hn)).trans (p.frz a o' u e)⟩
def SC (X : Cx) (w : Env → MH → (Bool → MH → Prop) → Prop) : TT := fun σ H Q => ∃ env h, EnvRep X.K H σ env ∧ HRep X.K h H ∧ w env h (upT X.K H Q)
theorem comp_imp {X : Cx} {G : Calls} {Ex : XP} {m : Bool} {elt : E} {tg : Tg} {it : It} {c : Eo} {own : List (Str × Nat)} (hG : GMono G) (hown : own.map (·.2) = tg.own) :
    ∀ {wi : TI} {g : TG} {tt : TT} {te : TE}, wi = SI X (wpIt G Ex it) → g = SG X tg → (tt = fun σ H Q => ∃ d u, H d = some u ∧ Mut (some u) ∧ ∀ od, SC X (wpC G c) σ (upd H d (frz2 od u)) fun v H' => H' d = some (frz2 od u) ∧ Q v (upd H' d u)) →
      (te = fun σ H Q => ∃ d u, lkE d u (SE X (wpE G noX elt)) σ H Q) → ∀ σ H Q, SE X (wpE G Ex (.comp m elt tg it c)) σ H Q → tLc wi g tt te (own.map (·.2)) σ H (Laid Q) := by
  intro wi g tt te ewi eg ett ete σ H Q ⟨env, h, er, hr, q⟩
  subst ewi eg ett ete
  simp only [wpE] at q
  rw [hown]
  refine ⟨env, h, er, hr, wpIt_mono hG (fun S h1 q J H1 p1 hr1 wk len D hD => ?_) q⟩
  generalize hturn : (fun (x : PV) (h2 : MH) (R : Option PV → MH → Prop) => tgW tg x (wipeE env tg.own) fun env' => wpC G c env' h2 fun k h3 => if k = true then wpE G noX elt env' h3 fun y h4 => R (some y) h4 else R none h3) = turn at q
  let W : Nat → Nat → Hp → Prop := fun i n Hc => ∃ h' acc vs, Hc D = some (.lst vs) ∧ Pres H1 Hc ∧ HRep X.K h' Hc ∧ h' D = none ∧ Reps X.K Hc vs acc ∧ acc.length ≤ i ∧ i ≤ S.xs.length ∧ n = S.xs.length - i ∧
    compW S.stays turn (S.xs.drop i) h' (fun ys h5 => newL m (acc ++ ys) h5 (up X.K H Q))
  refine ⟨W, ⟨S.xs.length, h1, [], [], upd_same, .new hD, hr1.newP hD, hr1.fresh hD, .nil, Nat.le_refl _, Nat.zero_le _, rfl, q⟩, ?_⟩
  intro i n Hc ⟨h', acc, vs, hDc, pc, hrc, hn, rs, la, li, en, cw⟩
  by_cases hi : i < S.xs.length
  · right
    rw [List.drop_eq_getElem_cons hi] at cw
    obtain ⟨st, cw⟩ := cw
    refine ⟨wk.go i Hc h' pc hrc st hi, W (i + 1) (S.xs.length - (i + 1)), fun H' w => ⟨_, by omega, w⟩, fun xv H' y => ?_⟩
    obtain ⟨v, ev, gr, rv⟩ := wk.yld i Hc h' xv H' pc hrc st hi y
    rw [List.getElem?_eq_getElem hi] at ev
    cases ev
    subst hturn
    have pH : Pres H1 H' := pc.trans gr.pres
    refine ⟨_, wipeE env tg.own, h', (((er.keep p1).keep pH).wipe tg.own), gr.hrep hrc, rv, tgW_mono (fun env2 qt σ2 er2 l2 o2 => ⟨wipe_same l2 o2, ?_⟩) cw⟩
    refine ⟨D, .lst vs, gr D _ hDc, True.intro, fun od => ?_⟩
    obtain ⟨hrl, pl⟩ := HRep.lk (o := frz2 od (.lst vs)) (gr D _ hDc) (fun _ z => nomatch z) (fun _ _ z => nomatch z) hn (gr.hrep hrc)
    refine ⟨env2, h', er2.keep pl, hrl, wpC_mono hG (fun b h3 qt H3 p3 hr3 => ?_) qt⟩
    have d3 : H3 D = some (frz2 od (.lst vs)) := p3.frz D _ _ upd_same
    obtain ⟨u1, u2⟩ := HRep.un d3 (.lst vs) hr3
    have rs3 : Reps X.K H3 vs acc := ((rs.keep gr.pres).keep pl).keep p3
    have ps3 : Pres H1 H3 := (pH.trans pl).trans p3
    refine ⟨d3, ?_⟩
    cases b with
    | false =>
      exact ⟨h3, acc, vs, upd_same, ps3.past hD, u1, u2, rs3.un d3 _, by omega, hi, rfl, qt⟩
    | true =>
      refine ⟨D, .lst vs, upd_same, True.intro, fun od2 => ?_⟩
      obtain ⟨hrl2, pl2⟩ := HRep.lk (o := frz2 od2 (.lst vs)) (H := upd H3 D (.lst vs)) upd_same (fun _ z => nomatch z) (fun _ _ z => nomatch z) u2 u1
      refine ⟨env2, h3, ((((er2.keep pl).keep p3).un d3 (.lst vs)).keep pl2), hrl2, wpE_mono hG (fun y h4 qt V H4 p4 r4 hr4 => ?_) qt⟩
      have d4 : H4 D = some (frz2 od2 (.lst vs)) := p4.frz D _ _ upd_same
      refine ⟨d4, vs, upd_same, ?_, ?_⟩
      · rw [rs.length]; omega
      · rw [upd_upd]
        obtain ⟨w1, w2⟩ := HRep.un d4 (.lst (vs ++ [V])) hr4
        have ps4 : Pres H1 H4 := ((ps3.past hD).trans pl2).trans p4
        refine ⟨h4, acc ++ [y], vs ++ [V], upd_same, ps4.past hD, w1, w2, ?_, by rw [List.length_append]; simpa using la, hi, rfl, ?_⟩
        · exact (((((rs3.un d3 (.lst vs)).keep pl2).keep p4).un d4 _).append (.cons (r4.un d4 _) .nil))
        · refine compW_mono (fun _ _ _ _ k q => ?_) (fun ys h k => ?_) qt
          · exact tgW_mono (fun _ q => wpC_mono hG (fun b _ q => by
              cases b with
              | true => exact wpE_mono hG (fun _ _ q => k _ _ q) q
              | false => exact k _ _ q) q) q
          · rw [List.append_assoc]; exact k
  · left
    have e : i = S.xs.length := by omega
    subst e
    rw [List.drop_length] at cw
    obtain ⟨st, cw⟩ := cw
    refine ⟨wk.stop _ Hc h' pc hrc st (Nat.le_refl _), laid_at (m := m) (p1.trans pc) hrc hn hDc rs ?_⟩
    simpa using cw
theorem e_comp {X : Cx} {G : Calls} {Ex : XP} {m : Bool} {elt : E} {tg : Tg} {it : It} {c : Eo} {elt' tg' it' : PySem.Expr} {ifs' : List PySem.Expr} {sc' : Scope} {own : List (Str × Nat)} {pos : Pos} (hG : GMono G) (hc : X.calm = true) (hN : X.N.Nodup)
    (hi : PI X tg' it' (SI X (wpIt G Ex it))) (ok : BlkOk X.N X.env.scope sc' own) (hown : own.map (·.2) = tg.own)
    (hg : ∀ (s : Shared) (H : Hp) (C : Addr) (cl : List (Str × Addr)) (fp : List Addr), PG (X.blk s H sc' (compEnvC sc' cl C X.env) fp) tg' (SG X tg))
    (ht : ∀ (s : Shared) (H : Hp) (C : Addr) (cl : List (Str × Addr)) (fp : List Addr), PTs (X.blk s H sc' (compEnvC sc' cl C X.env) fp) ifs' (SC X (wpC G c)))
    (he : ∀ (s : Shared) (H : Hp) (C : Addr) (cl : List (Str × Addr)) (fp : List Addr), PE (X.blk s H sc' (compEnvC sc' cl C X.env) fp) elt' (SE X (wpE G noX elt)))
    (hs : ∀ x, foldedSetIterable it' X.env x = pure x) : PE X (.ListComp elt' [⟨tg', it', ifs', 0⟩] sc' pos) (SE X (wpE G Ex (.comp m elt tg it c))) :=
  PE.imp (pe_laid (pe_lc hc hN hi ok hg (fun s H C cl fp => pts_lk (ht s H C cl fp)) (fun s H C cl fp => pe_lk (he s H C cl fp)) hs)) (comp_imp hG hown rfl rfl rfl rfl)
end MP
set_option Elab.async false
set_option linter.all false
set_option maxRecDepth 100000
namespace MP
open PySem L2
section
variable {X : Cx} {pins : List (Addr × Obj)} {σ : L2.St} {H : Hp} {s : Shared}
theorem dk_turn {p : Addr} (I : Inv X pins σ H s) (e : H p = some (.dK [])) : Inv X pins σ (upd H p (.dT [])) s := by
  obtain ⟨z, hd, vs, rel, dd⟩ := dk_of I.hok e
  cases rel
  obtain ⟨o, es, ep, h1, h2, h3, h4, h5, h6⟩ := dd
  have es0 : es.toList = [] := by
    generalize es.toList = l at h5
    cases h5; rfl
  refine d_write (h' := s.heap) (t' := s.toks) I (by rw [e]; exact True.intro) (Heap.SameBut.refl _ _) ⟨o, h1⟩ ⟨Nat.zero_le _, hd, [], .nil, o, es, ep, h1, h2, h3, by simpa using es0, List.nodup_nil⟩
def tDisp1 (tk tv : TE) : TE := fun σ H Q => ∀ p, H p = none → tk σ (upd H p (.dK [])) fun x H1 => tv σ H1 fun y H2 => H2 p = some (.dK []) ∧
  ((∃ kk, x = kV kk ∧ Q (.ref p) (upd H2 p (.dK [(kk, y)]))) ∨ ∃ b ks, x = .ref b ∧ H2 b = some (.tup (ks.map kV)) ∧ Q (.ref p) (upd H2 p (.dT [(ks, y)])))
theorem pe_disp1 {k v : Expr} {tk tv : TE} {pos : Pos} (hu : X.A.units + 1 < cLine) (hk : PE X k tk) (hv : PE X v tv) : PE X (.Dict [some k] [v] pos) (tDisp1 tk tv) := by
  refine ⟨fun pins s σ H Q I q => ?_⟩
  have hn := I.hok.fresh (Nat.le_refl s.heap.objs.size)
  have I1 := I.laid (a := s.heap.objs.size) (o := .dK []) (h' := s.heap.push { cls := .type "dict", data := .dict #[] }) (t' := s.toks) (fun _ _ q => Heap.get?_push_of_some _ q) (Nat.le_refl _) (dk_empty s.heap I.big)
  refine wpAny_Dict_any rfl rfl (by simp) (by simp) ?_
  refine pairTrees_cons_walk (thn (hk.run pins _ σ _ _ I1 (q _ hn)) fun u s1 ⟨x, H1, I1, rx, q1⟩ => thn (hv.run pins s1 σ H1 _ I1 q1) fun w2 s2 ⟨y, H2, I2, ry, e, q2⟩ => pairTrees_nil_walk ?_)
  rcases q2 with ⟨kk, ek, q2⟩ | ⟨b, ks, eb, ht, q2⟩
  · subst ek
    obtain ⟨z, hd, vs0, r0, dd⟩ := dk_of I2.hok e
    cases r0
    refine wpAny_storeAll (knd := mixKind X.prog X.w) [(u, w2)] [(kk, w2)] [] s2 _ ⟨kV_is rx, rfl, True.intro⟩ dd (by rw [sizeLine_eq]; simp) fun h' dd' hs => ⟨.ref s.heap.objs.size, _, ?_, rfl, q2⟩
    have he : ∃ q, h'.get? s.heap.objs.size = some q := let ⟨q, _, _, hq, _⟩ := dd'; ⟨q, hq⟩
    exact d_write I2 (by rw [e]; exact True.intro) hs he (dk_new (by rw [sizeLine_eq]; simp) hd (.cons ⟨rfl, ry⟩ .nil) dd')
  · subst eb
    cases (show u = Value.ref b from rx)
    have I3 := dk_turn I2 e
    have e3 : upd H2 s.heap.objs.size (HO.dT []) s.heap.objs.size = some (.dT []) := upd_same
    have ne : b ≠ s.heap.objs.size := fun z => by subst z; rw [e] at ht; cases ht
    have ht3 : upd H2 s.heap.objs.size (HO.dT []) b = some (.tup (ks.map kV)) := (upd_ne ne).trans ht
    obtain ⟨z, hd, xs, rel, dd⟩ := dt_of I3.hok e3
    cases rel
    refine wpAny_storeAllH (A := X.A) (knd := tupleKind (mixKind X.prog X.w)) (Nat.lt_of_succ_lt hu) [(.ref b, w2)] [(ks, b, w2)] [] s2 _ ⟨rfl, rfl, key_of I3.hok ht3, True.intro⟩ dd (by rw [sizeLine_eq]; simp) fun h' tk dd' hs => ⟨.ref s.heap.objs.size, _, ?_, rfl, q2⟩
    obtain ⟨q, es, ep, hq, h2, h3, h4, _, h5⟩ := dd'
    have W := d_write (h' := h') (t' := tk) (ob := .dT [(ks, y)]) I3 (by rw [e3]; exact True.intro) hs ⟨q, hq⟩ ⟨by rw [sizeLine_eq]; simp, hd, [(ks, b, w2)], .cons ⟨rfl, by rw [upd_ne ne]; exact ht3, ry⟩ .nil, q, es, ep, hq, h2, h3, h4, h5⟩
    rw [upd_upd] at W
    exact W
end
end MP
set_option Elab.async false
set_option linter.all false
set_option maxRecDepth 100000
set_option maxHeartbeats 1000000
namespace MP
open PySem PySem.Spec PyProof.Rows L2
section
variable {X : Cx} {G : Calls} {Ex : XP} {a b : E} {a' b' : PySem.Expr} {p pos : Pos} {k : Nat} {fs : List Str} {es : Es} {es' : List PySem.Expr} {x : Str}
theorem glB_gl {sc : Scope} {env : PySem.Env} (e : env.scope = sc) (h : glB sc x = true) : env.kindOf x = some .globalImplicit ∧ (x == ("__debug__" : Str)) = false ∧ x ≠ ("__name__" : Str) := by
  unfold glB at h
  simp only [Bool.and_eq_true] at h
  obtain ⟨⟨h1, h2⟩, h3⟩ := h
  refine ⟨?_, by simpa using h2, by simpa using h3⟩
  subst e
  split at h1
  · rename_i q; exact q
  · cases h1
theorem e_call {f : Str} (gd : Good X k G fs Ex) (hf : f ∈ fs ∧ gcst f = none) (hg : glB X.env.scope f = true) (hs : PAm X G Ex es es') (ok : okEs X.N fs X.env.scope es es' = true) : PEm X G Ex (.call f es) (.Call (.Name f p) es' [] pos) := by
  obtain ⟨a, fd, ps, hm, hns, hk, hb, F⟩ := (gd.fn f hf.1 hf.2).ex
  obtain ⟨g1, g2, g3⟩ := glB_gl rfl hg
  have ns := okEs_plain ok
  have main : ∀ σ H Q, SE X (wpE G Ex (.call f es)) σ H Q → tG (spG X.K X.mg G f) (LW X Ex) (SA X (wpEs G Ex es)) σ H Q := fun σ H Q ⟨env, h, er, hr, q⟩ => by
    simp only [wpE] at q
    refine sa_mk gd.mono er hr q fun xs h1 V H1 q p1 r1 hr1 => ?_
    refine ⟨xs, h1, r1, hr1, gd.mono _ _ _ _ _ _ _ (fun v h => up.tr p1) (fun e h2 q cls d H' p' rE hr' => ?_) q⟩
    exact ⟨e, env, h2, rE, (er.keep p1).keep p', hr', q⟩
  cases es' with
  | nil =>
    have main0 : ∀ σ H Q, SE X (wpE G Ex (.call f es)) σ H Q → tG (spG X.K X.mg G f) (LW X Ex) tNil σ H Q := fun σ H Q ⟨env, h, er, hr, q⟩ => by
      cases es with
      | nil =>
        simp only [wpE, wpEs] at q
        exact ⟨[], h, .nil, hr, gd.mono _ _ _ _ _ _ _ (fun v h => id) (fun e h2 q cls d H' p' rE hr' => ⟨e, env, h2, rE, er.keep p', hr', q⟩) q⟩
      | cons a r => simp only [okEs] at ok; cases ok
    exact PE.imp (pe_G0 F gd.room gd.gd g1 hm hk hb gd.tk g2) main0
  | cons e r =>
    have se := star_cons (ns e (List.mem_cons_self ..)) r X.env
    exact PE.imp (pe_G F gd.room gd.gd g1 hm hk hb gd.tk hs g2 se (star_any (fun z hz => ns z (List.mem_cons_of_mem _ hz)) _ _)) main
theorem e_gfn {f : Str} (gd : Good X k G fs Ex) (hf : f ∈ fs ∧ gcst f = none) (hg : glB X.env.scope f = true) : PEm X G Ex (.gfn f) (.Name f p) := by
  obtain ⟨a, fd, ps, hm, hns, hk, hb, F⟩ := (gd.fn f hf.1 hf.2).ex
  obtain ⟨g1, g2, g3⟩ := glB_gl rfl hg
  refine PE.imp (pe_glob g1 hm (v := .ref a) rfl g2) fun σ H Q ⟨env, h, er, hr, q⟩ => ?_
  simp only [wpE] at q
  exact q _ H .refl (.fn hns hk) hr
theorem e_gcs {f : Str} (gd : Good X k G fs Ex) (hf : f ∈ fs) (hx : isExc f = false) (hg : glB X.env.scope f = true) : PEm X G Ex (.gcs f) (.Name f p) := by
  obtain ⟨g1, g2, g3⟩ := glB_gl rfl hg
  refine ⟨fun pins s σ H Q I ⟨env, h, er, hr, q⟩ => ?_⟩
  simp only [wpE] at q
  obtain ⟨v, ev, q⟩ := q
  obtain ⟨a, ns, rfl, hm, hc⟩ := (gd.cst f hf v ev hx).ex
  exact (pe_glob g1 hm (v := .ref a) rfl g2).run pins s σ H Q I (q _ H .refl (.cst hc) hr)
theorem e_callv {i : Nat} {e : PySem.Expr} {r : List PySem.Expr} (gd : Good X k G fs Ex) (hv : visB X.N X.env.scope i x = true) (hs : PAm X G Ex es (e :: r)) (ok : okEs X.N fs X.env.scope es (e :: r) = true) : PEm X G Ex (.callv i es) (.Call (.Name x p) (e :: r) [] pos) := by
  have hn : PEm X G Ex (.var i) (.Name x p) := e_var hv
  have ns := okEs_plain ok
  refine ⟨fun pins s σ H Q I ⟨env, h, er, hr, q⟩ => ?_⟩
  simp only [wpE] at q
  obtain ⟨f, ef, q⟩ := q
  refine wp_Gv hn hs (star_cons (ns e (List.mem_cons_self ..)) r X.env) (star_any (fun z hz => ns z (List.mem_cons_of_mem _ hz)) _ _) I ?_
  refine ⟨env, h, er, hr, ?_⟩
  simp only [wpE]
  refine ⟨_, ef, fun V H1 p1 r1 hr1 => ?_⟩
  obtain ⟨a, rfl, hns, hk⟩ := r1.fn_inv
  refine ⟨a, rfl, hk, sa_mk gd.mono (er.keep p1) hr1 q fun xs h2 vs H2 q p2 r2 hr2 s2 us I2 rv => ?_⟩
  obtain ⟨a', fd, ps, hm, hns', hk', hb, F⟩ := (gd.fn f (gd.only _ _ _ _ _ q).1 (gd.only _ _ _ _ _ q).2).ex
  rw [hns] at hns'
  cases hns'
  refine run_G F gd.room gd.gd hb gd.tk I2 rv ⟨xs, h2, r2, hr2, gd.mono _ _ _ _ _ _ _ (fun v h => up.tr (p1.trans p2)) (fun e h3 q cls d H' p' rE hr' => ?_) q⟩
  exact ⟨e, env, h3, rE, ((er.keep p1).keep p2).keep p', hr', q⟩
theorem bltN_mem (b : B) : bltN b ∈ bltNames := by cases b <;> decide
theorem bltN_ok (b : B) : bltN b ≠ ("__name__" : Str) ∧ (bltN b == ("__debug__" : Str)) = false := by cases b <;> decide
theorem boot_any : bootBuiltins "any" = some (.builtin "any") := by decide +kernel
theorem boot_all : bootBuiltins "all" = some (.builtin "all") := by decide +kernel
theorem boot_abs : bootBuiltins "abs" = some (.builtin "abs") := by decide +kernel
theorem boot_repr : bootBuiltins "repr" = some (.builtin "repr") := by decide +kernel
theorem boot_sorted : bootBuiltins "sorted" = some (.builtin "sorted") := by decide +kernel
theorem bltN_boot (b : B) : bootBuiltins (bltN b) = some (bltV b) := by
  cases b
  · exact boot_abs
  · exact PyProof.Rows.boot_int
  · exact boot_len
  · exact PyProof.Rows.boot_max
  · exact PyProof.Rows.boot_min
  · exact boot_repr
  · exact PyProof.Rows.boot_str
  · exact boot_all
  · exact boot_any
  · exact PyProof.Rows.boot_sum
  · exact PyProof.Rows.boot_max
  · exact PyProof.Rows.boot_min
theorem e_blt {b : B} {e : PySem.Expr} {r : List PySem.Expr} (gd : Good X k G fs Ex) (hu : X.A.units + 66 < cLine) (hg : glB X.env.scope (bltN b) = true) (hs : PAm X G Ex es (e :: r)) (ok : okEs X.N fs X.env.scope es (e :: r) = true) :
    PEm X G Ex (.blt b es) (.Call (.Name (bltN b) p) (e :: r) [] pos) := by
  obtain ⟨g1, g2, g3⟩ := glB_gl rfl hg
  have ns := okEs_plain ok
  have se := star_cons (ns e (List.mem_cons_self ..)) r X.env
  have sr := star_any (fun z hz => ns z (List.mem_cons_of_mem _ hz)) X.env pos
  have hm := gd.blt _ (bltN_mem b)
  have bo := bltN_boot b
  have cr := cr_blt (X := X) b gd.calm gd.gd hu
  have main : ∀ σ H Q, SE X (wpE G Ex (.blt b es)) σ H Q → tCB (RBl X.K b) (SA X (wpEs G Ex es)) σ H Q := fun σ H Q ⟨env, h, er, hr, q⟩ => by
    simp only [wpE] at q
    refine sa_mk gd.mono er hr q fun xs h1 V H1 q p1 r1 hr1 => ?_
    exact ⟨xs, h1, r1, hr1, bltW_mono (fun _ _ => up.tr p1) q⟩
  cases hv : bltV b with
  | builtin id => rw [hv] at cr bo; exact PE.imp (pe_callB cr g1 hm bo hs g3 g2 se sr) main
  | type T => rw [hv] at cr bo; exact PE.imp (pe_callTy cr g1 hm bo hs g3 g2 se sr) main
  | _ => cases b <;> cases hv
theorem tyB_cls {t : String} (h : tyB t = true) : tyCls t := by
  unfold tyB at h
  simp only [Bool.or_eq_true, beq_iff_eq] at h
  unfold tyCls
  rcases h with ((((h | h) | h) | h) | h) | h <;> simp [h]
theorem ty_boot {t : String} (h : tyCls t) : bootBuiltins (Str.ofString t) = some (.type t) ∧ Str.ofString t ∈ bltNames := by
  rcases h with h | h | h | h | h | h <;> subst h
  · exact ⟨PyProof.Rows.boot_int, by decide⟩
  · exact ⟨PyProof.Rows.boot_bool, by decide⟩
  · exact ⟨PyProof.Rows.boot_tuple, by decide⟩
  · exact ⟨PyProof.Rows.boot_str, by decide⟩
  · exact ⟨PyProof.Rows.boot_list, by decide⟩
  · exact ⟨PyProof.Rows.boot_dict, by decide⟩
theorem e_isi' {t : String} {q : Pos} (gd : Good X k G fs Ex) (hg : glB X.env.scope "isinstance" = true) (ht : tyB t = true) (hgt : glB X.env.scope (Str.ofString t) = true) (ha : PEm X G Ex a a') (na : noStar a' = true) :
    ∃ te, PE X (.Call (.Name "isinstance" p) [a', .Name (Str.ofString t) q] [] pos) te ∧ ∀ σ H Q env h, EnvRep X.K H σ env → HRep X.K h H → (wpE G Ex a env h fun x h1 => isiW x t h1 fun k h2 => ∀ H', Pres H H' → HRep X.K h2 H' → Q (.bl k) H') → te σ H Q := by
  obtain ⟨g1, g2, g3⟩ := glB_gl rfl hg
  obtain ⟨t1, t2, t3⟩ := glB_gl rfl hgt
  obtain ⟨bt, mt⟩ := ty_boot (tyB_cls ht)
  have pt : PE X (.Name (Str.ofString t) q) (tC (.ty t)) := pe_bltn t1 (gd.blt _ mt) bt rfl t3 t2
  have pa : PA X [a', .Name (Str.ofString t) q] (tCons (SE X (wpE G Ex a)) (tCons (tC (.ty t)) tNil)) := pa_cons ha (pa_cons pt pa_nil rfl) (star_cons na _ _)
  refine ⟨_, pe_callB (cr_isi (t := t)) g1 (gd.blt _ (by decide)) boot_isinstance pa (by decide) (by decide) (star_cons na _ _) rfl, fun σ H Q env h er hr w => ?_⟩
  refine se_mk gd.mono er hr w fun x h1 V H1 ⟨b, z, e, q⟩ p1 r1 hr1 => ?_
  exact ⟨V, x, h1, b, rfl, r1, hr1, z, e, q H1 p1 hr1⟩
theorem e_isi {t : String} {q : Pos} (gd : Good X k G fs Ex) (hg : glB X.env.scope "isinstance" = true) (ht : tyB t = true) (hgt : glB X.env.scope (Str.ofString t) = true) (ha : PEm X G Ex a a') (na : noStar a' = true) :
    PEm X G Ex (.isi a t) (.Call (.Name "isinstance" p) [a', .Name (Str.ofString t) q] [] pos) := by
  obtain ⟨te, h1, h2⟩ := e_isi' (p := p) (pos := pos) (q := q) gd hg ht hgt ha na
  refine PE.imp h1 fun σ H Q ⟨env, h, er, hr, w⟩ => h2 σ H Q env h er hr ?_
  simp only [wpE] at w
  exact wpE_mono gd.mono (fun x h1 w => isiW_mono (fun k h2 q H' p hr' => q _ H' p (.bl k) hr') w) w
theorem e_meth {o : E} {m : M} {o' e : PySem.Expr} {apos cpos : Pos} (gd : Good X k G fs Ex) (ho : PEm X G Ex o o') (hs : PAm X G Ex es [e]) (ne : noStar e = true) (hl : (apos.endLine == cpos.line) = true) (hb : attributeBase o' (methN m) X.env (eval o' X.env) = eval o' X.env) (hm : m ≠ .pop0) :
    PEm X G Ex (.meth o m es) (.Call (.Attribute o' (methN m) apos) [e] [] cpos) := by
  have se : starEach [e] X.env = (false, eval e X.env) :: starEach [] X.env := star_cons ne [] X.env
  have main : ∀ r : M → V → List V → Hp → VK → Prop, r m = RM X.K m → ∀ σ H Q, SE X (wpE G Ex (.meth o m es)) σ H Q → tBM X.K "list" (r m) (SE X (wpE G Ex o)) (SA X (wpEs G Ex es)) σ H Q := fun r er' σ H Q ⟨env, h, er, hr, q⟩ => by
    rw [er']
    simp only [wpE] at q
    refine se_mk gd.mono er hr q fun x h1 V H1 ⟨⟨a, xs, e1, e2⟩, q⟩ p1 r1 hr1 => ?_
    subst e1
    obtain rfl := r1.loc_inv
    obtain ⟨vs, hv, rs⟩ := lst_at hr1 e2
    refine ⟨.inl ⟨rfl, vs, .of hv⟩, sa_mk gd.mono (er.keep p1) hr1 q fun ys h2 W H2 q p2 r2 hr2 => ?_⟩
    exact ⟨_, ys, h2, r1.keep p2, r2, hr2, methW_mono (fun _ _ => up.tr (p1.trans p2)) q⟩
  have c1 : (((backTo cpos (starEach [e] X.env)).all (fun x => !x.1)) && (backToKw cpos (keywordEach [] X.env)).all (fun x => x.1.isSome) && decide (([e].length + ([] : List Keyword).length + if ([] : List Keyword).isEmpty = true then 0 else 1) < 30)) = true := by rw [se]; rfl
  cases m with
  | append => exact PE.imp (pe_bm PySem.F.plainAttrs_list PySem.F.slot_list_append PySem.F.type_list_append mt_appendW ho hs hb c1 hl se rfl) (main _ rfl)
  | extend => exact PE.imp (pe_bm PySem.F.plainAttrs_list PySem.F.slot_list_extend PySem.F.type_list_extend mt_extendW ho hs hb c1 hl se rfl) (main _ rfl)
  | pop0 => exact absurd rfl hm
  | pop1 => exact PE.imp (pe_bm PySem.F.plainAttrs_list PySem.F.slot_list_pop PySem.F.type_list_pop mt_pop1W ho hs hb c1 hl se rfl) (main _ rfl)
theorem e_meth0 {o : E} {o' : PySem.Expr} {apos cpos : Pos} (gd : Good X k G fs Ex) (ho : PEm X G Ex o o') (hl : (apos.endLine == cpos.line) = true) (hb : attributeBase o' "pop" X.env (eval o' X.env) = eval o' X.env) :
    PEm X G Ex (.meth o .pop0 .nil) (.Call (.Attribute o' "pop" apos) [] [] cpos) := by
  refine PE.imp (pe_bm0 PySem.F.plainAttrs_list PySem.F.slot_list_pop PySem.F.type_list_pop mt_pop0W ho hb hl) fun σ H Q ⟨env, h, er, hr, q⟩ => ?_
  simp only [wpE, wpEs] at q
  refine se_mk gd.mono er hr q fun x h1 V H1 ⟨⟨a, xs, e1, e2⟩, q⟩ p1 r1 hr1 => ?_
  subst e1
  obtain rfl := r1.loc_inv
  obtain ⟨vs, hv, rs⟩ := lst_at hr1 e2
  exact ⟨.inl ⟨rfl, vs, .of hv⟩, _, [], h1, r1, .nil, hr1, methW_mono (fun _ _ => up.tr p1) q⟩
def SO (X : Cx) (w : Env → MH → (Option PV → MH → Prop) → Prop) : TO := fun σ H Q => ∃ env h, EnvRep X.K H σ env ∧ HRep X.K h H ∧ w env h fun o h' => ∃ l, optI o = some l ∧ ∀ H', Pres H H' → HRep X.K h' H' → Q l H'
theorem PO.imp {e : Option PySem.Expr} {t t' : TO} (h : PO X e t) (w : ∀ σ H Q, t' σ H Q → t σ H Q) : PO X e t' := ⟨fun pins s σ H Q I q => h.run pins s σ H Q I (w σ H Q q)⟩
theorem o_none : PO X none (SO X (wpEo G Ex .none)) := PO.imp po_none fun σ H Q ⟨env, h, er, hr, q⟩ => by
  simp only [wpEo] at q
  obtain ⟨l, e, q⟩ := q
  cases e
  exact q H .refl hr
theorem o_some (hG : GMono G) (ha : PEm X G Ex a a') : PO X (some a') (SO X (wpEo G Ex (.some a))) := PO.imp (po_some ha) fun σ H Q ⟨env, h, er, hr, q⟩ => by
  simp only [wpEo] at q
  refine se_mk hG er hr q fun x h1 V H1 ⟨l, e, q⟩ p1 r1 hr1 => ?_
  unfold optI at e
  split at e
  · rename_i z; cases z
  · rename_i i z
    cases z; cases e
    exact ⟨i, r1.int_inv, q H1 p1 hr1⟩
  · cases e
theorem e_slc {lo hi : Eo} {lo' hi' : Option PySem.Expr} {p2 : Pos} (hG : GMono G) (ha : PEm X G Ex a a') (hl : PO X lo' (SO X (wpEo G Ex lo))) (hh : PO X hi' (SO X (wpEo G Ex hi))) : PEm X G Ex (.slc a lo hi) (.Subscript a' (.Slice lo' hi' none p2) pos) := PE.imp (pe_slice sl_W ha hl hh) fun σ H Q ⟨env, h, er, hr, q⟩ => by
  simp only [wpE] at q
  refine se_mk hG er hr q fun x h1 V H1 q p1 r1 hr1 => ?_
  refine ⟨env, h1, er.keep p1, hr1, wpEo_mono hG (fun l h2 ⟨li, el, q⟩ => ⟨li, el, fun H2 p2 hr2 => ?_⟩) q⟩
  refine ⟨env, h2, (er.keep p1).keep p2, hr2, wpEo_mono hG (fun u h3 ⟨ui, eu, q⟩ => ⟨ui, eu, fun H3 p3 hr3 => ?_⟩) q⟩
  have pp := (p1.trans p2).trans p3
  refine ⟨x, h3, r1.keep (p2.trans p3), hr3, ?_⟩
  unfold slcW at q
  split at q
  · rename_i xs e; first | (rw [e]; exact up.tr pp q) | exact up.tr pp q
  · rename_i xs e; first | (rw [e]; exact up.tr pp q) | exact up.tr pp q
  · exact q.elim
end
end MP
set_option Elab.async false
set_option linter.all false
set_option maxRecDepth 100000
set_option maxHeartbeats 1000000
namespace MP
open PySem PySem.Spec PyProof.Rows L2
section
variable {X : Cx} {G : Calls} {Ex : XP} {a b : E} {a' b' : PySem.Expr} {p pos : Pos} {k : Nat} {fs : List Str} {es : Es} {es' : List PySem.Expr} {x : Str} {m : Bool} {K : KF} {H H1 : Hp}
def Sized (K : KF) (v : V) (H : Hp) : Prop := ∀ p xs, v = .ref p → (LL K H p xs ∨ SqT K H p xs) → xs.length ≤ sizeLine
theorem pe_sized {e : PySem.Expr} {t : TE} (h : PE X e t) : PE X e (fun σ H Q => t σ H fun v H1 => Sized X.K v H1 → Q v H1) := ⟨fun pins s σ H Q I hq =>
  thn (h.run pins s σ H _ I hq) fun u s' ⟨v, H1, I1, r1, q⟩ => ⟨v, H1, I1, r1, q fun p xs e hp => by
    rcases hp with hp | hp
    · exact (hp.at_ I1).1
    · obtain ⟨its, r, _, hz⟩ := I1.tuple hp
      exact hz⟩⟩
theorem pa_sized {es : List PySem.Expr} {t : TA} (h : PA X es t) : PA X es (fun σ H Q => t σ H fun vs H1 => (∀ v ∈ vs, Sized X.K v H1) → Q vs H1) := ⟨fun pos pins s σ H Q I hq =>
  thn (h.run pos pins s σ H _ I hq) fun u s' ⟨v, H1, I1, r1, q⟩ => ⟨v, H1, I1, r1, q fun w _ p xs e hp => by
    rcases hp with hp | hp
    · exact (hp.at_ I1).1
    · obtain ⟨its, r, _, hz⟩ := I1.tuple hp
      exact hz⟩⟩
theorem srcV_seqT {h : MH} {v : PV} {S : Src} (e : srcV h v = some S) : seqT h v = some S.xs := by
  unfold srcV at e
  split at e
  · cases e; rfl
  · cases e; rfl
  · rename_i a
    split at e
    · rename_i xs e1
      cases e
      simp only [seqT, rd, e1]
    · cases e
  · cases e
theorem e_conList (gd : Good X k G fs Ex) (hg : glB X.env.scope "list" = true) (ha : PEm X G Ex a a') (na : noStar a' = true) : PEm X G Ex (.con .list m (.seq a)) (.Call (.Name "list" p) [a'] [] pos) := by
  obtain ⟨g1, g2, g3⟩ := glB_gl rfl hg
  have se := star_cons na [] X.env
  refine PE.imp (pe_laid (pe_callTy call_list_of g1 (gd.blt _ (by decide)) PyProof.Rows.boot_list (pa_cons (pe_sized ha) pa_nil se) g3 g2 se rfl)) fun σ H Q ⟨env, h, er, hr, q⟩ => ?_
  simp only [wpE, wpIt] at q
  refine se_mk gd.mono er hr q fun x h1 V H1 ⟨S, e, q⟩ p1 r1 hr1 sz => ?_
  obtain ⟨l, vs, rfl, sq, rs⟩ := rep_seq r1 hr1 (srcV_seqT e)
  have hz := sz l vs rfl sq
  have ln := laid_new p1 hr1 rs (q (by rw [← rs.length]; exact hz))
  exact ⟨l, vs, rfl, sq.imp LL.sq id, ln.2⟩
theorem e_conTup (gd : Good X k G fs Ex) (hg : glB X.env.scope "tuple" = true) (ha : PEm X G Ex a a') (na : noStar a' = true) : PEm X G Ex (.con .tuple m (.seq a)) (.Call (.Name "tuple" p) [a'] [] pos) := by
  obtain ⟨g1, g2, g3⟩ := glB_gl rfl hg
  refine PE.imp (pe_tupleOf g1 (gd.blt _ (by decide)) (pe_sized ha) (star_cons na [] X.env)) fun σ H Q ⟨env, h, er, hr, q⟩ => ?_
  simp only [wpE, wpIt] at q
  refine se_mk gd.mono er hr q fun x h1 V H1 ⟨S, e, q⟩ p1 r1 hr1 sz => ?_
  obtain ⟨l, vs, rfl, sq, rs⟩ := rep_seqS r1 hr1 (srcV_seqT e)
  have hz := sz l vs rfl (sq.imp id fun q => .inl (.inl q))
  have q : up X.K H Q (.tup S.xs) h1 := q (by rw [← rs.length]; exact hz)
  rcases sq with sq | sq
  · exact .inl ⟨l, vs, rfl, sq.sq, tup_new p1 hr1 rs q⟩
  · exact .inr ⟨l, vs, rfl, .inl (.inl sq), q _ H1 p1 (.tup sq rs) hr1⟩
theorem reps_rg {lo hi : Int} : Reps K H (rgV lo hi) (rngV lo hi) := by
  unfold rgV rngV
  generalize List.range (hi - lo).toNat = l
  induction l with
  | nil => exact .nil
  | cons n r ih => exact .cons (.int _) ih
theorem rg_ok {lo hi : Int} (h : RngOk lo hi) (l : hi - lo ≤ (sizeLine : Nat)) : RgOk lo hi := by
  obtain ⟨a, b, c, d⟩ := h
  have e := sizeLine_eq
  refine ⟨a, b, c, d, ?_⟩
  rw [e] at l
  omega
theorem e_conRg {lo hi : Int} {h1 : MH} {Q : VK} (p1 : Pres H H1) (hr1 : HRep K h1 H1) (ok : RngOk lo hi) (l : hi - lo ≤ (sizeLine : Nat)) (q : newL m (rngV lo hi) h1 (up K H Q)) :
    RgOk lo hi ∧ ∀ q, H1 q = none → Laid Q (.ref q) (upd H1 q (.lst (rgV lo hi))) := ⟨rg_ok ok l, (laid_new p1 hr1 reps_rg q).2⟩
theorem e_conList1 (gd : Good X k G fs Ex) {p2 pos2 : Pos} (hg : glB X.env.scope "list" = true) (hgr : glB X.env.scope "range" = true) (ha : PEm X G Ex a a') (na : noStar a' = true) : PEm X G Ex (.con .list m (.rng1 a)) (.Call (.Name "list" p) [.Call (.Name "range" p2) [a'] [] pos2] [] pos) := by
  obtain ⟨g1, _, _⟩ := glB_gl rfl hg
  obtain ⟨r1, _, _⟩ := glB_gl rfl hgr
  refine PE.imp (pe_laid (pe_listRg gd.calm g1 (gd.blt _ (by decide)) (prg_1 r1 (gd.blt _ (by decide)) ha (star_cons na [] X.env)) rfl)) fun σ H Q ⟨env, h, er, hr, q⟩ => ?_
  simp only [wpE, wpIt] at q
  refine se_mk gd.mono er hr q fun x h1 V H1 ⟨n, e, ok, l, q⟩ p1 r1 hr1 => ?_
  subst e
  exact ⟨n, r1.int_inv, e_conRg p1 hr1 ok (by simpa using l) q⟩
theorem e_conList2 (gd : Good X k G fs Ex) {p2 pos2 : Pos} (hg : glB X.env.scope "list" = true) (hgr : glB X.env.scope "range" = true) (ha : PEm X G Ex a a') (na : noStar a' = true) (hb : PEm X G Ex b b') (nb : noStar b' = true) :
    PEm X G Ex (.con .list m (.rng2 a b)) (.Call (.Name "list" p) [.Call (.Name "range" p2) [a', b'] [] pos2] [] pos) := by
  obtain ⟨g1, _, _⟩ := glB_gl rfl hg
  obtain ⟨r1, _, _⟩ := glB_gl rfl hgr
  refine PE.imp (pe_laid (pe_listRg gd.calm g1 (gd.blt _ (by decide)) (prg_2 r1 (gd.blt _ (by decide)) ha hb (star_cons na _ X.env) (star_cons nb _ X.env) (by rw [star_cons nb]; rfl)) rfl)) fun σ H Q ⟨env, h, er, hr, q⟩ => ?_
  simp only [wpE, wpIt] at q
  refine se_mk gd.mono er hr q fun x h1 V H1 q p1 r1 hr1 => se_mk gd.mono (er.keep p1) hr1 q fun y h2 W H2 ⟨n, m, e, e2, ok, l, w⟩ p2 r2 hr2 => ?_
  subst e e2
  exact ⟨n, m, r1.int_inv, r2.int_inv, e_conRg (p1.trans p2) hr2 ok l w⟩
theorem e_conTup1 (gd : Good X k G fs Ex) {p2 pos2 : Pos} (hg : glB X.env.scope "tuple" = true) (hgr : glB X.env.scope "range" = true) (ha : PEm X G Ex a a') (na : noStar a' = true) : PEm X G Ex (.con .tuple m (.rng1 a)) (.Call (.Name "tuple" p) [.Call (.Name "range" p2) [a'] [] pos2] [] pos) := by
  obtain ⟨g1, _, _⟩ := glB_gl rfl hg
  obtain ⟨r1, _, _⟩ := glB_gl rfl hgr
  refine PE.imp (pe_tupRg gd.calm g1 (gd.blt _ (by decide)) (prg_1 r1 (gd.blt _ (by decide)) ha (star_cons na [] X.env)) rfl) fun σ H Q ⟨env, h, er, hr, q⟩ => ?_
  simp only [wpE, wpIt] at q
  refine se_mk gd.mono er hr q fun x h1 V H1 ⟨n, e, ok, l, q⟩ p1 r1 hr1 => ?_
  subst e
  exact ⟨n, r1.int_inv, rg_ok ok (by simpa using l), tup_new p1 hr1 reps_rg q⟩
theorem e_conTup2 (gd : Good X k G fs Ex) {p2 pos2 : Pos} (hg : glB X.env.scope "tuple" = true) (hgr : glB X.env.scope "range" = true) (ha : PEm X G Ex a a') (na : noStar a' = true) (hb : PEm X G Ex b b') (nb : noStar b' = true) :
    PEm X G Ex (.con .tuple m (.rng2 a b)) (.Call (.Name "tuple" p) [.Call (.Name "range" p2) [a', b'] [] pos2] [] pos) := by
  obtain ⟨g1, _, _⟩ := glB_gl rfl hg
  obtain ⟨r1, _, _⟩ := glB_gl rfl hgr
  refine PE.imp (pe_tupRg gd.calm g1 (gd.blt _ (by decide)) (prg_2 r1 (gd.blt _ (by decide)) ha hb (star_cons na _ X.env) (star_cons nb _ X.env) (by rw [star_cons nb]; rfl)) rfl) fun σ H Q ⟨env, h, er, hr, q⟩ => ?_
  simp only [wpE, wpIt] at q
  refine se_mk gd.mono er hr q fun x h1 V H1 q p1 r1 hr1 => se_mk gd.mono (er.keep p1) hr1 q fun y h2 W H2 ⟨n, m, e, e2, ok, l, w⟩ p2 r2 hr2 => ?_
  subst e e2
  exact ⟨n, m, r1.int_inv, r2.int_inv, rg_ok ok l, tup_new (p1.trans p2) hr2 reps_rg w⟩
theorem cr_sorted (hu : X.A.units + 70 < cLine) : CallR X (.builtin "sorted") (fun xs H Q => ∃ x v h ys m, xs = [x] ∧ Rep X.K H x v ∧ HRep X.K h H ∧ seqT h v = some ys ∧ sortOk ys ∧ newL m (ys.mergeSort leP) h (up X.K H Q)) := by
  intro pins s σ H xs us Q I rv ⟨x, v, h, ys, m, e, r, hr, es, so, q⟩
  subst e
  obtain ⟨u, rfl, rx⟩ := vals1 rv
  obtain ⟨a, vs, rfl, sq, rs⟩ := rep_seq r hr es
  cases (show u = Value.ref a from rx)
  rcases sq with sq | sq
  · obtain ⟨hz, its, n, r1, hl, ho⟩ := sq.at_ I
    exact sorted_W I hu (.inl rfl) ho rfl rfl r1 (by rw [← hl]; exact hz) rs hr so q
  · obtain ⟨its, r1, pt, hz⟩ := I.tuple sq
    obtain ⟨⟨c1, d1, t1, sl1⟩, ho, hc, n, hd⟩ := pt
    exact sorted_W I hu (.inr rfl) ho hc hd r1 (by rw [← r1.length]; exact hz) rs hr so q
theorem e_conSorted (gd : Good X k G fs Ex) (hu : X.A.units + 70 < cLine) (hg : glB X.env.scope "sorted" = true) (ha : PEm X G Ex a a') (na : noStar a' = true) : PEm X G Ex (.con .sorted m (.seq a)) (.Call (.Name "sorted" p) [a'] [] pos) := by
  obtain ⟨g1, g2, g3⟩ := glB_gl rfl hg
  have se := star_cons na [] X.env
  refine PE.imp (pe_callB (cr_sorted hu) g1 (gd.blt _ (by decide)) boot_sorted (pa_cons (pe_sized ha) pa_nil se) g3 g2 se rfl) fun σ H Q ⟨env, h, er, hr, q⟩ => ?_
  simp only [wpE, wpIt] at q
  refine se_mk gd.mono er hr q fun x h1 V H1 ⟨S, e, q⟩ p1 r1 hr1 sz => ?_
  obtain ⟨l, vs, rfl, sq, rs⟩ := rep_seq r1 hr1 (srcV_seqT e)
  obtain ⟨so, q⟩ := q (by rw [← rs.length]; exact sz l vs rfl sq)
  exact ⟨_, x, h1, S.xs, m, rfl, r1, hr1, srcV_seqT e, so, newL_mono (fun _ _ => up.tr p1) q⟩
theorem i_seq {tg : PySem.Expr} (hG : GMono G) (ha : PEm X G Ex a a') : PI X tg a' (SI X (wpIt G Ex (.seq a))) := PI.imp (pi_seqW (pe_sized ha)) fun σ H R ⟨env, h, er, hr, q⟩ => by
  simp only [wpIt] at q
  refine se_mk hG er hr q fun x h1 V H1 ⟨S, e, q⟩ p1 r1 hr1 sz => ?_
  obtain ⟨l, vs, rfl, sq, rs⟩ := rep_seq r1 hr1 (srcV_seqT e)
  exact ⟨x, h1, S, r1, hr1, e, fun J wk l => q l J H1 p1 hr1 wk l⟩
theorem one_star {e : PySem.Expr} (h : noStar e = true) (env : PySem.Env) : starEach [e] env = [(false, eval e env)] := by rw [star_cons h]; rfl
theorem i_rng1 {tg : PySem.Expr} (gd : Good X k G fs Ex) (hgr : glB X.env.scope "range" = true) (ha : PEm X G Ex a a') (na : noStar a' = true) : PI X tg (.Call (.Name "range" p) [a'] [] pos) (SI X (wpIt G Ex (.rng1 a))) := by
  obtain ⟨r1, _, _⟩ := glB_gl rfl hgr
  refine PI.imp (pi_range1 r1 (gd.blt _ (by decide)) (pa_cons ha pa_nil (star_cons na [] X.env)) (one_star na _)) fun σ H R ⟨env, h, er, hr, q⟩ => ?_
  simp only [wpIt] at q
  refine se_mk gd.mono er hr q fun x h1 V H1 ⟨n, e, ok, l, q⟩ p1 r1 hr1 => ?_
  subst e
  refine ⟨n, by rw [r1.int_inv], ok.2.2.1, ok.2.2.2, ?_⟩
  have q := q (Itr 0 (n - 0).toNat) H1 p1 hr1 wk_rng (by show (rngV 0 n).length ≤ _; rw [rngV_len]; omega)
  rw [Int.sub_zero] at q
  exact q
theorem i_rng2 {tg : PySem.Expr} (gd : Good X k G fs Ex) (hgr : glB X.env.scope "range" = true) (ha : PEm X G Ex a a') (na : noStar a' = true) (hb : PEm X G Ex b b') (nb : noStar b' = true) : PI X tg (.Call (.Name "range" p) [a', b'] [] pos) (SI X (wpIt G Ex (.rng2 a b))) := by
  obtain ⟨r1, _, _⟩ := glB_gl rfl hgr
  refine PI.imp (pi_range2 r1 (gd.blt _ (by decide)) (pa_cons ha (pa_cons hb pa_nil (star_cons nb [] X.env)) (star_cons na _ X.env)) (by rw [star_cons na, star_cons nb]; rfl) (one_star nb _)) fun σ H R ⟨env, h, er, hr, q⟩ => ?_
  simp only [wpIt] at q
  refine se_mk gd.mono er hr q fun x h1 V H1 q p1 r1 hr1 => se_mk gd.mono (er.keep p1) hr1 q fun y h2 W H2 ⟨n, m, e, e2, ok, l, w⟩ p2 r2 hr2 => ?_
  subst e e2
  exact ⟨n, m, by rw [r1.int_inv, r2.int_inv], ok, w _ H2 (p1.trans p2) hr2 wk_rng (by show (rngV n m).length ≤ _; rw [rngV_len]; omega)⟩
theorem enumV_get {xs : List PV} {i : Nat} {y : PV} (e : xs[i]? = some y) : (enumV xs)[i]? = some (.tup [.int (i : Nat), y]) := by
  unfold enumV
  rw [List.getElem?_map, List.getElem?_zipIdx, e]
  simp
theorem enumV_len (xs : List PV) : (enumV xs).length = xs.length := by unfold enumV; simp
theorem wk_enum {a : Addr} {xs : List PV} {st : List (Addr × List PV)} (sq : ∀ H h, Pres H1 H → HRep K h H → Src.stays ⟨xs, st⟩ h → ∃ ws, SqL K H a ws ∧ Reps K H ws xs) : Wk K H1 (Ite K a) ⟨enumV xs, st⟩ where
  go := fun i H h p hr s l => by
    obtain ⟨ws, q, rs⟩ := sq H h p hr s
    have l : i < (enumV xs).length := l
    rw [enumV_len, ← rs.length] at l
    exact ⟨ws, ws[i]'l, q, List.getElem?_eq_getElem _⟩
  stop := fun i H h p hr s l => by
    obtain ⟨ws, q, rs⟩ := sq H h p hr s
    have l : (enumV xs).length ≤ i := l
    rw [enumV_len, ← rs.length] at l
    exact ⟨ws, q, l⟩
  yld := fun i H h x H' p hr s _ y => by
    obtain ⟨T, z, rfl, hT, rfl, y⟩ := y
    obtain ⟨ws, q, rs⟩ := sq H h p hr s
    obtain ⟨v, e, r⟩ := rs.getV (y ws q)
    exact ⟨_, enumV_get e, fun b u e => (upd_ne (ne_of_none e hT)).trans e, .tup upd_same (.cons (.int _) (.cons (r.keep (.new hT)) .nil))⟩
theorem lstV_src {h : MH} {v : PV} {S : Src} {x : V} (r : Rep K H1 x v) (hr : HRep K h H1) (e : lstV h v = some S) : ∃ a ws, x = .ref a ∧ LL K H1 a ws ∧ Reps K H1 ws S.xs ∧ ∀ H h, Pres H1 H → HRep K h H → S.stays h → ∃ ws, SqL K H a ws ∧ Reps K H ws S.xs := by
  unfold lstV at e
  split at e
  · cases e
  · unfold srcV at e
    split at e
    · rename_i h0; exact (h0 _ rfl).elim
    · cases e
      obtain ⟨a, vs, e0, f, rs⟩ := r.lst_inv
      exact ⟨a, vs, e0, .inr f, rs, fun H h p _ _ => ⟨vs, (p.fzL f).sq, rs.keep p⟩⟩
    · rename_i a _
      split at e
      · rename_i xs e1
        cases e
        obtain ⟨vs, h1, rs⟩ := lst_at hr e1
        exact ⟨a, vs, r.loc_inv, .inl h1, rs, fun H' h p hr' st => by
          obtain ⟨ws, h2, rs2⟩ := lst_at hr' (st (a, xs) (by simp))
          exact ⟨ws, .of h2, rs2⟩⟩
      · cases e
    · cases e
theorem i_enum {elts : List PySem.Expr} {kk : Nat} {tpos : Pos} (gd : Good X k G fs Ex) (hge : glB X.env.scope "enumerate" = true) (ha : PEm X G Ex a a') (na : noStar a' = true) : PI X (.Tuple elts kk tpos) (.Call (.Name "enumerate" p) [a'] [] pos) (SI X (wpIt G Ex (.enum a))) := by
  obtain ⟨r1, _, _⟩ := glB_gl rfl hge
  refine PI.imp (pi_enum r1 (gd.blt _ (by decide)) (pa_cons (pe_sized ha) pa_nil (star_cons na [] X.env)) (one_star na _)) fun σ H R ⟨env, h, er, hr, q⟩ => ?_
  simp only [wpIt] at q
  refine se_mk gd.mono er hr q fun x h1 V H1 ⟨S, e, q⟩ p1 r1 hr1 sz => ?_
  obtain ⟨a, ws, rfl, ll, rs, st⟩ := lstV_src r1 hr1 e
  have l : S.xs.length ≤ sizeLine := by rw [← rs.length]; exact sz a ws rfl (.inl ll)
  exact ⟨a, ws, rfl, ll.sq, q l _ H1 p1 hr1 (wk_enum (xs := S.xs) (st := S.st) st) (by show (enumV S.xs).length ≤ _; rw [enumV_len]; exact l)⟩
theorem wk_zip {a b : Addr} {xs ys : List PV} {st st2 : List (Addr × List PV)} (sq : ∀ H h, Pres H1 H → HRep K h H → Src.stays ⟨xs, st⟩ h → ∃ ws, SqL K H a ws ∧ Reps K H ws xs) (sq2 : ∀ H h, Pres H1 H → HRep K h H → Src.stays ⟨ys, st2⟩ h → ∃ ws, SqL K H b ws ∧ Reps K H ws ys) :
    Wk K H1 (Itz K a b) ⟨(xs.zip ys).map fun p => PV.tup [p.1, p.2], st ++ st2⟩ where
  go := fun i H h p hr s l => by
    obtain ⟨ws, q, rs⟩ := sq H h p hr fun z hz => s z (List.mem_append_left _ hz)
    obtain ⟨us, q2, rs2⟩ := sq2 H h p hr fun z hz => s z (List.mem_append_right _ hz)
    have l : i < ((xs.zip ys).map fun p => PV.tup [p.1, p.2]).length := l
    rw [List.length_map, List.length_zip, ← rs.length, ← rs2.length] at l
    exact ⟨ws, us, ws[i]'(by omega), us[i]'(by omega), q, q2, List.getElem?_eq_getElem _, List.getElem?_eq_getElem _⟩
  stop := fun i H h p hr s l => by
    obtain ⟨ws, q, rs⟩ := sq H h p hr fun z hz => s z (List.mem_append_left _ hz)
    obtain ⟨us, q2, rs2⟩ := sq2 H h p hr fun z hz => s z (List.mem_append_right _ hz)
    have l : ((xs.zip ys).map fun p => PV.tup [p.1, p.2]).length ≤ i := l
    rw [List.length_map, List.length_zip, ← rs.length, ← rs2.length] at l
    exact ⟨ws, us, q, q2, by omega⟩
  yld := fun i H h x H' p hr s _ y => by
    obtain ⟨T, z, w, rfl, hT, rfl, y1, y2⟩ := y
    obtain ⟨ws, q, rs⟩ := sq H h p hr fun z hz => s z (List.mem_append_left _ hz)
    obtain ⟨us, q2, rs2⟩ := sq2 H h p hr fun z hz => s z (List.mem_append_right _ hz)
    obtain ⟨v, e, r⟩ := rs.getV (y1 ws q)
    obtain ⟨v2, e2, r2⟩ := rs2.getV (y2 us q2)
    refine ⟨.tup [v, v2], ?_, fun b u e => (upd_ne (ne_of_none e hT)).trans e, .tup upd_same (.cons (r.keep (.new hT)) (.cons (r2.keep (.new hT)) .nil))⟩
    show ((xs.zip ys).map fun p => PV.tup [p.1, p.2])[i]? = _
    rw [List.getElem?_map, List.getElem?_zip_eq_some.mpr (show xs[i]? = some (v, v2).1 ∧ ys[i]? = some (v, v2).2 from ⟨e, e2⟩)]
    rfl
theorem wk_zipT {a b : Addr} {vs us : List V} {xs ys : List PV} (sq : SqT K H1 a vs) (rs : Reps K H1 vs xs) (sq2 : SqT K H1 b us) (rs2 : Reps K H1 us ys) : Wk K H1 (RZ.ItzT K a b) ⟨(xs.zip ys).map fun p => PV.tup [p.1, p.2], []⟩ where
  go := fun i H h p hr s l => by
    have l : i < ((xs.zip ys).map fun p => PV.tup [p.1, p.2]).length := l
    rw [List.length_map, List.length_zip, ← rs.length, ← rs2.length] at l
    exact ⟨vs, us, vs[i]'(by omega), us[i]'(by omega), p.sqT sq, p.sqT sq2, List.getElem?_eq_getElem _, List.getElem?_eq_getElem _⟩
  stop := fun i H h p hr s l => by
    have l : ((xs.zip ys).map fun p => PV.tup [p.1, p.2]).length ≤ i := l
    rw [List.length_map, List.length_zip, ← rs.length, ← rs2.length] at l
    exact ⟨vs, us, p.sqT sq, p.sqT sq2, by omega⟩
  yld := fun i H h x H' p hr s _ y => by
    obtain ⟨T, z, w, rfl, hT, rfl, y1, y2⟩ := y
    obtain ⟨v, e, r⟩ := (rs.keep p).getV (y1 vs (p.sqT sq))
    obtain ⟨v2, e2, r2⟩ := (rs2.keep p).getV (y2 us (p.sqT sq2))
    refine ⟨.tup [v, v2], ?_, fun b u e => (upd_ne (ne_of_none e hT)).trans e, .tup upd_same (.cons (r.keep (.new hT)) (.cons (r2.keep (.new hT)) .nil))⟩
    show ((xs.zip ys).map fun p => PV.tup [p.1, p.2])[i]? = _
    rw [List.getElem?_map, List.getElem?_zip_eq_some.mpr (show xs[i]? = some (v, v2).1 ∧ ys[i]? = some (v, v2).2 from ⟨e, e2⟩)]
    rfl
theorem i_zip {elts : List PySem.Expr} {kk : Nat} {tpos : Pos} (gd : Good X k G fs Ex) (hgz : glB X.env.scope "zip" = true) (ha : PEm X G Ex a a') (na : noStar a' = true) (hb : PEm X G Ex b b') (nb : noStar b' = true) :
    PI X (.Tuple elts kk tpos) (.Call (.Name "zip" p) [a', b'] [] pos) (SI X (wpIt G Ex (.zip a b))) := by
  obtain ⟨r1, _, _⟩ := glB_gl rfl hgz
  refine PI.imp (RZ.pi_zipA r1 (gd.blt _ (by decide)) (pa_sized (pa_cons ha (pa_cons hb pa_nil (star_cons nb [] X.env)) (star_cons na _ X.env))) (star_cons na _ _) (by rw [star_cons nb]; rfl)) fun σ H R ⟨env, h, er, hr, q⟩ => ?_
  simp only [wpIt] at q
  refine se_mk gd.mono er hr q fun x h1 V H1 q p1 r1 hr1 => se_mk gd.mono (er.keep p1) hr1 q fun y h2 W H2 ⟨S, T, e, w⟩ p2 r2 hr2 sz => ?_
  have zl : ∀ S T : Src, S.xs.length ≤ sizeLine → ((S.xs.zip T.xs).map fun p => PV.tup [p.1, p.2]).length ≤ sizeLine := fun S T l => by rw [List.length_map, List.length_zip]; omega
  unfold zipV at e
  split at e
  · rename_i z1 z2 xs ys q9
    cases e
    obtain ⟨a, vs, rfl, sq, rs⟩ := (r1.keep p2).tup_inv
    obtain ⟨b, us, rfl, sq2, rs2⟩ := r2.tup_inv
    have l1 : xs.length ≤ sizeLine := by rw [← rs.length]; exact sz _ (by simp) a vs rfl (.inr sq)
    have l2 : ys.length ≤ sizeLine := by rw [← rs2.length]; exact sz _ (by simp) b us rfl (.inr sq2)
    exact ⟨a, b, vs, us, rfl, .inr ⟨sq, sq2, w l1 l2 _ H2 (p1.trans p2) hr2 (wk_zipT sq rs sq2 rs2) (zl ⟨xs, []⟩ ⟨ys, []⟩ l1)⟩⟩
  · rename_i z1 z2 ns ys q9
    cases e
    obtain ⟨a, rfl, hc⟩ := (r1.keep p2).cst_inv
    obtain ⟨b, us, rfl, sq2, rs2⟩ := r2.tup_inv
    have sq : SqT X.K H2 a (ns.map V.int) := .inr hc
    have l1 : (ns.map PV.int).length ≤ sizeLine := by have := sz _ (by simp) a _ rfl (.inr sq); simpa using this
    have l2 : ys.length ≤ sizeLine := by rw [← rs2.length]; exact sz _ (by simp) b us rfl (.inr sq2)
    exact ⟨a, b, _, us, rfl, .inr ⟨sq, sq2, w l1 l2 _ H2 (p1.trans p2) hr2 (wk_zipT sq (Reps.of_ints ns) sq2 rs2) (zl ⟨ns.map PV.int, []⟩ ⟨ys, []⟩ l1)⟩⟩
  · split at e
    · rename_i S' T' e1 e2
      cases e
      obtain ⟨a, ws, rfl, ll, rs, st⟩ := lstV_src (r1.keep p2) hr2 e1
      obtain ⟨b, us, rfl, ll2, rs2, st2⟩ := lstV_src r2 hr2 e2
      have l1 : S.xs.length ≤ sizeLine := by rw [← rs.length]; exact sz _ (by simp) a ws rfl (.inl ll)
      have l2 : T.xs.length ≤ sizeLine := by rw [← rs2.length]; exact sz _ (by simp) b us rfl (.inl ll2)
      exact ⟨a, b, ws, us, rfl, .inl ⟨ll.sq, ll2.sq, w l1 l2 _ H2 (p1.trans p2) hr2 (wk_zip (xs := S.xs) (ys := T.xs) (st := S.st) (st2 := T.st) st st2) (zl S T l1)⟩⟩
    · cases e
theorem e_dct0 {pos : Pos} : PEm X G Ex (.dct0 m) (.Dict [] [] pos) := PE.imp (pe_laid pe_dnewK) fun σ H Q ⟨env, h, er, hr, q⟩ p hp => by
  simp only [wpE] at q
  cases m with
  | true =>
    exact Laid.none (q p (hr.fresh hp) _ _ (.new hp) (.loc p) (hr.new hp (CRep.dctK (ps := []) (kvs := []) .nil .nil)))
  | false =>
    have ok : ∀ a, a = p → ∃ u, upd H p (.dK []) a = some u ∧ Fz1 u := fun a e => ⟨.dK [], by subst e; exact upd_same, True.intro⟩
    refine ⟨fun a => a = p, ok, fun H' f => ?_⟩
    obtain ⟨u, o, e1, e2⟩ := f.at_ p rfl
    rw [upd_same] at e1
    cases e1
    have prH : Pres H H' := (Pres.new hp).trans (f.pres ok)
    refine q _ H' prH (.dctK e2 .nil .nil) (hr.keep prH fun a c e => ?_)
    obtain ⟨u, h1, _⟩ := hr a c e
    have ne : a ≠ p := ne_of_none h1 hp
    rw [f.out a ne, upd_ne ne]
theorem dct1W_key {x y : PV} {h : MH} {Q : Post} (q : dct1W x y h Q) : ((∃ kk, KeyRep x kk) ∨ ∃ xs ks, x = .tup xs ∧ Keys xs ks) ∧ Q (.dct [x] [y]) h := by
  unfold dct1W at q
  split at q
  · exact ⟨.inl ⟨_, .int _⟩, q⟩
  · exact ⟨.inl ⟨_, .str _⟩, q⟩
  · obtain ⟨ks, k⟩ := keys_of q.1
    exact ⟨.inr ⟨_, ks, rfl, k⟩, q.2⟩
  · exact q.elim
theorem e_dct1 {pos : Pos} (hu : X.A.units + 1 < cLine) (hG : GMono G) (ha : PEm X G Ex a a') (hb : PEm X G Ex b b') : PEm X G Ex (.dct1 a b) (.Dict [some a'] [b'] pos) := PE.imp (pe_laid (pe_disp1 hu (pe_lk ha) (pe_lk hb))) fun σ H Q ⟨env, h, er, hr, q⟩ p hp => by
  simp only [wpE] at q
  refine ⟨p, .dK [], upd_same, True.intro, fun od => ?_⟩
  have hn := hr.fresh hp
  have hr0 : HRep X.K h (upd H p (.dK [])) := hr.newP hp
  obtain ⟨hrl, pl⟩ := HRep.lk (o := frz2 od (.dK [])) (H := upd H p (.dK [])) upd_same (fun _ z => nomatch z) (fun _ _ z => nomatch z) hn hr0
  have p0 : Pres H (upd (upd H p (.dK [])) p (frz2 od (.dK []))) := (Pres.new hp).trans pl
  refine se_mk hG (er.keep p0) hrl q fun x h1 V H1 q p1 r1 hr1 => ?_
  have d1 : H1 p = some (frz2 od (.dK [])) := p1.frz p _ _ upd_same
  obtain ⟨u1, u2⟩ := HRep.un d1 (.dK []) hr1
  refine ⟨d1, p, .dK [], upd_same, True.intro, fun od2 => ?_⟩
  obtain ⟨hrl2, pl2⟩ := HRep.lk (o := frz2 od2 (.dK [])) (H := upd H1 p (.dK [])) upd_same (fun _ z => nomatch z) (fun _ _ z => nomatch z) u2 u1
  have er1 : EnvRep X.K (upd (upd H1 p (.dK [])) p (frz2 od2 (.dK []))) σ env := ((((er.keep p0).keep p1).un d1 (.dK [])).keep pl2)
  refine se_mk hG er1 hrl2 q fun y h2 W H2 q p2 r2 hr2 => ?_
  have d2 : H2 p = some (frz2 od2 (.dK [])) := p2.frz p _ _ upd_same
  obtain ⟨kr | ⟨xs, ks, rfl, kr⟩, q⟩ := dct1W_key q
  · obtain ⟨kk, kr⟩ := kr
    have eV : V = kV kk := key_V kr r1
    refine ⟨d2, upd_same, .inl ⟨kk, eV, ?_⟩⟩
    rw [upd_upd]
    obtain ⟨w1, w2⟩ := HRep.un d2 (.dK [(kk, W)]) hr2
    have ok : ∀ a, a = p → ∃ u, upd H2 p (.dK [(kk, W)]) a = some u ∧ Fz1 u := fun a e => ⟨.dK [(kk, W)], by subst e; exact upd_same, True.intro⟩
    refine ⟨fun a => a = p, ok, fun H' f => ?_⟩
    obtain ⟨u, o, e1, e2⟩ := f.at_ p rfl
    rw [upd_same] at e1
    cases e1
    have pf : Pres (upd H2 p (.dK [(kk, W)])) H' := f.pres ok
    have pH : Pres H (upd H2 p (.dK [(kk, W)])) := ((((p0.trans p1).past hp).trans pl2).trans p2).past hp
    refine q _ H' (pH.trans pf) (.dctK e2 (.cons kr .nil) (.cons ((r2.un d2 _).keep pf) .nil)) (w1.keep pf fun a c e => ?_)
    exact f.out a fun z => by subst z; rw [w2] at e; cases e
  · obtain ⟨b, vs, rfl, hb1, rs⟩ := r1.tup_invS
    have eV : vs = ks.map kV := keys_V kr rs
    subst eV
    have ne : b ≠ p := fun z => by subst z; rw [d1] at hb1; cases hb1
    have hb2 : H2 b = some (.tup (ks.map kV)) := p2.tup _ _ (pl2.tup _ _ ((upd_ne ne).trans hb1))
    refine ⟨d2, upd_same, .inr ⟨b, ks, rfl, (upd_ne ne).trans hb2, ?_⟩⟩
    rw [upd_upd]
    obtain ⟨w1, w2⟩ := HRep.un d2 (.dT [(ks, W)]) hr2
    have ok : ∀ a, a = p → ∃ u, upd H2 p (.dT [(ks, W)]) a = some u ∧ Fz1 u := fun a e => ⟨.dT [(ks, W)], by subst e; exact upd_same, True.intro⟩
    refine ⟨fun a => a = p, ok, fun H' f => ?_⟩
    obtain ⟨u, o, e1, e2⟩ := f.at_ p rfl
    rw [upd_same] at e1
    cases e1
    have pf : Pres (upd H2 p (.dT [(ks, W)])) H' := f.pres ok
    have pH : Pres H (upd H2 p (.dT [(ks, W)])) := ((((p0.trans p1).past hp).trans pl2).trans p2).past hp
    refine q _ H' (pH.trans pf) (.dctT (ks := [xs]) e2 (.cons kr .nil) (.cons ((r2.un d2 _).keep pf) .nil)) (w1.keep pf fun a c e => ?_)
    exact f.out a fun z => by subst z; rw [w2] at e; cases e
end
end MP
set_option Elab.async false
set_option linter.all false
set_option maxRecDepth 100000
set_option maxHeartbeats 1000000
namespace MP
open PySem PySem.Spec PyProof.Rows L2
section
variable {X : Cx} {pins : List (Addr × Obj)} {σ : L2.St} {H : Hp} {s : Shared}
abbrev TPair (K : KF) (H : Hp) (p : Addr) (kv : List Key × V) : Prop := ∃ b, SqT K H p [.ref b, kv.2] ∧ H b = some (.tup (kv.1.map kV))
theorem tpairs_of (I : Inv X pins σ H s) : ∀ {ps : List Addr} {kvs : List (List Key × V)}, Paired (TPair X.K H) ps kvs →
    ∃ prs : List (List Key × Addr × Value), KT H kvs prs ∧ prs.length = ps.length ∧ ∀ (j : Nat) (q : List Key × Addr × Value), prs[j]? = some q → ∃ b, ps[j]? = some b ∧ IsTup s.heap b #[.ref q.2.1, q.2.2]
  | _, _, .nil => ⟨[], .nil, rfl, fun j q e => by simp at e⟩
  | _, _, .cons (a := p) (b := kv) h t => by
    obtain ⟨prs, r, hl, hp⟩ := tpairs_of I t
    obtain ⟨b, h, hb⟩ := h
    obtain ⟨its, rv, ht, _⟩ := I.tuple h
    obtain ⟨u, y, ei, ru, ry⟩ := vals2 rv
    subst ei
    cases (show u = Value.ref b from ru)
    refine ⟨(kv.1, b, y) :: prs, .cons ⟨rfl, hb, ry⟩ r, by rw [List.length_cons, List.length_cons, hl], fun j q e => ?_⟩
    cases j with
    | zero =>
      have e' : (kv.1, b, y) = q := Option.some.inj e
      subst e'
      exact ⟨p, rfl, ht⟩
    | succ j =>
      obtain ⟨b', e1, e2⟩ := hp j q (by simpa using e)
      exact ⟨b', by simpa using e1, e2⟩
theorem kt_keys {kvs : List (List Key × V)} {prs : List (List Key × Addr × Value)} (r : KT H kvs prs) : kvs.map (·.1) = prs.map (·.1) := by
  induction r with
  | nil => rfl
  | cons a _ ih => simp only [List.map_cons, ih, a.1]
theorem stored_new : ∀ (ps acc : List (List Key × Addr × Value)), ((acc ++ ps).map (·.1)).Nodup → storedAllH acc ps = acc ++ ps
  | [], acc, _ => by simp [storedAllH]
  | p :: ps, acc, h => by
    have e : atKey acc p.1 = none := by
      cases z : atKey acc p.1 with
      | none => rfl
      | some q =>
        exfalso
        have hm : p.1 ∈ acc.map (·.1) := by
          unfold atKey at z
          cases y : acc.find? (fun kv => decide (kv.1 = p.1)) with
          | none => simp [y] at z
          | some kv =>
            have h1 := List.mem_of_find?_eq_some y
            have h2 := List.find?_some y
            exact List.mem_map.mpr ⟨kv, h1, by simpa using h2⟩
        rw [List.map_append, List.nodup_append] at h
        exact h.2.2 _ hm _ (List.mem_map.mpr ⟨p, List.mem_cons_self .., rfl⟩) rfl
    show storedAllH (storedH acc p.1 p.2.1 p.2.2) ps = _
    rw [storedH_new e, stored_new ps _ (by simpa using h)]
    simp
theorem call_dictT (hcalm : X.calm = true) (hu : X.A.units + 3 < cLine) : CallR X (.type "dict") (fun xs H Q => ∃ (a : Addr) (ps : List Addr) (kvs : List (List Key × V)), xs = [.ref a] ∧ SqL X.K H a (ps.map V.ref) ∧ Paired (TPair X.K H) ps kvs ∧
    (kvs.map (·.1)).Nodup ∧ ∀ p, H p = none → Q (.ref p) (upd H p (.dT kvs))) := by
  intro pins s σ H xs us Q I r q
  obtain ⟨a, ps, kvs, ex, hq, hp, nd, q⟩ := q
  subst ex
  obtain ⟨u, eu, rx⟩ := vals1 r
  subst eu
  cases rx
  obtain ⟨its, rv, pl, hz⟩ := I.list hq
  have ei := refs_at rv
  subst ei
  rw [List.length_map] at hz
  obtain ⟨prs, rel, hl, hpr⟩ := tpairs_of I hp
  obtain ⟨o, n, ho, hc, hd, hdat⟩ := pl
  have at_ : ∀ (j : Nat) (k v : Value), (prs.map fun q => (Value.ref q.2.1, q.2.2))[j]? = some (k, v) → ∃ q : List Key × Addr × Value, prs[j]? = some q ∧ k = Value.ref q.2.1 ∧ v = q.2.2 := fun j k v e => by
    rw [List.getElem?_map] at e
    cases z : prs[j]? with
    | none => rw [z] at e; cases e
    | some q => rw [z] at e; cases e; exact ⟨q, rfl, rfl, rfl⟩
  have is_ : ∀ x ∈ prs, (tupleKind (mixKind X.prog X.w)).is s.heap x.1 x.2.1 := by
    have all : ∀ {l : List (List Key × V)} {m : List (List Key × Addr × Value)}, KT H l m → ∀ x ∈ m, (tupleKind (mixKind X.prog X.w)).is s.heap x.1 x.2.1 := by
      intro l m q
      induction q with
      | nil => intro x hx; exact nomatch hx
      | @cons p q ps qs hq t ih =>
        intro x hx
        rcases List.mem_cons.mp hx with e | hx
        · subst e
          exact key_of I.hok (by rw [← hq.1]; exact hq.2.1)
        · exact ih x hx
    exact all rel
  refine call_dict_pairsH (knd := tupleKind (mixKind X.prog X.w)) (ps := prs) (PairArg.list a (ps.map Value.ref).toArray (fun j => ps.getD j 0) (prs.map fun q => (Value.ref q.2.1, q.2.2))) (I.ok.hd hcalm) ?_ ?_ ?_ ?_ ?_ ?_
  · show X.A.in1.in1.units < cLine
    simp only [Around.in1_units]; omega
  · refine ⟨⟨o, n, ho, hc, hd, hdat⟩, by simp [hl], fun j k v e => ?_⟩
    obtain ⟨q, e1, rfl, rfl⟩ := at_ j k v e
    obtain ⟨b, e2, e3⟩ := hpr j q e1
    have e4 : ps.getD j 0 = b := by simp [List.getD, e2]
    refine ⟨?_, ?_⟩
    · show _ = some (Value.ref (ps.getD j 0))
      rw [e4]; simp [e2]
    · show PairAt _ (ps.getD j 0) _ _
      rw [e4]; exact .inl e3
  · refine ⟨by simp, fun i key v e => ?_⟩
    obtain ⟨q, e1, rfl, rfl⟩ := at_ i key v e
    exact ⟨q.1, q.2.1, e1, rfl⟩
  · intro h' hk x hx
    obtain ⟨o', items, n', h1, h2, h3, h4⟩ := is_ x hx
    refine ⟨o', items, n', hk _ _ ?_ (by simp) h1, h2, h3, h4⟩
    exact Nat.ne_of_lt (Heap.lt_size h1)
  · rw [List.length_map, hl]; exact hz
  · intro h' tk hd' hk
    rw [stored_new prs [] (by rw [List.nil_append, ← kt_keys rel]; exact nd), List.nil_append] at hd'
    have hm : (s.heap.objs.size == sysModules) = false := beq_eq_false_iff_ne.mpr (Nat.ne_of_gt I.big)
    have hn := I.hok.fresh (Nat.le_refl s.heap.objs.size)
    obtain ⟨q', es, ep, hq', h2, h3, h4, _, h5⟩ := hd'
    have hlen : kvs.length ≤ sizeLine := by rw [Paired.length rel, hl]; exact hz
    exact ⟨.ref s.heap.objs.size, upd H s.heap.objs.size (.dT kvs), I.laid (t' := tk) (fun b u e => hk b u (by simp) e) (Nat.le_refl _)
      (show ObjOk X.prog X.w _ _ _ (.dT kvs) from ⟨hlen, hm, prs, rel.keeps fun b ys e => (upd_ne (ne_of_none e hn)).trans e, q', es, ep, hq', h2, h3, h4, h5⟩), rfl, q _ hn⟩
theorem pairs_inv {K : KF} : ∀ {ps : List (List PV × PV)} {vs : List V}, Reps K H vs (ps.map fun p => .tup [.tup p.1, p.2]) → (∀ p ∈ ps, p.1.all isKey = true) →
    ∃ (as : List Addr) (kvs : List (List Key × V)), vs = as.map V.ref ∧ Paired (TPair K H) as kvs ∧ Paired Keys (ps.map (·.1)) (kvs.map (·.1)) ∧ Reps K H (kvs.map (·.2)) (ps.map (·.2))
  | [], _, r, _ => by cases r; exact ⟨[], [], rfl, .nil, .nil, .nil⟩
  | p :: ps, _, r, hk => by
    rw [List.map_cons] at r
    cases r with
    | cons a b =>
      obtain ⟨as, kvs, e, h1, h2, h3⟩ := pairs_inv b fun q hq => hk q (List.mem_cons_of_mem _ hq)
      obtain ⟨l, ws, rfl, hl, rw'⟩ := a.tup_invS
      obtain ⟨v, w, rfl, r1, r2⟩ := rw'.two
      obtain ⟨c, us, rfl, hc, ru⟩ := r1.tup_invS
      obtain ⟨kk, hkk⟩ := keys_of (hk p (List.mem_cons_self ..))
      obtain rfl := keys_V hkk ru
      exact ⟨l :: as, (kk, w) :: kvs, by rw [e]; rfl, .cons ⟨c, .inl (.inl hl), hc⟩ h1, .cons hkk h2, .cons r2 h3⟩
theorem nodup_keys : ∀ {ks : List (List PV)} {kk : List (List Key)}, Paired Keys ks kk → ks.Pairwise (fun a b => eqKs a b = false) → kk.Nodup
  | _, _, .nil, _ => List.nodup_nil
  | _, _, .cons (l₁ := ks) (l₂ := kk) h t, p => by
    rw [List.pairwise_cons] at p
    rw [List.nodup_cons]
    refine ⟨fun hm => ?_, nodup_keys t p.2⟩
    have at_ : ∀ {ks : List (List PV)} {kk : List (List Key)}, Paired Keys ks kk → ∀ y ∈ kk, ∃ x ∈ ks, Keys x y := by
      intro ks kk q
      induction q with
      | nil => intro y hy; exact nomatch hy
      | cons h t ih =>
        intro y hy
        rcases List.mem_cons.mp hy with rfl | hy
        · exact ⟨_, List.mem_cons_self .., h⟩
        · obtain ⟨x, hx, k⟩ := ih y hy
          exact ⟨x, List.mem_cons_of_mem _ hx, k⟩
    obtain ⟨x, hx, k⟩ := at_ t _ hm
    have e := p.1 x hx
    rw [eqKs_dec h k] at e
    simp at e
end
section
variable {X : Cx} {G : Calls} {Ex : XP} {a b o : E} {a' b' o' : PySem.Expr} {p pos apos : Pos} {k : Nat} {fs : List Str}
theorem e_mkd (gd : Good X k G fs Ex) (hu : X.A.units + 3 < cLine) (hg : glB X.env.scope "dict" = true) (ha : PEm X G Ex a a') (na : noStar a' = true) : PEm X G Ex (.mkd a) (.Call (.Name "dict" p) [a'] [] pos) := by
  obtain ⟨g1, g2, g3⟩ := glB_gl rfl hg
  have se := star_cons na [] X.env
  refine PE.imp (pe_laid (pe_callTy (call_dictT gd.calm hu) g1 (gd.blt _ (by decide)) PyProof.Rows.boot_dict (pa_cons ha pa_nil se) g3 g2 se rfl)) fun σ H Q ⟨env, h, er, hr, q⟩ => ?_
  simp only [wpE] at q
  refine se_mk gd.mono er hr q fun x h1 V H1 ⟨ps, e, hk, nd, q⟩ p1 r1 hr1 => ?_
  obtain ⟨l, vs, rfl, ll, rs⟩ := rep_lst r1 hr1 e
  obtain ⟨as, kvs, rfl, t1, t2, t3⟩ := pairs_inv rs hk
  refine ⟨l, as, kvs, rfl, ll.sq, t1, nodup_keys t2 nd, fun p hp => ?_⟩
  have ok : ∀ a, a = p → ∃ u, upd H1 p (.dT kvs) a = some u ∧ Fz1 u := fun a e => ⟨.dT kvs, by subst e; exact upd_same, True.intro⟩
  refine ⟨fun a => a = p, ok, fun H' f => ?_⟩
  obtain ⟨u, o, e1, e2⟩ := f.at_ p rfl
  rw [upd_same] at e1
  cases e1
  have pH : Pres H1 H' := (Pres.new hp).trans (f.pres ok)
  refine q _ H' (p1.trans pH) (.dtt e2 t2 (t3.keep pH)) (hr1.keep pH fun a c e => ?_)
  obtain ⟨u, h2, _⟩ := hr1 a c e
  have ne : a ≠ p := ne_of_none h2 hp
  rw [f.out a ne, upd_ne ne]
theorem e_dget (gd : Good X k G fs Ex) (hu : X.A.units + 3 < cLine) (ho : PEm X G Ex o o') (ha : PEm X G Ex a a') (hb : PEm X G Ex b b') (na : noStar a' = true) (nb : noStar b' = true) (hl : (apos.endLine == pos.line) = true) (hbs : attributeBase o' "get" X.env (eval o' X.env) = eval o' X.env) :
    PEm X G Ex (.dget o a b) (.Call (.Attribute o' "get" apos) [a', b'] [] pos) := by
  have se : starEach [a', b'] X.env = [(false, eval a' X.env), (false, eval b' X.env)] := by rw [star_cons na, star_cons nb]; rfl
  refine PE.imp (pe_dget2 (by omega) ho ha hb ⟨hbs, by rw [se]; rfl, hl, by rw [se]; rfl⟩) fun σ H Q ⟨env, h, er, hr, q⟩ => ?_
  simp only [wpE] at q
  refine se_mk gd.mono er hr q fun x h1 V H1 ⟨⟨ts, vs, e⟩, q⟩ p1 r1 hr1 => ?_
  subst e
  obtain ⟨a, rfl, isd⟩ : ∃ a, V = .ref a ∧ IsD H1 a := by
    cases r1 with
    | dtt x y z => exact ⟨_, rfl, .inr ⟨_, .inr ⟨_, x⟩⟩⟩
  refine ⟨a, rfl, isd, se_mk gd.mono (er.keep p1) hr1 q fun y h2 W H2 q p2 r2 hr2 => se_mk gd.mono ((er.keep p1).keep p2) hr2 q fun z h3 Z H3 q p3 r3 hr3 => ?_⟩
  obtain ⟨ks, vs', key, e1, rfl, hk, q⟩ := q
  cases e1
  obtain ⟨a', oo, ea, g, rel⟩ := dget_rel (r1.keep (p2.trans p3)) (r2.keep p3) hk
  cases ea
  refine ⟨oo, g, ?_⟩
  rcases rel with ⟨e1, e2⟩ | ⟨V, v, e1, e2, r⟩
  · rw [e1]; rw [e2] at q
    exact q _ H3 ((p1.trans p2).trans p3) r3 hr3
  · rw [e1]; rw [e2] at q
    exact q _ H3 ((p1.trans p2).trans p3) r hr3
end
end MP
set_option Elab.async false
set_option linter.all false
set_option maxRecDepth 100000
set_option maxHeartbeats 2000000
namespace MP
open PySem PySem.Spec PyProof.Rows L2
theorem room_units {k : Nat} {A : Around} (h : Room k A) : A.units + 100 < cLine := by
  obtain ⟨_, h⟩ := h
  have e : cLine = 9900 := rfl
  omega
theorem noSup_base {o : PySem.Expr} (h : noSup o = true) (m : Str) (env : PySem.Env) (w : Sem Value) : attributeBase o m env w = w := by
  cases o with
  | Call f es kw p =>
    cases es with
    | nil => cases h
    | cons a r => cases f <;> rfl
  | _ => rfl
theorem plain_fold {e : PySem.Expr} (h : plainX e = true) (env : PySem.Env) (x : Value) : foldedSetIterable e env x = pure x := by cases e <;> first | rfl | cases h
theorem okIt_plain {N fs : List Str} {sc : Scope} {it : It} {e' : PySem.Expr} (h : okIt N fs sc it e' = true) : plainX e' = true := by
  cases it <;> unfold okIt at h
  · exact okE_plain h
  all_goals
    split at h
    · rfl
    · cases h
theorem PTs.imp {X : Cx} {e : List PySem.Expr} {t t' : TT} (h : PTs X e t) (w : ∀ σ H Q, t' σ H Q → t σ H Q) : PTs X e t' := ⟨fun pins s σ H Q I hq => h.run pins s σ H Q I (w σ H Q hq)⟩
theorem Good.blk {X : Cx} {k : Nat} {G : Calls} {fs : List Str} {Ex : XP} (gd : Good X k G fs Ex) (s : Shared) (H : Hp) (sc' : Scope) (C : Addr) (cl : List (Str × Addr)) (fp : List Addr) : Good (X.blk s H sc' (compEnvC sc' cl C X.env) fp) k G fs noX where
  calm := gd.calm
  nd := gd.nd
  tk := fun _ _ ⟨_, _, _, _, _, _, _, _, _, _, _, _, _, _, _, _, w⟩ => by
    obtain ⟨_, _, _, _, _, _, z⟩ := w
    exact z.elim
  room := gd.room
  gd := gd.gd
  blt := gd.blt
  fn := fun f hf hn => ⟨(gd.fn f hf hn).ex⟩
  cst := gd.cst
  exc := gd.exc
  mono := gd.mono
  only := gd.only
theorem relab_lookup {sc : Scope} (x : Str) : ∀ {l : List (Str × NameKind)} {k : NameKind}, l.lookup x = some k → k ≠ .free →
    (l.map fun (n, k) => if (k == NameKind.free && sc.kind == ScopeKind.function && sc.names.lookup n == some NameKind.cell) then (n, NameKind.cell) else (n, k)).lookup x = some k
  | [], _, h, _ => by simp at h
  | (n, k0) :: r, k, h, hk => by
    have ih := @relab_lookup sc x r k
    rw [List.map_cons]
    cases hx : x == n with
    | true =>
      simp only [List.lookup_cons, hx] at h
      cases h
      have e : (k0 == NameKind.free) = false := by cases k0 <;> first | rfl | exact absurd rfl hk
      simp [List.lookup_cons, hx, e]
    | false =>
      simp only [List.lookup_cons, hx] at h
      have q := ih h hk
      dsimp only
      split <;> (simp only [List.lookup_cons, hx]; exact q)
theorem blk_tg {X : Cx} {k : Nat} {G : Calls} {fs : List Str} {Ex : XP} (gd : Good X k G fs Ex) (s : Shared) (H : Hp) (sc' : Scope) (C : Addr) (cl : List (Str × Addr)) (fp : List Addr) {t : Tg} {e : PySem.Expr} (h : okTg X.N sc' t e = true) :
    PG (X.blk s H sc' (compEnvC sc' cl C X.env) fp) e (SG X t) :=
  sG (X := X.blk s H sc' (compEnvC sc' cl C X.env) fp) (sc := sc') gd.calm gd.nd (fun x e => relab_lookup (sc := X.env.scope) x e (fun z => by cases z))
    (fun x e => ⟨relab_lookup (sc := X.env.scope) x e (fun z => by cases z), by show (sc'.names.lookup x == some NameKind.cell) = true; rw [e]; rfl⟩) t e h
theorem pt_no {X : Cx} {G : Calls} {Ex : XP} {e : E} {e' : PySem.Expr} (h : ∀ env h Q, ¬ wpT G Ex e env h Q) : PTm X G Ex e e' := ⟨fun pins s σ H Q I ⟨env, hh, er, hr, q⟩ => (h _ _ _ q).elim⟩
mutual
theorem pe_ok : ∀ (e : E) {X : Cx} {k : Nat} {G : Calls} {fs : List Str} {Ex : XP} {e' : PySem.Expr}, Good X k G fs Ex → okE X.N fs X.env.scope e e' = true → PEm X G Ex e e'
  | .var i, X, k, G, fs, Ex, e', gd, h => by
    simp only [okE] at h
    split at h
    · exact e_var h
    · cases h
  | .non, X, k, G, fs, Ex, e', gd, h => by
    simp only [okE] at h
    split at h
    · exact e_non
    · cases h
  | .bl b, X, k, G, fs, Ex, e', gd, h => by
    simp only [okE] at h
    split at h
    · cases eq_of_beq h; exact e_bl
    · cases h
  | .int b, X, k, G, fs, Ex, e', gd, h => by
    simp only [okE] at h
    split at h
    · cases eq_of_beq h; exact e_int
    · cases h
  | .str b, X, k, G, fs, Ex, e', gd, h => by
    simp only [okE] at h
    split at h
    · cases of_decide_eq_true h; exact e_str
    · cases h
  | .bin op a b, X, k, G, fs, Ex, e', gd, h => by
    simp only [okE] at h
    split at h
    · simp only [Bool.and_eq_true, decide_eq_true_eq] at h
      obtain ⟨⟨rfl, h1⟩, h2⟩ := h
      exact e_bin gd.mono (pe_ok a gd h1) (pe_ok b gd h2)
    · cases h
  | .neg a, X, k, G, fs, Ex, e', gd, h => by
    simp only [okE] at h
    split at h
    · exact e_neg gd.mono (pe_ok a gd h)
    · cases h
  | .not a, X, k, G, fs, Ex, e', gd, h => by
    simp only [okE] at h
    split at h
    · exact e_not gd.mono (pe_ok a gd h)
    · cases h
  | .and a b, X, k, G, fs, Ex, e', gd, h => by
    simp only [okE] at h
    split at h
    · simp only [Bool.and_eq_true] at h
      exact e_and gd.mono (pe_ok a gd h.1) (pe_one (pe_ok b gd h.2))
    · simp only [Bool.and_eq_true] at h
      exact e_and gd.mono (pe_ok a gd h.1) (pe_ok b gd h.2)
    · cases h
  | .or a b, X, k, G, fs, Ex, e', gd, h => by
    simp only [okE] at h
    split at h
    · simp only [Bool.and_eq_true] at h
      exact e_or gd.mono (pe_ok a gd h.1) (pe_one (pe_ok b gd h.2))
    · simp only [Bool.and_eq_true] at h
      exact e_or gd.mono (pe_ok a gd h.1) (pe_ok b gd h.2)
    · cases h
  | .ite c a b, X, k, G, fs, Ex, e', gd, h => by
    simp only [okE] at h
    split at h
    · simp only [Bool.and_eq_true] at h
      exact e_ite gd.mono (pt_ok c gd h.1.1) (pe_ok a gd h.1.2) (pe_ok b gd h.2)
    · cases h
  | .cmp op a b, X, k, G, fs, Ex, e', gd, h => by
    simp only [okE] at h
    split at h
    · simp only [Bool.and_eq_true, decide_eq_true_eq] at h
      obtain ⟨⟨⟨⟨rfl, h1⟩, h2⟩, h3⟩, h4⟩ := h
      exact e_cmp gd.mono (by have := room_units gd.room; omega) (pe_ok a gd h3) (pe_ok b gd h4) (plain_behind (okE_plain h4) _)
    · cases h
  | .chain o p a b c, X, k, G, fs, Ex, e', gd, h => by
    simp only [okE] at h
    split at h
    · simp only [Bool.and_eq_true, decide_eq_true_eq] at h
      obtain ⟨⟨⟨⟨⟨⟨⟨⟨rfl, rfl⟩, _⟩, _⟩, _⟩, _⟩, h3⟩, h4⟩, h5⟩ := h
      exact e_chain gd.mono (by have := room_units gd.room; omega) (pe_ok a gd h3) (pe_ok b gd h4) (pe_ok c gd h5) (plain_behind (okE_plain h5) _)
    · cases h
  | .isN a neg, X, k, G, fs, Ex, e', gd, h => by
    simp only [okE] at h
    split at h
    · simp only [Bool.and_eq_true, decide_eq_true_eq] at h
      obtain ⟨rfl, h1⟩ := h
      exact e_isN gd.mono (pe_ok a gd h1)
    · cases h
  | .isB a b neg, X, k, G, fs, Ex, e', gd, h => by
    simp only [okE] at h
    split at h
    · simp only [Bool.and_eq_true, decide_eq_true_eq] at h
      obtain ⟨⟨rfl, h2⟩, h1⟩ := h
      cases eq_of_beq h2
      exact e_isB gd.mono (pe_ok a gd h1)
    · cases h
  | .isin a b neg, X, k, G, fs, Ex, e', gd, h => by
    simp only [okE] at h
    split at h
    · simp only [Bool.and_eq_true, decide_eq_true_eq] at h
      obtain ⟨⟨rfl, h1⟩, h2⟩ := h
      exact e_isin gd.mono (by have := room_units gd.room; omega) (pe_ok a gd h1) (pe_ok b gd h2) fun op => plain_behind (okE_plain h2) op
    · cases h
  | .tup es, X, k, G, fs, Ex, e', gd, h => by
    simp only [okE] at h
    split at h
    · exact e_tup gd.mono (pa_ok es gd h)
    · cases h
  | .lst m es, X, k, G, fs, Ex, e', gd, h => by
    simp only [okE] at h
    split at h
    · exact e_lst gd.mono (pa_ok es gd h)
    · cases h
  | .dct0 m, X, k, G, fs, Ex, e', gd, h => by
    simp only [okE] at h
    split at h
    · exact e_dct0
    · cases h
  | .dct1 a b, X, k, G, fs, Ex, e', gd, h => by
    simp only [okE] at h
    split at h
    · simp only [Bool.and_eq_true] at h
      exact e_dct1 (by have := room_units gd.room; omega) gd.mono (pe_ok a gd h.1) (pe_ok b gd h.2)
    · cases h
  | .idx a b, X, k, G, fs, Ex, e', gd, h => by
    simp only [okE] at h
    split at h
    · simp only [Bool.and_eq_true] at h
      exact e_idx gd.mono (pe_ok a gd h.1) (pe_ok b gd h.2) (plain_ix (okE_plain h.2))
    · cases h
  | .slc a lo hi, X, k, G, fs, Ex, e', gd, h => by
    simp only [okE] at h
    split at h
    · simp only [Bool.and_eq_true] at h
      exact e_slc gd.mono (pe_ok a gd h.1.1) (po_ok lo gd h.1.2) (po_ok hi gd h.2)
    · cases h
  | .rev a, X, k, G, fs, Ex, e', gd, h => by
    simp only [okE] at h
    split at h
    · simp only [Bool.and_eq_true] at h
      cases eq_of_beq h.1
      exact e_rev gd.mono (pe_ok a gd h.2)
    · cases h
  | .call f es, X, k, G, fs, Ex, e', gd, h => by
    simp only [okE] at h
    split at h
    · simp only [Bool.and_eq_true, decide_eq_true_eq] at h
      obtain ⟨⟨⟨rfl, h1⟩, h2⟩, h3⟩ := h
      exact e_call gd (by simpa using h2) h1 (pa_ok es gd h3) h3
    · cases h
  | .gfn f, X, k, G, fs, Ex, e', gd, h => by
    simp only [okE] at h
    split at h
    · simp only [Bool.and_eq_true, decide_eq_true_eq] at h
      obtain ⟨⟨rfl, h1⟩, h2⟩ := h
      exact e_gfn gd (by simpa using h2) h1
    · cases h
  | .gcs f, X, k, G, fs, Ex, e', gd, h => by
    simp only [okE] at h
    split at h
    · simp only [Bool.and_eq_true, decide_eq_true_eq] at h
      obtain ⟨⟨⟨rfl, h1⟩, h2⟩, h3⟩ := h
      exact e_gcs gd (by simpa using h2) (by simpa using h3.2) h1
    · cases h
  | .mkd a, X, k, G, fs, Ex, e', gd, h => by
    simp only [okE] at h
    split at h
    · simp only [Bool.and_eq_true, decide_eq_true_eq] at h
      obtain ⟨⟨rfl, h1⟩, h2⟩ := h
      exact e_mkd gd (by have := room_units gd.room; omega) h1 (pe_ok a gd h2) (plain_star (okE_plain h2))
    · cases h
  | .dget o a b, X, k, G, fs, Ex, e', gd, h => by
    simp only [okE] at h
    split at h
    · simp only [Bool.and_eq_true, decide_eq_true_eq] at h
      obtain ⟨⟨⟨⟨⟨rfl, h1⟩, h2⟩, h3⟩, h4⟩, h5⟩ := h
      exact e_dget gd (by have := room_units gd.room; omega) (pe_ok o gd h3) (pe_ok a gd h4) (pe_ok b gd h5) (plain_star (okE_plain h4)) (plain_star (okE_plain h5)) h1 (noSup_base h2 _ _ _)
    · cases h
  | .callv i es, X, k, G, fs, Ex, e', gd, h => by
    simp only [okE] at h
    split at h
    · simp only [Bool.and_eq_true] at h
      exact e_callv gd h.1 (pa_ok es gd h.2) h.2
    · cases h
  | .blt b es, X, k, G, fs, Ex, e', gd, h => by
    simp only [okE] at h
    split at h
    · simp only [Bool.and_eq_true, decide_eq_true_eq] at h
      obtain ⟨⟨rfl, h1⟩, h3⟩ := h
      exact e_blt gd (by have := room_units gd.room; omega) h1 (pa_ok es gd h3) h3
    · cases h
  | .isi a t, X, k, G, fs, Ex, e', gd, h => by
    simp only [okE] at h
    split at h
    · simp only [Bool.and_eq_true, decide_eq_true_eq] at h
      obtain ⟨⟨⟨⟨⟨rfl, rfl⟩, h1⟩, h2⟩, h3⟩, h4⟩ := h
      exact e_isi gd h2 h1 h3 (pe_ok a gd h4) (plain_star (okE_plain h4))
    · cases h
  | .con c m it, X, k, G, fs, Ex, e', gd, h => by
    simp only [okE] at h
    split at h
    · rename_i x p a' pos
      simp only [Bool.and_eq_true, decide_eq_true_eq] at h
      obtain ⟨⟨⟨rfl, h1⟩, h2⟩, h3⟩ := h
      cases it with
      | seq a =>
        simp only [okIt] at h2
        have ha := pe_ok a gd h2
        have na := plain_star (okE_plain h2)
        cases c with
        | list => exact e_conList gd h1 ha na
        | tuple => exact e_conTup gd h1 ha na
        | sorted => exact e_conSorted gd (by have := room_units gd.room; omega) h1 ha na
      | rng1 a =>
        simp only [okIt] at h2
        split at h2
        · simp only [Bool.and_eq_true, decide_eq_true_eq] at h2
          obtain ⟨⟨rfl, h4⟩, h5⟩ := h2
          have ha := pe_ok a gd h5
          have na := plain_star (okE_plain h5)
          cases c with
          | list => exact e_conList1 gd h1 h4 ha na
          | tuple => exact e_conTup1 gd h1 h4 ha na
          | sorted => cases h3
        · cases h2
      | rng2 a b =>
        simp only [okIt] at h2
        split at h2
        · simp only [Bool.and_eq_true, decide_eq_true_eq] at h2
          obtain ⟨⟨⟨rfl, h4⟩, h5⟩, h6⟩ := h2
          have ha := pe_ok a gd h5
          have na := plain_star (okE_plain h5)
          have hb := pe_ok b gd h6
          have nb := plain_star (okE_plain h6)
          cases c with
          | list => exact e_conList2 gd h1 h4 ha na hb nb
          | tuple => exact e_conTup2 gd h1 h4 ha na hb nb
          | sorted => cases h3
        · cases h2
      | enum a => cases c <;> cases h3
      | zip a b => cases c <;> cases h3
    · cases h
  | .comp m elt tg it c, X, k, G, fs, Ex, e', gd, h => by
    unfold okE at h
    split at h
    · rename_i elt' tg' it' ifs' sc' pos
      simp only [Bool.and_eq_true, decide_eq_true_eq] at h
      obtain ⟨⟨⟨⟨⟨⟨h1, h2⟩, h3⟩, h4⟩, h5⟩, h6⟩, h7⟩ := h
      refine e_comp gd.mono gd.calm gd.nd (pi_ok it gd h5 (by
        cases it <;> first | exact True.intro | (cases tg with
          | name i => cases h4
          | tup2 a b => simp only [okTg] at h1; split at h1 <;> first | exact ⟨_, _, _, rfl⟩ | cases h1
          | tup3 a b c => simp only [okTg] at h1; split at h1 <;> first | exact ⟨_, _, _, rfl⟩ | cases h1
          | tup4 a b c d => simp only [okTg] at h1; split at h1 <;> first | exact ⟨_, _, _, rfl⟩ | cases h1))) (blkOk_by h3) h2
        (fun s H C cl fp => blk_tg gd s H sc' C cl fp h1) (fun s H C cl fp => ?_) (fun s H C cl fp => pe_ok elt (gd.blk s H sc' C cl fp) h6) (plain_fold (okIt_plain h5) _)
      cases c with
      | none =>
        split at h7
        · refine PTs.imp pts_nil fun σ H Q ⟨env, h, er, hr, q⟩ => ?_
          simp only [wpC] at q
          exact q H .refl hr
        · rename_i z; cases z
        · cases h7
      | some c =>
        split at h7
        · rename_i z; cases z
        · rename_i z
          cases z
          refine PTs.imp (pts_one (pt_ok c (gd.blk s H sc' C cl fp) h7)) fun σ H Q ⟨env, h, er, hr, q⟩ => ?_
          simp only [wpC] at q
          exact ⟨env, h, er, hr, q⟩
        · cases h7
    · cases h
  | .meth o m es, X, k, G, fs, Ex, e', gd, h => by
    simp only [okE] at h
    split at h
    · simp only [Bool.and_eq_true, decide_eq_true_eq] at h
      obtain ⟨⟨⟨⟨⟨rfl, h1⟩, h2⟩, h3⟩, h4⟩, h5⟩ := h
      have ho := pe_ok o gd h3
      have hs := pa_ok es gd h4
      by_cases hm : m = .pop0
      · subst hm
        cases es with
        | nil =>
          simp only [okEs] at h4
          split at h4
          · exact e_meth0 gd ho h1 (noSup_base h2 _ _ _)
          · cases h4
        | cons a r => cases h5
      · cases es with
        | nil => cases m <;> first | exact absurd rfl hm | cases h5
        | cons a r =>
          cases r with
          | cons b r => cases m <;> cases h5
          | nil =>
            simp only [okEs] at h4
            split at h4
            · rename_i e1 r1
              simp only [Bool.and_eq_true] at h4
              have z := h4.2
              split at z
              · exact e_meth gd ho hs (plain_star (okE_plain h4.1)) h1 (noSup_base h2 _ _ _) hm
              · cases z
            · cases h4
    · cases h
theorem pt_ok : ∀ (e : E) {X : Cx} {k : Nat} {G : Calls} {fs : List Str} {Ex : XP} {e' : PySem.Expr}, Good X k G fs Ex → okE X.N fs X.env.scope e e' = true → PTm X G Ex e e'
  | .var i, X, k, G, fs, Ex, e', gd, h => by
    have he := pe_ok (.var i) gd h
    simp only [okE] at h
    split at h
    · exact t_val gd.mono he (fun _ _ _ q => by simpa only [wpT, wpE] using q) fun _ => rfl
    · cases h
  | .call f es, X, k, G, fs, Ex, e', gd, h => by
    have he := pe_ok (.call f es) gd h
    simp only [okE] at h
    split at h
    · exact t_val gd.mono he (fun _ _ _ q => by simpa only [wpT, wpE] using q) fun _ => rfl
    · cases h
  | .callv f es, X, k, G, fs, Ex, e', gd, h => by
    have he := pe_ok (.callv f es) gd h
    simp only [okE] at h
    split at h
    · exact t_val gd.mono he (fun _ _ _ q => by simpa only [wpT, wpE] using q) fun _ => rfl
    · cases h
  | .gfn f, X, k, G, fs, Ex, e', gd, h => pt_no (fun _ _ _ q => by simp only [wpT] at q)
  | .gcs f, X, k, G, fs, Ex, e', gd, h => pt_no (fun _ _ _ q => by simp only [wpT] at q)
  | .mkd f, X, k, G, fs, Ex, e', gd, h => pt_no (fun _ _ _ q => by simp only [wpT] at q)
  | .dget f a b, X, k, G, fs, Ex, e', gd, h => pt_no (fun _ _ _ q => by simp only [wpT] at q)
  | .blt f es, X, k, G, fs, Ex, e', gd, h => by
    have he := pe_ok (.blt f es) gd h
    simp only [okE] at h
    split at h
    · exact t_val gd.mono he (fun _ _ _ q => by simpa only [wpT, wpE] using q) fun _ => rfl
    · cases h
  | .idx a b, X, k, G, fs, Ex, e', gd, h => by
    have he := pe_ok (.idx a b) gd h
    simp only [okE] at h
    split at h
    · exact t_val gd.mono he (fun _ _ _ q => by simpa only [wpT, wpE] using q) fun _ => rfl
    · cases h
  | .isi a t, X, k, G, fs, Ex, e', gd, h => by
    have he := pe_ok (.isi a t) gd h
    simp only [okE] at h
    split at h
    · exact t_val gd.mono he (fun _ _ _ q => by simp only [wpT, wpE] at q ⊢; exact q) fun _ => rfl
    · cases h
  | .not a, X, k, G, fs, Ex, e', gd, h => by
    simp only [okE] at h
    split at h
    · exact t_not gd.mono (pt_ok a gd h)
    · cases h
  | .and a b, X, k, G, fs, Ex, e', gd, h => by
    simp only [okE] at h
    split at h
    · simp only [Bool.and_eq_true] at h
      exact t_and gd.mono (pt_ok a gd h.1) (pw_and1 (pt_ok b gd h.2))
    · simp only [Bool.and_eq_true] at h
      exact t_and gd.mono (pt_ok a gd h.1) (pw_of (pt_ok b gd h.2))
    · cases h
  | .or a b, X, k, G, fs, Ex, e', gd, h => by
    simp only [okE] at h
    split at h
    · simp only [Bool.and_eq_true] at h
      exact t_or gd.mono (pt_ok a gd h.1) (pw_or1 (pt_ok b gd h.2))
    · simp only [Bool.and_eq_true] at h
      exact t_or gd.mono (pt_ok a gd h.1) (pw_of (pt_ok b gd h.2))
    · cases h
  | .ite c a b, X, k, G, fs, Ex, e', gd, h => by
    simp only [okE] at h
    split at h
    · simp only [Bool.and_eq_true] at h
      exact t_ite gd.mono (pt_ok c gd h.1.1) (pt_ok a gd h.1.2) (pt_ok b gd h.2)
    · cases h
  | .cmp op a b, X, k, G, fs, Ex, e', gd, h => by
    simp only [okE] at h
    split at h
    · simp only [Bool.and_eq_true, decide_eq_true_eq] at h
      obtain ⟨⟨⟨⟨rfl, h1⟩, h2⟩, h3⟩, h4⟩ := h
      exact t_cmp gd.mono (by have := room_units gd.room; omega) (pe_ok a gd h3) (pe_ok b gd h4) (plain_behind (okE_plain h4) _)
    · cases h
  | .chain o p a b c, X, k, G, fs, Ex, e', gd, h => by
    simp only [okE] at h
    split at h
    · simp only [Bool.and_eq_true, decide_eq_true_eq] at h
      obtain ⟨⟨⟨⟨⟨⟨⟨⟨rfl, rfl⟩, _⟩, _⟩, _⟩, _⟩, h3⟩, h4⟩, h5⟩ := h
      exact t_chain gd.mono (by have := room_units gd.room; omega) (pe_ok a gd h3) (pe_ok b gd h4) (pe_ok c gd h5) (plain_behind (okE_plain h5) _)
    · cases h
  | .isN a neg, X, k, G, fs, Ex, e', gd, h => by
    simp only [okE] at h
    split at h
    · simp only [Bool.and_eq_true, decide_eq_true_eq] at h
      obtain ⟨rfl, h1⟩ := h
      exact t_isN gd.mono (pe_ok a gd h1)
    · cases h
  | .isB a b neg, X, k, G, fs, Ex, e', gd, h => by
    simp only [okE] at h
    split at h
    · simp only [Bool.and_eq_true, decide_eq_true_eq] at h
      obtain ⟨⟨rfl, h2⟩, h1⟩ := h
      cases eq_of_beq h2
      exact t_isB gd.mono (pe_ok a gd h1)
    · cases h
  | .isin a b neg, X, k, G, fs, Ex, e', gd, h => by
    simp only [okE] at h
    split at h
    · simp only [Bool.and_eq_true, decide_eq_true_eq] at h
      obtain ⟨⟨rfl, h1⟩, h2⟩ := h
      exact t_isin gd.mono (by have := room_units gd.room; omega) (pe_ok a gd h1) (pe_ok b gd h2) fun op => plain_behind (okE_plain h2) op
    · cases h
  | .non, X, k, G, fs, Ex, e', gd, h => pt_no (fun _ _ _ q => by simp only [wpT] at q)
  | .bl b, X, k, G, fs, Ex, e', gd, h => pt_no (fun _ _ _ q => by simp only [wpT] at q)
  | .int b, X, k, G, fs, Ex, e', gd, h => pt_no (fun _ _ _ q => by simp only [wpT] at q)
  | .str b, X, k, G, fs, Ex, e', gd, h => pt_no (fun _ _ _ q => by simp only [wpT] at q)
  | .bin op a b, X, k, G, fs, Ex, e', gd, h => pt_no (fun _ _ _ q => by simp only [wpT] at q)
  | .neg a, X, k, G, fs, Ex, e', gd, h => pt_no (fun _ _ _ q => by simp only [wpT] at q)
  | .tup a, X, k, G, fs, Ex, e', gd, h => pt_no (fun _ _ _ q => by simp only [wpT] at q)
  | .lst _ a, X, k, G, fs, Ex, e', gd, h => pt_no (fun _ _ _ q => by simp only [wpT] at q)
  | .dct0 a, X, k, G, fs, Ex, e', gd, h => pt_no (fun _ _ _ q => by simp only [wpT] at q)
  | .dct1 a b, X, k, G, fs, Ex, e', gd, h => pt_no (fun _ _ _ q => by simp only [wpT] at q)
  | .slc a b c, X, k, G, fs, Ex, e', gd, h => pt_no (fun _ _ _ q => by simp only [wpT] at q)
  | .rev a, X, k, G, fs, Ex, e', gd, h => pt_no (fun _ _ _ q => by simp only [wpT] at q)
  | .con a b c, X, k, G, fs, Ex, e', gd, h => pt_no (fun _ _ _ q => by simp only [wpT] at q)
  | .comp a b c d e, X, k, G, fs, Ex, e', gd, h => pt_no (fun _ _ _ q => by simp only [wpT] at q)
  | .meth a b c, X, k, G, fs, Ex, e', gd, h => pt_no (fun _ _ _ q => by simp only [wpT] at q)
theorem pa_ok : ∀ (e : Es) {X : Cx} {k : Nat} {G : Calls} {fs : List Str} {Ex : XP} {e' : List PySem.Expr}, Good X k G fs Ex → okEs X.N fs X.env.scope e e' = true → PAm X G Ex e e'
  | .nil, X, k, G, fs, Ex, e', gd, h => by
    simp only [okEs] at h
    split at h
    · exact a_nil
    · cases h
  | .cons a r, X, k, G, fs, Ex, e', gd, h => by
    simp only [okEs] at h
    split at h
    · simp only [Bool.and_eq_true] at h
      exact a_cons gd.mono (pe_ok a gd h.1) (pa_ok r gd h.2) (plain_star (okE_plain h.1))
    · cases h
theorem po_ok : ∀ (e : Eo) {X : Cx} {k : Nat} {G : Calls} {fs : List Str} {Ex : XP} {e' : Option PySem.Expr}, Good X k G fs Ex → okEo X.N fs X.env.scope e e' = true → PO X e' (SO X (wpEo G Ex e))
  | .none, X, k, G, fs, Ex, e', gd, h => by
    simp only [okEo] at h
    split at h
    · exact o_none
    · cases h
  | .some a, X, k, G, fs, Ex, e', gd, h => by
    simp only [okEo] at h
    split at h
    · exact o_some gd.mono (pe_ok a gd h)
    · cases h
theorem pi_ok : ∀ (it : It) {X : Cx} {k : Nat} {G : Calls} {fs : List Str} {Ex : XP} {e' tg' : PySem.Expr}, Good X k G fs Ex → okIt X.N fs X.env.scope it e' = true → (match it with | .enum _ => ∃ a b c, tg' = .Tuple a b c | .zip _ _ => ∃ a b c, tg' = .Tuple a b c | _ => True) → PI X tg' e' (SI X (wpIt G Ex it))
  | .seq a, X, k, G, fs, Ex, e', tg', gd, h, ht => by
    simp only [okIt] at h
    exact i_seq gd.mono (pe_ok a gd h)
  | .rng1 a, X, k, G, fs, Ex, e', tg', gd, h, ht => by
    simp only [okIt] at h
    split at h
    · simp only [Bool.and_eq_true, decide_eq_true_eq] at h
      obtain ⟨⟨rfl, h1⟩, h2⟩ := h
      exact i_rng1 gd h1 (pe_ok a gd h2) (plain_star (okE_plain h2))
    · cases h
  | .rng2 a b, X, k, G, fs, Ex, e', tg', gd, h, ht => by
    simp only [okIt] at h
    split at h
    · simp only [Bool.and_eq_true, decide_eq_true_eq] at h
      obtain ⟨⟨⟨rfl, h1⟩, h2⟩, h3⟩ := h
      exact i_rng2 gd h1 (pe_ok a gd h2) (plain_star (okE_plain h2)) (pe_ok b gd h3) (plain_star (okE_plain h3))
    · cases h
  | .enum a, X, k, G, fs, Ex, e', tg', gd, h, ht => by
    obtain ⟨_, _, _, rfl⟩ := ht
    simp only [okIt] at h
    split at h
    · simp only [Bool.and_eq_true, decide_eq_true_eq] at h
      obtain ⟨⟨rfl, h1⟩, h2⟩ := h
      exact i_enum gd h1 (pe_ok a gd h2) (plain_star (okE_plain h2))
    · cases h
  | .zip a b, X, k, G, fs, Ex, e', tg', gd, h, ht => by
    obtain ⟨_, _, _, rfl⟩ := ht
    simp only [okIt] at h
    split at h
    · simp only [Bool.and_eq_true, decide_eq_true_eq] at h
      obtain ⟨⟨⟨rfl, h1⟩, h2⟩, h3⟩ := h
      exact i_zip gd h1 (pe_ok a gd h2) (plain_star (okE_plain h2)) (pe_ok b gd h3) (plain_star (okE_plain h3))
    · cases h
end
end MP
set_option Elab.async false
set_option linter.all false
set_option maxRecDepth 100000
set_option maxHeartbeats 1000000
namespace MP
open PySem PySem.Spec PyProof.Rows L2
def noComp : PySem.Expr → Bool
  | .ListComp .. => false
  | .SetComp .. => false
  | .DictComp .. => false
  | _ => true
theorem sw_plain {e : PySem.Expr} (h : noComp e = true) (t : Option PySem.Expr) (l : Nat) (env : PySem.Env) : swapsWith e t l env = pure false := by cases e <;> first | rfl | cases h
theorem sw_tup {e : PySem.Expr} {a : List PySem.Expr} {b : Nat} {c : Pos} (l : Nat) (env : PySem.Env) : swapsWith e (some (.Tuple a b c)) l env = pure false := by cases e <;> rfl
theorem sw_sub {e : PySem.Expr} {a b : PySem.Expr} {c : Pos} (l : Nat) (env : PySem.Env) : swapsWith e (some (.Subscript a b c)) l env = pure false := by cases e <;> rfl
theorem sw_comp {elt : PySem.Expr} {gs : List Comprehension} {scope : Scope} {pos py : Pos} {y : Str} {l : Nat} {env : PySem.Env} (hk : env.scope.kind = .function) :
    swapsWith (.ListComp elt gs scope pos) (some (.Name y py)) l env = pure ((env.scope.names.lookup y == some .local) && py.line == pos.line && !(scope.names.any fun (n, k) => n == y && (k == .local || k == .cell))) := by
  have hb : env.blockKind = .function := by unfold Env.blockKind; rw [hk]; rfl
  unfold swapsWith
  simp only [hb, PySem.Expr.pos]
  rfl
theorem sws_tup {e : PySem.Expr} {a : List PySem.Expr} {b : Nat} {c : Pos} {l : Nat} {env : PySem.Env} : swapsWithSole [.Tuple a b c] e l env = pure false := by cases e <;> rfl
theorem sws_sub {e : PySem.Expr} {a b : PySem.Expr} {c : Pos} {l : Nat} {env : PySem.Env} : swapsWithSole [.Subscript a b c] e l env = pure false := by cases e <;> rfl
def nameAt (sc : Scope) (l : Nat) : PySem.Expr → Option Str
  | .Name id pos => if (sc.names.lookup id == some NameKind.local && pos.line == l) = true then some id else none
  | _ => none
def stB (sc : Scope) : PySem.Expr → PySem.Expr → Bool
  | .Tuple ts _ _, .Tuple vs _ _ => vs.length != ts.length || (ts.filterMap (nameAt sc ((ts.head?.map (·.pos.line)).getD 0))).length != ts.length || vs.all (foldedForSure 8)
  | _, _ => true
theorem st_none {t e : PySem.Expr} {env : PySem.Env} (h : stB env.scope t e = true) (ht : (∃ a b c, t = .Tuple a b c) ∨ (∃ x p, t = .Name x p) ∨ ∃ a b c, t = .Subscript a b c) : swappedStores [t] e env = pure none := by
  have key : ∀ (ts : List PySem.Expr), ts.filterMap (fun
    | .Name id pos => if (env.kindOf id == some NameKind.local && pos.line == (ts.head?.map (·.pos.line)).getD 0) = true then some id else none
    | _ => none) = ts.filterMap (nameAt env.scope ((ts.head?.map (·.pos.line)).getD 0)) := fun ts => by
    congr 1
  rcases ht with ⟨ts, b, c, rfl⟩ | ⟨x, p, rfl⟩ | ⟨a, b, c, rfl⟩
  · cases e with
    | Tuple vs b2 c2 =>
      simp only [stB, Bool.or_eq_true, bne_iff_ne, ne_eq] at h
      unfold swappedStores
      dsimp only
      by_cases c1 : (!(ts.length == 2 || ts.length == 3) || vs.length != ts.length || env.blockKind != ScopeKind.function) = true
      · rw [if_pos c1]
      · rw [if_neg c1]
        split
        · rfl
        · split
          · rfl
          · rename_i c3
            split
            · rfl
            · rename_i c4
              exfalso
              rcases h with (h | h) | h
              · simp [h] at c1
              · apply c3
                rw [Bool.or_eq_true]
                left
                simp only [bne_iff_ne, ne_eq]
                intro z
                apply h
                rw [← z]
                congr 1
              · exact c4 h
    | _ => rfl
  · cases e <;> rfl
  · cases e <;> rfl
def parB (sc : Scope) (x y : Str) (px py : Pos) (a b : PySem.Expr) : Bool :=
  (sc.names.lookup x == some .local) && (sc.names.lookup y == some .local) && py.line == px.line && !(x == y) && noStar a && noStar b && !(foldedForSure 8 a && foldedForSure 8 b) && !(constantsAlone 8 a && constantsAlone 8 b)
theorem par_some {env : PySem.Env} {x y : Str} {px py pt p2 : Pos} {kt k2 : Nat} {a b : PySem.Expr} (hk : env.scope.kind = .function) (h : parB env.scope x y px py a b = true) :
    swappedStores [.Tuple [.Name x px, .Name y py] kt pt] (.Tuple [a, b] k2 p2) env = pure (some [x, y]) := by
  unfold parB at h
  simp only [Bool.and_eq_true, beq_iff_eq, Bool.not_eq_true', Bool.and_eq_false_imp] at h
  obtain ⟨⟨⟨⟨⟨⟨⟨h1, h2⟩, h3⟩, h4⟩, h5⟩, h6⟩, h7⟩, h8⟩ := h
  have hb : env.blockKind = .function := by unfold Env.blockKind; rw [hk]; rfl
  have k1 : env.kindOf x = some .local := h1
  have k2 : env.kindOf y = some .local := h2
  have ne : (x == y) = false := h4
  have ne2 : (y == x) = false := by
    cases q : y == x with
    | false => rfl
    | true => rw [beq_iff_eq] at q; subst q; simp at ne
  unfold swappedStores
  dsimp only
  rw [if_neg (by simp [hb])]
  rw [if_neg (by
    simp only [List.any_cons, List.any_nil, Bool.or_false, Bool.or_eq_true]
    rintro (z | z)
    · cases a <;> first | exact absurd (show false = true from z) (by decide) | cases h5
    · cases b <;> first | exact absurd (show false = true from z) (by decide) | cases h6)]
  have n1 : nameAt env.scope px.line (.Name x px) = some x := by simp [nameAt, h1]
  have n2 : nameAt env.scope px.line (.Name y py) = some y := by simp [nameAt, h2, h3]
  have en : [PySem.Expr.Name x px, PySem.Expr.Name y py].filterMap (nameAt env.scope px.line) = [x, y] := by
    rw [List.filterMap_cons_some n1, List.filterMap_cons_some n2]; rfl
  have ed : [x, y].eraseDups = [x, y] := by
    simp [List.eraseDups_cons, ne, ne2]
  have e1 : ([a, b].all (foldedForSure 8)) = false := by
    simp only [List.all_cons, List.all_nil, Bool.and_true]
    cases q : foldedForSure 8 a with
    | false => rfl
    | true => simpa using h7 q
  have e2 : ([a, b].all (constantsAlone 8)) = false := by
    simp only [List.all_cons, List.all_nil, Bool.and_true]
    cases q : constantsAlone 8 a with
    | false => rfl
    | true => simpa using h8 q
  generalize hg : List.filterMap _ [PySem.Expr.Name x px, PySem.Expr.Name y py] = names
  have en' : names = [x, y] := hg.symm.trans en
  subst en'
  rw [if_neg (by rw [ed]; simp), if_neg (by rw [e1]; simp), if_neg (by rw [e2]; simp)]
end MP
set_option Elab.async false
set_option linter.all false
set_option maxRecDepth 100000
set_option maxHeartbeats 2000000
namespace MP
open PySem PySem.Spec PyProof.Rows L2
def notTup : PySem.Expr → Bool
  | .Tuple .. => false
  | _ => true
mutual
def okS (N : List Str) (fs : List Str) (sc : Scope) : S → Stmt → Bool
  | .asg t e, st => match st with
    | .Assign [t'] e' _ => okTg N sc t t' && okE N fs sc e e' && stB sc t' e'
    | _ => false
  | .par i j a b, st => match st with
    | .Assign [.Tuple [.Name x px, .Name y py] _ _] (.Tuple [a', b'] _ _) _ => decide (N[i]? = some x) && decide (N[j]? = some y) && decide (i ≠ j) && parB sc x y px py a' b' && okE N fs sc a a' && okE N fs sc b b'
    | _ => false
  | .sub o i v, st => match st with
    | .Assign [.Subscript o' i' _] v' _ => okE N fs sc o o' && okE N fs sc i i' && okE N fs sc v v'
    | _ => false
  | .ex e, st => match st with
    | .Expr e' _ => okE N fs sc e e' && noComp e'
    | _ => false
  | .ret e, st => match st with
    | .Return (some e') _ => okE N fs sc e e'
    | _ => false
  | .pass, st => match st with
    | .Pass _ => true
    | _ => false
  | .ife c a b, st => match st with
    | .If c' a' b' _ => okE N fs sc c c' && okSs N fs sc a a' && okSs N fs sc b b'
    | _ => false
  | .for t it body, st => match st with
    | .For t' it' body' [] _ => okTg N sc t t' && itTg it t && okIt N fs sc it it' && okSs N fs sc body body'
    | _ => false
  | .while c body, st => match st with
    | .While c' body' [] _ => okE N fs sc c c' && okSs N fs sc body body'
    | _ => false
  | .raise c, st => match st with
    | .Raise (some (.Call (.Name x _) [.Constant (.str _) _ _] [] _)) none _ => decide (c = x) && glB sc x && (fs.contains c && isExc c)
    | _ => false
  | .tryR, _ => false
def okSs (N : List Str) (fs : List Str) (sc : Scope) : Ss → List Stmt → Bool
  | .nil, l => match l with
    | [] => true
    | _ => false
  | .cons s r, l => match l with
    | s' :: r' => okS N fs sc s s' && okSs N fs sc r r'
    | _ => false
end
section
variable {K : KF} {H H1 : Hp}
def upN (K : KF) (H : Hp) (D : L2.St → Hp → Prop) : Env → MH → Prop := fun env' h' => ∀ σ' H', Pres H H' → EnvRep K H' σ' env' → HRep K h' H' → D σ' H'
def upD (K : KF) (H : Hp) (D : Ends) : En := ⟨upN K H D.nx, up K H D.rt, upN K H D.bk, upN K H D.ct⟩
theorem upN.tr (p : Pres H H1) {D : L2.St → Hp → Prop} {env : Env} {h : MH} (q : upN K H D env h) : upN K H1 D env h := fun σ' H' p' e r => q σ' H' (p.trans p') e r
theorem upD.tr (p : Pres H H1) {D : Ends} : EnLe (upD K H D) (upD K H1 D) := ⟨fun _ _ => upN.tr p, fun _ _ => up.tr p, fun _ _ => upN.tr p, fun _ _ => upN.tr p⟩
end
def SS (X : Cx) (w : Env → MH → En → Prop) : TS := fun D σ H => ∃ env h, EnvRep X.K H σ env ∧ HRep X.K h H ∧ w env h (upD X.K H D)
structure GoodS (X : Cx) (k : Nat) (G : Calls) (fs : List Str) (Ex : XP) : Prop extends Good X k G fs Ex where
  fnk : X.env.scope.kind = .function
  cel : ∀ x, X.env.scope.names.lookup x = some .cell → X.fn x = true
  pass : PassesOwn (model X.prog X.w) X.A X.env X.xe
abbrev PSm (X : Cx) (G : Calls) (Ex : XP) (e : S) (e' : Stmt) : Prop := PS X e' (SS X (wpS G Ex e))
abbrev PSsm (X : Cx) (G : Calls) (Ex : XP) (e : Ss) (e' : List Stmt) : Prop := PSs X e' (SS X (wpSs G Ex e))
section
variable {X : Cx} {k : Nat} {G : Calls} {fs : List Str} {Ex : XP} {e a b o i v c : E} {e' a' b' o' i' v' c' tg' it' : PySem.Expr} {pos p2 : Pos} {t : Tg}
theorem GoodS.tg (gd : GoodS X k G fs Ex) (h : okTg X.N X.env.scope t tg' = true) : PG X tg' (SG X t) :=
  sG gd.calm gd.nd (fun _ e => e) (fun x e => ⟨e, gd.cel x e⟩) t tg' h
theorem s_asgP (hG : GMono G) (he : PEm X G Ex e e') (hg : PG X tg' (SG X t)) (h1 : swapsWithSole [tg'] e' pos.line X.env = pure false) (h2 : swappedStores [tg'] e' X.env = pure none) (ns : noStar tg' = true) :
    PSm X G Ex (.asg t e) (.Assign [tg'] e' pos) := PS.imp (ps_asg he hg h1 h2 (by rw [asg_cons ns]; rfl)) fun D σ H ⟨env, h, er, hr, q⟩ => by
  simp only [wpS] at q
  refine se_mk hG er hr q fun x h1 V H1 q p1 r1 hr1 => ?_
  exact ⟨x, env, h1, er.keep p1, hr1, r1, tgW_mono (fun env' q σ' er' _ _ => q σ' H1 p1 er' hr1) q⟩
def LaidS (D : L2.St → Hp → Prop) : L2.St → Hp → Prop := fun σ H => ∃ S : Addr → Prop, (∀ a, S a → ∃ u, H a = some u ∧ Fz1 u) ∧ ∀ H', FzS S H H' → D σ H'
theorem ps_laid {st : Stmt} {t : TS} (h : PS X st t) : PS X st (fun D σ H => t { D with nx := LaidS D.nx } σ H) := ⟨fun pins s σ H D I hw =>
  thn (h.run pins s σ H _ I hw) fun f s1 q => by
    cases f with
    | next =>
      obtain ⟨σ', H', I1, S, ok, q⟩ := q
      obtain ⟨H2, f, I2⟩ := fz_inv I1 ok
      exact ⟨σ', H2, I2, q H2 f⟩
    | brk => exact q
    | cont => exact q
    | ret v => exact q⟩
theorem comp_parts {m : Bool} {elt : E} {tg : Tg} {it : It} {c : Eo} {e' : PySem.Expr} (gd : Good X k G fs Ex) (h : okE X.N fs X.env.scope (.comp m elt tg it c) e' = true) :
    ∃ elt' tg' it' ifs' sc' pos own, e' = .ListComp elt' [⟨tg', it', ifs', 0⟩] sc' pos ∧ PI X tg' it' (SI X (wpIt G Ex it)) ∧ BlkOk X.N X.env.scope sc' own ∧ own.map (·.2) = tg.own ∧
    (∀ (s : Shared) (H : Hp) (C : Addr) (cl : List (Str × Addr)) (fp : List Addr), PG (X.blk s H sc' (compEnvC sc' cl C X.env) fp) tg' (SG X tg)) ∧
    (∀ (s : Shared) (H : Hp) (C : Addr) (cl : List (Str × Addr)) (fp : List Addr), PTs (X.blk s H sc' (compEnvC sc' cl C X.env) fp) ifs' (SC X (wpC G c))) ∧
    (∀ (s : Shared) (H : Hp) (C : Addr) (cl : List (Str × Addr)) (fp : List Addr), PE (X.blk s H sc' (compEnvC sc' cl C X.env) fp) elt' (SE X (wpE G noX elt))) ∧
    (∀ x, foldedSetIterable it' X.env x = pure x) := by
  unfold okE at h
  split at h
  · rename_i elt' tg' it' ifs' sc' pos
    simp only [Bool.and_eq_true, decide_eq_true_eq] at h
    obtain ⟨⟨⟨⟨⟨⟨h1, h2⟩, h3⟩, h4⟩, h5⟩, h6⟩, h7⟩ := h
    refine ⟨elt', tg', it', ifs', sc', pos, _, rfl, pi_ok it gd h5 (by
      cases it <;> first | exact True.intro | (cases tg with
        | name i => cases h4
        | tup2 a b => simp only [okTg] at h1; split at h1 <;> first | exact ⟨_, _, _, rfl⟩ | cases h1
        | tup3 a b c => simp only [okTg] at h1; split at h1 <;> first | exact ⟨_, _, _, rfl⟩ | cases h1
        | tup4 a b c d => simp only [okTg] at h1; split at h1 <;> first | exact ⟨_, _, _, rfl⟩ | cases h1)), blkOk_by h3, h2,
      (fun s H C cl fp => blk_tg gd s H sc' C cl fp h1), (fun s H C cl fp => ?_), (fun s H C cl fp => pe_ok elt (gd.blk s H sc' C cl fp) h6), plain_fold (okIt_plain h5) _⟩
    cases c with
    | none =>
      split at h7
      · refine PTs.imp pts_nil fun σ H Q ⟨env, h, er, hr, q⟩ => ?_
        simp only [wpC] at q
        exact q H .refl hr
      · rename_i z; cases z
      · cases h7
    | some c =>
      split at h7
      · rename_i z; cases z
      · rename_i z
        cases z
        refine PTs.imp (pts_one (pt_ok c (gd.blk s H sc' C cl fp) h7)) fun σ H Q ⟨env, h, er, hr, q⟩ => ?_
        simp only [wpC] at q
        exact ⟨env, h, er, hr, q⟩
      · cases h7
  · cases h
theorem s_setLc {m : Bool} {elt : E} {tg : Tg} {it : It} {c : Eo} {n : Nat} {y : Str} {py : Pos} (gd : GoodS X k G fs Ex) (h : okE X.N fs X.env.scope (.comp m elt tg it c) e' = true) (hn : X.N[n]? = some y) (hy : X.env.scope.names.lookup y = some .local)
    (hsw : swapsWith e' (some (.Name y py)) pos.line X.env = pure true) : PSm X G Ex (.asg (.name n) (.comp m elt tg it c)) (.Assign [.Name y py] e' pos) := by
  obtain ⟨elt', tg', it', ifs', sc', pos', own, rfl, hi, ok, hown, hg, ht, he, hs⟩ := comp_parts gd.toGood h
  refine PS.imp (ps_laid (ps_setLc gd.calm gd.nd hn hy hsw hi ok hg (fun s H C cl fp => pts_lk (ht s H C cl fp)) (fun s H C cl fp => pe_lk (he s H C cl fp)) hs)) fun D σ H ⟨env, h, er, hr, q⟩ => ?_
  have main := comp_imp (X := X) (m := m) (Ex := Ex) (elt := elt) (it := it) (c := c) gd.mono hown rfl rfl rfl rfl σ H (fun x H1 => D.nx (σ.set n (some x)) H1)
  refine main ⟨env, h, er, hr, ?_⟩
  simp only [wpS] at q
  refine wpE_mono gd.mono (fun x h1 q V H1 p1 r1 hr1 => ?_) q
  simp only [tgW] at q
  exact q _ H1 p1 ((er.keep p1).set n r1) hr1
theorem okE_comp {N fs : List Str} {sc : Scope} {e : E} {e' : PySem.Expr} (h : okE N fs sc e e' = true) : noComp e' = true ∨ ((∃ m elt tg it c, e = .comp m elt tg it c) ∧ ∃ elt gs sc pos, e' = .ListComp elt gs sc pos) := by
  cases e <;> unfold okE at h <;> (repeat' split at h) <;> first | exact .inl rfl | exact .inr ⟨⟨_, _, _, _, _, rfl⟩, _, _, _, _, rfl⟩ | cases h
theorem s_asg {st : Stmt} (gd : GoodS X k G fs Ex) (h : okS X.N fs X.env.scope (.asg t e) st = true) : PSm X G Ex (.asg t e) st := by
  simp only [okS] at h
  split at h
  · rename_i t' e' pos
    simp only [Bool.and_eq_true] at h
    obtain ⟨⟨h1, h2⟩, h3⟩ := h
    have he := pe_ok e gd.toGood h2
    have hg := gd.tg h1
    have ns := okTg_star h1
    cases t with
    | name n =>
      simp only [okTg] at h1
      split at h1
      · rename_i y py
        have hst := st_none (env := X.env) h3 (.inr (.inl ⟨_, _, rfl⟩))
        rcases okE_comp h2 with hc | ⟨⟨m, elt, tg, it, c, rfl⟩, elt', gs', sc', p', rfl⟩
        · exact s_asgP gd.mono he hg (sw_plain hc (some (.Name y py)) pos.line X.env) hst ns
        · have sw := sw_comp (elt := elt') (gs := gs') (scope := sc') (pos := p') (py := py) (y := y) (l := pos.line) gd.fnk
          obtain ⟨l1, l2⟩ := locB_loc h1
          cases hb : (X.env.scope.names.lookup y == some NameKind.local) && py.line == p'.line && !(sc'.names.any fun (n, k) => n == y && (k == .local || k == .cell)) with
          | true =>
            rw [hb] at sw
            simp only [Bool.and_eq_true, beq_iff_eq] at hb
            exact s_setLc gd h2 l1 hb.1.1 sw
          | false =>
            rw [hb] at sw
            exact s_asgP gd.mono he hg sw hst ns
      · cases h1
    | tup2 a b =>
      simp only [okTg] at h1
      split at h1
      · exact s_asgP gd.mono he hg sws_tup (st_none h3 (.inl ⟨_, _, _, rfl⟩)) ns
      · cases h1
    | tup3 a b c =>
      simp only [okTg] at h1
      split at h1
      · exact s_asgP gd.mono he hg sws_tup (st_none h3 (.inl ⟨_, _, _, rfl⟩)) ns
      · cases h1
    | tup4 a b c d =>
      simp only [okTg] at h1
      split at h1
      · exact s_asgP gd.mono he hg sws_tup (st_none h3 (.inl ⟨_, _, _, rfl⟩)) ns
      · cases h1
  · cases h
theorem s_par {i j : Nat} {x y : Str} {px py pt : Pos} {kt k2 : Nat} (gd : GoodS X k G fs Ex) (hi : X.N[i]? = some x) (hj : X.N[j]? = some y) (ne : i ≠ j) (hb : parB X.env.scope x y px py a' b' = true) (ha : PEm X G Ex a a') (hbb : PEm X G Ex b b') :
    PSm X G Ex (.par i j a b) (.Assign [.Tuple [.Name x px, .Name y py] kt pt] (.Tuple [a', b'] k2 p2) pos) := by
  have hb0 := hb
  unfold parB at hb
  simp only [Bool.and_eq_true, beq_iff_eq] at hb
  obtain ⟨⟨⟨⟨⟨⟨⟨h1, h2⟩, h3⟩, h4⟩, h5⟩, h6⟩, h7⟩, h8⟩ := hb
  refine PS.imp (ps_par gd.calm gd.nd hi hj ne h1 h2 (pa_cons ha (pa_cons hbb pa_nil (star_cons h6 _ _)) (star_cons h5 _ _)) (par_some gd.fnk hb0) rfl) fun D σ H ⟨env, h, er, hr, q⟩ => ?_
  simp only [wpS] at q
  refine se_mk gd.mono er hr q fun x h1 V H1 q p1 r1 hr1 => se_mk gd.mono (er.keep p1) hr1 q fun y h2 W H2 q p2 r2 hr2 => ?_
  exact ⟨V, W, rfl, q _ H2 (p1.trans p2) (((er.keep (p1.trans p2)).set i (r1.keep p2)).set j r2) hr2⟩
theorem plain_sub {o i : PySem.Expr} {env : PySem.Env} (h : plainX i = true) (v : Value) : assign (.Subscript o i pos) env v = (do
    let ov ← holding [v] (eval o env)
    let iv ← holding [v, ov] (eval i env)
    standAt pos
    holding [v, ov, iv] (setItem ov iv v)
    release [v, ov, iv] []) := by cases i <;> first | rfl | cases h
theorem s_sub (gd : GoodS X k G fs Ex) (ho : PEm X G Ex o o') (hi : PEm X G Ex i i') (hv : PEm X G Ex v v') (pl : plainX i' = true) (hst : stB X.env.scope (.Subscript o' i' p2) v' = true) : PSm X G Ex (.sub o i v) (.Assign [.Subscript o' i' p2] v' pos) :=
  PS.imp (ps_asg hv (pg_sub ho hi set_W (plain_sub pl)) sws_sub (st_none hst (.inr (.inr ⟨_, _, _, rfl⟩))) rfl) fun D σ H ⟨env, h, er, hr, q⟩ => by
    simp only [wpS] at q
    refine se_mk gd.mono er hr q fun z h1 Z H1 q p1 r1 hr1 => se_mk gd.mono (er.keep p1) hr1 q fun x h2 V H2 q p2 r2 hr2 => se_mk gd.mono ((er.keep p1).keep p2) hr2 q fun y h3 W H3 q p3 r3 hr3 => ?_
    exact ⟨x, y, z, h3, r2.keep p3, r3, r1.keep (p2.trans p3), hr3, subW_mono (fun h4 q H4 p4 hr4 => q σ H4 (((p1.trans p2).trans p3).trans p4) ((((er.keep p1).keep p2).keep p3).keep p4) hr4) q⟩
theorem s_ex (gd : GoodS X k G fs Ex) (he : PEm X G Ex e e') (hc : noComp e' = true) : PSm X G Ex (.ex e) (.Expr e' pos) := PS.imp (ps_expr he (sw_plain hc _ _ _)) fun D σ H ⟨env, h, er, hr, q⟩ => by
  simp only [wpS] at q
  exact se_mk gd.mono er hr q fun x h1 V H1 q p1 r1 hr1 => q σ H1 p1 (er.keep p1) hr1
theorem s_ret (gd : GoodS X k G fs Ex) (he : PEm X G Ex e e') : PSm X G Ex (.ret e) (.Return (some e') pos) := PS.imp (ps_ret he) fun D σ H ⟨env, h, er, hr, q⟩ => by
  simp only [wpS] at q
  exact se_mk gd.mono er hr q fun x h1 V H1 q p1 r1 hr1 => q V H1 p1 r1 hr1
theorem s_pass : PSm X G Ex .pass (.Pass pos) := PS.imp ps_pass fun D σ H ⟨env, h, er, hr, q⟩ => by
  simp only [wpS] at q
  exact q σ H .refl er hr
theorem ss_mk {D : Ends} {σ : L2.St} {H : Hp} {env : Env} {h : MH} {b : Ss} {D0 : En} (hG : GMono G) (er : EnvRep X.K H σ env) (hr : HRep X.K h H) (q : wpSs G Ex b env h D0) (le : EnLe D0 (upD X.K H D)) : SS X (wpSs G Ex b) D σ H := ⟨env, h, er, hr, wpSs_mono hG le q⟩
theorem s_ife {a b : Ss} {a' b' : List Stmt} (gd : GoodS X k G fs Ex) (hc : PTm X G Ex c c') (ha : PSsm X G Ex a a') (hb : PSsm X G Ex b b') : PSm X G Ex (.ife c a b) (.If c' a' b' pos) := PS.imp (ps_if hc ha hb) fun D σ H ⟨env, h, er, hr, q⟩ => by
  simp only [wpS] at q
  refine st_mk gd.mono er hr q fun kk h1 H1 q p1 hr1 => ?_
  cases kk with
  | true => exact ss_mk gd.mono (er.keep p1) hr1 q (upD.tr p1)
  | false => exact ss_mk gd.mono (er.keep p1) hr1 q (upD.tr p1)
theorem s_nil : PSsm X G Ex .nil [] := PSs.imp pss_nil fun D σ H ⟨env, h, er, hr, q⟩ => by
  simp only [wpSs] at q
  exact q σ H .refl er hr
theorem s_cons {s : S} {r : Ss} {s' : Stmt} {r' : List Stmt} (gd : GoodS X k G fs Ex) (hs : PSm X G Ex s s') (hr' : PSsm X G Ex r r') : PSsm X G Ex (.cons s r) (s' :: r') := PSs.imp (pss_cons hs hr') fun D σ H ⟨env, h, er, hr, q⟩ => by
  simp only [wpSs] at q
  have le : EnLe { upD X.K H D with nx := fun env' h' => wpSs G Ex r env' h' (upD X.K H D) } (upD X.K H { D with nx := fun σ H => SS X (wpSs G Ex r) D σ H }) :=
    ⟨fun env1 h1 q σ1 H1 p1 er1 hr1 => ss_mk gd.mono er1 hr1 q (upD.tr p1), fun _ _ q => q, fun _ _ q => q, fun _ _ q => q⟩
  exact ⟨env, h, er, hr, wpS_mono gd.mono le q⟩
theorem s_raise {c m : Str} {j : Nat} {p p2 p3 : Pos} (gd : GoodS X k G fs Ex) (hc : c ∈ fs) (hx : isExc c = true) (hg : glB X.env.scope c = true) : PSm X G Ex (.raise c) (.Raise (some (.Call (.Name c p) [.Constant (.str m) j p2] [] p3)) none pos) := by
  obtain ⟨C, hm, hi, hk, hs, ht⟩ := (gd.exc c hc hx).ex
  obtain ⟨g1, g2, g3⟩ := glB_gl rfl hg
  refine PS.imp (ps_raise gd.calm gd.tk (pmk_own PySem.F.excBase_ValueError hi hm hk (raises_own hs ht) g1 g2)) fun D σ H ⟨env, h, er, hr, q⟩ => ?_
  simp only [wpS] at q
  exact ⟨⟨c, none⟩, env, h, ⟨hm, rfl⟩, er, hr, q⟩
theorem s_for {it : It} {body : Ss} {body' : List Stmt} (gd : GoodS X k G fs Ex) (hi : PI X tg' it' (SI X (wpIt G Ex it))) (hg : PG X tg' (SG X t)) (hb : PSsm X G Ex body body') (hf : ∀ x, foldedSetIterable it' X.env x = pure x) :
    PSm X G Ex (.for t it body) (.For tg' it' body' [] pos) := PS.imp (ps_for gd.pass gd.calm hi hg hb hf) fun D σ H ⟨env, h, er, hr, q⟩ => by
  simp only [wpS] at q
  refine ⟨env, h, er, hr, wpIt_mono gd.mono (fun S h1 q J H1 p1 hr1 wk len => ?_) q⟩
  generalize hturn : (fun (x : PV) (env' : Env) (h2 : MH) (D' : En) => tgW t x env' fun env2 => wpSs G Ex body env2 h2 D') = turn at q
  let W : Nat → Nat → L2.St → Hp → Prop := fun i n σ' H' => ∃ env' h', EnvRep X.K H' σ' env' ∧ HRep X.K h' H' ∧ Pres H1 H' ∧ i ≤ S.xs.length ∧ n = S.xs.length - i ∧ forW S.stays turn (upD X.K H D) (S.xs.drop i) env' h'
  refine ⟨W, ⟨S.xs.length, env, h1, er.keep p1, hr1, .refl, Nat.zero_le _, rfl, q⟩, ?_⟩
  intro i n σ' H' ⟨env', h', er', hr', pp, li, en, fw⟩
  by_cases hlt : i < S.xs.length
  · right
    rw [List.drop_eq_getElem_cons hlt] at fw
    obtain ⟨st, fw⟩ := fw
    refine ⟨wk.go i H' h' pp hr' st hlt, fun σ2 H2 => W (i + 1) (S.xs.length - (i + 1)) σ2 H2, fun σ2 H2 w => ⟨_, by omega, w⟩, fun xv H2 y => ?_⟩
    obtain ⟨v, ev, gr, rv⟩ := wk.yld i H' h' xv H2 pp hr' st hlt y
    rw [List.getElem?_eq_getElem hlt] at ev
    cases ev
    have p2 : Pres H1 H2 := pp.trans gr.pres
    subst hturn
    refine ⟨_, env', h', er'.keep gr.pres, gr.hrep hr', rv, tgW_mono (fun env2 qt σ2 er2 _ _ => ?_) fw⟩
    refine ss_mk gd.mono er2 (gr.hrep hr') qt ⟨fun env3 h3 q σ3 H3 p3 er3 hr3 => ?_, fun _ _ => up.tr (p1.trans p2), fun _ _ => upN.tr (p1.trans p2), fun env3 h3 q σ3 H3 p3 er3 hr3 => ?_⟩
    · exact ⟨env3, h3, er3, hr3, p2.trans p3, hlt, rfl, q⟩
    · exact ⟨env3, h3, er3, hr3, p2.trans p3, hlt, rfl, q⟩
  · left
    have e : i = S.xs.length := by omega
    subst e
    rw [List.drop_length] at fw
    obtain ⟨st, fw⟩ := fw
    exact ⟨wk.stop _ H' h' pp hr' st (Nat.le_refl _), fw σ' H' (p1.trans pp) er' hr'⟩
theorem s_while {body : Ss} {body' : List Stmt} (gd : GoodS X k G fs Ex) (hc : PTm X G Ex c c') (hb : PSsm X G Ex body body') : PSm X G Ex (.while c body) (.While c' body' [] pos) := PS.imp (ps_while gd.pass hc hb) fun D σ H ⟨env, h, er, hr, q⟩ => by
  simp only [wpS] at q
  obtain ⟨n, q⟩ := q
  refine ⟨fun m σ' H' => ∃ env' h', EnvRep X.K H' σ' env' ∧ HRep X.K h' H' ∧ Pres H H' ∧ whileW (fun env' h' Q => wpT G Ex c env' h' Q) (fun env' h' D' => wpSs G Ex body env' h' D') (upD X.K H D) m env' h', ⟨n, env, h, er, hr, .refl, q⟩, ?_⟩
  intro m σ' H' ⟨env', h', er', hr', pp, w⟩
  cases m with
  | zero => exact w.elim
  | succ m =>
    refine st_mk gd.mono er' hr' w fun kk h1 H1 q p1 hr1 => ?_
    cases kk with
    | true =>
      refine ⟨fun σ2 H2 => ∃ env' h', EnvRep X.K H2 σ2 env' ∧ HRep X.K h' H2 ∧ Pres H H2 ∧ whileW (fun env' h' Q => wpT G Ex c env' h' Q) (fun env' h' D' => wpSs G Ex body env' h' D') (upD X.K H D) m env' h', fun σ2 H2 w => ⟨m, Nat.lt_succ_self m, w⟩, ?_⟩
      have p2 : Pres H H1 := pp.trans p1
      refine ss_mk gd.mono (er'.keep p1) hr1 q ⟨fun env3 h3 q σ3 H3 p3 er3 hr3 => ?_, fun _ _ => up.tr p2, fun _ _ => upN.tr p2, fun env3 h3 q σ3 H3 p3 er3 hr3 => ?_⟩
      · exact ⟨env3, h3, er3, hr3, p2.trans p3, q⟩
      · exact ⟨env3, h3, er3, hr3, p2.trans p3, q⟩
    | false => exact q σ' H1 (pp.trans p1) (er'.keep p1) hr1
end
mutual
theorem ps_ok : ∀ (s : S) {X : Cx} {k : Nat} {G : Calls} {fs : List Str} {Ex : XP} {s' : Stmt}, GoodS X k G fs Ex → okS X.N fs X.env.scope s s' = true → PSm X G Ex s s'
  | .asg t e, X, k, G, fs, Ex, s', gd, h => s_asg gd h
  | .par i j a b, X, k, G, fs, Ex, s', gd, h => by
    simp only [okS] at h
    split at h
    · simp only [Bool.and_eq_true, decide_eq_true_eq] at h
      obtain ⟨⟨⟨⟨⟨h1, h2⟩, h3⟩, h4⟩, h5⟩, h6⟩ := h
      exact s_par gd h1 h2 h3 h4 (pe_ok a gd.toGood h5) (pe_ok b gd.toGood h6)
    · cases h
  | .sub o i v, X, k, G, fs, Ex, s', gd, h => by
    simp only [okS] at h
    split at h
    · simp only [Bool.and_eq_true] at h
      obtain ⟨⟨h1, h2⟩, h3⟩ := h
      exact s_sub gd (pe_ok o gd.toGood h1) (pe_ok i gd.toGood h2) (pe_ok v gd.toGood h3) (okE_plain h2) rfl
    · cases h
  | .ex e, X, k, G, fs, Ex, s', gd, h => by
    simp only [okS] at h
    split at h
    · simp only [Bool.and_eq_true] at h
      exact s_ex gd (pe_ok e gd.toGood h.1) h.2
    · cases h
  | .ret e, X, k, G, fs, Ex, s', gd, h => by
    simp only [okS] at h
    split at h
    · exact s_ret gd (pe_ok e gd.toGood h)
    · cases h
  | .pass, X, k, G, fs, Ex, s', gd, h => by
    simp only [okS] at h
    split at h
    · exact s_pass
    · cases h
  | .ife c a b, X, k, G, fs, Ex, s', gd, h => by
    simp only [okS] at h
    split at h
    · simp only [Bool.and_eq_true] at h
      exact s_ife gd (pt_ok c gd.toGood h.1.1) (pss_ok a gd h.1.2) (pss_ok b gd h.2)
    · cases h
  | .for t it body, X, k, G, fs, Ex, s', gd, h => by
    simp only [okS] at h
    split at h
    · simp only [Bool.and_eq_true] at h
      obtain ⟨⟨⟨h1, h2⟩, h3⟩, h4⟩ := h
      refine s_for gd (pi_ok it gd.toGood h3 (by
        cases it <;> first | exact True.intro | (cases t with
          | name i => cases h2
          | tup2 a b => simp only [okTg] at h1; split at h1 <;> first | exact ⟨_, _, _, rfl⟩ | cases h1
          | tup3 a b c => simp only [okTg] at h1; split at h1 <;> first | exact ⟨_, _, _, rfl⟩ | cases h1
          | tup4 a b c d => simp only [okTg] at h1; split at h1 <;> first | exact ⟨_, _, _, rfl⟩ | cases h1))) (gd.tg h1) (pss_ok body gd h4) (plain_fold (okIt_plain h3) _)
    · cases h
  | .while c body, X, k, G, fs, Ex, s', gd, h => by
    simp only [okS] at h
    split at h
    · simp only [Bool.and_eq_true] at h
      exact s_while gd (pt_ok c gd.toGood h.1) (pss_ok body gd h.2)
    · cases h
  | .raise c, X, k, G, fs, Ex, s', gd, h => by
    simp only [okS] at h
    split at h
    · simp only [Bool.and_eq_true, decide_eq_true_eq] at h
      obtain ⟨⟨rfl, h1⟩, h2, h3⟩ := h
      exact s_raise gd (by simpa using h2) h3 h1
    · cases h
  | .tryR, X, k, G, fs, Ex, s', gd, h => by simp only [okS] at h; cases h
theorem pss_ok : ∀ (s : Ss) {X : Cx} {k : Nat} {G : Calls} {fs : List Str} {Ex : XP} {s' : List Stmt}, GoodS X k G fs Ex → okSs X.N fs X.env.scope s s' = true → PSsm X G Ex s s'
  | .nil, X, k, G, fs, Ex, s', gd, h => by
    simp only [okSs] at h
    split at h
    · exact s_nil
    · cases h
  | .cons s r, X, k, G, fs, Ex, s', gd, h => by
    simp only [okSs] at h
    split at h
    · simp only [Bool.and_eq_true] at h
      exact s_cons gd (ps_ok s gd h.1) (pss_ok r gd h.2)
    · cases h
end
end MP
set_option Elab.async false
set_option linter.all false
set_option maxRecDepth 100000
set_option maxHeartbeats 2000000
namespace MP
open PySem PySem.Spec PyProof.Rows L2
def isq1 (sc : Scope) (n c : Str) : PySem.Expr → Bool
  | .Call (.Name x _) [.Name y _, .Name z _] [] _ => decide (x = ("isinstance" : Str)) && decide (y = n) && decide (z = c) && glB sc x && glB sc z
  | _ => false
def namesB (sc : Scope) : List Str → List PySem.Expr → Bool
  | [], [] => true
  | c :: cs, .Name z _ :: es => decide (z = c) && glB sc z && namesB sc cs es
  | _, _ => false
def isqT (sc : Scope) (n : Str) (cs : List Str) : PySem.Expr → Bool
  | .Call (.Name x _) [.Name y _, .Tuple es _ _] [] _ => decide (x = ("isinstance" : Str)) && decide (y = n) && glB sc x && namesB sc cs es
  | _ => false
def rc1 : List Str := ["NoBack", "NoCell", "NoName", "NoPivot", "NoPlace", "NoRow", "NoText"]
def rc2 : List Str := ["NotEven", "NotFree", "Taken", "TooMany"]
def marksE : Es := .cons (.bl true) (.cons (.bl true) (.cons (.bl false) (.cons (.bl false) .nil)))
def okSuite (N : List Str) (sc : Scope) (n : Str) : List Stmt → Bool
  | [.Assign [.Name m1 p1] (.List [i1, i2] q1) _, .Expr (.Call (.Attribute (.Name m2 _) at2 ap2) [j1] [] cp2) _, .Expr (.Call (.Attribute (.Name m3 _) at3 ap3) [j2] [] cp3) _] =>
    (locB N sc 3 m1 && visB N sc 3 m2 && visB N sc 3 m3) && (decide (at2 = ("append" : Str)) && decide (at3 = ("append" : Str)) && (ap2.endLine == cp2.line) && (ap3.endLine == cp3.line)) &&
      (isq1 sc n "NoWorth" i1 && isq1 sc n "ValueError" i2 && isqT sc n rc1 j1 && isqT sc n rc2 j2)
  | _ => false
def okRef (N fs : List Str) (sc : Scope) : List Stmt → Bool
  | [s1, .Try [b1] [.ExceptHandler (some (.Name x _)) (some n) suite _] [] [] _, s3] =>
    okS N fs sc (.asg (.name 3) (.lst true .nil)) s1 && okS N fs sc (.ex (.callv 0 (.cons (.var 1) (.cons (.var 2) .nil)))) b1 && okS N fs sc (.ret (.cmp .Eq (.var 3) (.lst false marksE))) s3 &&
      (decide (x = ("FillError" : Str)) && glB sc x && decide (N[4]? = some n) && (sc.names.lookup n == some .local) && visB N sc 4 n && okSuite N sc n suite)
  | _ => false
structure RefK (K : KF) (mg : Str → Option Value) (C : Addr) : Prop where
  c : mg "NoWorth" = some (.ref C)
  exc : ExcC K C
  fe : ∃ F : Addr, mg "FillError" = some (.ref F) ∧ PySem.W.exmOne K (.ref C) (.ref F) = some true
  me : PySem.W.kitOne K (.ref C) (.ref C) = some true
  ve : mg "ValueError" = none ∧ PySem.W.kitOne K (.ref C) (.type "ValueError") = some true
  no : ∀ x ∈ rc1 ++ rc2, ∃ A : Addr, mg x = some (.ref A) ∧ PySem.W.kitOne K (.ref C) (.ref A) = some false
def rIsT (K : KF) (D a : Addr) : List V → Hp → VK → Prop := fun xs H Q => ∃ (b : Addr) (cs : List V) (cv : List Value) (r : Bool), xs = [.ref a, .ref b] ∧ H b = some (.tup cs) ∧ (∀ us, Vals cs us → us = cv) ∧ PySem.W.kitAny K (.ref D) cv = some r ∧ Q (.bl r) H
theorem call_isT {X : Cx} {a D : Addr} {oe : Obj} {pn : List (Addr × Obj)} (C : ExcC X.K D) (hz : Zc (.ref D) none oe) (hf : ∃ vs, oe.data = .fields vs) : CallR (X.suite a ((a, oe) :: pn)) (.builtin "isinstance") (rIsT X.K D a) := by
  intro pins s σ H xs us Q I r h
  obtain ⟨b, cs, cv, r', rfl, hb, hcv, e, q⟩ := h
  obtain ⟨u1, u2, rfl, rx, rt⟩ := vals2 r
  cases (show u1 = Value.ref a from rx)
  cases (show u2 = Value.ref b from rt)
  obtain ⟨its, rv, ⟨o, ho, hc, n, hd⟩, _⟩ := I.tuple (.inl (.inl hb))
  have ei := hcv _ rv
  subst ei
  obtain ⟨oc, od, oda, osl⟩ := o
  dsimp only at hc hd
  subst hc hd
  obtain ⟨hget, _⟩ := I.pin (a, oe) (List.mem_append.mpr (.inl List.mem_cons_self))
  obtain ⟨vs, hv⟩ := hf
  have J : PySem.W.InstAt s.heap a oe D none := by
    obtain ⟨oc, od, oda, osl⟩ := oe
    obtain ⟨h1, h2⟩ := hz
    dsimp only at h1 h2 hv
    subst h1 h2 hv
    exact ⟨hget, rfl, rfl, trivial⟩
  exact PySem.W.kia_tup (PySem.W.handS_kitx_exc C.hg C.hk C.hs C.hd C.ha C.hn C.ht C.hm) I.kIn J ho e (fun z => nomatch z) fun tk => ⟨.bl r', H, I.kept (t' := tk) fun _ _ z => z, rfl, q⟩
section
variable {X : Cx} {a C : Addr} {oe : Obj} {pn : List (Addr × Obj)} {G : Calls} {fs : List Str} {Ex : XP} {k : Nat} {n c : Str} {i' : PySem.Expr}
def wIs (a : Addr) (b : Bool) : Env → MH → Post → Prop := fun env h Q => env[4]? = some (some (.loc a)) ∧ Q (.bl b) h
theorem x_var {y : Str} {p : Pos} (hv : visB X.N X.env.scope 4 y = true) : PE (X.suite a pn) (.Name y p) (tVar 4) := by
  unfold visB at hv
  simp only [Bool.and_eq_true, decide_eq_true_eq] at hv
  obtain ⟨⟨⟨h1, h2⟩, h3⟩, h4⟩ := hv
  have hv : Vis X.env.scope y := by
    unfold Vis
    split at h2
    · exact .inl (by assumption)
    · exact .inr (.inl (by assumption))
    · exact .inr (.inr (by assumption))
    · cases h2
  exact pe_var (X := X.suite a pn) h1 hv (by simpa using h3) (by simpa using h4)
theorem x_is1 {v : V} {cv : Value} {b : Bool} (hb : ∀ x ∈ bltNames, X.mg x = none) (R : RefK X.K X.mg C) (hz : Zc (.ref C) none oe) (hf : ∃ vs, oe.data = .fields vs) (hv : visB X.N X.env.scope 4 n = true) (ok : isq1 X.env.scope n c i' = true)
    (hc : ∀ p, glB X.env.scope c = true → PE (X.suite a ((a, oe) :: pn)) (.Name c p) (tC v)) (hr : ∀ u, RelV v u → u = cv) (hk : PySem.W.kitOne X.K (.ref C) cv = some b) : PE (X.suite a ((a, oe) :: pn)) i' (SE X (wIs a b)) := by
  unfold isq1 at ok
  split at ok
  · rename_i x p1 y p2 z p3 pos
    simp only [Bool.and_eq_true, decide_eq_true_eq] at ok
    obtain ⟨⟨⟨⟨rfl, rfl⟩, rfl⟩, g⟩, g2⟩ := ok
    obtain ⟨g1, _, _⟩ := glB_gl (env := X.env) rfl g
    have pa : PA (X.suite a ((a, oe) :: pn)) [.Name y p2, .Name z p3] (tCons (tVar 4) (tCons (tC v) tNil)) := pa_cons (x_var hv) (pa_cons (hc p3 g2) pa_nil rfl) rfl
    refine PE.imp (pe_callB (call_isE R.exc hz hf) g1 (hb _ (by decide)) boot_isinstance pa (by decide) (by decide) rfl rfl) fun σ H Q ⟨env, h, er, hr', e4, q⟩ => ?_
    obtain ⟨V, e5, r5⟩ := er.2 4 _ e4
    obtain rfl := r5.loc_inv
    exact ⟨_, e5, v, cv, b, rfl, hr, hk, q _ H .refl (.bl b) hr'⟩
  · cases ok
theorem kit_none : ∀ {cs : List Value}, (∀ c ∈ cs, PySem.W.kitOne X.K (.ref C) c = some false) → PySem.W.kitAny X.K (.ref C) cs = some false
  | [], _ => rfl
  | c :: r, h => by
    unfold PySem.W.kitAny
    rw [h c (List.mem_cons_self ..)]
    exact kit_none fun d hd => h d (List.mem_cons_of_mem _ hd)
theorem x_names {cs : List Str} (hc : ∀ x ∈ cs, ∃ A : Addr, X.mg x = some (.ref A) ∧ PySem.W.kitOne X.K (.ref C) (.ref A) = some false) : ∀ {es : List PySem.Expr}, namesB X.env.scope cs es = true →
    ∃ as : List Addr, (∀ A ∈ as, PySem.W.kitOne X.K (.ref C) (.ref A) = some false) ∧ PA (X.suite a pn) es (fun σ H Q => Q (as.map V.ref) H) ∧ as.length = cs.length := by
  induction cs with
  | nil =>
    intro es ok
    cases es with
    | nil => exact ⟨[], (fun _ z => nomatch z), pa_nil, rfl⟩
    | cons e r => simp [namesB] at ok
  | cons c cs ih =>
    intro es ok
    cases es with
    | nil => simp [namesB] at ok
    | cons e r =>
      cases e <;> simp only [namesB] at ok <;> first | (cases ok; done) | skip
      rename_i z p
      simp only [Bool.and_eq_true, decide_eq_true_eq] at ok
      obtain ⟨⟨rfl, g⟩, ok⟩ := ok
      obtain ⟨as, h1, h2, h3⟩ := ih (fun x hx => hc x (List.mem_cons_of_mem _ hx)) ok
      obtain ⟨A, hm, hk⟩ := hc z (List.mem_cons_self ..)
      obtain ⟨g1, g2, _⟩ := glB_gl (env := X.env) rfl g
      refine ⟨A :: as, ?_, pa_cons (pe_glob (X := X.suite a pn) g1 hm (v := .ref A) rfl g2) h2 rfl, by simp [h3]⟩
      intro B hB
      rcases List.mem_cons.mp hB with rfl | hB
      · exact hk
      · exact h1 B hB
theorem vals_refs : ∀ {as : List Addr} {us : List Value}, Vals (as.map V.ref) us → us = as.map Value.ref := refs_at
theorem x_isT {cs : List Str} (hb : ∀ x ∈ bltNames, X.mg x = none) (R : RefK X.K X.mg C) (hz : Zc (.ref C) none oe) (hf : ∃ vs, oe.data = .fields vs) (hv : visB X.N X.env.scope 4 n = true) (ok : isqT X.env.scope n cs i' = true) (hl : cs.length ≤ 100)
    (hc : ∀ x ∈ cs, x ∈ rc1 ++ rc2) : PE (X.suite a ((a, oe) :: pn)) i' (SE X (wIs a false)) := by
  unfold isqT at ok
  split at ok
  · rename_i x p1 y p2 es kk p3 pos
    simp only [Bool.and_eq_true, decide_eq_true_eq] at ok
    obtain ⟨⟨⟨rfl, rfl⟩, g⟩, ok⟩ := ok
    obtain ⟨g1, _, _⟩ := glB_gl (env := X.env) rfl g
    obtain ⟨as, h1, h2, h3⟩ := x_names (a := a) (pn := (a, oe) :: pn) (fun x hx => R.no x (hc x hx)) ok
    have pa : PA (X.suite a ((a, oe) :: pn)) [.Name y p2, .Tuple es kk p3] (tCons (tVar 4) (tCons (tTup fun σ H Q => Q (as.map V.ref) H) tNil)) := pa_cons (x_var hv) (pa_cons (pe_tup h2) pa_nil rfl) rfl
    refine PE.imp (pe_callB (call_isT R.exc hz hf) g1 (hb _ (by decide)) boot_isinstance pa (by decide) (by decide) rfl rfl) fun σ H Q ⟨env, h, er, hr', e4, q⟩ => ?_
    obtain ⟨V, e5, r5⟩ := er.2 4 _ e4
    obtain rfl := r5.loc_inv
    refine ⟨_, e5, by rw [List.length_map, h3, sizeLine_eq]; omega, fun p hp => ⟨p, as.map L2.V.ref, as.map Value.ref, false, rfl, upd_same, fun us r => refs_at r, kit_none fun d hd => ?_, ?_⟩⟩
    · obtain ⟨A, hA, rfl⟩ := List.mem_map.mp hd
      exact h1 A hA
    · exact q _ _ (.new hp) (.bl false) (hr'.newP hp)
  · cases ok
theorem x_asg {m1 : Str} {p1 q1 pos : Pos} {i1 i2 : PySem.Expr} {b1 b2 : Bool} (hG : GMono G) (nd : X.N.Nodup) (cel : ∀ x, X.env.scope.names.lookup x = some .cell → X.fn x = true) (hm : locB X.N X.env.scope 3 m1 = true) (n1 : noStar i1 = true) (n2 : noStar i2 = true) (h1 : PE (X.suite a pn) i1 (SE X (wIs a b1))) (h2 : PE (X.suite a pn) i2 (SE X (wIs a b2))) :
    PS (X.suite a pn) (.Assign [.Name m1 p1] (.List [i1, i2] q1) pos) (fun D σ H => ∃ env h, EnvRep X.K H σ env ∧ HRep X.K h H ∧ env[4]? = some (some (.loc a)) ∧ ∀ p, h p = none → upN X.K H D.nx (env.set 3 (some (.loc p))) (h.put p (.lst [.bl b1, .bl b2]))) := by
  obtain ⟨l1, l2⟩ := locB_loc hm
  have st : swappedStores [.Name m1 p1] (.List [i1, i2] q1) X.env = pure none := st_none (env := X.env) rfl (.inr (.inl ⟨_, _, rfl⟩))
  have lc : X.fn m1 = true ∨ X.env.scope.names.lookup m1 = some .local := by
    rcases l2 with z | z
    · exact .inr z
    · exact .inl (cel _ z)
  refine PS.imp (ps_asg (X := X.suite a pn) (pe_lst (pa_cons h1 (pa_cons h2 pa_nil (star_cons n2 [] X.env)) (star_cons n1 _ X.env))) (pg_name nd l1 l2 lc) (sw_plain (e := .List [i1, i2] q1) rfl (some (.Name m1 p1)) pos.line X.env) st rfl) fun D σ H ⟨env, h, er, hr, e4, q⟩ => ?_
  refine ⟨env, h, er, hr, e4, fun V1 H1 p1 r1 hr1 => ⟨env, h, er.keep p1, hr1, e4, fun V2 H2 p2 r2 hr2 => ⟨by rw [sizeLine_eq]; show 2 ≤ _; omega, fun p hp => ?_⟩⟩⟩
  exact q p (hr2.fresh hp) _ _ ((p1.trans p2).trans (.new hp)) (((er.keep (p1.trans p2)).keep (.new hp)).set 3 (.loc p)) (hr2.new hp (.lst (.cons ((r1.keep p2)) (.cons r2 .nil))))
theorem x_app {m2 : Str} {p1 ap cp pos : Pos} {j1 : PySem.Expr} {b : Bool} (hG : GMono G) (hm : visB X.N X.env.scope 3 m2 = true) (hl : (ap.endLine == cp.line) = true) (n1 : noStar j1 = true) (h1 : PE (X.suite a pn) j1 (SE X (wIs a b))) :
    PS (X.suite a pn) (.Expr (.Call (.Attribute (.Name m2 p1) "append" ap) [j1] [] cp) pos) (fun D σ H => ∃ env h p xs, EnvRep X.K H σ env ∧ HRep X.K h H ∧ env[4]? = some (some (.loc a)) ∧ env[3]? = some (some (.loc p)) ∧ h p = some (.lst xs) ∧ xs.length < 100 ∧
      upN X.K H D.nx env (h.put p (.lst (xs ++ [.bl b])))) := by
  have se : starEach [j1] X.env = (false, eval j1 X.env) :: starEach [] X.env := star_cons n1 [] X.env
  have c1 : (((backTo cp (starEach [j1] X.env)).all (fun x => !x.1)) && (backToKw cp (keywordEach [] X.env)).all (fun x => x.1.isSome) && decide (([j1].length + ([] : List Keyword).length + if ([] : List Keyword).isEmpty = true then 0 else 1) < 30)) = true := by rw [se]; rfl
  have pv : PE (X.suite a pn) (.Name m2 p1) (tVar 3) := by
    unfold visB at hm
    simp only [Bool.and_eq_true, decide_eq_true_eq] at hm
    obtain ⟨⟨⟨h1, h2⟩, h3⟩, h4⟩ := hm
    have hv : Vis X.env.scope m2 := by
      unfold Vis
      split at h2
      · exact .inl (by assumption)
      · exact .inr (.inl (by assumption))
      · exact .inr (.inr (by assumption))
      · cases h2
    exact pe_var (X := X.suite a pn) h1 hv (by simpa using h3) (by simpa using h4)
  refine PS.imp (ps_expr (pe_bm (X := X.suite a pn) PySem.F.plainAttrs_list PySem.F.slot_list_append PySem.F.type_list_append mt_appendW pv (pa_cons h1 pa_nil se) rfl c1 hl se rfl) (sw_plain rfl _ _ _)) fun D σ H ⟨env, h, p, xs, er, hr, e4, e3, hp, lx, q⟩ => ?_
  obtain ⟨V, e5, r5⟩ := er.2 3 _ e3
  obtain rfl := r5.loc_inv
  obtain ⟨vs, hv, rs⟩ := lst_at hr hp
  refine ⟨_, e5, .inl ⟨rfl, vs, .of hv⟩, env, h, er, hr, e4, fun V1 H1 p1 r1 hr1 => ?_⟩
  refine ⟨.loc p, [.bl b], h, .loc p, .cons r1 .nil, hr1, xs, hp, by rw [sizeLine_eq]; omega, fun W H2 p2 _ hr2 => ?_⟩
  exact q σ H2 (p1.trans p2) (er.keep (p1.trans p2)) hr2
theorem pe_plain {i' : PySem.Expr} (h : (∃ c, isq1 X.env.scope n c i' = true) ∨ ∃ cs, isqT X.env.scope n cs i' = true) : noStar i' = true := by
  rcases h with ⟨c, h⟩ | ⟨c, h⟩
  · unfold isq1 at h; split at h <;> first | rfl | cases h
  · unfold isqT at h; split at h <;> first | rfl | cases h
theorem x_suite {st : List Stmt} (hb : ∀ x ∈ bltNames, X.mg x = none) (R : RefK X.K X.mg C) (hG : GMono G) (nd : X.N.Nodup) (cel : ∀ x, X.env.scope.names.lookup x = some .cell → X.fn x = true) (hz : Zc (.ref C) none oe) (hf : ∃ vs, oe.data = .fields vs) (hv : visB X.N X.env.scope 4 n = true) (ok : okSuite X.N X.env.scope n st = true) :
    PSs (X.suite a ((a, oe) :: pn)) st (fun D σ H => ∃ env h, EnvRep X.K H σ env ∧ HRep X.K h H ∧ env[4]? = some (some (.loc a)) ∧ 4 < env.length ∧ ∀ p, h p = none → upN X.K H D.nx (env.set 3 (some (.loc p))) (h.put p (.lst [.bl true, .bl true, .bl false, .bl false]))) := by
  unfold okSuite at ok
  split at ok
  · rename_i m1 p1 i1 i2 q1 ps1 m2 p2 at2 ap2 j1 cp2 ps2 m3 p3 at3 ap3 j2 cp3 ps3
    simp only [Bool.and_eq_true, decide_eq_true_eq] at ok
    obtain ⟨⟨⟨⟨l1, l2⟩, l3⟩, ⟨⟨⟨rfl, rfl⟩, e2⟩, e3⟩⟩, ⟨⟨⟨k1, k2⟩, k3⟩, k4⟩⟩ := ok
    have a1 := x_is1 (a := a) (oe := oe) (pn := pn) (v := .ref C) (cv := .ref C) hb R hz hf hv k1 (fun p g => by obtain ⟨g1, g2, _⟩ := glB_gl (env := X.env) rfl g; exact pe_glob (X := X.suite a ((a, oe) :: pn)) g1 R.c rfl g2) (fun u r => r) R.me
    have a2 := x_is1 (a := a) (oe := oe) (pn := pn) (v := .ty "ValueError") (cv := .type "ValueError") hb R hz hf hv k2 (fun p g => by obtain ⟨g1, g2, g3⟩ := glB_gl (env := X.env) rfl g; exact pe_bltn (X := X.suite a ((a, oe) :: pn)) g1 R.ve.1 (by decide +kernel) rfl g3 g2) (fun u r => r) R.ve.2
    have a3 := x_isT (a := a) (oe := oe) (pn := pn) hb R hz hf hv k3 (by decide) (fun x hx => List.mem_append.mpr (.inl hx))
    have a4 := x_isT (a := a) (oe := oe) (pn := pn) hb R hz hf hv k4 (by decide) (fun x hx => List.mem_append.mpr (.inr hx))
    refine PSs.imp (pss_cons (x_asg hG nd cel l1 (pe_plain (.inl ⟨_, k1⟩)) (pe_plain (.inl ⟨_, k2⟩)) a1 a2) (pss_cons (x_app hG l2 e2 (pe_plain (.inr ⟨_, k3⟩)) a3) (pss_one (x_app hG l3 e3 (pe_plain (.inr ⟨_, k4⟩)) a4)))) fun D σ H ⟨env, h, er, hr, e4, hl, q⟩ => ?_
    refine ⟨env, h, er, hr, e4, fun p hp σ1 H1 p1 er1 hr1 => ?_⟩
    have s4 : (env.set 3 (some (.loc p)))[4]? = some (some (.loc a)) := by rw [List.getElem?_set_ne (by decide)]; exact e4
    have s3 : (env.set 3 (some (.loc p)))[3]? = some (some (.loc p)) := List.getElem?_set_self (by omega)
    refine ⟨_, _, p, _, er1, hr1, s4, s3, if_pos rfl, by decide, fun σ2 H2 p2 er2 hr2 => ?_⟩
    refine ⟨_, _, p, _, er2, hr2, s4, s3, if_pos rfl, by decide, fun σ3 H3 p3 er3 hr3 => ?_⟩
    refine q p hp σ3 H3 ((p1.trans p2).trans p3) er3 ?_
    have e : ((h.put p (.lst [.bl true, .bl true])).put p (.lst ([.bl true, .bl true] ++ [.bl false]))).put p (.lst ([.bl true, .bl true] ++ [.bl false] ++ [.bl false])) = h.put p (.lst [.bl true, .bl true, .bl false, .bl false]) := by
      funext b; unfold MH.put; split <;> rfl
    rw [← e]; exact hr3
  · cases ok
theorem GoodS.tr {pn : List (Addr × Obj)} {xe : Value → Shared → Prop} {Ex' : XP} (gd : GoodS X k G fs Ex) (tk : Takes (X.tr pn xe) (LW X Ex')) (ps : PassesOwn (model X.prog X.w) X.A X.env xe) : GoodS (X.tr pn xe) k G fs Ex' :=
  { calm := gd.calm, nd := gd.nd, tk := tk, room := gd.room, gd := gd.gd, blt := gd.blt, fn := fun f hf hn => ⟨(gd.fn f hf hn).ex⟩, cst := gd.cst, exc := gd.exc, mono := gd.mono, only := gd.only, fnk := gd.fnk, cel := gd.cel, pass := ps }
theorem ref_ret {D0 : En} {p : Addr} {f a b : Option PV} {w : Option PV} {h : MH} {ms : List Bool} (hp : h p = some (.lst (ms.map .bl))) (q : D0.rt (.bl (decide (ms = [true, true, false, false]))) h) :
    wpS G Ex (.ret (.cmp .Eq (.var 3) (.lst false marksE))) [f, a, b, some (.loc p), w] h D0 := by
  simp only [wpS, wpE, wpEs, marksE]
  refine ⟨_, rfl, ?_⟩
  show _ ∧ _
  refine ⟨by rw [sizeLine_eq]; decide, ?_⟩
  show cmpW .Eq (.loc p) (.lst [.bl true, .bl true, .bl false, .bl false]) h (fun k h3 => D0.rt (.bl k) h3)
  unfold cmpW
  show eqW (rd h (.loc p)) (.lst [.bl true, .bl true, .bl false, .bl false]) h (fun k h3 => D0.rt (.bl k) h3)
  have e : rd h (.loc p) = .lst (ms.map .bl) := by simp only [rd, hp]
  rw [e]
  have sh : ∀ l : List Bool, eqOk (.lst (l.map .bl)) := fun l => by
    have pu : purs (l.map PV.bl) = true := by induction l with
      | nil => rfl
      | cons b r ih => simp [purs, pur, ih]
    have c : PyData.canLayAll0 (toDs (l.map PV.bl)) = true ∧ PyData.depthAll (toDs (l.map PV.bl)) = 0 := by
      induction l with
      | nil => exact ⟨rfl, rfl⟩
      | cons n r ih => simp [toDs, toD, PyData.canLayAll0, PyData.canLay0, PyData.depthAll, PyData.depth, ih (by simpa [purs, pur] using pu)]
    refine ⟨pu, ?_⟩
    unfold SeqAt.shaped
    simp only [toD, PyData.canLay0, PyData.depth, c.1, c.2]
    decide
  have ev : ∀ l m : List Bool, PyData.eqvAll (toDs (l.map PV.bl)) (toDs (m.map PV.bl)) = decide (l = m) := fun l => by
    induction l with
    | nil => intro m; cases m <;> rfl
    | cons x r ih =>
      intro m
      cases m with
      | nil => rfl
      | cons y t =>
        simp only [List.map_cons, toDs, toD, PyData.eqvAll, PyData.eqv, ih t]
        rw [Bool.eq_iff_iff]; simp
  refine ⟨⟨sh ms, sh [true, true, false, false]⟩, ?_⟩
  have ee : eqP (.lst (ms.map .bl)) (.lst ([true, true, false, false].map .bl)) = decide (ms = [true, true, false, false]) := by
    simp only [eqP, toD, PyData.eqv]
    exact ev _ _
  show D0.rt (.bl (eqP (.lst (ms.map .bl)) (.lst ([true, true, false, false].map .bl)))) h
  rw [ee]; exact q
theorem ref_run {st : List Stmt} (gd : GoodS X k G fs Ex) (R : RefK X.K X.mg C) (hs : X.stack = X.env :: X.outer) (hf : X.env.frame = some X.env.locals) (ok : okRef X.N fs X.env.scope st = true) :
    PSs X st (fun D σ H => X.H_0 = H ∧ SS X (wpSs G Ex (.cons .tryR .nil)) D σ H) := by
  unfold okRef at ok
  split at ok
  · rename_i s1 b1 x xp n suite hp tp s3
    simp only [Bool.and_eq_true, decide_eq_true_eq, beq_iff_eq] at ok
    obtain ⟨⟨⟨k1, k2⟩, k3⟩, ⟨⟨⟨⟨⟨rfl, gx⟩, hn⟩, hl⟩, hv⟩, ks⟩⟩ := ok
    obtain ⟨b0, rest, rfl⟩ : ∃ b0 rest, suite = b0 :: rest := by
      cases suite with
      | nil => simp [okSuite] at ks
      | cons a b => exact ⟨a, b, rfl⟩
    obtain ⟨F, hF, exm⟩ := R.fe
    obtain ⟨g1, g2, g3⟩ := glB_gl (env := X.env) rfl gx
    let ts : Addr → Value → Option Addr → TS := fun a cls d D σ H => (cls = .ref C ∧ d = none) ∧ (Pres X.H_0 H → ∃ env h, EnvRep X.K H σ env ∧ HRep X.K h H ∧ env[4]? = some (some (.loc a)) ∧ 4 < env.length ∧
      ∀ p, h p = none → upN X.K H D.nx (env.set 3 (some (.loc p))) (h.put p (.lst [.bl true, .bl true, .bl false, .bl false])))
    let tb : WX → TS := fun W D σ H => ∃ Ex' : XP, (∀ cls d σ H, LW X Ex' cls d σ H → W cls d σ H) ∧ SS X (wpSs G Ex' (.cons (.ex (.callv 0 (.cons (.var 1) (.cons (.var 2) .nil)))) .nil)) D σ H
    have S1 := ps_ok (.asg (.name 3) (.lst true .nil)) gd k1
    have S3 := ps_ok (.ret (.cmp .Eq (.var 3) (.lst false marksE))) gd k3
    have S2 := ps_try_as (pos := tp) (pos' := hp) (np := xp) (body := [b1]) (b₀ := b0) (suite := rest) hs hf gd.nd hn hl ⟨g1, g2, .inl hF⟩ gd.tk (tb := tb) (ts := ts)
      (fun W pn xe tk ps => ⟨fun pins s σ H D I ⟨Ex', le, q⟩ => (pss_ok (.cons (.ex (.callv 0 (.cons (.var 1) (.cons (.var 2) .nil)))) .nil) (gd.tr (tk.imp le) ps) (by simp only [okSs, Bool.and_true]; exact k2)).run pins s σ H D I q⟩)
      (fun a oe cls d pn hz hf' => ⟨fun pins s σ H D I ⟨⟨e1, e2⟩, q⟩ => by
        subst e1 e2
        exact (x_suite gd.blt R gd.mono gd.nd gd.cel hz hf' hv ks).run pins s σ H D I (q ⟨I.base.tups, I.base.frzs⟩)⟩)
    refine PSs.imp (pss_cons S1 (pss_cons S2 (pss_one S3))) fun D σ H ⟨h0, env, h, er, hr, q⟩ => ?_
    simp only [wpSs, wpS] at q
    obtain ⟨f, a, b, rfl, q⟩ := q
    refine ⟨_, h, er, hr, ?_⟩
    simp only [wpS, wpE, wpEs]
    show _ ∧ _
    refine ⟨Nat.zero_le _, fun p hp σ1 H1 p1 er1 hr1 => ?_⟩
    refine ⟨fun e env' h' => e.cls = "NoWorth" ∧ e.arg = none ∧ env' = [some (.fn f), some a, some b, some (.loc p), none] ∧ (upD X.K H D).rt (.bl true) h', ?_, [some (.fn f), some a, some b, some (.loc p), none], h.put p (.lst []), er1, hr1, ?_⟩
    · rintro cls d σ' H' ⟨e, env', h', ⟨m, da⟩, er', hr', c1, c2, rfl, q⟩
      rw [c1, R.c] at m
      cases m
      rw [c2] at da
      cases (show d = none from da)
      refine ⟨true, exm, fun _ a' ha => ⟨⟨rfl, rfl⟩, fun p0 => ⟨_, h', er'.set 4 (.loc a'), hr', rfl, Nat.lt_succ_self 4, fun p3 hp3 σ3 H3 p3' er3 hr3 => ?_⟩⟩, fun z => nomatch z⟩
      refine ⟨_, _, er3.setNone 4, hr3, ref_ret (ms := [true, true, false, false]) (if_pos rfl) ?_⟩
      intro V H4 p4 r4 hr4
      refine q V H4 (h0 ▸ (p0.trans (p3'.trans p4))) r4 fun b c e => hr4 b c ?_
      have ne : b ≠ p3 := fun z => by subst z; rw [hp3] at e; cases e
      exact (if_neg ne).trans e
    · simp only [wpSs, wpS, wpE, wpEs]
      refine ⟨f, rfl, a, rfl, b, rfl, gd.mono _ _ _ _ _ _ _ (fun v h' z => ?_) (fun e h2 z => ⟨z.1, z.2.1, trivial, z.2.2⟩) (q p hp)⟩
      obtain ⟨z, q⟩ := z
      intro σ2 H2 p2 er2 hr2
      exact ⟨_, h', er2, hr2, ref_ret (ms := []) z (up.tr (p1.trans p2) q)⟩
  · cases ok
end
end MP
set_option Elab.async false
set_option linter.all false
set_option maxRecDepth 100000
set_option maxHeartbeats 1000000
namespace MP
open PySem PySem.Spec PyProof.Rows L2
mutual
inductive Fzv (h : MH) (S : Addr → Prop) : PV → PV → Prop
  | same (v : PV) : Fzv h S v v
  | tup {xs ys : List PV} : Fzvs h S xs ys → Fzv h S (.tup xs) (.tup ys)
  | lst {xs ys : List PV} : Fzvs h S xs ys → Fzv h S (.lst xs) (.lst ys)
  | dct {ks xs ys : List PV} : Fzvs h S xs ys → Fzv h S (.dct ks xs) (.dct ks ys)
  | frz {a : Addr} {xs ys : List PV} : S a → h a = some (.lst xs) → Fzvs h S xs ys → Fzv h S (.loc a) (.lst ys)
inductive Fzvs (h : MH) (S : Addr → Prop) : List PV → List PV → Prop
  | nil : Fzvs h S [] []
  | cons {x y : PV} {xs ys : List PV} : Fzv h S x y → Fzvs h S xs ys → Fzvs h S (x :: xs) (y :: ys)
end
inductive Fzc (h : MH) (S : Addr → Prop) : Cell → Cell → Prop
  | same (c : Cell) : Fzc h S c c
  | lst {xs ys : List PV} : Fzvs h S xs ys → Fzc h S (.lst xs) (.lst ys)
def FzH (h : MH) (S : Addr → Prop) (h2 : MH) : Prop := ∀ a c, h2 a = some c → ¬ S a ∧ ∃ c', h a = some c' ∧ Fzc h S c' c
def retW (Q : Post) : Post := fun v h => ∃ (S : Addr → Prop) (v2 : PV) (h2 : MH), (∀ a, S a → ∃ xs, h a = some (.lst xs)) ∧ Fzv h S v v2 ∧ FzH h S h2 ∧ Q v2 h2
theorem retW_mono {Q Q' : Post} (w : ∀ v h, Q v h → Q' v h) {v : PV} {h : MH} (q : retW Q v h) : retW Q' v h := by
  obtain ⟨S, v2, h2, a, b, c, d⟩ := q
  exact ⟨S, v2, h2, a, b, c, w _ _ d⟩
def HLe (h2 h : MH) : Prop := ∀ a c, h2 a = some c → h a = some c
def retX (E : XQ) : XQ := fun e h => ∃ h2, HLe h2 h ∧ E e h2
section
variable {K : KF} {H H' : Hp} {h : MH} {S : Addr → Prop}
mutual
theorem Fzv.rep (p : Pres H H') (hr : HRep K h H) (f : FzS S H H') : ∀ {x y : PV} {v : V}, Fzv h S x y → Rep K H v x → Rep K H' v y
  | _, _, _, .same v, r => r.keep p
  | _, _, _, .tup z, r => by
    obtain ⟨a, vs, rfl, sq, rs⟩ := r.tup_invS
    exact .tup (p.tup _ _ sq) (Fzvs.reps p hr f z rs)
  | _, _, _, .lst z, r => by
    obtain ⟨a, vs, rfl, sq, rs⟩ := r.lst_inv
    exact .lst (p.fzL sq) (Fzvs.reps p hr f z rs)
  | _, _, _, .dct z, r => by
    cases r with
    | dctK a b c => exact .dctK (p.frz _ _ _ a) b (Fzvs.reps p hr f z c)
    | dctT a b c => exact .dctT (p.frz _ _ _ a) b (Fzvs.reps p hr f z c)
  | _, _, _, .frz hs e z, r => by
    obtain rfl := r.loc_inv
    obtain ⟨vs, h1, rs⟩ := lst_at hr e
    obtain ⟨u, o, e1, e2⟩ := f.at_ _ hs
    rw [h1] at e1
    cases e1
    exact .lst (.inl ⟨o, e2⟩) (Fzvs.reps p hr f z rs)
theorem Fzvs.reps (p : Pres H H') (hr : HRep K h H) (f : FzS S H H') : ∀ {xs ys : List PV} {vs : List V}, Fzvs h S xs ys → Reps K H vs xs → Reps K H' vs ys
  | _, _, _, .nil, .nil => .nil
  | _, _, _, .cons a b, .cons r t => .cons (Fzv.rep p hr f a r) (Fzvs.reps p hr f b t)
end
theorem up_ret {H0 : Hp} {Q : VK} {v : PV} {V : V} (q : retW (up K H0 Q) v h) (p0 : Pres H0 H) (r : Rep K H V v) (hr : HRep K h H) : Laid Q V H := by
  obtain ⟨S, v2, h2, ok, fv, fh, q⟩ := q
  have ok' : ∀ a, S a → ∃ u, H a = some u ∧ Fz1 u := fun a hs => by
    obtain ⟨xs, e⟩ := ok a hs
    obtain ⟨vs, h1, _⟩ := lst_at hr e
    exact ⟨_, h1, True.intro⟩
  refine ⟨S, ok', fun H' f => ?_⟩
  have p : Pres H H' := f.pres ok'
  refine q V H' (p0.trans p) (fv.rep p hr f r) fun a c e => ?_
  obtain ⟨ns, c', e1, fc⟩ := fh a c e
  obtain ⟨o, h1, cr⟩ := hr a c' e1
  refine ⟨o, (f.out a ns).trans h1, ?_⟩
  cases fc with
  | same => exact cr.keep p
  | lst z =>
    obtain ⟨vs, rfl, rs⟩ := cr.lst_inv
    exact .lst (z.reps p hr f rs)
end
structure Df where
  N : List Str
  n : Nat
  body : Ss
def startE (d : Df) (xs : List PV) : Env := xs.map some ++ List.replicate (d.N.length - xs.length) none
def callW (tab : Str → Option Df) : Nat → Calls
  | 0 => fun _ _ _ _ _ => False
  | k + 1 => fun f xs h Q E => ∃ d E0, tab f = some d ∧ xs.length = d.n ∧ (∀ e h, E0 e h → E e h) ∧ wpSs (callW tab k) (fun e _ h' => retX E0 e h') d.body (startE d xs) h { nx := fun _ h' => retW Q .non h', rt := retW Q }
theorem callW_mono (tab : Str → Option Df) : ∀ k, GMono (callW tab k)
  | 0 => fun _ _ _ _ _ _ _ _ _ q => q
  | k + 1 => fun f vs h Q Q' E E' w we ⟨d, E0, a, b, c, q⟩ => by
    have le : EnLe { nx := fun _ h' => retW Q .non h', rt := retW Q } { nx := fun _ h' => retW Q' .non h', rt := retW Q' } := ⟨fun _ _ => retW_mono w, fun _ _ => retW_mono w, fun _ _ q => q, fun _ _ q => q⟩
    exact ⟨d, E0, a, b, fun e h z => we e h (c e h z), wpSs_mono (callW_mono tab k) le q⟩
structure DefOk (K : KF) (mg : Str → Option Value) (fs : List Str) (f : Str) (d : Df) : Prop where
  ex : ∃ (a : Addr) (qual : Str) (params : Arguments) (body : List Stmt) (scope : Scope) (dV kV doc pm cdv ct oc : Value) (an od : Option Addr) (osl : Array (Option Value)),
    mg f = some (.ref a) ∧ PySem.W.nsIn K mainGlobals f = some (some (.ref a)) ∧ PySem.W.keepIn K (.ref a) = true ∧ K.lookup a = some ⟨oc, od, .func (PySem.W.fnOf f qual params body scope dV kV doc pm an cdv ct), osl⟩ ∧ PySem.W.codeIn K cdv qual = true ∧
    FnScope d.N (d.N.take d.n) scope ∧ d.n ≤ d.N.length ∧ Binds K (PySem.W.fnOf f qual params body scope dV kV doc pm an cdv ct) (d.N.take d.n) [] ∧ (okSs d.N fs scope d.body body = true ∨ ∃ C, d.body = .cons .tryR .nil ∧ RefK K mg C ∧ okRef d.N fs scope body = true)
structure Prog (K : KF) (mg : Str → Option Value) (tab : Str → Option Df) (fs : List Str) : Prop where
  blt : ∀ x ∈ bltNames, mg x = none
  defs : ∀ f ∈ fs, gcst f = none → ∃ d, tab f = some d ∧ DefOk K mg fs f d
  only : ∀ f d, tab f = some d → f ∈ fs ∧ gcst f = none
  cst : ∀ f ∈ fs, ∀ v, gcst f = some v → isExc f = false → CstK K mg f v
  exc : ∀ c ∈ fs, isExc c = true → ExcOk K mg c
theorem envRep_start {K : KF} {H : Hp} {d : Df} {vs : List V} {xs : List PV} (rs : Reps K H vs xs) : EnvRep K H (L2.start d.N vs) (startE d xs) := by
  have l := rs.length
  refine ⟨by simp [L2.start, startE, l], fun i v e => ?_⟩
  unfold startE at e
  unfold L2.start
  by_cases hi : i < xs.length
  · rw [List.getElem?_append_left (by simpa using hi), List.getElem?_map] at e
    cases q : xs[i]? with
    | none => rw [q] at e; cases e
    | some x =>
      rw [q] at e; cases e
      obtain ⟨V, e1, r⟩ := rs.get q
      refine ⟨V, ?_, r⟩
      rw [List.getElem?_append_left (by simpa [l] using hi), List.getElem?_map, e1]
      rfl
  · rw [List.getElem?_append_right (by simpa using hi), List.getElem?_replicate] at e
    split at e <;> cases e
theorem pss_laidR {X : Cx} {st : List Stmt} {t : TS} (h : PSs X st t) : PSs X st (fun D σ H => t { D with nx := LaidS D.nx, rt := Laid D.rt } σ H) := ⟨fun pins s σ H D I hw =>
  thn (h.run pins s σ H _ I hw) fun f s1 q => by
    cases f with
    | next =>
      obtain ⟨σ', H', I1, S, ok, q⟩ := q
      obtain ⟨H2, f, I2⟩ := fz_inv I1 ok
      exact ⟨σ', H2, I2, q H2 f⟩
    | brk => exact q
    | cont => exact q
    | ret v =>
      obtain ⟨x, σ', H', I1, r, S, ok, q⟩ := q
      obtain ⟨H2, f, I2⟩ := fz_inv I1 ok
      exact ⟨x, σ', H2, I2, r, q H2 f⟩⟩
theorem base_pres {X : Cx} {pins : List (Addr × Obj)} {σ : L2.St} {H : Hp} {s : Shared} (I : Inv X pins σ H s) : Pres X.H_0 H := ⟨I.base.tups, I.base.frzs⟩
theorem takes_lw {X : Cx} {E : XK} {E0 : XQ} (tk : Takes X (fun cls d _ H => E cls d H)) (hE : ∀ e h, E0 e h → upX X.mg X.K X.H_0 E e h) : Takes X (LW X (fun e _ h' => retX E0 e h')) := fun u s' ⟨a, B, sI, pins, σ, H, cls, d, e, I, nb, up, sky, na, os, ag, w⟩ => by
  refine tk u s' ⟨a, B, sI, pins, σ, H, cls, d, e, I, nb, up, sky, na, os, ag, ?_⟩
  obtain ⟨ex, env, h, rE, er, hr, h2, le, q⟩ := w
  exact hE ex h2 q cls d H (base_pres I) rE fun a c e => hr a c (le a c e)
theorem fnG_of {P : Program} {w : World} {K : KF} {mg : Str → Option Value} {base : Heap} {tab : Str → Option Df} {fs : List Str} (pg : Prog K mg tab fs) :
    ∀ (k : Nat) (f : Str), f ∈ fs → gcst f = none → ∃ (a : Addr) (fd : FuncData) (ps : List Str), mg f = some (.ref a) ∧ PySem.W.nsIn K mainGlobals f = some (some (.ref a)) ∧ PySem.W.keepIn K (.ref a) = true ∧ Binds K fd ps [] ∧ FnG P w K mg base k a fd ps (spG K mg (callW tab k) f)
  | 0, f, hf, hn => by
    obtain ⟨d, hd, ⟨a, qual, params, body, scope, dV, kV, doc, pm, cdv, ct, oc, an, od, osl, h1, hns, h2, h3, h4, h5, h6, h7, h8⟩⟩ := pg.defs f hf hn
    exact ⟨a, _, _, h1, hns, h2, h7, ⟨fun vs H Q E ⟨_, _, _, _, q⟩ => q.elim, fun A outer s H args us vs Q E hr hg e0 hb r ⟨_, _, _, _, q⟩ => q.elim⟩⟩
  | k + 1, f, hf, hn => by
    have ih := fnG_of (P := P) (w := w) (base := base) pg k
    obtain ⟨d, hd, ⟨a, qual, params, body, scope, dV, kV, doc, pm, cdv, ct, oc, an, od, osl, h1, hns, h2, lk, hcd, S, h6, h7, h8⟩⟩ := pg.defs f hf hn
    refine ⟨a, _, _, h1, hns, h2, h7, ⟨fun vs H Q E ⟨xs, h, rs, hr, d', E0, e1, e2, _, _⟩ => ?_, fun A outer s H args us vs Q E hr hg e0 hb r hsp => ?_⟩⟩
    · rw [hd] at e1; cases e1
      rw [rs.length, e2, List.length_take]; omega
    · obtain ⟨xs, h, rs, hh, d', E0, e1, e2, hE, q⟩ := hsp
      rw [hd] at e1; cases e1
      have hl : vs.length = (d.N.take d.n).length := by rw [rs.length, e2, List.length_take]; omega
      have KX : K.In s.heap := e0.mod.kin.keeps fun b o e => (e0.bs b o e).1
      have lim : s.heap.NoLimit := e0.mod.nolimit.keeps fun b o e => (e0.bs b o e).1
      have hkind : ∀ y ∈ (d.N.take d.n).zip us, scope.names.lookup y.1 = some .local ∨ (scope.names.lookup y.1 = some .cell ∧ ((cellsFrom (s.heap.objs.size + 1) scope.names []).lookup y.1).isSome = true) := fun ⟨n, v⟩ hy =>
        (S.par n (List.of_mem_zip hy).1).imp id fun q => ⟨q, PySem.W.cellsFrom_some _ _ _ (.inl q)⟩
      refine codeAny_call_function hr.depth (KX _ _ lk) rfl S.co S.gen rfl (PySem.W.codeRec_of KX hcd) (hb _ _ _ _ ?_)
      refine wpAny_newFunctionEnv_cells S.kind hkind fun env he s1 x => ?_
      subst he
      refine ⟨lim.keeps x.toInCall.keep, codeAny_func ?_⟩
      generalize hX : cxOf (L2.CX P w) P w K mg base d.N qual scope a cdv A outer s H E = X
      have I : Inv (cxOf (L2.CX P w) P w K mg base d.N qual scope a cdv A outer s H E) [] (L2.start d.N vs) H s1 := inv_start S hr.hd e0 hl r x
      have gd : GoodS (cxOf (L2.CX P w) P w K mg base d.N qual scope a cdv A outer s H E) k (callW tab k) fs (fun e _ h' => retX E0 e h') :=
        { calm := rfl
          nd := S.nd
          tk := takes_lw (takes_of (E := E) rfl rfl rfl rfl) hE
          room := hr.deeper _
          gd := hg
          blt := pg.blt
          fn := fun g hg hn => ⟨ih g hg hn⟩
          cst := pg.cst
          exc := pg.exc
          mono := callW_mono tab k
          only := fun f xs h Q E q => by
            cases k with
            | zero => exact q.elim
            | succ k => obtain ⟨d, _, e, _⟩ := q; exact pg.only f d e
          fnk := S.kind
          cel := fun _ _ => rfl
          pass := passes_of rfl }
      have body0 : PSs (cxOf (L2.CX P w) P w K mg base d.N qual scope a cdv A outer s H E) body (fun D σ H' => H = H' ∧ SS (cxOf (L2.CX P w) P w K mg base d.N qual scope a cdv A outer s H E) (wpSs (callW tab k) (fun e _ h' => retX E0 e h') d.body) D σ H') := by
        rcases h8 with h8 | ⟨C, eb, R, h8⟩
        · exact PSs.imp (pss_ok d.body gd h8) fun D σ H' q => q.2
        · rw [eb]
          exact ref_run gd R rfl rfl h8
      have body := pss_laidR body0
      refine wpAny_mono (body.run [] s1 (L2.start d.N vs) H { nx := fun _ H' => Q .non H', rt := Q } I ?_) (fun fl s' hs => ?_) fun e s' hs => hs
      · have le : EnLe { nx := fun _ h' => retW (up K H Q) .non h', rt := retW (up K H Q) } (upD K H { nx := LaidS fun _ H' => Q .non H', rt := Laid Q }) :=
          ⟨fun env' h' q σ' H' p' er' hr' => up_ret q p' .non hr', fun v h' q V H' p' r' hr' => up_ret q p' r' hr', fun _ _ z => z.elim, fun _ _ z => z.elim⟩
        exact ⟨rfl, startE d xs, h, envRep_start rs, hh, wpSs_mono (callW_mono tab k) le q⟩
      · cases fl with
        | ret u =>
          obtain ⟨v, σ', H', J, rv, q⟩ := hs
          exact ⟨v, H', J.os, J.bare, J.base, J.hok, rv, q⟩
        | next =>
          obtain ⟨σ', H', J, q⟩ := hs
          exact ⟨V.non, H', J.os, J.bare, J.base, J.hok, rfl, q⟩
        | brk => exact hs.elim fun _ z => z.elim fun _ z => z.2.elim
        | cont => exact hs.elim fun _ z => z.elim fun _ z => z.2.elim
end MP
set_option Elab.async false
set_option linter.all false
set_option maxRecDepth 100000
set_option maxHeartbeats 1000000
namespace MP
open PySem PySem.Spec PyProof.Rows L2
theorem room_entry : Room 230 callerA := ⟨rfl, by decide, by decide⟩
structure Ent (K : KF) (H : Hp) (a : Addr) (vs : List V) : Prop where
  fz : FzL K H a vs
  only : Only H
theorem hid_none {b : Addr} {o : Obj} {H : Hp} {h : Heap} (e : h.get? b = some o) (n : H b = none) : (hidT h H).get? b = some o := hidT_get e n
theorem law_callG {P : Program} {w : World} {K : KF} {mg mb : Str → Option Value} {k : Nat} {fa a : Addr} {sp : Sp} {st : Shared} {us : List Value} {ns : List Int}
    (inK : K.In st.heap) (nsG : st.heap.Ns mainGlobals mg) (nsB : st.heap.Ns builtinsNs mb) (isB : ∀ x : Str, x ≠ "__name__" → mb x = bootBuiltins x) (nl : st.heap.NoLimit) (noG : st.gens = #[])
    (obj : st.heap.get? a = some { cls := .type "list", data := .seq us.toArray }) (iv : IntsAre us ns) (small : ns.length ≤ sizeLine) (rm : Room k callerA)
    (F : ∀ base : Heap, K.In base → base.Ns mainGlobals mg → ∃ (fd : FuncData) (ps : List Str), Binds K fd ps [] ∧ FnG P w K mg base k fa fd ps sp)
    (want : ∀ H : Hp, Ent K H a (ns.map V.int) → sp [.ref a] H (fun v _ => v = .bl true) fun _ _ _ => False) :
    codeAny (model P w) callerA (.call (.ref fa) ⟨[.ref a], []⟩) (fun r s' => r = .ok (.ret (.bool true)) ∧ OldK st.heap s'.heap ∧ s'.os = st.os ∧ AllBare s'.gens) st := by
  have rel := vals_ints iv
  have lu := iv.length
  have go : ∀ H : Hp, Ent K H a (ns.map V.int) → HOk P w H st.heap → (∀ b, H b ≠ none → b = a ∧ K.lookup a = none) →
      codeAny (model P w) callerA (.call (.ref fa) ⟨[.ref a], []⟩) (fun r s' => r = .ok (.ret (.bool true)) ∧ OldK st.heap s'.heap ∧ s'.os = st.os ∧ AllBare s'.gens) st := by
    intro H en ok only
    have notDict : ∀ {b : Addr} {o : Obj} {es : Array DictEntry} {ep : Nat}, st.heap.get? b = some o → o.data = .dict es ep → H b = none := by
      intro b o es ep e d
      cases z : H b with
      | none => rfl
      | some u =>
        obtain ⟨rfl, _⟩ := only b (by simp [z])
        rw [obj] at e
        cases e
        cases (show Data.seq us.toArray _ = Data.dict es ep from d)
    have hid : ∀ {b : Addr} {m : Str → Option Value}, st.heap.Ns b m → (hidT st.heap H).Ns b m := by
      rintro b m ⟨o, es, ep, e, d, r⟩
      exact ⟨o, es, ep, hid_none e (notDict e d), d, r⟩
    have inK2 : K.In (hidT st.heap H) := by
      intro b o e
      refine hid_none (inK b o e) ?_
      cases z : H b with
      | none => rfl
      | some u =>
        obtain ⟨rfl, z2⟩ := only b (by simp [z])
        rw [z2] at e
        cases e
    have limit : (hidT st.heap H).NoLimit := by
      obtain ⟨mc, h1, h2⟩ := nl
      exact ⟨mc, hid h1, h2⟩
    have env : Env0 P w K mg (hidT st.heap H) callerA [] st H :=
      { frames := rfl
        mod := ⟨inK2, hid nsG, ⟨mb, hid nsB, isB⟩, limit⟩
        bs := fun b o e => of_hidT e
        bsz := Nat.le_of_eq (hidT_size _ _)
        funs := trivial
        frf := fun b hb => by cases hb
        hok := ok
        bare := .of_eq noG }
    obtain ⟨fd, ps, bs, Fn⟩ := F _ inK2 (hid nsG)
    have ln : ps.length = 1 := (Fn.len _ _ _ _ (want H en)).symm
    have bnd := bs st [.ref a] inK (by rw [ln]; rfl)
    rw [List.append_nil] at bnd
    have run := Fn.run callerA [] st H ⟨[.ref a], []⟩ [.ref a] [.ref a] _ _ rm rfl env bnd (.cons rfl .nil) (want H en)
    refine codeAny_mono run fun r s' h => ?_
    cases r with
    | error e =>
      obtain ⟨_, _, _, _, _, _, _, _, _, _, _, _, z⟩ := h
      exact z.elim
    | ok fl =>
      cases fl with
      | ret u =>
        obtain ⟨v, H', os, bare, un, ok', ru, q⟩ := h
        cases (show v = .bl true from q)
        cases (show u = Value.bool true from ru)
        refine ⟨rfl, OldK.of_keep fun b o e => ?_, os, bare⟩
        cases z : H b with
        | none => exact un.keep b o e z (fun y => by cases y) (fun y => by cases y)
        | some u =>
          rcases en.only b with y | ⟨ob, xs, y⟩
          · rw [z] at y; cases y
          · obtain ⟨e1, _⟩ := ok b _ y
            obtain ⟨e2, _⟩ := ok' b _ (un.frzs b ob _ y)
            rw [e] at e1
            cases e1
            exact e2
      | next => cases h
      | brk => cases h
      | cont => cases h
  cases hk : K.lookup a with
  | some o =>
    have same := inK a o hk
    rw [obj] at same
    cases same
    refine go (fun _ => none) ⟨.inr ⟨us.toArray, _, hk, ?_, ?_⟩, fun _ => .inl rfl⟩ (fun b u z => nomatch z) fun b z => absurd rfl z
    · rw [List.size_toArray, lu]; exact small
    · simpa using rel
  | none =>
    let H : Hp := fun b => if b = a then some (.frz { cls := .type "list", data := .seq us.toArray } (.lst (ns.map V.int))) else none
    have at_a : H a = some (.frz { cls := .type "list", data := .seq us.toArray } (.lst (ns.map V.int))) := if_pos rfl
    have off : ∀ b, b ≠ a → H b = none := fun b z => if_neg z
    refine go H ⟨.inl ⟨_, at_a⟩, fun b => ?_⟩ (fun b u z => ?_) fun b z => ⟨Classical.byContradiction fun y => z (off b y), hk⟩
    · by_cases y : b = a
      · subst y; exact .inr ⟨_, _, at_a⟩
      · exact .inl (off b y)
    · by_cases y : b = a
      · subst y
        rw [at_a] at z
        cases z
        exact ⟨obj, by rw [List.length_map]; exact small, us, _, rel, obj⟩
      · rw [off b y] at z
        cases z
theorem walk_MP {l : PySem.W.OpenLaw} {n : Nat} {q : Program} {loose : List Str} {XP : (Str → Option Value) → Heap → Prop} {YP : World → Heap → Prop} {d : DefRec} {K : Params → KF} {tab : Str → Option Df} {fs : List Str} {k : Nat}
    (hn : l.most = some n) (hn2 : n ≤ sizeLine) (hdf : d.params.defaults = []) (hk : Room k callerA) (hf : d.name ∈ fs) (hfn : gcst d.name = none)
    (hY : ∀ (w : World) (h : Heap), YP w h → (K w.params).In h)
    (hP : ∀ (w : World) (mg : Str → Option Value) (h : Heap), (K w.params).In h → h.Ns mainGlobals mg → Prog (K w.params) mg tab fs)
    (main : ∀ (ns : List Int), ns.length ≤ n → (∀ z ∈ ns, Builtin.Int.intBits z ≤ 1048576) → callW tab k d.name [.lst (ns.map PV.int)] (fun _ => none) (fun v _ => v = .bl true) (fun _ _ => False)) :
    PySem.W.WalkO q loose XP YP l.row.toRowW d [] (fun f vs => PySem.call f vs) := by
  refine Att.attach_callB hn hdf fun w s₀ s₁ mg mb fa o pm cd doc a vs ns G Y ho hd hcd hmg hobj hints hlen hbits hg => ?_
  have KX := hY w _ Y
  refine law_callG (sp := spG (K w.params) mg (callW tab k) d.name) KX G.T.g G.T.b G.T.builtins G.T.nolimit hg hobj hints (Nat.le_trans hlen hn2) hk (fun base hb hns => ?_) fun H en => ?_
  · obtain ⟨a', fd, ps, e, _, _, bs, Fn⟩ := fnG_of (P := l.prog) (w := w) (base := base) (hP w mg _ KX G.T.g) k d.name hf hfn
    rw [hmg] at e
    cases e
    exact ⟨fd, ps, bs, Fn⟩
  · refine ⟨[.lst (ns.map PV.int)], fun _ => none, .cons (.lst en.fz (.of_ints ns)) .nil, (fun a c e => nomatch e), ?_⟩
    exact callW_mono tab k _ _ _ _ _ _ _ (fun v h q V H' _ r _ => by subst q; exact r.bl_inv) (fun e h z => z.elim) (main ns hlen hbits)
end MP
set_option Elab.async false
set_option linter.all false
set_option maxRecDepth 100000
set_option maxHeartbeats 1000000
namespace MP
open PySem PySem.Spec PyProof.Rows L2
def scB (N ps : List Str) (sc : Scope) : Bool :=
  (match sc.kind with | .function => true | _ => false) && !sc.isCoroutine && !sc.isGenerator && decide N.Nodup && decide (N.take ps.length = ps) &&
    (ps.all fun x => match sc.names.lookup x with | some .local => true | some .cell => true | _ => false) && (sc.names.all fun y => match y.2 with | .free => false | _ => true)
def defB (fs : List Str) (d : Df) (st : Stmt) : Bool :=
  scB d.N (d.N.take d.n) (defScope st) && decide (d.n ≤ d.N.length) && okSs d.N fs (defScope st) d.body (defBody st)
theorem scB_ok {N ps : List Str} {sc : Scope} (h : scB N ps sc = true) : FnScope N ps sc := by
  unfold scB at h
  simp only [Bool.and_eq_true, Bool.not_eq_true', decide_eq_true_eq, List.all_eq_true] at h
  obtain ⟨⟨⟨⟨⟨⟨h1, h2⟩, h3⟩, h4⟩, h5⟩, h6⟩, h7⟩ := h
  refine ⟨?_, h2, h3, h4, h5, fun x hx => ?_, fun y hy z => ?_⟩
  · split at h1
    · assumption
    · cases h1
  · have q := h6 x hx
    split at q <;> first | exact .inl (by assumption) | exact .inr (by assumption) | cases q
  · have q := h7 y hy
    rw [z] at q
    cases q
theorem defOk_mk {K : KF} {h : Heap} {mg : Str → Option Value} {fs : List Str} {f : Str} {d : Df} {st : Stmt} {a : Addr} {oc dV kV doc pm cdv ct : Value} {od an : Option Addr} {osl : Array (Option Value)}
    (X : K.In h) (G : h.Ns mainGlobals mg) (h1 : PySem.W.nsIn K mainGlobals f = some (some (.ref a))) (lk : K.lookup a = some ⟨oc, od, .func (PySem.W.fnOf f f (defArgs st) (defBody st) (defScope st) dV kV doc pm an cdv ct), osl⟩)
    (hc : PySem.W.codeIn K cdv f = true) (hk : PySem.W.keepIn K (.ref a) = true) (chk : defB fs d st = true)
    (hb : ∀ us : List Value, us.length = (d.N.take d.n).length → bindArgs (PySem.W.fnOf f f (defArgs st) (defBody st) (defScope st) dV kV doc pm an cdv ct) ⟨us, []⟩ = pure ((d.N.take d.n).zip us)) : DefOk K mg fs f d := by
  unfold defB at chk
  simp only [Bool.and_eq_true, decide_eq_true_eq] at chk
  obtain ⟨⟨c1, c2⟩, c3⟩ := chk
  exact ⟨a, f, defArgs st, defBody st, defScope st, dV, kV, doc, pm, cdv, ct, oc, an, od, osl, PySem.W.mg_of X G h1, h1, hk, lk, hc, scB_ok c1, c2, .all hb, .inl c3⟩
def dRef : Df := ⟨["ask", "one", "other", "marks", "e"], 3, .cons .tryR .nil⟩
def refB (fs : List Str) (st : Stmt) : Bool := scB dRef.N (dRef.N.take dRef.n) (defScope st) && okRef dRef.N fs (defScope st) (defBody st)
theorem defOk_ref {K : KF} {h : Heap} {mg : Str → Option Value} {fs : List Str} {f : Str} {st : Stmt} {a C : Addr} {oc dV kV doc pm cdv ct : Value} {od an : Option Addr} {osl : Array (Option Value)}
    (X : K.In h) (G : h.Ns mainGlobals mg) (h1 : PySem.W.nsIn K mainGlobals f = some (some (.ref a))) (lk : K.lookup a = some ⟨oc, od, .func (PySem.W.fnOf f f (defArgs st) (defBody st) (defScope st) dV kV doc pm an cdv ct), osl⟩)
    (hc : PySem.W.codeIn K cdv f = true) (hk : PySem.W.keepIn K (.ref a) = true) (R : RefK K mg C) (chk : refB fs st = true)
    (hb : ∀ us : List Value, us.length = 3 → bindArgs (PySem.W.fnOf f f (defArgs st) (defBody st) (defScope st) dV kV doc pm an cdv ct) ⟨us, []⟩ = pure ((dRef.N.take dRef.n).zip us)) : DefOk K mg fs f dRef := by
  unfold refB at chk
  simp only [Bool.and_eq_true, decide_eq_true_eq] at chk
  obtain ⟨c1, c3⟩ := chk
  exact ⟨a, f, defArgs st, defBody st, defScope st, dV, kV, doc, pm, cdv, ct, oc, an, od, osl, PySem.W.mg_of X G h1, h1, hk, lk, hc, scB_ok c1, by decide, .all hb, .inr ⟨C, rfl, R, c3⟩⟩
theorem excOk_mk {K : KF} {h : Heap} {mg : Str → Option Value} {c : Str} {C : Addr} (X : K.In h) (G : h.Ns mainGlobals mg) (h1 : PySem.W.nsIn K mainGlobals c = some (some (.ref C)))
    (h2 : PySem.W.excIn K C [.type "ValueError", .type "Exception", .type "BaseException", .type "object"] "ValueError.__new__" = true) (h3 : PySem.W.keepIn K (.ref C) = true) (h4 : PySem.W.subIn K (.ref C) (.type "BaseException") = some true) (h5 : PySem.W.typeIn K (.ref C) = some (.type "type")) : ExcOk K mg c :=
  ⟨C, PySem.W.mg_of X G h1, h2, h3, h4, h5⟩
theorem cstK_mk {K : KF} {h : Heap} {mg : Str → Option Value} {f : Str} {a : Addr} {ns : List Int} {its : Array Value} {od : Option Addr} {n : Nat} {sl : Array (Option Value)}
    (X : K.In h) (G : h.Ns mainGlobals mg) (h1 : PySem.W.nsIn K mainGlobals f = some (some (.ref a))) (lk : K.lookup a = some ⟨.type "tuple", od, .seq its n, sl⟩) (hs : its.size ≤ sizeLine) (hv : Vals (ns.map V.int) its.toList) : CstK K mg f (.cst ns) :=
  ⟨a, ns, rfl, PySem.W.mg_of X G h1, _, its, n, lk, rfl, rfl, hs, hv⟩
theorem lookup_mem {f : Str} {d : Df} : ∀ {l : List (Str × Df)}, l.lookup f = some d → f ∈ l.map (·.1)
  | [], h => by cases h
  | (g, e) :: r, h => by
    rw [List.lookup_cons] at h
    split at h
    · rename_i z
      rw [beq_iff_eq] at z
      subst z; exact List.mem_cons_self ..
    · exact List.mem_cons_of_mem _ (lookup_mem h)
end MP
set_option Elab.async false
set_option linter.all false
set_option maxRecDepth 100000
set_option maxHeartbeats 1000000
namespace MP
open PySem L2
section
variable {G : Calls} {Ex : XP} {env : Env} {h : MH} {Q : Post} {T : Bool → MH → Prop} {D : En} {a b c : E} {es : Es}
@[simp] theorem wE_var {i : Nat} : wpE G Ex (.var i) env h Q = ∃ v, env[i]? = some (some v) ∧ Q v h := by simp only [wpE]
@[simp] theorem wE_non : wpE G Ex .non env h Q = Q .non h := by simp only [wpE]
@[simp] theorem wE_bl {b : Bool} : wpE G Ex (.bl b) env h Q = Q (.bl b) h := by simp only [wpE]
@[simp] theorem wE_int {b : Int} : wpE G Ex (.int b) env h Q = Q (.int b) h := by simp only [wpE]
@[simp] theorem wE_str {b : Str} : wpE G Ex (.str b) env h Q = Q (.str b) h := by simp only [wpE]
@[simp] theorem wE_bin {op : Operator} : wpE G Ex (.bin op a b) env h Q = wpE G Ex a env h fun x h1 => wpE G Ex b env h1 fun y h2 => binW op x y h2 Q := by simp only [wpE]
@[simp] theorem wE_neg : wpE G Ex (.neg a) env h Q = wpE G Ex a env h fun x h1 => ∃ i, x = .int i ∧ Q (.int (-i)) h1 := by simp only [wpE]
@[simp] theorem wE_not : wpE G Ex (.not a) env h Q = wpE G Ex a env h fun x h1 => truW x h1 fun k h2 => Q (.bl (!k)) h2 := by simp only [wpE]
@[simp] theorem wE_and : wpE G Ex (.and a b) env h Q = wpE G Ex a env h fun x h1 => truW x h1 fun k h2 => if k = true then wpE G Ex b env h2 Q else Q x h2 := by simp only [wpE]
@[simp] theorem wE_or : wpE G Ex (.or a b) env h Q = wpE G Ex a env h fun x h1 => truW x h1 fun k h2 => if k = true then Q x h2 else wpE G Ex b env h2 Q := by simp only [wpE]
@[simp] theorem wE_ite : wpE G Ex (.ite c a b) env h Q = wpT G Ex c env h fun k h1 => if k = true then wpE G Ex a env h1 Q else wpE G Ex b env h1 Q := by simp only [wpE]
@[simp] theorem wE_cmp {op : CmpOp} : wpE G Ex (.cmp op a b) env h Q = wpE G Ex a env h fun x h1 => wpE G Ex b env h1 fun y h2 => cmpW op x y h2 fun k h3 => Q (.bl k) h3 := by simp only [wpE]
@[simp] theorem wE_chain {o p : CmpOp} : wpE G Ex (.chain o p a b c) env h Q = wpE G Ex a env h fun x h1 => wpE G Ex b env h1 fun y h2 => cmpW o x y h2 fun k h3 =>
      if k = true then wpE G Ex c env h3 fun z h4 => cmpW p y z h4 fun k h5 => Q (.bl k) h5 else Q (.bl false) h3 := by simp only [wpE]
@[simp] theorem wE_isN {n : Bool} : wpE G Ex (.isN a n) env h Q = wpE G Ex a env h fun x h1 => isNW x n h1 fun k h2 => Q (.bl k) h2 := by simp only [wpE]
@[simp] theorem wE_isB {b n : Bool} : wpE G Ex (.isB a b n) env h Q = wpE G Ex a env h fun x h1 => isBW x b n h1 fun k h2 => Q (.bl k) h2 := by simp only [wpE]
@[simp] theorem wE_isin {n : Bool} : wpE G Ex (.isin a b n) env h Q = wpE G Ex a env h fun x h1 => wpE G Ex b env h1 fun y h2 => inW x y h2 fun k h3 => Q (.bl (k != n)) h3 := by simp only [wpE]
@[simp] theorem wE_tup : wpE G Ex (.tup es) env h Q = wpEs G Ex es env h fun xs h1 => xs.length ≤ sizeLine ∧ Q (.tup xs) h1 := by simp only [wpE]
@[simp] theorem wE_lst {m : Bool} : wpE G Ex (.lst m es) env h Q = wpEs G Ex es env h fun xs h1 => newL m xs h1 Q := by simp only [wpE]
@[simp] theorem wE_dct0 : wpE G Ex (.dct0 false) env h Q = Q (.dct [] []) h := by simp only [wpE]; rfl
@[simp] theorem wE_dct0m : wpE G Ex (.dct0 true) env h Q = ∀ p, h p = none → Q (.loc p) (h.put p (.dct [])) := by simp only [wpE]; rfl
@[simp] theorem wE_dct1 : wpE G Ex (.dct1 a b) env h Q = wpE G Ex a env h fun x h1 => wpE G Ex b env h1 fun y h2 => dct1W x y h2 Q := by simp only [wpE]
@[simp] theorem wE_idx : wpE G Ex (.idx a b) env h Q = wpE G Ex a env h fun x h1 => wpE G Ex b env h1 fun y h2 => idxW x y h2 Q := by simp only [wpE]
@[simp] theorem wE_slc {lo hi : Eo} : wpE G Ex (.slc a lo hi) env h Q = wpE G Ex a env h fun x h1 => wpEo G Ex lo env h1 fun l h2 => ∃ li, optI l = some li ∧ wpEo G Ex hi env h2 fun u h3 => ∃ ui, optI u = some ui ∧ slcW x li ui h3 Q := by simp only [wpE]
@[simp] theorem wE_rev : wpE G Ex (.rev a) env h Q = wpE G Ex a env h fun x h1 => revW x h1 Q := by simp only [wpE]
@[simp] theorem wE_call {f : Str} : wpE G Ex (.call f es) env h Q = wpEs G Ex es env h fun xs h1 => G f xs h1 Q (fun e h2 => Ex e env h2) := by simp only [wpE]
@[simp] theorem wE_gfn {f : Str} : wpE G Ex (.gfn f) env h Q = Q (.fn f) h := by simp only [wpE]
@[simp] theorem wE_callv {i : Nat} : wpE G Ex (.callv i es) env h Q = ∃ f, env[i]? = some (some (.fn f)) ∧ wpEs G Ex es env h fun xs h1 => G f xs h1 Q (fun e h2 => Ex e env h2) := by simp only [wpE]
@[simp] theorem wE_blt {b : B} : wpE G Ex (.blt b es) env h Q = wpEs G Ex es env h fun xs h1 => bltW b xs h1 Q := by simp only [wpE]
@[simp] theorem wE_isi {t : String} : wpE G Ex (.isi a t) env h Q = wpE G Ex a env h fun x h1 => isiW x t h1 fun k h2 => Q (.bl k) h2 := by simp only [wpE]
@[simp] theorem wE_con {c : C} {m : Bool} {it : It} : wpE G Ex (.con c m it) env h Q = wpIt G Ex it env h fun S h1 => conW c m S.xs h1 Q := by simp only [wpE]
@[simp] theorem wE_comp {m : Bool} {elt : E} {tg : Tg} {it : It} {c : Eo} : wpE G Ex (.comp m elt tg it c) env h Q = wpIt G Ex it env h fun S h1 =>
      compW S.stays (fun x h2 R => tgW tg x (wipeE env tg.own) fun env' => wpC G c env' h2 fun k h3 =>
        if k = true then wpE G noX elt env' h3 fun y h4 => R (some y) h4 else R none h3) S.xs h1 fun ys h5 => newL m ys h5 Q := by simp only [wpE]
@[simp] theorem wE_meth {m : M} : wpE G Ex (.meth a m es) env h Q = wpE G Ex a env h fun x h1 => (∃ a xs, x = .loc a ∧ h1 a = some (.lst xs)) ∧ wpEs G Ex es env h1 fun ys h2 => methW x m ys h2 Q := by simp only [wpE]
@[simp] theorem wE_mkd : wpE G Ex (.mkd a) env h Q = wpE G Ex a env h fun x h1 => mkdW x h1 Q := by simp only [wpE]
@[simp] theorem wE_dget : wpE G Ex (.dget a b c) env h Q = wpE G Ex a env h fun x h1 => (∃ ks vs, x = .dtt ks vs) ∧ wpE G Ex b env h1 fun y h2 => wpE G Ex c env h2 fun z h3 => dgetW x y z h3 Q := by simp only [wpE]
@[simp] theorem wE_gcs {f : Str} : wpE G Ex (.gcs f) env h Q = ∃ v, gcst f = some v ∧ Q v h := by simp only [wpE]
@[simp] theorem wT_not : wpT G Ex (.not a) env h T = wpT G Ex a env h fun k h1 => T (!k) h1 := by simp only [wpT]
@[simp] theorem wT_and : wpT G Ex (.and a b) env h T = wpT G Ex a env h fun k h1 => if k = true then wpT G Ex b env h1 T else T false h1 := by simp only [wpT]
@[simp] theorem wT_or : wpT G Ex (.or a b) env h T = wpT G Ex a env h fun k h1 => if k = true then T true h1 else wpT G Ex b env h1 T := by simp only [wpT]
@[simp] theorem wT_ite : wpT G Ex (.ite c a b) env h T = wpT G Ex c env h fun k h1 => if k = true then wpT G Ex a env h1 T else wpT G Ex b env h1 T := by simp only [wpT]
@[simp] theorem wT_cmp {op : CmpOp} : wpT G Ex (.cmp op a b) env h T = wpE G Ex a env h fun x h1 => wpE G Ex b env h1 fun y h2 => cmpW op x y h2 T := by simp only [wpT]
@[simp] theorem wT_chain {o p : CmpOp} : wpT G Ex (.chain o p a b c) env h T = wpE G Ex a env h fun x h1 => wpE G Ex b env h1 fun y h2 => cmpW o x y h2 fun k h3 =>
      if k = true then wpE G Ex c env h3 fun z h4 => cmpW p y z h4 T else T false h3 := by simp only [wpT]
@[simp] theorem wT_isN {n : Bool} : wpT G Ex (.isN a n) env h T = wpE G Ex a env h fun x h1 => isNW x n h1 T := by simp only [wpT]
@[simp] theorem wT_isB {b n : Bool} : wpT G Ex (.isB a b n) env h T = wpE G Ex a env h fun x h1 => isBW x b n h1 T := by simp only [wpT]
@[simp] theorem wT_isin {n : Bool} : wpT G Ex (.isin a b n) env h T = wpE G Ex a env h fun x h1 => wpE G Ex b env h1 fun y h2 => inW x y h2 fun k h3 => T (k != n) h3 := by simp only [wpT]
@[simp] theorem wT_var {i : Nat} : wpT G Ex (.var i) env h T = ∃ v, env[i]? = some (some v) ∧ truW v h T := by simp only [wpT]
@[simp] theorem wT_call {f : Str} : wpT G Ex (.call f es) env h T = wpEs G Ex es env h fun xs h1 => G f xs h1 (fun v h2 => truW v h2 T) (fun e h2 => Ex e env h2) := by simp only [wpT]
@[simp] theorem wT_blt {b : B} : wpT G Ex (.blt b es) env h T = wpEs G Ex es env h fun xs h1 => bltW b xs h1 fun v h2 => truW v h2 T := by simp only [wpT]
@[simp] theorem wT_idx : wpT G Ex (.idx a b) env h T = wpE G Ex a env h fun x h1 => wpE G Ex b env h1 fun y h2 => idxW x y h2 fun v h3 => truW v h3 T := by simp only [wpT]
@[simp] theorem wT_isi {t : String} : wpT G Ex (.isi a t) env h T = wpE G Ex a env h fun x h1 => isiW x t h1 T := by simp only [wpT]
@[simp] theorem wC_non : wpC G .none env h T = T true h := by simp only [wpC]
@[simp] theorem wC_som : wpC G (.some c) env h T = wpT G noX c env h T := by simp only [wpC]
@[simp] theorem wEs_nil {L : List PV → MH → Prop} : wpEs G Ex .nil env h L = L [] h := by simp only [wpEs]
@[simp] theorem wEs_cons {L : List PV → MH → Prop} : wpEs G Ex (.cons a es) env h L = wpE G Ex a env h fun x h1 => wpEs G Ex es env h1 fun xs h2 => L (x :: xs) h2 := by simp only [wpEs]
@[simp] theorem wEo_non {L : Option PV → MH → Prop} : wpEo G Ex .none env h L = L none h := by simp only [wpEo]
@[simp] theorem wEo_som {L : Option PV → MH → Prop} : wpEo G Ex (.some a) env h L = wpE G Ex a env h fun x h1 => L (some x) h1 := by simp only [wpEo]
@[simp] theorem wIt_seq {L : Src → MH → Prop} : wpIt G Ex (.seq a) env h L = wpE G Ex a env h fun x h1 => ∃ S, srcV h1 x = some S ∧ (S.xs.length ≤ sizeLine → L S h1) := by simp only [wpIt]
@[simp] theorem wIt_rng1 {L : Src → MH → Prop} : wpIt G Ex (.rng1 a) env h L = wpE G Ex a env h fun x h1 => ∃ n, x = .int n ∧ RngOk 0 n ∧ n ≤ sizeLine ∧ L ⟨rngV 0 n, []⟩ h1 := by simp only [wpIt]
@[simp] theorem wIt_rng2 {L : Src → MH → Prop} : wpIt G Ex (.rng2 a b) env h L = wpE G Ex a env h fun x h1 => wpE G Ex b env h1 fun y h2 => ∃ n m, x = .int n ∧ y = .int m ∧ RngOk n m ∧ m - n ≤ sizeLine ∧ L ⟨rngV n m, []⟩ h2 := by simp only [wpIt]
@[simp] theorem wIt_enum {L : Src → MH → Prop} : wpIt G Ex (.enum a) env h L = wpE G Ex a env h fun x h1 => ∃ S, lstV h1 x = some S ∧ (S.xs.length ≤ sizeLine → L ⟨enumV S.xs, S.st⟩ h1) := by simp only [wpIt]
@[simp] theorem wIt_zip {L : Src → MH → Prop} : wpIt G Ex (.zip a b) env h L = wpE G Ex a env h fun x h1 => wpE G Ex b env h1 fun y h2 => ∃ S T, zipV h2 x y = some (S, T) ∧
      (S.xs.length ≤ sizeLine → T.xs.length ≤ sizeLine → L ⟨(S.xs.zip T.xs).map fun p => PV.tup [p.1, p.2], S.st ++ T.st⟩ h2) := by simp only [wpIt]
@[simp] theorem wipe_no : wipeE env [] = env := rfl
@[simp] theorem wipe_one {v : Nat} {vs : List Nat} : wipeE env (v :: vs) = (wipeE env vs).set v none := rfl
@[simp] theorem own_name {i : Nat} : (Tg.name i).own = [i] := rfl
@[simp] theorem own_two {s t : Tg} : (Tg.tup2 s t).own = s.own ++ t.own := rfl
@[simp] theorem own_four {s t u v : Tg} : (Tg.tup4 s t u v).own = s.own ++ t.own ++ u.own ++ v.own := rfl
@[simp] theorem own_three {s t u : Tg} : (Tg.tup3 s t u).own = s.own ++ t.own ++ u.own := rfl
theorem w_nil : wpSs G Ex .nil env h D = D.nx env h := by simp only [wpSs]
theorem w_end (q : D.nx env h) : wpSs G Ex .nil env h D := by rw [w_nil]; exact q
theorem w_asg {t : Tg} {r : Ss} : wpSs G Ex (.cons (.asg t a) r) env h D = wpE G Ex a env h fun x h1 => tgW t x env fun env' => wpSs G Ex r env' h1 D := by simp only [wpSs, wpS]
theorem w_par {i j : Nat} {r : Ss} : wpSs G Ex (.cons (.par i j a b) r) env h D = wpE G Ex a env h fun x h1 => wpE G Ex b env h1 fun y h2 => wpSs G Ex r ((env.set i (some x)).set j (some y)) h2 D := by simp only [wpSs, wpS]
theorem w_sub {r : Ss} : wpSs G Ex (.cons (.sub a b c) r) env h D = wpE G Ex c env h fun z h1 => wpE G Ex a env h1 fun x h2 => wpE G Ex b env h2 fun y h3 => subW x y z h3 fun h4 => wpSs G Ex r env h4 D := by simp only [wpSs, wpS]
theorem w_ex {r : Ss} : wpSs G Ex (.cons (.ex a) r) env h D = wpE G Ex a env h fun _ h1 => wpSs G Ex r env h1 D := by simp only [wpSs, wpS]
theorem w_ret {r : Ss} : wpSs G Ex (.cons (.ret a) r) env h D = wpE G Ex a env h D.rt := by simp only [wpSs, wpS]
theorem w_raise {c : Str} {r : Ss} : wpSs G Ex (.cons (.raise c) r) env h D = Ex ⟨c, none⟩ env h := by simp only [wpSs, wpS]
theorem w_tryR : wpSs G Ex (.cons .tryR .nil) env h D = ∃ f a b, env = [some (.fn f), some a, some b, none, none] ∧ ∀ p, h p = none → G f [a, b] (h.put p (.lst [])) (fun _ h' => h' p = some (.lst []) ∧ D.rt (.bl false) h') (fun e h' => e.cls = "NoWorth" ∧ e.arg = none ∧ D.rt (.bl true) h') := by simp only [wpSs, wpS]
theorem w_pass {r : Ss} : wpSs G Ex (.cons .pass r) env h D = wpSs G Ex r env h D := by simp only [wpSs, wpS]
theorem w_ife {s t r : Ss} : wpSs G Ex (.cons (.ife c s t) r) env h D = wpT G Ex c env h fun k h1 =>
    if k = true then wpSs G Ex s env h1 { D with nx := fun env' h' => wpSs G Ex r env' h' D } else wpSs G Ex t env h1 { D with nx := fun env' h' => wpSs G Ex r env' h' D } := by simp only [wpSs, wpS]
theorem w_for {t : Tg} {it : It} {s r : Ss} : wpSs G Ex (.cons (.for t it s) r) env h D = wpIt G Ex it env h fun S h1 =>
    forW S.stays (fun x env' h2 D' => tgW t x env' fun env2 => wpSs G Ex s env2 h2 D') { D with nx := fun env' h' => wpSs G Ex r env' h' D } S.xs env h1 := by simp only [wpSs, wpS]
theorem w_while {s r : Ss} : wpSs G Ex (.cons (.while c s) r) env h D = ∃ n, whileW (fun env' h' Q => wpT G Ex c env' h' Q) (fun env' h' D' => wpSs G Ex s env' h' D') { D with nx := fun env' h' => wpSs G Ex r env' h' D } n env h := by simp only [wpSs, wpS]
@[simp] theorem rd_i {i : Int} : rd h (.int i) = .int i := rfl
@[simp] theorem rd_b {i : Bool} : rd h (.bl i) = .bl i := rfl
@[simp] theorem rd_s {i : Str} : rd h (.str i) = .str i := rfl
@[simp] theorem rd_n : rd h .non = .non := rfl
@[simp] theorem rd_t {xs : List PV} : rd h (.tup xs) = .tup xs := rfl
@[simp] theorem rd_l {xs : List PV} : rd h (.lst xs) = .lst xs := rfl
@[simp] theorem rd_d {xs ys : List PV} : rd h (.dct xs ys) = .dct xs ys := rfl
@[simp] theorem seqT_t {xs : List PV} : seqT h (.tup xs) = some xs := rfl
@[simp] theorem seqT_l {xs : List PV} : seqT h (.lst xs) = some xs := rfl
@[simp] theorem srcV_t {xs : List PV} : srcV h (.tup xs) = some ⟨xs, []⟩ := rfl
@[simp] theorem srcV_l {xs : List PV} : srcV h (.lst xs) = some ⟨xs, []⟩ := rfl
@[simp] theorem lstV_l {xs : List PV} : lstV h (.lst xs) = some ⟨xs, []⟩ := rfl
@[simp] theorem stays_nil {xs : List PV} : Src.stays ⟨xs, []⟩ h = True := by simp [Src.stays]
theorem rd_loc {p : Addr} {xs : List PV} (e : h p = some (.lst xs)) : rd h (.loc p) = .lst xs := by simp [rd, e]
theorem seqT_loc {p : Addr} {xs : List PV} (e : h p = some (.lst xs)) : seqT h (.loc p) = some xs := by simp [seqT, rd, e]
theorem srcV_loc {p : Addr} {xs : List PV} (e : h p = some (.lst xs)) : srcV h (.loc p) = some ⟨xs, [(p, xs)]⟩ := by simp [srcV, e]
theorem lstV_loc {p : Addr} {xs : List PV} (e : h p = some (.lst xs)) : lstV h (.loc p) = some ⟨xs, [(p, xs)]⟩ := by simp [lstV, srcV, e]
@[simp] theorem put_at {p : Addr} {x : Cell} : (h.put p x) p = some x := if_pos rfl
@[simp] theorem put_put {p : Addr} {x y : Cell} : (h.put p x).put p y = h.put p y := by
  funext q
  unfold MH.put
  split <;> rfl
theorem put_off {p q : Addr} {x : Cell} (n : q ≠ p) : (h.put p x) q = h q := if_neg n
@[simp] theorem bin_add {i j : Int} : binW .Add (.int i) (.int j) h Q = Q (.int (i + j)) h := rfl
@[simp] theorem bin_sub {i j : Int} : binW .Sub (.int i) (.int j) h Q = Q (.int (i - j)) h := rfl
@[simp] theorem bin_mul {i j : Int} : binW .Mult (.int i) (.int j) h Q = ((i.natAbs < 2 ^ 64 ∨ j.natAbs < 2 ^ 64 ∨ i.natAbs.log2 + j.natAbs.log2 < 1000000) ∧ Q (.int (i * j)) h) := rfl
@[simp] theorem bin_div {i j : Int} : binW .FloorDiv (.int i) (.int j) h Q = if 0 < j then (j < 2 ^ 256 ∨ j.natAbs.log2 < 9000) ∧ Q (.int (i / j)) h else (j ≠ 0 ∧ (-j < 2 ^ 256 ∨ j.natAbs.log2 < 9000)) ∧ Q (.int (i.fdiv j)) h := rfl
@[simp] theorem bin_mod {i j : Int} : binW .Mod (.int i) (.int j) h Q = (0 < j ∧ Q (.int (i % j)) h) := rfl
@[simp] theorem bin_pow {i j : Int} : binW .Pow (.int i) (.int j) h Q = ((0 ≤ j ∧ j ≤ 1000000 ∧ i.natAbs < 2 ^ 64) ∧ Q (.int (i ^ j.toNat)) h) := rfl
@[simp] theorem bin_addL {xs ys : List PV} : binW .Add (.lst xs) (.lst ys) h Q = (xs.length + ys.length ≤ sizeLine ∧ Q (.lst (xs ++ ys)) h) := rfl
@[simp] theorem bin_addT {xs ys : List PV} : binW .Add (.tup xs) (.tup ys) h Q = (xs.length + ys.length ≤ sizeLine ∧ Q (.tup (xs ++ ys)) h) := rfl
@[simp] theorem bin_addS {xs ys : Str} : binW .Add (.str xs) (.str ys) h Q = (xs.length + ys.length ≤ sizeLine ∧ Q (.str (xs ++ ys)) h) := rfl
@[simp] theorem bin_mulL {xs : List PV} {n : Int} : binW .Mult (.lst xs) (.int n) h Q = ((n * xs.length ≤ sizeLine ∧ n ≤ sizeLine ∧ -(2 ^ 63) ≤ n) ∧ Q (.lst (List.flatten (List.replicate n.toNat xs))) h) := rfl
@[simp] theorem cmp_lt {i j : Int} : cmpW .Lt (.int i) (.int j) h T = T (decide (i < j)) h := by simp [cmpW]
@[simp] theorem cmp_le {i j : Int} : cmpW .LtE (.int i) (.int j) h T = T (decide (i ≤ j)) h := by simp [cmpW]
@[simp] theorem cmp_gt {i j : Int} : cmpW .Gt (.int i) (.int j) h T = T (decide (j < i)) h := by simp [cmpW]
@[simp] theorem cmp_ge {i j : Int} : cmpW .GtE (.int i) (.int j) h T = T (decide (j ≤ i)) h := by simp [cmpW]
theorem eqOk_int {i : Int} : eqOk (.int i) := ⟨rfl, rfl⟩
theorem eqOk_bl {i : Bool} : eqOk (.bl i) := ⟨rfl, rfl⟩
theorem eqOk_non : eqOk .non := ⟨rfl, rfl⟩
@[simp] theorem eq_ii {i j : Int} : cmpW .Eq (.int i) (.int j) h T = T (decide (i = j)) h := by
  have e : eqP (.int i) (.int j) = decide (i = j) := by simp only [eqP, toD, PyData.eqv]; rw [Bool.eq_iff_iff]; simp
  simp [cmpW, eqW, eqOk_int, e]
@[simp] theorem ne_ii {i j : Int} : cmpW .NotEq (.int i) (.int j) h T = T (decide (i ≠ j)) h := by
  have e : eqP (.int i) (.int j) = decide (i = j) := by simp only [eqP, toD, PyData.eqv]; rw [Bool.eq_iff_iff]; simp
  simp [cmpW, neW, eqOk_int, e]
@[simp] theorem eq_bb {i j : Bool} : cmpW .Eq (.bl i) (.bl j) h T = T (decide (i = j)) h := by
  have e : eqP (.bl i) (.bl j) = decide (i = j) := by simp only [eqP, toD, PyData.eqv]; rw [Bool.eq_iff_iff]; simp
  simp [cmpW, eqW, eqOk_bl, e]
@[simp] theorem eq_ss {a b : Str} : cmpW .Eq (.str a) (.str b) h T = T (decide (a = b)) h := rfl
@[simp] theorem ne_ss {a b : Str} : cmpW .NotEq (.str a) (.str b) h T = T (!decide (a = b)) h := rfl
@[simp] theorem ne_t0 {xs : List PV} : cmpW .NotEq (.tup xs) (.tup []) h T = T (!xs.isEmpty) h := rfl
@[simp] theorem eq_t0 {xs : List PV} : cmpW .Eq (.tup xs) (.tup []) h T = T xs.isEmpty h := rfl
@[simp] theorem eq_ll {xs ys : List PV} : cmpW .Eq (.lst xs) (.lst ys) h T = ((eqOk (.lst xs) ∧ eqOk (.lst ys)) ∧ T (eqP (.lst xs) (.lst ys)) h) := rfl
@[simp] theorem tru_b {b : Bool} : truW (.bl b) h T = T b h := rfl
@[simp] theorem tru_i {i : Int} : truW (.int i) h T = T (decide (i ≠ 0)) h := rfl
@[simp] theorem tru_t {xs : List PV} : truW (.tup xs) h T = T (!xs.isEmpty) h := rfl
@[simp] theorem tru_l {xs : List PV} : truW (.lst xs) h T = T (!xs.isEmpty) h := rfl
@[simp] theorem tru_n : truW .non h T = T false h := rfl
@[simp] theorem idx_t {xs : List PV} {k : Int} : idxW (.tup xs) (.int k) h Q = ∃ v, L2.atI xs k = some v ∧ Q v h := rfl
@[simp] theorem idx_l {xs : List PV} {k : Int} : idxW (.lst xs) (.int k) h Q = ∃ v, L2.atI xs k = some v ∧ Q v h := rfl
theorem idx_p {p : Addr} {xs : List PV} {k : Int} (e : h p = some (.lst xs)) : idxW (.loc p) (.int k) h Q = ∃ v, L2.atI xs k = some v ∧ Q v h := by simp [idxW, rd, e]
@[simp] theorem newL_f {xs : List PV} : newL false xs h Q = (xs.length ≤ sizeLine ∧ Q (.lst xs) h) := rfl
@[simp] theorem newL_t {xs : List PV} : newL true xs h Q = (xs.length ≤ sizeLine ∧ ∀ p, h p = none → Q (.loc p) (h.put p (.lst xs))) := rfl
@[simp] theorem tg_name {i : Nat} {v : PV} {K : Env → Prop} : tgW (.name i) v env K = K (env.set i (some v)) := rfl
@[simp] theorem tg_two {s t : Tg} {x y : PV} {K : Env → Prop} : tgW (.tup2 s t) (.tup [x, y]) env K = tgW s x env fun e1 => tgW t y e1 K := propext ⟨fun ⟨_, _, e, q⟩ => by cases e; exact q, fun q => ⟨_, _, rfl, q⟩⟩
@[simp] theorem tg_three {s t u : Tg} {x y z : PV} {K : Env → Prop} : tgW (.tup3 s t u) (.tup [x, y, z]) env K = tgW s x env fun e1 => tgW t y e1 fun e2 => tgW u z e2 K := propext ⟨fun ⟨_, _, _, e, q⟩ => by cases e; exact q, fun q => ⟨_, _, _, rfl, q⟩⟩
@[simp] theorem tg_four {s t u v : Tg} {x y z w : PV} {K : Env → Prop} : tgW (.tup4 s t u v) (.tup [x, y, z, w]) env K = tgW s x env fun e1 => tgW t y e1 fun e2 => tgW u z e2 fun e3 => tgW v w e3 K := propext ⟨fun ⟨_, _, _, _, e, q⟩ => by cases e; exact q, fun q => ⟨_, _, _, _, rfl, q⟩⟩
@[simp] theorem zip_t {xs ys : List PV} : zipV h (.tup xs) (.tup ys) = some (⟨xs, []⟩, ⟨ys, []⟩) := rfl
@[simp] theorem zip_l {xs ys : List PV} : zipV h (.lst xs) (.lst ys) = some (⟨xs, []⟩, ⟨ys, []⟩) := rfl
@[simp] theorem con_list {m : Bool} {xs : List PV} : conW .list m xs h Q = newL m xs h Q := rfl
@[simp] theorem con_tup {m : Bool} {xs : List PV} : conW .tuple m xs h Q = Q (.tup xs) h := rfl
@[simp] theorem con_sorted {m : Bool} {xs : List PV} : conW .sorted m xs h Q = (sortOk xs ∧ newL m (xs.mergeSort leP) h Q) := rfl
@[simp] theorem slc_t {xs : List PV} {l u : Option Int} : slcW (.tup xs) l u h Q = Q (.tup (slcW.cutP xs l u)) h := rfl
@[simp] theorem slc_l {xs : List PV} {l u : Option Int} : slcW (.lst xs) l u h Q = Q (.lst (slcW.cutP xs l u)) h := rfl
@[simp] theorem rev_t {xs : List PV} : revW (.tup xs) h Q = Q (.tup xs.reverse) h := rfl
@[simp] theorem rev_l {xs : List PV} : revW (.lst xs) h Q = Q (.lst xs.reverse) h := rfl
@[simp] theorem optI_n : optI none = some none := rfl
@[simp] theorem optI_i {i : Int} : optI (some (.int i)) = some (some i) := rfl
@[simp] theorem dct1_i {i : Int} {v : PV} : dct1W (.int i) v h Q = Q (.dct [.int i] [v]) h := rfl
@[simp] theorem isN_n {n : Bool} : isNW .non n h T = T (!n) h := rfl
@[simp] theorem isB_b {x b n : Bool} : isBW (.bl x) b n h T = T ((x == b) != n) h := rfl
@[simp] theorem b_abs {i : Int} : bltW .abs [.int i] h Q = Q (.int (if i < 0 then -i else i)) h := rfl
@[simp] theorem b_int {i : Int} : bltW .int [.int i] h Q = Q (.int i) h := rfl
@[simp] theorem b_intb {i : Bool} : bltW .int [.bl i] h Q = Q (.int (if i then 1 else 0)) h := rfl
@[simp] theorem b_lent {xs : List PV} : bltW .len [.tup xs] h Q = Q (.int xs.length) h := by simp [bltW]
@[simp] theorem b_lenl {xs : List PV} : bltW .len [.lst xs] h Q = Q (.int xs.length) h := by simp [bltW]
theorem b_lenp {p : Addr} {xs : List PV} (e : h p = some (.lst xs)) : bltW .len [.loc p] h Q = Q (.int xs.length) h := by simp [bltW, seqT_loc e]
@[simp] theorem b_max {i j : Int} : bltW .max2 [.int i, .int j] h Q = Q (.int (if j > i then j else i)) h := rfl
@[simp] theorem b_min {i j : Int} : bltW .min2 [.int i, .int j] h Q = Q (.int (if j < i then j else i)) h := rfl
@[simp] theorem b_repr {v : PV} : bltW .repr [v] h Q = (reprOk v ∧ Q (.str (toD v).shown) h) := rfl
@[simp] theorem b_stri {i : Int} : bltW .str [.int i] h Q = (i.natAbs.log2 < 1920 ∧ Q (.str (toString i)) h) := rfl
def isTb (t : String) (v : PV) : Bool := (isT t v).getD false
theorem isT_pur {t : String} {v : PV} (h : pur v = true) : isT t v = some (isTb t v) := by cases v <;> first | rfl | cases h
theorem rd_pur {v : PV} (hv : pur v = true) : rd h v = v := by cases v <;> first | rfl | cases hv
theorem isi_w {t : String} {v : PV} (hv : pur v = true) (ht : tyB t = true) (q : T (isTb t v) h) : isiW v t h T := ⟨_, tyB_cls ht, by rw [rd_pur hv]; exact isT_pur hv, q⟩
theorem isi_eq {t : String} {v : PV} (hv : pur v = true) (ht : tyB t = true) : isiW v t h T = T (isTb t v) h := by
  refine propext ⟨fun ⟨b, _, e, q⟩ => ?_, isi_w hv ht⟩
  rw [rd_pur hv, isT_pur hv] at e
  cases e
  exact q
end
theorem atI_nat {α : Type} (xs : List α) (n : Nat) : L2.atI xs (n : Int) = xs[n]? := by
  unfold L2.atI L2.ixN
  rw [if_pos (by omega)]
  by_cases h : (n : Int) < (xs.length : Nat)
  · rw [if_pos h]; simp
  · rw [if_neg h, List.getElem?_eq_none (by omega)]; rfl
theorem atI_int {α : Type} (xs : List α) {i : Int} (h0 : 0 ≤ i) : L2.atI xs i = xs[i.toNat]? := by
  have e : i = (i.toNat : Int) := by omega
  conv => lhs; rw [e]
  exact atI_nat xs _
@[simp] theorem atI_0 {α : Type} {xs : List α} : L2.atI xs 0 = xs[0]? := atI_nat xs 0
@[simp] theorem atI_1 {α : Type} {xs : List α} : L2.atI xs 1 = xs[1]? := atI_nat xs 1
@[simp] theorem atI_2 {α : Type} {xs : List α} : L2.atI xs 2 = xs[2]? := atI_nat xs 2
@[simp] theorem atI_3 {α : Type} {xs : List α} : L2.atI xs 3 = xs[3]? := atI_nat xs 3
@[simp] theorem atI_4 {α : Type} {xs : List α} : L2.atI xs 4 = xs[4]? := atI_nat xs 4
@[simp] theorem atI_5 {α : Type} {xs : List α} : L2.atI xs 5 = xs[5]? := atI_nat xs 5
@[simp] theorem atI_6 {α : Type} {xs : List α} : L2.atI xs 6 = xs[6]? := atI_nat xs 6
@[simp] theorem atI_7 {α : Type} {xs : List α} : L2.atI xs 7 = xs[7]? := atI_nat xs 7
@[simp] theorem atI_8 {α : Type} {xs : List α} : L2.atI xs 8 = xs[8]? := atI_nat xs 8
@[simp] theorem atI_9 {α : Type} {xs : List α} : L2.atI xs 9 = xs[9]? := atI_nat xs 9
@[simp] theorem atI_10 {α : Type} {xs : List α} : L2.atI xs 10 = xs[10]? := atI_nat xs 10
@[simp] theorem atI_11 {α : Type} {xs : List α} : L2.atI xs 11 = xs[11]? := atI_nat xs 11
theorem atI_m1 {α : Type} {xs : List α} (h : xs ≠ []) : L2.atI xs (-1) = xs[xs.length - 1]? := by
  have l : 0 < xs.length := List.length_pos_iff.mpr h
  unfold L2.atI L2.ixN
  rw [if_neg (by omega), if_pos (by omega)]
  have e : (-1 + (xs.length : Int)).toNat = xs.length - 1 := by omega
  simp [e]
theorem rng_ok {m : Nat} (h : m ≤ 1000000) : RngOk 0 (m : Int) ∧ m ≤ sizeLine ∧ (rngV 0 (m : Int)).length ≤ sizeLine := by
  refine ⟨⟨by decide, by decide, by omega, by omega⟩, by rw [PySem.sizeLine_eq]; omega, ?_⟩
  rw [rngV_len, PySem.sizeLine_eq]; omega
theorem call_body {tab : Str → Option Df} {k : Nat} {f : Str} {d : Df} {xs : List PV} {h : MH} {Q : Post} {E : XQ} (ht : tab f = some d) (hl : xs.length = d.n)
    (q : wpSs (callW tab k) (fun e _ h' => retX E e h') d.body (startE d xs) h { nx := fun _ h' => retW Q .non h', rt := retW Q }) : callW tab (k + 1) f xs h Q E := ⟨d, E, ht, hl, fun _ _ q => q, q⟩
theorem ret_same {Q : Post} {v : PV} {h : MH} (q : Q v h) : retW Q v h := ⟨fun _ => False, v, h, fun _ z => z.elim, .same v, fun _ c e => ⟨fun z => z, c, e, .same c⟩, q⟩
theorem ret_drop {Q : Post} {v : PV} {h h2 : MH} (le : HLe h2 h) (q : Q v h2) : retW Q v h := ⟨fun _ => False, v, h2, fun _ z => z.elim, .same v, fun a c e => ⟨fun z => z, c, le a c e, .same c⟩, q⟩
theorem hle_refl {h : MH} : HLe h h := fun _ _ e => e
theorem hle_put {h h2 : MH} {p : Addr} {c : Cell} (hn : h p = none) (le : HLe h h2) : HLe h (h2.put p c) := fun a x e => by
  have ne : a ≠ p := fun z => by subst z; rw [hn] at e; cases e
  rw [put_off ne]
  exact le a x e
theorem hle_trans {a b c : MH} (x : HLe a b) (y : HLe b c) : HLe a c := fun p o e => y p o (x p o e)
theorem hle_mono {h h2 : MH} {p : Addr} {c : Cell} (le : HLe h h2) : HLe (h.put p c) (h2.put p c) := fun a x e => by
  by_cases z : a = p
  · subst z; rw [put_at] at e ⊢; exact e
  · rw [put_off z] at e ⊢; exact le a x e
theorem put_comm {h : MH} {p q : Addr} {x y : Cell} (n : p ≠ q) : (h.put p x).put q y = (h.put q y).put p x := by
  funext r
  unfold MH.put
  by_cases a : r = p
  · subst a; simp [n]
  · simp [a]
theorem for_inv {st : MH → Prop} {turn : PV → Env → MH → En → Prop} {D : En} : ∀ {xs : List PV} (I : Nat → Env → MH → Prop) {env : Env} {h : MH} (i0 : Nat), I i0 env h → (∀ i e h, I i e h → st h) →
    (∀ i x e h (N : Env → MH → Prop), xs[i - i0]? = some x → i0 ≤ i → I i e h → (∀ e' h', I (i + 1) e' h' → N e' h') → turn x e h { D with nx := N, ct := N, bk := D.nx }) → (∀ e h, I (i0 + xs.length) e h → D.nx e h) → forW st turn D xs env h
  | [], I, env, h, i0, h0, hs, _, fin => ⟨hs _ _ _ h0, fin _ _ h0⟩
  | x :: r, I, env, h, i0, h0, hs, step, fin => by
    refine ⟨hs _ _ _ h0, ?_⟩
    refine step i0 x env h _ (by simp) (Nat.le_refl _) h0 fun e' h' h1 => ?_
    refine for_inv I (i0 + 1) h1 hs (fun i y e h N hy hi hI k => ?_) (fun e h z => fin e h (by rw [List.length_cons]; rwa [Nat.add_assoc, Nat.add_comm 1] at z))
    refine step i y e h N ?_ (by omega) hI k
    have : i - i0 = (i - (i0 + 1)) + 1 := by omega
    rw [this, List.getElem?_cons_succ]
    exact hy
theorem for_all {st : MH → Prop} {turn : PV → Env → MH → En → Prop} {D : En} {xs : List PV} {env : Env} {h : MH} (I : Nat → Env → MH → Prop) (h0 : I 0 env h) (hs : ∀ i e h, I i e h → st h)
    (step : ∀ i x e h (N : Env → MH → Prop), xs[i]? = some x → I i e h → (∀ e' h', I (i + 1) e' h' → N e' h') → turn x e h { D with nx := N, ct := N, bk := D.nx }) (fin : ∀ e h, I xs.length e h → D.nx e h) : forW st turn D xs env h :=
  for_inv I 0 h0 hs (fun i x e h N hx _ hI k => step i x e h N (by simpa using hx) hI k) (fun e h z => fin e h (by simpa using z))
theorem comp_pure {st : MH → Prop} {turn : PV → MH → (Option PV → MH → Prop) → Prop} {h : MH} (f : PV → Option PV) (hs : st h) : ∀ {xs : List PV} {K : List PV → MH → Prop}, (∀ x ∈ xs, ∀ R : Option PV → MH → Prop, R (f x) h → turn x h R) → K (xs.filterMap f) h → compW st turn xs h K
  | [], _, _, k => ⟨hs, k⟩
  | x :: r, K, ht, k => by
    refine ⟨hs, ht x (List.mem_cons_self ..) _ ?_⟩
    refine comp_pure f hs (fun y hy => ht y (List.mem_cons_of_mem _ hy)) ?_
    cases e : f x with
    | none => rw [List.filterMap_cons_none e] at k; exact k
    | some y => rw [List.filterMap_cons_some e] at k; exact k
theorem while_inv {c : Env → MH → (Bool → MH → Prop) → Prop} {body : Env → MH → En → Prop} {D : En} (I : Nat → Env → MH → Prop) (step : ∀ n e h (N : Env → MH → Prop), I n e h → (∀ e' h' m, m < n → I m e' h' → N e' h') → c e h fun k h1 => if k = true then body e h1 { D with nx := N, ct := N, bk := D.nx } else D.nx e h1)
    (mc : ∀ e h Q Q', (∀ v h, Q v h → Q' v h) → c e h Q → c e h Q') (mb : ∀ e h D D', EnLe D D' → body e h D → body e h D') : ∀ (n : Nat) (env : Env) (h : MH), I n env h → whileW c body D (n + 1) env h := by
  have up : ∀ n env h, whileW c body D n env h → whileW c body D (n + 1) env h := by
    intro n
    induction n with
    | zero => intro _ _ z; exact z.elim
    | succ n ih =>
      intro env h z
      refine mc _ _ _ _ (fun k h1 q => ?_) z
      cases k with
      | true =>
        have le : EnLe { D with nx := whileW c body D n, ct := whileW c body D n, bk := D.nx } { D with nx := whileW c body D (n + 1), ct := whileW c body D (n + 1), bk := D.nx } :=
          ⟨fun e' h' q => ih e' h' q, fun _ _ q => q, fun _ _ q => q, fun e' h' q => ih e' h' q⟩
        exact mb _ _ _ _ le q
      | false => exact q
  have upm : ∀ m n env h, n ≤ m → whileW c body D n env h → whileW c body D m env h := by
    intro m
    induction m with
    | zero => intro n env h le z; cases n with
      | zero => exact z
      | succ n => omega
    | succ m ih =>
      intro n env h le z
      by_cases e : n = m + 1
      · subst e; exact z
      · exact up _ _ _ (ih n env h (by omega) z)
  intro n
  induction n using Nat.strongRecOn with
  | ind n ih =>
    intro env h hI
    exact step n env h _ hI fun e' h' m hm hI' => upm n (m + 1) e' h' (by omega) (ih m hm e' h' hI')
theorem comp_inv0 {st : MH → Prop} {turn : PV → MH → (Option PV → MH → Prop) → Prop} : ∀ {xs : List PV} {h : MH} {K : List PV → MH → Prop} (I : Nat → List PV → MH → Prop) (i0 : Nat) (acc0 : List PV), I i0 acc0 h → (∀ i acc h, I i acc h → st h) →
    (∀ i x acc h (R : Option PV → MH → Prop), xs[i - i0]? = some x → i0 ≤ i → I i acc h → (∀ o h', I (i + 1) (acc ++ o.toList) h' → R o h') → turn x h R) → (∀ acc h', I (i0 + xs.length) (acc0 ++ acc) h' → K acc h') → compW st turn xs h K
  | [], h, K, I, i0, acc0, h0, hs, _, fin => ⟨hs _ _ _ h0, fin [] h (by simpa using h0)⟩
  | x :: r, h, K, I, i0, acc0, h0, hs, step, fin => by
    refine ⟨hs _ _ _ h0, step i0 x acc0 h _ (by simp) (Nat.le_refl _) h0 fun o h' h1 => ?_⟩
    refine comp_inv0 I (i0 + 1) (acc0 ++ o.toList) h1 hs (fun i y acc h R hy hi hI k => ?_) (fun acc h' z => ?_)
    · refine step i y acc h R ?_ (by omega) hI k
      have : i - i0 = (i - (i0 + 1)) + 1 := by omega
      rw [this, List.getElem?_cons_succ]
      exact hy
    · refine fin _ _ ?_
      rw [List.length_cons, ← List.append_assoc]
      rwa [Nat.add_assoc, Nat.add_comm 1] at z
theorem comp_inv {st : MH → Prop} {turn : PV → MH → (Option PV → MH → Prop) → Prop} {xs : List PV} {h : MH} {K : List PV → MH → Prop} (I : Nat → List PV → MH → Prop) (h0 : I 0 [] h) (hs : ∀ i acc h, I i acc h → st h)
    (step : ∀ i x acc h (R : Option PV → MH → Prop), xs[i]? = some x → I i acc h → (∀ o h', I (i + 1) (acc ++ o.toList) h' → R o h') → turn x h R) (fin : ∀ acc h', I xs.length acc h' → K acc h') : compW st turn xs h K :=
  comp_inv0 I 0 [] h0 hs (fun i x acc h R hx _ hI k => step i x acc h R (by simpa using hx) hI k) (fun acc h' z => fin acc h' (by simpa using z))
end MP
set_option Elab.async false
set_option linter.all false
set_option maxRecDepth 100000
set_option maxHeartbeats 1000000
namespace MP
open PySem L2
mutual
def leaf (B : Nat) : PV → Bool
  | .non | .bl _ => true
  | .int i => decide (i.natAbs ≤ B)
  | .str x => x.cps.toList.all fun c => decide (c < 16 ^ 8)
  | .tup xs | .lst xs => leafs B xs
  | .dct ks vs => leafs B ks && leafs B vs
  | .loc _ | .fn _ | .cst _ | .dtt _ _ => false
def leafs (B : Nat) : List PV → Bool
  | [] => true
  | x :: r => leaf B x && leafs B r
end
structure P1 (B d : Nat) (v : PV) : Prop where
  lf : leaf B v = true
  dp : (toD v).depth ≤ d
def wt (v : PV) : Nat := (toD v).weight
def wts (xs : List PV) : Nat := PyData.weightAll (toDs xs)
@[simp] theorem wts_nil : wts [] = 0 := by simp [wts, toDs, PyData.weightAll]
@[simp] theorem wts_cons {x : PV} {r : List PV} : wts (x :: r) = wt x + 1 + wts r := by simp [wts, wt, toDs, PyData.weightAll]
@[simp] theorem wts_append : ∀ {xs ys : List PV}, wts (xs ++ ys) = wts xs + wts ys
  | [], ys => by simp
  | x :: r, ys => by
    have e := @wts_append r ys
    simp only [List.cons_append, wts_cons, e]; omega
@[simp] theorem wt_tup {xs : List PV} : wt (.tup xs) = wts xs := by simp [wt, wts, toD, PyData.weight]
@[simp] theorem wt_lst {xs : List PV} : wt (.lst xs) = wts xs := by simp [wt, wts, toD, PyData.weight]
@[simp] theorem wt_non : wt .non = 0 := by simp [wt, toD, PyData.weight]
@[simp] theorem wt_bl {b : Bool} : wt (.bl b) = 0 := by simp [wt, toD, PyData.weight]
theorem wt_str {x : Str} : wt (.str x) = x.length := by simp only [wt, toD, PyData.weight]; rfl
theorem wt_int {i : Int} {k : Nat} (h : i.natAbs < 2 ^ k) : wt (.int i) ≤ k := by
  simp only [wt, toD, PyData.weight]
  split
  · omega
  · rename_i z
    have hz : i.natAbs ≠ 0 := by intro y; apply z; simp [Int.natAbs_eq_zero.mp y]
    have := (Nat.log2_lt hz).mpr h
    omega
@[simp] theorem wt_dct0 : wt (.dct [] []) = 0 := by simp [wt, toD, toDs, PyData.weight, PyData.weightKv]
@[simp] theorem wt_dct1 {x y : PV} : wt (.dct [x] [y]) = wt x + wt y + 2 := by simp [wt, toD, toDs, PyData.weight, PyData.weightKv]
theorem wts_take (xs : List PV) (n : Nat) : wts (xs.take n) ≤ wts xs := by
  have e : wts (xs.take n ++ xs.drop n) = wts xs := by rw [List.take_append_drop]
  rw [wts_append] at e; omega
theorem wts_drop (xs : List PV) (n : Nat) : wts (xs.drop n) ≤ wts xs := by
  have e : wts (xs.take n ++ xs.drop n) = wts xs := by rw [List.take_append_drop]
  rw [wts_append] at e; omega
theorem wts_rev (xs : List PV) : wts xs.reverse = wts xs := by
  induction xs with
  | nil => rfl
  | cons x r ih => simp [ih]; omega
theorem len_wts (xs : List PV) : xs.length ≤ wts xs := by
  induction xs with
  | nil => simp
  | cons x r ih => simp; omega
theorem wt_mem {x : PV} {xs : List PV} (h : x ∈ xs) : wt x + 1 ≤ wts xs := by
  induction xs with
  | nil => cases h
  | cons y r ih =>
    rcases List.mem_cons.mp h with e | e
    · subst e; simp
    · have := ih e; simp; omega
theorem int_shows {i : Int} (h : i.natAbs < 10 ^ 59) : (PyData.int i).leavesShort 60 = true ∧ (PyData.int i).showable = true := by
  constructor
  · simp only [PyData.leavesShort, decide_eq_true_eq]
    have e := int_text_length_le10 (k := 59) (by decide) h
    show (Str.ofString (toString i)).length ≤ 60
    rw [ofString_length]; exact e
  · simp only [PyData.showable, decide_eq_true_eq]
    by_cases z : i.natAbs = 0
    · rw [z]; decide
    · refine (Nat.log2_lt z).mpr (Nat.lt_of_lt_of_le h ?_)
      exact Nat.le_trans (Nat.pow_le_pow_left (show 10 ≤ 2 ^ 4 by decide) 59) (by rw [← Nat.pow_mul]; exact Nat.pow_le_pow_right (by decide) (by decide))
mutual
theorem leaf_ok {B : Nat} (hB : B < 10 ^ 59) : ∀ v : PV, leaf B v = true → pur v = true ∧ (toD v).leavesShort 60 = true ∧ (toD v).showable = true
  | .non, _ => ⟨rfl, rfl, rfl⟩
  | .bl _, _ => ⟨rfl, rfl, rfl⟩
  | .int i, h => by
    simp only [leaf, decide_eq_true_eq] at h
    exact ⟨rfl, int_shows (Nat.lt_of_le_of_lt h hB)⟩
  | .str x, h => ⟨rfl, by simpa only [leaf, toD, PyData.leavesShort] using h, rfl⟩
  | .tup xs, h => by
    obtain ⟨a, b, c⟩ := leafs_ok hB xs (by simpa only [leaf] using h)
    exact ⟨a, b, c⟩
  | .lst xs, h => by
    obtain ⟨a, b, c⟩ := leafs_ok hB xs (by simpa only [leaf] using h)
    exact ⟨a, b, c⟩
  | .dct ks vs, h => by
    simp only [leaf, Bool.and_eq_true] at h
    obtain ⟨a, b, c⟩ := leafs_ok hB ks h.1
    obtain ⟨a2, b2, c2⟩ := leafs_ok hB vs h.2
    have z1 : ∀ xs ys : List PyData, PyData.leavesShortAll 60 xs = true → PyData.leavesShortAll 60 ys = true → PyData.leavesShortKv 60 (xs.zip ys) = true := by
      intro xs
      induction xs with
      | nil => intro _ _ _; rfl
      | cons x r ih =>
        intro ys h1 h2
        cases ys with
        | nil => rfl
        | cons y s =>
          simp only [PyData.leavesShortAll, Bool.and_eq_true] at h1 h2
          simp only [List.zip_cons_cons, PyData.leavesShortKv, Bool.and_eq_true]
          exact ⟨⟨h1.1, h2.1⟩, ih s h1.2 h2.2⟩
    have z2 : ∀ xs ys : List PyData, PyData.showableAll xs = true → PyData.showableAll ys = true → PyData.showableKv (xs.zip ys) = true := by
      intro xs
      induction xs with
      | nil => intro _ _ _; rfl
      | cons x r ih =>
        intro ys h1 h2
        cases ys with
        | nil => rfl
        | cons y s =>
          simp only [PyData.showableAll, Bool.and_eq_true] at h1 h2
          simp only [List.zip_cons_cons, PyData.showableKv, Bool.and_eq_true]
          exact ⟨⟨h1.1, h2.1⟩, ih s h1.2 h2.2⟩
    exact ⟨by simp [pur, a, a2], z1 _ _ b b2, z2 _ _ c c2⟩
  | .loc _, h => by simp only [leaf] at h; cases h
  | .fn _, h => by simp only [leaf] at h; cases h
  | .cst _, h => by simp only [leaf] at h; cases h
  | .dtt _ _, h => by simp only [leaf] at h; cases h
theorem leafs_ok {B : Nat} (hB : B < 10 ^ 59) : ∀ xs : List PV, leafs B xs = true → purs xs = true ∧ PyData.leavesShortAll 60 (toDs xs) = true ∧ PyData.showableAll (toDs xs) = true
  | [], _ => ⟨rfl, rfl, rfl⟩
  | x :: r, h => by
    simp only [leafs, Bool.and_eq_true] at h
    obtain ⟨a, b, c⟩ := leaf_ok hB x h.1
    obtain ⟨a2, b2, c2⟩ := leafs_ok hB r h.2
    simp [purs, toDs, PyData.leavesShortAll, PyData.showableAll, a, b, c, a2, b2, c2]
end
mutual
theorem leaf_pur {B : Nat} : ∀ v : PV, leaf B v = true → pur v = true
  | .non, _ => rfl
  | .bl _, _ => rfl
  | .int i, h => rfl
  | .str x, h => rfl
  | .tup xs, h => leafs_pur xs (by simpa only [leaf] using h)
  | .lst xs, h => leafs_pur xs (by simpa only [leaf] using h)
  | .dct ks vs, h => by
    simp only [leaf, Bool.and_eq_true] at h
    simp [pur, leafs_pur ks h.1, leafs_pur vs h.2]
  | .loc _, h => by simp only [leaf] at h; cases h
  | .fn _, h => by simp only [leaf] at h; cases h
  | .cst _, h => by simp only [leaf] at h; cases h
  | .dtt _ _, h => by simp only [leaf] at h; cases h
theorem leafs_pur {B : Nat} : ∀ xs : List PV, leafs B xs = true → purs xs = true
  | [], _ => rfl
  | x :: r, h => by
    simp only [leafs, Bool.and_eq_true] at h
    simp [purs, leaf_pur x h.1, leafs_pur r h.2]
end
mutual
theorem leaf_mono {B B' : Nat} (hB : B ≤ B') : ∀ v : PV, leaf B v = true → leaf B' v = true
  | .non, _ => rfl
  | .bl _, _ => rfl
  | .int i, h => by simp only [leaf, decide_eq_true_eq] at h ⊢; omega
  | .str x, h => h
  | .tup xs, h => by simp only [leaf] at h ⊢; exact leafs_mono hB xs h
  | .lst xs, h => by simp only [leaf] at h ⊢; exact leafs_mono hB xs h
  | .dct ks vs, h => by
    simp only [leaf, Bool.and_eq_true] at h ⊢
    exact ⟨leafs_mono hB ks h.1, leafs_mono hB vs h.2⟩
  | .loc _, h => by simp only [leaf] at h; cases h
  | .fn _, h => by simp only [leaf] at h; cases h
  | .cst _, h => by simp only [leaf] at h; cases h
  | .dtt _ _, h => by simp only [leaf] at h; cases h
theorem leafs_mono {B B' : Nat} (hB : B ≤ B') : ∀ xs : List PV, leafs B xs = true → leafs B' xs = true
  | [], _ => rfl
  | x :: r, h => by
    simp only [leafs, Bool.and_eq_true] at h ⊢
    exact ⟨leaf_mono hB x h.1, leafs_mono hB r h.2⟩
end
section
variable {B d : Nat} {v x y : PV} {xs : List PV}
theorem P1.pu (p : P1 B d v) : pur v = true := leaf_pur v p.lf
theorem P1.mono {B' d' : Nat} (p : P1 B d v) (hB : B ≤ B') (h : d ≤ d') : P1 B' d' v := ⟨leaf_mono hB v p.lf, Nat.le_trans p.dp h⟩
theorem P1s : ∀ {xs : List PV}, (∀ x ∈ xs, P1 B d x) ↔ (leafs B xs = true ∧ PyData.depthAll (toDs xs) ≤ d)
  | [] => by simp [leafs, toDs, PyData.depthAll]
  | x :: r => by
    have ih := @P1s r
    simp only [leafs, toDs, PyData.depthAll, Bool.and_eq_true, List.mem_cons, forall_eq_or_imp]
    constructor
    · rintro ⟨p, q⟩
      obtain ⟨a, e⟩ := ih.mp q
      exact ⟨⟨p.lf, a⟩, Nat.max_le.mpr ⟨p.dp, e⟩⟩
    · rintro ⟨⟨a1, a2⟩, e⟩
      have e := Nat.max_le.mp e
      exact ⟨⟨a1, e.1⟩, ih.mpr ⟨a2, e.2⟩⟩
theorem P1.tup (h : ∀ x ∈ xs, P1 B d x) : P1 B (d + 1) (.tup xs) := by
  obtain ⟨a, e⟩ := P1s.mp h
  exact ⟨by simpa only [leaf] using a, Nat.succ_le_succ e⟩
theorem P1.lst (h : ∀ x ∈ xs, P1 B d x) : P1 B (d + 1) (.lst xs) := by
  obtain ⟨a, e⟩ := P1s.mp h
  exact ⟨by simpa only [leaf] using a, Nat.succ_le_succ e⟩
theorem P1.of_tup (h : P1 B (d + 1) (.tup xs)) : ∀ x ∈ xs, P1 B d x := P1s.mpr ⟨by simpa only [leaf] using h.lf, Nat.le_of_succ_le_succ h.dp⟩
theorem P1.of_lst (h : P1 B (d + 1) (.lst xs)) : ∀ x ∈ xs, P1 B d x := P1s.mpr ⟨by simpa only [leaf] using h.lf, Nat.le_of_succ_le_succ h.dp⟩
theorem P1.tup_depth (h : P1 B d (.tup xs)) : ∃ e, d = e + 1 := by
  have q := h.dp
  simp only [toD, PyData.depth] at q
  exact ⟨d - 1, by omega⟩
theorem P1.lst_depth (h : P1 B d (.lst xs)) : ∃ e, d = e + 1 := by
  have q := h.dp
  simp only [toD, PyData.depth] at q
  exact ⟨d - 1, by omega⟩
theorem P1.dct0 : P1 B (d + 1) (.dct [] []) := ⟨rfl, by simp [toD, toDs, PyData.depth, PyData.depthKv]⟩
theorem P1.dct1 (p : P1 B d x) (q : P1 B d y) : P1 B (d + 1) (.dct [x] [y]) := by
  refine ⟨by simp [leaf, leafs, p.lf, q.lf], ?_⟩
  have := p.dp
  have := q.dp
  simp only [toD, toDs, PyData.depth, PyData.depthKv, List.zip_cons_cons, List.zip_nil_right]
  omega
theorem P1.non : P1 B d .non := ⟨rfl, Nat.zero_le _⟩
theorem P1.bl {b : Bool} : P1 B d (.bl b) := ⟨rfl, Nat.zero_le _⟩
theorem P1.int {i : Int} (h : i.natAbs ≤ B) : P1 B d (.int i) := ⟨by simpa only [leaf, decide_eq_true_eq] using h, Nat.zero_le _⟩
theorem P1.of_int {i : Int} (h : P1 B d (.int i)) : i.natAbs ≤ B := by simpa only [leaf, decide_eq_true_eq] using h.lf
theorem P1.str {x : Str} (h : ∀ c ∈ x.cps.toList, c < 16 ^ 8) : P1 B d (.str x) := ⟨by simpa only [leaf, List.all_eq_true, decide_eq_true_eq] using h, Nat.zero_le _⟩
theorem P1.shown (p : P1 B d v) (hB : B < 10 ^ 59) (hd : d ≤ 64) (hw : 62 * wt v + 60 ≤ sizeLine) : reprOk v := by
  obtain ⟨a, b, c⟩ := leaf_ok hB v p.lf
  have l := PyData.shown_le 60 (by decide) (toD v) b
  exact ⟨a, c, Nat.le_trans p.dp hd, Nat.le_trans l hw⟩
end
theorem cutP_lo (xs : List PV) {i : Int} (h0 : 0 ≤ i) : slcW.cutP xs none (some i) = xs.take i.toNat := by
  have e : HT.sIx xs.length xs.length (some i) = min i.toNat xs.length := by
    show (if i < 0 then _ else min i.toNat xs.length) = _
    rw [if_neg (by omega)]
  unfold slcW.cutP
  rw [e, HT.sIx_none]
  simp only [List.drop_zero, Nat.sub_zero]
  rcases Nat.le_total i.toNat xs.length with h | h
  · rw [Nat.min_eq_left h]
  · rw [Nat.min_eq_right h, List.take_length, List.take_of_length_le h]
theorem cutP_hi (xs : List PV) {i : Int} (h0 : 0 ≤ i) : slcW.cutP xs (some i) none = xs.drop i.toNat := by
  have e : HT.sIx xs.length 0 (some i) = min i.toNat xs.length := by
    show (if i < 0 then _ else min i.toNat xs.length) = _
    rw [if_neg (by omega)]
  unfold slcW.cutP
  rw [e, HT.sIx_none]
  rcases Nat.le_total i.toNat xs.length with h | h
  · rw [Nat.min_eq_left h, List.take_of_length_le (by rw [List.length_drop]; omega)]
  · rw [Nat.min_eq_right h, Nat.sub_self, List.take_zero, List.drop_of_length_le h]
theorem cutP_mid (xs : List PV) {i j : Int} (h0 : 0 ≤ i) (h1 : 0 ≤ j) : slcW.cutP xs (some i) (some j) = (xs.drop i.toNat).take (j.toNat - i.toNat) := by
  have e : HT.sIx xs.length 0 (some i) = min i.toNat xs.length := by
    show (if i < 0 then _ else min i.toNat xs.length) = _
    rw [if_neg (by omega)]
  have e2 : HT.sIx xs.length xs.length (some j) = min j.toNat xs.length := by
    show (if j < 0 then _ else min j.toNat xs.length) = _
    rw [if_neg (by omega)]
  unfold slcW.cutP
  rw [e, e2]
  rcases Nat.le_total i.toNat xs.length with h | h
  · rw [Nat.min_eq_left h]
    rcases Nat.le_total j.toNat xs.length with g | g
    · rw [Nat.min_eq_left g]
    · rw [Nat.min_eq_right g, List.take_of_length_le (by rw [List.length_drop]; omega), List.take_of_length_le (by rw [List.length_drop]; omega)]
  · rw [Nat.min_eq_right h, List.drop_of_length_le (Nat.le_refl _), List.drop_of_length_le h]; simp
theorem boolsP_map : ∀ bs : List Bool, boolsP (bs.map PV.bl) = some bs
  | [] => rfl
  | b :: r => by simp [boolsP, boolsP_map r]
theorem toDs_ints : ∀ ns : List Int, toDs (ns.map PV.int) = ns.map PyData.int
  | [] => rfl
  | n :: r => by simp [toDs, toD, toDs_ints r]
theorem purs_ints : ∀ ns : List Int, purs (ns.map PV.int) = true
  | [] => rfl
  | n :: r => by simp [purs, pur, purs_ints r]
theorem eqv_ints : ∀ as bs : List Int, PyData.eqvAll (as.map .int) (bs.map .int) = decide (as = bs)
  | [], [] => rfl
  | [], _ :: _ => rfl
  | _ :: _, [] => rfl
  | a :: r, b :: s => by
    have ih := eqv_ints r s
    simp only [List.map_cons, PyData.eqvAll, PyData.eqv, ih]
    rw [Bool.eq_iff_iff]; simp
theorem eqOk_lints (ns : List Int) : eqOk (.lst (ns.map .int)) := by
  refine ⟨purs_ints ns, ?_⟩
  have c : ∀ ns : List Int, PyData.canLayAll0 (toDs (ns.map PV.int)) = true ∧ PyData.depthAll (toDs (ns.map PV.int)) = 0 := by
    intro ns
    induction ns with
    | nil => exact ⟨rfl, rfl⟩
    | cons n r ih => simp [toDs, toD, PyData.canLayAll0, PyData.canLay0, PyData.depthAll, PyData.depth, ih.1, ih.2]
  unfold SeqAt.shaped
  simp only [toD, PyData.canLay0, PyData.depth, (c ns).1, (c ns).2]
  decide
theorem eqP_lints (as bs : List Int) : eqP (.lst (as.map .int)) (.lst (bs.map .int)) = decide (as = bs) := by
  simp only [eqP, toD, PyData.eqv, toDs_ints]
  exact eqv_ints as bs
end MP
set_option Elab.async false
set_option linter.all false
namespace MP
open PySem PySem.Spec PyProof.Rows L2
theorem kit_ref {K : KF} {C D : Addr} {b : Bool} (ne : (Value.ref C == Value.ref D) = false) (hd : PySem.W.hasDictIn K D = true) (ht : PySem.W.typeIn K (.ref D) = some (.type "type")) (h4 : PySem.W.subIn K (.ref C) (.ref D) = some b) : PySem.W.kitOne K (.ref C) (.ref D) = some b := by
  obtain ⟨cd, hc, _⟩ := PySem.W.any_some hd
  have e2 : ((PySem.W.clsIn K D).isSome && PySem.W.typeIn K (.ref D) == some (.type "type")) = true := by rw [hc, ht] <;> rfl
  unfold PySem.W.kitOne PySem.W.kitCls
  rw [if_neg (by rw [ne]; decide)]
  dsimp only
  rw [if_pos e2]
  exact h4
theorem kit_self {K : KF} {t : Addr} : PySem.W.kitOne K (.ref t) (.ref t) = some true := by
  unfold PySem.W.kitOne
  rw [if_pos (by simp)]
theorem kit_ve {K : KF} {C : Addr} (h : PySem.W.subIn K (.ref C) (.type "ValueError") = some true) : PySem.W.kitOne K (.ref C) (.type "ValueError") = some true := by
  unfold PySem.W.kitOne PySem.W.kitCls
  rw [if_neg (by simp)]
  dsimp only
  rw [if_pos (by decide +kernel)]
  exact h
end MP
set_option Elab.async false
set_option linter.all false
set_option maxRecDepth 100000
set_option maxHeartbeats 1000000
namespace MP
open PySem L2
def d_is_whole : Df := ⟨["thing"], 1, .cons (.ret (.and (.isi (.var 0) "int") (.not (.isi (.var 0) "bool")))) .nil⟩
def d_is_order : Df := ⟨["many", "thing", "one"], 2, .cons (.ife (.or (.not (.isi (.var 1) "tuple")) (.or (.cmp .NotEq (.blt .len (.cons (.var 1) .nil)) (.var 0)) (.not (.blt .all (.cons (.comp false (.call "is_whole" (.cons (.var 2) .nil)) (.name 2) (.seq (.var 1)) .none) .nil))))) (.cons (.ret (.bl false)) .nil) (.nil)) (.cons (.ret (.cmp .Eq (.con .sorted false (.seq (.var 1))) (.con .list false (.rng1 (.var 0))))) .nil)⟩
def d__law_deck : Df := ⟨["script", "k", "cell"], 2, .cons (.asg (.name 2) (.int 0)) (.cons (.ife (.cmp .Lt (.var 1) (.blt .len (.cons (.var 0) .nil))) (.cons (.asg (.name 2) (.blt .max2 (.cons (.int 0) (.cons (.idx (.var 0) (.var 1)) .nil)))) .nil) (.nil)) (.cons (.ret (.lst true (.cons (.bin .Mult (.var 2) (.blt .int (.cons (.cmp .GtE (.var 2) (.bin .Pow (.int 10) (.int 18))) .nil))) (.cons (.bin .Add (.bin .Mod (.var 2) (.int 2147483647)) (.bin .Mult (.int 7907) (.var 1))) (.cons (.int 0) .nil))))) .nil))⟩
def d__law_draw : Df := ⟨["deck", "most", "digit", "number"], 2, .cons (.ife (.cmp .Gt (.idx (.var 0) (.int 0)) (.int 0)) (.cons (.asg (.name 2) (.bin .Mod (.idx (.var 0) (.int 0)) (.var 1))) (.cons (.sub (.var 0) (.int 0) (.bin .FloorDiv (.idx (.var 0) (.int 0)) (.var 1))) (.cons (.ret (.var 2)) .nil))) (.nil)) (.cons (.sub (.var 0) (.int 2) (.bin .Add (.idx (.var 0) (.int 2)) (.int 1))) (.cons (.asg (.name 3) (.bin .Mod (.bin .Mult (.bin .Add (.idx (.var 0) (.int 1)) (.bin .Mult (.int 104723) (.idx (.var 0) (.int 2)))) (.int 48271)) (.int 2147483647))) (.cons (.asg (.name 3) (.bin .Mod (.bin .Add (.bin .Add (.bin .Mult (.var 3) (.var 3)) (.bin .Mult (.int 69621) (.idx (.var 0) (.int 2)))) (.int 17)) (.int 2147483629))) (.cons (.ret (.bin .Mod (.bin .FloorDiv (.bin .Mod (.bin .Add (.bin .Mult (.var 3) (.var 3)) (.int 32749)) (.int 2147483587)) (.int 8)) (.var 1))) .nil))))⟩
def d__law_turn : Df := ⟨["deck", "many", "left", "found", "k"], 2, .cons (.asg (.name 2) (.con .list true (.rng1 (.var 1)))) (.cons (.asg (.name 3) (.lst true (.nil))) (.cons (.for (.name 4) (.rng1 (.var 1)) (.cons (.ex (.meth (.var 3) .append (.cons (.meth (.var 2) .pop1 (.cons (.call "_law_draw" (.cons (.var 0) (.cons (.blt .len (.cons (.var 2) .nil)) .nil))) .nil)) .nil))) .nil)) (.cons (.ret (.con .tuple false (.seq (.var 3)))) .nil)))⟩
def d__law_whole : Df := ⟨["thing"], 1, .cons (.ret (.and (.isi (.var 0) "int") (.not (.isi (.var 0) "bool")))) .nil⟩
variable {tab : Str → Option Df} {k : Nat} {h : MH} {Q : Post} {E : XQ}
def whole : PV → Bool
  | .int _ => true
  | _ => false
theorem whole_eq (v : PV) : (isTb "int" v && !isTb "bool" v) = whole v := by cases v <;> rfl
theorem is_whole_ok (ht : tab "is_whole" = some d_is_whole) {v : PV} (hv : pur v = true) (q : Q (.bl (whole v)) h) : callW tab (k + 1) "is_whole" [v] h Q E := by
  refine call_body ht rfl ?_
  rw [d_is_whole, w_ret]
  simp only [startE]
  simp [isi_eq hv, tyB]
  have e := whole_eq v
  split <;> (refine ret_same ?_; simp_all)
theorem law_draw_ok (ht : tab "_law_draw" = some d__law_draw) {p : Addr} {a b c m : Int} (hp : h p = some (.lst [.int a, .int b, .int c])) (h1 : 0 < m) (h2 : m < 1073741824)
    (q : ∀ r a' b' c', 0 ≤ r → r < m → Q (.int r) (h.put p (.lst [.int a', .int b', .int c']))) : callW tab (k + 1) "_law_draw" [.loc p, .int m] h Q E := by
  refine call_body ht rfl ?_
  rw [d__law_draw, w_ife]
  simp only [startE]
  simp [idx_p hp]
  split
  · rw [w_asg]
    simp [idx_p hp, h1]
    rw [w_sub]
    simp [idx_p hp, h1, h2, subW, hp, L2.ixN]
    refine ⟨.inl (by omega), ?_⟩
    rw [w_ret]
    simp
    exact ret_same (q _ _ _ _ (Int.emod_nonneg _ (by omega)) (Int.emod_lt_of_pos _ h1))
  · rw [w_nil]
    simp
    rw [w_sub]
    simp [idx_p hp, h1, h2, subW, hp, L2.ixN]
    rw [w_asg]
    simp [idx_p put_at, h1, h2]
    rw [w_asg]
    simp [idx_p put_at, h1, h2]
    refine ⟨by omega, ?_⟩
    rw [w_ret]
    simp [h1]
    refine ⟨by omega, ret_same (q _ _ _ _ (Int.emod_nonneg _ (by omega)) (Int.emod_lt_of_pos _ h1))⟩
theorem atI_ints {ns : List Int} {i : Int} (h0 : 0 ≤ i) (h1 : i < ns.length) : ∃ z, L2.atI (ns.map PV.int) i = some (.int z) := by
  rw [atI_int _ h0, List.getElem?_map, List.getElem?_eq_getElem (by omega)]
  exact ⟨_, rfl⟩
theorem law_deck_ok (ht : tab "_law_deck" = some d__law_deck) {ns : List Int} {i : Int} (h0 : 0 ≤ i)
    (q : ∀ p a b, h p = none → Q (.loc p) (h.put p (.lst [.int a, .int b, .int 0]))) : callW tab (k + 1) "_law_deck" [.lst (ns.map PV.int), .int i] h Q E := by
  refine call_body ht rfl ?_
  rw [d__law_deck, w_asg]
  simp only [startE]
  simp
  rw [w_ife]
  simp
  have fin : ∀ (c : Int), wpSs (callW tab k) (fun e x h' => retX E e h') (.cons (.ret (.lst true (.cons (.bin .Mult (.var 2) (.blt .int (.cons (.cmp .GtE (.var 2) (.bin .Pow (.int 10) (.int 18))) .nil))) (.cons (.bin .Add (.bin .Mod (.var 2) (.int 2147483647)) (.bin .Mult (.int 7907) (.var 1))) (.cons (.int 0) .nil))))) .nil)
      [some (.lst (ns.map PV.int)), some (.int i), some (.int c)] h { nx := fun x h' => retW Q PV.non h', rt := retW Q } := by
    intro c
    rw [w_ret]
    simp
    refine ⟨by right; left; split <;> decide, by decide, fun p hp => ?_⟩
    exact ret_same (q p _ _ hp)
  split
  · rename_i hi
    obtain ⟨z, hz⟩ := atI_ints h0 hi
    rw [w_asg]
    simp [hz]
    rw [w_nil]
    exact fin _
  · rw [w_nil]
    exact fin _
theorem law_whole_ok (ht : tab "_law_whole" = some d__law_whole) {v : PV} (hv : pur v = true) (q : Q (.bl (whole v)) h) : callW tab (k + 1) "_law_whole" [v] h Q E := by
  refine call_body ht rfl ?_
  rw [d__law_whole, w_ret]
  simp only [startE]
  simp [isi_eq hv, tyB]
  have e := whole_eq v
  split <;> (refine ret_same ?_; simp_all)
structure Ap3 (p q r : Addr) : Prop where
  pq : p ≠ q
  pr : p ≠ r
  qr : q ≠ r
def H3 (h : MH) (p q r : Addr) (x y z : Cell) : MH := ((h.put p x).put q y).put r z
section
variable {p q r : Addr} {x y z w : Cell} (A : Ap3 p q r)
include A
theorem H3.at1 : H3 h p q r x y z p = some x := by unfold H3; rw [put_off A.pr, put_off A.pq, put_at]
theorem H3.at2 : H3 h p q r x y z q = some y := by unfold H3; rw [put_off A.qr, put_at]
theorem H3.at3 : H3 h p q r x y z r = some z := by unfold H3; rw [put_at]
theorem H3.put1 : (H3 h p q r x y z).put p w = H3 h p q r w y z := by
  unfold H3; rw [put_comm (Ne.symm A.pr), put_comm (Ne.symm A.pq), put_put]
theorem H3.put2 : (H3 h p q r x y z).put q w = H3 h p q r x w z := by
  unfold H3; rw [put_comm (Ne.symm A.qr), put_put]
theorem H3.put3 : (H3 h p q r x y z).put r w = H3 h p q r x y w := by
  unfold H3; rw [put_put]
theorem H3.le (hq : h q = none) (hr : h r = none) : HLe (h.put p x) (H3 h p q r x y z) := by
  unfold H3
  exact hle_put (by rw [put_off (Ne.symm A.pr)]; exact hr) (hle_put (by rw [put_off (Ne.symm A.pq)]; exact hq) hle_refl)
end
theorem put_self {p : Addr} {c : Cell} (e : h p = some c) : h.put p c = h := by
  funext a
  unfold MH.put
  by_cases z : a = p
  · subst z; rw [if_pos rfl, e]
  · rw [if_neg z]
theorem ne_of_h {p q : Addr} {c : Cell} (e : h p = some c) (n : h q = none) : p ≠ q := fun z => by subst z; rw [e] at n; cases n
def nats (os : List Nat) : List PV := os.map fun o => .int (o : Nat)
theorem rngV_nat (m : Nat) : rngV 0 (m : Int) = nats (List.range m) := by
  unfold rngV nats
  simp
theorem map_erase {α β : Type} (f : α → β) : ∀ (xs : List α) (i : Nat), (xs.map f).eraseIdx i = (xs.eraseIdx i).map f
  | [], _ => rfl
  | _ :: _, 0 => rfl
  | x :: r, i + 1 => by simp [map_erase f r i]
theorem erase_perm {α : Type} : ∀ {xs : List α} {i : Nat} (h : i < xs.length), (xs[i] :: xs.eraseIdx i).Perm xs
  | x :: r, 0, _ => List.Perm.refl _
  | x :: r, i + 1, h => by
    have q := erase_perm (xs := r) (i := i) (by simpa using h)
    simp only [List.getElem_cons_succ, List.eraseIdx_cons_succ]
    exact (List.Perm.swap _ _ _).trans (q.cons x)
theorem seqIdx_nat {r : Int} {n : Nat} (h0 : 0 ≤ r) (h1 : r < n) : seqIndex? r n = some r.toNat := by
  have n : ¬ r < 0 := by omega
  unfold seqIndex?
  simp [n, h0, h1]
theorem law_turn_ok (ht : tab "_law_turn" = some d__law_turn) (hdr : tab "_law_draw" = some d__law_draw) {p : Addr} {a b c : Int} {m : Nat} (hp : h p = some (.lst [.int a, .int b, .int c])) (h1 : 1 ≤ m) (h2 : m ≤ 1000000)
    (q : ∀ (os : List Nat) a' b' c', os.Perm (List.range m) → Q (.tup (nats os)) (h.put p (.lst [.int a', .int b', .int c']))) : callW tab (k + 2) "_law_turn" [.loc p, .int m] h Q E := by
  refine call_body ht rfl ?_
  rw [d__law_turn, w_asg]
  simp only [startE]
  simp
  refine ⟨⟨by decide, by decide, by omega, by omega⟩, by rw [PySem.sizeLine_eq]; omega, by rw [rngV_nat]; unfold nats; rw [List.length_map, List.length_range, PySem.sizeLine_eq]; omega, fun p1 n1 => ?_⟩
  rw [w_asg]
  simp
  intro p2 n2
  have ne1 : p ≠ p1 := ne_of_h hp n1
  have ne2 : p2 ≠ p1 := fun z => by subst z; rw [put_at] at n2; cases n2
  rw [put_off ne2] at n2
  have A : Ap3 p p1 p2 := ⟨ne1, ne_of_h hp n2, ne2.symm⟩
  have e0 : (h.put p1 (.lst (rngV 0 m))).put p2 (.lst []) = H3 h p p1 p2 (.lst [.int a, .int b, .int c]) (.lst (nats (List.range m))) (.lst (nats [])) := by
    unfold H3; rw [put_self hp, rngV_nat]; rfl
  rw [e0]
  rw [w_for]
  simp
  refine ⟨⟨by decide, by decide, by omega, by omega⟩, by rw [PySem.sizeLine_eq]; omega, ?_⟩
  refine for_all (fun i e g => ∃ w a b c ls fs, e = [some (.loc p), some (.int m), some (.loc p1), some (.loc p2), w] ∧ g = H3 h p p1 p2 (.lst [.int a, .int b, .int c]) (.lst (nats ls)) (.lst (nats fs)) ∧ (ls ++ fs).Perm (List.range m) ∧ fs.length = i)
    ⟨_, a, b, c, _, [], rfl, rfl, by simp, rfl⟩ (fun _ _ _ _ => by simp) ?_ ?_
  · rintro i x e g N hx ⟨w, a, b, c, ls, fs, rfl, rfl, pm, lf⟩ hN
    have hi : i < m := by
      have := (List.getElem?_eq_some_iff.mp hx).1
      rwa [rngV_len, Int.sub_zero, Int.toNat_natCast] at this
    have ll : ls.length = m - i := by
      have := pm.length_eq
      rw [List.length_append, List.length_range] at this
      omega
    simp
    rw [w_ex]
    simp [H3.at3 A, H3.at2 A, b_lenp (H3.at2 A)]
    refine law_draw_ok hdr (H3.at1 A) (by simp [nats]; omega) (by simp [nats]; omega) fun r a' b' c' hr0 hr1 => ?_
    have lr : (nats ls).length = ls.length := by unfold nats; rw [List.length_map]
    rw [lr] at hr1
    have hj : r.toNat < ls.length := by omega
    rw [H3.put1 A]
    refine ⟨nats ls, r.toNat, .int (ls[r.toNat] : Nat), H3.at2 A, by omega, by omega, seqIdx_nat hr0 (by rw [lr]; exact hr1), by simp [nats, hj], ?_⟩
    rw [H3.put2 A]
    refine ⟨nats fs, H3.at3 A, by simp only [nats, List.length_map, PySem.sizeLine_eq]; omega, ?_⟩
    rw [H3.put3 A]
    refine w_end ?_
    refine hN _ _ ⟨_, a', b', c', ls.eraseIdx r.toNat, fs ++ [ls[r.toNat]], rfl, by simp [nats, map_erase], ?_, by simp [lf]⟩
    refine List.Perm.trans ?_ pm
    have e1 := erase_perm hj
    refine List.Perm.trans ?_ (e1.append_right fs)
    rw [← List.append_assoc]
    exact List.perm_append_comm
  · rintro e g ⟨w, a, b, c, ls, fs, rfl, rfl, pm, lf⟩
    have lm : fs.length = m := by rw [lf, rngV_len, Int.sub_zero, Int.toNat_natCast]
    have ll : ls = [] := by
      have := pm.length_eq
      rw [List.length_append, List.length_range] at this
      exact List.length_eq_zero_iff.mp (by omega)
    subst ll
    rw [List.nil_append] at pm
    simp
    rw [w_ret]
    simp [srcV_loc (H3.at3 A)]
    intro _
    refine ret_drop (h2 := h.put p (.lst [.int a, .int b, .int c])) (H3.le A n1 n2) ?_
    exact q fs a b c pm
end MP
set_option Elab.async false
set_option linter.all false
set_option maxRecDepth 100000
set_option maxHeartbeats 1000000
namespace MP
open PySem L2
variable {tab : Str → Option Df} {k : Nat} {h : MH} {Q : Post} {E : XQ}
theorem leP_int (a b : Int) : leP (.int a) (.int b) = decide (a ≤ b) := congrFun (congrFun (PySem.W.dataLe_int (fun z : Int => z)) a) b
theorem sort_ints (zs : List Int) : (zs.map PV.int).mergeSort leP = (zs.mergeSort (fun a b => decide (a ≤ b))).map PV.int :=
  (List.map_mergeSort fun a _ b _ => (leP_int a b).symm).symm
theorem sortOk_ints (zs : List Int) : sortOk (zs.map PV.int) := by
  have m : ∀ d ∈ toDs (zs.map PV.int), ∃ i, d = .int i := fun d hd => by
    rw [toDs_ints] at hd
    obtain ⟨i, _, e⟩ := List.mem_map.mp hd
    exact ⟨i, e.symm⟩
  refine ⟨purs_ints zs, fun d hd d' hd' => ?_, .inr fun d hd => ?_, fun x hx => ?_⟩
  · obtain ⟨i, rfl⟩ := m d hd
    obtain ⟨j, rfl⟩ := m d' hd'
    rfl
  · obtain ⟨i, rfl⟩ := m d hd
    exact ⟨(fun z => nomatch z), (fun _ z => nomatch z)⟩
  · obtain ⟨i, _, rfl⟩ := List.mem_map.mp hx
    exact Nat.zero_le _
theorem sorted_eq : ∀ {as bs : List Int}, as.Pairwise (· ≤ ·) → bs.Pairwise (· ≤ ·) → as.Perm bs → as = bs
  | [], bs, _, _, p => (List.nil_perm.mp p).symm
  | a :: r, [], _, _, p => by have := p.length_eq; simp at this
  | a :: r, b :: s, ha, hb, p => by
    have h1 : b ≤ a := by
      rcases List.mem_cons.mp (p.mem_iff.mp (List.mem_cons_self ..)) with e | e
      · omega
      · exact (List.pairwise_cons.mp hb).1 a e
    have h2 : a ≤ b := by
      rcases List.mem_cons.mp (p.mem_iff.mpr (List.mem_cons_self ..)) with e | e
      · omega
      · exact (List.pairwise_cons.mp ha).1 b e
    have e : a = b := by omega
    subst e
    rw [sorted_eq (List.pairwise_cons.mp ha).2 (List.pairwise_cons.mp hb).2 ((List.perm_cons a).mp p)]
theorem sort_le (zs : List Int) : (zs.mergeSort (fun a b => decide (a ≤ b))).Pairwise (· ≤ ·) :=
  (List.pairwise_mergeSort (le := fun a b : Int => decide (a ≤ b)) (fun a b c => by simp; omega) (fun a b => by simp; omega) zs).imp (by simp)
def upto (m : Nat) : List Int := (List.range m).map Int.ofNat
theorem upto_le (m : Nat) : (upto m).Pairwise (· ≤ ·) := by
  unfold upto
  rw [List.pairwise_map]
  exact List.pairwise_le_range.imp fun h => by simpa using h
theorem upto_len (m : Nat) : (upto m).length = m := by simp [upto]
theorem rngV_upto (m : Nat) : rngV 0 (m : Int) = (upto m).map PV.int := by
  unfold rngV upto
  simp
theorem perm_of {zs : List Int} : ∀ {ls : List Int}, ls.Nodup → (∀ a ∈ ls, a ∈ zs) → zs.length = ls.length → zs.Perm ls := by
  intro ls
  induction ls generalizing zs with
  | nil => intro _ _ l; rw [List.length_eq_zero_iff.mp l]
  | cons a r ih =>
    intro nd hm l
    have ha := hm a (List.mem_cons_self ..)
    refine (List.perm_cons_erase ha).trans (List.Perm.cons a (ih (List.nodup_cons.mp nd).2 (fun b hb => ?_) ?_))
    · have nb : b ≠ a := fun z => (List.nodup_cons.mp nd).1 (z ▸ hb)
      exact (List.mem_erase_of_ne nb).mpr (hm b (List.mem_cons_of_mem _ hb))
    · rw [List.length_erase_of_mem ha, l]; rfl
theorem upto_nodup (m : Nat) : (upto m).Nodup := by
  unfold upto
  exact List.Pairwise.map _ (fun a b h z => h (Int.ofNat.inj z)) List.nodup_range
theorem order_iff (zs : List Int) (m : Nat) (hl : zs.length = m) : zs.mergeSort (fun a b => decide (a ≤ b)) = upto m ↔ ∀ i < m, (zs.filter fun z => decide (z = (i : Int))).length = 1 := by
  constructor
  · intro e i hi
    have p : zs.Perm (upto m) := by rw [← e]; exact (List.mergeSort_perm _ _).symm
    rw [(p.filter _).length_eq]
    have c := (upto_nodup m)
    have hm : (i : Int) ∈ upto m := List.mem_map.mpr ⟨i, List.mem_range.mpr hi, rfl⟩
    have : ((upto m).filter fun z => decide (z = (i : Int))).length = (upto m).count (i : Int) := by
      rw [List.count_eq_length_filter]; congr 1
    rw [this, c.count, if_pos hm]
  · intro h
    refine sorted_eq (sort_le zs) (upto_le m) ((List.mergeSort_perm _ _).trans (perm_of (upto_nodup m) (fun a ha => ?_) (by rw [upto_len]; exact hl)))
    obtain ⟨i, hi, rfl⟩ := List.mem_map.mp ha
    have := h i (List.mem_range.mp hi)
    have ne : (zs.filter fun z => decide (z = (i : Int))) ≠ [] := fun z => by rw [z] at this; simp at this
    obtain ⟨x, hx⟩ := List.exists_mem_of_ne_nil _ ne
    have := List.mem_filter.mp hx
    simp at this
    have e : x = Int.ofNat i := this.2
    rw [← e]; exact this.1
theorem all_whole : ∀ {xs : List PV}, xs.all whole = true → ∃ zs : List Int, xs = zs.map PV.int
  | [], _ => ⟨[], rfl⟩
  | x :: r, h => by
    simp only [List.all_cons, Bool.and_eq_true] at h
    obtain ⟨zs, e⟩ := all_whole h.2
    cases x <;> first | (cases h.1; done) | skip
    rename_i i
    exact ⟨i :: zs, by rw [e]; rfl⟩
def PV.asI : PV → Int
  | .int i => i
  | _ => 0
def isOrd (m : Nat) : PV → Bool
  | .tup xs => decide (xs.length = m) && xs.all whole && eqP (.lst (xs.mergeSort leP)) (.lst (rngV 0 m))
  | _ => false
theorem is_order_ok (ht : tab "is_order" = some d_is_order) (hw : tab "is_whole" = some d_is_whole) {m : Nat} {v : PV} (hv : pur v = true) (hm : m ≤ 1000) (q : Q (.bl (isOrd m v)) h) : callW tab (k + 2) "is_order" [.int m, v] h Q E := by
  refine call_body ht rfl ?_
  rw [d_is_order, w_ife]
  simp only [startE]
  simp [isi_eq hv, tyB]
  have no : isTb "tuple" v = false → isOrd m v = false := fun e => by cases v <;> first | rfl | cases e
  by_cases t : isTb "tuple" v = true
  · obtain ⟨xs, rfl⟩ : ∃ xs, v = .tup xs := by cases v <;> first | exact ⟨_, rfl⟩ | (cases t; done) | (cases hv; done) | (cases pv.pu; done)
    simp [t]
    have hxs : ∀ x ∈ xs, pur x = true := by
      have := hv
      simp only [pur, purs_eq, List.all_eq_true] at this
      exact this
    split
    · rename_i hl
      have hl : xs.length = m := by omega
      intro _
      refine comp_pure (fun x => some (.bl (whole x))) (by simp) (fun x hx R hR => ?_) ?_
      · exact is_whole_ok hw (hxs x hx) hR
      · have eb : xs.filterMap (fun x => some (PV.bl (whole x))) = (xs.map whole).map PV.bl := by simp
        rw [eb]
        refine ⟨by simp [PySem.sizeLine_eq]; omega, _, _, rfl, boolsP_map _, ?_⟩
        simp only [tru_b]
        split
        · rename_i ha
          have ha : xs.all whole = true := by simpa using ha
          obtain ⟨zs, rfl⟩ := all_whole ha
          rw [w_nil]
          simp
          rw [w_ret]
          simp
          intro _
          obtain ⟨g1, g2, g3⟩ := rng_ok (m := m) (by omega)
          have lz : zs.length = m := by simpa using hl
          refine ⟨sortOk_ints zs, by rw [PySem.sizeLine_eq]; omega, g1, g2, g3, ?_⟩
          have z : isOrd m (.tup (zs.map PV.int)) = eqP (.lst ((zs.map PV.int).mergeSort leP)) (.lst (rngV 0 m)) := by simp only [isOrd, ha, lz, List.length_map, decide_true, Bool.true_and]
          rw [z] at q
          rw [sort_ints, rngV_upto]
          rw [sort_ints, rngV_upto] at q
          exact ⟨⟨eqOk_lints _, eqOk_lints _⟩, ret_same q⟩
        · rename_i ha
          rw [w_ret]
          simp
          have z : isOrd m (.tup xs) = false := by simp [isOrd]; intro _ y; simp_all
          rw [z] at q
          exact ret_same q
    · rename_i hl
      rw [w_ret]
      simp
      have z : isOrd m (.tup xs) = false := by simp [isOrd]; intro y; omega
      rw [z] at q
      exact ret_same q
  · simp at t
    simp [t]
    rw [w_ret]
    simp
    rw [no t] at q
    exact ret_same q
def lawOrd (m : Nat) : PV → Bool
  | .tup xs => decide (xs.length = m) && (List.range m).all fun i => decide ((xs.filter fun x => whole x && decide (x.asI = (i : Int))).length = 1)
  | _ => false
def d__law_is_order : Df := ⟨["many", "thing", "place", "one"], 2, .cons (.ife (.or (.not (.isi (.var 1) "tuple")) (.cmp .NotEq (.blt .len (.cons (.var 1) .nil)) (.var 0))) (.cons (.ret (.bl false)) .nil) (.nil)) (.cons (.for (.name 2) (.rng1 (.var 0)) (.cons (.ife (.cmp .NotEq (.blt .len (.cons (.comp false (.var 3) (.name 3) (.seq (.var 1)) (.some (.and (.call "_law_whole" (.cons (.var 3) .nil)) (.cmp .Eq (.var 3) (.var 2))))) .nil)) (.int 1)) (.cons (.ret (.bl false)) .nil) (.nil)) .nil)) (.cons (.ret (.bl true)) .nil))⟩
theorem filter_ints (i : Int) : ∀ zs : List Int, (zs.map PV.int).filter (fun x => whole x && decide (x.asI = i)) = (zs.filter fun z => decide (z = i)).map PV.int
  | [] => rfl
  | z :: r => by
    have ih := filter_ints i r
    simp only [List.map_cons, List.filter_cons]
    show (if (true && decide (z = i)) = true then _ else _) = _
    rw [Bool.true_and, ih]
    split <;> rfl
theorem lawOrd_eq {m : Nat} {v : PV} : isOrd m v = lawOrd m v := by
  cases v with
  | tup xs =>
    by_cases hl : xs.length = m
    · by_cases ha : xs.all whole = true
      · obtain ⟨zs, rfl⟩ := all_whole ha
        have lz : zs.length = m := by simpa using hl
        have e1 : isOrd m (.tup (zs.map PV.int)) = decide (zs.mergeSort (fun a b => decide (a ≤ b)) = upto m) := by
          simp only [isOrd, ha, List.length_map, lz, decide_true, Bool.true_and]
          rw [sort_ints, rngV_upto, eqP_lints]
        have e2 : lawOrd m (.tup (zs.map PV.int)) = decide (∀ i < m, (zs.filter fun z => decide (z = (i : Int))).length = 1) := by
          simp only [lawOrd, List.length_map, lz, decide_true, Bool.true_and]
          rw [Bool.eq_iff_iff]
          simp only [List.all_eq_true, List.mem_range, decide_eq_true_eq]
          constructor
          · intro h i hi
            have := h i hi
            rwa [filter_ints, List.length_map] at this
          · intro h i hi
            rw [filter_ints, List.length_map]
            exact h i hi
        rw [e1, e2, Bool.eq_iff_iff, decide_eq_true_eq, decide_eq_true_eq]
        exact order_iff zs m lz
      · have e1 : isOrd m (.tup xs) = false := by simp only [isOrd, ha, Bool.and_false, Bool.false_and]
        rw [e1]
        symm
        rw [Bool.eq_false_iff]
        intro z
        simp only [lawOrd, Bool.and_eq_true, List.all_eq_true, List.mem_range, decide_eq_true_eq] at z
        have cnt : ∀ n, n ≤ m → n ≤ (xs.filter fun x => whole x && decide (0 ≤ x.asI) && decide (x.asI < (n : Int))).length := by
          intro n
          induction n with
          | zero => intro _; exact Nat.zero_le _
          | succ n ih =>
            intro hn
            have h1 := ih (by omega)
            have h2 := z.2 n (by omega)
            have sp : ∀ l : List PV, (l.filter fun x => whole x && decide (0 ≤ x.asI) && decide (x.asI < ((n + 1 : Nat) : Int))).length = (l.filter fun x => whole x && decide (0 ≤ x.asI) && decide (x.asI < (n : Int))).length + (l.filter fun x => whole x && decide (x.asI = (n : Int))).length := by
              intro l
              induction l with
              | nil => rfl
              | cons x r ihr =>
                simp only [List.filter_cons]
                cases whole x with
                | false => simpa using ihr
                | true =>
                  simp only [Bool.true_and, Bool.and_eq_true, decide_eq_true_eq] at ihr ⊢
                  by_cases a : x.asI = (n : Int)
                  · rw [if_pos (by omega), if_neg (by omega), if_pos a]; simp only [List.length_cons]; omega
                  · by_cases b : 0 ≤ x.asI ∧ x.asI < (n : Int)
                    · rw [if_pos (by omega), if_pos b, if_neg a]; simp only [List.length_cons]; omega
                    · rw [if_neg (by omega), if_neg b, if_neg a]; exact ihr
            rw [sp, h2]; omega
        have c := cnt m (Nat.le_refl _)
        have le := List.length_filter_le (fun x => whole x && decide (0 ≤ x.asI) && decide (x.asI < (m : Int))) xs
        have all : xs.filter (fun x => whole x && decide (0 ≤ x.asI) && decide (x.asI < (m : Int))) = xs := List.filter_eq_self.mpr (by
          have := (List.length_filter_eq_length_iff (p := fun x => whole x && decide (0 ≤ x.asI) && decide (x.asI < (m : Int)))).mp (by omega : _ = xs.length)
          exact this)
        apply ha
        rw [List.all_eq_true]
        intro x hx
        rw [← all] at hx
        have := (List.mem_filter.mp hx).2
        simp only [Bool.and_eq_true] at this
        exact this.1.1
    · simp [isOrd, lawOrd, hl]
  | _ => rfl
theorem law_is_order_ok (ht : tab "_law_is_order" = some d__law_is_order) (hw : tab "_law_whole" = some d__law_whole) {m : Nat} {v : PV} (hv : pur v = true) (hm : m ≤ 1000) (q : Q (.bl (lawOrd m v)) h) : callW tab (k + 2) "_law_is_order" [.int m, v] h Q E := by
  refine call_body ht rfl ?_
  rw [d__law_is_order, w_ife]
  simp only [startE]
  simp [isi_eq hv, tyB]
  have no : isTb "tuple" v = false → lawOrd m v = false := fun e => by cases v <;> first | rfl | cases e
  by_cases t : isTb "tuple" v = true
  · obtain ⟨xs, rfl⟩ : ∃ xs, v = .tup xs := by cases v <;> first | exact ⟨_, rfl⟩ | (cases t; done) | (cases hv; done) | (cases pv.pu; done)
    simp [t]
    have hxs : ∀ x ∈ xs, pur x = true := by
      have := hv
      simp only [pur, purs_eq, List.all_eq_true] at this
      exact this
    split
    · rename_i hl
      have hl : xs.length = m := by omega
      rw [w_nil]
      simp
      rw [w_for]
      simp
      obtain ⟨g1, g2, g3⟩ := rng_ok (m := m) (by omega)
      refine ⟨g1, g2, ?_⟩
      refine for_all (fun i e g => ∃ w, e = [some (.int m), some (.tup xs), w, none] ∧ g = h ∧ ∀ j < i, (xs.filter fun x => whole x && decide (x.asI = (j : Int))).length = 1) ⟨_, rfl, rfl, fun j z => by omega⟩ (fun _ _ _ _ => by simp) ?_ ?_
      · rintro i x e g N hx ⟨w, rfl, rfl, hj⟩ hN
        have ex : x = .int (i : Nat) := by
          rw [rngV_upto, List.getElem?_map] at hx
          unfold upto at hx
          rw [List.getElem?_map] at hx
          have hi : i < m := by
            by_cases z : i < m
            · exact z
            · rw [List.getElem?_eq_none (by simpa using z)] at hx; simp at hx
          rw [List.getElem?_range hi] at hx
          simpa using hx.symm
        subst ex
        simp
        rw [w_ife]
        simp
        intro _
        refine comp_pure (fun x => if whole x && decide (x.asI = (i : Int)) then some x else none) (by simp) (fun x hx R hR => ?_) ?_
        · refine law_whole_ok hw (hxs x hx) ?_
          cases x <;> simp [whole, PV.asI] at hR ⊢ <;> first | exact hR | skip
          rename_i z
          by_cases y : z = (i : Int)
          · simp [y] at hR ⊢; exact hR
          · simp [y] at hR ⊢; exact hR
        · have ef : xs.filterMap (fun x => if (whole x && decide (x.asI = (i : Int))) = true then some x else none) = xs.filter fun x => whole x && decide (x.asI = (i : Int)) := by
            rw [← List.filterMap_eq_filter]; congr 1
          rw [ef]
          refine ⟨Nat.le_trans (List.length_filter_le _ _) (by rw [PySem.sizeLine_eq]; omega), ?_⟩
          split
          · rename_i h1
            simp only [w_nil]
            refine hN _ _ ⟨_, rfl, rfl, fun j hj' => ?_⟩
            by_cases y : j = i
            · subst y; exact_mod_cast h1
            · exact hj j (by omega)
          · rename_i h1
            rw [w_ret]
            simp
            have z : lawOrd m (.tup xs) = false := by
              rw [Bool.eq_false_iff]
              intro z
              simp only [lawOrd, Bool.and_eq_true, List.all_eq_true, List.mem_range, decide_eq_true_eq] at z
              have hi : i < m := by
                have := (List.getElem?_eq_some_iff.mp hx).1
                rw [rngV_len] at this; omega
              exact h1 (by exact_mod_cast z.2 i hi)
            rw [z] at q
            exact ret_same q
      · rintro e g ⟨w, rfl, rfl, hj⟩
        simp
        rw [w_ret]
        simp
        have z : lawOrd m (.tup xs) = true := by
          simp only [lawOrd, hl, decide_true, Bool.true_and, List.all_eq_true, List.mem_range, decide_eq_true_eq]
          intro j hj'
          exact hj j (by rw [rngV_len]; omega)
        rw [z] at q
        exact ret_same q
    · rename_i hl
      rw [w_ret]
      simp
      have z : lawOrd m (.tup xs) = false := by simp [lawOrd]; intro y; omega
      rw [z] at q
      exact ret_same q
  · simp at t
    simp [t]
    rw [w_ret]
    simp
    rw [no t] at q
    exact ret_same q
def prV (p : Nat × Nat) : PV := .tup [.int (p.1 : Nat), .int (p.2 : Nat)]
def le2 (p q : Nat × Nat) : Bool := decide (p.1 < q.1 ∨ (p.1 = q.1 ∧ p.2 ≤ q.2))
def lt2 (p q : Nat × Nat) : Prop := p.1 < q.1 ∨ (p.1 = q.1 ∧ p.2 < q.2)
theorem leP_pr (p q : Nat × Nat) : leP (prV p) (prV q) = le2 p q := by
  have e := congrFun (congrFun (PySem.W.dataLe_ii (fun z : Nat × Nat => (z.1 : Int)) (fun z => (z.2 : Int))) p) q
  have e2 : leP (prV p) (prV q) = PySem.W.dataLe false (fun b : Nat × Nat => PyData.tuple [.int (b.1 : Int), .int (b.2 : Int)]) p q := rfl
  rw [e2, e]
  unfold le2
  rw [Bool.eq_iff_iff, decide_eq_true_eq, decide_eq_true_eq]
  omega
theorem sort_prs (ps : List (Nat × Nat)) : (ps.map prV).mergeSort leP = (ps.mergeSort le2).map prV := (List.map_mergeSort fun a _ b _ => (leP_pr a b).symm).symm
theorem toDs_prs (ps : List (Nat × Nat)) : toDs (ps.map prV) = ps.map fun p => PyData.tuple [.int (p.1 : Int), .int (p.2 : Int)] := by
  induction ps with
  | nil => rfl
  | cons p r ih => simp only [List.map_cons, toDs, ih]; rfl
theorem purs_prs (ps : List (Nat × Nat)) : purs (ps.map prV) = true := by
  induction ps with
  | nil => rfl
  | cons p r ih => simp only [List.map_cons, purs, ih]; rfl
theorem sortOk_prs (ps : List (Nat × Nat)) : sortOk (ps.map prV) := by
  have m : ∀ d ∈ toDs (ps.map prV), ∃ i j : Int, d = .tuple [.int i, .int j] := fun d hd => by
    rw [toDs_prs] at hd
    obtain ⟨p, _, e⟩ := List.mem_map.mp hd
    exact ⟨_, _, e.symm⟩
  refine ⟨purs_prs ps, fun d hd d' hd' => ?_, .inl fun d hd => ?_, fun x hx => ?_⟩
  · obtain ⟨i, j, rfl⟩ := m d hd
    obtain ⟨i', j', rfl⟩ := m d' hd'
    rfl
  · obtain ⟨i, j, rfl⟩ := m d hd
    exact ⟨_, _, rfl⟩
  · obtain ⟨p, _, rfl⟩ := List.mem_map.mp hx
    show (PyData.tuple [.int _, .int _]).depth ≤ 64
    simp [PyData.depth, PyData.depthAll]
theorem sort2_lt {ps : List (Nat × Nat)} (nd : ps.Nodup) : (ps.mergeSort le2).Pairwise lt2 := by
  have h1 := List.pairwise_mergeSort (le := le2) (fun a b c => by unfold le2; simp only [decide_eq_true_eq]; omega) (fun a b => by unfold le2; simp only [Bool.or_eq_true, decide_eq_true_eq]; omega) ps
  have h2 : (ps.mergeSort le2).Nodup := (List.mergeSort_perm ps le2).nodup_iff.mpr nd
  refine (h1.and h2).imp fun {a b} h => ?_
  obtain ⟨x, y⟩ := h
  unfold le2 at x
  rw [decide_eq_true_eq] at x
  unfold lt2
  have : a ≠ b := y
  have : ¬ (a.1 = b.1 ∧ a.2 = b.2) := fun z => this (Prod.ext z.1 z.2)
  omega
theorem rising_eq {α : Type} {lt : α → α → Prop} (irr : ∀ a, ¬ lt a a) (tr : ∀ a b c, lt a b → lt b c → lt a c) : ∀ {as bs : List α}, as.Pairwise lt → bs.Pairwise lt → (∀ x, x ∈ as ↔ x ∈ bs) → as = bs
  | [], [], _, _, _ => rfl
  | [], b :: s, _, _, m => by have := (m b).mpr (List.mem_cons_self ..); cases this
  | a :: r, [], _, _, m => by have := (m a).mp (List.mem_cons_self ..); cases this
  | a :: r, b :: s, ha, hb, m => by
    have ha := List.pairwise_cons.mp ha
    have hb := List.pairwise_cons.mp hb
    have e : a = b := by
      rcases List.mem_cons.mp ((m a).mp (List.mem_cons_self ..)) with e | e
      · exact e
      · rcases List.mem_cons.mp ((m b).mpr (List.mem_cons_self ..)) with e2 | e2
        · exact e2.symm
        · exact (irr _ (tr _ _ _ (ha.1 b e2) (hb.1 a e))).elim
    subst e
    congr 1
    refine rising_eq irr tr ha.2 hb.2 fun x => ⟨fun hx => ?_, fun hx => ?_⟩
    · rcases List.mem_cons.mp ((m x).mp (List.mem_cons_of_mem _ hx)) with e | e
      · subst e; exact (irr _ (ha.1 _ hx)).elim
      · exact e
    · rcases List.mem_cons.mp ((m x).mpr (List.mem_cons_of_mem _ hx)) with e | e
      · subst e; exact (irr _ (hb.1 _ hx)).elim
      · exact e
theorem lt2_irr (a : Nat × Nat) : ¬ lt2 a a := by unfold lt2; omega
theorem lt2_tr (a b c : Nat × Nat) : lt2 a b → lt2 b c → lt2 a c := by unfold lt2; omega
end MP
set_option Elab.async false
set_option linter.all false
set_option maxRecDepth 100000
set_option maxHeartbeats 1000000
namespace MP
open PySem L2
variable {tab : Str → Option Df} {k : Nat} {h : MH} {Q : Post} {E : XQ}
def d__law_odd : Df := ⟨["deck", "thing", "some"], 2, .cons (.asg (.name 2) (.lst false (.cons (.non) (.cons (.bl true) (.cons (.bl false) (.cons (.neg (.int 1)) (.cons (.int 0) (.cons (.int 1) (.cons (.int 24) (.cons (.bin .Pow (.int 10) (.int 39)) (.cons (.str "") (.cons (.str "0") (.cons (.str "()") (.cons (.tup (.nil)) (.cons (.lst false (.nil)) (.cons (.dct0 false) (.cons (.lst false (.cons (.var 1) .nil)) (.cons (.dct1 (.int 0) (.var 1)) (.cons (.tup (.cons (.var 1) .nil)) (.cons (.tup (.cons (.tup (.nil)) .nil)) .nil)))))))))))))))))))) (.cons (.ife (.call "_law_whole" (.cons (.var 1) .nil)) (.cons (.asg (.name 2) (.bin .Add (.var 2) (.bin .Mult (.lst false (.cons (.bin .Add (.var 1) (.int 1)) (.cons (.bin .Sub (.var 1) (.int 1)) (.cons (.bin .Add (.var 1) (.int 2)) (.cons (.cmp .Eq (.var 1) (.int 1)) (.cons (.blt .str (.cons (.var 1) .nil)) (.cons (.bin .Sub (.int 0) (.var 1)) .nil))))))) (.int 3)))) .nil) (.nil)) (.cons (.ret (.idx (.var 2) (.call "_law_draw" (.cons (.var 0) (.cons (.blt .len (.cons (.var 2) .nil)) .nil))))) .nil))⟩
def d__law_spoilt : Df := ⟨["deck", "thing", "kind", "at"], 2, .cons (.asg (.name 2) (.call "_law_draw" (.cons (.var 0) (.cons (.int 9) .nil)))) (.cons (.ife (.or (.not (.isi (.var 1) "tuple")) (.or (.cmp .Eq (.var 1) (.tup (.nil))) (.cmp .Eq (.var 2) (.int 0)))) (.cons (.ret (.call "_law_odd" (.cons (.var 0) (.cons (.var 1) .nil)))) .nil) (.nil)) (.cons (.asg (.name 3) (.idx (.lst false (.cons (.call "_law_draw" (.cons (.var 0) (.cons (.blt .len (.cons (.var 1) .nil)) .nil))) (.cons (.bin .Sub (.blt .len (.cons (.var 1) .nil)) (.int 1)) .nil))) (.blt .int (.cons (.cmp .Eq (.call "_law_draw" (.cons (.var 0) (.cons (.int 4) .nil))) (.int 0)) .nil)))) (.cons (.ife (.cmp .Eq (.var 2) (.int 1)) (.cons (.ret (.bin .Add (.slc (.var 1) .none (.some (.var 3))) (.slc (.var 1) (.some (.bin .Add (.var 3) (.int 1))) .none))) .nil) (.nil)) (.cons (.ife (.cmp .Eq (.var 2) (.int 2)) (.cons (.ret (.bin .Add (.bin .Add (.slc (.var 1) .none (.some (.var 3))) (.slc (.var 1) (.some (.var 3)) (.some (.bin .Add (.var 3) (.int 1))))) (.slc (.var 1) (.some (.var 3)) .none))) .nil) (.nil)) (.cons (.ife (.cmp .Eq (.var 2) (.int 3)) (.cons (.ret (.bin .Add (.bin .Add (.slc (.var 1) .none (.some (.var 3))) (.rev (.slc (.var 1) (.some (.var 3)) (.some (.bin .Add (.var 3) (.int 2)))))) (.slc (.var 1) (.some (.bin .Add (.var 3) (.int 2))) .none))) .nil) (.nil)) (.cons (.ife (.and (.cmp .Eq (.var 2) (.int 4)) (.cmp .Eq (.call "_law_draw" (.cons (.var 0) (.cons (.int 2) .nil))) (.int 0))) (.cons (.ret (.con .list false (.seq (.var 1)))) .nil) (.nil)) (.cons (.ret (.bin .Add (.bin .Add (.slc (.var 1) .none (.some (.var 3))) (.tup (.cons (.call "_law_spoilt" (.cons (.var 0) (.cons (.idx (.var 1) (.var 3)) .nil))) .nil))) (.slc (.var 1) (.some (.bin .Add (.var 3) (.int 1))) .none))) .nil)))))))⟩
def d__law_right : Df := ⟨["many", "thing", "written", "found"], 2, .cons (.asg (.name 2) (.blt .repr (.cons (.var 1) .nil))) (.cons (.asg (.name 3) (.call "is_order" (.cons (.var 0) (.cons (.var 1) .nil)))) (.cons (.ret (.and (.isi (.var 3) "bool") (.and (.cmp .Eq (.var 3) (.call "_law_is_order" (.cons (.var 0) (.cons (.var 1) .nil)))) (.cmp .Eq (.blt .repr (.cons (.var 1) .nil)) (.var 2))))) .nil))⟩
theorem of_lt (s : String) : ∀ c ∈ (Str.ofString s).cps.toList, c < 16 ^ 8 := by
  intro c hc
  rw [PyProof.Rows.signs_ofString] at hc
  obtain ⟨x, _, rfl⟩ := List.mem_map.mp hc
  have e : x.toNat < 0x110000 := by
    rcases x.valid with h | h
    · exact Nat.lt_trans h (by decide)
    · exact h.2
  omega
theorem wt_of (s : String) : wt (.str s) = s.length := by rw [wt_str, ofString_length]
theorem law_odd_ok {B d : Nat} (ht : tab "_law_odd" = some d__law_odd) (hdr : tab "_law_draw" = some d__law_draw) (hw : tab "_law_whole" = some d__law_whole) {p : Addr} {a b c : Int} {v : PV}
    (hp : h p = some (.lst [.int a, .int b, .int c])) (pv : P1 B d v) (h1 : 10 ^ 39 ≤ B) (h2 : B + 2 ≤ 10 ^ 40)
    (q : ∀ w a' b' c', P1 (B + 2) (d + 2) w → wt w ≤ wt v + 200 → Q w (h.put p (.lst [.int a', .int b', .int c']))) : callW tab (k + 2) "_law_odd" [.loc p, v] h Q E := by
  refine call_body ht rfl ?_
  rw [d__law_odd, w_asg]
  simp only [startE]
  simp
  refine ⟨by decide, by rw [PySem.sizeLine_eq]; decide, ?_⟩
  rw [w_ife]
  simp
  have odd : ∀ x ∈ ([PV.non, PV.bl true, PV.bl false, PV.int (-1), PV.int 0, PV.int 1, PV.int 24, PV.int 1000000000000000000000000000000000000000, PV.str "", PV.str "0", PV.str "()", PV.tup [], PV.lst [], PV.dct [] [], PV.lst [v], PV.dct [PV.int 0] [v], PV.tup [v], PV.tup [PV.tup []]] : List PV),
      P1 (B + 2) (d + 2) x ∧ wt x ≤ wt v + 200 := by
    have pv' : P1 (B + 2) (d + 1) v := pv.mono (by omega) (by omega)
    have one : ∀ y ∈ [v], P1 (B + 2) (d + 1) y := by simpa using pv'
    have i0 : wt (.int 0) ≤ 0 := wt_int (by decide)
    intro x hx
    simp only [List.mem_cons, List.not_mem_nil, or_false] at hx
    rcases hx with rfl | rfl | rfl | rfl | rfl | rfl | rfl | rfl | rfl | rfl | rfl | rfl | rfl | rfl | rfl | rfl | rfl | rfl
    · exact ⟨.non, by simp⟩
    · exact ⟨.bl, by simp⟩
    · exact ⟨.bl, by simp⟩
    · exact ⟨.int (by omega), Nat.le_trans (wt_int (k := 1) (by decide)) (by omega)⟩
    · exact ⟨.int (by omega), by omega⟩
    · exact ⟨.int (by omega), Nat.le_trans (wt_int (k := 1) (by decide)) (by omega)⟩
    · exact ⟨.int (by omega), Nat.le_trans (wt_int (k := 5) (by decide)) (by omega)⟩
    · exact ⟨.int (by omega), Nat.le_trans (wt_int (k := 130) (by decide)) (by omega)⟩
    · exact ⟨.str (of_lt _), by rw [wt_of]; exact Nat.le_trans (by decide) (Nat.le_add_left 200 _)⟩
    · exact ⟨.str (of_lt _), by rw [wt_of]; exact Nat.le_trans (by decide) (Nat.le_add_left 200 _)⟩
    · exact ⟨.str (of_lt _), by rw [wt_of]; exact Nat.le_trans (by decide) (Nat.le_add_left 200 _)⟩
    · exact ⟨.tup (by simp), by simp⟩
    · exact ⟨.lst (by simp), by simp⟩
    · exact ⟨.dct0, by simp⟩
    · exact ⟨.lst one, by simp⟩
    · exact ⟨.dct1 (.int (by omega)) pv', by simp; omega⟩
    · exact ⟨.tup one, by simp⟩
    · exact ⟨.tup (by simp; exact .tup (by simp)), by simp⟩
  have fin : ∀ L : List PV, L ≠ [] → L.length ≤ 1000 → (∀ x ∈ L, P1 (B + 2) (d + 2) x ∧ wt x ≤ wt v + 200) →
      wpSs (callW tab (k + 1)) (fun e x h' => retX E e h') (.cons (.ret (.idx (.var 2) (.call "_law_draw" (.cons (.var 0) (.cons (.blt .len (.cons (.var 2) .nil)) .nil))))) .nil) [some (.loc p), some v, some (.lst L)] h { nx := fun x h' => retW Q PV.non h', rt := retW Q } := by
    intro L h0 h1 hL
    have l0 : 0 < L.length := List.length_pos_iff.mpr h0
    rw [w_ret]
    simp
    refine law_draw_ok hdr hp (by omega) (by omega) fun r a' b' c' r0 r1 => ?_
    simp
    rw [atI_int _ r0]
    have hr : r.toNat < L.length := by omega
    refine ⟨L[r.toNat], List.getElem?_eq_getElem hr, ret_same ?_⟩
    obtain ⟨g1, g2⟩ := hL _ (List.getElem_mem hr)
    exact q _ _ _ _ g1 g2
  refine law_whole_ok hw pv.pu ?_
  simp only [tru_b]
  split
  · rename_i hwh
    obtain ⟨i, rfl⟩ : ∃ i, v = .int i := by cases v <;> first | exact ⟨_, rfl⟩ | cases hwh
    have bi := pv.of_int
    rw [w_asg]
    simp
    have hlog : i.natAbs.log2 < 1920 := by
      have := (int_shows (i := i) (by omega)).2
      simpa only [PyData.showable, decide_eq_true_eq] using this
    refine ⟨hlog, by rw [PySem.sizeLine_eq]; decide, by rw [PySem.sizeLine_eq]; decide, by rw [PySem.sizeLine_eq]; decide, ?_⟩
    rw [w_nil]
    refine fin _ (by simp) (by simp) fun x hx => ?_
    have big : ∀ z : Int, z.natAbs ≤ B + 2 → wt (.int z) ≤ 140 := fun z hz => wt_int (Nat.lt_of_le_of_lt hz (Nat.lt_of_le_of_lt h2 (by decide)))
    have more : ∀ y ∈ ([PV.int (i + 1), PV.int (i - 1), PV.int (i + 2), PV.bl (decide (i = 1)), PV.str i.repr, PV.int (-i)] : List PV), P1 (B + 2) (d + 2) y ∧ wt y ≤ wt (.int i) + 200 := by
      intro y hy
      simp only [List.mem_cons, List.not_mem_nil, or_false] at hy
      rcases hy with rfl | rfl | rfl | rfl | rfl | rfl
      · exact ⟨.int (by omega), Nat.le_trans (big _ (by omega)) (by omega)⟩
      · exact ⟨.int (by omega), Nat.le_trans (big _ (by omega)) (by omega)⟩
      · exact ⟨.int (by omega), Nat.le_trans (big _ (by omega)) (by omega)⟩
      · exact ⟨.bl, by simp⟩
      · refine ⟨.str (of_lt _), ?_⟩
        rw [wt_of]
        exact Nat.le_trans (int_text_length_le10 (k := 59) (by decide) (by omega)) (by omega)
      · exact ⟨.int (by omega), Nat.le_trans (big _ (by omega)) (by omega)⟩
    have hx' : x ∈ ([PV.non, PV.bl true, PV.bl false, PV.int (-1), PV.int 0, PV.int 1, PV.int 24, PV.int 1000000000000000000000000000000000000000, PV.str "", PV.str "0", PV.str "()", PV.tup [], PV.lst [], PV.dct [] [], PV.lst [PV.int i], PV.dct [PV.int 0] [PV.int i], PV.tup [PV.int i], PV.tup [PV.tup []]] : List PV) ++
        (([PV.int (i + 1), PV.int (i - 1), PV.int (i + 2), PV.bl (decide (i = 1)), PV.str i.repr, PV.int (-i)] : List PV) ++ (([PV.int (i + 1), PV.int (i - 1), PV.int (i + 2), PV.bl (decide (i = 1)), PV.str i.repr, PV.int (-i)] : List PV) ++
          ([PV.int (i + 1), PV.int (i - 1), PV.int (i + 2), PV.bl (decide (i = 1)), PV.str i.repr, PV.int (-i)] : List PV))) := hx
    simp only [List.mem_append] at hx'
    rcases hx' with z | z | z | z
    · exact odd x z
    · exact more x z
    · exact more x z
    · exact more x z
  · rw [w_nil]
    exact fin _ (by simp) (by simp) odd
theorem spoilt_cut {B d : Nat} {xs ys : List PV} (px : ∀ x ∈ xs, P1 B d x) (hy : ∀ y ∈ ys, y ∈ xs) : P1 (B + 2) (d + 3) (.tup ys) := (P1.tup fun y hy' => (px y (hy y hy')).mono (Nat.le_refl _) (Nat.le_refl _)).mono (by omega) (by omega)
theorem law_spoilt_ok {B : Nat} (ht : tab "_law_spoilt" = some d__law_spoilt) (ho : tab "_law_odd" = some d__law_odd) (hdr : tab "_law_draw" = some d__law_draw) (hw : tab "_law_whole" = some d__law_whole) (h1 : 10 ^ 39 ≤ B) (h2 : B + 2 ≤ 10 ^ 40) :
    ∀ (d k : Nat) {p : Addr} {a b c : Int} {v : PV} {h : MH} {Q : Post} {E : XQ}, h p = some (.lst [.int a, .int b, .int c]) → P1 B d v → wt v ≤ 100000 →
      (∀ w a' b' c', P1 (B + 2) (d + 2) w → wt w ≤ 2 * wt v + 200 → Q w (h.put p (.lst [.int a', .int b', .int c']))) → callW tab (d + k + 3) "_law_spoilt" [.loc p, v] h Q E := by
  intro d
  induction d using Nat.strongRecOn with
  | ind d ih =>
    intro k p a b c v h Q E hp pv hwt q
    refine call_body ht rfl ?_
    rw [d__law_spoilt, w_asg]
    simp only [startE]
    simp
    refine law_draw_ok (k := d + k + 1) hdr hp (by decide) (by decide) fun r a1 b1 c1 r0 r1 => ?_
    rw [w_ife]
    simp [isi_eq pv.pu, tyB]
    have odd : ∀ (e3 : Option PV) (D : En), D.rt = retW Q → wpSs (callW tab (d + k + 2)) (fun e x h' => retX E e h') (.cons (.ret (.call "_law_odd" (.cons (.var 0) (.cons (.var 1) .nil)))) .nil) [some (.loc p), some v, some (.int r), e3] (h.put p (.lst [.int a1, .int b1, .int c1])) D := by
      intro e3 D hD
      rw [w_ret]
      simp
      refine law_odd_ok (k := d + k) ho hdr hw put_at pv h1 h2 fun w a' b' c' pw ww => ?_
      rw [hD, put_put]
      exact ret_same (q _ _ _ _ pw (by omega))
    by_cases t : isTb "tuple" v = true
    · obtain ⟨xs, rfl⟩ : ∃ xs, v = .tup xs := by cases v <;> first | exact ⟨_, rfl⟩ | (cases t; done) | (cases hv; done) | (cases pv.pu; done)
      obtain ⟨d, rfl⟩ := pv.tup_depth
      have px := pv.of_tup
      have lw : xs.length ≤ 100000 := Nat.le_trans (len_wts xs) (by simpa using hwt)
      simp [t]
      split
      · exact odd _ _ rfl
      · rename_i hne
        have hne : xs ≠ [] := by simpa using hne
        have l0 : 0 < xs.length := List.length_pos_iff.mpr hne
        split
        · exact odd _ _ rfl
        · rename_i hr0
          rw [w_nil]
          simp
          rw [w_asg]
          simp
          refine law_draw_ok (k := d + 1 + k + 1) hdr put_at (by omega) (by omega) fun r2 a2 b2 c2 r20 r21 => ?_
          simp
          refine ⟨by rw [PySem.sizeLine_eq]; decide, ?_⟩
          refine law_draw_ok (k := d + 1 + k + 1) hdr put_at (by omega) (by omega) fun r3 a3 b3 c3 r30 r31 => ?_
          simp
          obtain ⟨z, hz, z0, z1⟩ : ∃ z, L2.atI [PV.int r2, PV.int (xs.length - 1)] (if r3 = 0 then 1 else 0) = some (.int z) ∧ 0 ≤ z ∧ z < xs.length := by
            split
            · exact ⟨_, by simp; rfl, by omega, by omega⟩
            · exact ⟨_, by simp; rfl, by omega, by omega⟩
          refine ⟨_, hz, ?_⟩
          have zn : z.toNat < xs.length := by omega
          have ex : xs = xs.take z.toNat ++ (xs[z.toNat] :: xs.drop (z.toNat + 1)) := by rw [List.getElem_cons_drop, List.take_append_drop]
          have ew : wts xs = wts (xs.take z.toNat) + (wt xs[z.toNat] + 1 + wts (xs.drop (z.toNat + 1))) := by
            have := congrArg wts ex
            rwa [wts_append, wts_cons] at this
          have et : xs = xs.take z.toNat ++ xs.drop z.toNat := (List.take_append_drop _ _).symm
          have ewt : wts xs = wts (xs.take z.toNat) + wts (xs.drop z.toNat) := by
            have := congrArg wts et
            rwa [wts_append] at this
          have n1 : (z + 1).toNat = z.toNat + 1 := by omega
          have n2 : (z + 2).toNat = z.toNat + 2 := by omega
          have s1 : slcW.cutP xs none (some z) = xs.take z.toNat := cutP_lo xs z0
          have s2 : slcW.cutP xs (some (z + 1)) none = xs.drop (z.toNat + 1) := by rw [cutP_hi xs (by omega), n1]
          have s3 : slcW.cutP xs (some z) (some (z + 1)) = (xs.drop z.toNat).take 1 := by rw [cutP_mid xs z0 (by omega), n1]; congr 1; omega
          have s4 : slcW.cutP xs (some z) none = xs.drop z.toNat := cutP_hi xs z0
          have s5 : slcW.cutP xs (some z) (some (z + 2)) = (xs.drop z.toNat).take 2 := by rw [cutP_mid xs z0 (by omega), n2]; congr 1; omega
          have s6 : slcW.cutP xs (some (z + 2)) none = xs.drop (z.toNat + 2) := by rw [cutP_hi xs (by omega), n2]
          have lt := List.length_take_le z.toNat xs
          have small : ∀ m : Nat, m ≤ 400000 → m ≤ sizeLine := fun m hm => by rw [PySem.sizeLine_eq]; omega
          have le3 : P1 (B + 2) (d + 3) (.tup xs) := pv.mono (by omega) (by omega)
          rw [w_ife]
          simp
          split
          · rw [w_ret]
            simp [s1, s2]
            refine ⟨small _ (by omega), ret_same (q _ _ _ _ (spoilt_cut px fun y hy => ?_) ?_)⟩
            · rcases List.mem_append.mp hy with z | z
              · exact List.mem_of_mem_take z
              · exact List.mem_of_mem_drop z
            · simp; omega
          rw [w_nil]
          simp
          rw [w_ife]
          simp
          split
          · rw [w_ret]
            simp [s1, s3, s4]
            have h1' := wts_take (xs.drop z.toNat) 1
            refine ⟨small _ (by omega), small _ (by omega), ret_same (q _ _ _ _ (spoilt_cut px fun y hy => ?_) ?_)⟩
            · simp only [List.mem_append] at hy
              rcases hy with z | z | z
              · exact List.mem_of_mem_take z
              · exact List.mem_of_mem_drop (List.mem_of_mem_take z)
              · exact List.mem_of_mem_drop z
            · simp; omega
          rw [w_nil]
          simp
          rw [w_ife]
          simp
          split
          · rw [w_ret]
            simp [s1, s5, s6]
            have e2 : wts (xs.drop z.toNat) = wts ((xs.drop z.toNat).take 2) + wts (xs.drop (z.toNat + 2)) := by
              have := congrArg wts (List.take_append_drop 2 (xs.drop z.toNat)).symm
              rwa [wts_append, List.drop_drop] at this
            refine ⟨small _ (by omega), small _ (by omega), ret_same (q _ _ _ _ (spoilt_cut px fun y hy => ?_) ?_)⟩
            · simp only [List.mem_append, List.mem_reverse] at hy
              rcases hy with z | z | z
              · exact List.mem_of_mem_take z
              · exact List.mem_of_mem_drop (List.mem_of_mem_take z)
              · exact List.mem_of_mem_drop z
            · simp [wts_rev]; omega
          rw [w_nil]
          simp
          rw [w_ife]
          simp
          have last : ∀ (a4 b4 c4 : Int) (D : En), D.rt = retW Q → wpSs (callW tab (d + 1 + k + 2)) (fun e x h' => retX E e h') (.cons (.ret (.bin .Add (.bin .Add (.slc (.var 1) .none (.some (.var 3))) (.tup (.cons (.call "_law_spoilt" (.cons (.var 0) (.cons (.idx (.var 1) (.var 3)) .nil))) .nil))) (.slc (.var 1) (.some (.bin .Add (.var 3) (.int 1))) .none))) .nil)
              [some (.loc p), some (.tup xs), some (.int r), some (.int z)] (h.put p (.lst [.int a4, .int b4, .int c4])) D := by
            intro a4 b4 c4 D hD
            rw [w_ret]
            simp [s1, s2, atI_int _ z0, zn]
            have el : d + 1 + k + 2 = d + k + 3 := by omega
            rw [el]
            have pe := px _ (List.getElem_mem zn)
            have we := wt_mem (List.getElem_mem zn)
            simp only [wt_tup] at hwt
            refine ih d (by omega) k put_at pe (by omega) fun w a5 b5 c5 pw ww => ?_
            simp
            refine ⟨by decide, small _ (by omega), small _ (by omega), ?_⟩
            rw [hD]
            refine ret_same (q _ _ _ _ (P1.tup fun y hy => ?_) ?_)
            · simp only [List.mem_append, List.mem_cons] at hy
              rcases hy with z | rfl | z
              · exact (px y (List.mem_of_mem_take z)).mono (by omega) (by omega)
              · exact pw
              · exact (px y (List.mem_of_mem_drop z)).mono (by omega) (by omega)
            · simp; omega
          split
          · refine law_draw_ok (k := d + 1 + k + 1) hdr put_at (by decide) (by decide) fun r4 a4 b4 c4 _ _ => ?_
            simp
            split
            · rw [w_ret]
              simp
              intro _
              exact ⟨small _ (by omega), ret_same (q _ _ _ _ ((P1.lst px).mono (by omega) (by omega)) (by simp; omega))⟩
            · rw [w_nil]
              exact last _ _ _ _ rfl
          · rw [w_nil]
            exact last _ _ _ _ rfl
    · simp at t
      simp [t]
      exact odd _ _ rfl
theorem law_right_ok {B d : Nat} (ht : tab "_law_right" = some d__law_right) (h1 : tab "is_order" = some d_is_order) (h2 : tab "_law_is_order" = some d__law_is_order) (h3 : tab "is_whole" = some d_is_whole) (h4 : tab "_law_whole" = some d__law_whole) {m : Nat} {v : PV}
    (pv : P1 B d v) (hB : B < 10 ^ 59) (hd : d ≤ 64) (hw : 62 * wt v + 60 ≤ sizeLine) (hm : m ≤ 1000) (q : Q (.bl true) h) : callW tab (k + 3) "_law_right" [.int m, v] h Q E := by
  refine call_body ht rfl ?_
  rw [d__law_right, w_asg]
  simp only [startE]
  simp
  refine ⟨pv.shown hB hd hw, ?_⟩
  rw [w_asg]
  simp
  refine is_order_ok (k := k) h1 h3 pv.pu hm ?_
  rw [w_ret]
  simp [isi_eq (show pur (.bl (isOrd m v)) = true from rfl) (show tyB "bool" = true from rfl), isTb, isT]
  refine law_is_order_ok (k := k) h2 h4 pv.pu hm ?_
  simp [lawOrd_eq]
  exact ⟨pv.shown hB hd hw, ret_same q⟩
theorem nats_ints (os : List Nat) : nats os = (os.map Int.ofNat).map PV.int := by unfold nats; rw [List.map_map]; rfl
theorem isOrd_perm {m : Nat} {os : List Nat} (p : os.Perm (List.range m)) : isOrd m (.tup (nats os)) = true := by
  have lo : os.length = m := by rw [p.length_eq, List.length_range]
  rw [nats_ints]
  have w : ((os.map Int.ofNat).map PV.int).all whole = true := by simp [whole]
  simp only [isOrd, w, List.length_map, lo, decide_true, Bool.true_and]
  rw [sort_ints, rngV_upto, eqP_lints, decide_eq_true_eq]
  exact sorted_eq (sort_le _) (upto_le m) ((List.mergeSort_perm _ _).trans (p.map _))
theorem wts_le {c : Nat} : ∀ {xs : List PV}, (∀ x ∈ xs, wt x ≤ c) → wts xs ≤ (c + 1) * xs.length
  | [], _ => by simp
  | x :: r, h => by
    have h1 := h x (List.mem_cons_self ..)
    have h2 := wts_le (xs := r) fun y hy => h y (List.mem_cons_of_mem _ hy)
    rw [wts_cons, List.length_cons, Nat.mul_add, Nat.mul_one]
    omega
theorem order_P1 {m B : Nat} {os : List Nat} (p : os.Perm (List.range m)) (hm : m ≤ 60) (hB : 100 ≤ B) : P1 B 1 (.tup (nats os)) ∧ wt (.tup (nats os)) ≤ 420 := by
  have lt : ∀ o ∈ os, o < m := fun o ho => by simpa using p.mem_iff.mp ho
  have lo : os.length = m := by rw [p.length_eq, List.length_range]
  constructor
  · refine P1.tup fun x hx => ?_
    obtain ⟨o, ho, rfl⟩ := List.mem_map.mp hx
    have := lt o ho
    exact .int (by omega)
  · rw [wt_tup]
    refine Nat.le_trans (wts_le (c := 6) fun x hx => ?_) (by unfold nats; rw [List.length_map, lo]; omega)
    obtain ⟨o, ho, rfl⟩ := List.mem_map.mp hx
    have := lt o ho
    exact wt_int (by show o < 2 ^ 6; omega)
theorem rngV_nats (m : Nat) : rngV 0 (m : Int) = nats (List.range m) := rngV_nat m
theorem rngV_get {m i : Nat} {x : PV} (h : (rngV 0 (m : Int))[i]? = some x) : x = .int (i : Nat) ∧ i < m := by
  rw [rngV_nat] at h
  unfold nats at h
  rw [List.getElem?_map] at h
  by_cases z : i < m
  · rw [List.getElem?_range z] at h
    exact ⟨by simpa using h.symm, z⟩
  · rw [List.getElem?_eq_none (by simpa using z)] at h; simp at h
end MP
set_option Elab.async false
set_option linter.all false
set_option maxRecDepth 100000
set_option maxHeartbeats 2000000
namespace MP
open PySem L2
variable {tab : Str → Option Df} {k : Nat} {h : MH} {Q : Post} {E : XQ}
def d_deck : Df := ⟨["cell"], 1, .cons (.ret (.lst true (.cons (.bin .Mult (.var 0) (.blt .int (.cons (.cmp .GtE (.var 0) (.bin .Pow (.int 10) (.int 18))) .nil))) (.cons (.bin .Mod (.var 0) (.int 2147483587)) (.cons (.int 0) .nil))))) .nil⟩
def d_draw : Df := ⟨["deck", "most", "got", "mixed"], 2, .cons (.ife (.cmp .Gt (.idx (.var 0) (.int 0)) (.int 0)) (.cons (.asg (.name 2) (.bin .Mod (.idx (.var 0) (.int 0)) (.var 1))) (.cons (.sub (.var 0) (.int 0) (.bin .FloorDiv (.idx (.var 0) (.int 0)) (.var 1))) (.cons (.ret (.var 2)) .nil))) (.nil)) (.cons (.sub (.var 0) (.int 2) (.bin .Add (.idx (.var 0) (.int 2)) (.int 1))) (.cons (.asg (.name 3) (.bin .Mod (.bin .Mult (.bin .Add (.bin .Add (.idx (.var 0) (.int 1)) (.bin .Mult (.int 104729) (.idx (.var 0) (.int 2)))) (.int 17)) (.int 48271)) (.int 2147483647))) (.cons (.asg (.name 3) (.bin .Mod (.bin .Add (.bin .Add (.bin .Mult (.var 3) (.var 3)) (.bin .Mult (.int 69621) (.var 3))) (.idx (.var 0) (.int 2))) (.int 2147483629))) (.cons (.ret (.bin .Mod (.bin .FloorDiv (.bin .Mod (.bin .Mult (.var 3) (.int 39373)) (.int 2147483563)) (.int 8)) (.var 1))) .nil))))⟩
theorem draw_ok (ht : tab "_law_draw" = some d_draw) {p : Addr} {a b c m : Int} (hp : h p = some (.lst [.int a, .int b, .int c])) (h1 : 0 < m) (h2 : m < 1073741824)
    (q : ∀ r a' b' c', 0 ≤ r → r < m → Q (.int r) (h.put p (.lst [.int a', .int b', .int c']))) : callW tab (k + 1) "_law_draw" [.loc p, .int m] h Q E := by
  refine call_body ht rfl ?_
  rw [d_draw, w_ife]
  simp only [startE]
  simp [idx_p hp]
  split
  · rw [w_asg]
    simp [idx_p hp, h1]
    rw [w_sub]
    simp [idx_p hp, h1, h2, subW, hp, L2.ixN]
    refine ⟨.inl (by omega), ?_⟩
    rw [w_ret]
    simp
    exact ret_same (q _ _ _ _ (Int.emod_nonneg _ (by omega)) (Int.emod_lt_of_pos _ h1))
  · rw [w_nil]
    simp
    rw [w_sub]
    simp [idx_p hp, h1, h2, subW, hp, L2.ixN]
    rw [w_asg]
    simp [idx_p put_at, h1, h2]
    rw [w_asg]
    simp [idx_p put_at, h1, h2]
    refine ⟨by omega, ?_⟩
    rw [w_ret]
    simp [h1]
    exact ret_same (q _ _ _ _ (Int.emod_nonneg _ (by omega)) (Int.emod_lt_of_pos _ h1))
theorem deck_ok (ht : tab "_law_deck" = some d_deck) {i : Int} (q : ∀ p a b, h p = none → Q (.loc p) (h.put p (.lst [.int a, .int b, .int 0]))) : callW tab (k + 1) "_law_deck" [.int i] h Q E := by
  refine call_body ht rfl ?_
  rw [d_deck, w_ret]
  simp only [startE]
  simp
  refine ⟨by right; left; split <;> decide, by rw [PySem.sizeLine_eq]; decide, fun p hp => ret_same (q p _ _ hp)⟩
theorem pickW {xs : List PV} {i : Int} {P : PV → Prop} (h0 : 0 ≤ i) (h1 : i < xs.length) (q : ∀ x ∈ xs, P x) : ∃ v, L2.atI xs i = some v ∧ P v := by
  rw [atI_int _ h0]
  have hr : i.toNat < xs.length := by omega
  exact ⟨xs[i.toNat], List.getElem?_eq_getElem hr, q _ (List.getElem_mem hr)⟩
@[simp] theorem ne_bb {T : Bool → MH → Prop} {i j : Bool} : cmpW .NotEq (.bl i) (.bl j) h T = T (decide (i ≠ j)) h := by
  have e : eqP (.bl i) (.bl j) = decide (i = j) := by simp only [eqP, toD, PyData.eqv]; rw [Bool.eq_iff_iff]; simp
  simp [cmpW, neW, eqOk_bl, e]
@[simp] theorem dct1_t {x : List PV} {Q : Post} {v : PV} : dct1W (.tup x) v h Q = (x.all isKey = true ∧ Q (.dct [.tup x] [v]) h) := rfl
def Ss.from : Nat → Ss → Ss
  | 0, s => s
  | n + 1, .cons _ r => Ss.from n r
  | _ + 1, .nil => .nil
theorem szl {n : Nat} (h : n ≤ 400000) : n ≤ sizeLine := by rw [PySem.sizeLine_eq]; omega
end MP
set_option Elab.async false
set_option linter.all false
set_option maxRecDepth 100000
set_option maxHeartbeats 2000000
namespace SW
open PySem L2 MP
def d__law_divides : Df := ⟨["one", "other"], 2, .cons (.par 0 1 (.blt .abs (.cons (.var 0) .nil)) (.blt .abs (.cons (.var 1) .nil))) (.cons (.while (.cmp .Gt (.var 1) (.int 0)) (.cons (.par 0 1 (.var 1) (.bin .Mod (.var 0) (.var 1))) .nil)) (.cons (.ret (.var 0)) .nil))⟩
def d__law_worth : Df := ⟨["top", "bottom", "by"], 2, .cons (.asg (.name 2) (.call "_law_divides" (.cons (.var 0) (.cons (.var 1) .nil)))) (.cons (.ife (.cmp .Lt (.var 1) (.int 0)) (.cons (.asg (.name 2) (.bin .Sub (.int 0) (.var 2))) .nil) (.nil)) (.cons (.ret (.tup (.cons (.bin .FloorDiv (.var 0) (.var 2)) (.cons (.bin .FloorDiv (.var 1) (.var 2)) .nil)))) .nil))⟩
def d__law_far : Df := ⟨["deck", "far"], 1, .cons (.asg (.name 1) (.bin .Add (.bin .Mult (.call "_law_draw" (.cons (.var 0) (.cons (.bin .Pow (.int 10) (.int 5)) .nil))) (.bin .Pow (.int 10) (.int 4))) (.call "_law_draw" (.cons (.var 0) (.cons (.bin .Pow (.int 10) (.int 4)) .nil))))) (.cons (.ret (.idx (.lst false (.cons (.var 1) (.cons (.bin .Sub (.int 0) (.var 1)) (.cons (.bin .Pow (.int 10) (.int 9)) (.cons (.bin .Sub (.int 0) (.bin .Pow (.int 10) (.int 9))) .nil))))) (.call "_law_draw" (.cons (.var 0) (.cons (.int 4) .nil))))) .nil)⟩
def d__law_some_worth : Df := ⟨["deck", "way"], 1, .cons (.asg (.name 1) (.call "_law_draw" (.cons (.var 0) (.cons (.int 8) .nil)))) (.cons (.ife (.cmp .Lt (.var 1) (.int 4)) (.cons (.ret (.tup (.cons (.bin .Sub (.call "_law_draw" (.cons (.var 0) (.cons (.int 9) .nil))) (.int 4)) (.cons (.int 1) .nil)))) .nil) (.nil)) (.cons (.ife (.cmp .Lt (.var 1) (.int 6)) (.cons (.ret (.call "_law_worth" (.cons (.bin .Sub (.call "_law_draw" (.cons (.var 0) (.cons (.int 41) .nil))) (.int 20)) (.cons (.bin .Add (.int 1) (.call "_law_draw" (.cons (.var 0) (.cons (.int 12) .nil)))) .nil)))) .nil) (.nil)) (.cons (.ife (.cmp .Eq (.var 1) (.int 6)) (.cons (.ret (.idx (.lst false (.cons (.tup (.cons (.int 0) (.cons (.int 1) .nil))) (.cons (.tup (.cons (.int 1) (.cons (.int 1) .nil))) (.cons (.tup (.cons (.neg (.int 1)) (.cons (.int 1) .nil))) (.cons (.tup (.cons (.int 1) (.cons (.int 2) .nil))) .nil))))) (.call "_law_draw" (.cons (.var 0) (.cons (.int 4) .nil))))) .nil) (.nil)) (.cons (.ret (.call "_law_worth" (.cons (.call "_law_far" (.cons (.var 0) .nil)) (.cons (.blt .max2 (.cons (.int 1) (.cons (.blt .abs (.cons (.call "_law_far" (.cons (.var 0) .nil)) .nil)) .nil))) .nil)))) .nil))))⟩
variable {tab : Str → Option Df} {k : Nat} {h : MH} {Q : Post} {E : XQ}
structure Tab (tab : Str → Option Df) : Prop where
  t__law_draw : tab "_law_draw" = some d_draw
  t__law_divides : tab "_law_divides" = some d__law_divides
  t__law_worth : tab "_law_worth" = some d__law_worth
  t__law_far : tab "_law_far" = some d__law_far
  t__law_some_worth : tab "_law_some_worth" = some d__law_some_worth
theorem absI (a : Int) : (if a < 0 then -a else a) = ((a.natAbs : Nat) : Int) := by split <;> omega
theorem divides_ok (ht : tab "_law_divides" = some d__law_divides) {a b : Int} (q : Q (.int (Int.gcd a b)) h) : callW tab (k + 1) "_law_divides" [.int a, .int b] h Q E := by
  refine call_body ht rfl ?_
  rw [d__law_divides, w_par]
  simp only [startE]
  simp
  rw [w_while]
  rw [absI, absI]
  refine ⟨_, while_inv (fun n e h' => h' = h ∧ ∃ x y : Nat, e = [some (.int x), some (.int y)] ∧ y = n ∧ Nat.gcd x y = Int.gcd a b) ?_ ?_ ?_ b.natAbs _ _ ⟨rfl, a.natAbs, b.natAbs, rfl, rfl, rfl⟩⟩
  · rintro n e h' N ⟨rfl, x, y, rfl, rfl, g⟩ st
    simp
    by_cases z : y = 0
    · subst z
      rw [if_neg (by omega)]
      rw [w_ret]
      simp
      rw [Nat.gcd_zero_right] at g
      subst g
      exact ret_same q
    · rw [if_pos (by omega), w_par]
      simp
      have yp : 0 < y := Nat.pos_of_ne_zero z
      exact ⟨yp, w_end (st _ _ (x % y) (Nat.mod_lt _ yp) ⟨rfl, y, x % y, by simp, rfl, by rw [← g, Nat.gcd_comm x y, Nat.gcd_rec y x, Nat.gcd_comm]⟩)⟩
  · intro e h Q Q' w q; exact wpT_mono (callW_mono _ _) (fun _ _ q => w _ _ q) q
  · intro e h D D' le q; exact wpSs_mono (callW_mono _ _) le q
theorem worth_ok (T : Tab tab) {t b : Int} (ht : t.natAbs ≤ 10 ^ 9) (b0 : 0 < b) (hb : b ≤ 10 ^ 9)
    (q : ∀ x y : Int, x.natAbs ≤ 10 ^ 9 → 1 ≤ y → y ≤ 10 ^ 9 → Q (.tup [.int x, .int y]) h) : callW tab (k + 2) "_law_worth" [.int t, .int b] h Q E := by
  refine call_body T.t__law_worth rfl ?_
  rw [d__law_worth, w_asg]
  simp only [startE]
  simp
  refine divides_ok T.t__law_divides ?_
  have g0 : 0 < Int.gcd t b := Int.gcd_pos_of_ne_zero_right _ (by omega)
  have g1 : Int.gcd t b ≤ b.natAbs := Nat.gcd_le_right _ (by omega)
  rw [w_ife]
  simp
  rw [if_neg (by omega)]
  rw [w_nil]
  try dsimp only
  rw [w_ret]
  have b1 : b ≠ 0 := by omega
  simp [b1]
  have y0 : 1 ≤ b / (Int.gcd t b : Int) := by rw [Int.le_ediv_iff_mul_le (by omega)]; omega
  have y1 : b / (Int.gcd t b : Int) ≤ b := Int.ediv_le_self _ (by omega)
  have x0 := Int.natAbs_ediv_le_natAbs t (Int.gcd t b : Int)
  exact ⟨by omega, szl (by omega), ret_same (q _ _ (by omega) y0 (by omega))⟩
theorem far_ok (T : Tab tab) {p : Addr} {a b c : Int} (hp : h p = some (.lst [.int a, .int b, .int c]))
    (q : ∀ (f a' b' c' : Int), f.natAbs ≤ 10 ^ 9 → Q (.int f) (h.put p (.lst [.int a', .int b', .int c']))) : callW tab (k + 2) "_law_far" [.loc p] h Q E := by
  refine call_body T.t__law_far rfl ?_
  rw [d__law_far, w_asg]
  simp only [startE]
  simp
  refine draw_ok (k := k) T.t__law_draw hp (by decide) (by decide) fun r1 a1 b1 c1 r10 r11 => ?_
  simp
  refine draw_ok (k := k) T.t__law_draw put_at (by decide) (by decide) fun r2 a2 b2 c2 r20 r21 => ?_
  simp
  rw [w_ret]
  simp
  refine ⟨szl (by decide), ?_⟩
  refine draw_ok (k := k) T.t__law_draw put_at (by decide) (by decide) fun r3 a3 b3 c3 r30 r31 => ?_
  simp
  refine pickW r30 (by simpa using r31) ?_
  simp only [List.mem_cons, List.not_mem_nil, or_false, forall_eq_or_imp, forall_eq]
  refine ⟨?_, ?_, ?_, ?_⟩ <;> exact ret_same (q _ _ _ _ (by omega))
theorem some_worth_ok (T : Tab tab) {p : Addr} {a b c : Int} (hp : h p = some (.lst [.int a, .int b, .int c]))
    (q : ∀ (x y a' b' c' : Int), x.natAbs ≤ 10 ^ 9 → 1 ≤ y → y ≤ 10 ^ 9 → Q (.tup [.int x, .int y]) (h.put p (.lst [.int a', .int b', .int c']))) : callW tab (k + 3) "_law_some_worth" [.loc p] h Q E := by
  refine call_body T.t__law_some_worth rfl ?_
  rw [d__law_some_worth, w_asg]
  simp only [startE]
  simp
  refine draw_ok (k := k + 1) T.t__law_draw hp (by decide) (by decide) fun r1 a1 b1 c1 r10 r11 => ?_
  rw [w_ife]
  simp
  split
  · rw [w_ret]
    simp
    refine draw_ok (k := k + 1) T.t__law_draw put_at (by decide) (by decide) fun r2 a2 b2 c2 r20 r21 => ?_
    simp
    exact ⟨szl (by decide), ret_same (q _ _ _ _ _ (by omega) (by omega) (by omega))⟩
  rw [w_nil]
  simp
  rw [w_ife]
  simp
  split
  · rw [w_ret]
    simp
    refine draw_ok (k := k + 1) T.t__law_draw put_at (by decide) (by decide) fun r2 a2 b2 c2 r20 r21 => ?_
    simp
    refine draw_ok (k := k + 1) T.t__law_draw put_at (by decide) (by decide) fun r3 a3 b3 c3 r30 r31 => ?_
    simp
    exact worth_ok (k := k) T (by omega) (by omega) (by omega) fun x y hx hy hy2 => ret_same (q _ _ _ _ _ hx hy hy2)
  rw [w_nil]
  simp
  rw [w_ife]
  simp
  split
  · rw [w_ret]
    simp
    refine ⟨szl (by decide), szl (by decide), ?_⟩
    refine draw_ok (k := k + 1) T.t__law_draw put_at (by decide) (by decide) fun r2 a2 b2 c2 r20 r21 => ?_
    simp
    refine pickW r20 (by simpa using r21) ?_
    simp only [List.mem_cons, List.not_mem_nil, or_false, forall_eq_or_imp, forall_eq]
    refine ⟨?_, ?_, ?_, ?_⟩ <;> exact ret_same (q _ _ _ _ _ (by decide) (by decide) (by decide))
  rw [w_nil]
  simp
  rw [w_ret]
  simp
  refine far_ok (k := k) T put_at fun f1 a2 b2 c2 hf1 => ?_
  simp
  refine far_ok (k := k) T put_at fun f2 a3 b3 c3 hf2 => ?_
  simp
  exact worth_ok (k := k) T hf1 (by split <;> split <;> omega) (by split <;> split <;> omega) fun x y hx hy hy2 => ret_same (q _ _ _ _ _ hx hy hy2)
end SW
set_option Elab.async false
set_option linter.all false
set_option maxRecDepth 100000
set_option maxHeartbeats 2000000
namespace SM
open PySem L2 MP
def d__law_same : Df := ⟨["found", "due", "one", "other"], 2, .cons (.ife (.isi (.var 1) "tuple") (.cons (.ife (.or (.not (.isi (.var 0) "tuple")) (.cmp .NotEq (.blt .len (.cons (.var 0) .nil)) (.blt .len (.cons (.var 1) .nil)))) (.cons (.ret (.bl false)) .nil) (.nil)) (.cons (.ret (.isin (.bl false) (.comp false (.call "_law_same" (.cons (.var 2) (.cons (.var 3) .nil))) (.tup2 (.name 2) (.name 3)) (.zip (.var 0) (.var 1)) .none) true)) .nil)) (.nil)) (.cons (.ife (.isi (.var 1) "str") (.cons (.ret (.and (.isi (.var 0) "str") (.cmp .Eq (.var 0) (.var 1)))) .nil) (.nil)) (.cons (.ret (.and (.isi (.var 0) "int") (.and (.cmp .Eq (.isi (.var 0) "bool") (.isi (.var 1) "bool")) (.cmp .Eq (.var 0) (.var 1))))) .nil))⟩
variable {tab : Str → Option Df} {k : Nat} {h : MH} {Q : Post} {E : XQ}
structure Tab (tab : Str → Option Df) : Prop where
  t__law_same : tab "_law_same" = some d__law_same
def deepI : Nat → PV → Prop
  | _, .int _ => True
  | d + 1, .tup xs => xs.length ≤ 100000 ∧ ∀ x ∈ xs, deepI d x
  | _, _ => False
theorem deepI_tup {d : Nat} {v : PV} (h : deepI (d + 1) v) : (∃ i, v = .int i) ∨ ∃ xs, v = .tup xs ∧ xs.length ≤ 100000 ∧ ∀ x ∈ xs, deepI d x := by
  cases v <;> first | exact .inl ⟨_, rfl⟩ | exact .inr ⟨_, rfl, h⟩ | exact h.elim
theorem deepI_pur : ∀ (d : Nat) (v : PV), deepI d v → pur v = true := by
  intro d
  induction d with
  | zero => intro v h; cases v <;> first | rfl | exact h.elim
  | succ d ih =>
    intro v h
    rcases deepI_tup h with ⟨i, rfl⟩ | ⟨xs, rfl, _, hx⟩
    · rfl
    · simp only [pur, purs_eq, List.all_eq_true]
      exact fun x hx' => ih x (hx x hx')
theorem same_int (T : Tab tab) {i : Int} (q : Q (.bl true) h) : callW tab (k + 1) "_law_same" [.int i, .int i] h Q E := by
  refine call_body T.t__law_same rfl ?_
  rw [d__law_same, w_ife]
  simp only [startE]
  have pu : pur (PV.int i) = true := rfl
  simp [isi_eq pu, tyB, isTb, isT]
  rw [w_nil]
  simp
  rw [w_ife]
  simp [isi_eq pu, tyB, isTb, isT]
  rw [w_nil]
  simp
  rw [w_ret]
  simp [isi_eq pu, tyB, isTb, isT]
  exact ret_same q
theorem zip_self : ∀ xs : List PV, xs.zip xs = xs.map fun x => (x, x)
  | [] => rfl
  | x :: r => by simp [zip_self r]
theorem bl_list : ∀ bs : List Bool, purs (bs.map .bl) = true ∧ PyData.canLayAll0 (toDs (bs.map .bl)) = true ∧ PyData.depthAll (toDs (bs.map .bl)) = 0
  | [] => ⟨rfl, rfl, rfl⟩
  | b :: r => by
    obtain ⟨x, y, z⟩ := bl_list r
    simp [purs, pur, toDs, toD, PyData.canLayAll0, PyData.canLay0, PyData.depthAll, PyData.depth, x, y, z]
theorem bl_shaped (bs : List Bool) : SeqAt.shaped (.list (toDs (bs.map .bl))) = true := by
  obtain ⟨x, y, z⟩ := bl_list bs
  unfold SeqAt.shaped
  simp only [PyData.canLay0, PyData.depth, y, z]
  decide
theorem fm_const : ∀ l : List PV, l.filterMap (fun _ => some (PV.bl true)) = (List.replicate l.length true).map PV.bl
  | [] => rfl
  | x :: r => by
    have := fm_const r
    simp only [List.filterMap_cons, this]
    rfl
theorem same_ok (T : Tab tab) : ∀ (d k : Nat) {v : PV} {h : MH} {Q : Post} {E : XQ}, deepI d v → Q (.bl true) h → callW tab (d + k + 1) "_law_same" [v, v] h Q E := by
  intro d
  induction d with
  | zero =>
    intro k v h Q E dv q
    obtain ⟨i, rfl⟩ : ∃ i, v = .int i := by cases v <;> first | exact ⟨_, rfl⟩ | exact dv.elim
    exact same_int T q
  | succ d ih =>
    intro k v h Q E dv q
    have pv := deepI_pur _ _ dv
    rcases deepI_tup dv with ⟨i, rfl⟩ | ⟨xs, rfl, hl, hx⟩
    · exact same_int T q
    · refine call_body T.t__law_same rfl ?_
      rw [d__law_same, w_ife]
      simp only [startE]
      simp [isi_eq pv, tyB, isTb, isT]
      rw [w_ife]
      simp [isi_eq pv, tyB, isTb, isT]
      rw [w_nil]
      simp
      rw [w_ret]
      simp
      refine ⟨_, _, ⟨rfl, rfl⟩, fun _ _ => ?_⟩
      refine comp_pure (fun _ => some (.bl true)) (by simp) (fun x hx' R hR => ?_) ?_
      · rw [zip_self] at hx'
        simp only [List.map_map] at hx'
        obtain ⟨y, hy, rfl⟩ := List.mem_map.mp hx'
        simp
        have el : d + 1 + k = d + k + 1 := by omega
        rw [el]
        exact ih k (hx y hy) hR
      · have ef : ((xs.zip xs).map fun p => PV.tup [p.1, p.2]).filterMap (fun _ => some (PV.bl true)) = (List.replicate xs.length true).map PV.bl := by
          rw [fm_const, List.length_map, List.length_zip, Nat.min_self]
        rw [ef]
        have an : ((List.replicate xs.length true).map PV.bl).any (fun z => eqP z (.bl false)) = false := by
          rw [List.any_eq_false]
          intro x hx
          obtain ⟨b, hb, rfl⟩ := List.mem_map.mp hx
          rw [List.mem_replicate] at hb
          rw [hb.2]; decide
        refine ⟨by simp [PySem.sizeLine_eq]; omega, _, rfl, ⟨eqOk_bl, (bl_list _).1, bl_shaped _⟩, ?_⟩
        simp only [rd_b, an]
        exact ret_same q
end SM
set_option Elab.async false
set_option linter.all false
set_option maxRecDepth 100000
set_option maxHeartbeats 2000000
namespace K02
open PySem L2 MP
def d_divisor_of : Df := ⟨["one", "other"], 2, .cons (.asg (.name 0) (.blt .abs (.cons (.var 0) .nil))) (.cons (.asg (.name 1) (.blt .abs (.cons (.var 1) .nil))) (.cons (.while (.cmp .NotEq (.var 1) (.int 0)) (.cons (.par 0 1 (.var 1) (.bin .Mod (.var 0) (.var 1))) .nil)) (.cons (.ret (.var 0)) .nil)))⟩
def d_worth_of : Df := ⟨["top", "bottom", "by"], 2, .cons (.ife (.cmp .Eq (.var 1) (.int 0)) (.cons (.raise "NoWorth") .nil) (.nil)) (.cons (.asg (.name 2) (.call "divisor_of" (.cons (.var 0) (.cons (.var 1) .nil)))) (.cons (.ife (.cmp .Lt (.var 1) (.int 0)) (.cons (.asg (.name 2) (.bin .Sub (.int 0) (.var 2))) .nil) (.nil)) (.cons (.ret (.tup (.cons (.bin .FloorDiv (.var 0) (.var 2)) (.cons (.bin .FloorDiv (.var 1) (.var 2)) .nil)))) .nil)))⟩
def d_summed : Df := ⟨["one", "other"], 2, .cons (.ret (.call "worth_of" (.cons (.bin .Add (.bin .Mult (.idx (.var 0) (.int 0)) (.idx (.var 1) (.int 1))) (.bin .Mult (.idx (.var 1) (.int 0)) (.idx (.var 0) (.int 1)))) (.cons (.bin .Mult (.idx (.var 0) (.int 1)) (.idx (.var 1) (.int 1))) .nil)))) .nil⟩
def d_lessened : Df := ⟨["one", "other"], 2, .cons (.ret (.call "worth_of" (.cons (.bin .Sub (.bin .Mult (.idx (.var 0) (.int 0)) (.idx (.var 1) (.int 1))) (.bin .Mult (.idx (.var 1) (.int 0)) (.idx (.var 0) (.int 1)))) (.cons (.bin .Mult (.idx (.var 0) (.int 1)) (.idx (.var 1) (.int 1))) .nil)))) .nil⟩
def d_product_of : Df := ⟨["one", "other"], 2, .cons (.ret (.call "worth_of" (.cons (.bin .Mult (.idx (.var 0) (.int 0)) (.idx (.var 1) (.int 0))) (.cons (.bin .Mult (.idx (.var 0) (.int 1)) (.idx (.var 1) (.int 1))) .nil)))) .nil⟩
def d_quotient : Df := ⟨["one", "other"], 2, .cons (.ret (.call "worth_of" (.cons (.bin .Mult (.idx (.var 0) (.int 0)) (.idx (.var 1) (.int 1))) (.cons (.bin .Mult (.idx (.var 0) (.int 1)) (.idx (.var 1) (.int 0))) .nil)))) .nil⟩
def d__law_deck : Df := ⟨["cell"], 1, .cons (.ret (.lst true (.cons (.bin .Mult (.var 0) (.blt .int (.cons (.cmp .GtE (.var 0) (.bin .Pow (.int 10) (.int 18))) .nil))) (.cons (.bin .Mod (.var 0) (.int 2147483587)) (.cons (.int 0) .nil))))) .nil⟩
def d__law_draw : Df := ⟨["deck", "most", "got", "mixed"], 2, .cons (.ife (.cmp .Gt (.idx (.var 0) (.int 0)) (.int 0)) (.cons (.asg (.name 2) (.bin .Mod (.idx (.var 0) (.int 0)) (.var 1))) (.cons (.sub (.var 0) (.int 0) (.bin .FloorDiv (.idx (.var 0) (.int 0)) (.var 1))) (.cons (.ret (.var 2)) .nil))) (.nil)) (.cons (.sub (.var 0) (.int 2) (.bin .Add (.idx (.var 0) (.int 2)) (.int 1))) (.cons (.asg (.name 3) (.bin .Mod (.bin .Mult (.bin .Add (.bin .Add (.idx (.var 0) (.int 1)) (.bin .Mult (.int 104729) (.idx (.var 0) (.int 2)))) (.int 17)) (.int 48271)) (.int 2147483647))) (.cons (.asg (.name 3) (.bin .Mod (.bin .Add (.bin .Add (.bin .Mult (.var 3) (.var 3)) (.bin .Mult (.int 69621) (.var 3))) (.idx (.var 0) (.int 2))) (.int 2147483629))) (.cons (.ret (.bin .Mod (.bin .FloorDiv (.bin .Mod (.bin .Mult (.var 3) (.int 39373)) (.int 2147483563)) (.int 8)) (.var 1))) .nil))))⟩
def d__law_divides : Df := ⟨["one", "other"], 2, .cons (.par 0 1 (.blt .abs (.cons (.var 0) .nil)) (.blt .abs (.cons (.var 1) .nil))) (.cons (.while (.cmp .Gt (.var 1) (.int 0)) (.cons (.par 0 1 (.var 1) (.bin .Mod (.var 0) (.var 1))) .nil)) (.cons (.ret (.var 0)) .nil))⟩
def d__law_worth : Df := ⟨["top", "bottom", "by"], 2, .cons (.asg (.name 2) (.call "_law_divides" (.cons (.var 0) (.cons (.var 1) .nil)))) (.cons (.ife (.cmp .Lt (.var 1) (.int 0)) (.cons (.asg (.name 2) (.bin .Sub (.int 0) (.var 2))) .nil) (.nil)) (.cons (.ret (.tup (.cons (.bin .FloorDiv (.var 0) (.var 2)) (.cons (.bin .FloorDiv (.var 1) (.var 2)) .nil)))) .nil))⟩
def d__law_far : Df := ⟨["deck", "far"], 1, .cons (.asg (.name 1) (.bin .Add (.bin .Mult (.call "_law_draw" (.cons (.var 0) (.cons (.bin .Pow (.int 10) (.int 5)) .nil))) (.bin .Pow (.int 10) (.int 4))) (.call "_law_draw" (.cons (.var 0) (.cons (.bin .Pow (.int 10) (.int 4)) .nil))))) (.cons (.ret (.idx (.lst false (.cons (.var 1) (.cons (.bin .Sub (.int 0) (.var 1)) (.cons (.bin .Pow (.int 10) (.int 9)) (.cons (.bin .Sub (.int 0) (.bin .Pow (.int 10) (.int 9))) .nil))))) (.call "_law_draw" (.cons (.var 0) (.cons (.int 4) .nil))))) .nil)⟩
def d__law_some_worth : Df := ⟨["deck", "way"], 1, .cons (.asg (.name 1) (.call "_law_draw" (.cons (.var 0) (.cons (.int 8) .nil)))) (.cons (.ife (.cmp .Lt (.var 1) (.int 4)) (.cons (.ret (.tup (.cons (.bin .Sub (.call "_law_draw" (.cons (.var 0) (.cons (.int 9) .nil))) (.int 4)) (.cons (.int 1) .nil)))) .nil) (.nil)) (.cons (.ife (.cmp .Lt (.var 1) (.int 6)) (.cons (.ret (.call "_law_worth" (.cons (.bin .Sub (.call "_law_draw" (.cons (.var 0) (.cons (.int 41) .nil))) (.int 20)) (.cons (.bin .Add (.int 1) (.call "_law_draw" (.cons (.var 0) (.cons (.int 12) .nil)))) .nil)))) .nil) (.nil)) (.cons (.ife (.cmp .Eq (.var 1) (.int 6)) (.cons (.ret (.idx (.lst false (.cons (.tup (.cons (.int 0) (.cons (.int 1) .nil))) (.cons (.tup (.cons (.int 1) (.cons (.int 1) .nil))) (.cons (.tup (.cons (.neg (.int 1)) (.cons (.int 1) .nil))) (.cons (.tup (.cons (.int 1) (.cons (.int 2) .nil))) .nil))))) (.call "_law_draw" (.cons (.var 0) (.cons (.int 4) .nil))))) .nil) (.nil)) (.cons (.ret (.call "_law_worth" (.cons (.call "_law_far" (.cons (.var 0) .nil)) (.cons (.blt .max2 (.cons (.int 1) (.cons (.blt .abs (.cons (.call "_law_far" (.cons (.var 0) .nil)) .nil)) .nil))) .nil)))) .nil))))⟩
def d__law_same : Df := ⟨["found", "due", "one", "other"], 2, .cons (.ife (.isi (.var 1) "tuple") (.cons (.ife (.or (.not (.isi (.var 0) "tuple")) (.cmp .NotEq (.blt .len (.cons (.var 0) .nil)) (.blt .len (.cons (.var 1) .nil)))) (.cons (.ret (.bl false)) .nil) (.nil)) (.cons (.ret (.isin (.bl false) (.comp false (.call "_law_same" (.cons (.var 2) (.cons (.var 3) .nil))) (.tup2 (.name 2) (.name 3)) (.zip (.var 0) (.var 1)) .none) true)) .nil)) (.nil)) (.cons (.ife (.isi (.var 1) "str") (.cons (.ret (.and (.isi (.var 0) "str") (.cmp .Eq (.var 0) (.var 1)))) .nil) (.nil)) (.cons (.ret (.and (.isi (.var 0) "int") (.and (.cmp .Eq (.isi (.var 0) "bool") (.isi (.var 1) "bool")) (.cmp .Eq (.var 0) (.var 1))))) .nil))⟩
def d__law_refused : Df := MP.dRef
def d__law_two_right : Df := ⟨["one", "other", "a", "b", "c", "d", "some", "ask", "top", "bottom"], 2, .cons (.asg (.tup2 (.name 2) (.name 3)) (.var 0)) (.cons (.asg (.tup2 (.name 4) (.name 5)) (.var 1)) (.cons (.asg (.name 6) (.lst true (.cons (.tup (.cons (.gfn "summed") (.cons (.bin .Add (.bin .Mult (.var 2) (.var 5)) (.bin .Mult (.var 4) (.var 3))) (.cons (.bin .Mult (.var 3) (.var 5)) .nil)))) (.cons (.tup (.cons (.gfn "lessened") (.cons (.bin .Sub (.bin .Mult (.var 2) (.var 5)) (.bin .Mult (.var 4) (.var 3))) (.cons (.bin .Mult (.var 3) (.var 5)) .nil)))) (.cons (.tup (.cons (.gfn "product_of") (.cons (.bin .Mult (.var 2) (.var 4)) (.cons (.bin .Mult (.var 3) (.var 5)) .nil)))) .nil))))) (.cons (.ife (.cmp .NotEq (.var 4) (.int 0)) (.cons (.ex (.meth (.var 6) .append (.cons (.tup (.cons (.gfn "quotient") (.cons (.bin .Mult (.var 2) (.var 5)) (.cons (.bin .Mult (.var 3) (.var 4)) .nil)))) .nil))) .nil) (.cons (.ife (.not (.call "_law_refused" (.cons (.gfn "quotient") (.cons (.var 0) (.cons (.var 1) .nil))))) (.cons (.ret (.bl false)) .nil) (.nil)) .nil)) (.cons (.for (.tup3 (.name 7) (.name 8) (.name 9)) (.seq (.var 6)) (.cons (.ife (.not (.call "_law_same" (.cons (.callv 7 (.cons (.var 0) (.cons (.var 1) .nil))) (.cons (.call "_law_worth" (.cons (.var 8) (.cons (.var 9) .nil))) .nil)))) (.cons (.ret (.bl false)) .nil) (.nil)) .nil)) (.cons (.ife (.cmp .NotEq (.call "lessened" (.cons (.call "summed" (.cons (.var 0) (.cons (.var 1) .nil))) (.cons (.var 1) .nil))) (.var 0)) (.cons (.ret (.bl false)) .nil) (.nil)) (.cons (.ret (.or (.cmp .Eq (.var 4) (.int 0)) (.cmp .Eq (.call "product_of" (.cons (.call "quotient" (.cons (.var 0) (.cons (.var 1) .nil))) (.cons (.var 1) .nil))) (.var 0)))) .nil))))))⟩
def d_law : Df := ⟨["script", "cell", "deck", "some", "k", "top", "bottom", "one", "other"], 1, .cons (.for (.name 1) (.seq (.bin .Add (.slc (.var 0) .none (.some (.int 14))) (.lst false (.cons (.int 3) .nil)))) (.cons (.asg (.name 2) (.call "_law_deck" (.cons (.var 1) .nil))) (.cons (.asg (.name 3) (.comp true (.call "_law_some_worth" (.cons (.var 2) .nil)) (.name 4) (.rng1 (.int 5)) .none)) (.cons (.par 5 6 (.call "_law_far" (.cons (.var 2) .nil)) (.idx (.lst false (.cons (.call "_law_far" (.cons (.var 2) .nil)) (.cons (.bin .Sub (.call "_law_draw" (.cons (.var 2) (.cons (.int 20) .nil))) (.int 10)) (.cons (.int 0) .nil)))) (.bin .FloorDiv (.call "_law_draw" (.cons (.var 2) (.cons (.int 6) .nil))) (.int 2)))) (.cons (.ife (.and (.cmp .Eq (.var 6) (.int 0)) (.not (.call "_law_refused" (.cons (.gfn "worth_of") (.cons (.var 5) (.cons (.var 6) .nil)))))) (.cons (.ret (.bl false)) .nil) (.nil)) (.cons (.ife (.and (.cmp .NotEq (.var 6) (.int 0)) (.not (.call "_law_same" (.cons (.call "worth_of" (.cons (.var 5) (.cons (.var 6) .nil))) (.cons (.call "_law_worth" (.cons (.var 5) (.cons (.var 6) .nil))) .nil))))) (.cons (.ret (.bl false)) .nil) (.nil)) (.cons (.ex (.meth (.var 3) .append (.cons (.call "summed" (.cons (.call "product_of" (.cons (.idx (.var 3) (.int 0)) (.cons (.idx (.var 3) (.int 1)) .nil))) (.cons (.idx (.var 3) (.int 2)) .nil))) .nil))) (.cons (.for (.name 7) (.seq (.var 3)) (.cons (.for (.name 8) (.seq (.var 3)) (.cons (.ife (.not (.call "_law_two_right" (.cons (.var 7) (.cons (.var 8) .nil)))) (.cons (.ret (.bl false)) .nil) (.nil)) .nil)) .nil)) .nil)))))))) (.cons (.ret (.and (.call "_law_refused" (.cons (.gfn "worth_of") (.cons (.int 0) (.cons (.int 0) .nil)))) (.cmp .Eq (.call "worth_of" (.cons (.int 0) (.cons (.neg (.int 5)) .nil))) (.tup (.cons (.int 0) (.cons (.int 1) .nil)))))) .nil)⟩
end K02
set_option Elab.async false
set_option linter.all false
set_option maxRecDepth 100000
set_option maxHeartbeats 2000000
namespace K02
open PySem L2 MP
variable {tab : Str → Option Df} {k : Nat} {h : MH} {Q : Post} {E : XQ}
def W (t b : Int) : Int × Int := if b < 0 then (t.fdiv (-(Int.gcd t b : Int)), b.fdiv (-(Int.gcd t b : Int))) else (t / (Int.gcd t b : Int), b / (Int.gcd t b : Int))
structure Red (x y : Int) : Prop where
  pos : 0 < y
  one : Int.gcd x y = 1
theorem W_spec {t b : Int} (hb : b ≠ 0) : Red (W t b).1 (W t b).2 ∧ (W t b).1 * b = t * (W t b).2 ∧ (W t b).1.natAbs ≤ t.natAbs ∧ (W t b).2.natAbs ≤ b.natAbs := by
  have g0 : 0 < Int.gcd t b := Int.gcd_pos_of_ne_zero_right _ hb
  have c1 := Int.gcd_ediv_gcd_ediv_gcd g0
  obtain ⟨t', ht⟩ := Int.gcd_dvd_left t b
  obtain ⟨b', hb'⟩ := Int.gcd_dvd_right t b
  generalize hg : Int.gcd t b = g at *
  have gi : (g : Int) ≠ 0 := by omega
  have e1 : t / (g : Int) = t' := by rw [ht]; exact Int.mul_ediv_cancel_left _ gi
  have e2 : b / (g : Int) = b' := by rw [hb']; exact Int.mul_ediv_cancel_left _ gi
  rw [e1, e2] at c1
  have n1 : t'.natAbs ≤ t.natAbs := by
    rw [ht, Int.natAbs_mul, Int.natAbs_natCast]
    exact Nat.le_mul_of_pos_left _ g0
  have n2 : b'.natAbs ≤ b.natAbs := by
    rw [hb', Int.natAbs_mul, Int.natAbs_natCast]
    exact Nat.le_mul_of_pos_left _ g0
  have x : t' * b = t * b' := by rw [ht, hb', ← Int.mul_assoc, Int.mul_comm t' g]
  unfold W
  rw [hg]
  by_cases z : b < 0
  · rw [if_pos z]
    have f1 : t.fdiv (-(g : Int)) = -t' := by
      have : t = -(g : Int) * -t' := by rw [Int.neg_mul_neg]; exact ht
      rw [this]; exact Int.mul_fdiv_cancel_left _ (by omega)
    have f2 : b.fdiv (-(g : Int)) = -b' := by
      have : b = -(g : Int) * -b' := by rw [Int.neg_mul_neg]; exact hb'
      rw [this]; exact Int.mul_fdiv_cancel_left _ (by omega)
    rw [f1, f2]
    refine ⟨⟨?_, by rw [Int.neg_gcd, Int.gcd_neg]; exact c1⟩, ?_, by rw [Int.natAbs_neg]; exact n1, by rw [Int.natAbs_neg]; exact n2⟩
    · show 0 < -b'
      have : ¬ 0 ≤ b' := fun y => by
        have := Int.mul_nonneg (show (0 : Int) ≤ g by omega) y
        omega
      omega
    · show -t' * b = t * -b'
      rw [Int.neg_mul, Int.mul_neg, x]
  · rw [if_neg z, e1, e2]
    refine ⟨⟨?_, c1⟩, x, n1, n2⟩
    show 0 < b'
    have : ¬ b' ≤ 0 := fun y => by
      have := Int.mul_nonneg (show (0 : Int) ≤ g by omega) (show 0 ≤ -b' by omega)
      rw [Int.mul_neg] at this
      omega
    omega
theorem uniq {x y x' y' : Int} (r : Red x y) (r' : Red x' y') (e : x * y' = x' * y) : x = x' ∧ y = y' := by
  have d1 : y.natAbs ∣ y'.natAbs := by
    have c : Nat.Coprime y.natAbs x.natAbs := by have := r.one; rw [Int.gcd_comm] at this; exact this
    refine c.dvd_of_dvd_mul_left ?_
    rw [← Int.natAbs_mul, e, Int.natAbs_mul]
    exact Nat.dvd_mul_left _ _
  have d2 : y'.natAbs ∣ y.natAbs := by
    have c : Nat.Coprime y'.natAbs x'.natAbs := by have := r'.one; rw [Int.gcd_comm] at this; exact this
    refine c.dvd_of_dvd_mul_left ?_
    rw [← Int.natAbs_mul, ← e, Int.natAbs_mul]
    exact Nat.dvd_mul_left _ _
  have ey : y.natAbs = y'.natAbs := Nat.dvd_antisymm d1 d2
  have p1 := r.pos
  have p2 := r'.pos
  have ey' : y = y' := by omega
  subst ey'
  exact ⟨Int.eq_of_mul_eq_mul_right (by omega) e, rfl⟩
theorem back1 {a b c d x y u v : Int} (r : Red a b) (h1 : x * (b * d) = (a * d + c * b) * y) (h2 : u * (y * d) = (x * d - c * y) * v) (hb : b ≠ 0) (hd : d ≠ 0) (hy : y ≠ 0) (r' : Red u v) : u = a ∧ v = b := by
  refine uniq r' r ?_
  have k : y * d * d ≠ 0 := Int.mul_ne_zero (Int.mul_ne_zero hy hd) hd
  refine Int.eq_of_mul_eq_mul_right k ?_
  grind
theorem back2 {a b c d x y u v : Int} (r : Red a b) (h1 : x * (b * c) = (a * d) * y) (h2 : u * (y * d) = (x * c) * v) (hc : c ≠ 0) (hd : d ≠ 0) (hy : y ≠ 0) (r' : Red u v) : u = a ∧ v = b := by
  refine uniq r' r ?_
  have k : y * d * c ≠ 0 := Int.mul_ne_zero (Int.mul_ne_zero hy hd) hc
  refine Int.eq_of_mul_eq_mul_right k ?_
  grind
end K02
set_option Elab.async false
set_option linter.all false
set_option maxRecDepth 100000
set_option maxHeartbeats 2000000
namespace K02
open PySem L2 MP
variable {tab : Str → Option Df} {k : Nat} {h : MH} {Q : Post} {E : XQ}
structure Tab (tab : Str → Option Df) : Prop where
  sw : SW.Tab tab
  sm : SM.Tab tab
  t_divisor_of : tab "divisor_of" = some d_divisor_of
  t_worth_of : tab "worth_of" = some d_worth_of
  t_summed : tab "summed" = some d_summed
  t_lessened : tab "lessened" = some d_lessened
  t_product_of : tab "product_of" = some d_product_of
  t_quotient : tab "quotient" = some d_quotient
  t__law_deck : tab "_law_deck" = some d__law_deck
  t__law_refused : tab "_law_refused" = some d__law_refused
  t__law_two_right : tab "_law_two_right" = some d__law_two_right
  t_law : tab "law" = some d_law
theorem absI (a : Int) : (if a < 0 then -a else a) = ((a.natAbs : Nat) : Int) := by split <;> omega
theorem divisor_ok (ht : tab "divisor_of" = some d_divisor_of) {a b : Int} (q : Q (.int (Int.gcd a b)) h) : callW tab (k + 1) "divisor_of" [.int a, .int b] h Q E := by
  refine call_body ht rfl ?_
  rw [d_divisor_of, w_asg]
  simp only [startE]
  simp
  rw [w_asg]
  simp
  rw [w_while]
  rw [absI, absI]
  refine ⟨_, while_inv (fun n e h' => h' = h ∧ ∃ x y : Nat, e = [some (.int x), some (.int y)] ∧ y = n ∧ Nat.gcd x y = Int.gcd a b) ?_ ?_ ?_ b.natAbs _ _ ⟨rfl, a.natAbs, b.natAbs, rfl, rfl, rfl⟩⟩
  · rintro n e h' N ⟨rfl, x, y, rfl, rfl, g⟩ st
    simp
    by_cases z : y = 0
    · subst z
      rw [if_pos rfl]
      rw [w_ret]
      simp
      rw [Nat.gcd_zero_right] at g
      subst g
      exact ret_same q
    · rw [if_neg z, w_par]
      simp
      have yp : 0 < y := Nat.pos_of_ne_zero z
      exact ⟨yp, w_end (st _ _ (x % y) (Nat.mod_lt _ yp) ⟨rfl, y, x % y, by simp, rfl, by rw [← g, Nat.gcd_comm x y, Nat.gcd_rec y x, Nat.gcd_comm]⟩)⟩
  · intro e h Q Q' w q; exact wpT_mono (callW_mono _ _) (fun _ _ q => w _ _ q) q
  · intro e h D D' le q; exact wpSs_mono (callW_mono _ _) le q
theorem lg {z : Int} (h : z.natAbs < 2 ^ 1000) : z.natAbs.log2 < 9000 ∧ z.natAbs.log2 < 100000 := by
  by_cases e : z.natAbs = 0
  · rw [e]; decide
  · have := (Nat.log2_lt e).mpr h
    omega
theorem mulOk {x y : Int} (hx : x.natAbs < 2 ^ 1000) (hy : y.natAbs < 2 ^ 1000) : x.natAbs < 2 ^ 64 ∨ y.natAbs < 2 ^ 64 ∨ x.natAbs.log2 + y.natAbs.log2 < 1000000 := by
  have a := (lg hx).2
  have b := (lg hy).2
  right; right; omega
theorem dv_pos {i j : Int} (j0 : 0 < j) (l : j.natAbs.log2 < 9000) (q : Q (.int (i / j)) h) : binW .FloorDiv (.int i) (.int j) h Q := by
  rw [bin_div, if_pos j0]; exact ⟨.inr l, q⟩
theorem dv_neg {i j : Int} (j0 : ¬ 0 < j) (j1 : j ≠ 0) (l : j.natAbs.log2 < 9000) (q : Q (.int (i.fdiv j)) h) : binW .FloorDiv (.int i) (.int j) h Q := by
  rw [bin_div, if_neg j0]; exact ⟨⟨j1, .inr l⟩, q⟩
def wV (p : Int × Int) : PV := .tup [.int p.1, .int p.2]
theorem fdiv_W {t b : Int} (hb : b ≠ 0) (h2 : b.natAbs < 2 ^ 1000) {D : En} {G : Calls} {Ex : XP} (q : D.rt (wV (W t b)) h) :
    wpSs G Ex (.cons (.ife (.cmp .Lt (.var 1) (.int 0)) (.cons (.asg (.name 2) (.bin .Sub (.int 0) (.var 2))) .nil) (.nil)) (.cons (.ret (.tup (.cons (.bin .FloorDiv (.var 0) (.var 2)) (.cons (.bin .FloorDiv (.var 1) (.var 2)) .nil)))) .nil)) [some (.int t), some (.int b), some (.int (Int.gcd t b))] h D := by
  have g0 : 0 < Int.gcd t b := Int.gcd_pos_of_ne_zero_right _ hb
  have g1 : Int.gcd t b ≤ b.natAbs := Nat.gcd_le_right _ (by omega)
  have gl : (Int.gcd t b).log2 < 9000 := (lg (z := (Int.gcd t b : Int)) (by rw [Int.natAbs_natCast]; omega)).1
  rw [w_ife]
  simp
  unfold W at q
  by_cases z : b < 0
  · rw [if_pos z] at q ⊢
    rw [w_asg]
    simp
    rw [w_nil]
    dsimp only
    rw [w_ret]
    have n0 : ¬ (0 < -(Int.gcd t b : Int)) := by omega
    simp only [wE_tup, wEs_cons, wE_bin, wE_var, wEs_nil]
    have gl' : (-(Int.gcd t b : Int)).natAbs.log2 < 9000 := by rw [Int.natAbs_neg, Int.natAbs_natCast]; exact gl
    exact ⟨_, rfl, _, rfl, dv_neg n0 (by omega) gl' ⟨_, rfl, _, rfl, dv_neg n0 (by omega) gl' ⟨szl (show 2 ≤ 400000 by decide), q⟩⟩⟩
  · rw [if_neg z] at q ⊢
    rw [w_nil]
    dsimp only
    rw [w_ret]
    simp only [wE_tup, wEs_cons, wE_bin, wE_var, wEs_nil]
    have gl' : (Int.gcd t b : Int).natAbs.log2 < 9000 := by rw [Int.natAbs_natCast]; exact gl
    exact ⟨_, rfl, _, rfl, dv_pos (by omega) gl' ⟨_, rfl, _, rfl, dv_pos (by omega) gl' ⟨szl (show 2 ≤ 400000 by decide), q⟩⟩⟩
theorem worth_of_ok (T : Tab tab) {t b : Int} (hb : b ≠ 0) (h2 : b.natAbs < 2 ^ 1000) (q : Q (wV (W t b)) h) : callW tab (k + 2) "worth_of" [.int t, .int b] h Q E := by
  refine call_body T.t_worth_of rfl ?_
  rw [d_worth_of, w_ife]
  simp only [startE]
  simp [hb]
  rw [w_nil]
  simp
  rw [w_asg]
  simp
  refine divisor_ok T.t_divisor_of ?_
  exact fdiv_W hb h2 (ret_same q)
theorem worth_of_no (T : Tab tab) {t : Int} (q : E ⟨"NoWorth", none⟩ h) : callW tab (k + 1) "worth_of" [.int t, .int 0] h Q E := by
  refine call_body T.t_worth_of rfl ?_
  rw [d_worth_of, w_ife]
  simp only [startE]
  simp
  rw [w_raise]
  exact ⟨h, hle_refl, q⟩
theorem law_worth_ok (T : Tab tab) {t b : Int} (hb : b ≠ 0) (h2 : b.natAbs < 2 ^ 1000) (q : Q (wV (W t b)) h) : callW tab (k + 2) "_law_worth" [.int t, .int b] h Q E := by
  refine call_body T.sw.t__law_worth rfl ?_
  rw [SW.d__law_worth, w_asg]
  simp only [startE]
  simp
  refine SW.divides_ok T.sw.t__law_divides ?_
  exact fdiv_W hb h2 (ret_same q)
theorem refused_ok (T : Tab tab) {f : Str} {a b : PV} (c : ∀ (h1 : MH) (Q1 : Post) (E1 : XQ), E1 ⟨"NoWorth", none⟩ h1 → callW tab k f [a, b] h1 Q1 E1) (q : Q (.bl true) h) : callW tab (k + 1) "_law_refused" [.fn f, a, b] h Q E := by
  refine call_body T.t__law_refused rfl ?_
  show wpSs _ _ (.cons .tryR .nil) _ _ _
  rw [w_tryR]
  refine ⟨f, a, b, rfl, fun p hp => c _ _ _ ⟨rfl, rfl, ret_drop (hle_put hp hle_refl) q⟩⟩
section
variable {a b c d : Int}
theorem sm {x y : Int} {n m : Nat} (hx : x.natAbs < 2 ^ n) (hy : y.natAbs < 2 ^ m) : (x * y).natAbs < 2 ^ (n + m) := by
  rw [Int.natAbs_mul, Nat.pow_add]
  exact Nat.mul_lt_mul'' hx hy
theorem sa {x y : Int} {n : Nat} (hx : x.natAbs < 2 ^ n) (hy : y.natAbs < 2 ^ n) : (x + y).natAbs < 2 ^ (n + 1) ∧ (x - y).natAbs < 2 ^ (n + 1) := by
  rw [Nat.pow_succ]; omega
theorem up2 {x : Int} {n m : Nat} (hx : x.natAbs < 2 ^ n) (h : n ≤ m) : x.natAbs < 2 ^ m := Nat.lt_of_lt_of_le hx (Nat.pow_le_pow_right (by decide) h)
variable (T : Tab tab) (ha : a.natAbs < 2 ^ 300) (hb : b.natAbs < 2 ^ 300) (hc : c.natAbs < 2 ^ 300) (hd : d.natAbs < 2 ^ 300)
include T ha hb hc hd
theorem summed_ok (hn : b * d ≠ 0) (q : Q (wV (W (a * d + c * b) (b * d))) h) : callW tab (k + 3) "summed" [wV (a, b), wV (c, d)] h Q E := by
  refine call_body T.t_summed rfl ?_
  rw [d_summed, w_ret]
  simp only [startE]
  simp [wV]
  refine ⟨mulOk (up2 ha (by decide)) (up2 hd (by decide)), mulOk (up2 hc (by decide)) (up2 hb (by decide)), mulOk (up2 hb (by decide)) (up2 hd (by decide)), ?_⟩
  exact worth_of_ok T hn (up2 (sm hb hd) (by decide)) (ret_same q)
theorem lessened_ok (hn : b * d ≠ 0) (q : Q (wV (W (a * d - c * b) (b * d))) h) : callW tab (k + 3) "lessened" [wV (a, b), wV (c, d)] h Q E := by
  refine call_body T.t_lessened rfl ?_
  rw [d_lessened, w_ret]
  simp only [startE]
  simp [wV]
  refine ⟨mulOk (up2 ha (by decide)) (up2 hd (by decide)), mulOk (up2 hc (by decide)) (up2 hb (by decide)), mulOk (up2 hb (by decide)) (up2 hd (by decide)), ?_⟩
  exact worth_of_ok T hn (up2 (sm hb hd) (by decide)) (ret_same q)
theorem product_ok (hn : b * d ≠ 0) (q : Q (wV (W (a * c) (b * d))) h) : callW tab (k + 3) "product_of" [wV (a, b), wV (c, d)] h Q E := by
  refine call_body T.t_product_of rfl ?_
  rw [d_product_of, w_ret]
  simp only [startE]
  simp [wV]
  refine ⟨mulOk (up2 ha (by decide)) (up2 hc (by decide)), mulOk (up2 hb (by decide)) (up2 hd (by decide)), ?_⟩
  exact worth_of_ok T hn (up2 (sm hb hd) (by decide)) (ret_same q)
theorem quotient_ok (hn : b * c ≠ 0) (q : Q (wV (W (a * d) (b * c))) h) : callW tab (k + 3) "quotient" [wV (a, b), wV (c, d)] h Q E := by
  refine call_body T.t_quotient rfl ?_
  rw [d_quotient, w_ret]
  simp only [startE]
  simp [wV]
  refine ⟨mulOk (up2 ha (by decide)) (up2 hd (by decide)), mulOk (up2 hb (by decide)) (up2 hc (by decide)), ?_⟩
  exact worth_of_ok T hn (up2 (sm hb hc) (by decide)) (ret_same q)
theorem quotient_no (q : E ⟨"NoWorth", none⟩ h) : callW tab (k + 2) "quotient" [wV (a, b), wV (0, d)] h Q E := by
  refine call_body T.t_quotient rfl ?_
  rw [d_quotient, w_ret]
  simp only [startE]
  simp [wV]
  refine ⟨mulOk (up2 ha (by decide)) (up2 hd (by decide)), ?_⟩
  exact worth_of_no T ⟨h, hle_refl, q⟩
end
end K02
set_option Elab.async false
set_option linter.all false
set_option maxRecDepth 100000
set_option maxHeartbeats 2000000
set_option exponentiation.threshold 1000
namespace K02
open PySem L2 MP
variable {tab : Str → Option Df} {k : Nat} {h : MH} {Q : Post} {E : XQ}
theorem same_w (T : Tab tab) {p : Int × Int} (q : Q (.bl true) h) : callW tab (k + 2) "_law_same" [wV p, wV p] h Q E := by
  have := SM.same_ok T.sm 1 k (v := wV p) (h := h) (Q := Q) (E := E) ⟨by simp, by simp [SM.deepI]⟩ q
  have el : 1 + k + 1 = k + 2 := by omega
  rw [el] at this
  exact this
theorem eqP_w (p q : Int × Int) : eqP (wV p) (wV q) = decide (p = q) := by
  simp only [eqP, wV, toD, toDs, PyData.eqv, PyData.eqvAll]
  rw [Bool.eq_iff_iff]; simp [Prod.ext_iff]
theorem eqOk_w (p : Int × Int) : eqOk (wV p) := ⟨rfl, rfl⟩
theorem eq_w {p q : Int × Int} {T : Bool → MH → Prop} : cmpW .Eq (wV p) (wV q) h T = T (decide (p = q)) h := by
  have e : cmpW .Eq (wV p) (wV q) h T = ((eqOk (wV p) ∧ eqOk (wV q)) ∧ T (eqP (wV p) (wV q)) h) := rfl
  rw [e, eqP_w]; simp [eqOk_w]
theorem ne_w {p q : Int × Int} {T : Bool → MH → Prop} : cmpW .NotEq (wV p) (wV q) h T = T (!decide (p = q)) h := by
  have e : cmpW .NotEq (wV p) (wV q) h T = ((eqOk (wV p) ∧ eqOk (wV q)) ∧ T (!eqP (wV p) (wV q)) h) := rfl
  rw [e, eqP_w]; simp [eqOk_w]
def Asked (tab : Str → Option Df) (k : Nat) (one other : PV) (x : PV) : Prop := ∃ (f : Str) (t b : Int), x = .tup [.fn f, .int t, .int b] ∧ b ≠ 0 ∧ b.natAbs < 2 ^ 1000 ∧ ∀ (h : MH) (Q : Post) (E : XQ), Q (wV (W t b)) h → callW tab k f [one, other] h Q E
theorem two_ok (T : Tab tab) {a b c d : Int} (r1 : Red a b) (r2 : Red c d) (ha : a.natAbs < 2 ^ 95) (hb : b.natAbs < 2 ^ 95) (hc : c.natAbs < 2 ^ 95) (hd : d.natAbs < 2 ^ 95) (q : Q (.bl true) h) : callW tab (k + 6) "_law_two_right" [wV (a, b), wV (c, d)] h Q E := by
  have b0 : b ≠ 0 := by have := r1.pos; omega
  have d0 : d ≠ 0 := by have := r2.pos; omega
  have bd : b * d ≠ 0 := Int.mul_ne_zero b0 d0
  have ha' := up2 (m := 300) ha (by decide)
  have hb' := up2 (m := 300) hb (by decide)
  have hc' := up2 (m := 300) hc (by decide)
  have hd' := up2 (m := 300) hd (by decide)
  have hA := up2 (m := 1000) ha (by decide)
  have hB := up2 (m := 1000) hb (by decide)
  have hC := up2 (m := 1000) hc (by decide)
  have hD := up2 (m := 1000) hd (by decide)
  have sbd := up2 (m := 1000) (sm hb hd) (by decide)
  have sbc := up2 (m := 1000) (sm hb hc) (by decide)
  obtain ⟨w1, w2, w3, w4⟩ := W_spec (t := a * d + c * b) bd
  have x1 : (W (a * d + c * b) (b * d)).1.natAbs < 2 ^ 300 := up2 (Nat.lt_of_le_of_lt w3 (sa (sm ha hd) (sm hc hb)).1) (by decide)
  have x2 : (W (a * d + c * b) (b * d)).2.natAbs < 2 ^ 300 := up2 (Nat.lt_of_le_of_lt w4 (sm hb hd)) (by decide)
  have y0 : (W (a * d + c * b) (b * d)).2 ≠ 0 := by have := w1.pos; omega
  have B1 : W ((W (a * d + c * b) (b * d)).1 * d - c * (W (a * d + c * b) (b * d)).2) ((W (a * d + c * b) (b * d)).2 * d) = (a, b) := by
    obtain ⟨v1, v2, _, _⟩ := W_spec (t := (W (a * d + c * b) (b * d)).1 * d - c * (W (a * d + c * b) (b * d)).2) (Int.mul_ne_zero y0 d0)
    obtain ⟨e1, e2⟩ := back1 r1 w2 v2 b0 d0 y0 v1
    exact Prod.ext e1 e2
  have ask : ∀ x ∈ ([.tup [.fn "summed", .int (a * d + c * b), .int (b * d)], .tup [.fn "lessened", .int (a * d - c * b), .int (b * d)], .tup [.fn "product_of", .int (a * c), .int (b * d)]] : List PV), Asked tab (k + 5) (wV (a, b)) (wV (c, d)) x := by
    intro x hx
    simp only [List.mem_cons, List.not_mem_nil, or_false] at hx
    rcases hx with rfl | rfl | rfl
    · exact ⟨_, _, _, rfl, bd, sbd, fun h Q E q => summed_ok (k := k + 2) T ha' hb' hc' hd' bd q⟩
    · exact ⟨_, _, _, rfl, bd, sbd, fun h Q E q => lessened_ok (k := k + 2) T ha' hb' hc' hd' bd q⟩
    · exact ⟨_, _, _, rfl, bd, sbd, fun h Q E q => product_ok (k := k + 2) T ha' hb' hc' hd' bd q⟩
  have m1 := mulOk hA hD
  have m2 := mulOk hC hB
  have m3 := mulOk hB hD
  have m4 := mulOk hA hC
  have m5 := mulOk hB hC
  have tail : ∀ (g : MH) (s : Addr) (L : List PV) (w7 w8 w9 : Option PV), g s = some (.lst L) → L.length ≤ 10 → (∀ x ∈ L, Asked tab (k + 5) (wV (a, b)) (wV (c, d)) x) → retW Q (.bl true) g →
      wpSs (callW tab (k + 5)) (fun e x h' => retX E e h') (Ss.from 4 d__law_two_right.body) [some (wV (a, b)), some (wV (c, d)), some (.int a), some (.int b), some (.int c), some (.int d), some (.loc s), w7, w8, w9] g { nx := fun x h' => retW Q PV.non h', rt := retW Q } := by
    intro g s L w7 w8 w9 hs hl hL q
    simp only [d__law_two_right, Ss.from]
    rw [w_for]
    simp
    refine ⟨_, srcV_loc hs, fun _ => ?_⟩
    refine for_all (fun i e g' => ∃ w7 w8 w9, e = [some (wV (a, b)), some (wV (c, d)), some (.int a), some (.int b), some (.int c), some (.int d), some (.loc s), w7, w8, w9] ∧ g' = g) ⟨_, _, _, rfl, rfl⟩ (fun i e g' h => by
      obtain ⟨_, _, _, _, rfl⟩ := h
      simp [Src.stays, hs]) ?_ ?_
    · rintro i x e g' N hx ⟨w7, w8, w9, rfl, rfl⟩ hN
      obtain ⟨f, t, bt, rfl, bt0, btl, cf⟩ := hL _ (List.mem_of_getElem? hx)
      simp
      rw [w_ife]
      simp
      refine cf _ _ _ ?_
      refine law_worth_ok (k := k + 3) T bt0 btl ?_
      refine same_w (k := k + 3) T ?_
      simp only [tru_b, w_nil]
      exact hN _ _ ⟨_, _, _, rfl, rfl⟩
    · rintro e g' ⟨w7, w8, w9, rfl, rfl⟩
      dsimp only
      rw [w_ife]
      simp
      refine summed_ok (k := k + 2) T ha' hb' hc' hd' bd ?_
      refine lessened_ok (k := k + 2) (a := (W (a * d + c * b) (b * d)).1) (b := (W (a * d + c * b) (b * d)).2) T x1 x2 hc' hd' (Int.mul_ne_zero y0 d0) ?_
      rw [B1, ne_w]
      simp
      rw [w_nil]
      try dsimp only
      rw [w_ret]
      simp
      by_cases c0 : c = 0
      · rw [if_pos c0]
        simp only [c0, decide_true]
        exact q
      · rw [if_neg c0]
        have bc : b * c ≠ 0 := Int.mul_ne_zero b0 c0
        obtain ⟨u1, u2, u3, u4⟩ := W_spec (t := a * d) bc
        have z1 : (W (a * d) (b * c)).1.natAbs < 2 ^ 300 := up2 (Nat.lt_of_le_of_lt u3 (sm ha hd)) (by decide)
        have z2 : (W (a * d) (b * c)).2.natAbs < 2 ^ 300 := up2 (Nat.lt_of_le_of_lt u4 (sm hb hc)) (by decide)
        have z0 : (W (a * d) (b * c)).2 ≠ 0 := by have := u1.pos; omega
        have B2 : W ((W (a * d) (b * c)).1 * c) ((W (a * d) (b * c)).2 * d) = (a, b) := by
          obtain ⟨v1, v2, _, _⟩ := W_spec (t := (W (a * d) (b * c)).1 * c) (Int.mul_ne_zero z0 d0)
          obtain ⟨e1, e2⟩ := back2 r1 u2 v2 c0 d0 z0 v1
          exact Prod.ext e1 e2
        refine quotient_ok (k := k + 2) T ha' hb' hc' hd' bc ?_
        refine product_ok (k := k + 2) (a := (W (a * d) (b * c)).1) (b := (W (a * d) (b * c)).2) T z1 z2 hc' hd' (Int.mul_ne_zero z0 d0) ?_
        rw [B2, eq_w]
        simpa using q
  refine call_body T.t__law_two_right rfl ?_
  rw [d__law_two_right, w_asg]
  simp only [startE]
  simp [wV]
  rw [w_asg]
  simp
  rw [w_asg]
  simp
  refine ⟨m1, m2, m3, szl (by decide), m1, m2, m3, szl (by decide), m4, m3, szl (by decide), fun s hs => ?_⟩
  rw [w_ife]
  simp
  by_cases c0 : c = 0
  · rw [if_pos c0]
    rw [w_ife]
    simp
    subst c0
    refine refused_ok (k := k + 4) T (fun h1 Q1 E1 q1 => quotient_no (k := k + 2) (a := a) (b := b) (c := 0) (d := d) T ha' hb' hc' hd' q1) ?_
    simp only [tru_b, w_nil]
    exact tail _ s _ _ _ _ put_at (by simp) ask (ret_drop (hle_put hs hle_refl) q)
  · rw [if_neg c0]
    rw [w_ex]
    simp [methW]
    refine ⟨m1, m5, szl (by decide), by rw [PySem.sizeLine_eq]; decide, ?_⟩
    rw [w_nil]
    refine tail _ s _ _ _ _ put_at (by simp) (fun x hx => ?_) (ret_drop (hle_put hs hle_refl) q)
    rcases List.mem_append.mp (show x ∈ ([.tup [.fn "summed", .int (a * d + c * b), .int (b * d)], .tup [.fn "lessened", .int (a * d - c * b), .int (b * d)], .tup [.fn "product_of", .int (a * c), .int (b * d)]] ++ [.tup [.fn "quotient", .int (a * d), .int (b * c)]] : List PV) from hx) with hx | hx
    · exact ask x hx
    · obtain rfl := List.mem_singleton.mp hx
      have bc : b * c ≠ 0 := Int.mul_ne_zero b0 c0
      exact ⟨_, _, _, rfl, bc, sbc, fun h Q E q => quotient_ok (k := k + 2) T ha' hb' hc' hd' bc q⟩
end K02
set_option Elab.async false
set_option linter.all false
set_option maxRecDepth 100000
set_option maxHeartbeats 2000000
set_option exponentiation.threshold 1000
namespace K02
open PySem L2 MP
variable {tab : Str → Option Df} {k : Nat} {h : MH} {Q : Post} {E : XQ}
theorem red_worth (T : Tab tab) {t b : Int} (ht : t.natAbs ≤ 10 ^ 9) (b0 : 0 < b) (hb : b ≤ 10 ^ 9)
    (q : ∀ x y : Int, Red x y → x.natAbs ≤ 10 ^ 9 → y.natAbs ≤ 10 ^ 9 → Q (wV (x, y)) h) : callW tab (k + 2) "_law_worth" [.int t, .int b] h Q E := by
  obtain ⟨w1, _, w3, w4⟩ := W_spec (t := t) (b := b) (by omega)
  refine law_worth_ok T (by omega) ?_ (q (W t b).1 (W t b).2 w1 (Nat.le_trans w3 ht) (Nat.le_trans w4 (by omega)))
  exact Nat.lt_of_le_of_lt (show b.natAbs ≤ 10 ^ 9 by omega) (by decide)
theorem some_red (T : Tab tab) {p : Addr} {a b c : Int} (hp : h p = some (.lst [.int a, .int b, .int c]))
    (q : ∀ (x y a' b' c' : Int), Red x y → x.natAbs ≤ 10 ^ 9 → y.natAbs ≤ 10 ^ 9 → Q (wV (x, y)) (h.put p (.lst [.int a', .int b', .int c']))) : callW tab (k + 3) "_law_some_worth" [.loc p] h Q E := by
  refine call_body T.sw.t__law_some_worth rfl ?_
  rw [SW.d__law_some_worth, w_asg]
  simp only [startE]
  simp
  refine draw_ok (k := k + 1) T.sw.t__law_draw hp (by decide) (by decide) fun r1 a1 b1 c1 r10 r11 => ?_
  rw [w_ife]
  simp
  split
  · rw [w_ret]
    simp
    refine draw_ok (k := k + 1) T.sw.t__law_draw put_at (by decide) (by decide) fun r2 a2 b2 c2 r20 r21 => ?_
    simp
    exact ⟨szl (by decide), ret_same (q _ _ _ _ _ ⟨by decide, by simp⟩ (by omega) (by decide))⟩
  rw [w_nil]
  simp
  rw [w_ife]
  simp
  split
  · rw [w_ret]
    simp
    refine draw_ok (k := k + 1) T.sw.t__law_draw put_at (by decide) (by decide) fun r2 a2 b2 c2 r20 r21 => ?_
    simp
    refine draw_ok (k := k + 1) T.sw.t__law_draw put_at (by decide) (by decide) fun r3 a3 b3 c3 r30 r31 => ?_
    simp
    exact red_worth (k := k) T (by omega) (by omega) (by omega) fun x y hr hx hy => ret_same (q _ _ _ _ _ hr hx hy)
  rw [w_nil]
  simp
  rw [w_ife]
  simp
  split
  · rw [w_ret]
    simp
    refine ⟨szl (by decide), szl (by decide), ?_⟩
    refine draw_ok (k := k + 1) T.sw.t__law_draw put_at (by decide) (by decide) fun r2 a2 b2 c2 r20 r21 => ?_
    simp
    refine pickW r20 (by simpa using r21) ?_
    simp only [List.mem_cons, List.not_mem_nil, or_false, forall_eq_or_imp, forall_eq]
    refine ⟨?_, ?_, ?_, ?_⟩ <;> exact ret_same (q _ _ _ _ _ ⟨by decide, by decide⟩ (by decide) (by decide))
  rw [w_nil]
  simp
  rw [w_ret]
  simp
  refine SW.far_ok (k := k) T.sw put_at fun f1 a2 b2 c2 hf1 => ?_
  simp
  refine SW.far_ok (k := k) T.sw put_at fun f2 a3 b3 c3 hf2 => ?_
  simp
  exact red_worth (k := k) T hf1 (by split <;> split <;> omega) (by split <;> split <;> omega) fun x y hr hx hy => ret_same (q _ _ _ _ _ hr hx hy)
theorem p30 {x : Int} (h : x.natAbs ≤ 10 ^ 9) : x.natAbs < 2 ^ 30 := Nat.lt_of_le_of_lt h (by decide)
def okW (v : PV) : Prop := ∃ x y, v = wV (x, y) ∧ Red x y ∧ x.natAbs < 2 ^ 95 ∧ y.natAbs < 2 ^ 95
def forBody : Ss → Ss
  | .cons (.for _ _ b) _ => b
  | _ => .nil
theorem main (T : Tab tab) (ns : List Int) (hl : ns.length ≤ 63) (hb : ∀ z ∈ ns, Builtin.Int.intBits z ≤ 1048576) : callW tab 200 "law" [.lst (ns.map PV.int)] (fun _ => none) (fun v _ => v = .bl true) (fun _ _ => False) := by
  refine call_body T.t_law rfl ?_
  rw [d_law, w_for]
  simp only [startE]
  simp
  have ec : slcW.cutP (ns.map PV.int) none (some 14) = (ns.take 14).map PV.int := by
    rw [cutP_lo _ (by decide)]
    simp [List.map_take]
  rw [ec]
  have lt : (ns.take 14).length ≤ 14 := List.length_take_le _ _
  refine ⟨szl (by decide), szl (by rw [List.length_map]; omega), fun _ => ?_⟩
  refine for_all (fun i e g => ∃ w1 w2 w3 w4 w5 w6 w7 w8, e = [some (.lst (ns.map PV.int)), w1, w2, w3, w4, w5, w6, w7, w8]) ⟨_, _, _, _, _, _, _, _, rfl⟩ (fun _ _ _ _ => by simp) ?_ ?_
  · rintro i x e g N hx ⟨w1, w2, w3, w4, w5, w6, w7, w8, rfl⟩ hN
    obtain ⟨z, rfl⟩ : ∃ z, x = .int z := by
      have := List.mem_of_getElem? hx
      simp only [List.mem_append, List.mem_map, List.mem_cons, List.not_mem_nil, or_false] at this
      rcases this with ⟨z, _, rfl⟩ | rfl
      · exact ⟨_, rfl⟩
      · exact ⟨_, rfl⟩
    simp
    rw [w_asg]
    simp
    refine deck_ok (k := 198) T.t__law_deck fun p a b hp => ?_
    rw [w_asg]
    simp
    obtain ⟨g1, g2, g3⟩ := rng_ok (m := 5) (by omega)
    refine ⟨g1, by rw [PySem.sizeLine_eq]; decide, ?_⟩
    refine comp_inv (fun i acc g => acc.length = i ∧ (∀ v ∈ acc, ∃ x y, v = wV (x, y) ∧ Red x y ∧ x.natAbs ≤ 10 ^ 9 ∧ y.natAbs ≤ 10 ^ 9) ∧ ∃ a b d, g p = some (.lst [.int a, .int b, .int d])) ⟨rfl, (fun _ z => nomatch z), _, _, _, put_at⟩ (fun _ _ _ _ => by simp) ?_ ?_
    · rintro i x acc g R hx ⟨la, ga, a, b, d, hg⟩ hR
      refine some_red (k := 196) T hg fun x y a b d hr hx hy => ?_
      refine hR _ _ ⟨by simp [la], fun v hv => ?_, _, _, _, put_at⟩
      rcases List.mem_append.mp hv with hv | hv
      · exact ga v hv
      · simp only [Option.toList, List.mem_cons, List.not_mem_nil, or_false] at hv
        exact ⟨x, y, hv, hr, hx, hy⟩
    · rintro acc g ⟨la, ga, a, b, d, hg⟩
      have la : acc.length = 5 := la
      obtain ⟨v0, v1, v2, v3, v4, rfl⟩ : ∃ v0 v1 v2 v3 v4, acc = [v0, v1, v2, v3, v4] := by
        match acc, la with
        | [v0, v1, v2, v3, v4], _ => exact ⟨_, _, _, _, _, rfl⟩
      have okv : ∀ v ∈ [v0, v1, v2, v3, v4], okW v := fun v hv => by
        obtain ⟨x, y, e, r, hx, hy⟩ := ga v hv
        exact ⟨x, y, e, r, up2 (p30 hx) (by decide), up2 (p30 hy) (by decide)⟩
      obtain ⟨x0, y0, rfl, r0, hx0, hy0⟩ := ga v0 (by simp)
      obtain ⟨x1, y1, rfl, r1, hx1, hy1⟩ := ga v1 (by simp)
      obtain ⟨x2, y2, rfl, r2, hx2, hy2⟩ := ga v2 (by simp)
      refine ⟨szl (by simp), fun s hs => ?_⟩
      have ns' : s ≠ p := fun z => by subst z; rw [hg] at hs; cases hs
      rw [w_par]
      simp
      refine SW.far_ok (k := 197) T.sw ((put_off ns'.symm).trans hg) fun F a b d hF => ?_
      refine SW.far_ok (k := 197) T.sw put_at fun F2 a b d hF2 => ?_
      simp
      refine draw_ok (k := 198) T.sw.t__law_draw put_at (by decide) (by decide) fun rr a b d rr0 rr1 => ?_
      simp
      refine ⟨szl (by decide), ?_⟩
      refine draw_ok (k := 198) T.sw.t__law_draw put_at (by decide) (by decide) fun ri a b d ri0 ri1 => ?_
      have hS : (g.put s (.lst [wV (x0, y0), wV (x1, y1), wV (x2, y2), v3, v4])).put p (.lst [.int a, .int b, .int d]) s = some (.lst [wV (x0, y0), wV (x1, y1), wV (x2, y2), v3, v4]) := (put_off ns').trans put_at
      rw [put_put]
      generalize (g.put s (.lst [wV (x0, y0), wV (x1, y1), wV (x2, y2), v3, v4])).put p (.lst [.int a, .int b, .int d]) = H2 at hS
      simp
      obtain ⟨B, hB, hBb⟩ : ∃ B, L2.atI [PV.int F2, PV.int (rr - 10), PV.int 0] (ri / 2) = some (.int B) ∧ B.natAbs ≤ 10 ^ 9 := by
        have : ri / 2 = 0 ∨ ri / 2 = 1 ∨ ri / 2 = 2 := by omega
        rcases this with e | e | e <;> rw [e]
        · exact ⟨F2, by simp, hF2⟩
        · exact ⟨rr - 10, by simp, by omega⟩
        · exact ⟨0, by simp, by decide⟩
      refine ⟨_, hB, ?_⟩
      have hB' : B.natAbs < 2 ^ 1000 := Nat.lt_of_le_of_lt hBb (by decide)
      have tail : wpSs (callW tab 199) (fun e x h' => retX (fun x x_1 => False) e h') (Ss.from 5 (forBody d_law.body)) [some (.lst (ns.map PV.int)), some (.int z), some (.loc p), some (.loc s), w4, some (.int F), some (.int B), w7, w8] H2
          { nx := N, rt := retW fun v x => v = PV.bl true, bk := fun env' h' => wpSs (callW tab 199) (fun e x h' => retX (fun x x_1 => False) e h') (Ss.from 1 d_law.body) env' h' { nx := fun x h' => retW (fun v x => v = PV.bl true) PV.non h', rt := retW fun v x => v = PV.bl true }, ct := N } := by
        simp only [d_law, forBody, Ss.from]
        rw [w_ex]
        simp [idx_p hS]
        refine ⟨⟨_, hS⟩, ?_⟩
        have q300 : ∀ {x : Int}, x.natAbs ≤ 10 ^ 9 → x.natAbs < 2 ^ 300 := fun h => up2 (p30 h) (by decide)
        have n1 : y0 * y1 ≠ 0 := Int.mul_ne_zero (by have := r0.pos; omega) (by have := r1.pos; omega)
        obtain ⟨u1, u2, u3, u4⟩ := W_spec (t := x0 * x1) n1
        have c1 : (W (x0 * x1) (y0 * y1)).1.natAbs < 2 ^ 60 := Nat.lt_of_le_of_lt u3 (sm (p30 hx0) (p30 hx1))
        have c2 : (W (x0 * x1) (y0 * y1)).2.natAbs < 2 ^ 60 := Nat.lt_of_le_of_lt u4 (sm (p30 hy0) (p30 hy1))
        have n2 : (W (x0 * x1) (y0 * y1)).2 * y2 ≠ 0 := Int.mul_ne_zero (by have := u1.pos; omega) (by have := r2.pos; omega)
        refine product_ok (k := 196) T (q300 hx0) (q300 hy0) (q300 hx1) (q300 hy1) n1 ?_
        rw [idx_p hS]
        refine ⟨_, rfl, ?_⟩
        refine summed_ok (k := 196) (a := (W (x0 * x1) (y0 * y1)).1) (b := (W (x0 * x1) (y0 * y1)).2) T (up2 c1 (by decide)) (up2 c2 (by decide)) (q300 hx2) (q300 hy2) n2 ?_
        obtain ⟨s1, s2, s3, s4⟩ := W_spec (t := (W (x0 * x1) (y0 * y1)).1 * y2 + x2 * (W (x0 * x1) (y0 * y1)).2) n2
        have okl : okW (wV (W ((W (x0 * x1) (y0 * y1)).1 * y2 + x2 * (W (x0 * x1) (y0 * y1)).2) ((W (x0 * x1) (y0 * y1)).2 * y2))) :=
          ⟨_, _, rfl, s1, up2 (Nat.lt_of_le_of_lt s3 (sa (sm c1 (p30 hy2)) (show (x2 * (W (x0 * x1) (y0 * y1)).2).natAbs < 2 ^ (60 + 30) by rw [Int.mul_comm]; exact sm c2 (p30 hx2))).1) (by decide), up2 (Nat.lt_of_le_of_lt s4 (sm c2 (p30 hy2))) (by decide)⟩
        generalize wV (W ((W (x0 * x1) (y0 * y1)).1 * y2 + x2 * (W (x0 * x1) (y0 * y1)).2) ((W (x0 * x1) (y0 * y1)).2 * y2)) = vl at okl
        simp [methW, hS]
        refine ⟨by rw [PySem.sizeLine_eq]; decide, ?_⟩
        have all : ∀ v ∈ [wV (x0, y0), wV (x1, y1), wV (x2, y2), v3, v4, vl], okW v := fun v hv => by
          rcases List.mem_append.mp (show v ∈ [wV (x0, y0), wV (x1, y1), wV (x2, y2), v3, v4] ++ [vl] from hv) with hv | hv
          · exact okv v hv
          · rw [List.mem_singleton.mp hv]; exact okl
        rw [w_for]
        simp
        refine ⟨_, srcV_loc put_at, fun _ => ?_⟩
        refine for_all (fun i e g' => ∃ w7 w8, e = [some (.lst (ns.map PV.int)), some (.int z), some (.loc p), some (.loc s), w4, some (.int F), some (.int B), w7, w8] ∧ g' s = some (.lst [wV (x0, y0), wV (x1, y1), wV (x2, y2), v3, v4, vl])) ⟨_, _, rfl, put_at⟩ (fun i e g' h => by
          obtain ⟨_, _, _, h⟩ := h
          simp [Src.stays, h]) ?_ ?_
        · rintro i x e g' N2 hx ⟨w7, w8, rfl, hg'⟩ hN2
          obtain ⟨xa, xb, rfl, ra, ba, bb⟩ := all _ (List.mem_of_getElem? hx)
          simp
          rw [w_for]
          simp
          refine ⟨_, srcV_loc hg', fun _ => ?_⟩
          refine for_all (fun i e g' => ∃ w8, e = [some (.lst (ns.map PV.int)), some (.int z), some (.loc p), some (.loc s), w4, some (.int F), some (.int B), some (wV (xa, xb)), w8] ∧ g' s = some (.lst [wV (x0, y0), wV (x1, y1), wV (x2, y2), v3, v4, vl])) ⟨_, rfl, hg'⟩ (fun i e g' h => by
            obtain ⟨_, _, h⟩ := h
            simp [Src.stays, h]) ?_ ?_
          · rintro i x e g' N3 hx ⟨w8, rfl, hg'⟩ hN3
            obtain ⟨ya, yb, rfl, rb, bc, bd⟩ := all _ (List.mem_of_getElem? hx)
            simp
            rw [w_ife]
            simp
            refine two_ok (k := 193) T ra rb ba bb bc bd ?_
            simp only [tru_b, w_nil]
            exact hN3 _ _ ⟨_, rfl, hg'⟩
          · rintro e g' ⟨w8, rfl, hg'⟩
            simp only [w_nil]
            exact hN2 _ _ ⟨_, _, rfl, hg'⟩
        · rintro e g' ⟨w7, w8, rfl, hg'⟩
          simp only [w_nil]
          exact hN _ _ ⟨_, _, _, _, _, _, _, _, rfl⟩
      rw [w_ife]
      simp
      by_cases B0 : B = 0
      · rw [if_pos B0]
        subst B0
        refine refused_ok (k := 198) T (fun h1 Q1 E1 q1 => worth_of_no (k := 197) T q1) ?_
        simp
        rw [w_nil]
        dsimp only
        rw [w_ife]
        simp
        rw [w_nil]
        exact tail
      · rw [if_neg B0]
        rw [w_nil]
        dsimp only
        rw [w_ife]
        simp [B0]
        refine worth_of_ok (k := 197) T B0 hB' ?_
        refine law_worth_ok (k := 197) T B0 hB' ?_
        refine same_w (k := 197) T ?_
        simp
        rw [w_nil]
        exact tail
  · rintro e g ⟨w1, w2, w3, w4, w5, w6, w7, w8, rfl⟩
    dsimp only
    rw [w_ret]
    simp
    refine refused_ok (k := 198) T (fun h1 Q1 E1 q1 => worth_of_no T q1) ?_
    simp
    refine worth_of_ok (k := 197) T (t := 0) (b := -5) (by decide) (by decide) ?_
    have e5 : W 0 (-5) = (0, 1) := by decide +kernel
    rw [e5]
    refine ⟨szl (by decide), ?_⟩
    rw [show PV.tup [PV.int 0, PV.int 1] = wV (0, 1) from rfl, eq_w]
    simp
    exact ret_same rfl
end K02
set_option Elab.async false
set_option linter.all false
set_option maxRecDepth 100000
namespace K02
open PySem PySem.Spec PyProof.Rows L2 MP
def fs : List Str := ["divisor_of", "worth_of", "summed", "lessened", "product_of", "quotient", "_law_deck", "_law_draw", "_law_divides", "_law_worth", "_law_far", "_law_some_worth", "_law_same", "_law_refused", "_law_two_right", "law", "NoWorth"]
def top (i : Nat) : Stmt := PySem.Challenge.pw_fewfilled_k02_worths_reckoned.main.body.getD i (.Pass ⟨0, 0, 0, 0⟩)
theorem c_divisor_of : defB fs d_divisor_of (top 15) = true := by decide +kernel
theorem c_worth_of : defB fs d_worth_of (top 16) = true := by decide +kernel
theorem c_summed : defB fs d_summed (top 17) = true := by decide +kernel
theorem c_lessened : defB fs d_lessened (top 18) = true := by decide +kernel
theorem c_product_of : defB fs d_product_of (top 19) = true := by decide +kernel
theorem c_quotient : defB fs d_quotient (top 20) = true := by decide +kernel
theorem c__law_deck : defB fs d__law_deck (top 22) = true := by decide +kernel
theorem c__law_draw : defB fs d__law_draw (top 23) = true := by decide +kernel
theorem c__law_divides : defB fs d__law_divides (top 24) = true := by decide +kernel
theorem c__law_worth : defB fs d__law_worth (top 25) = true := by decide +kernel
theorem c__law_far : defB fs d__law_far (top 26) = true := by decide +kernel
theorem c__law_some_worth : defB fs d__law_some_worth (top 27) = true := by decide +kernel
theorem c__law_same : defB fs d__law_same (top 28) = true := by decide +kernel
theorem c__law_refused : refB fs (top 29) = true := by decide +kernel
theorem c__law_two_right : defB fs d__law_two_right (top 30) = true := by decide +kernel
theorem c_law : defB fs d_law (top 31) = true := by decide +kernel
def tab : Str → Option Df := fun f => ([("divisor_of", d_divisor_of), ("worth_of", d_worth_of), ("summed", d_summed), ("lessened", d_lessened), ("product_of", d_product_of), ("quotient", d_quotient), ("_law_deck", d__law_deck), ("_law_draw", d__law_draw), ("_law_divides", d__law_divides), ("_law_worth", d__law_worth), ("_law_far", d__law_far), ("_law_some_worth", d__law_some_worth), ("_law_same", d__law_same), ("_law_refused", d__law_refused), ("_law_two_right", d__law_two_right), ("law", d_law)] : List (Str × Df)).lookup f
theorem all_defs : ((["divisor_of", "worth_of", "summed", "lessened", "product_of", "quotient", "_law_deck", "_law_draw", "_law_divides", "_law_worth", "_law_far", "_law_some_worth", "_law_same", "_law_refused", "_law_two_right", "law"] : List Str).all fun x => decide (x ∈ fs) && (gcst x).isNone) = true := by decide +kernel
theorem prog_mk {K : KF} {h : Heap} {mg : Str → Option Value} (X : K.In h) (G : h.Ns mainGlobals mg)
    {a0 : Addr} {oc0 dV0 kV0 doc0 pm0 cd0 ct0 : Value} {od0 an0 : Option Addr} {osl0 : Array (Option Value)}
    (n0 : PySem.W.nsIn K mainGlobals "divisor_of" = some (some (.ref a0))) (l0 : K.lookup a0 = some ⟨oc0, od0, .func (PySem.W.fnOf "divisor_of" "divisor_of" (defArgs (top 15)) (defBody (top 15)) (defScope (top 15)) dV0 kV0 doc0 pm0 an0 cd0 ct0), osl0⟩) (c0 : PySem.W.codeIn K cd0 "divisor_of" = true) (k0 : PySem.W.keepIn K (.ref a0) = true) (v0 : dV0 = .none)
    {a1 : Addr} {oc1 dV1 kV1 doc1 pm1 cd1 ct1 : Value} {od1 an1 : Option Addr} {osl1 : Array (Option Value)}
    (n1 : PySem.W.nsIn K mainGlobals "worth_of" = some (some (.ref a1))) (l1 : K.lookup a1 = some ⟨oc1, od1, .func (PySem.W.fnOf "worth_of" "worth_of" (defArgs (top 16)) (defBody (top 16)) (defScope (top 16)) dV1 kV1 doc1 pm1 an1 cd1 ct1), osl1⟩) (c1 : PySem.W.codeIn K cd1 "worth_of" = true) (k1 : PySem.W.keepIn K (.ref a1) = true) (v1 : dV1 = .none)
    {a2 : Addr} {oc2 dV2 kV2 doc2 pm2 cd2 ct2 : Value} {od2 an2 : Option Addr} {osl2 : Array (Option Value)}
    (n2 : PySem.W.nsIn K mainGlobals "summed" = some (some (.ref a2))) (l2 : K.lookup a2 = some ⟨oc2, od2, .func (PySem.W.fnOf "summed" "summed" (defArgs (top 17)) (defBody (top 17)) (defScope (top 17)) dV2 kV2 doc2 pm2 an2 cd2 ct2), osl2⟩) (c2 : PySem.W.codeIn K cd2 "summed" = true) (k2 : PySem.W.keepIn K (.ref a2) = true) (v2 : dV2 = .none)
    {a3 : Addr} {oc3 dV3 kV3 doc3 pm3 cd3 ct3 : Value} {od3 an3 : Option Addr} {osl3 : Array (Option Value)}
    (n3 : PySem.W.nsIn K mainGlobals "lessened" = some (some (.ref a3))) (l3 : K.lookup a3 = some ⟨oc3, od3, .func (PySem.W.fnOf "lessened" "lessened" (defArgs (top 18)) (defBody (top 18)) (defScope (top 18)) dV3 kV3 doc3 pm3 an3 cd3 ct3), osl3⟩) (c3 : PySem.W.codeIn K cd3 "lessened" = true) (k3 : PySem.W.keepIn K (.ref a3) = true) (v3 : dV3 = .none)
    {a4 : Addr} {oc4 dV4 kV4 doc4 pm4 cd4 ct4 : Value} {od4 an4 : Option Addr} {osl4 : Array (Option Value)}
    (n4 : PySem.W.nsIn K mainGlobals "product_of" = some (some (.ref a4))) (l4 : K.lookup a4 = some ⟨oc4, od4, .func (PySem.W.fnOf "product_of" "product_of" (defArgs (top 19)) (defBody (top 19)) (defScope (top 19)) dV4 kV4 doc4 pm4 an4 cd4 ct4), osl4⟩) (c4 : PySem.W.codeIn K cd4 "product_of" = true) (k4 : PySem.W.keepIn K (.ref a4) = true) (v4 : dV4 = .none)
    {a5 : Addr} {oc5 dV5 kV5 doc5 pm5 cd5 ct5 : Value} {od5 an5 : Option Addr} {osl5 : Array (Option Value)}
    (n5 : PySem.W.nsIn K mainGlobals "quotient" = some (some (.ref a5))) (l5 : K.lookup a5 = some ⟨oc5, od5, .func (PySem.W.fnOf "quotient" "quotient" (defArgs (top 20)) (defBody (top 20)) (defScope (top 20)) dV5 kV5 doc5 pm5 an5 cd5 ct5), osl5⟩) (c5 : PySem.W.codeIn K cd5 "quotient" = true) (k5 : PySem.W.keepIn K (.ref a5) = true) (v5 : dV5 = .none)
    {a6 : Addr} {oc6 dV6 kV6 doc6 pm6 cd6 ct6 : Value} {od6 an6 : Option Addr} {osl6 : Array (Option Value)}
    (n6 : PySem.W.nsIn K mainGlobals "_law_deck" = some (some (.ref a6))) (l6 : K.lookup a6 = some ⟨oc6, od6, .func (PySem.W.fnOf "_law_deck" "_law_deck" (defArgs (top 22)) (defBody (top 22)) (defScope (top 22)) dV6 kV6 doc6 pm6 an6 cd6 ct6), osl6⟩) (c6 : PySem.W.codeIn K cd6 "_law_deck" = true) (k6 : PySem.W.keepIn K (.ref a6) = true) (v6 : dV6 = .none)
    {a7 : Addr} {oc7 dV7 kV7 doc7 pm7 cd7 ct7 : Value} {od7 an7 : Option Addr} {osl7 : Array (Option Value)}
    (n7 : PySem.W.nsIn K mainGlobals "_law_draw" = some (some (.ref a7))) (l7 : K.lookup a7 = some ⟨oc7, od7, .func (PySem.W.fnOf "_law_draw" "_law_draw" (defArgs (top 23)) (defBody (top 23)) (defScope (top 23)) dV7 kV7 doc7 pm7 an7 cd7 ct7), osl7⟩) (c7 : PySem.W.codeIn K cd7 "_law_draw" = true) (k7 : PySem.W.keepIn K (.ref a7) = true) (v7 : dV7 = .none)
    {a8 : Addr} {oc8 dV8 kV8 doc8 pm8 cd8 ct8 : Value} {od8 an8 : Option Addr} {osl8 : Array (Option Value)}
    (n8 : PySem.W.nsIn K mainGlobals "_law_divides" = some (some (.ref a8))) (l8 : K.lookup a8 = some ⟨oc8, od8, .func (PySem.W.fnOf "_law_divides" "_law_divides" (defArgs (top 24)) (defBody (top 24)) (defScope (top 24)) dV8 kV8 doc8 pm8 an8 cd8 ct8), osl8⟩) (c8 : PySem.W.codeIn K cd8 "_law_divides" = true) (k8 : PySem.W.keepIn K (.ref a8) = true) (v8 : dV8 = .none)
    {a9 : Addr} {oc9 dV9 kV9 doc9 pm9 cd9 ct9 : Value} {od9 an9 : Option Addr} {osl9 : Array (Option Value)}
    (n9 : PySem.W.nsIn K mainGlobals "_law_worth" = some (some (.ref a9))) (l9 : K.lookup a9 = some ⟨oc9, od9, .func (PySem.W.fnOf "_law_worth" "_law_worth" (defArgs (top 25)) (defBody (top 25)) (defScope (top 25)) dV9 kV9 doc9 pm9 an9 cd9 ct9), osl9⟩) (c9 : PySem.W.codeIn K cd9 "_law_worth" = true) (k9 : PySem.W.keepIn K (.ref a9) = true) (v9 : dV9 = .none)
    {a10 : Addr} {oc10 dV10 kV10 doc10 pm10 cd10 ct10 : Value} {od10 an10 : Option Addr} {osl10 : Array (Option Value)}
    (n10 : PySem.W.nsIn K mainGlobals "_law_far" = some (some (.ref a10))) (l10 : K.lookup a10 = some ⟨oc10, od10, .func (PySem.W.fnOf "_law_far" "_law_far" (defArgs (top 26)) (defBody (top 26)) (defScope (top 26)) dV10 kV10 doc10 pm10 an10 cd10 ct10), osl10⟩) (c10 : PySem.W.codeIn K cd10 "_law_far" = true) (k10 : PySem.W.keepIn K (.ref a10) = true) (v10 : dV10 = .none)
    {a11 : Addr} {oc11 dV11 kV11 doc11 pm11 cd11 ct11 : Value} {od11 an11 : Option Addr} {osl11 : Array (Option Value)}
    (n11 : PySem.W.nsIn K mainGlobals "_law_some_worth" = some (some (.ref a11))) (l11 : K.lookup a11 = some ⟨oc11, od11, .func (PySem.W.fnOf "_law_some_worth" "_law_some_worth" (defArgs (top 27)) (defBody (top 27)) (defScope (top 27)) dV11 kV11 doc11 pm11 an11 cd11 ct11), osl11⟩) (c11 : PySem.W.codeIn K cd11 "_law_some_worth" = true) (k11 : PySem.W.keepIn K (.ref a11) = true) (v11 : dV11 = .none)
    {a12 : Addr} {oc12 dV12 kV12 doc12 pm12 cd12 ct12 : Value} {od12 an12 : Option Addr} {osl12 : Array (Option Value)}
    (n12 : PySem.W.nsIn K mainGlobals "_law_same" = some (some (.ref a12))) (l12 : K.lookup a12 = some ⟨oc12, od12, .func (PySem.W.fnOf "_law_same" "_law_same" (defArgs (top 28)) (defBody (top 28)) (defScope (top 28)) dV12 kV12 doc12 pm12 an12 cd12 ct12), osl12⟩) (c12 : PySem.W.codeIn K cd12 "_law_same" = true) (k12 : PySem.W.keepIn K (.ref a12) = true) (v12 : dV12 = .none)
    {a13 : Addr} {oc13 dV13 kV13 doc13 pm13 cd13 ct13 : Value} {od13 an13 : Option Addr} {osl13 : Array (Option Value)}
    (n13 : PySem.W.nsIn K mainGlobals "_law_refused" = some (some (.ref a13))) (l13 : K.lookup a13 = some ⟨oc13, od13, .func (PySem.W.fnOf "_law_refused" "_law_refused" (defArgs (top 29)) (defBody (top 29)) (defScope (top 29)) dV13 kV13 doc13 pm13 an13 cd13 ct13), osl13⟩) (c13 : PySem.W.codeIn K cd13 "_law_refused" = true) (k13 : PySem.W.keepIn K (.ref a13) = true) (v13 : dV13 = .none)
    {a14 : Addr} {oc14 dV14 kV14 doc14 pm14 cd14 ct14 : Value} {od14 an14 : Option Addr} {osl14 : Array (Option Value)}
    (n14 : PySem.W.nsIn K mainGlobals "_law_two_right" = some (some (.ref a14))) (l14 : K.lookup a14 = some ⟨oc14, od14, .func (PySem.W.fnOf "_law_two_right" "_law_two_right" (defArgs (top 30)) (defBody (top 30)) (defScope (top 30)) dV14 kV14 doc14 pm14 an14 cd14 ct14), osl14⟩) (c14 : PySem.W.codeIn K cd14 "_law_two_right" = true) (k14 : PySem.W.keepIn K (.ref a14) = true) (v14 : dV14 = .none)
    {a15 : Addr} {oc15 dV15 kV15 doc15 pm15 cd15 ct15 : Value} {od15 an15 : Option Addr} {osl15 : Array (Option Value)}
    (n15 : PySem.W.nsIn K mainGlobals "law" = some (some (.ref a15))) (l15 : K.lookup a15 = some ⟨oc15, od15, .func (PySem.W.fnOf "law" "law" (defArgs (top 31)) (defBody (top 31)) (defScope (top 31)) dV15 kV15 doc15 pm15 an15 cd15 ct15), osl15⟩) (c15 : PySem.W.codeIn K cd15 "law" = true) (k15 : PySem.W.keepIn K (.ref a15) = true) (v15 : dV15 = .none)
    {e_NoWorth e_FillError e_NoBack e_NoCell e_NoName e_NoPivot e_NoPlace e_NoRow e_NoText e_NotEven e_NotFree e_Taken e_TooMany : Addr}
    (nE_NoWorth : PySem.W.nsIn K mainGlobals "NoWorth" = some (some (.ref e_NoWorth)))
    (nE_FillError : PySem.W.nsIn K mainGlobals "FillError" = some (some (.ref e_FillError)))
    (nE_NoBack : PySem.W.nsIn K mainGlobals "NoBack" = some (some (.ref e_NoBack)))
    (nE_NoCell : PySem.W.nsIn K mainGlobals "NoCell" = some (some (.ref e_NoCell)))
    (nE_NoName : PySem.W.nsIn K mainGlobals "NoName" = some (some (.ref e_NoName)))
    (nE_NoPivot : PySem.W.nsIn K mainGlobals "NoPivot" = some (some (.ref e_NoPivot)))
    (nE_NoPlace : PySem.W.nsIn K mainGlobals "NoPlace" = some (some (.ref e_NoPlace)))
    (nE_NoRow : PySem.W.nsIn K mainGlobals "NoRow" = some (some (.ref e_NoRow)))
    (nE_NoText : PySem.W.nsIn K mainGlobals "NoText" = some (some (.ref e_NoText)))
    (nE_NotEven : PySem.W.nsIn K mainGlobals "NotEven" = some (some (.ref e_NotEven)))
    (nE_NotFree : PySem.W.nsIn K mainGlobals "NotFree" = some (some (.ref e_NotFree)))
    (nE_Taken : PySem.W.nsIn K mainGlobals "Taken" = some (some (.ref e_Taken)))
    (nE_TooMany : PySem.W.nsIn K mainGlobals "TooMany" = some (some (.ref e_TooMany)))
    (xF_NoWorth : PySem.W.excIn K e_NoWorth [.type "ValueError", .type "Exception", .type "BaseException", .type "object"] "ValueError.__new__" = true)
    (kF_NoWorth : PySem.W.keepIn K (.ref e_NoWorth) = true)
    (bF_NoWorth : PySem.W.subIn K (.ref e_NoWorth) (.type "BaseException") = some true)
    (tF_NoWorth : PySem.W.typeIn K (.ref e_NoWorth) = some (.type "type"))
    (ec_hg : PySem.W.findIn K (.ref e_NoWorth) "__getattribute__" = some (some (.builtin "BaseException.__getattribute__")))
    (ec_hk : PySem.W.findIn K (.ref e_NoWorth) "__getattr__" = some none)
    (ec_hs : PySem.W.subIn K (.ref e_NoWorth) (.type "BaseException") = some true)
    (ec_hd : PySem.W.hasDictIn K e_NoWorth = true)
    (ec_ha : PySem.W.findIn K (.ref e_NoWorth) "__class__" = some (some (.builtin "object.__class__")))
    (ec_hn : PySem.W.specialIn K (.builtin "object.__class__") "__get__" = some (some (.builtin "getset_descriptor.__get__")))
    (ec_ht : PySem.W.takesIn K (.builtin "object.__class__") = some true)
    (ec_hm : PySem.W.mroIn K e_NoWorth (.type "object") = some true)
    (f_bs : PySem.W.subIn K (.ref e_FillError) (.type "BaseException") = some true)
    (f_hd : PySem.W.hasDictIn K e_FillError = true)
    (f_ty : PySem.W.typeIn K (.ref e_FillError) = some (.type "type"))
    (f_su : PySem.W.subIn K (.ref e_NoWorth) (.ref e_FillError) = some true)
    (r_ve : PySem.W.subIn K (.ref e_NoWorth) (.type "ValueError") = some true)
    (r_bv : PySem.W.nsIn K mainGlobals "ValueError" = some none)
    (no_NoBack : PySem.W.subIn K (.ref e_NoWorth) (.ref e_NoBack) = some false)
    (nh_NoBack : PySem.W.hasDictIn K e_NoBack = true)
    (nt_NoBack : PySem.W.typeIn K (.ref e_NoBack) = some (.type "type"))
    (nn_NoBack : (Value.ref e_NoWorth == Value.ref e_NoBack) = false)
    (no_NoCell : PySem.W.subIn K (.ref e_NoWorth) (.ref e_NoCell) = some false)
    (nh_NoCell : PySem.W.hasDictIn K e_NoCell = true)
    (nt_NoCell : PySem.W.typeIn K (.ref e_NoCell) = some (.type "type"))
    (nn_NoCell : (Value.ref e_NoWorth == Value.ref e_NoCell) = false)
    (no_NoName : PySem.W.subIn K (.ref e_NoWorth) (.ref e_NoName) = some false)
    (nh_NoName : PySem.W.hasDictIn K e_NoName = true)
    (nt_NoName : PySem.W.typeIn K (.ref e_NoName) = some (.type "type"))
    (nn_NoName : (Value.ref e_NoWorth == Value.ref e_NoName) = false)
    (no_NoPivot : PySem.W.subIn K (.ref e_NoWorth) (.ref e_NoPivot) = some false)
    (nh_NoPivot : PySem.W.hasDictIn K e_NoPivot = true)
    (nt_NoPivot : PySem.W.typeIn K (.ref e_NoPivot) = some (.type "type"))
    (nn_NoPivot : (Value.ref e_NoWorth == Value.ref e_NoPivot) = false)
    (no_NoPlace : PySem.W.subIn K (.ref e_NoWorth) (.ref e_NoPlace) = some false)
    (nh_NoPlace : PySem.W.hasDictIn K e_NoPlace = true)
    (nt_NoPlace : PySem.W.typeIn K (.ref e_NoPlace) = some (.type "type"))
    (nn_NoPlace : (Value.ref e_NoWorth == Value.ref e_NoPlace) = false)
    (no_NoRow : PySem.W.subIn K (.ref e_NoWorth) (.ref e_NoRow) = some false)
    (nh_NoRow : PySem.W.hasDictIn K e_NoRow = true)
    (nt_NoRow : PySem.W.typeIn K (.ref e_NoRow) = some (.type "type"))
    (nn_NoRow : (Value.ref e_NoWorth == Value.ref e_NoRow) = false)
    (no_NoText : PySem.W.subIn K (.ref e_NoWorth) (.ref e_NoText) = some false)
    (nh_NoText : PySem.W.hasDictIn K e_NoText = true)
    (nt_NoText : PySem.W.typeIn K (.ref e_NoText) = some (.type "type"))
    (nn_NoText : (Value.ref e_NoWorth == Value.ref e_NoText) = false)
    (no_NotEven : PySem.W.subIn K (.ref e_NoWorth) (.ref e_NotEven) = some false)
    (nh_NotEven : PySem.W.hasDictIn K e_NotEven = true)
    (nt_NotEven : PySem.W.typeIn K (.ref e_NotEven) = some (.type "type"))
    (nn_NotEven : (Value.ref e_NoWorth == Value.ref e_NotEven) = false)
    (no_NotFree : PySem.W.subIn K (.ref e_NoWorth) (.ref e_NotFree) = some false)
    (nh_NotFree : PySem.W.hasDictIn K e_NotFree = true)
    (nt_NotFree : PySem.W.typeIn K (.ref e_NotFree) = some (.type "type"))
    (nn_NotFree : (Value.ref e_NoWorth == Value.ref e_NotFree) = false)
    (no_Taken : PySem.W.subIn K (.ref e_NoWorth) (.ref e_Taken) = some false)
    (nh_Taken : PySem.W.hasDictIn K e_Taken = true)
    (nt_Taken : PySem.W.typeIn K (.ref e_Taken) = some (.type "type"))
    (nn_Taken : (Value.ref e_NoWorth == Value.ref e_Taken) = false)
    (no_TooMany : PySem.W.subIn K (.ref e_NoWorth) (.ref e_TooMany) = some false)
    (nh_TooMany : PySem.W.hasDictIn K e_TooMany = true)
    (nt_TooMany : PySem.W.typeIn K (.ref e_TooMany) = some (.type "type"))
    (nn_TooMany : (Value.ref e_NoWorth == Value.ref e_TooMany) = false)
    (b_abs : PySem.W.nsIn K mainGlobals "abs" = some none)
    (b_int : PySem.W.nsIn K mainGlobals "int" = some none)
    (b_len : PySem.W.nsIn K mainGlobals "len" = some none)
    (b_max : PySem.W.nsIn K mainGlobals "max" = some none)
    (b_min : PySem.W.nsIn K mainGlobals "min" = some none)
    (b_isinstance : PySem.W.nsIn K mainGlobals "isinstance" = some none)
    (b_repr : PySem.W.nsIn K mainGlobals "repr" = some none)
    (b_str : PySem.W.nsIn K mainGlobals "str" = some none)
    (b_all : PySem.W.nsIn K mainGlobals "all" = some none)
    (b_any : PySem.W.nsIn K mainGlobals "any" = some none)
    (b_sum : PySem.W.nsIn K mainGlobals "sum" = some none)
    (b_list : PySem.W.nsIn K mainGlobals "list" = some none)
    (b_tuple : PySem.W.nsIn K mainGlobals "tuple" = some none)
    (b_sorted : PySem.W.nsIn K mainGlobals "sorted" = some none)
    (b_range : PySem.W.nsIn K mainGlobals "range" = some none)
    (b_enumerate : PySem.W.nsIn K mainGlobals "enumerate" = some none)
    (b_zip : PySem.W.nsIn K mainGlobals "zip" = some none)
    (b_bool : PySem.W.nsIn K mainGlobals "bool" = some none)
    (b_dict : PySem.W.nsIn K mainGlobals "dict" = some none)
    : Prog K mg tab fs := by
  subst v0
  subst v1
  subst v2
  subst v3
  subst v4
  subst v5
  subst v6
  subst v7
  subst v8
  subst v9
  subst v10
  subst v11
  subst v12
  subst v13
  subst v14
  subst v15
  have RK : RefK K mg e_NoWorth := by
    refine ⟨PySem.W.mg_of X G nE_NoWorth, ⟨ec_hg, ec_hk, ec_hs, ec_hd, ec_ha, ec_hn, ec_ht, ec_hm⟩, ⟨_, PySem.W.mg_of X G nE_FillError, PySem.W.exm_ref f_bs f_hd f_ty f_su⟩, kit_self, ⟨PySem.W.mg_none_of X G r_bv, kit_ve r_ve⟩, fun x hx => ?_⟩
    have hx : x ∈ (["NoBack", "NoCell", "NoName", "NoPivot", "NoPlace", "NoRow", "NoText", "NotEven", "NotFree", "Taken", "TooMany"] : List Str) := hx
    simp only [List.mem_cons, List.not_mem_nil, or_false] at hx
    rcases hx with rfl | rfl | rfl | rfl | rfl | rfl | rfl | rfl | rfl | rfl | rfl
    · exact ⟨_, PySem.W.mg_of X G nE_NoBack, kit_ref nn_NoBack nh_NoBack nt_NoBack no_NoBack⟩
    · exact ⟨_, PySem.W.mg_of X G nE_NoCell, kit_ref nn_NoCell nh_NoCell nt_NoCell no_NoCell⟩
    · exact ⟨_, PySem.W.mg_of X G nE_NoName, kit_ref nn_NoName nh_NoName nt_NoName no_NoName⟩
    · exact ⟨_, PySem.W.mg_of X G nE_NoPivot, kit_ref nn_NoPivot nh_NoPivot nt_NoPivot no_NoPivot⟩
    · exact ⟨_, PySem.W.mg_of X G nE_NoPlace, kit_ref nn_NoPlace nh_NoPlace nt_NoPlace no_NoPlace⟩
    · exact ⟨_, PySem.W.mg_of X G nE_NoRow, kit_ref nn_NoRow nh_NoRow nt_NoRow no_NoRow⟩
    · exact ⟨_, PySem.W.mg_of X G nE_NoText, kit_ref nn_NoText nh_NoText nt_NoText no_NoText⟩
    · exact ⟨_, PySem.W.mg_of X G nE_NotEven, kit_ref nn_NotEven nh_NotEven nt_NotEven no_NotEven⟩
    · exact ⟨_, PySem.W.mg_of X G nE_NotFree, kit_ref nn_NotFree nh_NotFree nt_NotFree no_NotFree⟩
    · exact ⟨_, PySem.W.mg_of X G nE_Taken, kit_ref nn_Taken nh_Taken nt_Taken no_Taken⟩
    · exact ⟨_, PySem.W.mg_of X G nE_TooMany, kit_ref nn_TooMany nh_TooMany nt_TooMany no_TooMany⟩
  refine ⟨fun x hx => ?_, fun f hf hn => ?_, fun f d hf => ?_, fun f hf v hv hx => ?_, fun f hf hx => ?_⟩
  · have hx : x ∈ (["abs", "int", "len", "max", "min", "isinstance", "repr", "str", "all", "any", "sum", "list", "tuple", "sorted", "range", "enumerate", "zip", "bool", "dict"] : List Str) := hx
    simp only [List.mem_cons, List.not_mem_nil, or_false] at hx
    rcases hx with rfl | rfl | rfl | rfl | rfl | rfl | rfl | rfl | rfl | rfl | rfl | rfl | rfl | rfl | rfl | rfl | rfl | rfl | rfl
    · exact PySem.W.mg_none_of X G b_abs
    · exact PySem.W.mg_none_of X G b_int
    · exact PySem.W.mg_none_of X G b_len
    · exact PySem.W.mg_none_of X G b_max
    · exact PySem.W.mg_none_of X G b_min
    · exact PySem.W.mg_none_of X G b_isinstance
    · exact PySem.W.mg_none_of X G b_repr
    · exact PySem.W.mg_none_of X G b_str
    · exact PySem.W.mg_none_of X G b_all
    · exact PySem.W.mg_none_of X G b_any
    · exact PySem.W.mg_none_of X G b_sum
    · exact PySem.W.mg_none_of X G b_list
    · exact PySem.W.mg_none_of X G b_tuple
    · exact PySem.W.mg_none_of X G b_sorted
    · exact PySem.W.mg_none_of X G b_range
    · exact PySem.W.mg_none_of X G b_enumerate
    · exact PySem.W.mg_none_of X G b_zip
    · exact PySem.W.mg_none_of X G b_bool
    · exact PySem.W.mg_none_of X G b_dict
  · have hf : f ∈ (["divisor_of", "worth_of", "summed", "lessened", "product_of", "quotient", "_law_deck", "_law_draw", "_law_divides", "_law_worth", "_law_far", "_law_some_worth", "_law_same", "_law_refused", "_law_two_right", "law", "NoWorth"] : List Str) := hf
    simp only [List.mem_cons, List.not_mem_nil, or_false] at hf
    rcases hf with rfl | rfl | rfl | rfl | rfl | rfl | rfl | rfl | rfl | rfl | rfl | rfl | rfl | rfl | rfl | rfl | rfl
    · exact ⟨d_divisor_of, by kernel_rfl, defOk_mk X G n0 l0 c0 k0 c_divisor_of fun us hl => match us, hl with | [_, _], _ => rfl⟩
    · exact ⟨d_worth_of, by kernel_rfl, defOk_mk X G n1 l1 c1 k1 c_worth_of fun us hl => match us, hl with | [_, _], _ => rfl⟩
    · exact ⟨d_summed, by kernel_rfl, defOk_mk X G n2 l2 c2 k2 c_summed fun us hl => match us, hl with | [_, _], _ => rfl⟩
    · exact ⟨d_lessened, by kernel_rfl, defOk_mk X G n3 l3 c3 k3 c_lessened fun us hl => match us, hl with | [_, _], _ => rfl⟩
    · exact ⟨d_product_of, by kernel_rfl, defOk_mk X G n4 l4 c4 k4 c_product_of fun us hl => match us, hl with | [_, _], _ => rfl⟩
    · exact ⟨d_quotient, by kernel_rfl, defOk_mk X G n5 l5 c5 k5 c_quotient fun us hl => match us, hl with | [_, _], _ => rfl⟩
    · exact ⟨d__law_deck, by kernel_rfl, defOk_mk X G n6 l6 c6 k6 c__law_deck fun us hl => match us, hl with | [_], _ => rfl⟩
    · exact ⟨d__law_draw, by kernel_rfl, defOk_mk X G n7 l7 c7 k7 c__law_draw fun us hl => match us, hl with | [_, _], _ => rfl⟩
    · exact ⟨d__law_divides, by kernel_rfl, defOk_mk X G n8 l8 c8 k8 c__law_divides fun us hl => match us, hl with | [_, _], _ => rfl⟩
    · exact ⟨d__law_worth, by kernel_rfl, defOk_mk X G n9 l9 c9 k9 c__law_worth fun us hl => match us, hl with | [_, _], _ => rfl⟩
    · exact ⟨d__law_far, by kernel_rfl, defOk_mk X G n10 l10 c10 k10 c__law_far fun us hl => match us, hl with | [_], _ => rfl⟩
    · exact ⟨d__law_some_worth, by kernel_rfl, defOk_mk X G n11 l11 c11 k11 c__law_some_worth fun us hl => match us, hl with | [_], _ => rfl⟩
    · exact ⟨d__law_same, by kernel_rfl, defOk_mk X G n12 l12 c12 k12 c__law_same fun us hl => match us, hl with | [_, _], _ => rfl⟩
    · exact ⟨d__law_refused, by kernel_rfl, defOk_ref X G n13 l13 c13 k13 RK c__law_refused fun us hl => match us, hl with | [_, _, _], _ => rfl⟩
    · exact ⟨d__law_two_right, by kernel_rfl, defOk_mk X G n14 l14 c14 k14 c__law_two_right fun us hl => match us, hl with | [_, _], _ => rfl⟩
    · exact ⟨d_law, by kernel_rfl, defOk_mk X G n15 l15 c15 k15 c_law fun us hl => match us, hl with | [_], _ => rfl⟩
    · have z : (gcst "NoWorth").isSome = true := by decide +kernel
      rw [hn] at z; cases z
  · have m := MP.lookup_mem (l := [("divisor_of", d_divisor_of), ("worth_of", d_worth_of), ("summed", d_summed), ("lessened", d_lessened), ("product_of", d_product_of), ("quotient", d_quotient), ("_law_deck", d__law_deck), ("_law_draw", d__law_draw), ("_law_divides", d__law_divides), ("_law_worth", d__law_worth), ("_law_far", d__law_far), ("_law_some_worth", d__law_some_worth), ("_law_same", d__law_same), ("_law_refused", d__law_refused), ("_law_two_right", d__law_two_right), ("law", d_law)]) hf
    have z := List.all_eq_true.mp all_defs f m
    simp only [Bool.and_eq_true, decide_eq_true_eq, Option.isNone_iff_eq_none] at z
    exact z
  · have hf : f ∈ (["divisor_of", "worth_of", "summed", "lessened", "product_of", "quotient", "_law_deck", "_law_draw", "_law_divides", "_law_worth", "_law_far", "_law_some_worth", "_law_same", "_law_refused", "_law_two_right", "law", "NoWorth"] : List Str) := hf
    simp only [List.mem_cons, List.not_mem_nil, or_false] at hf
    rcases hf with rfl | rfl | rfl | rfl | rfl | rfl | rfl | rfl | rfl | rfl | rfl | rfl | rfl | rfl | rfl | rfl | rfl
    · have z : (gcst "divisor_of").isNone = true := by decide +kernel
      rw [hv] at z; cases z
    · have z : (gcst "worth_of").isNone = true := by decide +kernel
      rw [hv] at z; cases z
    · have z : (gcst "summed").isNone = true := by decide +kernel
      rw [hv] at z; cases z
    · have z : (gcst "lessened").isNone = true := by decide +kernel
      rw [hv] at z; cases z
    · have z : (gcst "product_of").isNone = true := by decide +kernel
      rw [hv] at z; cases z
    · have z : (gcst "quotient").isNone = true := by decide +kernel
      rw [hv] at z; cases z
    · have z : (gcst "_law_deck").isNone = true := by decide +kernel
      rw [hv] at z; cases z
    · have z : (gcst "_law_draw").isNone = true := by decide +kernel
      rw [hv] at z; cases z
    · have z : (gcst "_law_divides").isNone = true := by decide +kernel
      rw [hv] at z; cases z
    · have z : (gcst "_law_worth").isNone = true := by decide +kernel
      rw [hv] at z; cases z
    · have z : (gcst "_law_far").isNone = true := by decide +kernel
      rw [hv] at z; cases z
    · have z : (gcst "_law_some_worth").isNone = true := by decide +kernel
      rw [hv] at z; cases z
    · have z : (gcst "_law_same").isNone = true := by decide +kernel
      rw [hv] at z; cases z
    · have z : (gcst "_law_refused").isNone = true := by decide +kernel
      rw [hv] at z; cases z
    · have z : (gcst "_law_two_right").isNone = true := by decide +kernel
      rw [hv] at z; cases z
    · have z : (gcst "law").isNone = true := by decide +kernel
      rw [hv] at z; cases z
    · have z : isExc "NoWorth" = true := by decide +kernel
      rw [hx] at z; cases z
  · have hf : f ∈ (["divisor_of", "worth_of", "summed", "lessened", "product_of", "quotient", "_law_deck", "_law_draw", "_law_divides", "_law_worth", "_law_far", "_law_some_worth", "_law_same", "_law_refused", "_law_two_right", "law", "NoWorth"] : List Str) := hf
    simp only [List.mem_cons, List.not_mem_nil, or_false] at hf
    rcases hf with rfl | rfl | rfl | rfl | rfl | rfl | rfl | rfl | rfl | rfl | rfl | rfl | rfl | rfl | rfl | rfl | rfl
    · have z : isExc "divisor_of" = false := by decide +kernel
      rw [hx] at z; cases z
    · have z : isExc "worth_of" = false := by decide +kernel
      rw [hx] at z; cases z
    · have z : isExc "summed" = false := by decide +kernel
      rw [hx] at z; cases z
    · have z : isExc "lessened" = false := by decide +kernel
      rw [hx] at z; cases z
    · have z : isExc "product_of" = false := by decide +kernel
      rw [hx] at z; cases z
    · have z : isExc "quotient" = false := by decide +kernel
      rw [hx] at z; cases z
    · have z : isExc "_law_deck" = false := by decide +kernel
      rw [hx] at z; cases z
    · have z : isExc "_law_draw" = false := by decide +kernel
      rw [hx] at z; cases z
    · have z : isExc "_law_divides" = false := by decide +kernel
      rw [hx] at z; cases z
    · have z : isExc "_law_worth" = false := by decide +kernel
      rw [hx] at z; cases z
    · have z : isExc "_law_far" = false := by decide +kernel
      rw [hx] at z; cases z
    · have z : isExc "_law_some_worth" = false := by decide +kernel
      rw [hx] at z; cases z
    · have z : isExc "_law_same" = false := by decide +kernel
      rw [hx] at z; cases z
    · have z : isExc "_law_refused" = false := by decide +kernel
      rw [hx] at z; cases z
    · have z : isExc "_law_two_right" = false := by decide +kernel
      rw [hx] at z; cases z
    · have z : isExc "law" = false := by decide +kernel
      rw [hx] at z; cases z
    · exact excOk_mk X G nE_NoWorth xF_NoWorth kF_NoWorth bF_NoWorth tF_NoWorth
theorem tabs : Tab tab := ⟨⟨by kernel_rfl, by kernel_rfl, by kernel_rfl, by kernel_rfl, by kernel_rfl⟩, ⟨by kernel_rfl⟩, by kernel_rfl, by kernel_rfl, by kernel_rfl, by kernel_rfl, by kernel_rfl, by kernel_rfl, by kernel_rfl, by kernel_rfl, by kernel_rfl, by kernel_rfl⟩
theorem fin (ns : List Int) (hl : ns.length ≤ 63) (hb : ∀ z ∈ ns, Builtin.Int.intBits z ≤ 1048576) : callW tab 200 "law" [.lst (ns.map PV.int)] (fun _ => none) (fun v _ => v = .bl true) (fun _ _ => False) := main tabs ns hl hb
end K02
open PySem PySem.W PyProof.Rows in
set_option maxRecDepth 100000 in
set_option maxHeartbeats 0 in
theorem PySem.Challenge.cw_fewfilled_k02_worths_reckoned_holds : PySem.Challenge.rw_fewfilled_k02_worths_reckoned.Holds := by
  w_on; o_law; k_head; (case hw => w_witness2)
  k_fill
  refine MP.walk_MP (l := PySem.Challenge.rw_fewfilled_k02_worths_reckoned) (n := 63) (k := 200) (tab := K02.tab) (fs := K02.fs) rfl (by decide) rfl (MP.room_entry.mono (by decide)) (by decide) (show MP.gcst "law" = none from if_neg (by decide)) (fun w h Y => PySem.W.kIn_of Y) ?P K02.fin
  case P =>
    intro w mg h KX G
    refine' K02.prog_mk KX G ?n0 ?l0 ?c0 ?k0 ?v0 ?n1 ?l1 ?c1 ?k1 ?v1 ?n2 ?l2 ?c2 ?k2 ?v2 ?n3 ?l3 ?c3 ?k3 ?v3 ?n4 ?l4 ?c4 ?k4 ?v4 ?n5 ?l5 ?c5 ?k5 ?v5 ?n6 ?l6 ?c6 ?k6 ?v6 ?n7 ?l7 ?c7 ?k7 ?v7 ?n8 ?l8 ?c8 ?k8 ?v8 ?n9 ?l9 ?c9 ?k9 ?v9 ?n10 ?l10 ?c10 ?k10 ?v10 ?n11 ?l11 ?c11 ?k11 ?v11 ?n12 ?l12 ?c12 ?k12 ?v12 ?n13 ?l13 ?c13 ?k13 ?v13 ?n14 ?l14 ?c14 ?k14 ?v14 ?n15 ?l15 ?c15 ?k15 ?v15 ?nE_NoWorth ?nE_FillError ?nE_NoBack ?nE_NoCell ?nE_NoName ?nE_NoPivot ?nE_NoPlace ?nE_NoRow ?nE_NoText ?nE_NotEven ?nE_NotFree ?nE_Taken ?nE_TooMany ?xF_NoWorth ?kF_NoWorth ?bF_NoWorth ?tF_NoWorth ?ec_hg ?ec_hk ?ec_hs ?ec_hd ?ec_ha ?ec_hn ?ec_ht ?ec_hm ?f_bs ?f_hd ?f_ty ?f_su ?r_ve ?r_bv ?no_NoBack ?nh_NoBack ?nt_NoBack ?nn_NoBack ?no_NoCell ?nh_NoCell ?nt_NoCell ?nn_NoCell ?no_NoName ?nh_NoName ?nt_NoName ?nn_NoName ?no_NoPivot ?nh_NoPivot ?nt_NoPivot ?nn_NoPivot ?no_NoPlace ?nh_NoPlace ?nt_NoPlace ?nn_NoPlace ?no_NoRow ?nh_NoRow ?nt_NoRow ?nn_NoRow ?no_NoText ?nh_NoText ?nt_NoText ?nn_NoText ?no_NotEven ?nh_NotEven ?nt_NotEven ?nn_NotEven ?no_NotFree ?nh_NotFree ?nt_NotFree ?nn_NotFree ?no_Taken ?nh_Taken ?nt_Taken ?nn_Taken ?no_TooMany ?nh_TooMany ?nt_TooMany ?nn_TooMany ?b_abs ?b_int ?b_len ?b_max ?b_min ?b_isinstance ?b_repr ?b_str ?b_all ?b_any ?b_sum ?b_list ?b_tuple ?b_sorted ?b_range ?b_enumerate ?b_zip ?b_bool ?b_dict
    (case n0 => k_is)
    (case l0 => k_is)
    (case c0 => k_is)
    (case k0 => k_is)
    (case v0 => rfl)
    (case n1 => k_is)
    (case l1 => k_is)
    (case c1 => k_is)
    (case k1 => k_is)
    (case v1 => rfl)
    (case n2 => k_is)
    (case l2 => k_is)
    (case c2 => k_is)
    (case k2 => k_is)
    (case v2 => rfl)
    (case n3 => k_is)
    (case l3 => k_is)
    (case c3 => k_is)
    (case k3 => k_is)
    (case v3 => rfl)
    (case n4 => k_is)
    (case l4 => k_is)
    (case c4 => k_is)
    (case k4 => k_is)
    (case v4 => rfl)
    (case n5 => k_is)
    (case l5 => k_is)
    (case c5 => k_is)
    (case k5 => k_is)
    (case v5 => rfl)
    (case n6 => k_is)
    (case l6 => k_is)
    (case c6 => k_is)
    (case k6 => k_is)
    (case v6 => rfl)
    (case n7 => k_is)
    (case l7 => k_is)
    (case c7 => k_is)
    (case k7 => k_is)
    (case v7 => rfl)
    (case n8 => k_is)
    (case l8 => k_is)
    (case c8 => k_is)
    (case k8 => k_is)
    (case v8 => rfl)
    (case n9 => k_is)
    (case l9 => k_is)
    (case c9 => k_is)
    (case k9 => k_is)
    (case v9 => rfl)
    (case n10 => k_is)
    (case l10 => k_is)
    (case c10 => k_is)
    (case k10 => k_is)
    (case v10 => rfl)
    (case n11 => k_is)
    (case l11 => k_is)
    (case c11 => k_is)
    (case k11 => k_is)
    (case v11 => rfl)
    (case n12 => k_is)
    (case l12 => k_is)
    (case c12 => k_is)
    (case k12 => k_is)
    (case v12 => rfl)
    (case n13 => k_is)
    (case l13 => k_is)
    (case c13 => k_is)
    (case k13 => k_is)
    (case v13 => rfl)
    (case n14 => k_is)
    (case l14 => k_is)
    (case c14 => k_is)
    (case k14 => k_is)
    (case v14 => rfl)
    (case n15 => k_is)
    (case l15 => k_is)
    (case c15 => k_is)
    (case k15 => k_is)
    (case v15 => rfl)
    (case nE_NoWorth => k_is)
    (case nE_FillError => k_is)
    (case nE_NoBack => k_is)
    (case nE_NoCell => k_is)
    (case nE_NoName => k_is)
    (case nE_NoPivot => k_is)
    (case nE_NoPlace => k_is)
    (case nE_NoRow => k_is)
    (case nE_NoText => k_is)
    (case nE_NotEven => k_is)
    (case nE_NotFree => k_is)
    (case nE_Taken => k_is)
    (case nE_TooMany => k_is)
    (case xF_NoWorth => k_exc)
    (case kF_NoWorth => k_is)
    (case bF_NoWorth => k_is)
    (case tF_NoWorth => k_is)
    (case ec_hg => k_is)
    (case ec_hk => k_is)
    (case ec_hs => k_is)
    (case ec_hd => k_is)
    (case ec_ha => k_is)
    (case ec_hn => k_is)
    (case ec_ht => k_is)
    (case ec_hm => k_is)
    (case f_bs => k_is)
    (case f_hd => k_is)
    (case f_ty => k_is)
    (case f_su => k_is)
    (case r_ve => k_is)
    (case r_bv => k_is)
    (case no_NoBack => k_is)
    (case nh_NoBack => k_is)
    (case nt_NoBack => k_is)
    (case nn_NoBack => first | rfl | decide | simp)
    (case no_NoCell => k_is)
    (case nh_NoCell => k_is)
    (case nt_NoCell => k_is)
    (case nn_NoCell => first | rfl | decide | simp)
    (case no_NoName => k_is)
    (case nh_NoName => k_is)
    (case nt_NoName => k_is)
    (case nn_NoName => first | rfl | decide | simp)
    (case no_NoPivot => k_is)
    (case nh_NoPivot => k_is)
    (case nt_NoPivot => k_is)
    (case nn_NoPivot => first | rfl | decide | simp)
    (case no_NoPlace => k_is)
    (case nh_NoPlace => k_is)
    (case nt_NoPlace => k_is)
    (case nn_NoPlace => first | rfl | decide | simp)
    (case no_NoRow => k_is)
    (case nh_NoRow => k_is)
    (case nt_NoRow => k_is)
    (case nn_NoRow => first | rfl | decide | simp)
    (case no_NoText => k_is)
    (case nh_NoText => k_is)
    (case nt_NoText => k_is)
    (case nn_NoText => first | rfl | decide | simp)
    (case no_NotEven => k_is)
    (case nh_NotEven => k_is)
    (case nt_NotEven => k_is)
    (case nn_NotEven => first | rfl | decide | simp)
    (case no_NotFree => k_is)
    (case nh_NotFree => k_is)
    (case nt_NotFree => k_is)
    (case nn_NotFree => first | rfl | decide | simp)
    (case no_Taken => k_is)
    (case nh_Taken => k_is)
    (case nt_Taken => k_is)
    (case nn_Taken => first | rfl | decide | simp)
    (case no_TooMany => k_is)
    (case nh_TooMany => k_is)
    (case nt_TooMany => k_is)
    (case nn_TooMany => first | rfl | decide | simp)
    (case b_abs => k_is)
    (case b_int => k_is)
    (case b_len => k_is)
    (case b_max => k_is)
    (case b_min => k_is)
    (case b_isinstance => k_is)
    (case b_repr => k_is)
    (case b_str => k_is)
    (case b_all => k_is)
    (case b_any => k_is)
    (case b_sum => k_is)
    (case b_list => k_is)
    (case b_tuple => k_is)
    (case b_sorted => k_is)
    (case b_range => k_is)
    (case b_enumerate => k_is)
    (case b_zip => k_is)
    (case b_bool => k_is)
    (case b_dict => k_is)

