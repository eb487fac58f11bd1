import PyProof.Rows.All
import Wide.All
import OpenK.AllK
import Wide.FinOn
import HandS.ForMost
import HandS.ForExc
import HandS.HeadHook1
import HandS.Deep
import HandS.IsInst
import KE.KRevSl
import HandS.Defaults
import HandS.HeadEnd
import HandS.HeadHook2
import HandS.Head2
import HandS.Small
import HandS.Iter
import HandS.RaiseMore
import HandS.Style
import HandS.DictComp
import HandS.More
import HandS.SortInts
import KE.DataCmp
import KE.SortData
import PyProof.Rows.ChunkLeaf
import KE.DataMinMax
import PyProof.P3Eq
import KE.DatumOrd
import HandS.Rev
import KE.SortKeyHeap
import PyProof.Rows.SortWalk
import HandS.SortKw
import PySem.Challenge.RW_formsforall_k39_orders_or_loops
set_option Elab.async false
set_option linter.all false
set_option maxRecDepth 100000
section
/-! FwA: pure values, how the abstract heap bears them. -/
namespace Fz
open PySem PySem.Spec PyProof.Rows L2

/-- a sign: a code point -/
abbrev Ch := Fin 1114112
/-- a text: its signs -/
abbrev Tx := List Ch
def mkS (x : Tx) : Str := ⟨(x.map Fin.val).toArray⟩
theorem mkS_cps (x : Tx) : (mkS x).cps.toList = x.map Fin.val := by simp [mkS]
theorem val_inj : ∀ {x y : Tx}, x.map Fin.val = y.map Fin.val → x = y
  | [], [], _ => rfl
  | [], _ :: _, h => by simp at h
  | _ :: _, [], h => by simp at h
  | a :: x, b :: y, h => by
    simp only [List.map_cons, List.cons.injEq] at h
    rw [Fin.ext h.1, val_inj h.2]
theorem mkS_inj {x y : Tx} (h : mkS x = mkS y) : x = y := by
  have := congrArg (fun s : Str => s.cps.toList) h
  simp only [mkS_cps] at this
  exact val_inj this
theorem mkS_iff {x y : Tx} : mkS x = mkS y ↔ x = y := ⟨mkS_inj, fun h => by rw [h]⟩
theorem mkS_length (x : Tx) : (mkS x).length = x.length := by simp [mkS, Str.length]
theorem mkS_append (x y : Tx) : mkS x ++ mkS y = mkS (x ++ y) := by
  show Str.append (mkS x) (mkS y) = _
  simp [Str.append, mkS]
theorem mkS_sign (c : Ch) : (⟨#[c.val]⟩ : Str) = mkS [c] := by simp [mkS]
theorem mkS_ok (x : Tx) : PyData.strOk (mkS x) = true := by
  simp only [PyData.strOk, mkS, List.all_toArray, List.all_map, List.all_eq_true, Function.comp, decide_eq_true_eq]
  intro c _
  exact c.isLt
abbrev K1 := Int ⊕ Tx
def k1 : K1 → Key
  | .inl i => .inl i
  | .inr x => .inr (mkS x)
theorem k1_inj : ∀ {a b : K1}, k1 a = k1 b → a = b
  | .inl i, .inl j, h => by simp only [k1, Sum.inl.injEq] at h; rw [h]
  | .inr x, .inr y, h => by simp only [k1, Sum.inr.injEq] at h; rw [mkS_inj h]
  | .inl i, .inr y, h => by simp [k1] at h
  | .inr x, .inl j, h => by simp [k1] at h

inductive PV where
  | non | bl (b : Bool) | int (i : Int) | str (x : Tx)
  | tup (xs : List PV) | lst (xs : List PV)
  /-- a list that is only read: the script, a list of the top -/
  | rol (xs : List PV)
  | dic (kvs : List (K1 × PV))
  | dit (kvs : List (List K1 × PV))
  | ins (c : String) (fs : List (String × PV))
  deriving Inhabited

/-- a list of the text's top: it is never written -/
def KL (K : PySem.W.Frag) (a : Addr) (xs : List V) : Prop :=
  ∃ (o : Obj) (its : Array Value) (n : Nat), K.lookup a = some o ∧ o.cls = .type "list" ∧ o.dict = none ∧ o.data = .seq its n ∧ its.size ≤ sizeLine ∧ Vals xs its.toList
def RoAt (K : PySem.W.Frag) (H : Hp) (a : Addr) (xs : List V) : Prop := (∃ o, H a = some (.frz o (.lst xs))) ∨ KL K a xs
theorem RoAt.sq {K : PySem.W.Frag} {H : Hp} {a : Addr} {xs : List V} (h : RoAt K H a xs) : SqL K H a xs := h.elim (fun q => .inl (.inr q)) .inr
section
variable (K : PySem.W.Frag) (A : Addr → Prop) (H : Hp)
mutual
def Rep : PV → V → Prop
  | .non, v => v = .non
  | .bl b, v => v = .bl b
  | .int i, v => v = .int i
  | .str x, v => v = .str (mkS x)
  | .tup ps, v => ∃ a xs, v = .ref a ∧ H a = some (.tup xs) ∧ Reps ps xs
  | .lst ps, v => ∃ a xs, v = .ref a ∧ A a ∧ H a = some (.lst xs) ∧ Reps ps xs
  | .rol ps, v => ∃ a xs, v = .ref a ∧ RoAt K H a xs ∧ Reps ps xs
  | .dic kvs, v => ∃ a ks, v = .ref a ∧ A a ∧ Rd H a (.dK ks) ∧ RepK kvs ks
  | .dit kvs, v => ∃ a ks, v = .ref a ∧ A a ∧ Rd H a (.dT ks) ∧ RepT kvs ks
  | .ins c fs, v => ∃ a dx xs, v = .ref a ∧ A a ∧ H a = some (.ins (He.ga K (c : Str)) dx xs) ∧ RepF fs xs
def Reps : List PV → List V → Prop
  | [], xs => xs = []
  | p :: ps, xs => ∃ x r, xs = x :: r ∧ Rep p x ∧ Reps ps r
def RepK : List (K1 × PV) → List (Key × V) → Prop
  | [], ks => ks = []
  | (k, p) :: ps, ks => ∃ x r, ks = (k1 k, x) :: r ∧ Rep p x ∧ RepK ps r
def RepT : List (List K1 × PV) → List (List Key × V) → Prop
  | [], ks => ks = []
  | (k, p) :: ps, ks => ∃ x r, ks = (k.map k1, x) :: r ∧ Rep p x ∧ RepT ps r
def RepF : List (String × PV) → List (Str × V) → Prop
  | [], xs => xs = []
  | (f, p) :: ps, xs => ∃ x r, xs = ((f : Str), x) :: r ∧ Rep p x ∧ RepF ps r
end
end

/-- what carries a value over to another heap -/
structure Carry (A B : Addr → Prop) (H H' : Hp) : Prop where
  rdK : ∀ a u, A a → Rd H a (.dK u) → B a ∧ Rd H' a (.dK u)
  rdT : ∀ a u, A a → Rd H a (.dT u) → B a ∧ Rd H' a (.dT u)
  lst : ∀ a xs, A a → H a = some (.lst xs) → B a ∧ H' a = some (.lst xs)
  ins : ∀ a c d xs, A a → H a = some (.ins c d xs) → B a ∧ H' a = some (.ins c d xs)
  tup : ∀ a xs, H a = some (.tup xs) → H' a = some (.tup xs)
  scr : ∀ a o xs, H a = some (.frz o (.lst xs)) → H' a = some (.frz o (.lst xs))
theorem Carry.mk' {A B : Addr → Prop} {H H' : Hp} (sub : ∀ a o, A a → H a = some o → B a) (keep : ∀ a o, A a → H a = some o → H' a = some o) (tups : ∀ a xs, H a = some (.tup xs) → H' a = some (.tup xs))
    (frz : ∀ a o u, H a = some (.frz o u) → H' a = some (.frz o u)) : Carry A B H H' where
  rdK := fun a u ha h => h.elim (fun h => ⟨sub _ _ ha h, .inl (keep _ _ ha h)⟩) fun ⟨o, h⟩ => ⟨sub _ _ ha h, .inr ⟨o, keep _ _ ha h⟩⟩
  rdT := fun a u ha h => h.elim (fun h => ⟨sub _ _ ha h, .inl (keep _ _ ha h)⟩) fun ⟨o, h⟩ => ⟨sub _ _ ha h, .inr ⟨o, keep _ _ ha h⟩⟩
  lst := fun a xs ha h => ⟨sub _ _ ha h, keep _ _ ha h⟩
  ins := fun a c d xs ha h => ⟨sub _ _ ha h, keep _ _ ha h⟩
  tup := tups
  scr := fun a o xs h => frz _ _ _ h
theorem Carry.refl {A B : Addr → Prop} {H : Hp} (sub : ∀ a o, A a → H a = some o → B a) : Carry A B H H := Carry.mk' sub (fun _ _ _ q => q) (fun _ _ q => q) fun _ _ _ q => q
theorem Carry.ro {K : PySem.W.Frag} {A B : Addr → Prop} {H H' : Hp} (c : Carry A B H H') {a : Addr} {xs : List V} (h : RoAt K H a xs) : RoAt K H' a xs := h.elim (fun ⟨o, q⟩ => .inl ⟨o, c.scr _ _ _ q⟩) .inr
section
variable {K : PySem.W.Frag} {A B : Addr → Prop} {H H' : Hp}
mutual
theorem Rep.carry (c : Carry A B H H') : ∀ {p : PV} {v : V}, Rep K A H p v → Rep K B H' p v
  | .non, _, h => h
  | .bl _, _, h => h
  | .int _, _, h => h
  | .str _, _, h => h
  | .tup ps, _, h => by
    obtain ⟨a, xs, e, hs, r⟩ := h
    exact ⟨a, xs, e, c.tup _ _ hs, Reps.carry c r⟩
  | .lst ps, _, h => by
    obtain ⟨a, xs, e, ha, hs, r⟩ := h
    exact ⟨a, xs, e, (c.lst _ _ ha hs).1, (c.lst _ _ ha hs).2, Reps.carry c r⟩
  | .rol ps, _, h => by
    obtain ⟨a, xs, e, hs, r⟩ := h
    exact ⟨a, xs, e, c.ro hs, Reps.carry c r⟩
  | .dic kvs, _, h => by
    obtain ⟨a, xs, e, ha, hs, r⟩ := h
    exact ⟨a, xs, e, (c.rdK _ _ ha hs).1, (c.rdK _ _ ha hs).2, RepK.carry c r⟩
  | .dit kvs, _, h => by
    obtain ⟨a, xs, e, ha, hs, r⟩ := h
    exact ⟨a, xs, e, (c.rdT _ _ ha hs).1, (c.rdT _ _ ha hs).2, RepT.carry c r⟩
  | .ins cc fs, _, h => by
    obtain ⟨a, dx, xs, e, ha, hs, r⟩ := h
    exact ⟨a, dx, xs, e, (c.ins _ _ _ _ ha hs).1, (c.ins _ _ _ _ ha hs).2, RepF.carry c r⟩
theorem Reps.carry (c : Carry A B H H') : ∀ {ps : List PV} {vs : List V}, Reps K A H ps vs → Reps K B H' ps vs
  | [], _, h => h
  | p :: ps, _, h => by
    obtain ⟨x, r, e, h1, h2⟩ := h
    exact ⟨x, r, e, Rep.carry c h1, Reps.carry c h2⟩
theorem RepK.carry (c : Carry A B H H') : ∀ {ps : List (K1 × PV)} {vs : List (Key × V)}, RepK K A H ps vs → RepK K B H' ps vs
  | [], _, h => h
  | (k, p) :: ps, _, h => by
    obtain ⟨x, r, e, h1, h2⟩ := h
    exact ⟨x, r, e, Rep.carry c h1, RepK.carry c h2⟩
theorem RepT.carry (c : Carry A B H H') : ∀ {ps : List (List K1 × PV)} {vs : List (List Key × V)}, RepT K A H ps vs → RepT K B H' ps vs
  | [], _, h => h
  | (k, p) :: ps, _, h => by
    obtain ⟨x, r, e, h1, h2⟩ := h
    exact ⟨x, r, e, Rep.carry c h1, RepT.carry c h2⟩
theorem RepF.carry (c : Carry A B H H') : ∀ {ps : List (String × PV)} {vs : List (Str × V)}, RepF K A H ps vs → RepF K B H' ps vs
  | [], _, h => h
  | (k, p) :: ps, _, h => by
    obtain ⟨x, r, e, h1, h2⟩ := h
    exact ⟨x, r, e, Rep.carry c h1, RepF.carry c h2⟩
end
theorem Carry.same (s : Same H H') (sub : ∀ a, A a → B a) : Carry A B H H' := Carry.mk' (fun a _ q _ => sub a q) (fun a o _ h => s a o h) (fun a xs h => s a _ h) fun a o u h => s a _ h
theorem Rep.same {p : PV} {v : V} (s : Same H H') (h : Rep K A H p v) : Rep K A H' p v := Rep.carry (Carry.same s fun _ q => q) h
theorem Reps.same {p : List PV} {v : List V} (s : Same H H') (h : Reps K A H p v) : Reps K A H' p v := Reps.carry (Carry.same s fun _ q => q) h
theorem Rep.any {p : PV} {v : V} (h : Rep K A H p v) : Rep K (fun _ => True) H p v := Rep.carry (Carry.refl fun _ _ _ _ => trivial) h
theorem Rep.sub {p : PV} {v : V} (s : ∀ a, A a → B a) (h : Rep K A H p v) : Rep K B H p v := Rep.carry (Carry.refl fun a _ q _ => s a q) h
theorem Reps.sub {p : List PV} {v : List V} (s : ∀ a, A a → B a) (h : Reps K A H p v) : Reps K B H p v := Reps.carry (Carry.refl fun a _ q _ => s a q) h
end

/-! nothing in it can be changed -/
mutual
def immut : PV → Bool
  | .non => true | .bl _ => true | .int _ => true | .str _ => true
  | .tup ps => immuts ps
  | .rol ps => immuts ps
  | .lst _ => false | .dic _ => false | .dit _ => false | .ins _ _ => false
def immuts : List PV → Bool
  | [] => true
  | p :: ps => immut p && immuts ps
end
section
variable {K : PySem.W.Frag} {A B : Addr → Prop} {H : Hp}
mutual
theorem Rep.immut : ∀ {p : PV} {v : V}, Fz.immut p = true → Rep K A H p v → Rep K B H p v
  | .non, _, _, h => h
  | .bl _, _, _, h => h
  | .int _, _, _, h => h
  | .str _, _, _, h => h
  | .tup ps, _, i, h => by
    obtain ⟨a, xs, e, hs, r⟩ := h
    exact ⟨a, xs, e, hs, Reps.immut (by simpa [Fz.immut] using i) r⟩
  | .rol ps, _, i, h => by
    obtain ⟨a, xs, e, hs, r⟩ := h
    exact ⟨a, xs, e, hs, Reps.immut (by simpa [Fz.immut] using i) r⟩
  | .lst _, _, i, _ => by simp [Fz.immut] at i
  | .dic _, _, i, _ => by simp [Fz.immut] at i
  | .dit _, _, i, _ => by simp [Fz.immut] at i
  | .ins _ _, _, i, _ => by simp [Fz.immut] at i
theorem Reps.immut : ∀ {ps : List PV} {vs : List V}, immuts ps = true → Reps K A H ps vs → Reps K B H ps vs
  | [], _, _, h => h
  | p :: ps, _, i, h => by
    obtain ⟨x, r, e, h1, h2⟩ := h
    simp only [immuts, Bool.and_eq_true] at i
    exact ⟨x, r, e, Rep.immut i.1 h1, Reps.immut i.2 h2⟩
end
end

/-! ### lists of values -/
section
variable {K : PySem.W.Frag} {A : Addr → Prop} {H : Hp}
theorem Reps.length : ∀ {ps : List PV} {vs : List V}, Reps K A H ps vs → vs.length = ps.length
  | [], _, h => by rw [show _ = [] from h]; rfl
  | p :: ps, _, h => by
    obtain ⟨x, r, rfl, h1, h2⟩ := h
    simp [Reps.length h2]
theorem Reps.get : ∀ {ps : List PV} {vs : List V} {i : Nat} {p : PV}, Reps K A H ps vs → ps[i]? = some p → ∃ v, vs[i]? = some v ∧ Rep K A H p v
  | [], _, _, _, _, e => by simp at e
  | q :: ps, _, 0, p, h, e => by
    obtain ⟨x, r, rfl, h1, h2⟩ := h
    simp at e; subst e
    exact ⟨x, rfl, h1⟩
  | q :: ps, _, i + 1, p, h, e => by
    obtain ⟨x, r, rfl, h1, h2⟩ := h
    obtain ⟨v, e1, e2⟩ := Reps.get (i := i) h2 (by simpa using e)
    exact ⟨v, by simpa using e1, e2⟩
theorem Reps.getV : ∀ {ps : List PV} {vs : List V} {i : Nat} {v : V}, Reps K A H ps vs → vs[i]? = some v → ∃ p, ps[i]? = some p ∧ Rep K A H p v
  | [], _, _, _, h, e => by rw [show _ = [] from h] at e; simp at e
  | q :: ps, _, 0, p, h, e => by
    obtain ⟨x, r, rfl, h1, h2⟩ := h
    simp at e; subst e
    exact ⟨q, rfl, h1⟩
  | q :: ps, _, i + 1, p, h, e => by
    obtain ⟨x, r, rfl, h1, h2⟩ := h
    obtain ⟨v, e1, e2⟩ := Reps.getV (i := i) h2 (by simpa using e)
    exact ⟨v, by simpa using e1, e2⟩
theorem Reps.append : ∀ {ps qs : List PV} {vs ws : List V}, Reps K A H ps vs → Reps K A H qs ws → Reps K A H (ps ++ qs) (vs ++ ws)
  | [], _, _, _, h, h' => by rw [show _ = [] from h]; exact h'
  | p :: ps, _, _, _, h, h' => by
    obtain ⟨x, r, rfl, h1, h2⟩ := h
    exact ⟨x, _, rfl, h1, Reps.append h2 h'⟩
theorem Reps.nil : Reps K A H [] [] := rfl
theorem Reps.cons {p : PV} {v : V} {ps : List PV} {vs : List V} (h : Rep K A H p v) (t : Reps K A H ps vs) : Reps K A H (p :: ps) (v :: vs) := ⟨v, vs, rfl, h, t⟩
theorem Reps.one {p : PV} {v : V} (h : Rep K A H p v) : Reps K A H [p] [v] := ⟨v, [], rfl, h, rfl⟩
theorem Reps.take : ∀ {ps : List PV} {vs : List V} (n : Nat), Reps K A H ps vs → Reps K A H (ps.take n) (vs.take n)
  | [], _, n, h => by rw [show _ = [] from h]; simp [Reps]
  | p :: ps, _, 0, h => by simp [Reps]
  | p :: ps, _, n + 1, h => by
    obtain ⟨x, r, rfl, h1, h2⟩ := h
    exact ⟨x, _, rfl, h1, Reps.take n h2⟩
theorem Reps.drop : ∀ {ps : List PV} {vs : List V} (n : Nat), Reps K A H ps vs → Reps K A H (ps.drop n) (vs.drop n)
  | [], _, n, h => by rw [show _ = [] from h]; simp [Reps]
  | p :: ps, _, 0, h => by simpa using h
  | p :: ps, _, n + 1, h => by
    obtain ⟨x, r, rfl, h1, h2⟩ := h
    simpa using Reps.drop n h2
theorem Reps.set : ∀ {ps : List PV} {vs : List V} {p : PV} {v : V} (i : Nat), Reps K A H ps vs → Rep K A H p v → Reps K A H (ps.set i p) (vs.set i v)
  | [], _, _, _, i, h, _ => by rw [show _ = [] from h]; simp [Reps]
  | q :: ps, _, p, v, 0, h, h' => by
    obtain ⟨x, r, rfl, h1, h2⟩ := h
    exact ⟨v, _, rfl, h', h2⟩
  | q :: ps, _, p, v, i + 1, h, h' => by
    obtain ⟨x, r, rfl, h1, h2⟩ := h
    exact ⟨x, _, rfl, h1, Reps.set i h2 h'⟩
theorem Reps.reverse : ∀ {ps : List PV} {vs : List V}, Reps K A H ps vs → Reps K A H ps.reverse vs.reverse
  | [], _, h => by rw [show _ = [] from h]; simp [Reps]
  | p :: ps, _, h => by
    obtain ⟨x, r, rfl, h1, h2⟩ := h
    simp only [List.reverse_cons]
    exact Reps.append (Reps.reverse h2) (Reps.one h1)
theorem Reps.eraseIdx : ∀ {ps : List PV} {vs : List V} (i : Nat), Reps K A H ps vs → Reps K A H (ps.eraseIdx i) (vs.eraseIdx i)
  | [], _, i, h => by rw [show _ = [] from h]; simp [Reps]
  | p :: ps, _, 0, h => by
    obtain ⟨x, r, rfl, h1, h2⟩ := h
    simpa using h2
  | p :: ps, _, i + 1, h => by
    obtain ⟨x, r, rfl, h1, h2⟩ := h
    exact ⟨x, _, rfl, h1, Reps.eraseIdx i h2⟩
theorem Reps.ints : ∀ {ns : List Int} {vs : List V}, Reps K A H (ns.map .int) vs → vs = ns.map V.int
  | [], _, h => h
  | n :: ns, _, h => by
    obtain ⟨x, r, rfl, h1, h2⟩ := h
    rw [show x = V.int n from h1, Reps.ints h2]; rfl
theorem Reps.of_ints : ∀ (ns : List Int), Reps K A H (ns.map .int) (ns.map V.int)
  | [] => rfl
  | n :: ns => ⟨_, _, rfl, rfl, Reps.of_ints ns⟩
theorem Reps.strs : ∀ {ns : List Tx} {vs : List V}, Reps K A H (ns.map .str) vs → vs = ns.map fun x => V.str (mkS x)
  | [], _, h => h
  | n :: ns, _, h => by
    obtain ⟨x, r, rfl, h1, h2⟩ := h
    rw [show x = V.str (mkS n) from h1, Reps.strs h2]; rfl
theorem Reps.of_strs : ∀ (ns : List Tx), Reps K A H (ns.map .str) (ns.map fun x => V.str (mkS x))
  | [] => rfl
  | n :: ns => ⟨_, _, rfl, rfl, Reps.of_strs ns⟩
end
end Fz
end
section
/-! FwB: results, slots, the environment's representation, the judgements. -/
namespace Fz
open PySem PySem.Spec PyProof.Rows L2

/-! ### results -/
inductive Res (α : Type) where
  | ok (a : α)
  | exc (c : String) (fs : Option (List (String × PV)))
  | bad
def Res.bind {α β : Type} (r : Res α) (k : α → Res β) : Res β := match r with
  | .ok a => k a
  | .exc c fs => .exc c fs
  | .bad => .bad
instance : Monad Res where
  pure := .ok
  bind := Res.bind
@[simp] theorem bind_ok {α β : Type} (a : α) (k : α → Res β) : (Res.ok a >>= k) = k a := (rfl)
@[simp] theorem bind_exc {α β : Type} (c : String) (fs : Option (List (String × PV))) (k : α → Res β) : ((Res.exc c fs : Res α) >>= k) = .exc c fs := (rfl)
@[simp] theorem bind_bad {α β : Type} (k : α → Res β) : ((Res.bad : Res α) >>= k) = .bad := (rfl)
@[simp] theorem pure_ok {α : Type} (a : α) : (pure a : Res α) = .ok a := (rfl)
abbrev XF := String → Option (List (String × PV)) → Prop
def Out {α : Type} (r : Res α) (P : α → Prop) (E : XF) : Prop := match r with
  | .ok a => P a
  | .exc c fs => E c fs
  | .bad => False
theorem Out.bind {α β : Type} {r : Res α} {k : α → Res β} {P : β → Prop} {E : XF} (h : Out (r >>= k) P E) : Out r (fun a => Out (k a) P E) E := by
  cases r with
  | ok a => exact h
  | exc c fs => exact h
  | bad => exact h
theorem Out.mono {α : Type} {r : Res α} {P P' : α → Prop} {E E' : XF} (h : Out r P E) (hp : ∀ a, P a → P' a) (he : ∀ c fs, E c fs → E' c fs) : Out r P' E' := by
  cases r with
  | ok a => exact hp _ h
  | exc c fs => exact he _ _ h
  | bad => exact h
theorem Out.and {α : Type} {r : Res α} {P : α → Prop} {E : XF} (h : Out r P E) : Out r (fun a => r = .ok a ∧ P a) E := by
  cases r with
  | ok a => exact ⟨rfl, h⟩
  | exc c fs => exact h
  | bad => exact h

/-! ### owned things, slots -/
/-- what one name alone holds: its items are common values; or a common value -/
inductive OT where
  | fz (p : PV) | l (ps : List PV) | d (kvs : List (K1 × PV)) | dt (kvs : List (List K1 × PV)) | ins (c : String) (fs : List (String × PV))
  /-- a tuple, a list, a dict, an instance with own things in it -/
  | T (ts : List OT) | L (ts : List OT) | D (kvs : List (K1 × OT)) | I (c : String) (fs : List (String × OT))
  /-- what stands at an address; what a def hands back, and what it has changed -/
  | P (a : Addr) (t : OT) | M (o : OT) (ts : List OT)
  deriving Inhabited
mutual
def OT.pv : OT → PV
  | .fz p => p
  | .l ps => .lst ps
  | .d kvs => .dic kvs
  | .dt kvs => .dit kvs
  | .ins c fs => .ins c fs
  | .T ts => .tup (OT.pvs ts)
  | .L ts => .lst (OT.pvs ts)
  | .D kvs => .dic (OT.pvK kvs)
  | .I c fs => .ins c (OT.pvF fs)
  | .P _ t => t.pv
  | .M o _ => o.pv
def OT.pvs : List OT → List PV
  | [] => []
  | t :: ts => t.pv :: OT.pvs ts
def OT.pvK : List (K1 × OT) → List (K1 × PV)
  | [] => []
  | (k, t) :: ts => (k, t.pv) :: OT.pvK ts
def OT.pvF : List (String × OT) → List (String × PV)
  | [] => []
  | (k, t) :: ts => (k, t.pv) :: OT.pvF ts
end
inductive Slot where
  | u | val (p : PV) | bor (p : PV) | own (t : OT)
  deriving Inhabited
abbrev Env := List Slot
abbrev Fp := Nat → List Addr
def InF (fp : Fp) (a : Addr) : Prop := ∃ i, a ∈ fp i
def put (fp : Fp) (i : Nat) (F : List Addr) : Fp := fun j => if j = i then F else fp j
theorem put_same {fp : Fp} {i : Nat} {F : List Addr} : put fp i F i = F := if_pos rfl
theorem put_ne {fp : Fp} {i j : Nat} {F : List Addr} (h : j ≠ i) : put fp i F j = fp j := if_neg h

section
variable (K : PySem.W.Frag)
mutual
def OTRep (A : Addr → Prop) (H : Hp) : OT → V → List Addr → Prop
  | .fz p, v, F => F = [] ∧ Rep K A H p v
  | .l ps, v, F => ∃ a xs, v = .ref a ∧ F = [a] ∧ H a = some (.lst xs) ∧ Reps K A H ps xs
  | .d kvs, v, F => ∃ a xs, v = .ref a ∧ F = [a] ∧ H a = some (.dK xs) ∧ RepK K A H kvs xs
  | .dt kvs, v, F => ∃ a xs, v = .ref a ∧ F = [a] ∧ H a = some (.dT xs) ∧ RepT K A H kvs xs
  | .ins c fs, v, F => ∃ a dx xs, v = .ref a ∧ F = [a] ∧ H a = some (.ins (He.ga K (c : Str)) dx xs) ∧ RepF K A H fs xs
  | .T ts, v, F => ∃ a xs, v = .ref a ∧ H a = some (.tup xs) ∧ OTReps A H ts xs F
  | .L ts, v, F => ∃ a xs F', v = .ref a ∧ F = a :: F' ∧ H a = some (.lst xs) ∧ OTReps A H ts xs F'
  | .D kvs, v, F => (kvs.map Prod.fst).Nodup ∧ ∃ a xs F', v = .ref a ∧ F = a :: F' ∧ H a = some (.dK xs) ∧ OTRepK A H kvs xs F'
  | .I c fs, v, F => ∃ a dx xs F', v = .ref a ∧ F = a :: F' ∧ H a = some (.ins (He.ga K (c : Str)) dx xs) ∧ OTRepF A H fs xs F'
  | .P b t, v, F => v = .ref b ∧ OTRep A H t v F
  | .M o ts, v, F => ∃ xs F1 F2, F = F1 ++ F2 ∧ OTRep A H o v F1 ∧ OTReps A H ts xs F2
def OTReps (A : Addr → Prop) (H : Hp) : List OT → List V → List Addr → Prop
  | [], xs, F => xs = [] ∧ F = []
  | t :: ts, xs, F => ∃ x r F1 F2, xs = x :: r ∧ F = F1 ++ F2 ∧ OTRep A H t x F1 ∧ OTReps A H ts r F2
def OTRepK (A : Addr → Prop) (H : Hp) : List (K1 × OT) → List (Key × V) → List Addr → Prop
  | [], xs, F => xs = [] ∧ F = []
  | (k, t) :: ts, xs, F => ∃ x r F1 F2, xs = (k1 k, x) :: r ∧ F = F1 ++ F2 ∧ OTRep A H t x F1 ∧ OTRepK A H ts r F2
def OTRepF (A : Addr → Prop) (H : Hp) : List (String × OT) → List (Str × V) → List Addr → Prop
  | [], xs, F => xs = [] ∧ F = []
  | (k, t) :: ts, xs, F => ∃ x r F1 F2, xs = ((k : Str), x) :: r ∧ F = F1 ++ F2 ∧ OTRep A H t x F1 ∧ OTRepF A H ts r F2
end
def SlotOk (A B : Addr → Prop) (H : Hp) (s : Slot) (so : Option (Option V)) (F : List Addr) : Prop := match s with
  | .u => F = []
  | .val p => F = [] ∧ ∃ v, so = some (some v) ∧ Rep K A H p v
  | .bor p => F = [] ∧ ∃ v, so = some (some v) ∧ Rep K B H p v
  | .own t => ∃ v, so = some (some v) ∧ OTRep K A H t v F
end
/-- may be written -/
def Wr : HO → Prop
  | .lst _ => True | .dK _ => True | .dT _ => True | .ins _ _ _ => True | _ => False
section
variable {K : PySem.W.Frag} {A B A' : Addr → Prop} {H H' : Hp}
mutual
theorem OTRep.live : ∀ {t : OT} {v : V} {F : List Addr}, OTRep K A H t v F → ∀ a ∈ F, ∃ o, H a = some o ∧ Wr o
  | .fz p, _, _, h, a, ha => by rw [h.1] at ha; cases ha
  | .l ps, _, _, h, a, ha => by obtain ⟨b, xs, _, rfl, hb, _⟩ := h; rw [List.mem_singleton.mp ha]; exact ⟨_, hb, trivial⟩
  | .d ps, _, _, h, a, ha => by obtain ⟨b, xs, _, rfl, hb, _⟩ := h; rw [List.mem_singleton.mp ha]; exact ⟨_, hb, trivial⟩
  | .dt ps, _, _, h, a, ha => by obtain ⟨b, xs, _, rfl, hb, _⟩ := h; rw [List.mem_singleton.mp ha]; exact ⟨_, hb, trivial⟩
  | .ins c fs, _, _, h, a, ha => by obtain ⟨b, dx, xs, _, rfl, hb, _⟩ := h; rw [List.mem_singleton.mp ha]; exact ⟨_, hb, trivial⟩
  | .T ts, _, _, h, a, ha => by obtain ⟨b, xs, _, hb, r⟩ := h; exact OTReps.live r a ha
  | .L ts, _, _, h, a, ha => by
    obtain ⟨b, xs, F', _, rfl, hb, r⟩ := h
    rcases List.mem_cons.mp ha with rfl | ha
    · exact ⟨_, hb, trivial⟩
    · exact OTReps.live r a ha
  | .D ts, _, _, h, a, ha => by
    obtain ⟨_, b, xs, F', _, rfl, hb, r⟩ := h
    rcases List.mem_cons.mp ha with rfl | ha
    · exact ⟨_, hb, trivial⟩
    · exact OTRepK.live r a ha
  | .I c ts, _, _, h, a, ha => by
    obtain ⟨b, dx, xs, F', _, rfl, hb, r⟩ := h
    rcases List.mem_cons.mp ha with rfl | ha
    · exact ⟨_, hb, trivial⟩
    · exact OTRepF.live r a ha
  | .P b t, _, _, h, a, ha => OTRep.live h.2 a ha
  | .M o ts, _, _, h, a, ha => by
    obtain ⟨xs, F1, F2, rfl, h1, h2⟩ := h
    rcases List.mem_append.mp ha with q | q
    · exact OTRep.live h1 a q
    · exact OTReps.live h2 a q
theorem OTReps.live : ∀ {ts : List OT} {xs : List V} {F : List Addr}, OTReps K A H ts xs F → ∀ a ∈ F, ∃ o, H a = some o ∧ Wr o
  | [], _, _, h, a, ha => by rw [h.2] at ha; cases ha
  | t :: ts, _, _, h, a, ha => by
    obtain ⟨x, r, F1, F2, rfl, rfl, h1, h2⟩ := h
    rcases List.mem_append.mp ha with q | q
    · exact OTRep.live h1 a q
    · exact OTReps.live h2 a q
theorem OTRepK.live : ∀ {ts : List (K1 × OT)} {xs : List (Key × V)} {F : List Addr}, OTRepK K A H ts xs F → ∀ a ∈ F, ∃ o, H a = some o ∧ Wr o
  | [], _, _, h, a, ha => by rw [h.2] at ha; cases ha
  | (k, t) :: ts, _, _, h, a, ha => by
    obtain ⟨x, r, F1, F2, rfl, rfl, h1, h2⟩ := h
    rcases List.mem_append.mp ha with q | q
    · exact OTRep.live h1 a q
    · exact OTRepK.live h2 a q
theorem OTRepF.live : ∀ {ts : List (String × OT)} {xs : List (Str × V)} {F : List Addr}, OTRepF K A H ts xs F → ∀ a ∈ F, ∃ o, H a = some o ∧ Wr o
  | [], _, _, h, a, ha => by rw [h.2] at ha; cases ha
  | (k, t) :: ts, _, _, h, a, ha => by
    obtain ⟨x, r, F1, F2, rfl, rfl, h1, h2⟩ := h
    rcases List.mem_append.mp ha with q | q
    · exact OTRep.live h1 a q
    · exact OTRepF.live h2 a q
end
mutual
theorem OTRep.carry (c : Carry A B H H') : ∀ {t : OT} {v : V} {F : List Addr}, (∀ a ∈ F, ∀ o, H a = some o → H' a = some o) → OTRep K A H t v F → OTRep K B H' t v F
  | .fz p, _, _, s, h => ⟨h.1, Rep.carry c h.2⟩
  | .l ps, _, _, s, h => by obtain ⟨b, xs, e, rfl, hb, hr⟩ := h; exact ⟨b, xs, e, rfl, s _ (List.mem_singleton.mpr rfl) _ hb, Reps.carry c hr⟩
  | .d ps, _, _, s, h => by obtain ⟨b, xs, e, rfl, hb, hr⟩ := h; exact ⟨b, xs, e, rfl, s _ (List.mem_singleton.mpr rfl) _ hb, RepK.carry c hr⟩
  | .dt ps, _, _, s, h => by obtain ⟨b, xs, e, rfl, hb, hr⟩ := h; exact ⟨b, xs, e, rfl, s _ (List.mem_singleton.mpr rfl) _ hb, RepT.carry c hr⟩
  | .ins cc fs, _, _, s, h => by obtain ⟨b, dx, xs, e, rfl, hb, hr⟩ := h; exact ⟨b, dx, xs, e, rfl, s _ (List.mem_singleton.mpr rfl) _ hb, RepF.carry c hr⟩
  | .T ts, _, _, s, h => by obtain ⟨b, xs, e, hb, hr⟩ := h; exact ⟨b, xs, e, c.tup _ _ hb, OTReps.carry c s hr⟩
  | .L ts, _, _, s, h => by obtain ⟨b, xs, F', e, rfl, hb, hr⟩ := h; exact ⟨b, xs, F', e, rfl, s _ List.mem_cons_self _ hb, OTReps.carry c (fun a ha => s a (List.mem_cons_of_mem _ ha)) hr⟩
  | .D ts, _, _, s, h => by obtain ⟨hn, b, xs, F', e, rfl, hb, hr⟩ := h; exact ⟨hn, b, xs, F', e, rfl, s _ List.mem_cons_self _ hb, OTRepK.carry c (fun a ha => s a (List.mem_cons_of_mem _ ha)) hr⟩
  | .I cc ts, _, _, s, h => by obtain ⟨b, dx, xs, F', e, rfl, hb, hr⟩ := h; exact ⟨b, dx, xs, F', e, rfl, s _ List.mem_cons_self _ hb, OTRepF.carry c (fun a ha => s a (List.mem_cons_of_mem _ ha)) hr⟩
  | .P b t, _, _, s, h => ⟨h.1, OTRep.carry c s h.2⟩
  | .M o ts, _, _, s, h => by
    obtain ⟨xs, F1, F2, rfl, h1, h2⟩ := h
    exact ⟨xs, F1, F2, rfl, OTRep.carry c (fun a ha => s a (List.mem_append_left _ ha)) h1, OTReps.carry c (fun a ha => s a (List.mem_append_right _ ha)) h2⟩
theorem OTReps.carry (c : Carry A B H H') : ∀ {ts : List OT} {xs : List V} {F : List Addr}, (∀ a ∈ F, ∀ o, H a = some o → H' a = some o) → OTReps K A H ts xs F → OTReps K B H' ts xs F
  | [], _, _, s, h => h
  | t :: ts, _, _, s, h => by
    obtain ⟨x, r, F1, F2, rfl, rfl, h1, h2⟩ := h
    exact ⟨x, r, F1, F2, rfl, rfl, OTRep.carry c (fun a ha => s a (List.mem_append_left _ ha)) h1, OTReps.carry c (fun a ha => s a (List.mem_append_right _ ha)) h2⟩
theorem OTRepK.carry (c : Carry A B H H') : ∀ {ts : List (K1 × OT)} {xs : List (Key × V)} {F : List Addr}, (∀ a ∈ F, ∀ o, H a = some o → H' a = some o) → OTRepK K A H ts xs F → OTRepK K B H' ts xs F
  | [], _, _, s, h => h
  | (k, t) :: ts, _, _, s, h => by
    obtain ⟨x, r, F1, F2, rfl, rfl, h1, h2⟩ := h
    exact ⟨x, r, F1, F2, rfl, rfl, OTRep.carry c (fun a ha => s a (List.mem_append_left _ ha)) h1, OTRepK.carry c (fun a ha => s a (List.mem_append_right _ ha)) h2⟩
theorem OTRepF.carry (c : Carry A B H H') : ∀ {ts : List (String × OT)} {xs : List (Str × V)} {F : List Addr}, (∀ a ∈ F, ∀ o, H a = some o → H' a = some o) → OTRepF K A H ts xs F → OTRepF K B H' ts xs F
  | [], _, _, s, h => h
  | (k, t) :: ts, _, _, s, h => by
    obtain ⟨x, r, F1, F2, rfl, rfl, h1, h2⟩ := h
    exact ⟨x, r, F1, F2, rfl, rfl, OTRep.carry c (fun a ha => s a (List.mem_append_left _ ha)) h1, OTRepF.carry c (fun a ha => s a (List.mem_append_right _ ha)) h2⟩
end
/-! let go: what was owned is common -/
mutual
theorem OTRep.free (hA : ∀ a, A a → B a) : ∀ {t : OT} {v : V} {F : List Addr}, (∀ a ∈ F, B a) → OTRep K A H t v F → Rep K B H t.pv v
  | .fz p, _, _, s, h => Rep.carry (Carry.refl fun a _ q _ => hA a q) h.2
  | .l ps, _, _, s, h => by obtain ⟨b, xs, e, rfl, hb, hr⟩ := h; exact ⟨b, xs, e, s _ (List.mem_singleton.mpr rfl), hb, Reps.carry (Carry.refl fun a _ q _ => hA a q) hr⟩
  | .d ps, _, _, s, h => by obtain ⟨b, xs, e, rfl, hb, hr⟩ := h; exact ⟨b, xs, e, s _ (List.mem_singleton.mpr rfl), .inl hb, RepK.carry (Carry.refl fun a _ q _ => hA a q) hr⟩
  | .dt ps, _, _, s, h => by obtain ⟨b, xs, e, rfl, hb, hr⟩ := h; exact ⟨b, xs, e, s _ (List.mem_singleton.mpr rfl), .inl hb, RepT.carry (Carry.refl fun a _ q _ => hA a q) hr⟩
  | .ins cc fs, _, _, s, h => by obtain ⟨b, dx, xs, e, rfl, hb, hr⟩ := h; exact ⟨b, dx, xs, e, s _ (List.mem_singleton.mpr rfl), hb, RepF.carry (Carry.refl fun a _ q _ => hA a q) hr⟩
  | .T ts, _, _, s, h => by obtain ⟨b, xs, e, hb, hr⟩ := h; exact ⟨b, xs, e, hb, OTReps.free hA s hr⟩
  | .L ts, _, _, s, h => by obtain ⟨b, xs, F', e, rfl, hb, hr⟩ := h; exact ⟨b, xs, e, s _ List.mem_cons_self, hb, OTReps.free hA (fun a ha => s a (List.mem_cons_of_mem _ ha)) hr⟩
  | .D ts, _, _, s, h => by obtain ⟨_, b, xs, F', e, rfl, hb, hr⟩ := h; exact ⟨b, xs, e, s _ List.mem_cons_self, .inl hb, OTRepK.free hA (fun a ha => s a (List.mem_cons_of_mem _ ha)) hr⟩
  | .I cc ts, _, _, s, h => by obtain ⟨b, dx, xs, F', e, rfl, hb, hr⟩ := h; exact ⟨b, dx, xs, e, s _ List.mem_cons_self, hb, OTRepF.free hA (fun a ha => s a (List.mem_cons_of_mem _ ha)) hr⟩
  | .P b t, _, _, s, h => OTRep.free (t := t) hA s h.2
  | .M o ts, _, _, s, h => by
    obtain ⟨xs, F1, F2, rfl, h1, h2⟩ := h
    exact OTRep.free (t := o) hA (fun a ha => s a (List.mem_append_left _ ha)) h1
theorem OTReps.free (hA : ∀ a, A a → B a) : ∀ {ts : List OT} {xs : List V} {F : List Addr}, (∀ a ∈ F, B a) → OTReps K A H ts xs F → Reps K B H (OT.pvs ts) xs
  | [], _, _, s, h => h.1
  | t :: ts, _, _, s, h => by
    obtain ⟨x, r, F1, F2, rfl, rfl, h1, h2⟩ := h
    exact ⟨x, r, rfl, OTRep.free hA (fun a ha => s a (List.mem_append_left _ ha)) h1, OTReps.free hA (fun a ha => s a (List.mem_append_right _ ha)) h2⟩
theorem OTRepK.free (hA : ∀ a, A a → B a) : ∀ {ts : List (K1 × OT)} {xs : List (Key × V)} {F : List Addr}, (∀ a ∈ F, B a) → OTRepK K A H ts xs F → RepK K B H (OT.pvK ts) xs
  | [], _, _, s, h => h.1
  | (k, t) :: ts, _, _, s, h => by
    obtain ⟨x, r, F1, F2, rfl, rfl, h1, h2⟩ := h
    exact ⟨x, r, rfl, OTRep.free hA (fun a ha => s a (List.mem_append_left _ ha)) h1, OTRepK.free hA (fun a ha => s a (List.mem_append_right _ ha)) h2⟩
theorem OTRepF.free (hA : ∀ a, A a → B a) : ∀ {ts : List (String × OT)} {xs : List (Str × V)} {F : List Addr}, (∀ a ∈ F, B a) → OTRepF K A H ts xs F → RepF K B H (OT.pvF ts) xs
  | [], _, _, s, h => h.1
  | (k, t) :: ts, _, _, s, h => by
    obtain ⟨x, r, F1, F2, rfl, rfl, h1, h2⟩ := h
    exact ⟨x, r, rfl, OTRep.free hA (fun a ha => s a (List.mem_append_left _ ha)) h1, OTRepF.free hA (fun a ha => s a (List.mem_append_right _ ha)) h2⟩
end
end

/-! ### the environment -/
def Am (C : Addr → Prop) (fp : Fp) : Addr → Prop := fun a => C a ∧ ¬ InF fp a
structure EnvOk (K : PySem.W.Frag) (C : Addr → Prop) (ρ : Env) (σ : L2.St) (H : Hp) (fp : Fp) : Prop where
  len : ρ.length = σ.length
  slot : ∀ i s, ρ[i]? = some s → SlotOk K (Am C fp) (fun a => ¬ InF fp a) H s (σ[i]?) (fp i)
  out : ∀ i, ρ.length ≤ i → fp i = []
  inj : ∀ i j a, a ∈ fp i → a ∈ fp j → i = j
  nod : ∀ i, (fp i).Nodup
  cap : ∀ a, InF fp a → C a
  new : ∀ a, H a = none → C a
/-- what a step leaves as it was -/
structure Grow (H : Hp) (fp : Fp) (H' : Hp) (fp' : Fp) : Prop where
  keep : ∀ a o, H a = some o → ¬ InF fp a → H' a = some o
  tups : ∀ a xs, H a = some (.tup xs) → H' a = some (.tup xs)
  frz : ∀ a o u, H a = some (.frz o u) → H' a = some (.frz o u)
  more : ∀ a, H a ≠ none → H' a ≠ none
  new : ∀ a, InF fp' a → InF fp a ∨ H a = none
section
variable {K : PySem.W.Frag} {C : Addr → Prop} {ρ : Env} {σ : L2.St} {H H' H2 : Hp} {fp fp' fp2 : Fp}
theorem EnvOk.live (e : EnvOk K C ρ σ H fp) {a : Addr} (h : InF fp a) : ∃ o, H a = some o ∧ Wr o := by
  obtain ⟨i, hi⟩ := h
  by_cases hl : i < ρ.length
  · have := e.slot i ρ[i] (List.getElem?_eq_getElem hl)
    revert this
    cases ρ[i] with
    | u => intro s; rw [show fp i = [] from s] at hi; cases hi
    | val p => intro s; rw [s.1] at hi; cases hi
    | bor p => intro s; rw [s.1] at hi; cases hi
    | own t => rintro ⟨v, _, r⟩; exact r.live a hi
  · rw [e.out i (Nat.le_of_not_lt hl)] at hi; cases hi
theorem EnvOk.fresh (e : EnvOk K C ρ σ H fp) {a : Addr} (h : H a = none) : ¬ InF fp a := fun q => by
  obtain ⟨o, ho, _⟩ := e.live q
  rw [h] at ho; cases ho
theorem EnvOk.am_new (e : EnvOk K C ρ σ H fp) {a : Addr} (h : H a = none) : Am C fp a := ⟨e.new a h, e.fresh h⟩
theorem EnvOk.ntup (e : EnvOk K C ρ σ H fp) {a : Addr} {xs : List V} (h : H a = some (.tup xs)) : ¬ InF fp a := fun q => by
  obtain ⟨o, ho, w⟩ := e.live q
  rw [h] at ho; cases ho; exact w
theorem EnvOk.nfrz (e : EnvOk K C ρ σ H fp) {a : Addr} {o : Obj} {u : HO} (h : H a = some (.frz o u)) : ¬ InF fp a := fun q => by
  obtain ⟨o, ho, w⟩ := e.live q
  rw [h] at ho; cases ho; exact w
theorem Grow.refl : Grow H fp H fp := ⟨fun _ _ h _ => h, fun _ _ h => h, fun _ _ _ h => h, fun _ h => h, fun _ h => .inl h⟩
theorem Grow.trans (g : Grow H fp H' fp') (g2 : Grow H' fp' H2 fp2) : Grow H fp H2 fp2 where
  keep := fun a o h n => g2.keep a o (g.keep a o h n) fun q => (g.new a q).elim n fun z => by rw [h] at z; cases z
  tups := fun a xs h => g2.tups a xs (g.tups a xs h)
  frz := fun a o u h => g2.frz a o u (g.frz a o u h)
  more := fun a h => g2.more a (g.more a h)
  new := fun a h => by
    rcases g2.new a h with q | q
    · exact g.new a q
    · right
      cases z : H a with
      | none => rfl
      | some o => exact absurd q (g.more a (by rw [z]; simp))
theorem Grow.same (s : Same H H') : Grow H fp H' fp := ⟨fun a o h _ => s a o h, fun a xs h => s a _ h, fun a o xs h => s a _ h, fun a h => by
  cases z : H a with
  | none => exact absurd z h
  | some o => rw [s a o z]; simp, fun _ h => .inl h⟩
theorem EnvOk.same (e : EnvOk K C ρ σ H fp) (s : Same H H') : EnvOk K C ρ σ H' fp where
  len := e.len
  slot := fun i sl h => by
    have := e.slot i sl h
    revert this
    cases sl with
    | u => exact id
    | val p => rintro ⟨f, v, hv, r⟩; exact ⟨f, v, hv, r.same s⟩
    | bor p => rintro ⟨f, v, hv, r⟩; exact ⟨f, v, hv, r.same s⟩
    | own t => rintro ⟨v, hv, r⟩; exact ⟨v, hv, r.carry (Carry.same s fun _ q => q) fun a _ o q => s a o q⟩
  out := e.out
  inj := e.inj
  nod := e.nod
  cap := e.cap
  new := fun a h => e.new a (by
    cases z : H a with
    | none => rfl
    | some o => rw [s a o z] at h; cases h)
/-- a value carried over a step -/
theorem Grow.carry (g : Grow H fp H' fp') : Carry (Am C fp) (Am C fp') H H' :=
  Carry.mk' (fun a o q e => ⟨q.1, fun z => (g.new a z).elim q.2 fun y => (by rw [e] at y; cases y)⟩) (fun a o q e => g.keep a o e q.2) g.tups g.frz
theorem Grow.carryB (g : Grow H fp H' fp') : Carry (fun a => ¬ InF fp a) (fun a => ¬ InF fp' a) H H' :=
  Carry.mk' (fun a o q e z => (g.new a z).elim q fun y => (by rw [e] at y; cases y)) (fun a o q e => g.keep a o e q) g.tups g.frz
theorem Rep.grow {p : PV} {v : V} (g : Grow H fp H' fp') (h : Rep K (Am C fp) H p v) : Rep K (Am C fp') H' p v := Rep.carry g.carry h
end
end Fz
end
section
/-! FwC: the slots' changes, the judgements, blocks. -/
namespace Fz
open PySem PySem.Spec PyProof.Rows L2

section
variable {K : PySem.W.Frag} {C : Addr → Prop} {ρ : Env} {σ : L2.St} {H H' H2 : Hp} {fp fp' fp2 : Fp}
theorem inF_put {i : Nat} {F : List Addr} {a : Addr} (h : InF (put fp i F) a) : a ∈ F ∨ (InF fp a ∧ ∃ j, j ≠ i ∧ a ∈ fp j) := by
  obtain ⟨j, hj⟩ := h
  by_cases e : j = i
  · subst e; rw [put_same] at hj; exact .inl hj
  · rw [put_ne e] at hj; exact .inr ⟨⟨j, hj⟩, j, e, hj⟩
/-- THE STEP: slot i is given anew, its own objects may have changed -/
theorem EnvOk.step {i : Nat} {s' : Slot} {v : V} {F' : List Addr} (e : EnvOk K C ρ σ H fp) (hi : i < ρ.length)
    (keep : ∀ a o, a ∉ fp i → H a = some o → H' a = some o) (more : ∀ a, H a ≠ none → H' a ≠ none) (hF : ∀ a ∈ F', a ∈ fp i ∨ H a = none) (hn : F'.Nodup)
    (ok : (∀ a, InF (put fp i F') a → InF fp a ∨ H a = none) → Grow H fp H' (put fp i F') → SlotOk K (Am C (put fp i F')) (fun a => ¬ InF (put fp i F') a) H' s' (some (some v)) F') :
    EnvOk K C (ρ.set i s') (σ.set i (some v)) H' (put fp i F') ∧ Grow H fp H' (put fp i F') := by
  have hnew : ∀ a, InF (put fp i F') a → InF fp a ∨ H a = none := fun a q => by
    rcases inF_put q with q | q
    · rcases hF a q with z | z
      · exact .inl ⟨i, z⟩
      · exact .inr z
    · exact .inl q.1
  have g : Grow H fp H' (put fp i F') :=
    ⟨fun a o h n => keep a o (fun q => n ⟨i, q⟩) h, fun a xs h => keep a _ (fun q => e.ntup h ⟨i, q⟩) h, fun a o xs h => keep a _ (fun q => e.nfrz h ⟨i, q⟩) h, more, hnew⟩
  refine ⟨⟨by simp [e.len], fun j sl h => ?_, fun j hj => ?_, fun j k a h1 h2 => ?_, fun j => ?_, fun a q => ?_, fun a q => ?_⟩, g⟩
  · by_cases hj : j = i
    · subst hj
      rw [List.getElem?_set_self hi] at h
      cases h
      rw [put_same, List.getElem?_set_self (by rw [← e.len]; exact hi)]
      exact ok hnew g
    · rw [List.getElem?_set_ne (Ne.symm hj)] at h
      rw [put_ne hj, List.getElem?_set_ne (Ne.symm hj)]
      have := e.slot j sl h
      revert this
      cases sl with
      | u => exact id
      | val p => rintro ⟨f, v, hv, r⟩; exact ⟨f, v, hv, Rep.carry g.carry r⟩
      | bor p => rintro ⟨f, v, hv, r⟩; exact ⟨f, v, hv, Rep.carry g.carryB r⟩
      | own t => rintro ⟨v, hv, r⟩; exact ⟨v, hv, r.carry g.carry fun a ha o q => keep a o (fun z => hj (e.inj _ _ _ ha z)) q⟩
  · have hj' : ρ.length ≤ j := by simpa using hj
    rw [put_ne (by omega)]
    exact e.out j hj'
  · have other : ∀ j a, j ≠ i → a ∈ fp j → a ∉ F' := fun j a hj ha hf => by
      rcases hF a hf with z | z
      · exact hj (e.inj _ _ _ ha z)
      · exact e.fresh z ⟨j, ha⟩
    by_cases hj : j = i
    · by_cases hk : k = i
      · rw [hj, hk]
      · subst hj; rw [put_same] at h1; rw [put_ne hk] at h2; exact (other k a hk h2 h1).elim
    · by_cases hk : k = i
      · subst hk; rw [put_same] at h2; rw [put_ne hj] at h1; exact (other j a hj h1 h2).elim
      · rw [put_ne hj] at h1; rw [put_ne hk] at h2; exact e.inj _ _ _ h1 h2
  · by_cases hj : j = i
    · subst hj; rw [put_same]; exact hn
    · rw [put_ne hj]; exact e.nod j
  · rcases hnew a q with z | z
    · exact e.cap a z
    · exact e.new a z
  · exact e.new a (by
      cases z : H a with
      | none => rfl
      | some o => exact absurd q (more a (by rw [z]; simp)))
theorem EnvOk.setVal {i : Nat} {p : PV} {v : V} (e : EnvOk K C ρ σ H fp) (hi : i < ρ.length) (r : Rep K (Am C fp) H p v) : EnvOk K C (ρ.set i (.val p)) (σ.set i (some v)) H (put fp i []) ∧ Grow H fp H (put fp i []) :=
  e.step hi (fun _ _ _ h => h) (fun _ h => h) (fun _ h => nomatch h) List.nodup_nil fun _ g => ⟨rfl, v, rfl, Rep.carry g.carry r⟩
theorem EnvOk.setBor {i : Nat} {p : PV} {v : V} (e : EnvOk K C ρ σ H fp) (hi : i < ρ.length) (r : Rep K (fun a => ¬ InF fp a) H p v) : EnvOk K C (ρ.set i (.bor p)) (σ.set i (some v)) H (put fp i []) ∧ Grow H fp H (put fp i []) :=
  e.step hi (fun _ _ _ h => h) (fun _ h => h) (fun _ h => nomatch h) List.nodup_nil fun _ g => ⟨rfl, v, rfl, Rep.carry g.carryB r⟩
/-- a slot for a thing: a common value is a common value -/
def toSlot : OT → Slot
  | .fz p => .val p
  | t => .own t
/-- a thing of one's own, just made (between H and H' it came) -/
theorem EnvOk.setOwn {i : Nat} {t : OT} {v : V} {Fn : List Addr} (e : EnvOk K C ρ σ H fp) (hi : i < ρ.length) (s : Same H H') (r : OTRep K (fun a => Am C fp a ∧ a ∉ Fn) H' t v Fn) (hf : ∀ a ∈ Fn, H a = none) (hn : Fn.Nodup) :
    ∃ fp', EnvOk K C (ρ.set i (toSlot t)) (σ.set i (some v)) H' fp' ∧ Grow H fp H' fp' := by
  have key : ∀ sl, SlotOk K (fun a => Am C fp a ∧ a ∉ Fn) (fun a => ¬ InF (put fp i Fn) a) H' sl (some (some v)) Fn → (∀ p, sl ≠ .bor p) → EnvOk K C (ρ.set i sl) (σ.set i (some v)) H' (put fp i Fn) ∧ Grow H fp H' (put fp i Fn) := fun sl hs nb => by
    refine e.step hi (fun a o _ h => s a o h) (fun a h => (Grow.same s (fp := fp)).more a h) (fun a h => .inr (hf a h)) hn fun hnew g => ?_
    have sub : ∀ a, (Am C fp a ∧ a ∉ Fn) → Am C (put fp i Fn) a := fun a ⟨q1, q2⟩ => ⟨q1.1, fun z => (inF_put z).elim q2 fun y => q1.2 y.1⟩
    have c : Carry (fun a => Am C fp a ∧ a ∉ Fn) (Am C (put fp i Fn)) H' H' := Carry.refl fun a _ q _ => sub a q
    cases sl with
    | u => exact hs
    | val p => obtain ⟨f, w, hw, r⟩ := hs; exact ⟨f, w, hw, Rep.carry c r⟩
    | bor p => exact (nb p rfl).elim
    | own t => obtain ⟨w, hw, r⟩ := hs; exact ⟨w, hw, r.carry c fun _ _ _ q => q⟩
  cases t with
  | fz p => exact ⟨_, key (.val p) ⟨r.1, v, rfl, r.2⟩ (by intros; simp)⟩
  | l ps => exact ⟨_, key (.own _) ⟨v, rfl, r⟩ (by intros; simp)⟩
  | d ps => exact ⟨_, key (.own _) ⟨v, rfl, r⟩ (by intros; simp)⟩
  | dt ps => exact ⟨_, key (.own _) ⟨v, rfl, r⟩ (by intros; simp)⟩
  | T ts => exact ⟨_, key (.own _) ⟨v, rfl, r⟩ (by intros; simp)⟩
  | L ts => exact ⟨_, key (.own _) ⟨v, rfl, r⟩ (by intros; simp)⟩
  | D ts => exact ⟨_, key (.own _) ⟨v, rfl, r⟩ (by intros; simp)⟩
  | I c ts => exact ⟨_, key (.own _) ⟨v, rfl, r⟩ (by intros; simp)⟩
  | P a ts => exact ⟨_, key (.own _) ⟨v, rfl, r⟩ (by intros; simp)⟩
  | M c ts => exact ⟨_, key (.own _) ⟨v, rfl, r⟩ (by intros; simp)⟩
  | ins c fs => exact ⟨_, key (.own _) ⟨v, rfl, r⟩ (by intros; simp)⟩
/-- what slot i holds is common from now on -/
theorem EnvOk.freeze {i : Nat} {t : OT} (e : EnvOk K C ρ σ H fp) (h : ρ[i]? = some (.own t)) : EnvOk K C (ρ.set i (.val t.pv)) σ H (put fp i []) ∧ Grow H fp H (put fp i []) := by
  have hi : i < ρ.length := (List.getElem?_eq_some_iff.mp h).1
  obtain ⟨v, hv, r⟩ := e.slot i _ h
  have hs : σ.set i (some v) = σ := by
    refine List.ext_getElem? fun j => ?_
    by_cases hj : j = i
    · subst hj; rw [List.getElem?_set_self (by rw [← e.len]; exact hi), hv]
    · rw [List.getElem?_set_ne (Ne.symm hj)]
  have := e.step (s' := .val t.pv) (v := v) (F' := []) hi (fun _ _ _ h => h) (fun _ h => h) (fun _ h => nomatch h) List.nodup_nil fun hnew g => ⟨rfl, v, rfl, OTRep.free (A := Am C fp) (fun a q => ⟨q.1, fun z => (inF_put z).elim (fun y => nomatch y) fun y => q.2 y.1⟩) (fun a ha => ⟨e.cap a ⟨i, ha⟩, fun z => (inF_put z).elim (fun y => nomatch y) fun ⟨_, j, hj, y⟩ => hj (e.inj _ _ _ y ha)⟩) r⟩
  rw [hs] at this
  exact this
/-- the own thing of slot i has changed in place -/
theorem EnvOk.write {i : Nat} {t t' : OT} {v : V} {F' : List Addr} (e : EnvOk K C ρ σ H fp) (h : ρ[i]? = some (.own t)) (hv : σ[i]? = some (some v)) (ht : ∀ p, t' ≠ .fz p)
    (keep : ∀ a o, a ∉ fp i → H a = some o → H' a = some o) (more : ∀ a, H a ≠ none → H' a ≠ none) (hF : ∀ a ∈ F', a ∈ fp i ∨ H a = none) (hn : F'.Nodup)
    (r : OTRep K (fun a => Am C fp a ∧ a ∉ F') H' t' v F') : EnvOk K C (ρ.set i (.own t')) σ H' (put fp i F') ∧ Grow H fp H' (put fp i F') := by
  have hi : i < ρ.length := (List.getElem?_eq_some_iff.mp h).1
  have hs : σ.set i (some v) = σ := by
    refine List.ext_getElem? fun j => ?_
    by_cases hj : j = i
    · subst hj; rw [List.getElem?_set_self (by rw [← e.len]; exact hi), hv]
    · rw [List.getElem?_set_ne (Ne.symm hj)]
  have := e.step (s' := .own t') (v := v) (F' := F') hi keep more hF hn fun hnew g => ⟨v, rfl, r.carry (Carry.refl fun a _ q _ => ⟨q.1.1, fun z => (inF_put z).elim q.2 fun y => q.1.2 y.1⟩) fun _ _ _ q => q⟩
  rw [hs] at this
  exact this
end

/-! ### the judgements -/
/-- E: a common value; I: its items are common; B: to be looked at only -/
inductive Mode where
  | E | I | B
def RepI (K : PySem.W.Frag) (A : Addr → Prop) (H : Hp) : PV → V → Prop
  | .lst ps, v => ∃ a xs, v = .ref a ∧ H a = some (.lst xs) ∧ Reps K A H ps xs
  | .dic kvs, v => ∃ a ks, v = .ref a ∧ Rd H a (.dK ks) ∧ RepK K A H kvs ks
  | .dit kvs, v => ∃ a ks, v = .ref a ∧ Rd H a (.dT ks) ∧ RepT K A H kvs ks
  | .ins c fs, v => ∃ a dx xs, v = .ref a ∧ H a = some (.ins (He.ga K (c : Str)) dx xs) ∧ RepF K A H fs xs
  | p, v => Rep K A H p v
def RepM (K : PySem.W.Frag) (C : Addr → Prop) (fp : Fp) (m : Mode) (H : Hp) (p : PV) (v : V) : Prop := match m with
  | .E => Rep K (Am C fp) H p v
  | .I => RepI K (Am C fp) H p v
  | .B => Rep K (fun _ => True) H p v
theorem Rep.toI {K : PySem.W.Frag} {A : Addr → Prop} {H : Hp} {p : PV} {v : V} (h : Rep K A H p v) : RepI K A H p v := by
  cases p with
  | lst ps => obtain ⟨a, xs, e, _, l, r⟩ := h; exact ⟨a, xs, e, l, r⟩
  | dic ps => obtain ⟨a, xs, e, _, l, r⟩ := h; exact ⟨a, xs, e, l, r⟩
  | dit ps => obtain ⟨a, xs, e, _, l, r⟩ := h; exact ⟨a, xs, e, l, r⟩
  | ins c ps => obtain ⟨a, dx, xs, e, _, l, r⟩ := h; exact ⟨a, dx, xs, e, l, r⟩
  | _ => exact h
theorem RepI.toB {K : PySem.W.Frag} {A : Addr → Prop} {H : Hp} {p : PV} {v : V} (h : RepI K A H p v) : Rep K (fun _ => True) H p v := by
  have c : Carry A (fun _ => True) H H := Carry.refl fun _ _ _ _ => trivial
  cases p with
  | lst ps => obtain ⟨a, xs, e, l, r⟩ := h; exact ⟨a, xs, e, trivial, l, Reps.carry c r⟩
  | dic ps => obtain ⟨a, xs, e, l, r⟩ := h; exact ⟨a, xs, e, trivial, l, RepK.carry c r⟩
  | dit ps => obtain ⟨a, xs, e, l, r⟩ := h; exact ⟨a, xs, e, trivial, l, RepT.carry c r⟩
  | ins cc ps => obtain ⟨a, dx, xs, e, l, r⟩ := h; exact ⟨a, dx, xs, e, trivial, l, RepF.carry c r⟩
  | tup ps => exact Rep.carry c h
  | rol ps => exact Rep.carry c h
  | non => exact h
  | bl b => exact h
  | int b => exact h
  | str b => exact h
theorem RepM.toB {K : PySem.W.Frag} {C : Addr → Prop} {fp : Fp} {m : Mode} {H : Hp} {p : PV} {v : V} (h : RepM K C fp m H p v) : Rep K (fun _ => True) H p v := by
  cases m with
  | E => exact Rep.any h
  | I => exact RepI.toB (A := Am C fp) h
  | B => exact h
theorem RepM.same {K : PySem.W.Frag} {C : Addr → Prop} {fp : Fp} {m : Mode} {H H' : Hp} {p : PV} {v : V} (s : Same H H') (h : RepM K C fp m H p v) : RepM K C fp m H' p v := by
  have c : Carry (Am C fp) (Am C fp) H H' := Carry.same s fun _ q => q
  cases m with
  | E => exact Rep.same s h
  | B => exact Rep.same (A := fun _ => True) s h
  | I =>
    revert h
    cases p with
    | lst ps =>
      rintro ⟨a, xs, e, l, r⟩
      exact ⟨a, xs, e, s _ _ l, Reps.carry c r⟩
    | dic ps =>
      rintro ⟨a, xs, e, l, r⟩
      refine ⟨a, xs, e, ?_, RepK.carry c r⟩
      rcases l with l | ⟨o, l⟩
      · exact .inl (s _ _ l)
      · exact .inr ⟨o, s _ _ l⟩
    | dit ps =>
      rintro ⟨a, xs, e, l, r⟩
      refine ⟨a, xs, e, ?_, RepT.carry c r⟩
      rcases l with l | ⟨o, l⟩
      · exact .inl (s _ _ l)
      · exact .inr ⟨o, s _ _ l⟩
    | ins cc ps => rintro ⟨a, dx, xs, e, l, r⟩; exact ⟨a, dx, xs, e, s _ _ l, RepF.carry c r⟩
    | tup ps => exact Rep.same (A := Am C fp) s
    | rol ps => exact Rep.same (A := Am C fp) s
    | non => exact id
    | bl b => exact id
    | int b => exact id
    | str b => exact id

abbrev E := Env → Res PV
abbrev T := Env → Res Bool
abbrev O := Env → Res OT
abbrev L := Env → Res (List PV)
/-- what is wanted of an exception: its class, its fields -/
def XW (K : PySem.W.Frag) (W : WX) (σ : L2.St) (H' : Hp) (c : String) (fs : Option (List (String × PV))) : Prop := match fs with
  | none => W (.ref (He.ga K (c : Str))) none σ H'
  | some fs => ∀ d H2 xs, Same H' H2 → H' d = none → H2 d = some (.xd xs) → RepF K (fun _ => True) H2 fs xs → W (.ref (He.ga K (c : Str))) (some d) σ H2
def XQ (K : PySem.W.Frag) (W : WX) (σ : L2.St) (H : Hp) : XF := fun c fs => ∀ H', Same H H' → XW K W σ H' c fs
theorem XQ.later {K : PySem.W.Frag} {W : WX} {σ : L2.St} {H H1 : Hp} (s : Same H H1) {c : String} {fs : Option (List (String × PV))} (h : XQ K W σ H c fs) : XQ K W σ H1 c fs := fun H' s' => h H' fun a o q => s' a o (s a o q)
theorem Same.trans' {H H1 H2 : Hp} (a : Same H H1) (b : Same H1 H2) : Same H H2 := fun x o q => b x o (a x o q)

section
variable (K : PySem.W.Frag) (C : Addr → Prop) (W : WX)
def tE (m : Mode) (f : E) : TE := fun σ H Q => ∃ ρ fp, EnvOk K C ρ σ H fp ∧ Out (f ρ) (fun p => ∀ v H', Same H H' → RepM K C fp m H' p v → Q v H') (XQ K W σ H)
def tT (f : T) : TT := fun σ H Q => ∃ ρ fp, EnvOk K C ρ σ H fp ∧ Out (f ρ) (fun b => ∀ H', Same H H' → Q b H') (XQ K W σ H)
def tO (f : O) : TE := fun σ H Q => ∃ ρ fp, EnvOk K C ρ σ H fp ∧ Out (f ρ) (fun t => ∀ v H' Fn, Same H H' → Fn.Nodup → (∀ a ∈ Fn, H a = none) → OTRep K (fun a => Am C fp a ∧ a ∉ Fn) H' t v Fn → Q v H') (XQ K W σ H)
/-- several: each of its own mode -/
def RepMs (fp : Fp) (H : Hp) : List Mode → List PV → List V → Prop
  | [], [], [] => True
  | m :: ms, p :: ps, v :: vs => RepM K C fp m H p v ∧ RepMs fp H ms ps vs
  | _, _, _ => False
def tL (ms : List Mode) (f : L) : TA := fun σ H Q => ∃ ρ fp, EnvOk K C ρ σ H fp ∧ Out (f ρ) (fun ps => ∀ vs H', Same H H' → RepMs K C fp H' ms ps vs → Q vs H') (XQ K W σ H)
end
def EJ (X : Cx) (C : Addr → Prop) (W : WX) (m : Mode) (e : Expr) (f : E) : Prop := PE X e (tE X.K C W m f)
def TJ (X : Cx) (C : Addr → Prop) (W : WX) (e : Expr) (f : T) : Prop := PT X e (tT X.K C W f)
def OJ (X : Cx) (C : Addr → Prop) (W : WX) (e : Expr) (f : O) : Prop := PE X e (tO X.K C W f)
def LJ (X : Cx) (C : Addr → Prop) (W : WX) (ms : List Mode) (es : List Expr) (f : L) : Prop := PA X es (tL X.K C W ms f)

theorem pe_weak {X : Cx} {e : Expr} {t t' : TE} (h : PE X e t) (w : ∀ σ H Q, t' σ H Q → t σ H Q) : PE X e t' := ⟨fun pins s σ H Q I q => h.run pins s σ H Q I (w σ H Q q)⟩
theorem pt_weak {X : Cx} {e : Expr} {t t' : TT} (h : PT X e t) (w : ∀ σ H Q, t' σ H Q → t σ H Q) : PT X e t' := ⟨fun pins s σ H Q I q => h.run pins s σ H Q I (w σ H Q q)⟩
theorem pw_weak {X : Cx} {e : Expr} {t t' : TT} (h : PW X e t) (w : ∀ σ H Q, t' σ H Q → t σ H Q) : PW X e t' := ⟨fun wh pins s σ H Q I q => h.run wh pins s σ H Q I (w σ H Q q)⟩
theorem pa_weak {X : Cx} {e : List Expr} {t t' : TA} (h : PA X e t) (w : ∀ σ H Q, t' σ H Q → t σ H Q) : PA X e t' := ⟨fun pos pins s σ H Q I q => h.run pos pins s σ H Q I (w σ H Q q)⟩
theorem ps_weak {X : Cx} {e : Stmt} {t t' : TS} (h : PS X e t) (w : ∀ D σ H, t' D σ H → t D σ H) : PS X e t' := ⟨fun pins s σ H D I q => h.run pins s σ H D I (w D σ H q)⟩
theorem pss_weak {X : Cx} {e : List Stmt} {t t' : TS} (h : PSs X e t) (w : ∀ D σ H, t' D σ H → t D σ H) : PSs X e t' := ⟨fun pins s σ H D I q => h.run pins s σ H D I (w D σ H q)⟩

/-! ### statements -/
inductive Fl where
  | nx (ρ : Env) | rt (o : OT) | bk (ρ : Env) | ct (ρ : Env) | ex (c : String) (fs : Option (List (String × PV))) (ρ : Env) | bad
abbrev S := Env → Fl
def withR {α : Type} (r : Res α) (ρ : Env) (k : α → Fl) : Fl := match r with
  | .ok a => k a
  | .exc c fs => .ex c fs ρ
  | .bad => .bad
@[simp] theorem withR_ok {α : Type} (a : α) (ρ : Env) (k : α → Fl) : withR (.ok a) ρ k = k a := (rfl)
@[simp] theorem withR_exc {α : Type} (c : String) (fs : Option (List (String × PV))) (ρ : Env) (k : α → Fl) : withR (.exc c fs) ρ k = .ex c fs ρ := (rfl)
@[simp] theorem withR_bad {α : Type} (ρ : Env) (k : α → Fl) : withR .bad ρ k = .bad := (rfl)
def Fl.andThen (f : Fl) (t : S) : Fl := match f with
  | .nx ρ => t ρ
  | f => f
@[simp] theorem then_nx (ρ : Env) (t : S) : (Fl.nx ρ).andThen t = t ρ := (rfl)
@[simp] theorem then_rt (o : OT) (t : S) : (Fl.rt o).andThen t = .rt o := (rfl)
@[simp] theorem then_bk (ρ : Env) (t : S) : (Fl.bk ρ).andThen t = .bk ρ := (rfl)
@[simp] theorem then_ct (ρ : Env) (t : S) : (Fl.ct ρ).andThen t = .ct ρ := (rfl)
@[simp] theorem then_ex (c : String) (fs : Option (List (String × PV))) (ρ : Env) (t : S) : (Fl.ex c fs ρ).andThen t = .ex c fs ρ := (rfl)
def sSeq (s t : S) : S := fun ρ => (s ρ).andThen t
def sNil : S := fun ρ => .nx ρ
section
variable (K : PySem.W.Frag) (C : Addr → Prop) (W : WX)
def FlQ (D : Ends) (H : Hp) (fp : Fp) : Fl → Prop
  | .nx ρ' => ∀ σ' H' fp', EnvOk K C ρ' σ' H' fp' → Grow H fp H' fp' → D.nx σ' H'
  | .bk ρ' => ∀ σ' H' fp', EnvOk K C ρ' σ' H' fp' → Grow H fp H' fp' → D.bk σ' H'
  | .ct ρ' => ∀ σ' H' fp', EnvOk K C ρ' σ' H' fp' → Grow H fp H' fp' → D.ct σ' H'
  | .rt o => ∀ v H' Fn, Grow H fp H' (fun _ => []) → Fn.Nodup → (∀ a ∈ Fn, InF fp a ∨ H a = none) → OTRep K (fun a => C a ∧ a ∉ Fn) H' o v Fn → D.rt v H'
  | .ex c fs ρ' => ∀ σ' H' fp', EnvOk K C ρ' σ' H' fp' → Grow H fp H' fp' → XW K W σ' H' c fs
  | .bad => False
def tS (s : S) : TS := fun D σ H => ∃ ρ fp, EnvOk K C ρ σ H fp ∧ FlQ K C W D H fp (s ρ)
end
def SJ (X : Cx) (C : Addr → Prop) (W : WX) (st : Stmt) (s : S) : Prop := PS X st (tS X.K C W s)
def BJ (X : Cx) (C : Addr → Prop) (W : WX) (sts : List Stmt) (s : S) : Prop := PSs X sts (tS X.K C W s)
section
variable {K : PySem.W.Frag} {C : Addr → Prop} {W : WX} {D : Ends} {H H1 : Hp} {fp fp1 : Fp}
theorem FlQ.later (g : Grow H fp H1 fp1) : ∀ {f : Fl}, FlQ K C W D H fp f → FlQ K C W D H1 fp1 f
  | .nx _, h => fun σ' H' fp' e g' => h σ' H' fp' e (g.trans g')
  | .bk _, h => fun σ' H' fp' e g' => h σ' H' fp' e (g.trans g')
  | .ct _, h => fun σ' H' fp' e g' => h σ' H' fp' e (g.trans g')
  | .ex _ _ _, h => fun σ' H' fp' e g' => h σ' H' fp' e (g.trans g')
  | .bad, h => h
  | .rt _, h => fun v H' Fn g' n hf r => h v H' Fn (g.trans g') n (fun a ha => by
      rcases hf a ha with q | q
      · exact g.new a q
      · right
        cases z : H a with
        | none => rfl
        | some o => exact absurd q (g.more a (by rw [z]; simp))) r
theorem FlQ.seq {s t : S} {ρ : Env} (h : FlQ K C W D H fp (sSeq s t ρ)) : FlQ K C W { D with nx := tS K C W t D } H fp (s ρ) := by
  unfold sSeq at h
  cases e : s ρ with
  | nx ρ' => rw [e] at h; exact fun σ' H' fp' e' g => ⟨ρ', fp', e', FlQ.later g h⟩
  | rt o => rw [e] at h; exact h
  | bk o => rw [e] at h; exact h
  | ct o => rw [e] at h; exact h
  | ex c fs o => rw [e] at h; exact h
  | bad => rw [e] at h; exact h
/-- what an expression's end becomes -/
theorem FlQ.ofR {α : Type} {r : Res α} {ρ : Env} {σ : L2.St} {k : α → Fl} (e : EnvOk K C ρ σ H fp) (h : FlQ K C W D H fp (withR r ρ k)) : Out r (fun a => FlQ K C W D H fp (k a)) (fun c fs => ∀ H' , Same H H' → XW K W σ H' c fs) := by
  cases r with
  | ok a => exact h
  | exc c fs => exact fun H' s => h σ H' fp (e.same s) (Grow.same s)
  | bad => exact h
end
section
variable {X : Cx} {C : Addr → Prop} {W : WX}
theorem bj_nil : BJ X C W [] sNil := pss_weak pss_nil fun D σ H ⟨ρ, fp, e, h⟩ => h σ H fp e Grow.refl
theorem bj_cons {st : Stmt} {rest : List Stmt} {s t : S} (h1 : SJ X C W st s) (h2 : BJ X C W rest t) : BJ X C W (st :: rest) (sSeq s t) :=
  pss_weak (pss_cons h1 h2) fun D σ H ⟨ρ, fp, e, h⟩ => ⟨ρ, fp, e, h.seq⟩
theorem bj_one {st : Stmt} {s : S} (h1 : SJ X C W st s) : BJ X C W [st] s := pss_weak (pss_one h1) fun D σ H h => h
end
end Fz
end
section
/-! FwD: expressions: names, constants, operators, comparisons, and, or, not. -/
namespace Fz
open PySem PySem.Spec PyProof.Rows L2
def ofO {α : Type} : Option α → Res α
  | some a => .ok a
  | none => .bad
@[simp] theorem ofO_some {α : Type} (a : α) : ofO (some a) = .ok a := (rfl)
@[simp] theorem ofO_none {α : Type} : (ofO none : Res α) = .bad := (rfl)
section
variable {X : Cx} {C : Addr → Prop} {W : WX} {e e1 e2 e3 : Expr} {pos : Pos} {m m1 m2 m3 : Mode} {f f1 f2 f3 : E}

theorem TE.out {K : PySem.W.Frag} {σ : L2.St} {H : Hp} {Q : VK} {ρ : Env} {fp : Fp} (eo : EnvOk K C ρ σ H fp) (h : Out (f ρ) (fun p => ∀ v H', Same H H' → RepM K C fp m H' p v → Q v H') (XQ K W σ H)) : tE K C W m f σ H Q := ⟨ρ, fp, eo, h⟩

/-! ### from one mode to another -/
theorem ej_I (h : EJ X C W .E e f) : EJ X C W .I e f := pe_weak h fun σ H Q ⟨ρ, fp, eo, o⟩ => ⟨ρ, fp, eo, o.mono (fun p q v H' s r => q v H' s (Rep.toI r)) fun _ _ q => q⟩
theorem ej_B (h : EJ X C W m e f) : EJ X C W .B e f := pe_weak h fun σ H Q ⟨ρ, fp, eo, o⟩ => ⟨ρ, fp, eo, o.mono (fun p q v H' s r => q v H' s (RepM.toB r)) fun _ _ q => q⟩
def eCap (f : E) : E := fun ρ => f ρ >>= fun p => if immut p then .ok p else .bad
theorem ej_cap (h : EJ X C W m e f) : EJ X C W .E e (eCap f) := pe_weak h fun σ H Q ⟨ρ, fp, eo, o⟩ => by
  refine ⟨ρ, fp, eo, (Out.bind o).mono (fun p q v H' s r => ?_) fun _ _ q => q⟩
  by_cases hi : immut p = true
  · rw [if_pos hi] at q
    exact q v H' s (Rep.immut hi (RepM.toB r))
  · rw [if_neg hi] at q
    exact q.elim
def eOfO (f : O) : E := fun ρ => f ρ >>= fun t => .ok t.pv
theorem ej_O {f : O} (h : OJ X C W e f) : EJ X C W .E e (eOfO f) := pe_weak h fun σ H Q ⟨ρ, fp, eo, o⟩ => by
  refine ⟨ρ, fp, eo, (Out.bind o).mono (fun t q v H' Fn s hn hf r => q v H' s ?_) fun _ _ q => q⟩
  exact OTRep.free (fun a q => q.1) (fun a ha => eo.am_new (hf a ha)) r
def oOfE (f : E) : O := fun ρ => f ρ >>= fun p => .ok (.fz p)
theorem oj_E (h : EJ X C W .E e f) : OJ X C W e (oOfE f) := pe_weak h fun σ H Q ⟨ρ, fp, eo, o⟩ => by
  refine ⟨ρ, fp, eo, (Out.bind o).mono (fun p q v H' s r => q v H' [] s List.nodup_nil (fun _ h => nomatch h) ⟨rfl, Rep.sub (fun a z => ⟨z, fun y => nomatch y⟩) r⟩) fun _ _ q => q⟩

/-! ### names, constants -/
/-- its items can't be changed -/
def immutI : PV → Bool
  | .lst ps => immuts ps
  | p => immut p
def eVar (m : Mode) (i : Nat) : E := fun ρ => match ρ[i]? with
  | some (.val p) => .ok p
  | some (.bor p) => (match m with
    | .B => .ok p
    | .I => if immutI p then .ok p else .bad
    | .E => if immut p then .ok p else .bad)
  | some (.own t) => (match m, t with
    | .B, t => .ok t.pv
    | .I, .l ps => .ok (.lst ps)
    | .I, .d ps => .ok (.dic ps)
    | .I, .dt ps => .ok (.dit ps)
    | .I, .ins c fs => .ok (.ins c fs)
    | _, _ => .bad)
  | _ => .bad
theorem ej_var {i : Nat} {x : Str} (hN : X.N[i]? = some x) (hv : Vis X.env.scope x) (hd : (x == ("__debug__" : Str)) = false := by decide) (hcd : (x == ("__classdict__" : Str)) = false := by decide) : EJ X C W m (.Name x pos) (eVar m i) :=
  pe_weak (pe_var hN hv hd hcd) fun σ H Q ⟨ρ, fp, eo, o⟩ => by
    have hs := eo.slot i
    unfold eVar at o
    cases h : ρ[i]? with
    | none => rw [h] at o; exact o.elim
    | some s =>
      rw [h] at o
      have hs := hs s h
      cases s with
      | u => exact o.elim
      | val p =>
        obtain ⟨_, v, hv, r⟩ := hs
        refine ⟨v, hv, o v H (fun _ _ q => q) ?_⟩
        cases m with
        | E => exact r
        | I => exact Rep.toI r
        | B => exact Rep.any r
      | bor p =>
        obtain ⟨_, v, hv, r⟩ := hs
        cases m with
        | B => exact ⟨v, hv, o v H (fun _ _ q => q) (Rep.any r)⟩
        | E =>
          by_cases hi : immut p = true
          · simp only [if_pos hi] at o
            exact ⟨v, hv, o v H (fun _ _ q => q) (Rep.immut hi r)⟩
          · simp only [if_neg hi] at o; exact o.elim
        | I =>
          by_cases hi : immutI p = true
          · simp only [if_pos hi] at o
            refine ⟨v, hv, o v H (fun _ _ q => q) ?_⟩
            cases p with
            | lst ps => obtain ⟨a, xs, e, _, ha, rr⟩ := r; exact ⟨a, xs, e, ha, Reps.immut (by simpa [immutI] using hi) rr⟩
            | non => exact r
            | bl b => exact r
            | int b => exact r
            | str b => exact r
            | tup ps => exact Rep.immut (p := .tup ps) (A := fun a => ¬InF fp a) (by simpa [immutI] using hi) r
            | rol ps => exact Rep.immut (p := .rol ps) (A := fun a => ¬InF fp a) (by simpa [immutI] using hi) r
            | dic ps => simp [immutI, immut] at hi
            | dit ps => simp [immutI, immut] at hi
            | ins c ps => simp [immutI, immut] at hi
          · simp only [if_neg hi] at o; exact o.elim
      | own t =>
        obtain ⟨v, hv, r⟩ := hs
        cases m with
        | B => exact ⟨v, hv, o v H (fun _ _ q => q) (Rep.any (A := fun _ => True) (OTRep.free (A := Am C fp) (fun _ _ => trivial) (fun _ _ => trivial) r))⟩
        | E => cases t <;> exact o.elim
        | I =>
          cases t with
          | l ps => obtain ⟨a, xs, e, _, ha, rr⟩ := r; exact ⟨v, hv, o v H (fun _ _ q => q) ⟨a, xs, e, ha, rr⟩⟩
          | d ps => obtain ⟨a, xs, e, _, ha, rr⟩ := r; exact ⟨v, hv, o v H (fun _ _ q => q) ⟨a, xs, e, .inl ha, rr⟩⟩
          | dt ps => obtain ⟨a, xs, e, _, ha, rr⟩ := r; exact ⟨v, hv, o v H (fun _ _ q => q) ⟨a, xs, e, .inl ha, rr⟩⟩
          | ins c fs => obtain ⟨a, dx, xs, e, _, ha, rr⟩ := r; exact ⟨v, hv, o v H (fun _ _ q => q) ⟨a, dx, xs, e, ha, rr⟩⟩
          | fz p => exact o.elim
          | T ts => exact o.elim
          | L ts => exact o.elim
          | D ts => exact o.elim
          | I c ts => exact o.elim
          | P a ts => exact o.elim
          | M c ts => exact o.elim
def eC (p : PV) : E := fun _ => .ok p
/-- what is borne whatever the heap -/
def Atom (K : PySem.W.Frag) (p : PV) (v : V) : Prop := ∀ A H, Rep K A H p v
theorem atom_int {K : PySem.W.Frag} (i : Int) : Atom K (.int i) (.int i) := fun _ _ => rfl
theorem atom_bl {K : PySem.W.Frag} (i : Bool) : Atom K (.bl i) (.bl i) := fun _ _ => rfl
theorem atom_str {K : PySem.W.Frag} (x : Tx) : Atom K (.str x) (.str (mkS x)) := fun _ _ => rfl
theorem atom_non {K : PySem.W.Frag} : Atom K .non .non := fun _ _ => rfl
theorem Atom.rm {K : PySem.W.Frag} {p : PV} {v : V} (h : Atom K p v) {C : Addr → Prop} {fp : Fp} {m : Mode} {H : Hp} : RepM K C fp m H p v := by
  cases m with
  | E => exact h _ _
  | I => exact Rep.toI (h _ _)
  | B => exact h _ _
theorem ej_const {p : PV} {v : V} (h : PE X e (tC v)) (a : Atom X.K p v) : EJ X C W m e (eC p) := pe_weak h fun σ H Q ⟨ρ, fp, eo, o⟩ => o v H (fun _ _ q => q) a.rm
theorem ej_int {i : Int} {j : Nat} : EJ X C W m (.Constant (.int i) j pos) (eC (.int i)) := ej_const pe_int fun _ _ => rfl
theorem ej_bl {b : Bool} {j : Nat} : EJ X C W m (.Constant (.bool b) j pos) (eC (.bl b)) := ej_const pe_bl fun _ _ => rfl
theorem ej_non {j : Nat} : EJ X C W m (.Constant .none j pos) (eC .non) := ej_const pe_non fun _ _ => rfl
theorem ej_str {x : Tx} {z : Str} {j : Nat} (h : z = mkS x) : EJ X C W m (.Constant (.str z) j pos) (eC (.str x)) := ej_const pe_str fun _ _ => by rw [h]; rfl
/-- a whole number, a text of the top -/
theorem ej_gint {x : Str} {i : Int} (hg : Gl X x) (hm : ∃ t, X.mg x = some (.int i t)) (hd : (x == ("__debug__" : Str)) = false := by decide) : EJ X C W m (.Name x pos) (eC (.int i)) := by
  obtain ⟨t, hm⟩ := hm
  exact ej_const (pe_glob (v := .int i) hg hm ⟨t, rfl⟩ hd) fun _ _ => rfl
theorem ej_gstr {x : Str} {z : Tx} (hg : Gl X x) (hm : ∃ t, X.mg x = some (.str (mkS z) t)) (hd : (x == ("__debug__" : Str)) = false := by decide) : EJ X C W m (.Name x pos) (eC (.str z)) := by
  obtain ⟨t, hm⟩ := hm
  exact ej_const (pe_glob (v := .str (mkS z)) hg hm ⟨t, rfl⟩ hd) fun _ _ => rfl

/-! ### two in a row -/
theorem two {K : PySem.W.Frag} {σ : L2.St} {H : Hp} {fp : Fp} {ρ : Env} {α : Type} {k : PV → PV → Res α} {P : α → Prop} (eo : EnvOk K C ρ σ H fp)
    (o : Out (f1 ρ >>= fun x => f2 ρ >>= fun y => k x y) P (XQ K W σ H)) {R : V → V → Hp → Prop}
    (h : ∀ p q v u H2, Same H H2 → EnvOk K C ρ σ H2 fp → Out (k p q) P (XQ K W σ H) → RepM K C fp m1 H2 p v → RepM K C fp m2 H2 q u → R v u H2) :
    tE K C W m1 f1 σ H fun x H1 => tE K C W m2 f2 σ H1 fun y H2 => R x y H2 := by
  refine ⟨ρ, fp, eo, (Out.bind o).mono (fun p o1 v H1 s1 r1 => ?_) fun _ _ q => q⟩
  refine ⟨ρ, fp, eo.same s1, (Out.bind o1).mono (fun q o2 u H2 s2 r2 => ?_) fun _ _ q => q.later s1⟩
  exact h p q v u H2 (s1.trans s2) (eo.same (s1.trans s2)) o2 (r1.same s2) r2
theorem Out.ofO {α : Type} {o : Option α} {P : α → Prop} {E' : XF} (h : Out (Fz.ofO o) P E') : ∃ a, o = some a ∧ P a := by
  cases o with
  | none => exact h.elim
  | some a => exact ⟨a, rfl, h⟩

/-! ### a op b: whole numbers in, a whole number out -/
def gI (g : Int → Int → Option Int) : PV → PV → Option PV
  | .int i, .int j => (g i j).map .int
  | _, _ => none
def eBin (g : PV → PV → Option PV) (f1 f2 : E) : E := fun ρ => f1 ρ >>= fun x => f2 ρ >>= fun y => ofO (g x y)
theorem gI_some {g : Int → Int → Option Int} {p q z : PV} (h : gI g p q = some z) : ∃ i j k, p = .int i ∧ q = .int j ∧ g i j = some k ∧ z = .int k := by
  cases p <;> cases q <;> simp [gI] at h
  obtain ⟨k, h1, h2⟩ := h
  exact ⟨_, _, k, rfl, rfl, h1, h2.symm⟩
theorem ej_binI {op : Operator} {cnd : Int → Int → Prop} {g' : Int → Int → Int} {g : Int → Int → Option Int} (ho : OpR X (binaryOp op) (rI cnd fun i j => .int (g' i j))) (hg : ∀ i j k, g i j = some k → cnd i j ∧ k = g' i j)
    (h1 : EJ X C W m1 e1 f1) (h2 : EJ X C W m2 e2 f2) : EJ X C W m (.BinOp e1 op e2 pos) (eBin (gI g) f1 f2) :=
  pe_weak (pe_op ho h1 h2) fun σ H Q ⟨ρ, fp, eo, o⟩ => two (m1 := m1) (m2 := m2) eo o fun p q v u H2 s eo2 o2 r1 r2 => by
    obtain ⟨z, hz, hQ⟩ := Out.ofO o2
    obtain ⟨i, j, k, rfl, rfl, hk, rfl⟩ := gI_some hz
    obtain ⟨c, rfl⟩ := hg _ _ _ hk
    have e1 : v = .int i := RepM.toB r1
    have e2 : u = .int j := RepM.toB r2
    exact ⟨i, j, e1, e2, c, hQ _ H2 s (atom_int _).rm⟩
def gSub : PV → PV → Option PV := gI fun i j => some (i - j)
def gMod : PV → PV → Option PV := gI fun i j => if 0 < j then some (i % j) else none
def gDiv : PV → PV → Option PV := gI fun i j => if 0 < j ∧ j < 1073741824 then some (i / j) else none
def gPow : PV → PV → Option PV := gI fun i j => if 0 ≤ j ∧ j ≤ 1000000 ∧ i.natAbs < 2 ^ 64 then some (i ^ j.toNat) else none
theorem op_sub' : OpR X (binaryOp .Sub) (rI (fun _ _ => True) fun i j => .int (i - j)) := fun pins s σ H x y v u Q I rx ry ⟨i, j, e1, e2, _, q⟩ => op_sub pins s σ H x y v u Q I rx ry ⟨i, j, e1, e2, q⟩
theorem ej_sub (h1 : EJ X C W m1 e1 f1) (h2 : EJ X C W m2 e2 f2) : EJ X C W m (.BinOp e1 .Sub e2 pos) (eBin gSub f1 f2) :=
  ej_binI op_sub' (fun i j k h => ⟨trivial, (Option.some.inj h).symm⟩) h1 h2
theorem ej_mod (h1 : EJ X C W m1 e1 f1) (h2 : EJ X C W m2 e2 f2) : EJ X C W m (.BinOp e1 .Mod e2 pos) (eBin gMod f1 f2) :=
  ej_binI op_mod (fun i j k h => by
    by_cases c : 0 < j
    · simp only [if_pos c, Option.some.injEq] at h; exact ⟨c, h.symm⟩
    · simp [if_neg c] at h) h1 h2
theorem ej_fdiv (h1 : EJ X C W m1 e1 f1) (h2 : EJ X C W m2 e2 f2) : EJ X C W m (.BinOp e1 .FloorDiv e2 pos) (eBin gDiv f1 f2) :=
  ej_binI op_fdiv (fun i j k h => by
    by_cases c : 0 < j ∧ j < 1073741824
    · simp only [if_pos c, Option.some.injEq] at h; exact ⟨c, h.symm⟩
    · simp [if_neg c] at h) h1 h2
theorem ej_pow (h1 : EJ X C W m1 e1 f1) (h2 : EJ X C W m2 e2 f2) : EJ X C W m (.BinOp e1 .Pow e2 pos) (eBin gPow f1 f2) :=
  ej_binI op_pow (fun i j k h => by
    by_cases c : 0 ≤ j ∧ j ≤ 1000000 ∧ i.natAbs < 2 ^ 64
    · simp only [if_pos c, Option.some.injEq] at h; exact ⟨c, h.symm⟩
    · simp [if_neg c] at h) h1 h2
def eUn (g : PV → Option PV) (f : E) : E := fun ρ => f ρ >>= fun x => ofO (g x)
def gNeg : PV → Option PV
  | .int i => some (.int (-i))
  | _ => none
theorem ej_neg (h : EJ X C W m1 e f) : EJ X C W m (.UnaryOp .USub e pos) (eUn gNeg f) := pe_weak (pe_un un_neg h) fun σ H Q ⟨ρ, fp, eo, o⟩ => by
  refine ⟨ρ, fp, eo, (Out.bind o).mono (fun p o1 v H1 s1 r1 => ?_) fun _ _ q => q⟩
  obtain ⟨z, hz, hQ⟩ := Out.ofO o1
  cases p <;> simp only [gNeg, Option.some.injEq, reduceCtorEq] at hz
  subst hz
  exact ⟨_, RepM.toB r1, hQ _ H1 s1 (atom_int _).rm⟩

/-! ### comparisons -/
abbrev Cmp := PV → PV → Option Bool
/-- the rule's reading holds where g answers -/
def CmpOk (K : PySem.W.Frag) (r : R2) (g : Cmp) : Prop := ∀ p q b H v u Q, g p q = some b → Rep K (fun _ => True) H p v → Rep K (fun _ => True) H q u → Q (.bl b) H → r v u H Q
def eCmp (g : Cmp) (f1 f2 : E) : E := fun ρ => f1 ρ >>= fun x => f2 ρ >>= fun y => ofO (g x y) >>= fun b => .ok (.bl b)
def tCmp (g : Cmp) (f1 f2 : E) : T := fun ρ => f1 ρ >>= fun x => f2 ρ >>= fun y => ofO (g x y)
variable {op : CmpOp} {r : R2} {g : Cmp}
theorem ej_cmp (ho : OpR X (compareOp op) r) (hg : CmpOk X.K r g) (h1 : EJ X C W m1 e1 f1) (h2 : EJ X C W m2 e2 f2) (hm : behindInMarks op e2 = false) : EJ X C W m (.Compare e1 [op] [e2] pos) (eCmp g f1 f2) :=
  pe_weak (pe_cmpR ho h1 h2 hm) fun σ H Q ⟨ρ, fp, eo, o⟩ => two (m1 := m1) (m2 := m2) eo o fun p q v u H2 s eo2 o2 r1 r2 => by
    obtain ⟨z, hz, hQ⟩ := Out.ofO (Out.bind o2)
    exact hg p q z H2 v u Q hz (RepM.toB r1) (RepM.toB r2) (hQ _ H2 s (atom_bl _).rm)
theorem tj_cmp (ho : OpR X (compareOp op) r) (hg : CmpOk X.K r g) (h1 : EJ X C W m1 e1 f1) (h2 : EJ X C W m2 e2 f2) (hm : behindInMarks op e2 = false) : TJ X C W (.Compare e1 [op] [e2] pos) (tCmp g f1 f2) :=
  pt_weak (pt_cmpR ho h1 h2 hm) fun σ H Q ⟨ρ, fp, eo, o⟩ => two (m1 := m1) (m2 := m2) eo o fun p q v u H2 s eo2 o2 r1 r2 => by
    obtain ⟨z, hz, hQ⟩ := Out.ofO o2
    exact hg p q z H2 v u _ hz (RepM.toB r1) (RepM.toB r2) ⟨z, rfl, hQ H2 s⟩
/-- a op1 b op2 c, as a test and as a value -/
def tChn (g g' : Cmp) (f1 f2 f3 : E) : T := fun ρ => f1 ρ >>= fun x => f2 ρ >>= fun y => ofO (g x y) >>= fun b => if b = true then f3 ρ >>= fun z => ofO (g' y z) else .ok false
theorem tj_chain {op' : CmpOp} {r' : R2} {g' : Cmp} (ho : OpR X (compareOp op) r) (hg : CmpOk X.K r g) (ho' : OpR X (compareOp op') r') (hg' : CmpOk X.K r' g') (h1 : EJ X C W m1 e1 f1) (h2 : EJ X C W m2 e2 f2) (h3 : EJ X C W m3 e3 f3)
    (hm : lastMarks [op, op'] [e2, e3] = false := by with_unfolding_all rfl) : TJ X C W (.Compare e1 [op, op'] [e2, e3] pos) (tChn g g' f1 f2 f3) :=
  pt_weak (pt_chain ho ho' h1 h2 h3 hm) fun σ H Q ⟨ρ, fp, eo, o⟩ => two (m1 := m1) (m2 := m2) eo o fun p q v u H2 s eo2 o2 r1 r2 => by
    obtain ⟨z, hz, hQ⟩ := Out.ofO (Out.bind o2)
    refine hg p q z H2 v u _ hz (RepM.toB r1) (RepM.toB r2) ⟨z, rfl, ?_⟩
    cases z with
    | false => exact ⟨false, rfl, hQ H2 s⟩
    | true =>
      simp only [if_true] at hQ ⊢
      refine ⟨ρ, fp, eo2, (Out.bind hQ).mono (fun p3 o3 w H3 s3 r3 => ?_) fun _ _ q => q.later s⟩
      obtain ⟨z2, hz2, hQ2⟩ := Out.ofO o3
      exact hg' q p3 z2 H3 u w _ hz2 (RepM.toB (r2.same s3)) (RepM.toB r3) ⟨z2, rfl, hQ2 H3 (s.trans s3)⟩

/-! ### and, or, not, if -/
def WJ (X : Cx) (C : Addr → Prop) (W : WX) (e : Expr) (f : T) : Prop := PW X e (tT X.K C W f)
variable {t1 t2 : T} {rest : List Expr}
def tAndF (t1 t2 : T) : T := fun ρ => t1 ρ >>= fun b => if b = true then t2 ρ else .ok false
def tOrF (t1 t2 : T) : T := fun ρ => t1 ρ >>= fun b => if b = true then .ok true else t2 ρ
def tNotF (t1 : T) : T := fun ρ => t1 ρ >>= fun b => .ok (!b)
theorem wj_and1 (h : TJ X C W e t1) : WJ X C W (.BoolOp .And [e] pos) t1 := pw_and1 h
theorem wj_or1 (h : TJ X C W e t1) : WJ X C W (.BoolOp .Or [e] pos) t1 := pw_or1 h
theorem wj_and (h : TJ X C W e1 t1) (h2 : WJ X C W (.BoolOp .And (e2 :: rest) pos) t2) : WJ X C W (.BoolOp .And (e1 :: e2 :: rest) pos) (tAndF t1 t2) := pw_weak (pw_and h h2) fun σ H Q ⟨ρ, fp, eo, o⟩ => by
  refine ⟨ρ, fp, eo, (Out.bind o).mono (fun b o1 H1 s1 => ?_) fun _ _ q => q⟩
  cases b with
  | true => exact ⟨ρ, fp, eo.same s1, o1.mono (fun b q H2 s2 => q H2 (s1.trans s2)) fun _ _ q => q.later s1⟩
  | false => exact o1 H1 s1
theorem wj_or (h : TJ X C W e1 t1) (h2 : WJ X C W (.BoolOp .Or (e2 :: rest) pos) t2) : WJ X C W (.BoolOp .Or (e1 :: e2 :: rest) pos) (tOrF t1 t2) := pw_weak (pw_or h h2) fun σ H Q ⟨ρ, fp, eo, o⟩ => by
  refine ⟨ρ, fp, eo, (Out.bind o).mono (fun b o1 H1 s1 => ?_) fun _ _ q => q⟩
  cases b with
  | true => exact o1 H1 s1
  | false => exact ⟨ρ, fp, eo.same s1, o1.mono (fun b q H2 s2 => q H2 (s1.trans s2)) fun _ _ q => q.later s1⟩
theorem wj_tj (h : WJ X C W e t1) : TJ X C W e t1 := PW.pt h
theorem tj_not (h : TJ X C W e t1) : TJ X C W (.UnaryOp .Not e pos) (tNotF t1) := pt_weak (pt_not h) fun σ H Q ⟨ρ, fp, eo, o⟩ => ⟨ρ, fp, eo, (Out.bind o).mono (fun b q H1 s1 => q H1 s1) fun _ _ q => q⟩
/-- .. as values: all but the last are True or False -/
def bOf : PV → Res Bool
  | .bl b => .ok b
  | _ => .bad
def eAnd (f1 f2 : E) : E := fun ρ => f1 ρ >>= fun x => bOf x >>= fun b => if b = true then f2 ρ else .ok (.bl false)
def eOr (f1 f2 : E) : E := fun ρ => f1 ρ >>= fun x => bOf x >>= fun b => if b = true then .ok (.bl true) else f2 ρ
def eNot (f1 : E) : E := fun ρ => f1 ρ >>= fun x => bOf x >>= fun b => .ok (.bl (!b))
theorem ej_one {o : BoolOp} (h : EJ X C W m e f) : EJ X C W m (.BoolOp o [e] pos) f := pe_one h
theorem Out.bOf {p : PV} {α : Type} {k : Bool → Res α} {P : α → Prop} {E' : XF} (h : Out (Fz.bOf p >>= k) P E') : ∃ b, p = .bl b ∧ Out (k b) P E' := by
  cases p <;> first | exact ⟨_, rfl, h⟩ | exact h.elim
theorem ej_and (h1 : EJ X C W m1 e1 f1) (h2 : EJ X C W m (.BoolOp .And (e2 :: rest) pos) f2) : EJ X C W m (.BoolOp .And (e1 :: e2 :: rest) pos) (eAnd f1 f2) := pe_weak (pe_and h1 h2) fun σ H Q ⟨ρ, fp, eo, o⟩ => by
  refine ⟨ρ, fp, eo, (Out.bind o).mono (fun p o1 v H1 s1 r1 => ?_) fun _ _ q => q⟩
  obtain ⟨b, rfl, o2⟩ := Out.bOf o1
  refine ⟨b, RepM.toB r1, ?_⟩
  cases b with
  | true => exact ⟨ρ, fp, eo.same s1, o2.mono (fun b q v H2 s2 => q v H2 (s1.trans s2)) fun _ _ q => q.later s1⟩
  | false => exact o2 _ H1 s1 (atom_bl _).rm
theorem ej_or (h1 : EJ X C W m1 e1 f1) (h2 : EJ X C W m (.BoolOp .Or (e2 :: rest) pos) f2) : EJ X C W m (.BoolOp .Or (e1 :: e2 :: rest) pos) (eOr f1 f2) := pe_weak (pe_or h1 h2) fun σ H Q ⟨ρ, fp, eo, o⟩ => by
  refine ⟨ρ, fp, eo, (Out.bind o).mono (fun p o1 v H1 s1 r1 => ?_) fun _ _ q => q⟩
  obtain ⟨b, rfl, o2⟩ := Out.bOf o1
  refine ⟨b, RepM.toB r1, ?_⟩
  cases b with
  | true => exact o2 _ H1 s1 (atom_bl _).rm
  | false => exact ⟨ρ, fp, eo.same s1, o2.mono (fun b q v H2 s2 => q v H2 (s1.trans s2)) fun _ _ q => q.later s1⟩
theorem ej_not (h1 : EJ X C W m1 e1 f1) : EJ X C W m (.UnaryOp .Not e1 pos) (eNot f1) := pe_weak (pe_not h1) fun σ H Q ⟨ρ, fp, eo, o⟩ => by
  refine ⟨ρ, fp, eo, (Out.bind o).mono (fun p o1 v H1 s1 r1 => ?_) fun _ _ q => q⟩
  obtain ⟨b, rfl, o2⟩ := Out.bOf o1
  exact ⟨b, RepM.toB r1, o2 _ H1 s1 (atom_bl _).rm⟩
def eIf (t : T) (f1 f2 : E) : E := fun ρ => t ρ >>= fun b => if b = true then f1 ρ else f2 ρ
theorem ej_if (h : TJ X C W e t1) (h1 : EJ X C W m e1 f1) (h2 : EJ X C W m e2 f2) : EJ X C W m (.IfExp e e1 e2 pos) (eIf t1 f1 f2) := pe_weak (pe_ifExp h h1 h2) fun σ H Q ⟨ρ, fp, eo, o⟩ => by
  refine ⟨ρ, fp, eo, (Out.bind o).mono (fun b o1 H1 s1 => ?_) fun _ _ q => q⟩
  cases b with
  | true => exact ⟨ρ, fp, eo.same s1, o1.mono (fun b q v H2 s2 => q v H2 (s1.trans s2)) fun _ _ q => q.later s1⟩
  | false => exact ⟨ρ, fp, eo.same s1, o1.mono (fun b q v H2 s2 => q v H2 (s1.trans s2)) fun _ _ q => q.later s1⟩
def oIf (t : T) (f1 f2 : O) : O := fun ρ => t ρ >>= fun b => if b = true then f1 ρ else f2 ρ
theorem OJ.later {K : PySem.W.Frag} {f : O} {σ : L2.St} {H H1 : Hp} {Q : VK} {ρ : Env} {fp : Fp} (eo : EnvOk K C ρ σ H fp) (s1 : Same H H1)
    (o : Out (f ρ) (fun t => ∀ v H' Fn, Same H H' → Fn.Nodup → (∀ a ∈ Fn, H a = none) → OTRep K (fun a => Am C fp a ∧ a ∉ Fn) H' t v Fn → Q v H') (XQ K W σ H)) : tO K C W f σ H1 Q :=
  ⟨ρ, fp, eo.same s1, o.mono (fun t q v H2 Fn s2 hn hf r => q v H2 Fn (s1.trans s2) hn (fun a ha => by
    cases z : H a with
    | none => rfl
    | some o => have := hf a ha; rw [s1 a o z] at this; cases this) r) fun _ _ q => q.later s1⟩
theorem oj_if {f1 f2 : O} (h : TJ X C W e t1) (h1 : OJ X C W e1 f1) (h2 : OJ X C W e2 f2) : OJ X C W (.IfExp e e1 e2 pos) (oIf t1 f1 f2) := pe_weak (pe_ifExp h h1 h2) fun σ H Q ⟨ρ, fp, eo, o⟩ => by
  refine ⟨ρ, fp, eo, (Out.bind o).mono (fun b o1 H1 s1 => ?_) fun _ _ q => q⟩
  cases b with
  | true => exact OJ.later eo s1 o1
  | false => exact OJ.later eo s1 o1
/-- the truth of a value -/
def truth : PV → Res Bool
  | .non => .ok false
  | .bl b => .ok b
  | .int i => .ok (i != 0)
  | .str x => if x.length ≤ sizeLine then .ok (!x.isEmpty) else .bad
  | .lst ps => .ok (!ps.isEmpty)
  | .rol ps => .ok (!ps.isEmpty)
  | .tup ps => .ok (!ps.isEmpty)
  | _ => .bad
def tOfE (f : E) : T := fun ρ => f ρ >>= truth
theorem isEmpty_reps {K : PySem.W.Frag} {A : Addr → Prop} {H : Hp} {ps : List PV} {vs : List V} (r : Reps K A H ps vs) : vs.isEmpty = ps.isEmpty := by
  cases ps with
  | nil => rw [show vs = [] from r]; rfl
  | cons p ps => obtain ⟨x, t, rfl, _⟩ := r; rfl
theorem tru_of {K : PySem.W.Frag} {H : Hp} {p : PV} {v : V} {b : Bool} (h : truth p = .ok b) (r : Rep K (fun _ => True) H p v) : TruV K v H b := by
  cases p with
  | non => rw [show v = .non from r]; exact (Res.ok.inj h).symm
  | bl c => rw [show v = .bl c from r]; exact (Res.ok.inj h).symm
  | int c => rw [show v = .int c from r]; exact (Res.ok.inj h).symm
  | str x =>
    rw [show v = .str (mkS x) from r]
    simp only [truth] at h
    split at h
    · rename_i hl
      refine ⟨by rw [mkS_length]; exact hl, ?_⟩
      rw [mkS_length, ← Res.ok.inj h]
      cases x <;> simp <;> omega
    · cases h
  | lst ps => obtain ⟨a, xs, rfl, _, l, rr⟩ := r; exact .inl ⟨xs, SqL.of l, by rw [isEmpty_reps rr]; exact (Res.ok.inj h).symm⟩
  | rol ps => obtain ⟨a, xs, rfl, l, rr⟩ := r; exact .inl ⟨xs, l.sq, by rw [isEmpty_reps rr]; exact (Res.ok.inj h).symm⟩
  | tup ps => obtain ⟨a, xs, rfl, l, rr⟩ := r; exact .inr (.inl ⟨xs, SqT.of l, by rw [isEmpty_reps rr]; exact (Res.ok.inj h).symm⟩)
  | dic ps => simp [truth] at h
  | dit ps => simp [truth] at h
  | ins c ps => simp [truth] at h
theorem truth_noexc {p : PV} {c : String} {fs : Option (List (String × PV))} : truth p ≠ .exc c fs := by
  cases p <;> simp only [truth] <;> first | (intro h; cases h; done) | (split <;> intro h <;> cases h)
theorem tj_val (h : EJ X C W m e f) (he : ∀ whole, isTrue e X.env whole = (do let v ← whole; standAt e.pos; holding [v] (truthy v)) := by intro _; rfl) : TJ X C W e (tOfE f) := pt_weak (pt_truth h he) fun σ H Q ⟨ρ, fp, eo, o⟩ => by
  refine ⟨ρ, fp, eo, (Out.bind o).mono (fun p o1 v H1 s1 r1 => ?_) fun _ _ q => q⟩
  cases z : truth p with
  | ok b => rw [z] at o1; exact ⟨b, tru_of z (RepM.toB r1), o1 H1 s1⟩
  | exc c fs => exact (truth_noexc z).elim
  | bad => rw [z] at o1; exact o1.elim
end
end Fz
end
section
/-! FwE: equality, in, +, *, subscripts, displays, built-in calls. -/
namespace Fz
open PySem PySem.Spec PyProof.Rows L2

/-! ### equality of data -/
mutual
def isData : PV → Bool
  | .non => true | .bl _ => true | .int _ => true | .str _ => true
  | .tup ps => isDatas ps | .lst ps => isDatas ps | .rol ps => isDatas ps
  | .dic _ => false | .dit _ => false | .ins _ _ => false
def isDatas : List PV → Bool
  | [] => true
  | p :: ps => isData p && isDatas ps
end
mutual
def dep : PV → Nat
  | .tup ps => deps ps + 1 | .lst ps => deps ps + 1 | .rol ps => deps ps + 1
  | _ => 0
def deps : List PV → Nat
  | [] => 0
  | p :: ps => max (dep p) (deps ps)
end
mutual
def pvEq : PV → PV → Bool
  | .non, .non => true
  | .bl a, .bl b => a == b
  | .bl a, .int j => (if a then 1 else 0) == j
  | .int i, .bl b => i == (if b then 1 else 0)
  | .int i, .int j => i == j
  | .str x, .str y => x == y
  | .lst xs, .lst ys => pvEqs xs ys
  | .rol xs, .lst ys => pvEqs xs ys
  | .lst xs, .rol ys => pvEqs xs ys
  | .rol xs, .rol ys => pvEqs xs ys
  | .tup xs, .tup ys => pvEqs xs ys
  | _, _ => false
def pvEqs : List PV → List PV → Bool
  | [], [] => true
  | x :: xs, y :: ys => pvEq x y && pvEqs xs ys
  | _, _ => false
end
mutual
def toD : PV → PyData
  | .non => .none | .bl b => .bool b | .int i => .int i | .str x => .str (mkS x)
  | .tup ps => .tuple (toDs ps) | .lst ps => .list (toDs ps) | .rol ps => .list (toDs ps)
  | .dic _ => .dict [] | .dit _ => .dict [] | .ins _ _ => .dict []
def toDs : List PV → List PyData
  | [] => []
  | p :: ps => toD p :: toDs ps
end
mutual
theorem toD_lay : ∀ p : PV, (toD p).canLay0 = isData p
  | .non => rfl | .bl _ => rfl | .int _ => rfl
  | .str x => by simp only [toD, PyData.canLay0, isData]; exact mkS_ok x
  | .tup ps => by simp only [toD, PyData.canLay0, isData]; exact toDs_lay ps
  | .lst ps => by simp only [toD, PyData.canLay0, isData]; exact toDs_lay ps
  | .rol ps => by simp only [toD, PyData.canLay0, isData]; exact toDs_lay ps
  | .dic _ => rfl | .dit _ => rfl | .ins _ _ => rfl
theorem toDs_lay : ∀ ps : List PV, PyData.canLayAll0 (toDs ps) = isDatas ps
  | [] => rfl
  | p :: ps => by simp only [toDs, PyData.canLayAll0, isDatas, toD_lay p, toDs_lay ps]
end
mutual
theorem toD_dep : ∀ p : PV, isData p = true → (toD p).depth = dep p
  | .non, _ => rfl | .bl _, _ => rfl | .int _, _ => rfl | .str x, _ => rfl
  | .tup ps, h => by simp only [toD, PyData.depth, dep]; rw [toDs_dep ps (by simpa [isData] using h)]
  | .lst ps, h => by simp only [toD, PyData.depth, dep]; rw [toDs_dep ps (by simpa [isData] using h)]
  | .rol ps, h => by simp only [toD, PyData.depth, dep]; rw [toDs_dep ps (by simpa [isData] using h)]
  | .dic _, h => by simp [isData] at h
  | .dit _, h => by simp [isData] at h
  | .ins _ _, h => by simp [isData] at h
theorem toDs_dep : ∀ ps : List PV, isDatas ps = true → PyData.depthAll (toDs ps) = deps ps
  | [], _ => rfl
  | p :: ps, h => by
    simp only [isDatas, Bool.and_eq_true] at h
    simp only [toDs, PyData.depthAll, deps, toD_dep p h.1, toDs_dep ps h.2]
end
theorem str_beq (x y : Tx) : (mkS x == mkS y) = (x == y) := by
  by_cases h : x = y
  · subst h; simp
  · rw [beq_eq_false_iff_ne.mpr h]; exact beq_eq_false_iff_ne.mpr fun e => h (mkS_inj e)
mutual
theorem toD_eqv : ∀ (p q : PV), isData p = true → isData q = true → PyData.eqv (toD p) (toD q) = pvEq p q := fun p q hp hq => by
  cases p with
  | dic _ => simp [isData] at hp
  | dit _ => simp [isData] at hp
  | ins _ _ => simp [isData] at hp
  | str x =>
    cases q <;> simp only [toD, PyData.eqv, pvEq]
    exact str_beq _ _
  | tup ps =>
    cases q <;> simp only [toD, PyData.eqv, pvEq]
    exact toDs_eqv ps _ (by simpa [isData] using hp) (by simpa [isData] using hq)
  | lst ps =>
    cases q <;> simp only [toD, PyData.eqv, pvEq]
    · exact toDs_eqv ps _ (by simpa [isData] using hp) (by simpa [isData] using hq)
    · exact toDs_eqv ps _ (by simpa [isData] using hp) (by simpa [isData] using hq)
  | rol ps =>
    cases q <;> simp only [toD, PyData.eqv, pvEq]
    · exact toDs_eqv ps _ (by simpa [isData] using hp) (by simpa [isData] using hq)
    · exact toDs_eqv ps _ (by simpa [isData] using hp) (by simpa [isData] using hq)
  | non => cases q <;> simp only [toD, PyData.eqv, pvEq]
  | bl b => cases q <;> simp only [toD, PyData.eqv, pvEq]
  | int b => cases q <;> simp only [toD, PyData.eqv, pvEq]
theorem toDs_eqv : ∀ (ps qs : List PV), isDatas ps = true → isDatas qs = true → PyData.eqvAll (toDs ps) (toDs qs) = pvEqs ps qs
  | [], [], _, _ => rfl
  | [], _ :: _, _, _ => rfl
  | _ :: _, [], _, _ => rfl
  | p :: ps, q :: qs, h1, h2 => by
    simp only [isDatas, Bool.and_eq_true] at h1 h2
    simp only [toDs, PyData.eqvAll, pvEqs, toD_eqv p q h1.1 h2.1, toDs_eqv ps qs h1.2 h2.2]
end
def eqOk (p : PV) : Bool := isData p && decide (dep p ≤ 64)
theorem shaped_of {p : PV} (h : eqOk p = true) : SeqAt.shaped (toD p) = true := by
  simp only [eqOk, Bool.and_eq_true, decide_eq_true_eq] at h
  simp only [SeqAt.shaped, Bool.and_eq_true, decide_eq_true_eq, toD_lay, toD_dep p h.1]
  exact h
theorem data_of {p : PV} (h : eqOk p = true) : isData p = true := (Bool.and_eq_true_iff.mp h).1
section
variable {K : PySem.W.Frag} {A : Addr → Prop} {H : Hp}
mutual
theorem Rep.dp : ∀ {p : PV} {v : V}, isData p = true → Rep K A H p v → Dp K H v (toD p)
  | .non, _, _, h => by rw [show _ = V.non from h]; exact .non
  | .bl b, _, _, h => by rw [show _ = V.bl b from h]; exact .bl b
  | .int b, _, _, h => by rw [show _ = V.int b from h]; exact .int b
  | .str b, _, _, h => by rw [show _ = V.str (mkS b) from h]; exact .str _
  | .tup ps, _, d, h => by
    obtain ⟨a, xs, rfl, hs, r⟩ := h
    exact .tup (SqT.of hs) (Reps.dp (by simpa [isData] using d) r)
  | .lst ps, _, d, h => by
    obtain ⟨a, xs, rfl, _, hs, r⟩ := h
    exact .lst (SqL.of hs) (Reps.dp (by simpa [isData] using d) r)
  | .rol ps, _, d, h => by
    obtain ⟨a, xs, rfl, hs, r⟩ := h
    exact .lst hs.sq (Reps.dp (by simpa [isData] using d) r)
  | .dic _, _, d, _ => by simp [isData] at d
  | .dit _, _, d, _ => by simp [isData] at d
  | .ins _ _, _, d, _ => by simp [isData] at d
theorem Reps.dp : ∀ {ps : List PV} {vs : List V}, isDatas ps = true → Reps K A H ps vs → DpAll K H vs (toDs ps)
  | [], _, _, h => by rw [show _ = [] from h]; exact .nil
  | p :: ps, _, d, h => by
    obtain ⟨x, r, rfl, h1, h2⟩ := h
    simp only [isDatas, Bool.and_eq_true] at d
    exact .cons (Rep.dp d.1 h1) (Reps.dp d.2 h2)
end
end
def gEq : Cmp := fun p q => if eqOk p && eqOk q then some (pvEq p q) else none
def gNe : Cmp := fun p q => if eqOk p && eqOk q then some (!pvEq p q) else none
/-- room for what compares deeply -/
def Hu (X : Cx) : Prop := X.A.units + 150 < cLine
section
variable {X : Cx}
theorem Hu.u64 (h : Hu X) : X.A.units + 64 < cLine := by have : X.A.units + 150 < cLine := h; omega
theorem Hu.u65 (h : Hu X) : X.A.units + 65 < cLine := by have : X.A.units + 150 < cLine := h; omega
theorem Hu.u1 (h : Hu X) : X.A.units + 1 < cLine := by have : X.A.units + 150 < cLine := h; omega
theorem Hu.u0 (h : Hu X) : X.A.units < cLine := by have : X.A.units + 150 < cLine := h; omega
theorem cmp_eq : CmpOk X.K (rEqD X.K) gEq := fun p q b H v u Q hg r1 r2 hQ => by
  unfold gEq at hg
  split at hg
  · rename_i h
    simp only [Bool.and_eq_true] at h
    refine ⟨toD p, toD q, r1.dp (data_of h.1), r2.dp (data_of h.2), shaped_of h.1, shaped_of h.2, ?_⟩
    rw [toD_eqv p q (data_of h.1) (data_of h.2), Option.some.inj hg]
    exact hQ
  · cases hg
theorem cmp_ne : CmpOk X.K (rNeD X.K) gNe := fun p q b H v u Q hg r1 r2 hQ => by
  unfold gNe at hg
  split at hg
  · rename_i h
    simp only [Bool.and_eq_true] at h
    refine ⟨toD p, toD q, r1.dp (data_of h.1), r2.dp (data_of h.2), shaped_of h.1, shaped_of h.2, ?_⟩
    rw [toD_eqv p q (data_of h.1) (data_of h.2), Option.some.inj hg]
    exact hQ
  · cases hg
/-! ### is None -/
def isNonP : PV → Bool
  | .non => true
  | _ => false
def gIsN : Cmp := fun p q => match q with
  | .non => some (isNonP p)
  | _ => none
def gNotN : Cmp := fun p q => match q with
  | .non => some (!isNonP p)
  | _ => none
theorem rep_non {K : PySem.W.Frag} {A : Addr → Prop} {H : Hp} {p : PV} {v : V} (r : Rep K A H p v) : decide (v = .non) = isNonP p := by
  cases p with
  | non => rw [show v = .non from r]; rfl
  | bl b => rw [show v = .bl b from r]; rfl
  | int b => rw [show v = .int b from r]; rfl
  | str b => rw [show v = .str (mkS b) from r]; rfl
  | tup ps => obtain ⟨a, xs, rfl, _⟩ := r; rfl
  | lst ps => obtain ⟨a, xs, rfl, _⟩ := r; rfl
  | rol ps => obtain ⟨a, xs, rfl, _⟩ := r; rfl
  | dic ps => obtain ⟨a, xs, rfl, _⟩ := r; rfl
  | dit ps => obtain ⟨a, xs, rfl, _⟩ := r; rfl
  | ins c ps => obtain ⟨a, dx, xs, rfl, _⟩ := r; rfl
theorem cmp_isN : CmpOk X.K (fun x y H Q => y = .non ∧ Q (.bl (decide (x = .non))) H) gIsN := fun p q b H v u Q hg r1 r2 hQ => by
  cases q <;> simp only [gIsN, Option.some.injEq, reduceCtorEq] at hg
  exact ⟨r2, by rw [rep_non r1, hg]; exact hQ⟩
theorem cmp_notN : CmpOk X.K (fun x y H Q => y = .non ∧ Q (.bl (!decide (x = .non))) H) gNotN := fun p q b H v u Q hg r1 r2 hQ => by
  cases q <;> simp only [gNotN, Option.some.injEq, reduceCtorEq] at hg
  exact ⟨r2, by rw [rep_non r1, hg]; exact hQ⟩
/-! ### order -/
def txLt (x y : Tx) : Bool := decide (x.map Fin.val < y.map Fin.val)
def gOrd (fi : Int → Int → Bool) (fs : Tx → Tx → Bool) : Cmp := fun p q => match p, q with
  | .int i, .int j => some (fi i j)
  | .str x, .str y => some (fs x y)
  | _, _ => none
def rOrd (fi : Int → Int → Bool) (fs : List Nat → List Nat → Bool) : R2 := fun x y H Q => rI0 (fun i j => .bl (fi i j)) x y H Q ∨ ∃ i j, x = .str i ∧ y = .str j ∧ Q (.bl (fs i.cps.toList j.cps.toList)) H
theorem cmp_ord {fi : Int → Int → Bool} {fs : Tx → Tx → Bool} {fs' : List Nat → List Nat → Bool} (h : ∀ x y, fs' (x.map Fin.val) (y.map Fin.val) = fs x y) : CmpOk X.K (rOrd fi fs') (gOrd fi fs) := fun p q b H v u Q hg r1 r2 hQ => by
  cases p <;> cases q <;> simp only [gOrd, Option.some.injEq, reduceCtorEq] at hg
  · subst hg; exact .inl ⟨_, _, r1, r2, hQ⟩
  · subst hg
    refine .inr ⟨_, _, r1, r2, ?_⟩
    rw [mkS_cps, mkS_cps, h]
    exact hQ
abbrev gLt : Cmp := gOrd (fun i j => decide (i < j)) txLt
abbrev gGt : Cmp := gOrd (fun i j => decide (j < i)) fun x y => txLt y x
abbrev gLe : Cmp := gOrd (fun i j => decide (i ≤ j)) fun x y => !txLt y x
abbrev gGe : Cmp := gOrd (fun i j => decide (j ≤ i)) fun x y => !txLt x y

theorem opr_lt : OpR X (compareOp .Lt) (rOrd (fun i j => decide (i < j)) fun x y => decide (x < y)) := OpR.or op_lt op_lt_str
theorem opr_gt : OpR X (compareOp .Gt) (rOrd (fun i j => decide (j < i)) fun x y => decide (y < x)) := OpR.or op_gt op_gt_str
theorem opr_le : OpR X (compareOp .LtE) (rOrd (fun i j => decide (i ≤ j)) fun x y => !decide (y < x)) := OpR.or op_le op_le_str
theorem opr_ge : OpR X (compareOp .GtE) (rOrd (fun i j => decide (j ≤ i)) fun x y => !decide (x < y)) := OpR.or op_ge op_ge_str
theorem cmp_lt : CmpOk X.K (rOrd (fun i j => decide (i < j)) fun x y => decide (x < y)) gLt := cmp_ord fun _ _ => rfl
theorem cmp_gt : CmpOk X.K (rOrd (fun i j => decide (j < i)) fun x y => decide (y < x)) gGt := cmp_ord fun _ _ => rfl
theorem cmp_le : CmpOk X.K (rOrd (fun i j => decide (i ≤ j)) fun x y => !decide (y < x)) gLe := cmp_ord fun _ _ => rfl
theorem cmp_ge : CmpOk X.K (rOrd (fun i j => decide (j ≤ i)) fun x y => !decide (x < y)) gGe := cmp_ord fun _ _ => rfl

/-! ### in -/
def keyOf : PV → Option K1
  | .int i => some (.inl i)
  | .str x => some (.inr x)
  | _ => none
def keysOf : List PV → Option (List K1)
  | [] => some []
  | p :: ps => (keyOf p).bind fun k => (keysOf ps).map fun ks => k :: ks
def lookA {κ β : Type} [DecidableEq κ] (kvs : List (κ × β)) (k : κ) : Option β := (kvs.find? fun q => decide (q.1 = k)).map (·.2)
theorem rep_key {K : PySem.W.Frag} {A : Addr → Prop} {H : Hp} {p : PV} {v : V} {k : K1} (r : Rep K A H p v) (h : keyOf p = some k) : v = kV (k1 k) := by
  cases p <;> simp only [keyOf, Option.some.injEq, reduceCtorEq] at h
  · subst h; exact r
  · subst h; exact r
theorem reps_keys {K : PySem.W.Frag} {A : Addr → Prop} {H : Hp} : ∀ {ps : List PV} {vs : List V} {ks : List K1}, Reps K A H ps vs → keysOf ps = some ks → vs = (ks.map k1).map kV
  | [], _, _, r, h => by
    rw [show _ = [] from r]
    simp only [keysOf, Option.some.injEq] at h
    rw [← h]; rfl
  | p :: ps, _, ks, r, h => by
    obtain ⟨x, t, rfl, r1, r2⟩ := r
    simp only [keysOf] at h
    cases e : keyOf p with
    | none => rw [e] at h; cases h
    | some k =>
      rw [e] at h
      cases e2 : keysOf ps with
      | none => rw [e2] at h; cases h
      | some ks' =>
        rw [e2] at h
        cases h
        rw [rep_key r1 e, reps_keys r2 e2]; rfl
theorem key_dec (a b : K1) : decide (k1 a = k1 b) = decide (a = b) := by
  by_cases h : a = b
  · subst h; simp
  · rw [decide_eq_false h]; exact decide_eq_false fun e => h (k1_inj e)
theorem repK_val {K : PySem.W.Frag} {A : Addr → Prop} {H : Hp} (k : K1) : ∀ {kvs : List (K1 × PV)} {ks : List (Key × V)}, RepK K A H kvs ks →
    (lookA kvs k = none ∧ valV ks (k1 k) = none) ∨ ∃ p v, lookA kvs k = some p ∧ valV ks (k1 k) = some v ∧ Rep K A H p v
  | [], _, r => by rw [show _ = [] from r]; exact .inl ⟨rfl, rfl⟩
  | (j, p) :: kvs, _, r => by
    obtain ⟨x, t, rfl, r1, r2⟩ := r
    by_cases e : j = k
    · subst e
      exact .inr ⟨p, x, by simp [lookA], valV_pos rfl, r1⟩
    · have e1 : lookA ((j, p) :: kvs) k = lookA kvs k := by simp [lookA, List.find?_cons, e]
      have e2 : valV ((k1 j, x) :: t) (k1 k) = valV t (k1 k) := valV_neg fun z => e (k1_inj z)
      rw [e1, e2]
      exact repK_val k r2
theorem keys_inj {a b : List K1} (h : a.map k1 = b.map k1) : a = b := by
  induction a generalizing b with
  | nil => cases b with
    | nil => rfl
    | cons _ _ => simp at h
  | cons x a ih => cases b with
    | nil => simp at h
    | cons y b =>
      simp only [List.map_cons, List.cons.injEq] at h
      rw [k1_inj h.1, ih h.2]
theorem repT_val {K : PySem.W.Frag} {A : Addr → Prop} {H : Hp} (k : List K1) : ∀ {kvs : List (List K1 × PV)} {ks : List (List Key × V)}, RepT K A H kvs ks →
    (lookA kvs k = none ∧ valV ks (k.map k1) = none) ∨ ∃ p v, lookA kvs k = some p ∧ valV ks (k.map k1) = some v ∧ Rep K A H p v
  | [], _, r => by rw [show _ = [] from r]; exact .inl ⟨rfl, rfl⟩
  | (j, p) :: kvs, _, r => by
    obtain ⟨x, t, rfl, r1, r2⟩ := r
    by_cases e : j = k
    · subst e
      exact .inr ⟨p, x, by simp [lookA], valV_pos rfl, r1⟩
    · have e1 : lookA ((j, p) :: kvs) k = lookA kvs k := by simp [lookA, List.find?_cons, e]
      have e2 : valV ((j.map k1, x) :: t) (k.map k1) = valV t (k.map k1) := valV_neg fun z => e (keys_inj z)
      rw [e1, e2]
      exact repT_val k r2
/-- a dict's answer to a key -/
def lookD : PV → PV → Option (Option PV)
  | .dic kvs, k => (keyOf k).map fun k => lookA kvs k
  | .dit kvs, .tup ks => (keysOf ks).map fun k => lookA kvs k
  | _, _ => none
theorem dget_of {K : PySem.W.Frag} {A : Addr → Prop} {H : Hp} {d k : PV} {v u : V} {o : Option PV} (h : lookD d k = some o) (rd : RepI K A H d v) (rk : Rep K (fun _ => True) H k u) :
    ∃ a, v = .ref a ∧ IsD H a ∧ ((o = none ∧ DGet H a u none) ∨ ∃ p w, o = some p ∧ DGet H a u (some w) ∧ Rep K A H p w) := by
  cases d <;> simp only [lookD, reduceCtorEq] at h
  case dic kvs =>
    obtain ⟨a, ks, rfl, hr, r⟩ := rd
    cases e : keyOf k with
    | none => rw [e] at h; cases h
    | some k' =>
      rw [e] at h; cases h
      refine ⟨a, rfl, .inl ⟨_, hr⟩, ?_⟩
      rcases repK_val k' r with ⟨h1, h2⟩ | ⟨p, w, h1, h2, h3⟩
      · exact .inl ⟨h1, .inl ⟨ks, _, hr, rep_key rk e, h2.symm⟩⟩
      · exact .inr ⟨p, w, h1, .inl ⟨ks, _, hr, rep_key rk e, h2.symm⟩, h3⟩
  case dit kvs =>
    obtain ⟨a, ks, rfl, hr, r⟩ := rd
    cases k <;> simp only [reduceCtorEq] at h
    rename_i kk
    obtain ⟨b, xs, rfl, hb, r2⟩ := rk
    cases e : keysOf kk with
    | none => rw [e] at h; cases h
    | some k' =>
      rw [e] at h; cases h
      refine ⟨a, rfl, .inr ⟨_, hr⟩, ?_⟩
      rw [reps_keys r2 e] at hb
      rcases repT_val k' r with ⟨h1, h2⟩ | ⟨p, w, h1, h2, h3⟩
      · exact .inl ⟨h1, .inr ⟨ks, _, b, hr, rfl, hb, h2.symm⟩⟩
      · exact .inr ⟨p, w, h1, .inr ⟨ks, _, b, hr, rfl, hb, h2.symm⟩, h3⟩
def isFlat : PV → Bool
  | .non => true | .bl _ => true | .int _ => true | .str _ => true
  | _ => false
def gInB : PV → PV → Option Bool
  | p, .lst qs => if eqOk p && eqOk (.lst qs) then some (qs.any fun z => pvEq z p) else none
  | p, .rol qs => if eqOk p && eqOk (.rol qs) then some (qs.any fun z => pvEq z p) else none
  | p, .tup qs => if isFlat p && qs.all isFlat then some (qs.any fun z => pvEq z p) else none
  | .str [c], .str z => some (decide (c ∈ z))
  | p, d => (lookD d p).map (·.isSome)
def rInAll (K : PySem.W.Frag) (n : Bool) : R2 := fun x y H Q =>
  (∃ d ds, Dp K H x d ∧ Dp K H y (.list ds) ∧ SeqAt.shaped d = true ∧ SeqAt.shaped (.list ds) = true ∧ Q (.bl (n ^^ ds.any fun z => PyData.eqv z d)) H) ∨
  rIn K n x y H Q ∨ (∃ (c : Nat) (z : Str), x = .str ⟨#[c]⟩ ∧ y = .str z ∧ Q (.bl (n ^^ decide (c ∈ z.cps.toList))) H) ∨ ∃ a o, y = .ref a ∧ DGet H a x o ∧ Q (.bl (n ^^ o.isSome)) H
theorem opr_in (hu : Hu X) : OpR X (compareOp .In) (rInAll X.K false) := by
  rintro pins s σ H x y v u Q I rx ry (⟨d, ds, h1, h2, h3, h4, q⟩ | h | ⟨c, z, h1, h2, q⟩ | ⟨a, o, rfl, g, q⟩)
  · exact op_inD hu.u65 pins s σ H x y v u Q I rx ry ⟨d, ds, h1, h2, h3, h4, by simpa using q⟩
  · exact op_in_seq pins s σ H x y v u Q I rx ry h
  · exact op_in_sign pins s σ H x y v u Q I rx ry ⟨c, z, h1, h2, by simpa using q⟩
  · cases ry
    exact d_in hu.u1 I g rx fun s' I' => ⟨.bl _, H, I', rfl, by simpa using q⟩
theorem opr_notIn (hu : Hu X) : OpR X (compareOp .NotIn) (rInAll X.K true) := by
  rintro pins s σ H x y v u Q I rx ry (⟨d, ds, h1, h2, h3, h4, q⟩ | h | ⟨c, z, h1, h2, q⟩ | ⟨a, o, rfl, g, q⟩)
  · exact op_notInD hu.u65 pins s σ H x y v u Q I rx ry ⟨d, ds, h1, h2, h3, h4, by simpa using q⟩
  · exact op_notIn_seq pins s σ H x y v u Q I rx ry h
  · exact op_notIn_sign pins s σ H x y v u Q I rx ry ⟨c, z, h1, h2, by simpa using q⟩
  · cases ry
    exact d_notIn hu.u1 I g rx fun s' I' => ⟨.bl _, H, I', rfl, by simpa using q⟩
theorem any_toDs (p : PV) (hp : isData p = true) : ∀ (qs : List PV), isDatas qs = true → ((toDs qs).any fun z => PyData.eqv z (toD p)) = qs.any fun z => pvEq z p
  | [], _ => rfl
  | q :: qs, h => by
    simp only [isDatas, Bool.and_eq_true] at h
    simp only [toDs, List.any_cons, toD_eqv q p h.1 hp, any_toDs p hp qs h.2]
theorem rep_flat {K : PySem.W.Frag} {A : Addr → Prop} {H : Hp} {p : PV} {v : V} (f : isFlat p = true) (r : Rep K A H p v) : flatV v = true := by
  cases p <;> simp only [isFlat, reduceCtorEq] at f
  · rw [show v = .non from r]; rfl
  · rename_i b; rw [show v = .bl b from r]; rfl
  · rename_i b; rw [show v = .int b from r]; rfl
  · rename_i b; rw [show v = .str (mkS b) from r]; rfl
theorem eqV_pv {K : PySem.W.Frag} {A : Addr → Prop} {H : Hp} {p q : PV} {v u : V} (fp : isFlat p = true) (fq : isFlat q = true) (r : Rep K A H p v) (r2 : Rep K A H q u) : eqV v u = pvEq p q := by
  cases p <;> simp only [isFlat, reduceCtorEq] at fp <;> cases q <;> simp only [isFlat, reduceCtorEq] at fq <;> simp only [Rep] at r r2 <;> subst r r2 <;> simp only [eqV, pvEq]
  exact str_beq _ _
theorem in_flat {K : PySem.W.Frag} {A : Addr → Prop} {H : Hp} {p : PV} {v : V} (fp : isFlat p = true) (r : Rep K A H p v) : ∀ {qs : List PV} {us : List V}, qs.all isFlat = true → Reps K A H qs us → us.all flatV = true ∧ inV v us = qs.any fun z => pvEq z p
  | [], _, _, h => by rw [show _ = [] from h]; exact ⟨rfl, rfl⟩
  | q :: qs, _, f, h => by
    obtain ⟨x, t, rfl, h1, h2⟩ := h
    simp only [List.all_cons, Bool.and_eq_true] at f
    obtain ⟨e1, e2⟩ := in_flat fp r f.2 h2
    refine ⟨by simp [rep_flat f.1 h1, e1], ?_⟩
    unfold inV at e2 ⊢
    simp only [List.any_cons, eqV_pv f.1 fp h1 r, e2]
theorem cmp_inG (n : Bool) : CmpOk X.K (rInAll X.K n) (fun p q => (gInB p q).map (n ^^ ·)) := fun p q b H v u Q hg r1 r2 hQ => by
  dsimp only at hg
  cases e : gInB p q with
  | none => rw [e] at hg; cases hg
  | some b' =>
    rw [e] at hg
    cases hg
    have lst : ∀ qs ds, (eqOk p && eqOk q) = true → Dp X.K H u (.list ds) → toD q = .list ds → ds = toDs qs → isDatas qs = true → b' = (qs.any fun z => pvEq z p) → rInAll X.K n v u H Q := fun qs ds h d1 d2 d3 d4 d5 => by
      simp only [Bool.and_eq_true] at h
      refine .inl ⟨toD p, ds, r1.dp (data_of h.1), d1, shaped_of h.1, d2 ▸ shaped_of h.2, ?_⟩
      rw [d3, any_toDs p (data_of h.1) qs d4, ← d5]
      exact hQ
    have dict : (lookD q p).map (·.isSome) = some b' → rInAll X.K n v u H Q := fun h => by
      cases e2 : lookD q p with
      | none => rw [e2] at h; cases h
      | some o =>
        rw [e2] at h; cases h
        obtain ⟨a, rfl, _, h | ⟨p', w, rfl, g, _⟩⟩ := dget_of e2 (Rep.toI r2) r1
        · obtain ⟨rfl, g⟩ := h
          exact .inr (.inr (.inr ⟨a, none, rfl, g, hQ⟩))
        · exact .inr (.inr (.inr ⟨a, some w, rfl, g, hQ⟩))
    cases q with
    | lst qs =>
      simp only [gInB] at e
      split at e
      · rename_i h
        have hd : isDatas qs = true := by have := data_of (Bool.and_eq_true_iff.mp h).2; simpa [isData] using this
        exact lst qs _ h (by have := r2.dp (data_of (Bool.and_eq_true_iff.mp h).2); simpa [toD] using this) rfl rfl hd (Option.some.inj e).symm
      · cases e
    | rol qs =>
      simp only [gInB] at e
      split at e
      · rename_i h
        have hd : isDatas qs = true := by have := data_of (Bool.and_eq_true_iff.mp h).2; simpa [isData] using this
        exact lst qs _ h (by have := r2.dp (data_of (Bool.and_eq_true_iff.mp h).2); simpa [toD] using this) rfl rfl hd (Option.some.inj e).symm
      · cases e
    | tup qs =>
      simp only [gInB] at e
      split at e
      · rename_i h
        simp only [Bool.and_eq_true] at h
        obtain ⟨a, xs, rfl, ha, r⟩ := r2
        obtain ⟨f1, f2⟩ := in_flat h.1 r1 h.2 r
        refine .inr (.inl ⟨a, xs, rfl, .inr (SqT.of ha), rep_flat h.1 r1, f1, ?_⟩)
        rw [f2, Option.some.inj e]
        cases n <;> simpa using hQ
      · cases e
    | str z =>
      cases p with
      | str x =>
        match x, e, r1 with
        | [], e, _ => simp [gInB, lookD] at e
        | [c], e, r1 =>
          simp only [gInB, Option.some.injEq] at e
          refine .inr (.inr (.inl ⟨c.val, mkS z, by rw [mkS_sign]; exact r1, r2, ?_⟩))
          have : decide (c.val ∈ (mkS z).cps.toList) = decide (c ∈ z) := by
            rw [mkS_cps]
            congr 1
            simp only [List.mem_map, eq_iff_iff]
            exact ⟨fun ⟨d, h1, h2⟩ => by rw [← Fin.ext h2]; exact h1, fun h => ⟨c, h, rfl⟩⟩
          rw [this, e]
          exact hQ
        | _ :: _ :: _, e, _ => simp [gInB, lookD] at e
      | _ => simp [gInB, lookD] at e
    | dic kvs => exact dict (by cases p <;> first | exact e | (rename_i x; cases x with | nil => exact e | cons c r => cases r <;> exact e))
    | dit kvs => exact dict (by cases p <;> first | exact e | (rename_i x; cases x with | nil => exact e | cons c r => cases r <;> exact e))
    | non => simp [gInB, lookD] at e
    | bl b => simp [gInB, lookD] at e
    | int b => simp [gInB, lookD] at e
    | ins c b => simp [gInB, lookD] at e
def gIn : Cmp := gInB
def gNotIn : Cmp := fun p q => (gInB p q).map (!·)
theorem cmp_in : CmpOk X.K (rInAll X.K false) gIn := fun p q b H v u Q hg => cmp_inG false p q b H v u Q (by simp only [gIn] at hg; dsimp only; rw [hg]; simp)
theorem cmp_notIn : CmpOk X.K (rInAll X.K true) gNotIn := fun p q b H v u Q hg => cmp_inG true p q b H v u Q (by simp only [gNotIn] at hg; simpa using hg)
end
end Fz
end
section
/-! FwF: +, *, subscripts, slices, displays, built-in calls, methods that read. -/
namespace Fz
open PySem PySem.Spec PyProof.Rows L2

/-- what follows a thing just made -/
def KO (K : PySem.W.Frag) (A : Addr → Prop) (H : Hp) (t : OT) (Q : VK) : Prop :=
  ∀ w H' Fn, Same H H' → Fn.Nodup → (∀ a ∈ Fn, H a = none) → OTRep K (fun a => A a ∧ a ∉ Fn) H' t w Fn → Q w H'
section
variable {K : PySem.W.Frag} {A : Addr → Prop} {H : Hp} {Q : VK}
theorem KO.rep {p : PV} {v : V} (k : KO K A H (.fz p) Q) (r : Rep K A H p v) : Q v H := k v H [] (Same.refl H) List.nodup_nil (fun _ h => nomatch h) ⟨rfl, Rep.sub (fun a q => ⟨q, fun h => nomatch h⟩) r⟩
theorem KO.repS {p : PV} {v : V} {H' : Hp} (k : KO K A H (.fz p) Q) (s : Same H H') (r : Rep K A H' p v) : Q v H' := k v H' [] s List.nodup_nil (fun _ h => nomatch h) ⟨rfl, Rep.sub (fun a q => ⟨q, fun h => nomatch h⟩) r⟩
theorem same_upd {p : Addr} {o : HO} (h : H p = none) : Same H (upd H p o) := fun b x e => by rw [upd_ne (ne_of_none e h)]; exact e
theorem carry_new {p : Addr} {o : HO} (h : H p = none) : Carry A (fun a => A a ∧ a ∉ [p]) H (upd H p o) :=
  Carry.mk' (fun a x q e => ⟨q, fun z => by rw [List.mem_singleton.mp z, h] at e; cases e⟩) (fun a x _ e => same_upd h a x e) (fun a xs e => same_upd h a _ e) fun a x u e => same_upd h a _ e
theorem KO.l {ps : List PV} {xs : List V} (k : KO K A H (.l ps) Q) (r : Reps K A H ps xs) (p : Addr) (hp : H p = none) : Q (.ref p) (upd H p (.lst xs)) :=
  k _ _ [p] (same_upd hp) (by simp) (fun a h => by rw [List.mem_singleton.mp h]; exact hp) ⟨p, xs, rfl, rfl, upd_same, Reps.carry (carry_new hp) r⟩
theorem KO.d {ps : List (K1 × PV)} {xs : List (Key × V)} (k : KO K A H (.d ps) Q) (r : RepK K A H ps xs) (p : Addr) (hp : H p = none) : Q (.ref p) (upd H p (.dK xs)) :=
  k _ _ [p] (same_upd hp) (by simp) (fun a h => by rw [List.mem_singleton.mp h]; exact hp) ⟨p, xs, rfl, rfl, upd_same, RepK.carry (carry_new hp) r⟩
theorem KO.t {ps : List PV} {xs : List V} (k : KO K A H (.fz (.tup ps)) Q) (r : Reps K A H ps xs) (p : Addr) (hp : H p = none) : Q (.ref p) (upd H p (.tup xs)) :=
  k.repS (same_upd hp) ⟨p, xs, rfl, upd_same, Reps.carry (Carry.same (same_upd hp) fun _ q => q) r⟩
theorem KO.later {H1 : Hp} {t : OT} (k : KO K A H t Q) (s : Same H H1) : KO K A H1 t Q := fun w H' Fn s' n f r => k w H' Fn (s.trans s') n (fun a ha => by
  cases z : H a with
  | none => rfl
  | some o => have := f a ha; rw [s a o z] at this; cases this) r
end
section
variable {X : Cx} {C : Addr → Prop} {W : WX} {e e1 e2 e3 : Expr} {pos : Pos} {m m1 m2 m3 : Mode} {f f1 f2 f3 : E}

/-! ### a op b -/
def oBin (g : PV → PV → Option OT) (f1 f2 : E) : O := fun ρ => f1 ρ >>= fun x => f2 ρ >>= fun y => ofO (g x y)
def BinOk (K : PySem.W.Frag) (r : R2) (g : PV → PV → Option OT) : Prop := ∀ (A : Addr → Prop) H p q t v u Q, g p q = some t → RepI K A H p v → RepI K A H q u → KO K A H t Q → r v u H Q
theorem oj_bin {op : Operator} {r : R2} {g : PV → PV → Option OT} (ho : OpR X (binaryOp op) r) (hg : BinOk X.K r g) (h1 : EJ X C W .I e1 f1) (h2 : EJ X C W .I e2 f2) : OJ X C W (.BinOp e1 op e2 pos) (oBin g f1 f2) :=
  pe_weak (pe_op ho h1 h2) fun σ H Q ⟨ρ, fp, eo, o⟩ => two (m1 := .I) (m2 := .I) eo o fun p q v u H2 s eo2 o2 r1 r2 => by
    obtain ⟨t, ht, hQ⟩ := Out.ofO o2
    exact hg (Am C fp) H2 p q t v u Q ht r1 r2 (KO.later hQ s)
def gAdd : PV → PV → Option OT
  | .int i, .int j => some (.fz (.int (i + j)))
  | .str x, .str y => if x.length + y.length ≤ sizeLine then some (.fz (.str (x ++ y))) else none
  | .lst x, .lst y => if x.length + y.length ≤ sizeLine then some (.l (x ++ y)) else none
  | .tup x, .tup y => if x.isEmpty then none else if x.length + y.length ≤ sizeLine then some (.fz (.tup (x ++ y))) else none
  | _, _ => none
def rAddAll (K : PySem.W.Frag) : R2 := fun x y H Q => ((rI0 (fun i j => .int (i + j)) x y H Q ∨ ∃ i j, x = .str i ∧ y = .str j ∧ i.length + j.length ≤ sizeLine ∧ Q (.str (i ++ j)) H) ∨ rCat x y H Q) ∨ rCatT K x y H Q
theorem opr_add : OpR X (binaryOp .Add) (rAddAll X.K) := OpR.or (OpR.or (OpR.or op_add op_add_str) op_cat) op_catT
theorem bin_add : BinOk X.K (rAddAll X.K) gAdd := fun A H p q t v u Q hg r1 r2 k => by
  cases p <;> cases q <;> simp only [gAdd, reduceCtorEq] at hg
  · cases hg
    exact .inl (.inl (.inl ⟨_, _, r1, r2, k.rep rfl⟩))
  · split at hg
    · rename_i h
      cases hg
      refine .inl (.inl (.inr ⟨_, _, r1, r2, by rw [mkS_length, mkS_length]; exact h, ?_⟩))
      rw [mkS_append]
      exact k.rep rfl
    · cases hg
  · split at hg
    · cases hg
    · rename_i he
      split at hg
      · rename_i h
        cases hg
        obtain ⟨a, xs, rfl, ha, ra⟩ := r1
        obtain ⟨b, ys, rfl, hb, rb⟩ := r2
        rename_i ps qs
        refine .inr ⟨a, b, xs, ys, rfl, rfl, SqT.of ha, SqT.of hb, fun z => he ?_, by rw [ra.length, rb.length]; exact h, fun z => ?_, fun _ => k.t (ra.append rb)⟩
        · subst z; cases ps with
          | nil => rfl
          | cons p ps => obtain ⟨_, _, z, _⟩ := ra; cases z
        · subst z
          have : qs = [] := by
            cases qs with
            | nil => rfl
            | cons p ps => obtain ⟨_, _, z, _⟩ := rb; cases z
          subst this
          rw [List.append_nil] at k
          exact k.rep ⟨a, xs, rfl, ha, ra⟩
      · cases hg
  · split at hg
    · rename_i h
      cases hg
      obtain ⟨a, xs, rfl, ha, ra⟩ := r1
      obtain ⟨b, ys, rfl, hb, rb⟩ := r2
      exact .inl (.inr ⟨a, b, xs, ys, rfl, rfl, ha, hb, by rw [ra.length, rb.length]; exact h, k.l (ra.append rb)⟩)
    · cases hg
theorem oj_add (h1 : EJ X C W .I e1 f1) (h2 : EJ X C W .I e2 f2) : OJ X C W (.BinOp e1 .Add e2 pos) (oBin gAdd f1 f2) := oj_bin opr_add bin_add h1 h2
def gMul : PV → PV → Option OT
  | .int i, .int j => if (-(2 ^ 64) < i ∧ i < 2 ^ 64) ∨ (-(2 ^ 64) < j ∧ j < 2 ^ 64) then some (.fz (.int (i * j))) else none
  | .lst x, .int j => if -(2 ^ 63) ≤ j ∧ j < 2 ^ 63 ∧ x.length * j.toNat ≤ sizeLine then some (.l (List.replicate j.toNat x).flatten) else none
  | _, _ => none
theorem reps_rep {K : PySem.W.Frag} {A : Addr → Prop} {H : Hp} {ps : List PV} {vs : List V} (h : Reps K A H ps vs) : ∀ k : Nat, Reps K A H (List.replicate k ps).flatten (List.replicate k vs).flatten
  | 0 => rfl
  | k + 1 => by
    rw [List.replicate_succ, List.replicate_succ, List.flatten_cons, List.flatten_cons]
    exact h.append (reps_rep h k)
theorem opr_mul : OpR X (binaryOp .Mult) (fun x y H Q => rI CMul (fun i j => .int (i * j)) x y H Q ∨ rRep x y H Q) := OpR.or op_mul op_rep
theorem bin_mul : BinOk X.K (fun x y H Q => rI CMul (fun i j => .int (i * j)) x y H Q ∨ rRep x y H Q) gMul := fun A H p q t v u Q hg r1 r2 k => by
  cases p <;> cases q <;> simp only [gMul, reduceCtorEq] at hg
  · split at hg
    · rename_i h
      cases hg
      exact .inl ⟨_, _, r1, r2, h, k.rep rfl⟩
    · cases hg
  · split at hg
    · rename_i h
      cases hg
      obtain ⟨a, xs, rfl, ha, ra⟩ := r1
      exact .inr ⟨a, _, xs, rfl, r2, ha, h.1, h.2.1, by rw [ra.length]; exact h.2.2, k.l (reps_rep ra _)⟩
    · cases hg
theorem oj_mul (h1 : EJ X C W .I e1 f1) (h2 : EJ X C W .I e2 f2) : OJ X C W (.BinOp e1 .Mult e2 pos) (oBin gMul f1 f2) := oj_bin opr_mul bin_mul h1 h2

/-! ### a[b] -/
def gIx : PV → PV → Option PV
  | .lst ps, .int i => atI ps i
  | .rol ps, .int i => atI ps i
  | .tup ps, .int i => atI ps i
  | .str x, .int i => if x.length ≤ sizeLine then (atI x i).map fun c => .str [c] else none
  | d, k => (lookD d k).bind id
theorem reps_at {K : PySem.W.Frag} {A : Addr → Prop} {H : Hp} {ps : List PV} {vs : List V} {i : Int} {p : PV} (r : Reps K A H ps vs) (h : atI ps i = some p) : ∃ v, atI vs i = some v ∧ Rep K A H p v := by
  unfold atI at h ⊢
  rw [r.length]
  cases e : ixN ps.length i with
  | none => rw [e] at h; cases h
  | some j =>
    rw [e] at h
    exact r.get h
theorem str_at {x : Tx} {i : Int} {c : Ch} (h : atI x i = some c) : atI (mkS x).cps.toList i = some c.val := by
  rw [mkS_cps]
  unfold atI at h ⊢
  rw [List.length_map]
  cases e : ixN x.length i with
  | none => rw [e] at h; cases h
  | some j =>
    rw [e] at h
    simp only [Option.bind_some] at h ⊢
    rw [List.getElem?_map, h]; rfl
theorem pe_or' {t t' : TE} (h : PE X e t) (h' : PE X e t') : PE X e (fun σ H Q => t σ H Q ∨ t' σ H Q) := ⟨fun pins s σ H Q I q => q.elim (h.run pins s σ H Q I) (h'.run pins s σ H Q I)⟩
/-- the reading of a[b], whatever a is -/
theorem ix_read {A : Addr → Prop} {H : Hp} {p q z : PV} {v u : V} {Q : VK} (hz : gIx p q = some z) (r1 : RepI X.K A H p v) (r2 : Rep X.K (fun _ => True) H q u) (k : ∀ w, Rep X.K A H z w → Q w H) :
    rIx X.K v u H Q ∨ ∃ a w, v = .ref a ∧ DGet H a u (some w) ∧ Q w H := by
  have dict : (lookD p q).bind id = some z → ∃ a w, v = .ref a ∧ DGet H a u (some w) ∧ Q w H := fun h => by
    cases e : lookD p q with
    | none => rw [e] at h; cases h
    | some o =>
      rw [e] at h
      have h : o = some z := h
      obtain ⟨a, rfl, _, ⟨h', _⟩ | ⟨p', w, h', g, r⟩⟩ := dget_of e r1 r2
      · rw [h'] at h; cases h
      · rw [h'] at h; cases h
        exact ⟨a, w, rfl, g, k w r⟩
  cases p with
  | lst ps =>
    cases q <;> first | (simp [gIx, lookD] at hz; done) | skip
    obtain ⟨a, xs, rfl, ha, r⟩ := r1
    obtain ⟨w, hw, rw'⟩ := reps_at r hz
    exact .inl (.inl ⟨a, xs, _, w, rfl, r2, SqL.of ha, hw, k w rw'⟩)
  | rol ps =>
    cases q <;> first | (simp [gIx, lookD] at hz; done) | skip
    obtain ⟨a, xs, rfl, ha, r⟩ := r1
    obtain ⟨w, hw, rw'⟩ := reps_at r hz
    exact .inl (.inl ⟨a, xs, _, w, rfl, r2, ha.sq, hw, k w rw'⟩)
  | tup ps =>
    cases q <;> first | (simp [gIx, lookD] at hz; done) | skip
    obtain ⟨a, xs, rfl, ha, r⟩ := r1
    obtain ⟨w, hw, rw'⟩ := reps_at r hz
    exact .inl (.inr (.inl ⟨a, xs, _, w, rfl, r2, SqT.of ha, hw, k w rw'⟩))
  | str x =>
    cases q <;> first | (simp [gIx, lookD] at hz; done) | skip
    rename_i i
    simp only [gIx] at hz
    split at hz
    · rename_i hl
      cases e : atI x i with
      | none => rw [e] at hz; cases hz
      | some c =>
        rw [e] at hz
        cases hz
        refine .inl (.inr (.inr ⟨mkS x, i, c.val, r1, r2, by rw [mkS_length]; exact hl, str_at e, ?_⟩))
        rw [mkS_sign]
        exact k _ rfl
    · cases hz
  | dic kvs => exact .inr (dict (by cases q <;> exact hz))
  | dit kvs => exact .inr (dict (by cases q <;> exact hz))
  | non => cases q <;> simp [gIx, lookD] at hz
  | bl b => cases q <;> simp [gIx, lookD] at hz
  | int b => cases q <;> simp [gIx, lookD] at hz
  | ins c b => cases q <;> simp [gIx, lookD] at hz
def eIx (f1 f2 : E) : E := fun ρ => f1 ρ >>= fun x => f2 ρ >>= fun y => ofO (gIx x y)
theorem two_or {K : PySem.W.Frag} {σ : L2.St} {H : Hp} {fp : Fp} {ρ : Env} {α : Type} {k : PV → PV → Res α} {P : α → Prop} (eo : EnvOk K C ρ σ H fp)
    (o : Out (f1 ρ >>= fun x => f2 ρ >>= fun y => k x y) P (XQ K W σ H)) {R R' : V → V → Hp → Prop} (sel : PV → PV → Bool)
    (h : ∀ p q v u H2, Same H H2 → EnvOk K C ρ σ H2 fp → Out (k p q) P (XQ K W σ H) → RepM K C fp m1 H2 p v → RepM K C fp m2 H2 q u → (sel p q = true → R v u H2) ∧ (sel p q = false → R' v u H2)) :
    (tE K C W m1 f1 σ H fun x H1 => tE K C W m2 f2 σ H1 fun y H2 => R x y H2) ∨ tE K C W m1 f1 σ H fun x H1 => tE K C W m2 f2 σ H1 fun y H2 => R' x y H2 := by
  have main : ∀ (R2 : V → V → Hp → Prop) (b : Bool), (∀ p q, f1 ρ = .ok p → f2 ρ = .ok q → sel p q = b) → (∀ p q v u H2, Same H H2 → EnvOk K C ρ σ H2 fp → Out (k p q) P (XQ K W σ H) → RepM K C fp m1 H2 p v → RepM K C fp m2 H2 q u → sel p q = b → R2 v u H2) →
      tE K C W m1 f1 σ H fun x H1 => tE K C W m2 f2 σ H1 fun y H2 => R2 x y H2 := fun R2 b hb h2 => by
    refine ⟨ρ, fp, eo, (Out.bind o).and.mono (fun p ⟨e1, o1⟩ v H1 s1 r1 => ?_) fun _ _ q => q⟩
    refine ⟨ρ, fp, eo.same s1, (Out.bind o1).and.mono (fun q ⟨e2, o2⟩ u H2 s2 r2 => ?_) fun _ _ q => q.later s1⟩
    exact h2 p q v u H2 (s1.trans s2) (eo.same (s1.trans s2)) o2 (r1.same s2) r2 (hb p q e1 e2)
  by_cases hb : ∃ p q, f1 ρ = .ok p ∧ f2 ρ = .ok q ∧ sel p q = false
  · right
    obtain ⟨p0, q0, e1, e2, e3⟩ := hb
    refine main R' false (fun p q h1 h2 => by rw [e1] at h1; rw [e2] at h2; cases h1; cases h2; exact e3) fun p q v u H2 s eo2 o2 r1 r2 hs => (h p q v u H2 s eo2 o2 r1 r2).2 hs
  · left
    refine main R true (fun p q h1 h2 => by
      cases z : sel p q with
      | true => rfl
      | false => exact (hb ⟨p, q, h1, h2, z⟩).elim) fun p q v u H2 s eo2 o2 r1 r2 hs => (h p q v u H2 s eo2 o2 r1 r2).1 hs
def isDict : PV → Bool
  | .dic _ => true
  | .dit _ => true
  | _ => false
theorem ix_sel {A : Addr → Prop} {H : Hp} {p q z : PV} {v u : V} {Q : VK} (hz : gIx p q = some z) (r1 : RepI X.K A H p v) (r2 : Rep X.K (fun _ => True) H q u) (k : ∀ w, Rep X.K A H z w → Q w H) :
    ((!isDict p) = true → rIx X.K v u H Q) ∧ ((!isDict p) = false → ∃ a w, v = .ref a ∧ DGet H a u (some w) ∧ Q w H) := by
  have dict : ∀ q', gIx p q' = some z → isDict p = true → (lookD p q').bind id = some z := fun q' h d => by
    cases p <;> simp only [isDict, reduceCtorEq] at d <;> cases q' <;> exact h
  refine ⟨fun d => ?_, fun d => ?_⟩
  · cases p <;> simp only [isDict, Bool.not_true, Bool.not_false, reduceCtorEq] at d <;> cases q <;> first | (simp [gIx, lookD] at hz; done) | skip
    · rename_i x i
      simp only [gIx] at hz
      split at hz
      · rename_i hl
        cases e : atI x i with
        | none => rw [e] at hz; cases hz
        | some c =>
          rw [e] at hz
          cases hz
          refine .inr (.inr ⟨mkS x, i, c.val, r1, r2, by rw [mkS_length]; exact hl, str_at e, ?_⟩)
          rw [mkS_sign]
          exact k _ rfl
      · cases hz
    · obtain ⟨a, xs, rfl, ha, r⟩ := r1
      obtain ⟨w, hw, rw'⟩ := reps_at r hz
      exact .inr (.inl ⟨a, xs, _, w, rfl, r2, SqT.of ha, hw, k w rw'⟩)
    · obtain ⟨a, xs, rfl, ha, r⟩ := r1
      obtain ⟨w, hw, rw'⟩ := reps_at r hz
      exact .inl ⟨a, xs, _, w, rfl, r2, SqL.of ha, hw, k w rw'⟩
    · obtain ⟨a, xs, rfl, ha, r⟩ := r1
      obtain ⟨w, hw, rw'⟩ := reps_at r hz
      exact .inl ⟨a, xs, _, w, rfl, r2, ha.sq, hw, k w rw'⟩
  · have h := dict q hz (by cases z : isDict p <;> simp_all)
    cases e : lookD p q with
    | none => rw [e] at h; cases h
    | some o =>
      rw [e] at h
      have h : o = some z := h
      obtain ⟨a, rfl, _, ⟨h', _⟩ | ⟨p', w, h', g, r⟩⟩ := dget_of e r1 r2
      · rw [h'] at h; cases h
      · rw [h'] at h; cases h
        exact ⟨a, w, rfl, g, k w r⟩
/-- an item of what has common items -/
theorem ej_ix (hu : Hu X) (h1 : EJ X C W .I e1 f1) (h2 : EJ X C W m2 e2 f2) (hs : ∀ o i, subscripted e2 false o i = operate [o, i] (getItem o i) := by intro _ _; rfl) : EJ X C W .E (.Subscript e1 e2 pos) (eIx f1 f2) :=
  pe_weak (pe_or' (pe_ix ix_seq h1 h2 hs) (pe_dget hu.u1 h1 h2 hs)) fun σ H Q ⟨ρ, fp, eo, o⟩ =>
    two_or (m1 := .I) (m2 := m2) eo o (fun p _ => !isDict p) fun p q v u H2 s eo2 o2 r1 r2 => by
      obtain ⟨z, hz, hQ⟩ := Out.ofO o2
      exact ix_sel hz r1 (RepM.toB r2) fun w r => hQ w H2 s r
/-- .. to be looked at only -/
theorem ej_ixB (hu : Hu X) (h1 : EJ X C W .B e1 f1) (h2 : EJ X C W m2 e2 f2) (hs : ∀ o i, subscripted e2 false o i = operate [o, i] (getItem o i) := by intro _ _; rfl) : EJ X C W .B (.Subscript e1 e2 pos) (eIx f1 f2) :=
  pe_weak (pe_or' (pe_ix ix_seq h1 h2 hs) (pe_dget hu.u1 h1 h2 hs)) fun σ H Q ⟨ρ, fp, eo, o⟩ =>
    two_or (m1 := .B) (m2 := m2) eo o (fun p _ => !isDict p) fun p q v u H2 s eo2 o2 r1 r2 => by
      obtain ⟨z, hz, hQ⟩ := Out.ofO o2
      exact ix_sel (A := fun _ => True) hz (Rep.toI r1) (RepM.toB r2) fun w r => hQ w H2 s r
end
end Fz
end
section
/-! FwG: slices, displays, arguments, calls of built-ins. -/
namespace Fz
open PySem PySem.Spec PyProof.Rows L2
section
variable {X : Cx} {C : Addr → Prop} {W : WX} {e e1 e2 e3 : Expr} {pos p2 pn : Pos} {m m1 m2 m3 : Mode} {f f1 f2 f3 : E}

/-! ### slices -/
abbrev P := Env → Res (Option Int)
def tP (K : PySem.W.Frag) (C : Addr → Prop) (W : WX) (f : P) : TO := fun σ H Q => ∃ ρ fp, EnvOk K C ρ σ H fp ∧ Out (f ρ) (fun o => ∀ H', Same H H' → Q o H') (XQ K W σ H)
def PJ (X : Cx) (C : Addr → Prop) (W : WX) (e : Option Expr) (f : P) : Prop := PO X e (tP X.K C W f)
theorem po_weak {e : Option Expr} {t t' : TO} (h : PO X e t) (w : ∀ σ H Q, t' σ H Q → t σ H Q) : PO X e t' := ⟨fun pins s σ H Q I q => h.run pins s σ H Q I (w σ H Q q)⟩
def pNo : P := fun _ => .ok none
def intOf : PV → Res Int
  | .int i => .ok i
  | _ => .bad
def pAt (f : E) : P := fun ρ => f ρ >>= fun x => intOf x >>= fun i => .ok (some i)
theorem pj_none : PJ X C W none pNo := po_weak po_none fun σ H Q ⟨ρ, fp, eo, o⟩ => o H (Same.refl H)
theorem pj_some (h : EJ X C W m e f) : PJ X C W (some e) (pAt f) := po_weak (po_some h) fun σ H Q ⟨ρ, fp, eo, o⟩ => by
  refine ⟨ρ, fp, eo, (Out.bind o).mono (fun p o1 v H1 s1 r1 => ?_) fun _ _ q => q⟩
  cases p with
  | int i => exact ⟨i, RepM.toB r1, o1 H1 s1⟩
  | _ => exact o1.elim
def cut {α : Type} (xs : List α) (lo hi : Option Int) : List α := (xs.drop (HT.sIx xs.length 0 lo)).take (HT.sIx xs.length xs.length hi - HT.sIx xs.length 0 lo)
def gSl : PV → Option Int → Option Int → Option OT
  | .lst ps, lo, hi => some (.l (cut ps lo hi))
  | .rol ps, lo, hi => some (.l (cut ps lo hi))
  | .str x, lo, hi => if x.length ≤ sizeLine then some (.fz (.str (cut x lo hi))) else none
  | .tup ps, lo, hi => if HT.sIx ps.length 0 lo = 0 ∧ HT.sIx ps.length ps.length hi = ps.length then none else some (.fz (.tup (cut ps lo hi)))
  | _, _, _ => none
theorem reps_cut {K : PySem.W.Frag} {A : Addr → Prop} {H : Hp} {ps : List PV} {vs : List V} (r : Reps K A H ps vs) (lo hi : Option Int) : Reps K A H (cut ps lo hi) (cutV vs lo hi) := by
  unfold cut cutV
  rw [r.length]
  exact (r.drop _).take _
theorem cutS_mk (x : Tx) (lo hi : Option Int) : cutS (mkS x) lo hi = mkS (cut x lo hi) := by
  unfold cutS cut
  rw [mkS_length, mkS_cps, mkS, ← List.map_drop, ← List.map_take]
def oSl (f : E) (lo hi : P) : O := fun ρ => f ρ >>= fun x => lo ρ >>= fun l => hi ρ >>= fun u => ofO (gSl x l u)
theorem oj_sl {lo hi : Option Expr} {pl ph : P} (h : EJ X C W .I e f) (hl : PJ X C W lo pl) (hh : PJ X C W hi ph) : OJ X C W (.Subscript e (.Slice lo hi none p2) pos) (oSl f pl ph) :=
  pe_weak (pe_slice (SlR.or (SlR.or sl_list sl_str) sl_tup) h hl hh) fun σ H Q ⟨ρ, fp, eo, o⟩ => by
    refine ⟨ρ, fp, eo, (Out.bind o).mono (fun p o1 v H1 s1 r1 => ?_) fun _ _ q => q⟩
    refine ⟨ρ, fp, eo.same s1, (Out.bind o1).mono (fun l o2 H2 s2 => ?_) fun _ _ q => q.later s1⟩
    refine ⟨ρ, fp, eo.same (s1.trans s2), (Out.bind o2).mono (fun u o3 H3 s3 => ?_) fun _ _ q => q.later (s1.trans s2)⟩
    obtain ⟨t, ht, hQ⟩ := Out.ofO o3
    have k : KO X.K (Am C fp) H3 t Q := KO.later hQ ((s1.trans s2).trans s3)
    have r : RepI X.K (Am C fp) H3 p v := r1.same (m := .I) (s2.trans s3)
    clear hQ o1 o2 o3
    cases p <;> simp only [gSl, reduceCtorEq] at ht
    · split at ht
      · rename_i hz
        cases ht
        refine .inl (.inr ⟨_, r, by rw [mkS_length]; exact hz, ?_⟩)
        rw [cutS_mk]
        exact k.rep rfl
      · cases ht
    · split at ht
      · cases ht
      · rename_i hw
        cases ht
        obtain ⟨a, xs, rfl, ha, rr⟩ := r
        exact .inr ⟨a, xs, rfl, SqT.of ha, by rw [rr.length]; exact hw, k.t (reps_cut rr l u)⟩
    · cases ht
      obtain ⟨a, xs, rfl, ha, rr⟩ := r
      exact .inl (.inl ⟨a, xs, rfl, SqL.of ha, k.l (reps_cut rr l u)⟩)
    · cases ht
      obtain ⟨a, xs, rfl, ha, rr⟩ := r
      exact .inl (.inl ⟨a, xs, rfl, ha.sq, k.l (reps_cut rr l u)⟩)
/-- xs[::-1] -/
def tRev (K : PySem.W.Frag) (te ts : TE) : TE := fun σ H Q => te σ H fun x H1 => ts σ H1 fun y H2 => y = .int (-1) ∧ ∃ a xs, x = .ref a ∧ SqL K H2 a xs ∧ ∀ p, H2 p = none → Q (.ref p) (upd H2 p (.lst xs.reverse))
theorem pe_rev {te ts : TE} (he : PE X e te) (hs : PE X e2 ts) : PE X (.Subscript e (.Slice none none (some e2) p2) pos) (tRev X.K te ts) := by
  refine ⟨fun pins s σ H Q I h => ?_⟩
  refine Subscript_ (thn (he.run pins s σ H _ I h) fun v s1 ⟨x, H1, I1, r1, q1⟩ => ?_)
  refine wpAny_Slice ?_
  rw [evalPart_none, evalPart_some]
  refine wpAny_pure (wpAny_pure (thn (hs.run pins s1 σ H1 _ I1 q1) fun vk s3 ⟨y, H3, I3, rk, hy, a, xs, hx, hl, q3⟩ => ?_))
  subst hx hy
  cases r1
  obtain ⟨t, rfl⟩ := rk
  have I4 : Inv X pins σ H3 { s3 with heap := s3.heap.push { cls := .type "slice", data := .fields #[.none, .none, .int (-1) t] } } := I3.kept (t' := s3.toks) fun b ob q => Heap.get?_push_of_some _ q
  obtain ⟨its, r, ht, hz⟩ := I4.list hl
  have hlen := r.length
  refine tail_any (T := "list") (ops := [.ref a, .ref s3.heap.objs.size]) ht.isList.typeIs slot_list_getitem.lookup ?_ (by with_unfolding_all rfl)
  refine wpAny_getItem_list_slice ht.isList (Heap.IsSliceOf.new ..) .none .none (.int _ _) (by simp) ?_ (by rw [List.size_toArray] <;> omega)
  rw [PySem.W.krv_pick]
  refine ⟨.ref _, _, I4.laid (t' := s3.toks) (o := .lst xs.reverse) (fun b ob q => Heap.get?_push_of_some _ q) (Nat.le_refl _) ?_, rfl, q3 _ (I4.hok.fresh (Nat.le_refl _))⟩
  exact ⟨by rw [List.length_reverse]; exact hz, _, 0, r.reverse, Heap.get?_push_size _ rfl⟩
def gRev : PV → PV → Option OT
  | .lst ps, .int i => if i = -1 then some (.l ps.reverse) else none
  | .rol ps, .int i => if i = -1 then some (.l ps.reverse) else none
  | _, _ => none
theorem oj_rev (h : EJ X C W .I e f) (h2 : EJ X C W m2 e2 f2) : OJ X C W (.Subscript e (.Slice none none (some e2) p2) pos) (oBin gRev f f2) :=
  pe_weak (pe_rev h h2) fun σ H Q ⟨ρ, fp, eo, o⟩ => two (m1 := .I) (m2 := m2) eo o fun p q v u H2 s eo2 o2 r1 r2 => by
    obtain ⟨t, ht, hQ⟩ := Out.ofO o2
    have k : KO X.K (Am C fp) H2 t Q := KO.later hQ s
    have r : RepI X.K (Am C fp) H2 p v := r1
    have r2 := RepM.toB r2
    cases p <;> cases q <;> simp only [gRev, reduceCtorEq] at ht
    · split at ht
      · rename_i hi; subst hi; cases ht
        obtain ⟨a, xs, rfl, ha, rr⟩ := r
        exact ⟨r2, a, xs, rfl, SqL.of ha, k.l rr.reverse⟩
      · cases ht
    · split at ht
      · rename_i hi; subst hi; cases ht
        obtain ⟨a, xs, rfl, ha, rr⟩ := r
        exact ⟨r2, a, xs, rfl, ha.sq, k.l rr.reverse⟩
      · cases ht

/-! ### displays: all items are common -/
def tLE (K : PySem.W.Frag) (C : Addr → Prop) (W : WX) (f : L) : TA := fun σ H Q => ∃ ρ fp, EnvOk K C ρ σ H fp ∧ Out (f ρ) (fun ps => ∀ vs H', Same H H' → Reps K (Am C fp) H' ps vs → Q vs H') (XQ K W σ H)
def LE (X : Cx) (C : Addr → Prop) (W : WX) (es : List Expr) (n : Nat) (f : L) : Prop := PA X es (tLE X.K C W f) ∧ ∀ ρ ps, f ρ = .ok ps → ps.length = n
def lNil : L := fun _ => .ok []
def lCons (f : E) (g : L) : L := fun ρ => f ρ >>= fun p => g ρ >>= fun ps => .ok (p :: ps)
theorem le_nil : LE X C W [] 0 lNil := ⟨pa_weak pa_nil fun σ H Q ⟨ρ, fp, eo, o⟩ => o [] H (Same.refl H) rfl, fun ρ ps h => by cases h; rfl⟩
theorem bind_ok_inv {α β : Type} {r : Res α} {k : α → Res β} {b : β} (h : (r >>= k) = .ok b) : ∃ a, r = .ok a ∧ k a = .ok b := by
  cases r with
  | ok a => exact ⟨a, rfl, h⟩
  | exc c fs => cases h
  | bad => cases h
theorem le_cons {es : List Expr} {n : Nat} {g : L} (h : EJ X C W .E e f) (h2 : LE X C W es n g) (hs : starEach (e :: es) X.env = (false, eval e X.env) :: starEach es X.env := by rfl) : LE X C W (e :: es) (n + 1) (lCons f g) := by
  refine ⟨pa_weak (pa_cons h h2.1 hs) fun σ H Q ⟨ρ, fp, eo, o⟩ => ?_, fun ρ ps hp => ?_⟩
  · refine ⟨ρ, fp, eo, (Out.bind o).mono (fun p o1 v H1 s1 r1 => ?_) fun _ _ q => q⟩
    refine ⟨ρ, fp, eo.same s1, (Out.bind o1).mono (fun ps o2 vs H2 s2 r2 => ?_) fun _ _ q => q.later s1⟩
    exact o2 (v :: vs) H2 (s1.trans s2) (Reps.cons (Rep.same (A := Am C fp) s2 r1) r2)
  · obtain ⟨p, _, hp⟩ := bind_ok_inv hp
    obtain ⟨qs, e2, hp⟩ := bind_ok_inv hp
    cases hp
    simp [h2.2 ρ qs e2]
def oLst (g : L) : O := fun ρ => g ρ >>= fun ps => .ok (.l ps)
def eTup (g : L) : E := fun ρ => g ρ >>= fun ps => .ok (.tup ps)
theorem oj_lst {es : List Expr} {n : Nat} {g : L} (h : LE X C W es n g) (hn : n ≤ sizeLine := by decide) : OJ X C W (.List es pos) (oLst g) := pe_weak (pe_lst h.1) fun σ H Q ⟨ρ, fp, eo, o⟩ => by
  refine ⟨ρ, fp, eo, (Out.bind o).and.mono (fun ps ⟨e1, o1⟩ vs H1 s1 r1 => ?_) fun _ _ q => q⟩
  exact ⟨by rw [r1.length, h.2 ρ ps e1]; exact hn, (KO.later (K := X.K) (A := Am C fp) (t := .l ps) o1 s1).l r1⟩
theorem ej_tup {es : List Expr} {n : Nat} {g : L} {k : Nat} (h : LE X C W es n g) (hn : n ≤ sizeLine := by decide) : EJ X C W .E (.Tuple es k pos) (eTup g) := pe_weak (pe_tup h.1) fun σ H Q ⟨ρ, fp, eo, o⟩ => by
  refine ⟨ρ, fp, eo, (Out.bind o).and.mono (fun ps ⟨e1, o1⟩ vs H1 s1 r1 => ?_) fun _ _ q => q⟩
  refine ⟨by rw [r1.length, h.2 ρ ps e1]; exact hn, fun p hp => o1 (.ref p) (upd H1 p (.tup vs)) (s1.trans (same_upd hp)) ⟨p, vs, rfl, upd_same, Reps.same (same_upd hp) r1⟩⟩

/-! ### arguments, each of its own mode -/
def LJ' (X : Cx) (C : Addr → Prop) (W : WX) (ms : List Mode) (es : List Expr) (f : L) : Prop := PA X es (tL X.K C W ms f)
theorem lj_nil : LJ' X C W [] [] lNil := pa_weak pa_nil fun σ H Q ⟨ρ, fp, eo, o⟩ => o [] H (Same.refl H) trivial
theorem RepMs.same {K : PySem.W.Frag} {fp : Fp} {H H' : Hp} (s : Same H H') : ∀ {ms : List Mode} {ps : List PV} {vs : List V}, RepMs K C fp H ms ps vs → RepMs K C fp H' ms ps vs
  | [], [], [], h => h
  | m :: ms, p :: ps, v :: vs, h => ⟨h.1.same s, RepMs.same s h.2⟩
theorem lj_cons {es : List Expr} {ms : List Mode} {g : L} (h : EJ X C W m e f) (h2 : LJ' X C W ms es g) (hs : starEach (e :: es) X.env = (false, eval e X.env) :: starEach es X.env := by rfl) : LJ' X C W (m :: ms) (e :: es) (lCons f g) :=
  pa_weak (pa_cons h h2 hs) fun σ H Q ⟨ρ, fp, eo, o⟩ => by
    refine ⟨ρ, fp, eo, (Out.bind o).mono (fun p o1 v H1 s1 r1 => ?_) fun _ _ q => q⟩
    refine ⟨ρ, fp, eo.same s1, (Out.bind o1).mono (fun ps o2 vs H2 s2 r2 => ?_) fun _ _ q => q.later s1⟩
    exact o2 (v :: vs) H2 (s1.trans s2) ⟨r1.same s2, r2⟩

/-! ### calls of built-ins with one argument -/
def oUn (g : PV → Option OT) (f : E) : O := fun ρ => f ρ >>= fun x => ofO (g x)
def Call1 (K : PySem.W.Frag) (r : List V → Hp → VK → Prop) (m : Mode) (g : PV → Option OT) : Prop := ∀ (C : Addr → Prop) fp H p t v Q, g p = some t → RepM K C fp m H p v → KO K (Am C fp) H t Q → r [v] H Q
/-- .. whose answer is an atom -/
def Call1A (K : PySem.W.Frag) (r : List V → Hp → VK → Prop) (g : PV → Option PV) : Prop := ∀ H p z v Q, g p = some z → Rep K (fun _ => True) H p v → (∀ w, Atom K z w → Q w H) → r [v] H Q
theorem read1 {r : List V → Hp → VK → Prop} {m : Mode} {g : PV → Option OT} (hg : Call1 X.K r m g) {σ : L2.St} {H : Hp} {Q : VK} (h : tO X.K C W (oUn g f) σ H Q) :
    tCons (tE X.K C W m f) tNil σ H fun vs H1 => r vs H1 Q := by
  obtain ⟨ρ, fp, eo, o⟩ := h
  refine ⟨ρ, fp, eo, (Out.bind o).mono (fun p o1 v H1 s1 r1 => ?_) fun _ _ q => q⟩
  obtain ⟨t, ht, hQ⟩ := Out.ofO o1
  exact hg C fp H1 p t v Q ht r1 (KO.later hQ s1)
theorem read1A {r : List V → Hp → VK → Prop} {g : PV → Option PV} (hg : Call1A X.K r g) {σ : L2.St} {H : Hp} {Q : VK} (h : tE X.K C W m (eUn g f) σ H Q) :
    tCons (tE X.K C W m1 f) tNil σ H fun vs H1 => r vs H1 Q := by
  obtain ⟨ρ, fp, eo, o⟩ := h
  refine ⟨ρ, fp, eo, (Out.bind o).mono (fun p o1 v H1 s1 r1 => ?_) fun _ _ q => q⟩
  obtain ⟨t, ht, hQ⟩ := Out.ofO o1
  exact hg H1 p t v Q ht (RepM.toB r1) fun w a => hQ w H1 s1 a.rm
variable {nid : String} {x : Str} {r : List V → Hp → VK → Prop} {g : PV → Option OT} {gA : PV → Option PV}
theorem oj_call1 (hc : CallR X (.builtin nid) r) (hg : Call1 X.K r m g) (hl : Gl X x) (hm : X.mg x = none) (hv : bootBuiltins x = some (.builtin nid)) (h : EJ X C W m e f) (hn : x ≠ "__name__" := by decide) (hdb : (x == ("__debug__" : Str)) = false := by decide)
    (he : starEach [e] X.env = (false, eval e X.env) :: starEach [] X.env := by rfl) (hpl : (backTo pos (starEach [] X.env)).any (·.1) = false := by rfl) : OJ X C W (.Call (.Name x pn) [e] [] pos) (oUn g f) :=
  pe_weak (pe_callB hc hl hm hv (pa_cons h pa_nil he) hn hdb he hpl) fun σ H Q h => read1 hg h
theorem ej_call1 (hc : CallR X (.builtin nid) r) (hg : Call1A X.K r gA) (hl : Gl X x) (hm : X.mg x = none) (hv : bootBuiltins x = some (.builtin nid)) (h : EJ X C W m1 e f) (hn : x ≠ "__name__" := by decide) (hdb : (x == ("__debug__" : Str)) = false := by decide)
    (he : starEach [e] X.env = (false, eval e X.env) :: starEach [] X.env := by rfl) (hpl : (backTo pos (starEach [] X.env)).any (·.1) = false := by rfl) : EJ X C W m (.Call (.Name x pn) [e] [] pos) (eUn gA f) :=
  pe_weak (pe_callB hc hl hm hv (pa_cons h pa_nil he) hn hdb he hpl) fun σ H Q h => read1A hg h
theorem oj_callT1 (hc : CallR X (.type nid) r) (hg : Call1 X.K r m g) (hl : Gl X x) (hm : X.mg x = none) (hv : bootBuiltins x = some (.type nid)) (h : EJ X C W m e f) (hn : x ≠ "__name__" := by decide) (hdb : (x == ("__debug__" : Str)) = false := by decide)
    (he : starEach [e] X.env = (false, eval e X.env) :: starEach [] X.env := by rfl) (hpl : (backTo pos (starEach [] X.env)).any (·.1) = false := by rfl) : OJ X C W (.Call (.Name x pn) [e] [] pos) (oUn g f) :=
  pe_weak (pe_callTy hc hl hm hv (pa_cons h pa_nil he) hn hdb he hpl) fun σ H Q h => read1 hg h
theorem ej_callT1 (hc : CallR X (.type nid) r) (hg : Call1A X.K r gA) (hl : Gl X x) (hm : X.mg x = none) (hv : bootBuiltins x = some (.type nid)) (h : EJ X C W m1 e f) (hn : x ≠ "__name__" := by decide) (hdb : (x == ("__debug__" : Str)) = false := by decide)
    (he : starEach [e] X.env = (false, eval e X.env) :: starEach [] X.env := by rfl) (hpl : (backTo pos (starEach [] X.env)).any (·.1) = false := by rfl) : EJ X C W m (.Call (.Name x pn) [e] [] pos) (eUn gA f) :=
  pe_weak (pe_callTy hc hl hm hv (pa_cons h pa_nil he) hn hdb he hpl) fun σ H Q h => read1A hg h

/-- len -/
def gLen : PV → Option PV
  | .str x => if x.length ≤ sizeLine then some (.int x.length) else none
  | .lst ps => some (.int ps.length)
  | .rol ps => some (.int ps.length)
  | .tup ps => some (.int ps.length)
  | _ => none
theorem c_len : Call1A X.K (fun xs H Q => ∃ x n, xs = [x] ∧ LenV X.K x H n ∧ Q (.int n) H) gLen := fun H p z v Q hg r k => by
  cases p <;> simp only [gLen, Option.some.injEq, reduceCtorEq] at hg
  · split at hg
    · rename_i h
      cases hg
      exact ⟨v, _, rfl, by rw [show v = .str (mkS _) from r]; exact ⟨by rw [mkS_length]; exact h, (mkS_length _).symm⟩, k _ (atom_int _)⟩
    · cases hg
  · subst hg; obtain ⟨a, xs, rfl, ha, rr⟩ := r; exact ⟨_, _, rfl, .inr ⟨xs, SqT.of ha, rr.length.symm⟩, k _ (atom_int _)⟩
  · subst hg; obtain ⟨a, xs, rfl, _, ha, rr⟩ := r; exact ⟨_, _, rfl, .inl ⟨xs, SqL.of ha, rr.length.symm⟩, k _ (atom_int _)⟩
  · subst hg; obtain ⟨a, xs, rfl, ha, rr⟩ := r; exact ⟨_, _, rfl, .inl ⟨xs, ha.sq, rr.length.symm⟩, k _ (atom_int _)⟩
/-- list(..), tuple(..) -/
def gList : PV → Option OT
  | .lst ps => some (.l ps)
  | .rol ps => some (.l ps)
  | .tup ps => some (.l ps)
  | _ => none
theorem c_list : Call1 X.K (fun xs H Q => ∃ p ys, xs = [.ref p] ∧ (SqL X.K H p ys ∨ SqT X.K H p ys) ∧ ∀ l, H l = none → Q (.ref l) (upd H l (.lst ys))) .I gList := fun C fp H p t v Q hg r k => by
  cases p <;> simp only [gList, Option.some.injEq, reduceCtorEq] at hg
  · subst hg; obtain ⟨a, xs, rfl, ha, rr⟩ := r; exact ⟨a, xs, rfl, .inr (SqT.of ha), k.l rr⟩
  · subst hg; obtain ⟨a, xs, rfl, ha, rr⟩ := r; exact ⟨a, xs, rfl, .inl (SqL.of ha), k.l rr⟩
  · subst hg; obtain ⟨a, xs, rfl, ha, rr⟩ := r; exact ⟨a, xs, rfl, .inl ha.sq, k.l rr⟩
def gTuple : PV → Option OT
  | .lst ps => some (.fz (.tup ps))
  | .rol ps => some (.fz (.tup ps))
  | .tup ps => some (.fz (.tup ps))
  | _ => none
theorem c_tuple : Call1 X.K (fun xs H Q => ∃ p ys, xs = [.ref p] ∧ ((SqL X.K H p ys ∧ ∀ l, H l = none → Q (.ref l) (upd H l (.tup ys))) ∨ (SqT X.K H p ys ∧ Q (.ref p) H))) .I gTuple := fun C fp H p t v Q hg r k => by
  cases p <;> simp only [gTuple, Option.some.injEq, reduceCtorEq] at hg
  · subst hg; obtain ⟨a, xs, rfl, ha, rr⟩ := r; exact ⟨a, xs, rfl, .inr ⟨SqT.of ha, k.rep ⟨a, xs, rfl, ha, rr⟩⟩⟩
  · subst hg; obtain ⟨a, xs, rfl, ha, rr⟩ := r; exact ⟨a, xs, rfl, .inl ⟨SqL.of ha, k.t rr⟩⟩
  · subst hg; obtain ⟨a, xs, rfl, ha, rr⟩ := r; exact ⟨a, xs, rfl, .inl ⟨ha.sq, k.t rr⟩⟩
/-- int(..), str(..) of a whole number -/
def gInt : PV → Option PV
  | .int i => some (.int i)
  | .bl b => some (.int (if b then 1 else 0))
  | _ => none
theorem c_int : Call1A X.K (fun xs H Q => (∃ i, xs = [.int i] ∧ Q (.int i) H) ∨ ∃ k, xs = [.bl k] ∧ Q (.int (if k then 1 else 0)) H) gInt := fun H p z v Q hg r k => by
  cases p <;> simp only [gInt, Option.some.injEq, reduceCtorEq] at hg
  · subst hg; exact .inr ⟨_, by rw [show v = .bl _ from r], k _ (atom_int _)⟩
  · subst hg; exact .inl ⟨_, by rw [show v = .int _ from r], k _ (atom_int _)⟩
theorem char_lt (c : Char) : c.toNat < 1114112 := by
  have h := c.valid
  simp only [UInt32.isValidChar, Nat.isValidChar] at h
  have : c.toNat = c.val.toNat := rfl
  omega
/-- a text of Lean's -/
def txt (s : String) : Tx := s.toList.map fun c => ⟨c.toNat, char_lt c⟩
theorem mkS_txt (s : String) : mkS (txt s) = Str.ofString s := by
  rw [Str.ofString_eq_toList, mkS, txt, List.map_map]
  rfl
def gStr : PV → Option PV
  | .int i => if i.natAbs.log2 < 1920 then some (.str (txt (toString i))) else none
  | _ => none
theorem c_str : Call1A X.K (fun xs H Q => ∃ i, xs = [.int i] ∧ i.natAbs.log2 < 1920 ∧ Q (.str (toString i)) H) gStr := fun H p z v Q hg r k => by
  cases p <;> simp only [gStr, reduceCtorEq] at hg
  split at hg
  · rename_i h
    cases hg
    exact ⟨_, by rw [show v = .int _ from r], h, k _ (by rw [← mkS_txt]; exact atom_str _)⟩
  · cases hg
/-- all, any of truths -/
def bools : List PV → Option (List Bool)
  | [] => some []
  | .bl b :: ps => (bools ps).map (b :: ·)
  | _ :: _ => none
theorem reps_bools {K : PySem.W.Frag} {A : Addr → Prop} {H : Hp} : ∀ {ps : List PV} {vs : List V} {bs : List Bool}, Reps K A H ps vs → bools ps = some bs → vs = bs.map V.bl
  | [], _, _, r, h => by
    rw [show _ = [] from r]
    simp only [bools, Option.some.injEq] at h
    rw [← h]; rfl
  | p :: ps, _, bs, r, h => by
    obtain ⟨x, t, rfl, r1, r2⟩ := r
    cases p <;> simp only [bools, reduceCtorEq] at h
    cases e : bools ps with
    | none => rw [e] at h; cases h
    | some cs =>
      rw [e] at h; cases h
      rw [show x = .bl _ from r1, reps_bools r2 e]; rfl
def gAll : PV → Option PV
  | .lst ps => (bools ps).map fun bs => .bl (bs.all id)
  | _ => none
def gAny : PV → Option PV
  | .lst ps => (bools ps).map fun bs => .bl (bs.any id)
  | _ => none
theorem c_all : Call1A X.K (rAll X.K) gAll := fun H p z v Q hg r k => by
  cases p <;> simp only [gAll, reduceCtorEq] at hg
  rename_i ps
  obtain ⟨a, xs, rfl, _, ha, rr⟩ := r
  cases e : bools ps with
  | none => rw [e] at hg; cases hg
  | some bs =>
    rw [e] at hg; cases hg
    exact ⟨a, bs, rfl, by rw [← reps_bools rr e]; exact SqL.of ha, k _ (atom_bl _)⟩
theorem c_any : Call1A X.K (rAny X.K) gAny := fun H p z v Q hg r k => by
  cases p <;> simp only [gAny, reduceCtorEq] at hg
  rename_i ps
  obtain ⟨a, xs, rfl, _, ha, rr⟩ := r
  cases e : bools ps with
  | none => rw [e] at hg; cases hg
  | some bs =>
    rw [e] at hg; cases hg
    exact ⟨a, bs, rfl, by rw [← reps_bools rr e]; exact SqL.of ha, k _ (atom_bl _)⟩

/-! ### isinstance(x, T), T a built-in type -/
inductive Ty where
  | int | bool | str | list | tuple | dict
def Ty.name : Ty → String
  | .int => "int" | .bool => "bool" | .str => "str" | .list => "list" | .tuple => "tuple" | .dict => "dict"
def isT (t : Ty) : PV → Option PV
  | .non => some (.bl false)
  | .bl _ => some (.bl (match t with | .bool => true | .int => true | _ => false))
  | .int _ => some (.bl (match t with | .int => true | _ => false))
  | .str _ => some (.bl (match t with | .str => true | _ => false))
  | .tup _ => some (.bl (match t with | .tuple => true | _ => false))
  | .lst _ => some (.bl (match t with | .list => true | _ => false))
  | .dic _ => some (.bl (match t with | .dict => true | _ => false))
  | _ => none
theorem kitTab : ∀ t : Ty, kitB "NoneType" t.name = some false ∧ kitB "bool" t.name = some (match t with | .bool => true | .int => true | _ => false) ∧ kitB "int" t.name = some (match t with | .int => true | _ => false) ∧
    kitB "str" t.name = some (match t with | .str => true | _ => false) ∧ kitB "tuple" t.name = some (match t with | .tuple => true | _ => false) ∧ kitB "list" t.name = some (match t with | .list => true | _ => false) ∧
    kitB "dict" t.name = some (match t with | .dict => true | _ => false) := by
  intro t
  cases t <;> decide +kernel
theorem isT_ok {t : Ty} {K : PySem.W.Frag} {H : Hp} {p z : PV} {v : V} (hg : isT t p = some z) (r : Rep K (fun _ => True) H p v) : ∃ b n, z = .bl b ∧ TyX K H v (.type n) ∧ kitB n t.name = some b := by
  obtain ⟨k1, k2, k3, k4, k5, k6, k7⟩ := kitTab t
  cases p <;> simp only [isT, Option.some.injEq, reduceCtorEq] at hg <;> subst hg
  · rw [show v = .non from r]; exact ⟨_, _, rfl, .base .non, k1⟩
  · rw [show v = .bl _ from r]; exact ⟨_, _, rfl, .base (.bl _), k2⟩
  · rw [show v = .int _ from r]; exact ⟨_, _, rfl, .base (.int _), k3⟩
  · rw [show v = .str _ from r]; exact ⟨_, _, rfl, .base (.str _), k4⟩
  · obtain ⟨a, xs, rfl, ha, _⟩ := r; exact ⟨_, _, rfl, .base (.tup ha), k5⟩
  · obtain ⟨a, xs, rfl, _, ha, _⟩ := r; exact ⟨_, _, rfl, .base (.lst ha), k6⟩
  · obtain ⟨a, xs, rfl, _, ha | ⟨o, ha⟩, _⟩ := r
    · exact ⟨_, _, rfl, .base (.dK ha), k7⟩
    · exact ⟨_, _, rfl, .fDict ha, k7⟩
theorem ej_isi (t : Ty) {ps : Str} {px : Pos} (hg : Gl X "isinstance") (hm : X.mg "isinstance" = none) (hgT : Gl X ps) (hmT : X.mg ps = none) (hvT : bootBuiltins ps = some (.type t.name)) (h : EJ X C W m1 e f) (hn : ps ≠ "__name__" := by decide) (hd : (ps == ("__debug__" : Str)) = false := by decide)
    (he : starEach [e, .Name ps px] X.env = (false, eval e X.env) :: starEach [.Name ps px] X.env := by rfl) (he2 : starEach [.Name ps px] X.env = (false, eval (.Name ps px) X.env) :: starEach [] X.env := by rfl) (hpl : (backTo pos (starEach [.Name ps px] X.env)).any (·.1) = false := by rfl) :
    EJ X C W m (.Call (.Name "isinstance" pn) [e, .Name ps px] [] pos) (eUn (isT t) f) :=
  pe_weak (pe_callB call_isi hg hm (by decide +kernel) (pa_cons h (pa_cons (pe_bltn (v := .ty t.name) hgT hmT hvT rfl hn hd) pa_nil he2) he) (by decide) (by decide) he hpl) fun σ H Q ⟨ρ, fp, eo, o⟩ => by
    refine ⟨ρ, fp, eo, (Out.bind o).mono (fun p o1 v H1 s1 r1 => ?_) fun _ _ q => q⟩
    obtain ⟨z, hz, hQ⟩ := Out.ofO o1
    obtain ⟨b, n, rfl, ty, kb⟩ := isT_ok hz (RepM.toB r1)
    exact ⟨v, .ty t.name, .type n, .type t.name, b, rfl, .ty _, ty, kit_ty kb, hQ _ H1 s1 (atom_bl _).rm⟩
end
end Fz
end
section
/-! FwH: targets, statements, loops, comprehensions. -/
namespace Fz
open PySem PySem.Spec PyProof.Rows L2
section
variable {X : Cx} {C : Addr → Prop} {W : WX} {e e1 e2 e3 tg iter : Expr} {pos p2 pn : Pos} {m m1 m2 m3 : Mode} {f f1 f2 f3 : E} {fo : O}

/-! ### targets: common values -/
abbrev G := PV → Env → Option Env
/-- all but these slots are as they were -/
def But (vs : List Nat) (σ σ' : L2.St) : Prop := σ'.length = σ.length ∧ ∀ i, i ∉ vs → σ'[i]? = σ[i]?
theorem But.trans {vs : List Nat} {σ σ' σ2 : L2.St} (a : But vs σ σ') (b : But vs σ' σ2) : But vs σ σ2 := ⟨b.1.trans a.1, fun i h => (b.2 i h).trans (a.2 i h)⟩
theorem wipe_get (σ : L2.St) (i : Nat) : ∀ {vs : List Nat}, (wipe σ vs)[i]? = if i ∈ vs ∧ i < σ.length then some none else σ[i]?
  | [] => by simp [wipe]
  | v :: vs => by
    simp only [wipe]
    by_cases h : i = v
    · subst h
      by_cases hl : i < σ.length
      · rw [List.getElem?_set_self (by rw [wipe_length]; exact hl)]; simp [hl]
      · rw [List.getElem?_eq_none (by rw [List.length_set, wipe_length]; omega), List.getElem?_eq_none (by omega)]; simp [hl]
    · rw [List.getElem?_set_ne (Ne.symm h), wipe_get σ i]
      simp [h]
theorem But.wipe {vs : List Nat} {σ σ' : L2.St} (b : But vs σ σ') : L2.wipe σ' vs = L2.wipe σ vs := by
  refine List.ext_getElem? fun i => ?_
  rw [wipe_get, wipe_get, b.1]
  by_cases h : i ∈ vs
  · by_cases hl : i < σ.length
    · rw [if_pos ⟨h, hl⟩, if_pos ⟨h, hl⟩]
    · rw [if_neg (fun q => hl q.2), if_neg (fun q => hl q.2), List.getElem?_eq_none (by rw [b.1]; omega), List.getElem?_eq_none (by omega)]
  · rw [if_neg (fun q => h q.1), if_neg (fun q => h q.1), b.2 i h]
def tGt (vs : List Nat) (K : PySem.W.Frag) (C : Addr → Prop) (g : G) : TG := fun v σ H Q => ∃ ρ fp p ρ', EnvOk K C ρ σ H fp ∧ Rep K (Am C fp) H p v ∧ g p ρ = some ρ' ∧ ∀ σ' fp', EnvOk K C ρ' σ' H fp' → Grow H fp H fp' → But vs σ σ' → (∀ j, j ∉ vs → fp' j = fp j) → Q σ' H
def GJ (X : Cx) (C : Addr → Prop) (vs : List Nat) (e : Expr) (g : G) : Prop := PG X e (tGt vs X.K C g)
abbrev Gs := List PV → Env → Option Env
def tGts (is : List Nat) (K : PySem.W.Frag) (C : Addr → Prop) (g : Gs) : TGs := fun vs σ H Q => ∃ ρ fp ps ρ', EnvOk K C ρ σ H fp ∧ Reps K (Am C fp) H ps vs ∧ g ps ρ = some ρ' ∧ ∀ σ' fp', EnvOk K C ρ' σ' H fp' → Grow H fp H fp' → But is σ σ' → (∀ j, j ∉ is → fp' j = fp j) → Q σ' H
def GJs (X : Cx) (C : Addr → Prop) (vs : List Nat) (es : List Expr) (g : Gs) : Prop := PGs X es (tGts vs X.K C g)
theorem pg_weak {t t' : TG} (h : PG X e t) (w : ∀ v σ H Q, t' v σ H Q → t v σ H Q) : PG X e t' := ⟨fun pins s σ H v u Q I r q => h.run pins s σ H v u Q I r (w v σ H Q q)⟩
theorem pgs_weak {es : List Expr} {t t' : TGs} (h : PGs X es t) (w : ∀ v σ H Q, t' v σ H Q → t v σ H Q) : PGs X es t' := ⟨fun pins s σ H v u Q I r q => h.run pins s σ H v u Q I r (w v σ H Q q)⟩
def gNm (i : Nat) : G := fun p ρ => if i < ρ.length then some (ρ.set i (.val p)) else none
theorem gj_name {i : Nat} {x : Str} {vs : List Nat} (hN : X.N.Nodup) (hi : X.N[i]? = some x) (hx : Loc X.env.scope x) (hv : i ∈ vs := by decide) (hf : X.fn x = true ∨ X.env.scope.names.lookup x = some .local := by first | exact .inl rfl | exact .inr rfl | assumption) : GJ X C vs (.Name x pos) (gNm i) :=
  pg_weak (pg_name hN hi hx hf) fun v σ H Q ⟨ρ, fp, p, ρ', eo, r, hg, k⟩ => by
    unfold gNm at hg
    split at hg
    · rename_i hl
      cases hg
      obtain ⟨e1, g1⟩ := eo.setVal hl r
      exact k _ _ e1 g1 ⟨by simp, fun j hj => List.getElem?_set_ne fun z => hj (by rw [← z]; exact hv)⟩ fun j hj => put_ne fun z => hj (by rw [z]; exact hv)
    · cases hg
def gsNil : Gs := fun ps ρ => match ps with
  | [] => some ρ
  | _ => none
def gsCons (g : G) (h : Gs) : Gs := fun ps ρ => match ps with
  | [] => none
  | p :: ps => (g p ρ).bind fun ρ' => h ps ρ'
theorem gjs_nil {vs : List Nat} : GJs X C vs [] gsNil := pgs_weak pgs_nil fun v σ H Q ⟨ρ, fp, ps, ρ', eo, r, hg, k⟩ => by
  cases ps with
  | nil => cases hg; exact ⟨r, k σ fp eo Grow.refl ⟨rfl, fun _ _ => rfl⟩ fun _ _ => rfl⟩
  | cons p ps => cases hg
theorem gjs_cons {es : List Expr} {g : G} {h : Gs} {vs : List Nat} (h1 : GJ X C vs e g) (h2 : GJs X C vs es h) (hs : (assignEach (e :: es) X.env).map (·.2) = assign e X.env :: (assignEach es X.env).map (·.2) := by rfl) : GJs X C vs (e :: es) (gsCons g h) :=
  pgs_weak (pgs_cons h1 h2 hs) fun v σ H Q ⟨ρ, fp, ps, ρ', eo, r, hg, k⟩ => by
    cases ps with
    | nil => cases hg
    | cons p ps =>
      obtain ⟨x, t, rfl, r1, r2⟩ := r
      simp only [gsCons] at hg
      cases e1 : g p ρ with
      | none => rw [e1] at hg; cases hg
      | some ρ1 =>
        rw [e1] at hg
        refine ⟨x, t, rfl, ρ, fp, p, ρ1, eo, r1, e1, fun σ1 fp1 eo1 g1 b1 p1 => ?_⟩
        exact ⟨ρ1, fp1, ps, ρ', eo1, Reps.carry g1.carry r2, hg, fun σ2 fp2 eo2 g2 b2 p2 => k σ2 fp2 eo2 (g1.trans g2) (b1.trans b2) fun j hj => (p2 j hj).trans (p1 j hj)⟩
def gTp (n : Nat) (h : Gs) : G := fun p ρ => match p with
  | .tup ps => if ps.length = n then h ps ρ else none
  | _ => none
theorem gj_tup {es : List Expr} {k n : Nat} {h : Gs} {vs : List Nat} (hc : X.calm = true) (h1 : GJs X C vs es h) (hn : (assignEach es X.env).length = n := by rfl) (hst : (assignEach es X.env).findIdx? (·.1) = none := by rfl) : GJ X C vs (.Tuple es k pos) (gTp n h) :=
  pg_weak (pg_tup hc h1 hn hst) fun v σ H Q ⟨ρ, fp, p, ρ', eo, r, hg, k⟩ => by
    cases p <;> simp only [gTp, reduceCtorEq] at hg
    split at hg
    · rename_i hl
      obtain ⟨a, xs, rfl, ha, rr⟩ := r
      exact ⟨a, xs, rfl, SqT.of ha, by rw [rr.length]; exact hl, ρ, fp, _, ρ', eo, rr, hg, k⟩
    · cases hg

/-! ### small statements -/
def sAsg (i : Nat) (fo : O) : S := fun ρ => withR (fo ρ) ρ fun t => if i < ρ.length then .nx (ρ.set i (toSlot t)) else .bad
theorem asg_read {i : Nat} {K : PySem.W.Frag} {D : Ends} {σ : L2.St} {H : Hp} (h : tS K C W (sAsg i fo) D σ H) : tO K C W fo σ H fun x H1 => D.nx (σ.set i (some x)) H1 := by
  obtain ⟨ρ, fp, eo, h⟩ := h
  refine ⟨ρ, fp, eo, (FlQ.ofR eo h).mono (fun t q v H' Fn s hn hf r => ?_) fun _ _ q => q⟩
  split at q
  · rename_i hl
    obtain ⟨fp', e', g'⟩ := eo.setOwn hl s r hf hn
    exact q _ _ fp' e' g'
  · exact q.elim
theorem sj_asg {i : Nat} {x : Str} {pos' : Pos} (hN : X.N.Nodup) (hi : X.N[i]? = some x) (hx : Loc X.env.scope x) (he : OJ X C W e fo) (hs : swapsWith e (some (.Name x pos')) pos.line X.env = pure false := by rfl)
    (hf : X.fn x = true ∨ X.env.scope.names.lookup x = some .local := by first | exact .inl rfl | exact .inr rfl | assumption) : SJ X C W (.Assign [.Name x pos'] e pos) (sAsg i fo) :=
  ps_weak (ps_set hN hi hx he hs hf) fun D σ H h => asg_read h
def sAsgT (g : G) (f : E) : S := fun ρ => withR (f ρ) ρ fun p => match g p ρ with
  | some ρ' => .nx ρ'
  | none => .bad
theorem sj_asgT {g : G} {vs : List Nat} (he : EJ X C W .E e f) (hg : GJ X C vs tg g) (hs : swapsWithSole [tg] e pos.line X.env = pure false := by rfl) (hw : swappedStores [tg] e X.env = pure none := by rfl) (h1 : (assignEach [tg] X.env).map (·.2) = [assign tg X.env] := by rfl) : SJ X C W (.Assign [tg] e pos) (sAsgT g f) :=
  ps_weak (ps_asg he hg hs hw h1) fun D σ H ⟨ρ, fp, eo, h⟩ => by
    refine ⟨ρ, fp, eo, (FlQ.ofR eo h).mono (fun p q v H' s r => ?_) fun _ _ q => q⟩
    split at q
    · rename_i ρ' hρ
      exact ⟨ρ, fp, p, ρ', eo.same s, r, hρ, fun σ2 fp2 e2 g2 _ _ => q σ2 _ fp2 e2 ((Grow.same s).trans g2)⟩
    · exact q.elim
/-- names stored from the right, the values ahead of them taken from the left -/
def sPar (i j : Nat) (g : L) : S := fun ρ => withR (g ρ) ρ fun ps => match ps with
  | [p, q] => if i < ρ.length ∧ j < ρ.length ∧ i ≠ j then .nx ((ρ.set i (.val p)).set j (.val q)) else .bad
  | _ => .bad
theorem sj_par {i j n : Nat} {x y : Str} {a b : Expr} {g : L} {px py pt : Pos} {kt k2 : Nat} {pt2 : Pos} (hc : X.calm = true) (hN : X.N.Nodup) (hi : X.N[i]? = some x) (hj : X.N[j]? = some y) (hij : i ≠ j)
    (hx : X.env.scope.names.lookup x = some .local) (hy : X.env.scope.names.lookup y = some .local) (ha : LE X C W [a, b] n g)
    (hw : swappedStores [.Tuple [.Name x px, .Name y py] kt pt] (.Tuple [a, b] k2 pt2) X.env = pure (some [x, y])) (hs : swapsWithSole [.Tuple [.Name x px, .Name y py] kt pt] (.Tuple [a, b] k2 pt2) pos.line X.env = pure false := by rfl) :
    SJ X C W (.Assign [.Tuple [.Name x px, .Name y py] kt pt] (.Tuple [a, b] k2 pt2) pos) (sPar i j g) :=
  ps_weak (ps_par hc hN hi hj hij hx hy ha.1 hw hs) fun D σ H ⟨ρ, fp, eo, h⟩ => by
    refine ⟨ρ, fp, eo, (FlQ.ofR eo h).mono (fun ps q vs H' s r => ?_) fun _ _ q => q⟩
    match ps, q, r with
    | [p1, p2], q, r =>
      obtain ⟨v1, _, rfl, r1, v2, _, rfl, r2, rfl⟩ := r
      refine ⟨v1, v2, rfl, ?_⟩
      simp only at q
      split at q
      · rename_i hl
        obtain ⟨e1, g1⟩ := (eo.same s).setVal hl.1 r1
        obtain ⟨e2, g2⟩ := e1.setVal (i := j) (by simpa using hl.2.1) (Rep.carry g1.carry r2)
        exact q _ _ _ e2 ((Grow.same s).trans (g1.trans g2))
      · exact q.elim
/-- three names -/
def tPar3 (i j l : Nat) (ta : TA) : TS := fun D σ H => ta σ H fun vs H1 => ∃ v1 v2 v3, vs = [v1, v2, v3] ∧ D.nx (((σ.set i (some v1)).set j (some v2)).set l (some v3)) H1
theorem ps_par3 {i j l : Nat} {x y z : Str} {a b c : Expr} {ta : TA} {px py pz pt : Pos} {kt k2 : Nat} {pt2 : Pos} (hc : X.calm = true) (hN : X.N.Nodup) (hi : X.N[i]? = some x) (hj : X.N[j]? = some y) (hl : X.N[l]? = some z) (hij : i ≠ j) (hil : i ≠ l) (hjl : j ≠ l)
    (hx : X.env.scope.names.lookup x = some .local) (hy : X.env.scope.names.lookup y = some .local) (hz : X.env.scope.names.lookup z = some .local) (ha : PA X [a, b, c] ta)
    (hw : swappedStores [.Tuple [.Name x px, .Name y py, .Name z pz] kt pt] (.Tuple [a, b, c] k2 pt2) X.env = pure (some [x, y, z])) (hs : swapsWithSole [.Tuple [.Name x px, .Name y py, .Name z pz] kt pt] (.Tuple [a, b, c] k2 pt2) pos.line X.env = pure false := by rfl) :
    PS X (.Assign [.Tuple [.Name x px, .Name y py, .Name z pz] kt pt] (.Tuple [a, b, c] k2 pt2) pos) (tPar3 i j l ta) := by
  constructor; intro pins s σ H D I0 h
  rw [exec_Assign_arm]
  apply wpAny_bind; apply wpAny_standAt
  rw [hs]; apply wpAny_bind; apply wpAny_pure; rw [if_neg (by decide)]
  refine wpAny_bind (Tuple_ (thn (ha.run _ pins s σ H _ I0 h) fun us s1 hA => ?_))
  obtain ⟨vs, H1, I1, r1, v1, v2, v3, e1, q1⟩ := hA
  subst e1
  obtain ⟨u1, u2, u3, rfl, rv1, rv2, rv3⟩ : ∃ u1 u2 u3, us = [u1, u2, u3] ∧ RelV v1 u1 ∧ RelV v2 u2 ∧ RelV v3 u3 := by
    cases r1 with
    | cons a1 r1 =>
      cases r1 with
      | cons a2 r1 =>
        cases r1 with
        | cons a3 r1 => cases r1; exact ⟨_, _, _, rfl, a1, a2, a3⟩
  refine wpAny_newObj_type ?_ (by show 3 ≤ sizeLine; decide)
  have I2 : L2.Inv X pins σ H1 { s1 with heap := s1.heap.push { cls := .type "tuple", data := .seq [u1, u2, u3].toArray } } := I1.kept (t' := s1.toks) fun b o e => Heap.get?_push_of_some _ e
  rw [hw]; apply wpAny_bind; apply wpAny_pure
  show wpAny (model X.prog X.w) X.A (do rule "assign.swapped-stores"; let items ← unpackItems (.ref s1.heap.objs.size) 3 none; assignInOrder [fun v => bindName X.env z v, fun v => bindName X.env y v, fun v => bindName X.env x v] items.reverse; pure Flow.next) _ _ _
  refine wpAny_bind (wpAny_rule (wpAny_bind (unpackItems_tuple (items := #[u1, u2, u3]) (I0.ok.hd hc) (IsTup.new s1.heap _) fun h' hx' => ?_)))
  have I3 := I2.kept (h' := h') (t' := s1.toks) fun b o e => hx' b o (Nat.ne_of_lt (Heap.lt_size e)) e
  show wpAny _ _ (assignInOrder [fun v => bindName X.env z v, fun v => bindName X.env y v, fun v => bindName X.env x v] [u3, u2, u1] >>= fun _ => pure Flow.next) _ _ _
  refine wpAny_bind (assignInOrder_cons (wpAny_bindName (store_ok I3 hN hl (.inl hz) rv3 (fun s2 I4 => ?_) (.inr hz))))
  refine assignInOrder_cons (wpAny_bindName (store_ok I4 hN hj (.inl hy) rv2 (fun s3 I5 => ?_) (.inr hy)))
  refine assignInOrder_cons (wpAny_bindName (store_ok I5 hN hi (.inl hx) rv1 (fun s4 I6 => assignInOrder_nil (wpAny_pure ?_)) (.inr hx)))
  have e : ((σ.set l (some v3)).set j (some v2)).set i (some v1) = ((σ.set i (some v1)).set j (some v2)).set l (some v3) := by
    rw [List.set_comm (some v2) (some v1) (Ne.symm hij), List.set_comm (some v3) (some v1) (Ne.symm hil), List.set_comm (some v3) (some v2) (Ne.symm hjl)]
  rw [e] at I6
  exact ⟨_, H1, I6, q1⟩
def sPar3 (i j l : Nat) (g : L) : S := fun ρ => withR (g ρ) ρ fun ps => match ps with
  | [p, q, r] => if i < ρ.length ∧ j < ρ.length ∧ l < ρ.length then .nx (((ρ.set i (.val p)).set j (.val q)).set l (.val r)) else .bad
  | _ => .bad
theorem sj_par3 {i j l n : Nat} {x y z : Str} {a b c : Expr} {g : L} {px py pz pt : Pos} {kt k2 : Nat} {pt2 : Pos} (hc : X.calm = true) (hN : X.N.Nodup) (hi : X.N[i]? = some x) (hj : X.N[j]? = some y) (hl : X.N[l]? = some z) (hij : i ≠ j) (hil : i ≠ l) (hjl : j ≠ l)
    (hx : X.env.scope.names.lookup x = some .local) (hy : X.env.scope.names.lookup y = some .local) (hz : X.env.scope.names.lookup z = some .local) (ha : LE X C W [a, b, c] n g)
    (hw : swappedStores [.Tuple [.Name x px, .Name y py, .Name z pz] kt pt] (.Tuple [a, b, c] k2 pt2) X.env = pure (some [x, y, z])) (hs : swapsWithSole [.Tuple [.Name x px, .Name y py, .Name z pz] kt pt] (.Tuple [a, b, c] k2 pt2) pos.line X.env = pure false := by rfl) :
    SJ X C W (.Assign [.Tuple [.Name x px, .Name y py, .Name z pz] kt pt] (.Tuple [a, b, c] k2 pt2) pos) (sPar3 i j l g) :=
  ps_weak (ps_par3 hc hN hi hj hl hij hil hjl hx hy hz ha.1 hw hs) fun D σ H ⟨ρ, fp, eo, h⟩ => by
    refine ⟨ρ, fp, eo, (FlQ.ofR eo h).mono (fun ps q vs H' s r => ?_) fun _ _ q => q⟩
    match ps, q, r with
    | [p1, p2, p3], q, r =>
      obtain ⟨v1, _, rfl, r1, v2, _, rfl, r2, v3, _, rfl, r3, rfl⟩ := r
      refine ⟨v1, v2, v3, rfl, ?_⟩
      simp only at q
      split at q
      · rename_i hl
        obtain ⟨e1, g1⟩ := (eo.same s).setVal hl.1 r1
        obtain ⟨e2, g2⟩ := e1.setVal (i := j) (by simpa using hl.2.1) (Rep.carry g1.carry r2)
        obtain ⟨e3, g3⟩ := e2.setVal (i := l) (by simpa using hl.2.2) (Rep.carry (g1.trans g2).carry r3)
        exact q _ _ _ e3 ((Grow.same s).trans ((g1.trans g2).trans g3))
      · exact q.elim
def sFrz (i : Nat) : S := fun ρ => match ρ[i]? with
  | some (.own t) => .nx (ρ.set i (.val t.pv))
  | _ => .nx ρ
/-- ahead of a statement a name may let go -/
theorem sj_frz {st : Stmt} {s : S} (i : Nat) (h : SJ X C W st s) : SJ X C W st (sSeq (sFrz i) s) := ps_weak h fun D σ H ⟨ρ, fp, eo, h⟩ => by
  unfold sSeq sFrz at h
  split at h
  · rename_i t ht
    obtain ⟨e1, g1⟩ := eo.freeze ht
    exact ⟨_, _, e1, FlQ.later g1 h⟩
  · exact ⟨ρ, fp, eo, h⟩
/-- a name that can't be seen is no more its own -/
def sDrop (fo : O) : S := fun ρ => withR (fo ρ) ρ fun _ => .nx ρ
theorem sj_expr (he : OJ X C W e fo) (hs : swapsWith e none pos.line X.env = pure false := by rfl) : SJ X C W (.Expr e pos) (sDrop fo) := ps_weak (ps_expr he hs) fun D σ H ⟨ρ, fp, eo, h⟩ =>
  ⟨ρ, fp, eo, (FlQ.ofR eo h).mono (fun t q v H' Fn s hn hf r => q σ H' fp (eo.same s) (Grow.same s)) fun _ _ q => q⟩
theorem sj_pass : SJ X C W (.Pass pos) sNil := ps_weak ps_pass fun D σ H ⟨ρ, fp, eo, h⟩ => h σ H fp eo Grow.refl
def sBrk : S := fun ρ => .bk ρ
def sCnt : S := fun ρ => .ct ρ
theorem sj_break : SJ X C W (.Break pos) sBrk := ps_weak ps_break fun D σ H ⟨ρ, fp, eo, h⟩ => h σ H fp eo Grow.refl
theorem sj_continue : SJ X C W (.Continue pos) sCnt := ps_weak ps_continue fun D σ H ⟨ρ, fp, eo, h⟩ => h σ H fp eo Grow.refl
def sRet (fo : O) : S := fun ρ => withR (fo ρ) ρ fun t => .rt t
theorem sj_ret (he : OJ X C W e fo) : SJ X C W (.Return (some e) pos) (sRet fo) := ps_weak (ps_ret he) fun D σ H ⟨ρ, fp, eo, h⟩ =>
  ⟨ρ, fp, eo, (FlQ.ofR eo h).mono (fun t q v H' Fn s hn hf r => q v H' Fn (by
    have g := Grow.same (fp := fp) s
    exact ⟨g.keep, g.tups, g.frz, g.more, fun a h => by obtain ⟨_, h⟩ := h; cases h⟩) hn (fun a ha => .inr (hf a ha)) (r.carry (Carry.refl fun a _ q _ => ⟨q.1.1, q.2⟩) fun _ _ _ q => q)) fun _ _ q => q⟩
def sRetN : S := fun _ => .rt (.fz .non)
theorem grow_end {H H' : Hp} {fp fp' : Fp} (g : Grow H fp H' fp') : Grow H fp H' (fun _ => []) := ⟨g.keep, g.tups, g.frz, g.more, fun a h => by obtain ⟨_, h⟩ := h; cases h⟩
theorem sj_retN : SJ X C W (.Return none pos) sRetN := ps_weak ps_retN fun D σ H ⟨ρ, fp, eo, h⟩ => h .non H [] (grow_end Grow.refl) List.nodup_nil (fun _ h => nomatch h) ⟨rfl, rfl⟩
/-- return x: what x alone held is handed on -/
def sRetV (i : Nat) : S := fun ρ => match ρ[i]? with
  | some (.own t) => .rt t
  | some (.val p) => .rt (.fz p)
  | some (.bor p) => if immut p then .rt (.fz p) else .bad
  | _ => .bad
theorem sj_retV {i : Nat} {x : Str} {pos' : Pos} (hN : X.N[i]? = some x) (hv : Vis X.env.scope x) (hd : (x == ("__debug__" : Str)) = false := by decide) (hcd : (x == ("__classdict__" : Str)) = false := by decide) : SJ X C W (.Return (some (.Name x pos')) pos) (sRetV i) :=
  ps_weak (ps_ret (pe_var hN hv hd hcd)) fun D σ H ⟨ρ, fp, eo, h⟩ => by
    have hs := eo.slot i
    unfold sRetV at h
    cases e : ρ[i]? with
    | none => rw [e] at h; exact h.elim
    | some sl =>
      rw [e] at h
      have hs := hs sl e
      cases sl with
      | u => exact h.elim
      | val p =>
        obtain ⟨_, v, hv, r⟩ := hs
        exact ⟨v, hv, h v H [] (grow_end Grow.refl) List.nodup_nil (fun _ h => nomatch h) ⟨rfl, Rep.sub (fun a q => ⟨q.1, fun z => nomatch z⟩) r⟩⟩
      | bor p =>
        obtain ⟨_, v, hv, r⟩ := hs
        simp only at h
        split at h
        · rename_i hi
          exact ⟨v, hv, h v H [] (grow_end Grow.refl) List.nodup_nil (fun _ h => nomatch h) ⟨rfl, Rep.immut hi r⟩⟩
        · exact h.elim
      | own t =>
        obtain ⟨v, hv, r⟩ := hs
        exact ⟨v, hv, h v H (fp i) (grow_end Grow.refl) (eo.nod i) (fun a ha => .inl ⟨i, ha⟩) (r.carry (Carry.refl fun a _ q _ => ⟨q.1, fun z => q.2 ⟨i, z⟩⟩) fun _ _ _ q => q)⟩
def sIf (t : T) (s1 s2 : S) : S := fun ρ => withR (t ρ) ρ fun b => if b = true then s1 ρ else s2 ρ
theorem sj_if {t : T} {a b : List Stmt} {s1 s2 : S} (ht : TJ X C W e t) (h1 : BJ X C W a s1) (h2 : BJ X C W b s2) : SJ X C W (.If e a b pos) (sIf t s1 s2) := ps_weak (ps_if ht h1 h2) fun D σ H ⟨ρ, fp, eo, h⟩ => by
  refine ⟨ρ, fp, eo, (FlQ.ofR eo h).mono (fun b q H' s => ?_) fun _ _ q => q⟩
  cases b with
  | true => exact ⟨ρ, fp, eo.same s, FlQ.later (Grow.same s) q⟩
  | false => exact ⟨ρ, fp, eo.same s, FlQ.later (Grow.same s) q⟩

/-! ### what is walked -/
/-- J yields the items, as long as rel says that what is walked stands -/
def IterOk (K : PySem.W.Frag) (A : Addr → Prop) (H0 : Hp) (rel : Hp → Prop) (J : It) (items : List PV) : Prop :=
  ∀ H (B : Addr → Prop), rel H → Carry A B H0 H → ∀ i, (∀ p, items[i]? = some p → J.go i H ∧ ∀ x H', J.yld i H x H' → Same H H' ∧ Rep K B H' p x) ∧ (items.length ≤ i → J.stop i H)
/-- any step; steps that change nothing -/
def relG (H : Hp) (fp : Fp) : Hp → Prop := fun H' => (∀ a o, H a = some o → ¬ InF fp a → H' a = some o) ∧ (∀ a xs, H a = some (.tup xs) → H' a = some (.tup xs)) ∧ ∀ a o u, H a = some (.frz o u) → H' a = some (.frz o u)
def relS (H : Hp) (fp : Fp) : Hp → Prop := fun H' => Same H H'
def tI (K : PySem.W.Frag) (C : Addr → Prop) (W : WX) (rel : Hp → Fp → Hp → Prop) (f : L) : TI := fun σ H R => ∃ ρ fp, EnvOk K C ρ σ H fp ∧ Out (f ρ) (fun items => ∀ J H', Same H H' → IterOk K (Am C fp) H' (rel H' fp) J items → R J H') (XQ K W σ H)
def IJ (X : Cx) (C : Addr → Prop) (W : WX) (rel : Hp → Fp → Hp → Prop) (tg iter : Expr) (f : L) : Prop := PI X tg iter (tI X.K C W rel f)
theorem pi_weak {t t' : TI} (h : PI X tg iter t) (w : ∀ σ H R, t' σ H R → t σ H R) : PI X tg iter t' := ⟨fun pins s σ H R I q => h.run pins s σ H R I (w σ H R q)⟩
theorem pi_or {t t' : TI} (h : PI X tg iter t) (h' : PI X tg iter t') : PI X tg iter (fun σ H R => t σ H R ∨ t' σ H R) := ⟨fun pins s σ H R I q => q.elim (h.run pins s σ H R I) (h'.run pins s σ H R I)⟩
/-- the items of a list, a tuple -/
def itemsOf : PV → Res (List PV)
  | .lst ps => .ok ps
  | .rol ps => .ok ps
  | .tup ps => .ok ps
  | _ => .bad
def lOf (f : E) : L := fun ρ => f ρ >>= itemsOf
theorem iter_list {K : PySem.W.Frag} {A : Addr → Prop} {H0 : Hp} {rel : Hp → Prop} {a : Addr} {ps : List PV} {xs : List V} (r : Reps K A H0 ps xs) (h : ∀ H, rel H → SqL K H a xs) : IterOk K A H0 rel (Itl K a) ps := fun H B hr c i => by
  have h1 := h H hr
  have h2 := Reps.carry c r
  refine ⟨fun p hp => ?_, fun hi => ⟨xs, h1, by rw [h2.length]; exact hi⟩⟩
  obtain ⟨v, hv, r⟩ := h2.get hp
  refine ⟨⟨xs, v, h1, hv⟩, fun x H' ⟨e1, e2⟩ => ?_⟩
  have := e2 xs h1
  rw [hv] at this; cases this
  subst e1
  exact ⟨Same.refl _, r⟩
theorem iter_tup {K : PySem.W.Frag} {A : Addr → Prop} {H0 : Hp} {rel : Hp → Prop} {a : Addr} {ps : List PV} {xs : List V} (r : Reps K A H0 ps xs) (h : ∀ H, rel H → SqT K H a xs) : IterOk K A H0 rel (Itt K a) ps := fun H B hr c i => by
  have h1 := h H hr
  have h2 := Reps.carry c r
  refine ⟨fun p hp => ?_, fun hi => ⟨xs, h1, by rw [h2.length]; exact hi⟩⟩
  obtain ⟨v, hv, r⟩ := h2.get hp
  refine ⟨⟨xs, v, h1, hv⟩, fun x H' ⟨e1, e2⟩ => ?_⟩
  have := e2 xs h1
  rw [hv] at this; cases this
  subst e1
  exact ⟨Same.refl _, r⟩
def isTupP : PV → Bool
  | .tup _ => true
  | _ => false
/-- a sequence that stands -/
def Stands (K : PySem.W.Frag) (A : Addr → Prop) (H0 : Hp) (rel : Hp → Prop) (p : PV) (v : V) (ps : List PV) : Prop :=
  ∃ a xs, v = .ref a ∧ Reps K A H0 ps xs ∧ (isTupP p = false → ∀ H, rel H → SqL K H a xs) ∧ (isTupP p = true → ∀ H, rel H → SqT K H a xs)
theorem ro_rel {K : PySem.W.Frag} {H H' : Hp} (h : ∀ a o u, H a = some (.frz o u) → H' a = some (.frz o u)) {a : Addr} {xs : List V} (r : RoAt K H a xs) : SqL K H' a xs := r.elim (fun ⟨o, q⟩ => .inl (.inr ⟨o, h _ _ _ q⟩)) .inr
theorem seq_stands {K : PySem.W.Frag} {H0 : Hp} {fp0 : Fp} {p : PV} {v : V} {ps : List PV} (r : Rep K (Am C fp0) H0 p v) (h : itemsOf p = .ok ps) : Stands K (Am C fp0) H0 (relG H0 fp0) p v ps := by
  cases p <;> simp only [itemsOf, Res.ok.injEq, reduceCtorEq] at h <;> subst h
  · obtain ⟨a, xs, rfl, ha, rr⟩ := r
    exact ⟨a, xs, rfl, rr, fun z => (by cases z), fun _ H g => SqT.of (g.2.1 _ _ ha)⟩
  · obtain ⟨a, xs, rfl, hA, ha, rr⟩ := r
    exact ⟨a, xs, rfl, rr, fun _ H g => SqL.of (g.1 _ _ ha hA.2), fun z => by cases z⟩
  · obtain ⟨a, xs, rfl, ha, rr⟩ := r
    exact ⟨a, xs, rfl, rr, fun _ H g => ro_rel g.2.2 ha, fun z => by cases z⟩
theorem seq_standsS {K : PySem.W.Frag} {H0 : Hp} {fp0 : Fp} {p : PV} {v : V} {ps : List PV} (r : RepI K (Am C fp0) H0 p v) (h : itemsOf p = .ok ps) : Stands K (Am C fp0) H0 (relS H0 fp0) p v ps := by
  cases p <;> simp only [itemsOf, Res.ok.injEq, reduceCtorEq] at h <;> subst h
  · obtain ⟨a, xs, rfl, ha, rr⟩ := r
    exact ⟨a, xs, rfl, rr, fun z => (by cases z), fun _ H s => SqT.of (s _ _ ha)⟩
  · obtain ⟨a, xs, rfl, ha, rr⟩ := r
    exact ⟨a, xs, rfl, rr, fun _ H s => SqL.of (s _ _ ha), fun z => by cases z⟩
  · obtain ⟨a, xs, rfl, ha, rr⟩ := r
    exact ⟨a, xs, rfl, rr, fun _ H s => ro_rel (fun a o u h => s a _ h) ha, fun z => by cases z⟩
theorem itemsOf_out {p : PV} {P : List PV → Prop} {E' : XF} (h : Out (itemsOf p) P E') : ∃ ps, itemsOf p = .ok ps ∧ P ps := by
  cases p <;> first | exact ⟨_, rfl, h⟩ | exact h.elim
theorem seq_read {σ : L2.St} {H : Hp} {R : It → Hp → Prop} {rel : Hp → Fp → Hp → Prop} (hst : ∀ (fp : Fp) H' p v ps, RepM X.K C fp m H' p v → itemsOf p = .ok ps → Stands X.K (Am C fp) H' (rel H' fp) p v ps) (hrf : ∀ H fp, rel H fp H)
    (h : tI X.K C W rel (lOf f) σ H R) : iList X.K (tE X.K C W m f) σ H R ∨ iTup X.K (tE X.K C W m f) σ H R := by
  obtain ⟨ρ, fp, eo, o⟩ := h
  by_cases ht : ∃ p, f ρ = .ok p ∧ isTupP p = true
  · obtain ⟨p0, e0, t0⟩ := ht
    right
    refine ⟨ρ, fp, eo, (Out.bind o).and.mono (fun p ⟨e1, o1⟩ v H1 s1 r1 => ?_) fun _ _ q => q⟩
    rw [e0] at e1; cases e1
    obtain ⟨ps, hp, o2⟩ := itemsOf_out o1
    obtain ⟨a, xs, rfl, rr, _, h2⟩ := hst fp H1 p0 v ps r1 hp
    exact ⟨a, rfl, ⟨xs, h2 t0 H1 (hrf _ _)⟩, o2 _ H1 s1 (iter_tup rr (h2 t0))⟩
  · left
    refine ⟨ρ, fp, eo, (Out.bind o).and.mono (fun p ⟨e1, o1⟩ v H1 s1 r1 => ?_) fun _ _ q => q⟩
    have t0 : isTupP p = false := by
      cases z : isTupP p with
      | false => rfl
      | true => exact (ht ⟨p, e1, z⟩).elim
    obtain ⟨ps, hp, o2⟩ := itemsOf_out o1
    obtain ⟨a, xs, rfl, rr, h2, _⟩ := hst fp H1 p v ps r1 hp
    exact ⟨a, rfl, ⟨xs, h2 t0 H1 (hrf _ _)⟩, o2 _ H1 s1 (iter_list rr (h2 t0))⟩
theorem relG.refl {H : Hp} {fp : Fp} : relG H fp H := ⟨fun _ _ h _ => h, fun _ _ h => h, fun _ _ _ h => h⟩
theorem ij_seq (h : EJ X C W .E iter f) : IJ X C W relG tg iter (lOf f) :=
  pi_weak (pi_or (pi_list h) (pi_tup h)) fun σ H R q => seq_read (m := .E) (fun fp H' p v ps r hp => seq_stands r hp) (fun _ _ => relG.refl) q
theorem ij_seqS (h : EJ X C W .I iter f) : IJ X C W relS tg iter (lOf f) :=
  pi_weak (pi_or (pi_list h) (pi_tup h)) fun σ H R q => seq_read (m := .I) (fun fp H' p v ps r hp => seq_standsS r hp) (fun H fp => Same.refl H) q
/-- a range -/
def rangeL (lo : Int) (n : Nat) : List PV := (List.range n).map fun (k : Nat) => .int (lo + (k : Int))
theorem iter_range {K : PySem.W.Frag} {A : Addr → Prop} {H0 : Hp} {rel : Hp → Prop} {lo : Int} {n : Nat} : IterOk K A H0 rel (Itr lo n) (rangeL lo n) := fun H B hr _ i => by
  refine ⟨fun p hp => ?_, fun hi => (by simpa [rangeL] using hi : n ≤ i)⟩
  rw [rangeL, List.getElem?_map] at hp
  by_cases hi : i < n
  · rw [List.getElem?_eq_getElem (by simpa using hi)] at hp
    simp only [List.getElem_range, Option.map_some, Option.some.injEq] at hp
    refine ⟨hi, fun x H' ⟨e1, e2⟩ => ?_⟩
    subst e1 e2 hp
    exact ⟨Same.refl _, rfl⟩
  · rw [List.getElem?_eq_none (by simpa using Nat.le_of_not_lt hi)] at hp
    cases hp
def bnd (i : Int) : Bool := decide (-(2 ^ 62) ≤ i ∧ i < 2 ^ 62)
def lRange1 (f : E) : L := fun ρ => f ρ >>= intOf >>= fun j => if bnd j = true then .ok (rangeL 0 j.toNat) else .bad
theorem ij_range1 {rel : Hp → Fp → Hp → Prop} (hg : Gl X "range") (hm : X.mg "range" = none) (h : EJ X C W m e f) (hs : starEach [e] X.env = [(false, eval e X.env)] := by rfl) : IJ X C W rel tg (.Call (.Name "range" p2) [e] [] pos) (lRange1 f) :=
  pi_weak (pi_range1 hg hm (pa_cons h pa_nil hs) hs) fun σ H R ⟨ρ, fp, eo, o⟩ => by
    refine ⟨ρ, fp, eo, (Out.bind (Out.bind o)).mono (fun p o1 v H1 s1 r1 => ?_) fun _ _ q => q⟩
    cases p with
    | int j =>
      have o1 : Out (if bnd j = true then Res.ok (rangeL 0 j.toNat) else .bad) _ _ := o1
      split at o1
      · rename_i hb
        have hb : -(2 ^ 62) ≤ j ∧ j < 2 ^ 62 := by simpa [bnd] using hb
        exact ⟨j, by rw [show v = .int j from RepM.toB r1], hb.1, hb.2, o1 _ H1 s1 iter_range⟩
      · exact o1.elim
    | _ => exact o1.elim
def lRange2 (f g : E) : L := fun ρ => f ρ >>= fun x => g ρ >>= fun y => intOf x >>= fun i => intOf y >>= fun j => if bnd i = true ∧ bnd j = true then .ok (rangeL i (j - i).toNat) else .bad
theorem ij_range2 {rel : Hp → Fp → Hp → Prop} (hg : Gl X "range") (hm : X.mg "range" = none) (h1 : EJ X C W m1 e1 f1) (h2 : EJ X C W m2 e2 f2) (hs : starEach [e1, e2] X.env = [(false, eval e1 X.env), (false, eval e2 X.env)] := by rfl) (hs2 : starEach [e2] X.env = [(false, eval e2 X.env)] := by rfl) :
    IJ X C W rel tg (.Call (.Name "range" p2) [e1, e2] [] pos) (lRange2 f1 f2) :=
  pi_weak (pi_range2 hg hm (pa_cons h1 (pa_cons h2 pa_nil hs2) (by rw [hs, hs2])) hs hs2) fun σ H R ⟨ρ, fp, eo, o⟩ => two (m1 := m1) (m2 := m2) eo o fun p q v u H2 s eo2 o2 r1 r2 => by
    cases p with
    | int i =>
      cases q with
      | int j =>
        have o2 : Out (if bnd i = true ∧ bnd j = true then Res.ok (rangeL i (j - i).toNat) else .bad) _ _ := o2
        split at o2
        · rename_i hb
          have hb : (-(2 ^ 62) ≤ i ∧ i < 2 ^ 62) ∧ -(2 ^ 62) ≤ j ∧ j < 2 ^ 62 := by simpa [bnd] using hb
          exact ⟨i, j, by rw [show v = .int i from RepM.toB r1, show u = .int j from RepM.toB r2], ⟨hb.1.1, hb.1.2, hb.2⟩, o2 _ H2 s iter_range⟩
        · exact o2.elim
      | _ => exact o2.elim
    | _ => exact o2.elim

/-! ### for -/
def loop (g : G) (body : S) : List PV → Env → Fl
  | [], ρ => .nx ρ
  | p :: ps, ρ => match g p ρ with
    | none => .bad
    | some ρ1 => match body ρ1 with
      | .nx ρ2 => loop g body ps ρ2
      | .ct ρ2 => loop g body ps ρ2
      | .bk ρ2 => .nx ρ2
      | r => r
def sFor (l : L) (g : G) (body : S) : S := fun ρ => withR (l ρ) ρ fun ps => loop g body ps ρ
theorem sj_for {l : L} {g : G} {body : S} {sts : List Stmt} {vs : List Nat} (hp : PassesOwn (model X.prog X.w) X.A X.env X.xe) (hc : X.calm = true) (hi : IJ X C W relG tg iter l) (hg : GJ X C vs tg g) (hb : BJ X C W sts body) (hs : ∀ x, foldedSetIterable iter X.env x = pure x := by intro _; rfl) :
    SJ X C W (.For tg iter sts [] pos) (sFor l g body) :=
  ps_weak (ps_for hp hc hi hg hb hs) fun D σ H ⟨ρ, fp, eo, h⟩ => by
    refine ⟨ρ, fp, eo, (FlQ.ofR eo h).mono (fun items q J H0 s0 it => ?_) fun _ _ q => q⟩
    refine ⟨fun i m σ H => m = items.length - i ∧ ∃ ρ fp', EnvOk X.K C ρ σ H fp' ∧ Grow H0 fp H fp' ∧ FlQ X.K C W D H fp' (loop g body (items.drop i) ρ), ⟨_, rfl, ρ, fp, eo.same s0, Grow.refl, FlQ.later (Grow.same s0) q⟩, ?_⟩
    rintro i m' σ1 H1 ⟨rfl, ρ1, fp1, eo1, g1, q1⟩
    obtain ⟨it1, it2⟩ := it H1 (Am C fp1) ⟨g1.keep, g1.tups, g1.frz⟩ g1.carry i
    by_cases hi : i < items.length
    · have hx : items[i]? = some items[i] := List.getElem?_eq_getElem hi
      obtain ⟨go, yl⟩ := it1 _ hx
      rw [List.drop_eq_getElem_cons hi] at q1
      refine .inr ⟨go, fun σ' H' => ∃ ρ' fp', EnvOk X.K C ρ' σ' H' fp' ∧ Grow H0 fp H' fp' ∧ FlQ X.K C W D H' fp' (loop g body (items.drop (i + 1)) ρ'), fun σ' H' ⟨ρ', fp', a, b, c⟩ => ⟨items.length - (i + 1), by omega, rfl, ρ', fp', a, b, c⟩, fun x H' hy => ?_⟩
      obtain ⟨s2, r⟩ := yl x H' hy
      have q2 := FlQ.later (Grow.same (fp := fp1) s2) q1
      unfold loop at q2
      split at q2
      · exact q2.elim
      · rename_i ρ2 hρ
        refine ⟨ρ1, fp1, items[i], ρ2, eo1.same s2, r, hρ, fun σ3 fp3 eo3 g3 _ _ => ⟨ρ2, fp3, eo3, ?_⟩⟩
        have q3 := FlQ.later g3 q2
        have gg : Grow H0 fp H' fp3 := g1.trans ((Grow.same s2).trans g3)
        cases z : body ρ2 with
        | nx a => rw [z] at q3; exact fun σ4 H4 fp4 eo4 g4 => ⟨_, fp4, eo4, gg.trans g4, FlQ.later g4 q3⟩
        | ct a => rw [z] at q3; exact fun σ4 H4 fp4 eo4 g4 => ⟨_, fp4, eo4, gg.trans g4, FlQ.later g4 q3⟩
        | bk a => rw [z] at q3; exact q3
        | rt a => rw [z] at q3; exact q3
        | ex a b c => rw [z] at q3; exact q3
        | bad => rw [z] at q3; exact q3.elim
    · rw [List.drop_eq_nil_of_le (Nat.le_of_not_lt hi)] at q1
      exact .inl ⟨it2 (Nat.le_of_not_lt hi), q1 σ1 H1 fp1 eo1 Grow.refl⟩
end
end Fz
end
section
/-! FwI: comprehensions. -/
namespace Fz
open PySem PySem.Spec PyProof.Rows L2
def wipeE (ρ : Env) : List Nat → Env
  | [] => ρ
  | v :: vs => (wipeE ρ vs).set v .u
/-- the names of a comprehension hide nothing that is alone its own -/
def shadowOk (ρ : Env) (vs : List Nat) : Bool := vs.all fun i => match ρ[i]? with
  | some (.own _) => false
  | _ => true
theorem wipeE_len (ρ : Env) : ∀ vs, (wipeE ρ vs).length = ρ.length
  | [] => rfl
  | v :: vs => by simp [wipeE, wipeE_len ρ vs]
theorem wipeE_get (ρ : Env) (σ : L2.St) {i : Nat} {s : Slot} : ∀ {vs : List Nat}, (wipeE ρ vs)[i]? = some s → (s = .u ∧ i ∈ vs) ∨ (i ∉ vs ∧ ρ[i]? = some s ∧ (wipe σ vs)[i]? = σ[i]?)
  | [], h => .inr ⟨by simp, h, rfl⟩
  | v :: vs, h => by
    simp only [wipeE] at h
    by_cases hv : i = v
    · subst hv
      have hl : i < (wipeE ρ vs).length := by
        have := (List.getElem?_eq_some_iff.mp h).1
        simpa using this
      rw [List.getElem?_set_self hl] at h
      cases h
      exact .inl ⟨rfl, List.mem_cons_self⟩
    · rw [List.getElem?_set_ne (Ne.symm hv)] at h
      rcases wipeE_get ρ σ h with ⟨a, b⟩ | ⟨a, b, c⟩
      · exact .inl ⟨a, List.mem_cons_of_mem _ b⟩
      · refine .inr ⟨by simp [hv, a], b, ?_⟩
        simp only [wipe]
        rw [List.getElem?_set_ne (Ne.symm hv)]
        exact c
/-- one turn: none where the tests say no; exceptions out of a block are not served -/
def compTurn (g : G) (t : T) (el : E) (ρ : Env) (p : PV) : Option (Option PV) := match g p ρ with
  | none => none
  | some ρ1 => match t ρ1 with
    | .ok true => (match el ρ1 with
      | .ok y => some (some y)
      | _ => none)
    | .ok false => some none
    | _ => none
def compLoop (g : G) (t : T) (el : E) (ρ : Env) : List PV → Option (List PV)
  | [] => some []
  | p :: ps => (compTurn g t el ρ p).bind fun o => (compLoop g t el ρ ps).map fun ys => match o with
    | some y => y :: ys
    | none => ys
def tYesF : T := fun _ => .ok true
/-- so much fits a list -/
def fits (ps : List PV) : Res OT := if ps.length ≤ sizeLine then .ok (.l ps) else .bad
def oComp (l : L) (vs : List Nat) (g : G) (t : T) (el : E) : O := fun ρ => if shadowOk ρ vs = true then l ρ >>= fun ps => ofO (compLoop g t el (wipeE ρ vs) ps) >>= fits else .bad
def W0 : WX := fun _ _ _ _ => False
section
variable {X : Cx} {C : Addr → Prop} {W : WX} {e e1 e2 e3 tg iter : Expr} {pos p2 pn : Pos} {m m1 m2 m3 : Mode} {f f1 f2 f3 : E} {fo : O}
theorem EnvOk.block {K : PySem.W.Frag} {ρ : Env} {σ : L2.St} {H H' : Hp} {fp : Fp} {vs : List Nat} {D : Addr} (eo : EnvOk K C ρ σ H fp) (hs : shadowOk ρ vs = true) (hD : H D = none) (keep : ∀ a o, H a = some o → H' a = some o) (hD' : H' D ≠ none) :
    EnvOk K (fun a => C a ∧ a ≠ D) (wipeE ρ vs) (wipe σ vs) H' fp where
  len := by rw [wipeE_len, wipe_length]; exact eo.len
  slot := fun i s h => by
    rcases wipeE_get ρ σ h with ⟨rfl, hi⟩ | ⟨hi, h2, h3⟩
    · have := (List.all_eq_true.mp hs) i hi
      have hi2 : i < ρ.length := by
        have := (List.getElem?_eq_some_iff.mp h).1
        rwa [wipeE_len] at this
      have e : ρ[i]? = some ρ[i] := List.getElem?_eq_getElem hi2
      have sl := eo.slot i _ e
      rw [e] at this
      revert sl this
      cases ρ[i] with
      | u => intro _ h; exact h
      | val p => intro _ h; exact h.1
      | bor p => intro _ h; exact h.1
      | own t => intro h _; cases h
    · have sl := eo.slot i _ h2
      rw [h3]
      have c : Carry (Am C fp) (Am (fun a => C a ∧ a ≠ D) fp) H H' := Carry.mk' (fun a o q e => ⟨⟨q.1, fun z => by rw [z, hD] at e; cases e⟩, q.2⟩) (fun a o _ e => keep a o e) (fun a xs e => keep a _ e) fun a o u e => keep a _ e
      have cB : Carry (fun a => ¬ InF fp a) (fun a => ¬ InF fp a) H H' := Carry.mk' (fun a o q e => q) (fun a o _ e => keep a o e) (fun a xs e => keep a _ e) fun a o u e => keep a _ e
      revert sl
      cases s with
      | u => exact id
      | val p => rintro ⟨f, v, hv, r⟩; exact ⟨f, v, hv, Rep.carry c r⟩
      | bor p => rintro ⟨f, v, hv, r⟩; exact ⟨f, v, hv, Rep.carry cB r⟩
      | own t => rintro ⟨v, hv, r⟩; exact ⟨v, hv, r.carry c fun a _ o q => keep a o q⟩
  out := fun i hi => eo.out i (by rwa [wipeE_len] at hi)
  inj := eo.inj
  nod := eo.nod
  cap := fun a h => ⟨eo.cap a h, fun z => by obtain ⟨o, ho, _⟩ := eo.live h; rw [z, hD] at ho; cases ho⟩
  new := fun a h => ⟨eo.new a (by
    cases z : H a with
    | none => rfl
    | some o => rw [keep a o z] at h; cases h), fun z => hD' (z ▸ h)⟩
theorem wipe_wipe (σ : L2.St) (vs : List Nat) : wipe (wipe σ vs) vs = wipe σ vs := by
  refine List.ext_getElem? fun i => ?_
  rw [wipe_get, wipe_get, wipe_length]
  by_cases h : i ∈ vs ∧ i < σ.length
  · rw [if_pos h, if_pos h]
  · rw [if_neg h, if_neg h]
/-- the tests of a clause -/
def TsJ (X : Cx) (C : Addr → Prop) (W : WX) (ifs : List Expr) (t : T) : Prop := PTs X ifs (tT X.K C W t)
theorem pts_weak {X : Cx} {ifs : List Expr} {t t' : TT} (h : PTs X ifs t) (w : ∀ σ H Q, t' σ H Q → t σ H Q) : PTs X ifs t' := ⟨fun pins s σ H Q I q => h.run pins s σ H Q I (w σ H Q q)⟩
theorem tsj_nil : TsJ X C W [] tYesF := pts_weak pts_nil fun σ H Q ⟨ρ, fp, eo, o⟩ => o H (Same.refl H)
theorem tsj_one {t : T} (h : TJ X C W e t) : TsJ X C W [e] t := pts_one h
end
section
variable {X : Cx} {C : Addr → Prop} {W : WX} {e e1 e2 e3 tg iter : Expr} {pos p2 pn : Pos} {m m1 m2 m3 : Mode} {f f1 f2 f3 : E} {fo : O}
/-- readings for any frame of common things -/
def uG (vs : List Nat) (K : PySem.W.Frag) (g : G) : TG := fun v σ H Q => ∃ D, tGt vs K D g v σ H Q
def uT (K : PySem.W.Frag) (t : T) : TT := fun σ H Q => ∃ D, tT K D W0 t σ H Q
def uE (K : PySem.W.Frag) (f : E) : TE := fun σ H Q => ∃ D, tE K D W0 .E f σ H Q
theorem uG_ok {vs : List Nat} {g : G} (h : ∀ D, GJ X D vs tg g) : PG X tg (uG vs X.K g) := ⟨fun pins s σ H v u Q I r ⟨D, q⟩ => (h D).run pins s σ H v u Q I r q⟩
theorem uT_ok {ifs : List Expr} {t : T} (h : ∀ D, TsJ X D W0 ifs t) : PTs X ifs (uT X.K t) := ⟨fun pins s σ H Q I ⟨D, q⟩ => (h D).run pins s σ H Q I q⟩
theorem uE_ok (h : ∀ D, EJ X D W0 .E e f) : PE X e (uE X.K f) := ⟨fun pins s σ H Q I ⟨D, q⟩ => (h D).run pins s σ H Q I q⟩
theorem fits_out {ps : List PV} {P : OT → Prop} {E' : XF} (h : Out (fits ps) P E') : ps.length ≤ sizeLine ∧ P (.l ps) := by
  unfold fits at h
  split at h
  · rename_i hl; exact ⟨hl, h⟩
  · exact h.elim
theorem Out.noexc {α : Type} {r : Res α} {P : α → Prop} {E' : XF} (h : Out r P E') (n : ∀ c fs, r ≠ .exc c fs) : ∃ a, r = .ok a ∧ P a := by
  cases r with
  | ok a => exact ⟨a, rfl, h⟩
  | exc c fs => exact (n c fs rfl).elim
  | bad => exact h.elim
theorem comp_loop_le {g : G} {t : T} {el : E} {ρ : Env} : ∀ {ps ys : List PV}, compLoop g t el ρ ps = some ys → ys.length ≤ ps.length
  | [], ys, h => by cases h; exact Nat.le_refl _
  | p :: ps, ys, h => by
    simp only [compLoop] at h
    cases e : compTurn g t el ρ p with
    | none => rw [e] at h; cases h
    | some o =>
      rw [e] at h
      cases e2 : compLoop g t el ρ ps with
      | none => rw [e2] at h; cases h
      | some zs =>
        rw [e2] at h
        have := comp_loop_le e2
        cases o with
        | none => cases h; simp only [List.length_cons]; omega
        | some y => cases h; simp only [List.length_cons]; omega
/-- the reading of a comprehension -/
theorem comp_read {K : PySem.W.Frag} {l : L} {vs : List Nat} {g : G} {t : T} {el : E} {σ : L2.St} {H : Hp} {Q : VK} (h : tO K C W (oComp l vs g t el) σ H Q) : tLc (tI K C W relS l) (uG vs K g) (uT K t) (uE K el) vs σ H Q := by
  obtain ⟨ρ, fp, eo, o⟩ := h
  unfold oComp at o
  split at o
  case isFalse => exact o.elim
  rename_i hs
  refine ⟨ρ, fp, eo, (Out.bind o).mono (fun items o1 J H1 s1 it => ?_) fun _ _ q => q⟩
  intro D hD
  obtain ⟨res, hres, o2⟩ := Out.ofO (Out.bind o1)
  obtain ⟨hfit, k⟩ := fits_out o2
  have k : KO K (Am C fp) H1 (.l res) Q := KO.later k s1
  refine ⟨fun i m H => m = items.length - i ∧ ∃ acc accV rest, (∀ a o, a ≠ D → H1 a = some o → H a = some o) ∧ H D = some (.lst accV) ∧ Reps K (fun a => Am C fp a ∧ a ≠ D) H acc accV ∧ compLoop g t el (wipeE ρ vs) (items.drop i) = some rest ∧ res = acc ++ rest,
    ⟨_, rfl, [], [], res, fun a o ha e => by rw [upd_ne ha]; exact e, upd_same, rfl, hres, rfl⟩, ?_⟩
  rintro i m H2 ⟨rfl, acc, accV, rest, keep, hDD, ra, hr, he⟩
  have sm : Same H1 H2 := fun a o e => keep a o (fun z => by rw [z, hD] at e; cases e) e
  have cB : Carry (Am C fp) (Am (fun a => C a ∧ a ≠ D) fp) H1 H2 := Carry.mk' (fun a o q e => ⟨⟨q.1, fun z => by rw [z, hD] at e; cases e⟩, q.2⟩) (fun a o _ e => sm a o e) (fun a xs e => sm a _ e) fun a o u e => sm a _ e
  obtain ⟨it1, it2⟩ := it H2 _ sm cB i
  by_cases hi : i < items.length
  · have hx : items[i]? = some items[i] := List.getElem?_eq_getElem hi
    obtain ⟨go, yl⟩ := it1 _ hx
    rw [List.drop_eq_getElem_cons hi] at hr
    simp only [compLoop] at hr
    cases eT : compTurn g t el (wipeE ρ vs) items[i] with
    | none => rw [eT] at hr; cases hr
    | some ot =>
      rw [eT] at hr
      cases eL : compLoop g t el (wipeE ρ vs) (items.drop (i + 1)) with
      | none => rw [eL] at hr; cases hr
      | some rest' =>
        rw [eL] at hr
        refine .inr ⟨go, fun H' => ∃ acc accV rest, (∀ a o, a ≠ D → H1 a = some o → H' a = some o) ∧ H' D = some (.lst accV) ∧ Reps K (fun a => Am C fp a ∧ a ≠ D) H' acc accV ∧ compLoop g t el (wipeE ρ vs) (items.drop (i + 1)) = some rest ∧ res = acc ++ rest,
          fun H' ⟨a, b, c, d⟩ => ⟨items.length - (i + 1), by omega, rfl, a, b, c, d⟩, fun x H' hy => ?_⟩
        obtain ⟨s2, r⟩ := yl x H' hy
        unfold compTurn at eT
        cases eg : g items[i] (wipeE ρ vs) with
        | none => rw [eg] at eT; cases eT
        | some ρ1 =>
          rw [eg] at eT
          simp only at eT
          have sm' : Same H1 H' := sm.trans s2
          have hD' : H' D = some (.lst accV) := s2 _ _ hDD
          have eb : EnvOk K (fun a => C a ∧ a ≠ D) (wipeE ρ vs) (wipe σ vs) H' fp := (eo.same s1).block hs hD sm' (by rw [hD']; simp)
          refine ⟨fun a => C a ∧ a ≠ D, wipeE ρ vs, fp, items[i], ρ1, eb, r, eg, fun σ3 fp3 eo3 g3 b3 p3 => ⟨(b3.wipe).trans (wipe_wipe σ vs), ?_⟩⟩
          have stay : ∀ H4, Same H' H4 → (∀ a o, a ≠ D → H1 a = some o → H4 a = some o) ∧ H4 D = some (.lst accV) ∧ Reps K (fun a => Am C fp a ∧ a ≠ D) H4 acc accV := fun H4 s4 =>
            ⟨fun a o _ e => s4 a o (sm' a o e), s4 _ _ hD', Reps.same (s2.trans s4) ra⟩
          have inF : ∀ a, InF fp a → InF fp3 a := fun a ⟨j, hj⟩ => by
            by_cases hv : j ∈ vs
            · have : fp j = [] := by
                by_cases hl : j < (wipeE ρ vs).length
                · have e := List.getElem?_eq_getElem hl
                  rcases wipeE_get ρ σ e with ⟨z, _⟩ | ⟨z, _⟩
                  · have := eb.slot j _ e; rw [z] at this; exact this
                  · exact (z hv).elim
                · exact eb.out j (Nat.le_of_not_lt hl)
              rw [this] at hj; cases hj
            · exact ⟨j, by rw [p3 j hv]; exact hj⟩
          cases et : t ρ1 with
          | exc c fs => rw [et] at eT; cases eT
          | bad => rw [et] at eT; cases eT
          | ok b =>
            rw [et] at eT
            refine ⟨fun a => C a ∧ a ≠ D, ρ1, fp3, eo3, ?_⟩
            rw [et]
            intro H4 s4
            obtain ⟨k1, k2, k3⟩ := stay H4 s4
            cases b with
            | false =>
              cases eT
              rw [if_neg (by simp)]
              refine ⟨acc, accV, rest', k1, k2, k3, eL, ?_⟩
              simp only [Option.map_some, Option.bind_some, Option.some.injEq] at hr
              rw [he, ← hr]
            | true =>
              rw [if_pos rfl]
              simp only at eT
              cases ee : el ρ1 with
              | exc c fs => rw [ee] at eT; cases eT
              | bad => rw [ee] at eT; cases eT
              | ok y =>
                rw [ee] at eT
                cases eT
                simp only [Option.map_some, Option.bind_some, Option.some.injEq] at hr
                refine ⟨fun a => C a ∧ a ≠ D, ρ1, fp3, eo3.same s4, ?_⟩
                rw [ee]
                intro v H5 s5 rv
                obtain ⟨k1, k2, k3⟩ := stay H5 (s4.trans s5)
                refine ⟨accV, k2, ?_, acc ++ [y], accV ++ [v], rest', fun a o ha e => by rw [upd_ne ha]; exact k1 a o ha e, upd_same, ?_, eL, ?_⟩
                · rw [k3.length]
                  rw [he, ← hr] at hfit
                  simp only [List.length_append, List.length_cons] at hfit
                  omega
                · have rv : Rep K (fun a => Am C fp a ∧ a ≠ D) H5 y v := Rep.sub (fun a q => ⟨⟨q.1.1, fun z => q.2 (inF a z)⟩, q.1.2⟩) (rv : Rep K (Am (fun a => C a ∧ a ≠ D) fp3) H5 y v)
                  have nt : ∀ a, a ≠ D → (upd H5 D (.lst (accV ++ [v]))) a = H5 a := fun a h => upd_ne h
                  have c : Carry (fun a => Am C fp a ∧ a ≠ D) (fun a => Am C fp a ∧ a ≠ D) H5 (upd H5 D (.lst (accV ++ [v]))) :=
                    Carry.mk' (fun a o q _ => q) (fun a o q e => by rw [nt a q.2]; exact e) (fun a xs e => by rw [nt a (fun z => by rw [z, k2] at e; cases e)]; exact e) fun a o u e => by rw [nt a (fun z => by rw [z, k2] at e; cases e)]; exact e
                  exact (Reps.carry c k3).append (Reps.one (Rep.carry c rv))
                · rw [he, ← hr]; simp
  · rw [List.drop_eq_nil_of_le (Nat.le_of_not_lt hi)] at hr
    cases hr
    rw [List.append_nil] at he
    subst he
    refine .inl ⟨it2 (Nat.le_of_not_lt hi), k _ _ [D] ?_ (by simp) (fun a h => by rw [List.mem_singleton.mp h]; exact hD) ⟨D, accV, rfl, rfl, hDD, Reps.sub (fun a q => ⟨q.1, fun z => q.2 (List.mem_singleton.mp z)⟩) ra⟩⟩
    exact sm
/-- [el for tg in iter if ..] -/
theorem oj_comp {elt : Expr} {ifs : List Expr} {scope : Scope} {own : List (Str × Nat)} {l : L} {g : G} {t : T} {el : E} (hc : X.calm = true) (hN : X.N.Nodup) (hi : IJ X C W relS tg iter l) (ok : BlkOk X.N X.env.scope scope own)
    (hg : ∀ (D : Addr → Prop) (s : Shared) (H : Hp) (c : Addr) (cl : List (Str × Addr)) (fp : List Addr), GJ (X.blk s H scope (compEnvC scope cl c X.env) fp) D (own.map (·.2)) tg g)
    (ht : ∀ (D : Addr → Prop) (s : Shared) (H : Hp) (c : Addr) (cl : List (Str × Addr)) (fp : List Addr), TsJ (X.blk s H scope (compEnvC scope cl c X.env) fp) D W0 ifs t)
    (he : ∀ (D : Addr → Prop) (s : Shared) (H : Hp) (c : Addr) (cl : List (Str × Addr)) (fp : List Addr), EJ (X.blk s H scope (compEnvC scope cl c X.env) fp) D W0 .E elt el) (hs : ∀ x, foldedSetIterable iter X.env x = pure x := by intro _; rfl) :
    OJ X C W (.ListComp elt [⟨tg, iter, ifs, 0⟩] scope pos) (oComp l (own.map (·.2)) g t el) :=
  pe_weak (pe_lc hc hN hi ok (fun s H c cl fp => uG_ok fun D => hg D s H c cl fp) (fun s H c cl fp => uT_ok fun D => ht D s H c cl fp) (fun s H c cl fp => uE_ok fun D => he D s H c cl fp) hs) fun σ H Q h => comp_read h
/-- y = [..], on one line, y a local -/
theorem sj_asgLc {i : Nat} {y : Str} {py spos : Pos} {elt : Expr} {ifs : List Expr} {scope : Scope} {own : List (Str × Nat)} {l : L} {g : G} {t : T} {el : E} (hc : X.calm = true) (hN : X.N.Nodup) (hy : X.N[i]? = some y) (hyl : X.env.scope.names.lookup y = some .local)
    (hsw : swapsWith (.ListComp elt [⟨tg, iter, ifs, 0⟩] scope pos) (some (.Name y py)) spos.line X.env = pure true) (hi : IJ X C W relS tg iter l) (ok : BlkOk X.N X.env.scope scope own)
    (hg : ∀ (D : Addr → Prop) (s : Shared) (H : Hp) (c : Addr) (cl : List (Str × Addr)) (fp : List Addr), GJ (X.blk s H scope (compEnvC scope cl c X.env) fp) D (own.map (·.2)) tg g)
    (ht : ∀ (D : Addr → Prop) (s : Shared) (H : Hp) (c : Addr) (cl : List (Str × Addr)) (fp : List Addr), TsJ (X.blk s H scope (compEnvC scope cl c X.env) fp) D W0 ifs t)
    (he : ∀ (D : Addr → Prop) (s : Shared) (H : Hp) (c : Addr) (cl : List (Str × Addr)) (fp : List Addr), EJ (X.blk s H scope (compEnvC scope cl c X.env) fp) D W0 .E elt el) (hs : ∀ x, foldedSetIterable iter X.env x = pure x := by intro _; rfl) :
    SJ X C W (.Assign [.Name y py] (.ListComp elt [⟨tg, iter, ifs, 0⟩] scope pos) spos) (sAsg i (oComp l (own.map (·.2)) g t el)) :=
  ps_weak (ps_setLc hc hN hy hyl hsw hi ok (fun s H c cl fp => uG_ok fun D => hg D s H c cl fp) (fun s H c cl fp => uT_ok fun D => ht D s H c cl fp) (fun s H c cl fp => uE_ok fun D => he D s H c cl fp) hs) fun D σ H h => comp_read (asg_read h)
end
end Fz
end
section
/-! FwJ: changes of what is one's own; while. -/
namespace Fz
open PySem PySem.Spec PyProof.Rows L2
section
variable {X : Cx} {C : Addr → Prop} {W : WX} {e e1 e2 e3 tg iter : Expr} {pos p2 pn pa : Pos} {m m1 m2 m3 : Mode} {f f1 f2 f3 : E} {fo : O}

/-- a list of slot i is rewritten -/
theorem EnvOk.writeL {K : PySem.W.Frag} {ρ : Env} {σ : L2.St} {H : Hp} {fp : Fp} {i : Nat} {ps qs : List PV} {a : Addr} {xs ys : List V} (e : EnvOk K C ρ σ H fp) (h : ρ[i]? = some (.own (.l ps))) (hv : σ[i]? = some (some (.ref a))) (hF : fp i = [a]) (ha : H a = some (.lst xs)) (r : Reps K (Am C fp) H qs ys) :
    EnvOk K C (ρ.set i (.own (.l qs))) σ (upd H a (.lst ys)) (put fp i [a]) ∧ Grow H fp (upd H a (.lst ys)) (put fp i [a]) := by
  have ne : ∀ b, b ≠ a → (upd H a (.lst ys)) b = H b := fun b hb => upd_ne hb
  refine e.write h hv (by intros; simp) (fun b o hb q => ?_) (fun b hb => ?_) (fun b hb => .inl (by rw [hF]; exact hb)) (by simp) ⟨a, ys, rfl, rfl, upd_same, ?_⟩
  · rw [hF] at hb
    rw [ne b (by simpa using hb)]; exact q
  · by_cases z : b = a
    · subst z; rw [upd_same]; simp
    · rw [ne b z]; exact hb
  · have nA : ∀ b, Am C fp b → b ≠ a := fun b q z => q.2 ⟨i, by rw [hF, z]; simp⟩
    exact Reps.carry (Carry.mk' (fun b o q _ => ⟨q, fun z => nA b q (by simpa using z)⟩) (fun b o q z => by rw [ne b (nA b q)]; exact z) (fun b xs' z => by rw [ne b (fun q => by rw [q, ha] at z; cases z)]; exact z) fun b o u z => by rw [ne b (fun q => by rw [q, ha] at z; cases z)]; exact z) r
theorem EnvOk.writeD {K : PySem.W.Frag} {ρ : Env} {σ : L2.St} {H : Hp} {fp : Fp} {i : Nat} {ps qs : List (K1 × PV)} {a : Addr} {xs ys : List (Key × V)} (e : EnvOk K C ρ σ H fp) (h : ρ[i]? = some (.own (.d ps))) (hv : σ[i]? = some (some (.ref a))) (hF : fp i = [a]) (ha : H a = some (.dK xs)) (r : RepK K (Am C fp) H qs ys) :
    EnvOk K C (ρ.set i (.own (.d qs))) σ (upd H a (.dK ys)) (put fp i [a]) ∧ Grow H fp (upd H a (.dK ys)) (put fp i [a]) := by
  have ne : ∀ b, b ≠ a → (upd H a (.dK ys)) b = H b := fun b hb => upd_ne hb
  refine e.write h hv (by intros; simp) (fun b o hb q => ?_) (fun b hb => ?_) (fun b hb => .inl (by rw [hF]; exact hb)) (by simp) ⟨a, ys, rfl, rfl, upd_same, ?_⟩
  · rw [hF] at hb
    rw [ne b (by simpa using hb)]; exact q
  · by_cases z : b = a
    · subst z; rw [upd_same]; simp
    · rw [ne b z]; exact hb
  · have nA : ∀ b, Am C fp b → b ≠ a := fun b q z => q.2 ⟨i, by rw [hF, z]; simp⟩
    exact RepK.carry (Carry.mk' (fun b o q _ => ⟨q, fun z => nA b q (by simpa using z)⟩) (fun b o q z => by rw [ne b (nA b q)]; exact z) (fun b xs' z => by rw [ne b (fun q => by rw [q, ha] at z; cases z)]; exact z) fun b o u z => by rw [ne b (fun q => by rw [q, ha] at z; cases z)]; exact z) r
theorem EnvOk.ownL {K : PySem.W.Frag} {ρ : Env} {σ : L2.St} {H : Hp} {fp : Fp} {i : Nat} {ps : List PV} (e : EnvOk K C ρ σ H fp) (h : ρ[i]? = some (.own (.l ps))) : ∃ a xs, σ[i]? = some (some (.ref a)) ∧ fp i = [a] ∧ H a = some (.lst xs) ∧ Reps K (Am C fp) H ps xs := by
  obtain ⟨v, hv, a, xs, rfl, hF, ha, r⟩ := e.slot i _ h
  exact ⟨a, xs, hv, hF, ha, r⟩
theorem EnvOk.ownD {K : PySem.W.Frag} {ρ : Env} {σ : L2.St} {H : Hp} {fp : Fp} {i : Nat} {ps : List (K1 × PV)} (e : EnvOk K C ρ σ H fp) (h : ρ[i]? = some (.own (.d ps))) : ∃ a xs, σ[i]? = some (some (.ref a)) ∧ fp i = [a] ∧ H a = some (.dK xs) ∧ RepK K (Am C fp) H ps xs := by
  obtain ⟨v, hv, a, xs, rfl, hF, ha, r⟩ := e.slot i _ h
  exact ⟨a, xs, hv, hF, ha, r⟩

/-! ### expressions that change a name's own thing -/
abbrev Qx := Env → Res (PV × Env)
def tQ (K : PySem.W.Frag) (C : Addr → Prop) (W : WX) (q : Qx) : TE := fun σ H Q => ∃ ρ fp, EnvOk K C ρ σ H fp ∧ Out (q ρ) (fun r => ∀ v H' fp', EnvOk K C r.2 σ H' fp' → Grow H fp H' fp' → Rep K (Am C fp') H' r.1 v → Q v H') (XQ K W σ H)
def QJ (X : Cx) (C : Addr → Prop) (W : WX) (e : Expr) (q : Qx) : Prop := PE X e (tQ X.K C W q)
def qE (f : E) : Qx := fun ρ => f ρ >>= fun p => .ok (p, ρ)
theorem qj_E (h : EJ X C W .E e f) : QJ X C W e (qE f) := pe_weak h fun σ H Q ⟨ρ, fp, eo, o⟩ => ⟨ρ, fp, eo, (Out.bind o).mono (fun p q v H' s r => q v H' fp (eo.same s) (Grow.same s) r) fun _ _ q => q⟩
/-- x.pop(e) -/
def qPopAt (i : Nat) (f : E) : Qx := fun ρ => match ρ[i]? with
  | some (.own (.l ps)) => f ρ >>= fun x => intOf x >>= fun k => if bnd k = true then (match ixN ps.length k with
    | some j => (match ps[j]? with
      | some p => .ok (p, ρ.set i (.own (.l (ps.eraseIdx j))))
      | none => .bad)
    | none => .bad) else .bad
  | _ => .bad
theorem bnd_spec {k : Int} (h : bnd k = true) : -(2 ^ 62) ≤ k ∧ k < 2 ^ 62 := by simpa [bnd] using h
theorem reps_getV {K : PySem.W.Frag} {A : Addr → Prop} {H : Hp} {ps : List PV} {vs : List V} {i : Nat} {p : PV} (r : Reps K A H ps vs) (h : ps[i]? = some p) : ∃ v, vs[i]? = some v ∧ Rep K A H p v := r.get h
theorem qj_popAt {i : Nat} {x : Str} {apos px : Pos} (hN : X.N[i]? = some x) (hv : Vis X.env.scope x) (h : EJ X C W m e f) (hd : (x == ("__debug__" : Str)) = false := by decide) (hcd : (x == ("__classdict__" : Str)) = false := by decide)
    (hbase : attributeBase (.Name x px) "pop" X.env (eval (.Name x px) X.env) = eval (.Name x px) X.env := by rfl)
    (hfew : ((backTo pos (starEach [e] X.env)).all (fun x => !x.1) && (backToKw pos (keywordEach [] X.env)).all (fun x => x.1.isSome) && decide ([e].length + ([] : List Keyword).length + (if ([] : List Keyword).isEmpty then 0 else 1) < 30)) = true := by rfl)
    (hline : (apos.endLine == pos.line) = true := by rfl) (hs : starEach [e] X.env = (false, eval e X.env) :: starEach [] X.env := by rfl) (hplain : (backTo pos (starEach [] X.env)).any (·.1) = false := by rfl) : QJ X C W (.Call (.Attribute (.Name x px) "pop" apos) [e] [] pos) (qPopAt i f) :=
  pe_weak (pe_bm PySem.F.plainAttrs_list PySem.F.slot_list_pop PySem.F.type_list_pop mt_popAt (pe_var hN hv hd hcd) (pa_cons h pa_nil hs) hbase hfew hline hs hplain) fun σ H Q ⟨ρ, fp, eo, o⟩ => by
    unfold qPopAt at o
    split at o
    · rename_i ps hi
      obtain ⟨a, xs, hσ, hF, ha, rr⟩ := eo.ownL hi
      refine ⟨.ref a, hσ, .inl ⟨rfl, xs, SqL.of ha⟩, ρ, fp, eo, (Out.bind o).mono (fun p o1 v H1 s1 r1 => ?_) fun _ _ q => q⟩
      cases p with
      | int k =>
        have o1 : Out (if bnd k = true then (match ixN ps.length k with
          | some j => (match ps[j]? with
            | some p => Res.ok (p, ρ.set i (.own (.l (ps.eraseIdx j))))
            | none => .bad)
          | none => .bad) else .bad) _ _ := o1
        split at o1
        · rename_i hb
          obtain ⟨b1, b2⟩ := bnd_spec hb
          split at o1
          · rename_i j hj
            split at o1
            · rename_i p hp
              obtain ⟨w, hw, rw'⟩ := rr.get hp
              have ha1 : H1 a = some (.lst xs) := s1 _ _ ha
              have eo1 := eo.same s1
              obtain ⟨e2, g2⟩ := eo1.writeL hi hσ hF ha1 ((rr.same s1).eraseIdx j)
              refine ⟨a, xs, k, j, w, rfl, by rw [show v = .int k from RepM.toB r1], ha1, by omega, by omega, (ixN_seq (by rw [rr.length]; exact hj)).1, hw, ?_⟩
              exact o1 w _ _ e2 ((Grow.same s1).trans g2) (Rep.carry g2.carry (rw'.same s1))
            · exact o1.elim
          · exact o1.elim
        · exact o1.elim
      | _ => exact o1.elim
    · exact o.elim
/-- x.pop() -/
def qPop (i : Nat) : Qx := fun ρ => match ρ[i]? with
  | some (.own (.l ps)) => (match ps[ps.length - 1]? with
    | some p => .ok (p, ρ.set i (.own (.l ps.dropLast)))
    | none => .bad)
  | _ => .bad
theorem Reps.dropLast {K : PySem.W.Frag} {A : Addr → Prop} {H : Hp} {ps : List PV} {vs : List V} (r : Reps K A H ps vs) : Reps K A H ps.dropLast vs.dropLast := by
  rw [List.dropLast_eq_take, List.dropLast_eq_take, r.length]
  exact r.take _
theorem qj_pop {i : Nat} {x : Str} {apos px : Pos} (hN : X.N[i]? = some x) (hv : Vis X.env.scope x) (hd : (x == ("__debug__" : Str)) = false := by decide) (hcd : (x == ("__classdict__" : Str)) = false := by decide)
    (hbase : attributeBase (.Name x px) "pop" X.env (eval (.Name x px) X.env) = eval (.Name x px) X.env := by rfl) (hline : (apos.endLine == pos.line) = true := by rfl) : QJ X C W (.Call (.Attribute (.Name x px) "pop" apos) [] [] pos) (qPop i) :=
  pe_weak (pe_bm0 PySem.F.plainAttrs_list PySem.F.slot_list_pop PySem.F.type_list_pop mt_pop (pe_var hN hv hd hcd) hbase hline) fun σ H Q ⟨ρ, fp, eo, o⟩ => by
    unfold qPop at o
    split at o
    · rename_i ps hi
      obtain ⟨a, xs, hσ, hF, ha, rr⟩ := eo.ownL hi
      split at o
      · rename_i p hp
        obtain ⟨w, hw, rw'⟩ := rr.get hp
        obtain ⟨e2, g2⟩ := eo.writeL hi hσ hF ha rr.dropLast
        refine ⟨.ref a, hσ, .inl ⟨rfl, xs, SqL.of ha⟩, a, xs, w, rfl, rfl, ha, by rw [rr.length]; exact hw, ?_⟩
        exact o w _ _ e2 g2 (Rep.carry g2.carry rw')
      · exact o.elim
    · exact o.elim
def sAsgQ (i : Nat) (q : Qx) : S := fun ρ => withR (q ρ) ρ fun r => if i < r.2.length then .nx (r.2.set i (.val r.1)) else .bad
theorem sj_asgQ {i : Nat} {x : Str} {q : Qx} {pos' : Pos} (hN : X.N.Nodup) (hi : X.N[i]? = some x) (hx : Loc X.env.scope x) (he : QJ X C W e q) (hs : swapsWith e (some (.Name x pos')) pos.line X.env = pure false := by rfl)
    (hf : X.fn x = true ∨ X.env.scope.names.lookup x = some .local := by first | exact .inl rfl | exact .inr rfl | assumption) : SJ X C W (.Assign [.Name x pos'] e pos) (sAsgQ i q) :=
  ps_weak (ps_set hN hi hx he hs hf) fun D σ H ⟨ρ, fp, eo, h⟩ => by
    refine ⟨ρ, fp, eo, (FlQ.ofR eo h).mono (fun r q v H' fp' e' g' rr => ?_) fun _ _ q => q⟩
    split at q
    · rename_i hl
      obtain ⟨e2, g2⟩ := e'.setVal hl rr
      exact q _ _ _ e2 (g'.trans g2)
    · exact q.elim
def sAsgTQ (g : G) (q : Qx) : S := fun ρ => withR (q ρ) ρ fun r => match g r.1 r.2 with
  | some ρ' => .nx ρ'
  | none => .bad
theorem sj_asgTQ {g : G} {q : Qx} {vs : List Nat} (he : QJ X C W e q) (hg : GJ X C vs tg g) (hs : swapsWithSole [tg] e pos.line X.env = pure false := by rfl) (hw : swappedStores [tg] e X.env = pure none := by rfl) (h1 : (assignEach [tg] X.env).map (·.2) = [assign tg X.env] := by rfl) : SJ X C W (.Assign [tg] e pos) (sAsgTQ g q) :=
  ps_weak (ps_asg he hg hs hw h1) fun D σ H ⟨ρ, fp, eo, h⟩ => by
    refine ⟨ρ, fp, eo, (FlQ.ofR eo h).mono (fun r q v H' fp' e' g' rr => ?_) fun _ _ q => q⟩
    split at q
    · rename_i ρ' hρ
      exact ⟨_, fp', _, ρ', e', rr, hρ, fun σ2 fp2 e2 g2 _ _ => q σ2 _ fp2 e2 (g'.trans g2)⟩
    · exact q.elim
def sRetQ (q : Qx) : S := fun ρ => withR (q ρ) ρ fun r => .rt (.fz r.1)
theorem sj_retQ {q : Qx} (he : QJ X C W e q) : SJ X C W (.Return (some e) pos) (sRetQ q) := ps_weak (ps_ret he) fun D σ H ⟨ρ, fp, eo, h⟩ =>
  ⟨ρ, fp, eo, (FlQ.ofR eo h).mono (fun r q v H' fp' e' g' rr => q v H' [] (grow_end g') List.nodup_nil (fun _ h => nomatch h) ⟨rfl, Rep.sub (fun a z => ⟨z.1, fun y => nomatch y⟩) rr⟩) fun _ _ q => q⟩
def sDropQ (q : Qx) : S := fun ρ => withR (q ρ) ρ fun r => .nx r.2
theorem sj_exprQ {q : Qx} (he : QJ X C W e q) (hs : swapsWith e none pos.line X.env = pure false := by rfl) : SJ X C W (.Expr e pos) (sDropQ q) := ps_weak (ps_expr he hs) fun D σ H ⟨ρ, fp, eo, h⟩ =>
  ⟨ρ, fp, eo, (FlQ.ofR eo h).mono (fun r q v H' fp' e' g' rr => q σ H' fp' e' g') fun _ _ q => q⟩

/-! ### x.append(e), x.extend(e), x.reverse() -/
def sApp (i : Nat) (q : Qx) : S := fun ρ => match ρ[i]? with
  | some (.own (.l _)) => withR (q ρ) ρ fun r => (match r.2[i]? with
    | some (.own (.l ps)) => if ps.length < sizeLine then .nx (r.2.set i (.own (.l (ps ++ [r.1])))) else .bad
    | _ => .bad)
  | _ => .bad
theorem sj_app {i : Nat} {x : Str} {q : Qx} {apos px cpos : Pos} (hN : X.N[i]? = some x) (hv : Vis X.env.scope x) (h : QJ X C W e q) (hd : (x == ("__debug__" : Str)) = false := by decide) (hcd : (x == ("__classdict__" : Str)) = false := by decide)
    (hsw : swapsWith (.Call (.Attribute (.Name x px) "append" apos) [e] [] cpos) none pos.line X.env = pure false := by rfl)
    (hbase : attributeBase (.Name x px) "append" X.env (eval (.Name x px) X.env) = eval (.Name x px) X.env := by rfl)
    (hfew : ((backTo cpos (starEach [e] X.env)).all (fun x => !x.1) && (backToKw cpos (keywordEach [] X.env)).all (fun x => x.1.isSome) && decide ([e].length + ([] : List Keyword).length + (if ([] : List Keyword).isEmpty then 0 else 1) < 30)) = true := by rfl)
    (hline : (apos.endLine == cpos.line) = true := by rfl) (hs : starEach [e] X.env = (false, eval e X.env) :: starEach [] X.env := by rfl) (hplain : (backTo cpos (starEach [] X.env)).any (·.1) = false := by rfl) :
    SJ X C W (.Expr (.Call (.Attribute (.Name x px) "append" apos) [e] [] cpos) pos) (sApp i q) :=
  ps_weak (ps_expr (pe_bm PySem.F.plainAttrs_list PySem.F.slot_list_append PySem.F.type_list_append mt_append (pe_var hN hv hd hcd) (pa_cons h pa_nil hs) hbase hfew hline hs hplain) hsw) fun D σ H ⟨ρ, fp, eo, o⟩ => by
    unfold sApp at o
    split at o
    · rename_i ps0 hi
      obtain ⟨a, xs0, hσ, _, ha, _⟩ := eo.ownL hi
      refine ⟨.ref a, hσ, .inl ⟨rfl, xs0, SqL.of ha⟩, ρ, fp, eo, (FlQ.ofR eo o).mono (fun r q v H1 fp1 e1 g1 r1 => ?_) fun _ _ q => q⟩
      split at q
      · rename_i ps hi1
        split at q
        · rename_i hl
          obtain ⟨b, xs, hσ1, hF, hb, rr⟩ := e1.ownL hi1
          rw [hσ] at hσ1; cases hσ1
          obtain ⟨e2, g2⟩ := e1.writeL hi1 hσ hF hb (rr.append (Reps.one r1))
          exact ⟨a, xs, v, rfl, rfl, hb, by rw [rr.length]; exact hl, q σ _ _ e2 (g1.trans g2)⟩
        · exact q.elim
      · exact q.elim
    · exact o.elim
def sExt (i : Nat) (f : E) : S := fun ρ => match ρ[i]? with
  | some (.own (.l ps)) => withR (f ρ) ρ fun y => (match y with
    | .lst qs => if ps.length + qs.length ≤ sizeLine then .nx (ρ.set i (.own (.l (ps ++ qs)))) else .bad
    | _ => .bad)
  | _ => .bad
theorem sj_ext {i : Nat} {x : Str} {apos px cpos : Pos} (hN : X.N[i]? = some x) (hv : Vis X.env.scope x) (h : EJ X C W .I e f) (hd : (x == ("__debug__" : Str)) = false := by decide) (hcd : (x == ("__classdict__" : Str)) = false := by decide)
    (hsw : swapsWith (.Call (.Attribute (.Name x px) "extend" apos) [e] [] cpos) none pos.line X.env = pure false := by rfl)
    (hbase : attributeBase (.Name x px) "extend" X.env (eval (.Name x px) X.env) = eval (.Name x px) X.env := by rfl)
    (hfew : ((backTo cpos (starEach [e] X.env)).all (fun x => !x.1) && (backToKw cpos (keywordEach [] X.env)).all (fun x => x.1.isSome) && decide ([e].length + ([] : List Keyword).length + (if ([] : List Keyword).isEmpty then 0 else 1) < 30)) = true := by rfl)
    (hline : (apos.endLine == cpos.line) = true := by rfl) (hs : starEach [e] X.env = (false, eval e X.env) :: starEach [] X.env := by rfl) (hplain : (backTo cpos (starEach [] X.env)).any (·.1) = false := by rfl) :
    SJ X C W (.Expr (.Call (.Attribute (.Name x px) "extend" apos) [e] [] cpos) pos) (sExt i f) :=
  ps_weak (ps_expr (pe_bm PySem.F.plainAttrs_list PySem.F.slot_list_extend PySem.F.type_list_extend mt_extend (pe_var hN hv hd hcd) (pa_cons h pa_nil hs) hbase hfew hline hs hplain) hsw) fun D σ H ⟨ρ, fp, eo, o⟩ => by
    unfold sExt at o
    split at o
    · rename_i ps hi
      obtain ⟨a, xs, hσ, hF, ha, rr⟩ := eo.ownL hi
      refine ⟨.ref a, hσ, .inl ⟨rfl, xs, SqL.of ha⟩, ρ, fp, eo, (FlQ.ofR eo o).mono (fun y q v H1 s1 r1 => ?_) fun _ _ q => q⟩
      cases y with
      | lst qs =>
        obtain ⟨b, ys, rfl, hb, r2⟩ := r1
        simp only at q
        split at q
        · rename_i hl
          obtain ⟨e2, g2⟩ := (eo.same s1).writeL hi hσ hF (s1 _ _ ha) ((rr.same s1).append r2)
          exact ⟨a, b, xs, ys, rfl, rfl, s1 _ _ ha, hb, by rw [rr.length, r2.length]; exact hl, q σ _ _ e2 ((Grow.same s1).trans g2)⟩
        · exact q.elim
      | _ => exact q.elim
    · exact o.elim
def sRev (i : Nat) : S := fun ρ => match ρ[i]? with
  | some (.own (.l ps)) => .nx (ρ.set i (.own (.l ps.reverse)))
  | _ => .bad
theorem sj_rev {i : Nat} {x : Str} {apos px cpos : Pos} (hN : X.N[i]? = some x) (hv : Vis X.env.scope x) (hd : (x == ("__debug__" : Str)) = false := by decide) (hcd : (x == ("__classdict__" : Str)) = false := by decide)
    (hsw : swapsWith (.Call (.Attribute (.Name x px) "reverse" apos) [] [] cpos) none pos.line X.env = pure false := by rfl)
    (hbase : attributeBase (.Name x px) "reverse" X.env (eval (.Name x px) X.env) = eval (.Name x px) X.env := by rfl) (hline : (apos.endLine == cpos.line) = true := by rfl) :
    SJ X C W (.Expr (.Call (.Attribute (.Name x px) "reverse" apos) [] [] cpos) pos) (sRev i) :=
  ps_weak (ps_expr (pe_bm0 PySem.F.plainAttrs_list PySem.F.slot_list_reverse PySem.F.type_list_reverse mt_reverse (pe_var hN hv hd hcd) hbase hline) hsw) fun D σ H ⟨ρ, fp, eo, o⟩ => by
    unfold sRev at o
    split at o
    · rename_i ps hi
      obtain ⟨a, xs, hσ, hF, ha, rr⟩ := eo.ownL hi
      obtain ⟨e2, g2⟩ := eo.writeL hi hσ hF ha rr.reverse
      exact ⟨.ref a, hσ, .inl ⟨rfl, xs, SqL.of ha⟩, a, xs, rfl, rfl, ha, o σ _ _ e2 g2⟩
    · exact o.elim

/-! ### while -/
def whileN (t : T) (body : S) : Nat → Env → Option Fl
  | 0, _ => none
  | n + 1, ρ => match t ρ with
    | .ok false => some (.nx ρ)
    | .ok true => (match body ρ with
      | .nx ρ2 => whileN t body n ρ2
      | .ct ρ2 => whileN t body n ρ2
      | .bk ρ2 => some (.nx ρ2)
      | r => some r)
    | .exc c fs => some (.ex c fs ρ)
    | .bad => some .bad
open Classical in
/-- its end, if it comes to one -/
noncomputable def sWhile (t : T) (body : S) : S := fun ρ => if h : ∃ r n, whileN t body n ρ = some r then h.choose else .bad
theorem whileN_mono {t : T} {body : S} : ∀ {n k : Nat} {ρ : Env} {r : Fl}, whileN t body n ρ = some r → n ≤ k → whileN t body k ρ = some r
  | 0, _, _, _, h, _ => by cases h
  | n + 1, 0, _, _, _, hk => by omega
  | n + 1, k + 1, ρ, r, h, hk => by
    unfold whileN at h ⊢
    cases e : t ρ with
    | exc c fs => rw [e] at h; exact h
    | bad => rw [e] at h; exact h
    | ok b =>
      rw [e] at h
      cases b with
      | false => exact h
      | true =>
        simp only at h ⊢
        cases e2 : body ρ with
        | nx ρ2 => rw [e2] at h; exact whileN_mono h (by omega)
        | ct ρ2 => rw [e2] at h; exact whileN_mono h (by omega)
        | bk ρ2 => rw [e2] at h; exact h
        | rt o => rw [e2] at h; exact h
        | ex c fs ρ2 => rw [e2] at h; exact h
        | bad => rw [e2] at h; exact h
theorem sWhile_of {t : T} {body : S} {ρ : Env} {r : Fl} {n : Nat} (h : whileN t body n ρ = some r) : sWhile t body ρ = r := by
  unfold sWhile
  rw [dif_pos ⟨r, n, h⟩]
  have hx : ∃ r n, whileN t body n ρ = some r := ⟨r, n, h⟩
  obtain ⟨k, hk⟩ := hx.choose_spec
  have e1 := whileN_mono h (Nat.le_max_left n k)
  have e2 := whileN_mono hk (Nat.le_max_right n k)
  rw [e1] at e2
  exact (Option.some.inj e2).symm
theorem sj_while {t : T} {body : S} {sts : List Stmt} (hp : PassesOwn (model X.prog X.w) X.A X.env X.xe) (ht : TJ X C W e t) (hb : BJ X C W sts body) : SJ X C W (.While e sts [] pos) (sWhile t body) :=
  ps_weak (ps_while hp ht hb) fun D σ H ⟨ρ, fp, eo, h⟩ => by
    have hx : ∃ r n, whileN t body n ρ = some r := by
      by_cases hx : ∃ r n, whileN t body n ρ = some r
      · exact hx
      · unfold sWhile at h
        rw [dif_neg hx] at h
        exact h.elim
    obtain ⟨r, n, hr⟩ := hx
    rw [sWhile_of hr] at h
    refine ⟨fun n σ' H' => ∃ ρ' fp', EnvOk X.K C ρ' σ' H' fp' ∧ whileN t body n ρ' = some r ∧ FlQ X.K C W D H' fp' r, ⟨n, ρ, fp, eo, hr, h⟩, ?_⟩
    rintro n σ1 H1 ⟨ρ1, fp1, eo1, hr1, q1⟩
    cases n with
    | zero => cases hr1
    | succ n =>
      unfold whileN at hr1
      refine ⟨ρ1, fp1, eo1, ?_⟩
      cases e : t ρ1 with
      | bad => rw [e] at hr1; cases hr1; exact q1.elim
      | exc c fs => rw [e] at hr1; cases hr1; exact fun H' s => q1 σ1 H' fp1 (eo1.same s) (Grow.same s)
      | ok b =>
        rw [e] at hr1
        intro H2 s2
        have q2 := FlQ.later (Grow.same (fp := fp1) s2) q1
        have eo2 := eo1.same s2
        cases b with
        | false =>
          cases hr1
          rw [if_neg (by simp)]
          exact q2 σ1 H2 fp1 eo2 Grow.refl
        | true =>
          rw [if_pos rfl]
          simp only at hr1
          refine ⟨fun σ' H' => ∃ ρ' fp', EnvOk X.K C ρ' σ' H' fp' ∧ whileN t body n ρ' = some r ∧ FlQ X.K C W D H' fp' r, fun σ' H' z => ⟨n, by omega, z⟩, ρ1, fp1, eo2, ?_⟩
          cases e2 : body ρ1 with
          | nx ρ2 => rw [e2] at hr1; exact fun σ3 H3 fp3 e3 g3 => ⟨ρ2, fp3, e3, hr1, FlQ.later g3 q2⟩
          | ct ρ2 => rw [e2] at hr1; exact fun σ3 H3 fp3 e3 g3 => ⟨ρ2, fp3, e3, hr1, FlQ.later g3 q2⟩
          | bk ρ2 => rw [e2] at hr1; cases hr1; exact q2
          | rt o => rw [e2] at hr1; cases hr1; exact q2
          | ex c fs ρ2 => rw [e2] at hr1; cases hr1; exact q2
          | bad => rw [e2] at hr1; cases hr1; exact q2.elim
end
end Fz
end
section
/-! FwK: what a def promises, calls, the end. -/
namespace Fz
open PySem PySem.Spec PyProof.Rows L2
abbrev Fn := List PV → Res OT
def slotOf : Mode → PV → Slot
  | .B, p => .bor p
  | _, p => .val p
def slotsOf : List Mode → List PV → Env
  | m :: ms, p :: ps => slotOf m p :: slotsOf ms ps
  | _, _ => []
/-- a def by its body: n names, the parameters' modes -/
def runFn (n : Nat) (ms : List Mode) (s : S) : Fn := fun ps => if ps.length = ms.length then (match s (slotsOf ms ps ++ List.replicate (n - ps.length) .u) with
  | .rt o => .ok o
  | .nx _ => .ok (.fz .non)
  | .ex c fs _ => .exc c fs
  | _ => .bad) else .bad
def RepArgs (K : PySem.W.Frag) (C : Addr → Prop) (H : Hp) : List Mode → List PV → List V → Prop
  | [], [], [] => True
  | m :: ms, p :: ps, v :: vs => Rep K (match m with | .B => (fun _ => True) | _ => C) H p v ∧ RepArgs K C H ms ps vs
  | _, _, _ => False
def spG (K : PySem.W.Frag) (ms : List Mode) (g : Fn) : Sp := fun vs H Q E => ∃ (C : Addr → Prop) (ps : List PV), RepArgs K C H ms ps vs ∧ Out (g ps) (fun t => KO K (fun a => C a ∨ H a = none) H t Q) (XQ K (fun c d _ H => E c d H) [] H)
theorem RepArgs.len {K : PySem.W.Frag} {C : Addr → Prop} {H : Hp} : ∀ {ms : List Mode} {ps : List PV} {vs : List V}, RepArgs K C H ms ps vs → ps.length = ms.length ∧ vs.length = ms.length
  | [], [], [], _ => ⟨rfl, rfl⟩
  | _ :: _, _ :: _, _ :: _, h => ⟨by simp [(RepArgs.len h.2).1], by simp [(RepArgs.len h.2).2]⟩
theorem slotsOf_len : ∀ {ms : List Mode} {ps : List PV}, ps.length = ms.length → (slotsOf ms ps).length = ps.length
  | [], [], _ => rfl
  | m :: ms, p :: ps, h => by simp [slotsOf, slotsOf_len (ms := ms) (ps := ps) (by simpa using h)]
  | [], _ :: _, h => by simp at h
  | _ :: _, [], h => by simp at h
theorem noF (a : Addr) : ¬ InF (fun _ => []) a := fun ⟨_, h⟩ => nomatch h
theorem slots_get {K : PySem.W.Frag} {C : Addr → Prop} {H : Hp} : ∀ {ms : List Mode} {ps : List PV} {vs : List V} {i : Nat} {s : Slot}, RepArgs K C H ms ps vs → (slotsOf ms ps)[i]? = some s →
    SlotOk K (fun a => C a ∨ H a = none) (fun _ => True) H s ((vs.map some)[i]?) []
  | [], [], [], _, _, _, h => by simp [slotsOf] at h
  | m :: ms, p :: ps, v :: vs, 0, s, r, h => by
    simp only [slotsOf, List.getElem?_cons_zero, Option.some.injEq] at h
    subst h
    cases m with
    | B => exact ⟨rfl, v, rfl, r.1⟩
    | E => exact ⟨rfl, v, rfl, Rep.sub (fun a q => .inl q) r.1⟩
    | I => exact ⟨rfl, v, rfl, Rep.sub (fun a q => .inl q) r.1⟩
  | m :: ms, p :: ps, v :: vs, i + 1, s, r, h => by
    simp only [slotsOf, List.getElem?_cons_succ] at h
    simpa using slots_get r.2 h
theorem entry {K : PySem.W.Frag} {C : Addr → Prop} {H : Hp} {ms : List Mode} {ps : List PV} {vs : List V} {N : List Str} (r : RepArgs K C H ms ps vs) (hn : ms.length ≤ N.length) :
    EnvOk K (fun a => C a ∨ H a = none) (slotsOf ms ps ++ List.replicate (N.length - ps.length) .u) (L2.start N vs) H (fun _ => []) := by
  obtain ⟨l1, l2⟩ := r.len
  have l3 := slotsOf_len l1
  have e1 : Am (fun a => C a ∨ H a = none) (fun _ => []) = fun a => C a ∨ H a = none := by
    funext a
    exact propext ⟨fun h => h.1, fun h => ⟨h, noF a⟩⟩
  refine ⟨by simp [L2.start, l1, l2, l3], fun i s h => ?_, fun _ _ => rfl, fun _ _ _ h => (nomatch h), fun _ => List.nodup_nil, fun a h => (noF a h).elim, fun a h => .inr h⟩
  rw [e1]
  by_cases hi : i < (slotsOf ms ps).length
  · rw [List.getElem?_append_left hi] at h
    unfold L2.start
    rw [List.getElem?_append_left (by simp; omega)]
    have := slots_get r h
    revert this
    cases s with
    | u => exact id
    | val p => exact id
    | bor p => rintro ⟨f, v, hv, r⟩; exact ⟨f, v, hv, Rep.sub (fun a _ => noF a) r⟩
    | own t => exact id
  · rw [List.getElem?_append_right (Nat.le_of_not_lt hi), List.getElem?_replicate] at h
    split at h
    · cases h; rfl
    · cases h
/-- a def of the text: its function, its name, how it binds -/
structure DefOk (P : Program) (w : World) (K : PySem.W.Frag) (mg : Str → Option Value) (base : Heap) (k : Nat) (x : Str) (ps : List Str) (ms : List Mode) (g : Fn) : Prop where
  ex : ∃ f fd, FnOk P w K mg base (L2.CX P w) k f fd ps (spG K ms g) ∧ mg x = some (.ref f) ∧ PySem.W.keepIn K (.ref f) = true ∧ Binds K fd ps []
section
variable {P : Program} {w : World} {K : PySem.W.Frag} {mg : Str → Option Value} {base : Heap}
/-- the context of a def's body -/
abbrev XD (P : Program) (w : World) (K : PySem.W.Frag) (mg : Str → Option Value) (base : Heap) (N : List Str) (qual : Str) (scope : Scope) (f : Addr) (cdv : Value) (A : Around) (outer : List PySem.Env) (s : Shared) (H : Hp) (E : XK) : Cx := cxOf (L2.CX P w) P w K mg base N qual scope f cdv A outer s H E

theorem grow_same {H H' : Hp} {fp' : Fp} (g : Grow H (fun _ => []) H' fp') : Same H H' := fun a o h => g.keep a o h (noF a)
/-- THE RULE: a def keeps its promise, by its body -/
theorem fn_ok {x qual : Str} {params : Arguments} {body : List Stmt} {scope : Scope} {f : Addr} {fd : FuncData} {N ps : List Str} {k : Nat} {ms : List Mode} {s : S} (F : FunD K x qual params body scope [] [] f fd) (Sc : FnScope N ps scope) (hm : ms.length = ps.length) (hN : ms.length ≤ N.length)
    (hb : ∀ (cdv : Value) (A : Around) (outer : List PySem.Env) (sh : Shared) (H : Hp) (E : XK) (C : Addr → Prop), Room k (XD P w K mg base N qual scope f cdv A outer sh H E).A → Takes (XD P w K mg base N qual scope f cdv A outer sh H E) (fun c d _ H => E c d H) →
      PassesOwn (model P w) (XD P w K mg base N qual scope f cdv A outer sh H E).A (XD P w K mg base N qual scope f cdv A outer sh H E).env (XD P w K mg base N qual scope f cdv A outer sh H E).xe → BJ (XD P w K mg base N qual scope f cdv A outer sh H E) C (fun c d _ H => E c d H) body s) :
    FnOk P w K mg base (L2.CX P w) (k + 1) f fd ps (spG K ms (runFn N.length ms s)) := by
  refine F.ok Sc (fun vs H Q E h => ?_) (fun cdv A outer sh H vs Q E hr h => ?_)
  · obtain ⟨C, qs, r, _⟩ := h
    rw [r.len.2, hm]
  · obtain ⟨C, qs, r, o⟩ := h
    refine ⟨_, hb cdv A outer sh H E (fun a => C a ∨ H a = none) hr (takes_of rfl rfl rfl rfl) (passes_of rfl), _, _, entry r hN, ?_⟩
    unfold runFn at o
    rw [if_pos r.len.1] at o
    revert o
    cases s (slotsOf ms qs ++ List.replicate (N.length - qs.length) .u) with
    | nx ρ =>
      intro o σ' H' fp' e g
      have k : KO K (fun a => C a ∨ H a = none) H (.fz .non) Q := o
      exact k.repS (grow_same g) rfl
    | rt t => intro o v H' Fn g n hf rr; exact o v H' Fn (grow_same g) n (fun a ha => (hf a ha).elim (fun z => (noF a z).elim) id) rr
    | bk ρ => exact False.elim
    | ct ρ => exact False.elim
    | ex c fs ρ => intro o σ' H' fp' e g; exact o H' (grow_same g)
    | bad => exact False.elim
theorem def_ok {x qual : Str} {params : Arguments} {body : List Stmt} {scope : Scope} {f : Addr} {fd : FuncData} {N ps : List Str} {k : Nat} {ms : List Mode} {s : S} (F : FunD K x qual params body scope [] [] f fd) (Sc : FnScope N ps scope) (hm : ms.length = ps.length) (hN : ms.length ≤ N.length) (hg : mg x = some (.ref f))
    (hbd : ∀ (kV doc pm : Value) (an : Option Addr) (cdv ct : Value) (us : List Value), us.length = ps.length → bindArgs (PySem.W.fnOf x qual params body scope .none kV doc pm an cdv ct) ⟨us, []⟩ = pure (ps.zip us))
    (hb : ∀ (cdv : Value) (A : Around) (outer : List PySem.Env) (sh : Shared) (H : Hp) (E : XK) (C : Addr → Prop), Room k (XD P w K mg base N qual scope f cdv A outer sh H E).A → Takes (XD P w K mg base N qual scope f cdv A outer sh H E) (fun c d _ H => E c d H) →
      PassesOwn (model P w) (XD P w K mg base N qual scope f cdv A outer sh H E).A (XD P w K mg base N qual scope f cdv A outer sh H E).env (XD P w K mg base N qual scope f cdv A outer sh H E).xe → BJ (XD P w K mg base N qual scope f cdv A outer sh H E) C (fun c d _ H => E c d H) body s) :
    DefOk P w K mg base (k + 1) x ps ms (runFn N.length ms s) := ⟨f, fd, fn_ok F Sc hm hN hb, hg, F.kp, F.bindsN hbd⟩
end
theorem RepMs.args {K : PySem.W.Frag} {C : Addr → Prop} {fp : Fp} {H : Hp} : ∀ {ms : List Mode} {ps : List PV} {vs : List V}, (∀ m ∈ ms, m ≠ .I) → RepMs K C fp H ms ps vs → RepArgs K (Am C fp) H ms ps vs
  | [], [], [], _, h => h
  | m :: ms, p :: ps, v :: vs, hm, h => by
    refine ⟨?_, RepMs.args (fun m h => hm m (List.mem_cons_of_mem _ h)) h.2⟩
    cases m with
    | E => exact h.1
    | B => exact h.1
    | I => exact (hm .I List.mem_cons_self rfl).elim
def noI : List Mode → Bool
  | [] => true
  | .I :: _ => false
  | _ :: ms => noI ms
theorem noI_ok : ∀ {ms : List Mode}, noI ms = true → ∀ m ∈ ms, m ≠ .I
  | [], _, _, h => nomatch h
  | .E :: ms, h, m, hm => by
    rcases List.mem_cons.mp hm with rfl | hm
    · intro z; cases z
    · exact noI_ok (ms := ms) h m hm
  | .B :: ms, h, m, hm => by
    rcases List.mem_cons.mp hm with rfl | hm
    · intro z; cases z
    · exact noI_ok (ms := ms) h m hm
section
variable {X : Cx} {C : Addr → Prop} {W : WX} {e : Expr} {pos p2 : Pos}
def oCall (g : Fn) (l : L) : O := fun ρ => l ρ >>= g
theorem call_read {ms : List Mode} {g : Fn} {l : L} {σ : L2.St} {H : Hp} {Q : VK} (hI : noI ms = true) (h : tO X.K C W (oCall g l) σ H Q) : tL X.K C W ms l σ H fun vs H1 => spG X.K ms g vs H1 Q (WE W σ) := by
  obtain ⟨ρ, fp, eo, o⟩ := h
  refine ⟨ρ, fp, eo, (Out.bind o).mono (fun ps o1 vs H1 s1 r1 => ?_) fun _ _ q => q⟩
  refine ⟨Am C fp, ps, RepMs.args (noI_ok hI) r1, o1.mono (fun t q v H' Fn s n hf r => ?_) fun c fs q H' s => ?_⟩
  · have k : KO X.K (Am C fp) H1 t Q := KO.later q s1
    exact k v H' Fn s n hf (r.carry (Carry.refl fun a _ z _ => ⟨z.1.elim id fun y => (eo.same s1).am_new y, z.2⟩) fun _ _ _ z => z)
  · have := q H' (s1.trans s)
    cases fs with
    | none => exact this
    | some fs => exact this
theorem oj_call {k j : Nat} {x : Str} {ps : List Str} {ms : List Mode} {g : Fn} {es : List Expr} {l : L} (D : DefOk X.prog X.w X.K X.mg X.base k x ps ms g) (hr : Room j X.A) (hk : k ≤ j) (tk : Takes X W) (hg : Gl X x) (ha : LJ' X C W ms (e :: es) l) (hI : noI ms = true := by rfl) (hdb : (x == ("__debug__" : Str)) = false := by decide)
    (he : starEach (e :: es) X.env = (false, eval e X.env) :: starEach es X.env := by rfl) (hpl : (backTo pos (starEach es X.env)).any (·.1) = false := by rfl) : OJ X C W (.Call (.Name x p2) (e :: es) [] pos) (oCall g l) := by
  obtain ⟨f, fd, F, hm, kp, b⟩ := D.ex
  exact pe_weak (pe_callS F (hr.mono hk) hg hm kp b (fun σ => passAt tk σ) ha hdb he hpl) fun σ H Q h => call_read hI h
theorem huR {j : Nat} (hr : Room j X.A) : Hu X := by
  have := hr.un
  show X.A.units + 150 < cLine
  omega
end
/-! ### the end -/
theorem FnOk.calm {P : Program} {w : World} {K : PySem.W.Frag} {mg : Str → Option Value} {base : Heap} {k : Nat} {f : Addr} {fd : FuncData} {ps : List Str} {sp : Sp} (F : FnOk P w K mg base (L2.CX P w) k f fd ps sp) : FnOk P w K mg base L2.CX0 k f fd ps (fun vs H Q _ => sp vs H Q fun _ _ _ => False) where
  len := fun vs H Q _ h => F.len vs H Q _ h
  run := fun A outer s H args us vs Q E hr e b r h => codeAny_mono (F.run A outer s H args us vs Q _ hr e b r h) fun q s' hq => by
    cases q with
    | error e =>
      obtain ⟨_, _, _, _, _, _, _, _, _, _, _, _, z⟩ := hq
      exact z.elim
    | ok fl => cases fl <;> exact hq
theorem script_rep {K : PySem.W.Frag} {H : Hp} {a : Addr} {ns : List Int} (h : Only H) (hS : SqL K H a (ns.map V.int)) : Rep K (fun _ => False) H (.rol (ns.map .int)) (.ref a) := by
  refine ⟨a, ns.map V.int, rfl, ?_, Reps.of_ints ns⟩
  rcases hS with (hS | hS) | hS
  · rcases h a with z | ⟨o, xs, z⟩
    · rw [hS] at z; cases z
    · rw [hS] at z; cases z
  · exact .inl hS
  · exact .inr hS
/-- the law: its run gives True -/
theorem law_sp {K : PySem.W.Frag} {g : Fn} {n : Nat} (hl : ∀ ns : List Int, ns.length ≤ n → g [.rol (ns.map .int)] = .ok (.fz (.bl true))) {H : Hp} {a : Addr} {ns : List Int} (h1 : ns.length ≤ n) (h2 : Only H) (hS : SqL K H a (ns.map V.int)) :
    spG K [.E] g [.ref a] H (fun v _ => v = .bl true) fun _ _ _ => False := by
  refine ⟨fun _ => False, [.rol (ns.map .int)], ⟨script_rep h2 hS, trivial⟩, ?_⟩
  rw [hl ns h1]
  intro v H' Fn s n hf r
  exact r.2
end Fz
end
section
/-! FwL: zip, enumerate, signs, index, sorted texts. -/
namespace Fz
open PySem PySem.Spec PyProof.Rows L2
section
variable {X : Cx} {C : Addr → Prop} {W : WX} {e e1 e2 e3 tg iter : Expr} {pos p2 pn tpos : Pos} {m m1 m2 m3 : Mode} {f f1 f2 f3 : E} {elts : List Expr} {kk : Nat}
/-! ### zip, enumerate of lists -/
def listOf' : PV → Res (List PV)
  | .lst ps => .ok ps
  | .rol ps => .ok ps
  | _ => .bad
theorem listOf_out {p : PV} {P : List PV → Prop} {E' : XF} (h : Out (listOf' p) P E') : ∃ ps, listOf' p = .ok ps ∧ P ps := by
  cases p <;> first | exact ⟨_, rfl, h⟩ | exact h.elim
theorem listOf_items {p : PV} {ps : List PV} (h : listOf' p = .ok ps) : itemsOf p = .ok ps ∧ isTupP p = false := by
  cases p <;> simp only [listOf', Res.ok.injEq, reduceCtorEq] at h <;> subst h <;> exact ⟨rfl, rfl⟩
theorem iter_zip {K : PySem.W.Frag} {A : Addr → Prop} {H0 : Hp} {rel : Hp → Prop} {a b : Addr} {ps qs : List PV} {xs ys : List V} (r : Reps K A H0 ps xs) (r2 : Reps K A H0 qs ys) (h : ∀ H, rel H → SqL K H a xs) (h2 : ∀ H, rel H → SqL K H b ys) :
    IterOk K A H0 rel (Itz K a b) (List.zipWith (fun p q => PV.tup [p, q]) ps qs) := fun H B hr c i => by
  have s1 := h H hr
  have s2 := h2 H hr
  have c1 := Reps.carry c r
  have c2 := Reps.carry c r2
  refine ⟨fun p hp => ?_, fun hi => ⟨xs, ys, s1, s2, ?_⟩⟩
  · rw [List.getElem?_zipWith] at hp
    cases e1 : ps[i]? with
    | none => rw [e1] at hp; simp at hp
    | some p1 =>
      cases e2 : qs[i]? with
      | none => rw [e1, e2] at hp; simp at hp
      | some q1 =>
        rw [e1, e2] at hp
        simp only [Option.some.injEq] at hp
        subst hp
        obtain ⟨v, hv, rv⟩ := c1.get e1
        obtain ⟨u, hu, ru⟩ := c2.get e2
        refine ⟨⟨xs, ys, v, u, s1, s2, hv, hu⟩, fun x H' ⟨T, x1, y1, ex, hT, eH, f1, f2⟩ => ?_⟩
        have := f1 xs s1
        rw [hv] at this; cases this
        have := f2 ys s2
        rw [hu] at this; cases this
        subst ex eH
        exact ⟨same_upd hT, T, [v, u], rfl, upd_same, Rep.same (same_upd hT) rv |> fun a => Reps.cons a (Reps.one (Rep.same (same_upd hT) ru))⟩
  · rw [List.length_zipWith] at hi
    rw [c1.length, c2.length]
    omega
def lZip (f1 f2 : E) : L := fun ρ => f1 ρ >>= fun x => f2 ρ >>= fun y => listOf' x >>= fun ps => listOf' y >>= fun qs => .ok (List.zipWith (fun p q => PV.tup [p, q]) ps qs)
theorem zip_read {rel : Hp → Fp → Hp → Prop} {σ : L2.St} {H : Hp} {R : It → Hp → Prop} (hst : ∀ (fp : Fp) H' p v ps, RepM X.K C fp m H' p v → itemsOf p = .ok ps → Stands X.K (Am C fp) H' (rel H' fp) p v ps) (hrf : ∀ H fp, rel H fp H)
    (h : tI X.K C W rel (lZip f1 f2) σ H R) : iZip X.K (tCons (tE X.K C W m f1) (tCons (tE X.K C W m f2) tNil)) σ H R := by
  obtain ⟨ρ, fp, eo, o⟩ := h
  refine two (m1 := m) (m2 := m) eo o fun p q v u H2 s eo2 o2 r1 r2 => ?_
  obtain ⟨ps, hp, o3⟩ := listOf_out (Out.bind o2)
  obtain ⟨qs, hq, o4⟩ := listOf_out (Out.bind o3)
  obtain ⟨i1, t1⟩ := listOf_items hp
  obtain ⟨i2, t2⟩ := listOf_items hq
  obtain ⟨a, xs, rfl, ra, ha, _⟩ := hst fp H2 p v ps r1 i1
  obtain ⟨b, ys, rfl, rb, hb, _⟩ := hst fp H2 q u qs r2 i2
  exact ⟨a, b, xs, ys, rfl, ha t1 H2 (hrf _ _), hb t2 H2 (hrf _ _), o4 _ H2 s (iter_zip ra rb (ha t1) (hb t2))⟩
theorem ij_zip (hg : Gl X "zip") (hm : X.mg "zip" = none) (h1 : EJ X C W .E e1 f1) (h2 : EJ X C W .E e2 f2) (hs : starEach [e1, e2] X.env = (false, eval e1 X.env) :: starEach [e2] X.env := by rfl) (hs2 : starEach [e2] X.env = (false, eval e2 X.env) :: starEach [] X.env := by rfl) (hpl : (backTo pos (starEach [e2] X.env)).any (·.1) = false := by rfl) :
    IJ X C W relG (.Tuple elts kk tpos) (.Call (.Name "zip" pn) [e1, e2] [] pos) (lZip f1 f2) :=
  pi_weak (pi_zip hg hm (pa_cons h1 (pa_cons h2 pa_nil hs2) hs) (hs := hs) (hpl := hpl)) fun σ H R q => zip_read (m := .E) (fun fp H' p v ps r hp => seq_stands r hp) (fun _ _ => relG.refl) q
theorem ij_zipS (hg : Gl X "zip") (hm : X.mg "zip" = none) (h1 : EJ X C W .I e1 f1) (h2 : EJ X C W .I e2 f2) (hs : starEach [e1, e2] X.env = (false, eval e1 X.env) :: starEach [e2] X.env := by rfl) (hs2 : starEach [e2] X.env = (false, eval e2 X.env) :: starEach [] X.env := by rfl) (hpl : (backTo pos (starEach [e2] X.env)).any (·.1) = false := by rfl) :
    IJ X C W relS (.Tuple elts kk tpos) (.Call (.Name "zip" pn) [e1, e2] [] pos) (lZip f1 f2) :=
  pi_weak (pi_zip hg hm (pa_cons h1 (pa_cons h2 pa_nil hs2) hs) (hs := hs) (hpl := hpl)) fun σ H R q => zip_read (m := .I) (fun fp H' p v ps r hp => seq_standsS r hp) (fun H fp => Same.refl H) q
def enumL (ps : List PV) : List PV := ps.zipIdx.map fun q => PV.tup [.int (q.2 : Nat), q.1]
theorem iter_enum {K : PySem.W.Frag} {A : Addr → Prop} {H0 : Hp} {rel : Hp → Prop} {a : Addr} {ps : List PV} {xs : List V} (r : Reps K A H0 ps xs) (h : ∀ H, rel H → SqL K H a xs) : IterOk K A H0 rel (Ite K a) (enumL ps) := fun H B hr c i => by
  have s1 := h H hr
  have c1 := Reps.carry c r
  refine ⟨fun p hp => ?_, fun hi => ⟨xs, s1, by rw [c1.length]; simpa [enumL] using hi⟩⟩
  rw [enumL, List.getElem?_map, List.getElem?_zipIdx] at hp
  cases e1 : ps[i]? with
  | none => rw [e1] at hp; simp at hp
  | some p1 =>
    rw [e1] at hp
    simp only [Option.map_some, Option.some.injEq, Nat.zero_add] at hp
    subst hp
    obtain ⟨v, hv, rv⟩ := c1.get e1
    refine ⟨⟨xs, v, s1, hv⟩, fun x H' ⟨T, x1, ex, hT, eH, f1⟩ => ?_⟩
    have := f1 xs s1
    rw [hv] at this; cases this
    subst ex eH
    exact ⟨same_upd hT, T, [.int (i : Nat), v], rfl, upd_same, Reps.cons (p := .int (i : Nat)) rfl (Reps.one (Rep.same (same_upd hT) rv))⟩
def lEnum (f : E) : L := fun ρ => f ρ >>= fun x => listOf' x >>= fun ps => .ok (enumL ps)
theorem enum_read {rel : Hp → Fp → Hp → Prop} {σ : L2.St} {H : Hp} {R : It → Hp → Prop} (hst : ∀ (fp : Fp) H' p v ps, RepM X.K C fp m H' p v → itemsOf p = .ok ps → Stands X.K (Am C fp) H' (rel H' fp) p v ps) (hrf : ∀ H fp, rel H fp H)
    (h : tI X.K C W rel (lEnum f) σ H R) : iEnum X.K (tCons (tE X.K C W m f) tNil) σ H R := by
  obtain ⟨ρ, fp, eo, o⟩ := h
  refine ⟨ρ, fp, eo, (Out.bind o).mono (fun p o2 v H2 s r1 => ?_) fun _ _ q => q⟩
  obtain ⟨ps, hp, o3⟩ := listOf_out (Out.bind o2)
  obtain ⟨i1, t1⟩ := listOf_items hp
  obtain ⟨a, xs, rfl, ra, ha, _⟩ := hst fp H2 p v ps r1 i1
  exact ⟨a, xs, rfl, ha t1 H2 (hrf _ _), o3 _ H2 s (iter_enum ra (ha t1))⟩
theorem ij_enum (hg : Gl X "enumerate") (hm : X.mg "enumerate" = none) (h1 : EJ X C W .E e f) (hs : starEach [e] X.env = (false, eval e X.env) :: starEach [] X.env := by rfl) : IJ X C W relG (.Tuple elts kk tpos) (.Call (.Name "enumerate" pn) [e] [] pos) (lEnum f) :=
  pi_weak (pi_enum hg hm (pa_cons h1 pa_nil hs) (hs := hs)) fun σ H R q => enum_read (m := .E) (fun fp H' p v ps r hp => seq_stands r hp) (fun _ _ => relG.refl) q
theorem ij_enumS (hg : Gl X "enumerate") (hm : X.mg "enumerate" = none) (h1 : EJ X C W .I e f) (hs : starEach [e] X.env = (false, eval e X.env) :: starEach [] X.env := by rfl) : IJ X C W relS (.Tuple elts kk tpos) (.Call (.Name "enumerate" pn) [e] [] pos) (lEnum f) :=
  pi_weak (pi_enum hg hm (pa_cons h1 pa_nil hs) (hs := hs)) fun σ H R q => enum_read (m := .I) (fun fp H' p v ps r hp => seq_standsS r hp) (fun H fp => Same.refl H) q

/-! ### a method with one argument whose answer is an atom -/
inductive Tm where
  | list | str
def Tm.name : Tm → String
  | .list => "list"
  | .str => "str"
def Tm.is : Tm → PV → Bool
  | .list, .lst _ => true
  | .list, .rol _ => true
  | .str, .str _ => true
  | _, _ => false
theorem tm_ok {t : Tm} {K : PySem.W.Frag} {H : Hp} {p : PV} {v : V} (h : t.is p = true) (r : Rep K (fun _ => True) H p v) : tyV K t.name v H := by
  cases t <;> cases p <;> simp only [Tm.is, reduceCtorEq] at h
  · obtain ⟨a, xs, rfl, _, ha, _⟩ := r; exact .inl ⟨rfl, xs, SqL.of ha⟩
  · obtain ⟨a, xs, rfl, ha, _⟩ := r; exact .inl ⟨rfl, xs, ha.sq⟩
  · rw [show v = .str _ from r]; rfl
def eM1 (t : Tm) (g : PV → PV → Option PV) (f1 f2 : E) : E := fun ρ => f1 ρ >>= fun x => if t.is x = true then f2 ρ >>= fun y => ofO (g x y) else .bad
def Mt1A (K : PySem.W.Frag) (r : V → List V → Hp → VK → Prop) (g : PV → PV → Option PV) : Prop := ∀ H p q z v u Q, g p q = some z → Rep K (fun _ => True) H p v → Rep K (fun _ => True) H q u → (∀ w, Atom K z w → Q w H) → r v [u] H Q
theorem ej_m1 (t : Tm) {nid : String} {name : Str} {r : V → List V → Hp → VK → Prop} {g : PV → PV → Option PV} {apos cpos : Pos} (pa : PlainAttrs t.name) (slot : PySem.Slot t.name name nid) (hty : typeOf (.builtin nid) = pure (.type "method_descriptor")) (hm : MtR X nid r) (hg : Mt1A X.K r g)
    (h1 : EJ X C W m1 e1 f1) (h2 : EJ X C W m2 e2 f2) (hbase : attributeBase e1 name X.env (eval e1 X.env) = eval e1 X.env := by rfl)
    (hfew : ((backTo cpos (starEach [e2] X.env)).all (fun x => !x.1) && (backToKw cpos (keywordEach [] X.env)).all (fun x => x.1.isSome) && decide ([e2].length + ([] : List Keyword).length + (if ([] : List Keyword).isEmpty then 0 else 1) < 30)) = true := by rfl)
    (hline : (apos.endLine == cpos.line) = true := by rfl) (hs : starEach [e2] X.env = (false, eval e2 X.env) :: starEach [] X.env := by rfl) (hplain : (backTo cpos (starEach [] X.env)).any (·.1) = false := by rfl) :
    EJ X C W m (.Call (.Attribute e1 name apos) [e2] [] cpos) (eM1 t g f1 f2) :=
  pe_weak (pe_bm pa slot hty hm h1 (pa_cons h2 pa_nil hs) hbase hfew hline hs hplain) fun σ H Q ⟨ρ, fp, eo, o⟩ => by
    refine ⟨ρ, fp, eo, (Out.bind o).mono (fun p o1 v H1 s1 r1 => ?_) fun _ _ q => q⟩
    split at o1
    · rename_i ht
      refine ⟨tm_ok ht (RepM.toB r1), ρ, fp, eo.same s1, (Out.bind o1).mono (fun q o2 u H2 s2 r2 => ?_) fun _ _ q => q.later s1⟩
      obtain ⟨z, hz, hQ⟩ := Out.ofO o2
      exact hg H2 p q z v u Q hz (Rep.same s2 (RepM.toB r1)) (RepM.toB r2) fun w a => hQ w H2 (s1.trans s2) a.rm
    · exact o1.elim
/-- xs.index(y), flat items -/
def gIndex : PV → PV → Option PV
  | .lst ps, y => if isFlat y && ps.all isFlat then (ps.findIdx? fun z => pvEq z y).map fun j => .int (j : Nat) else none
  | .rol ps, y => if isFlat y && ps.all isFlat then (ps.findIdx? fun z => pvEq z y).map fun j => .int (j : Nat) else none
  | _, _ => none
theorem flat_get {K : PySem.W.Frag} {A : Addr → Prop} {H : Hp} : ∀ {ps : List PV} {vs : List V}, ps.all isFlat = true → Reps K A H ps vs → vs.all flatV = true
  | [], _, _, r => by rw [show _ = [] from r]; rfl
  | p :: ps, _, f, r => by
    obtain ⟨x, t, rfl, r1, r2⟩ := r
    simp only [List.all_cons, Bool.and_eq_true] at f
    simp [rep_flat f.1 r1, flat_get f.2 r2]
theorem index_read {K : PySem.W.Frag} {H : Hp} {a : Addr} {ps : List PV} {xs : List V} {y z : PV} {u : V} {Q : VK} (hS : SqL K H a xs) (rr : Reps K (fun _ => True) H ps xs) (h : (if isFlat y && ps.all isFlat then (ps.findIdx? fun z => pvEq z y).map fun j => PV.int (j : Nat) else none) = some z)
    (r2 : Rep K (fun _ => True) H y u) (k : ∀ w, Atom K z w → Q w H) : rIndex K (.ref a) [u] H Q := by
  split at h
  · rename_i hf
    simp only [Bool.and_eq_true] at hf
    cases e : ps.findIdx? (fun z => pvEq z y) with
    | none => rw [e] at h; cases h
    | some j =>
      rw [e] at h; cases h
      obtain ⟨hj, h1, h2⟩ := List.findIdx?_eq_some_iff_getElem.mp e
      obtain ⟨w, hw, rw'⟩ := rr.get (List.getElem?_eq_getElem hj)
      have fl : ∀ (i : Nat) (hi : i < ps.length), isFlat ps[i] = true := fun i hi => List.all_eq_true.mp hf.2 _ (List.getElem_mem hi)
      refine ⟨a, xs, u, j, w, rfl, rfl, hS, rep_flat hf.1 r2, flat_get hf.2 rr, hw, by rw [eqV_pv (fl j hj) hf.1 rw' r2]; exact h1, fun i z' hi hz => ?_, k _ (atom_int _)⟩
      obtain ⟨p, hp, rp⟩ := rr.getV hz
      have hil : i < ps.length := by omega
      rw [List.getElem?_eq_getElem hil] at hp
      cases hp
      rw [eqV_pv (fl i hil) hf.1 rp r2]
      simpa using h2 i hi
  · cases h
theorem m_index : Mt1A X.K (rIndex X.K) gIndex := fun H p q z v u Q hg r1 r2 k => by
  cases p <;> simp only [gIndex, reduceCtorEq] at hg
  · obtain ⟨a, xs, rfl, _, ha, rr⟩ := r1; exact index_read (SqL.of ha) rr hg r2 k
  · obtain ⟨a, xs, rfl, ha, rr⟩ := r1; exact index_read ha.sq rr hg r2 k
/-- x.startswith(y) -/
def preB : Tx → Tx → Bool
  | [], _ => true
  | _ :: _, [] => false
  | c :: x, d :: y => c == d && preB x y
end

/-! ### sorted texts, whole numbers -/
def insT {α : Type} (le : α → α → Bool) (x : α) : List α → List α
  | [] => [x]
  | y :: r => if le x y then x :: y :: r else y :: insT le x r
def sortT {α : Type} (le : α → α → Bool) : List α → List α
  | [] => []
  | x :: r => insT le x (sortT le r)
section
variable {α : Type} {le : α → α → Bool}
theorem insT_perm (x : α) : ∀ l, (insT le x l).Perm (x :: l)
  | [] => .refl _
  | y :: r => by
    simp only [insT]
    split
    · exact .refl _
    · exact ((insT_perm x r).cons y).trans (.swap x y r)
theorem sortT_perm : ∀ l, (sortT le l).Perm l
  | [] => .refl _
  | x :: r => (insT_perm x _).trans ((sortT_perm r).cons x)
theorem insT_sorted (tot : ∀ a b, le a b = true ∨ le b a = true) (tr : ∀ a b c, le a b = true → le b c = true → le a c = true) (x : α) : ∀ l, l.Pairwise (fun a b => le a b = true) → (insT le x l).Pairwise fun a b => le a b = true
  | [], _ => by simp [insT]
  | y :: r, h => by
    simp only [insT]
    obtain ⟨h1, h2⟩ := List.pairwise_cons.mp h
    split
    · rename_i hxy
      exact List.pairwise_cons.mpr ⟨fun z hz => (List.mem_cons.mp hz).elim (fun e => e ▸ hxy) fun hz => tr _ _ _ hxy (h1 z hz), h⟩
    · rename_i hxy
      refine List.pairwise_cons.mpr ⟨fun z hz => ?_, insT_sorted tot tr x r h2⟩
      rcases List.mem_cons.mp ((insT_perm x r).mem_iff.mp hz) with rfl | hz
      · exact (tot z y).resolve_left hxy
      · exact h1 z hz
theorem sortT_sorted (tot : ∀ a b, le a b = true ∨ le b a = true) (tr : ∀ a b c, le a b = true → le b c = true → le a c = true) : ∀ l, (sortT le l).Pairwise fun a b => le a b = true
  | [] => .nil
  | x :: r => insT_sorted tot tr x _ (sortT_sorted tot tr r)
end
def txLe (x y : Tx) : Bool := !txLt y x
theorem txLt_iff {x y : Tx} : txLt x y = true ↔ x.map Fin.val < y.map Fin.val := by simp [txLt]
theorem txLe_iff {x y : Tx} : txLe x y = true ↔ ¬ y.map Fin.val < x.map Fin.val := by simp [txLe, txLt]
theorem nlt_trans {a b c : List Nat} (h1 : ¬ b < a) (h2 : ¬ c < b) : ¬ c < a := by
  have h1 : a ≤ b := List.not_lt.mp h1
  have h2 : b ≤ c := List.not_lt.mp h2
  exact List.not_lt.mpr (List.le_trans h1 h2)
theorem txLe_trans (x y z : Tx) (h1 : txLe x y = true) (h2 : txLe y z = true) : txLe x z = true := txLe_iff.mpr (nlt_trans (txLe_iff.mp h1) (txLe_iff.mp h2))
theorem txLe_total (x y : Tx) : txLe x y = true ∨ txLe y x = true := by
  rw [txLe_iff, txLe_iff]
  have := List.le_total (x.map Fin.val) (y.map Fin.val)
  rcases this with h | h
  · exact .inl (List.not_lt.mpr h)
  · exact .inr (List.not_lt.mpr h)
theorem txLe_antisymm {x y : Tx} (h1 : txLe x y = true) (h2 : txLe y x = true) : x = y :=
  val_inj (List.le_antisymm (List.not_lt.mp (txLe_iff.mp h1)) (List.not_lt.mp (txLe_iff.mp h2)))
theorem sorted_le {ys : List Str} (h : sortedS ys = true) : ys.Pairwise fun a b => ¬ b.cps.toList < a.cps.toList := by
  have tr : ∀ {a b c : Str}, ¬ b.cps.toList < a.cps.toList → ¬ c.cps.toList < b.cps.toList → ¬ c.cps.toList < a.cps.toList := fun h1 h2 => nlt_trans h1 h2
  have main : ∀ (r : List Str) (p : Str), risingS p r = true → (p :: r).Pairwise fun a b => ¬ b.cps.toList < a.cps.toList := by
    intro r
    induction r with
    | nil => intro p _; simp
    | cons x r ih =>
      intro p h
      simp only [risingS, Bool.and_eq_true, Bool.not_eq_true'] at h
      have h1 : ¬ x.cps.toList < p.cps.toList := by
        have := h.1
        rw [ltCps_eq] at this
        simpa using this
      have h2 := ih x h.2
      refine List.pairwise_cons.mpr ⟨fun z hz => ?_, h2⟩
      rcases List.mem_cons.mp hz with rfl | hz
      · exact h1
      · exact tr h1 ((List.pairwise_cons.mp h2).1 z hz)
  cases ys with
  | nil => exact .nil
  | cons p r => exact main r p h
theorem sorted_eq {xs : List Tx} {ys : List Str} (hp : ys.Perm (xs.map mkS)) (hs : sortedS ys = true) : ys = (sortT txLe xs).map mkS := by
  have p2 : ((sortT txLe xs).map mkS).Perm (xs.map mkS) := (sortT_perm xs).map mkS
  have s2 : ((sortT txLe xs).map mkS).Pairwise fun a b => ¬ b.cps.toList < a.cps.toList := by
    rw [List.pairwise_map]
    exact (sortT_sorted txLe_total txLe_trans xs).imp fun h => by rw [mkS_cps, mkS_cps]; exact txLe_iff.mp h
  refine (hp.trans p2.symm).eq_of_pairwise (fun a b _ _ h1 h2 => ?_) (sorted_le hs) s2
  have := List.le_antisymm (List.not_lt.mp h1) (List.not_lt.mp h2)
  cases a; cases b
  simp only [Str.mk.injEq]
  exact Array.toList_inj.mp this
def strsOf : List PV → Option (List Tx)
  | [] => some []
  | .str x :: ps => (strsOf ps).map (x :: ·)
  | _ :: _ => none
theorem strsOf_eq : ∀ {ps : List PV} {xs : List Tx}, strsOf ps = some xs → ps = xs.map .str
  | [], xs, h => by cases h; rfl
  | p :: ps, xs, h => by
    cases p <;> simp only [strsOf, reduceCtorEq] at h
    cases e : strsOf ps with
    | none => rw [e] at h; cases h
    | some ys => rw [e] at h; cases h; rw [strsOf_eq e]; rfl
theorem strsOf_map (xs : List Tx) : strsOf (xs.map .str) = some xs := by
  induction xs with
  | nil => rfl
  | cons x xs ih => simp [strsOf, ih]
def gSortS : PV → Option OT
  | .lst ps => (strsOf ps).bind fun xs => if xs.length < 64 then some (.l ((sortT txLe xs).map .str)) else none
  | _ => none
section
variable {X : Cx}
theorem c_sortS : Call1 X.K (rSortedS X.K) .I gSortS := fun C fp H p t v Q hg r k => by
  cases p <;> simp only [gSortS, reduceCtorEq] at hg
  rename_i ps
  obtain ⟨a, vs, rfl, ha, rr⟩ := r
  cases e : strsOf ps with
  | none => rw [e] at hg; cases hg
  | some xs =>
    rw [e] at hg
    simp only [Option.bind_some] at hg
    split at hg
    · rename_i hl
      cases hg
      rw [strsOf_eq e] at rr
      have ev := rr.strs
      refine ⟨a, xs.map mkS, rfl, by rw [List.map_map]; rw [ev] at ha; exact SqL.of ha, by simpa using hl, fun ys p hp hs hn => ?_⟩
      rw [sorted_eq hp hs, List.map_map]
      exact k.l (Reps.of_strs _) p hn
    · cases hg
end
end Fz
end
section
/-! FwM: to reckon with the pure bodies. -/
namespace Fz
open PySem PySem.Spec PyProof.Rows L2

/-! ### each construct at an environment -/
section
variable (ρ : Env) (m : Mode) (i j k : Nat) (f f1 f2 f3 : E) (t t1 t2 : T) (fo fo1 fo2 : O) (s s1 s2 : S) (l l1 l2 : L) (gg : G)
@[simp] theorem m_eC (p : PV) : eC p ρ = .ok p := (rfl)
@[simp] theorem m_eOfO : eOfO fo ρ = fo ρ >>= fun t => .ok t.pv := (rfl)
@[simp] theorem m_oOfE : oOfE f ρ = f ρ >>= fun p => .ok (.fz p) := (rfl)
@[simp] theorem m_eBin (g : PV → PV → Option PV) : eBin g f1 f2 ρ = f1 ρ >>= fun x => f2 ρ >>= fun y => ofO (g x y) := (rfl)
@[simp] theorem m_eUn (g : PV → Option PV) : eUn g f ρ = f ρ >>= fun x => ofO (g x) := (rfl)
@[simp] theorem m_oUn (g : PV → Option OT) : oUn g f ρ = f ρ >>= fun x => ofO (g x) := (rfl)
@[simp] theorem m_oBin (g : PV → PV → Option OT) : oBin g f1 f2 ρ = f1 ρ >>= fun x => f2 ρ >>= fun y => ofO (g x y) := (rfl)
@[simp] theorem m_eCmp (g : Cmp) : eCmp g f1 f2 ρ = f1 ρ >>= fun x => f2 ρ >>= fun y => ofO (g x y) >>= fun b => .ok (.bl b) := (rfl)
@[simp] theorem m_tCmp (g : Cmp) : tCmp g f1 f2 ρ = f1 ρ >>= fun x => f2 ρ >>= fun y => ofO (g x y) := (rfl)
@[simp] theorem m_tChn (g g' : Cmp) : tChn g g' f1 f2 f3 ρ = f1 ρ >>= fun x => f2 ρ >>= fun y => ofO (g x y) >>= fun b => if b = true then f3 ρ >>= fun z => ofO (g' y z) else .ok false := (rfl)
@[simp] theorem m_tAndF : tAndF t1 t2 ρ = t1 ρ >>= fun b => if b = true then t2 ρ else .ok false := (rfl)
@[simp] theorem m_tOrF : tOrF t1 t2 ρ = t1 ρ >>= fun b => if b = true then .ok true else t2 ρ := (rfl)
@[simp] theorem m_tNotF : tNotF t ρ = t ρ >>= fun b => .ok (!b) := (rfl)
@[simp] theorem m_eAnd : eAnd f1 f2 ρ = f1 ρ >>= fun x => bOf x >>= fun b => if b = true then f2 ρ else .ok (.bl false) := (rfl)
@[simp] theorem m_eOr : eOr f1 f2 ρ = f1 ρ >>= fun x => bOf x >>= fun b => if b = true then .ok (.bl true) else f2 ρ := (rfl)
@[simp] theorem m_eNot : eNot f1 ρ = f1 ρ >>= fun x => bOf x >>= fun b => .ok (.bl (!b)) := (rfl)
@[simp] theorem m_eIf : eIf t f1 f2 ρ = t ρ >>= fun b => if b = true then f1 ρ else f2 ρ := (rfl)
@[simp] theorem m_oIf : oIf t fo1 fo2 ρ = t ρ >>= fun b => if b = true then fo1 ρ else fo2 ρ := (rfl)
@[simp] theorem m_tOfE : tOfE f ρ = f ρ >>= truth := (rfl)
@[simp] theorem m_eIx : eIx f1 f2 ρ = f1 ρ >>= fun x => f2 ρ >>= fun y => ofO (gIx x y) := (rfl)
@[simp] theorem m_eM1 (tm : Tm) (g : PV → PV → Option PV) : eM1 tm g f1 f2 ρ = f1 ρ >>= fun x => if tm.is x = true then f2 ρ >>= fun y => ofO (g x y) else .bad := (rfl)
@[simp] theorem m_pNo : pNo ρ = .ok none := (rfl)
@[simp] theorem m_pAt : pAt f ρ = f ρ >>= fun x => intOf x >>= fun i => .ok (some i) := (rfl)
@[simp] theorem m_oSl (lo hi : P) : oSl f lo hi ρ = f ρ >>= fun x => lo ρ >>= fun l => hi ρ >>= fun u => ofO (gSl x l u) := (rfl)
@[simp] theorem m_lNil : lNil ρ = .ok [] := (rfl)
@[simp] theorem m_lCons : lCons f l ρ = f ρ >>= fun p => l ρ >>= fun ps => .ok (p :: ps) := (rfl)
@[simp] theorem m_oLst : oLst l ρ = l ρ >>= fun ps => .ok (.l ps) := (rfl)
@[simp] theorem m_eTup : eTup l ρ = l ρ >>= fun ps => .ok (.tup ps) := (rfl)
@[simp] theorem m_oCall (g : Fn) : oCall g l ρ = l ρ >>= g := (rfl)
@[simp] theorem m_lOf : lOf f ρ = f ρ >>= itemsOf := (rfl)
@[simp] theorem m_lZip : lZip f1 f2 ρ = f1 ρ >>= fun x => f2 ρ >>= fun y => listOf' x >>= fun ps => listOf' y >>= fun qs => .ok (List.zipWith (fun p q => PV.tup [p, q]) ps qs) := (rfl)
@[simp] theorem m_lEnum : lEnum f ρ = f ρ >>= fun x => listOf' x >>= fun ps => .ok (enumL ps) := (rfl)
@[simp] theorem m_sSeq : sSeq s1 s2 ρ = (s1 ρ).andThen s2 := (rfl)
@[simp] theorem m_sNil : sNil ρ = .nx ρ := (rfl)
@[simp] theorem m_sBrk : sBrk ρ = .bk ρ := (rfl)
@[simp] theorem m_sCnt : sCnt ρ = .ct ρ := (rfl)
@[simp] theorem m_sAsg : sAsg i fo ρ = withR (fo ρ) ρ fun t => if i < ρ.length then .nx (ρ.set i (toSlot t)) else .bad := (rfl)
@[simp] theorem m_sDrop : sDrop fo ρ = withR (fo ρ) ρ fun _ => .nx ρ := (rfl)
@[simp] theorem m_sRet : sRet fo ρ = withR (fo ρ) ρ fun t => .rt t := (rfl)
@[simp] theorem m_sRetN : sRetN ρ = .rt (.fz .non) := (rfl)
@[simp] theorem m_sIf : sIf t s1 s2 ρ = withR (t ρ) ρ fun b => if b = true then s1 ρ else s2 ρ := (rfl)
@[simp] theorem m_sFor : sFor l gg s ρ = withR (l ρ) ρ fun ps => loop gg s ps ρ := (rfl)
@[simp] theorem m_sDropQ (q : Qx) : sDropQ q ρ = withR (q ρ) ρ fun r => .nx r.2 := (rfl)
@[simp] theorem m_sRetQ (q : Qx) : sRetQ q ρ = withR (q ρ) ρ fun r => .rt (.fz r.1) := (rfl)
@[simp] theorem m_sAsgQ (q : Qx) : sAsgQ i q ρ = withR (q ρ) ρ fun r => if i < r.2.length then .nx (r.2.set i (.val r.1)) else .bad := (rfl)
@[simp] theorem m_qE : qE f ρ = f ρ >>= fun p => .ok (p, ρ) := (rfl)
@[simp] theorem m_gNm (p : PV) : gNm i p ρ = if i < ρ.length then some (ρ.set i (.val p)) else none := (rfl)
@[simp] theorem m_gsNil : gsNil [] ρ = some ρ := (rfl)
@[simp] theorem m_gTp (n : Nat) (h : Gs) (ps : List PV) : gTp n h (.tup ps) ρ = if ps.length = n then h ps ρ else none := (rfl)
end
@[simp] theorem pv_fz (p : PV) : (OT.fz p).pv = p := (rfl)
@[simp] theorem pv_l (p : List PV) : (OT.l p).pv = .lst p := (rfl)
@[simp] theorem ts_fz (p : PV) : toSlot (.fz p) = .val p := (rfl)
@[simp] theorem ts_l (p : List PV) : toSlot (.l p) = .own (.l p) := (rfl)
@[simp] theorem bOf_bl (b : Bool) : bOf (.bl b) = .ok b := (rfl)
@[simp] theorem intOf_int (i : Int) : intOf (.int i) = .ok i := (rfl)
/-! what a slot gives -/
def rdS (m : Mode) : Option Slot → Res PV
  | some (.val p) => .ok p
  | some (.bor p) => (match m with
    | .B => .ok p
    | .I => if immutI p then .ok p else .bad
    | .E => if immut p then .ok p else .bad)
  | some (.own t) => (match m, t with
    | .B, t => .ok t.pv
    | .I, .l ps => .ok (.lst ps)
    | .I, .d ps => .ok (.dic ps)
    | .I, .dt ps => .ok (.dit ps)
    | .I, .ins c fs => .ok (.ins c fs)
    | _, _ => .bad)
  | _ => .bad
@[simp] theorem m_eVar (m : Mode) (i : Nat) (ρ : Env) : eVar m i ρ = rdS m ρ[i]? := (rfl)
@[simp] theorem rd_val (m : Mode) (p : PV) : rdS m (some (.val p)) = .ok p := (rfl)
@[simp] theorem rd_bor (p : PV) : rdS .B (some (.bor p)) = .ok p := (rfl)
@[simp] theorem rd_borI (p : PV) : rdS .I (some (.bor p)) = if immutI p then .ok p else .bad := (rfl)
@[simp] theorem rd_borE (p : PV) : rdS .E (some (.bor p)) = if immut p then .ok p else .bad := (rfl)
@[simp] theorem rd_own (t : OT) : rdS .B (some (.own t)) = .ok t.pv := (rfl)
@[simp] theorem rd_ownI (ps : List PV) : rdS .I (some (.own (.l ps))) = .ok (.lst ps) := (rfl)
@[simp] theorem rd_ownD (ps : List (K1 × PV)) : rdS .I (some (.own (.d ps))) = .ok (.dic ps) := (rfl)
def rtS : Option Slot → Fl
  | some (.own t) => .rt t
  | some (.val p) => .rt (.fz p)
  | some (.bor p) => if immut p then .rt (.fz p) else .bad
  | _ => .bad
@[simp] theorem m_sRetV (i : Nat) (ρ : Env) : sRetV i ρ = rtS ρ[i]? := (rfl)
@[simp] theorem rt_own (t : OT) : rtS (some (.own t)) = .rt t := (rfl)
@[simp] theorem rt_val (p : PV) : rtS (some (.val p)) = .rt (.fz p) := (rfl)
@[simp] theorem rt_bor (p : PV) : rtS (some (.bor p)) = if immut p then .rt (.fz p) else .bad := (rfl)
def frzS (i : Nat) (ρ : Env) : Option Slot → Fl
  | some (.own t) => .nx (ρ.set i (.val t.pv))
  | _ => .nx ρ
@[simp] theorem m_sFrz (i : Nat) (ρ : Env) : sFrz i ρ = frzS i ρ ρ[i]? := (rfl)
@[simp] theorem frz_own (i : Nat) (ρ : Env) (t : OT) : frzS i ρ (some (.own t)) = .nx (ρ.set i (.val t.pv)) := (rfl)
@[simp] theorem frz_val (i : Nat) (ρ : Env) (p : PV) : frzS i ρ (some (.val p)) = .nx ρ := (rfl)
@[simp] theorem frz_bor (i : Nat) (ρ : Env) (p : PV) : frzS i ρ (some (.bor p)) = .nx ρ := (rfl)
@[simp] theorem frz_u (i : Nat) (ρ : Env) : frzS i ρ (some .u) = .nx ρ := (rfl)
def appS (i : Nat) (ρ : Env) (f : E) : Option Slot → Fl
  | some (.own (.l ps)) => withR (f ρ) ρ fun p => if ps.length < sizeLine then .nx (ρ.set i (.own (.l (ps ++ [p])))) else .bad
  | _ => .bad
@[simp] theorem m_sApp (i : Nat) (f : E) (ρ : Env) : sApp i (qE f) ρ = appS i ρ f ρ[i]? := by
  unfold sApp appS
  split
  · rename_i ps h
    simp only [m_qE]
    cases f ρ <;> simp [h]
  · rename_i h
    first
      | rfl
      | (split
         · rename_i ps h2; exact (h _ h2).elim
         · rfl)
@[simp] theorem app_l (i : Nat) (ρ : Env) (f : E) (ps : List PV) : appS i ρ f (some (.own (.l ps))) = withR (f ρ) ρ fun p => if ps.length < sizeLine then .nx (ρ.set i (.own (.l (ps ++ [p])))) else .bad := (rfl)
def extS (i : Nat) (ρ : Env) (f : E) : Option Slot → Fl
  | some (.own (.l ps)) => withR (f ρ) ρ fun y => (match y with
    | .lst qs => if ps.length + qs.length ≤ sizeLine then .nx (ρ.set i (.own (.l (ps ++ qs)))) else .bad
    | _ => .bad)
  | _ => .bad
@[simp] theorem m_sExt (i : Nat) (f : E) (ρ : Env) : sExt i f ρ = extS i ρ f ρ[i]? := (rfl)
@[simp] theorem ext_l (i : Nat) (ρ : Env) (f : E) (ps : List PV) : extS i ρ f (some (.own (.l ps))) = withR (f ρ) ρ fun y => (match y with
    | .lst qs => if ps.length + qs.length ≤ sizeLine then .nx (ρ.set i (.own (.l (ps ++ qs)))) else .bad
    | _ => .bad) := (rfl)
def popS (i : Nat) (ρ : Env) (f : E) : Option Slot → Res (PV × Env)
  | some (.own (.l ps)) => f ρ >>= fun x => intOf x >>= fun k => if bnd k = true then (match ixN ps.length k with
    | some j => (match ps[j]? with
      | some p => .ok (p, ρ.set i (.own (.l (ps.eraseIdx j))))
      | none => .bad)
    | none => .bad) else .bad
  | _ => .bad
@[simp] theorem m_qPopAt (i : Nat) (f : E) (ρ : Env) : qPopAt i f ρ = popS i ρ f ρ[i]? := (rfl)
theorem bnd_small {k : Int} (h1 : -4611686018427387904 ≤ k) (h2 : k < 4611686018427387904) : bnd k = true := by
  have e : (2 : Int) ^ 62 = 4611686018427387904 := by decide +kernel
  unfold bnd
  rw [e, decide_eq_true_iff]
  exact ⟨h1, h2⟩
theorem pop_l (i : Nat) (ρ : Env) (f : E) (ps : List PV) (k : Nat) (p : PV) (hk : f ρ = .ok (.int k)) (hp : ps[k]? = some p) (hb : ps.length ≤ 16777216) : popS i ρ f (some (.own (.l ps))) = .ok (p, ρ.set i (.own (.l (ps.eraseIdx k)))) := by
  have hl : k < ps.length := (List.getElem?_eq_some_iff.mp hp).1
  have h1 : bnd (k : Int) = true := bnd_small (by omega) (by omega)
  have h2 : ixN ps.length (k : Int) = some k := by
    unfold ixN
    rw [if_pos (by omega), if_pos (by omega)]
    simp
  have key : popS i ρ f (some (.own (.l ps))) = (f ρ >>= fun x => intOf x >>= fun k => if bnd k = true then (match ixN ps.length k with
    | some j => (match ps[j]? with
      | some p => .ok (p, ρ.set i (.own (.l (ps.eraseIdx j))))
      | none => .bad)
    | none => .bad) else .bad) := rfl
  rw [key, hk, bind_ok, intOf_int, bind_ok, if_pos h1, h2]
  dsimp only
  rw [hp]
@[simp] theorem m_sPar (i j : Nat) (g : L) (ρ : Env) : sPar i j g ρ = withR (g ρ) ρ fun ps => match ps with
  | [p, q] => if i < ρ.length ∧ j < ρ.length ∧ i ≠ j then .nx ((ρ.set i (.val p)).set j (.val q)) else .bad
  | _ => .bad := (rfl)
@[simp] theorem m_sPar3 (i j l : Nat) (g : L) (ρ : Env) : sPar3 i j l g ρ = withR (g ρ) ρ fun ps => match ps with
  | [p, q, r] => if i < ρ.length ∧ j < ρ.length ∧ l < ρ.length then .nx (((ρ.set i (.val p)).set j (.val q)).set l (.val r)) else .bad
  | _ => .bad := (rfl)
theorem run1 (n : Nat) (m1 : Mode) (s : S) (p : PV) : runFn n [m1] s [p] = (match s (slotOf m1 p :: List.replicate (n - 1) .u) with
  | .rt o => .ok o
  | .nx _ => .ok (.fz .non)
  | .ex c fs _ => .exc c fs
  | _ => .bad) := rfl
theorem runN (n : Nat) (ms : List Mode) (s : S) (ps : List PV) (h : ps.length = ms.length) {o : OT} (e : s (slotsOf ms ps ++ List.replicate (n - ps.length) .u) = .rt o) : runFn n ms s ps = .ok o := by
  unfold runFn
  rw [if_pos h, e]
/-! ### what a flow must do -/
structure Po where
  nx : Env → Prop
  bk : Env → Prop
  ct : Env → Prop
  rt : OT → Prop
  ex : String → Option (List (String × PV)) → Env → Prop
@[irreducible] def sat (f : Fl) (P : Po) : Prop := match f with
  | .nx ρ => P.nx ρ
  | .ct ρ => P.ct ρ
  | .bk ρ => P.bk ρ
  | .rt o => P.rt o
  | .ex c fs ρ => P.ex c fs ρ
  | .bad => False
@[simp] theorem sat_nx (ρ : Env) (P : Po) : sat (.nx ρ) P = P.nx ρ := by unfold sat; rfl
@[simp] theorem sat_bk (ρ : Env) (P : Po) : sat (.bk ρ) P = P.bk ρ := by unfold sat; rfl
@[simp] theorem sat_ct (ρ : Env) (P : Po) : sat (.ct ρ) P = P.ct ρ := by unfold sat; rfl
@[simp] theorem sat_rt (o : OT) (P : Po) : sat (.rt o) P = P.rt o := by unfold sat; rfl
@[simp] theorem sat_ex (c : String) (fs : Option (List (String × PV))) (ρ : Env) (P : Po) : sat (.ex c fs ρ) P = P.ex c fs ρ := by unfold sat; rfl
@[simp] theorem sat_then (f : Fl) (s : S) (P : Po) : sat (f.andThen s) P = sat f { P with nx := fun ρ => sat (s ρ) P } := by cases f <;> simp <;> unfold sat <;> rfl
theorem sat.mono {f : Fl} {P P' : Po} (h : sat f P) (h1 : ∀ ρ, P.nx ρ → P'.nx ρ) (h2 : ∀ ρ, P.bk ρ → P'.bk ρ) (h3 : ∀ ρ, P.ct ρ → P'.ct ρ) (h4 : ∀ o, P.rt o → P'.rt o) (h5 : ∀ c fs ρ, P.ex c fs ρ → P'.ex c fs ρ) : sat f P' := by
  unfold sat at h ⊢
  cases f with
  | nx ρ => exact h1 _ h
  | bk ρ => exact h2 _ h
  | ct ρ => exact h3 _ h
  | rt o => exact h4 _ h
  | ex c fs ρ => exact h5 _ _ _ h
  | bad => exact h
theorem sat_if {c : Prop} [Decidable c] {f1 f2 : Fl} {P : Po} (h1 : c → sat f1 P) (h2 : ¬ c → sat f2 P) : sat (if c then f1 else f2) P := by
  split
  · exact h1 ‹_›
  · exact h2 ‹_›
/-- a def's whole -/
def poR (R : OT → Prop) : Po := ⟨fun _ => R (.fz .non), fun _ => False, fun _ => False, R, fun _ _ _ => False⟩
@[simp] theorem poR_nx (R : OT → Prop) (ρ : Env) : (poR R).nx ρ = R (.fz .non) := (rfl)
@[simp] theorem poR_rt (R : OT → Prop) : (poR R).rt = R := (rfl)
theorem run_ok {n : Nat} {ms : List Mode} {s : S} {ps : List PV} (R : OT → Prop) (h : ps.length = ms.length) (hs : sat (s (slotsOf ms ps ++ List.replicate (n - ps.length) .u)) (poR R)) : ∃ o, runFn n ms s ps = .ok o ∧ R o := by
  unfold runFn
  rw [if_pos h]
  unfold sat at hs
  revert hs
  cases s (slotsOf ms ps ++ List.replicate (n - ps.length) .u) with
  | nx ρ => exact fun h => ⟨_, rfl, h⟩
  | rt o => exact fun h => ⟨_, rfl, h⟩
  | _ => exact fun h => h.elim
/-- one turn -/
def stp (g : G) (body : S) (p : PV) (ρ : Env) : Fl := match g p ρ with
  | none => .bad
  | some ρ1 => body ρ1
@[simp] theorem stp_nm (i : Nat) (body : S) (p : PV) (ρ : Env) : stp (gNm i) body p ρ = if i < ρ.length then body (ρ.set i (.val p)) else .bad := by
  unfold stp gNm
  split
  · rename_i h; split at h
    · cases h
    · rw [if_neg ‹_›]
  · rename_i h; split at h
    · cases h; rw [if_pos ‹_›]
    · cases h
theorem sat_loop {g : G} {body : S} {P : Po} (I : Nat → Env → Prop) : ∀ (ps : List PV) (c : Nat) (ρ : Env), I c ρ →
    (∀ k p ρ, ps[k]? = some p → I (c + k) ρ → sat (stp g body p ρ) { P with nx := I (c + k + 1), ct := I (c + k + 1), bk := P.nx }) → (∀ ρ, I (c + ps.length) ρ → P.nx ρ) → sat (loop g body ps ρ) P
  | [], c, ρ, h0, _, he => by unfold loop; rw [sat_nx]; exact he ρ h0
  | p :: ps, c, ρ, h0, st, he => by
    have t1 := st 0 p ρ rfl h0
    have nxt : ∀ ρ2, I (c + 1) ρ2 → sat (loop g body ps ρ2) P := fun ρ2 h2 => by
      refine sat_loop I ps (c + 1) ρ2 h2 (fun k q ρ hq hI => ?_) fun ρ h => he ρ (by rw [show c + (p :: ps).length = c + 1 + ps.length by simp; omega]; exact h)
      have := st (k + 1) q ρ (by simpa using hq) (by rw [show c + (k + 1) = c + 1 + k by omega]; exact hI)
      rw [show c + (k + 1) + 1 = c + 1 + k + 1 by omega] at this
      exact this
    unfold stp at t1
    unfold loop
    unfold sat at t1 nxt ⊢
    revert t1 nxt
    cases g p ρ with
    | none => exact fun h _ => h.elim
    | some ρ1 =>
      dsimp only
      cases body ρ1 with
      | nx ρ2 => exact fun t1 nxt => nxt ρ2 t1
      | ct ρ2 => exact fun t1 nxt => nxt ρ2 t1
      | bk ρ2 => exact fun t1 _ => t1
      | rt o => exact fun t1 _ => t1
      | ex c fs ρ => exact fun t1 _ => t1
      | bad => exact fun t1 _ => t1.elim
theorem range_get {lo : Int} {n k : Nat} {p : PV} (h : (rangeL lo n)[k]? = some p) : p = .int (lo + k) ∧ k < n := by
  unfold rangeL at h
  rw [List.getElem?_map] at h
  by_cases hk : k < n
  · rw [List.getElem?_range hk] at h
    exact ⟨(Option.some.inj h).symm, hk⟩
  · rw [List.getElem?_eq_none (by simpa using hk)] at h
    cases h
@[simp] theorem rangeL_len (lo : Int) (n : Nat) : (rangeL lo n).length = n := by simp [rangeL]
/-- a loop over the items -/
theorem sat_for {g : G} {body : S} {P : Po} {ps : List PV} {ρ : Env} (I : Nat → Env → Prop) (h0 : I 0 ρ)
    (st : ∀ k p ρ, ps[k]? = some p → I k ρ → sat (stp g body p ρ) { P with nx := I (k + 1), ct := I (k + 1), bk := P.nx }) (he : ∀ ρ, I ps.length ρ → P.nx ρ) : sat (loop g body ps ρ) P :=
  sat_loop I ps 0 ρ h0 (by simpa using st) (by simpa using he)
theorem sat_range {g : G} {body : S} {P : Po} {lo : Int} {n : Nat} {ρ : Env} (I : Nat → Env → Prop) (h0 : I 0 ρ)
    (st : ∀ k ρ, k < n → I k ρ → sat (stp g body (.int (lo + k)) ρ) { P with nx := I (k + 1), ct := I (k + 1), bk := P.nx }) (he : ∀ ρ, I n ρ → P.nx ρ) : sat (loop g body (rangeL lo n) ρ) P :=
  sat_for I h0 (fun k p ρ hp hI => by obtain ⟨rfl, hk⟩ := range_get hp; exact st k ρ hk hI) (by simpa using he)
/-- range's bound -/
def rngR (lo hi : Int) : Res (List PV) := if bnd lo = true ∧ bnd hi = true then .ok (rangeL lo (hi - lo).toNat) else .bad
theorem rng_ok {lo hi : Int} (h1 : -4611686018427387904 ≤ lo) (h2 : lo < 4611686018427387904) (h3 : -4611686018427387904 ≤ hi) (h4 : hi < 4611686018427387904) : rngR lo hi = .ok (rangeL lo (hi - lo).toNat) := if_pos ⟨bnd_small h1 h2, bnd_small h3 h4⟩
theorem rng_nat {n : Nat} (h : n < 4611686018427387904) : rngR 0 (n : Int) = .ok (rangeL 0 n) := by
  rw [rng_ok (by omega) (by omega) (by omega) (by omega)]
  simp
@[simp] theorem m_lRange1 (f : E) (ρ : Env) : lRange1 f ρ = f ρ >>= intOf >>= rngR 0 := by
  unfold lRange1 rngR
  congr 1
  funext j
  rw [Int.sub_zero]
  by_cases h : bnd j = true
  · rw [if_pos h, if_pos ⟨bnd_small (by omega) (by omega), h⟩]
  · rw [if_neg h, if_neg fun q => h q.2]
@[simp] theorem m_lRange2 (f1 f2 : E) (ρ : Env) : lRange2 f1 f2 ρ = f1 ρ >>= fun x => f2 ρ >>= fun y => intOf x >>= fun i => intOf y >>= fun j => rngR i j := (rfl)
end Fz
end
section
/-! FwN: the operators at known kinds. -/
namespace Fz
open PySem PySem.Spec PyProof.Rows L2
theorem le_line {n : Nat} (h : n ≤ 16000000) : n ≤ sizeLine := Nat.le_trans h (by decide +kernel)
theorem lt_line {n : Nat} (h : n < 16000000) : n < sizeLine := Nat.lt_of_lt_of_le h (by decide +kernel)
section
variable (i j : Int) (x y : Tx) (ps qs : List PV) (b b' : Bool)
@[simp] theorem gAdd_int : gAdd (.int i) (.int j) = some (.fz (.int (i + j))) := (rfl)
theorem gAdd_str (h : x.length + y.length ≤ sizeLine) : gAdd (.str x) (.str y) = some (.fz (.str (x ++ y))) := if_pos h
theorem gAdd_lst (h : ps.length + qs.length ≤ sizeLine) : gAdd (.lst ps) (.lst qs) = some (.l (ps ++ qs)) := if_pos h
theorem two64 : (2 : Int) ^ 64 = 18446744073709551616 := by decide +kernel
@[simp] theorem gMul_r (h1 : -18446744073709551616 < j) (h2 : j < 18446744073709551616) : gMul (.int i) (.int j) = some (.fz (.int (i * j))) := if_pos (.inr (by rw [two64]; exact ⟨h1, h2⟩))
@[simp] theorem gMul_l (h1 : -18446744073709551616 < i) (h2 : i < 18446744073709551616) : gMul (.int i) (.int j) = some (.fz (.int (i * j))) := if_pos (.inl (by rw [two64]; exact ⟨h1, h2⟩))
@[simp] theorem gSub_int : gSub (.int i) (.int j) = some (.int (i - j)) := (rfl)
@[simp] theorem gNeg_int : gNeg (.int i) = some (.int (-i)) := (rfl)
@[simp] theorem gMod_int (h : 0 < j) : gMod (.int i) (.int j) = some (.int (i % j)) := by
  show ((if 0 < j then some (i % j) else none).map PV.int) = _
  rw [if_pos h]; rfl
@[simp] theorem gDiv_int (h : 0 < j) (h2 : j < 1073741824) : gDiv (.int i) (.int j) = some (.int (i / j)) := by
  show ((if 0 < j ∧ j < 1073741824 then some (i / j) else none).map PV.int) = _
  rw [if_pos ⟨h, h2⟩]; rfl
theorem gPow_int (n : Nat) (h : n ≤ 1000000) (h2 : i.natAbs < 1000000000000000000) : gPow (.int i) (.int n) = some (.int (i ^ n)) := by
  show ((if 0 ≤ (n : Int) ∧ (n : Int) ≤ 1000000 ∧ i.natAbs < 2 ^ 64 then some (i ^ (n : Int).toNat) else none).map PV.int) = _
  rw [if_pos ⟨by omega, by omega, Nat.lt_trans h2 (by decide +kernel)⟩]
  rfl
@[simp] theorem gPow_18 : gPow (.int 10) (.int 18) = some (.int 1000000000000000000) := by
  rw [show (18 : Int) = ((18 : Nat) : Int) from rfl, gPow_int _ _ (by decide) (by decide)]
  rfl
@[simp] theorem gOrd_int (fi : Int → Int → Bool) (fs : Tx → Tx → Bool) : gOrd fi fs (.int i) (.int j) = some (fi i j) := (rfl)
@[simp] theorem gOrd_str (fi : Int → Int → Bool) (fs : Tx → Tx → Bool) : gOrd fi fs (.str x) (.str y) = some (fs x y) := (rfl)
theorem gEq_of {p q : PV} (hp : eqOk p = true) (hq : eqOk q = true) : gEq p q = some (pvEq p q) := if_pos (by rw [hp, hq]; rfl)
theorem gNe_of {p q : PV} (hp : eqOk p = true) (hq : eqOk q = true) : gNe p q = some (!pvEq p q) := if_pos (by rw [hp, hq]; rfl)
@[simp] theorem ok_int : eqOk (.int i) = true := (rfl)
@[simp] theorem ok_str : eqOk (.str x) = true := (rfl)
@[simp] theorem ok_bl : eqOk (.bl b) = true := (rfl)
@[simp] theorem ok_non : eqOk .non = true := (rfl)
@[simp] theorem gEq_int : gEq (.int i) (.int j) = some (i == j) := (rfl)
@[simp] theorem gNe_int : gNe (.int i) (.int j) = some (!(i == j)) := (rfl)
@[simp] theorem gEq_str : gEq (.str x) (.str y) = some (x == y) := (rfl)
@[simp] theorem gNe_str : gNe (.str x) (.str y) = some (!(x == y)) := (rfl)
@[simp] theorem gEq_bl : gEq (.bl b) (.bl b') = some (b == b') := (rfl)
@[simp] theorem gNe_bl : gNe (.bl b) (.bl b') = some (!(b == b')) := (rfl)
theorem gLen_str (h : x.length ≤ sizeLine) : gLen (.str x) = some (.int x.length) := if_pos h
@[simp] theorem gLen_lst : gLen (.lst ps) = some (.int ps.length) := (rfl)
@[simp] theorem gLen_rol : gLen (.rol ps) = some (.int ps.length) := (rfl)
@[simp] theorem gLen_tup : gLen (.tup ps) = some (.int ps.length) := (rfl)
@[simp] theorem gList_lst : gList (.lst ps) = some (.l ps) := (rfl)
@[simp] theorem gList_rol : gList (.rol ps) = some (.l ps) := (rfl)
@[simp] theorem gList_tup : gList (.tup ps) = some (.l ps) := (rfl)
@[simp] theorem gTuple_lst : gTuple (.lst ps) = some (.fz (.tup ps)) := (rfl)
@[simp] theorem gTuple_rol : gTuple (.rol ps) = some (.fz (.tup ps)) := (rfl)
@[simp] theorem gTuple_tup : gTuple (.tup ps) = some (.fz (.tup ps)) := (rfl)
@[simp] theorem gInt_int : gInt (.int i) = some (.int i) := (rfl)
@[simp] theorem items_lst : itemsOf (.lst ps) = .ok ps := (rfl)
@[simp] theorem items_rol : itemsOf (.rol ps) = .ok ps := (rfl)
@[simp] theorem items_tup : itemsOf (.tup ps) = .ok ps := (rfl)
@[simp] theorem lof_lst : listOf' (.lst ps) = .ok ps := (rfl)
@[simp] theorem lof_rol : listOf' (.rol ps) = .ok ps := (rfl)
@[simp] theorem isT_non (t : Ty) : isT t .non = some (.bl false) := (rfl)
@[simp] theorem gIsN_non : gIsN .non .non = some true := (rfl)
@[simp] theorem truth_bl : truth (.bl b) = .ok b := (rfl)
@[simp] theorem truth_int : truth (.int i) = .ok (i != 0) := (rfl)
@[simp] theorem truth_lst : truth (.lst ps) = .ok (!ps.isEmpty) := (rfl)
theorem ixN_nn {n : Nat} (h0 : 0 ≤ i) (h1 : i < n) : ixN n i = some i.toNat := by
  unfold ixN
  rw [if_pos h0, if_pos h1]
theorem ixN_neg {n : Nat} (h0 : i < 0) (h1 : -(n : Int) ≤ i) : ixN n i = some (i + n).toNat := by
  unfold ixN
  rw [if_neg (by omega), if_pos h1]
theorem atI_nn {α : Type} (xs : List α) (h0 : 0 ≤ i) (h1 : i < xs.length) : atI xs i = some (xs[i.toNat]'(by omega)) := by
  unfold atI
  rw [ixN_nn i h0 h1]
  exact List.getElem?_eq_getElem _
theorem atI_m1 {α : Type} (xs : List α) (h1 : 0 < xs.length) : atI xs (-1) = some (xs[xs.length - 1]'(by omega)) := by
  unfold atI
  rw [ixN_neg _ (by omega) (by omega), show (-1 + (xs.length : Int)).toNat = xs.length - 1 by omega]
  exact List.getElem?_eq_getElem _
@[simp] theorem gIx_lst : gIx (.lst ps) (.int i) = atI ps i := (rfl)
@[simp] theorem gIx_rol : gIx (.rol ps) (.int i) = atI ps i := (rfl)
@[simp] theorem gIx_tup : gIx (.tup ps) (.int i) = atI ps i := (rfl)
theorem gIx_str (h : x.length ≤ sizeLine) : gIx (.str x) (.int i) = (atI x i).map fun c => .str [c] := if_pos h
theorem atI_map {α β : Type} (f : α → β) (xs : List α) : atI (xs.map f) i = (atI xs i).map f := by
  unfold atI
  rw [List.length_map]
  cases ixN xs.length i with
  | none => rfl
  | some k => exact List.getElem?_map
theorem gStr_int (h : i.natAbs < 1000000000) : gStr (.int i) = some (.str (txt (toString i))) := if_pos (by
  rcases Nat.eq_zero_or_pos i.natAbs with q | q
  · rw [q]; decide
  · exact Nat.lt_trans ((Nat.log2_lt (by omega)).mpr (Nat.lt_trans h (by decide : 1000000000 < 2 ^ 30))) (by decide))
end
end Fz
end
section
/-! FwO: texts, lists of texts. -/
namespace Fz
open PySem (sizeLine)
def isLow (c : Fin 1114112) : Bool := decide (97 ≤ c.val) && decide (c.val ≤ 122)
def isSg (c : Fin 1114112) : Bool := isLow c || decide (48 ≤ c.val) && decide (c.val ≤ 57)
def lowsT : Tx := txt "abcdefghijklmnopqrstuvwxyz"
def figsT : Tx := txt "0123456789"
@[simp] theorem lowsT_eq : txt "abcdefghijklmnopqrstuvwxyz" = lowsT := (rfl)
@[simp] theorem figsT_eq : txt "0123456789" = figsT := (rfl)
theorem lowsT_len : lowsT.length = 26 := by decide +kernel
theorem lowsT_nodup : lowsT.Nodup := by decide +kernel
theorem lowsT_all : lowsT.all isLow = true := by decide +kernel
theorem lowsT_low : ∀ c ∈ lowsT, isLow c = true := List.all_eq_true.mp lowsT_all
theorem figsT_len : figsT.length = 10 := by decide +kernel
theorem figsT_all : figsT.all isSg = true := by decide +kernel
theorem figsT_sg : ∀ c ∈ figsT, isSg c = true := List.all_eq_true.mp figsT_all
def lt (k : Nat) : Fin 1114112 := lowsT.getD k 0
def sg (k : Nat) : Fin 1114112 := (lowsT ++ figsT).getD k 0
theorem lt_low {k : Nat} (h : k < 26) : isLow (lt k) = true := by
  unfold lt
  rw [List.getD_eq_getElem?_getD, List.getElem?_eq_getElem (by rw [lowsT_len]; exact h)]
  exact lowsT_low _ (List.getElem_mem _)
theorem lt_inj {j k : Nat} (hj : j < 26) (hk : k < 26) (h : lt j = lt k) : j = k := by
  unfold lt at h
  rw [List.getD_eq_getElem?_getD, List.getD_eq_getElem?_getD, List.getElem?_eq_getElem (by rw [lowsT_len]; exact hj), List.getElem?_eq_getElem (by rw [lowsT_len]; exact hk)] at h
  exact (List.getElem_inj lowsT_nodup).mp h
theorem low_sg {c : Fin 1114112} (h : isLow c = true) : isSg c = true := by unfold isSg; rw [h]; rfl
theorem sg_sg {k : Nat} (h : k < 36) : isSg (sg k) = true := by
  unfold sg
  rw [List.getD_eq_getElem?_getD, List.getElem?_eq_getElem (by rw [List.length_append, lowsT_len, figsT_len]; exact h)]
  rcases List.mem_append.mp (List.getElem_mem (l := lowsT ++ figsT) (n := k) (by rw [List.length_append, lowsT_len, figsT_len]; exact h)) with q | q
  · exact low_sg (lowsT_low _ q)
  · exact figsT_sg _ q
theorem gIx_lows (i : Int) : gIx (.str lowsT) (.int (i % 26)) = some (.str [lt (i % 26).toNat]) := by
  have h0 : 0 ≤ i % 26 := Int.emod_nonneg _ (by decide)
  have h1 : i % 26 < 26 := Int.emod_lt_of_pos _ (by decide)
  rw [gIx_str _ _ (le_line (by rw [lowsT_len]; decide)), atI_nn _ _ h0 (by rw [lowsT_len]; exact h1)]
  unfold lt
  rw [List.getD_eq_getElem?_getD, List.getElem?_eq_getElem (by rw [lowsT_len]; omega)]
  rfl
theorem gIx_sgs (i : Int) : gIx (.str (lowsT ++ figsT)) (.int (i % 36)) = some (.str [sg (i % 36).toNat]) := by
  have h0 : 0 ≤ i % 36 := Int.emod_nonneg _ (by decide)
  have h1 : i % 36 < 36 := Int.emod_lt_of_pos _ (by decide)
  have hl : (lowsT ++ figsT).length = 36 := by rw [List.length_append, lowsT_len, figsT_len]
  rw [gIx_str _ _ (le_line (by rw [hl]; decide)), atI_nn _ _ h0 (by rw [hl]; exact h1)]
  unfold sg
  rw [List.getD_eq_getElem?_getD, List.getElem?_eq_getElem (by rw [hl]; omega)]
  rfl
/-- a name: a small letter, then up to eleven small letters or figures -/
def goodN (t : Tx) : Prop := t.length ≤ 12 ∧ (∀ c ∈ t, isSg c = true) ∧ ∃ c r, t = c :: r ∧ isLow c = true
/-! lists of texts, looked at -/
theorem eqOk_lst {ps : List PV} (h : ∀ p ∈ ps, isData p = true ∧ dep p < 64) : eqOk (.lst ps) = true := by
  have key : isDatas ps = true ∧ deps ps < 64 := by
    induction ps with
    | nil => exact ⟨rfl, by decide⟩
    | cons p ps ih =>
      obtain ⟨h1, h2⟩ := h p (List.mem_cons_self)
      obtain ⟨i1, i2⟩ := ih fun q hq => h q (List.mem_cons_of_mem _ hq)
      refine ⟨?_, ?_⟩
      · show (isData p && isDatas ps) = true
        rw [h1, i1]; rfl
      · show max (dep p) (deps ps) < 64
        exact Nat.max_lt.mpr ⟨h2, i2⟩
  unfold eqOk
  rw [show isData (.lst ps) = true from key.1]
  simp only [Bool.true_and, decide_eq_true_eq]
  show deps ps + 1 ≤ 64
  omega
theorem eqOk_strs (ts : List Tx) : eqOk (.lst (ts.map .str)) = true := eqOk_lst fun p hp => by
  obtain ⟨t, _, rfl⟩ := List.mem_map.mp hp
  exact ⟨rfl, by show 0 < 64; decide⟩
theorem any_strs (t : Tx) (ts : List Tx) : ((ts.map PV.str).any fun z => pvEq z (.str t)) = decide (t ∈ ts) := by
  induction ts with
  | nil => rfl
  | cons x xs ih =>
    rw [List.map_cons, List.any_cons, ih]
    show ((x == t) || decide (t ∈ xs)) = _
    by_cases h : x = t
    · subst h; simp
    · have : t ≠ x := fun z => h z.symm
      simp [h, this]
@[simp] theorem gIn_strs (t : Tx) (ts : List Tx) : gIn (.str t) (.lst (ts.map .str)) = some (decide (t ∈ ts)) := by
  show (if eqOk (.str t) && eqOk (.lst (ts.map .str)) then some ((ts.map PV.str).any fun z => pvEq z (.str t)) else none) = _
  rw [eqOk_strs, any_strs]
  rfl
@[simp] theorem gNotIn_strs (t : Tx) (ts : List Tx) : gNotIn (.str t) (.lst (ts.map .str)) = some (!decide (t ∈ ts)) := by
  show (gIn _ _).map _ = _
  rw [gIn_strs]
  rfl
/-! distinct things among few -/
theorem nodup_few {α : Type} [DecidableEq α] : ∀ {l1 l2 : List α}, l1.Nodup → (∀ x ∈ l1, x ∈ l2) → l1.length ≤ l2.length
  | [], _, _, _ => Nat.zero_le _
  | x :: l1, l2, hn, hs => by
    have hx := hs x List.mem_cons_self
    have hn' := List.nodup_cons.mp hn
    have := nodup_few (l1 := l1) (l2 := l2.erase x) hn'.2 fun y hy => by
      have hy2 := hs y (List.mem_cons_of_mem _ hy)
      have hne : y ≠ x := fun z => hn'.1 (z ▸ hy)
      exact (List.mem_erase_of_ne hne).mpr hy2
    rw [List.length_erase_of_mem hx] at this
    have hp : 0 < l2.length := List.length_pos_of_mem hx
    simp only [List.length_cons]
    omega
theorem nodup_map_range {α : Type} {n : Nat} {f : Nat → α} (h : ∀ i j, i < n → j < n → f i = f j → i = j) : ((List.range n).map f).Nodup := by
  unfold List.Nodup
  rw [List.pairwise_map]
  exact List.Pairwise.imp_of_mem (R := fun a b => a ≠ b) (fun ha hb hne e => hne (h _ _ (List.mem_range.mp ha) (List.mem_range.mp hb) e)) List.nodup_range
/-- so many differ, so few are told: one is not among them -/
theorem one_free {α : Type} [DecidableEq α] {n : Nat} {f : Nat → α} {l : List α} (h : ∀ i j, i < n → j < n → f i = f j → i = j) (hl : l.length < n) : ∃ i, i < n ∧ f i ∉ l := by
  refine Classical.byContradiction fun q => ?_
  have := nodup_few (l1 := (List.range n).map f) (l2 := l) (nodup_map_range h) fun x hx => by
    obtain ⟨i, hi, rfl⟩ := List.mem_map.mp hx
    exact Classical.byContradiction fun z => q ⟨i, List.mem_range.mp hi, z⟩
  rw [List.length_map, List.length_range] at this
  omega
/-! cuts -/
theorem cut_from {α : Type} (xs : List α) (k : Nat) : cut xs (some (k : Int)) none = xs.drop k := by
  unfold cut
  show (xs.drop (HT.sIx xs.length 0 (some (k : Int)))).take (xs.length - HT.sIx xs.length 0 (some (k : Int))) = _
  rw [HT.sIx_nat]
  rcases Nat.le_total k xs.length with h | h
  · rw [Nat.min_eq_left h, List.take_of_length_le (by simp)]
  · rw [Nat.min_eq_right h, List.drop_of_length_le h, List.drop_of_length_le (Nat.le_refl _), List.take_nil]
theorem cut_to {α : Type} (xs : List α) (k : Nat) : cut xs none (some (k : Int)) = xs.take k := by
  unfold cut
  show (xs.drop 0).take (HT.sIx xs.length xs.length (some (k : Int)) - 0) = _
  rw [HT.sIx_nat, List.drop_zero, Nat.sub_zero]
  rcases Nat.le_total k xs.length with h | h
  · rw [Nat.min_eq_left h]
  · rw [Nat.min_eq_right h, List.take_of_length_le h, List.take_of_length_le (Nat.le_refl _)]
theorem gSl_str {x : Tx} {lo hi : Option Int} (h : x.length ≤ sizeLine) : gSl (.str x) lo hi = some (.fz (.str (cut x lo hi))) := if_pos h
theorem gSl_lst {x : List PV} {lo hi : Option Int} : gSl (.lst x) lo hi = some (.l (cut x lo hi)) := (rfl)
end Fz
end
section
/-! FwP: numbers as texts; sorting texts. -/
namespace Fz
open PySem (sizeLine)
theorem char_inj {a b : Char} (h : a.toNat = b.toNat) : a = b := Char.ext (UInt32.toNat_inj.mp h)
theorem txt_inj {s t : String} (h : txt s = txt t) : s = t := by
  unfold txt at h
  have : s.toList = t.toList := by
    revert h
    generalize s.toList = xs
    generalize t.toList = ys
    intro h
    induction xs generalizing ys with
    | nil => cases ys with
      | nil => rfl
      | cons y ys => cases h
    | cons x xs ih => cases ys with
      | nil => cases h
      | cons y ys =>
        simp only [List.map_cons, List.cons.injEq, Fin.mk.injEq] at h
        rw [char_inj h.1, ih _ h.2]
  exact String.toList_inj.mp this
theorem tstr_inj {i j : Int} (h : txt (toString i) = txt (toString j)) : i = j := Int.repr_injective (txt_inj h)
theorem two_all : (List.range 40).all (fun k => decide (txt (toString ((10 : Int) + k)) = [sg (26 + (10 + k) / 10), sg (26 + (10 + k) % 10)])) = true := by decide +kernel
theorem two_fig {k : Nat} (h : k < 40) : txt (toString ((10 : Int) + k)) = [sg (26 + (10 + k) / 10), sg (26 + (10 + k) % 10)] := by
  have := List.all_eq_true.mp two_all k (List.mem_range.mpr h)
  exact of_decide_eq_true this
theorem gSortS_strs {ts : List Tx} (h : ts.length < 64) : gSortS (.lst (ts.map .str)) = some (.l ((sortT txLe ts).map .str)) := by
  show (strsOf (ts.map .str)).bind _ = _
  rw [strsOf_map]
  exact if_pos h
end Fz
end
section
/-! FwQ: comprehensions, pops, index. -/
namespace Fz
open PySem (sizeLine)
open L2 (atI ixN)
def appT (i : Nat) (p : PV) (ρ : Env) : Option Slot → Fl
  | some (.own (.l ps)) => if ps.length < sizeLine then .nx (ρ.set i (.own (.l (ps ++ [p])))) else .bad
  | _ => .bad
def appR (i : Nat) (ρ : Env) (r : Res (PV × Env)) : Option Slot → Fl
  | some (.own (.l _)) => withR r ρ fun r => appT i r.1 r.2 r.2[i]?
  | _ => .bad
@[simp] theorem m_sAppPop (i j : Nat) (f : E) (ρ : Env) : sApp i (qPopAt j f) ρ = appR i ρ (popS j ρ f ρ[j]?) ρ[i]? := (rfl)
@[simp] theorem appR_l (i : Nat) (ρ : Env) (r : Res (PV × Env)) (ps : List PV) : appR i ρ r (some (.own (.l ps))) = withR r ρ fun r => appT i r.1 r.2 r.2[i]? := (rfl)
@[simp] theorem appT_l (i : Nat) (p : PV) (ρ : Env) (ps : List PV) : appT i p ρ (some (.own (.l ps))) = if ps.length < sizeLine then .nx (ρ.set i (.own (.l (ps ++ [p])))) else .bad := (rfl)
@[simp] theorem m_gsCons (g : G) (h : Gs) (p : PV) (ps : List PV) (ρ : Env) : gsCons g h (p :: ps) ρ = (g p ρ).bind (h ps) := (rfl)
@[simp] theorem tm_list (ps : List PV) : Tm.is .list (.lst ps) = true := (rfl)
/-! comprehensions -/
@[simp] theorem tYes (ρ : Env) : tYesF ρ = .ok true := (rfl)
@[simp] theorem wipe_nil (ρ : Env) : wipeE ρ [] = ρ := (rfl)
@[simp] theorem wipe_cons (ρ : Env) (v : Nat) (vs : List Nat) : wipeE ρ (v :: vs) = (wipeE ρ vs).set v .u := (rfl)
def shd1 : Option Slot → Bool
  | some (.own _) => false
  | _ => true
@[simp] theorem shd_nil (ρ : Env) : shadowOk ρ [] = true := (rfl)
@[simp] theorem shd_cons (ρ : Env) (v : Nat) (vs : List Nat) : shadowOk ρ (v :: vs) = (shd1 ρ[v]? && shadowOk ρ vs) := (rfl)
@[simp] theorem shd1_u : shd1 (some .u) = true := (rfl)
@[simp] theorem shd1_val (p : PV) : shd1 (some (.val p)) = true := (rfl)
@[simp] theorem shd1_bor (p : PV) : shd1 (some (.bor p)) = true := (rfl)
def elR : Res PV → Option (Option PV)
  | .ok y => some (some y)
  | _ => none
@[simp] theorem elR_ok (y : PV) : elR (.ok y) = some (some y) := (rfl)
def tnR (el : E) (ρ : Env) : Res Bool → Option (Option PV)
  | .ok true => elR (el ρ)
  | .ok false => some none
  | _ => none
@[simp] theorem tnR_true (el : E) (ρ : Env) : tnR el ρ (.ok true) = elR (el ρ) := (rfl)
@[simp] theorem tnR_false (el : E) (ρ : Env) : tnR el ρ (.ok false) = some none := (rfl)
def gR (t : T) (el : E) : Option Env → Option (Option PV)
  | none => none
  | some ρ1 => tnR el ρ1 (t ρ1)
@[simp] theorem gR_some (t : T) (el : E) (ρ : Env) : gR t el (some ρ) = tnR el ρ (t ρ) := (rfl)
@[simp] theorem m_compTurn (g : G) (t : T) (el : E) (ρ : Env) (p : PV) : compTurn g t el ρ p = gR t el (g p ρ) := by
  unfold compTurn gR
  cases g p ρ with
  | none => rfl
  | some ρ1 =>
    dsimp only
    unfold tnR elR
    cases t ρ1 with
    | ok b => cases b <;> rfl
    | _ => rfl
theorem comp_map {α : Type} {g : G} {t : T} {el : E} {ρ : Env} {inj F : α → PV} : ∀ {xs : List α}, (∀ x ∈ xs, compTurn g t el ρ (inj x) = some (some (F x))) → compLoop g t el ρ (xs.map inj) = some (xs.map F)
  | [], _ => rfl
  | x :: xs, h => by
    rw [List.map_cons]
    unfold compLoop
    rw [h x List.mem_cons_self, comp_map fun y hy => h y (List.mem_cons_of_mem _ hy)]
    rfl
theorem comp_filter {α : Type} {g : G} {t : T} {el : E} {ρ : Env} {inj F : α → PV} {c : α → Bool} : ∀ {xs : List α}, (∀ x ∈ xs, compTurn g t el ρ (inj x) = some (if c x = true then some (F x) else none)) → compLoop g t el ρ (xs.map inj) = some ((xs.filter c).map F)
  | [], _ => rfl
  | x :: xs, h => by
    rw [List.map_cons]
    unfold compLoop
    rw [h x List.mem_cons_self, comp_filter fun y hy => h y (List.mem_cons_of_mem _ hy), List.filter_cons]
    cases c x <;> rfl
theorem oComp_map {α : Type} {l : L} {vs : List Nat} {g : G} {t : T} {el : E} {ρ : Env} (inj F : α → PV) (xs : List α) (h1 : shadowOk ρ vs = true) (h2 : l ρ = .ok (xs.map inj)) (h3 : ∀ x ∈ xs, compTurn g t el (wipeE ρ vs) (inj x) = some (some (F x))) (h4 : xs.length ≤ sizeLine) :
    oComp l vs g t el ρ = .ok (.l (xs.map F)) := by
  unfold oComp
  rw [if_pos h1, h2, bind_ok, comp_map h3, ofO_some, bind_ok]
  exact if_pos (by rw [List.length_map]; exact h4)
theorem oComp_filter {α : Type} {l : L} {vs : List Nat} {g : G} {t : T} {el : E} {ρ : Env} (inj F : α → PV) (c : α → Bool) (xs : List α) (h1 : shadowOk ρ vs = true) (h2 : l ρ = .ok (xs.map inj)) (h3 : ∀ x ∈ xs, compTurn g t el (wipeE ρ vs) (inj x) = some (if c x = true then some (F x) else none)) (h4 : xs.length ≤ sizeLine) :
    oComp l vs g t el ρ = .ok (.l ((xs.filter c).map F)) := by
  unfold oComp
  rw [if_pos h1, h2, bind_ok, comp_filter h3, ofO_some, bind_ok]
  exact if_pos (by rw [List.length_map]; exact Nat.le_trans (List.length_filter_le _ _) h4)
theorem bools_map {α : Type} (b : α → Bool) (xs : List α) : bools (xs.map fun x => .bl (b x)) = some (xs.map b) := by
  induction xs with
  | nil => rfl
  | cons x xs ih => show (bools (xs.map fun x => .bl (b x))).map (b x :: ·) = _; rw [ih]; rfl
theorem gAll_map {α : Type} (b : α → Bool) (xs : List α) : gAll (.lst (xs.map fun x => .bl (b x))) = some (.bl (xs.all b)) := by
  show (bools _).map _ = _
  rw [bools_map]
  simp
theorem gAny_map {α : Type} (b : α → Bool) (xs : List α) : gAny (.lst (xs.map fun x => .bl (b x))) = some (.bl (xs.any b)) := by
  show (bools _).map _ = _
  rw [bools_map]
  simp
theorem gAll_b {α : Type} {b : α → Bool} {xs : List α} {r : Bool} (h : xs.all b = r) : gAll (.lst (xs.map fun x => .bl (b x))) = some (.bl r) := by rw [gAll_map, h]
theorem gAny_b {α : Type} {b : α → Bool} {xs : List α} {r : Bool} (h : xs.any b = r) : gAny (.lst (xs.map fun x => .bl (b x))) = some (.bl r) := by rw [gAny_map, h]
/-! index -/
theorem flat_strs (ts : List Tx) : (ts.map PV.str).all isFlat = true := by simp [isFlat]
theorem gIndex_strs {t : Tx} {ts : List Tx} (h : t ∈ ts) : gIndex (.lst (ts.map .str)) (.str t) = some (.int (ts.idxOf t : Nat)) := by
  show (if isFlat (.str t) && (ts.map PV.str).all isFlat then ((ts.map PV.str).findIdx? fun z => pvEq z (.str t)).map fun j => PV.int (j : Nat) else none) = _
  rw [flat_strs, show (isFlat (.str t) && true) = true from rfl, if_pos rfl]
  have : (ts.map PV.str).findIdx? (fun z => pvEq z (.str t)) = some (ts.idxOf t) := by
    rw [List.findIdx?_map]
    show ts.findIdx? (fun x => x == t) = _
    induction ts with
    | nil => cases h
    | cons x ts ih =>
      rw [List.findIdx?_cons, List.idxOf_cons]
      by_cases e : x = t
      · subst e; simp
      · have e' : (x == t) = false := by simp [e]
        rw [e', ih (by rcases List.mem_cons.mp h with q | q; exact (e q.symm).elim; exact q)]
        simp
  rw [this]
  rfl
/-! cuts -/
theorem cut_map {α β : Type} (f : α → β) (xs : List α) (lo hi : Option Int) : cut (xs.map f) lo hi = (cut xs lo hi).map f := by
  unfold cut
  rw [List.length_map, List.map_take, List.map_drop]
theorem sIx_m1 (n d : Nat) : HT.sIx n d (some (-1)) = n - 1 := by
  show (if (-1 : Int) < 0 then ((-1 : Int) + (n : Int)).toNat else min (-1 : Int).toNat n) = _
  rw [if_pos (by decide)]
  omega
theorem cut_init {α : Type} (xs : List α) : cut xs none (some (-1)) = xs.dropLast := by
  unfold cut
  rw [sIx_m1, List.dropLast_eq_take]
  rfl
end Fz
namespace Fz
theorem erase_map {α β : Type} (f : α → β) : ∀ (xs : List α) (i : Nat), (xs.map f).eraseIdx i = (xs.eraseIdx i).map f
  | [], _ => rfl
  | _ :: _, 0 => rfl
  | x :: xs, i + 1 => by simp only [List.map_cons, List.eraseIdx_cons_succ, erase_map f xs i]
theorem erase_perm {α : Type} : ∀ {xs : List α} {i : Nat} (h : i < xs.length), (xs[i] :: xs.eraseIdx i).Perm xs
  | [], _, h => absurd h (Nat.not_lt_zero _)
  | x :: xs, 0, _ => .refl _
  | x :: xs, i + 1, h => by
    simp only [List.getElem_cons_succ, List.eraseIdx_cons_succ]
    exact (List.Perm.swap _ _ _).trans ((erase_perm (by simpa using h)).cons x)
end Fz
end
section
/-! FwR: stores into a list, a dict; empty dicts. -/
namespace Fz
open PySem PySem.Spec PyProof.Rows L2
section
variable {K : PySem.W.Frag} {A : Addr → Prop} {H : Hp}
def putA {κ β : Type} [DecidableEq κ] (kvs : List (κ × β)) (k : κ) (p : β) : List (κ × β) :=
  if (kvs.any fun q => decide (q.1 = k)) = true then kvs.map (fun q => if q.1 = k then (q.1, p) else q) else kvs ++ [(k, p)]
theorem repK_any : ∀ {kvs : List (K1 × PV)} {ks : List (Key × V)} (k : K1), RepK K A H kvs ks → (ks.any fun q => decide (q.1 = k1 k)) = kvs.any fun q => decide (q.1 = k)
  | [], ks, k, h => by rw [show ks = [] from h]; rfl
  | (j, p) :: kvs, ks, k, h => by
    obtain ⟨x, r, rfl, h1, h2⟩ := h
    rw [List.any_cons, List.any_cons, repK_any k h2]
    show (decide (k1 j = k1 k) || _) = _
    rw [key_dec]
theorem repK_map {p : PV} {v : V} (rv : Rep K A H p v) (k : K1) : ∀ {kvs : List (K1 × PV)} {ks : List (Key × V)}, RepK K A H kvs ks →
    RepK K A H (kvs.map fun q => if q.1 = k then (q.1, p) else q) (ks.map fun q => if q.1 = k1 k then (q.1, v) else q)
  | [], ks, h => by rw [show ks = [] from h]; rfl
  | (j, q) :: kvs, ks, h => by
    obtain ⟨x, r, rfl, h1, h2⟩ := h
    rw [List.map_cons, List.map_cons]
    by_cases e : j = k
    · rw [if_pos e, if_pos (show k1 j = k1 k by rw [e])]
      exact ⟨v, _, rfl, rv, repK_map rv k h2⟩
    · rw [if_neg e, if_neg (show ¬ k1 j = k1 k from fun z => e (k1_inj z))]
      exact ⟨x, _, rfl, h1, repK_map rv k h2⟩
theorem repK_snoc {p : PV} {v : V} (rv : Rep K A H p v) (k : K1) : ∀ {kvs : List (K1 × PV)} {ks : List (Key × V)}, RepK K A H kvs ks → RepK K A H (kvs ++ [(k, p)]) (ks ++ [(k1 k, v)])
  | [], ks, h => by rw [show ks = [] from h]; exact ⟨v, [], rfl, rv, rfl⟩
  | (j, q) :: kvs, ks, h => by
    obtain ⟨x, r, rfl, h1, h2⟩ := h
    exact ⟨x, _, rfl, h1, repK_snoc rv k h2⟩
theorem RepK.put {p : PV} {v : V} {kvs : List (K1 × PV)} {ks : List (Key × V)} (h : RepK K A H kvs ks) (rv : Rep K A H p v) (k : K1) : RepK K A H (putA kvs k p) (putK ks (k1 k) v) := by
  unfold putA putK
  rw [repK_any k h]
  split
  · exact repK_map rv k h
  · exact repK_snoc rv k h
theorem RepK.len : ∀ {kvs : List (K1 × PV)} {ks : List (Key × V)}, RepK K A H kvs ks → ks.length = kvs.length
  | [], ks, h => by rw [show ks = [] from h]; rfl
  | (j, q) :: kvs, ks, h => by
    obtain ⟨x, r, rfl, h1, h2⟩ := h
    simp [RepK.len h2]
end
theorem PSet.or {X : Cx} {t u : TSet} (h : PSet X t) (h' : PSet X u) : PSet X (fun o i v H Q => t o i v H Q ∨ u o i v H Q) :=
  fun pins s σ H o i v ov iv w Q I ro ri rv q => q.elim (h pins s σ H o i v ov iv w Q I ro ri rv) (h' pins s σ H o i v ov iv w Q I ro ri rv)
/-- what a store makes of a slot -/
def putS (i : Nat) (ρ : Env) (k v : PV) : Option Slot → Fl
  | some (.own (.l ps)) => (match k with
    | .int z => (match ixN ps.length z with
      | some j => .nx (ρ.set i (.own (.l (ps.set j v))))
      | none => .bad)
    | _ => .bad)
  | some (.own (.d kvs)) => (match keyOf k with
    | some k => if kvs.length < sizeLine then .nx (ρ.set i (.own (.d (putA kvs k v)))) else .bad
    | none => .bad)
  | _ => .bad
/-- x[k] = v -/
def isOwn : Option Slot → Bool
  | some (.own _) => true
  | _ => false
def sPut (i : Nat) (fi fv : E) : S := fun ρ => if isOwn ρ[i]? = true then withR (fv ρ) ρ fun v => withR (fi ρ) ρ fun k => putS i ρ k v ρ[i]? else .bad
section
variable {X : Cx} {C : Addr → Prop} {W : WX} {e e1 e2 : Expr} {pos p2 tpos : Pos} {m m1 m2 : Mode} {f f1 f2 : E}
theorem put_read {i : Nat} {ρ : Env} {σ : L2.St} {H : Hp} {fp : Fp} {D : Ends} {k v : PV} {u w o : V} (eo : EnvOk X.K C ρ σ H fp) (rk : Rep X.K (fun _ => True) H k u) (rv : Rep X.K (Am C fp) H v w) (ho : σ[i]? = some (some o))
    (q : FlQ X.K C W D H fp (putS i ρ k v ρ[i]?)) : rSetL o u w H (fun H' => D.nx σ H') ∨ rSetD o u w H (fun H' => D.nx σ H') := by
  cases hs : ρ[i]? with
  | none => rw [hs] at q; exact q.elim
  | some s =>
    rw [hs] at q
    cases s with
    | own t =>
      cases t with
      | l ps =>
        cases k with
        | int z =>
          simp only [putS] at q
          cases hj : ixN ps.length z with
          | none => rw [hj] at q; exact q.elim
          | some j =>
            rw [hj] at q
            obtain ⟨a, xs, hσ, hF, ha, rr⟩ := eo.ownL hs
            rw [ho] at hσ; cases hσ
            obtain ⟨e2, g2⟩ := eo.writeL hs ho hF ha (Reps.set j rr rv)
            exact .inl ⟨a, xs, z, j, rfl, rk, ha, by rw [rr.length]; exact hj, q _ _ _ e2 g2⟩
        | _ => exact q.elim
      | d kvs =>
        simp only [putS] at q
        cases hk : keyOf k with
        | none => rw [hk] at q; exact q.elim
        | some k' =>
          rw [hk] at q
          simp only at q
          split at q
          · rename_i hl
            obtain ⟨a, xs, hσ, hF, ha, rr⟩ := eo.ownD hs
            rw [ho] at hσ; cases hσ
            obtain ⟨e2, g2⟩ := eo.writeD hs ho hF ha (RepK.put rr rv k')
            exact .inr ⟨a, _, rfl, by rw [rep_key rk hk]; exact DPut.k ha (by rw [rr.len]; exact hl), q _ _ _ e2 g2⟩
          · exact q.elim
      | _ => exact q.elim
    | _ => exact q.elim
theorem sj_put {i : Nat} {x : Str} {px : Pos} {fi fv : E} (hu : Hu X) (hN : X.N[i]? = some x) (hv : Vis X.env.scope x) (he : EJ X C W .E e fv) (hi : EJ X C W .B e1 fi) (hd : (x == ("__debug__" : Str)) = false := by decide) (hcd : (x == ("__classdict__" : Str)) = false := by decide)
    (ha : ∀ v, assign (.Subscript (.Name x px) e1 tpos) X.env v = (do
      let ov ← holding [v] (eval (.Name x px) X.env)
      let iv ← holding [v, ov] (eval e1 X.env)
      standAt tpos
      holding [v, ov, iv] (setItem ov iv v)
      release [v, ov, iv] []) := by intro _; rfl)
    (hs : swapsWithSole [.Subscript (.Name x px) e1 tpos] e pos.line X.env = pure false := by rfl) (hw : swappedStores [.Subscript (.Name x px) e1 tpos] e X.env = pure none := by rfl) (h1 : (assignEach [.Subscript (.Name x px) e1 tpos] X.env).map (·.2) = [assign (.Subscript (.Name x px) e1 tpos) X.env] := by rfl) :
    SJ X C W (.Assign [.Subscript (.Name x px) e1 tpos] e pos) (sPut i fi fv) :=
  ps_weak (ps_asg he (pg_sub (pe_var hN hv hd hcd) hi (PSet.or set_list (set_dict hu.u1)) ha) hs hw h1) fun D σ H ⟨ρ, fp, eo, h⟩ => by
    unfold sPut at h
    split at h
    · rename_i hown
      refine ⟨ρ, fp, eo, (FlQ.ofR eo h).mono (fun v q w H1 s1 r1 => ?_) fun _ _ q => q⟩
      have eo1 := eo.same s1
      have hx : ∃ o, σ[i]? = some (some o) := by
        cases hs : ρ[i]? with
        | none => rw [hs] at hown; cases hown
        | some s =>
          rw [hs] at hown
          cases s with
          | own t => obtain ⟨o, ho, _⟩ := eo.slot i _ hs; exact ⟨o, ho⟩
          | _ => cases hown
      obtain ⟨o, ho⟩ := hx
      refine ⟨o, ho, ρ, fp, eo1, (FlQ.ofR eo1 (FlQ.later (Grow.same s1) q)).mono (fun k q2 u H2 s2 r2 => ?_) fun _ _ q => q⟩
      have eo2 := eo1.same s2
      exact put_read eo2 r2 (RepM.same (m := .E) s2 r1) ho (FlQ.later (Grow.same s2) q2)
    · exact h.elim
end
end Fz
end
section
/-! FwS: {}, startswith, join. -/
namespace Fz
open PySem PySem.Spec PyProof.Rows L2
section
variable {X : Cx} {C : Addr → Prop} {W : WX} {e e1 e2 : Expr} {pos p2 tpos : Pos} {m m1 m2 : Mode} {f f1 f2 : E}
def oDic0 : O := fun _ => .ok (.d [])
theorem oj_dic0 : OJ X C W (.Dict [] [] pos) oDic0 := pe_weak pe_dnewK fun σ H Q ⟨ρ, fp, eo, o⟩ p hp => by
  refine o (.ref p) (upd H p (.dK [])) [p] (fun a o q => ?_) (by simp) (fun a ha => by rw [List.mem_singleton.mp ha]; exact hp) ⟨p, [], rfl, rfl, upd_same, rfl⟩
  rw [upd_ne (fun z => by rw [z, hp] at q; cases q)]
  exact q
end
/-! startswith -/
def gStarts : PV → PV → Option PV
  | .str x, .str y => some (.bl (x.take y.length == y))
  | _, _ => none
theorem starts_eq (x y : Tx) : Txt.startswith (mkS x) (mkS y) = (x.take y.length == y) := by
  have e1 : (mkS y).length = y.length := by simp [mkS, Str.length]
  have e2 : (mkS x).length = x.length := by simp [mkS, Str.length]
  unfold Txt.startswith Builtin.Str.subAt
  rw [e1, e2]
  have e3 : ((mkS x).cps.extract 0 (0 + y.length) == (mkS y).cps) = (x.take y.length == y) := by
    rw [Bool.eq_iff_iff, beq_iff_eq, beq_iff_eq]
    constructor
    · intro h
      have := congrArg Array.toList h
      rw [Array.toList_extract, mkS_cps, mkS_cps] at this
      simp only [List.extract_eq_take_drop, List.drop_zero, Nat.zero_add, Nat.sub_zero, ← List.map_take] at this
      exact val_inj this
    · intro h
      apply Array.toList_inj.mp
      rw [Array.toList_extract, mkS_cps, mkS_cps]
      simp only [List.extract_eq_take_drop, List.drop_zero, Nat.zero_add, Nat.sub_zero, ← List.map_take]
      rw [h]
  rw [e3]
  cases h : x.take y.length == y with
  | false => rw [Bool.and_false]
  | true =>
    have := congrArg List.length (beq_iff_eq.mp h)
    rw [List.length_take] at this
    rw [Bool.and_true, decide_eq_true_eq]
    omega
theorem m_starts {X : Cx} : Mt1A X.K (fun x xs H Q => ∃ a b, x = .str a ∧ xs = [.str b] ∧ Q (.bl (Txt.startswith a b)) H) gStarts := fun H p q z v u Q hg r1 r2 k => by
  cases p <;> simp only [gStarts, reduceCtorEq] at hg <;> cases q <;> simp only [reduceCtorEq] at hg
  rename_i x y
  cases hg
  refine ⟨mkS x, mkS y, r1, by rw [show u = .str (mkS y) from r2], ?_⟩
  rw [starts_eq]
  exact k _ (fun A H => rfl)
/-! join -/
def joinT (sep : Tx) : List Tx → Tx
  | [] => []
  | x :: xs => x ++ (xs.map fun y => sep ++ y).flatten
theorem glued_from (sep : Tx) : ∀ (xs : List Tx) (acc : Array Nat), ((xs.map mkS).foldl (fun acc p => acc ++ (mkS sep).cps ++ p.cps) acc).toList = acc.toList ++ ((xs.map fun y => sep ++ y).flatten).map Fin.val
  | [], acc => by simp
  | x :: xs, acc => by
    rw [List.map_cons, List.foldl_cons, glued_from sep xs]
    simp [mkS, List.append_assoc]
theorem join_eq (sep : Tx) (xs : List Tx) : Txt.join (mkS sep) (xs.map mkS) = mkS (joinT sep xs) := by
  have key : (Txt.join (mkS sep) (xs.map mkS)).cps.toList = (joinT sep xs).map Fin.val := by
    cases xs with
    | nil => rfl
    | cons x xs =>
      show ((xs.map mkS).foldl (fun acc p => acc ++ (mkS sep).cps ++ p.cps) (mkS x).cps).toList = _
      rw [glued_from]
      simp [joinT, mkS]
  have : (Txt.join (mkS sep) (xs.map mkS)).cps = (mkS (joinT sep xs)).cps := Array.toList_inj.mp (by rw [key, mkS_cps])
  revert this
  generalize Txt.join (mkS sep) (xs.map mkS) = s
  cases s
  intro h
  simp only at h
  rw [h]
def gJoin : PV → PV → Option PV
  | .str sep, .lst ps => (strsOf ps).bind fun xs => if (xs.map (·.length)).sum + xs.length * sep.length ≤ 16777216 then some (.str (joinT sep xs)) else none
  | _, _ => none
theorem m_join {X : Cx} : Mt1A X.K (fun x xs H Q => ∃ a p, ∃ ys : List Str, x = .str a ∧ xs = [.ref p] ∧ (SqL X.K H p (ys.map V.str) ∨ SqT X.K H p (ys.map V.str)) ∧
    (ys.map (·.length)).sum + ys.length * a.length ≤ 16777216 ∧ Q (.str (Txt.join a ys)) H) gJoin := fun H p q z v u Q hg r1 r2 k => by
  cases p <;> simp only [gJoin, reduceCtorEq] at hg <;> cases q <;> simp only [reduceCtorEq] at hg
  rename_i sep ps
  cases e : strsOf ps with
  | none => rw [e] at hg; cases hg
  | some xs =>
    rw [e] at hg
    simp only [Option.bind_some] at hg
    split at hg
    · rename_i hl
      cases hg
      obtain ⟨a, vs, rfl, _, ha, rr⟩ := r2
      rw [strsOf_eq e] at rr
      have ev := rr.strs
      refine ⟨mkS sep, a, xs.map mkS, r1, rfl, .inl (by rw [List.map_map]; rw [ev] at ha; exact SqL.of ha), ?_, ?_⟩
      · rw [List.map_map, List.length_map, mkS_length]
        rw [show ((fun x : Str => x.length) ∘ mkS) = fun x : Tx => x.length from funext fun x => mkS_length x]
        exact hl
      · rw [join_eq]
        exact k _ (fun A H => rfl)
    · cases hg
end Fz
end
section
/-! FwT: x += e of ints; two stores at once. -/
namespace Fz
open PySem PySem.Spec PyProof.Rows L2
def slotInt : Option Slot → Option Int
  | some (.val (.int a)) => some a
  | some (.bor (.int a)) => some a
  | _ => none
def augI (i : Nat) (ρ : Env) (g : Int → Int → Int) (a : Int) : PV → Fl
  | .int b => .nx (ρ.set i (.val (.int (g a b))))
  | _ => .bad
def augS (i : Nat) (ρ : Env) (g : Int → Int → Int) (f : E) : Option Int → Fl
  | some a => withR (f ρ) ρ fun y => augI i ρ g a y
  | none => .bad
def sAug (i : Nat) (g : Int → Int → Int) (f : E) : S := fun ρ => augS i ρ g f (slotInt ρ[i]?)
section
variable {X : Cx} {C : Addr → Prop} {W : WX} {e e1 e2 : Expr} {pos p2 tpos : Pos} {m m1 m2 : Mode} {f f1 f2 : E}
theorem sj_aug {i : Nat} {x : Str} {op : Operator} {pos' : Pos} {g : Int → Int → Int} (hN : X.N.Nodup) (hi : X.N[i]? = some x) (hx : Loc X.env.scope x) (ho : PIp X op (ipI g)) (he : EJ X C W .B e f)
    (hf : X.fn x = true ∨ X.env.scope.names.lookup x = some .local := by first | exact .inl rfl | exact .inr rfl | assumption) : SJ X C W (.AugAssign (.Name x pos') op e pos) (sAug i g f) :=
  ps_weak (ps_aug hN hi hx he ho hf) fun D σ H ⟨ρ, fp, eo, h⟩ => by
    unfold sAug at h
    cases hs : slotInt ρ[i]? with
    | none => rw [hs] at h; exact h.elim
    | some a =>
      rw [hs] at h
      have hv : σ[i]? = some (some (.int a)) ∧ i < ρ.length := by
        cases hq : ρ[i]? with
        | none => rw [hq] at hs; cases hs
        | some s =>
          have hl := (List.getElem?_eq_some_iff.mp hq).1
          rw [hq] at hs
          cases s with
          | val p =>
            cases p <;> simp only [slotInt, reduceCtorEq, Option.some.injEq] at hs
            obtain ⟨_, v, hv, r⟩ := eo.slot i _ hq
            rw [show v = .int _ from r, hs] at hv
            exact ⟨hv, hl⟩
          | bor p =>
            cases p <;> simp only [slotInt, reduceCtorEq, Option.some.injEq] at hs
            obtain ⟨_, v, hv, r⟩ := eo.slot i _ hq
            rw [show v = .int _ from r, hs] at hv
            exact ⟨hv, hl⟩
          | _ => simp only [slotInt, reduceCtorEq] at hs
      refine ⟨.int a, hv.1, ρ, fp, eo, (FlQ.ofR eo h).mono (fun y q w H1 s1 r1 => ?_) fun _ _ q => q⟩
      cases y <;> simp only [augI] at q
      case int b =>
        obtain ⟨e1, g1⟩ := (eo.same s1).setVal (p := .int (g a b)) (v := .int (g a b)) hv.2 rfl
        exact ⟨a, b, rfl, by rw [show w = .int b from r1], q _ _ _ e1 ((Grow.same s1).trans g1)⟩
      all_goals exact q.elim
/-- x[k], y[l] = a, b -/
def put2 (i1 i2 : Nat) (f1 f2 : E) (ρ : Env) : PV → Fl
  | .tup [v1, v2] => withR (f1 ρ) ρ fun k => (putS i1 ρ k v1 ρ[i1]?).andThen fun ρ2 => if isOwn ρ2[i2]? = true then withR (f2 ρ2) ρ2 fun k2 => putS i2 ρ2 k2 v2 ρ2[i2]? else .bad
  | _ => .bad
def sPut2 (i1 i2 : Nat) (f1 f2 fv : E) : S := fun ρ => if isOwn ρ[i1]? = true then withR (fv ρ) ρ (put2 i1 i2 f1 f2 ρ) else .bad
theorem own_val {K : PySem.W.Frag} {i : Nat} {ρ : Env} {σ : L2.St} {H : Hp} {fp : Fp} (eo : EnvOk K C ρ σ H fp) (hown : isOwn ρ[i]? = true) : ∃ o, σ[i]? = some (some o) := by
  cases hs : ρ[i]? with
  | none => rw [hs] at hown; cases hown
  | some s =>
    rw [hs] at hown
    cases s with
    | own t => obtain ⟨o, ho, _⟩ := eo.slot i _ hs; exact ⟨o, ho⟩
    | _ => cases hown
theorem FlQ.seq2 {K : PySem.W.Frag} {D : Ends} {H : Hp} {fp : Fp} {fl : Fl} {t : S} (h : FlQ K C W D H fp (fl.andThen t)) : FlQ K C W { D with nx := fun σ' H' => ∃ ρ2 fp2, EnvOk K C ρ2 σ' H' fp2 ∧ Grow H fp H' fp2 ∧ FlQ K C W D H' fp2 (t ρ2) } H fp fl := by
  cases fl with
  | nx ρ' => exact fun σ' H' fp' e' g => ⟨ρ', fp', e', g, FlQ.later g h⟩
  | rt o => exact h
  | bk o => exact h
  | ct o => exact h
  | ex c fs o => exact h
  | bad => exact h
theorem sj_put2 {i1 i2 : Nat} {x y : Str} {px py tp1 tp2 : Pos} {kk : Nat} {fv : E} (hc : X.calm = true) (hu : Hu X) (hN : X.N[i1]? = some x) (hv : Vis X.env.scope x) (hN2 : X.N[i2]? = some y) (hv2 : Vis X.env.scope y) (he : EJ X C W .E e fv) (h1 : EJ X C W .B e1 f1) (h2 : EJ X C W .B e2 f2)
    (hd : (x == ("__debug__" : Str)) = false := by decide) (hcd : (x == ("__classdict__" : Str)) = false := by decide) (hd2 : (y == ("__debug__" : Str)) = false := by decide) (hcd2 : (y == ("__classdict__" : Str)) = false := by decide)
    (ha : ∀ v, assign (.Subscript (.Name x px) e1 tp1) X.env v = (do
      let ov ← holding [v] (eval (.Name x px) X.env)
      let iv ← holding [v, ov] (eval e1 X.env)
      standAt tp1
      holding [v, ov, iv] (setItem ov iv v)
      release [v, ov, iv] []) := by intro _; rfl)
    (ha2 : ∀ v, assign (.Subscript (.Name y py) e2 tp2) X.env v = (do
      let ov ← holding [v] (eval (.Name y py) X.env)
      let iv ← holding [v, ov] (eval e2 X.env)
      standAt tp2
      holding [v, ov, iv] (setItem ov iv v)
      release [v, ov, iv] []) := by intro _; rfl)
    (hn : (assignEach [.Subscript (.Name x px) e1 tp1, .Subscript (.Name y py) e2 tp2] X.env).length = 2 := by rfl) (hst : (assignEach [.Subscript (.Name x px) e1 tp1, .Subscript (.Name y py) e2 tp2] X.env).findIdx? (·.1) = none := by rfl)
    (hq1 : (assignEach [.Subscript (.Name x px) e1 tp1, .Subscript (.Name y py) e2 tp2] X.env).map (·.2) = assign (.Subscript (.Name x px) e1 tp1) X.env :: (assignEach [.Subscript (.Name y py) e2 tp2] X.env).map (·.2) := by rfl)
    (hq2 : (assignEach [.Subscript (.Name y py) e2 tp2] X.env).map (·.2) = assign (.Subscript (.Name y py) e2 tp2) X.env :: (assignEach [] X.env).map (·.2) := by rfl)
    (hs : swapsWithSole [.Tuple [.Subscript (.Name x px) e1 tp1, .Subscript (.Name y py) e2 tp2] kk tpos] e pos.line X.env = pure false := by rfl) (hw : swappedStores [.Tuple [.Subscript (.Name x px) e1 tp1, .Subscript (.Name y py) e2 tp2] kk tpos] e X.env = pure none := by rfl)
    (hq : (assignEach [.Tuple [.Subscript (.Name x px) e1 tp1, .Subscript (.Name y py) e2 tp2] kk tpos] X.env).map (·.2) = [assign (.Tuple [.Subscript (.Name x px) e1 tp1, .Subscript (.Name y py) e2 tp2] kk tpos) X.env] := by rfl) :
    SJ X C W (.Assign [.Tuple [.Subscript (.Name x px) e1 tp1, .Subscript (.Name y py) e2 tp2] kk tpos] e pos) (sPut2 i1 i2 f1 f2 fv) :=
  ps_weak (ps_asg he (pg_tup hc (pgs_cons (pg_sub (pe_var hN hv hd hcd) h1 (PSet.or set_list (set_dict hu.u1)) ha) (pgs_cons (pg_sub (pe_var hN2 hv2 hd2 hcd2) h2 (PSet.or set_list (set_dict hu.u1)) ha2) pgs_nil hq2) hq1) hn hst) hs hw hq) fun D σ H ⟨ρ, fp, eo, h⟩ => by
    unfold sPut2 at h
    split at h
    · rename_i hown
      refine ⟨ρ, fp, eo, (FlQ.ofR eo h).mono (fun v q w H1 s1 r1 => ?_) fun _ _ q => q⟩
      have eo1 := eo.same s1
      match v, q, r1 with
      | .tup [v1, v2], q, r1 =>
        obtain ⟨a, xs, rfl, ha', rr⟩ := r1
        obtain ⟨w1, _, rfl, rv1, w2, _, rfl, rv2, rfl⟩ := rr
        refine ⟨a, [w1, w2], rfl, SqT.of ha', rfl, w1, [w2], rfl, ?_⟩
        obtain ⟨o, ho⟩ := own_val eo hown
        refine ⟨o, ho, ρ, fp, eo1, (FlQ.ofR eo1 (FlQ.later (Grow.same s1) q)).mono (fun k q2 u H2 s2 r2 => ?_) fun _ _ q => q⟩
        have eo2 := eo1.same s2
        have q3 := FlQ.seq2 (FlQ.later (Grow.same s2) q2)
        have fin : ∀ H', (∃ ρ2 fp2, EnvOk X.K C ρ2 σ H' fp2 ∧ Grow H2 fp H' fp2 ∧ FlQ X.K C W D H' fp2 ((fun ρ2 => if isOwn ρ2[i2]? = true then withR (f2 ρ2) ρ2 fun k2 => putS i2 ρ2 k2 v2 ρ2[i2]? else .bad) ρ2)) →
            gCons (L2.gSub (tVar i2) (tE X.K C W .B f2) (fun o i v H Q => rSetL o i v H Q ∨ rSetD o i v H Q)) gNil [w2] σ H' D.nx := by
          rintro H' ⟨ρ2, fp2, eo3, g3, q5⟩
          dsimp only at q5
          split at q5
          · rename_i hown2
            obtain ⟨o2, ho2⟩ := own_val eo3 hown2
            refine ⟨w2, [], rfl, o2, ho2, ρ2, fp2, eo3, (FlQ.ofR eo3 q5).mono (fun k2 q6 u2 H3 s3 r3 => ?_) fun _ _ q => q⟩
            have rv2' : Rep X.K (Am C fp2) H' v2 w2 := Rep.carry g3.carry (RepM.same (m := .E) s2 rv2)
            have := put_read (eo3.same s3) r3 (RepM.same (m := .E) s3 rv2') ho2 (FlQ.later (Grow.same s3) q6)
            refine this.imp ?_ ?_
            · rintro ⟨a, xs, k', j, h1, h2, h3, h4, h6⟩
              exact ⟨a, xs, k', j, h1, h2, h3, h4, rfl, h6⟩
            · rintro ⟨a, H4, h1, h2, h6⟩
              exact ⟨a, H4, h1, h2, rfl, h6⟩
          · exact q5.elim
        refine (put_read eo2 r2 (RepM.same (m := .E) s2 rv1) ho q3).imp ?_ ?_
        · rintro ⟨a, xs, k', j, h1, h2, h3, h4, h6⟩
          exact ⟨a, xs, k', j, h1, h2, h3, h4, fin _ h6⟩
        · rintro ⟨a, H4, h1, h2, h6⟩
          exact ⟨a, H4, h1, h2, fin _ h6⟩
      | .non, q, _ => exact q.elim
      | .bl _, q, _ => exact q.elim
      | .int _, q, _ => exact q.elim
      | .str _, q, _ => exact q.elim
      | .lst _, q, _ => exact q.elim
      | .rol _, q, _ => exact q.elim
      | .dic _, q, _ => exact q.elim
      | .dit _, q, _ => exact q.elim
      | .ins _ _, q, _ => exact q.elim
      | .tup [], q, _ => exact q.elim
      | .tup [_], q, _ => exact q.elim
      | .tup (_ :: _ :: _ :: _), q, _ => exact q.elim
    · exact h.elim
end
end Fz
end
section
/-! FwU: iteration over a text, too. -/
namespace Fz
open PySem PySem.Spec PyProof.Rows L2
def signsOf (x : Tx) : List PV := x.map fun c => .str [c]
def itemsA : PV → Res (List PV)
  | .str x => .ok (signsOf x)
  | p => itemsOf p
def lOfA (f : E) : L := fun ρ => f ρ >>= itemsA
theorem iter_str {K : PySem.W.Frag} {A : Addr → Prop} {H0 : Hp} {rel : Hp → Prop} (x : Tx) : IterOk K A H0 rel (Its (mkS x)) (signsOf x) := fun H B hr hcar i => by
  have hs : (mkS x).cps.size = x.length := by simp [mkS]
  refine ⟨fun p hp => ?_, fun hi => ?_⟩
  · unfold signsOf at hp
    rw [List.getElem?_map] at hp
    obtain ⟨c, hc, rfl⟩ := Option.map_eq_some_iff.mp hp
    have hl := (List.getElem?_eq_some_iff.mp hc).1
    refine ⟨by show i < (mkS x).cps.size; rw [hs]; exact hl, fun y H' h => ?_⟩
    obtain ⟨rfl, d, hd, rfl⟩ := h
    refine ⟨Same.refl _, ?_⟩
    have : d = c.val := by
      have e : (mkS x).cps[i]? = some c.val := by simp [mkS, hc]
      rw [e] at hd
      exact (Option.some.inj hd).symm
    rw [this]
    rfl
  · show (mkS x).cps.size ≤ i
    rw [hs]
    simpa [signsOf] using hi
section
variable {X : Cx} {C : Addr → Prop} {W : WX} {e e1 e2 e3 tg iter : Expr} {pos p2 pn tpos : Pos} {m m1 m2 m3 : Mode} {f f1 f2 f3 : E}
theorem seqA_read {σ : L2.St} {H : Hp} {R : It → Hp → Prop} {rel : Hp → Fp → Hp → Prop} (hst : ∀ (fp : Fp) H' p v ps, RepM X.K C fp m H' p v → itemsOf p = .ok ps → Stands X.K (Am C fp) H' (rel H' fp) p v ps) (hrf : ∀ H fp, rel H fp H)
    (h : tI X.K C W rel (lOfA f) σ H R) : (iList X.K (tE X.K C W m f) σ H R ∨ iTup X.K (tE X.K C W m f) σ H R) ∨ iStr (tE X.K C W m f) σ H R := by
  obtain ⟨ρ, fp, eo, o⟩ := h
  by_cases ht : ∃ x, f ρ = .ok (.str x)
  · obtain ⟨x, e0⟩ := ht
    right
    refine ⟨ρ, fp, eo, (Out.bind o).and.mono (fun p ⟨e1, o1⟩ v H1 s1 r1 => ?_) fun _ _ q => q⟩
    rw [e0] at e1; cases e1
    have rv : v = .str (mkS x) := RepM.toB r1
    exact ⟨mkS x, rv, (show Out (Res.ok (signsOf x)) _ _ from o1) _ H1 s1 (iter_str x)⟩
  · left
    refine seq_read hst hrf ⟨ρ, fp, eo, ?_⟩
    have e : lOf f ρ = lOfA f ρ := by
      unfold lOf lOfA
      cases z : f ρ with
      | ok p => cases p <;> first | rfl | exact (ht ⟨_, z⟩).elim
      | exc c fs => rfl
      | bad => rfl
    rw [e]
    exact o
theorem ij_seqA (h : EJ X C W .E iter f) : IJ X C W relG tg iter (lOfA f) :=
  pi_weak (pi_or (pi_or (pi_list h) (pi_tup h)) (pi_str h)) fun σ H R q => seqA_read (m := .E) (fun fp H' p v ps r hp => seq_stands r hp) (fun _ _ => relG.refl) q
theorem ij_seqSA (h : EJ X C W .I iter f) : IJ X C W relS tg iter (lOfA f) :=
  pi_weak (pi_or (pi_or (pi_list h) (pi_tup h)) (pi_str h)) fun σ H R q => seqA_read (m := .I) (fun fp H' p v ps r hp => seq_standsS r hp) (fun H fp => Same.refl H) q
end
@[simp] theorem m_lOfA (f : E) (ρ : Env) : lOfA f ρ = f ρ >>= itemsA := (rfl)
@[simp] theorem itA_lst (ps : List PV) : itemsA (.lst ps) = .ok ps := (rfl)
@[simp] theorem itA_rol (ps : List PV) : itemsA (.rol ps) = .ok ps := (rfl)
@[simp] theorem itA_tup (ps : List PV) : itemsA (.tup ps) = .ok ps := (rfl)
@[simp] theorem itA_str (x : Tx) : itemsA (.str x) = .ok (signsOf x) := (rfl)
end Fz
end
section
/-! FwV: str of None, of a text. -/
namespace Fz
open PySem PySem.Spec PyProof.Rows L2
def rStrA : List V → Hp → VK → Prop := fun xs H Q => (∃ i, xs = [.int i] ∧ i.natAbs.log2 < 1920 ∧ Q (.str (toString i)) H) ∨ (xs = [.non] ∧ Q (.str "None") H) ∨ ∃ a, xs = [.str a] ∧ Q (.str a) H
theorem call_strA {X : Cx} : CallR X (.type "str") rStrA := by
  rintro pins s σ H xs us Q I r (h | ⟨rfl, q⟩ | h)
  · exact call_str_int pins s σ H xs us Q I r h
  · obtain ⟨u, rfl, r1⟩ := vals1 r
    cases r1
    exact PySem.P.str_of_none ⟨.str "None", H, I.tok _, ⟨_, rfl⟩, q⟩
  · exact SkE.call_str_str pins s σ H xs us Q I r h
def gStrA : PV → Option PV
  | .int i => gStr (.int i)
  | .non => some (.str (txt "None"))
  | .str x => some (.str x)
  | _ => none
theorem c_strA {X : Cx} : Call1A X.K rStrA gStrA := fun H p z v Q hg r k => by
  cases p <;> simp only [gStrA, reduceCtorEq] at hg
  · cases hg
    exact .inr (.inl ⟨by rw [show v = .non from r], k _ (by rw [← mkS_txt]; exact atom_str _)⟩)
  · exact .inl (c_str (X := X) H _ z v Q hg r k)
  · cases hg
    exact .inr (.inr ⟨_, by rw [show v = .str _ from r], k _ (atom_str _)⟩)
@[simp] theorem tm_str (x : Tx) : Tm.is .str (.str x) = true := (rfl)
@[simp] theorem gStrA_int (i : Int) : gStrA (.int i) = gStr (.int i) := (rfl)
@[simp] theorem gStrA_non : gStrA .non = some (.str (txt "None")) := (rfl)
@[simp] theorem gStrA_str (x : Tx) : gStrA (.str x) = some (.str x) := (rfl)
/-! stores -/
@[simp] theorem m_sPut (i : Nat) (fi fv : E) (ρ : Env) : sPut i fi fv ρ = if isOwn ρ[i]? = true then withR (fv ρ) ρ fun v => withR (fi ρ) ρ fun k => putS i ρ k v ρ[i]? else .bad := (rfl)
@[simp] theorem isOwn_own (t : OT) : isOwn (some (.own t)) = true := (rfl)
theorem put_l (i : Nat) (ρ : Env) (z : Int) (v : PV) (ps : List PV) (h0 : 0 ≤ z) (h1 : z < ps.length) : putS i ρ (.int z) v (some (.own (.l ps))) = .nx (ρ.set i (.own (.l (ps.set z.toNat v)))) := by
  unfold putS
  simp only [ixN_nn z h0 h1]
@[simp] theorem put_d (i : Nat) (ρ : Env) (x : Tx) (v : PV) (kvs : List (K1 × PV)) : putS i ρ (.str x) v (some (.own (.d kvs))) = if kvs.length < sizeLine then .nx (ρ.set i (.own (.d (putA kvs (.inr x) v)))) else .bad := (rfl)
@[simp] theorem m_oDic0 (ρ : Env) : oDic0 ρ = .ok (.d []) := (rfl)
@[simp] theorem ts_d (p : List (K1 × PV)) : toSlot (.d p) = .own (.d p) := (rfl)
@[simp] theorem pv_d (p : List (K1 × PV)) : (OT.d p).pv = .dic p := (rfl)
/-! kinds -/
section
variable (t : Ty) (b : Bool) (i : Int) (x : Tx) (ps : List PV) (kvs : List (K1 × PV))
@[simp] theorem isT_b : isT t (.bl b) = some (.bl (match t with | .bool => true | .int => true | _ => false)) := (rfl)
@[simp] theorem isT_i : isT t (.int i) = some (.bl (match t with | .int => true | _ => false)) := (rfl)
@[simp] theorem isT_s : isT t (.str x) = some (.bl (match t with | .str => true | _ => false)) := (rfl)
@[simp] theorem isT_t : isT t (.tup ps) = some (.bl (match t with | .tuple => true | _ => false)) := (rfl)
@[simp] theorem isT_l : isT t (.lst ps) = some (.bl (match t with | .list => true | _ => false)) := (rfl)
@[simp] theorem isT_d : isT t (.dic kvs) = some (.bl (match t with | .dict => true | _ => false)) := (rfl)
end
/-! targets -/
def asgT : Option Env → Fl
  | some ρ' => .nx ρ'
  | none => .bad
@[simp] theorem asgT_some (ρ : Env) : asgT (some ρ) = .nx ρ := (rfl)
@[simp] theorem m_sAsgT (g : G) (f : E) (ρ : Env) : sAsgT g f ρ = withR (f ρ) ρ fun p => asgT (g p ρ) := by
  unfold sAsgT
  first
    | rfl
    | (congr 1
       done)
    | (congr 1
       funext p
       cases g p ρ <;> rfl)
@[simp] theorem m_sPut2 (i1 i2 : Nat) (f1 f2 fv : E) (ρ : Env) : sPut2 i1 i2 f1 f2 fv ρ = if isOwn ρ[i1]? = true then withR (fv ρ) ρ (put2 i1 i2 f1 f2 ρ) else .bad := (rfl)
@[simp] theorem m_put2 (i1 i2 : Nat) (f1 f2 : E) (ρ : Env) (v1 v2 : PV) : put2 i1 i2 f1 f2 ρ (.tup [v1, v2]) = withR (f1 ρ) ρ fun k => (putS i1 ρ k v1 ρ[i1]?).andThen fun ρ2 => if isOwn ρ2[i2]? = true then withR (f2 ρ2) ρ2 fun k2 => putS i2 ρ2 k2 v2 ρ2[i2]? else .bad := (rfl)
@[simp] theorem m_sAug (i : Nat) (g : Int → Int → Int) (f : E) (ρ : Env) : sAug i g f ρ = augS i ρ g f (slotInt ρ[i]?) := (rfl)
@[simp] theorem slotInt_val (a : Int) : slotInt (some (.val (.int a))) = some a := (rfl)
@[simp] theorem slotInt_bor (a : Int) : slotInt (some (.bor (.int a))) = some a := (rfl)
@[simp] theorem m_augS (i : Nat) (ρ : Env) (g : Int → Int → Int) (f : E) (a : Int) : augS i ρ g f (some a) = withR (f ρ) ρ fun y => augI i ρ g a y := (rfl)
@[simp] theorem m_augI (i : Nat) (ρ : Env) (g : Int → Int → Int) (a b : Int) : augI i ρ g a (.int b) = .nx (ρ.set i (.val (.int (g a b)))) := (rfl)
/-! a loop, item by item -/
theorem sat_nil {g : G} {body : S} {ρ : Env} {P : Po} : sat (loop g body [] ρ) P = P.nx ρ := by
  unfold loop
  rw [sat_nx]
theorem sat_cons {g : G} {body : S} {p : PV} {ps : List PV} {ρ : Env} {P : Po} : sat (loop g body (p :: ps) ρ) P = sat (stp g body p ρ) { P with nx := fun ρ' => sat (loop g body ps ρ') P, ct := fun ρ' => sat (loop g body ps ρ') P, bk := P.nx } := by
  rw [loop]
  unfold stp sat
  cases g p ρ with
  | none => rfl
  | some ρ1 =>
    dsimp only
    cases body ρ1 <;> rfl
theorem stp_of {g : G} {body : S} {p : PV} {ρ ρ1 : Env} (h : g p ρ = some ρ1) : stp g body p ρ = body ρ1 := by
  unfold stp
  rw [h]
end Fz
end
section
/-! FwW: paths into what is one's own. -/
namespace Fz
open PySem PySem.Spec PyProof.Rows L2
/-- without what says where it stands -/
def OT.core : OT → OT
  | .P _ t => t.core
  | t => t
def OT.reP : OT → OT → OT
  | .P a t, n => .P a (t.reP n)
  | _, n => n
theorem core_core : ∀ t : OT, t.core.core = t.core
  | .P a t => by rw [OT.core, core_core t]
  | .fz _ | .l _ | .d _ | .dt _ | .ins _ _ | .T _ | .L _ | .D _ | .I _ _ | .M _ _ => rfl
def OT.kids0 : OT → List OT
  | .T ts => ts
  | .L ts => ts
  | .D kvs => kvs.map Prod.snd
  | .I _ fs => fs.map Prod.snd
  | _ => []
def setSnd {α β : Type} (xs : List (α × β)) (i : Nat) (b : β) : List (α × β) := match xs[i]? with
  | some q => xs.set i (q.1, b)
  | none => xs
def OT.kids (t : OT) : List OT := t.core.kids0
theorem kids_core (t : OT) : t.core.kids = t.kids := by unfold OT.kids; rw [core_core]
def OT.setKid0 : OT → Nat → OT → OT
  | .T ts, i, n => .T (ts.set i n)
  | .L ts, i, n => .L (ts.set i n)
  | .D kvs, i, n => .D (setSnd kvs i n)
  | .I c fs, i, n => .I c (setSnd fs i n)
  | t, _, _ => t
def OT.setKid (t : OT) (i : Nat) (n : OT) : OT := t.reP (t.core.setKid0 i n)
def OT.at (t : OT) : List Nat → Option OT
  | [] => some t.core
  | i :: π => match t.kids[i]? with
    | some k => k.at π
    | none => none
def OT.put (t : OT) (π : List Nat) (n : OT) : OT := match π with
  | [] => t.reP n
  | i :: π => match t.kids[i]? with
    | some k => t.setKid i (k.put π n)
    | none => t
/-- what stands at a place of an object -/
def kidV (H : Hp) (a : Addr) (i : Nat) (x : V) : Prop :=
  (∃ xs, (H a = some (.lst xs) ∨ H a = some (.tup xs)) ∧ xs[i]? = some x) ∨ (∃ ks k, H a = some (.dK ks) ∧ ks[i]? = some (k, x)) ∨ ∃ c dx fs f, H a = some (.ins c dx fs) ∧ fs[i]? = some (f, x)
def subV (H : Hp) : V → List Nat → V → Prop
  | v, [], u => u = v
  | v, i :: π, u => ∃ a x, v = .ref a ∧ kidV H a i x ∧ subV H x π u
theorem kidV.det {H : Hp} {a : Addr} {i : Nat} {x y : V} (h : kidV H a i x) (h' : kidV H a i y) : x = y := by
  rcases h with ⟨xs, h1, h2⟩ | ⟨ks, k, h1, h2⟩ | ⟨c, dx, fs, f, h1, h2⟩ <;> rcases h' with ⟨ys, g1, g2⟩ | ⟨ls, l, g1, g2⟩ | ⟨c', dx', gs, g, g1, g2⟩
  · rcases h1 with h1 | h1 <;> rcases g1 with g1 | g1 <;> rw [h1] at g1 <;> cases g1 <;> rw [h2] at g2 <;> exact Option.some.inj g2
  · rcases h1 with h1 | h1 <;> rw [h1] at g1 <;> cases g1
  · rcases h1 with h1 | h1 <;> rw [h1] at g1 <;> cases g1
  · rcases g1 with g1 | g1 <;> rw [h1] at g1 <;> cases g1
  · rw [h1] at g1; cases g1; rw [h2] at g2; cases g2; rfl
  · rw [h1] at g1; cases g1
  · rcases g1 with g1 | g1 <;> rw [h1] at g1 <;> cases g1
  · rw [h1] at g1; cases g1
  · rw [h1] at g1; cases g1; rw [h2] at g2; cases g2; rfl
theorem subV.det {H : Hp} : ∀ {π : List Nat} {v u u' : V}, subV H v π u → subV H v π u' → u = u'
  | [], _, _, _, h, h' => h.trans h'.symm
  | i :: π, _, _, _, h, h' => by
    obtain ⟨a, x, rfl, k, r⟩ := h
    obtain ⟨b, y, e, k', r'⟩ := h'
    cases e
    cases k.det k'
    exact subV.det r r'
theorem subV.snoc {H : Hp} {a : Addr} {i : Nat} {x : V} : ∀ {π : List Nat} {v : V}, subV H v π (.ref a) → kidV H a i x → subV H v (π ++ [i]) x
  | [], _, h, k => ⟨a, x, h.symm, k, rfl⟩
  | j :: π, _, h, k => by
    obtain ⟨b, y, rfl, k', r⟩ := h
    exact ⟨b, y, rfl, k', subV.snoc r k⟩
theorem at_snoc {n k : OT} {i : Nat} : ∀ {π : List Nat} {t : OT}, t.at π = some n → n.kids[i]? = some k → t.at (π ++ [i]) = some k.core
  | [], t, h, hk => by
    have e : t.core = n := Option.some.inj h
    rw [← e, kids_core] at hk
    show (match t.kids[i]? with
      | some k => k.at []
      | none => none) = _
    rw [hk]; rfl
  | j :: π, t, h, hk => by
    have h : (match t.kids[j]? with
      | some k => k.at π
      | none => none) = some n := h
    show (match t.kids[j]? with
      | some k => k.at (π ++ [i])
      | none => none) = _
    cases e : t.kids[j]? with
    | none => rw [e] at h; cases h
    | some c => rw [e] at h; exact at_snoc (t := c) h hk
section
variable {K : PySem.W.Frag} {A B : Addr → Prop} {H H' : Hp}
/-- one of several -/
theorem OTReps.kid : ∀ {ts : List OT} {xs : List V} {F : List Addr} {i : Nat} {n : OT}, OTReps K A H ts xs F → ts[i]? = some n →
    ∃ u Fn F1 F2, F = F1 ++ (Fn ++ F2) ∧ xs[i]? = some u ∧ OTRep K A H n u Fn ∧ ∀ (B : Addr → Prop) H' n' Fn', Carry A B H H' → (∀ a ∈ F1 ++ F2, ∀ o, H a = some o → H' a = some o) → OTRep K B H' n' u Fn' → OTReps K B H' (ts.set i n') xs (F1 ++ (Fn' ++ F2))
  | [], _, _, _, _, _, e => by simp at e
  | t :: ts, _, _, 0, n, h, e => by
    obtain ⟨x, r, F1, F2, rfl, rfl, h1, h2⟩ := h
    cases e
    exact ⟨x, F1, [], F2, rfl, rfl, h1, fun B H' n' Fn' c k r' => ⟨x, r, Fn', F2, rfl, rfl, r', OTReps.carry c (fun a ha => k a ha) h2⟩⟩
  | t :: ts, _, _, i + 1, n, h, e => by
    obtain ⟨x, r, F1, F2, rfl, rfl, h1, h2⟩ := h
    obtain ⟨u, Fn, G1, G2, rfl, hu, hr, hk⟩ := OTReps.kid (i := i) h2 (by simpa using e)
    refine ⟨u, Fn, F1 ++ G1, G2, by simp, by simpa using hu, hr, fun B H' n' Fn' c k r' => ⟨x, r, F1, G1 ++ (Fn' ++ G2), rfl, by simp, OTRep.carry c (fun a ha => k a (by simp [ha])) h1, hk B H' n' Fn' c (fun a ha => k a ?_) r'⟩⟩
    rcases List.mem_append.mp ha with q | q <;> simp [q]
theorem OTRepK.kid : ∀ {ts : List (K1 × OT)} {xs : List (Key × V)} {F : List Addr} {i : Nat} {q : K1 × OT}, OTRepK K A H ts xs F → ts[i]? = some q →
    ∃ u Fn F1 F2, F = F1 ++ (Fn ++ F2) ∧ xs[i]? = some (k1 q.1, u) ∧ OTRep K A H q.2 u Fn ∧ ∀ (B : Addr → Prop) H' n' Fn', Carry A B H H' → (∀ a ∈ F1 ++ F2, ∀ o, H a = some o → H' a = some o) → OTRep K B H' n' u Fn' → OTRepK K B H' (ts.set i (q.1, n')) xs (F1 ++ (Fn' ++ F2))
  | [], _, _, _, _, _, e => by simp at e
  | (j, t) :: ts, _, _, 0, n, h, e => by
    obtain ⟨x, r, F1, F2, rfl, rfl, h1, h2⟩ := h
    cases e
    exact ⟨x, F1, [], F2, rfl, rfl, h1, fun B H' n' Fn' c k r' => ⟨x, r, Fn', F2, rfl, rfl, r', OTRepK.carry c (fun a ha => k a ha) h2⟩⟩
  | (j, t) :: ts, _, _, i + 1, n, h, e => by
    obtain ⟨x, r, F1, F2, rfl, rfl, h1, h2⟩ := h
    obtain ⟨u, Fn, G1, G2, rfl, hu, hr, hk⟩ := OTRepK.kid (i := i) h2 (by simpa using e)
    refine ⟨u, Fn, F1 ++ G1, G2, by simp, by simpa using hu, hr, fun B H' n' Fn' c k r' => ⟨x, r, F1, G1 ++ (Fn' ++ G2), rfl, by simp, OTRep.carry c (fun a ha => k a (by simp [ha])) h1, hk B H' n' Fn' c (fun a ha => k a ?_) r'⟩⟩
    rcases List.mem_append.mp ha with q | q <;> simp [q]
theorem OTRepF.kid : ∀ {ts : List (String × OT)} {xs : List (Str × V)} {F : List Addr} {i : Nat} {q : String × OT}, OTRepF K A H ts xs F → ts[i]? = some q →
    ∃ u Fn F1 F2, F = F1 ++ (Fn ++ F2) ∧ xs[i]? = some ((q.1 : Str), u) ∧ OTRep K A H q.2 u Fn ∧ ∀ (B : Addr → Prop) H' n' Fn', Carry A B H H' → (∀ a ∈ F1 ++ F2, ∀ o, H a = some o → H' a = some o) → OTRep K B H' n' u Fn' → OTRepF K B H' (ts.set i (q.1, n')) xs (F1 ++ (Fn' ++ F2))
  | [], _, _, _, _, _, e => by simp at e
  | (j, t) :: ts, _, _, 0, n, h, e => by
    obtain ⟨x, r, F1, F2, rfl, rfl, h1, h2⟩ := h
    cases e
    exact ⟨x, F1, [], F2, rfl, rfl, h1, fun B H' n' Fn' c k r' => ⟨x, r, Fn', F2, rfl, rfl, r', OTRepF.carry c (fun a ha => k a ha) h2⟩⟩
  | (j, t) :: ts, _, _, i + 1, n, h, e => by
    obtain ⟨x, r, F1, F2, rfl, rfl, h1, h2⟩ := h
    obtain ⟨u, Fn, G1, G2, rfl, hu, hr, hk⟩ := OTRepF.kid (i := i) h2 (by simpa using e)
    refine ⟨u, Fn, F1 ++ G1, G2, by simp, by simpa using hu, hr, fun B H' n' Fn' c k r' => ⟨x, r, F1, G1 ++ (Fn' ++ G2), rfl, by simp, OTRep.carry c (fun a ha => k a (by simp [ha])) h1, hk B H' n' Fn' c (fun a ha => k a ?_) r'⟩⟩
    rcases List.mem_append.mp ha with q | q <;> simp [q]
theorem setSnd_fst {α β : Type} (xs : List (α × β)) (i : Nat) (b : β) : (setSnd xs i b).map Prod.fst = xs.map Prod.fst := by
  unfold setSnd
  cases e : xs[i]? with
  | none => rfl
  | some q =>
    dsimp only
    refine List.ext_getElem? fun j => ?_
    rw [List.getElem?_map, List.getElem?_map]
    by_cases h : i = j
    · subst h
      rw [List.getElem?_set_self (List.getElem?_eq_some_iff.mp e).1, e]; rfl
    · rw [List.getElem?_set_ne h]
theorem OTRep.core : ∀ {t : OT} {v : V} {F : List Addr}, OTRep K A H t v F → OTRep K A H t.core v F
  | .P a t, v, F, h => OTRep.core (t := t) h.2
  | .fz _, _, _, h | .l _, _, _, h | .d _, _, _, h | .dt _, _, _, h | .ins _ _, _, _, h | .T _, _, _, h | .L _, _, _, h | .D _, _, _, h | .I _ _, _, _, h | .M _ _, _, _, h => h
theorem OTRep.reP {n' : OT} {Fn' : List Addr} : ∀ {t : OT} {v : V} {F : List Addr}, OTRep K A H t v F → OTRep K B H' n' v Fn' → OTRep K B H' (t.reP n') v Fn'
  | .P a t, v, F, h, r => ⟨h.1, OTRep.reP (t := t) h.2 r⟩
  | .fz _, _, _, _, r | .l _, _, _, _, r | .d _, _, _, _, r | .dt _, _, _, _, r | .ins _ _, _, _, _, r | .T _, _, _, _, r | .L _, _, _, _, r | .D _, _, _, _, r | .I _ _, _, _, _, r | .M _ _, _, _, _, r => r
/-- one thing in another -/
theorem OTRep.kid0 {t n : OT} {v : V} {F : List Addr} {i : Nat} (h : OTRep K A H t v F) (e : t.kids0[i]? = some n) :
    ∃ a u Fn F1 F2, v = .ref a ∧ F = F1 ++ (Fn ++ F2) ∧ kidV H a i u ∧ OTRep K A H n u Fn ∧ ∀ (B : Addr → Prop) H' n' Fn', Carry A B H H' → (∀ a ∈ F1 ++ F2, ∀ o, H a = some o → H' a = some o) → OTRep K B H' n' u Fn' → OTRep K B H' (t.setKid0 i n') v (F1 ++ (Fn' ++ F2)) := by
  cases t with
  | T ts =>
    obtain ⟨a, xs, rfl, ha, r⟩ := h
    obtain ⟨u, Fn, F1, F2, rfl, hu, hr, hk⟩ := r.kid e
    exact ⟨a, u, Fn, F1, F2, rfl, rfl, .inl ⟨xs, .inr ha, hu⟩, hr, fun B H' n' Fn' c k r' => ⟨a, xs, rfl, c.tup _ _ ha, hk B H' n' Fn' c k r'⟩⟩
  | L ts =>
    obtain ⟨a, xs, F', rfl, rfl, ha, r⟩ := h
    obtain ⟨u, Fn, F1, F2, rfl, hu, hr, hk⟩ := r.kid e
    exact ⟨a, u, Fn, a :: F1, F2, rfl, rfl, .inl ⟨xs, .inl ha, hu⟩, hr, fun B H' n' Fn' c k r' => ⟨a, xs, _, rfl, rfl, k a (by simp) _ ha, hk B H' n' Fn' c (fun b hb => k b (by simp at hb ⊢; exact .inr hb)) r'⟩⟩
  | D kvs =>
    obtain ⟨hn, a, xs, F', rfl, rfl, ha, r⟩ := h
    have e : (kvs.map Prod.snd)[i]? = some n := e
    rw [List.getElem?_map] at e
    obtain ⟨q, hq, rfl⟩ := Option.map_eq_some_iff.mp e
    obtain ⟨u, Fn, F1, F2, rfl, hu, hr, hk⟩ := r.kid hq
    refine ⟨a, u, Fn, a :: F1, F2, rfl, rfl, .inr (.inl ⟨xs, _, ha, hu⟩), hr, fun B H' n' Fn' c k r' => ⟨by rw [setSnd_fst]; exact hn, a, xs, F1 ++ (Fn' ++ F2), rfl, rfl, k a (by simp) _ ha, ?_⟩⟩
    have := hk B H' n' Fn' c (fun b hb => k b (by simp at hb ⊢; exact .inr hb)) r'
    unfold setSnd
    rw [hq]
    exact this
  | I c fs =>
    obtain ⟨a, dx, xs, F', rfl, rfl, ha, r⟩ := h
    have e : (fs.map Prod.snd)[i]? = some n := e
    rw [List.getElem?_map] at e
    obtain ⟨q, hq, rfl⟩ := Option.map_eq_some_iff.mp e
    obtain ⟨u, Fn, F1, F2, rfl, hu, hr, hk⟩ := r.kid hq
    refine ⟨a, u, Fn, a :: F1, F2, rfl, rfl, .inr (.inr ⟨_, dx, xs, _, ha, hu⟩), hr, fun B H' n' Fn' c k r' => ⟨a, dx, xs, F1 ++ (Fn' ++ F2), rfl, rfl, k a (by simp) _ ha, ?_⟩⟩
    have := hk B H' n' Fn' c (fun b hb => k b (by simp at hb ⊢; exact .inr hb)) r'
    unfold setSnd
    rw [hq]
    exact this
  | _ => simp [OT.kids0] at e
theorem OTRep.kid {t n : OT} {v : V} {F : List Addr} {i : Nat} (h : OTRep K A H t v F) (e : t.kids[i]? = some n) :
    ∃ a u Fn F1 F2, v = .ref a ∧ F = F1 ++ (Fn ++ F2) ∧ kidV H a i u ∧ OTRep K A H n u Fn ∧ ∀ (B : Addr → Prop) H' n' Fn', Carry A B H H' → (∀ a ∈ F1 ++ F2, ∀ o, H a = some o → H' a = some o) → OTRep K B H' n' u Fn' → OTRep K B H' (t.setKid i n') v (F1 ++ (Fn' ++ F2)) := by
  obtain ⟨a, u, Fn, F1, F2, e1, e2, h1, h2, h3⟩ := h.core.kid0 e
  exact ⟨a, u, Fn, F1, F2, e1, e2, h1, h2, fun B H' n' Fn' c k r => h.reP (h3 B H' n' Fn' c k r)⟩
/-- THE ZIP: the thing at a path, and what a change of it makes of the whole -/
theorem OTRep.zip {n : OT} : ∀ {π : List Nat} {t : OT} {v : V} {F : List Addr}, OTRep K A H t v F → t.at π = some n →
    ∃ u Fn F1 F2, F = F1 ++ (Fn ++ F2) ∧ subV H v π u ∧ OTRep K A H n u Fn ∧ ∀ (B : Addr → Prop) H' n' Fn', Carry A B H H' → (∀ a ∈ F1 ++ F2, ∀ o, H a = some o → H' a = some o) → OTRep K B H' n' u Fn' → OTRep K B H' (t.put π n') v (F1 ++ (Fn' ++ F2))
  | [], t, v, F, h, e => by
    have e : t.core = n := Option.some.inj e
    subst e
    exact ⟨v, F, [], [], by simp, rfl, h.core, fun B H' n' Fn' c k r => by simpa [OT.put] using h.reP r⟩
  | i :: π, t, v, F, h, e => by
    have e : (match t.kids[i]? with
      | some k => k.at π
      | none => none) = some n := e
    cases ek : t.kids[i]? with
    | none => rw [ek] at e; cases e
    | some c =>
      rw [ek] at e
      obtain ⟨a, u, Fn, F1, F2, rfl, rfl, hk, hr, cl⟩ := h.kid ek
      obtain ⟨u2, Fn2, G1, G2, rfl, hs, hr2, cl2⟩ := OTRep.zip hr e
      refine ⟨u2, Fn2, F1 ++ G1, G2 ++ F2, by simp, ⟨a, u, rfl, hk, hs⟩, hr2, fun B H' n' Fn' c' k r => ?_⟩
      have r1 := cl2 B H' n' Fn' c' (fun b hb => k b (by simp at hb ⊢; rcases hb with q | q <;> simp [q])) r
      have r2 := cl B H' _ _ c' (fun b hb => k b (by simp at hb ⊢; rcases hb with q | q <;> simp [q])) r1
      have ep : t.put (i :: π) n' = t.setKid i (c.put π n') := by
        show (match t.kids[i]? with
          | some k => t.setKid i (k.put π n')
          | none => t) = _
        rw [ek]
      rw [ep]
      simpa using r2
end
end Fz
end
section
/-! FwX: path expressions; changes at a path. -/
namespace Fz
open PySem PySem.Spec PyProof.Rows L2
theorem subV.same {H H' : Hp} (s : Same H H') : ∀ {π : List Nat} {v u : V}, subV H v π u → subV H' v π u
  | [], _, _, h => h
  | i :: π, _, _, h => by
    obtain ⟨a, x, rfl, k, r⟩ := h
    refine ⟨a, x, rfl, ?_, subV.same s r⟩
    rcases k with ⟨xs, h1, h2⟩ | ⟨ks, k, h1, h2⟩ | ⟨c, dx, fs, f, h1, h2⟩
    · exact .inl ⟨xs, h1.imp (s _ _) (s _ _), h2⟩
    · exact .inr (.inl ⟨ks, k, s _ _ h1, h2⟩)
    · exact .inr (.inr ⟨c, dx, fs, f, s _ _ h1, h2⟩)
theorem setKid0_nfz {t k : OT} {i : Nat} (h : t.kids0[i]? = some k) (n : OT) : ∀ p, t.setKid0 i n ≠ .fz p := by
  cases t <;> first | (simp [OT.kids0] at h; done) | (intro p q; simp [OT.setKid0] at q; done) | skip
theorem reP_nfz {n : OT} (h : ∀ p, n ≠ .fz p) (t : OT) : ∀ p, t.reP n ≠ .fz p := by
  cases t with
  | P a t => intro p q; rw [OT.reP] at q; cases q
  | _ => exact h
theorem setKid_nfz {t k : OT} {i : Nat} (h : t.kids[i]? = some k) (n : OT) : ∀ p, t.setKid i n ≠ .fz p := reP_nfz (setKid0_nfz h n) t
theorem put_nfz {t n n' : OT} (nf : ∀ p, n' ≠ .fz p) : ∀ {π : List Nat}, t.at π = some n → ∀ p, t.put π n' ≠ .fz p
  | [], _ => reP_nfz nf t
  | i :: π, h => by
    have h : (match t.kids[i]? with
      | some k => k.at π
      | none => none) = some n := h
    cases e : t.kids[i]? with
    | none => rw [e] at h; cases h
    | some k =>
      have : t.put (i :: π) n' = t.setKid i (k.put π n') := by
        show (match t.kids[i]? with
          | some k => t.setKid i (k.put π n')
          | none => t) = _
        rw [e]
      rw [this]
      exact setKid_nfz e _
section
variable {K : PySem.W.Frag} {C : Addr → Prop} {ρ : Env} {σ : L2.St} {H H' : Hp} {fp : Fp}
/-- what is at a path of slot i is rewritten -/
theorem EnvOk.writeAt {i : Nat} {t n n' : OT} {π : List Nat} {v u : V} (e : EnvOk K C ρ σ H fp) (h : ρ[i]? = some (.own t)) (hv : σ[i]? = some (some v)) (hn : t.at π = some n) (hu : subV H v π u) (nf : ∀ p, n' ≠ .fz p)
    (step : ∀ Fn, OTRep K (Am C fp) H n u Fn → (∀ a ∈ Fn, a ∈ fp i) → Fn.Nodup → (∀ a o, a ∉ Fn → H a = some o → H' a = some o) ∧ (∀ a, H a ≠ none → H' a ≠ none) ∧ ∃ Fn', (∀ a ∈ Fn', a ∈ Fn ∨ H a = none) ∧ Fn'.Nodup ∧ ∀ B : Addr → Prop, (∀ b, Am C fp b → b ∉ Fn' → B b) → (∀ a, B a → a ∉ Fn') → Carry (Am C fp) B H H' → OTRep K B H' n' u Fn') :
    ∃ fp', EnvOk K C (ρ.set i (.own (t.put π n'))) σ H' fp' ∧ Grow H fp H' fp' := by
  obtain ⟨v', hv', r⟩ := e.slot i _ h
  rw [hv] at hv'; cases hv'
  obtain ⟨u', Fn, F1, F2, hF, hs, hr, cl⟩ := r.zip hn
  cases hu.det hs
  have sub : ∀ a ∈ Fn, a ∈ fp i := fun a ha => by rw [hF]; simp [ha]
  have nd := e.nod i
  rw [hF] at nd
  have nd1 := List.nodup_append.mp nd
  have nd2 := List.nodup_append.mp nd1.2.1
  obtain ⟨keep, more, Fn', hsub, hnod, out⟩ := step Fn hr sub nd2.1
  have out' : ∀ a ∈ Fn', a ∉ F1 ∧ a ∉ F2 := fun a ha => by
    rcases hsub a ha with q | q
    · exact ⟨fun z => nd1.2.2 a z a (by simp [q]) rfl, fun z => nd2.2.2 a q a z rfl⟩
    · have nf : a ∉ fp i := fun z => e.fresh q ⟨i, z⟩
      rw [hF] at nf
      exact ⟨fun z => nf (by simp [z]), fun z => nf (by simp [z])⟩
  have nodF : (F1 ++ (Fn' ++ F2)).Nodup := by
    refine List.nodup_append.mpr ⟨nd1.1, List.nodup_append.mpr ⟨hnod, nd2.2.1, fun a ha b hb z => (out' a ha).2 (z ▸ hb)⟩, fun a ha b hb z => ?_⟩
    rcases List.mem_append.mp hb with q | q
    · exact (out' b q).1 (z ▸ ha)
    · exact nd1.2.2 a ha b (by simp [q]) z
  have hFs : ∀ a ∈ F1 ++ (Fn' ++ F2), a ∈ fp i ∨ H a = none := fun a ha => by
    rw [hF]
    simp only [List.mem_append] at ha ⊢
    rcases ha with q | q | q
    · exact .inl (.inl q)
    · rcases hsub a q with z | z
      · exact .inl (.inr (.inl z))
      · exact .inr z
    · exact .inl (.inr (.inr q))
  have key := e.write (t' := t.put π n') (F' := F1 ++ (Fn' ++ F2)) h hv (put_nfz nf hn) (fun a o ha q => keep a o (fun z => ha (sub a z)) q) more hFs nodF ?_
  · exact ⟨_, key.1, key.2⟩
  · have c : Carry (Am C fp) (fun a => Am C fp a ∧ a ∉ F1 ++ (Fn' ++ F2)) H H' :=
      Carry.mk' (fun a o q z => ⟨q, fun m => (hFs a m).elim (fun y => q.2 ⟨i, y⟩) fun y => by rw [y] at z; cases z⟩) (fun a o q z => keep a o (fun m => q.2 ⟨i, sub a m⟩) z)
        (fun a xs z => keep a _ (fun m => e.ntup z ⟨i, sub a m⟩) z) fun a o x z => keep a _ (fun m => e.nfrz z ⟨i, sub a m⟩) z
    refine cl _ H' n' Fn' c (fun a ha o q => keep a o (fun m => ?_) q) (out _ (fun b hb hn => ⟨hb, fun m => ?_⟩) (fun a ha m => ha.2 (by simp [m])) c)
    · rcases List.mem_append.mp ha with z | z
      · exact nd1.2.2 a z a (by simp [m]) rfl
      · exact nd2.2.2 a m a z rfl
    · simp only [List.mem_append] at m
      refine hb.2 ⟨i, ?_⟩
      rw [hF]
      rcases m with m | m | m
      · simp [m]
      · exact (hn m).elim
      · simp [m]
end

/-! ### path expressions -/
abbrev Px := Env → Res (List Nat)
theorem ixN_lt {n : Nat} {i : Int} {j : Nat} (h : ixN n i = some j) : j < n := by
  unfold ixN at h
  split at h
  · split at h
    · cases h; omega
    · cases h
  · split at h
    · cases h; omega
    · cases h
def ownT : Option Slot → Option OT
  | some (.own t) => some t
  | _ => none
def nodeOf (i : Nat) (ρ : Env) (π : List Nat) : Option OT := (ownT ρ[i]?).bind fun t => t.at π
def tPx (K : PySem.W.Frag) (C : Addr → Prop) (W : WX) (i : Nat) (px : Px) : TE := fun σ H Q => ∃ ρ fp, EnvOk K C ρ σ H fp ∧ Out (px ρ) (fun π => ∀ v u H', Same H H' → σ[i]? = some (some v) → subV H' v π u → Q u H') (XQ K W σ H)
structure PxJ (X : Cx) (C : Addr → Prop) (W : WX) (i : Nat) (e : Expr) (px : Px) : Prop where
  run : PE X e (tPx X.K C W i px)
  wf : ∀ ρ π, px ρ = .ok π → ∃ n, nodeOf i ρ π = some n
theorem node_own {i : Nat} {ρ : Env} {π : List Nat} {n : OT} (h : nodeOf i ρ π = some n) : ∃ t, ρ[i]? = some (.own t) ∧ t.at π = some n := by
  unfold nodeOf at h
  cases e : ρ[i]? with
  | none => rw [e] at h; cases h
  | some s =>
    rw [e] at h
    cases s with
    | own t => exact ⟨t, rfl, h⟩
    | _ => cases h
def pxName (i : Nat) : Px := fun ρ => ofO ((ownT ρ[i]?).map fun _ => [])
def kidIdx : OT → PV → Option Nat
  | .L ts, .int k => ixN ts.length k
  | .T ts, .int k => ixN ts.length k
  | .D kvs, k => (keyOf k).bind fun k => kvs.findIdx? fun q => decide (q.1 = k)
  | _, _ => none
def pxIx (i : Nat) (px : Px) (f : E) : Px := fun ρ => px ρ >>= fun π => f ρ >>= fun k => ofO ((nodeOf i ρ π).bind fun n => (kidIdx n k).map fun j => π ++ [j])
section
variable {X : Cx} {C : Addr → Prop} {W : WX} {e e1 e2 e3 : Expr} {pos p2 tpos : Pos} {m m1 m2 : Mode} {f f1 f2 : E} {px : Px} {fo : O}
theorem pxj_name {i : Nat} {x : Str} (hN : X.N[i]? = some x) (hv : Vis X.env.scope x) (hd : (x == ("__debug__" : Str)) = false := by decide) (hcd : (x == ("__classdict__" : Str)) = false := by decide) : PxJ X C W i (.Name x pos) (pxName i) where
  run := pe_weak (pe_var hN hv hd hcd) fun σ H Q ⟨ρ, fp, eo, o⟩ => by
    unfold pxName at o
    cases e : ρ[i]? with
    | none => rw [e] at o; exact o.elim
    | some s =>
      rw [e] at o
      cases s with
      | own t =>
        obtain ⟨v, hv, r⟩ := eo.slot i _ e
        have o : ∀ v u H', Same H H' → σ[i]? = some (some v) → subV H' v [] u → Q u H' := o
        exact ⟨v, hv, o v v H (Same.refl H) hv rfl⟩
      | _ => exact o.elim
  wf := fun ρ π h => by
    unfold pxName at h
    unfold nodeOf
    cases e : ownT ρ[i]? with
    | none => rw [e] at h; cases h
    | some t => rw [e] at h; cases h; exact ⟨t.core, rfl⟩
theorem kidIdx_kid {n : OT} {k : PV} {j : Nat} (h : kidIdx n k = some j) : ∃ c, n.kids[j]? = some c := by
  cases n with
  | L ts =>
    cases k <;> simp only [kidIdx, reduceCtorEq] at h
    have := ixN_lt h
    exact ⟨ts[j], List.getElem?_eq_getElem this⟩
  | T ts =>
    cases k <;> simp only [kidIdx, reduceCtorEq] at h
    have := ixN_lt h
    exact ⟨ts[j], List.getElem?_eq_getElem this⟩
  | D kvs =>
    simp only [kidIdx] at h
    cases e : keyOf k with
    | none => rw [e] at h; cases h
    | some k' =>
      rw [e] at h
      obtain ⟨hj, _⟩ := List.findIdx?_eq_some_iff_getElem.mp h
      exact ⟨kvs[j].2, by show (kvs.map Prod.snd)[j]? = _; rw [List.getElem?_map, List.getElem?_eq_getElem hj]; rfl⟩
  | _ => simp [kidIdx] at h
theorem OTReps.get {K : PySem.W.Frag} {A : Addr → Prop} {H : Hp} : ∀ {ts : List OT} {xs : List V} {F : List Addr}, OTReps K A H ts xs F → xs.length = ts.length
  | [], _, _, h => by rw [h.1]; rfl
  | t :: ts, _, _, h => by
    obtain ⟨x, r, F1, F2, rfl, rfl, h1, h2⟩ := h
    simp [OTReps.get h2]
theorem OTRepK.val {K : PySem.W.Frag} {A : Addr → Prop} {H : Hp} (k : K1) : ∀ {kvs : List (K1 × OT)} {ks : List (Key × V)} {F : List Addr} {j : Nat}, OTRepK K A H kvs ks F → kvs.findIdx? (fun q => decide (q.1 = k)) = some j →
    ∃ v, valV ks (k1 k) = some v ∧ ks[j]? = some (k1 k, v)
  | [], _, _, _, h, e => by cases e
  | (i, t) :: kvs, _, _, j, h, e => by
    obtain ⟨x, r, F1, F2, rfl, rfl, h1, h2⟩ := h
    rw [List.findIdx?_cons] at e
    by_cases hk : i = k
    · subst hk
      simp at e
      subst e
      exact ⟨x, valV_pos rfl, rfl⟩
    · simp only [hk, decide_false, Bool.false_eq_true, if_false] at e
      obtain ⟨j', e', rfl⟩ := Option.map_eq_some_iff.mp e
      obtain ⟨v, hv, hj⟩ := OTRepK.val k h2 e'
      exact ⟨v, by rw [valV_neg fun z => hk (k1_inj z)]; exact hv, by simpa using hj⟩
def isDNode : Option OT → Bool
  | some (.D _) => true
  | _ => false
theorem pxj_ix {i : Nat} (hu : Hu X) (h1 : PxJ X C W i e1 px) (h2 : EJ X C W m2 e2 f2) (hs : ∀ o i, subscripted e2 false o i = operate [o, i] (getItem o i) := by intro _ _; rfl) : PxJ X C W i (.Subscript e1 e2 pos) (pxIx i px f2) where
  run := pe_weak (pe_or' (pe_ix ix_seq h1.run h2 hs) (pe_dget hu.u1 h1.run h2 hs)) fun σ H Q ⟨ρ, fp, eo, o⟩ => by
    have main : ∀ (R : V → V → Hp → Prop), (∀ π k j n v u w H2, px ρ = .ok π → nodeOf i ρ π = some n → kidIdx n k = some j → Same H H2 → σ[i]? = some (some v) → subV H2 v π u → RepM X.K C fp m2 H2 k w → (∀ v u H', Same H H' → σ[i]? = some (some v) → subV H' v (π ++ [j]) u → Q u H') → R u w H2) →
        tPx X.K C W i px σ H fun x H1 => tE X.K C W m2 f2 σ H1 fun y H2 => R x y H2 := fun R hR => by
      refine ⟨ρ, fp, eo, (Out.bind o).and.mono (fun π ⟨e1, o1⟩ v u H1 s1 hv hu' => ?_) fun _ _ q => q⟩
      refine ⟨ρ, fp, eo.same s1, (Out.bind o1).mono (fun k o2 w H2 s2 r2 => ?_) fun _ _ q => q.later s1⟩
      obtain ⟨z, hz, q⟩ := Out.ofO o2
      obtain ⟨n, hn⟩ := h1.wf ρ π e1
      rw [hn] at hz
      obtain ⟨j, hj, rfl⟩ := Option.map_eq_some_iff.mp hz
      exact hR π k j n v u w H2 e1 hn hj (s1.trans s2) hv (hu'.same s2) r2 q
    have rep : ∀ {π n v u H2}, nodeOf i ρ π = some n → Same H H2 → σ[i]? = some (some v) → subV H2 v π u → ∃ Fn, OTRep X.K (Am C fp) H2 n u Fn := fun {π n v u H2} hn s hv hu' => by
      obtain ⟨t, ht, hat⟩ := node_own hn
      obtain ⟨v', hv', r⟩ := (eo.same s).slot i _ ht
      rw [hv] at hv'; cases hv'
      obtain ⟨u', Fn, _, _, _, hs', hr, _⟩ := r.zip hat
      cases hu'.det hs'
      exact ⟨Fn, hr⟩
    by_cases hd : ∃ π, px ρ = .ok π ∧ isDNode (nodeOf i ρ π) = true
    · obtain ⟨π0, e0, d0⟩ := hd
      refine .inr (main _ fun π k j n v u w H2 ep hn hj s hv hu' rk q => ?_)
      rw [e0] at ep; cases ep
      rw [hn] at d0
      obtain ⟨Fn, r⟩ := rep hn s hv hu'
      cases n with
      | D kvs =>
        obtain ⟨_, a, xs, F', rfl, _, ha, r⟩ := r
        simp only [kidIdx] at hj
        cases ek : keyOf k with
        | none => rw [ek] at hj; cases hj
        | some k' =>
          rw [ek] at hj
          obtain ⟨x, hx, hxj⟩ := r.val k' hj
          refine ⟨a, x, rfl, ?_, q v x H2 s hv (hu'.snoc (.inr (.inl ⟨xs, _, ha, hxj⟩)))⟩
          rw [rep_key (RepM.toB rk) ek, ← hx]
          exact DGet.k ha
      | _ => cases d0
    · refine .inl (main _ fun π k j n v u w H2 ep hn hj s hv hu' rk q => ?_)
      have nd : isDNode (some n) = false := by
        cases z : isDNode (some n) with
        | false => rfl
        | true => exact (hd ⟨π, ep, by rw [hn]; exact z⟩).elim
      obtain ⟨Fn, r⟩ := rep hn s hv hu'
      cases n with
      | L ts =>
        cases k <;> simp only [kidIdx, reduceCtorEq] at hj
        obtain ⟨a, xs, F', rfl, _, ha, r⟩ := r
        have hl := r.get
        obtain ⟨x, hx⟩ : ∃ x, xs[j]? = some x := ⟨xs[j]'(by rw [hl]; exact ixN_lt hj), List.getElem?_eq_getElem _⟩
        exact .inl ⟨a, xs, _, _, rfl, RepM.toB rk, SqL.of ha, by show (ixN xs.length _).bind (fun j => xs[j]?) = _; rw [hl, hj]; exact hx, q v _ H2 s hv (hu'.snoc (.inl ⟨xs, .inl ha, hx⟩))⟩
      | T ts =>
        cases k <;> simp only [kidIdx, reduceCtorEq] at hj
        obtain ⟨a, xs, rfl, ha, r⟩ := r
        have hl := r.get
        obtain ⟨x, hx⟩ : ∃ x, xs[j]? = some x := ⟨xs[j]'(by rw [hl]; exact ixN_lt hj), List.getElem?_eq_getElem _⟩
        exact .inr (.inl ⟨a, xs, _, _, rfl, RepM.toB rk, SqT.of ha, by show (ixN xs.length _).bind (fun j => xs[j]?) = _; rw [hl, hj]; exact hx, q v _ H2 s hv (hu'.snoc (.inl ⟨xs, .inr ha, hx⟩))⟩)
      | D kvs => cases nd
      | _ => simp [kidIdx] at hj
  wf := fun ρ π h => by
    obtain ⟨π', e1, h⟩ := bind_ok_inv h
    obtain ⟨k, e2, h⟩ := bind_ok_inv h
    obtain ⟨n, hn⟩ := h1.wf ρ π' e1
    rw [hn] at h
    have h : ofO ((kidIdx n k).map fun j => π' ++ [j]) = .ok π := h
    cases ej : kidIdx n k with
    | none => rw [ej] at h; cases h
    | some j =>
      rw [ej] at h
      cases h
      obtain ⟨c, hc⟩ := kidIdx_kid ej
      obtain ⟨t, ht, hat⟩ := node_own hn
      refine ⟨c.core, ?_⟩
      unfold nodeOf
      rw [ht]
      exact at_snoc hat hc

/-! ### reading at a path -/
def ndM : Mode → OT → Option PV
  | .B, n => some n.pv
  | _, .fz p => some p
  | .I, .l ps => some (.lst ps)
  | .I, .d kvs => some (.dic kvs)
  | .I, .dt kvs => some (.dit kvs)
  | .I, .ins c fs => some (.ins c fs)
  | _, _ => none
def ePth (m : Mode) (i : Nat) (px : Px) : E := fun ρ => px ρ >>= fun π => ofO ((nodeOf i ρ π).bind (ndM m))
theorem ej_pth {i : Nat} (h : PxJ X C W i e px) : EJ X C W m e (ePth m i px) := pe_weak h.run fun σ H Q ⟨ρ, fp, eo, o⟩ => by
  refine ⟨ρ, fp, eo, (Out.bind o).mono (fun π o1 v u H1 s1 hv hu => ?_) fun _ _ q => q⟩
  obtain ⟨z, hz, q⟩ := Out.ofO o1
  obtain ⟨n, hn, hz⟩ := Option.bind_eq_some_iff.mp hz
  obtain ⟨t, ht, hat⟩ := node_own hn
  obtain ⟨v', hv', r⟩ := (eo.same s1).slot i _ ht
  rw [hv] at hv'; cases hv'
  obtain ⟨u', Fn, _, _, _, hs', hr, _⟩ := r.zip hat
  cases hu.det hs'
  refine q u H1 s1 ?_
  cases m with
  | B =>
    cases hz
    exact Rep.any (A := fun _ => True) (OTRep.free (A := Am C fp) (fun _ _ => trivial) (fun _ _ => trivial) hr)
  | E =>
    cases n <;> simp only [ndM, reduceCtorEq, Option.some.injEq] at hz
    subst hz
    exact hr.2
  | I =>
    cases n <;> simp only [ndM, reduceCtorEq, Option.some.injEq] at hz <;> subst hz
    · exact Rep.toI hr.2
    · obtain ⟨a, xs, rfl, _, ha, rr⟩ := hr; exact ⟨a, xs, rfl, ha, rr⟩
    · obtain ⟨a, xs, rfl, _, ha, rr⟩ := hr; exact ⟨a, xs, rfl, .inl ha, rr⟩
    · obtain ⟨a, xs, rfl, _, ha, rr⟩ := hr; exact ⟨a, xs, rfl, .inl ha, rr⟩
    · obtain ⟨a, dx, xs, rfl, _, ha, rr⟩ := hr; exact ⟨a, dx, xs, rfl, ha, rr⟩
end
end Fz
end
section
/-! FwY: changes at a path: append, extend, clear, pop, stores. -/
namespace Fz
open PySem PySem.Spec PyProof.Rows L2
section
variable {K : PySem.W.Frag} {C : Addr → Prop} {ρ : Env} {σ : L2.St} {H H1 H' : Hp} {fp : Fp}
theorem EnvOk.nodeRep {i : Nat} {n : OT} {π : List Nat} {v u : V} (eo : EnvOk K C ρ σ H fp) (hn : nodeOf i ρ π = some n) (hv : σ[i]? = some (some v)) (hu : subV H v π u) : ∃ Fn, OTRep K (Am C fp) H n u Fn := by
  obtain ⟨t, ht, hat⟩ := node_own hn
  obtain ⟨v', hv', r⟩ := eo.slot i _ ht
  rw [hv] at hv'; cases hv'
  obtain ⟨u', Fn, _, _, _, hs', hr, _⟩ := r.zip hat
  cases hu.det hs'
  exact ⟨Fn, hr⟩
/-- the whole after a change at a path -/
def putT (i : Nat) (ρ : Env) (π : List Nat) : Option OT → Fl
  | some n => (match ownT ρ[i]? with
    | some t => .nx (ρ.set i (.own (t.put π n)))
    | none => .bad)
  | none => .bad
theorem putT_eq {i : Nat} {π : List Nat} {t n : OT} (h : ρ[i]? = some (.own t)) : putT i ρ π (some n) = .nx (ρ.set i (.own (t.put π n))) := by
  unfold putT
  rw [h]; rfl
/-- a list of common things becomes another one -/
theorem EnvOk.wrL {i : Nat} {ps qs : List PV} {π : List Nat} {v : V} {a : Addr} {xs ys : List V} (e : EnvOk K C ρ σ H fp) (hn : nodeOf i ρ π = some (.l ps)) (hv : σ[i]? = some (some v)) (hu : subV H v π (.ref a)) (ha : H a = some (.lst xs)) (r : Reps K (Am C fp) H qs ys) :
    ∃ ρ' fp', putT i ρ π (some (.l qs)) = .nx ρ' ∧ EnvOk K C ρ' σ (upd H a (.lst ys)) fp' ∧ Grow H fp (upd H a (.lst ys)) fp' := by
  obtain ⟨t, ht, hat⟩ := node_own hn
  obtain ⟨fp', e', g'⟩ := e.writeAt (H' := upd H a (.lst ys)) (n' := .l qs) ht hv hat hu (by intros; simp) fun Fn hr sub nd => by
    obtain ⟨b, zs, eb, rfl, hb, _⟩ := hr
    cases eb
    refine ⟨fun c o hc q => by rw [upd_ne (by simpa using hc)]; exact q, fun c hc => ?_, [a], fun c hc => .inl hc, by simp, fun B hB nB c => ⟨a, ys, rfl, rfl, upd_same, Reps.carry c r⟩⟩
    by_cases z : c = a
    · subst z; rw [upd_same]; simp
    · rw [upd_ne z]; exact hc
  exact ⟨_, fp', putT_eq ht, e', g'⟩
theorem EnvOk.wrD {i : Nat} {ps qs : List (K1 × PV)} {π : List Nat} {v : V} {a : Addr} {xs ys : List (Key × V)} (e : EnvOk K C ρ σ H fp) (hn : nodeOf i ρ π = some (.d ps)) (hv : σ[i]? = some (some v)) (hu : subV H v π (.ref a)) (ha : H a = some (.dK xs)) (r : RepK K (Am C fp) H qs ys) :
    ∃ ρ' fp', putT i ρ π (some (.d qs)) = .nx ρ' ∧ EnvOk K C ρ' σ (upd H a (.dK ys)) fp' ∧ Grow H fp (upd H a (.dK ys)) fp' := by
  obtain ⟨t, ht, hat⟩ := node_own hn
  obtain ⟨fp', e', g'⟩ := e.writeAt (H' := upd H a (.dK ys)) (n' := .d qs) ht hv hat hu (by intros; simp) fun Fn hr sub nd => by
    obtain ⟨b, zs, eb, rfl, hb, _⟩ := hr
    cases eb
    refine ⟨fun c o hc q => by rw [upd_ne (by simpa using hc)]; exact q, fun c hc => ?_, [a], fun c hc => .inl hc, by simp, fun B hB nB c => ⟨a, ys, rfl, rfl, upd_same, RepK.carry c r⟩⟩
    by_cases z : c = a
    · subst z; rw [upd_same]; simp
    · rw [upd_ne z]; exact hc
  exact ⟨_, fp', putT_eq ht, e', g'⟩
/-! new own things within -/
def asL : OT → Option (List OT)
  | .L ts => some ts
  | .l [] => some []
  | _ => none
def asD : OT → Option (List (K1 × OT))
  | .D kvs => some kvs
  | .d [] => some []
  | _ => none
theorem asL_rep {A : Addr → Prop} {n : OT} {ts : List OT} {u : V} {Fn : List Addr} (h : asL n = some ts) (r : OTRep K A H n u Fn) : ∃ a xs F', u = .ref a ∧ Fn = a :: F' ∧ H a = some (.lst xs) ∧ OTReps K A H ts xs F' := by
  cases n with
  | L us => cases h; exact r
  | l ps =>
    cases ps with
    | nil => cases h; obtain ⟨a, xs, rfl, rfl, ha, rr⟩ := r; exact ⟨a, xs, [], rfl, rfl, ha, rr, rfl⟩
    | cons _ _ => cases h
  | _ => cases h
theorem asD_rep {A : Addr → Prop} {n : OT} {ts : List (K1 × OT)} {u : V} {Fn : List Addr} (h : asD n = some ts) (r : OTRep K A H n u Fn) : (ts.map Prod.fst).Nodup ∧ ∃ a xs F', u = .ref a ∧ Fn = a :: F' ∧ H a = some (.dK xs) ∧ OTRepK K A H ts xs F' := by
  cases n with
  | D us => cases h; exact r
  | d ps =>
    cases ps with
    | nil => cases h; obtain ⟨a, xs, rfl, rfl, ha, rr⟩ := r; exact ⟨List.nodup_nil, a, xs, [], rfl, rfl, ha, rr, rfl⟩
    | cons _ _ => cases h
  | _ => cases h
theorem OTReps.snoc {A : Addr → Prop} {c : OT} {w : V} {Fc : List Addr} (rc : OTRep K A H c w Fc) : ∀ {ts : List OT} {xs : List V} {F : List Addr}, OTReps K A H ts xs F → OTReps K A H (ts ++ [c]) (xs ++ [w]) (F ++ Fc)
  | [], xs, F, h => by rw [h.1, h.2]; exact ⟨w, [], Fc, [], rfl, by simp, rc, rfl, rfl⟩
  | t :: ts, _, _, h => by
    obtain ⟨x, r, F1, F2, rfl, rfl, h1, h2⟩ := h
    exact ⟨x, _, F1, F2 ++ Fc, rfl, by simp, h1, OTReps.snoc rc h2⟩
theorem OTRepK.snoc {A : Addr → Prop} {c : OT} {w : V} {Fc : List Addr} (k : K1) (rc : OTRep K A H c w Fc) : ∀ {ts : List (K1 × OT)} {xs : List (Key × V)} {F : List Addr}, OTRepK K A H ts xs F → OTRepK K A H (ts ++ [(k, c)]) (xs ++ [(k1 k, w)]) (F ++ Fc)
  | [], xs, F, h => by rw [h.1, h.2]; exact ⟨w, [], Fc, [], rfl, by simp, rc, rfl, rfl⟩
  | (j, t) :: ts, _, _, h => by
    obtain ⟨x, r, F1, F2, rfl, rfl, h1, h2⟩ := h
    exact ⟨x, _, F1, F2 ++ Fc, rfl, by simp, h1, OTRepK.snoc k rc h2⟩
theorem otK_any {A : Addr → Prop} (k : K1) : ∀ {kvs : List (K1 × OT)} {ks : List (Key × V)} {F : List Addr}, OTRepK K A H kvs ks F → (ks.any fun q => decide (q.1 = k1 k)) = kvs.any fun q => decide (q.1 = k)
  | [], ks, F, h => by rw [h.1]; rfl
  | (j, p) :: kvs, ks, F, h => by
    obtain ⟨x, r, F1, F2, rfl, rfl, h1, h2⟩ := h
    rw [List.any_cons, List.any_cons, otK_any k h2]
    show (decide (k1 j = k1 k) || _) = _
    rw [key_dec]
theorem map_no {α : Type} (k : K1) (c : α) : ∀ {kvs : List (K1 × α)}, k ∉ kvs.map Prod.fst → kvs.map (fun q => if q.1 = k then (q.1, c) else q) = kvs
  | [], _ => rfl
  | (j, t) :: kvs, h => by
    simp only [List.map_cons, List.mem_cons, not_or] at h
    rw [List.map_cons, map_no k c h.2, if_neg (fun e => h.1 e.symm)]
theorem otK_mapNo {A : Addr → Prop} (k : K1) (w : V) : ∀ {kvs : List (K1 × OT)} {ks : List (Key × V)} {F : List Addr}, k ∉ kvs.map Prod.fst → OTRepK K A H kvs ks F → ks.map (fun q => if q.1 = k1 k then (q.1, w) else q) = ks
  | [], ks, F, _, h => by rw [h.1]; rfl
  | (j, t) :: kvs, ks, F, hn, h => by
    obtain ⟨x, r, F1, F2, rfl, rfl, h1, h2⟩ := h
    simp only [List.map_cons, List.mem_cons, not_or] at hn
    rw [List.map_cons, otK_mapNo k w hn.2 h2, if_neg (fun e => hn.1 (k1_inj e).symm)]
theorem otK_map {A : Addr → Prop} {c : OT} {w : V} {Fc : List Addr} (k : K1) (nc : Fc.Nodup) : ∀ {kvs : List (K1 × OT)} {ks : List (Key × V)} {F : List Addr}, k ∈ kvs.map Prod.fst → (kvs.map Prod.fst).Nodup → OTRepK K A H kvs ks F →
    ∃ F', (∀ a ∈ F', a ∈ F ∨ a ∈ Fc) ∧ (F.Nodup → (∀ a ∈ Fc, a ∉ F) → F'.Nodup) ∧ ∀ (B : Addr → Prop) H', Carry A B H H' → (∀ a ∈ F, ∀ o, H a = some o → H' a = some o) → OTRep K B H' c w Fc →
      OTRepK K B H' (kvs.map fun q => if q.1 = k then (q.1, c) else q) (ks.map fun q => if q.1 = k1 k then (q.1, w) else q) F'
  | [], _, _, hm, _, _ => by cases hm
  | (j, t) :: kvs, ks, F, hm, nd, h => by
    obtain ⟨x, r, F1, F2, rfl, rfl, h1, h2⟩ := h
    simp only [List.map_cons, List.nodup_cons] at nd
    by_cases e : j = k
    · subst e
      refine ⟨Fc ++ F2, fun a ha => ?_, fun nF dis => ?_, fun B H' cc kp rc => ?_⟩
      · rcases List.mem_append.mp ha with q | q
        · exact .inr q
        · exact .inl (by simp [q])
      · have := List.nodup_append.mp nF
        exact List.nodup_append.mpr ⟨nc, this.2.1, fun a ha b hb z => dis a ha (by rw [z]; simp [hb])⟩
      · rw [List.map_cons, List.map_cons, map_no j c nd.1, otK_mapNo j w nd.1 h2, if_pos rfl, if_pos rfl]
        exact ⟨w, r, Fc, F2, rfl, rfl, rc, OTRepK.carry cc (fun a ha => kp a (by simp [ha])) h2⟩
    · have hm' : k ∈ kvs.map Prod.fst := by
        simp only [List.map_cons, List.mem_cons] at hm
        exact hm.resolve_left fun z => e z.symm
      obtain ⟨F', s', n', r'⟩ := otK_map (w := w) k nc hm' nd.2 h2
      refine ⟨F1 ++ F', fun a ha => ?_, fun nF dis => ?_, fun B H' cc kp rc => ?_⟩
      · rcases List.mem_append.mp ha with q | q
        · exact .inl (by simp [q])
        · exact (s' a q).imp (fun z => by simp [z]) id
      · have := List.nodup_append.mp nF
        refine List.nodup_append.mpr ⟨this.1, n' this.2.1 fun a ha z => dis a ha (by simp [z]), fun a ha b hb z => ?_⟩
        rcases s' b hb with q | q
        · exact this.2.2 a ha b q z
        · exact dis b q (by rw [← z]; simp [ha])
      · rw [List.map_cons, List.map_cons, if_neg e, if_neg (fun z => e (k1_inj z))]
        exact ⟨x, _, F1, F', rfl, rfl, OTRep.carry cc (fun a ha => kp a (by simp [ha])) h1, r' B H' cc (fun a ha => kp a (by simp [ha])) rc⟩
theorem OTRepK.put {A : Addr → Prop} {c : OT} {w : V} {Fc : List Addr} (k : K1) (nc : Fc.Nodup) {kvs : List (K1 × OT)} {ks : List (Key × V)} {F : List Addr} (nd : (kvs.map Prod.fst).Nodup) (h : OTRepK K A H kvs ks F) :
    ((putA kvs k c).map Prod.fst).Nodup ∧ ∃ F', (∀ a ∈ F', a ∈ F ∨ a ∈ Fc) ∧ (F.Nodup → (∀ a ∈ Fc, a ∉ F) → F'.Nodup) ∧ ∀ (B : Addr → Prop) H', Carry A B H H' → (∀ a ∈ F, ∀ o, H a = some o → H' a = some o) → OTRep K B H' c w Fc → OTRepK K B H' (putA kvs k c) (putK ks (k1 k) w) F' := by
  unfold putA putK
  rw [otK_any k h]
  split
  · rename_i hm
    have hm : k ∈ kvs.map Prod.fst := by
      obtain ⟨q, hq, e⟩ := List.any_eq_true.mp hm
      exact List.mem_map.mpr ⟨q, hq, of_decide_eq_true e⟩
    refine ⟨?_, otK_map k nc hm nd h⟩
    have : (kvs.map fun q => if q.1 = k then (q.1, c) else q).map Prod.fst = kvs.map Prod.fst := by
      rw [List.map_map]
      refine List.map_congr_left fun q _ => ?_
      simp only [Function.comp]
      split <;> rfl
    rw [this]; exact nd
  · rename_i hm
    have hm : k ∉ kvs.map Prod.fst := fun z => hm (by
      obtain ⟨q, hq, rfl⟩ := List.mem_map.mp z
      exact List.any_eq_true.mpr ⟨q, hq, by simp⟩)
    refine ⟨?_, F ++ Fc, fun a ha => List.mem_append.mp ha, fun nF dis => List.nodup_append.mpr ⟨nF, nc, fun a ha b hb z => dis b hb (z ▸ ha)⟩, fun B H' cc kp rc => OTRepK.snoc k rc (OTRepK.carry cc kp h)⟩
    rw [List.map_append]
    exact List.nodup_append.mpr ⟨nd, by simp, fun a ha b hb z => by
      have : b = k := by simpa using hb
      exact hm (by rw [← this, ← z]; exact ha)⟩
theorem OTRepK.len {A : Addr → Prop} : ∀ {kvs : List (K1 × OT)} {ks : List (Key × V)} {F : List Addr}, OTRepK K A H kvs ks F → ks.length = kvs.length
  | [], _, _, h => by rw [h.1]; rfl
  | (j, t) :: kvs, _, _, h => by
    obtain ⟨x, r, F1, F2, rfl, rfl, h1, h2⟩ := h
    simp [OTRepK.len h2]
/-- c, made since H, is put at the end of a list -/
theorem EnvOk.wrLO {i : Nat} {n c : OT} {ts : List OT} {π : List Nat} {v w : V} {a : Addr} {Fc : List Addr} (e : EnvOk K C ρ σ H fp) (s1 : Same H H1) (hn : nodeOf i ρ π = some n) (hL : asL n = some ts) (hv : σ[i]? = some (some v)) (hu : subV H v π (.ref a)) (nc : Fc.Nodup) (fc : ∀ b ∈ Fc, H b = none)
    (rc : OTRep K (fun b => Am C fp b ∧ b ∉ Fc) H1 c w Fc) : ∃ xs ρ' fp', xs.length = ts.length ∧ H1 a = some (.lst xs) ∧ putT i ρ π (some (.L (ts ++ [c]))) = .nx ρ' ∧ EnvOk K C ρ' σ (upd H1 a (.lst (xs ++ [w]))) fp' ∧ Grow H fp (upd H1 a (.lst (xs ++ [w]))) fp' := by
  obtain ⟨t, ht, hat⟩ := node_own hn
  obtain ⟨Fn0, r0⟩ := e.nodeRep hn hv hu
  obtain ⟨a', xs, F0, ea, _, ha, rr0⟩ := asL_rep hL r0
  cases ea
  obtain ⟨fp', e', g'⟩ := e.writeAt (H' := upd H1 a (.lst (xs ++ [w]))) (n' := .L (ts ++ [c])) ht hv hat hu (by intros; simp) fun Fn hr sub nd => by
    obtain ⟨b, zs, F', eb, rfl, hb, rr⟩ := asL_rep hL hr
    cases eb
    rw [ha] at hb; cases hb
    have live : ∀ b ∈ a :: F', H b ≠ none := fun b hb z => by
      obtain ⟨o, ho, _⟩ := hr.live b hb
      rw [z] at ho; cases ho
    have nd' := List.nodup_cons.mp nd
    refine ⟨fun b o hb q => by rw [upd_ne (fun z => hb (by simp [z]))]; exact s1 _ _ q, fun b hb => ?_, a :: (F' ++ Fc), fun b hb => ?_, ?_, fun B hB nB cc => ⟨a, xs ++ [w], F' ++ Fc, rfl, rfl, upd_same, OTReps.snoc (OTRep.carry ?_ (fun b hb o q => ?_) rc) (OTReps.carry cc (fun b hb o q => ?_) rr)⟩⟩
    · by_cases z : b = a
      · subst z; rw [upd_same]; simp
      · rw [upd_ne z]
        intro y
        cases q : H b with
        | none => exact hb q
        | some o => rw [s1 _ _ q] at y; cases y
    · simp only [List.mem_cons, List.mem_append] at hb
      rcases hb with q | q | q
      · exact .inl (by simp [q])
      · exact .inl (by simp [q])
      · exact .inr (fc b q)
    · refine List.nodup_cons.mpr ⟨fun z => ?_, List.nodup_append.mpr ⟨nd'.2, nc, fun b hb d hd z => live b (by simp [hb]) (by rw [z]; exact fc d hd)⟩⟩
      rcases List.mem_append.mp z with q | q
      · exact nd'.1 q
      · exact live a (by simp) (fc a q)
    · refine Carry.mk' (fun b o q z => hB b q.1 fun m => ?_) (fun b o q z => by rw [upd_ne (fun y => q.1.2 ⟨i, sub b (by simp [y])⟩)]; exact z) (fun b zs z => by rw [upd_ne (fun y => by rw [y, s1 _ _ ha] at z; cases z)]; exact z) fun b o x z => by rw [upd_ne (fun y => by rw [y, s1 _ _ ha] at z; cases z)]; exact z
      simp only [List.mem_cons, List.mem_append] at m
      rcases m with m | m | m
      · exact q.1.2 ⟨i, sub b (by simp [m])⟩
      · exact q.1.2 ⟨i, sub b (by simp [m])⟩
      · exact q.2 m
    · rw [upd_ne (fun y => live a (by simp) (by rw [← y]; exact fc b hb))]; exact q
    · rw [upd_ne (fun y => nd'.1 (by rw [← y]; exact hb))]; exact s1 _ _ q
  exact ⟨xs, _, fp', rr0.get, s1 _ _ ha, putT_eq ht, e', g'⟩
/-- c, made since H, is put under a key -/
theorem EnvOk.wrDO {i : Nat} {n c : OT} {ts : List (K1 × OT)} {π : List Nat} {v w : V} {a : Addr} {Fc : List Addr} (k : K1) (e : EnvOk K C ρ σ H fp) (s1 : Same H H1) (hn : nodeOf i ρ π = some n) (hL : asD n = some ts) (hv : σ[i]? = some (some v)) (hu : subV H v π (.ref a)) (nc : Fc.Nodup) (fc : ∀ b ∈ Fc, H b = none)
    (rc : OTRep K (fun b => Am C fp b ∧ b ∉ Fc) H1 c w Fc) : ∃ xs ρ' fp', xs.length = ts.length ∧ H1 a = some (.dK xs) ∧ putT i ρ π (some (.D (putA ts k c))) = .nx ρ' ∧ EnvOk K C ρ' σ (upd H1 a (.dK (putK xs (k1 k) w))) fp' ∧ Grow H fp (upd H1 a (.dK (putK xs (k1 k) w))) fp' := by
  obtain ⟨t, ht, hat⟩ := node_own hn
  obtain ⟨Fn0, r0⟩ := e.nodeRep hn hv hu
  obtain ⟨_, a', xs, F0, ea, _, ha, rr0⟩ := asD_rep hL r0
  cases ea
  obtain ⟨fp', e', g'⟩ := e.writeAt (H' := upd H1 a (.dK (putK xs (k1 k) w))) (n' := .D (putA ts k c)) ht hv hat hu (by intros; simp) fun Fn hr sub nd => by
    obtain ⟨nk, b, zs, F', eb, rfl, hb, rr⟩ := asD_rep hL hr
    cases eb
    rw [ha] at hb; cases hb
    have live : ∀ b ∈ a :: F', H b ≠ none := fun b hb z => by
      obtain ⟨o, ho, _⟩ := hr.live b hb
      rw [z] at ho; cases ho
    have nd' := List.nodup_cons.mp nd
    have dis : ∀ b ∈ Fc, b ∉ F' := fun b hb z => live b (by simp [z]) (fc b hb)
    obtain ⟨nk2, F2, sub2, nod2, cl⟩ := OTRepK.put (c := c) (w := w) k nc nk rr
    refine ⟨fun b o hb q => by rw [upd_ne (fun z => hb (by simp [z]))]; exact s1 _ _ q, fun b hb => ?_, a :: F2, fun b hb => ?_, ?_, fun B hB nB cc => ⟨nk2, a, _, F2, rfl, rfl, upd_same, cl B _ cc (fun b hb o q => ?_) (OTRep.carry ?_ (fun b hb o q => ?_) rc)⟩⟩
    · by_cases z : b = a
      · subst z; rw [upd_same]; simp
      · rw [upd_ne z]
        intro y
        cases q : H b with
        | none => exact hb q
        | some o => rw [s1 _ _ q] at y; cases y
    · rcases List.mem_cons.mp hb with q | q
      · exact .inl (by simp [q])
      · exact (sub2 b q).imp (fun z => by simp [z]) (fc b)
    · refine List.nodup_cons.mpr ⟨fun z => ?_, nod2 nd'.2 dis⟩
      rcases sub2 a z with q | q
      · exact nd'.1 q
      · exact live a (by simp) (fc a q)
    · rw [upd_ne (fun y => nd'.1 (by rw [← y]; exact hb))]; exact s1 _ _ q
    · refine Carry.mk' (fun b o q z => hB b q.1 fun m => ?_) (fun b o q z => by rw [upd_ne (fun y => q.1.2 ⟨i, sub b (by simp [y])⟩)]; exact z) (fun b zs z => by rw [upd_ne (fun y => by rw [y, s1 _ _ ha] at z; cases z)]; exact z) fun b o x z => by rw [upd_ne (fun y => by rw [y, s1 _ _ ha] at z; cases z)]; exact z
      rcases List.mem_cons.mp m with m | m
      · exact q.1.2 ⟨i, sub b (by simp [m])⟩
      · rcases sub2 b m with m | m
        · exact q.1.2 ⟨i, sub b (by simp [m])⟩
        · exact q.2 m
    · rw [upd_ne (fun y => live a (by simp) (by rw [← y]; exact fc b hb))]; exact q
  exact ⟨xs, _, fp', rr0.len, s1 _ _ ha, putT_eq ht, e', g'⟩
end

/-! ### statements -/
def isLN : Option OT → Bool
  | some (.l _) => true
  | some (.L _) => true
  | _ => false
def appN (p : PV) : OT → Option OT
  | .l ps => if ps.length < sizeLine then some (.l (ps ++ [p])) else none
  | _ => none
def appNO (c : OT) (n : OT) : Option OT := (asL n).bind fun ts => if ts.length < sizeLine then some (.L (ts ++ [c])) else none
def extN : PV → OT → Option OT
  | .lst qs, .l ps => if ps.length + qs.length ≤ sizeLine then some (.l (ps ++ qs)) else none
  | _, _ => none
def clrN : OT → Option OT
  | .l _ => some (.l [])
  | _ => none
def putN (k v : PV) : OT → Option OT
  | .l ps => (match k with
    | .int z => (ixN ps.length z).map fun j => .l (ps.set j v)
    | _ => none)
  | .d kvs => (keyOf k).bind fun k => if kvs.length < sizeLine then some (.d (putA kvs k v)) else none
  | _ => none
def putNO (k : PV) (c : OT) (n : OT) : Option OT := (asD n).bind fun kvs => (keyOf k).bind fun k => if kvs.length < sizeLine then some (.D (putA kvs k c)) else none
/-- path.append(e) -/
def sAppP (i : Nat) (px : Px) (f : E) : S := fun ρ => withR (px ρ) ρ fun π => if isLN (nodeOf i ρ π) = true then withR (f ρ) ρ fun p => putT i ρ π ((nodeOf i ρ π).bind (appN p)) else .bad
def sAppPO (i : Nat) (px : Px) (f : O) : S := fun ρ => withR (px ρ) ρ fun π => if isLN (nodeOf i ρ π) = true then withR (f ρ) ρ fun c => putT i ρ π ((nodeOf i ρ π).bind (appNO c)) else .bad
def sExtP (i : Nat) (px : Px) (f : E) : S := fun ρ => withR (px ρ) ρ fun π => if isLN (nodeOf i ρ π) = true then withR (f ρ) ρ fun p => putT i ρ π ((nodeOf i ρ π).bind (extN p)) else .bad
def sClrP (i : Nat) (px : Px) : S := fun ρ => withR (px ρ) ρ fun π => putT i ρ π ((nodeOf i ρ π).bind clrN)
def sPutP (i : Nat) (px : Px) (fi fv : E) : S := fun ρ => withR (fv ρ) ρ fun v => withR (px ρ) ρ fun π => withR (fi ρ) ρ fun k => putT i ρ π ((nodeOf i ρ π).bind (putN k v))
def sPutPO (i : Nat) (px : Px) (fi : E) (fv : O) : S := fun ρ => withR (fv ρ) ρ fun c => withR (px ρ) ρ fun π => withR (fi ρ) ρ fun k => putT i ρ π ((nodeOf i ρ π).bind (putNO k c))
section
variable {X : Cx} {C : Addr → Prop} {W : WX} {e e1 e2 e3 o : Expr} {pos p2 tpos : Pos} {m m1 m2 : Mode} {f f1 f2 : E} {px : Px} {fo : O}
theorem isLN_at {K : PySem.W.Frag} {ρ : Env} {σ : L2.St} {H : Hp} {fp : Fp} {i : Nat} {π : List Nat} {v u : V} (eo : EnvOk K C ρ σ H fp) (h : isLN (nodeOf i ρ π) = true) (hv : σ[i]? = some (some v)) (hu : subV H v π u) : ∃ a xs, u = .ref a ∧ H a = some (.lst xs) := by
  cases hn : nodeOf i ρ π with
  | none => rw [hn] at h; cases h
  | some n =>
    rw [hn] at h
    obtain ⟨Fn, r⟩ := eo.nodeRep hn hv hu
    cases n with
    | l ps => obtain ⟨a, xs, rfl, _, ha, _⟩ := r; exact ⟨a, xs, rfl, ha⟩
    | L ts => obtain ⟨a, xs, F', rfl, _, ha, _⟩ := r; exact ⟨a, xs, rfl, ha⟩
    | _ => cases h
theorem sj_appP {i : Nat} {apos cpos : Pos} (hp : PxJ X C W i o px) (h : EJ X C W .E e f)
    (hsw : swapsWith (.Call (.Attribute o "append" apos) [e] [] cpos) none pos.line X.env = pure false := by rfl)
    (hbase : attributeBase o "append" X.env (eval o X.env) = eval o X.env := by rfl)
    (hfew : ((backTo cpos (starEach [e] X.env)).all (fun x => !x.1) && (backToKw cpos (keywordEach [] X.env)).all (fun x => x.1.isSome) && decide ([e].length + ([] : List Keyword).length + (if ([] : List Keyword).isEmpty then 0 else 1) < 30)) = true := by rfl)
    (hline : (apos.endLine == cpos.line) = true := by rfl) (hs : starEach [e] X.env = (false, eval e X.env) :: starEach [] X.env := by rfl) (hplain : (backTo cpos (starEach [] X.env)).any (·.1) = false := by rfl) :
    SJ X C W (.Expr (.Call (.Attribute o "append" apos) [e] [] cpos) pos) (sAppP i px f) :=
  ps_weak (ps_expr (pe_bm PySem.F.plainAttrs_list PySem.F.slot_list_append PySem.F.type_list_append mt_append hp.run (pa_cons h pa_nil hs) hbase hfew hline hs hplain) hsw) fun D σ H ⟨ρ, fp, eo, q⟩ => by
    refine ⟨ρ, fp, eo, (FlQ.ofR eo q).mono (fun π q v u H1 s1 hv hu => ?_) fun _ _ q => q⟩
    have eo1 := eo.same s1
    have q := FlQ.later (Grow.same (fp := fp) s1) q
    try dsimp only at q
    split at q
    · rename_i hL
      obtain ⟨a, xs, rfl, ha⟩ := isLN_at eo1 hL hv hu
      refine ⟨.inl ⟨rfl, xs, SqL.of ha⟩, ρ, fp, eo1, (FlQ.ofR eo1 q).mono (fun p q w H2 s2 r2 => ?_) fun _ _ q => q⟩
      have eo2 := eo1.same s2
      have q := FlQ.later (Grow.same (fp := fp) s2) q
      try dsimp only at q
      cases hn : nodeOf i ρ π with
      | none => rw [hn] at q; exact q.elim
      | some n =>
        rw [hn] at q
        cases n with
        | l ps =>
          simp only [Option.bind_some, appN] at q
          split at q
          · rename_i hl
            obtain ⟨Fn, rn⟩ := eo2.nodeRep hn hv (hu.same s2)
            obtain ⟨b, ys, eb, _, hb, rr⟩ := rn
            cases eb
            obtain ⟨ρ', fp', e', eo', g'⟩ := eo2.wrL hn hv (hu.same s2) hb (rr.append (Reps.one r2))
            rw [e'] at q
            exact ⟨a, ys, w, rfl, rfl, hb, by rw [rr.length]; exact hl, q _ _ _ eo' g'⟩
          · exact q.elim
        | _ => exact q.elim
    · exact q.elim
theorem sj_appPO {i : Nat} {apos cpos : Pos} (hp : PxJ X C W i o px) (h : OJ X C W e fo)
    (hsw : swapsWith (.Call (.Attribute o "append" apos) [e] [] cpos) none pos.line X.env = pure false := by rfl)
    (hbase : attributeBase o "append" X.env (eval o X.env) = eval o X.env := by rfl)
    (hfew : ((backTo cpos (starEach [e] X.env)).all (fun x => !x.1) && (backToKw cpos (keywordEach [] X.env)).all (fun x => x.1.isSome) && decide ([e].length + ([] : List Keyword).length + (if ([] : List Keyword).isEmpty then 0 else 1) < 30)) = true := by rfl)
    (hline : (apos.endLine == cpos.line) = true := by rfl) (hs : starEach [e] X.env = (false, eval e X.env) :: starEach [] X.env := by rfl) (hplain : (backTo cpos (starEach [] X.env)).any (·.1) = false := by rfl) :
    SJ X C W (.Expr (.Call (.Attribute o "append" apos) [e] [] cpos) pos) (sAppPO i px fo) :=
  ps_weak (ps_expr (pe_bm PySem.F.plainAttrs_list PySem.F.slot_list_append PySem.F.type_list_append mt_append hp.run (pa_cons h pa_nil hs) hbase hfew hline hs hplain) hsw) fun D σ H ⟨ρ, fp, eo, q⟩ => by
    refine ⟨ρ, fp, eo, (FlQ.ofR eo q).mono (fun π q v u H1 s1 hv hu => ?_) fun _ _ q => q⟩
    have eo1 := eo.same s1
    have q := FlQ.later (Grow.same (fp := fp) s1) q
    try dsimp only at q
    split at q
    · rename_i hL
      obtain ⟨a, xs, rfl, ha⟩ := isLN_at eo1 hL hv hu
      refine ⟨.inl ⟨rfl, xs, SqL.of ha⟩, ρ, fp, eo1, (FlQ.ofR eo1 q).mono (fun c q w H2 Fc s2 nc fc rc => ?_) fun _ _ q => q⟩
      cases hn : nodeOf i ρ π with
      | none => rw [hn] at q; exact q.elim
      | some n =>
        rw [hn] at q
        simp only [Option.bind_some, appNO] at q
        cases hA : asL n with
        | none => rw [hA] at q; exact q.elim
        | some ts =>
          rw [hA] at q
          simp only [Option.bind_some] at q
          split at q
          · rename_i hl
            obtain ⟨ys, ρ', fp', hy, hb, e', eo', g'⟩ := eo1.wrLO s2 hn hA hv hu nc fc rc
            rw [e'] at q
            exact ⟨a, ys, w, rfl, rfl, hb, by rw [hy]; exact hl, q _ _ _ eo' g'⟩
          · exact q.elim
    · exact q.elim
theorem sj_extP {i : Nat} {apos cpos : Pos} (hp : PxJ X C W i o px) (h : EJ X C W .I e f)
    (hsw : swapsWith (.Call (.Attribute o "extend" apos) [e] [] cpos) none pos.line X.env = pure false := by rfl)
    (hbase : attributeBase o "extend" X.env (eval o X.env) = eval o X.env := by rfl)
    (hfew : ((backTo cpos (starEach [e] X.env)).all (fun x => !x.1) && (backToKw cpos (keywordEach [] X.env)).all (fun x => x.1.isSome) && decide ([e].length + ([] : List Keyword).length + (if ([] : List Keyword).isEmpty then 0 else 1) < 30)) = true := by rfl)
    (hline : (apos.endLine == cpos.line) = true := by rfl) (hs : starEach [e] X.env = (false, eval e X.env) :: starEach [] X.env := by rfl) (hplain : (backTo cpos (starEach [] X.env)).any (·.1) = false := by rfl) :
    SJ X C W (.Expr (.Call (.Attribute o "extend" apos) [e] [] cpos) pos) (sExtP i px f) :=
  ps_weak (ps_expr (pe_bm PySem.F.plainAttrs_list PySem.F.slot_list_extend PySem.F.type_list_extend mt_extend hp.run (pa_cons h pa_nil hs) hbase hfew hline hs hplain) hsw) fun D σ H ⟨ρ, fp, eo, q⟩ => by
    refine ⟨ρ, fp, eo, (FlQ.ofR eo q).mono (fun π q v u H1 s1 hv hu => ?_) fun _ _ q => q⟩
    have eo1 := eo.same s1
    have q := FlQ.later (Grow.same (fp := fp) s1) q
    try dsimp only at q
    split at q
    · rename_i hL
      obtain ⟨a, xs, rfl, ha⟩ := isLN_at eo1 hL hv hu
      refine ⟨.inl ⟨rfl, xs, SqL.of ha⟩, ρ, fp, eo1, (FlQ.ofR eo1 q).mono (fun p q w H2 s2 r2 => ?_) fun _ _ q => q⟩
      have eo2 := eo1.same s2
      have q := FlQ.later (Grow.same (fp := fp) s2) q
      try dsimp only at q
      cases hn : nodeOf i ρ π with
      | none => rw [hn] at q; exact q.elim
      | some n =>
        rw [hn] at q
        cases n with
        | l ps =>
          cases p with
          | lst qs =>
            simp only [Option.bind_some, extN] at q
            split at q
            · rename_i hl
              obtain ⟨Fn, rn⟩ := eo2.nodeRep hn hv (hu.same s2)
              obtain ⟨b, ys, eb, _, hb, rr⟩ := rn
              cases eb
              obtain ⟨b, zs, rfl, hz, rz⟩ := r2
              obtain ⟨ρ', fp', e', eo', g'⟩ := eo2.wrL hn hv (hu.same s2) hb (rr.append rz)
              rw [e'] at q
              exact ⟨a, b, ys, zs, rfl, rfl, hb, hz, by rw [rr.length, rz.length]; exact hl, q _ _ _ eo' g'⟩
            · exact q.elim
          | _ => exact q.elim
        | _ => cases p <;> exact q.elim
    · exact q.elim
theorem sj_clrP {i : Nat} {apos cpos : Pos} (hp : PxJ X C W i o px)
    (hsw : swapsWith (.Call (.Attribute o "clear" apos) [] [] cpos) none pos.line X.env = pure false := by rfl)
    (hbase : attributeBase o "clear" X.env (eval o X.env) = eval o X.env := by rfl) (hline : (apos.endLine == cpos.line) = true := by rfl) :
    SJ X C W (.Expr (.Call (.Attribute o "clear" apos) [] [] cpos) pos) (sClrP i px) :=
  ps_weak (ps_expr (pe_bm0 PySem.F.plainAttrs_list PySem.F.slot_list_clear PySem.F.type_list_clear mt_clear hp.run hbase hline) hsw) fun D σ H ⟨ρ, fp, eo, q⟩ => by
    refine ⟨ρ, fp, eo, (FlQ.ofR eo q).mono (fun π q v u H1 s1 hv hu => ?_) fun _ _ q => q⟩
    have eo1 := eo.same s1
    have q := FlQ.later (Grow.same (fp := fp) s1) q
    try dsimp only at q
    cases hn : nodeOf i ρ π with
    | none => rw [hn] at q; exact q.elim
    | some n =>
      rw [hn] at q
      cases n with
      | l ps =>
        obtain ⟨Fn, rn⟩ := eo1.nodeRep hn hv hu
        obtain ⟨b, ys, rfl, _, hb, rr⟩ := rn
        obtain ⟨ρ', fp', e', eo', g'⟩ := eo1.wrL (qs := []) (ys := []) hn hv hu hb rfl
        simp only [Option.bind_some, clrN] at q
        rw [e'] at q
        exact ⟨.inl ⟨rfl, ys, SqL.of hb⟩, b, ys, rfl, rfl, hb, q _ _ _ eo' g'⟩
      | _ => exact q.elim
theorem putN_read {i : Nat} {ρ : Env} {σ : L2.St} {H : Hp} {fp : Fp} {D : Ends} {π : List Nat} {k v : PV} {v0 u w o : V} (eo : EnvOk X.K C ρ σ H fp) (rk : Rep X.K (fun _ => True) H k u) (rv : Rep X.K (Am C fp) H v w) (hv : σ[i]? = some (some v0)) (hu : subV H v0 π o)
    (q : FlQ X.K C W D H fp (putT i ρ π ((nodeOf i ρ π).bind (putN k v)))) : rSetL o u w H (fun H' => D.nx σ H') ∨ rSetD o u w H (fun H' => D.nx σ H') := by
  cases hn : nodeOf i ρ π with
  | none => rw [hn] at q; exact q.elim
  | some n =>
    rw [hn] at q
    obtain ⟨Fn, rn⟩ := eo.nodeRep hn hv hu
    cases n with
    | l ps =>
      cases k with
      | int z =>
        simp only [Option.bind_some, putN] at q
        cases hj : ixN ps.length z with
        | none => rw [hj] at q; exact q.elim
        | some j =>
          rw [hj] at q
          obtain ⟨a, xs, rfl, hF, ha, rr⟩ := rn
          obtain ⟨ρ', fp', e', eo', g'⟩ := eo.wrL hn hv hu ha (Reps.set j rr rv)
          simp only [Option.map_some] at q
          rw [e'] at q
          exact .inl ⟨a, xs, z, j, rfl, rk, ha, by rw [rr.length]; exact hj, q _ _ _ eo' g'⟩
      | _ => exact q.elim
    | d kvs =>
      simp only [Option.bind_some, putN] at q
      cases hk : keyOf k with
      | none => rw [hk] at q; exact q.elim
      | some k' =>
        rw [hk] at q
        simp only [Option.bind_some] at q
        split at q
        · rename_i hl
          obtain ⟨a, xs, rfl, hF, ha, rr⟩ := rn
          obtain ⟨ρ', fp', e', eo', g'⟩ := eo.wrD hn hv hu ha (RepK.put rr rv k')
          rw [e'] at q
          exact .inr ⟨a, _, rfl, by rw [rep_key rk hk]; exact DPut.k ha (by rw [rr.len]; exact hl), q _ _ _ eo' g'⟩
        · exact q.elim
    | _ => exact q.elim
theorem sj_putP {i : Nat} {fi fv : E} (hu : Hu X) (hp : PxJ X C W i o px) (he : EJ X C W .E e fv) (hi : EJ X C W .B e1 fi)
    (ha : ∀ v, assign (.Subscript o e1 tpos) X.env v = (do
      let ov ← holding [v] (eval o X.env)
      let iv ← holding [v, ov] (eval e1 X.env)
      standAt tpos
      holding [v, ov, iv] (setItem ov iv v)
      release [v, ov, iv] []) := by intro _; rfl)
    (hs : swapsWithSole [.Subscript o e1 tpos] e pos.line X.env = pure false := by rfl) (hw : swappedStores [.Subscript o e1 tpos] e X.env = pure none := by rfl) (h1 : (assignEach [.Subscript o e1 tpos] X.env).map (·.2) = [assign (.Subscript o e1 tpos) X.env] := by rfl) :
    SJ X C W (.Assign [.Subscript o e1 tpos] e pos) (sPutP i px fi fv) :=
  ps_weak (ps_asg he (pg_sub hp.run hi (PSet.or set_list (set_dict hu.u1)) ha) hs hw h1) fun D σ H ⟨ρ, fp, eo, h⟩ => by
    refine ⟨ρ, fp, eo, (FlQ.ofR eo h).mono (fun v q w H1 s1 r1 => ?_) fun _ _ q => q⟩
    have eo1 := eo.same s1
    refine ⟨ρ, fp, eo1, (FlQ.ofR eo1 (FlQ.later (Grow.same s1) q)).mono (fun π q2 v0 u H2 s2 hv hu => ?_) fun _ _ q => q⟩
    have eo2 := eo1.same s2
    refine ⟨ρ, fp, eo2, (FlQ.ofR eo2 (FlQ.later (Grow.same s2) q2)).mono (fun k q3 u3 H3 s3 r3 => ?_) fun _ _ q => q⟩
    exact putN_read (eo2.same s3) r3 (RepM.same (m := .E) (s2.trans s3) r1) hv (hu.same s3) (FlQ.later (Grow.same s3) q3)
theorem sj_putPO {i : Nat} {fi : E} (hu : Hu X) (hp : PxJ X C W i o px) (he : OJ X C W e fo) (hi : EJ X C W .B e1 fi)
    (ha : ∀ v, assign (.Subscript o e1 tpos) X.env v = (do
      let ov ← holding [v] (eval o X.env)
      let iv ← holding [v, ov] (eval e1 X.env)
      standAt tpos
      holding [v, ov, iv] (setItem ov iv v)
      release [v, ov, iv] []) := by intro _; rfl)
    (hs : swapsWithSole [.Subscript o e1 tpos] e pos.line X.env = pure false := by rfl) (hw : swappedStores [.Subscript o e1 tpos] e X.env = pure none := by rfl) (h1 : (assignEach [.Subscript o e1 tpos] X.env).map (·.2) = [assign (.Subscript o e1 tpos) X.env] := by rfl) :
    SJ X C W (.Assign [.Subscript o e1 tpos] e pos) (sPutPO i px fi fo) :=
  ps_weak (ps_asg he (pg_sub hp.run hi (set_dict hu.u1) ha) hs hw h1) fun D σ H ⟨ρ, fp, eo, h⟩ => by
    refine ⟨ρ, fp, eo, (FlQ.ofR eo h).mono (fun c q w H1 Fc s1 nc fc rc => ?_) fun _ _ q => q⟩
    have eo1 := eo.same s1
    refine ⟨ρ, fp, eo1, (FlQ.ofR eo q).mono (fun π q2 v0 u H2 s2 hv hu => ?_) fun _ _ q => XQ.later s1 q⟩
    have eo2 := eo1.same s2
    refine ⟨ρ, fp, eo2, (FlQ.ofR eo q2).mono (fun k q3 u3 H3 s3 r3 => ?_) fun _ _ q => XQ.later (s1.trans s2) q⟩
    have sAll : Same H H3 := s1.trans (s2.trans s3)
    have q4 := q3
    cases hn : nodeOf i ρ π with
    | none => rw [hn] at q4; exact q4.elim
    | some n =>
      rw [hn] at q4
      simp only [Option.bind_some, putNO] at q4
      cases hA : asD n with
      | none => rw [hA] at q4; exact q4.elim
      | some ts =>
        rw [hA] at q4
        simp only [Option.bind_some] at q4
        cases hk : keyOf k with
        | none => rw [hk] at q4; exact q4.elim
        | some k' =>
          rw [hk] at q4
          simp only [Option.bind_some] at q4
          split at q4
          · rename_i hl
            -- the path stands already before the thing was made
            obtain ⟨t, ht, hat⟩ := node_own hn
            obtain ⟨v', hv', r⟩ := eo.slot i _ ht
            rw [hv] at hv'; cases hv'
            obtain ⟨u', Fn, _, _, _, hs', hr, _⟩ := r.zip hat
            cases (hu.same s3).det (hs'.same sAll)
            obtain ⟨_, a, xs0, F', rfl, _, ha0, _⟩ := asD_rep hA hr
            have rc' : OTRep X.K (fun b => Am C fp b ∧ b ∉ Fc) H3 c w Fc := rc.carry (Carry.same (s2.trans s3) fun _ q => q) fun b _ o z => (s2.trans s3) _ _ z
            obtain ⟨ys, ρ', fp', hy, hb, e', eo', g'⟩ := eo.wrDO k' sAll hn hA hv hs' nc fc rc'
            rw [e'] at q4
            exact ⟨a, _, rfl, by rw [rep_key (RepM.toB r3) hk]; exact DPut.k hb (by rw [hy]; exact hl), q4 _ _ _ eo' g'⟩
          · exact q4.elim
end
end Fz
end
section
/-! FwZ: what never runs, is True, sum, max, min, ranges down, dict.get. -/
namespace Fz
open PySem PySem.Spec PyProof.Rows L2
section
variable {X : Cx} {C : Addr → Prop} {W : WX} {e e1 e2 e3 o tg : Expr} {pos p2 pn tpos : Pos} {m m1 m2 m3 : Mode} {f f1 f2 f3 : E} {px : Px} {fo : O}
def sBad : S := fun _ => .bad
theorem sj_never {st : Stmt} : SJ X C W st sBad := ps_weak ps_never fun D σ H ⟨ρ, fp, eo, h⟩ => h.elim
/-! is True -/
def gIsB : Cmp := fun p q => match p, q with
  | .bl a, .bl b => some (decide (a = b))
  | _, _ => none
def gNotB : Cmp := fun p q => match p, q with
  | .bl a, .bl b => some (!decide (a = b))
  | _, _ => none
theorem cmp_isB : CmpOk X.K rIsB gIsB := fun p q b H v u Q hg r1 r2 hQ => by
  cases p <;> cases q <;> simp only [gIsB, Option.some.injEq, reduceCtorEq] at hg
  subst hg
  exact ⟨_, _, r1, r2, hQ⟩
theorem cmp_notB : CmpOk X.K rNotB gNotB := fun p q b H v u Q hg r1 r2 hQ => by
  cases p <;> cases q <;> simp only [gNotB, Option.some.injEq, reduceCtorEq] at hg
  subst hg
  exact ⟨_, _, r1, r2, hQ⟩
/-! lists of whole numbers -/
def intsOf : List PV → Option (List Int)
  | [] => some []
  | .int x :: ps => (intsOf ps).map (x :: ·)
  | _ :: _ => none
theorem intsOf_eq : ∀ {ps : List PV} {xs : List Int}, intsOf ps = some xs → ps = xs.map .int
  | [], xs, h => by cases h; rfl
  | p :: ps, xs, h => by
    cases p <;> simp only [intsOf, reduceCtorEq] at h
    cases e : intsOf ps with
    | none => rw [e] at h; cases h
    | some ys => rw [e] at h; cases h; rw [intsOf_eq e]; rfl
@[simp] theorem intsOf_map (xs : List Int) : intsOf (xs.map .int) = some xs := by
  induction xs with
  | nil => rfl
  | cons x xs ih => simp [intsOf, ih]
def maxI : List Int → Option Int
  | [] => none
  | x :: xs => some (xs.foldl max x)
def minI : List Int → Option Int
  | [] => none
  | x :: xs => some (xs.foldl min x)
theorem foldl_max : ∀ (xs : List Int) (x : Int), (xs.foldl max x = x ∨ xs.foldl max x ∈ xs) ∧ x ≤ xs.foldl max x ∧ ∀ y ∈ xs, y ≤ xs.foldl max x
  | [], x => ⟨.inl rfl, Int.le_refl _, fun _ h => nomatch h⟩
  | y :: ys, x => by
    obtain ⟨h1, h2, h3⟩ := foldl_max ys (max x y)
    refine ⟨?_, ?_, fun z hz => ?_⟩
    · rcases h1 with q | q
      · by_cases hxy : x ≤ y
        · right; simp only [List.foldl_cons, q]; rw [Int.max_eq_right hxy]; exact List.mem_cons_self
        · left; simp only [List.foldl_cons, q]; exact Int.max_eq_left (by omega)
      · right; exact List.mem_cons_of_mem _ q
    · simp only [List.foldl_cons]; have := Int.le_max_left x y; omega
    · simp only [List.foldl_cons]
      rcases List.mem_cons.mp hz with rfl | hz
      · have := Int.le_max_right x z; omega
      · exact h3 z hz
theorem foldl_min : ∀ (xs : List Int) (x : Int), (xs.foldl min x = x ∨ xs.foldl min x ∈ xs) ∧ xs.foldl min x ≤ x ∧ ∀ y ∈ xs, xs.foldl min x ≤ y
  | [], x => ⟨.inl rfl, Int.le_refl _, fun _ h => nomatch h⟩
  | y :: ys, x => by
    obtain ⟨h1, h2, h3⟩ := foldl_min ys (min x y)
    refine ⟨?_, ?_, fun z hz => ?_⟩
    · rcases h1 with q | q
      · by_cases hxy : y ≤ x
        · right; simp only [List.foldl_cons, q]; rw [Int.min_eq_right hxy]; exact List.mem_cons_self
        · left; simp only [List.foldl_cons, q]; exact Int.min_eq_left (by omega)
      · right; exact List.mem_cons_of_mem _ q
    · simp only [List.foldl_cons]; have := Int.min_le_left x y; omega
    · simp only [List.foldl_cons]
      rcases List.mem_cons.mp hz with rfl | hz
      · have := Int.min_le_right x z; omega
      · exact h3 z hz
theorem maxI_spec {xs : List Int} {m : Int} (h : maxI xs = some m) : m ∈ xs ∧ ∀ y ∈ xs, y ≤ m := by
  cases xs with
  | nil => cases h
  | cons x xs =>
    cases h
    obtain ⟨h1, h2, h3⟩ := foldl_max xs x
    refine ⟨h1.elim (fun e => ?_) (List.mem_cons_of_mem _), fun y hy => (List.mem_cons.mp hy).elim (fun e => e ▸ h2) (h3 y)⟩
    have : xs.foldl max x = x := e
    show xs.foldl max x ∈ _
    rw [this]; exact List.mem_cons_self
theorem minI_spec {xs : List Int} {m : Int} (h : minI xs = some m) : m ∈ xs ∧ ∀ y ∈ xs, m ≤ y := by
  cases xs with
  | nil => cases h
  | cons x xs =>
    cases h
    obtain ⟨h1, h2, h3⟩ := foldl_min xs x
    refine ⟨h1.elim (fun e => ?_) (List.mem_cons_of_mem _), fun y hy => (List.mem_cons.mp hy).elim (fun e => e ▸ h2) (h3 y)⟩
    have : xs.foldl min x = x := e
    show xs.foldl min x ∈ _
    rw [this]; exact List.mem_cons_self
def gSum : PV → Option PV
  | .lst ps => (intsOf ps).map fun ns => .int ns.sum
  | _ => none
def gMaxL : PV → Option PV
  | .lst ps => (intsOf ps).bind fun ns => (maxI ns).map .int
  | _ => none
def gMinL : PV → Option PV
  | .lst ps => (intsOf ps).bind fun ns => (minI ns).map .int
  | _ => none
theorem rep_ints {K : PySem.W.Frag} {H : Hp} {ps : List PV} {v : V} {ns : List Int} (e : intsOf ps = some ns) (r : Rep K (fun _ => True) H (.lst ps) v) : ∃ a, v = .ref a ∧ SqL K H a (ns.map V.int) := by
  obtain ⟨a, vs, rfl, _, ha, rr⟩ := r
  rw [intsOf_eq e] at rr
  rw [rr.ints] at ha
  exact ⟨a, rfl, SqL.of ha⟩
theorem c_sum : Call1A X.K (rSum X.K) gSum := fun H p z v Q hg r k => by
  cases p <;> simp only [gSum, reduceCtorEq] at hg
  obtain ⟨ns, e, rfl⟩ := Option.map_eq_some_iff.mp hg
  obtain ⟨a, rfl, hs⟩ := rep_ints e r
  exact ⟨a, ns, rfl, hs, k _ (atom_int _)⟩
theorem c_maxL : Call1A X.K (rMax X.K) gMaxL := fun H p z v Q hg r k => by
  cases p <;> simp only [gMaxL, reduceCtorEq] at hg
  obtain ⟨ns, e, hg⟩ := Option.bind_eq_some_iff.mp hg
  obtain ⟨m, hm, rfl⟩ := Option.map_eq_some_iff.mp hg
  obtain ⟨a, rfl, hs⟩ := rep_ints e r
  obtain ⟨h1, h2⟩ := maxI_spec hm
  refine ⟨a, ns, rfl, hs, List.length_pos_of_mem h1, fun m' hm' hle => ?_⟩
  have : m' = m := Int.le_antisymm (h2 _ hm') (hle _ h1)
  rw [this]
  exact k _ (atom_int _)
theorem c_minL : Call1A X.K (rMin X.K) gMinL := fun H p z v Q hg r k => by
  cases p <;> simp only [gMinL, reduceCtorEq] at hg
  obtain ⟨ns, e, hg⟩ := Option.bind_eq_some_iff.mp hg
  obtain ⟨m, hm, rfl⟩ := Option.map_eq_some_iff.mp hg
  obtain ⟨a, rfl, hs⟩ := rep_ints e r
  obtain ⟨h1, h2⟩ := minI_spec hm
  refine ⟨a, ns, rfl, hs, List.length_pos_of_mem h1, fun m' hm' hle => ?_⟩
  have : m' = m := Int.le_antisymm (hle _ h1) (h2 _ hm')
  rw [this]
  exact k _ (atom_int _)
/-! max, min of two -/
def Call2A (K : PySem.W.Frag) (r : List V → Hp → VK → Prop) (g : PV → PV → Option PV) : Prop := ∀ H p q z v u Q, g p q = some z → Rep K (fun _ => True) H p v → Rep K (fun _ => True) H q u → (∀ w, Atom K z w → Q w H) → r [v, u] H Q
theorem ej_call2 {x : Str} {nid : String} {r : List V → Hp → VK → Prop} {g : PV → PV → Option PV} (hc : CallR X (.builtin nid) r) (hg : Call2A X.K r g) (hl : Gl X x) (hm : X.mg x = none) (hv : bootBuiltins x = some (.builtin nid)) (h1 : EJ X C W m1 e1 f1) (h2 : EJ X C W m2 e2 f2) (hn : x ≠ "__name__" := by decide) (hdb : (x == ("__debug__" : Str)) = false := by decide)
    (he : starEach (e1 :: [e2]) X.env = (false, eval e1 X.env) :: starEach [e2] X.env := by rfl) (he2 : starEach [e2] X.env = (false, eval e2 X.env) :: starEach [] X.env := by rfl) (hpl : (backTo pos (starEach [e2] X.env)).any (·.1) = false := by rfl) : EJ X C W m (.Call (.Name x p2) [e1, e2] [] pos) (eBin g f1 f2) :=
  pe_weak (pe_callB hc hl hm hv (pa_cons h1 (pa_cons h2 pa_nil he2) he) hn hdb he hpl) fun σ H Q ⟨ρ, fp, eo, o⟩ => two (m1 := m1) (m2 := m2) eo o fun p q v u H2 s eo2 o2 r1 r2 => by
    obtain ⟨z, hz, hQ⟩ := Out.ofO o2
    exact hg H2 p q z v u Q hz (RepM.toB r1) (RepM.toB r2) fun w a => hQ w H2 s a.rm
def gMax2 : PV → PV → Option PV
  | .int i, .int j => some (.int (max i j))
  | _, _ => none
def gMin2 : PV → PV → Option PV
  | .int i, .int j => some (.int (min i j))
  | _, _ => none
theorem c_max2 : Call2A X.K (fun xs H Q => ∃ i j, xs = [.int i, .int j] ∧ Q (.int (if j > i then j else i)) H) gMax2 := fun H p q z v u Q hg r1 r2 k => by
  cases p <;> cases q <;> simp only [gMax2, reduceCtorEq, Option.some.injEq] at hg
  subst hg
  refine ⟨_, _, by rw [show v = .int _ from r1, show u = .int _ from r2], k _ ?_⟩
  rename_i i j
  have : (if j > i then j else i) = max i j := by
    split
    · exact (Int.max_eq_right (by omega)).symm
    · exact (Int.max_eq_left (by omega)).symm
  rw [this]; exact atom_int _
theorem c_min2 : Call2A X.K (fun xs H Q => ∃ i j, xs = [.int i, .int j] ∧ Q (.int (if j < i then j else i)) H) gMin2 := fun H p q z v u Q hg r1 r2 k => by
  cases p <;> cases q <;> simp only [gMin2, reduceCtorEq, Option.some.injEq] at hg
  subst hg
  refine ⟨_, _, by rw [show v = .int _ from r1, show u = .int _ from r2], k _ ?_⟩
  rename_i i j
  have : (if j < i then j else i) = min i j := by
    split
    · exact (Int.min_eq_right (by omega)).symm
    · exact (Int.min_eq_left (by omega)).symm
  rw [this]; exact atom_int _
/-! range(a, b, -1) -/
def downL (lo : Int) (n : Nat) : List PV := (List.range n).map fun (k : Nat) => .int (lo - (k : Int))
theorem iter_down {K : PySem.W.Frag} {A : Addr → Prop} {H0 : Hp} {rel : Hp → Prop} {lo : Int} {n : Nat} : IterOk K A H0 rel (Itc lo (-1) n) (downL lo n) := fun H B hr _ i => by
  refine ⟨fun p hp => ?_, fun hi => (by simpa [downL] using hi : n ≤ i)⟩
  rw [downL, List.getElem?_map] at hp
  by_cases hi : i < n
  · rw [List.getElem?_eq_getElem (by simpa using hi)] at hp
    simp only [List.getElem_range, Option.map_some, Option.some.injEq] at hp
    refine ⟨hi, fun x H' ⟨e1, e2⟩ => ?_⟩
    subst e1 e2 hp
    refine ⟨Same.refl _, ?_⟩
    show V.int _ = V.int _
    congr 1
    omega
  · rw [List.getElem?_eq_none (by simpa using Nat.le_of_not_lt hi)] at hp
    cases hp
def downR (i j : Int) : Res (List PV) := if bnd i = true ∧ bnd j = true then .ok (downL i (i - j).toNat) else .bad
def isM1 : PV → Bool
  | .int c => decide (c = -1)
  | _ => false
def stepR (i j : Int) (z : PV) : Res (List PV) := if isM1 z = true then downR i j else .bad
def lRange3 (f g h : E) : L := fun ρ => f ρ >>= fun x => g ρ >>= fun y => h ρ >>= fun z => intOf x >>= fun i => intOf y >>= fun j => stepR i j z
theorem ij_range3 {rel : Hp → Fp → Hp → Prop} (hg : Gl X "range") (hm : X.mg "range" = none) (h1 : EJ X C W m1 e1 f1) (h2 : EJ X C W m2 e2 f2) (h3 : EJ X C W m3 e3 f3) (hs : starEach [e1, e2, e3] X.env = (false, eval e1 X.env) :: starEach [e2, e3] X.env := by rfl) (hs2 : starEach [e2, e3] X.env = (false, eval e2 X.env) :: starEach [e3] X.env := by rfl)
    (hs3 : starEach [e3] X.env = (false, eval e3 X.env) :: starEach [] X.env := by rfl) (hpl : (backTo pos (starEach [e2, e3] X.env)).any (·.1) = false := by rfl) :
    IJ X C W rel tg (.Call (.Name "range" p2) [e1, e2, e3] [] pos) (lRange3 f1 f2 f3) :=
  pi_weak (pi_range3 hg hm (pa_cons h1 (pa_cons h2 (pa_cons h3 pa_nil hs3) hs2) hs) hs hpl) fun σ H R ⟨ρ, fp, eo, o⟩ => by
    refine ⟨ρ, fp, eo, (Out.bind o).mono (fun p o1 v H1 s1 r1 => ?_) fun _ _ q => q⟩
    refine ⟨ρ, fp, eo.same s1, (Out.bind o1).mono (fun q o2 u H2 s2 r2 => ?_) fun _ _ q => XQ.later s1 q⟩
    refine ⟨ρ, fp, eo.same (s1.trans s2), (Out.bind o2).mono (fun z o3 w H3 s3 r3 => ?_) fun _ _ q => XQ.later (s1.trans s2) q⟩
    cases p with
    | int i =>
      cases q with
      | int j =>
        have o4 : Out (stepR i j z) _ _ := o3
        unfold stepR at o4
        split at o4
        · rename_i hz
          cases z with
          | int c =>
            have hc : c = -1 := of_decide_eq_true hz
            subst hc
            unfold downR at o4
            split at o4
            · rename_i hb
              have hb : (-(2 ^ 62) ≤ i ∧ i < 2 ^ 62) ∧ -(2 ^ 62) ≤ j ∧ j < 2 ^ 62 := by simpa [bnd] using hb
              exact ⟨i, j, -1, (i - j).toNat, by rw [show v = .int i from RepM.toB r1, show u = .int j from RepM.toB r2, show w = .int (-1) from RepM.toB r3], RgC.neg hb.1.1 hb.1.2 hb.2.1 hb.2.2, o4 _ H3 (s1.trans (s2.trans s3)) iter_down⟩
            · exact o4.elim
          | _ => cases hz
        · exact o4.elim
      | _ => exact o3.elim
    | _ => exact o3.elim
/-! d.get(k), d.get(k, x) -/
def gGet (d k : PV) : Option PV := (lookD d k).map fun o => o.getD .non
def isDic : PV → Bool
  | .dic _ => true
  | .dit _ => true
  | _ => false
def eGet (f1 f2 : E) : E := fun ρ => f1 ρ >>= fun d => if isDic d = true then f2 ρ >>= fun k => ofO (gGet d k) else .bad
def eGet2 (f1 f2 f3 : E) : E := fun ρ => f1 ρ >>= fun d => if isDic d = true then f2 ρ >>= fun k => f3 ρ >>= fun x => ofO ((lookD d k).map fun o => o.getD x) else .bad
theorem isDic_at {K : PySem.W.Frag} {A : Addr → Prop} {H : Hp} {d : PV} {v : V} (h : isDic d = true) (r : RepI K A H d v) : ∃ a, v = .ref a ∧ IsD H a := by
  cases d <;> simp only [isDic, reduceCtorEq] at h
  · obtain ⟨a, ks, rfl, hr, _⟩ := r; exact ⟨a, rfl, .inl ⟨_, hr⟩⟩
  · obtain ⟨a, ks, rfl, hr, _⟩ := r; exact ⟨a, rfl, .inr ⟨_, hr⟩⟩
theorem ej_get {apos cpos : Pos} (hu : Hu X) (h1 : EJ X C W .I o f1) (h2 : EJ X C W m2 e f2)
    (hbase : attributeBase o "get" X.env (eval o X.env) = eval o X.env := by rfl)
    (hfew : ((backTo cpos (starEach [e] X.env)).all (fun x => !x.1) && (backToKw cpos (keywordEach [] X.env)).all (fun x => x.1.isSome) && decide (([e] : List Expr).length + ([] : List Keyword).length + (if ([] : List Keyword).isEmpty then 0 else 1) < 30)) = true := by rfl)
    (hline : (apos.endLine == cpos.line) = true := by rfl) (htr : backTo cpos (starEach [e] X.env) = [(false, eval e X.env)] := by rfl) :
    EJ X C W .E (.Call (.Attribute o "get" apos) [e] [] cpos) (eGet f1 f2) :=
  pe_weak (pe_dget1 hu.u1 h1 h2 ⟨hbase, hfew, hline, htr⟩) fun σ H Q ⟨ρ, fp, eo, q⟩ => by
    refine ⟨ρ, fp, eo, (Out.bind q).mono (fun d q1 v H1 s1 r1 => ?_) fun _ _ q => q⟩
    split at q1
    · rename_i hd
      obtain ⟨a, rfl, hD⟩ := isDic_at hd r1
      refine ⟨a, rfl, hD, ρ, fp, eo.same s1, (Out.bind q1).mono (fun k q2 u H2 s2 r2 => ?_) fun _ _ q => XQ.later s1 q⟩
      obtain ⟨z, hz, hQ⟩ := Out.ofO q2
      obtain ⟨oo, ho, rfl⟩ := Option.map_eq_some_iff.mp hz
      obtain ⟨a', ea, _, h⟩ := dget_of ho (RepM.same (m := .I) s2 r1) (RepM.toB r2)
      cases ea
      rcases h with ⟨rfl, g⟩ | ⟨p, w, rfl, g, r⟩
      · exact ⟨none, g, hQ _ H2 (s1.trans s2) rfl⟩
      · exact ⟨some w, g, hQ _ H2 (s1.trans s2) r⟩
    · exact q1.elim
theorem ej_get2 {apos cpos : Pos} (hu : Hu X) (h1 : EJ X C W .I o f1) (h2 : EJ X C W m2 e f2) (h3 : EJ X C W .E e3 f3)
    (hbase : attributeBase o "get" X.env (eval o X.env) = eval o X.env := by rfl)
    (hfew : ((backTo cpos (starEach [e, e3] X.env)).all (fun x => !x.1) && (backToKw cpos (keywordEach [] X.env)).all (fun x => x.1.isSome) && decide (([e, e3] : List Expr).length + ([] : List Keyword).length + (if ([] : List Keyword).isEmpty then 0 else 1) < 30)) = true := by rfl)
    (hline : (apos.endLine == cpos.line) = true := by rfl) (htr : backTo cpos (starEach [e, e3] X.env) = [(false, eval e X.env), (false, eval e3 X.env)] := by rfl) :
    EJ X C W .E (.Call (.Attribute o "get" apos) [e, e3] [] cpos) (eGet2 f1 f2 f3) :=
  pe_weak (pe_dget2 hu.u1 h1 h2 h3 ⟨hbase, hfew, hline, htr⟩) fun σ H Q ⟨ρ, fp, eo, q⟩ => by
    refine ⟨ρ, fp, eo, (Out.bind q).mono (fun d q1 v H1 s1 r1 => ?_) fun _ _ q => q⟩
    split at q1
    · rename_i hd
      obtain ⟨a, rfl, hD⟩ := isDic_at hd r1
      refine ⟨a, rfl, hD, ρ, fp, eo.same s1, (Out.bind q1).mono (fun k q2 u H2 s2 r2 => ?_) fun _ _ q => XQ.later s1 q⟩
      refine ⟨ρ, fp, eo.same (s1.trans s2), (Out.bind q2).mono (fun x q3 u3 H3 s3 r3 => ?_) fun _ _ q => XQ.later (s1.trans s2) q⟩
      obtain ⟨z, hz, hQ⟩ := Out.ofO q3
      obtain ⟨oo, ho, rfl⟩ := Option.map_eq_some_iff.mp hz
      obtain ⟨a', ea, _, h⟩ := dget_of ho (RepM.same (m := .I) (s2.trans s3) r1) (Rep.same s3 (RepM.toB r2))
      cases ea
      rcases h with ⟨rfl, g⟩ | ⟨p, w, rfl, g, r⟩
      · exact ⟨none, g, hQ _ H3 (s1.trans (s2.trans s3)) r3⟩
      · exact ⟨some w, g, hQ _ H3 (s1.trans (s2.trans s3)) r⟩
    · exact q1.elim
end
section
variable (ρ : Env) (i : Nat) (f f1 f2 f3 : E) (px : Px) (fo : O) (π : List Nat)
@[simp] theorem m_sBad : sBad ρ = .bad := (rfl)
@[simp] theorem m_lRange3 : lRange3 f1 f2 f3 ρ = f1 ρ >>= fun x => f2 ρ >>= fun y => f3 ρ >>= fun z => intOf x >>= fun i => intOf y >>= fun j => stepR i j z := (rfl)
@[simp] theorem stepR_m1 (i j : Int) : stepR i j (.int (-1)) = downR i j := (rfl)
@[simp] theorem m_eGet : eGet f1 f2 ρ = f1 ρ >>= fun d => if isDic d = true then f2 ρ >>= fun k => ofO (gGet d k) else .bad := (rfl)
@[simp] theorem m_eGet2 : eGet2 f1 f2 f3 ρ = f1 ρ >>= fun d => if isDic d = true then f2 ρ >>= fun k => f3 ρ >>= fun x => ofO ((lookD d k).map fun o => o.getD x) else .bad := (rfl)
@[simp] theorem isDic_dic (kvs : List (K1 × PV)) : isDic (.dic kvs) = true := (rfl)
@[simp] theorem lookD_str (kvs : List (K1 × PV)) (x : Tx) : lookD (.dic kvs) (.str x) = some (lookA kvs (.inr x)) := (rfl)
@[simp] theorem lookD_int (kvs : List (K1 × PV)) (x : Int) : lookD (.dic kvs) (.int x) = some (lookA kvs (.inl x)) := (rfl)
@[simp] theorem gIsB_bl (a b : Bool) : gIsB (.bl a) (.bl b) = some (decide (a = b)) := (rfl)
@[simp] theorem gNotB_bl (a b : Bool) : gNotB (.bl a) (.bl b) = some (!decide (a = b)) := (rfl)
@[simp] theorem gSum_ints (xs : List Int) : gSum (.lst (xs.map .int)) = some (.int xs.sum) := by simp [gSum]
@[simp] theorem gMax2_ii (i j : Int) : gMax2 (.int i) (.int j) = some (.int (max i j)) := (rfl)
@[simp] theorem gMin2_ii (i j : Int) : gMin2 (.int i) (.int j) = some (.int (min i j)) := (rfl)
@[simp] theorem m_sAppP : sAppP i px f ρ = withR (px ρ) ρ fun π => if isLN (nodeOf i ρ π) = true then withR (f ρ) ρ fun p => putT i ρ π ((nodeOf i ρ π).bind (appN p)) else .bad := (rfl)
@[simp] theorem m_sAppPO : sAppPO i px fo ρ = withR (px ρ) ρ fun π => if isLN (nodeOf i ρ π) = true then withR (fo ρ) ρ fun c => putT i ρ π ((nodeOf i ρ π).bind (appNO c)) else .bad := (rfl)
@[simp] theorem m_sExtP : sExtP i px f ρ = withR (px ρ) ρ fun π => if isLN (nodeOf i ρ π) = true then withR (f ρ) ρ fun p => putT i ρ π ((nodeOf i ρ π).bind (extN p)) else .bad := (rfl)
@[simp] theorem m_sClrP : sClrP i px ρ = withR (px ρ) ρ fun π => putT i ρ π ((nodeOf i ρ π).bind clrN) := (rfl)
@[simp] theorem m_sPutP : sPutP i px f1 f2 ρ = withR (f2 ρ) ρ fun v => withR (px ρ) ρ fun π => withR (f1 ρ) ρ fun k => putT i ρ π ((nodeOf i ρ π).bind (putN k v)) := (rfl)
@[simp] theorem m_sPutPO : sPutPO i px f1 fo ρ = withR (fo ρ) ρ fun c => withR (px ρ) ρ fun π => withR (f1 ρ) ρ fun k => putT i ρ π ((nodeOf i ρ π).bind (putNO k c)) := (rfl)
@[simp] theorem m_pxName : pxName i ρ = ofO ((ownT ρ[i]?).map fun _ => []) := (rfl)
@[simp] theorem m_pxIx : pxIx i px f ρ = px ρ >>= fun π => f ρ >>= fun k => ofO ((nodeOf i ρ π).bind fun n => (kidIdx n k).map fun j => π ++ [j]) := (rfl)
@[simp] theorem m_ePth (m : Mode) : ePth m i px ρ = px ρ >>= fun π => ofO ((nodeOf i ρ π).bind (ndM m)) := (rfl)
@[simp] theorem ownT_own (t : OT) : ownT (some (.own t)) = some t := (rfl)
@[simp] theorem m_nodeOf : nodeOf i ρ π = (ownT ρ[i]?).bind fun t => t.at π := (rfl)
@[simp] theorem at_nil (t : OT) : t.at [] = some t.core := (rfl)
@[simp] theorem put_nil (t n : OT) : t.put [] n = t.reP n := (rfl)
@[simp] theorem core_fz (p : PV) : (OT.fz p).core = .fz p := (rfl)
@[simp] theorem reP_fz (p : PV) (n : OT) : (OT.fz p).reP n = n := (rfl)
@[simp] theorem core_l (p : List PV) : (OT.l p).core = .l p := (rfl)
@[simp] theorem reP_l (p : List PV) (n : OT) : (OT.l p).reP n = n := (rfl)
@[simp] theorem core_d (p : List (K1 × PV)) : (OT.d p).core = .d p := (rfl)
@[simp] theorem reP_d (p : List (K1 × PV)) (n : OT) : (OT.d p).reP n = n := (rfl)
@[simp] theorem core_dt (p : List (List K1 × PV)) : (OT.dt p).core = .dt p := (rfl)
@[simp] theorem reP_dt (p : List (List K1 × PV)) (n : OT) : (OT.dt p).reP n = n := (rfl)
@[simp] theorem core_ins (c : String) (p : List (String × PV)) : (OT.ins c p).core = .ins c p := (rfl)
@[simp] theorem reP_ins (c : String) (p : List (String × PV)) (n : OT) : (OT.ins c p).reP n = n := (rfl)
@[simp] theorem core_T (p : List OT) : (OT.T p).core = .T p := (rfl)
@[simp] theorem reP_T (p : List OT) (n : OT) : (OT.T p).reP n = n := (rfl)
@[simp] theorem core_L (p : List OT) : (OT.L p).core = .L p := (rfl)
@[simp] theorem reP_L (p : List OT) (n : OT) : (OT.L p).reP n = n := (rfl)
@[simp] theorem core_D (p : List (K1 × OT)) : (OT.D p).core = .D p := (rfl)
@[simp] theorem reP_D (p : List (K1 × OT)) (n : OT) : (OT.D p).reP n = n := (rfl)
@[simp] theorem core_I (c : String) (p : List (String × OT)) : (OT.I c p).core = .I c p := (rfl)
@[simp] theorem reP_I (c : String) (p : List (String × OT)) (n : OT) : (OT.I c p).reP n = n := (rfl)
@[simp] theorem core_P (a : Addr) (t : OT) : (OT.P a t).core = t.core := (rfl)
@[simp] theorem reP_P (a : Addr) (t n : OT) : (OT.P a t).reP n = .P a (t.reP n) := (rfl)
end
end Fz
end
section
/-! Fya: comprehensions of own things: lists of lists, dicts. -/
namespace Fz
open PySem PySem.Spec PyProof.Rows L2
section
variable {X : Cx} {C : Addr → Prop} {W : WX} {e e1 e2 e3 tg iter : Expr} {pos p2 pn : Pos} {m m1 m2 m3 : Mode} {f f1 f2 f3 : E} {fo : O}
theorem EnvOk.blockS {K : PySem.W.Frag} {ρ : Env} {σ : L2.St} {H H' : Hp} {fp : Fp} {vs : List Nat} {S : Addr → Prop} (eo : EnvOk K C ρ σ H fp) (hs : shadowOk ρ vs = true) (hD : ∀ a, S a → H a = none) (keep : ∀ a o, H a = some o → H' a = some o) (hD' : ∀ a, S a → H' a ≠ none) :
    EnvOk K (fun a => C a ∧ ¬ S a) (wipeE ρ vs) (wipe σ vs) H' fp where
  len := by rw [wipeE_len, wipe_length]; exact eo.len
  slot := fun i s h => by
    rcases wipeE_get ρ σ h with ⟨rfl, hi⟩ | ⟨hi, h2, h3⟩
    · have := (List.all_eq_true.mp hs) i hi
      have hi2 : i < ρ.length := by
        have := (List.getElem?_eq_some_iff.mp h).1
        rwa [wipeE_len] at this
      have e : ρ[i]? = some ρ[i] := List.getElem?_eq_getElem hi2
      have sl := eo.slot i _ e
      rw [e] at this
      revert sl this
      cases ρ[i] with
      | u => intro _ h; exact h
      | val p => intro _ h; exact h.1
      | bor p => intro _ h; exact h.1
      | own t => intro h _; cases h
    · have sl := eo.slot i _ h2
      rw [h3]
      have c : Carry (Am C fp) (Am (fun a => C a ∧ ¬ S a) fp) H H' := Carry.mk' (fun a o q e => ⟨⟨q.1, fun z => by rw [hD a z] at e; cases e⟩, q.2⟩) (fun a o _ e => keep a o e) (fun a xs e => keep a _ e) fun a o u e => keep a _ e
      have cB : Carry (fun a => ¬ InF fp a) (fun a => ¬ InF fp a) H H' := Carry.mk' (fun a o q e => q) (fun a o _ e => keep a o e) (fun a xs e => keep a _ e) fun a o u e => keep a _ e
      revert sl
      cases s with
      | u => exact id
      | val p => rintro ⟨f, v, hv, r⟩; exact ⟨f, v, hv, Rep.carry c r⟩
      | bor p => rintro ⟨f, v, hv, r⟩; exact ⟨f, v, hv, Rep.carry cB r⟩
      | own t => rintro ⟨v, hv, r⟩; exact ⟨v, hv, r.carry c fun a _ o q => keep a o q⟩
  out := fun i hi => eo.out i (by rwa [wipeE_len] at hi)
  inj := eo.inj
  nod := eo.nod
  cap := fun a h => ⟨eo.cap a h, fun z => by obtain ⟨o, ho, _⟩ := eo.live h; rw [hD a z] at ho; cases ho⟩
  new := fun a h => ⟨eo.new a (by
    cases z : H a with
    | none => rfl
    | some o => rw [keep a o z] at h; cases h), fun z => hD' a z h⟩
def uO (K : PySem.W.Frag) (f : O) : TE := fun σ H Q => ∃ D, tO K D W0 f σ H Q
theorem uO_ok (h : ∀ D, OJ X D W0 e fo) : PE X e (uO X.K fo) := ⟨fun pins s σ H Q I ⟨D, q⟩ => (h D).run pins s σ H Q I q⟩
def uB (K : PySem.W.Frag) (f : E) : TE := fun σ H Q => ∃ D, tE K D W0 .B f σ H Q
theorem uB_ok (h : ∀ D, EJ X D W0 .B e f) : PE X e (uB X.K f) := ⟨fun pins s σ H Q I ⟨D, q⟩ => (h D).run pins s σ H Q I q⟩
end
/-! lists of own things -/
def otR : Res OT → Option (Option OT)
  | .ok y => some (some y)
  | _ => none
def otT (el : O) (ρ : Env) : Res Bool → Option (Option OT)
  | .ok true => otR (el ρ)
  | .ok false => some none
  | _ => none
def turnO (g : G) (t : T) (el : O) (ρ : Env) (p : PV) : Option (Option OT) := match g p ρ with
  | none => none
  | some ρ1 => otT el ρ1 (t ρ1)
def loopO (g : G) (t : T) (el : O) (ρ : Env) : List PV → Option (List OT)
  | [] => some []
  | p :: ps => (turnO g t el ρ p).bind fun o => (loopO g t el ρ ps).map fun ys => match o with
    | some y => y :: ys
    | none => ys
def fitsO (ps : List OT) : Res OT := if ps.length ≤ sizeLine then .ok (.L ps) else .bad
def oCompO (l : L) (vs : List Nat) (g : G) (t : T) (el : O) : O := fun ρ => if shadowOk ρ vs = true then l ρ >>= fun ps => ofO (loopO g t el (wipeE ρ vs) ps) >>= fitsO else .bad
/-! dicts of own things -/
def dtR (k : Res PV) (y : Res OT) : Option (Option (K1 × OT)) := match k, y with
  | .ok p, .ok y => (keyOf p).map fun k => some (k, y)
  | _, _ => none
def dtT (ek : E) (el : O) (ρ : Env) : Res Bool → Option (Option (K1 × OT))
  | .ok true => dtR (ek ρ) (el ρ)
  | .ok false => some none
  | _ => none
def turnD (g : G) (t : T) (ek : E) (el : O) (ρ : Env) (p : PV) : Option (Option (K1 × OT)) := match g p ρ with
  | none => none
  | some ρ1 => dtT ek el ρ1 (t ρ1)
def loopD (g : G) (t : T) (ek : E) (el : O) (ρ : Env) : List PV → List (K1 × OT) → Option (List (K1 × OT))
  | [], acc => some acc
  | p :: ps, acc => (turnD g t ek el ρ p).bind fun o => match o with
    | some q => if acc.length < sizeLine then loopD g t ek el ρ ps (putA acc q.1 q.2) else none
    | none => loopD g t ek el ρ ps acc
def oDCompO (l : L) (vs : List Nat) (g : G) (t : T) (ek : E) (el : O) : O := fun ρ => if shadowOk ρ vs = true then l ρ >>= fun ps => ofO (loopD g t ek el (wipeE ρ vs) ps []) >>= fun kvs => .ok (.D kvs) else .bad
def fzs : List (K1 × OT) → Option (List (K1 × PV))
  | [] => some []
  | (k, .fz p) :: r => (fzs r).map ((k, p) :: ·)
  | _ :: _ => none
def flatD : OT → Res OT
  | .D kvs => ofO ((fzs kvs).map .d)
  | _ => .bad
def oDComp (l : L) (vs : List Nat) (g : G) (t : T) (ek ev : E) : O := fun ρ => oDCompO l vs g t ek (oOfE ev) ρ >>= flatD
section
variable {X : Cx} {C : Addr → Prop} {W : WX} {e e1 e2 e3 tg iter : Expr} {pos p2 pn : Pos} {m m1 m2 m3 : Mode} {f f1 f2 f3 : E} {fo : O}
theorem fitsO_out {ps : List OT} {P : OT → Prop} {E' : XF} (h : Out (fitsO ps) P E') : ps.length ≤ sizeLine ∧ P (.L ps) := by
  unfold fitsO at h
  split at h
  · rename_i hl; exact ⟨hl, h⟩
  · exact h.elim
theorem comp_readO {K : PySem.W.Frag} {l : L} {vs : List Nat} {g : G} {t : T} {el : O} {σ : L2.St} {H : Hp} {Q : VK} (h : tO K C W (oCompO l vs g t el) σ H Q) : tLc (tI K C W relS l) (uG vs K g) (uT K t) (uO K el) vs σ H Q := by
  obtain ⟨ρ, fp, eo, o⟩ := h
  unfold oCompO at o
  split at o
  case isFalse => exact o.elim
  rename_i hs
  refine ⟨ρ, fp, eo, (Out.bind o).mono (fun items o1 J H1 s1 it => ?_) fun _ _ q => q⟩
  intro D hD
  obtain ⟨res, hres, o2⟩ := Out.ofO (Out.bind o1)
  obtain ⟨hfit, k⟩ := fitsO_out o2
  have k : KO K (Am C fp) H1 (.L res) Q := KO.later k s1
  have eo1 := eo.same s1
  refine ⟨fun i m H => m = items.length - i ∧ ∃ acc accV F rest, (∀ a o, a ≠ D → H1 a = some o → H a = some o) ∧ H D = some (.lst accV) ∧ OTReps K (fun a => Am C fp a ∧ a ≠ D ∧ a ∉ F) H acc accV F ∧ F.Nodup ∧ (∀ a ∈ F, H1 a = none ∧ a ≠ D) ∧ loopO g t el (wipeE ρ vs) (items.drop i) = some rest ∧ res = acc ++ rest,
    ⟨_, rfl, [], [], [], res, fun a o ha e => by rw [upd_ne ha]; exact e, upd_same, ⟨rfl, rfl⟩, List.nodup_nil, (fun _ h => nomatch h), hres, rfl⟩, ?_⟩
  rintro i m H2 ⟨rfl, acc, accV, F, rest, keep, hDD, ra, nF, fF, hr, he⟩
  have sm : Same H1 H2 := fun a o e => keep a o (fun z => by rw [z, hD] at e; cases e) e
  have cB : Carry (Am C fp) (Am (fun a => C a ∧ ¬ (a = D ∨ a ∈ F)) fp) H1 H2 := Carry.mk' (fun a o q e => ⟨⟨q.1, fun z => z.elim (fun z => by rw [z, hD] at e; cases e) fun z => by rw [(fF a z).1] at e; cases e⟩, q.2⟩) (fun a o _ e => sm a o e) (fun a xs e => sm a _ e) fun a o u e => sm a _ e
  obtain ⟨it1, it2⟩ := it H2 _ sm cB i
  by_cases hi : i < items.length
  · have hx : items[i]? = some items[i] := List.getElem?_eq_getElem hi
    obtain ⟨go, yl⟩ := it1 _ hx
    rw [List.drop_eq_getElem_cons hi] at hr
    simp only [loopO] at hr
    cases eT : turnO g t el (wipeE ρ vs) items[i] with
    | none => rw [eT] at hr; cases hr
    | some ot =>
      rw [eT] at hr
      cases eL : loopO g t el (wipeE ρ vs) (items.drop (i + 1)) with
      | none => rw [eL] at hr; cases hr
      | some rest' =>
        rw [eL] at hr
        refine .inr ⟨go, fun H' => ∃ acc accV F rest, (∀ a o, a ≠ D → H1 a = some o → H' a = some o) ∧ H' D = some (.lst accV) ∧ OTReps K (fun a => Am C fp a ∧ a ≠ D ∧ a ∉ F) H' acc accV F ∧ F.Nodup ∧ (∀ a ∈ F, H1 a = none ∧ a ≠ D) ∧ loopO g t el (wipeE ρ vs) (items.drop (i + 1)) = some rest ∧ res = acc ++ rest,
          fun H' z => ⟨items.length - (i + 1), by omega, rfl, z⟩, fun x H' hy => ?_⟩
        obtain ⟨s2, r⟩ := yl x H' hy
        unfold turnO at eT
        cases eg : g items[i] (wipeE ρ vs) with
        | none => rw [eg] at eT; cases eT
        | some ρ1 =>
          rw [eg] at eT
          simp only at eT
          have sm' : Same H1 H' := sm.trans s2
          have hD' : H' D = some (.lst accV) := s2 _ _ hDD
          have liveF : ∀ a, (a = D ∨ a ∈ F) → H' a ≠ none := fun a z => by
            rcases z with z | z
            · rw [z, hD']; simp
            · obtain ⟨o, ho, _⟩ := OTReps.live ra a z
              rw [s2 _ _ ho]; simp
          have eb : EnvOk K (fun a => C a ∧ ¬ (a = D ∨ a ∈ F)) (wipeE ρ vs) (wipe σ vs) H' fp := eo1.blockS (S := fun a => a = D ∨ a ∈ F) hs (fun a z => z.elim (fun z => z ▸ hD) fun z => (fF a z).1) sm' liveF
          refine ⟨_, wipeE ρ vs, fp, items[i], ρ1, eb, r, eg, fun σ3 fp3 eo3 g3 b3 p3 => ⟨(b3.wipe).trans (wipe_wipe σ vs), ?_⟩⟩
          have stay : ∀ H4, Same H' H4 → (∀ a o, a ≠ D → H1 a = some o → H4 a = some o) ∧ H4 D = some (.lst accV) ∧ OTReps K (fun a => Am C fp a ∧ a ≠ D ∧ a ∉ F) H4 acc accV F := fun H4 s4 =>
            ⟨fun a o _ e => s4 a o (sm' a o e), s4 _ _ hD', OTReps.carry (Carry.same (s2.trans s4) fun _ q => q) (fun a _ o q => (s2.trans s4) a o q) ra⟩
          have inF : ∀ a, InF fp a → InF fp3 a := fun a ⟨j, hj⟩ => by
            by_cases hv : j ∈ vs
            · have : fp j = [] := by
                by_cases hl : j < (wipeE ρ vs).length
                · have e := List.getElem?_eq_getElem hl
                  rcases wipeE_get ρ σ e with ⟨z, _⟩ | ⟨z, _⟩
                  · have := eb.slot j _ e; rw [z] at this; exact this
                  · exact (z hv).elim
                · exact eb.out j (Nat.le_of_not_lt hl)
              rw [this] at hj; cases hj
            · exact ⟨j, by rw [p3 j hv]; exact hj⟩
          cases et : t ρ1 with
          | exc c fs => rw [et] at eT; cases eT
          | bad => rw [et] at eT; cases eT
          | ok b =>
            rw [et] at eT
            refine ⟨_, ρ1, fp3, eo3, ?_⟩
            rw [et]
            intro H4 s4
            obtain ⟨k1, k2, k3⟩ := stay H4 s4
            cases b with
            | false =>
              cases eT
              rw [if_neg (by simp)]
              refine ⟨acc, accV, F, rest', k1, k2, k3, nF, fF, eL, ?_⟩
              simp only [Option.map_some, Option.bind_some, Option.some.injEq] at hr
              rw [he, ← hr]
            | true =>
              rw [if_pos rfl]
              simp only [otT] at eT
              cases ee : el ρ1 with
              | exc c fs => rw [ee] at eT; cases eT
              | bad => rw [ee] at eT; cases eT
              | ok y =>
                rw [ee] at eT
                cases eT
                simp only [Option.map_some, Option.bind_some, Option.some.injEq] at hr
                refine ⟨_, ρ1, fp3, eo3.same s4, ?_⟩
                rw [ee]
                intro v H5 Fn s5 nn fn rv
                obtain ⟨k1, k2, k3⟩ := stay H5 (s4.trans s5)
                have old : ∀ a o, H' a = some o → a ∉ Fn := fun a o q z => by have := fn a z; rw [s4 _ _ q] at this; cases this
                have nD : D ∉ Fn := old D _ hD'
                have ra' : OTReps K (fun a => Am C fp a ∧ a ≠ D ∧ a ∉ F) H' acc accV F := OTReps.carry (Carry.same s2 fun _ q => q) (fun a _ o q => s2 a o q) ra
                have dF : ∀ a ∈ F, a ∉ Fn := fun a ha => by
                  cases z : H' a with
                  | none => exact (liveF a (.inr ha) z).elim
                  | some o => exact old a o z
                have nt : ∀ a, a ≠ D → (upd H5 D (.lst (accV ++ [v]))) a = H5 a := fun a h => upd_ne h
                refine ⟨accV, k2, ?_, acc ++ [y], accV ++ [v], F ++ Fn, rest', fun a o ha e => by rw [upd_ne ha]; exact k1 a o ha e, upd_same, OTReps.snoc (OTRep.carry ?_ (fun a ha o q => by rw [nt a (fun z => nD (z ▸ ha))]; exact q) rv) (OTReps.carry ?_ (fun a ha o q => by rw [nt a (fF a ha).2]; exact (s4.trans s5) _ _ q) ra'), List.nodup_append.mpr ⟨nF, nn, fun a ha b hb z => dF a ha (z ▸ hb)⟩, fun a ha => ?_, eL, ?_⟩
                · rw [OTReps.get k3]
                  rw [he, ← hr] at hfit
                  simp only [List.length_append, List.length_cons] at hfit
                  omega
                · refine Carry.mk' (fun a o q _ => ⟨⟨q.1.1.1, fun z => q.1.2 (inF a z)⟩, fun z => q.1.1.2 (.inl z), fun z => ?_⟩) (fun a o q z => by rw [nt a (fun y => q.1.1.2 (.inl y))]; exact z) (fun a xs z => by rw [nt a (fun y => by rw [y, k2] at z; cases z)]; exact z) fun a o u z => by rw [nt a (fun y => by rw [y, k2] at z; cases z)]; exact z
                  rcases List.mem_append.mp z with z | z
                  · exact q.1.1.2 (.inr z)
                  · exact q.2 z
                · refine Carry.mk' (fun a o q z => ⟨q.1, q.2.1, fun y => (List.mem_append.mp y).elim q.2.2 (old a o z)⟩) (fun a o q z => by rw [nt a q.2.1]; exact (s4.trans s5) _ _ z) (fun a xs z => by rw [nt a (fun y => by rw [y, hD'] at z; cases z)]; exact (s4.trans s5) _ _ z) fun a o u z => by rw [nt a (fun y => by rw [y, hD'] at z; cases z)]; exact (s4.trans s5) _ _ z
                · rcases List.mem_append.mp ha with z | z
                  · exact fF a z
                  · refine ⟨?_, fun y => nD (y ▸ z)⟩
                    cases q : H1 a with
                    | none => rfl
                    | some o => exact (old a o (sm' _ _ q) z).elim
                · rw [he, ← hr]; simp
  · rw [List.drop_eq_nil_of_le (Nat.le_of_not_lt hi)] at hr
    cases hr
    rw [List.append_nil] at he
    subst he
    refine .inl ⟨it2 (Nat.le_of_not_lt hi), k _ _ (D :: F) sm (List.nodup_cons.mpr ⟨fun z => (fF D z).2 rfl, nF⟩) (fun a h => (List.mem_cons.mp h).elim (fun z => z ▸ hD) fun z => (fF a z).1) ⟨D, accV, F, rfl, rfl, hDD, OTReps.carry (Carry.refl fun a _ q _ => ⟨q.1, fun z => (List.mem_cons.mp z).elim q.2.1 q.2.2⟩) (fun _ _ _ q => q) ra⟩⟩
theorem dcomp_read {K : PySem.W.Frag} {l : L} {vs : List Nat} {g : G} {t : T} {ek : E} {el : O} {σ : L2.St} {H : Hp} {Q : VK} (h : tO K C W (oDCompO l vs g t ek el) σ H Q) : tDc (tI K C W relS l) (uG vs K g) (uT K t) (uB K ek) (uO K el) vs σ H Q := by
  obtain ⟨ρ, fp, eo, o⟩ := h
  unfold oDCompO at o
  split at o
  case isFalse => exact o.elim
  rename_i hs
  refine ⟨ρ, fp, eo, (Out.bind o).mono (fun items o1 J H1 s1 it => ?_) fun _ _ q => q⟩
  intro D hD
  obtain ⟨res, hres, o2⟩ := Out.ofO (Out.bind o1)
  have k : KO K (Am C fp) H1 (.D res) Q := KO.later o2 s1
  have eo1 := eo.same s1
  refine ⟨fun i m H => m = items.length - i ∧ ∃ acc accV F, (∀ a o, a ≠ D → H1 a = some o → H a = some o) ∧ H D = some (.dK accV) ∧ OTRepK K (fun a => Am C fp a ∧ a ≠ D ∧ a ∉ F) H acc accV F ∧ F.Nodup ∧ (∀ a ∈ F, H1 a = none ∧ a ≠ D) ∧ (acc.map Prod.fst).Nodup ∧ loopD g t ek el (wipeE ρ vs) (items.drop i) acc = some res,
    ⟨_, rfl, [], [], [], fun a o ha e => by rw [upd_ne ha]; exact e, upd_same, ⟨rfl, rfl⟩, List.nodup_nil, (fun _ h => nomatch h), List.nodup_nil, hres⟩, ?_⟩
  rintro i m H2 ⟨rfl, acc, accV, F, keep, hDD, ra, nF, fF, nk, hr⟩
  have sm : Same H1 H2 := fun a o e => keep a o (fun z => by rw [z, hD] at e; cases e) e
  have cB : Carry (Am C fp) (Am (fun a => C a ∧ ¬ (a = D ∨ a ∈ F)) fp) H1 H2 := Carry.mk' (fun a o q e => ⟨⟨q.1, fun z => z.elim (fun z => by rw [z, hD] at e; cases e) fun z => by rw [(fF a z).1] at e; cases e⟩, q.2⟩) (fun a o _ e => sm a o e) (fun a xs e => sm a _ e) fun a o u e => sm a _ e
  obtain ⟨it1, it2⟩ := it H2 _ sm cB i
  by_cases hi : i < items.length
  · have hx : items[i]? = some items[i] := List.getElem?_eq_getElem hi
    obtain ⟨go, yl⟩ := it1 _ hx
    rw [List.drop_eq_getElem_cons hi] at hr
    simp only [loopD] at hr
    cases eT : turnD g t ek el (wipeE ρ vs) items[i] with
    | none => rw [eT] at hr; cases hr
    | some ot =>
      rw [eT] at hr
      simp only [Option.bind_some] at hr
      refine .inr ⟨go, fun H' => ∃ acc accV F, (∀ a o, a ≠ D → H1 a = some o → H' a = some o) ∧ H' D = some (.dK accV) ∧ OTRepK K (fun a => Am C fp a ∧ a ≠ D ∧ a ∉ F) H' acc accV F ∧ F.Nodup ∧ (∀ a ∈ F, H1 a = none ∧ a ≠ D) ∧ (acc.map Prod.fst).Nodup ∧ loopD g t ek el (wipeE ρ vs) (items.drop (i + 1)) acc = some res,
        fun H' z => ⟨items.length - (i + 1), by omega, rfl, z⟩, fun x H' hy => ?_⟩
      obtain ⟨s2, r⟩ := yl x H' hy
      unfold turnD at eT
      cases eg : g items[i] (wipeE ρ vs) with
      | none => rw [eg] at eT; cases eT
      | some ρ1 =>
        rw [eg] at eT
        simp only at eT
        have sm' : Same H1 H' := sm.trans s2
        have hD' : H' D = some (.dK accV) := s2 _ _ hDD
        have liveF : ∀ a, (a = D ∨ a ∈ F) → H' a ≠ none := fun a z => by
          rcases z with z | z
          · rw [z, hD']; simp
          · obtain ⟨o, ho, _⟩ := OTRepK.live ra a z
            rw [s2 _ _ ho]; simp
        have eb : EnvOk K (fun a => C a ∧ ¬ (a = D ∨ a ∈ F)) (wipeE ρ vs) (wipe σ vs) H' fp := eo1.blockS (S := fun a => a = D ∨ a ∈ F) hs (fun a z => z.elim (fun z => z ▸ hD) fun z => (fF a z).1) sm' liveF
        refine ⟨_, wipeE ρ vs, fp, items[i], ρ1, eb, r, eg, fun σ3 fp3 eo3 g3 b3 p3 => ⟨(b3.wipe).trans (wipe_wipe σ vs), ?_⟩⟩
        have stay : ∀ H4, Same H' H4 → (∀ a o, a ≠ D → H1 a = some o → H4 a = some o) ∧ H4 D = some (.dK accV) ∧ OTRepK K (fun a => Am C fp a ∧ a ≠ D ∧ a ∉ F) H4 acc accV F := fun H4 s4 =>
          ⟨fun a o _ e => s4 a o (sm' a o e), s4 _ _ hD', OTRepK.carry (Carry.same (s2.trans s4) fun _ q => q) (fun a _ o q => (s2.trans s4) a o q) ra⟩
        have inF : ∀ a, InF fp a → InF fp3 a := fun a ⟨j, hj⟩ => by
          by_cases hv : j ∈ vs
          · have : fp j = [] := by
              by_cases hl : j < (wipeE ρ vs).length
              · have e := List.getElem?_eq_getElem hl
                rcases wipeE_get ρ σ e with ⟨z, _⟩ | ⟨z, _⟩
                · have := eb.slot j _ e; rw [z] at this; exact this
                · exact (z hv).elim
              · exact eb.out j (Nat.le_of_not_lt hl)
            rw [this] at hj; cases hj
          · exact ⟨j, by rw [p3 j hv]; exact hj⟩
        cases et : t ρ1 with
        | exc c fs => rw [et] at eT; cases eT
        | bad => rw [et] at eT; cases eT
        | ok b =>
          rw [et] at eT
          refine ⟨_, ρ1, fp3, eo3, ?_⟩
          rw [et]
          intro H4 s4
          obtain ⟨k1, k2, k3⟩ := stay H4 s4
          cases b with
          | false =>
            cases eT
            rw [if_neg (by simp)]
            exact ⟨acc, accV, F, k1, k2, k3, nF, fF, nk, hr⟩
          | true =>
            rw [if_pos rfl]
            simp only [dtT] at eT
            cases ek0 : ek ρ1 with
            | exc c fs => rw [ek0] at eT; cases eT
            | bad => rw [ek0] at eT; cases eT
            | ok pk =>
              cases ee : el ρ1 with
              | exc c fs => rw [ek0, ee] at eT; cases eT
              | bad => rw [ek0, ee] at eT; cases eT
              | ok y =>
                rw [ek0, ee] at eT
                obtain ⟨kk, hkk, eT⟩ := Option.map_eq_some_iff.mp eT
                subst eT
                simp only at hr
                split at hr
                case isFalse => cases hr
                rename_i hlen
                refine ⟨_, ρ1, fp3, eo3.same s4, ?_⟩
                rw [ek0]
                intro vk H4' s4' rk
                refine ⟨_, ρ1, fp3, eo3.same (s4.trans s4'), ?_⟩
                rw [ee]
                intro v H5 Fn s5 nn fn rv
                have s45 : Same H' H5 := s4.trans (s4'.trans s5)
                obtain ⟨k1, k2, k3⟩ := stay H5 s45
                have old : ∀ a o, H' a = some o → a ∉ Fn := fun a o q z => by have := fn a z; rw [(s4.trans s4') _ _ q] at this; cases this
                have nD : D ∉ Fn := old D _ hD'
                have ra' : OTRepK K (fun a => Am C fp a ∧ a ≠ D ∧ a ∉ F) H' acc accV F := OTRepK.carry (Carry.same s2 fun _ q => q) (fun a _ o q => s2 a o q) ra
                have dF : ∀ a ∈ Fn, a ∉ F := fun a hn ha => by
                  cases z : H' a with
                  | none => exact (liveF a (.inr ha) z).elim
                  | some o => exact old a o z hn
                obtain ⟨nk2, F2, sub2, nod2, cl⟩ := OTRepK.put (c := y) (w := v) kk nn nk ra'
                have nt : ∀ a, a ≠ D → (upd H5 D (.dK (putK accV (Fz.k1 kk) v))) a = H5 a := fun a h => upd_ne h
                have ev : vk = kV (Fz.k1 kk) := rep_key (RepM.toB (m := .B) rk) hkk
                refine ⟨accV, _, ev, k2, by rw [OTRepK.len k3]; exact hlen, putA acc kk y, _, F2, fun a o ha e => by rw [upd_ne ha]; exact k1 a o ha e, upd_same, cl _ _ ?_ (fun a ha o q => by rw [nt a (fF a ha).2]; exact s45 _ _ q) (OTRep.carry ?_ (fun a ha o q => by rw [nt a (fun z => nD (z ▸ ha))]; exact q) rv), nod2 nF dF, fun a ha => ?_, nk2, hr⟩
                · refine Carry.mk' (fun a o q z => ⟨q.1, q.2.1, fun y => (sub2 a y).elim q.2.2 (old a o z)⟩) (fun a o q z => by rw [nt a q.2.1]; exact s45 _ _ z) (fun a xs z => by rw [nt a (fun y => by rw [y, hD'] at z; cases z)]; exact s45 _ _ z) fun a o u z => by rw [nt a (fun y => by rw [y, hD'] at z; cases z)]; exact s45 _ _ z
                · refine Carry.mk' (fun a o q _ => ⟨⟨q.1.1.1, fun z => q.1.2 (inF a z)⟩, fun z => q.1.1.2 (.inl z), fun z => ?_⟩) (fun a o q z => by rw [nt a (fun y => q.1.1.2 (.inl y))]; exact z) (fun a xs z => by rw [nt a (fun y => by rw [y, k2] at z; cases z)]; exact z) fun a o u z => by rw [nt a (fun y => by rw [y, k2] at z; cases z)]; exact z
                  rcases sub2 a z with z | z
                  · exact q.1.1.2 (.inr z)
                  · exact q.2 z
                · rcases sub2 a ha with z | z
                  · exact fF a z
                  · refine ⟨?_, fun y => nD (y ▸ z)⟩
                    cases q : H1 a with
                    | none => rfl
                    | some o => exact (old a o (sm' _ _ q) z).elim
  · rw [List.drop_eq_nil_of_le (Nat.le_of_not_lt hi)] at hr
    cases hr
    refine .inl ⟨it2 (Nat.le_of_not_lt hi), k _ _ (D :: F) sm (List.nodup_cons.mpr ⟨fun z => (fF D z).2 rfl, nF⟩) (fun a h => (List.mem_cons.mp h).elim (fun z => z ▸ hD) fun z => (fF a z).1) ⟨nk, D, accV, F, rfl, rfl, hDD, OTRepK.carry (Carry.refl fun a _ q _ => ⟨q.1, fun z => (List.mem_cons.mp z).elim q.2.1 q.2.2⟩) (fun _ _ _ q => q) ra⟩⟩

theorem fzs_rep {K : PySem.W.Frag} {A : Addr → Prop} {H : Hp} : ∀ {kvs : List (K1 × OT)} {qs : List (K1 × PV)} {ks : List (Key × V)} {F : List Addr}, fzs kvs = some qs → OTRepK K A H kvs ks F → F = [] ∧ RepK K A H qs ks
  | [], _, _, _, e, h => by cases e; rw [h.1, h.2]; exact ⟨rfl, rfl⟩
  | (k, t) :: kvs, qs, _, _, e, h => by
    obtain ⟨x, r, F1, F2, rfl, rfl, h1, h2⟩ := h
    cases t with
    | fz p =>
      obtain ⟨q', e', rfl⟩ := Option.map_eq_some_iff.mp e
      obtain ⟨e1, r1⟩ := h1
      obtain ⟨e2, r2⟩ := fzs_rep e' h2
      rw [e1, e2]
      exact ⟨rfl, x, r, rfl, r1, r2⟩
    | _ => cases e
theorem dcomp_readE {K : PySem.W.Frag} {l : L} {vs : List Nat} {g : G} {t : T} {ek ev : E} {σ : L2.St} {H : Hp} {Q : VK} (h : tO K C W (oDComp l vs g t ek ev) σ H Q) : tO K C W (oDCompO l vs g t ek (oOfE ev)) σ H Q := by
  obtain ⟨ρ, fp, eo, o⟩ := h
  refine ⟨ρ, fp, eo, (Out.bind o).mono (fun d o1 v H' Fn s n f r => ?_) fun _ _ q => q⟩
  cases d with
  | D kvs =>
    obtain ⟨qs, hq, q⟩ := Out.ofO (show Out (ofO ((fzs kvs).map OT.d)) _ _ from o1)
    obtain ⟨qs', hq', rfl⟩ := Option.map_eq_some_iff.mp hq
    obtain ⟨_, a, xs, F', rfl, rfl, ha, rr⟩ := r
    obtain ⟨rfl, r'⟩ := fzs_rep hq' rr
    exact q _ H' [a] s n f ⟨a, xs, rfl, rfl, ha, r'⟩
  | _ => exact o1.elim
/-- [el for ..], el own things -/
theorem oj_compO {elt : Expr} {ifs : List Expr} {scope : Scope} {own : List (Str × Nat)} {l : L} {g : G} {t : T} {el : O} (hc : X.calm = true) (hN : X.N.Nodup) (hi : IJ X C W relS tg iter l) (ok : BlkOk X.N X.env.scope scope own)
    (hg : ∀ (D : Addr → Prop) (s : Shared) (H : Hp) (c : Addr) (cl : List (Str × Addr)) (fp : List Addr), GJ (X.blk s H scope (compEnvC scope cl c X.env) fp) D (own.map (·.2)) tg g)
    (ht : ∀ (D : Addr → Prop) (s : Shared) (H : Hp) (c : Addr) (cl : List (Str × Addr)) (fp : List Addr), TsJ (X.blk s H scope (compEnvC scope cl c X.env) fp) D W0 ifs t)
    (he : ∀ (D : Addr → Prop) (s : Shared) (H : Hp) (c : Addr) (cl : List (Str × Addr)) (fp : List Addr), OJ (X.blk s H scope (compEnvC scope cl c X.env) fp) D W0 elt el) (hs : ∀ x, foldedSetIterable iter X.env x = pure x := by intro _; rfl) :
    OJ X C W (.ListComp elt [⟨tg, iter, ifs, 0⟩] scope pos) (oCompO l (own.map (·.2)) g t el) :=
  pe_weak (pe_lc hc hN hi ok (fun s H c cl fp => uG_ok fun D => hg D s H c cl fp) (fun s H c cl fp => uT_ok fun D => ht D s H c cl fp) (fun s H c cl fp => uO_ok fun D => he D s H c cl fp) hs) fun σ H Q h => comp_readO h
theorem sj_asgLcO {i : Nat} {y : Str} {py spos : Pos} {elt : Expr} {ifs : List Expr} {scope : Scope} {own : List (Str × Nat)} {l : L} {g : G} {t : T} {el : O} (hc : X.calm = true) (hN : X.N.Nodup) (hy : X.N[i]? = some y) (hyl : X.env.scope.names.lookup y = some .local)
    (hsw : swapsWith (.ListComp elt [⟨tg, iter, ifs, 0⟩] scope pos) (some (.Name y py)) spos.line X.env = pure true) (hi : IJ X C W relS tg iter l) (ok : BlkOk X.N X.env.scope scope own)
    (hg : ∀ (D : Addr → Prop) (s : Shared) (H : Hp) (c : Addr) (cl : List (Str × Addr)) (fp : List Addr), GJ (X.blk s H scope (compEnvC scope cl c X.env) fp) D (own.map (·.2)) tg g)
    (ht : ∀ (D : Addr → Prop) (s : Shared) (H : Hp) (c : Addr) (cl : List (Str × Addr)) (fp : List Addr), TsJ (X.blk s H scope (compEnvC scope cl c X.env) fp) D W0 ifs t)
    (he : ∀ (D : Addr → Prop) (s : Shared) (H : Hp) (c : Addr) (cl : List (Str × Addr)) (fp : List Addr), OJ (X.blk s H scope (compEnvC scope cl c X.env) fp) D W0 elt el) (hs : ∀ x, foldedSetIterable iter X.env x = pure x := by intro _; rfl) :
    SJ X C W (.Assign [.Name y py] (.ListComp elt [⟨tg, iter, ifs, 0⟩] scope pos) spos) (sAsg i (oCompO l (own.map (·.2)) g t el)) :=
  ps_weak (ps_setLc hc hN hy hyl hsw hi ok (fun s H c cl fp => uG_ok fun D => hg D s H c cl fp) (fun s H c cl fp => uT_ok fun D => ht D s H c cl fp) (fun s H c cl fp => uO_ok fun D => he D s H c cl fp) hs) fun D σ H h => comp_readO (asg_read h)
/-- {k: v for ..} -/
theorem oj_dcompO {kx vx : Expr} {ifs : List Expr} {scope : Scope} {own : List (Str × Nat)} {l : L} {g : G} {t : T} {ek : E} {el : O} (hc : X.calm = true) (hN : X.N.Nodup) (hi : IJ X C W relS tg iter l) (ok : BlkOk X.N X.env.scope scope own)
    (hg : ∀ (D : Addr → Prop) (s : Shared) (H : Hp) (c : Addr) (cl : List (Str × Addr)) (fp : List Addr), GJ (X.blk s H scope (compEnvC scope cl c X.env) fp) D (own.map (·.2)) tg g)
    (ht : ∀ (D : Addr → Prop) (s : Shared) (H : Hp) (c : Addr) (cl : List (Str × Addr)) (fp : List Addr), TsJ (X.blk s H scope (compEnvC scope cl c X.env) fp) D W0 ifs t)
    (hk : ∀ (D : Addr → Prop) (s : Shared) (H : Hp) (c : Addr) (cl : List (Str × Addr)) (fp : List Addr), EJ (X.blk s H scope (compEnvC scope cl c X.env) fp) D W0 .B kx ek)
    (he : ∀ (D : Addr → Prop) (s : Shared) (H : Hp) (c : Addr) (cl : List (Str × Addr)) (fp : List Addr), OJ (X.blk s H scope (compEnvC scope cl c X.env) fp) D W0 vx el) (hs : ∀ x, foldedSetIterable iter X.env x = pure x := by intro _; rfl) :
    OJ X C W (.DictComp kx vx [⟨tg, iter, ifs, 0⟩] scope pos) (oDCompO l (own.map (·.2)) g t ek el) :=
  pe_weak (pe_dc hc hN hi ok (fun s H c cl fp => uG_ok fun D => hg D s H c cl fp) (fun s H c cl fp => uT_ok fun D => ht D s H c cl fp) (fun s H c cl fp => uB_ok fun D => hk D s H c cl fp) (fun s H c cl fp => uO_ok fun D => he D s H c cl fp) hs) fun σ H Q h => dcomp_read h
theorem oj_dcomp {kx vx : Expr} {ifs : List Expr} {scope : Scope} {own : List (Str × Nat)} {l : L} {g : G} {t : T} {ek ev : E} (hc : X.calm = true) (hN : X.N.Nodup) (hi : IJ X C W relS tg iter l) (ok : BlkOk X.N X.env.scope scope own)
    (hg : ∀ (D : Addr → Prop) (s : Shared) (H : Hp) (c : Addr) (cl : List (Str × Addr)) (fp : List Addr), GJ (X.blk s H scope (compEnvC scope cl c X.env) fp) D (own.map (·.2)) tg g)
    (ht : ∀ (D : Addr → Prop) (s : Shared) (H : Hp) (c : Addr) (cl : List (Str × Addr)) (fp : List Addr), TsJ (X.blk s H scope (compEnvC scope cl c X.env) fp) D W0 ifs t)
    (hk : ∀ (D : Addr → Prop) (s : Shared) (H : Hp) (c : Addr) (cl : List (Str × Addr)) (fp : List Addr), EJ (X.blk s H scope (compEnvC scope cl c X.env) fp) D W0 .B kx ek)
    (he : ∀ (D : Addr → Prop) (s : Shared) (H : Hp) (c : Addr) (cl : List (Str × Addr)) (fp : List Addr), EJ (X.blk s H scope (compEnvC scope cl c X.env) fp) D W0 .E vx ev) (hs : ∀ x, foldedSetIterable iter X.env x = pure x := by intro _; rfl) :
    OJ X C W (.DictComp kx vx [⟨tg, iter, ifs, 0⟩] scope pos) (oDComp l (own.map (·.2)) g t ek ev) :=
  pe_weak (oj_dcompO hc hN hi ok hg ht hk (fun D s H c cl fp => oj_E (he D s H c cl fp)) hs) fun σ H Q h => dcomp_readE h
/-- y = {..}, on one line, y a local -/
theorem ps_setDc {i : Nat} {y : Str} {py : Pos} {kx vx tg iter : Expr} {ifs : List Expr} {scope : Scope} {own : List (Str × Nat)} {pos spos : Pos} {wi : TI} {g : TG} {tt : TT} {tk tv : TE} (hc : X.calm = true) (hN : X.N.Nodup) (hy : X.N[i]? = some y) (hyl : X.env.scope.names.lookup y = some .local)
    (hsw : swapsWith (.DictComp kx vx [⟨tg, iter, ifs, 0⟩] scope pos) (some (.Name y py)) spos.line X.env = pure true) (hi : PI X tg iter wi) (ok : BlkOk X.N X.env.scope scope own)
    (hg : ∀ (s : Shared) (H : Hp) (C : Addr) (cl : List (Str × Addr)) (fp : List Addr), PG (X.blk s H scope (compEnvC scope cl C X.env) fp) tg g) (ht : ∀ (s : Shared) (H : Hp) (C : Addr) (cl : List (Str × Addr)) (fp : List Addr), PTs (X.blk s H scope (compEnvC scope cl C X.env) fp) ifs tt)
    (hk : ∀ (s : Shared) (H : Hp) (C : Addr) (cl : List (Str × Addr)) (fp : List Addr), PE (X.blk s H scope (compEnvC scope cl C X.env) fp) kx tk)
    (he : ∀ (s : Shared) (H : Hp) (C : Addr) (cl : List (Str × Addr)) (fp : List Addr), PE (X.blk s H scope (compEnvC scope cl C X.env) fp) vx tv) (hs : ∀ x, foldedSetIterable iter X.env x = pure x := by intro _; rfl) :
    PS X (.Assign [.Name y py] (.DictComp kx vx [⟨tg, iter, ifs, 0⟩] scope pos) spos) (tAsg (tDc wi g tt tk tv (own.map (·.2))) (gName i)) := by
  refine ⟨fun pins s σ H D I h => ?_⟩
  rw [exec_Assign_Name_used _ _ _ _ hsw]
  refine wpAny_bind (wpAny_standAt (wpAny_bind ?_))
  show wpAny _ X.A (do let _ ← comprehension (.DictComp kx vx [⟨tg, iter, ifs, 0⟩] scope pos) scope X.env (firstIterPos [⟨tg, iter, ifs, 0⟩] pos) (newDict) false (eval iter X.env) (some (assign (.Name y py) X.env))) _ _ s
  have h : tDc wi g tt tk tv (own.map (·.2)) σ H (fun x H1 => gName i x σ H1 D.nx) := h
  refine wpAny_bind (thn (dc_core (Qf := fun _ s' => SP X pins D .next s') hc hN I hi ok hg ht hk he hs h fun L C s' m H' I' q hn f => ?_) fun _ s' hq => wpAny_pure (wpAny_pure hq))
  show wpAny _ _ (assign (.Name y py) X.env (.ref L)) _ _ _
  refine wpAny_assign_Name (store_ok2 (v := V.ref L) I' hN hy (.inl hyl) rfl (fun s2 I2 ⟨a, sb, ha⟩ => ?_) (.inr hyl))
  obtain ⟨f0, f1, f2, f3, f4, f5⟩ := f
  have haC : C ≠ a := by
    rcases ha with z | z
    · rw [z]; exact f1
    · exact fun e => f4 y a z e.symm
  refine ⟨m, hn.sameBut sb haC, fun h3 sb3 => ?_⟩
  exact ⟨_, H', I2.turned (t' := s2.toks) (fun b o hb e => (sb3.2 b hb).trans e) f0 f1 f3 f4 f5, q⟩
end
end Fz
namespace Fz
open PySem PySem.Spec PyProof.Rows L2
section
variable {X : Cx} {C : Addr → Prop} {W : WX} {tg iter : Expr}
theorem sw_trueD {kx vx : Expr} {gs : List Comprehension} {scope : Scope} {pos py : Pos} {y : Str} {l : Nat} {env : PySem.Env} (hk : env.scope.kind = .function) (hy : env.scope.names.lookup y = some .local) (hl : (py.line == pos.line) = true)
    (ha : (scope.names.any fun (n, k) => n == y && (k == .local || k == .cell)) = false) : swapsWith (.DictComp kx vx gs scope pos) (some (.Name y py)) l env = pure true := by
  have ky : env.kindOf y = some .local := hy
  have hb : env.blockKind = .function := by unfold PySem.Env.blockKind; rw [hk]; rfl
  unfold swapsWith
  simp only [hb, ky, ha, Expr.pos, hl]
  rfl
theorem sj_asgDcO {i : Nat} {y : Str} {py pos spos : Pos} {kx vx : Expr} {ifs : List Expr} {scope : Scope} {own : List (Str × Nat)} {l : L} {g : G} {t : T} {ek : E} {el : O} (hc : X.calm = true) (hN : X.N.Nodup) (hy : X.N[i]? = some y) (hyl : X.env.scope.names.lookup y = some .local)
    (hsw : swapsWith (.DictComp kx vx [⟨tg, iter, ifs, 0⟩] scope pos) (some (.Name y py)) spos.line X.env = pure true) (hi : IJ X C W relS tg iter l) (ok : BlkOk X.N X.env.scope scope own)
    (hg : ∀ (D : Addr → Prop) (s : Shared) (H : Hp) (c : Addr) (cl : List (Str × Addr)) (fp : List Addr), GJ (X.blk s H scope (compEnvC scope cl c X.env) fp) D (own.map (·.2)) tg g)
    (ht : ∀ (D : Addr → Prop) (s : Shared) (H : Hp) (c : Addr) (cl : List (Str × Addr)) (fp : List Addr), TsJ (X.blk s H scope (compEnvC scope cl c X.env) fp) D W0 ifs t)
    (hk : ∀ (D : Addr → Prop) (s : Shared) (H : Hp) (c : Addr) (cl : List (Str × Addr)) (fp : List Addr), EJ (X.blk s H scope (compEnvC scope cl c X.env) fp) D W0 .B kx ek)
    (he : ∀ (D : Addr → Prop) (s : Shared) (H : Hp) (c : Addr) (cl : List (Str × Addr)) (fp : List Addr), OJ (X.blk s H scope (compEnvC scope cl c X.env) fp) D W0 vx el) (hs : ∀ x, foldedSetIterable iter X.env x = pure x := by intro _; rfl) :
    SJ X C W (.Assign [.Name y py] (.DictComp kx vx [⟨tg, iter, ifs, 0⟩] scope pos) spos) (sAsg i (oDCompO l (own.map (·.2)) g t ek el)) :=
  ps_weak (ps_setDc hc hN hy hyl hsw hi ok (fun s H c cl fp => uG_ok fun D => hg D s H c cl fp) (fun s H c cl fp => uT_ok fun D => ht D s H c cl fp) (fun s H c cl fp => uB_ok fun D => hk D s H c cl fp) (fun s H c cl fp => uO_ok fun D => he D s H c cl fp) hs) fun D σ H h => dcomp_read (asg_read h)
theorem sj_asgDc {i : Nat} {y : Str} {py pos spos : Pos} {kx vx : Expr} {ifs : List Expr} {scope : Scope} {own : List (Str × Nat)} {l : L} {g : G} {t : T} {ek ev : E} (hc : X.calm = true) (hN : X.N.Nodup) (hy : X.N[i]? = some y) (hyl : X.env.scope.names.lookup y = some .local)
    (hsw : swapsWith (.DictComp kx vx [⟨tg, iter, ifs, 0⟩] scope pos) (some (.Name y py)) spos.line X.env = pure true) (hi : IJ X C W relS tg iter l) (ok : BlkOk X.N X.env.scope scope own)
    (hg : ∀ (D : Addr → Prop) (s : Shared) (H : Hp) (c : Addr) (cl : List (Str × Addr)) (fp : List Addr), GJ (X.blk s H scope (compEnvC scope cl c X.env) fp) D (own.map (·.2)) tg g)
    (ht : ∀ (D : Addr → Prop) (s : Shared) (H : Hp) (c : Addr) (cl : List (Str × Addr)) (fp : List Addr), TsJ (X.blk s H scope (compEnvC scope cl c X.env) fp) D W0 ifs t)
    (hk : ∀ (D : Addr → Prop) (s : Shared) (H : Hp) (c : Addr) (cl : List (Str × Addr)) (fp : List Addr), EJ (X.blk s H scope (compEnvC scope cl c X.env) fp) D W0 .B kx ek)
    (he : ∀ (D : Addr → Prop) (s : Shared) (H : Hp) (c : Addr) (cl : List (Str × Addr)) (fp : List Addr), EJ (X.blk s H scope (compEnvC scope cl c X.env) fp) D W0 .E vx ev) (hs : ∀ x, foldedSetIterable iter X.env x = pure x := by intro _; rfl) :
    SJ X C W (.Assign [.Name y py] (.DictComp kx vx [⟨tg, iter, ifs, 0⟩] scope pos) spos) (sAsg i (oDComp l (own.map (·.2)) g t ek ev)) :=
  ps_weak (ps_setDc hc hN hy hyl hsw hi ok (fun s H c cl fp => uG_ok fun D => hg D s H c cl fp) (fun s H c cl fp => uT_ok fun D => ht D s H c cl fp) (fun s H c cl fp => uB_ok fun D => hk D s H c cl fp) (fun s H c cl fp => uO_ok fun D => oj_E (he D s H c cl fp)) hs) fun D σ H h => dcomp_read (dcomp_readE (asg_read h))
end
/-! ### to reckon -/
@[simp] theorem ts_D (p : List (K1 × OT)) : toSlot (.D p) = .own (.D p) := (rfl)
@[simp] theorem ts_L (p : List OT) : toSlot (.L p) = .own (.L p) := (rfl)
@[simp] theorem ts_T (p : List OT) : toSlot (.T p) = .own (.T p) := (rfl)
@[simp] theorem otR_ok (y : OT) : otR (.ok y) = some (some y) := (rfl)
@[simp] theorem otT_true (el : O) (ρ : Env) : otT el ρ (.ok true) = otR (el ρ) := (rfl)
@[simp] theorem otT_false (el : O) (ρ : Env) : otT el ρ (.ok false) = some none := (rfl)
@[simp] theorem dtR_str (x : Tx) (y : OT) : dtR (.ok (.str x)) (.ok y) = some (some (.inr x, y)) := (rfl)
@[simp] theorem dtR_int (x : Int) (y : OT) : dtR (.ok (.int x)) (.ok y) = some (some (.inl x, y)) := (rfl)
@[simp] theorem dtT_true (ek : E) (el : O) (ρ : Env) : dtT ek el ρ (.ok true) = dtR (ek ρ) (el ρ) := (rfl)
@[simp] theorem dtT_false (ek : E) (el : O) (ρ : Env) : dtT ek el ρ (.ok false) = some none := (rfl)
def turnO' (t : T) (el : O) : Option Env → Option (Option OT)
  | none => none
  | some ρ1 => otT el ρ1 (t ρ1)
@[simp] theorem m_turnO (g : G) (t : T) (el : O) (ρ : Env) (p : PV) : turnO g t el ρ p = turnO' t el (g p ρ) := (rfl)
@[simp] theorem turnO'_some (t : T) (el : O) (ρ : Env) : turnO' t el (some ρ) = otT el ρ (t ρ) := (rfl)
def turnD' (t : T) (ek : E) (el : O) : Option Env → Option (Option (K1 × OT))
  | none => none
  | some ρ1 => dtT ek el ρ1 (t ρ1)
@[simp] theorem m_turnD (g : G) (t : T) (ek : E) (el : O) (ρ : Env) (p : PV) : turnD g t ek el ρ p = turnD' t ek el (g p ρ) := (rfl)
@[simp] theorem turnD'_some (t : T) (ek : E) (el : O) (ρ : Env) : turnD' t ek el (some ρ) = dtT ek el ρ (t ρ) := (rfl)
/-- different keys, one after another -/
theorem putA_new {κ β : Type} [DecidableEq κ] {kvs : List (κ × β)} {k : κ} (h : k ∉ kvs.map Prod.fst) (b : β) : putA kvs k b = kvs ++ [(k, b)] := by
  unfold putA
  rw [if_neg]
  intro z
  obtain ⟨q, hq, e⟩ := List.any_eq_true.mp z
  exact h (List.mem_map.mpr ⟨q, hq, of_decide_eq_true e⟩)
theorem loopD_map {α : Type} {g : G} {t : T} {ek : E} {el : O} {ρ : Env} {inj : α → PV} {ky : α → K1} {F : α → OT} : ∀ {xs : List α} {acc : List (K1 × OT)}, (∀ x ∈ xs, turnD g t ek el ρ (inj x) = some (some (ky x, F x))) → (acc.map Prod.fst ++ xs.map ky).Nodup → acc.length + xs.length ≤ sizeLine →
    loopD g t ek el ρ (xs.map inj) acc = some (acc ++ xs.map fun x => (ky x, F x))
  | [], acc, _, _, _ => by simp [loopD]
  | x :: xs, acc, h, hn, hl => by
    rw [List.map_cons]
    unfold loopD
    rw [h x List.mem_cons_self]
    simp only [Option.bind_some]
    have hx : ky x ∉ acc.map Prod.fst := fun z => by
      have := (List.nodup_append.mp hn).2.2
      exact this _ z (ky x) (by simp) rfl
    rw [if_pos (by simp at hl; omega), putA_new hx, loopD_map (fun y hy => h y (List.mem_cons_of_mem _ hy)) (by simpa using hn) (by simp at hl ⊢; omega)]
    simp
theorem fzs_map {α : Type} {ky : α → K1} {F : α → PV} : ∀ xs : List α, fzs (xs.map fun x => (ky x, .fz (F x))) = some (xs.map fun x => (ky x, F x))
  | [] => rfl
  | x :: xs => by
    show (fzs (xs.map fun x => (ky x, .fz (F x)))).map _ = _
    rw [fzs_map xs]; rfl
theorem oDCompO_map {α : Type} {l : L} {vs : List Nat} {g : G} {t : T} {ek : E} {el : O} {ρ : Env} (inj : α → PV) (ky : α → K1) (F : α → OT) (xs : List α) (h1 : shadowOk ρ vs = true) (h2 : l ρ = .ok (xs.map inj)) (h3 : ∀ x ∈ xs, turnD g t ek el (wipeE ρ vs) (inj x) = some (some (ky x, F x))) (hn : (xs.map ky).Nodup) (h4 : xs.length ≤ sizeLine) :
    oDCompO l vs g t ek el ρ = .ok (.D (xs.map fun x => (ky x, F x))) := by
  unfold oDCompO
  rw [if_pos h1, h2, bind_ok, loopD_map h3 (by simpa using hn) (by simpa using h4)]
  rfl
theorem oDComp_map {α : Type} {l : L} {vs : List Nat} {g : G} {t : T} {ek ev : E} {ρ : Env} (inj : α → PV) (ky : α → K1) (F : α → PV) (xs : List α) (h1 : shadowOk ρ vs = true) (h2 : l ρ = .ok (xs.map inj)) (h3 : ∀ x ∈ xs, turnD g t ek (oOfE ev) (wipeE ρ vs) (inj x) = some (some (ky x, .fz (F x)))) (hn : (xs.map ky).Nodup) (h4 : xs.length ≤ sizeLine) :
    oDComp l vs g t ek ev ρ = .ok (.d (xs.map fun x => (ky x, F x))) := by
  unfold oDComp
  rw [oDCompO_map inj ky (fun x => .fz (F x)) xs h1 h2 h3 hn h4, bind_ok]
  show ofO ((fzs (xs.map fun x => (ky x, OT.fz (F x)))).map OT.d) = _
  rw [fzs_map]
  rfl
theorem loopO_map {α : Type} {g : G} {t : T} {el : O} {ρ : Env} {inj : α → PV} {F : α → OT} : ∀ {xs : List α}, (∀ x ∈ xs, turnO g t el ρ (inj x) = some (some (F x))) → loopO g t el ρ (xs.map inj) = some (xs.map F)
  | [], _ => rfl
  | x :: xs, h => by
    rw [List.map_cons]
    unfold loopO
    rw [h x List.mem_cons_self, loopO_map fun y hy => h y (List.mem_cons_of_mem _ hy)]
    rfl
theorem oCompO_map {α : Type} {l : L} {vs : List Nat} {g : G} {t : T} {el : O} {ρ : Env} (inj : α → PV) (F : α → OT) (xs : List α) (h1 : shadowOk ρ vs = true) (h2 : l ρ = .ok (xs.map inj)) (h3 : ∀ x ∈ xs, turnO g t el (wipeE ρ vs) (inj x) = some (some (F x))) (h4 : xs.length ≤ sizeLine) :
    oCompO l vs g t el ρ = .ok (.L (xs.map F)) := by
  unfold oCompO
  rw [if_pos h1, h2, bind_ok, loopO_map h3, ofO_some, bind_ok]
  unfold fitsO
  exact if_pos (by rw [List.length_map]; exact h4)
end Fz
end
section
/-! Fyb: dicts walked by their keys; sorted, list, len of dicts. -/
namespace Fz
open PySem PySem.Spec PyProof.Rows L2
def keyPV : K1 → PV
  | .inl i => .int i
  | .inr x => .str x
theorem rep_keyPV {K : PySem.W.Frag} {A : Addr → Prop} {H : Hp} (k : K1) : Rep K A H (keyPV k) (kV (k1 k)) := by cases k <;> rfl
section
variable {K : PySem.W.Frag} {C : Addr → Prop} {ρ : Env} {σ : L2.St} {H H' : Hp} {fp : Fp}
theorem EnvOk.via (e : EnvOk K C ρ σ H fp) (c : Carry (Am C fp) (Am C fp) H H') (cB : Carry (fun a => ¬ InF fp a) (fun a => ¬ InF fp a) H H') (ko : ∀ a, InF fp a → ∀ o, H a = some o → H' a = some o) (kn : ∀ a, H' a = none → H a = none) : EnvOk K C ρ σ H' fp where
  len := e.len
  slot := fun i sl h => by
    have := e.slot i sl h
    revert this
    cases sl with
    | u => exact id
    | val p => rintro ⟨f, v, hv, r⟩; exact ⟨f, v, hv, Rep.carry c r⟩
    | bor p => rintro ⟨f, v, hv, r⟩; exact ⟨f, v, hv, Rep.carry cB r⟩
    | own t => rintro ⟨v, hv, r⟩; exact ⟨v, hv, r.carry c fun a ha o q => ko a ⟨i, ha⟩ o q⟩
  out := e.out
  inj := e.inj
  nod := e.nod
  cap := e.cap
  new := fun a h => e.new a (kn a h)
theorem carry_lock {A : Addr → Prop} {d : Addr} {od : Obj} {ks : List (Key × V)} (hd : H d = some (.dK ks)) : Carry A A H (upd H d (.frz od (.dK ks))) where
  rdK := fun a u ha h => ⟨ha, by
    by_cases z : a = d
    · subst z
      rcases h with h | ⟨o, h⟩ <;> rw [hd] at h <;> cases h
      exact .inr ⟨od, upd_same⟩
    · exact h.imp (fun h => by rw [upd_ne z]; exact h) fun ⟨o, h⟩ => ⟨o, by rw [upd_ne z]; exact h⟩⟩
  rdT := fun a u ha h => ⟨ha, by
    by_cases z : a = d
    · subst z
      rcases h with h | ⟨o, h⟩ <;> rw [hd] at h <;> cases h
    · exact h.imp (fun h => by rw [upd_ne z]; exact h) fun ⟨o, h⟩ => ⟨o, by rw [upd_ne z]; exact h⟩⟩
  lst := fun a xs ha h => ⟨ha, by rw [upd_ne (fun z => by rw [z, hd] at h; cases h)]; exact h⟩
  ins := fun a c dx xs ha h => ⟨ha, by rw [upd_ne (fun z => by rw [z, hd] at h; cases h)]; exact h⟩
  tup := fun a xs h => by rw [upd_ne (fun z => by rw [z, hd] at h; cases h)]; exact h
  scr := fun a o xs h => by rw [upd_ne (fun z => by rw [z, hd] at h; cases h)]; exact h
theorem carry_unlock {A : Addr → Prop} {d : Addr} {od : Obj} {ks : List (Key × V)} (hd : H d = some (.frz od (.dK ks))) : Carry A A H (upd H d (.dK ks)) where
  rdK := fun a u ha h => ⟨ha, by
    by_cases z : a = d
    · subst z
      rcases h with h | ⟨o, h⟩ <;> rw [hd] at h <;> cases h
      exact .inl upd_same
    · exact h.imp (fun h => by rw [upd_ne z]; exact h) fun ⟨o, h⟩ => ⟨o, by rw [upd_ne z]; exact h⟩⟩
  rdT := fun a u ha h => ⟨ha, by
    by_cases z : a = d
    · subst z
      rcases h with h | ⟨o, h⟩ <;> rw [hd] at h <;> cases h
    · exact h.imp (fun h => by rw [upd_ne z]; exact h) fun ⟨o, h⟩ => ⟨o, by rw [upd_ne z]; exact h⟩⟩
  lst := fun a xs ha h => ⟨ha, by rw [upd_ne (fun z => by rw [z, hd] at h; cases h)]; exact h⟩
  ins := fun a c dx xs ha h => ⟨ha, by rw [upd_ne (fun z => by rw [z, hd] at h; cases h)]; exact h⟩
  tup := fun a xs h => by rw [upd_ne (fun z => by rw [z, hd] at h; cases h)]; exact h
  scr := fun a o xs h => by rw [upd_ne (fun z => by rw [z, hd] at h; cases h)]; exact h
theorem EnvOk.lock {d : Addr} {od : Obj} {ks : List (Key × V)} (e : EnvOk K C ρ σ H fp) (nd : ¬ InF fp d) (hd : H d = some (.dK ks)) : EnvOk K C ρ σ (upd H d (.frz od (.dK ks))) fp :=
  e.via (carry_lock hd) (carry_lock hd) (fun a ha o q => by rw [upd_ne (fun z => nd (by rw [← z]; exact ha))]; exact q) fun a h => by
    by_cases z : a = d
    · subst z; rw [upd_same] at h; cases h
    · rwa [upd_ne z] at h
theorem EnvOk.unlock {d : Addr} {od : Obj} {ks : List (Key × V)} (e : EnvOk K C ρ σ H fp) (nd : ¬ InF fp d) (hd : H d = some (.frz od (.dK ks))) : EnvOk K C ρ σ (upd H d (.dK ks)) fp :=
  e.via (carry_unlock hd) (carry_unlock hd) (fun a ha o q => by rw [upd_ne (fun z => nd (by rw [← z]; exact ha))]; exact q) fun a h => by
    by_cases z : a = d
    · subst z; rw [upd_same] at h; cases h
    · rwa [upd_ne z] at h
end
def keysOfS : Option Slot → Res (List PV)
  | some (.val (.dic kvs)) => .ok (kvs.map fun q => keyPV q.1)
  | _ => .bad
/-- the keys of the dict of slot i -/
def lKeysV (i : Nat) : L := fun ρ => keysOfS ρ[i]?
theorem lKeys_inv {i : Nat} {ρ : Env} {ps : List PV} (h : lKeysV i ρ = .ok ps) : ∃ kvs, ρ[i]? = some (.val (.dic kvs)) ∧ ps = kvs.map fun q => keyPV q.1 := by
  unfold lKeysV keysOfS at h
  split at h
  · rename_i kvs e; cases h; exact ⟨kvs, e, rfl⟩
  · cases h
theorem lKeys_noexc {i : Nat} {ρ : Env} {c : String} {fs : Option (List (String × PV))} : lKeysV i ρ ≠ .exc c fs := by
  unfold lKeysV keysOfS
  split <;> intro h <;> cases h
section
variable {X : Cx} {C : Addr → Prop} {W : WX} {e e1 e2 e3 tg iter : Expr} {pos p2 pn : Pos} {m m1 m2 m3 : Mode} {f f1 f2 f3 : E} {fo : O}
/-- a name's dict -/
def DicAt (σ : L2.St) (H : Hp) (i : Nat) : Prop := ∃ d o ks, σ[i]? = some (some (.ref d)) ∧ H d = some (.frz o (.dK ks))
theorem repK_get {K : PySem.W.Frag} {A : Addr → Prop} {H : Hp} : ∀ {kvs : List (K1 × PV)} {ks : List (Key × V)}, RepK K A H kvs ks → ks.map (·.1) = kvs.map fun q => k1 q.1
  | [], _, h => by rw [show _ = [] from h]; rfl
  | (k, p) :: kvs, _, h => by
    obtain ⟨x, r, rfl, h1, h2⟩ := h
    simp [repK_get h2]
theorem iter_keys {K : PySem.W.Frag} {A : Addr → Prop} {H0 : Hp} {rel : Hp → Prop} {d : Addr} {o : Obj} {kvs : List (K1 × PV)} {ks : List (Key × V)} (r : RepK K A H0 kvs ks) (h : ∀ H, rel H → H d = some (.frz o (.dK ks))) : IterOk K A H0 rel (Itk d o ks) (kvs.map fun q => keyPV q.1) := fun H B hr c i => by
  have h1 := h H hr
  have hl := r.len
  refine ⟨fun p hp => ?_, fun hi => ⟨h1, by rw [hl]; simpa using hi⟩⟩
  rw [List.getElem?_map] at hp
  obtain ⟨q, hq, rfl⟩ := Option.map_eq_some_iff.mp hp
  refine ⟨⟨h1, by rw [hl]; exact (List.getElem?_eq_some_iff.mp hq).1⟩, fun x H' ⟨e1, k, v, e2, e3⟩ => ?_⟩
  subst e1 e3
  refine ⟨Same.refl _, ?_⟩
  have := congrArg (fun l => l[i]?) (repK_get r)
  simp only [List.getElem?_map, hq, e2, Option.map_some, Option.some.injEq] at this
  rw [this]
  exact rep_keyPV q.1
theorem keys_tI {i : Nat} {rel : Hp → Fp → Hp → Prop} (hrel : ∀ H fp H' d o u, rel H fp H' → H d = some (.frz o u) → H' d = some (.frz o u)) {σ : L2.St} {H : Hp} {R : It → Hp → Prop} (hD : DicAt σ H i) (h : tI X.K C W rel (lKeysV i) σ H R) : iKeys (tVar i) σ H R := by
  obtain ⟨ρ, fp, eo, q⟩ := h
  cases e : lKeysV i ρ with
  | bad => rw [e] at q; exact q.elim
  | exc c fs => exact (lKeys_noexc e).elim
  | ok ps =>
    rw [e] at q
    obtain ⟨kvs, hs, rfl⟩ := lKeys_inv e
    obtain ⟨d, o, ks, hσ, hd⟩ := hD
    obtain ⟨_, v, hv, r⟩ := eo.slot i _ hs
    rw [hσ] at hv; cases hv
    obtain ⟨a, ks', ea, _, hr, rr⟩ := r
    cases ea
    have : ks' = ks := by
      rcases hr with hr | ⟨o', hr⟩ <;> rw [hd] at hr <;> cases hr
      rfl
    subst this
    exact ⟨.ref d, hσ, d, o, rfl, .inl ⟨ks', hd, q _ H (Same.refl H) (iter_keys rr fun H' hr' => hrel _ _ _ _ _ _ hr' hd)⟩⟩
/-- an expression over a dict's keys: the dict is locked meanwhile -/
theorem lockE_of {i : Nat} {t : TE} (ne : ∀ ρ c fs, fo ρ ≠ .exc c fs) (isd : ∀ ρ o, fo ρ = .ok o → ∃ kvs, ρ[i]? = some (.val (.dic kvs))) (h : ∀ σ H Q, DicAt σ H i → tO X.K C W fo σ H Q → t σ H Q) {σ : L2.St} {H : Hp} {Q : VK} (q : tO X.K C W fo σ H Q) : t σ H Q ∨ tLockE t σ H Q := by
  obtain ⟨ρ, fp, eo, q⟩ := q
  cases e : fo ρ with
  | bad => rw [e] at q; exact q.elim
  | exc c fs => exact (ne _ _ _ e).elim
  | ok o =>
    rw [e] at q
    obtain ⟨kvs, hs⟩ := isd ρ o e
    obtain ⟨_, v, hv, r⟩ := eo.slot i _ hs
    obtain ⟨d, ks, rfl, hA, hr, rr⟩ := r
    rcases hr with hd | ⟨ob, hd⟩
    · right
      refine ⟨d, .dK ks, hd, trivial, fun od => h _ _ _ ⟨d, od, ks, hv, upd_same⟩ ⟨ρ, fp, eo.lock hA.2 hd, ?_⟩⟩
      rw [e]
      intro v H' Fn s n f r
      have hd' : H' d = some (.frz od (.dK ks)) := s _ _ upd_same
      have nF : d ∉ Fn := fun z => by have := f d z; rw [upd_same] at this; cases this
      refine ⟨hd', q v _ Fn (fun a o' z => ?_) n (fun a ha => ?_) (OTRep.carry (carry_unlock hd') (fun a ha o' z => by rw [upd_ne (fun y => nF (by rw [← y]; exact ha))]; exact z) r)⟩
      · by_cases y : a = d
        · subst y; rw [hd] at z; cases z; exact upd_same
        · rw [upd_ne y]; exact s _ _ (by rw [upd_ne y]; exact z)
      · have := f a ha
        rwa [upd_ne (fun y => nF (by rw [← y]; exact ha))] at this
    · left
      exact h _ _ _ ⟨d, ob, ks, hv, hd⟩ ⟨ρ, fp, eo, by rw [e]; exact q⟩
theorem relS_frz {H : Hp} {fp : Fp} {H' : Hp} {d : Addr} {o : Obj} {u : HO} (r : relS H fp H') (h : H d = some (.frz o u)) : H' d = some (.frz o u) := r _ _ h
theorem oComp_inv {l : L} {vs : List Nat} {g : G} {t : T} {el : E} {ρ : Env} {o : OT} (h : oComp l vs g t el ρ = .ok o) : ∃ ps, l ρ = .ok ps := by
  unfold oComp at h
  split at h
  · obtain ⟨ps, e, _⟩ := bind_ok_inv h; exact ⟨ps, e⟩
  · cases h
theorem oComp_ne {l : L} {vs : List Nat} {g : G} {t : T} {el : E} {ρ : Env} {c : String} {fs : Option (List (String × PV))} (hl : ∀ c fs, l ρ ≠ .exc c fs) : oComp l vs g t el ρ ≠ .exc c fs := by
  unfold oComp
  split
  · cases e : l ρ with
    | exc c fs => exact (hl c fs e).elim
    | bad => intro h; cases h
    | ok ps =>
      rw [bind_ok]
      cases e2 : compLoop g t el (wipeE ρ vs) ps with
      | none => intro h; cases h
      | some ys =>
        show fits ys ≠ _
        unfold fits
        split <;> intro h <;> cases h
  · intro h; cases h
theorem oDCompO_inv {l : L} {vs : List Nat} {g : G} {t : T} {ek : E} {el : O} {ρ : Env} {o : OT} (h : oDCompO l vs g t ek el ρ = .ok o) : ∃ ps, l ρ = .ok ps := by
  unfold oDCompO at h
  split at h
  · obtain ⟨ps, e, _⟩ := bind_ok_inv h; exact ⟨ps, e⟩
  · cases h
theorem oDCompO_ne {l : L} {vs : List Nat} {g : G} {t : T} {ek : E} {el : O} {ρ : Env} {c : String} {fs : Option (List (String × PV))} (hl : ∀ c fs, l ρ ≠ .exc c fs) : oDCompO l vs g t ek el ρ ≠ .exc c fs := by
  unfold oDCompO
  split
  · cases e : l ρ with
    | exc c fs => exact (hl c fs e).elim
    | bad => intro h; cases h
    | ok ps =>
      rw [bind_ok]
      cases e2 : loopD g t ek el (wipeE ρ vs) ps [] with
      | none => intro h; cases h
      | some ys => intro h; cases h
  · intro h; cases h
theorem oDComp_ne {l : L} {vs : List Nat} {g : G} {t : T} {ek ev : E} {ρ : Env} {c : String} {fs : Option (List (String × PV))} (hl : ∀ c fs, l ρ ≠ .exc c fs) : oDComp l vs g t ek ev ρ ≠ .exc c fs := by
  unfold oDComp
  cases e : oDCompO l vs g t ek (oOfE ev) ρ with
  | exc c fs => exact (oDCompO_ne hl e).elim
  | bad => intro h; cases h
  | ok o =>
    rw [bind_ok]
    cases o with
    | D kvs =>
      show ofO ((fzs kvs).map OT.d) ≠ _
      cases fzs kvs <;> intro h <;> cases h
    | _ => intro h; cases h
theorem oDComp_inv {l : L} {vs : List Nat} {g : G} {t : T} {ek ev : E} {ρ : Env} {o : OT} (h : oDComp l vs g t ek ev ρ = .ok o) : ∃ ps, l ρ = .ok ps := by
  unfold oDComp at h
  obtain ⟨o', e, _⟩ := bind_ok_inv h
  exact oDCompO_inv e
/-- [el for k in d ..], d a name -/
theorem oj_compK {i : Nat} {x : Str} {px : Pos} {elt : Expr} {ifs : List Expr} {scope : Scope} {own : List (Str × Nat)} {g : G} {t : T} {el : E} (hc : X.calm = true) (hN : X.N.Nodup) (hN' : X.N[i]? = some x) (hv : Vis X.env.scope x) (ok : BlkOk X.N X.env.scope scope own)
    (hg : ∀ (D : Addr → Prop) (s : Shared) (H : Hp) (c : Addr) (cl : List (Str × Addr)) (fp : List Addr), GJ (X.blk s H scope (compEnvC scope cl c X.env) fp) D (own.map (·.2)) tg g)
    (ht : ∀ (D : Addr → Prop) (s : Shared) (H : Hp) (c : Addr) (cl : List (Str × Addr)) (fp : List Addr), TsJ (X.blk s H scope (compEnvC scope cl c X.env) fp) D W0 ifs t)
    (he : ∀ (D : Addr → Prop) (s : Shared) (H : Hp) (c : Addr) (cl : List (Str × Addr)) (fp : List Addr), EJ (X.blk s H scope (compEnvC scope cl c X.env) fp) D W0 .E elt el) (hd : (x == ("__debug__" : Str)) = false := by decide) (hcd : (x == ("__classdict__" : Str)) = false := by decide) (hs : ∀ z, foldedSetIterable (.Name x px) X.env z = pure z := by intro _; rfl) :
    OJ X C W (.ListComp elt [⟨tg, .Name x px, ifs, 0⟩] scope pos) (oComp (lKeysV i) (own.map (·.2)) g t el) := by
  have base : PE X (.ListComp elt [⟨tg, .Name x px, ifs, 0⟩] scope pos) (tLc (iKeys (tVar i)) (uG (own.map (·.2)) X.K g) (uT X.K t) (uE X.K el) (own.map (·.2))) := pe_lc (pos := pos) hc hN (pi_keys (tg := tg) (pe_var (pos := px) hN' hv hd hcd)) ok (fun s H c cl fp => uG_ok fun D => hg D s H c cl fp) (fun s H c cl fp => uT_ok fun D => ht D s H c cl fp) (fun s H c cl fp => uE_ok fun D => he D s H c cl fp) hs
  refine pe_weak (pe_or' base (pe_lock base)) fun σ H Q q => lockE_of (i := i) (fun ρ c fs => oComp_ne fun c fs => lKeys_noexc) (fun ρ o h => ?_) (fun σ H Q hD q => ?_) q
  · obtain ⟨ps, h⟩ := oComp_inv h
    obtain ⟨kvs, h, _⟩ := lKeys_inv h
    exact ⟨kvs, h⟩
  · exact keys_tI (fun _ _ _ _ _ _ r h => relS_frz r h) hD (comp_read q)
theorem oj_dcompKO {i : Nat} {x : Str} {px : Pos} {kx vx : Expr} {ifs : List Expr} {scope : Scope} {own : List (Str × Nat)} {g : G} {t : T} {ek : E} {el : O} (hc : X.calm = true) (hN : X.N.Nodup) (hN' : X.N[i]? = some x) (hv : Vis X.env.scope x) (ok : BlkOk X.N X.env.scope scope own)
    (hg : ∀ (D : Addr → Prop) (s : Shared) (H : Hp) (c : Addr) (cl : List (Str × Addr)) (fp : List Addr), GJ (X.blk s H scope (compEnvC scope cl c X.env) fp) D (own.map (·.2)) tg g)
    (ht : ∀ (D : Addr → Prop) (s : Shared) (H : Hp) (c : Addr) (cl : List (Str × Addr)) (fp : List Addr), TsJ (X.blk s H scope (compEnvC scope cl c X.env) fp) D W0 ifs t)
    (hk : ∀ (D : Addr → Prop) (s : Shared) (H : Hp) (c : Addr) (cl : List (Str × Addr)) (fp : List Addr), EJ (X.blk s H scope (compEnvC scope cl c X.env) fp) D W0 .B kx ek)
    (he : ∀ (D : Addr → Prop) (s : Shared) (H : Hp) (c : Addr) (cl : List (Str × Addr)) (fp : List Addr), OJ (X.blk s H scope (compEnvC scope cl c X.env) fp) D W0 vx el) (hd : (x == ("__debug__" : Str)) = false := by decide) (hcd : (x == ("__classdict__" : Str)) = false := by decide) (hs : ∀ z, foldedSetIterable (.Name x px) X.env z = pure z := by intro _; rfl) :
    OJ X C W (.DictComp kx vx [⟨tg, .Name x px, ifs, 0⟩] scope pos) (oDCompO (lKeysV i) (own.map (·.2)) g t ek el) := by
  have base : PE X (.DictComp kx vx [⟨tg, .Name x px, ifs, 0⟩] scope pos) (tDc (iKeys (tVar i)) (uG (own.map (·.2)) X.K g) (uT X.K t) (uB X.K ek) (uO X.K el) (own.map (·.2))) := pe_dc (pos := pos) hc hN (pi_keys (tg := tg) (pe_var (pos := px) hN' hv hd hcd)) ok (fun s H c cl fp => uG_ok fun D => hg D s H c cl fp) (fun s H c cl fp => uT_ok fun D => ht D s H c cl fp) (fun s H c cl fp => uB_ok fun D => hk D s H c cl fp) (fun s H c cl fp => uO_ok fun D => he D s H c cl fp) hs
  refine pe_weak (pe_or' base (pe_lock base)) fun σ H Q q => lockE_of (i := i) (fun ρ c fs => oDCompO_ne fun c fs => lKeys_noexc) (fun ρ o h => ?_) (fun σ H Q hD q => ?_) q
  · obtain ⟨ps, h⟩ := oDCompO_inv h
    obtain ⟨kvs, h, _⟩ := lKeys_inv h
    exact ⟨kvs, h⟩
  · exact keys_tI (fun _ _ _ _ _ _ r h => relS_frz r h) hD (dcomp_read q)
theorem oj_dcompK {i : Nat} {x : Str} {px : Pos} {kx vx : Expr} {ifs : List Expr} {scope : Scope} {own : List (Str × Nat)} {g : G} {t : T} {ek ev : E} (hc : X.calm = true) (hN : X.N.Nodup) (hN' : X.N[i]? = some x) (hv : Vis X.env.scope x) (ok : BlkOk X.N X.env.scope scope own)
    (hg : ∀ (D : Addr → Prop) (s : Shared) (H : Hp) (c : Addr) (cl : List (Str × Addr)) (fp : List Addr), GJ (X.blk s H scope (compEnvC scope cl c X.env) fp) D (own.map (·.2)) tg g)
    (ht : ∀ (D : Addr → Prop) (s : Shared) (H : Hp) (c : Addr) (cl : List (Str × Addr)) (fp : List Addr), TsJ (X.blk s H scope (compEnvC scope cl c X.env) fp) D W0 ifs t)
    (hk : ∀ (D : Addr → Prop) (s : Shared) (H : Hp) (c : Addr) (cl : List (Str × Addr)) (fp : List Addr), EJ (X.blk s H scope (compEnvC scope cl c X.env) fp) D W0 .B kx ek)
    (he : ∀ (D : Addr → Prop) (s : Shared) (H : Hp) (c : Addr) (cl : List (Str × Addr)) (fp : List Addr), EJ (X.blk s H scope (compEnvC scope cl c X.env) fp) D W0 .E vx ev) (hd : (x == ("__debug__" : Str)) = false := by decide) (hcd : (x == ("__classdict__" : Str)) = false := by decide) (hs : ∀ z, foldedSetIterable (.Name x px) X.env z = pure z := by intro _; rfl) :
    OJ X C W (.DictComp kx vx [⟨tg, .Name x px, ifs, 0⟩] scope pos) (oDComp (lKeysV i) (own.map (·.2)) g t ek ev) :=
  pe_weak (oj_dcompKO hc hN hN' hv ok hg ht hk (fun D s H c cl fp => oj_E (he D s H c cl fp)) hd hcd hs) fun σ H Q h => dcomp_readE h
/-! for k in d: .. -/
def noEx : Fl → Fl
  | .ex _ _ _ => .bad
  | r => r
def sForK (i : Nat) (g : G) (body : S) : S := fun ρ => noEx (withR (lKeysV i ρ) ρ fun ps => loop g body ps ρ)
theorem sj_forK {i : Nat} {x : Str} {px : Pos} {g : G} {body : S} {sts : List Stmt} {vs : List Nat} (hp : PassesOwn (model X.prog X.w) X.A X.env X.xe) (hc : X.calm = true) (hN' : X.N[i]? = some x) (hv : Vis X.env.scope x) (hg : GJ X C vs tg g) (hb : BJ X C W sts body) (hd : (x == ("__debug__" : Str)) = false := by decide) (hcd : (x == ("__classdict__" : Str)) = false := by decide) (hs : ∀ z, foldedSetIterable (.Name x px) X.env z = pure z := by intro _; rfl) :
    SJ X C W (.For tg (.Name x px) sts [] pos) (sForK i g body) := by
  have base := ps_for (pos := pos) hp hc (pi_keys (tg := tg) (pe_var (pos := px) hN' hv hd hcd)) hg hb hs
  -- with the dict locked
  have run : ∀ D σ H, DicAt σ H i → tS X.K C W (fun ρ => withR (lKeysV i ρ) ρ fun ps => loop g body ps ρ) D σ H → tFor (iKeys (tVar i)) (tGt vs X.K C g) (tS X.K C W body) D σ H := fun D σ H hD ⟨ρ, fp, eo, h⟩ => by
    refine keys_tI (C := C) (W := W) (rel := relG) (fun _ _ _ _ _ _ r h => r.2.2 _ _ _ h) hD ⟨ρ, fp, eo, (FlQ.ofR eo h).mono (fun items q J H0 s0 it => ?_) fun _ _ q => q⟩
    refine ⟨fun i m σ H => m = items.length - i ∧ ∃ ρ fp', EnvOk X.K C ρ σ H fp' ∧ Grow H0 fp H fp' ∧ FlQ X.K C W D H fp' (loop g body (items.drop i) ρ), ⟨_, rfl, ρ, fp, eo.same s0, Grow.refl, FlQ.later (Grow.same s0) q⟩, ?_⟩
    rintro i m' σ1 H1 ⟨rfl, ρ1, fp1, eo1, g1, q1⟩
    obtain ⟨it1, it2⟩ := it H1 (Am C fp1) ⟨g1.keep, g1.tups, g1.frz⟩ g1.carry i
    by_cases hi : i < items.length
    · have hx : items[i]? = some items[i] := List.getElem?_eq_getElem hi
      obtain ⟨go, yl⟩ := it1 _ hx
      rw [List.drop_eq_getElem_cons hi] at q1
      refine .inr ⟨go, fun σ' H' => ∃ ρ' fp', EnvOk X.K C ρ' σ' H' fp' ∧ Grow H0 fp H' fp' ∧ FlQ X.K C W D H' fp' (loop g body (items.drop (i + 1)) ρ'), fun σ' H' ⟨ρ', fp', a, b, c⟩ => ⟨items.length - (i + 1), by omega, rfl, ρ', fp', a, b, c⟩, fun x H' hy => ?_⟩
      obtain ⟨s2, r⟩ := yl x H' hy
      have q2 := FlQ.later (Grow.same (fp := fp1) s2) q1
      unfold loop at q2
      split at q2
      · exact q2.elim
      · rename_i ρ2 hρ
        refine ⟨ρ1, fp1, items[i], ρ2, eo1.same s2, r, hρ, fun σ3 fp3 eo3 g3 _ _ => ⟨ρ2, fp3, eo3, ?_⟩⟩
        have q3 := FlQ.later g3 q2
        have gg : Grow H0 fp H' fp3 := g1.trans ((Grow.same s2).trans g3)
        cases z : body ρ2 with
        | nx a => rw [z] at q3; exact fun σ4 H4 fp4 eo4 g4 => ⟨_, fp4, eo4, gg.trans g4, FlQ.later g4 q3⟩
        | ct a => rw [z] at q3; exact fun σ4 H4 fp4 eo4 g4 => ⟨_, fp4, eo4, gg.trans g4, FlQ.later g4 q3⟩
        | bk a => rw [z] at q3; exact q3
        | rt a => rw [z] at q3; exact q3
        | ex a b c => rw [z] at q3; exact q3
        | bad => rw [z] at q3; exact q3.elim
    · rw [List.drop_eq_nil_of_le (Nat.le_of_not_lt hi)] at q1
      exact .inl ⟨it2 (Nat.le_of_not_lt hi), q1 σ1 H1 fp1 eo1 Grow.refl⟩
  have base2 : PS X (.For tg (.Name x px) sts [] pos) (fun D σ H => tFor (iKeys (tVar i)) (tGt vs X.K C g) (tS X.K C W body) D σ H ∨ tLock (tFor (iKeys (tVar i)) (tGt vs X.K C g) (tS X.K C W body)) D σ H) :=
    ⟨fun pins s σ H D I q => q.elim (base.run pins s σ H D I) ((ps_lock base).run pins s σ H D I)⟩
  refine ps_weak base2 fun D σ H ⟨ρ, fp, eo, h⟩ => ?_
  unfold sForK at h
  cases e : lKeysV i ρ with
  | bad => rw [e] at h; exact h.elim
  | exc c fs => exact (lKeys_noexc e).elim
  | ok ps =>
    obtain ⟨kvs, hsl, rfl⟩ := lKeys_inv e
    rw [e] at h
    have h : FlQ X.K C W D H fp (noEx (loop g body (kvs.map fun q => keyPV q.1) ρ)) := h
    obtain ⟨_, v, hv, r⟩ := eo.slot i _ hsl
    obtain ⟨d, ks, rfl, hA, hr, rr⟩ := r
    have noex : ∀ {D' H'}, FlQ X.K C W D' H' fp (noEx (loop g body (kvs.map fun q => keyPV q.1) ρ)) → FlQ X.K C W D' H' fp (loop g body (kvs.map fun q => keyPV q.1) ρ) := fun {D' H'} h => by
      cases z : loop g body (kvs.map fun q => keyPV q.1) ρ <;> rw [z] at h <;> first | exact h | exact h.elim
    rcases hr with hdd | ⟨ob, hdd⟩
    · right
      refine ⟨d, .dK ks, hdd, trivial, fun od => run _ _ _ ⟨d, od, ks, hv, upd_same⟩ ⟨ρ, fp, eo.lock hA.2 hdd, ?_⟩⟩
      show FlQ _ _ _ _ _ _ (withR (lKeysV i ρ) ρ fun ps => loop g body ps ρ)
      rw [e]
      refine noex ?_
      have gl : ∀ {H' fp'}, Grow (upd H d (.frz od (.dK ks))) fp H' fp' → H' d = some (.frz od (.dK ks)) ∧ ¬ InF fp' d ∧ Grow H fp (upd H' d (.dK ks)) fp' := fun {H' fp'} g => by
        have hd' : H' d = some (.frz od (.dK ks)) := g.frz _ _ _ upd_same
        have nF' : ¬ InF fp' d := fun z => (g.new d z).elim hA.2 fun y => by rw [upd_same] at y; cases y
        refine ⟨hd', nF', fun a o q n => ?_, fun a xs q => ?_, fun a o u q => ?_, fun a q => ?_, fun a q => ?_⟩
        · by_cases y : a = d
          · subst y; rw [hdd] at q; cases q; exact upd_same
          · rw [upd_ne y]; exact g.keep a o (by rw [upd_ne y]; exact q) n
        · have y : a ≠ d := fun y => by rw [y, hdd] at q; cases q
          rw [upd_ne y]; exact g.tups a xs (by rw [upd_ne y]; exact q)
        · have y : a ≠ d := fun y => by rw [y, hdd] at q; cases q
          rw [upd_ne y]; exact g.frz a o u (by rw [upd_ne y]; exact q)
        · by_cases y : a = d
          · subst y; rw [upd_same]; simp
          · rw [upd_ne y]; exact g.more a (by rw [upd_ne y]; exact q)
        · rcases g.new a q with z | z
          · exact .inl z
          · right
            have y : a ≠ d := fun y => by rw [y, upd_same] at z; cases z
            rwa [upd_ne y] at z
      cases z : noEx (loop g body (kvs.map fun q => keyPV q.1) ρ) with
      | nx a => rw [z] at h; exact fun σ' H' fp' e' g' => ⟨(gl g').1, h σ' _ fp' (e'.unlock (gl g').2.1 (gl g').1) (gl g').2.2⟩
      | ct a => rw [z] at h; exact fun σ' H' fp' e' g' => ⟨(gl g').1, h σ' _ fp' (e'.unlock (gl g').2.1 (gl g').1) (gl g').2.2⟩
      | bk a => rw [z] at h; exact fun σ' H' fp' e' g' => ⟨(gl g').1, h σ' _ fp' (e'.unlock (gl g').2.1 (gl g').1) (gl g').2.2⟩
      | rt a =>
        rw [z] at h
        intro v H' Fn g' n f r
        have nF : d ∉ Fn := fun z => (f d z).elim hA.2 fun y => by rw [upd_same] at y; cases y
        refine ⟨(gl g').1, h v _ Fn (gl g').2.2 n (fun a ha => (f a ha).imp id fun y => ?_) (OTRep.carry (carry_unlock (gl g').1) (fun a ha o q => by rw [upd_ne (fun y => nF (by rw [← y]; exact ha))]; exact q) r)⟩
        have ne : a ≠ d := fun q => nF (by rw [← q]; exact ha)
        rwa [upd_ne ne] at y
      | ex a b c => exfalso; revert z; cases loop g body (kvs.map fun q => keyPV q.1) ρ <;> intro z <;> cases z
      | bad => rw [z] at h; exact h.elim
    · left
      exact run _ _ _ ⟨d, ob, ks, hv, hdd⟩ ⟨ρ, fp, eo, by show FlQ _ _ _ _ _ _ (withR (lKeysV i ρ) ρ fun ps => loop g body ps ρ); rw [e]; exact noex h⟩
end

theorem CallR.or {X : Cx} {f : Value} {r r' : List V → Hp → VK → Prop} (h : CallR X f r) (h' : CallR X f r') : CallR X f (fun xs H Q => r xs H Q ∨ r' xs H Q) := fun pins s σ H xs us Q I rr q => q.elim (h pins s σ H xs us Q I rr) (h' pins s σ H xs us Q I rr)
def txKeys : List (K1 × PV) → Option (List Tx)
  | [] => some []
  | (.inr x, _) :: r => (txKeys r).map (x :: ·)
  | _ :: _ => none
theorem txKeys_map {α : Type} (ky : α → Tx) (F : α → PV) : ∀ xs : List α, txKeys (xs.map fun x => (.inr (ky x), F x)) = some (xs.map ky)
  | [] => rfl
  | x :: xs => by show (txKeys (xs.map fun x => (.inr (ky x), F x))).map _ = _; rw [txKeys_map ky F xs]; rfl
theorem txKeys_rep {K : PySem.W.Frag} {A : Addr → Prop} {H : Hp} : ∀ {kvs : List (K1 × PV)} {ks : List (Key × V)} {xs : List Tx}, txKeys kvs = some xs → RepK K A H kvs ks → ks.map (·.1) = (xs.map mkS).map Sum.inr
  | [], _, _, e, h => by cases e; rw [show _ = [] from h]; rfl
  | (k, p) :: kvs, _, xs, e, h => by
    obtain ⟨x, r, rfl, h1, h2⟩ := h
    cases k with
    | inl i => cases e
    | inr y =>
      obtain ⟨ys, e', rfl⟩ := Option.map_eq_some_iff.mp e
      simp [txKeys_rep e' h2, k1]
/-- sorted of texts, of whole numbers, of a dict's texts -/
def gSortA : PV → Option OT
  | .lst ps => (match strsOf ps with
    | some xs => if xs.length < 64 then some (.l ((sortT txLe xs).map .str)) else none
    | none => (intsOf ps).map fun ns => .l ((sortT (fun a b => decide (a ≤ b)) ns).map .int))
  | .dic kvs => (txKeys kvs).bind fun xs => if xs.length < 64 then some (.l ((sortT txLe xs).map .str)) else none
  | _ => none
def rSortA (K : PySem.W.Frag) : List V → Hp → VK → Prop := fun xs H Q => (rSortedS K xs H Q ∨ rSortedI K xs H Q) ∨ ∃ (a : Addr) (kvs : List (Key × V)) (ks : List Str), xs = [.ref a] ∧ Rd H a (.dK kvs) ∧ kvs.map (·.1) = ks.map Sum.inr ∧ ks.length < 64 ∧
    ∀ ys p, ys.Perm ks → sortedS ys = true → H p = none → Q (.ref p) (upd H p (.lst (ys.map V.str)))
theorem sortI_eq {xs ys : List Int} (hp : ys.Perm xs) (hs : ys.Pairwise (· ≤ ·)) : ys = sortT (fun a b => decide (a ≤ b)) xs := by
  have s2 : (sortT (fun a b => decide (a ≤ b)) xs).Pairwise (· ≤ ·) := (sortT_sorted (le := fun a b : Int => decide (a ≤ b)) (fun a b => by simp only [decide_eq_true_eq]; omega) (fun a b c h1 h2 => by simp only [decide_eq_true_eq] at *; omega) xs).imp fun h => of_decide_eq_true h
  exact (hp.trans (sortT_perm xs).symm).eq_of_pairwise (fun a b _ _ h1 h2 => Int.le_antisymm h1 h2) hs s2
section
variable {X : Cx}
theorem cr_sortA (hc : X.calm = true) : CallR X (.builtin "sorted") (rSortA X.K) := CallR.or (CallR.or cr_sortedS cr_sortedI) (call_sortedD hc)
theorem c_sortA : Call1 X.K (rSortA X.K) .I gSortA := fun C fp H p t v Q hg r k => by
  cases p <;> simp only [gSortA, reduceCtorEq] at hg
  case lst ps =>
    cases e : strsOf ps with
    | some xs =>
      rw [e] at hg
      exact .inl (.inl (c_sortS (X := X) C fp H _ t v Q (by show (strsOf ps).bind _ = _; rw [e]; exact hg) r k))
    | none =>
      rw [e] at hg
      obtain ⟨ns, en, rfl⟩ := Option.map_eq_some_iff.mp hg
      obtain ⟨a, vs, rfl, ha, rr⟩ := r
      rw [intsOf_eq en] at rr
      have ev := rr.ints
      refine .inl (.inr ⟨a, ns, rfl, by rw [ev] at ha; exact SqL.of ha, fun ys p hp hs hn => ?_⟩)
      rw [sortI_eq hp hs]
      exact k.l (Reps.of_ints _) p hn
  case dic kvs =>
    obtain ⟨xs, e, hg⟩ := Option.bind_eq_some_iff.mp hg
    split at hg
    · rename_i hl
      cases hg
      obtain ⟨a, ks, rfl, hr, rr⟩ := r
      refine .inr ⟨a, ks, xs.map mkS, rfl, hr, txKeys_rep e rr, by simpa using hl, fun ys p hp hs hn => ?_⟩
      rw [sorted_eq hp hs, List.map_map]
      exact k.l (Reps.of_strs _) p hn
    · cases hg
/-- list of a list, a tuple, a dict -/
def gListA : PV → Option OT
  | .lst x => some (.l x)
  | .tup x => some (.l x)
  | .dic kvs => some (.l (kvs.map fun q => keyPV q.1))
  | .rol x => some (.l x)
  | _ => none
def rListA (K : PySem.W.Frag) : List V → Hp → VK → Prop := fun xs H Q => (∃ p ys, xs = [.ref p] ∧ (SqL K H p ys ∨ SqT K H p ys) ∧ ∀ l, H l = none → Q (.ref l) (upd H l (.lst ys))) ∨ ∃ (a : Addr) (kvs : List (Key × V)), xs = [.ref a] ∧ Rd H a (.dK kvs) ∧ ∀ p, H p = none → Q (.ref p) (upd H p (.lst (kvs.map fun kv => kV kv.1)))
theorem call_listA (hc : X.calm = true) : CallR X (.type "list") (rListA X.K) := CallR.or call_list_of (call_listD hc)
theorem keys_reps {K : PySem.W.Frag} {A B : Addr → Prop} {H : Hp} : ∀ {kvs : List (K1 × PV)} {ks : List (Key × V)}, RepK K A H kvs ks → Reps K B H (kvs.map fun q => keyPV q.1) (ks.map fun kv => kV kv.1)
  | [], _, h => by rw [show _ = [] from h]; rfl
  | (k, p) :: kvs, _, h => by
    obtain ⟨x, r, rfl, h1, h2⟩ := h
    exact ⟨_, _, rfl, rep_keyPV k, keys_reps h2⟩
theorem c_listA : Call1 X.K (rListA X.K) .I gListA := fun C fp H p t v Q hg r k => by
  cases p with
  | dic kvs =>
    cases hg
    obtain ⟨a, ks, rfl, hr, rr⟩ := r
    exact .inr ⟨a, ks, rfl, hr, fun p hp => k.l (keys_reps rr) p hp⟩
  | lst ps => exact .inl (c_list (X := X) C fp H (.lst ps) t v Q hg r k)
  | tup ps => exact .inl (c_list (X := X) C fp H (.tup ps) t v Q hg r k)
  | rol ps => exact .inl (c_list (X := X) C fp H (.rol ps) t v Q hg r k)
  | _ => cases hg
end
@[simp] theorem gSortA_strs {xs : List Tx} (h : xs.length < 64) : gSortA (.lst (xs.map .str)) = some (OT.l ((sortT txLe xs).map .str)) := by
  show (match strsOf (xs.map .str) with
    | some xs => if xs.length < 64 then some (OT.l ((sortT txLe xs).map .str)) else none
    | none => (intsOf (xs.map .str)).map fun ns => OT.l ((sortT (fun a b => decide (a ≤ b)) ns).map .int)) = _
  rw [strsOf_map]
  exact if_pos h
theorem gSortA_dic {kvs : List (K1 × PV)} {xs : List Tx} (e : txKeys kvs = some xs) (h : xs.length < 64) : gSortA (.dic kvs) = some (OT.l ((sortT txLe xs).map .str)) := by
  show (txKeys kvs).bind (fun xs => if xs.length < 64 then some (OT.l ((sortT txLe xs).map .str)) else none) = _
  rw [e]
  exact if_pos h
@[simp] theorem gListA_lst (ps : List PV) : gListA (.lst ps) = some (.l ps) := (rfl)
@[simp] theorem gListA_tup (ps : List PV) : gListA (.tup ps) = some (.l ps) := (rfl)
@[simp] theorem gListA_dic (kvs : List (K1 × PV)) : gListA (.dic kvs) = some (.l (kvs.map fun q => keyPV q.1)) := (rfl)
@[simp] theorem m_lKeysV (i : Nat) (ρ : Env) : lKeysV i ρ = keysOfS ρ[i]? := (rfl)
@[simp] theorem keysOfS_dic (kvs : List (K1 × PV)) : keysOfS (some (.val (.dic kvs))) = .ok (kvs.map fun q => keyPV q.1) := (rfl)
end Fz
end
section
/-! Fyc: tuples and lists with own things in them, made. -/
namespace Fz
open PySem PySem.Spec PyProof.Rows L2
abbrev LO := Env → Res (List OT)
def tLO (K : PySem.W.Frag) (C : Addr → Prop) (W : WX) (f : LO) : TA := fun σ H Q => ∃ ρ fp, EnvOk K C ρ σ H fp ∧ Out (f ρ) (fun ts => ∀ vs H' F, Same H H' → F.Nodup → (∀ a ∈ F, H a = none) → OTReps K (fun a => Am C fp a ∧ a ∉ F) H' ts vs F → Q vs H') (XQ K W σ H)
def LOJ (X : Cx) (C : Addr → Prop) (W : WX) (es : List Expr) (n : Nat) (f : LO) : Prop := PA X es (tLO X.K C W f) ∧ ∀ ρ ps, f ρ = .ok ps → ps.length = n
def loNil : LO := fun _ => .ok []
def loCons (f : O) (g : LO) : LO := fun ρ => f ρ >>= fun p => g ρ >>= fun ps => .ok (p :: ps)
def oTupO (g : LO) : O := fun ρ => g ρ >>= fun ts => .ok (.T ts)
def oLstO (g : LO) : O := fun ρ => g ρ >>= fun ts => .ok (.L ts)
section
variable {X : Cx} {C : Addr → Prop} {W : WX} {e e1 e2 e3 o tg : Expr} {pos p2 pn tpos : Pos} {m m1 m2 m3 : Mode} {f f1 f2 f3 : E} {px : Px} {fo : O}
theorem lo_nil : LOJ X C W [] 0 loNil := ⟨pa_weak pa_nil fun σ H Q ⟨ρ, fp, eo, o⟩ => o [] H [] (Same.refl H) List.nodup_nil (fun _ h => nomatch h) ⟨rfl, rfl⟩, fun ρ ps h => by cases h; rfl⟩
theorem lo_cons {es : List Expr} {n : Nat} {g : LO} (h : OJ X C W e fo) (h2 : ∀ D, LOJ X D W es n g) (hs : starEach (e :: es) X.env = (false, eval e X.env) :: starEach es X.env := by rfl) : LOJ X C W (e :: es) (n + 1) (loCons fo g) := by
  have h2' : PA X es (fun σ H Q => ∃ D, tLO X.K D W g σ H Q) := ⟨fun pos pins s σ H Q I ⟨D, q⟩ => (h2 D).1.run pos pins s σ H Q I q⟩
  refine ⟨pa_weak (pa_cons h h2' hs) fun σ H Q ⟨ρ, fp, eo, o⟩ => ?_, fun ρ ps hp => ?_⟩
  · refine ⟨ρ, fp, eo, (Out.bind o).mono (fun t o1 v H1 F1 s1 n1 f1 r1 => ?_) fun _ _ q => q⟩
    have live : ∀ a ∈ F1, H1 a ≠ none := fun a ha z => by
      obtain ⟨oo, ho, _⟩ := OTRep.live r1 a ha
      rw [z] at ho; cases ho
    have eo' : EnvOk X.K (fun a => C a ∧ ¬ (a ∈ F1)) ρ σ H1 fp := eo.blockS (vs := []) (S := fun a => a ∈ F1) rfl f1 s1 live
    refine ⟨_, ρ, fp, eo', (Out.bind o1).mono (fun ts o2 vs H2 F2 s2 n2 f2 r2 => ?_) fun _ _ q => XQ.later s1 q⟩
    have dis : ∀ a ∈ F1, a ∉ F2 := fun a h1 h2 => live a h1 (f2 a h2)
    refine o2 (v :: vs) H2 (F1 ++ F2) (s1.trans s2) (List.nodup_append.mpr ⟨n1, n2, fun a ha b hb z => dis a ha (z ▸ hb)⟩) (fun a ha => ?_) ⟨v, vs, F1, F2, rfl, rfl, ?_, ?_⟩
    · rcases List.mem_append.mp ha with q | q
      · exact f1 a q
      · cases z : H a with
        | none => rfl
        | some o => have := f2 a q; rw [s1 _ _ z] at this; cases this
    · refine r1.carry (Carry.mk' (fun a o q z => ⟨q.1, fun y => (List.mem_append.mp y).elim q.2 fun y => by rw [f2 a y] at z; cases z⟩) (fun a o _ z => s2 _ _ z) (fun a xs z => s2 _ _ z) fun a o u z => s2 _ _ z) fun a _ o z => s2 _ _ z
    · exact OTReps.carry (Carry.refl fun a _ q _ => ⟨⟨q.1.1.1, q.1.2⟩, fun y => (List.mem_append.mp y).elim q.1.1.2 q.2⟩) (fun _ _ _ q => q) r2
  · obtain ⟨a, _, hp⟩ := bind_ok_inv hp
    obtain ⟨b, e2, hp⟩ := bind_ok_inv hp
    cases hp
    simp [(h2 C).2 _ _ e2]
/-- (a, b), with own things -/
theorem oj_tupO {es : List Expr} {n : Nat} {g : LO} {k : Nat} (h : LOJ X C W es n g) (hn : n ≤ sizeLine := by decide) : OJ X C W (.Tuple es k pos) (oTupO g) := pe_weak (pe_tup h.1) fun σ H Q ⟨ρ, fp, eo, o⟩ => by
  refine ⟨ρ, fp, eo, (Out.bind o).and.mono (fun ts ⟨e, q⟩ vs H1 F s nd f r => ?_) fun _ _ q => q⟩
  have hl : vs.length = n := (OTReps.get r).trans (h.2 ρ ts e)
  refine ⟨by rw [hl]; exact hn, fun p hp => ?_⟩
  have q : ∀ v H' Fn, Same H H' → Fn.Nodup → (∀ a ∈ Fn, H a = none) → OTRep X.K (fun a => Am C fp a ∧ a ∉ Fn) H' (.T ts) v Fn → Q v H' := q
  have nF : ∀ a ∈ F, a ≠ p := fun a ha z => by
    obtain ⟨oo, ho, _⟩ := OTReps.live r a ha
    rw [z, hp] at ho; cases ho
  have s2 : Same H1 (upd H1 p (.tup vs)) := same_upd hp
  exact q _ _ F (s.trans s2) nd f ⟨p, vs, rfl, upd_same, OTReps.carry (Carry.same s2 fun _ q => q) (fun a _ o q => s2 a o q) r⟩
/-- [a, b], with own things -/
theorem oj_lstO {es : List Expr} {n : Nat} {g : LO} (h : LOJ X C W es n g) (hn : n ≤ sizeLine := by decide) : OJ X C W (.List es pos) (oLstO g) := pe_weak (pe_lst h.1) fun σ H Q ⟨ρ, fp, eo, o⟩ => by
  refine ⟨ρ, fp, eo, (Out.bind o).and.mono (fun ts ⟨e, q⟩ vs H1 F s nd f r => ?_) fun _ _ q => q⟩
  have hl : vs.length = n := (OTReps.get r).trans (h.2 ρ ts e)
  refine ⟨by rw [hl]; exact hn, fun p hp => ?_⟩
  have q : ∀ v H' Fn, Same H H' → Fn.Nodup → (∀ a ∈ Fn, H a = none) → OTRep X.K (fun a => Am C fp a ∧ a ∉ Fn) H' (.L ts) v Fn → Q v H' := q
  have nF : p ∉ F := fun z => by
    obtain ⟨oo, ho, _⟩ := OTReps.live r p z
    rw [hp] at ho; cases ho
  have s2 : Same H1 (upd H1 p (.lst vs)) := same_upd hp
  have hp0 : H p = none := by
    cases z : H p with
    | none => rfl
    | some o => rw [s _ _ z] at hp; cases hp
  refine q _ _ (p :: F) (s.trans s2) (List.nodup_cons.mpr ⟨nF, nd⟩) (fun a ha => (List.mem_cons.mp ha).elim (fun z => z ▸ hp0) (f a)) ⟨p, vs, F, rfl, rfl, upd_same, OTReps.carry (Carry.mk' (fun a o q z => ⟨q.1, fun y => (List.mem_cons.mp y).elim (fun y => by rw [y, hp] at z; cases z) q.2⟩) (fun a o _ z => s2 _ _ z) (fun a xs z => s2 _ _ z) fun a o u z => s2 _ _ z) (fun a _ o q => s2 a o q) r⟩
/-- return (a, x): what x alone held is handed on -/
def retMv (p : PV) : Option Slot → Fl
  | some (.own t) => .rt (.T [.fz p, t])
  | some (.val q) => .rt (.T [.fz p, .fz q])
  | _ => .bad
def sRetMv (i : Nat) (f : E) : S := fun ρ => withR (f ρ) ρ fun p => retMv p ρ[i]?
theorem sj_retMv {i : Nat} {x : Str} {k : Nat} {px tp : Pos} (hN : X.N[i]? = some x) (hv : Vis X.env.scope x) (h : EJ X C W .E e f) (hd : (x == ("__debug__" : Str)) = false := by decide) (hcd : (x == ("__classdict__" : Str)) = false := by decide)
    (hs : starEach [e, .Name x px] X.env = (false, eval e X.env) :: starEach [.Name x px] X.env := by rfl) (hs2 : starEach [.Name x px] X.env = (false, eval (.Name x px) X.env) :: starEach [] X.env := by rfl) : SJ X C W (.Return (some (.Tuple [e, .Name x px] k tp)) pos) (sRetMv i f) :=
  ps_weak (ps_ret (pe_tup (pa_cons h (pa_cons (pe_var hN hv hd hcd) pa_nil hs2) hs))) fun D σ H ⟨ρ, fp, eo, q⟩ => by
    refine ⟨ρ, fp, eo, (FlQ.ofR eo q).mono (fun p q v H1 s1 r1 => ?_) fun _ _ q => q⟩
    have q := FlQ.later (Grow.same (fp := fp) s1) q
    have eo1 := eo.same s1
    have done : ∀ (t : OT) (w : V) (Fw : List Addr), (∀ a ∈ Fw, a ∈ fp i) → Fw.Nodup → OTRep X.K (Am C fp) H1 t w Fw → FlQ X.K C W D H1 fp (.rt (.T [.fz p, t])) → ∀ T, H1 T = none → D.rt (.ref T) (upd H1 T (.tup [v, w])) := fun t w Fw sub nd r q T hT => by
      have s2 : Same H1 (upd H1 T (.tup [v, w])) := same_upd hT
      have am : ∀ a, Am C fp a → C a ∧ a ∉ Fw := fun a q => ⟨q.1, fun z => q.2 ⟨i, sub a z⟩⟩
      have c : Carry (Am C fp) (fun a => C a ∧ a ∉ Fw) H1 (upd H1 T (.tup [v, w])) := Carry.same s2 am
      exact q _ _ Fw (grow_end (Grow.same s2)) nd (fun a ha => .inl ⟨i, sub a ha⟩) ⟨T, [v, w], rfl, upd_same, v, [w], [], Fw, rfl, rfl, ⟨rfl, Rep.carry c r1⟩, w, [], Fw, [], rfl, (List.append_nil _).symm, OTRep.carry c (fun a _ o z => s2 _ _ z) r, rfl, rfl⟩
    cases e : ρ[i]? with
    | none => rw [e] at q; exact q.elim
    | some sl =>
      rw [e] at q
      cases sl with
      | u => exact q.elim
      | bor p => exact q.elim
      | val z =>
        obtain ⟨_, w, hw, r⟩ := eo1.slot i _ e
        exact ⟨w, hw, by show 2 ≤ sizeLine; decide, fun T hT => done (.fz z) w [] (fun _ h => nomatch h) List.nodup_nil ⟨rfl, r⟩ q T hT⟩
      | own t =>
        obtain ⟨w, hw, r⟩ := eo1.slot i _ e
        exact ⟨w, hw, by show 2 ≤ sizeLine; decide, fun T hT => done t w (fp i) (fun _ h => h) (eo1.nod i) r q T hT⟩
end
section
variable (ρ : Env) (i : Nat) (f : E) (fo : O) (g : LO)
@[simp] theorem m_loNil : loNil ρ = .ok [] := (rfl)
@[simp] theorem m_loCons : loCons fo g ρ = fo ρ >>= fun p => g ρ >>= fun ps => .ok (p :: ps) := (rfl)
@[simp] theorem m_oTupO : oTupO g ρ = g ρ >>= fun ts => .ok (.T ts) := (rfl)
@[simp] theorem m_oLstO : oLstO g ρ = g ρ >>= fun ts => .ok (.L ts) := (rfl)
@[simp] theorem m_sRetMv : sRetMv i f ρ = withR (f ρ) ρ fun p => retMv p ρ[i]? := (rfl)
@[simp] theorem retMv_own (p : PV) (t : OT) : retMv p (some (.own t)) = .rt (.T [.fz p, t]) := (rfl)
@[simp] theorem retMv_val (p q : PV) : retMv p (some (.val q)) = .rt (.T [.fz p, .fz q]) := (rfl)
@[simp] theorem m_sForK (gg : G) (s : S) : sForK i gg s ρ = noEx (withR (lKeysV i ρ) ρ fun ps => loop gg s ps ρ) := (rfl)
@[simp] theorem pv_T (ts : List OT) : (OT.T ts).pv = .tup (OT.pvs ts) := (rfl)
@[simp] theorem pv_L (ts : List OT) : (OT.L ts).pv = .lst (OT.pvs ts) := (rfl)
@[simp] theorem pv_D (ts : List (K1 × OT)) : (OT.D ts).pv = .dic (OT.pvK ts) := (rfl)
@[simp] theorem pvs_nil : OT.pvs [] = [] := (rfl)
@[simp] theorem pvs_cons (t : OT) (ts : List OT) : OT.pvs (t :: ts) = t.pv :: OT.pvs ts := (rfl)
end
theorem pvs_map {α : Type} (F : α → OT) : ∀ xs : List α, OT.pvs (xs.map F) = xs.map fun x => (F x).pv
  | [] => rfl
  | x :: xs => by show (F x).pv :: OT.pvs (xs.map F) = _; rw [pvs_map F xs]; rfl
theorem pvK_map {α : Type} (ky : α → K1) (F : α → OT) : ∀ xs : List α, OT.pvK (xs.map fun x => (ky x, F x)) = xs.map fun x => (ky x, (F x).pv)
  | [] => rfl
  | x :: xs => by show (ky x, (F x).pv) :: OT.pvK (xs.map fun x => (ky x, F x)) = _; rw [pvK_map ky F xs]; rfl
theorem sat_noEx {f : Fl} {P : Po} (h : sat f { P with ex := fun _ _ _ => False }) : sat (noEx f) P := by
  unfold sat at h ⊢
  cases f <;> exact h
end Fz
end
section
/-! Fyd: borrowed things walked, unpacked: the names hold borrowed things. -/
namespace Fz
open PySem PySem.Spec PyProof.Rows L2
/-- may not be one's own -/
abbrev NF (fp : Fp) : Addr → Prop := fun a => ¬ InF fp a
def tR (K : PySem.W.Frag) (C : Addr → Prop) (W : WX) (f : E) : TE := fun σ H Q => ∃ ρ fp, EnvOk K C ρ σ H fp ∧ Out (f ρ) (fun p => ∀ v H', Same H H' → Rep K (NF fp) H' p v → Q v H') (XQ K W σ H)
def RJ (X : Cx) (C : Addr → Prop) (W : WX) (e : Expr) (f : E) : Prop := PE X e (tR X.K C W f)
def rvS : Option Slot → Res PV
  | some (.val p) => .ok p
  | some (.bor p) => .ok p
  | _ => .bad
def rVar (i : Nat) : E := fun ρ => rvS ρ[i]?
section
variable {X : Cx} {C : Addr → Prop} {W : WX} {e e1 e2 e3 o tg iter : Expr} {pos p2 pn tpos : Pos} {m m1 m2 m3 : Mode} {f f1 f2 f3 : E} {px : Px} {fo : O}
theorem am_nf {C : Addr → Prop} {fp : Fp} {K : PySem.W.Frag} {H : Hp} {p : PV} {v : V} (r : Rep K (Am C fp) H p v) : Rep K (NF fp) H p v := Rep.sub (fun _ q => q.2) r
theorem rj_var {i : Nat} {x : Str} (hN : X.N[i]? = some x) (hv : Vis X.env.scope x) (hd : (x == ("__debug__" : Str)) = false := by decide) (hcd : (x == ("__classdict__" : Str)) = false := by decide) : RJ X C W (.Name x pos) (rVar i) :=
  pe_weak (pe_var hN hv hd hcd) fun σ H Q ⟨ρ, fp, eo, o⟩ => by
    unfold rVar at o
    cases e : ρ[i]? with
    | none => rw [e] at o; exact o.elim
    | some s =>
      rw [e] at o
      cases s with
      | val p => obtain ⟨_, v, hv, r⟩ := eo.slot i _ e; exact ⟨v, hv, o v H (Same.refl H) (am_nf r)⟩
      | bor p => obtain ⟨_, v, hv, r⟩ := eo.slot i _ e; exact ⟨v, hv, o v H (Same.refl H) r⟩
      | _ => exact o.elim
theorem rj_E (h : EJ X C W .E e f) : RJ X C W e f := pe_weak h fun σ H Q ⟨ρ, fp, eo, o⟩ => ⟨ρ, fp, eo, o.mono (fun p q v H' s r => q v H' s (am_nf r)) fun _ _ q => q⟩
theorem rj_ix (hu : Hu X) (h1 : RJ X C W e1 f1) (h2 : EJ X C W m2 e2 f2) (hs : ∀ o i, subscripted e2 false o i = operate [o, i] (getItem o i) := by intro _ _; rfl) : RJ X C W (.Subscript e1 e2 pos) (eIx f1 f2) :=
  pe_weak (pe_or' (pe_ix ix_seq h1 h2 hs) (pe_dget hu.u1 h1 h2 hs)) fun σ H Q ⟨ρ, fp, eo, o⟩ => by
    have main : ∀ (R2 : V → V → Hp → Prop) (b : Bool), (∀ p q, f1 ρ = .ok p → f2 ρ = .ok q → (!isDict p) = b) → (∀ p q v u H2, Same H H2 → Out (ofO (gIx p q)) (fun z => ∀ v H', Same H H' → Rep X.K (NF fp) H' z v → Q v H') (XQ X.K W σ H) → Rep X.K (NF fp) H2 p v → RepM X.K C fp m2 H2 q u → (!isDict p) = b → R2 v u H2) →
        tR X.K C W f1 σ H fun x H1 => tE X.K C W m2 f2 σ H1 fun y H2 => R2 x y H2 := fun R2 b hb h2 => by
      refine ⟨ρ, fp, eo, (Out.bind o).and.mono (fun p ⟨e1, o1⟩ v H1 s1 r1 => ?_) fun _ _ q => q⟩
      refine ⟨ρ, fp, eo.same s1, (Out.bind o1).and.mono (fun q ⟨e2, o2⟩ u H2 s2 r2 => ?_) fun _ _ q => XQ.later s1 q⟩
      exact h2 p q v u H2 (s1.trans s2) o2 (r1.same s2) r2 (hb p q e1 e2)
    by_cases hb : ∃ p q, f1 ρ = .ok p ∧ f2 ρ = .ok q ∧ (!isDict p) = false
    · right
      obtain ⟨p0, q0, e1, e2, e3⟩ := hb
      refine main _ false (fun p q h1 h2 => by rw [e1] at h1; rw [e2] at h2; cases h1; cases h2; exact e3) fun p q v u H2 s o2 r1 r2 hs => ?_
      obtain ⟨z, hz, hQ⟩ := Out.ofO o2
      exact (ix_sel hz (Rep.toI r1) (RepM.toB r2) fun w r => hQ w H2 s r).2 hs
    · left
      refine main _ true (fun p q h1 h2 => by
        cases z : (!isDict p) with
        | true => rfl
        | false => exact (hb ⟨p, q, h1, h2, z⟩).elim) fun p q v u H2 s o2 r1 r2 hs => ?_
      obtain ⟨z, hz, hQ⟩ := Out.ofO o2
      exact (ix_sel hz (Rep.toI r1) (RepM.toB r2) fun w r => hQ w H2 s r).1 hs
/-! targets -/
def gNmB (i : Nat) : G := fun p ρ => if i < ρ.length then some (ρ.set i (.bor p)) else none
def tGtR (vs : List Nat) (K : PySem.W.Frag) (C : Addr → Prop) (g : G) : TG := fun v σ H Q => ∃ ρ fp p ρ', EnvOk K C ρ σ H fp ∧ Rep K (NF fp) H p v ∧ g p ρ = some ρ' ∧ ∀ σ' fp', EnvOk K C ρ' σ' H fp' → Grow H fp H fp' → But vs σ σ' → (∀ j, j ∉ vs → fp' j = fp j) → Q σ' H
def GJR (X : Cx) (C : Addr → Prop) (vs : List Nat) (e : Expr) (g : G) : Prop := PG X e (tGtR vs X.K C g)
def tGtsR (is : List Nat) (K : PySem.W.Frag) (C : Addr → Prop) (g : Gs) : TGs := fun vs σ H Q => ∃ ρ fp ps ρ', EnvOk K C ρ σ H fp ∧ Reps K (NF fp) H ps vs ∧ g ps ρ = some ρ' ∧ ∀ σ' fp', EnvOk K C ρ' σ' H fp' → Grow H fp H fp' → But is σ σ' → (∀ j, j ∉ is → fp' j = fp j) → Q σ' H
def GJsR (X : Cx) (C : Addr → Prop) (vs : List Nat) (es : List Expr) (g : Gs) : Prop := PGs X es (tGtsR vs X.K C g)
theorem gjr_name {i : Nat} {x : Str} {vs : List Nat} (hN : X.N.Nodup) (hi : X.N[i]? = some x) (hx : Loc X.env.scope x) (hv : i ∈ vs := by decide) (hf : X.fn x = true ∨ X.env.scope.names.lookup x = some .local := by first | exact .inl rfl | exact .inr rfl | assumption) : GJR X C vs (.Name x pos) (gNmB i) :=
  pg_weak (pg_name hN hi hx hf) fun v σ H Q ⟨ρ, fp, p, ρ', eo, r, hg, k⟩ => by
    unfold gNmB at hg
    split at hg
    · rename_i hl
      cases hg
      obtain ⟨e1, g1⟩ := eo.setBor hl r
      exact k _ _ e1 g1 ⟨by simp, fun j hj => List.getElem?_set_ne fun z => hj (by rw [← z]; exact hv)⟩ fun j hj => put_ne fun z => hj (by rw [z]; exact hv)
    · cases hg
theorem gjsr_nil {vs : List Nat} : GJsR X C vs [] gsNil := pgs_weak pgs_nil fun v σ H Q ⟨ρ, fp, ps, ρ', eo, r, hg, k⟩ => by
  cases ps with
  | nil =>
    cases hg
    rw [show v = [] from r]
    exact ⟨rfl, k σ fp eo Grow.refl ⟨rfl, fun _ _ => rfl⟩ fun _ _ => rfl⟩
  | cons p ps => cases hg
theorem gjsr_cons {es : List Expr} {g : G} {h : Gs} {vs : List Nat} (h1 : GJR X C vs e g) (h2 : GJsR X C vs es h) (hs : (assignEach (e :: es) X.env).map (·.2) = assign e X.env :: (assignEach es X.env).map (·.2) := by rfl) : GJsR X C vs (e :: es) (gsCons g h) :=
  pgs_weak (pgs_cons h1 h2 hs) fun v σ H Q ⟨ρ, fp, ps, ρ', eo, r, hg, k⟩ => by
    cases ps with
    | nil => cases hg
    | cons p ps =>
      obtain ⟨x, t, rfl, r1, r2⟩ := r
      simp only [gsCons] at hg
      cases e1 : g p ρ with
      | none => rw [e1] at hg; cases hg
      | some ρ1 =>
        rw [e1] at hg
        refine ⟨x, t, rfl, ρ, fp, p, ρ1, eo, r1, e1, fun σ1 fp1 eo1 g1 b1 p1 => ?_⟩
        exact ⟨ρ1, fp1, ps, ρ', eo1, Reps.carry g1.carryB r2, hg, fun σ2 fp2 eo2 g2 b2 p2 => k σ2 fp2 eo2 (g1.trans g2) (b1.trans b2) fun j hj => (p2 j hj).trans (p1 j hj)⟩
theorem gjr_tup {es : List Expr} {k n : Nat} {h : Gs} {vs : List Nat} (hc : X.calm = true) (h1 : GJsR X C vs es h) (hn : (assignEach es X.env).length = n := by rfl) (hst : (assignEach es X.env).findIdx? (·.1) = none := by rfl) : GJR X C vs (.Tuple es k pos) (gTp n h) :=
  pg_weak (pg_tup hc h1 hn hst) fun v σ H Q ⟨ρ, fp, p, ρ', eo, r, hg, k⟩ => by
    cases p <;> simp only [gTp, reduceCtorEq] at hg
    split at hg
    · rename_i hl
      obtain ⟨a, xs, rfl, ha, rr⟩ := r
      exact ⟨a, xs, rfl, SqT.of ha, by rw [rr.length]; exact hl, ρ, fp, _, ρ', eo, rr, hg, k⟩
    · cases hg
/-- a, b = e, e borrowed -/
theorem sj_asgTR {g : G} {vs : List Nat} (he : RJ X C W e f) (hg : GJR X C vs tg g) (hs : swapsWithSole [tg] e pos.line X.env = pure false := by rfl) (hw : swappedStores [tg] e X.env = pure none := by rfl) (h1 : (assignEach [tg] X.env).map (·.2) = [assign tg X.env] := by rfl) : SJ X C W (.Assign [tg] e pos) (sAsgT g f) :=
  ps_weak (ps_asg he hg hs hw h1) fun D σ H ⟨ρ, fp, eo, h⟩ => by
    refine ⟨ρ, fp, eo, (FlQ.ofR eo h).mono (fun p q v H1 s r => ?_) fun _ _ q => q⟩
    have q := FlQ.later (Grow.same (fp := fp) s) q
    split at q
    · rename_i ρ' hρ
      exact ⟨ρ, fp, p, ρ', eo.same s, r, hρ, fun σ2 fp2 e2 g2 _ _ => q σ2 _ fp2 e2 g2⟩
    · exact q.elim
/-! what is walked -/
def tIR (K : PySem.W.Frag) (C : Addr → Prop) (W : WX) (f : L) : TI := fun σ H R => ∃ ρ fp, EnvOk K C ρ σ H fp ∧ Out (f ρ) (fun items => ∀ J H', Same H H' → IterOk K (NF fp) H' (relG H' fp) J items → R J H') (XQ K W σ H)
def IJR (X : Cx) (C : Addr → Prop) (W : WX) (tg iter : Expr) (f : L) : Prop := PI X tg iter (tIR X.K C W f)
theorem seq_standsR {K : PySem.W.Frag} {H0 : Hp} {fp0 : Fp} {p : PV} {v : V} {ps : List PV} (r : Rep K (NF fp0) H0 p v) (h : itemsOf p = .ok ps) : Stands K (NF fp0) H0 (relG H0 fp0) p v ps := by
  cases p <;> simp only [itemsOf, Res.ok.injEq, reduceCtorEq] at h <;> subst h
  · obtain ⟨a, xs, rfl, ha, rr⟩ := r
    exact ⟨a, xs, rfl, rr, fun z => (by cases z), fun _ H g => SqT.of (g.2.1 _ _ ha)⟩
  · obtain ⟨a, xs, rfl, hA, ha, rr⟩ := r
    exact ⟨a, xs, rfl, rr, fun _ H g => SqL.of (g.1 _ _ ha hA), fun z => by cases z⟩
  · obtain ⟨a, xs, rfl, ha, rr⟩ := r
    exact ⟨a, xs, rfl, rr, fun _ H g => ro_rel g.2.2 ha, fun z => by cases z⟩
theorem ijr_seq (h : RJ X C W iter f) : IJR X C W tg iter (lOfA f) :=
  pi_weak (pi_or (pi_or (pi_list h) (pi_tup h)) (pi_str h)) fun σ H R ⟨ρ, fp, eo, o⟩ => by
    by_cases ht : ∃ x, f ρ = .ok (.str x)
    · obtain ⟨x, e0⟩ := ht
      right
      refine ⟨ρ, fp, eo, (Out.bind o).and.mono (fun p ⟨e1, o1⟩ v H1 s1 r1 => ?_) fun _ _ q => q⟩
      rw [e0] at e1; cases e1
      exact ⟨mkS x, r1, (show Out (Res.ok (signsOf x)) _ _ from o1) _ H1 s1 (iter_str x)⟩
    · left
      have o : Out (f ρ >>= itemsA) _ _ := o
      by_cases hT : ∃ p, f ρ = .ok p ∧ isTupP p = true
      · obtain ⟨p0, e0, t0⟩ := hT
        right
        refine ⟨ρ, fp, eo, (Out.bind o).and.mono (fun p ⟨e1, o1⟩ v H1 s1 r1 => ?_) fun _ _ q => q⟩
        rw [e0] at e1; cases e1
        cases p0 <;> first | (cases t0; done) | skip
        obtain ⟨a, xs, rfl, rr, _, h2⟩ := seq_standsR r1 rfl
        exact ⟨a, rfl, ⟨xs, h2 rfl H1 relG.refl⟩, (show Out (Res.ok _) _ _ from o1) _ H1 s1 (iter_tup rr (h2 rfl))⟩
      · left
        refine ⟨ρ, fp, eo, (Out.bind o).and.mono (fun p ⟨e1, o1⟩ v H1 s1 r1 => ?_) fun _ _ q => q⟩
        cases p with
        | str x => exact (ht ⟨x, e1⟩).elim
        | tup ps => exact (hT ⟨_, e1, rfl⟩).elim
        | lst ps =>
          obtain ⟨a, xs, rfl, rr, h2, _⟩ := seq_standsR r1 rfl
          exact ⟨a, rfl, ⟨xs, h2 rfl H1 relG.refl⟩, (show Out (Res.ok _) _ _ from o1) _ H1 s1 (iter_list rr (h2 rfl))⟩
        | rol ps =>
          obtain ⟨a, xs, rfl, rr, h2, _⟩ := seq_standsR r1 rfl
          exact ⟨a, rfl, ⟨xs, h2 rfl H1 relG.refl⟩, (show Out (Res.ok _) _ _ from o1) _ H1 s1 (iter_list rr (h2 rfl))⟩
        | _ => exact o1.elim
theorem sj_forR {l : L} {g : G} {body : S} {sts : List Stmt} {vs : List Nat} (hp : PassesOwn (model X.prog X.w) X.A X.env X.xe) (hc : X.calm = true) (hi : IJR X C W tg iter l) (hg : GJR X C vs tg g) (hb : BJ X C W sts body) (hs : ∀ x, foldedSetIterable iter X.env x = pure x := by intro _; rfl) :
    SJ X C W (.For tg iter sts [] pos) (sFor l g body) :=
  ps_weak (ps_for hp hc hi hg hb hs) fun D σ H ⟨ρ, fp, eo, h⟩ => by
    refine ⟨ρ, fp, eo, (FlQ.ofR eo h).mono (fun items q J H0 s0 it => ?_) fun _ _ q => q⟩
    refine ⟨fun i m σ H => m = items.length - i ∧ ∃ ρ fp', EnvOk X.K C ρ σ H fp' ∧ Grow H0 fp H fp' ∧ FlQ X.K C W D H fp' (loop g body (items.drop i) ρ), ⟨_, rfl, ρ, fp, eo.same s0, Grow.refl, FlQ.later (Grow.same s0) q⟩, ?_⟩
    rintro i m' σ1 H1 ⟨rfl, ρ1, fp1, eo1, g1, q1⟩
    obtain ⟨it1, it2⟩ := it H1 (NF fp1) ⟨g1.keep, g1.tups, g1.frz⟩ g1.carryB i
    by_cases hi : i < items.length
    · have hx : items[i]? = some items[i] := List.getElem?_eq_getElem hi
      obtain ⟨go, yl⟩ := it1 _ hx
      rw [List.drop_eq_getElem_cons hi] at q1
      refine .inr ⟨go, fun σ' H' => ∃ ρ' fp', EnvOk X.K C ρ' σ' H' fp' ∧ Grow H0 fp H' fp' ∧ FlQ X.K C W D H' fp' (loop g body (items.drop (i + 1)) ρ'), fun σ' H' ⟨ρ', fp', a, b, c⟩ => ⟨items.length - (i + 1), by omega, rfl, ρ', fp', a, b, c⟩, fun x H' hy => ?_⟩
      obtain ⟨s2, r⟩ := yl x H' hy
      have q2 := FlQ.later (Grow.same (fp := fp1) s2) q1
      unfold loop at q2
      split at q2
      · exact q2.elim
      · rename_i ρ2 hρ
        refine ⟨ρ1, fp1, items[i], ρ2, eo1.same s2, r, hρ, fun σ3 fp3 eo3 g3 _ _ => ⟨ρ2, fp3, eo3, ?_⟩⟩
        have q3 := FlQ.later g3 q2
        have gg : Grow H0 fp H' fp3 := g1.trans ((Grow.same s2).trans g3)
        cases z : body ρ2 with
        | nx a => rw [z] at q3; exact fun σ4 H4 fp4 eo4 g4 => ⟨_, fp4, eo4, gg.trans g4, FlQ.later g4 q3⟩
        | ct a => rw [z] at q3; exact fun σ4 H4 fp4 eo4 g4 => ⟨_, fp4, eo4, gg.trans g4, FlQ.later g4 q3⟩
        | bk a => rw [z] at q3; exact q3
        | rt a => rw [z] at q3; exact q3
        | ex a b c => rw [z] at q3; exact q3
        | bad => rw [z] at q3; exact q3.elim
    · rw [List.drop_eq_nil_of_le (Nat.le_of_not_lt hi)] at q1
      exact .inl ⟨it2 (Nat.le_of_not_lt hi), q1 σ1 H1 fp1 eo1 Grow.refl⟩
end
section
variable (ρ : Env) (i : Nat) (p : PV)
@[simp] theorem m_rVar : rVar i ρ = rvS ρ[i]? := (rfl)
@[simp] theorem rvS_val : rvS (some (.val p)) = .ok p := (rfl)
@[simp] theorem rvS_bor : rvS (some (.bor p)) = .ok p := (rfl)
@[simp] theorem m_gNmB : gNmB i p ρ = if i < ρ.length then some (ρ.set i (.bor p)) else none := (rfl)
@[simp] theorem stp_nmB (body : S) : stp (gNmB i) body p ρ = if i < ρ.length then body (ρ.set i (.bor p)) else .bad := by
  unfold stp gNmB
  split
  · rename_i h; split at h
    · cases h
    · rw [if_neg ‹_›]
  · rename_i h; split at h
    · cases h; rw [if_pos ‹_›]
    · cases h
end
end Fz
end
section
/-! Fye: for the plain proofs: loops over typed lists, equality of values, sorted lists. -/
namespace Fz
open PySem (sizeLine)
open L2 (atI ixN)
theorem sat_list {α : Type} {g : G} {body : S} {P : Po} {inj : α → PV} {xs : List α} {ρ : Env} (I : List α → Env → Prop) (h0 : I [] ρ)
    (st : ∀ d x r ρ, xs = d ++ x :: r → I d ρ → sat (stp g body (inj x) ρ) { P with nx := I (d ++ [x]), ct := I (d ++ [x]), bk := P.nx }) (he : ∀ ρ, I xs ρ → P.nx ρ) : sat (loop g body (xs.map inj) ρ) P := by
  refine sat_for (fun k ρ => I (xs.take k) ρ) (by simpa using h0) (fun k p ρ hp hI => ?_) (fun ρ h => he ρ (by simpa using h))
  rw [List.getElem?_map] at hp
  obtain ⟨x, hx, rfl⟩ := Option.map_eq_some_iff.mp hp
  obtain ⟨hk, rfl⟩ := List.getElem?_eq_some_iff.mp hx
  have e : xs.take (k + 1) = xs.take k ++ [xs[k]] := by rw [List.take_succ, hx]; rfl
  have := st (xs.take k) xs[k] (xs.drop (k + 1)) ρ (by rw [← List.drop_eq_getElem_cons hk, List.take_append_drop]) hI
  rw [← e] at this
  exact this
/-- a loop that carries a state on -/
theorem sat_fold {α β : Type} {g : G} {body : S} {P : Po} {inj : α → PV} {xs : List α} {ρ : Env} (R : β → Env → Prop) (f : β → α → β) (b : β) (h0 : R b ρ)
    (st : ∀ b x ρ, x ∈ xs → R b ρ → sat (stp g body (inj x) ρ) { P with nx := R (f b x), ct := R (f b x), bk := P.nx }) (he : ∀ ρ, R (xs.foldl f b) ρ → P.nx ρ) : sat (loop g body (xs.map inj) ρ) P :=
  sat_list (fun d ρ => R (d.foldl f b) ρ) h0 (fun d x r ρ hx hI => by
    have := st _ x ρ (by rw [hx]; simp) hI
    simpa using this) he
/-- a loop that stops at the first that serves -/
theorem sat_find {α : Type} {g : G} {body : S} {P : Po} {inj : α → PV} {xs : List α} {ρ : Env} (R : Env → Prop) (c : α → Bool) (h0 : R ρ)
    (no : ∀ x ρ, x ∈ xs → c x = false → R ρ → sat (stp g body (inj x) ρ) { P with nx := R, ct := R, bk := P.nx }) (yes : ∀ x ρ, xs.find? c = some x → R ρ → sat (stp g body (inj x) ρ) { P with nx := fun _ => False, ct := fun _ => False, bk := P.nx }) (he : ∀ ρ, xs.find? c = none → R ρ → P.nx ρ) : sat (loop g body (xs.map inj) ρ) P := by
  induction xs generalizing ρ with
  | nil => rw [List.map_nil, sat_nil]; exact he ρ rfl h0
  | cons x xs ih =>
    rw [List.map_cons, sat_cons]
    by_cases hc : c x = true
    · refine sat.mono (yes x ρ (by rw [List.find?_cons, hc]) h0) (fun _ h => h.elim) (fun _ h => h) (fun _ h => h.elim) (fun _ h => h) fun _ _ _ h => h
    · have hc : c x = false := by simpa using hc
      have ef : (x :: xs).find? c = xs.find? c := by rw [List.find?_cons, hc]
      rw [ef] at yes he
      refine sat.mono (no x ρ List.mem_cons_self hc h0) (fun ρ' h => ?_) (fun _ h => h) (fun ρ' h => ?_) (fun _ h => h) fun _ _ _ h => h
      · exact ih h (fun y ρ hy => no y ρ (List.mem_cons_of_mem _ hy)) yes he
      · exact ih h (fun y ρ hy => no y ρ (List.mem_cons_of_mem _ hy)) yes he
/-! equal values -/
mutual
theorem pvEq_refl : ∀ (p : PV), isData p = true → pvEq p p = true
  | .non, _ => by simp [pvEq]
  | .bl b, _ => by simp [pvEq]
  | .int b, _ => by simp [pvEq]
  | .str b, _ => by simp [pvEq]
  | .tup ps, h => by simp only [isData] at h; simp only [pvEq]; exact pvEqs_refl ps h
  | .lst ps, h => by simp only [isData] at h; simp only [pvEq]; exact pvEqs_refl ps h
  | .rol ps, h => by simp only [isData] at h; simp only [pvEq]; exact pvEqs_refl ps h
  | .dic _, h => by simp [isData] at h
  | .dit _, h => by simp [isData] at h
  | .ins _ _, h => by simp [isData] at h
theorem pvEqs_refl : ∀ (ps : List PV), isDatas ps = true → pvEqs ps ps = true
  | [], _ => by simp [pvEqs]
  | p :: ps, h => by
    simp only [isDatas, Bool.and_eq_true] at h
    simp only [pvEqs, Bool.and_eq_true]
    exact ⟨pvEq_refl p h.1, pvEqs_refl ps h.2⟩
end
theorem pvEqs_map {α : Type} [DecidableEq α] {f : α → PV} (h : ∀ x y, pvEq (f x) (f y) = decide (x = y)) : ∀ xs ys : List α, pvEqs (xs.map f) (ys.map f) = decide (xs = ys)
  | [], [] => by simp [pvEqs]
  | [], _ :: _ => by simp [pvEqs]
  | _ :: _, [] => by simp [pvEqs]
  | x :: xs, y :: ys => by
    simp only [List.map_cons, pvEqs, h, pvEqs_map h xs ys]
    by_cases e : x = y <;> simp [e]
theorem pvEq_strs (xs ys : List Tx) : pvEq (.lst (xs.map .str)) (.lst (ys.map .str)) = decide (xs = ys) := by
  simp only [pvEq]
  exact pvEqs_map (fun x y => by simp only [pvEq]; by_cases h : x = y <;> simp [h]) xs ys
theorem eqOk_data {p : PV} (h : eqOk p = true) : isData p = true := by
  unfold eqOk at h
  simp only [Bool.and_eq_true] at h
  exact h.1
theorem gEq_refl {p : PV} (h : eqOk p = true) : gEq p p = some true := by rw [gEq_of h h, pvEq_refl p (eqOk_data h)]
theorem gNe_refl {p : PV} (h : eqOk p = true) : gNe p p = some false := by rw [gNe_of h h, pvEq_refl p (eqOk_data h)]; rfl
/-- data of a depth -/
def okD (n : Nat) (p : PV) : Prop := isData p = true ∧ dep p ≤ n
theorem okD.eqOk {n : Nat} {p : PV} (h : okD n p) (hn : n ≤ 64) : eqOk p = true := by
  unfold Fz.eqOk
  rw [h.1]
  simp only [Bool.true_and, decide_eq_true_eq]
  have := h.2
  omega
theorem okD_str (x : Tx) : okD 0 (.str x) := ⟨rfl, Nat.le_refl _⟩
theorem okD_int (x : Int) : okD 0 (.int x) := ⟨rfl, Nat.le_refl _⟩
theorem okD_bl (x : Bool) : okD 0 (.bl x) := ⟨rfl, Nat.le_refl _⟩
theorem okD_non : okD 0 .non := ⟨rfl, Nat.le_refl _⟩
theorem okD.up {n m : Nat} {p : PV} (h : okD n p) (hm : n ≤ m) : okD m p := ⟨h.1, Nat.le_trans h.2 hm⟩
theorem okDs {n : Nat} : ∀ {ps : List PV}, (∀ p ∈ ps, okD n p) → isDatas ps = true ∧ deps ps ≤ n
  | [], _ => ⟨rfl, Nat.zero_le _⟩
  | p :: ps, h => by
    obtain ⟨h1, h2⟩ := h p List.mem_cons_self
    obtain ⟨i1, i2⟩ := okDs fun q hq => h q (List.mem_cons_of_mem _ hq)
    exact ⟨by show (isData p && isDatas ps) = true; rw [h1, i1]; rfl, by show max (dep p) (deps ps) ≤ n; exact Nat.max_le.mpr ⟨h2, i2⟩⟩
theorem okD_lst {n : Nat} {ps : List PV} (h : ∀ p ∈ ps, okD n p) : okD (n + 1) (.lst ps) := ⟨(okDs h).1, Nat.succ_le_succ (okDs h).2⟩
theorem okD_tup {n : Nat} {ps : List PV} (h : ∀ p ∈ ps, okD n p) : okD (n + 1) (.tup ps) := ⟨(okDs h).1, Nat.succ_le_succ (okDs h).2⟩
theorem okD_strs (xs : List Tx) : okD 1 (.lst (xs.map .str)) := okD_lst fun p hp => by obtain ⟨x, _, rfl⟩ := List.mem_map.mp hp; exact okD_str x
theorem okD_ints (xs : List Int) : okD 1 (.lst (xs.map .int)) := okD_lst fun p hp => by obtain ⟨x, _, rfl⟩ := List.mem_map.mp hp; exact okD_int x
/-! places -/
theorem atI_nat {α : Type} (xs : List α) (k : Nat) : atI xs (k : Int) = xs[k]? := by
  unfold atI ixN
  rw [if_pos (by omega)]
  by_cases h : k < xs.length
  · rw [if_pos (by omega)]; simp
  · rw [if_neg (by omega)]
    rw [List.getElem?_eq_none (by omega)]; rfl
@[simp] theorem atI_0 {α : Type} (x : α) (xs : List α) : atI (x :: xs) 0 = some x := (atI_nat _ 0).trans rfl
@[simp] theorem atI_1 {α : Type} (x y : α) (xs : List α) : atI (x :: y :: xs) 1 = some y := (atI_nat _ 1).trans rfl
@[simp] theorem atI_2 {α : Type} (x y z : α) (xs : List α) : atI (x :: y :: z :: xs) 2 = some z := (atI_nat _ 2).trans rfl
@[simp] theorem atI_3 {α : Type} (x y z w : α) (xs : List α) : atI (x :: y :: z :: w :: xs) 3 = some w := (atI_nat _ 3).trans rfl
/-! sorted lists -/
section
variable {α : Type} {le : α → α → Bool}
theorem mem_sortT {x : α} {xs : List α} : x ∈ sortT le xs ↔ x ∈ xs := (sortT_perm xs).mem_iff
theorem len_sortT (xs : List α) : (sortT le xs).length = xs.length := (sortT_perm xs).length_eq
theorem nodup_sortT {xs : List α} (h : xs.Nodup) : (sortT le xs).Nodup := (sortT_perm xs).nodup_iff.mpr h
theorem sortT_eq (tot : ∀ a b, le a b = true ∨ le b a = true) (tr : ∀ a b c, le a b = true → le b c = true → le a c = true) (anti : ∀ a b, le a b = true → le b a = true → a = b) {xs ys : List α} (h : xs.Perm ys) (hs : ys.Pairwise fun a b => le a b = true) : sortT le xs = ys :=
  ((sortT_perm xs).trans h).eq_of_pairwise (fun a b _ _ h1 h2 => anti a b h1 h2) (sortT_sorted tot tr xs) hs
end
theorem sortX_eq {xs ys : List Tx} (h : xs.Perm ys) (hs : ys.Pairwise fun a b => txLe a b = true) : sortT txLe xs = ys := sortT_eq txLe_total txLe_trans (fun _ _ => txLe_antisymm) h hs
theorem sortX_sorted (xs : List Tx) : (sortT txLe xs).Pairwise fun a b => txLe a b = true := sortT_sorted txLe_total txLe_trans xs
theorem sortX_perm {xs ys : List Tx} (h : xs.Perm ys) : sortT txLe xs = sortT txLe ys := sortX_eq (h.trans (sortT_perm ys).symm) (sortX_sorted ys)
theorem sortX_self {xs : List Tx} (h : xs.Pairwise fun a b => txLe a b = true) : sortT txLe xs = xs := sortX_eq (.refl _) h
/-- strictly rising -/
theorem sortX_strict {xs : List Tx} (h : xs.Nodup) : (sortT txLe xs).Pairwise fun a b => txLt a b = true := by
  have h1 := sortX_sorted xs
  have h2 : (sortT txLe xs).Pairwise (· ≠ ·) := nodup_sortT h
  refine (h1.and h2).imp ?_
  rintro a b ⟨h3, h4⟩
  cases z : txLt a b with
  | true => rfl
  | false => exact absurd (txLe_antisymm h3 (by unfold txLe; rw [z]; rfl)) h4

theorem snoc_m {α : Type} (f : α → PV) (xs : List α) (x : α) : xs.map f ++ [f x] = (xs ++ [x]).map f := by simp
/-! None or a text -/
def ansP : Option Tx → PV
  | some a => .str a
  | none => .non
@[simp] theorem ansP_some (a : Tx) : ansP (some a) = .str a := (rfl)
@[simp] theorem ansP_none : ansP none = .non := (rfl)
@[simp] theorem nonP_non : isNonP .non = true := (rfl)
@[simp] theorem nonP_str (x : Tx) : isNonP (.str x) = false := (rfl)
@[simp] theorem nonP_int (x : Int) : isNonP (.int x) = false := (rfl)
@[simp] theorem nonP_bl (x : Bool) : isNonP (.bl x) = false := (rfl)
@[simp] theorem nonP_tup (x : List PV) : isNonP (.tup x) = false := (rfl)
@[simp] theorem nonP_lst (x : List PV) : isNonP (.lst x) = false := (rfl)
@[simp] theorem nonP_dic (x : List (K1 × PV)) : isNonP (.dic x) = false := (rfl)
theorem nonP_ans (o : Option Tx) : isNonP (ansP o) = o.isNone := by cases o <;> rfl
@[simp] theorem gIsN_p (p : PV) : gIsN p .non = some (isNonP p) := (rfl)
@[simp] theorem gNotN_p (p : PV) : gNotN p .non = some (!isNonP p) := (rfl)
theorem okD_ans (o : Option Tx) : okD 0 (ansP o) := by cases o <;> exact ⟨rfl, Nat.le_refl _⟩
theorem pvEq_ans (a b : Option Tx) : pvEq (ansP a) (ansP b) = decide (a = b) := by
  cases a with
  | none => cases b <;> simp [ansP, pvEq]
  | some a => cases b with
    | none => simp [ansP, pvEq]
    | some b => by_cases h : a = b <;> simp [ansP, pvEq, h]
theorem gEq_ans (a b : Option Tx) : gEq (ansP a) (ansP b) = some (decide (a = b)) := by
  rw [gEq_of ((okD_ans a).eqOk (by omega)) ((okD_ans b).eqOk (by omega)), pvEq_ans]
theorem gNe_ans (a b : Option Tx) : gNe (ansP a) (ansP b) = some (!decide (a = b)) := by
  rw [gNe_of ((okD_ans a).eqOk (by omega)) ((okD_ans b).eqOk (by omega)), pvEq_ans]
/-! paths -/
@[simp] theorem kids_T (ts : List OT) : (OT.T ts).kids = ts := (rfl)
@[simp] theorem kids_L (ts : List OT) : (OT.L ts).kids = ts := (rfl)
@[simp] theorem kids_D (ts : List (K1 × OT)) : (OT.D ts).kids = ts.map Prod.snd := (rfl)
@[simp] theorem setKid_T (ts : List OT) (i : Nat) (n : OT) : (OT.T ts).setKid i n = .T (ts.set i n) := (rfl)
@[simp] theorem setKid_L (ts : List OT) (i : Nat) (n : OT) : (OT.L ts).setKid i n = .L (ts.set i n) := (rfl)
@[simp] theorem setKid_D (ts : List (K1 × OT)) (i : Nat) (n : OT) : (OT.D ts).setKid i n = .D (setSnd ts i n) := (rfl)
theorem at_cons' (t : OT) (i : Nat) (π : List Nat) : t.at (i :: π) = (t.kids[i]?).bind fun k => k.at π := by
  show (match t.kids[i]? with
    | some k => k.at π
    | none => none) = _
  cases t.kids[i]? <;> rfl
def putKid (t n : OT) (i : Nat) (π : List Nat) : Option OT → OT
  | some k => t.setKid i (k.put π n)
  | none => t
@[simp] theorem putKid_some (t n k : OT) (i : Nat) (π : List Nat) : putKid t n i π (some k) = t.setKid i (k.put π n) := (rfl)
theorem put_cons' (t n : OT) (i : Nat) (π : List Nat) : t.put (i :: π) n = putKid t n i π t.kids[i]? := by
  show (match t.kids[i]? with
    | some k => t.setKid i (k.put π n)
    | none => t) = _
  cases t.kids[i]? <;> rfl
@[simp] theorem kidIdx_L (ts : List OT) (k : Int) : kidIdx (.L ts) (.int k) = ixN ts.length k := (rfl)
@[simp] theorem kidIdx_T (ts : List OT) (k : Int) : kidIdx (.T ts) (.int k) = ixN ts.length k := (rfl)
@[simp] theorem kidIdx_Ds (ts : List (K1 × OT)) (x : Tx) : kidIdx (.D ts) (.str x) = ts.findIdx? fun q => decide (q.1 = .inr x) := (rfl)
theorem ixN_nat {n k : Nat} (h : k < n) : ixN n (k : Int) = some k := by
  rw [ixN_nn _ (by omega) (by omega)]; simp
@[simp] theorem ixN_0 (n : Nat) : ixN (n + 1) 0 = some 0 := ixN_nat (k := 0) (by omega)
@[simp] theorem ixN_1 (n : Nat) : ixN (n + 1 + 1) 1 = some 1 := ixN_nat (k := 1) (by omega)
@[simp] theorem putT_some (i : Nat) (ρ : Env) (π : List Nat) (n : OT) : putT i ρ π (some n) = (match ownT ρ[i]? with
    | some t => .nx (ρ.set i (.own (t.put π n)))
    | none => .bad) := (rfl)
@[simp] theorem isLN_l (ps : List PV) : isLN (some (.l ps)) = true := (rfl)
@[simp] theorem isLN_L (ps : List OT) : isLN (some (.L ps)) = true := (rfl)
@[simp] theorem appN_l (p : PV) (ps : List PV) : appN p (.l ps) = if ps.length < sizeLine then some (.l (ps ++ [p])) else none := (rfl)
@[simp] theorem appNO_L (c : OT) (ts : List OT) : appNO c (.L ts) = if ts.length < sizeLine then some (.L (ts ++ [c])) else none := (rfl)
@[simp] theorem ndM_B (n : OT) : ndM .B n = some n.pv := by cases n <;> rfl
@[simp] theorem ndM_E (p : PV) : ndM .E (.fz p) = some p := (rfl)
@[simp] theorem ndM_Ifz (p : PV) : ndM .I (.fz p) = some p := (rfl)
@[simp] theorem ndM_Il (p : List PV) : ndM .I (.l p) = some (.lst p) := (rfl)
@[simp] theorem ndM_Id (p : List (K1 × PV)) : ndM .I (.d p) = some (.dic p) := (rfl)
end Fz
end
section
/-! Fyf: defs that change what they are given. -/
namespace Fz
open PySem PySem.Spec PyProof.Rows L2
inductive ResM where
  | ok (o : OT) (ts : List OT)
  | exc (c : String) (fs : Option (List (String × PV))) (ts : List OT)
  | bad
abbrev FnM := List Addr → List OT → ResM
def slotsM : List Bool → List Addr → List OT → Env
  | true :: fl, a :: as, t :: ts => .own (.P a t) :: slotsM fl as ts
  | false :: fl, as, .fz p :: ts => .val p :: slotsM fl as ts
  | _, _, _ => []
/-- what the changed things are in the end -/
def endM : List Bool → List Addr → Env → Option (List OT)
  | true :: fl, a :: as, .own (.P b t) :: ρ => if b = a then (endM fl as ρ).map (t :: ·) else none
  | false :: fl, as, _ :: ρ => endM fl as ρ
  | [], [], _ => some []
  | _, _, _ => none
def unP : List Addr → List OT → Option (List OT)
  | a :: as, .P b t :: ts => if b = a then (unP as ts).map (t :: ·) else none
  | [], [] => some []
  | _, _ => none
def okM (o : OT) : Option (List OT) → ResM
  | some ts => .ok o ts
  | none => .bad
def excM (c : String) (fs : Option (List (String × PV))) : Option (List OT) → ResM
  | some ts => .exc c fs ts
  | none => .bad
def lenM (fl : List Bool) (as : List Addr) (ts : List OT) : Prop := ts.length = fl.length ∧ as.length = (fl.filter id).length
instance (fl : List Bool) (as : List Addr) (ts : List OT) : Decidable (lenM fl as ts) := by unfold lenM; infer_instance
def flM (fl : List Bool) (as : List Addr) : Fl → ResM
  | .rt (.M o ps) => okM o (unP as ps)
  | .nx ρ => okM (.fz .non) (endM fl as ρ)
  | .ex c fs ρ => excM c fs (endM fl as ρ)
  | _ => .bad
def runFnM (n : Nat) (fl : List Bool) (s : S) : FnM := fun as ts => if lenM fl as ts then flM fl as (s (slotsM fl as ts ++ List.replicate (n - fl.length) .u)) else .bad
section
variable (K : PySem.W.Frag)
def RepArgsM (A : Addr → Prop) (H : Hp) : List Bool → List Addr → List OT → List V → List (List Addr) → Prop
  | [], [], [], [], [] => True
  | true :: fl, a :: as, t :: ts, v :: vs, F :: Fs => v = .ref a ∧ OTRep K A H t v F ∧ RepArgsM A H fl as ts vs Fs
  | false :: fl, as, t :: ts, v :: vs, F :: Fs => F = [] ∧ (∃ p, t = .fz p ∧ Rep K A H p v) ∧ RepArgsM A H fl as ts vs Fs
  | _, _, _, _, _ => False
/-- what a call leaves as it was -/
structure Kept (H : Hp) (F : List Addr) (H' : Hp) (F' : List Addr) : Prop where
  keep : ∀ a o, a ∉ F → H a = some o → H' a = some o
  more : ∀ a, H a ≠ none → H' a ≠ none
  nod : F'.Nodup
  sub : ∀ a ∈ F', a ∈ F ∨ H a = none
def OutM (C : Addr → Prop) (H : Hp) (F : List Addr) (as : List Addr) (Q : VK) (E : XK) : ResM → Prop
  | .ok o ts => ∀ v H' Fn F', Kept H F H' (Fn ++ F') → OTRep K (fun a => (C a ∨ a ∈ F ∨ H a = none) ∧ a ∉ Fn ++ F') H' o v Fn → OTReps K (fun a => (C a ∨ a ∈ F ∨ H a = none) ∧ a ∉ Fn ++ F') H' ts (as.map V.ref) F' → Q v H'
  | .exc c fs ts => ∀ H' F', Kept H F H' F' → OTReps K (fun a => (C a ∨ a ∈ F ∨ H a = none) ∧ a ∉ F') H' ts (as.map V.ref) F' → XW K (fun c d _ H => E c d H) [] H' c fs
  | .bad => False
def spM (fl : List Bool) (g : FnM) : Sp := fun vs H Q E => ∃ (C : Addr → Prop) (as : List Addr) (ts : List OT) (Fs : List (List Addr)), RepArgsM K C H fl as ts vs Fs ∧ Fs.flatten.Nodup ∧ (∀ a ∈ Fs.flatten, ¬ C a) ∧ OutM K C H Fs.flatten as Q E (g as ts)
end
section
variable {K : PySem.W.Frag} {A C : Addr → Prop} {H H' : Hp}
theorem RepArgsM.len : ∀ {fl : List Bool} {as : List Addr} {ts : List OT} {vs : List V} {Fs : List (List Addr)}, RepArgsM K A H fl as ts vs Fs → lenM fl as ts ∧ vs.length = fl.length ∧ Fs.length = fl.length
  | [], [], [], [], [], _ => ⟨⟨rfl, rfl⟩, rfl, rfl⟩
  | true :: fl, a :: as, t :: ts, v :: vs, F :: Fs, h => by
    obtain ⟨⟨h1, h2⟩, h3, h4⟩ := RepArgsM.len h.2.2
    exact ⟨⟨by simp [h1], by simp [h2]⟩, by simp [h3], by simp [h4]⟩
  | false :: fl, as, t :: ts, v :: vs, F :: Fs, h => by
    obtain ⟨⟨h1, h2⟩, h3, h4⟩ := RepArgsM.len h.2.2
    exact ⟨⟨by simp [h1], by simp [h2]⟩, by simp [h3], by simp [h4]⟩
theorem slotsM_len : ∀ {fl : List Bool} {as : List Addr} {ts : List OT} {vs : List V} {Fs : List (List Addr)}, RepArgsM K A H fl as ts vs Fs → (slotsM fl as ts).length = fl.length
  | [], [], [], [], [], _ => rfl
  | true :: fl, a :: as, t :: ts, v :: vs, F :: Fs, h => by simp [slotsM, slotsM_len h.2.2]
  | false :: fl, as, t :: ts, v :: vs, F :: Fs, h => by
    obtain ⟨p, rfl, _⟩ := h.2.1
    simp [slotsM, slotsM_len h.2.2]
def fpOf (Fs : List (List Addr)) : Fp := fun i => (Fs[i]?).getD []
theorem inF_of {Fs : List (List Addr)} {a : Addr} : InF (fpOf Fs) a ↔ a ∈ Fs.flatten := by
  unfold InF fpOf
  constructor
  · rintro ⟨i, h⟩
    cases e : Fs[i]? with
    | none => rw [e] at h; cases h
    | some F => rw [e] at h; exact List.mem_flatten.mpr ⟨F, List.mem_of_getElem? e, h⟩
  · intro h
    obtain ⟨F, hF, ha⟩ := List.mem_flatten.mp h
    obtain ⟨i, hi⟩ := List.getElem?_of_mem hF
    exact ⟨i, by rw [hi]; exact ha⟩
theorem slotsM_get {B : Addr → Prop} (hA : ∀ a, A a → B a) : ∀ {fl : List Bool} {as : List Addr} {ts : List OT} {vs : List V} {Fs : List (List Addr)} {i : Nat} {s : Slot}, RepArgsM K A H fl as ts vs Fs → (slotsM fl as ts)[i]? = some s →
    SlotOk K B (fun _ => True) H s ((vs.map some)[i]?) (fpOf Fs i)
  | [], [], [], [], [], _, _, _, h => by simp [slotsM] at h
  | true :: fl, a :: as, t :: ts, v :: vs, F :: Fs, 0, s, r, h => by
    simp only [slotsM, List.getElem?_cons_zero, Option.some.injEq] at h
    subst h
    exact ⟨v, rfl, r.1, r.2.1.carry (Carry.refl fun a _ q _ => hA a q) fun _ _ _ q => q⟩
  | true :: fl, a :: as, t :: ts, v :: vs, F :: Fs, i + 1, s, r, h => by
    simp only [slotsM, List.getElem?_cons_succ] at h
    simpa [fpOf] using slotsM_get hA r.2.2 h
  | false :: fl, as, t :: ts, v :: vs, F :: Fs, 0, s, r, h => by
    obtain ⟨e, ⟨p, rfl, rp⟩, _⟩ := r
    simp only [slotsM, List.getElem?_cons_zero, Option.some.injEq] at h
    subst h
    exact ⟨e, v, rfl, Rep.sub hA rp⟩
  | false :: fl, as, t :: ts, v :: vs, F :: Fs, i + 1, s, r, h => by
    obtain ⟨e, ⟨p, rfl, rp⟩, r⟩ := r
    simp only [slotsM, List.getElem?_cons_succ] at h
    simpa [fpOf] using slotsM_get hA r h
theorem flat_inj : ∀ {Fs : List (List Addr)} {i j : Nat} {a : Addr}, Fs.flatten.Nodup → a ∈ fpOf Fs i → a ∈ fpOf Fs j → i = j
  | [], i, j, a, _, h, _ => by simp [fpOf] at h
  | F :: Fs, i, j, a, n, hi, hj => by
    rw [List.flatten_cons] at n
    obtain ⟨n1, n2, n3⟩ := List.nodup_append.mp n
    have mem : ∀ {k}, a ∈ fpOf (F :: Fs) (k + 1) → a ∈ Fs.flatten := fun {k} h => inF_of.mp ⟨k, h⟩
    cases i with
    | zero => cases j with
      | zero => rfl
      | succ j => exact (n3 a hi a (mem hj) rfl).elim
    | succ i => cases j with
      | zero => exact (n3 a hj a (mem hi) rfl).elim
      | succ j => rw [flat_inj n2 (i := i) (j := j) hi hj]
theorem flat_nod : ∀ {Fs : List (List Addr)} {i : Nat}, Fs.flatten.Nodup → (fpOf Fs i).Nodup
  | [], i, _ => by simp [fpOf]
  | F :: Fs, i, n => by
    rw [List.flatten_cons] at n
    obtain ⟨n1, n2, n3⟩ := List.nodup_append.mp n
    cases i with
    | zero => exact n1
    | succ i => exact flat_nod (i := i) n2
theorem entryM {fl : List Bool} {as : List Addr} {ts : List OT} {vs : List V} {Fs : List (List Addr)} {N : List Str} (r : RepArgsM K C H fl as ts vs Fs) (nd : Fs.flatten.Nodup) (dis : ∀ a ∈ Fs.flatten, ¬ C a) (hn : fl.length ≤ N.length) :
    EnvOk K (fun a => C a ∨ a ∈ Fs.flatten ∨ H a = none) (slotsM fl as ts ++ List.replicate (N.length - fl.length) .u) (L2.start N vs) H (fpOf Fs) := by
  obtain ⟨⟨l1, l2⟩, l3, l4⟩ := r.len
  have l5 := slotsM_len r
  refine ⟨by simp [L2.start, l3, l5], fun i s h => ?_, fun i hi => ?_, fun i j a h1 h2 => flat_inj nd h1 h2, fun i => flat_nod nd, fun a h => .inr (.inl (inF_of.mp h)), fun a h => .inr (.inr h)⟩
  · by_cases hi : i < (slotsM fl as ts).length
    · rw [List.getElem?_append_left hi] at h
      unfold L2.start
      rw [List.getElem?_append_left (by simp; omega)]
      have := slotsM_get (B := Am (fun a => C a ∨ a ∈ Fs.flatten ∨ H a = none) (fpOf Fs)) (fun a q => ⟨.inl q, fun z => dis a (inF_of.mp z) q⟩) r h
      revert this
      cases s with
      | u => exact id
      | val p => exact id
      | bor p =>
        intro _
        exfalso
        have nb : ∀ {fl : List Bool} {as : List Addr} {ts : List OT} {i : Nat}, (slotsM fl as ts)[i]? ≠ some (.bor p) := by
          intro fl as ts
          induction fl, as, ts using slotsM.induct with
          | case1 fl a as t ts ih => intro i; cases i with
            | zero => simp [slotsM]
            | succ i => simpa [slotsM] using ih
          | case2 as fl p ts ih => intro i; cases i with
            | zero => simp [slotsM]
            | succ i => simpa [slotsM] using ih
          | case3 fl as ts h1 h2 => intro i; rw [slotsM] <;> first | (simp; done) | assumption
        exact nb h
      | own t => exact id
    · rw [List.getElem?_append_right (Nat.le_of_not_lt hi), List.getElem?_replicate] at h
      split at h
      · cases h
        show fpOf Fs i = []
        unfold fpOf
        rw [List.getElem?_eq_none (by omega)]; rfl
      · cases h
  · have hi : fl.length ≤ i := by
      have : (slotsM fl as ts ++ List.replicate (N.length - fl.length) Slot.u).length ≤ i := hi
      simp [l5] at this
      omega
    unfold fpOf
    rw [List.getElem?_eq_none (by omega)]; rfl
theorem endM_rep {ρ : Env} {σ : L2.St} {fp : Fp} (e : EnvOk K C ρ σ H fp) : ∀ {fl : List Bool} {as : List Addr} {k : Nat} {ts : List OT}, endM fl as (ρ.drop k) = some ts →
    ∃ F, OTReps K (Am C fp) H ts (as.map V.ref) F ∧ F.Nodup ∧ ∀ a ∈ F, ∃ j, k ≤ j ∧ a ∈ fp j
  | [], as, k, ts, h => by
    cases as with
    | nil => simp only [endM, Option.some.injEq] at h; subst h; exact ⟨[], ⟨rfl, rfl⟩, List.nodup_nil, fun _ h => nomatch h⟩
    | cons a as => simp [endM] at h
  | true :: fl, [], k, ts, h => by simp [endM] at h
  | true :: fl, a :: as, k, ts, h => by
    cases ed : ρ.drop k with
    | nil => rw [ed] at h; simp [endM] at h
    | cons s r =>
      rw [ed] at h
      have er : ρ.drop (k + 1) = r := by rw [← List.drop_drop, ed]; rfl
      have ek : ρ[k]? = some s := by rw [← List.head?_drop, ed]; rfl
      cases s with
      | own t =>
        cases t with
        | P b t =>
          simp only [endM] at h
          split at h
          · rename_i hb
            subst hb
            obtain ⟨ts', h', rfl⟩ := Option.map_eq_some_iff.mp h
            rw [← er] at h'
            obtain ⟨F, r1, n1, s1⟩ := endM_rep e h'
            obtain ⟨v, hv, hr⟩ := e.slot k _ ek
            have hr2 : v = .ref b ∧ OTRep K (Am C fp) H t v (fp k) := hr
            obtain ⟨rfl, hr2⟩ := hr2
            refine ⟨fp k ++ F, ⟨_, _, fp k, F, rfl, rfl, hr2, r1⟩, List.nodup_append.mpr ⟨e.nod k, n1, fun x hx y hy z => ?_⟩, fun x hx => ?_⟩
            · obtain ⟨j, hj, hm⟩ := s1 y hy
              have := e.inj _ _ _ hx (z ▸ hm)
              omega
            · rcases List.mem_append.mp hx with q | q
              · exact ⟨k, Nat.le_refl _, q⟩
              · obtain ⟨j, hj, hm⟩ := s1 x q
                exact ⟨j, by omega, hm⟩
          · cases h
        | _ => simp [endM] at h
      | _ => simp [endM] at h
  | false :: fl, as, k, ts, h => by
    cases ed : ρ.drop k with
    | nil => rw [ed] at h; simp [endM] at h
    | cons s r =>
      rw [ed] at h
      have er : ρ.drop (k + 1) = r := by rw [← List.drop_drop, ed]; rfl
      simp only [endM] at h
      rw [← er] at h
      obtain ⟨F, r1, n1, s1⟩ := endM_rep e h
      exact ⟨F, r1, n1, fun x hx => by obtain ⟨j, hj, hm⟩ := s1 x hx; exact ⟨j, by omega, hm⟩⟩
theorem unP_rep : ∀ {as : List Addr} {ps ts : List OT} {xs : List V} {F : List Addr}, unP as ps = some ts → OTReps K A H ps xs F → OTReps K A H ts (as.map V.ref) F
  | [], [], ts, xs, F, h, r => by simp only [unP, Option.some.injEq] at h; subst h; exact ⟨rfl, r.2⟩
  | a :: as, .P b t :: ps, ts, xs, F, h, r => by
    simp only [unP] at h
    split at h
    · rename_i hb
      subst hb
      obtain ⟨ts', h', rfl⟩ := Option.map_eq_some_iff.mp h
      obtain ⟨x, r', F1, F2, rfl, rfl, r1, r2⟩ := r
      obtain ⟨rfl, r1⟩ := r1
      exact ⟨_, _, F1, F2, rfl, rfl, r1, unP_rep h' r2⟩
    · cases h
  | [], _ :: _, ts, xs, F, h, r => by simp [unP] at h
  | _ :: _, [], ts, xs, F, h, r => by simp [unP] at h
  | a :: as, .fz _ :: ps, ts, xs, F, h, r | a :: as, .l _ :: ps, ts, xs, F, h, r | a :: as, .d _ :: ps, ts, xs, F, h, r | a :: as, .dt _ :: ps, ts, xs, F, h, r | a :: as, .ins _ _ :: ps, ts, xs, F, h, r
  | a :: as, .T _ :: ps, ts, xs, F, h, r | a :: as, .L _ :: ps, ts, xs, F, h, r | a :: as, .D _ :: ps, ts, xs, F, h, r | a :: as, .I _ _ :: ps, ts, xs, F, h, r | a :: as, .M _ _ :: ps, ts, xs, F, h, r => by simp [unP] at h
end
/-! ### the def's rule -/
structure DefM (P : Program) (w : World) (K : PySem.W.Frag) (mg : Str → Option Value) (base : Heap) (k : Nat) (x : Str) (ps : List Str) (fl : List Bool) (g : FnM) : Prop where
  ex : ∃ f fd, FnOk P w K mg base (L2.CX P w) k f fd ps (spM K fl g) ∧ mg x = some (.ref f) ∧ PySem.W.keepIn K (.ref f) = true ∧ Binds K fd ps []
section
variable {P : Program} {w : World} {K : PySem.W.Frag} {mg : Str → Option Value} {base : Heap}
theorem fnM_ok {x qual : Str} {params : Arguments} {body : List Stmt} {scope : Scope} {f : Addr} {fd : FuncData} {N ps : List Str} {k : Nat} {fl : List Bool} {s : S} (F : FunD K x qual params body scope [] [] f fd) (Sc : FnScope N ps scope) (hm : fl.length = ps.length) (hN : fl.length ≤ N.length)
    (hb : ∀ (cdv : Value) (A : Around) (outer : List PySem.Env) (sh : Shared) (H : Hp) (E : XK) (C : Addr → Prop), Room k (XD P w K mg base N qual scope f cdv A outer sh H E).A → Takes (XD P w K mg base N qual scope f cdv A outer sh H E) (fun c d _ H => E c d H) →
      PassesOwn (model P w) (XD P w K mg base N qual scope f cdv A outer sh H E).A (XD P w K mg base N qual scope f cdv A outer sh H E).env (XD P w K mg base N qual scope f cdv A outer sh H E).xe → BJ (XD P w K mg base N qual scope f cdv A outer sh H E) C (fun c d _ H => E c d H) body s) :
    FnOk P w K mg base (L2.CX P w) (k + 1) f fd ps (spM K fl (runFnM N.length fl s)) := by
  refine F.ok Sc (fun vs H Q E h => ?_) (fun cdv A outer sh H vs Q E hr h => ?_)
  · obtain ⟨C, as, ts, Fs, r, _⟩ := h
    rw [r.len.2.1, hm]
  · obtain ⟨C, as, ts, Fs, r, nd, dis, o⟩ := h
    refine ⟨_, hb cdv A outer sh H E (fun a => C a ∨ a ∈ Fs.flatten ∨ H a = none) hr (takes_of rfl rfl rfl rfl) (passes_of rfl), _, _, entryM r nd dis hN, ?_⟩
    unfold runFnM at o
    rw [if_pos r.len.1] at o
    have kept : ∀ {H' : Hp} {fp' : Fp} {F' : List Addr}, Grow H (fpOf Fs) H' fp' → F'.Nodup → (∀ a ∈ F', InF (fpOf Fs) a ∨ H a = none) → Kept H Fs.flatten H' F' := fun {H' fp' F'} g n sub =>
      ⟨fun a o' hn he => g.keep a o' he fun z => hn (inF_of.mp z), g.more, n, fun a ha => (sub a ha).imp inF_of.mp id⟩
    revert o
    cases hs : s (slotsM fl as ts ++ List.replicate (N.length - fl.length) .u) with
    | nx ρ =>
      intro o σ' H' fp' e g
      unfold flM okM at o
      cases he : endM fl as ρ with
      | none => simp only [he] at o; exact o.elim
      | some ts' =>
        simp only [he] at o
        obtain ⟨F', r1, n1, s1⟩ := endM_rep (k := 0) e he
        have inf : ∀ a ∈ F', InF fp' a := fun a ha => by obtain ⟨j, _, hj⟩ := s1 a ha; exact ⟨j, hj⟩
        exact o .non H' [] F' (kept g n1 fun a ha => g.new a (inf a ha)) ⟨rfl, rfl⟩ (OTReps.carry (Carry.refl fun a _ q _ => ⟨q.1, fun z => q.2 (inf a z)⟩) (fun _ _ _ q => q) r1)
    | rt t =>
      intro o v H' Fn g n hf rr
      cases t with
      | M oo ps' =>
        unfold flM okM at o
        cases he : unP as ps' with
        | none => simp only [he] at o; exact o.elim
        | some ts' =>
          simp only [he] at o
          obtain ⟨xs, F1, F2, rfl, r1, r2⟩ := rr
          exact o v H' F1 F2 (kept g n hf) r1 (unP_rep he r2)
      | _ => exact o.elim
    | bk ρ => exact False.elim
    | ct ρ => exact False.elim
    | ex c fs ρ =>
      intro o σ' H' fp' e g
      unfold flM excM at o
      cases he : endM fl as ρ with
      | none => simp only [he] at o; exact o.elim
      | some ts' =>
        simp only [he] at o
        obtain ⟨F', r1, n1, s1⟩ := endM_rep (k := 0) e he
        have inf : ∀ a ∈ F', InF fp' a := fun a ha => by obtain ⟨j, _, hj⟩ := s1 a ha; exact ⟨j, hj⟩
        have := o H' F' (kept g n1 fun a ha => g.new a (inf a ha)) (OTReps.carry (Carry.refl fun a _ q _ => ⟨q.1, fun z => q.2 (inf a z)⟩) (fun _ _ _ q => q) r1)
        cases fs with
        | none => exact this
        | some fs => exact this
    | bad => exact False.elim
theorem defM_ok {x qual : Str} {params : Arguments} {body : List Stmt} {scope : Scope} {f : Addr} {fd : FuncData} {N ps : List Str} {k : Nat} {fl : List Bool} {s : S} (F : FunD K x qual params body scope [] [] f fd) (Sc : FnScope N ps scope) (hm : fl.length = ps.length) (hN : fl.length ≤ N.length) (hg : mg x = some (.ref f))
    (hbd : ∀ (kV doc pm : Value) (an : Option Addr) (cdv ct : Value) (us : List Value), us.length = ps.length → bindArgs (PySem.W.fnOf x qual params body scope .none kV doc pm an cdv ct) ⟨us, []⟩ = pure (ps.zip us))
    (hb : ∀ (cdv : Value) (A : Around) (outer : List PySem.Env) (sh : Shared) (H : Hp) (E : XK) (C : Addr → Prop), Room k (XD P w K mg base N qual scope f cdv A outer sh H E).A → Takes (XD P w K mg base N qual scope f cdv A outer sh H E) (fun c d _ H => E c d H) →
      PassesOwn (model P w) (XD P w K mg base N qual scope f cdv A outer sh H E).A (XD P w K mg base N qual scope f cdv A outer sh H E).env (XD P w K mg base N qual scope f cdv A outer sh H E).xe → BJ (XD P w K mg base N qual scope f cdv A outer sh H E) C (fun c d _ H => E c d H) body s) :
    DefM P w K mg base (k + 1) x ps fl (runFnM N.length fl s) := ⟨f, fd, fnM_ok F Sc hm hN hb, hg, F.kp, F.bindsN hbd⟩
end
end Fz
end
section
/-! Fyg: calls of defs that change what they are given. -/
namespace Fz
open PySem PySem.Spec PyProof.Rows L2
/-- an argument: a common value, or what is at a path of a slot -/
inductive AV where
  | e (p : PV) | m (i : Nat) (π : List Nat)
def AV.isM : AV → Bool
  | .e _ => false
  | .m _ _ => true
abbrev AL := Env → Res (List AV)
def aNil : AL := fun _ => .ok []
def aE (f : E) (l : AL) : AL := fun ρ => f ρ >>= fun p => l ρ >>= fun as => .ok (.e p :: as)
def aM (i : Nat) (px : Px) (l : AL) : AL := fun ρ => px ρ >>= fun π => l ρ >>= fun as => .ok (.m i π :: as)
def isNd : OT → Bool
  | .fz _ => false
  | .M _ _ => false
  | .P _ _ => false
  | _ => true
def nd1 (n : OT) : Option OT := if isNd n = true then some n else none
def tOf (ρ : Env) : AV → Option OT
  | .e p => some (.fz p)
  | .m i π => (nodeOf i ρ π).bind nd1
def treesA (ρ : Env) : List AV → Option (List OT)
  | [] => some []
  | a :: as => (tOf ρ a).bind fun t => (treesA ρ as).map fun ts => t :: ts
def slotsA : List AV → List Nat
  | [] => []
  | .e _ :: as => slotsA as
  | .m i _ :: as => i :: slotsA as
def put1 (ρ : Env) (i : Nat) (π : List Nat) (t' : OT) : Option OT → Env
  | some t => ρ.set i (.own (t.put π t'))
  | none => ρ
def putAll (ρ : Env) : List AV → List OT → Env
  | .e _ :: as, ts => putAll ρ as ts
  | .m i π :: as, t :: ts => put1 (putAll ρ as ts) i π t (ownT ρ[i]?)
  | _, _ => ρ
inductive ResE where
  | ok (o : OT) (ρ : Env) | exc (c : String) (fs : Option (List (String × PV))) (ρ : Env) | bad
abbrev Mx := Env → ResE
open Classical in
/-- the same whatever the addresses -/
noncomputable def anyA (m : Nat) (g : FnM) (ts : List OT) : ResM := if h : ∃ r, ∀ as : List Addr, as.length = m → g as ts = r then h.choose else .bad
theorem anyA_of {m : Nat} {g : FnM} {ts : List OT} {r : ResM} (h : ∀ as : List Addr, as.length = m → g as ts = r) : anyA m g ts = r := by
  unfold anyA
  have hx : ∃ r, ∀ as : List Addr, as.length = m → g as ts = r := ⟨r, h⟩
  rw [dif_pos hx]
  have h2 := hx.choose_spec (List.replicate m 0) (by simp)
  rw [← h2, h _ (by simp)]
theorem anyA_one {g : FnM} {ts : List OT} {r : ResM} (h : ∀ a : Addr, g [a] ts = r) : anyA 1 g ts = r := anyA_of fun as hl => match as, hl with
  | [a], _ => h a
theorem anyA_two {g : FnM} {ts : List OT} {r : ResM} (h : ∀ a b : Addr, g [a, b] ts = r) : anyA 2 g ts = r := anyA_of fun as hl => match as, hl with
  | [a, b], _ => h a b
theorem anyA_spec {m : Nat} {g : FnM} {ts : List OT} {as : List Addr} (h : as.length = m) : anyA m g ts = .bad ∨ g as ts = anyA m g ts := by
  unfold anyA
  by_cases hx : ∃ r, ∀ as : List Addr, as.length = m → g as ts = r
  · rw [dif_pos hx]; exact .inr (hx.choose_spec as h)
  · rw [dif_neg hx]; exact .inl rfl
def backE (ρ : Env) (avs : List AV) : ResM → ResE
  | .ok o ts => .ok o (putAll ρ avs ts)
  | .exc c fs ts => .exc c fs (putAll ρ avs ts)
  | .bad => .bad
noncomputable def goE (m : Nat) (g : FnM) (ρ : Env) (avs : List AV) : Option (List OT) → ResE
  | some ts => backE ρ avs (anyA m g ts)
  | none => .bad
noncomputable def callE (fl : List Bool) (g : FnM) (ρ : Env) : Res (List AV) → ResE
  | .ok avs => if avs.map AV.isM = fl ∧ (slotsA avs).Nodup then goE (fl.filter id).length g ρ avs (treesA ρ avs) else .bad
  | .exc c fs => .exc c fs ρ
  | .bad => .bad
noncomputable def mCall (fl : List Bool) (g : FnM) (l : AL) : Mx := fun ρ => callE fl g ρ (l ρ)
section
variable (K : PySem.W.Frag) (C : Addr → Prop) (W : WX)
def RepAV (fp : Fp) (σ : L2.St) (H : Hp) : AV → V → Prop
  | .e p, v => Rep K (Am C fp) H p v
  | .m i π, u => ∃ w, σ[i]? = some (some w) ∧ subV H w π u
def RepAVs (fp : Fp) (σ : L2.St) (H : Hp) : List AV → List V → Prop
  | [], [] => True
  | a :: as, v :: vs => RepAV K C fp σ H a v ∧ RepAVs fp σ H as vs
  | _, _ => False
def tA (l : AL) : TA := fun σ H Q => ∃ ρ fp, EnvOk K C ρ σ H fp ∧ Out (l ρ) (fun as => ∀ vs H', Same H H' → RepAVs K C fp σ H' as vs → Q vs H') (XQ K W σ H)
def OutE (σ : L2.St) (H : Hp) (fp : Fp) (P : OT → Env → Prop) : ResE → Prop
  | .ok o ρ' => P o ρ'
  | .exc c fs ρ' => ∀ H' fp', EnvOk K C ρ' σ H' fp' → Grow H fp H' fp' → XW K W σ H' c fs
  | .bad => False
def tM (q : Mx) : TE := fun σ H Q => ∃ ρ fp, EnvOk K C ρ σ H fp ∧ OutE K C W σ H fp (fun o ρ' => ∀ v H' fp' Fn, EnvOk K (fun a => C a ∧ a ∉ Fn) ρ' σ H' fp' → Grow H fp H' fp' → Fn.Nodup → (∀ a ∈ Fn, InF fp a ∨ H a = none) → (∀ a ∈ Fn, ¬ InF fp' a) → (∀ (j : Nat) p w, ρ'[j]? = some (Slot.bor p) → σ[j]? = some (some w) → Rep K (fun a => ¬ InF fp' a ∧ a ∉ Fn) H' p w) → OTRep K (fun a => Am C fp' a ∧ a ∉ Fn) H' o v Fn → Q v H') (q ρ)
end
def AJ (X : Cx) (C : Addr → Prop) (W : WX) (es : List Expr) (l : AL) : Prop := PA X es (tA X.K C W l)
def MJ (X : Cx) (C : Addr → Prop) (W : WX) (e : Expr) (q : Mx) : Prop := PE X e (tM X.K C W q)
section
variable {K : PySem.W.Frag} {C : Addr → Prop} {fp : Fp} {σ : L2.St} {ρ : Env} {H H' : Hp}
theorem RepAV.same (s : Same H H') : ∀ {a : AV} {v : V}, RepAV K C fp σ H a v → RepAV K C fp σ H' a v
  | .e p, v, h => Rep.same s h
  | .m i π, u, ⟨w, h1, h2⟩ => ⟨w, h1, h2.same s⟩
theorem put1_len {i : Nat} {π : List Nat} {t : OT} {o : Option OT} : (put1 ρ i π t o).length = ρ.length := by cases o <;> simp [put1]
theorem putAll_len : ∀ {avs : List AV} {ts : List OT}, (putAll ρ avs ts).length = ρ.length
  | [], _ => rfl
  | .e _ :: as, ts => putAll_len (avs := as)
  | .m i π :: as, [] => rfl
  | .m i π :: as, t :: ts => by rw [putAll, put1_len, putAll_len]
theorem putAll_ne {j : Nat} : ∀ {avs : List AV} {ts : List OT}, j ∉ slotsA avs → (putAll ρ avs ts)[j]? = ρ[j]?
  | [], _, _ => rfl
  | .e _ :: as, ts, h => putAll_ne (avs := as) h
  | .m i π :: as, [], _ => rfl
  | .m i π :: as, t :: ts, h => by
    simp only [slotsA, List.mem_cons, not_or] at h
    rw [putAll]
    have ih := putAll_ne (avs := as) (ts := ts) h.2
    rw [← ih]
    cases ownT _ with
    | none => rfl
    | some t0 => rw [put1, List.getElem?_set_ne (Ne.symm h.1)]
theorem nd_ref {A : Addr → Prop} {n : OT} {v : V} {F : List Addr} (h : isNd n = true) (r : OTRep K A H n v F) : ∃ a, v = .ref a := by
  cases n with
  | fz p => cases h
  | M o ts => cases h
  | P a t => cases h
  | l ps => obtain ⟨a, xs, e, _⟩ := r; exact ⟨a, e⟩
  | d ps => obtain ⟨a, xs, e, _⟩ := r; exact ⟨a, e⟩
  | dt ps => obtain ⟨a, xs, e, _⟩ := r; exact ⟨a, e⟩
  | ins c ps => obtain ⟨a, dx, xs, e, _⟩ := r; exact ⟨a, e⟩
  | T ps => obtain ⟨a, xs, e, _⟩ := r; exact ⟨a, e⟩
  | L ps => obtain ⟨a, xs, _, e, _⟩ := r; exact ⟨a, e⟩
  | D ps => obtain ⟨_, a, xs, _, e, _⟩ := r; exact ⟨a, e⟩
  | I c ps => obtain ⟨a, dx, xs, _, e, _⟩ := r; exact ⟨a, e⟩
/-- what the callee is given, and what its changes make of the slots -/
theorem zipAll (e : EnvOk K C ρ σ H fp) : ∀ {avs : List AV} {ts : List OT} {vs : List V}, (slotsA avs).Nodup → treesA ρ avs = some ts → RepAVs K C fp σ H avs vs →
    ∃ (as : List Addr) (Fs : List (List Addr)), RepArgsM K (Am C fp) H (avs.map AV.isM) as ts vs Fs ∧ Fs.flatten.Nodup ∧ (∀ a ∈ Fs.flatten, ∃ i ∈ slotsA avs, a ∈ fp i) ∧
      ∀ (B : Addr → Prop) H' ts' F' (Z : List Addr), (∀ a ∈ Fs.flatten, a ∈ Z) → (∀ a, InF fp a → a ∈ Z → (∃ i ∈ slotsA avs, a ∈ fp i) → a ∈ Fs.flatten) → OTReps K B H' ts' (as.map V.ref) F' → F'.Nodup → (∀ a ∈ F', a ∈ Z ∨ H a = none) → Carry (Am C fp) B H H' → (∀ a o, a ∉ Z → H a = some o → H' a = some o) →
        ∃ fp2 : Fp, (∀ j, j ∉ slotsA avs → fp2 j = fp j) ∧ (∀ i ∈ slotsA avs, ∃ t2 v, (putAll ρ avs ts')[i]? = some (.own t2) ∧ σ[i]? = some (some v) ∧ OTRep K B H' t2 v (fp2 i) ∧ (fp2 i).Nodup) ∧
          (∀ i ∈ slotsA avs, ∀ a ∈ fp2 i, (a ∈ fp i ∧ a ∉ Z) ∨ a ∈ F') ∧ (∀ i ∈ slotsA avs, ∀ j ∈ slotsA avs, ∀ a, a ∈ F' → a ∈ fp2 i → a ∈ fp2 j → i = j)
  | [], ts, vs, _, ht, hv => by
    simp only [treesA, Option.some.injEq] at ht
    subst ht
    cases vs with
    | cons _ _ => exact hv.elim
    | nil => exact ⟨[], [], trivial, List.nodup_nil, fun _ h => (nomatch h), fun B H' ts' F' Z _ _ r _ _ _ _ => ⟨fp, fun _ _ => rfl, fun _ h => (nomatch h), fun _ h => (nomatch h), fun _ h => nomatch h⟩⟩
  | .e p :: avs, ts, vs, hn, ht, hv => by
    cases vs with
    | nil => exact hv.elim
    | cons v vs =>
      obtain ⟨ts0, ht0, rfl⟩ := Option.map_eq_some_iff.mp (show (treesA ρ avs).map (fun ts => .fz p :: ts) = some ts from ht)
      obtain ⟨as, Fs, h1, h2, h3, h4⟩ := zipAll e (avs := avs) hn ht0 hv.2
      have es : slotsA (.e p :: avs) = slotsA avs := rfl
      have ef : ([] :: Fs).flatten = Fs.flatten := rfl
      rw [es]
      exact ⟨as, [] :: Fs, ⟨rfl, ⟨p, rfl, hv.1⟩, h1⟩, by rw [ef]; exact h2, by rw [ef]; exact h3, fun B H' ts' F' Z z1 z2 r n s c k => by rw [ef] at z1 z2; exact h4 B H' ts' F' Z z1 z2 r n s c k⟩
  | .m i π :: avs, ts, vs, hn, ht, hv => by
    cases vs with
    | nil => exact hv.elim
    | cons v vs =>
      simp only [treesA] at ht
      obtain ⟨n, hn1, ht⟩ := Option.bind_eq_some_iff.mp ht
      obtain ⟨n', hn2, hn3⟩ := Option.bind_eq_some_iff.mp hn1
      have hnd : isNd n' = true ∧ n' = n := by
        unfold nd1 at hn3
        split at hn3
        · exact ⟨‹_›, Option.some.inj hn3⟩
        · cases hn3
      obtain ⟨hnd, rfl⟩ := hnd
      obtain ⟨ts0, ht0, rfl⟩ := Option.map_eq_some_iff.mp ht
      simp only [slotsA, List.nodup_cons] at hn
      obtain ⟨as, Fs, h1, h2, h3, h4⟩ := zipAll e (avs := avs) hn.2 ht0 hv.2
      obtain ⟨t, hsl, hat⟩ := node_own hn2
      obtain ⟨w, hw, hr⟩ := e.slot i _ hsl
      obtain ⟨w', hw', hsub⟩ := hv.1
      rw [hw] at hw'; cases hw'
      obtain ⟨u, Fn, F1, F2, hF, hs, hrn, cl⟩ := hr.zip hat
      cases hsub.det hs
      obtain ⟨a, rfl⟩ := nd_ref hnd hrn
      have nd := e.nod i
      rw [hF] at nd
      obtain ⟨nd1, nd2, nd3⟩ := List.nodup_append.mp nd
      obtain ⟨nd4, nd5, nd6⟩ := List.nodup_append.mp nd2
      have sub : ∀ b ∈ Fn, b ∈ fp i := fun b hb => by rw [hF]; simp [hb]
      have out : ∀ b ∈ Fs.flatten, b ∉ fp i := fun b hb hi => by
        obtain ⟨j, hj, hm⟩ := h3 b hb
        have := e.inj _ _ _ hi hm
        subst this
        exact hn.1 hj
      refine ⟨a :: as, Fn :: Fs, ⟨rfl, hrn, h1⟩, ?_, fun b hb => ?_, fun B H' ts' F' Z z1 z2 r nf s c k => ?_⟩
      · rw [List.flatten_cons]
        exact List.nodup_append.mpr ⟨nd4, h2, fun b hb d hd z => out d hd (z ▸ sub b hb)⟩
      · rw [List.flatten_cons] at hb
        rcases List.mem_append.mp hb with q | q
        · exact ⟨i, by simp [slotsA], sub b q⟩
        · obtain ⟨j, hj, hm⟩ := h3 b q
          exact ⟨j, by simp [slotsA, hj], hm⟩
      · cases ts' with
        | nil => exact absurd r.1 (by simp)
        | cons t' ts' =>
          obtain ⟨x, r', G1, G2, ex, rfl, r1, r2⟩ := r
          simp only [List.map_cons, List.cons.injEq] at ex
          obtain ⟨rfl, rfl⟩ := ex
          obtain ⟨ng1, ng2, ng3⟩ := List.nodup_append.mp nf
          rw [List.flatten_cons] at z1 z2
          obtain ⟨fp2, p1, p2, p3, p4⟩ := h4 B H' ts' G2 Z (fun b hb => z1 b (by simp [hb])) (fun b hb hz hj => by
            have := z2 b hb hz (by obtain ⟨j, hj, hm⟩ := hj; exact ⟨j, by simp [slotsA, hj], hm⟩)
            rcases List.mem_append.mp this with q | q
            · exfalso
              obtain ⟨j, hj, hm⟩ := hj
              have := e.inj _ _ _ (sub b q) hm
              subst this
              exact hn.1 hj
            · exact q) r2 ng2 (fun b hb => s b (by simp [hb])) c k
          have nZ : ∀ b ∈ F1 ++ F2, b ∉ Z := fun b hb hz => by
            have hbi : b ∈ fp i := by rw [hF]; rcases List.mem_append.mp hb with q | q <;> simp [q]
            have := z2 b ⟨i, hbi⟩ hz ⟨i, by simp [slotsA], hbi⟩
            rcases List.mem_append.mp this with q | q
            · rcases List.mem_append.mp hb with y | y
              · exact nd3 b y b (by simp [q]) rfl
              · exact nd6 b q b y rfl
            · exact out b q hbi
          have liveF : ∀ b ∈ F1 ++ F2, b ∉ G1 := fun b hb hg => by
            rcases s b (by simp [hg]) with q | q
            · exact nZ b hb q
            · have hbi : b ∈ fp i := by rw [hF]; rcases List.mem_append.mp hb with q | q <;> simp [q]
              exact e.fresh q ⟨i, hbi⟩
          have inotin : i ∉ slotsA avs := hn.1
          have e2 : (putAll ρ (.m i π :: avs) (t' :: ts'))[i]? = some (.own (t.put π t')) := by
            rw [putAll, hsl]
            show ((putAll ρ avs ts').set i (.own (t.put π t')))[i]? = _
            rw [List.getElem?_set_self (by rw [putAll_len]; exact (List.getElem?_eq_some_iff.mp hsl).1)]
          have e3 : ∀ j, j ≠ i → (putAll ρ (.m i π :: avs) (t' :: ts'))[j]? = (putAll ρ avs ts')[j]? := fun j hj => by
            rw [putAll, hsl]
            show ((putAll ρ avs ts').set i (.own (t.put π t')))[j]? = _
            rw [List.getElem?_set_ne (Ne.symm hj)]
          refine ⟨put fp2 i (F1 ++ (G1 ++ F2)), fun j hj => ?_, fun j hj => ?_, fun j hj b hb => ?_, fun j hj l hl b hb b1 b2 => ?_⟩
          · simp only [slotsA, List.mem_cons, not_or] at hj
            rw [put_ne hj.1, p1 j hj.2]
          · by_cases hji : j = i
            · subst hji
              refine ⟨_, w, e2, hw, ?_, ?_⟩
              · rw [put_same]
                exact cl B H' t' G1 c (fun b hb o ho => k b o (nZ b hb) ho) r1
              · rw [put_same]
                refine List.nodup_append.mpr ⟨nd1, List.nodup_append.mpr ⟨ng1, nd5, fun b hb d hd z => liveF d (by simp [hd]) (z ▸ hb)⟩, fun b hb d hd z => ?_⟩
                subst z
                rcases List.mem_append.mp hd with q | q
                · exact liveF b (by simp [hb]) q
                · exact nd3 b hb b (by simp [q]) rfl
            · have hj' : j ∈ slotsA avs := by
                simp only [slotsA, List.mem_cons] at hj
                exact hj.resolve_left hji
              obtain ⟨t2, v2, q1, q2, q3, q4⟩ := p2 j hj'
              exact ⟨t2, v2, by rw [e3 j hji]; exact q1, q2, by rw [put_ne hji]; exact q3, by rw [put_ne hji]; exact q4⟩
          · by_cases hji : j = i
            · subst hji
              rw [put_same] at hb
              simp only [List.mem_append] at hb ⊢
              rcases hb with q | q | q
              · exact .inl ⟨by rw [hF]; simp [q], nZ b (by simp [q])⟩
              · exact .inr (.inl q)
              · exact .inl ⟨by rw [hF]; simp [q], nZ b (by simp [q])⟩
            · have hj' : j ∈ slotsA avs := by
                simp only [slotsA, List.mem_cons] at hj
                exact hj.resolve_left hji
              rw [put_ne hji] at hb
              exact (p3 j hj' b hb).imp id fun z => by simp [z]
          · -- one slot for each
            have key : ∀ {j b}, j ∈ slotsA (.m i π :: avs) → b ∈ G1 ++ G2 → b ∈ put fp2 i (F1 ++ (G1 ++ F2)) j → (j = i ∧ b ∈ G1) ∨ (j ≠ i ∧ j ∈ slotsA avs ∧ b ∈ fp2 j ∧ b ∈ G2) := fun {j b} hj hb hp => by
              by_cases hji : j = i
              · subst hji
                rw [put_same] at hp
                refine .inl ⟨rfl, ?_⟩
                simp only [List.mem_append] at hp
                have no : ∀ b ∈ F1 ++ F2, b ∉ G1 ++ G2 := fun b hb hg => by
                  rcases s b hg with q | q
                  · exact nZ b hb q
                  · have hbi : b ∈ fp j := by rw [hF]; rcases List.mem_append.mp hb with q | q <;> simp [q]
                    exact e.fresh q ⟨j, hbi⟩
                rcases hp with q | q | q
                · exact (no b (by simp [q]) hb).elim
                · exact q
                · exact (no b (by simp [q]) hb).elim
              · have hj' : j ∈ slotsA avs := by
                  simp only [slotsA, List.mem_cons] at hj
                  exact hj.resolve_left hji
                rw [put_ne hji] at hp
                refine .inr ⟨hji, hj', hp, ?_⟩
                rcases p3 j hj' b hp with ⟨q1, q2⟩ | q
                · exfalso
                  rcases s b hb with y | y
                  · exact q2 y
                  · exact e.fresh y ⟨j, q1⟩
                · exact q
            rcases key hj hb b1 with ⟨rfl, g1⟩ | ⟨x1, x2, x3, x4⟩
            · rcases key hl hb b2 with ⟨rfl, g2⟩ | ⟨y1, y2, y3, y4⟩
              · rfl
              · exact (ng3 b g1 b y4 rfl).elim
            · rcases key hl hb b2 with ⟨rfl, g2⟩ | ⟨y1, y2, y3, y4⟩
              · exact (ng3 b g2 b x4 rfl).elim
              · exact p4 j x2 l y2 b x4 x3 y3
end
end Fz
end
section
/-! Fyh: the call of a def that changes what it is given; statements about it. -/
namespace Fz
open PySem PySem.Spec PyProof.Rows L2
section
variable {K : PySem.W.Frag} {C : Addr → Prop} {fp : Fp} {σ : L2.St} {ρ : Env} {H H1 H' : Hp}
theorem afterAll (e : EnvOk K C ρ σ H fp) {avs : List AV} {ts : List OT} {vs : List V} (hn : (slotsA avs).Nodup) (ht : treesA ρ avs = some ts) (hv : RepAVs K C fp σ H avs vs) :
    ∃ (as : List Addr) (Fs : List (List Addr)), RepArgsM K (Am C fp) H (avs.map AV.isM) as ts vs Fs ∧ Fs.flatten.Nodup ∧ (∀ a ∈ Fs.flatten, ¬ Am C fp a) ∧
      ∀ H' ts' Fn F', Kept H Fs.flatten H' (Fn ++ F') → (∀ a ∈ Fn, H' a ≠ none) → OTReps K (fun a => (Am C fp a ∨ a ∈ Fs.flatten ∨ H a = none) ∧ a ∉ Fn ++ F') H' ts' (as.map V.ref) F' →
        ∃ fp2, EnvOk K (fun a => C a ∧ a ∉ Fn) (putAll ρ avs ts') σ H' fp2 ∧ Grow H fp H' fp2 ∧ (∀ a ∈ Fn, InF fp a ∨ H a = none) ∧ (∀ a ∈ Fn, ¬ InF fp2 a) ∧ (∀ (j : Nat) p w, (putAll ρ avs ts')[j]? = some (Slot.bor p) → σ[j]? = some (some w) → Rep K (fun a => ¬ InF fp2 a ∧ a ∉ Fn) H' p w) ∧ ∀ a, ((Am C fp a ∨ a ∈ Fs.flatten ∨ H a = none) ∧ a ∉ Fn ++ F') → Am C fp2 a ∧ a ∉ Fn := by
  obtain ⟨as, Fs, h1, h2, h3, h4⟩ := zipAll e hn ht hv
  have inf : ∀ a ∈ Fs.flatten, InF fp a := fun a ha => by obtain ⟨i, _, hi⟩ := h3 a ha; exact ⟨i, hi⟩
  refine ⟨as, Fs, h1, h2, fun a ha z => z.2 (inf a ha), fun H' ts' Fn F' kp lv r => ?_⟩
  obtain ⟨nn1, nn2, nn3⟩ := List.nodup_append.mp kp.nod
  have c : Carry (Am C fp) (fun a => (Am C fp a ∨ a ∈ Fs.flatten ∨ H a = none) ∧ a ∉ Fn ++ F') H H' :=
    Carry.mk' (fun a o q z => ⟨.inl q, fun y => (kp.sub a y).elim (fun y => q.2 (inf a y)) fun y => by rw [y] at z; cases z⟩) (fun a o q z => kp.keep a o (fun y => q.2 (inf a y)) z)
      (fun a xs z => kp.keep a _ (fun y => e.ntup z (inf a y)) z) fun a o u z => kp.keep a _ (fun y => e.nfrz z (inf a y)) z
  obtain ⟨fp2, p1, p2, p3, p4⟩ := h4 _ H' ts' F' Fs.flatten (fun _ h => h) (fun a _ h _ => h) r nn2 (fun a ha => kp.sub a (by simp [ha])) c kp.keep
  -- what is in the slots afterwards
  have in2 : ∀ a, InF fp2 a → (InF fp a ∧ a ∉ Fs.flatten) ∨ a ∈ F' := fun a ⟨j, hj⟩ => by
    by_cases hs : j ∈ slotsA avs
    · exact (p3 j hs a hj).imp (fun q => ⟨⟨j, q.1⟩, q.2⟩) id
    · rw [p1 j hs] at hj
      refine .inl ⟨⟨j, hj⟩, fun z => ?_⟩
      obtain ⟨i, hi, hm⟩ := h3 a z
      exact hs (e.inj _ _ _ hm hj ▸ hi)
  have nF2 : ∀ a ∈ Fn, ¬ InF fp2 a := fun a ha h => by
    rcases in2 a h with ⟨q1, q2⟩ | q
    · rcases kp.sub a (by simp [ha]) with y | y
      · exact q2 y
      · exact e.fresh y q1
    · exact nn3 a ha a q rfl
  have bA : ∀ a, ((Am C fp a ∨ a ∈ Fs.flatten ∨ H a = none) ∧ a ∉ Fn ++ F') → Am C fp2 a ∧ a ∉ Fn := fun a ⟨q1, q2⟩ => by
    simp only [List.mem_append, not_or] at q2
    refine ⟨⟨?_, fun h => ?_⟩, q2.1⟩
    · rcases q1 with q | q | q
      · exact q.1
      · exact e.cap a (inf a q)
      · exact e.new a q
    · rcases in2 a h with ⟨y1, y2⟩ | y
      · rcases q1 with q | q | q
        · exact q.2 y1
        · exact y2 q
        · exact e.fresh q y1
      · exact q2.2 y
  have c2 : Carry (fun a => (Am C fp a ∨ a ∈ Fs.flatten ∨ H a = none) ∧ a ∉ Fn ++ F') (Am (fun a => C a ∧ a ∉ Fn) fp2) H' H' := Carry.refl fun a _ q _ => ⟨⟨(bA a q).1.1, (bA a q).2⟩, (bA a q).1.2⟩
  have cB : Carry (fun a => ¬ InF fp a) (fun a => ¬ InF fp2 a) H H' :=
    Carry.mk' (fun a o q z h => (in2 a h).elim (fun y => q y.1) fun y => (kp.sub a (by simp [y])).elim (fun y => q (inf a y)) fun y => by rw [y] at z; cases z) (fun a o q z => kp.keep a o (fun y => q (inf a y)) z)
      (fun a xs z => kp.keep a _ (fun y => e.ntup z (inf a y)) z) fun a o u z => kp.keep a _ (fun y => e.nfrz z (inf a y)) z
  have g : Grow H fp H' fp2 := ⟨fun a o h n => kp.keep a o (fun z => n (inf a z)) h, fun a xs z => kp.keep a _ (fun y => e.ntup z (inf a y)) z, fun a o u z => kp.keep a _ (fun y => e.nfrz z (inf a y)) z, kp.more, fun a h => (in2 a h).elim (fun y => .inl y.1) fun y => (kp.sub a (by simp [y])).imp (inf a) id⟩
  have lt : ∀ i ∈ slotsA avs, i < ρ.length := fun i hi => by
    obtain ⟨t2, v, q, _⟩ := p2 i hi
    have := (List.getElem?_eq_some_iff.mp q).1
    rwa [putAll_len] at this
  refine ⟨fp2, ⟨by rw [putAll_len]; exact e.len, fun i s h => ?_, fun i hi => ?_, fun i j a a1 a2 => ?_, fun i => ?_, fun a h => ?_, fun a h => ?_⟩, g, fun a ha => (kp.sub a (by simp [ha])).imp (inf a) id, nF2, fun j p w hj hw => ?_, bA⟩
  · by_cases hs : i ∈ slotsA avs
    · obtain ⟨t2, v, q1, q2, q3, q4⟩ := p2 i hs
      rw [q1] at h
      cases h
      exact ⟨v, q2, q3.carry c2 fun _ _ _ q => q⟩
    · rw [putAll_ne hs] at h
      have := e.slot i s h
      rw [p1 i hs]
      revert this
      cases s with
      | u => exact id
      | val p => rintro ⟨f, v, hv, r⟩; exact ⟨f, v, hv, Rep.carry c2 (Rep.carry c r)⟩
      | bor p => rintro ⟨f, v, hv, r⟩; exact ⟨f, v, hv, Rep.carry cB r⟩
      | own t =>
        rintro ⟨v, hv, r⟩
        exact ⟨v, hv, (r.carry c fun a ha o q => kp.keep a o (fun z => by
          obtain ⟨j, hj, hm⟩ := h3 a z
          exact hs (e.inj _ _ _ hm ha ▸ hj)) q).carry c2 fun _ _ _ q => q⟩
  · have hi' : ρ.length ≤ i := by rw [putAll_len] at hi; exact hi
    rw [p1 i fun z => by have := lt i z; omega]
    exact e.out i hi'
  · by_cases s1 : i ∈ slotsA avs
    · by_cases s2 : j ∈ slotsA avs
      · rcases p3 i s1 a a1 with ⟨x1, x2⟩ | x
        · rcases p3 j s2 a a2 with ⟨y1, y2⟩ | y
          · exact e.inj _ _ _ x1 y1
          · exact p4 i s1 j s2 a y a1 a2
        · exact p4 i s1 j s2 a x a1 a2
      · rw [p1 j s2] at a2
        rcases p3 i s1 a a1 with ⟨x1, x2⟩ | x
        · exact e.inj _ _ _ x1 a2
        · exfalso
          rcases kp.sub a (by simp [x]) with y | y
          · obtain ⟨k, hk, hm⟩ := h3 a y
            exact s2 (e.inj _ _ _ hm a2 ▸ hk)
          · exact e.fresh y ⟨j, a2⟩
    · rw [p1 i s1] at a1
      by_cases s2 : j ∈ slotsA avs
      · rcases p3 j s2 a a2 with ⟨x1, x2⟩ | x
        · exact e.inj _ _ _ a1 x1
        · exfalso
          rcases kp.sub a (by simp [x]) with y | y
          · obtain ⟨k, hk, hm⟩ := h3 a y
            exact s1 (e.inj _ _ _ hm a1 ▸ hk)
          · exact e.fresh y ⟨i, a1⟩
      · rw [p1 j s2] at a2
        exact e.inj _ _ _ a1 a2
  · by_cases hs : i ∈ slotsA avs
    · obtain ⟨t2, v, q1, q2, q3, q4⟩ := p2 i hs
      exact q4
    · rw [p1 i hs]; exact e.nod i
  · refine ⟨?_, fun z => nF2 a z h⟩
    rcases in2 a h with ⟨q, _⟩ | q
    · exact e.cap a q
    · rcases kp.sub a (by simp [q]) with y | y
      · exact e.cap a (inf a y)
      · exact e.new a y
  · refine ⟨e.new a ?_, fun z => lv a z h⟩
    cases z : H a with
    | none => rfl
    | some o => exact absurd h (kp.more a (by rw [z]; simp))
  · by_cases hs : j ∈ slotsA avs
    · obtain ⟨t2, v, q1, _⟩ := p2 j hs
      rw [q1] at hj; cases hj
    · rw [putAll_ne hs] at hj
      obtain ⟨_, w', hw', r'⟩ := e.slot j _ hj
      rw [hw] at hw'; cases hw'
      exact Rep.carry (Carry.mk' (fun a o q z => ⟨fun h => (in2 a h).elim (fun y => q y.1) fun y => (kp.sub a (by simp [y])).elim (fun y => q (inf a y)) (fun y => by rw [y] at z; cases z), fun y => (kp.sub a (by simp [y])).elim (fun y => q (inf a y)) (fun y => by rw [y] at z; cases z)⟩) (fun a o q z => kp.keep a o (fun y => q (inf a y)) z)
        (fun a xs z => kp.keep a _ (fun y => e.ntup z (inf a y)) z) fun a o u z => kp.keep a _ (fun y => e.nfrz z (inf a y)) z) r'
end
section
variable {X : Cx} {C : Addr → Prop} {W : WX} {e : Expr} {pos p2 : Pos} {f : E} {px : Px} {fo : O}
theorem aj_nil : AJ X C W [] aNil := pa_weak pa_nil fun σ H Q ⟨ρ, fp, eo, o⟩ => o [] H (Same.refl H) trivial
theorem RepAVs.same {K : PySem.W.Frag} {fp : Fp} {σ : L2.St} {H H' : Hp} (s : Same H H') : ∀ {as : List AV} {vs : List V}, RepAVs K C fp σ H as vs → RepAVs K C fp σ H' as vs
  | [], [], h => h
  | a :: as, v :: vs, h => ⟨RepAV.same s h.1, RepAVs.same s h.2⟩
theorem aj_E {es : List Expr} {l : AL} (h : EJ X C W .E e f) (h2 : AJ X C W es l) (hs : starEach (e :: es) X.env = (false, eval e X.env) :: starEach es X.env := by rfl) : AJ X C W (e :: es) (aE f l) :=
  pa_weak (pa_cons h h2 hs) fun σ H Q ⟨ρ, fp, eo, o⟩ => by
    refine ⟨ρ, fp, eo, (Out.bind o).mono (fun p o1 v H1 s1 r1 => ?_) fun _ _ q => q⟩
    refine ⟨ρ, fp, eo.same s1, (Out.bind o1).mono (fun ps o2 vs H2 s2 r2 => ?_) fun _ _ q => q.later s1⟩
    exact o2 (v :: vs) H2 (s1.trans s2) ⟨RepM.same (m := .E) s2 r1, r2⟩
theorem aj_M {es : List Expr} {l : AL} {i : Nat} (h : PxJ X C W i e px) (h2 : AJ X C W es l) (hs : starEach (e :: es) X.env = (false, eval e X.env) :: starEach es X.env := by rfl) : AJ X C W (e :: es) (aM i px l) :=
  pa_weak (pa_cons h.run h2 hs) fun σ H Q ⟨ρ, fp, eo, o⟩ => by
    refine ⟨ρ, fp, eo, (Out.bind o).and.mono (fun π ⟨ep, o1⟩ v u H1 s1 hv hu => ?_) fun _ _ q => q⟩
    refine ⟨ρ, fp, eo.same s1, (Out.bind o1).mono (fun ps o2 vs H2 s2 r2 => ?_) fun _ _ q => q.later s1⟩
    exact o2 (u :: vs) H2 (s1.trans s2) ⟨⟨v, hv, hu.same s2⟩, r2⟩
theorem mj_call {k j : Nat} {x : Str} {ps : List Str} {fl : List Bool} {g : FnM} {es : List Expr} {l : AL} (D : DefM X.prog X.w X.K X.mg X.base k x ps fl g) (hr : Room j X.A) (hk : k ≤ j) (tk : Takes X W) (hg : Gl X x) (ha : AJ X C W (e :: es) l) (hdb : (x == ("__debug__" : Str)) = false := by decide)
    (he : starEach (e :: es) X.env = (false, eval e X.env) :: starEach es X.env := by rfl) (hpl : (backTo pos (starEach es X.env)).any (·.1) = false := by rfl) : MJ X C W (.Call (.Name x p2) (e :: es) [] pos) (mCall fl g l) := by
  obtain ⟨f, fd, F, hm, kp, b⟩ := D.ex
  refine pe_weak (pe_callS F (hr.mono hk) hg hm kp b (fun σ => passAt tk σ) ha hdb he hpl) fun σ H Q h => ?_
  obtain ⟨ρ, fp, eo, o⟩ := h
  refine ⟨ρ, fp, eo, ?_⟩
  unfold mCall callE at o
  cases el : l ρ with
  | bad => rw [el] at o; exact o.elim
  | exc c fs =>
    rw [el] at o
    exact fun H' s => o H' fp (eo.same s) (Grow.same s)
  | ok avs =>
    rw [el] at o
    intro vs H1 s1 rv
    dsimp only at o
    by_cases hc : avs.map AV.isM = fl ∧ (slotsA avs).Nodup
    · rw [if_pos hc] at o
      obtain ⟨hfl, hnd⟩ := hc
      cases et : treesA ρ avs with
      | none => rw [et] at o; exact o.elim
      | some ts =>
        rw [et] at o
        have eo1 := eo.same s1
        obtain ⟨as, Fs, h1, h2, h3, h4⟩ := afterAll eo1 hnd et rv
        rw [hfl] at h1
        refine ⟨Am C fp, as, ts, Fs, h1, h2, h3, ?_⟩
        have none0 : ∀ a, H1 a = none → H a = none := fun a z => by
          cases y : H a with
          | none => rfl
          | some o => rw [s1 _ _ y] at z; cases z
        unfold goE at o
        dsimp only at o
        rcases anyA_spec (g := g) (ts := ts) h1.len.1.2 with hb | hg'
        · rw [hb] at o; exact o.elim
        · rw [hg']
          cases er : anyA (fl.filter id).length g ts with
          | bad => rw [er] at o; exact o.elim
          | ok oo ts' =>
            rw [er] at o
            intro v H' Fn F' kp ro rts
            obtain ⟨fp2, e2, g2, sF, nF, bo, bA⟩ := h4 H' ts' Fn F' kp (fun a ha z => by
              obtain ⟨w, hw, _⟩ := ro.live a ha
              rw [z] at hw; cases hw) rts
            exact o v H' fp2 Fn e2 ((Grow.same s1).trans g2) (List.nodup_append.mp kp.nod).1 (fun a ha => (sF a ha).imp id (none0 a)) nF bo (ro.carry (Carry.refl fun a _ q _ => bA a q) fun _ _ _ q => q)
          | exc c fs ts' =>
            rw [er] at o
            intro H' F' kp rts
            obtain ⟨fp2, e2, g2, sF, nF, bo, bA⟩ := h4 H' ts' [] F' kp (fun a ha => nomatch ha) rts
            have ec : (fun a => C a ∧ a ∉ ([] : List Addr)) = C := by funext a; simp
            rw [ec] at e2
            have := o H' fp2 e2 ((Grow.same s1).trans g2)
            cases fs with
            | none => exact this
            | some fs => exact this
    · rw [if_neg hc] at o
      exact o.elim
/-! statements -/
def withE (r : ResE) (k : OT → Env → Fl) : Fl := match r with
  | .ok o ρ => k o ρ
  | .exc c fs ρ => .ex c fs ρ
  | .bad => .bad
@[simp] theorem withE_ok (o : OT) (ρ : Env) (k : OT → Env → Fl) : withE (.ok o ρ) k = k o ρ := (rfl)
@[simp] theorem withE_exc (c : String) (fs : Option (List (String × PV))) (ρ : Env) (k : OT → Env → Fl) : withE (.exc c fs ρ) k = .ex c fs ρ := (rfl)
@[simp] theorem withE_bad (k : OT → Env → Fl) : withE .bad k = .bad := (rfl)
def sDropM (q : Mx) : S := fun ρ => withE (q ρ) fun _ ρ => .nx ρ
def sAsgM (i : Nat) (q : Mx) : S := fun ρ => withE (q ρ) fun o ρ => if i < ρ.length then .nx (ρ.set i (toSlot o)) else .bad
def sRetMq (q : Mx) : S := fun ρ => withE (q ρ) fun o ρ => .rt o
/-- what was handed back is taken into a slot -/
theorem EnvOk.adopt {K : PySem.W.Frag} {ρ : Env} {σ : L2.St} {H : Hp} {fp : Fp} {Fn : List Addr} {i : Nat} {o : OT} {v : V} (e : EnvOk K (fun a => C a ∧ a ∉ Fn) ρ σ H fp) (hi : i < ρ.length) (hC : ∀ a ∈ Fn, C a) (hn : Fn.Nodup) (dis : ∀ a ∈ Fn, ¬ InF fp a) (bo : ∀ (j : Nat) p w, ρ[j]? = some (Slot.bor p) → σ[j]? = some (some w) → Rep K (fun a => ¬ InF fp a ∧ a ∉ Fn) H p w) (r : OTRep K (fun a => Am C fp a ∧ a ∉ Fn) H o v Fn) :
    EnvOk K C (ρ.set i (toSlot o)) (σ.set i (some v)) H (put fp i Fn) := by
  have inp : ∀ a, InF (put fp i Fn) a → a ∈ Fn ∨ InF fp a := fun a h => (inF_put h).imp id fun q => q.1
  have c : Carry (Am (fun a => C a ∧ a ∉ Fn) fp) (Am C (put fp i Fn)) H H := Carry.refl fun a _ q _ => ⟨q.1.1, fun z => (inp a z).elim q.1.2 q.2⟩
  have c2 : Carry (fun a => Am C fp a ∧ a ∉ Fn) (Am C (put fp i Fn)) H H := Carry.refl fun a _ q _ => ⟨q.1.1, fun z => (inp a z).elim q.2 q.1.2⟩
  refine ⟨by simp [e.len], fun j s h => ?_, fun j hj => ?_, fun j k a a1 a2 => ?_, fun j => ?_, fun a h => ?_, fun a h => (e.new a h).1⟩
  · by_cases hji : j = i
    · subst hji
      rw [List.getElem?_set_self hi] at h
      cases h
      rw [put_same, List.getElem?_set_self (by rw [← e.len]; exact hi)]
      cases o with
      | fz p => obtain ⟨rfl, r⟩ := r; exact ⟨rfl, v, rfl, Rep.carry c2 r⟩
      | l ps => exact ⟨v, rfl, OTRep.carry c2 (fun _ _ _ q => q) r⟩
      | d ps => exact ⟨v, rfl, OTRep.carry c2 (fun _ _ _ q => q) r⟩
      | dt ps => exact ⟨v, rfl, OTRep.carry c2 (fun _ _ _ q => q) r⟩
      | ins c' ps => exact ⟨v, rfl, OTRep.carry c2 (fun _ _ _ q => q) r⟩
      | T ps => exact ⟨v, rfl, OTRep.carry c2 (fun _ _ _ q => q) r⟩
      | L ps => exact ⟨v, rfl, OTRep.carry c2 (fun _ _ _ q => q) r⟩
      | D ps => exact ⟨v, rfl, OTRep.carry c2 (fun _ _ _ q => q) r⟩
      | I c' ps => exact ⟨v, rfl, OTRep.carry c2 (fun _ _ _ q => q) r⟩
      | P a ps => exact ⟨v, rfl, OTRep.carry c2 (fun _ _ _ q => q) r⟩
      | M a ps => exact ⟨v, rfl, OTRep.carry c2 (fun _ _ _ q => q) r⟩
    · rw [List.getElem?_set_ne (Ne.symm hji)] at h
      rw [put_ne hji, List.getElem?_set_ne (Ne.symm hji)]
      have := e.slot j s h
      revert this
      cases s with
      | u => exact id
      | val p => rintro ⟨f, w, hw, r⟩; exact ⟨f, w, hw, Rep.carry c r⟩
      | bor p => rintro ⟨f, w, hw, _⟩; exact ⟨f, w, hw, Rep.carry (Carry.refl fun a _ q _ z => (inp a z).elim q.2 q.1) (bo j p w h hw)⟩
      | own t => rintro ⟨w, hw, r⟩; exact ⟨w, hw, OTRep.carry c (fun _ _ _ q => q) r⟩
  · have hj' : ρ.length ≤ j := by simpa using hj
    rw [put_ne (by omega)]
    exact e.out j hj'
  · by_cases h1 : j = i
    · by_cases h2 : k = i
      · rw [h1, h2]
      · subst h1; rw [put_same] at a1; rw [put_ne h2] at a2; exact (dis a a1 ⟨k, a2⟩).elim
    · by_cases h2 : k = i
      · subst h2; rw [put_same] at a2; rw [put_ne h1] at a1; exact (dis a a2 ⟨j, a1⟩).elim
      · rw [put_ne h1] at a1; rw [put_ne h2] at a2; exact e.inj _ _ _ a1 a2
  · by_cases h1 : j = i
    · subst h1; rw [put_same]; exact hn
    · rw [put_ne h1]; exact e.nod j
  · rcases inp a h with q | q
    · exact hC a q
    · exact (e.cap a q).1
theorem EnvOk.wide {K : PySem.W.Frag} {C C' : Addr → Prop} {ρ : Env} {σ : L2.St} {H : Hp} {fp : Fp} (e : EnvOk K C ρ σ H fp) (h : ∀ a, C a → C' a) : EnvOk K C' ρ σ H fp where
  len := e.len
  slot := fun i s hs => by
    have := e.slot i s hs
    have c : Carry (Am C fp) (Am C' fp) H H := Carry.refl fun a _ q _ => ⟨h a q.1, q.2⟩
    revert this
    cases s with
    | u => exact id
    | val p => rintro ⟨f, w, hw, r⟩; exact ⟨f, w, hw, Rep.carry c r⟩
    | bor p => exact id
    | own t => rintro ⟨w, hw, r⟩; exact ⟨w, hw, OTRep.carry c (fun _ _ _ q => q) r⟩
  out := e.out
  inj := e.inj
  nod := e.nod
  cap := fun a q => h a (e.cap a q)
  new := fun a q => h a (e.new a q)
theorem FlQ.ofE {K : PySem.W.Frag} {W : WX} {D : Ends} {H : Hp} {fp : Fp} {σ : L2.St} {r : ResE} {k : OT → Env → Fl} {P : OT → Env → Prop} (h : FlQ K C W D H fp (withE r k)) (hk : ∀ o ρ', FlQ K C W D H fp (k o ρ') → P o ρ') : OutE K C W σ H fp P r := by
  cases r with
  | ok o ρ' => exact hk o ρ' h
  | exc c fs ρ' => exact fun H' fp' e g => h σ H' fp' e g
  | bad => exact h
theorem sj_dropM {q : Mx} (he : MJ X C W e q) (hs : swapsWith e none pos.line X.env = pure false := by rfl) : SJ X C W (.Expr e pos) (sDropM q) := ps_weak (ps_expr he hs) fun D σ H ⟨ρ, fp, eo, h⟩ =>
  ⟨ρ, fp, eo, FlQ.ofE h fun o ρ' h v H' fp' Fn e2 g n sb dis bo r => h σ H' fp' (e2.wide fun _ q => q.1) g⟩
theorem grow_put {H H' : Hp} {fp fp' : Fp} {Fn : List Addr} {i : Nat} (g : Grow H fp H' fp') (s : ∀ a ∈ Fn, InF fp a ∨ H a = none) : Grow H fp H' (put fp' i Fn) :=
  ⟨g.keep, g.tups, g.frz, g.more, fun a h => (inF_put h).elim (s a) fun q => g.new a q.1⟩
theorem sj_asgM {i : Nat} {x : Str} {q : Mx} {pos' : Pos} (hN : X.N.Nodup) (hi : X.N[i]? = some x) (hx : Loc X.env.scope x) (he : MJ X C W e q) (hs : swapsWith e (some (.Name x pos')) pos.line X.env = pure false := by rfl)
    (hf : X.fn x = true ∨ X.env.scope.names.lookup x = some .local := by first | exact .inl rfl | exact .inr rfl | assumption) : SJ X C W (.Assign [.Name x pos'] e pos) (sAsgM i q) :=
  ps_weak (ps_set hN hi hx he hs hf) fun D σ H ⟨ρ, fp, eo, h⟩ => by
    refine ⟨ρ, fp, eo, FlQ.ofE h fun o ρ' h v H' fp' Fn e2 g n sb dis bo r => ?_⟩
    split at h
    · rename_i hl
      exact h _ H' _ (e2.adopt hl (fun a ha => (sb a ha).elim (eo.cap a) (eo.new a)) n dis bo r) (grow_put g sb)
    · exact h.elim
theorem sj_retM {q : Mx} (he : MJ X C W e q) : SJ X C W (.Return (some e) pos) (sRetMq q) := ps_weak (ps_ret he) fun D σ H ⟨ρ, fp, eo, h⟩ =>
  ⟨ρ, fp, eo, FlQ.ofE h fun o ρ' h v H' fp' Fn e2 g n sb dis bo r => h v H' Fn (grow_end g) n sb (r.carry (Carry.refl fun a _ q _ => ⟨q.1.1, q.2⟩) fun _ _ _ q => q)⟩
/-! what a changing def hands back -/
def owns (ρ : Env) : List Nat → Option (List OT)
  | [] => some []
  | j :: js => (ownT ρ[j]?).bind fun t => (owns ρ js).map fun ts => t :: ts
def retMM (o : OT) : Option (List OT) → Fl
  | some ts => .rt (.M o ts)
  | none => .bad
def sRetO (js : List Nat) (f : O) : S := fun ρ => withR (f ρ) ρ fun o => retMM o (owns ρ js)
def sRetOM (js : List Nat) (q : Mx) : S := fun ρ => withE (q ρ) fun o ρ => retMM o (owns ρ js)
theorem owns_rep {K : PySem.W.Frag} {ρ : Env} {σ : L2.St} {H : Hp} {fp : Fp} (e : EnvOk K C ρ σ H fp) : ∀ {js : List Nat} {ts : List OT}, js.Nodup → owns ρ js = some ts → ∃ xs F, OTReps K (Am C fp) H ts xs F ∧ F.Nodup ∧ ∀ a ∈ F, ∃ j ∈ js, a ∈ fp j
  | [], ts, _, h => by simp only [owns, Option.some.injEq] at h; subst h; exact ⟨[], [], ⟨rfl, rfl⟩, List.nodup_nil, fun _ h => nomatch h⟩
  | j :: js, ts, n, h => by
    obtain ⟨t, h1, h2⟩ := Option.bind_eq_some_iff.mp (show (ownT ρ[j]?).bind _ = some ts from h)
    obtain ⟨ts', h3, rfl⟩ := Option.map_eq_some_iff.mp h2
    obtain ⟨nj, n⟩ := List.nodup_cons.mp n
    obtain ⟨xs, F, r, nF, s⟩ := owns_rep e n h3
    obtain ⟨t', ht, hat⟩ : ∃ t', ρ[j]? = some (.own t') ∧ t' = t := by
      cases es : ρ[j]? with
      | none => rw [es] at h1; cases h1
      | some sl =>
        rw [es] at h1
        cases sl with
        | own t' => exact ⟨t', rfl, Option.some.inj h1⟩
        | _ => cases h1
    subst hat
    obtain ⟨v, hv, rt⟩ := e.slot j _ ht
    refine ⟨v :: xs, fp j ++ F, ⟨v, xs, fp j, F, rfl, rfl, rt, r⟩, List.nodup_append.mpr ⟨e.nod j, nF, fun a ha b hb z => ?_⟩, fun a ha => ?_⟩
    · subst z
      obtain ⟨k, hk, hm⟩ := s a hb
      exact nj (e.inj _ _ _ ha hm ▸ hk)
    · rcases List.mem_append.mp ha with q | q
      · exact ⟨j, by simp, q⟩
      · obtain ⟨k, hk, hm⟩ := s a q
        exact ⟨k, by simp [hk], hm⟩
theorem sj_retO {js : List Nat} (he : OJ X C W e fo) (hjs : js.Nodup := by decide) : SJ X C W (.Return (some e) pos) (sRetO js fo) := ps_weak (ps_ret he) fun D σ H ⟨ρ, fp, eo, h⟩ => by
  refine ⟨ρ, fp, eo, (FlQ.ofR eo h).mono (fun o q v H' Fn s n hf r => ?_) fun _ _ q => q⟩
  cases eb : owns ρ js with
  | none => rw [eb] at q; exact q.elim
  | some ts =>
    rw [eb] at q
    obtain ⟨xs, F, r2, nF, s2⟩ := owns_rep eo hjs eb
    have inF : ∀ a ∈ F, InF fp a := fun a ha => by obtain ⟨j, _, hj⟩ := s2 a ha; exact ⟨j, hj⟩
    have dis : ∀ a ∈ Fn, a ∉ F := fun a ha z => eo.fresh (hf a ha) (inF a z)
    refine q v H' (Fn ++ F) (grow_end (Grow.same s)) (List.nodup_append.mpr ⟨n, nF, fun a ha b hb z => dis a ha (z ▸ hb)⟩) (fun a ha => (List.mem_append.mp ha).elim (fun z => .inr (hf a z)) fun z => .inl (inF a z)) ⟨xs, Fn, F, rfl, r.carry (Carry.refl fun a _ q _ => ⟨q.1.1, fun z => (List.mem_append.mp z).elim q.2 fun y => q.1.2 (inF a y)⟩) fun _ _ _ q => q, OTReps.carry (Carry.mk' (fun a o q z => ⟨q.1, fun y => (List.mem_append.mp y).elim (fun y => by rw [hf a y] at z; cases z) fun y => q.2 (inF a y)⟩) (fun a o _ z => s a o z) (fun a xs z => s a _ z) fun a o u z => s a _ z) (fun a _ o q => s a o q) r2⟩
theorem sj_retOM {js : List Nat} {q : Mx} (he : MJ X C W e q) (hjs : js.Nodup := by decide) : SJ X C W (.Return (some e) pos) (sRetOM js q) := ps_weak (ps_ret he) fun D σ H ⟨ρ, fp, eo, h⟩ => by
  refine ⟨ρ, fp, eo, FlQ.ofE h fun o ρ' h v H' fp' Fn e2 g n sb dis bo r => ?_⟩
  cases eb : owns ρ' js with
  | none => rw [eb] at h; exact h.elim
  | some ts =>
    rw [eb] at h
    obtain ⟨xs, F, r2, nF, s2⟩ := owns_rep e2 hjs eb
    have inF : ∀ a ∈ F, InF fp' a := fun a ha => by obtain ⟨j, _, hj⟩ := s2 a ha; exact ⟨j, hj⟩
    exact h v H' (Fn ++ F) (grow_end g) (List.nodup_append.mpr ⟨n, nF, fun a ha b hb z => dis a ha (inF a (z ▸ hb))⟩) (fun a ha => (List.mem_append.mp ha).elim (sb a) fun z => g.new a (inF a z)) ⟨xs, Fn, F, rfl, r.carry (Carry.refl fun a _ q _ => ⟨q.1.1, fun z => (List.mem_append.mp z).elim q.2 fun y => q.1.2 (inF a y)⟩) fun _ _ _ q => q, OTReps.carry (Carry.refl fun a _ q _ => ⟨q.1.1, fun y => (List.mem_append.mp y).elim q.1.2 fun y => q.2 (inF a y)⟩) (fun _ _ _ q => q) r2⟩
end
end Fz
end
section
/-! Fyi: for the plain proofs: calls of changing defs; while. -/
namespace Fz
open PySem (sizeLine Addr)
open L2 (atI ixN)
section
variable (ρ : Env) (i : Nat) (f : E) (fo : O) (l : AL) (px : Px) (q : Mx)
@[simp] theorem m_aNil : aNil ρ = .ok [] := (rfl)
@[simp] theorem m_aE : aE f l ρ = f ρ >>= fun p => l ρ >>= fun as => .ok (.e p :: as) := (rfl)
@[simp] theorem m_aM : aM i px l ρ = px ρ >>= fun π => l ρ >>= fun as => .ok (.m i π :: as) := (rfl)
@[simp] theorem m_mCall (fl : List Bool) (g : FnM) : mCall fl g l ρ = callE fl g ρ (l ρ) := (rfl)
@[simp] theorem callE_exc (fl : List Bool) (g : FnM) (c : String) (fs : Option (List (String × PV))) : callE fl g ρ (.exc c fs) = .exc c fs ρ := (rfl)
@[simp] theorem callE_bad (fl : List Bool) (g : FnM) : callE fl g ρ .bad = .bad := (rfl)
@[simp] theorem isM_e (p : PV) : (AV.e p).isM = false := (rfl)
@[simp] theorem isM_m (π : List Nat) : (AV.m i π).isM = true := (rfl)
@[simp] theorem slotsA_nil : slotsA [] = [] := (rfl)
@[simp] theorem slotsA_e (p : PV) (as : List AV) : slotsA (.e p :: as) = slotsA as := (rfl)
@[simp] theorem slotsA_m (π : List Nat) (as : List AV) : slotsA (.m i π :: as) = i :: slotsA as := (rfl)
@[simp] theorem callE_ok (fl : List Bool) (g : FnM) (avs : List AV) : callE fl g ρ (.ok avs) = if avs.map AV.isM = fl ∧ (slotsA avs).Nodup then goE (fl.filter id).length g ρ avs (treesA ρ avs) else .bad := (rfl)
@[simp] theorem goE_some (m : Nat) (g : FnM) (avs : List AV) (ts : List OT) : goE m g ρ avs (some ts) = backE ρ avs (anyA m g ts) := (rfl)
@[simp] theorem treesA_nil : treesA ρ [] = some [] := (rfl)
@[simp] theorem treesA_cons (a : AV) (as : List AV) : treesA ρ (a :: as) = (tOf ρ a).bind fun t => (treesA ρ as).map fun ts => t :: ts := (rfl)
@[simp] theorem tOf_e (p : PV) : tOf ρ (.e p) = some (.fz p) := (rfl)
@[simp] theorem tOf_m (π : List Nat) : tOf ρ (.m i π) = (nodeOf i ρ π).bind nd1 := (rfl)
@[simp] theorem nd1_l (p : List PV) : nd1 (.l p) = some (.l p) := (rfl)
@[simp] theorem nd1_d (p : List (K1 × PV)) : nd1 (.d p) = some (.d p) := (rfl)
@[simp] theorem nd1_dt (p : List (List K1 × PV)) : nd1 (.dt p) = some (.dt p) := (rfl)
@[simp] theorem nd1_L (p : List OT) : nd1 (.L p) = some (.L p) := (rfl)
@[simp] theorem nd1_D (p : List (K1 × OT)) : nd1 (.D p) = some (.D p) := (rfl)
@[simp] theorem nd1_T (p : List OT) : nd1 (.T p) = some (.T p) := (rfl)
@[simp] theorem nd1_I (c : String) (p : List (String × OT)) : nd1 (.I c p) = some (.I c p) := (rfl)
@[simp] theorem backE_ok (avs : List AV) (o : OT) (ts : List OT) : backE ρ avs (.ok o ts) = .ok o (putAll ρ avs ts) := (rfl)
@[simp] theorem backE_exc (avs : List AV) (c : String) (fs : Option (List (String × PV))) (ts : List OT) : backE ρ avs (.exc c fs ts) = .exc c fs (putAll ρ avs ts) := (rfl)
@[simp] theorem putAll_nil (ts : List OT) : putAll ρ [] ts = ρ := (rfl)
@[simp] theorem putAll_e (p : PV) (as : List AV) (ts : List OT) : putAll ρ (.e p :: as) ts = putAll ρ as ts := (rfl)
@[simp] theorem putAll_m (π : List Nat) (as : List AV) (t : OT) (ts : List OT) : putAll ρ (.m i π :: as) (t :: ts) = put1 (putAll ρ as ts) i π t (ownT ρ[i]?) := (rfl)
@[simp] theorem put1_some (π : List Nat) (t t' : OT) : put1 ρ i π t' (some t) = ρ.set i (.own (t.put π t')) := (rfl)
@[simp] theorem m_sDropM : sDropM q ρ = withE (q ρ) fun _ ρ => .nx ρ := (rfl)
@[simp] theorem m_sAsgM : sAsgM i q ρ = withE (q ρ) fun o ρ => if i < ρ.length then .nx (ρ.set i (toSlot o)) else .bad := (rfl)
@[simp] theorem m_sRetMq : sRetMq q ρ = withE (q ρ) fun o ρ => .rt o := (rfl)
@[simp] theorem m_sRetO (js : List Nat) : sRetO js fo ρ = withR (fo ρ) ρ fun o => retMM o (owns ρ js) := (rfl)
@[simp] theorem m_sRetOM (js : List Nat) : sRetOM js q ρ = withE (q ρ) fun o ρ => retMM o (owns ρ js) := (rfl)
@[simp] theorem owns_nil : owns ρ [] = some [] := (rfl)
@[simp] theorem owns_cons (j : Nat) (js : List Nat) : owns ρ (j :: js) = (ownT ρ[j]?).bind fun t => (owns ρ js).map fun ts => t :: ts := (rfl)
@[simp] theorem retMM_some (o : OT) (ts : List OT) : retMM o (some ts) = .rt (.M o ts) := (rfl)
/-! a changing def by its body -/
def poM (as : List Addr) (fl : List Bool) (R : OT → List OT → Prop) : Po := ⟨fun ρ => ∃ ts, endM fl as ρ = some ts ∧ R (.fz .non) ts, fun _ => False, fun _ => False, fun o => ∃ r ps ts, o = .M r ps ∧ unP as ps = some ts ∧ R r ts, fun _ _ _ => False⟩
@[simp] theorem poM_nx (as : List Addr) (fl : List Bool) (R : OT → List OT → Prop) : (poM as fl R).nx ρ = ∃ ts, endM fl as ρ = some ts ∧ R (.fz .non) ts := (rfl)
@[simp] theorem poM_rt (as : List Addr) (fl : List Bool) (R : OT → List OT → Prop) (r : OT) (ps : List OT) : (poM as fl R).rt (.M r ps) = ∃ ts, unP as ps = some ts ∧ R r ts := propext ⟨fun ⟨r', ps', ts, e, h1, h2⟩ => by cases e; exact ⟨ts, h1, h2⟩, fun ⟨ts, h1, h2⟩ => ⟨r, ps, ts, rfl, h1, h2⟩⟩
theorem runM_ok {n : Nat} {fl : List Bool} {s : S} {as : List Addr} {ts : List OT} (R : OT → List OT → Prop) (h : lenM fl as ts) (hs : sat (s (slotsM fl as ts ++ List.replicate (n - fl.length) .u)) (poM as fl R)) : ∃ o ts', runFnM n fl s as ts = .ok o ts' ∧ R o ts' := by
  unfold runFnM
  rw [if_pos h]
  unfold sat at hs
  revert hs
  cases s (slotsM fl as ts ++ List.replicate (n - fl.length) .u) with
  | nx ρ =>
    rintro ⟨ts', h1, h2⟩
    exact ⟨_, ts', by show okM _ _ = _; rw [h1]; rfl, h2⟩
  | rt o =>
    rintro ⟨r, ps, ts', rfl, h1, h2⟩
    exact ⟨r, ts', by show okM _ _ = _; rw [h1]; rfl, h2⟩
  | bk ρ => exact fun h => h.elim
  | ct ρ => exact fun h => h.elim
  | ex c fs ρ => exact fun h => h.elim
  | bad => exact fun h => h.elim
/-- its whole, where it is known -/
theorem runM_eq {n : Nat} {fl : List Bool} {s : S} {as : List Addr} {ts : List OT} {o : OT} {ts' : List OT} (h : lenM fl as ts) (hs : sat (s (slotsM fl as ts ++ List.replicate (n - fl.length) .u)) (poM as fl fun r us => r = o ∧ us = ts')) : runFnM n fl s as ts = .ok o ts' := by
  obtain ⟨r, us, e, rfl, rfl⟩ := runM_ok _ h hs
  exact e
@[simp] theorem slotsM_t (fl : List Bool) (a : Addr) (as : List Addr) (t : OT) (ts : List OT) : slotsM (true :: fl) (a :: as) (t :: ts) = .own (.P a t) :: slotsM fl as ts := (rfl)
@[simp] theorem slotsM_f (fl : List Bool) (as : List Addr) (p : PV) (ts : List OT) : slotsM (false :: fl) as (.fz p :: ts) = .val p :: slotsM fl as ts := by cases as <;> rfl
@[simp] theorem slotsM_n : slotsM [] [] [] = [] := (rfl)
@[simp] theorem endM_t (fl : List Bool) (a : Addr) (as : List Addr) (t : OT) : endM (true :: fl) (a :: as) (.own (.P a t) :: ρ) = (endM fl as ρ).map (t :: ·) := if_pos rfl
@[simp] theorem endM_f (fl : List Bool) (as : List Addr) (s : Slot) : endM (false :: fl) as (s :: ρ) = endM fl as ρ := by cases as <;> rfl
@[simp] theorem endM_n : endM [] [] ρ = some [] := (rfl)
@[simp] theorem unP_c (a : Addr) (as : List Addr) (t : OT) (ts : List OT) : unP (a :: as) (.P a t :: ts) = (unP as ts).map (t :: ·) := if_pos rfl
@[simp] theorem unP_n : unP [] [] = some [] := (rfl)
end
/-! while -/
theorem sat_while {t : T} {body : S} {P : Po} (I : Nat → Env → Prop) : ∀ {n : Nat} {ρ : Env}, I n ρ → (∀ n ρ, I n ρ → ∃ b, t ρ = .ok b ∧ (b = true → sat (body ρ) { P with nx := fun ρ' => ∃ m, m < n ∧ I m ρ', ct := fun ρ' => ∃ m, m < n ∧ I m ρ', bk := P.nx }) ∧ (b = false → P.nx ρ)) → sat (sWhile t body ρ) P := by
  intro n ρ h0 st
  have key : ∀ (k n : Nat) (ρ : Env), n < k → I n ρ → ∃ r m, whileN t body m ρ = some r ∧ sat r P := by
    intro k
    induction k with
    | zero => intro n ρ h; omega
    | succ k ih =>
      intro n ρ hn hI
      obtain ⟨b, hb, h1, h2⟩ := st n ρ hI
      cases b with
      | false => exact ⟨.nx ρ, 1, by simp [whileN, hb], by rw [sat_nx]; exact h2 rfl⟩
      | true =>
        have hs := h1 rfl
        cases e : body ρ with
        | nx ρ2 =>
          rw [e, sat_nx] at hs
          obtain ⟨m, hm, hI2⟩ := hs
          obtain ⟨r, j, hj, hr⟩ := ih m ρ2 (by omega) hI2
          exact ⟨r, j + 1, by simp [whileN, hb, e, hj], hr⟩
        | ct ρ2 =>
          rw [e, sat_ct] at hs
          obtain ⟨m, hm, hI2⟩ := hs
          obtain ⟨r, j, hj, hr⟩ := ih m ρ2 (by omega) hI2
          exact ⟨r, j + 1, by simp [whileN, hb, e, hj], hr⟩
        | bk ρ2 => rw [e, sat_bk] at hs; exact ⟨.nx ρ2, 1, by simp [whileN, hb, e], by rw [sat_nx]; exact hs⟩
        | rt o => rw [e, sat_rt] at hs; exact ⟨.rt o, 1, by simp [whileN, hb, e], by rw [sat_rt]; exact hs⟩
        | ex c fs ρ2 => rw [e, sat_ex] at hs; exact ⟨.ex c fs ρ2, 1, by simp [whileN, hb, e], by rw [sat_ex]; exact hs⟩
        | bad => rw [e] at hs; unfold sat at hs; exact hs.elim
  obtain ⟨r, m, hm, hr⟩ := key (n + 1) n ρ (by omega) h0
  rw [sWhile_of hm]
  exact hr
end Fz
end
section
/-! Fyj: < and its like between tuples, lists. -/
namespace Fz
open PySem PySem.Spec PyProof.Rows L2
def likeP (p q : PV) : Bool := PySem.W.alike (toD p) (toD q)
def pvLt (p q : PV) : Bool := PySem.W.dataLt (toD p) (toD q)
def notNo : PV → Bool
  | .non => false
  | _ => true
def ordOk (p q : PV) : Bool := eqOk p && eqOk q && likeP p q && notNo p
def gLtA : Cmp := fun p q => if ordOk p q = true then some (pvLt p q) else none
def gGtA : Cmp := fun p q => if ordOk p q = true then some (pvLt q p) else none
def gLeA : Cmp := fun p q => if ordOk p q = true then some (!pvLt q p) else none
def gGeA : Cmp := fun p q => if ordOk p q = true then some (!pvLt p q) else none
def rOrdD (K : PySem.W.Frag) (r : PyData → PyData → Bool) : R2 := fun x y H Q => ∃ d e, Dp K H x d ∧ Dp K H y e ∧ PySem.W.alike d e = true ∧ d ≠ .none ∧ min d.depth e.depth ≤ 64 ∧ Q (.bl (r d e)) H
section
variable {X : Cx}
theorem opr_ltA (hu : Hu X) : OpR X (compareOp .Lt) (rOrdD X.K fun d e => PySem.W.dataLt d e) := by
  intro pins s σ H x y v u Q I rx ry ⟨d, e, hd, he, al, nn, dp, q⟩
  obtain ⟨as, r1⟩ := Dp.reads I d x v hd rx
  obtain ⟨bs, r2⟩ := Dp.reads I e y u he ry
  exact PySem.W.lt_data r1 r2 al nn (by have := hu; unfold Hu at this; omega) ⟨.bl _, H, I, rfl, q⟩
theorem opr_gtA (hu : Hu X) : OpR X (compareOp .Gt) (rOrdD X.K fun d e => PySem.W.dataLt e d) := by
  intro pins s σ H x y v u Q I rx ry ⟨d, e, hd, he, al, nn, dp, q⟩
  obtain ⟨as, r1⟩ := Dp.reads I d x v hd rx
  obtain ⟨bs, r2⟩ := Dp.reads I e y u he ry
  exact PySem.W.gt_data r1 r2 al nn (by have := hu; unfold Hu at this; omega) ⟨.bl _, H, I, rfl, q⟩
theorem opr_leA (hu : Hu X) : OpR X (compareOp .LtE) (rOrdD X.K fun d e => !PySem.W.dataLt e d) := by
  intro pins s σ H x y v u Q I rx ry ⟨d, e, hd, he, al, nn, dp, q⟩
  obtain ⟨as, r1⟩ := Dp.reads I d x v hd rx
  obtain ⟨bs, r2⟩ := Dp.reads I e y u he ry
  exact PySem.W.le_data r1 r2 al nn (by have := hu; unfold Hu at this; omega) ⟨.bl _, H, I, rfl, q⟩
theorem opr_geA (hu : Hu X) : OpR X (compareOp .GtE) (rOrdD X.K fun d e => !PySem.W.dataLt d e) := by
  intro pins s σ H x y v u Q I rx ry ⟨d, e, hd, he, al, nn, dp, q⟩
  obtain ⟨as, r1⟩ := Dp.reads I d x v hd rx
  obtain ⟨bs, r2⟩ := Dp.reads I e y u he ry
  exact PySem.W.ge_data r1 r2 al nn (by have := hu; unfold Hu at this; omega) ⟨.bl _, H, I, rfl, q⟩
theorem ordOk_spec {p q : PV} (h : ordOk p q = true) : eqOk p = true ∧ eqOk q = true ∧ likeP p q = true ∧ p ≠ .non := by
  unfold ordOk at h
  simp only [Bool.and_eq_true] at h
  exact ⟨h.1.1.1, h.1.1.2, h.1.2, fun e => by rw [e] at h; cases h.2⟩
theorem cmp_ordA {r : PyData → PyData → Bool} : CmpOk X.K (rOrdD X.K r) (fun p q => if ordOk p q = true then some (r (toD p) (toD q)) else none) := fun p q b H v u Q hg r1 r2 hQ => by
  dsimp only at hg
  split at hg
  · rename_i h
    cases hg
    obtain ⟨h1, h2, h3, h4⟩ := ordOk_spec h
    refine ⟨toD p, toD q, r1.dp (data_of h1), r2.dp (data_of h2), h3, fun z => h4 ?_, ?_, hQ⟩
    · cases p <;> first | rfl | (simp [toD] at z; done) | (simp [eqOk, isData] at h1; done)
    · have := shaped_of h1
      simp only [SeqAt.shaped, Bool.and_eq_true, decide_eq_true_eq] at this
      omega
  · cases hg
theorem cmp_ltA : CmpOk X.K (rOrdD X.K fun d e => PySem.W.dataLt d e) gLtA := cmp_ordA
theorem cmp_gtA : CmpOk X.K (rOrdD X.K fun d e => PySem.W.dataLt e d) gGtA := cmp_ordA (r := fun d e => PySem.W.dataLt e d)
theorem cmp_leA : CmpOk X.K (rOrdD X.K fun d e => !PySem.W.dataLt e d) gLeA := cmp_ordA (r := fun d e => !PySem.W.dataLt e d)
theorem cmp_geA : CmpOk X.K (rOrdD X.K fun d e => !PySem.W.dataLt d e) gGeA := cmp_ordA (r := fun d e => !PySem.W.dataLt d e)
end
theorem ordOk_ii (a b c d : Int) : ordOk (.tup [.int a, .int b]) (.tup [.int c, .int d]) = true := by
  unfold ordOk likeP
  simp [eqOk, isData, isDatas, dep, deps, toD, toDs, PySem.W.alike, PySem.W.alikeAll, notNo]
theorem pvLt_ii (a b c d : Int) : pvLt (.tup [.int a, .int b]) (.tup [.int c, .int d]) = decide (a < c ∨ (a = c ∧ b < d)) := PySem.W.dataLt_ii a b c d
@[simp] theorem gGtA_ii (a b c d : Int) : gGtA (.tup [.int a, .int b]) (.tup [.int c, .int d]) = some (decide (c < a ∨ (c = a ∧ d < b))) := by
  unfold gGtA
  rw [if_pos (ordOk_ii a b c d), pvLt_ii]
@[simp] theorem gLtA_ii (a b c d : Int) : gLtA (.tup [.int a, .int b]) (.tup [.int c, .int d]) = some (decide (a < c ∨ (a = c ∧ b < d))) := by
  unfold gLtA
  rw [if_pos (ordOk_ii a b c d), pvLt_ii]
end Fz
end
section
/-! Fyk: range with any step. -/
namespace Fz
open PySem PySem.Spec PyProof.Rows L2
def stepL (lo c : Int) (n : Nat) : List PV := (List.range n).map fun (k : Nat) => .int (lo + (k : Int) * c)
theorem iter_step {K : PySem.W.Frag} {A : Addr → Prop} {H0 : Hp} {rel : Hp → Prop} {lo c : Int} {n : Nat} : IterOk K A H0 rel (Itc lo c n) (stepL lo c n) := fun H B hr _ i => by
  refine ⟨fun p hp => ?_, fun hi => (by simpa [stepL] using hi : n ≤ i)⟩
  rw [stepL, List.getElem?_map] at hp
  by_cases hi : i < n
  · rw [List.getElem?_eq_getElem (by simpa using hi)] at hp
    simp only [List.getElem_range, Option.map_some, Option.some.injEq] at hp
    refine ⟨hi, fun x H' ⟨e1, e2⟩ => ?_⟩
    subst e1 e2 hp
    exact ⟨Same.refl _, rfl⟩
  · rw [List.getElem?_eq_none (by simpa using Nat.le_of_not_lt hi)] at hp
    cases hp
def stepOk (i j c : Int) : Bool := decide (c ≠ 0) && decide (c.natAbs < 1073741824) && Builtin.Range.small i j c
def stepRA (i j c : Int) : Res (List PV) := if stepOk i j c = true then .ok (stepL i c (Builtin.Range.rangeSize i j c).toNat) else .bad
def lRange3A (f g h : E) : L := fun ρ => f ρ >>= fun x => g ρ >>= fun y => h ρ >>= fun z => intOf x >>= fun i => intOf y >>= fun j => intOf z >>= fun c => stepRA i j c
section
variable {X : Cx} {C : Addr → Prop} {W : WX} {e1 e2 e3 tg : Expr} {pos p2 : Pos} {m1 m2 m3 : Mode} {f1 f2 f3 : E}
theorem intOf_inv {p : PV} {α : Type} {k : Int → Res α} {P : α → Prop} {E' : XF} (h : Out (intOf p >>= k) P E') : ∃ i, p = .int i ∧ Out (k i) P E' := by
  cases p with
  | int i => exact ⟨i, rfl, h⟩
  | _ => exact h.elim
theorem ij_range3A {rel : Hp → Fp → Hp → Prop} (hg : Gl X "range") (hm : X.mg "range" = none) (h1 : EJ X C W m1 e1 f1) (h2 : EJ X C W m2 e2 f2) (h3 : EJ X C W m3 e3 f3) (hs : starEach [e1, e2, e3] X.env = (false, eval e1 X.env) :: starEach [e2, e3] X.env := by rfl) (hs2 : starEach [e2, e3] X.env = (false, eval e2 X.env) :: starEach [e3] X.env := by rfl)
    (hs3 : starEach [e3] X.env = (false, eval e3 X.env) :: starEach [] X.env := by rfl) (hpl : (backTo pos (starEach [e2, e3] X.env)).any (·.1) = false := by rfl) :
    IJ X C W rel tg (.Call (.Name "range" p2) [e1, e2, e3] [] pos) (lRange3A f1 f2 f3) :=
  pi_weak (pi_range3 hg hm (pa_cons h1 (pa_cons h2 (pa_cons h3 pa_nil hs3) hs2) hs) hs hpl) fun σ H R ⟨ρ, fp, eo, o⟩ => by
    refine ⟨ρ, fp, eo, (Out.bind o).mono (fun p o1 v H1 s1 r1 => ?_) fun _ _ q => q⟩
    refine ⟨ρ, fp, eo.same s1, (Out.bind o1).mono (fun q o2 u H2 s2 r2 => ?_) fun _ _ q => XQ.later s1 q⟩
    refine ⟨ρ, fp, eo.same (s1.trans s2), (Out.bind o2).mono (fun z o3 w H3 s3 r3 => ?_) fun _ _ q => XQ.later (s1.trans s2) q⟩
    cases p with
    | int i =>
      cases q with
      | int j =>
        cases z with
        | int c =>
          have o4 : Out (stepRA i j c) _ _ := o3
          unfold stepRA at o4
          split at o4
          · rename_i hz
            unfold stepOk at hz
            simp only [Bool.and_eq_true, decide_eq_true_eq] at hz
            exact ⟨i, j, c, _, by rw [show v = .int i from RepM.toB r1, show u = .int j from RepM.toB r2, show w = .int c from RepM.toB r3], ⟨hz.1.1, hz.1.2, hz.2, rangeSize_toNat i j c⟩, o4 _ H3 (s1.trans (s2.trans s3)) iter_step⟩
          · exact o4.elim
        | _ => exact o3.elim
      | _ => exact o3.elim
    | _ => exact o3.elim
end
@[simp] theorem m_lRange3A (f g h : E) (ρ : Env) : lRange3A f g h ρ = f ρ >>= fun x => g ρ >>= fun y => h ρ >>= fun z => intOf x >>= fun i => intOf y >>= fun j => intOf z >>= fun c => stepRA i j c := (rfl)
end Fz
end
section
/-! Fyl: min and max of lists of texts, tuples, lists. -/
namespace Fz
open PySem PySem.Spec PyProof.Rows L2
def rMinD (K : PySem.W.Frag) (mD : PyData → List PyData → PyData) : List V → Hp → VK → Prop := fun xs H Q => ∃ (a : Addr) (vs : List V) (d : PyData) (ds : List PyData), xs = [.ref a] ∧ SqL K H a vs ∧ DpAll K H vs (d :: ds) ∧ PySem.W.AlikeAll (d :: ds) ∧ PyData.depthAll (d :: ds) ≤ 66 ∧ (∀ e ∈ d :: ds, e.canLay0 = true) ∧ ∀ (i : Nat) v, vs[i]? = some v → (d :: ds)[i]? = some (mD d ds) → Q v H
theorem readsAll_get {h : Heap} : ∀ {ds : List PyData} {us : List Value} {as : List Addr} {i : Nat} {u : Value}, ReadsAll h us ds as → us[i]? = some u → ∃ d bs, ds[i]? = some d ∧ Reads h u d bs
  | [], _, _, i, u, r, hu => by cases r; cases hu
  | d :: ds, _, _, i, u, r, hu => by
    cases r with
    | cons r1 r2 =>
      cases i with
      | zero => cases hu; exact ⟨_, _, rfl, r1⟩
      | succ i => exact readsAll_get (ds := ds) (i := i) r2 hu
section
variable {X : Cx}
theorem cr_minD (hc : X.calm = true) (hu : Hu X) : CallR X (.builtin "min") (rMinD X.K PySem.W.minD) := by
  intro pins s σ H xs us Q I r ⟨a, vs, d, ds, ex, hq, hd, hal, hdep, hlay, q⟩
  subst ex
  cases r with
  | cons r rr =>
    cases rr
    cases r
    obtain ⟨its, rv, p, _⟩ := I.list hq
    obtain ⟨as, hr⟩ := Dp.readsAll I (d :: ds) vs its hd rv
    refine PySem.W.min_list_data (I.ok.hd hc) p.isList (by simpa using hr) hal (by have := hu; unfold Hu at this; omega) fun i v h' tk bs hi rd keep => ?_
    have hi' : its[i]? = some v := by simpa using hi
    have I2 : Inv X pins σ H { s with heap := h', toks := tk } := I.kept keep
    obtain ⟨e, cs, he, re⟩ := readsAll_get hr hi'
    have el : e.canLay0 = true := hlay e (List.mem_of_getElem? he)
    have ee : e = PySem.W.minD d ds := ((PyProof.Rows.Reads.keeps keep re).unique _ _ rd).1
    obtain ⟨x, hx, rx⟩ : ∃ x, vs[i]? = some x ∧ RelV x v := by
      have hl := rv.length
      have hlt : i < vs.length := by rw [hl]; exact (List.getElem?_eq_some_iff.mp hi').1
      obtain ⟨u, hu, ru⟩ := rv.get (List.getElem?_eq_getElem hlt)
      rw [hi'] at hu; cases hu
      exact ⟨_, List.getElem?_eq_getElem hlt, ru⟩
    exact ⟨x, H, I2, rx, q i x hx (by rw [he, ee])⟩
theorem cr_maxD (hc : X.calm = true) (hu : Hu X) : CallR X (.builtin "max") (rMinD X.K PySem.W.maxD) := by
  intro pins s σ H xs us Q I r ⟨a, vs, d, ds, ex, hq, hd, hal, hdep, hlay, q⟩
  subst ex
  cases r with
  | cons r rr =>
    cases rr
    cases r
    obtain ⟨its, rv, p, _⟩ := I.list hq
    obtain ⟨as, hr⟩ := Dp.readsAll I (d :: ds) vs its hd rv
    refine PySem.W.max_list_data (I.ok.hd hc) p.isList (by simpa using hr) hal (by have := hu; unfold Hu at this; omega) fun i v h' tk bs hi rd keep => ?_
    have hi' : its[i]? = some v := by simpa using hi
    have I2 : Inv X pins σ H { s with heap := h', toks := tk } := I.kept keep
    obtain ⟨e, cs, he, re⟩ := readsAll_get hr hi'
    have ee : e = PySem.W.maxD d ds := ((PyProof.Rows.Reads.keeps keep re).unique _ _ rd).1
    obtain ⟨x, hx, rx⟩ : ∃ x, vs[i]? = some x ∧ RelV x v := by
      have hl := rv.length
      have hlt : i < vs.length := by rw [hl]; exact (List.getElem?_eq_some_iff.mp hi').1
      obtain ⟨u, hu, ru⟩ := rv.get (List.getElem?_eq_getElem hlt)
      rw [hi'] at hu; cases hu
      exact ⟨_, List.getElem?_eq_getElem hlt, ru⟩
    exact ⟨x, H, I2, rx, q i x hx (by rw [he, ee])⟩
end
/-! values that are what they read as -/
mutual
def plainD : PV → Bool
  | .non => true | .bl _ => true | .int _ => true | .str _ => true
  | .tup ps => plainDs ps
  | .lst ps => plainDs ps
  | .rol _ => false | .dic _ => false | .dit _ => false | .ins _ _ => false
def plainDs : List PV → Bool
  | [] => true
  | p :: ps => plainD p && plainDs ps
end
mutual
theorem toD_inj : ∀ (p q : PV), plainD p = true → plainD q = true → toD p = toD q → p = q := fun p q hp hq e => by
  cases p with
  | non => cases q <;> simp [toD, plainD] at * 
  | bl b => cases q <;> simp [toD, plainD] at * ; exact e
  | int b => cases q <;> simp [toD, plainD] at * ; exact e
  | str x => cases q <;> simp [toD, plainD] at * ; exact mkS_inj e
  | tup ps => cases q <;> simp [toD, plainD] at * ; exact toDs_inj ps _ hp hq e
  | lst ps => cases q <;> simp [toD, plainD] at * ; exact toDs_inj ps _ hp hq e
  | rol ps => simp [plainD] at hp
  | dic _ => simp [plainD] at hp
  | dit _ => simp [plainD] at hp
  | ins _ _ => simp [plainD] at hp
theorem toDs_inj : ∀ (ps qs : List PV), plainDs ps = true → plainDs qs = true → toDs ps = toDs qs → ps = qs
  | [], [], _, _, _ => rfl
  | [], _ :: _, _, _, h => by simp [toDs] at h
  | _ :: _, [], _, _, h => by simp [toDs] at h
  | p :: ps, q :: qs, h1, h2, h => by
    simp only [plainDs, Bool.and_eq_true] at h1 h2
    simp only [toDs, List.cons.injEq] at h
    rw [toD_inj p q h1.1 h2.1 h.1, toDs_inj ps qs h1.2 h2.2 h.2]
end
def leastP (p : PV) (ps : List PV) : PV := ps.foldl (fun a y => if pvLt y a = true then y else a) p
def mostP (p : PV) (ps : List PV) : PV := ps.foldl (fun a y => if pvLt a y = true then y else a) p
def ordAll (ps : List PV) : Bool := ps.all (fun p => eqOk p && plainD p && notNo p) && ps.all fun p => ps.all fun q => likeP p q
def gMinD : PV → Option OT
  | .lst (p :: ps) => if ordAll (p :: ps) = true then some (.fz (leastP p ps)) else none
  | _ => none
def gMaxD : PV → Option OT
  | .lst (p :: ps) => if ordAll (p :: ps) = true then some (.fz (mostP p ps)) else none
  | _ => none
theorem least_toD (p : PV) : ∀ ps : List PV, PySem.W.minD (toD p) (toDs ps) = toD (leastP p ps) := fun ps => by
  unfold PySem.W.minD leastP
  induction ps generalizing p with
  | nil => rfl
  | cons q qs ih =>
    rw [toDs, List.foldl_cons, List.foldl_cons, ← ih]
    show List.foldl _ (if pvLt q p = true then toD q else toD p) _ = _
    cases pvLt q p <;> rfl
theorem most_toD (p : PV) : ∀ ps : List PV, PySem.W.maxD (toD p) (toDs ps) = toD (mostP p ps) := fun ps => by
  unfold PySem.W.maxD mostP
  induction ps generalizing p with
  | nil => rfl
  | cons q qs ih =>
    rw [toDs, List.foldl_cons, List.foldl_cons, ← ih]
    show List.foldl _ (if pvLt p q = true then toD q else toD p) _ = _
    cases pvLt p q <;> rfl
theorem least_mem (p : PV) : ∀ ps : List PV, leastP p ps ∈ p :: ps := fun ps => by
  unfold leastP
  induction ps generalizing p with
  | nil => simp
  | cons q qs ih =>
    rw [List.foldl_cons]
    cases pvLt q p with
    | false => exact (List.mem_cons.mp (ih p)).elim (fun e => by simp at e ⊢; simp [e]) fun h => by simp at h ⊢; simp [h]
    | true => exact (List.mem_cons.mp (ih q)).elim (fun e => by simp at e ⊢; simp [e]) fun h => by simp at h ⊢; simp [h]
theorem most_mem (p : PV) : ∀ ps : List PV, mostP p ps ∈ p :: ps := fun ps => by
  unfold mostP
  induction ps generalizing p with
  | nil => simp
  | cons q qs ih =>
    rw [List.foldl_cons]
    cases pvLt p q with
    | false => exact (List.mem_cons.mp (ih p)).elim (fun e => by simp at e ⊢; simp [e]) fun h => by simp at h ⊢; simp [h]
    | true => exact (List.mem_cons.mp (ih q)).elim (fun e => by simp at e ⊢; simp [e]) fun h => by simp at h ⊢; simp [h]
theorem toDs_get : ∀ {ps : List PV} {i : Nat} {e : PyData}, (toDs ps)[i]? = some e → ∃ p, ps[i]? = some p ∧ toD p = e
  | [], i, e, h => by simp [toDs] at h
  | p :: ps, 0, e, h => by simp [toDs] at h; exact ⟨p, rfl, h⟩
  | p :: ps, i + 1, e, h => by simp [toDs] at h; exact toDs_get (ps := ps) h
theorem toDs_mem {ps : List PV} {e : PyData} (h : e ∈ toDs ps) : ∃ p ∈ ps, toD p = e := by
  obtain ⟨i, hi⟩ := List.getElem?_of_mem h
  obtain ⟨p, hp, e⟩ := toDs_get hi
  exact ⟨p, List.mem_of_getElem? hp, e⟩
theorem deps_of : ∀ {ps : List PV}, (∀ p ∈ ps, eqOk p = true) → isDatas ps = true ∧ deps ps ≤ 64
  | [], _ => ⟨rfl, Nat.zero_le _⟩
  | p :: ps, h => by
    obtain ⟨i1, i2⟩ := deps_of (ps := ps) fun q hq => h q (List.mem_cons_of_mem _ hq)
    have h1 := h p List.mem_cons_self
    unfold eqOk at h1
    simp only [Bool.and_eq_true, decide_eq_true_eq] at h1
    exact ⟨by show (isData p && isDatas ps) = true; rw [h1.1, i1]; rfl, by show max (dep p) (deps ps) ≤ 64; exact Nat.max_le.mpr ⟨h1.2, i2⟩⟩
theorem minD_call {K : PySem.W.Frag} {mD : PyData → List PyData → PyData} {mP : PV → List PV → PV} (h1 : ∀ p ps, mD (toD p) (toDs ps) = toD (mP p ps)) (h2 : ∀ p ps, mP p ps ∈ p :: ps) {C : Addr → Prop} {fp : Fp} {H : Hp} {p : PV} {ps : List PV} {v : V} {Q : VK} (ho : ordAll (p :: ps) = true) (r : RepM K C fp .I H (.lst (p :: ps)) v) (k : KO K (Am C fp) H (.fz (mP p ps)) Q) : rMinD K mD [v] H Q := by
  obtain ⟨a, xs, rfl, ha, rr⟩ := r
  unfold ordAll at ho
  simp only [Bool.and_eq_true, List.all_eq_true] at ho
  obtain ⟨ho1, ho2⟩ := ho
  obtain ⟨d1, d2⟩ := deps_of fun q hq => (ho1 q hq).1.1
  have dd : DpAll K H xs (toDs (p :: ps)) := rr.dp d1
  refine ⟨a, xs, toD p, toDs ps, rfl, SqL.of ha, dd, ⟨fun x hx y hy => ?_, fun x hx => ?_⟩, ?_, fun e he => ?_, fun i w hw he => ?_⟩
  · obtain ⟨q, hq, rfl⟩ := toDs_mem (ps := p :: ps) hx
    obtain ⟨q', hq', rfl⟩ := toDs_mem (ps := p :: ps) hy
    exact ho2 q hq q' hq'
  · obtain ⟨q, hq, rfl⟩ := toDs_mem (ps := p :: ps) hx
    have h3 := ho1 q hq
    intro z
    cases q <;> simp [toD] at z
    · simp [notNo] at h3
  · have := toDs_dep (p :: ps) d1
    show PyData.depthAll (toDs (p :: ps)) ≤ 66
    omega
  · obtain ⟨q, hq, rfl⟩ := toDs_mem (ps := p :: ps) he
    rw [toD_lay]
    exact data_of (ho1 q hq).1.1
  · rw [h1] at he
    obtain ⟨q, hq, e⟩ := toDs_get (ps := p :: ps) he
    have e2 := toD_inj q (mP p ps) (ho1 q (List.mem_of_getElem? hq)).1.2 (ho1 _ (h2 p ps)).1.2 e
    subst e2
    obtain ⟨w', hw', rw'⟩ := rr.get hq
    rw [hw] at hw'; cases hw'
    exact k.rep rw'
theorem gMinD_inv {p : PV} {t : OT} (h : gMinD p = some t) : ∃ q qs, p = .lst (q :: qs) ∧ ordAll (q :: qs) = true ∧ t = .fz (leastP q qs) := by
  match p, h with
  | .lst (q :: qs), h =>
    have h : (if ordAll (q :: qs) = true then some (OT.fz (leastP q qs)) else none) = some t := h
    by_cases ho : ordAll (q :: qs) = true
    · rw [if_pos ho] at h; exact ⟨q, qs, rfl, ho, (Option.some.inj h).symm⟩
    · rw [if_neg ho] at h; cases h
theorem gMaxD_inv {p : PV} {t : OT} (h : gMaxD p = some t) : ∃ q qs, p = .lst (q :: qs) ∧ ordAll (q :: qs) = true ∧ t = .fz (mostP q qs) := by
  match p, h with
  | .lst (q :: qs), h =>
    have h : (if ordAll (q :: qs) = true then some (OT.fz (mostP q qs)) else none) = some t := h
    by_cases ho : ordAll (q :: qs) = true
    · rw [if_pos ho] at h; exact ⟨q, qs, rfl, ho, (Option.some.inj h).symm⟩
    · rw [if_neg ho] at h; cases h
theorem c_minD {X : Cx} : Call1 X.K (rMinD X.K PySem.W.minD) .I gMinD := fun C fp H p t v Q hg r k => by
  obtain ⟨q, qs, rfl, ho, rfl⟩ := gMinD_inv hg
  exact minD_call least_toD least_mem ho r k
theorem c_maxD {X : Cx} : Call1 X.K (rMinD X.K PySem.W.maxD) .I gMaxD := fun C fp H p t v Q hg r k => by
  obtain ⟨q, qs, rfl, ho, rfl⟩ := gMaxD_inv hg
  exact minD_call most_toD most_mem ho r k
end Fz
end
section
/-! Fym: the order of lists of texts, in plain words. -/
namespace Fz
open PySem PySem.Spec PyProof.Rows L2
def txsLt : List Tx → List Tx → Bool
  | [], [] => false
  | [], _ :: _ => true
  | _ :: _, [] => false
  | x :: xs, y :: ys => if x = y then txsLt xs ys else txLt x y
theorem toDs_strs : ∀ xs : List Tx, toDs (xs.map .str) = (xs.map mkS).map PyData.str
  | [] => rfl
  | x :: xs => by rw [List.map_cons, toDs, toDs_strs xs]; rfl
theorem listLt_txs : ∀ a b : List Tx, PySem.W.listLt (a.map mkS) (b.map mkS) = txsLt a b
  | [], [] => rfl
  | [], _ :: _ => rfl
  | _ :: _, [] => rfl
  | x :: xs, y :: ys => by
    rw [List.map_cons, List.map_cons, PySem.W.listLt, txsLt, listLt_txs xs ys]
    by_cases h : x = y
    · subst h; simp
    · rw [if_neg h, if_neg fun e => h (mkS_inj e)]
      show decide ((mkS x).cps.toList < (mkS y).cps.toList) = _
      rw [mkS_cps, mkS_cps]
      rfl
theorem pvLt_strs (a b : List Tx) : pvLt (.lst (a.map .str)) (.lst (b.map .str)) = txsLt a b := by
  show PySem.W.dataLt (.list (toDs (a.map .str))) (.list (toDs (b.map .str))) = _
  rw [toDs_strs, toDs_strs]
  exact (PySem.W.DatumOrd.lt_eq (α := List Str) (a.map mkS) (b.map mkS)).trans (listLt_txs a b)
theorem likeP_strs (a b : List Tx) : likeP (.lst (a.map .str)) (.lst (b.map .str)) = true := by
  show PySem.W.alike (.list (toDs (a.map .str))) (.list (toDs (b.map .str))) = true
  rw [toDs_strs, toDs_strs]
  exact PySem.W.DatumOrd.alike (α := List Str) (a.map mkS) (b.map mkS)
theorem plain_strs : ∀ a : List Tx, plainDs (a.map .str) = true
  | [] => rfl
  | x :: xs => by rw [List.map_cons, plainDs, plain_strs xs]; rfl
theorem ordAll_strs (R : List (List Tx)) : ordAll (R.map fun o => .lst (o.map .str)) = true := by
  unfold ordAll
  simp only [Bool.and_eq_true, List.all_eq_true]
  refine ⟨fun p hp => ?_, fun p hp q hq => ?_⟩
  · obtain ⟨o, _, rfl⟩ := List.mem_map.mp hp
    exact ⟨⟨(okD_strs o).eqOk (by omega), plain_strs o⟩, rfl⟩
  · obtain ⟨o, _, rfl⟩ := List.mem_map.mp hp
    obtain ⟨o', _, rfl⟩ := List.mem_map.mp hq
    exact likeP_strs o o'
/-- the first of the least -/
def leastX (o : List Tx) (R : List (List Tx)) : List Tx := R.foldl (fun a y => if txsLt y a = true then y else a) o
theorem leastP_strs (o : List Tx) (R : List (List Tx)) : leastP (.lst (o.map .str)) (R.map fun o => .lst (o.map .str)) = .lst ((leastX o R).map .str) := by
  unfold leastP leastX
  induction R generalizing o with
  | nil => rfl
  | cons y ys ih =>
    rw [List.map_cons, List.foldl_cons, List.foldl_cons, pvLt_strs]
    cases txsLt y o with
    | true => exact ih y
    | false => exact ih o
theorem gMinD_strs (o : List Tx) (R : List (List Tx)) : gMinD (.lst ((o :: R).map fun o => .lst (o.map .str))) = some (.fz (.lst ((leastX o R).map .str))) := by
  have h : gMinD (.lst ((o :: R).map fun o => .lst (o.map .str))) = (if ordAll ((o :: R).map fun o => .lst (o.map .str)) = true then some (OT.fz (leastP (.lst (o.map .str)) (R.map fun o => .lst (o.map .str)))) else none) := rfl
  rw [h, if_pos (ordAll_strs (o :: R)), leastP_strs]
/-- one that is less than all others is the least -/
theorem leastX_is {m : List Tx} (irr : txsLt m m = false) : ∀ (R : List (List Tx)) (o : List Tx), m ∈ o :: R → (∀ x ∈ o :: R, x = m ∨ (txsLt m x = true ∧ txsLt x m = false)) → leastX o R = m
  | [], o, h, _ => by
    have : m = o := by simpa using h
    rw [this]; rfl
  | y :: ys, o, h, ha => by
    unfold leastX
    rw [List.foldl_cons]
    have hy := ha y (by simp)
    have ho := ha o (by simp)
    rcases hy with rfl | ⟨y1, y2⟩
    · rcases ho with rfl | ⟨o1, o2⟩
      · rw [irr]
        exact leastX_is irr ys _ (by simp) fun x hx => ha x (by simp at hx ⊢; rcases hx with q | q <;> simp [q])
      · rw [if_pos o1]
        exact leastX_is irr ys _ (by simp) fun x hx => ha x (by simp at hx ⊢; rcases hx with q | q <;> simp [q])
    · rcases ho with rfl | ⟨o1, o2⟩
      · rw [if_neg (by rw [y2]; simp)]
        exact leastX_is irr ys _ (by simp) fun x hx => ha x (by simp at hx ⊢; rcases hx with q | q <;> simp [q])
      · have hm : m ∈ ys := by
          simp at h
          rcases h with q | q | q
          · rw [q] at o1 irr; rw [irr] at o1; cases o1
          · rw [q] at y1 irr; rw [irr] at y1; cases y1
          · exact q
        split
        · exact leastX_is irr ys _ (by simp [hm]) fun x hx => ha x (by simp at hx ⊢; rcases hx with q | q <;> simp [q])
        · exact leastX_is irr ys _ (by simp [hm]) fun x hx => ha x (by simp at hx ⊢; rcases hx with q | q <;> simp [q])
end Fz
end
section
/-! Fyn: instances: their fields, their methods, how they are made. -/
namespace Fz
open PySem PySem.Spec PyProof.Rows L2
theorem ofS_inj {f g : String} (h : (f : Str) = (g : Str)) : f = g := txt_inj (mkS_inj (by rw [mkS_txt, mkS_txt]; exact h))
theorem ofS_beq {f g : String} : ((f : Str) == (g : Str)) = decide (f = g) := by
  by_cases h : f = g
  · subst h; simp
  · rw [decide_eq_false h, beq_eq_false_iff_ne]; exact fun z => h (ofS_inj z)
/-! fields of values -/
def fldP (f : String) : List (String × PV) → Option PV
  | [] => none
  | (g, p) :: r => if g = f then some p else fldP f r
def insF (f : String) : PV → Option PV
  | .ins _ fs => fldP f fs
  | _ => none
def insC (c : String) : PV → Bool
  | .ins d _ => decide (d = c)
  | _ => false
def eFld (c f : String) (e : E) : E := fun ρ => e ρ >>= fun p => ofO (if insC c p = true then insF f p else none)
section
variable {K : PySem.W.Frag} {A : Addr → Prop} {H : Hp}
theorem RepF.look {f : String} : ∀ {fs : List (String × PV)} {xs : List (Str × V)}, RepF K A H fs xs → (match fldP f fs with
    | some p => ∃ v, xs.lookup (f : Str) = some v ∧ Rep K A H p v
    | none => xs.lookup (f : Str) = none)
  | [], xs, h => by rw [show xs = [] from h]; rfl
  | (g, p) :: r, xs, h => by
    obtain ⟨x, ys, rfl, h1, h2⟩ := h
    have ih := RepF.look (f := f) h2
    by_cases e : g = f
    · subst e
      rw [fldP, if_pos rfl]
      exact ⟨x, by rw [List.lookup]; simp, h1⟩
    · have e2 : ((f : Str) == (g : Str)) = false := by rw [ofS_beq]; exact decide_eq_false fun z => e z.symm
      rw [fldP, if_neg e]
      have e3 : List.lookup (f : Str) (((g : Str), x) :: ys) = ys.lookup (f : Str) := by rw [List.lookup, e2]
      rw [e3]; exact ih
theorem RepF.some {f : String} {fs : List (String × PV)} {xs : List (Str × V)} {p : PV} (h : RepF K A H fs xs) (e : fldP f fs = some p) : ∃ v, xs.lookup (f : Str) = .some v ∧ Rep K A H p v := by
  have := h.look (f := f)
  rw [e] at this; exact this
theorem RepF.none {f : String} {fs : List (String × PV)} {xs : List (Str × V)} (h : RepF K A H fs xs) (e : fldP f fs = none) : xs.lookup (f : Str) = .none := by
  have := h.look (f := f)
  rw [e] at this; exact this
end
section
variable {X : Cx} {C : Addr → Prop} {W : WX} {e : Expr} {pos p2 : Pos} {m : Mode} {f1 : E} {px : Px} {fo : O}
theorem eFld_out {c f : String} {p q : PV} (h : (if insC c p = true then insF f p else none) = some q) : ∃ fs, p = .ins c fs ∧ fldP f fs = some q := by
  cases p with
  | ins d fs =>
    by_cases e : d = c
    · subst e; rw [if_pos (by simp [insC])] at h; exact ⟨fs, rfl, h⟩
    · rw [if_neg (by simp [insC, e])] at h; cases h
  | _ => simp [insC] at h
theorem ej_fldB {c f : String} (cl : Cls X.K (He.ga X.K (c : Str))) (na : NoAttr X.K (He.ga X.K (c : Str)) (f : Str)) (h : EJ X C W m e f1) (hb : attributeBase e (f : Str) X.env (eval e X.env) = eval e X.env := by rfl) : EJ X C W .B (.Attribute e (f : Str) pos) (eFld c f f1) :=
  pe_weak (pe_fld (ej_B h) hb) fun σ H Q ⟨ρ, fp, eo, o⟩ => by
    refine ⟨ρ, fp, eo, (Out.bind o).mono (fun p o1 v H1 s1 r1 => ?_) fun _ _ q => q⟩
    obtain ⟨q, hq, hQ⟩ := Out.ofO o1
    obtain ⟨fs, rfl, hf⟩ := eFld_out hq
    obtain ⟨a, dx, xs, rfl, _, ha, rf⟩ := (show Rep X.K (fun _ => True) H1 (.ins c fs) v from r1)
    obtain ⟨y, hy, ry⟩ := rf.some hf
    exact ⟨a, _, dx, xs, y, rfl, ha, cl, na, hy, hQ y H1 s1 ry⟩
theorem ej_fld {c f : String} (cl : Cls X.K (He.ga X.K (c : Str))) (na : NoAttr X.K (He.ga X.K (c : Str)) (f : Str)) (h : EJ X C W .I e f1) (hb : attributeBase e (f : Str) X.env (eval e X.env) = eval e X.env := by rfl) : EJ X C W .E (.Attribute e (f : Str) pos) (eFld c f f1) :=
  pe_weak (pe_fld h hb) fun σ H Q ⟨ρ, fp, eo, o⟩ => by
    refine ⟨ρ, fp, eo, (Out.bind o).mono (fun p o1 v H1 s1 r1 => ?_) fun _ _ q => q⟩
    obtain ⟨q, hq, hQ⟩ := Out.ofO o1
    obtain ⟨fs, rfl, hf⟩ := eFld_out hq
    obtain ⟨a, dx, xs, rfl, ha, rf⟩ := (show RepI X.K (Am C fp) H1 (.ins c fs) v from r1)
    obtain ⟨y, hy, ry⟩ := rf.some hf
    exact ⟨a, _, dx, xs, y, rfl, ha, cl, na, hy, hQ y H1 s1 ry⟩
end
/-! fields at a path -/
def fldIdx (c f : String) : OT → Option Nat
  | .I d fs => if d = c then fs.findIdx? fun q => decide (q.1 = f) else none
  | _ => none
def pxFld (c f : String) (i : Nat) (px : Px) : Px := fun ρ => px ρ >>= fun π => ofO ((nodeOf i ρ π).bind fun n => (fldIdx c f n).map fun j => π ++ [j])
theorem fldIdx_I {c f : String} {n : OT} {j : Nat} (h : fldIdx c f n = some j) : ∃ fs, n = .I c fs ∧ fs.findIdx? (fun q => decide (q.1 = f)) = some j := by
  cases n with
  | I d fs =>
    by_cases e : d = c
    · subst e; exact ⟨fs, rfl, by simpa [fldIdx] using h⟩
    · simp [fldIdx, e] at h
  | _ => cases h
theorem OTRepF.val {K : PySem.W.Frag} {A : Addr → Prop} {H : Hp} (f : String) : ∀ {fs : List (String × OT)} {xs : List (Str × V)} {F : List Addr} {j : Nat}, OTRepF K A H fs xs F → fs.findIdx? (fun q => decide (q.1 = f)) = some j →
    ∃ v, xs.lookup (f : Str) = some v ∧ xs[j]? = some ((f : Str), v)
  | [], _, _, _, h, e => by cases e
  | (g, t) :: fs, _, _, j, h, e => by
    obtain ⟨x, r, F1, F2, rfl, rfl, h1, h2⟩ := h
    rw [List.findIdx?_cons] at e
    by_cases hk : g = f
    · subst hk
      simp at e
      subst e
      exact ⟨x, by rw [List.lookup]; simp, rfl⟩
    · simp only [hk, decide_false, Bool.false_eq_true, if_false] at e
      obtain ⟨j', e', rfl⟩ := Option.map_eq_some_iff.mp e
      obtain ⟨v, hv, hj⟩ := OTRepF.val f h2 e'
      have e2 : ((f : Str) == (g : Str)) = false := by rw [ofS_beq]; exact decide_eq_false fun z => hk z.symm
      exact ⟨v, by rw [List.lookup, e2]; exact hv, by simpa using hj⟩
section
variable {X : Cx} {C : Addr → Prop} {W : WX} {e : Expr} {pos p2 : Pos} {m : Mode} {f1 : E} {px : Px} {fo : O}
theorem pxj_fld {i : Nat} {c f : String} (cl : Cls X.K (He.ga X.K (c : Str))) (na : NoAttr X.K (He.ga X.K (c : Str)) (f : Str)) (h1 : PxJ X C W i e px) (hb : attributeBase e (f : Str) X.env (eval e X.env) = eval e X.env := by rfl) : PxJ X C W i (.Attribute e (f : Str) pos) (pxFld c f i px) where
  run := pe_weak (pe_fld h1.run hb) fun σ H Q ⟨ρ, fp, eo, o⟩ => by
    refine ⟨ρ, fp, eo, (Out.bind o).and.mono (fun π ⟨e1, o1⟩ v u H1 s1 hv hu' => ?_) fun _ _ q => q⟩
    obtain ⟨z, hz, hQ⟩ := Out.ofO o1
    obtain ⟨n, hn, hz⟩ := Option.bind_eq_some_iff.mp hz
    obtain ⟨j, hj, rfl⟩ := Option.map_eq_some_iff.mp hz
    obtain ⟨fs, rfl, hf⟩ := fldIdx_I hj
    obtain ⟨Fn, r⟩ := (eo.same s1).nodeRep hn hv hu'
    obtain ⟨a, dx, xs, F', rfl, _, ha, rf⟩ := r
    obtain ⟨y, hy, hyj⟩ := rf.val f hf
    exact ⟨a, _, dx, xs, y, rfl, ha, cl, na, hy, hQ v y H1 s1 hv (hu'.snoc (.inr (.inr ⟨_, dx, xs, _, ha, hyj⟩)))⟩
  wf := fun ρ π h => by
    obtain ⟨π', e1, h⟩ := bind_ok_inv h
    obtain ⟨n, hn⟩ := h1.wf ρ π' e1
    rw [hn] at h
    have h : ofO ((fldIdx c f n).map fun j => π' ++ [j]) = .ok π := h
    cases ej : fldIdx c f n with
    | none => rw [ej] at h; cases h
    | some j =>
      rw [ej] at h
      cases h
      obtain ⟨fs, rfl, hf⟩ := fldIdx_I ej
      obtain ⟨hj, _⟩ := List.findIdx?_eq_some_iff_getElem.mp hf
      obtain ⟨t, ht, hat⟩ := node_own hn
      refine ⟨fs[j].2.core, ?_⟩
      unfold nodeOf
      rw [ht]
      exact at_snoc hat (by show (fs.map Prod.snd)[j]? = _; rw [List.getElem?_map, List.getElem?_eq_getElem hj]; rfl)
end
/-! a field is set -/
def putFO (f : String) (c : OT) : List (String × OT) → List (String × OT)
  | [] => [(f, c)]
  | (g, t) :: r => if g = f then (g, c) :: r else (g, t) :: putFO f c r
def setF (c f : String) (n : OT) : OT → Option OT
  | .I d fs => if d = c ∧ fs.length < 1000 then some (.I d (putFO f n fs)) else none
  | _ => none
theorem setF_I {c f : String} {n t n' : OT} (h : setF c f n t = some n') : ∃ fs, t = .I c fs ∧ fs.length < 1000 ∧ n' = .I c (putFO f n fs) := by
  cases t with
  | I d fs =>
    have h2 : (if d = c ∧ fs.length < 1000 then some (.I d (putFO f n fs)) else none) = some n' := h
    clear h
    split at h2
    · rename_i hc
      exact ⟨fs, by rw [hc.1], hc.2, by rw [← hc.1]; exact (Option.some.inj h2).symm⟩
    · exact nomatch h2
  | _ => cases h
def sFldO (i : Nat) (px : Px) (c f : String) (fo : O) : S := fun ρ => withR (fo ρ) ρ fun t => withR (px ρ) ρ fun π => putT i ρ π ((nodeOf i ρ π).bind (setF c f t))
section
variable {K : PySem.W.Frag} {C A : Addr → Prop} {ρ : Env} {σ : L2.St} {H H1 H' : Hp} {fp : Fp}
theorem OTRepF.len : ∀ {fs : List (String × OT)} {xs : List (Str × V)} {F : List Addr}, OTRepF K A H fs xs F → xs.length = fs.length
  | [], _, _, h => by rw [h.1]; rfl
  | (j, t) :: kvs, _, _, h => by
    obtain ⟨x, r, F1, F2, rfl, rfl, h1, h2⟩ := h
    simp [OTRepF.len h2]
theorem OTRepF.put {c : OT} {w : V} {Fc : List Addr} (f : String) (nc : Fc.Nodup) : ∀ {fs : List (String × OT)} {xs : List (Str × V)} {F : List Addr}, OTRepF K A H fs xs F →
    ∃ F', (∀ a ∈ F', a ∈ F ∨ a ∈ Fc) ∧ (F.Nodup → (∀ a ∈ Fc, a ∉ F) → F'.Nodup) ∧ ∀ (B : Addr → Prop) H', Carry A B H H' → (∀ a ∈ F, ∀ o, H a = some o → H' a = some o) → OTRep K B H' c w Fc → OTRepF K B H' (putFO f c fs) (L2.putF (f : Str) w xs) F'
  | [], xs, F, h => by
    obtain ⟨rfl, rfl⟩ := h
    exact ⟨Fc, fun a ha => .inr ha, fun _ _ => nc, fun B H' cc kp rc => ⟨w, [], Fc, [], rfl, by simp, rc, rfl, rfl⟩⟩
  | (g, t) :: fs, xs, F, h => by
    obtain ⟨x, r, F1, F2, rfl, rfl, h1, h2⟩ := h
    by_cases e : g = f
    · subst e
      refine ⟨Fc ++ F2, fun a ha => ?_, fun nF dis => ?_, fun B H' cc kp rc => ?_⟩
      · rcases List.mem_append.mp ha with q | q
        · exact .inr q
        · exact .inl (by simp [q])
      · have := List.nodup_append.mp nF
        exact List.nodup_append.mpr ⟨nc, this.2.1, fun a ha b hb z => dis a ha (by rw [z]; simp [hb])⟩
      · rw [putFO, if_pos rfl, L2.putF, if_pos rfl]
        exact ⟨w, r, Fc, F2, rfl, rfl, rc, OTRepF.carry cc (fun a ha => kp a (by simp [ha])) h2⟩
    · obtain ⟨F', s', n', r'⟩ := OTRepF.put (c := c) (w := w) f nc h2
      refine ⟨F1 ++ F', fun a ha => ?_, fun nF dis => ?_, fun B H' cc kp rc => ?_⟩
      · rcases List.mem_append.mp ha with q | q
        · exact .inl (by simp [q])
        · exact (s' a q).imp (fun z => by simp [z]) id
      · have := List.nodup_append.mp nF
        refine List.nodup_append.mpr ⟨this.1, n' this.2.1 fun a ha z => dis a ha (by simp [z]), fun a ha b hb z => ?_⟩
        rcases s' b hb with q | q
        · exact this.2.2 a ha b q z
        · exact dis b q (by rw [← z]; simp [ha])
      · rw [putFO, if_neg e, L2.putF, if_neg (fun z => e (ofS_inj z))]
        exact ⟨x, _, F1, F', rfl, rfl, OTRep.carry cc (fun a ha => kp a (by simp [ha])) h1, r' B H' cc (fun a ha => kp a (by simp [ha])) rc⟩
/-- c, made since H, is put into a field -/
theorem EnvOk.wrFO {i : Nat} {c : OT} {k f : String} {fs : List (String × OT)} {π : List Nat} {v w : V} {a : Addr} {Fc : List Addr} (e : EnvOk K C ρ σ H fp) (s1 : Same H H1) (hn : nodeOf i ρ π = some (.I k fs)) (hv : σ[i]? = some (some v)) (hu : subV H v π (.ref a)) (nc : Fc.Nodup) (fc : ∀ b ∈ Fc, H b = none)
    (rc : OTRep K (fun b => Am C fp b ∧ b ∉ Fc) H1 c w Fc) : ∃ dx xs ρ' fp', xs.length = fs.length ∧ H1 a = some (.ins (He.ga K (k : Str)) dx xs) ∧ putT i ρ π (some (.I k (putFO f c fs))) = .nx ρ' ∧
      EnvOk K C ρ' σ (upd H1 a (.ins (He.ga K (k : Str)) dx (L2.putF (f : Str) w xs))) fp' ∧ Grow H fp (upd H1 a (.ins (He.ga K (k : Str)) dx (L2.putF (f : Str) w xs))) fp' := by
  obtain ⟨t, ht, hat⟩ := node_own hn
  obtain ⟨Fn0, r0⟩ := e.nodeRep hn hv hu
  obtain ⟨a', dx, xs, F0, ea, _, ha, rr0⟩ := r0
  cases ea
  obtain ⟨fp', e', g'⟩ := e.writeAt (H' := upd H1 a (.ins (He.ga K (k : Str)) dx (L2.putF (f : Str) w xs))) (n' := .I k (putFO f c fs)) ht hv hat hu (by intros; simp) fun Fn hr sub nd => by
    have hr' := hr
    obtain ⟨b, dx', zs, F', eb, rfl, hb, rr⟩ := hr
    cases eb
    rw [ha] at hb; cases hb
    have live : ∀ b ∈ a :: F', H b ≠ none := fun b hb z => by
      obtain ⟨o, ho, _⟩ := hr'.live b hb
      rw [z] at ho; cases ho
    have nd' := List.nodup_cons.mp nd
    have dis : ∀ b ∈ Fc, b ∉ F' := fun b hb z => live b (by simp [z]) (fc b hb)
    obtain ⟨F2, sub2, nod2, cl⟩ := OTRepF.put (c := c) (w := w) f nc rr
    refine ⟨fun b o hb q => by rw [upd_ne (fun z => hb (by simp [z]))]; exact s1 _ _ q, fun b hb => ?_, a :: F2, fun b hb => ?_, ?_, fun B hB nB cc => ⟨a, dx, _, F2, rfl, rfl, upd_same, cl B _ cc (fun b hb o q => ?_) (OTRep.carry ?_ (fun b hb o q => ?_) rc)⟩⟩
    · by_cases z : b = a
      · subst z; rw [upd_same]; simp
      · rw [upd_ne z]
        intro y
        cases q : H b with
        | none => exact hb q
        | some o => rw [s1 _ _ q] at y; cases y
    · rcases List.mem_cons.mp hb with q | q
      · exact .inl (by simp [q])
      · exact (sub2 b q).imp (fun z => by simp [z]) (fc b)
    · refine List.nodup_cons.mpr ⟨fun z => ?_, nod2 nd'.2 dis⟩
      rcases sub2 a z with q | q
      · exact nd'.1 q
      · exact live a (by simp) (fc a q)
    · rw [upd_ne (fun y => nd'.1 (by rw [← y]; exact hb))]; exact s1 _ _ q
    · refine Carry.mk' (fun b o q z => hB b q.1 fun m => ?_) (fun b o q z => by rw [upd_ne (fun y => q.1.2 ⟨i, sub b (by simp [y])⟩)]; exact z) (fun b zs z => by rw [upd_ne (fun y => by rw [y, s1 _ _ ha] at z; cases z)]; exact z) fun b o x z => by rw [upd_ne (fun y => by rw [y, s1 _ _ ha] at z; cases z)]; exact z
      rcases List.mem_cons.mp m with m | m
      · exact q.1.2 ⟨i, sub b (by simp [m])⟩
      · rcases sub2 b m with m | m
        · exact q.1.2 ⟨i, sub b (by simp [m])⟩
        · exact q.2 m
    · rw [upd_ne (fun y => live a (by simp) (by rw [← y]; exact fc b hb))]; exact q
  exact ⟨dx, xs, _, fp', rr0.len, s1 _ _ ha, putT_eq ht, e', g'⟩
end
section
variable {X : Cx} {C : Addr → Prop} {W : WX} {e o : Expr} {pos tpos p2 : Pos} {m : Mode} {f1 : E} {px : Px} {fo : O}
/-- path.f = e -/
theorem sj_fldO {i : Nat} {c f : String} (cl : Cls X.K (He.ga X.K (c : Str))) (na : NoAttr X.K (He.ga X.K (c : Str)) (f : Str)) (hp : PxJ X C W i o px) (he : OJ X C W e fo)
    (hs : swapsWith e (some (.Attribute o (f : Str) tpos)) pos.line X.env = pure false := by rfl) : SJ X C W (.Assign [.Attribute o (f : Str) tpos] e pos) (sFldO i px c f fo) :=
  ps_weak (ps_fld hp.run he hs) fun D σ H ⟨ρ, fp, eo, h⟩ => by
    refine ⟨ρ, fp, eo, (FlQ.ofR eo h).mono (fun t q w H1 Fc s1 nc fc rc => ?_) fun _ _ q => q⟩
    have eo1 := eo.same s1
    refine ⟨ρ, fp, eo1, (FlQ.ofR eo q).mono (fun π q2 v0 u H2 s2 hv hu => ?_) fun _ _ q => XQ.later s1 q⟩
    have q4 := q2
    cases hn : nodeOf i ρ π with
    | none => rw [hn] at q4; exact q4.elim
    | some n =>
      rw [hn] at q4
      simp only [Option.bind_some] at q4
      cases hF : setF c f t n with
      | none => rw [hF] at q4; exact q4.elim
      | some n' =>
        rw [hF] at q4
        obtain ⟨fs, rfl, hl, rfl⟩ := setF_I hF
        obtain ⟨tt, ht, hat⟩ := node_own hn
        obtain ⟨v', hv', r⟩ := eo.slot i _ ht
        rw [hv] at hv'; cases hv'
        obtain ⟨u', Fn, _, _, _, hs', hr, _⟩ := r.zip hat
        cases hu.det (hs'.same (s1.trans s2))
        obtain ⟨a, dx0, xs0, F', rfl, _, ha0, _⟩ := hr
        have rc' : OTRep X.K (fun b => Am C fp b ∧ b ∉ Fc) H2 t w Fc := rc.carry (Carry.same s2 fun _ q => q) fun b _ o z => s2 _ _ z
        obtain ⟨dx, ys, ρ', fp', hy, hb, e', eo', g'⟩ := eo.wrFO (f := f) (s1.trans s2) hn hv hs' nc fc rc'
        rw [e'] at q4
        exact ⟨a, _, dx, ys, rfl, hb, cl, na, by rw [hy]; exact hl, q4 _ _ _ eo' g'⟩
end
/-! ### methods -/
structure MethOk (P : Program) (w : World) (K : PySem.W.Frag) (mg : Str → Option Value) (base : Heap) (k : Nat) (c m : String) (ps : List Str) (ms : List Mode) (g : Fn) : Prop where
  ex : ∃ f fd, FnOk P w K mg base (L2.CX P w) k f fd ps (spG K ms g) ∧ Meth K (He.ga K (c : Str)) (m : Str) f ∧ Binds K fd ps []
def recvOk (c m : String) : PV → Bool
  | .ins d fs => decide (d = c) && (fldP m fs).isNone
  | _ => false
def oMeth (c m : String) (g : Fn) (f0 : E) (l : L) : O := fun ρ => f0 ρ >>= fun p => if recvOk c m p = true then l ρ >>= fun ps => g (p :: ps) else .bad
section
variable {X : Cx} {C : Addr → Prop} {W : WX} {e o : Expr} {es : List Expr} {pos apos p2 : Pos} {m0 : Mode} {f0 : E} {l : L} {k j : Nat} {c m : String} {ps : List Str} {ms : List Mode} {g : Fn}
theorem sp_of {K : PySem.W.Frag} {ρ : Env} {fp : Fp} {σ : L2.St} {H H1 : Hp} {qs : List PV} {vs : List V} {Q : VK} (eo : EnvOk K C ρ σ H fp) (hI : noI ms = true) (r : RepMs K C fp H1 ms qs vs) (s1 : Same H H1)
    (o1 : Out (g qs) (fun t => ∀ v H' Fn, Same H H' → Fn.Nodup → (∀ a ∈ Fn, H a = none) → OTRep K (fun a => Am C fp a ∧ a ∉ Fn) H' t v Fn → Q v H') (XQ K W σ H)) : spG K ms g vs H1 Q (WE W σ) := by
  refine ⟨Am C fp, qs, RepMs.args (noI_ok hI) r, o1.mono (fun t q v H' Fn s n hf r => ?_) fun c fs q H' s => ?_⟩
  · have kk : KO K (Am C fp) H1 t Q := KO.later q s1
    exact kk v H' Fn s n hf (r.carry (Carry.refl fun a _ z _ => ⟨z.1.elim id fun y => (eo.same s1).am_new y, z.2⟩) fun _ _ _ z => z)
  · have := q H' (s1.trans s)
    cases fs with
    | none => exact this
    | some fs => exact this
theorem recv_at {K : PySem.W.Frag} {fp : Fp} {H : Hp} {p : PV} {v : V} (h : recvOk c m p = true) (r : RepM K C fp m0 H p v) : ∃ a dx fs, v = .ref a ∧ H a = some (.ins (He.ga K (c : Str)) dx fs) ∧ fs.lookup (m : Str) = none := by
  cases p with
  | ins d fs =>
    simp only [recvOk, Bool.and_eq_true, decide_eq_true_eq, Option.isNone_iff_eq_none] at h
    obtain ⟨rfl, hf⟩ := h
    obtain ⟨a, dx, xs, rfl, _, ha, rf⟩ := (show Rep K (fun _ => True) H (.ins d fs) v from RepM.toB r)
    exact ⟨a, dx, xs, rfl, ha, rf.none hf⟩
  | _ => cases h
/-- o.m() -/
theorem oj_meth0 {pl : Sem Bool} (D : MethOk X.prog X.w X.K X.mg X.base k c m ps [m0] g) (cl : Cls X.K (He.ga X.K (c : Str))) (hr : Room j X.A) (hk : k ≤ j) (tk : Takes X W) (ho : EJ X C W m0 o f0) (hI : noI [m0] = true := by rfl)
    (ht : eval (.Call (.Attribute o (m : Str) apos) [] [] pos) X.env = (do
      let ov ← eval o X.env; standAt apos.atName; let (f, first) ← holding [ov] (getMethod ov (m : Str) pl); callWith pos f first (backTo pos (starEach [] X.env)) (backToKw pos (keywordEach [] X.env))) := by rfl) :
    OJ X C W (.Call (.Attribute o (m : Str) apos) [] [] pos) (oMeth c m g f0 lNil) := by
  obtain ⟨f, fd, F, hm, b⟩ := D.ex
  refine ⟨fun pins s σ H Q I h => ?_⟩
  obtain ⟨ρ, fp, eo, o1⟩ := h
  refine methcall_of (te := tE X.K C W m0 f0) ho I ⟨ρ, fp, eo, ?_⟩ ht
  refine (Out.bind o1).mono (fun p o2 v H1 s1 r1 => ?_) fun _ _ q => q
  split at o2
  · rename_i hrv
    obtain ⟨a, dx, fs, rfl, ha, hf⟩ := recv_at hrv r1
    exact ⟨a, _, dx, fs, f, rfl, ha, cl, hm, hf, fun s1' I1 => PySem.W.callWith_K0 (first := [.ref a]) I1.kIn hm.kp (run_fnS (us := [.ref a]) (vs := [.ref a]) F (hr.mono hk) b (passAt tk σ) I1 (.cons rfl .nil) (sp_of (qs := [p]) eo hI ⟨r1, trivial⟩ s1 o2))⟩
  · exact o2.elim
/-- o.m(e, ..) -/
theorem oj_meth {pl : Sem Bool} (D : MethOk X.prog X.w X.K X.mg X.base k c m ps (m0 :: ms) g) (cl : Cls X.K (He.ga X.K (c : Str))) (hr : Room j X.A) (hk : k ≤ j) (tk : Takes X W) (ho : EJ X C W m0 o f0) (ha : LJ' X C W ms (e :: es) l) (hI : noI (m0 :: ms) = true := by rfl)
    (hst : starEach (e :: es) X.env = (false, eval e X.env) :: starEach es X.env := by rfl) (hpl : (backTo pos (starEach es X.env)).any (·.1) = false := by rfl)
    (ht : eval (.Call (.Attribute o (m : Str) apos) (e :: es) [] pos) X.env = (do
      let ov ← eval o X.env; standAt apos.atName; let (f, first) ← holding [ov] (getMethod ov (m : Str) pl); callWith pos f first (backTo pos (starEach (e :: es) X.env)) (backToKw pos (keywordEach [] X.env))) := by rfl) :
    OJ X C W (.Call (.Attribute o (m : Str) apos) (e :: es) [] pos) (oMeth c m g f0 l) := by
  obtain ⟨f, fd, F, hm, b⟩ := D.ex
  refine ⟨fun pins s σ H Q I h => ?_⟩
  obtain ⟨ρ, fp, eo, o1⟩ := h
  refine methcall_of (te := tE X.K C W m0 f0) ho I ⟨ρ, fp, eo, ?_⟩ ht
  refine (Out.bind o1).mono (fun p o2 v H1 s1 r1 => ?_) fun _ _ q => q
  split at o2
  · rename_i hrv
    obtain ⟨a, dx, fs, rfl, ha', hf⟩ := recv_at hrv r1
    refine ⟨a, _, dx, fs, f, rfl, ha', cl, hm, hf, fun s1' I1 => ?_⟩
    refine PySem.W.callWith_K (first := [.ref a]) (h₀ := X.base) I.ok.mod.kin hm.kp (thn (ha.run pos pins s1' σ H1 (fun vs H2 => spG X.K (m0 :: ms) g (.ref a :: vs) H2 Q (WE W σ)) I1 ⟨ρ, fp, eo.same s1, ?_⟩) fun us s2 ⟨vs, H2, I2, r, q2⟩ => ⟨I2.kIn, ?_⟩) hst hpl
    · exact (Out.bind o2).mono (fun qs o3 vs H2 s2 r2 => sp_of (qs := p :: qs) eo hI ⟨r1.same s2, r2⟩ (s1.trans s2) o3) fun _ _ q => XQ.later s1 q
    · exact run_fnS (us := .ref a :: us) (vs := .ref a :: vs) F (hr.mono hk) b (passAt tk σ) I2 (.cons rfl r) q2
  · exact o2.elim
end
/-! ### how an instance is made -/
structure InitOk (P : Program) (w : World) (K : PySem.W.Frag) (mg : Str → Option Value) (base : Heap) (k : Nat) (c : String) (ps : List Str) (fl : List Bool) (g : FnM) : Prop where
  ex : ∃ f fd, FnOk P w K mg base (L2.CX P w) k f fd ps (spM K (true :: fl) g) ∧ Mk K (He.ga K (c : Str)) f ∧ mg (c : Str) = some (.ref (He.ga K (c : Str))) ∧ Binds K fd ps []
def mkR : ResM → Res OT
  | .ok (.fz .non) [t] => .ok t
  | .exc c fs _ => .exc c fs
  | _ => .bad
noncomputable def oMake (c : String) (g : FnM) (l : L) : O := fun ρ => l ρ >>= fun ps => mkR (anyA 1 g (.I c [] :: ps.map .fz))
section
variable {X : Cx} {C : Addr → Prop} {W : WX} {e o : Expr} {es : List Expr} {pos apos p2 : Pos} {l : L} {k j : Nat} {c : String} {ps : List Str} {ms : List Mode} {fl : List Bool} {g : FnM}
theorem run_makeS {pins : List (Addr × Obj)} {σ : L2.St} {H : Hp} {s : Shared} {Q : VK} {us : List Value} {vs : List V} {f A0 : Addr} {fd : FuncData} {sp : Sp} {E : XK} {CX : CXT} (M : Mk X.K A0 f) (F : FnOk X.prog X.w X.K X.mg X.base CX k f fd ps sp) (hr : Room (k + 1) X.A) (hb : Binds X.K fd ps [])
    (hx : PassesAt CX X σ E) (I : Inv X pins σ H s) (r : Vals vs us) (h : ∀ x dx, H x = none → H dx = none → dx ≠ x → sp (.ref x :: vs) (upd (upd H dx (.own x)) x (.ins A0 dx [])) (fun v H2 => v = .non ∧ Q (.ref x) H2) E) :
    wpAny (model X.prog X.w) X.A (call (.ref A0) us) (EP X pins σ Q) X.xe s := by
  have hq := h (s.heap.objs.size + 1) s.heap.objs.size (I.hok.fresh (Nat.le_succ _)) (I.hok.fresh (Nat.le_refl _)) (Nat.ne_of_lt (Nat.lt_succ_self _))
  have J := Inv.made (C := A0) I
  have rr : Vals (V.ref (s.heap.objs.size + 1) :: vs) (Value.ref (s.heap.objs.size + 1) :: us) := .cons rfl r
  have hl : (Value.ref (s.heap.objs.size + 1) :: us).length = ps.length := by rw [← rr.length]; exact F.len _ _ _ _ hq
  have bb := hb _ (Value.ref (s.heap.objs.size + 1) :: us) J.kIn (by rw [List.append_nil]; exact hl)
  rw [List.append_nil] at bb
  refine wpAny_call (make_map (f := f) I.kIn M.makes M.init (beq_iff_eq.mp M.fn) (codeAny_mono (F.run _ X.stack _ _ ⟨Value.ref (s.heap.objs.size + 1) :: us, []⟩ _ _ _ E (hr.make A0 us []) (J.env0.make A0 us []) bb rr hq) fun r s' z => ?_))
  rcases r with e | fl
  · exact hx pins _ _ e s' J z
  · cases fl with
    | ret u => obtain ⟨v, H', J', rv, ev, q3⟩ := J.after z; subst ev; exact ⟨rv, ⟨V.ref (s.heap.objs.size + 1), H', J', rfl, q3⟩⟩
    | next => exact False.elim z
    | brk => exact False.elim z
    | cont => exact False.elim z
theorem repArgs_E {K : PySem.W.Frag} {fp : Fp} {A : Addr → Prop} {H H2 : Hp} (hc : Carry (Am C fp) A H H2) : ∀ {n : Nat} {qs : List PV} {vs : List V}, RepMs K C fp H (List.replicate n .E) qs vs → RepArgsM K A H2 (List.replicate n false) [] (qs.map .fz) vs (List.replicate n [])
  | 0, [], [], _ => trivial
  | n + 1, p :: qs, v :: vs, h => ⟨rfl, ⟨p, rfl, Rep.carry hc h.1⟩, repArgs_E hc h.2⟩
theorem make_read {n : Nat} {σ : L2.St} {H : Hp} {Q : VK} (h : tO X.K C W (oMake c g l) σ H Q) :
    tL X.K C W (List.replicate n .E) l σ H fun vs H1 => ∀ x dx, H1 x = none → H1 dx = none → dx ≠ x →
      spM X.K (true :: List.replicate n false) g (.ref x :: vs) (upd (upd H1 dx (.own x)) x (.ins (He.ga X.K (c : Str)) dx [])) (fun v H2 => v = .non ∧ Q (.ref x) H2) (WE W σ) := by
  obtain ⟨ρ, fp, eo, o⟩ := h
  refine ⟨ρ, fp, eo, (Out.bind o).mono (fun qs o1 vs H1 s1 r1 x dx hx hdx ne => ?_) fun _ _ q => q⟩
  have eo1 := eo.same s1
  have none0 : ∀ a, H1 a = none → H a = none := fun a z => by
    cases y : H a with
    | none => rfl
    | some o => rw [s1 _ _ y] at z; cases z
  have keep2 : ∀ a o, H1 a = some o → upd (upd H1 dx (.own x)) x (.ins (He.ga X.K (c : Str)) dx []) a = some o := fun a o z => by
    rw [upd_ne (fun y => by rw [y, hx] at z; cases z), upd_ne (fun y => by rw [y, hdx] at z; cases z)]; exact z
  have cc : Carry (Am C fp) (fun a => Am C fp a ∧ a ≠ x) H1 (upd (upd H1 dx (.own x)) x (.ins (He.ga X.K (c : Str)) dx [])) :=
    Carry.mk' (fun a o q z => ⟨q, fun y => by rw [y, hx] at z; cases z⟩) (fun a o _ z => keep2 a o z) (fun a xs z => keep2 a _ z) fun a o u z => keep2 a _ z
  have fl0 : ((([x] : List Addr) :: List.replicate n []).flatten) = [x] := by
    rw [List.flatten_cons]
    have : (List.replicate n ([] : List Addr)).flatten = [] := by simp
    rw [this]; rfl
  refine ⟨fun a => Am C fp a ∧ a ≠ x, [x], .I c [] :: qs.map .fz, [x] :: List.replicate n [], ⟨rfl, ⟨x, dx, [], [], rfl, rfl, upd_same, rfl, rfl⟩, repArgs_E cc r1⟩, by rw [fl0]; simp, fun a ha q => by rw [fl0] at ha; exact q.2 (List.mem_singleton.mp ha), ?_⟩
  rw [fl0]
  have gone : ∀ a, upd (upd H1 dx (.own x)) x (.ins (He.ga X.K (c : Str)) dx []) a = none → H1 a = none := fun a z => by
    cases y : H1 a with
    | none => rfl
    | some o => rw [keep2 _ _ y] at z; cases z
  rcases anyA_spec (m := 1) (g := g) (ts := .I c [] :: qs.map .fz) (as := [x]) rfl with hb | hg
  · rw [hb] at o1; exact o1.elim
  · rw [hg]
    cases er : anyA 1 g (.I c [] :: qs.map .fz) with
    | bad => rw [er] at o1; exact o1.elim
    | exc cl fs ts =>
      rw [er] at o1
      intro H' F' kp rts
      have sm : Same H H' := fun a o z => kp.keep a o (fun y => by rw [List.mem_singleton.mp y] at z; rw [s1 _ _ z] at hx; cases hx) (keep2 _ _ (s1 _ _ z))
      have := o1 H' sm
      cases fs with
      | none => exact this
      | some fs => exact this
    | ok oo ts =>
      rw [er] at o1
      cases oo with
      | fz p =>
        cases p with
        | non =>
          cases ts with
          | nil => exact o1.elim
          | cons t ts =>
            cases ts with
            | cons _ _ => exact o1.elim
            | nil =>
              intro v H' Fn F' kp ro rts
              obtain ⟨rfl, rv⟩ := ro
              refine ⟨rv, ?_⟩
              obtain ⟨y, r', F1, F2, ey, rfl, rt, er2⟩ := rts
              simp only [List.map_cons, List.map_nil, List.cons.injEq] at ey
              obtain ⟨rfl, rfl⟩ := ey
              obtain ⟨_, rfl⟩ := er2
              have sm : Same H H' := fun a o z => kp.keep a o (fun y => by rw [List.mem_singleton.mp y] at z; rw [s1 _ _ z] at hx; cases hx) (keep2 _ _ (s1 _ _ z))
              refine o1 (.ref x) H' F1 sm (by have := kp.nod; simpa using this) (fun a ha => ?_) (rt.carry (Carry.refl fun a _ q _ => ⟨?_, fun z => q.2 (by simp [z])⟩) fun _ _ _ q => q)
              · rcases kp.sub a (by simp [ha]) with y | y
                · rw [List.mem_singleton.mp y]; exact none0 x hx
                · exact none0 a (gone a y)
              · rcases q.1 with y | y | y
                · exact y.1
                · rw [List.mem_singleton.mp y]; exact eo1.am_new hx
                · exact eo1.am_new (gone a y)
        | _ => exact o1.elim
      | _ => exact o1.elim
/-- C(e, ..) -/
theorem oj_make {n : Nat} (D : InitOk X.prog X.w X.K X.mg X.base k c ps (List.replicate n false) g) (hr : Room j X.A) (hk : k + 1 ≤ j) (tk : Takes X W) (hg : Gl X (c : Str)) (ha : LJ' X C W (List.replicate n .E) (e :: es) l) (hdb : ((c : Str) == ("__debug__" : Str)) = false := by decide)
    (he : starEach (e :: es) X.env = (false, eval e X.env) :: starEach es X.env := by rfl) (hpl : (backTo pos (starEach es X.env)).any (·.1) = false := by rfl) : OJ X C W (.Call (.Name (c : Str) p2) (e :: es) [] pos) (oMake c g l) := by
  obtain ⟨f, fd, F, M, hm, b⟩ := D.ex
  refine ⟨fun pins s σ H Q I h => ?_⟩
  refine wpAny_Call_Name_kw (ld_glob I hg hm ?_ hdb)
  refine PySem.W.callWith_K (h₀ := X.base) I.ok.mod.kin M.kp (thn (ha.run pos pins s σ H _ I (make_read h)) fun us s1 ⟨vs, H1, I1, r, q⟩ => ⟨I1.kIn, ?_⟩) he hpl
  exact run_makeS M F (hr.mono hk) b (passAt tk σ) I1 r q
theorem oj_make0 (D : InitOk X.prog X.w X.K X.mg X.base k c ps [] g) (hr : Room j X.A) (hk : k + 1 ≤ j) (tk : Takes X W) (hg : Gl X (c : Str)) (hdb : ((c : Str) == ("__debug__" : Str)) = false := by decide) : OJ X C W (.Call (.Name (c : Str) p2) [] [] pos) (oMake c g lNil) := by
  obtain ⟨f, fd, F, M, hm, b⟩ := D.ex
  refine ⟨fun pins s σ H Q I h => ?_⟩
  refine wpAny_Call_Name_kw (ld_glob I hg hm ?_ hdb)
  obtain ⟨ρ, fp, eo, o⟩ := make_read (n := 0) h
  exact PySem.W.callWith_K0 I.kIn M.kp (run_makeS (us := []) M F (hr.mono hk) b (passAt tk σ) I .nil (o [] H (Same.refl H) trivial))
end
end Fz
end
section
/-! Fyo: reversed; instances in the plain proofs. -/
namespace Fz
open PySem PySem.Spec PyProof.Rows L2
theorem iter_rev {K : PySem.W.Frag} {A : Addr → Prop} {H0 : Hp} {rel : Hp → Prop} {a : Addr} {ps : List PV} {xs : List V} (r : Reps K A H0 ps xs) (h : ∀ H, rel H → SqL K H a xs) : IterOk K A H0 rel (Itv K a xs.length) ps.reverse := fun H B hr c i => by
  have h1 := h H hr
  have h2 := Reps.carry c r
  have hl := h2.length
  refine ⟨fun p hp => ?_, fun hi => ?_⟩
  · have hi : i < ps.length := by have := (List.getElem?_eq_some_iff.mp hp).1; simpa using this
    rw [List.getElem?_reverse hi] at hp
    obtain ⟨v, hv, r⟩ := h2.get hp
    rw [← hl] at hv
    refine ⟨⟨by omega, xs, v, h1, hv⟩, fun x H' ⟨e1, e2⟩ => ?_⟩
    have := e2 xs h1
    rw [hv] at this; cases this
    subst e1
    exact ⟨Same.refl _, r⟩
  · show xs.length ≤ i
    rw [hl]; simpa using hi
theorem iter_revT {K : PySem.W.Frag} {A : Addr → Prop} {H0 : Hp} {rel : Hp → Prop} {a : Addr} {ps : List PV} {xs : List V} (r : Reps K A H0 ps xs) (h : ∀ H, rel H → SqT K H a xs) : IterOk K A H0 rel (RT.ItvT K a xs.length) ps.reverse := fun H B hr c i => by
  have h1 := h H hr
  have h2 := Reps.carry c r
  have hl := h2.length
  refine ⟨fun p hp => ?_, fun hi => ?_⟩
  · have hi : i < ps.length := by have := (List.getElem?_eq_some_iff.mp hp).1; simpa using this
    rw [List.getElem?_reverse hi] at hp
    obtain ⟨v, hv, r⟩ := h2.get hp
    rw [← hl] at hv
    refine ⟨⟨by omega, xs, v, h1, hv⟩, fun x H' ⟨e1, e2⟩ => ?_⟩
    have := e2 xs h1
    rw [hv] at this; cases this
    subst e1
    exact ⟨Same.refl _, r⟩
  · show xs.length ≤ i
    rw [hl]; simpa using hi
def lRev (f : E) : L := fun ρ => f ρ >>= fun p => itemsOf p >>= fun ps => .ok ps.reverse
section
variable {X : Cx} {C : Addr → Prop} {W : WX} {e e1 e2 tg iter : Expr} {pos p2 pn tpos : Pos} {m : Mode} {f : E}
theorem rev_read {σ : L2.St} {H : Hp} {R : It → Hp → Prop} {rel : Hp → Fp → Hp → Prop} (hst : ∀ (fp : Fp) H' p v ps, RepM X.K C fp m H' p v → itemsOf p = .ok ps → Stands X.K (Am C fp) H' (rel H' fp) p v ps) (hrf : ∀ H fp, rel H fp H)
    (h : tI X.K C W rel (lRev f) σ H R) : RT.iRevA X.K (tE X.K C W m f) σ H R := by
  obtain ⟨ρ, fp, eo, o⟩ := h
  refine ⟨ρ, fp, eo, (Out.bind o).mono (fun p o1 v H1 s1 r1 => ?_) fun _ _ q => q⟩
  obtain ⟨ps, hp, o2⟩ := itemsOf_out (Out.bind o1)
  obtain ⟨a, xs, rfl, rr, h1, h2⟩ := hst fp H1 p v ps r1 hp
  refine ⟨a, xs, rfl, ?_⟩
  cases t0 : isTupP p with
  | false => exact .inl ⟨h1 t0 H1 (hrf _ _), o2 _ H1 s1 (iter_rev rr (h1 t0))⟩
  | true => exact .inr ⟨h2 t0 H1 (hrf _ _), o2 _ H1 s1 (iter_revT rr (h2 t0))⟩
theorem ij_rev (hg : Gl X "reversed") (hm : X.mg "reversed" = none) (h : EJ X C W .E e f) (hs : starEach [e] X.env = (false, eval e X.env) :: starEach [] X.env := by rfl) : IJ X C W relG tg (.Call (.Name "reversed" pn) [e] [] pos) (lRev f) :=
  pi_weak (RT.pi_revA hg hm h hs) fun σ H R q => rev_read (m := .E) (fun fp H' p v ps r hp => seq_stands r hp) (fun _ _ => relG.refl) q
theorem ij_revS (hg : Gl X "reversed") (hm : X.mg "reversed" = none) (h : EJ X C W .I e f) (hs : starEach [e] X.env = (false, eval e X.env) :: starEach [] X.env := by rfl) : IJ X C W relS tg (.Call (.Name "reversed" pn) [e] [] pos) (lRev f) :=
  pi_weak (RT.pi_revA hg hm h hs) fun σ H R q => rev_read (m := .I) (fun fp H' p v ps r hp => seq_standsS r hp) (fun H fp => Same.refl H) q
end
@[simp] theorem m_lRev (f : E) (ρ : Env) : lRev f ρ = f ρ >>= fun p => itemsOf p >>= fun ps => .ok ps.reverse := (rfl)
@[simp] theorem itO_lst (ps : List PV) : itemsOf (.lst ps) = .ok ps := (rfl)
@[simp] theorem itO_tup (ps : List PV) : itemsOf (.tup ps) = .ok ps := (rfl)
section
variable (ρ : Env) (c f m : String) (e : E) (fo : O) (px : Px) (i : Nat) (l : L)
@[simp] theorem m_eFld : eFld c f e ρ = e ρ >>= fun p => ofO (if insC c p = true then insF f p else none) := (rfl)
@[simp] theorem insC_ins (d : String) (fs : List (String × PV)) : insC c (.ins d fs) = decide (d = c) := (rfl)
@[simp] theorem insF_ins (d : String) (fs : List (String × PV)) : insF f (.ins d fs) = fldP f fs := (rfl)
@[simp] theorem fldP_nil : fldP f [] = none := (rfl)
@[simp] theorem fldP_cons (g : String) (p : PV) (r : List (String × PV)) : fldP f ((g, p) :: r) = if g = f then some p else fldP f r := (rfl)
@[simp] theorem m_pxFld : pxFld c f i px ρ = px ρ >>= fun π => ofO ((nodeOf i ρ π).bind fun n => (fldIdx c f n).map fun j => π ++ [j]) := (rfl)
@[simp] theorem fldIdx_Is (d : String) (fs : List (String × OT)) : fldIdx c f (.I d fs) = if d = c then fs.findIdx? (fun q => decide (q.1 = f)) else none := (rfl)
@[simp] theorem m_sFldO : sFldO i px c f fo ρ = withR (fo ρ) ρ fun t => withR (px ρ) ρ fun π => putT i ρ π ((nodeOf i ρ π).bind (setF c f t)) := (rfl)
@[simp] theorem setF_Is (d : String) (n : OT) (fs : List (String × OT)) : setF c f n (.I d fs) = if d = c ∧ fs.length < 1000 then some (.I d (putFO f n fs)) else none := (rfl)
@[simp] theorem putFO_nil (n : OT) : putFO f n [] = [(f, n)] := (rfl)
@[simp] theorem putFO_cons (n t : OT) (g : String) (r : List (String × OT)) : putFO f n ((g, t) :: r) = if g = f then (g, n) :: r else (g, t) :: putFO f n r := (rfl)
@[simp] theorem m_oMeth (g : Fn) : oMeth c m g e l ρ = e ρ >>= fun p => if recvOk c m p = true then l ρ >>= fun ps => g (p :: ps) else .bad := (rfl)
@[simp] theorem recvOk_ins (d : String) (fs : List (String × PV)) : recvOk c m (.ins d fs) = (decide (d = c) && (fldP m fs).isNone) := (rfl)
@[simp] theorem m_oMake (g : FnM) : oMake c g l ρ = l ρ >>= fun ps => mkR (anyA 1 g (.I c [] :: ps.map .fz)) := (rfl)
@[simp] theorem mkR_ok (t : OT) : mkR (.ok (.fz .non) [t]) = .ok t := (rfl)
@[simp] theorem mkR_exc (k : String) (fs : Option (List (String × PV))) (ts : List OT) : mkR (.exc k fs ts) = .exc k fs := (rfl)
@[simp] theorem kids_I (fs : List (String × OT)) : (OT.I c fs).kids = fs.map Prod.snd := (rfl)
@[simp] theorem setKid_I (fs : List (String × OT)) (n : OT) : (OT.I c fs).setKid i n = .I c (setSnd fs i n) := (rfl)
@[simp] theorem pv_I (fs : List (String × OT)) : (OT.I c fs).pv = .ins c (OT.pvF fs) := (rfl)
@[simp] theorem pvF_nil : OT.pvF [] = [] := (rfl)
@[simp] theorem pvF_cons (k : String) (t : OT) (ts : List (String × OT)) : OT.pvF ((k, t) :: ts) = (k, t.pv) :: OT.pvF ts := (rfl)
@[simp] theorem ts_I (fs : List (String × OT)) : toSlot (.I c fs) = .own (.I c fs) := (rfl)
end
end Fz
end
section
/-! Fyp: methods and __init__ by their bodies. -/
namespace Fz
open PySem PySem.Spec PyProof.Rows L2
section
variable {P : Program} {w : World} {K : PySem.W.Frag} {mg : Str → Option Value} {base : Heap}
theorem meth_ok {c m : String} {x qual : Str} {params : Arguments} {body : List Stmt} {scope : Scope} {f : Addr} {fd : FuncData} {N ps : List Str} {k : Nat} {ms : List Mode} {s : S} (F : FunD K x qual params body scope [] [] f fd) (Sc : FnScope N ps scope) (hm : ms.length = ps.length) (hN : ms.length ≤ N.length) (hg : Meth K (He.ga K (c : Str)) (m : Str) f)
    (hbd : ∀ (kV doc pm : Value) (an : Option Addr) (cdv ct : Value) (us : List Value), us.length = ps.length → bindArgs (PySem.W.fnOf x qual params body scope .none kV doc pm an cdv ct) ⟨us, []⟩ = pure (ps.zip us))
    (hb : ∀ (cdv : Value) (A : Around) (outer : List PySem.Env) (sh : Shared) (H : Hp) (E : XK) (C : Addr → Prop), Room k (XD P w K mg base N qual scope f cdv A outer sh H E).A → Takes (XD P w K mg base N qual scope f cdv A outer sh H E) (fun c d _ H => E c d H) →
      PassesOwn (model P w) (XD P w K mg base N qual scope f cdv A outer sh H E).A (XD P w K mg base N qual scope f cdv A outer sh H E).env (XD P w K mg base N qual scope f cdv A outer sh H E).xe → BJ (XD P w K mg base N qual scope f cdv A outer sh H E) C (fun c d _ H => E c d H) body s) :
    MethOk P w K mg base (k + 1) c m ps ms (runFn N.length ms s) := ⟨f, fd, fn_ok F Sc hm hN hb, hg, F.bindsN hbd⟩
theorem init_ok {c : String} {x qual : Str} {params : Arguments} {body : List Stmt} {scope : Scope} {f : Addr} {fd : FuncData} {N ps : List Str} {k : Nat} {fl : List Bool} {s : S} (F : FunD K x qual params body scope [] [] f fd) (Sc : FnScope N ps scope) (hm : (true :: fl).length = ps.length) (hN : (true :: fl).length ≤ N.length) (hg : Mk K (He.ga K (c : Str)) f) (hG : mg (c : Str) = some (.ref (He.ga K (c : Str))))
    (hbd : ∀ (kV doc pm : Value) (an : Option Addr) (cdv ct : Value) (us : List Value), us.length = ps.length → bindArgs (PySem.W.fnOf x qual params body scope .none kV doc pm an cdv ct) ⟨us, []⟩ = pure (ps.zip us))
    (hb : ∀ (cdv : Value) (A : Around) (outer : List PySem.Env) (sh : Shared) (H : Hp) (E : XK) (C : Addr → Prop), Room k (XD P w K mg base N qual scope f cdv A outer sh H E).A → Takes (XD P w K mg base N qual scope f cdv A outer sh H E) (fun c d _ H => E c d H) →
      PassesOwn (model P w) (XD P w K mg base N qual scope f cdv A outer sh H E).A (XD P w K mg base N qual scope f cdv A outer sh H E).env (XD P w K mg base N qual scope f cdv A outer sh H E).xe → BJ (XD P w K mg base N qual scope f cdv A outer sh H E) C (fun c d _ H => E c d H) body s) :
    InitOk P w K mg base (k + 1) c ps fl (runFnM N.length (true :: fl) s) := ⟨f, fd, fnM_ok F Sc hm hN hb, hg, hG, F.bindsN hbd⟩
end
end Fz
end
section
/-! Fyq: sorted of data of any length; sorted by a def of the text. -/
namespace Fz
open PySem PySem.Spec PyProof.Rows L2
/-! ### plain -/
abbrev PVV := PV × V
def encB (b : PVV) : PyData := toD b.1
def pvLe (a b : PV) : Bool := !pvLt b a
theorem le_enc : PySem.W.dataLe false encB = fun a b => pvLe a.1 b.1 := rfl
def isTup1 : PV → Bool
  | .tup (_ :: _) => true
  | _ => false
def sortOk (ps : List PV) : Bool := ps.all (fun p => eqOk p && notNo p) && (ps.all fun p => ps.all fun q => likeP p q) && (ps.all isTup1 || ps.all fun p => !isTupP p)
def gSortD : PV → Option OT
  | .lst ps => if sortOk ps = true then some (.l (ps.mergeSort pvLe)) else none
  | _ => none
structure SortB (K : PySem.W.Frag) (H : Hp) (bs : List PVV) : Prop where
  dp : ∀ b ∈ bs, Dp K H b.2 (toD b.1)
  al : PySem.W.AllAlike (bs.map encB)
  so : PySem.W.Sortable (bs.map encB)
  de : ∀ b ∈ bs, (encB b).depth ≤ 70
def rSortD (K : PySem.W.Frag) : List V → Hp → VK → Prop := fun xs H Q => ∃ (a : Addr) (bs : List PVV), xs = [.ref a] ∧ SqL K H a (bs.map Prod.snd) ∧ SortB K H bs ∧
  ∀ p, H p = none → Q (.ref p) (upd H p (.lst ((bs.mergeSort fun a b => pvLe a.1 b.1).map Prod.snd)))
theorem each_vals {bs : List PVV} : ∀ {us : List Value}, Vals (bs.map Prod.snd) us → PySem.W.EachIs (fun u (b : PVV) => RelV b.2 u) us bs := by
  induction bs with
  | nil => intro us r; cases r; exact .nil
  | cons b bs ih => intro us r; cases r with
    | cons r1 r2 => exact .cons r1 (ih r2)
theorem vals_each : ∀ {us : List Value} {bs : List PVV}, PySem.W.EachIs (fun u (b : PVV) => RelV b.2 u) us bs → Vals (bs.map Prod.snd) us
  | _, _, .nil => .nil
  | _, _, .cons h t => .cons h (vals_each t)
theorem each_and {α β : Type} {R S : α → β → Prop} : ∀ {as : List α} {bs : List β}, PySem.W.EachIs R as bs → (∀ a b, b ∈ bs → R a b → S a b) → PySem.W.EachIs S as bs
  | _, _, .nil, _ => .nil
  | _, _, .cons h t, f => .cons (f _ _ (by simp) h) (each_and t fun a b hb => f a b (by simp [hb]))
section
variable {X : Cx}
theorem cr_sortD (hu : Hu X) : CallR X (.builtin "sorted") (rSortD X.K) := by
  intro pins s σ H xs us Q I r ⟨a, bs, ex, hq, hb, q⟩
  subst ex
  obtain ⟨u, rfl, ru⟩ := vals1 r
  obtain rfl : u = Value.ref a := ru
  obtain ⟨its, rv, p, hz⟩ := I.list hq
  have e := each_vals rv
  have er : PySem.W.EachIs (fun v (b : PVV) => ∃ as, Reads s.heap v (encB b) as) its bs := each_and e fun u b hm h => Dp.reads I (toD b.1) b.2 u (hb.dp b hm) h
  have hl : bs.length ≤ sizeLine := by simpa using hz
  refine PySem.W.sorted_data p.isList e er hb.al hb.so hl (fun b hm => by have h1 := hb.de b hm; have h2 := hu; unfold Hu at h2; omega) fun out ho eo => ?_
  obtain ⟨n, hn⟩ := sortedAll_at s.heap its (List.toArray out)
  have ev := vals_each eo
  rw [le_enc] at ev
  refine ⟨.ref (s.heap.objs.size + 1), upd H (s.heap.objs.size + 1) (.lst ((bs.mergeSort fun a b => pvLe a.1 b.1).map Prod.snd)), I.laid (t' := s.toks) (a := s.heap.objs.size + 1) (fun b u q => sortedAll_old q) (Nat.le_succ _) ⟨?_, out, n, ev, hn⟩, rfl, q _ (I.hok.fresh (Nat.le_succ _))⟩
  rw [List.length_map, List.length_mergeSort]; exact hl
end
theorem zip_fst {α β : Type} : ∀ {xs : List α} {ys : List β}, xs.length = ys.length → (xs.zip ys).map Prod.fst = xs
  | [], [], _ => rfl
  | [], _ :: _, h => by simp at h
  | _ :: _, [], h => by simp at h
  | x :: xs, y :: ys, h => by simp [zip_fst (xs := xs) (ys := ys) (by simpa using h)]
theorem zip_snd {α β : Type} : ∀ {xs : List α} {ys : List β}, xs.length = ys.length → (xs.zip ys).map Prod.snd = ys
  | [], [], _ => rfl
  | [], _ :: _, h => by simp at h
  | _ :: _, [], h => by simp at h
  | x :: xs, y :: ys, h => by simp [zip_snd (xs := xs) (ys := ys) (by simpa using h)]
section
variable {K : PySem.W.Frag} {A : Addr → Prop} {H : Hp}
theorem reps_mem : ∀ {ps : List PV} {vs : List V}, Reps K A H ps vs → ∀ b ∈ ps.zip vs, Rep K A H b.1 b.2
  | [], _, _, b, hb => by simp at hb
  | p :: ps, _, h, b, hb => by
    obtain ⟨x, r, rfl, h1, h2⟩ := h
    rcases List.mem_cons.mp hb with rfl | hb
    · exact h1
    · exact reps_mem h2 b hb
theorem reps_bs : ∀ {bs : List PVV}, (∀ b ∈ bs, Rep K A H b.1 b.2) → Reps K A H (bs.map Prod.fst) (bs.map Prod.snd)
  | [], _ => rfl
  | b :: bs, h => ⟨_, _, rfl, h b (by simp), reps_bs fun c hc => h c (by simp [hc])⟩
theorem sortOk_spec {ps : List PV} (h : sortOk ps = true) : (∀ p ∈ ps, eqOk p = true ∧ notNo p = true) ∧ (∀ p ∈ ps, ∀ q ∈ ps, likeP p q = true) ∧ ((∀ p ∈ ps, isTup1 p = true) ∨ ∀ p ∈ ps, isTupP p = false) := by
  unfold sortOk at h
  simp only [Bool.and_eq_true, Bool.or_eq_true, List.all_eq_true, Bool.not_eq_true'] at h
  exact ⟨h.1.1, h.1.2, h.2⟩
theorem toD_tup1 {p : PV} (h : isTup1 p = true) : ∃ x r, toD p = .tuple (x :: r) := by
  match p, h with
  | .tup (x :: r), _ => exact ⟨toD x, toDs r, rfl⟩
theorem toD_notup {p : PV} (h : isTupP p = false) : ∀ xs, toD p ≠ .tuple xs := fun xs e => by
  cases p <;> simp [toD, isTupP] at *
theorem toD_nonone {p : PV} (h : notNo p = true) (h2 : eqOk p = true) : toD p ≠ .none := fun e => by
  cases p <;> simp [toD, notNo, eqOk, isData] at *
theorem sortB_of {ps : List PV} {vs : List V} (ho : sortOk ps = true) (r : Reps K A H ps vs) : SortB K H (ps.zip vs) := by
  obtain ⟨h1, h2, h3⟩ := sortOk_spec ho
  have hm : ∀ b ∈ ps.zip vs, b.1 ∈ ps := fun b hb => (List.of_mem_zip hb).1
  refine ⟨fun b hb => (reps_mem r b hb).dp (data_of (h1 _ (hm b hb)).1), fun d hd d' hd' => ?_, ?_, fun b hb => ?_⟩
  · obtain ⟨b, hb, rfl⟩ := List.mem_map.mp hd
    obtain ⟨c, hc, rfl⟩ := List.mem_map.mp hd'
    exact h2 _ (hm b hb) _ (hm c hc)
  · rcases h3 with h3 | h3
    · exact .inl fun d hd => by obtain ⟨b, hb, rfl⟩ := List.mem_map.mp hd; exact toD_tup1 (h3 _ (hm b hb))
    · exact .inr fun d hd => by obtain ⟨b, hb, rfl⟩ := List.mem_map.mp hd; exact ⟨toD_nonone (h1 _ (hm b hb)).2 (h1 _ (hm b hb)).1, toD_notup (h3 _ (hm b hb))⟩
  · have := shaped_of (h1 _ (hm b hb)).1
    simp only [SeqAt.shaped, Bool.and_eq_true, decide_eq_true_eq] at this
    unfold encB
    omega
end
theorem gSortD_inv {p : PV} {t : OT} (h : gSortD p = some t) : ∃ ps, p = .lst ps ∧ sortOk ps = true ∧ t = .l (ps.mergeSort pvLe) := by
  match p, h with
  | .lst ps, h =>
    have h : (if sortOk ps = true then some (OT.l (ps.mergeSort pvLe)) else none) = some t := h
    by_cases ho : sortOk ps = true
    · rw [if_pos ho] at h; exact ⟨ps, rfl, ho, (Option.some.inj h).symm⟩
    · rw [if_neg ho] at h; cases h
theorem c_sortD {X : Cx} : Call1 X.K (rSortD X.K) .I gSortD := fun C fp H p t v Q hg r k => by
  obtain ⟨ps, rfl, ho, rfl⟩ := gSortD_inv hg
  obtain ⟨a, xs, rfl, ha, rr⟩ := r
  have hl := rr.length
  refine ⟨a, ps.zip xs, rfl, by rw [zip_snd hl.symm]; exact SqL.of ha, sortB_of ho rr, ?_⟩
  have e : ps.mergeSort pvLe = ((ps.zip xs).mergeSort fun a b => pvLe a.1 b.1).map Prod.fst := by
    rw [PySem.W.sort_maps (s := pvLe) Prod.fst fun _ _ _ _ => rfl, zip_fst hl.symm]
  rw [e] at k
  exact k.l (reps_bs fun b hb => reps_mem rr b (List.mem_mergeSort.mp hb))
end Fz
end
section
/-! Fyr: sorted(xs, key=f), f a def of the text. -/
namespace Fz
open PySem PySem.Spec PyProof.Rows L2
section
variable {K : PySem.W.Frag} {H H' : Hp}
theorem sqL_same {a : Addr} {xs : List V} (s : Same H H') (h : SqL K H a xs) : SqL K H' a xs := h.imp (fun q => q.imp (s _ _) fun ⟨o, z⟩ => ⟨o, s _ _ z⟩) id
theorem sqT_same {a : Addr} {xs : List V} (s : Same H H') (h : SqT K H a xs) : SqT K H' a xs := h.imp (fun q => q.imp (s _ _) fun ⟨o, z⟩ => ⟨o, s _ _ z⟩) id
mutual
theorem dp_same (s : Same H H') : ∀ {d : PyData} {v : V}, Dp K H v d → Dp K H' v d
  | _, _, .non => .non
  | _, _, .bl b => .bl b
  | _, _, .int i => .int i
  | _, _, .str x => .str x
  | _, _, .lst h1 h2 => .lst (sqL_same s h1) (dps_same s h2)
  | _, _, .tup h1 h2 => .tup (sqT_same s h1) (dps_same s h2)
theorem dps_same (s : Same H H') : ∀ {ds : List PyData} {vs : List V}, DpAll K H vs ds → DpAll K H' vs ds
  | _, _, .nil => .nil
  | _, _, .cons h1 h2 => .cons (dp_same s h1) (dps_same s h2)
end
theorem dps_len : ∀ {ds : List PyData} {vs : List V}, DpAll K H vs ds → vs.length = ds.length
  | _, _, .nil => rfl
  | _, _, .cons h1 h2 => by simp [dps_len h2]
end
theorem DpAll.snoc {K : PySem.W.Frag} {H : Hp} {v : V} {d : PyData} (h : Dp K H v d) : ∀ {vs : List V} {ds : List PyData}, DpAll K H vs ds → DpAll K H (vs ++ [v]) (ds ++ [d])
  | _, _, .nil => .cons h .nil
  | _, _, .cons a b => .cons a (DpAll.snoc h b)
theorem vals_snoc {v : V} {u : Value} (h : RelV v u) : ∀ {vs : List V} {us : List Value}, Vals vs us → Vals (vs ++ [v]) (us ++ [u])
  | _, _, .nil => .cons h .nil
  | _, _, .cons a b => .cons a (vals_snoc h b)
section
variable {X : Cx} {pins : List (Addr × Obj)} {s : Shared} {σ : L2.St} {H : Hp} {us : List Value} {bs : List PVV}
/-- an address that no one has yet -/
structure Newer (X : Cx) (pins : List (Addr × Obj)) (x : Addr) : Prop where
  up : X.s_0.heap.objs.size ≤ x
  loc : x ≠ X.env.locals
  cell : ∀ y c, X.env.cells.lookup y = some c → c ≠ x
  pin : ∀ p ∈ X.pn ++ pins, p.1 ≠ x
  fs : x ∉ X.fs
theorem newer_of {x : Addr} (I : Inv X pins σ H s) (h : s.heap.objs.size ≤ x) : Newer X pins x where
  up := Nat.le_trans I.sz h
  loc := fun e => by have := I.lt; rw [← e] at this; exact Nat.lt_irrefl _ (Nat.lt_of_lt_of_le this h)
  cell := fun y c e z => by
    obtain ⟨v, o, ho, _⟩ := I.cell y c e
    have := Heap.lt_size ho
    rw [z] at this
    exact Nat.lt_irrefl _ (Nat.lt_of_lt_of_le this h)
  pin := fun p hp z => by
    have := Heap.lt_size (I.pin p hp).1
    rw [z] at this
    exact Nat.lt_irrefl _ (Nat.lt_of_lt_of_le this h)
  fs := I.nofs h
theorem Newer.turn {x : Addr} {h' : Heap} {t' : Nat} (n : Newer X pins x) (I : Inv X pins σ H s) (hn : H x = none) (k : ∀ b o, b ≠ x → s.heap.get? b = some o → h'.get? b = some o) : Inv X pins σ H { s with heap := h', toks := t' } :=
  I.turned k hn n.loc (.inr n.up) n.cell n.pin
/-- one pin more -/
theorem pin1 {x : Addr} {o : Obj} (I : Inv X pins σ H s) (n : x ≠ X.env.locals) (nf : x ∉ X.fs) (e : s.heap.get? x = some o) (hn : H x = none) (hc : ∀ v, o.data ≠ .cell v) : Inv X ((x, o) :: pins) σ H s :=
  I.pins_of fun p hp => by
    rcases List.mem_cons.mp hp with rfl | hp
    · exact ⟨e, hn, n, nf, hc⟩
    · exact I.pin p (by simp [hp])
theorem unpin1 {q : Addr × Obj} (I : Inv X (q :: pins) σ H s) : Inv X pins σ H s := I.pins_of fun p hp => I.pin p (by
  rcases List.mem_append.mp (show p ∈ X.pn ++ pins by simp [hp]) with z | z
  · simp [z]
  · simp [z])
theorem seq_nocell {xs : Array Value} {n : Nat} : ∀ v, (seqObj "list" xs n).data ≠ .cell v := fun v z => by cases z
/-- the keys: a turn for each item -/
def KeyT (X : Cx) (H : Hp) (f : Addr) (kf : PV → PV) (bs : List PVV) : Prop := ∀ (pins : List (Addr × Obj)) (s : Shared) (σ : L2.St) (H1 : Hp) (b : PVV) (u : Value), Inv X pins σ H1 s → Same H H1 → b ∈ bs → RelV b.2 u →
  wpAny (model X.prog X.w) X.A.in1.in1 (call (.ref f) [u]) (fun w s' => ∃ v H2, Inv X pins σ H2 s' ∧ Same H1 H2 ∧ RelV v w ∧ Dp X.K H2 v (toD (kf b.1))) (fun _ _ => False) s
def keyOf' (kf : PV → PV) (b : PVV) : PyData := toD (kf b.1)
theorem rest_ok {f kS a : Addr} {kf : PV → PV} {e1 : Nat} {P : PySem.Fin → Shared → Prop} {E : Value → Shared → Prop} (T : KeyT X H f kf bs) (J : Inv X ((kS, seqObj "list" #[] 0) :: (a, seqObj "list" #[] e1) :: pins) σ H s) (hne : kS ≠ a) (nk : Newer X pins kS) (na : Newer X pins a)
    (rv : Vals (bs.map Prod.snd) us) (hl : us.length ≤ sizeLine) (hal : PySem.W.AllAlike (bs.map (keyOf' kf))) (hso : PySem.W.Sortable (bs.map (keyOf' kf))) (hde : ∀ d ∈ bs.map (keyOf' kf), X.A.in1.in1.units + d.depth < cLine)
    (hP : ∀ H' s', Inv X pins σ (upd H' a (.lst ((bs.mergeSort fun x y => pvLe (kf x.1) (kf y.1)).map Prod.snd))) s' → Same H H' → H' a = none → P (.done (.ret .none)) s') :
    wpAny (model X.prog X.w) X.A.in1.in1 (PyProof.Rows.ksk_rest a (.ref f) false us.toArray e1 (.ref kS)) P E s := by
  have hbl : us.length = bs.length := by have := rv.length; simpa using this.symm
  have ev := each_vals rv
  unfold PyProof.Rows.ksk_rest
  refine wpAny_bind (wpAny_rule ?_)
  rw [List.forIn_toArray]
  refine wpAny_bind (PyProof.Rows.ksk_fold (fun i s' => ∃ H' kA e, Inv X ((kS, seqObj "list" kA e) :: (a, seqObj "list" #[] e1) :: pins) σ H' s' ∧ Same H H' ∧ ∃ kv, Vals kv kA.toList ∧ DpAll X.K H' kv ((bs.map (keyOf' kf)).take i)) us 0 s ⟨H, #[], 0, J, Same.refl H, [], .nil, by rw [List.take_zero]; exact .nil⟩ ?step ?done)
  case step =>
    rintro j x s' hx ⟨H', kA, e, J', sm, kv, rk, dk⟩
    simp only [Nat.zero_add] at dk ⊢
    have hj : j < bs.length := by rw [← hbl]; exact (List.getElem?_eq_some_iff.mp hx).1
    have rx : RelV bs[j].2 x := by
      obtain ⟨u, hu, ru⟩ := rv.get (i := j) (x := bs[j].2) (by rw [List.getElem?_map, List.getElem?_eq_getElem hj]; rfl)
      rw [hx] at hu; cases hu; exact ru
    refine wpAny_bind (wpAny_attempt (wpAny_mono (T _ s' σ H' bs[j] x J' sm (List.getElem_mem _) rx) (fun w s'' he => ?_) fun _ _ z => z.elim))
    obtain ⟨v, H2, J2, sm2, rw2, dv⟩ := he
    have pk := J2.pin (kS, seqObj "list" kA e) (by simp)
    have pa := J2.pin (a, seqObj "list" #[] e1) (by simp)
    have kl : kA.size = j := by
      have h1 := rk.length
      have h2 := dps_len dk
      rw [List.length_take, List.length_map] at h2
      simp only [Array.length_toList] at h1
      omega
    have s1 := Heap.SameBut.update s''.heap kS (Obj.mapSeq (·.push w))
    obtain ⟨c2, hc2⟩ : ∃ c2, (s''.heap.update kS (Obj.mapSeq (·.push w))).get? kS = some (seqObj "list" (kA.push w) c2) := ⟨_, get?_update_seq pk.1 (·.push w)⟩
    refine wpAny_bind (listUpdate_at pk.1 rfl ?_ (by omega) (by rw [Array.size_push]; omega))
    refine wpAny_pure ⟨rfl, H2, kA.push w, c2, ?_, sm.trans sm2, kv ++ [v], ?_, ?_⟩
    · have J3 : Inv X pins σ H2 { s'' with heap := s''.heap.update kS (Obj.mapSeq (·.push w)) } := nk.turn (t' := s''.toks) (unpin1 (unpin1 J2)) pk.2.1 fun b o hb q => (s1.2 b hb).trans q
      exact pin1 (pin1 J3 na.loc na.fs ((s1.2 a hne.symm).trans pa.1) pa.2.1 seq_nocell) nk.loc nk.fs hc2 pk.2.1 seq_nocell
    · rw [Array.toList_push]; exact vals_snoc rw2 rk
    · have e3 : (bs.map (keyOf' kf)).take (j + 1) = (bs.map (keyOf' kf)).take j ++ [keyOf' kf bs[j]] := by
        rw [List.take_add_one, List.getElem?_map, List.getElem?_eq_getElem hj]; rfl
      rw [e3]
      exact DpAll.snoc dv (dps_same sm2 dk)
  case done =>
    rintro s' ⟨H', kA, e, J', sm, kv, rk, dk⟩
    have pk := J'.pin (kS, seqObj "list" kA e) (by simp)
    have pa := J'.pin (a, seqObj "list" #[] e1) (by simp)
    have e3 : (bs.map (keyOf' kf)).take (0 + us.length) = bs.map (keyOf' kf) := List.take_of_length_le (by rw [List.length_map]; omega)
    rw [e3] at dk
    have hsz : kA.size = us.length := by
      have h1 := rk.length
      have h2 := dps_len dk
      rw [List.length_map] at h2
      simp only [Array.length_toList] at h1
      omega
    obtain ⟨as, hr⟩ := Dp.readsAll J' _ _ _ dk rk
    have hk' := PySem.W.readsAll_each (h := s'.heap) (keyOf' kf) hr
    have hk2 : PySem.W.EachIs (fun v k => ∃ as, Reads s'.heap v k as) kA.toList (bs.map (keyOf' kf)) := PySem.W.each_map (R := fun v k => ∃ as, Reads s'.heap v k as) (keyOf' kf) hk'
    obtain ⟨G, g1, g2⟩ := restrict s'.heap fun b => decide (b ≠ kS)
    refine wpAny_bind (listItems_at pk.1 rfl ?_)
    refine PySem.W.keyH_end (κ := PySem.W.dataKind s'.heap (bs.map (keyOf' kf))) (h₁ := G) (vs := us) (fun b o hb q => ?_) (g2 kS (by simp)) pk.1 pa.1 hne (PySem.W.SortsAt.data (s := s') hk2 hal hso hde) hsz hl fun h3 tk3 c k3 n3 => ?_
    · by_cases z : b = kS
      · subst z; rw [g2 b (by simp)] at q; cases q
      · rw [g1 b (by simp [z])] at q; exact q
    · have ko : PySem.W.KeyedOut false (bs.map (keyOf' kf)) us (PySem.W.sortVals (PySem.W.dataKind s'.heap (bs.map (keyOf' kf))) false kA.toList us) := ⟨s'.heap, kA.toList, hal, rfl, hk2⟩
      have eo := vals_each (PySem.W.keyedOut_each (keyOf' kf) ko ev)
      have keep : ∀ b o, b ≠ a → b ≠ kS → s'.heap.get? b = some o → h3.get? b = some o := fun b o h1 h2 q => k3 b o h1 (by rw [g1 b (by simp [h2])]; exact q)
      have ht : ∀ b u, H' b = some u → b ≠ a ∧ b ≠ kS := fun b u q => ⟨fun z => (by rw [z, pa.2.1] at q; cases q), fun z => by rw [z, pk.2.1] at q; cases q⟩
      have J0 := unpin1 (unpin1 J')
      refine hP H' _ (J0.step (g' := s'.gens) (d' := s'.drawn) (ch := [kS, a]) (fun b hb => ?_) (fun b o _ _ hc q _ => keep b o (fun z => hc (by simp [z])) (fun z => hc (by simp [z])) q) (fun b o _ _ hc q _ => ⟨o.slots, keep b o (fun z => hc (by simp [z])) (fun z => hc (by simp [z])) q⟩)
        (fun b o hc q n => by rw [upd_ne (fun z => hc (by simp [z]))]; exact n) (fun b o hc q => ⟨o, keep b o (fun z => hc (by simp [z])) (fun z => hc (by simp [z])) q⟩) (fun b xs q => by rw [upd_ne (ht b _ q).1]; exact q) (fun b o u q => by rw [upd_ne (ht b _ q).1]; exact q)
        (fun b ps q => ⟨#[], by rw [upd_ne (ht b _ q).1, q]; simp⟩) (fun m hm => ?_) (fun b u q => ?_) J0.bare) sm pa.2.1
      · rcases List.mem_cons.mp hb with rfl | hb
        · exact ⟨.inr nk.up, nk.loc, nk.cell, nk.pin⟩
        · rw [List.mem_singleton.mp hb]; exact ⟨.inr na.up, na.loc, na.cell, na.pin⟩
      · obtain ⟨o, es, ep, ho, r⟩ := hm
        exact ⟨o, es, ep, keep _ o (Ne.symm na.loc) (Ne.symm nk.loc) ho, r⟩
      · by_cases z : b = a
        · subst z
          rw [upd_same] at q
          cases q
          refine ⟨?_, _, c, eo, n3⟩
          rw [List.length_map, List.length_mergeSort]; omega
        · rw [upd_ne z] at q
          refine ((J0.hok b u q).stay (H' := upd H' a _) (fun c' v hc q' => keep c' v ?_ ?_ q') (fun _ q' => ?_) fun _ _ q' => ?_)
          · rcases hc with y | y
            · rw [y]; exact z
            · exact (ht c' _ y).1
          · rcases hc with y | y
            · rw [y]; exact (ht b _ q).2
            · exact (ht c' _ y).2
          · first | exact (upd_ne (ht _ _ q').1).trans q' | exact q'
          · first | exact (upd_ne (ht _ _ q').1).trans q' | exact q'
end
end Fz
end
section
/-! Fys: sorted(xs, key=f): the rule. -/
namespace Fz
open PySem PySem.Spec PyProof.Rows L2
section
variable {X : Cx} {pins : List (Addr × Obj)} {s : Shared} {σ : L2.St} {H : Hp} {bs : List PVV}
theorem sortK_run {l f : Addr} {kf : PV → PV} {Q : VK} (hu : Hu X) (T : KeyT X H f kf bs) (I : Inv X pins σ H s) (hq : SqL X.K H l (bs.map Prod.snd)) (hal : PySem.W.AllAlike (bs.map (keyOf' kf))) (hso : PySem.W.Sortable (bs.map (keyOf' kf))) (hde : ∀ b ∈ bs, (keyOf' kf b).depth ≤ 70)
    (q : ∀ p H', Same H H' → H' p = none → Q (.ref p) (upd H' p (.lst ((bs.mergeSort fun x y => pvLe (kf x.1) (kf y.1)).map Prod.snd)))) :
    wpAny (model X.prog X.w) X.A (call (.builtin "sorted") [.ref l] [(Str.ofString "key", .ref f)]) (EP X pins σ Q) X.xe s := by
  obtain ⟨its, rv, p, hz⟩ := I.list hq
  have hl : its.length ≤ sizeLine := by rw [← rv.length]; exact hz
  have ho := PySem.W.copyHeap_at s.heap its
  obtain ⟨e1, ho1⟩ : ∃ e1, ((PySem.W.copyHeap s.heap its).update (s.heap.objs.size + 1) (Obj.mapSeq fun _ => (#[] : Array Value))).get? (s.heap.objs.size + 1) = some (seqObj "list" #[] e1) := ⟨_, get?_update_seq ho fun _ => #[]⟩
  refine PySem.W.sorted_of_sort p.isList hl (PyProof.Rows.ksk_s1 _ _) (fun x => PyProof.Rows.ksk_l1 _ _) fun E' => ?_
  rw [PyProof.Rows.ksk_t1]
  unfold PyProof.Rows.ksk_tree
  refine wpAny_bind (listItems_at ho rfl (wpAny_bind (listUpdate_at ho rfl (wpAny_bind (seqEpoch_at ho1 rfl ?_)) (by simpa using hl) (Nat.zero_le _))))
  refine wpAny_bind (wpAny_newTuple (wpAny_bind (wpAny_newList (wpAny_holding ?_) (Nat.zero_le _))) hl)
  have szc : (PySem.W.copyHeap s.heap its).objs.size = s.heap.objs.size + 2 := by
    unfold PySem.W.copyHeap
    rw [size_push', Heap.size_update, size_push']
  have szk : (((PySem.W.copyHeap s.heap its).update (s.heap.objs.size + 1) (Obj.mapSeq fun _ => (#[] : Array Value))).push (seqObj "tuple" its.toArray 0)).objs.size = s.heap.objs.size + 3 := by rw [size_push', Heap.size_update, szc]
  have J : Inv X pins σ H { s with heap := PySem.W.sortingHeap (PySem.W.copyHeap s.heap its) (s.heap.objs.size + 1) its, toks := s.toks } := I.kept fun b o e => PySem.W.sorting_copy_old e
  have na : Newer X pins (s.heap.objs.size + 1) := newer_of I (Nat.le_succ _)
  have nk : Newer X pins (s.heap.objs.size + 3) := newer_of I (by omega)
  have fa : H (s.heap.objs.size + 1) = none := I.hok.fresh (Nat.le_succ _)
  have fk : H (s.heap.objs.size + 3) = none := I.hok.fresh (by omega)
  have ga : (PySem.W.sortingHeap (PySem.W.copyHeap s.heap its) (s.heap.objs.size + 1) its).get? (s.heap.objs.size + 1) = some (seqObj "list" #[] e1) := Heap.get?_push_of_some _ (Heap.get?_push_of_some _ ho1)
  have gk : (PySem.W.sortingHeap (PySem.W.copyHeap s.heap its) (s.heap.objs.size + 1) its).get? (s.heap.objs.size + 3) = some (seqObj "list" #[] 0) := by
    rw [← szk]; exact Heap.get?_push_size _ rfl
  have J2 := pin1 (pin1 J na.loc na.fs ga fa seq_nocell) nk.loc nk.fs gk fk seq_nocell
  have := rest_ok (P := fun g s' => g = .done (.ret .none) ∧ EP X pins σ Q (.ref (s.heap.objs.size + 1)) s') (E := E') T J2 (fun z => absurd (Nat.add_left_cancel z) (by decide)) nk na rv hl hal hso (fun d hd => by
    obtain ⟨b, hb, rfl⟩ := List.mem_map.mp hd
    have h1 := hde b hb
    have h2 := hu
    unfold Hu at h2
    show X.A.units + 2 + _ < cLine
    omega) fun H' s' K sm hn => ⟨rfl, .ref (s.heap.objs.size + 1), _, K, rfl, q _ _ sm hn⟩
  show wpAny (model X.prog X.w) X.A.in1.in1 _ _ _ _
  rw [show (((PySem.W.copyHeap s.heap its).update (s.heap.objs.size + 1) (Obj.mapSeq fun _ => (#[] : Array Value))).push (seqObj "tuple" its.toArray 0)).objs.size = s.heap.objs.size + 3 from szk]
  exact this
end
/-! ### the keys by a def -/
def keyP (g : Fn) (p : PV) : PV := match g [p] with
  | .ok (.fz k) => k
  | _ => .non
def keyOkP (g : Fn) (p : PV) : Bool := match g [p] with
  | .ok (.fz k) => eqOk k
  | _ => false
theorem keyOkP_spec {g : Fn} {p : PV} (h : keyOkP g p = true) : g [p] = .ok (.fz (keyP g p)) ∧ eqOk (keyP g p) = true := by
  unfold keyOkP at h
  unfold keyP
  cases e : g [p] with
  | ok t =>
    rw [e] at h
    cases t with
    | fz k => exact ⟨rfl, h⟩
    | _ => cases h
  | exc c fs => rw [e] at h; cases h
  | bad => rw [e] at h; cases h
def gSortK (g : Fn) : PV → Option OT
  | .lst ps => if (ps.all (keyOkP g) && sortOk (ps.map (keyP g))) = true then some (.l (ps.mergeSort fun a b => pvLe (keyP g a) (keyP g b))) else none
  | _ => none
theorem gSortK_inv {g : Fn} {p : PV} {t : OT} (h : gSortK g p = some t) : ∃ ps, p = .lst ps ∧ (∀ p ∈ ps, keyOkP g p = true) ∧ sortOk (ps.map (keyP g)) = true ∧ t = .l (ps.mergeSort fun a b => pvLe (keyP g a) (keyP g b)) := by
  match p, h with
  | .lst ps, h =>
    have h : (if (ps.all (keyOkP g) && sortOk (ps.map (keyP g))) = true then some (OT.l (ps.mergeSort fun a b => pvLe (keyP g a) (keyP g b))) else none) = some t := h
    by_cases ho : (ps.all (keyOkP g) && sortOk (ps.map (keyP g))) = true
    · rw [if_pos ho] at h
      rw [Bool.and_eq_true, List.all_eq_true] at ho
      exact ⟨ps, rfl, ho.1, ho.2, (Option.some.inj h).symm⟩
    · rw [if_neg ho] at h; cases h
section
variable {X : Cx} {C : Addr → Prop} {W : WX} {e : Expr} {pos p2 p3 kp : Pos} {f1 : E}
theorem keyT_of {k : Nat} {ps : List Str} {m : Mode} {g : Fn} {f : Addr} {fd : FuncData} (F : FnOk X.prog X.w X.K X.mg X.base (L2.CX X.prog X.w) k f fd ps (spG X.K [m] g)) (hr : Room (k + 2) X.A) (b : Binds X.K fd ps []) {H : Hp} {bs : List PVV} {A : Addr → Prop} (hR : ∀ b ∈ bs, Rep X.K A H b.1 b.2) (hg : ∀ b ∈ bs, keyOkP g b.1 = true) :
    KeyT X H f (keyP g) bs := by
  intro pins s σ H1 c u I sm hc rc
  obtain ⟨e1, e2⟩ := keyOkP_spec (hg c hc)
  have hr1 : Rep X.K A H1 c.1 c.2 := Rep.same sm (hR c hc)
  have hsp : spG X.K [m] g [c.2] H1 (fun v H2 => Same H1 H2 ∧ Dp X.K H2 v (toD (keyP g c.1))) (fun _ _ _ => False) := by
    refine ⟨A, [c.1], ⟨?_, trivial⟩, ?_⟩
    · cases m with
      | B => exact Rep.any hr1
      | E => exact hr1
      | I => exact hr1
    · rw [e1]
      intro v H' Fn s2 n hf r
      obtain ⟨_, rv⟩ := r
      exact ⟨s2, rv.dp (data_of e2)⟩
  have hl : [u].length = ps.length := by rw [← F.len _ _ _ _ hsp]; rfl
  have bb := b s [u] I.kIn (by simpa using hl)
  rw [List.append_nil] at bb
  have rm : Room k X.A.in1.in1 := Room.in1 (Room.in1 hr)
  refine wpAny_call (codeAny_mono (F.run X.A.in1.in1 X.stack s H1 ⟨[u], []⟩ [u] [c.2] _ _ rm (I.env0.in1.in1) bb (.cons rc .nil) hsp) fun r s' hq => ?_)
  cases r with
  | error e =>
    obtain ⟨_, _, _, _, _, _, _, _, _, _, _, _, z⟩ := hq
    exact z.elim
  | ok fl =>
    cases fl with
    | ret w =>
      obtain ⟨v, H2, J, rv, sq, dv⟩ := I.after hq
      exact ⟨v, H2, J, sq, rv, dv⟩
    | next => exact False.elim hq
    | brk => exact False.elim hq
    | cont => exact False.elim hq
def rSortKey (X : Cx) (f : Addr) (kf : PV → PV) : List V → List V → Hp → VK → Prop := fun xs zs H Q => ∃ (l : Addr) (bs : List PVV), xs = [.ref l] ∧ zs = [.ref f] ∧ SqL X.K H l (bs.map Prod.snd) ∧ KeyT X H f kf bs ∧ PySem.W.AllAlike (bs.map (keyOf' kf)) ∧ PySem.W.Sortable (bs.map (keyOf' kf)) ∧
  (∀ b ∈ bs, (keyOf' kf b).depth ≤ 70) ∧ ∀ p H', Same H H' → H' p = none → Q (.ref p) (upd H' p (.lst ((bs.mergeSort fun x y => pvLe (kf x.1) (kf y.1)).map Prod.snd)))
theorem cr_sortKey (hu : Hu X) {f : Addr} {kf : PV → PV} : CallRK X (.builtin "sorted") [Str.ofString "key"] (rSortKey X f kf) := by
  intro pins s σ H xs zs us ws Q I r1 r2 ⟨l, bs, ex, ez, hq, T, hal, hso, hde, q⟩
  subst ex; subst ez
  obtain ⟨u, rfl, ru⟩ := vals1 r1
  obtain ⟨w, rfl, rw⟩ := vals1 r2
  obtain rfl : u = Value.ref l := ru
  obtain rfl : w = Value.ref f := rw
  exact sortK_run hu T I hq hal hso hde q
theorem oj_sortK {k j : Nat} {x : Str} {ps : List Str} {m : Mode} {g : Fn} (D : DefOk X.prog X.w X.K X.mg X.base k x ps [m] g) (hr : Room j X.A) (hk : k + 2 ≤ j) (hgs : Gl X "sorted") (hms : X.mg "sorted" = none) (hg : Gl X x) (h : EJ X C W .I e f1) (hdx : (x == ("__debug__" : Str)) = false := by decide)
    (he : backTo pos (starEach [e] X.env) = (false, eval e X.env) :: backTo pos (starEach [] X.env) := by rfl) (hpl : (backTo pos (starEach [e] X.env)).any (·.1) = false := by rfl)
    (hall : (backToKw pos (keywordEach [⟨some (Str.ofString "key"), .Name x p3, kp⟩] X.env)).all (·.1.isSome) = true := by rfl) (hnone : (backToKw pos (keywordEach [⟨some (Str.ofString "key"), .Name x p3, kp⟩] X.env)).any (·.1.isNone) = false := by rfl)
    (hks : (backToKw pos (keywordEach [⟨some (Str.ofString "key"), .Name x p3, kp⟩] X.env)).filterMap (·.1) = [Str.ofString "key"] := by rfl) (hs : starEach [e] X.env = (false, eval e X.env) :: starEach [] X.env := by rfl) :
    OJ X C W (.Call (.Name "sorted" p2) [e] [⟨some (Str.ofString "key"), .Name x p3, kp⟩] pos) (oUn (gSortK g) f1) := by
  obtain ⟨f, fd, F, hm, kp', b⟩ := D.ex
  refine pe_weak (pe_callBK (cr_sortKey (huR hr) (f := f) (kf := keyP g)) hgs hms (by rfl) (pa_cons h pa_nil hs) (pk_cons (pe_glob (v := .ref f) hg hm rfl hdx) pk_nil) (by decide) (by decide) he hpl hall hnone hks) fun σ H Q ⟨ρ, fp, eo, o⟩ => ?_
  refine ⟨ρ, fp, eo, (Out.bind o).mono (fun p o1 v H1 s1 r1 => ?_) fun _ _ q => q⟩
  obtain ⟨t, ht, hQ⟩ := Out.ofO o1
  obtain ⟨qs, rfl, h1, h2, rfl⟩ := gSortK_inv ht
  obtain ⟨a, xs, rfl, ha, rr⟩ := (show RepI X.K (Am C fp) H1 (.lst qs) v from r1)
  have hl := rr.length
  have kk : KO X.K (Am C fp) H1 (.l (qs.mergeSort fun a b => pvLe (keyP g a) (keyP g b))) Q := KO.later hQ s1
  have hz : ∀ b ∈ qs.zip xs, b.1 ∈ qs := fun b hb => (List.of_mem_zip hb).1
  obtain ⟨g1, g2, g3⟩ := sortOk_spec h2
  refine ⟨a, qs.zip xs, rfl, rfl, by rw [zip_snd hl.symm]; exact SqL.of ha, keyT_of F (hr.mono hk) b (reps_mem rr) (fun c hc => h1 _ (hz c hc)), fun d hd d' hd' => ?_, ?_, fun c hc => ?_, fun p H' sm hn => ?_⟩
  · obtain ⟨c, hc, rfl⟩ := List.mem_map.mp hd
    obtain ⟨c', hc', rfl⟩ := List.mem_map.mp hd'
    exact g2 _ (List.mem_map.mpr ⟨_, hz c hc, rfl⟩) _ (List.mem_map.mpr ⟨_, hz c' hc', rfl⟩)
  · rcases g3 with g3 | g3
    · exact .inl fun d hd => by obtain ⟨c, hc, rfl⟩ := List.mem_map.mp hd; exact toD_tup1 (g3 _ (List.mem_map.mpr ⟨_, hz c hc, rfl⟩))
    · exact .inr fun d hd => by
        obtain ⟨c, hc, rfl⟩ := List.mem_map.mp hd
        have hm : keyP g c.1 ∈ qs.map (keyP g) := List.mem_map.mpr ⟨_, hz c hc, rfl⟩
        exact ⟨toD_nonone (g1 _ hm).2 (g1 _ hm).1, toD_notup (g3 _ hm)⟩
  · have := shaped_of (g1 _ (List.mem_map.mpr ⟨_, hz c hc, rfl⟩)).1
    simp only [SeqAt.shaped, Bool.and_eq_true, decide_eq_true_eq] at this
    unfold keyOf'
    omega
  · have e1 : (qs.mergeSort fun a b => pvLe (keyP g a) (keyP g b)) = ((qs.zip xs).mergeSort fun x y => pvLe (keyP g x.1) (keyP g y.1)).map Prod.fst := by
      rw [PySem.W.sort_maps (s := fun a b => pvLe (keyP g a) (keyP g b)) Prod.fst fun _ _ _ _ => rfl, zip_fst hl.symm]
    rw [e1] at kk
    have k2 := KO.later kk sm
    exact k2.l (reps_bs fun c hc => Rep.same sm (reps_mem rr c (List.mem_mergeSort.mp hc))) p hn
end
@[simp] theorem gSortK_lst (g : Fn) (ps : List PV) : gSortK g (.lst ps) = if (ps.all (keyOkP g) && sortOk (ps.map (keyP g))) = true then some (.l (ps.mergeSort fun a b => pvLe (keyP g a) (keyP g b))) else none := (rfl)
end Fz
end
section
/-! Fyt: a dict display of one pair. -/
namespace Fz
open PySem PySem.Spec PyProof.Rows L2
def oDic1 (fk fv : E) : O := fun ρ => fk ρ >>= fun k => fv ρ >>= fun v => ofO ((keyOf k).map fun k => OT.d [(k, v)])
section
variable {X : Cx} {C : Addr → Prop} {W : WX} {e1 e2 : Expr} {pos : Pos} {m : Mode} {fk fv : E}
theorem pe_ex {α : Type} {e : Expr} {t : α → TE} (h : ∀ a, PE X e (t a)) : PE X e (fun σ H Q => ∃ a, t a σ H Q) := ⟨fun pins s σ H Q I q => by
  obtain ⟨a, q⟩ := q
  exact (h a).run pins s σ H Q I q⟩
theorem oj_dic1 (hk : ∀ C, EJ X C W m e1 fk) (hv : ∀ C, EJ X C W .E e2 fv) : OJ X C W (.Dict [some e1] [e2] pos) (oDic1 fk fv) := by
  refine ⟨fun pins s σ H Q I h => ?_⟩
  obtain ⟨ρ, fp, eo, o⟩ := h
  -- the new dict's address is none of what is evaluated
  refine (pe_disp (trs := [(fun σ H Q => ∃ p, tE X.K (fun a => C a ∧ a ≠ p) W m fk σ H Q, fun σ H Q => ∃ p, tE X.K (fun a => C a ∧ a ≠ p) W .E fv σ H Q)]) (pps_cons (pe_ex fun p => hk fun a => C a ∧ a ≠ p) (pe_ex fun p => hv fun a => C a ∧ a ≠ p) pps_nil) rfl rfl (by simp) (by show 1 ≤ 15; decide)).run pins s σ H Q I fun p hp => ?_
  have s0 : Same H (upd H p (.dK [])) := same_upd hp
  have eo1 : EnvOk X.K (fun a => C a ∧ a ≠ p) ρ σ (upd H p (.dK [])) fp := eo.block (vs := []) rfl hp s0 (by rw [upd_same]; simp)
  refine ⟨p, ρ, fp, eo1, (Out.bind o).mono (fun k o1 x H1 s1 r1 => ?_) fun _ _ q => XQ.later s0 q⟩
  have p1 : H1 p = some (.dK []) := s1 _ _ upd_same
  refine ⟨p, ρ, fp, eo1.same s1, (Out.bind o1).mono (fun v o2 y H2 s2 r2 => ?_) fun _ _ q => XQ.later (s0.trans s1) q⟩
  have p2 : H2 p = some (.dK []) := s2 _ _ p1
  obtain ⟨t, ht, hQ⟩ := Out.ofO o2
  obtain ⟨k', hk', rfl⟩ := Option.map_eq_some_iff.mp ht
  have ex : x = kV (k1 k') := rep_key (RepM.toB r1) hk'
  refine ⟨p2, [(k1 k', y)], by rw [ex]; rfl, by show 1 ≤ 15; decide, ?_⟩
  have em : mergeK [] [(k1 k', y)] = [(k1 k', y)] := rfl
  rw [em]
  have sA : Same H (upd H2 p (.dK [(k1 k', y)])) := fun a o' z => by
    have ne : a ≠ p := fun e => by rw [e, hp] at z; cases z
    rw [upd_ne ne]; exact s2 _ _ (s1 _ _ (s0 _ _ z))
  refine hQ (.ref p) _ [p] sA (by simp) (fun a ha => by rw [List.mem_singleton.mp ha]; exact hp) ⟨p, _, rfl, rfl, upd_same, y, [], rfl, ?_, rfl⟩
  have r2 : Rep X.K (Am (fun a => C a ∧ a ≠ p) fp) H2 v y := r2
  refine Rep.carry (Carry.mk' (fun a o' q z => ⟨⟨q.1.1, q.2⟩, fun m => q.1.2 (List.mem_singleton.mp m)⟩) (fun a o' q z => by rw [upd_ne q.1.2]; exact z) (fun a xs z => by rw [upd_ne (fun e => by rw [e, p2] at z; cases z)]; exact z) fun a o' u z => by rw [upd_ne (fun e => by rw [e, p2] at z; cases z)]; exact z) r2
end
@[simp] theorem m_oDic1 (fk fv : E) (ρ : Env) : oDic1 fk fv ρ = fk ρ >>= fun k => fv ρ >>= fun v => ofO ((keyOf k).map fun k => OT.d [(k, v)]) := (rfl)
@[simp] theorem keyOf_str (x : Tx) : keyOf (.str x) = some (.inr x) := (rfl)
@[simp] theorem keyOf_int (x : Int) : keyOf (.int x) = some (.inl x) := (rfl)
end Fz
end
noncomputable section
namespace Lw
open PySem PySem.Spec PyProof.Rows L2 Fz
def top (i : Nat) : Stmt := PySem.Challenge.pw_formsforall_k39_orders_or_loops.main.body.getD i (.Pass ⟨0, 0, 0, 0⟩)
/-- what the top has -/
structure Txt (K : PySem.W.Frag) (mg : Str → Option Value) : Prop where
  nil : True
  f_all : mg "all" = none
  f_bool : mg "bool" = none
  f_enumerate : mg "enumerate" = none
  f_int : mg "int" = none
  f_isinstance : mg "isinstance" = none
  f_len : mg "len" = none
  f_list : mg "list" = none
  f_min : mg "min" = none
  f_range : mg "range" = none
  f_sorted : mg "sorted" = none
  f_str : mg "str" = none
  f_tuple : mg "tuple" = none
  f_zip : mg "zip" = none
  c_FIGURES : ∃ t, mg "FIGURES" = some (.str (mkS (txt "0123456789")) t)
  c_LETTERS : ∃ t, mg "LETTERS" = some (.str (mkS (txt "abcdefghijklmnopqrstuvwxyz")) t)
  c_LONGEST_NAME : ∃ t, mg "LONGEST_NAME" = some (.int 12 t)
  c_MOST_FIELDS : ∃ t, mg "MOST_FIELDS" = some (.int 40 t)

/-! ### _law_name -/
abbrev st__law_name : Stmt := top 33
def L__law_name_1 : S :=
 (sSeq (sAsg 2 (oOfE (eBin gMod (eOfO (oBin gAdd (eOfO (oBin gAdd (eOfO (oBin gAdd (eOfO (oBin gMul (eVar .I 2) (eC (.int 8191)))) (eVar .I 0))) (eOfO (oBin gMul (eVar .I 6) (eC (.int 77)))))) (eC (.int 5)))) (eC (.int 1000003)))))
 (sAsg 5 (oBin gAdd (eVar .I 5) (eIx (eVar .I 4) (eBin gMod (eVar .B 2) (eC (.int 36)))))))
def R__law_name_2 : S :=
 (sRetV 5)
def b__law_name : S :=
 (sSeq (sAsg 3 (oOfE (eC (.str (txt "abcdefghijklmnopqrstuvwxyz")))))
 (sSeq (sAsg 4 (oBin gAdd (eVar .I 3) (eC (.str (txt "0123456789")))))
 (sSeq (sAsg 5 (oOfE (eIx (eVar .I 3) (eBin gMod (eVar .B 0) (eC (.int 26))))))
 (sSeq (sFor (lRange1 (eBin gMod (eVar .B 1) (eC (.int 12)))) (gNm 6)
 L__law_name_1)
 R__law_name_2))))
def g__law_name : Fn := runFn 7 [.E, .B, .E] b__law_name
theorem sc__law_name : FnScope ["first", "size", "mix", "letters", "signs", "name", "k"] ["first", "size", "mix"] (defScope st__law_name) := ⟨rfl, rfl, rfl, by decide +kernel, rfl, by decide +kernel, by decide +kernel⟩
theorem ok__law_name {P : Program} {w : World} {K : PySem.W.Frag} {mg : Str → Option Value} {base : Heap} {f : Addr} {fd : FuncData} (T : Txt K mg) (F : FunD K "_law_name" "_law_name" (defArgs st__law_name) (defBody st__law_name) (defScope st__law_name) [] [] f fd) (hg : mg "_law_name" = some (.ref f))  :
    DefOk P w K mg base 1 "_law_name" ["first", "size", "mix"] [.E, .B, .E] g__law_name :=
  have Sc := sc__law_name
  def_ok (k := 0) (N := ["first", "size", "mix", "letters", "signs", "name", "k"]) F Sc rfl (by decide) hg (fun _ _ _ _ _ _ us hl => match us, hl with | [_, _, _], _ => rfl) fun cdv A outer sh H E C hr tk po =>
 (bj_cons (sj_asg (i := 3) Sc.nd rfl (.inl rfl) (oj_E (ej_str (m := .E) (mkS_txt _).symm)))
 (bj_cons (sj_asg (i := 4) Sc.nd rfl (.inl rfl) (oj_add (ej_var (m := .I) (i := 3) rfl (.inl rfl)) (ej_str (m := .I) (mkS_txt _).symm)))
 (bj_cons (sj_asg (i := 5) Sc.nd rfl (.inl rfl) (oj_E (ej_ix (huR hr) (ej_var (m := .I) (i := 3) rfl (.inl rfl)) (ej_mod (m := .B) (ej_var (m := .B) (i := 0) rfl (.inl rfl)) (ej_int (m := .B))))))
 (bj_cons (sj_for (vs := [6]) po rfl (ij_range1 rfl T.f_range (ej_mod (m := .B) (ej_var (m := .B) (i := 1) rfl (.inl rfl)) (ej_int (m := .B)))) (gj_name (i := 6) Sc.nd rfl (.inl rfl))
 (bj_cons (sj_asg (i := 2) Sc.nd rfl (.inl rfl) (oj_E (ej_mod (m := .E) (ej_B (ej_O (oj_add (ej_I (ej_O (oj_add (ej_I (ej_O (oj_add (ej_I (ej_O (oj_mul (ej_var (m := .I) (i := 2) rfl (.inl rfl)) (ej_int (m := .I))))) (ej_var (m := .I) (i := 0) rfl (.inl rfl))))) (ej_I (ej_O (oj_mul (ej_var (m := .I) (i := 6) rfl (.inl rfl)) (ej_int (m := .I)))))))) (ej_int (m := .I))))) (ej_int (m := .B)))))
 (bj_one (sj_asg (i := 5) Sc.nd rfl (.inl rfl) (oj_add (ej_var (m := .I) (i := 5) rfl (.inl rfl)) (ej_I (ej_ix (huR hr) (ej_var (m := .I) (i := 4) rfl (.inl rfl)) (ej_mod (m := .B) (ej_var (m := .B) (i := 2) rfl (.inl rfl)) (ej_int (m := .B))))))))))
 (bj_one (sj_retV (i := 5) rfl (.inl rfl)))))))

/-! ### _law_names -/
abbrev st__law_names : Stmt := top 34
def L__law_names_1 : S :=
 (sIf (tCmp gIn (eVar .B 8) (eVar .B 3))
 (sAsg 8 (oBin gAdd (eIx (eVar .I 2) (eBin gMod (eOfO (oBin gAdd (eVar .I 5) (eVar .I 9))) (eC (.int 26)))) (eOfO (oSl (eVar .I 8) (pAt (eC (.int 1))) pNo))))
 sNil)
def R__law_names_2 : S :=
 (sSeq (sFrz 8) (sApp 3 (qE (eVar .E 8))))
def R__law_names_3 : S :=
 (sSeq (sFor (lRange1 (eC (.int 26))) (gNm 9)
 L__law_names_1)
 R__law_names_2)
def L__law_names_4 : S :=
 (sSeq (sPar3 5 6 7 (lCons (eIx (eVar .I 0) (eOfO (oBin gMul (eC (.int 3)) (eVar .I 4)))) (lCons (eIx (eVar .I 0) (eOfO (oBin gAdd (eOfO (oBin gMul (eC (.int 3)) (eVar .I 4))) (eC (.int 1))))) (lCons (eIx (eVar .I 0) (eOfO (oBin gAdd (eOfO (oBin gMul (eC (.int 3)) (eVar .I 4))) (eC (.int 2))))) lNil))))
 (sSeq (sSeq (sFrz 7) (sSeq (sFrz 5) (sAsg 8 (oCall g__law_name (lCons (eVar .E 5) (lCons (eVar .B 6) (lCons (eVar .E 7) lNil)))))))
 (sSeq (sIf (tAndF (tCmp gGt (eVar .B 4) (eC (.int 0))) (tAndF (tCmp gEq (eBin gMod (eVar .B 7) (eC (.int 3))) (eC (.int 0))) (tCmp gLt (eUn gLen (eIx (eVar .B 3) (eUn gNeg (eC (.int 1))))) (eC (.int 12)))))
 (sAsg 8 (oBin gAdd (eIx (eVar .I 3) (eUn gNeg (eC (.int 1)))) (eIx (eVar .I 8) (eUn gNeg (eC (.int 1))))))
 sNil)
 R__law_names_3)))
def R__law_names_5 : S :=
 (sRetV 3)
def b__law_names : S :=
 (sSeq (sAsg 2 (oOfE (eC (.str (txt "abcdefghijklmnopqrstuvwxyz")))))
 (sSeq (sAsg 3 (oLst lNil))
 (sSeq (sFor (lRange1 (eVar .B 1)) (gNm 4)
 L__law_names_4)
 R__law_names_5)))
def g__law_names : Fn := runFn 10 [.E, .B] b__law_names
theorem sc__law_names : FnScope ["numbers", "count", "letters", "found", "k", "one", "size", "mix", "name", "step"] ["numbers", "count"] (defScope st__law_names) := ⟨rfl, rfl, rfl, by decide +kernel, rfl, by decide +kernel, by decide +kernel⟩
theorem ok__law_names {P : Program} {w : World} {K : PySem.W.Frag} {mg : Str → Option Value} {base : Heap} {f : Addr} {fd : FuncData} (T : Txt K mg) (F : FunD K "_law_names" "_law_names" (defArgs st__law_names) (defBody st__law_names) (defScope st__law_names) [] [] f fd) (hg : mg "_law_names" = some (.ref f)) (D__law_name : DefOk P w K mg base 1 "_law_name" ["first", "size", "mix"] [.E, .B, .E] g__law_name) :
    DefOk P w K mg base 2 "_law_names" ["numbers", "count"] [.E, .B] g__law_names :=
  have Sc := sc__law_names
  def_ok (k := 1) (N := ["numbers", "count", "letters", "found", "k", "one", "size", "mix", "name", "step"]) F Sc rfl (by decide) hg (fun _ _ _ _ _ _ us hl => match us, hl with | [_, _], _ => rfl) fun cdv A outer sh H E C hr tk po =>
 (bj_cons (sj_asg (i := 2) Sc.nd rfl (.inl rfl) (oj_E (ej_str (m := .E) (mkS_txt _).symm)))
 (bj_cons (sj_asg (i := 3) Sc.nd rfl (.inl rfl) (oj_lst le_nil))
 (bj_cons (sj_for (vs := [4]) po rfl (ij_range1 rfl T.f_range (ej_var (m := .B) (i := 1) rfl (.inl rfl))) (gj_name (i := 4) Sc.nd rfl (.inl rfl))
 (bj_cons (sj_par3 (i := 5) (j := 6) (l := 7) rfl Sc.nd rfl rfl rfl (by decide) (by decide) (by decide) rfl rfl rfl (le_cons (ej_ix (huR hr) (ej_var (m := .I) (i := 0) rfl (.inl rfl)) (ej_B (ej_O (oj_mul (ej_int (m := .I)) (ej_var (m := .I) (i := 4) rfl (.inl rfl)))))) (le_cons (ej_ix (huR hr) (ej_var (m := .I) (i := 0) rfl (.inl rfl)) (ej_B (ej_O (oj_add (ej_I (ej_O (oj_mul (ej_int (m := .I)) (ej_var (m := .I) (i := 4) rfl (.inl rfl))))) (ej_int (m := .I)))))) (le_cons (ej_ix (huR hr) (ej_var (m := .I) (i := 0) rfl (.inl rfl)) (ej_B (ej_O (oj_add (ej_I (ej_O (oj_mul (ej_int (m := .I)) (ej_var (m := .I) (i := 4) rfl (.inl rfl))))) (ej_int (m := .I)))))) le_nil))) (by rfl))
 (bj_cons (sj_frz 7 (sj_frz 5 (sj_asg (i := 8) Sc.nd rfl (.inl rfl) (oj_call D__law_name hr (by decide) tk rfl (lj_cons (ej_var (m := .E) (i := 5) rfl (.inl rfl)) (lj_cons (ej_var (m := .B) (i := 6) rfl (.inl rfl)) (lj_cons (ej_var (m := .E) (i := 7) rfl (.inl rfl)) lj_nil)))))))
 (bj_cons (sj_if (wj_tj (wj_and (tj_cmp opr_gt cmp_gt (ej_var (m := .B) (i := 4) rfl (.inl rfl)) (ej_int (m := .B)) (nomark _)) (wj_and (tj_cmp (op_eqD (huR hr).u64) cmp_eq (ej_mod (m := .B) (ej_var (m := .B) (i := 7) rfl (.inl rfl)) (ej_int (m := .B))) (ej_int (m := .B)) (nomark _)) (wj_and1 (tj_cmp opr_lt cmp_lt (ej_call1 (m := .B) call_len c_len rfl T.f_len (by decide +kernel) (ej_ixB (huR hr) (ej_var (m := .B) (i := 3) rfl (.inl rfl)) (ej_neg (m := .B) (ej_int (m := .B))))) (ej_int (m := .B)) (nomark _))))))
 (bj_one (sj_asg (i := 8) Sc.nd rfl (.inl rfl) (oj_add (ej_I (ej_ix (huR hr) (ej_var (m := .I) (i := 3) rfl (.inl rfl)) (ej_neg (m := .B) (ej_int (m := .B))))) (ej_I (ej_ix (huR hr) (ej_var (m := .I) (i := 8) rfl (.inl rfl)) (ej_neg (m := .B) (ej_int (m := .B))))))))
 bj_nil)
 (bj_cons (sj_for (vs := [9]) po rfl (ij_range1 rfl T.f_range (ej_int (m := .B))) (gj_name (i := 9) Sc.nd rfl (.inl rfl))
 (bj_one (sj_if (tj_cmp (opr_in (huR hr)) cmp_in (ej_var (m := .B) (i := 8) rfl (.inl rfl)) (ej_var (m := .B) (i := 3) rfl (.inl rfl)) (by rfl))
 (bj_one (sj_asg (i := 8) Sc.nd rfl (.inl rfl) (oj_add (ej_I (ej_ix (huR hr) (ej_var (m := .I) (i := 2) rfl (.inl rfl)) (ej_mod (m := .B) (ej_B (ej_O (oj_add (ej_var (m := .I) (i := 5) rfl (.inl rfl)) (ej_var (m := .I) (i := 9) rfl (.inl rfl))))) (ej_int (m := .B))))) (ej_I (ej_O (oj_sl (ej_var (m := .I) (i := 8) rfl (.inl rfl)) (pj_some (ej_int (m := .B))) pj_none))))))
 bj_nil)))
 (bj_one (sj_frz 8 (sj_app (i := 3) rfl (.inl rfl) (qj_E (ej_var (m := .E) (i := 8) rfl (.inl rfl)))))))))))
 (bj_one (sj_retV (i := 3) rfl (.inl rfl))))))

/-! ### _law_numbers -/
abbrev st__law_numbers : Stmt := top 32
def L__law_numbers_1 : S :=
 (sIf (tCmp gGe (eVar .B 3) (eBin gPow (eC (.int 10)) (eC (.int 18))))
 (sSeq (sApp 4 (qE (eBin gMod (eVar .B 3) (eC (.int 1009)))))
 (sAsg 3 (oOfE (eBin gDiv (eVar .B 3) (eC (.int 1009))))))
 (sSeq (sAsg 6 (oOfE (eBin gMod (eOfO (oBin gAdd (eOfO (oBin gAdd (eOfO (oBin gMul (eVar .I 3) (eC (.int 48271)))) (eOfO (oBin gMul (eOfO (oBin gAdd (eVar .I 5) (eC (.int 1)))) (eC (.int 69621)))))) (eOfO (oBin gMul (eVar .I 1) (eC (.int 4001)))))) (eC (.int 2147483647)))))
 (sSeq (sAsg 6 (oOfE (eBin gMod (eOfO (oBin gAdd (eOfO (oBin gMul (eVar .I 6) (eVar .I 6))) (eOfO (oBin gMul (eC (.int 16807)) (eOfO (oBin gAdd (eVar .I 5) (eC (.int 3)))))))) (eC (.int 2147483629)))))
 (sApp 4 (qE (eBin gMod (eBin gDiv (eVar .B 6) (eC (.int 7))) (eC (.int 1009))))))))
def R__law_numbers_2 : S :=
 (sRetV 4)
def R__law_numbers_3 : S :=
 (sSeq (sAsg 4 (oLst lNil))
 (sSeq (sFor (lRange1 (eVar .B 2)) (gNm 5)
 L__law_numbers_1)
 R__law_numbers_2))
def R__law_numbers_4 : S :=
 (sSeq (sIf (tCmp gLt (eVar .B 3) (eC (.int 0)))
 (sAsg 3 (oOfE (eBin gSub (eC (.int 1)) (eOfO (oBin gMul (eC (.int 2)) (eVar .I 3))))))
 sNil)
 R__law_numbers_3)
def b__law_numbers : S :=
 (sSeq (sAsg 3 (oBin gMul (eC (.int 1000003)) (eOfO (oBin gAdd (eVar .I 1) (eC (.int 1))))))
 (sSeq (sIf (tCmp gLt (eVar .B 1) (eUn gLen (eVar .B 0)))
 (sAsg 3 (oOfE (eUn gInt (eIx (eVar .B 0) (eVar .B 1)))))
 sNil)
 R__law_numbers_4))
def g__law_numbers : Fn := runFn 7 [.B, .E, .B] b__law_numbers
theorem sc__law_numbers : FnScope ["script", "at", "count", "cell", "numbers", "k", "mixed"] ["script", "at", "count"] (defScope st__law_numbers) := ⟨rfl, rfl, rfl, by decide +kernel, rfl, by decide +kernel, by decide +kernel⟩
theorem ok__law_numbers {P : Program} {w : World} {K : PySem.W.Frag} {mg : Str → Option Value} {base : Heap} {f : Addr} {fd : FuncData} (T : Txt K mg) (F : FunD K "_law_numbers" "_law_numbers" (defArgs st__law_numbers) (defBody st__law_numbers) (defScope st__law_numbers) [] [] f fd) (hg : mg "_law_numbers" = some (.ref f))  :
    DefOk P w K mg base 1 "_law_numbers" ["script", "at", "count"] [.B, .E, .B] g__law_numbers :=
  have Sc := sc__law_numbers
  def_ok (k := 0) (N := ["script", "at", "count", "cell", "numbers", "k", "mixed"]) F Sc rfl (by decide) hg (fun _ _ _ _ _ _ us hl => match us, hl with | [_, _, _], _ => rfl) fun cdv A outer sh H E C hr tk po =>
 (bj_cons (sj_asg (i := 3) Sc.nd rfl (.inl rfl) (oj_mul (ej_int (m := .I)) (ej_I (ej_O (oj_add (ej_var (m := .I) (i := 1) rfl (.inl rfl)) (ej_int (m := .I)))))))
 (bj_cons (sj_if (tj_cmp opr_lt cmp_lt (ej_var (m := .B) (i := 1) rfl (.inl rfl)) (ej_call1 (m := .B) call_len c_len rfl T.f_len (by decide +kernel) (ej_var (m := .B) (i := 0) rfl (.inl rfl))) (nomark _))
 (bj_one (sj_asg (i := 3) Sc.nd rfl (.inl rfl) (oj_E (ej_callT1 (m := .E) call_int1 c_int rfl T.f_int (by decide +kernel) (ej_ixB (huR hr) (ej_var (m := .B) (i := 0) rfl (.inl rfl)) (ej_var (m := .B) (i := 1) rfl (.inl rfl)))))))
 bj_nil)
 (bj_cons (sj_if (tj_cmp opr_lt cmp_lt (ej_var (m := .B) (i := 3) rfl (.inl rfl)) (ej_int (m := .B)) (nomark _))
 (bj_one (sj_asg (i := 3) Sc.nd rfl (.inl rfl) (oj_E (ej_sub (m := .E) (ej_int (m := .B)) (ej_B (ej_O (oj_mul (ej_int (m := .I)) (ej_var (m := .I) (i := 3) rfl (.inl rfl)))))))))
 bj_nil)
 (bj_cons (sj_asg (i := 4) Sc.nd rfl (.inl rfl) (oj_lst le_nil))
 (bj_cons (sj_for (vs := [5]) po rfl (ij_range1 rfl T.f_range (ej_var (m := .B) (i := 2) rfl (.inl rfl))) (gj_name (i := 5) Sc.nd rfl (.inl rfl))
 (bj_one (sj_if (tj_cmp opr_ge cmp_ge (ej_var (m := .B) (i := 3) rfl (.inl rfl)) (ej_pow (m := .B) (ej_int (m := .B)) (ej_int (m := .B))) (nomark _))
 (bj_cons (sj_app (i := 4) rfl (.inl rfl) (qj_E (ej_mod (m := .E) (ej_var (m := .B) (i := 3) rfl (.inl rfl)) (ej_int (m := .B)))))
 (bj_one (sj_asg (i := 3) Sc.nd rfl (.inl rfl) (oj_E (ej_fdiv (m := .E) (ej_var (m := .B) (i := 3) rfl (.inl rfl)) (ej_int (m := .B)))))))
 (bj_cons (sj_asg (i := 6) Sc.nd rfl (.inl rfl) (oj_E (ej_mod (m := .E) (ej_B (ej_O (oj_add (ej_I (ej_O (oj_add (ej_I (ej_O (oj_mul (ej_var (m := .I) (i := 3) rfl (.inl rfl)) (ej_int (m := .I))))) (ej_I (ej_O (oj_mul (ej_I (ej_O (oj_add (ej_var (m := .I) (i := 5) rfl (.inl rfl)) (ej_int (m := .I))))) (ej_int (m := .I)))))))) (ej_I (ej_O (oj_mul (ej_var (m := .I) (i := 1) rfl (.inl rfl)) (ej_int (m := .I)))))))) (ej_int (m := .B)))))
 (bj_cons (sj_asg (i := 6) Sc.nd rfl (.inl rfl) (oj_E (ej_mod (m := .E) (ej_B (ej_O (oj_add (ej_I (ej_O (oj_mul (ej_var (m := .I) (i := 6) rfl (.inl rfl)) (ej_var (m := .I) (i := 6) rfl (.inl rfl))))) (ej_I (ej_O (oj_mul (ej_int (m := .I)) (ej_I (ej_O (oj_add (ej_var (m := .I) (i := 5) rfl (.inl rfl)) (ej_int (m := .I))))))))))) (ej_int (m := .B)))))
 (bj_one (sj_app (i := 4) rfl (.inl rfl) (qj_E (ej_mod (m := .E) (ej_fdiv (m := .B) (ej_var (m := .B) (i := 6) rfl (.inl rfl)) (ej_int (m := .B))) (ej_int (m := .B)))))))))))
 (bj_one (sj_retV (i := 4) rfl (.inl rfl))))))))

/-! ### _law_fields -/
abbrev st__law_fields : Stmt := top 35
def L__law_fields_1 : S :=
 (sSeq (sAsg 6 (oCall g__law_name (lCons (eIx (eVar .I 3) (eBin gMod (eVar .B 5) (eC (.int 36)))) (lCons (eIx (eVar .B 3) (eBin gMod (eOfO (oBin gAdd (eVar .I 5) (eC (.int 7)))) (eC (.int 36)))) (lCons (eOfO (oBin gAdd (eIx (eVar .I 3) (eBin gMod (eOfO (oBin gAdd (eOfO (oBin gMul (eC (.int 5)) (eVar .I 5))) (eC (.int 3)))) (eC (.int 36)))) (eVar .I 5))) lNil)))))
 (sApp 4 (qE (eOfO (oBin gAdd (eOfO (oSl (eVar .I 6) pNo (pAt (eC (.int 9))))) (eUn gStrA (eOfO (oBin gAdd (eC (.int 10)) (eVar .I 5)))))))))
def R__law_fields_2 : S :=
 (sRet (oUn gSortA (eVar .I 4)))
def R__law_fields_3 : S :=
 (sSeq (sAsg 4 (oLst lNil))
 (sSeq (sFor (lRange1 (eVar .B 2)) (gNm 5)
 L__law_fields_1)
 R__law_fields_2))
def b__law_fields : S :=
 (sSeq (sSeq (sFrz 1) (sAsg 3 (oCall g__law_numbers (lCons (eVar .B 0) (lCons (eVar .E 1) (lCons (eC (.int 36)) lNil))))))
 (sSeq (sIf (tCmp gLe (eVar .B 2) (eC (.int 12)))
 (sSeq (sFrz 3) (sRet (oUn gSortA (eOfO (oCall g__law_names (lCons (eVar .E 3) (lCons (eVar .B 2) lNil)))))))
 sNil)
 R__law_fields_3))
def g__law_fields : Fn := runFn 7 [.B, .E, .B] b__law_fields
theorem sc__law_fields : FnScope ["script", "at", "count", "numbers", "found", "k", "name"] ["script", "at", "count"] (defScope st__law_fields) := ⟨rfl, rfl, rfl, by decide +kernel, rfl, by decide +kernel, by decide +kernel⟩
theorem ok__law_fields {P : Program} {w : World} {K : PySem.W.Frag} {mg : Str → Option Value} {base : Heap} {f : Addr} {fd : FuncData} (T : Txt K mg) (F : FunD K "_law_fields" "_law_fields" (defArgs st__law_fields) (defBody st__law_fields) (defScope st__law_fields) [] [] f fd) (hg : mg "_law_fields" = some (.ref f)) (D__law_name : DefOk P w K mg base 1 "_law_name" ["first", "size", "mix"] [.E, .B, .E] g__law_name) (D__law_names : DefOk P w K mg base 2 "_law_names" ["numbers", "count"] [.E, .B] g__law_names) (D__law_numbers : DefOk P w K mg base 1 "_law_numbers" ["script", "at", "count"] [.B, .E, .B] g__law_numbers) :
    DefOk P w K mg base 3 "_law_fields" ["script", "at", "count"] [.B, .E, .B] g__law_fields :=
  have Sc := sc__law_fields
  def_ok (k := 2) (N := ["script", "at", "count", "numbers", "found", "k", "name"]) F Sc rfl (by decide) hg (fun _ _ _ _ _ _ us hl => match us, hl with | [_, _, _], _ => rfl) fun cdv A outer sh H E C hr tk po =>
 (bj_cons (sj_frz 1 (sj_asg (i := 3) Sc.nd rfl (.inl rfl) (oj_call D__law_numbers hr (by decide) tk rfl (lj_cons (ej_var (m := .B) (i := 0) rfl (.inl rfl)) (lj_cons (ej_var (m := .E) (i := 1) rfl (.inl rfl)) (lj_cons (ej_int (m := .B)) lj_nil))))))
 (bj_cons (sj_if (tj_cmp opr_le cmp_le (ej_var (m := .B) (i := 2) rfl (.inl rfl)) (ej_int (m := .B)) (nomark _))
 (bj_one (sj_frz 3 (sj_ret (oj_call1 (cr_sortA rfl) c_sortA rfl T.f_sorted (by decide +kernel) (ej_I (ej_O (oj_call D__law_names hr (by decide) tk rfl (lj_cons (ej_var (m := .E) (i := 3) rfl (.inl rfl)) (lj_cons (ej_var (m := .B) (i := 2) rfl (.inl rfl)) lj_nil)))))))))
 bj_nil)
 (bj_cons (sj_asg (i := 4) Sc.nd rfl (.inl rfl) (oj_lst le_nil))
 (bj_cons (sj_for (vs := [5]) po rfl (ij_range1 rfl T.f_range (ej_var (m := .B) (i := 2) rfl (.inl rfl))) (gj_name (i := 5) Sc.nd rfl (.inl rfl))
 (bj_cons (sj_asg (i := 6) Sc.nd rfl (.inl rfl) (oj_call D__law_name hr (by decide) tk rfl (lj_cons (ej_ix (huR hr) (ej_var (m := .I) (i := 3) rfl (.inl rfl)) (ej_mod (m := .B) (ej_var (m := .B) (i := 5) rfl (.inl rfl)) (ej_int (m := .B)))) (lj_cons (ej_ixB (huR hr) (ej_var (m := .B) (i := 3) rfl (.inl rfl)) (ej_mod (m := .B) (ej_B (ej_O (oj_add (ej_var (m := .I) (i := 5) rfl (.inl rfl)) (ej_int (m := .I))))) (ej_int (m := .B)))) (lj_cons (ej_O (oj_add (ej_I (ej_ix (huR hr) (ej_var (m := .I) (i := 3) rfl (.inl rfl)) (ej_mod (m := .B) (ej_B (ej_O (oj_add (ej_I (ej_O (oj_mul (ej_int (m := .I)) (ej_var (m := .I) (i := 5) rfl (.inl rfl))))) (ej_int (m := .I))))) (ej_int (m := .B))))) (ej_var (m := .I) (i := 5) rfl (.inl rfl)))) lj_nil)))))
 (bj_one (sj_app (i := 4) rfl (.inl rfl) (qj_E (ej_O (oj_add (ej_I (ej_O (oj_sl (ej_var (m := .I) (i := 6) rfl (.inl rfl)) pj_none (pj_some (ej_int (m := .B)))))) (ej_callT1 (m := .I) call_strA c_strA rfl T.f_str (by decide +kernel) (ej_B (ej_O (oj_add (ej_int (m := .I)) (ej_var (m := .I) (i := 5) rfl (.inl rfl)))))))))))))
 (bj_one (sj_ret (oj_call1 (cr_sortA rfl) c_sortA rfl T.f_sorted (by decide +kernel) (ej_var (m := .I) (i := 4) rfl (.inl rfl)))))))))

/-! ### _law_first_order -/
abbrev st__law_first_order : Stmt := top 41
def L__law_first_order_1 : S :=
 (sIf (tAndF (tCmp gNotIn (eVar .B 4) (eVar .B 2)) (tCmp gEq (eOfO (oComp (lOfA (eVar .I 1)) [5] (gNm 5) (tAndF (tCmp gEq (eIx (eVar .B 5) (eC (.int 1))) (eVar .B 4)) (tCmp gNotIn (eIx (eVar .B 5) (eC (.int 0))) (eVar .B 2))) (eVar .E 5))) (eOfO (oLst lNil))))
 (sSeq (sSeq (sFrz 4) (sApp 2 (qE (eVar .E 4))))
 sBrk)
 sNil)
def L__law_first_order_2 : S :=
 (sSeq (sFrz 0) (sFor (lOfA (eVar .E 0)) (gNm 4)
 L__law_first_order_1))
def R__law_first_order_3 : S :=
 (sRetV 2)
def b__law_first_order : S :=
 (sSeq (sAsg 2 (oLst lNil))
 (sSeq (sFor (lRange1 (eUn gLen (eVar .B 0))) (gNm 3)
 L__law_first_order_2)
 R__law_first_order_3))
def g__law_first_order : Fn := runFn 6 [.E, .E] b__law_first_order
theorem sc__law_first_order : FnScope ["names", "pairs", "placed", "step", "name", "pair"] ["names", "pairs"] (defScope st__law_first_order) := ⟨rfl, rfl, rfl, by decide +kernel, rfl, by decide +kernel, by decide +kernel⟩
theorem ok__law_first_order {P : Program} {w : World} {K : PySem.W.Frag} {mg : Str → Option Value} {base : Heap} {f : Addr} {fd : FuncData} (T : Txt K mg) (F : FunD K "_law_first_order" "_law_first_order" (defArgs st__law_first_order) (defBody st__law_first_order) (defScope st__law_first_order) [] [] f fd) (hg : mg "_law_first_order" = some (.ref f))  :
    DefOk P w K mg base 1 "_law_first_order" ["names", "pairs"] [.E, .E] g__law_first_order :=
  have Sc := sc__law_first_order
  def_ok (k := 0) (N := ["names", "pairs", "placed", "step", "name", "pair"]) F Sc rfl (by decide) hg (fun _ _ _ _ _ _ us hl => match us, hl with | [_, _], _ => rfl) fun cdv A outer sh H E C hr tk po =>
 (bj_cons (sj_asg (i := 2) Sc.nd rfl (.inr rfl) (oj_lst le_nil))
 (bj_cons (sj_for (vs := [3]) po rfl (ij_range1 rfl T.f_range (ej_call1 (m := .B) call_len c_len rfl T.f_len (by decide +kernel) (ej_var (m := .B) (i := 0) rfl (.inl rfl)))) (gj_name (i := 3) Sc.nd rfl (.inl rfl))
 (bj_one (sj_frz 0 (sj_for (vs := [4]) po rfl (ij_seqA (ej_var (m := .E) (i := 0) rfl (.inl rfl))) (gj_name (i := 4) Sc.nd rfl (.inr rfl))
 (bj_one (sj_if (wj_tj (wj_and (tj_cmp (opr_notIn (huR hr)) cmp_notIn (ej_var (m := .B) (i := 4) rfl (.inr (.inl rfl))) (ej_var (m := .B) (i := 2) rfl (.inr (.inl rfl))) (by rfl)) (wj_and1 (tj_cmp (op_eqD (huR hr).u64) cmp_eq (ej_B (ej_O (oj_comp rfl Sc.nd (own := [("pair", 5)]) (ij_seqSA (ej_var (m := .I) (i := 1) rfl (.inl rfl))) (blkOk_by (N := ["names", "pairs", "placed", "step", "name", "pair"]) (sc := defScope st__law_first_order) (by decide +kernel)) (fun _ _ _ _ _ _ => (gj_name (i := 5) Sc.nd rfl (.inl rfl))) (fun _ _ _ _ _ _ => (tsj_one (wj_tj (wj_and (tj_cmp (op_eqD (huR hr).u64) cmp_eq (ej_ixB (huR hr) (ej_var (m := .B) (i := 5) rfl (.inl rfl)) (ej_int (m := .B))) (ej_var (m := .B) (i := 4) rfl (.inr (.inl rfl))) (nomark _)) (wj_and1 (tj_cmp (opr_notIn (huR hr)) cmp_notIn (ej_ixB (huR hr) (ej_var (m := .B) (i := 5) rfl (.inl rfl)) (ej_int (m := .B))) (ej_var (m := .B) (i := 2) rfl (.inr (.inl rfl))) (by rfl))))))) (fun _ _ _ _ _ _ => (ej_var (m := .E) (i := 5) rfl (.inl rfl)))))) (ej_B (ej_O (oj_lst le_nil))) (nomark _)))))
 (bj_cons (sj_frz 4 (sj_app (i := 2) rfl (.inr (.inl rfl)) (qj_E (ej_var (m := .E) (i := 4) rfl (.inr (.inl rfl))))))
 (bj_one sj_break))
 bj_nil))))))
 (bj_one (sj_retV (i := 2) rfl (.inr (.inl rfl))))))

/-! ### _law_is_loop -/
abbrev st__law_is_loop : Stmt := top 37
def R__law_is_loop_1 : S :=
 (sIf (tCmp gNotIn (eTup (lCons (eCap (eIx (eVar .B 2) (eVar .B 3))) (lCons (eCap (eIx (eVar .B 2) (eBin gMod (eOfO (oBin gAdd (eVar .I 3) (eC (.int 1)))) (eUn gLen (eVar .B 2))))) lNil))) (eVar .B 1))
 (sRet (oOfE (eC (.bl false))))
 sNil)
def L__law_is_loop_2 : S :=
 (sSeq (sIf (tOrF (tNotF (tOfE (eUn (isT .str) (eIx (eVar .B 2) (eVar .B 3))))) (tOrF (tCmp gNotIn (eIx (eVar .B 2) (eVar .B 3)) (eVar .B 0)) (tCmp gNe (eM1 .list gIndex (eVar .B 2) (eIx (eVar .B 2) (eVar .B 3))) (eVar .B 3))))
 (sRet (oOfE (eC (.bl false))))
 sNil)
 R__law_is_loop_1)
def R__law_is_loop_3 : S :=
 (sRet (oOfE (eC (.bl true))))
def R__law_is_loop_4 : S :=
 (sSeq (sFor (lRange1 (eUn gLen (eVar .B 2))) (gNm 3)
 L__law_is_loop_2)
 R__law_is_loop_3)
def b__law_is_loop : S :=
 (sSeq (sIf (tOrF (tNotF (tOfE (eUn (isT .list) (eVar .B 2)))) (tCmp gEq (eVar .B 2) (eOfO (oLst lNil))))
 (sRet (oOfE (eC (.bl false))))
 sNil)
 R__law_is_loop_4)
def g__law_is_loop : Fn := runFn 4 [.B, .B, .B] b__law_is_loop
theorem sc__law_is_loop : FnScope ["names", "pairs", "found", "k"] ["names", "pairs", "found"] (defScope st__law_is_loop) := ⟨rfl, rfl, rfl, by decide +kernel, rfl, by decide +kernel, by decide +kernel⟩
theorem ok__law_is_loop {P : Program} {w : World} {K : PySem.W.Frag} {mg : Str → Option Value} {base : Heap} {f : Addr} {fd : FuncData} (T : Txt K mg) (F : FunD K "_law_is_loop" "_law_is_loop" (defArgs st__law_is_loop) (defBody st__law_is_loop) (defScope st__law_is_loop) [] [] f fd) (hg : mg "_law_is_loop" = some (.ref f))  :
    DefOk P w K mg base 1 "_law_is_loop" ["names", "pairs", "found"] [.B, .B, .B] g__law_is_loop :=
  have Sc := sc__law_is_loop
  def_ok (k := 0) (N := ["names", "pairs", "found", "k"]) F Sc rfl (by decide) hg (fun _ _ _ _ _ _ us hl => match us, hl with | [_, _, _], _ => rfl) fun cdv A outer sh H E C hr tk po =>
 (bj_cons (sj_if (wj_tj (wj_or (tj_not (tj_val (ej_isi (m := .B) .list rfl T.f_isinstance rfl T.f_list (by decide +kernel) (ej_var (m := .B) (i := 2) rfl (.inl rfl))))) (wj_or1 (tj_cmp (op_eqD (huR hr).u64) cmp_eq (ej_var (m := .B) (i := 2) rfl (.inl rfl)) (ej_B (ej_O (oj_lst le_nil))) (nomark _)))))
 (bj_one (sj_ret (oj_E (ej_bl (m := .E)))))
 bj_nil)
 (bj_cons (sj_for (vs := [3]) po rfl (ij_range1 rfl T.f_range (ej_call1 (m := .B) call_len c_len rfl T.f_len (by decide +kernel) (ej_var (m := .B) (i := 2) rfl (.inl rfl)))) (gj_name (i := 3) Sc.nd rfl (.inl rfl))
 (bj_cons (sj_if (wj_tj (wj_or (tj_not (tj_val (ej_isi (m := .B) .str rfl T.f_isinstance rfl T.f_str (by decide +kernel) (ej_ixB (huR hr) (ej_var (m := .B) (i := 2) rfl (.inl rfl)) (ej_var (m := .B) (i := 3) rfl (.inl rfl)))))) (wj_or (tj_cmp (opr_notIn (huR hr)) cmp_notIn (ej_ixB (huR hr) (ej_var (m := .B) (i := 2) rfl (.inl rfl)) (ej_var (m := .B) (i := 3) rfl (.inl rfl))) (ej_var (m := .B) (i := 0) rfl (.inl rfl)) (by rfl)) (wj_or1 (tj_cmp (op_neD (huR hr).u64) cmp_ne (ej_m1 (m := .B) .list PySem.F.plainAttrs_list PySem.F.slot_list_index PySem.F.type_list_index mt_index m_index (ej_var (m := .B) (i := 2) rfl (.inl rfl)) (ej_ixB (huR hr) (ej_var (m := .B) (i := 2) rfl (.inl rfl)) (ej_var (m := .B) (i := 3) rfl (.inl rfl)))) (ej_var (m := .B) (i := 3) rfl (.inl rfl)) (nomark _))))))
 (bj_one (sj_ret (oj_E (ej_bl (m := .E)))))
 bj_nil)
 (bj_one (sj_if (tj_cmp (opr_notIn (huR hr)) cmp_notIn (ej_B (ej_tup (le_cons (ej_cap (m := .B) (ej_ixB (huR hr) (ej_var (m := .B) (i := 2) rfl (.inl rfl)) (ej_var (m := .B) (i := 3) rfl (.inl rfl)))) (le_cons (ej_cap (m := .B) (ej_ixB (huR hr) (ej_var (m := .B) (i := 2) rfl (.inl rfl)) (ej_mod (m := .B) (ej_B (ej_O (oj_add (ej_var (m := .I) (i := 3) rfl (.inl rfl)) (ej_int (m := .I))))) (ej_call1 (m := .B) call_len c_len rfl T.f_len (by decide +kernel) (ej_var (m := .B) (i := 2) rfl (.inl rfl)))))) le_nil)))) (ej_var (m := .B) (i := 1) rfl (.inl rfl)) (by rfl))
 (bj_one (sj_ret (oj_E (ej_bl (m := .E)))))
 bj_nil))))
 (bj_one (sj_ret (oj_E (ej_bl (m := .E)))))))

/-! ### _law_pairs -/
abbrev st__law_pairs : Stmt := top 36
def R__law_pairs_1 : S :=
 (sIf (tAndF (tCmp gEq (eVar .B 4) (eC (.int 2))) (tCmp gEq (eBin gMod (eIx (eVar .B 8) (eOfO (oBin gAdd (eOfO (oBin gMul (eC (.int 3)) (eBin gMod (eVar .B 9) (eC (.int 20))))) (eC (.int 2))))) (eC (.int 9))) (eC (.int 0))))
 (sApp 7 (qE (eTup (lCons (eIx (eVar .I 2) (eVar .B 11)) (lCons (eIx (eVar .I 2) (eVar .B 10)) lNil)))))
 sNil)
def R__law_pairs_2 : S :=
 (sSeq (sIf (tOrF (tCmp gNe (eVar .B 10) (eVar .B 11)) (tCmp gEq (eVar .B 4) (eC (.int 1))))
 (sApp 7 (qE (eTup (lCons (eIx (eVar .I 2) (eVar .B 10)) (lCons (eIx (eVar .I 2) (eVar .B 11)) lNil)))))
 sNil)
 R__law_pairs_1)
def R__law_pairs_3 : S :=
 (sSeq (sAsg 10 (oOfE (eBin gMod (eIx (eVar .B 8) (eOfO (oBin gMul (eC (.int 3)) (eBin gMod (eVar .B 9) (eC (.int 20)))))) (eUn gLen (eVar .B 2)))))
 (sSeq (sAsg 11 (oOfE (eBin gMod (eIx (eVar .B 8) (eOfO (oBin gAdd (eOfO (oBin gMul (eC (.int 3)) (eBin gMod (eVar .B 9) (eC (.int 20))))) (eC (.int 1))))) (eUn gLen (eVar .B 2)))))
 (sSeq (sSeq (sFrz 11) (sSeq (sFrz 10) (sIf (tCmp gGtA (eTup (lCons (eIx (eVar .I 6) (eVar .B 10)) (lCons (eVar .E 10) lNil))) (eTup (lCons (eIx (eVar .I 6) (eVar .B 11)) (lCons (eVar .E 11) lNil))))
 (sSeq (sFrz 11) (sSeq (sFrz 10) (sPar 10 11 (lCons (eVar .E 11) (lCons (eVar .E 10) lNil)))))
 sNil)))
 R__law_pairs_2)))
def L__law_pairs_4 : S :=
 (sSeq (sIf (tCmp gEq (eBin gMod (eVar .B 9) (eC (.int 20))) (eC (.int 0)))
 (sAsg 8 (oCall g__law_numbers (lCons (eVar .B 0) (lCons (eOfO (oBin gAdd (eOfO (oBin gAdd (eVar .I 1) (eC (.int 1)))) (eBin gDiv (eVar .B 9) (eC (.int 20))))) (lCons (eC (.int 60)) lNil)))))
 sNil)
 R__law_pairs_3)
def R__law_pairs_5 : S :=
 (sRetV 7)
def b__law_pairs : S :=
 (sSeq (sSeq (sFrz 1) (sAsg 5 (oCall g__law_numbers (lCons (eVar .B 0) (lCons (eVar .E 1) (lCons (eC (.int 60)) lNil))))))
 (sSeq (sSeq (sFrz 9) (sAsg 6 (oComp (lRange1 (eUn gLen (eVar .B 2))) [9] (gNm 9) tYesF (eBin gMod (eOfO (oBin gAdd (eOfO (oBin gMul (eIx (eVar .I 5) (eVar .B 9)) (eC (.int 7)))) (eVar .I 9))) (eC (.int 1009))))))
 (sSeq (sAsg 7 (oLst lNil))
 (sSeq (sAsg 8 (oLst lNil))
 (sSeq (sFor (lRange1 (eVar .B 3)) (gNm 9)
 L__law_pairs_4)
 R__law_pairs_5)))))
def g__law_pairs : Fn := runFn 12 [.B, .E, .E, .B, .B] b__law_pairs
theorem sc__law_pairs : FnScope ["script", "at", "names", "many", "kind", "n", "ranks", "pairs", "m", "k", "one", "two"] ["script", "at", "names", "many", "kind"] (defScope st__law_pairs) := ⟨rfl, rfl, rfl, by decide +kernel, rfl, by decide +kernel, by decide +kernel⟩
theorem ok__law_pairs {P : Program} {w : World} {K : PySem.W.Frag} {mg : Str → Option Value} {base : Heap} {f : Addr} {fd : FuncData} (T : Txt K mg) (F : FunD K "_law_pairs" "_law_pairs" (defArgs st__law_pairs) (defBody st__law_pairs) (defScope st__law_pairs) [] [] f fd) (hg : mg "_law_pairs" = some (.ref f)) (D__law_numbers : DefOk P w K mg base 1 "_law_numbers" ["script", "at", "count"] [.B, .E, .B] g__law_numbers) :
    DefOk P w K mg base 2 "_law_pairs" ["script", "at", "names", "many", "kind"] [.B, .E, .E, .B, .B] g__law_pairs :=
  have Sc := sc__law_pairs
  def_ok (k := 1) (N := ["script", "at", "names", "many", "kind", "n", "ranks", "pairs", "m", "k", "one", "two"]) F Sc rfl (by decide) hg (fun _ _ _ _ _ _ us hl => match us, hl with | [_, _, _, _, _], _ => rfl) fun cdv A outer sh H E C hr tk po =>
 (bj_cons (sj_frz 1 (sj_asg (i := 5) Sc.nd rfl (.inr rfl) (oj_call D__law_numbers hr (by decide) tk rfl (lj_cons (ej_var (m := .B) (i := 0) rfl (.inl rfl)) (lj_cons (ej_var (m := .E) (i := 1) rfl (.inl rfl)) (lj_cons (ej_int (m := .B)) lj_nil))))))
 (bj_cons (sj_frz 9 (sj_asgLc (i := 6) rfl Sc.nd rfl rfl (sw_true rfl rfl rfl (by decide +kernel)) (own := [("k", 9)]) (ij_range1 rfl T.f_range (ej_call1 (m := .B) call_len c_len rfl T.f_len (by decide +kernel) (ej_var (m := .B) (i := 2) rfl (.inl rfl)))) (blkOk_by (N := ["script", "at", "names", "many", "kind", "n", "ranks", "pairs", "m", "k", "one", "two"]) (sc := defScope st__law_pairs) (by decide +kernel)) (fun _ _ _ _ _ _ => (gj_name (i := 9) Sc.nd rfl (.inl rfl))) (fun _ _ _ _ _ _ => tsj_nil) (fun _ _ _ _ _ _ => (ej_mod (m := .E) (ej_B (ej_O (oj_add (ej_I (ej_O (oj_mul (ej_I (ej_ix (huR hr) (ej_var (m := .I) (i := 5) rfl (.inr (.inl rfl))) (ej_var (m := .B) (i := 9) rfl (.inl rfl)))) (ej_int (m := .I))))) (ej_var (m := .I) (i := 9) rfl (.inl rfl))))) (ej_int (m := .B))))))
 (bj_cons (sj_asg (i := 7) Sc.nd rfl (.inl rfl) (oj_lst le_nil))
 (bj_cons (sj_asg (i := 8) Sc.nd rfl (.inl rfl) (oj_lst le_nil))
 (bj_cons (sj_for (vs := [9]) po rfl (ij_range1 rfl T.f_range (ej_var (m := .B) (i := 3) rfl (.inl rfl))) (gj_name (i := 9) Sc.nd rfl (.inl rfl))
 (bj_cons (sj_if (tj_cmp (op_eqD (huR hr).u64) cmp_eq (ej_mod (m := .B) (ej_var (m := .B) (i := 9) rfl (.inl rfl)) (ej_int (m := .B))) (ej_int (m := .B)) (nomark _))
 (bj_one (sj_asg (i := 8) Sc.nd rfl (.inl rfl) (oj_call D__law_numbers hr (by decide) tk rfl (lj_cons (ej_var (m := .B) (i := 0) rfl (.inl rfl)) (lj_cons (ej_O (oj_add (ej_I (ej_O (oj_add (ej_var (m := .I) (i := 1) rfl (.inl rfl)) (ej_int (m := .I))))) (ej_fdiv (m := .I) (ej_var (m := .B) (i := 9) rfl (.inl rfl)) (ej_int (m := .B))))) (lj_cons (ej_int (m := .B)) lj_nil))))))
 bj_nil)
 (bj_cons (sj_asg (i := 10) Sc.nd rfl (.inl rfl) (oj_E (ej_mod (m := .E) (ej_ixB (huR hr) (ej_var (m := .B) (i := 8) rfl (.inl rfl)) (ej_B (ej_O (oj_mul (ej_int (m := .I)) (ej_mod (m := .I) (ej_var (m := .B) (i := 9) rfl (.inl rfl)) (ej_int (m := .B))))))) (ej_call1 (m := .B) call_len c_len rfl T.f_len (by decide +kernel) (ej_var (m := .B) (i := 2) rfl (.inl rfl))))))
 (bj_cons (sj_asg (i := 11) Sc.nd rfl (.inl rfl) (oj_E (ej_mod (m := .E) (ej_ixB (huR hr) (ej_var (m := .B) (i := 8) rfl (.inl rfl)) (ej_B (ej_O (oj_add (ej_I (ej_O (oj_mul (ej_int (m := .I)) (ej_mod (m := .I) (ej_var (m := .B) (i := 9) rfl (.inl rfl)) (ej_int (m := .B)))))) (ej_int (m := .I)))))) (ej_call1 (m := .B) call_len c_len rfl T.f_len (by decide +kernel) (ej_var (m := .B) (i := 2) rfl (.inl rfl))))))
 (bj_cons (sj_frz 11 (sj_frz 10 (sj_if (tj_cmp (opr_gtA (huR hr)) cmp_gtA (ej_B (ej_tup (le_cons (ej_ix (huR hr) (ej_var (m := .I) (i := 6) rfl (.inl rfl)) (ej_var (m := .B) (i := 10) rfl (.inl rfl))) (le_cons (ej_var (m := .E) (i := 10) rfl (.inl rfl)) le_nil)))) (ej_B (ej_tup (le_cons (ej_ix (huR hr) (ej_var (m := .I) (i := 6) rfl (.inl rfl)) (ej_var (m := .B) (i := 11) rfl (.inl rfl))) (le_cons (ej_var (m := .E) (i := 11) rfl (.inl rfl)) le_nil)))) (nomark _))
 (bj_one (sj_frz 11 (sj_frz 10 (sj_par (i := 10) (j := 11) rfl Sc.nd rfl rfl (by decide) rfl rfl (le_cons (ej_var (m := .E) (i := 11) rfl (.inl rfl)) (le_cons (ej_var (m := .E) (i := 10) rfl (.inl rfl)) le_nil)) (by rfl)))))
 bj_nil)))
 (bj_cons (sj_if (wj_tj (wj_or (tj_cmp (op_neD (huR hr).u64) cmp_ne (ej_var (m := .B) (i := 10) rfl (.inl rfl)) (ej_var (m := .B) (i := 11) rfl (.inl rfl)) (nomark _)) (wj_or1 (tj_cmp (op_eqD (huR hr).u64) cmp_eq (ej_var (m := .B) (i := 4) rfl (.inl rfl)) (ej_int (m := .B)) (nomark _)))))
 (bj_one (sj_app (i := 7) rfl (.inl rfl) (qj_E (ej_tup (le_cons (ej_ix (huR hr) (ej_var (m := .I) (i := 2) rfl (.inl rfl)) (ej_var (m := .B) (i := 10) rfl (.inl rfl))) (le_cons (ej_ix (huR hr) (ej_var (m := .I) (i := 2) rfl (.inl rfl)) (ej_var (m := .B) (i := 11) rfl (.inl rfl))) le_nil))))))
 bj_nil)
 (bj_one (sj_if (wj_tj (wj_and (tj_cmp (op_eqD (huR hr).u64) cmp_eq (ej_var (m := .B) (i := 4) rfl (.inl rfl)) (ej_int (m := .B)) (nomark _)) (wj_and1 (tj_cmp (op_eqD (huR hr).u64) cmp_eq (ej_mod (m := .B) (ej_ixB (huR hr) (ej_var (m := .B) (i := 8) rfl (.inl rfl)) (ej_B (ej_O (oj_add (ej_I (ej_O (oj_mul (ej_int (m := .I)) (ej_mod (m := .I) (ej_var (m := .B) (i := 9) rfl (.inl rfl)) (ej_int (m := .B)))))) (ej_int (m := .I)))))) (ej_int (m := .B))) (ej_int (m := .B)) (nomark _)))))
 (bj_one (sj_app (i := 7) rfl (.inl rfl) (qj_E (ej_tup (le_cons (ej_ix (huR hr) (ej_var (m := .I) (i := 2) rfl (.inl rfl)) (ej_var (m := .B) (i := 11) rfl (.inl rfl))) (le_cons (ej_ix (huR hr) (ej_var (m := .I) (i := 2) rfl (.inl rfl)) (ej_var (m := .B) (i := 10) rfl (.inl rfl))) le_nil))))))
 bj_nil))))))))
 (bj_one (sj_retV (i := 7) rfl (.inl rfl))))))))

/-! ### is_ascending -/
abbrev st_is_ascending : Stmt := top 6
def b_is_ascending : S :=
 (sRet (oOfE (eUn gAll (eOfO (oComp (lZip (eVar .I 0) (eOfO (oSl (eVar .I 0) (pAt (eC (.int 1))) pNo))) [1, 2] (gTp 2 (gsCons (gNm 1) (gsCons (gNm 2) gsNil))) tYesF (eCmp gLt (eVar .B 1) (eVar .B 2)))))))
def g_is_ascending : Fn := runFn 3 [.E] b_is_ascending
theorem sc_is_ascending : FnScope ["values", "before", "after"] ["values"] (defScope st_is_ascending) := ⟨rfl, rfl, rfl, by decide +kernel, rfl, by decide +kernel, by decide +kernel⟩
theorem ok_is_ascending {P : Program} {w : World} {K : PySem.W.Frag} {mg : Str → Option Value} {base : Heap} {f : Addr} {fd : FuncData} (T : Txt K mg) (F : FunD K "is_ascending" "is_ascending" (defArgs st_is_ascending) (defBody st_is_ascending) (defScope st_is_ascending) [] [] f fd) (hg : mg "is_ascending" = some (.ref f))  :
    DefOk P w K mg base 1 "is_ascending" ["values"] [.E] g_is_ascending :=
  have Sc := sc_is_ascending
  def_ok (k := 0) (N := ["values", "before", "after"]) F Sc rfl (by decide) hg (fun _ _ _ _ _ _ us hl => match us, hl with | [_], _ => rfl) fun cdv A outer sh H E C hr tk po =>
 (bj_one (sj_ret (oj_E (ej_call1 (m := .E) (cr_all rfl) c_all rfl T.f_all (by decide +kernel) (ej_B (ej_O (oj_comp rfl Sc.nd (own := [("before", 1), ("after", 2)]) (ij_zipS rfl T.f_zip (ej_var (m := .I) (i := 0) rfl (.inl rfl)) (ej_I (ej_O (oj_sl (ej_var (m := .I) (i := 0) rfl (.inl rfl)) (pj_some (ej_int (m := .B))) pj_none)))) (blkOk_by (N := ["values", "before", "after"]) (sc := defScope st_is_ascending) (by decide +kernel)) (fun _ _ _ _ _ _ => (gj_tup rfl (gjs_cons (gj_name (i := 1) Sc.nd rfl (.inl rfl)) (gjs_cons (gj_name (i := 2) Sc.nd rfl (.inl rfl)) gjs_nil)))) (fun _ _ _ _ _ _ => tsj_nil) (fun _ _ _ _ _ _ => (ej_cmp (m := .E) opr_lt cmp_lt (ej_var (m := .B) (i := 1) rfl (.inl rfl)) (ej_var (m := .B) (i := 2) rfl (.inl rfl)) (nomark _))))))))))

/-! ### has_name_signs -/
abbrev st_has_name_signs : Stmt := top 4
def R_has_name_signs_1 : S :=
 (sRet (oOfE (eUn gAll (eOfO (oComp (lOfA (eVar .I 0)) [1] (gNm 1) tYesF (eOr (eCmp gIn (eVar .B 1) (eC (.str (txt "abcdefghijklmnopqrstuvwxyz")))) (eCmp gIn (eVar .B 1) (eC (.str (txt "0123456789"))))))))))
def b_has_name_signs : S :=
 (sSeq (sIf (tCmp gNotIn (eIx (eVar .B 0) (eC (.int 0))) (eC (.str (txt "abcdefghijklmnopqrstuvwxyz"))))
 (sRet (oOfE (eC (.bl false))))
 sNil)
 R_has_name_signs_1)
def g_has_name_signs : Fn := runFn 2 [.E] b_has_name_signs
theorem sc_has_name_signs : FnScope ["text", "sign"] ["text"] (defScope st_has_name_signs) := ⟨rfl, rfl, rfl, by decide +kernel, rfl, by decide +kernel, by decide +kernel⟩
theorem ok_has_name_signs {P : Program} {w : World} {K : PySem.W.Frag} {mg : Str → Option Value} {base : Heap} {f : Addr} {fd : FuncData} (T : Txt K mg) (F : FunD K "has_name_signs" "has_name_signs" (defArgs st_has_name_signs) (defBody st_has_name_signs) (defScope st_has_name_signs) [] [] f fd) (hg : mg "has_name_signs" = some (.ref f))  :
    DefOk P w K mg base 1 "has_name_signs" ["text"] [.E] g_has_name_signs :=
  have Sc := sc_has_name_signs
  def_ok (k := 0) (N := ["text", "sign"]) F Sc rfl (by decide) hg (fun _ _ _ _ _ _ us hl => match us, hl with | [_], _ => rfl) fun cdv A outer sh H E C hr tk po =>
 (bj_cons (sj_if (tj_cmp (opr_notIn (huR hr)) cmp_notIn (ej_ixB (huR hr) (ej_var (m := .B) (i := 0) rfl (.inl rfl)) (ej_int (m := .B))) (ej_gstr (m := .B) rfl T.c_LETTERS) (by rfl))
 (bj_one (sj_ret (oj_E (ej_bl (m := .E)))))
 bj_nil)
 (bj_one (sj_ret (oj_E (ej_call1 (m := .E) (cr_all rfl) c_all rfl T.f_all (by decide +kernel) (ej_B (ej_O (oj_comp rfl Sc.nd (own := [("sign", 1)]) (ij_seqSA (ej_var (m := .I) (i := 0) rfl (.inl rfl))) (blkOk_by (N := ["text", "sign"]) (sc := defScope st_has_name_signs) (by decide +kernel)) (fun _ _ _ _ _ _ => (gj_name (i := 1) Sc.nd rfl (.inl rfl))) (fun _ _ _ _ _ _ => tsj_nil) (fun _ _ _ _ _ _ => (ej_or (ej_cmp (m := .B) (opr_in (huR hr)) cmp_in (ej_var (m := .B) (i := 1) rfl (.inl rfl)) (ej_gstr (m := .B) rfl T.c_LETTERS) (by rfl)) (ej_one (ej_cmp (m := .E) (opr_in (huR hr)) cmp_in (ej_var (m := .B) (i := 1) rfl (.inl rfl)) (ej_gstr (m := .B) rfl T.c_FIGURES) (by rfl)))))))))))))

/-! ### is_name -/
abbrev st_is_name : Stmt := top 5
def R_is_name_1 : S :=
 (sSeq (sFrz 0) (sRet (oCall g_has_name_signs (lCons (eVar .E 0) lNil))))
def R_is_name_2 : S :=
 (sSeq (sIf (tNotF (tChn gLe gLe (eC (.int 1)) (eUn gLen (eVar .B 0)) (eC (.int 12))))
 (sRet (oOfE (eC (.bl false))))
 sNil)
 R_is_name_1)
def b_is_name : S :=
 (sSeq (sIf (tNotF (tOfE (eUn (isT .str) (eVar .B 0))))
 (sRet (oOfE (eC (.bl false))))
 sNil)
 R_is_name_2)
def g_is_name : Fn := runFn 1 [.E] b_is_name
theorem sc_is_name : FnScope ["value"] ["value"] (defScope st_is_name) := ⟨rfl, rfl, rfl, by decide +kernel, rfl, by decide +kernel, by decide +kernel⟩
theorem ok_is_name {P : Program} {w : World} {K : PySem.W.Frag} {mg : Str → Option Value} {base : Heap} {f : Addr} {fd : FuncData} (T : Txt K mg) (F : FunD K "is_name" "is_name" (defArgs st_is_name) (defBody st_is_name) (defScope st_is_name) [] [] f fd) (hg : mg "is_name" = some (.ref f)) (D_has_name_signs : DefOk P w K mg base 1 "has_name_signs" ["text"] [.E] g_has_name_signs) :
    DefOk P w K mg base 2 "is_name" ["value"] [.E] g_is_name :=
  have Sc := sc_is_name
  def_ok (k := 1) (N := ["value"]) F Sc rfl (by decide) hg (fun _ _ _ _ _ _ us hl => match us, hl with | [_], _ => rfl) fun cdv A outer sh H E C hr tk po =>
 (bj_cons (sj_if (tj_not (tj_val (ej_isi (m := .B) .str rfl T.f_isinstance rfl T.f_str (by decide +kernel) (ej_var (m := .B) (i := 0) rfl (.inl rfl)))))
 (bj_one (sj_ret (oj_E (ej_bl (m := .E)))))
 bj_nil)
 (bj_cons (sj_if (tj_not (tj_chain opr_le cmp_le opr_le cmp_le (ej_int (m := .B)) (ej_call1 (m := .B) call_len c_len rfl T.f_len (by decide +kernel) (ej_var (m := .B) (i := 0) rfl (.inl rfl))) (ej_gint (m := .B) rfl T.c_LONGEST_NAME)))
 (bj_one (sj_ret (oj_E (ej_bl (m := .E)))))
 bj_nil)
 (bj_one (sj_frz 0 (sj_ret (oj_call D_has_name_signs hr (by decide) tk rfl (lj_cons (ej_var (m := .E) (i := 0) rfl (.inl rfl)) lj_nil)))))))

/-! ### are_fields -/
abbrev st_are_fields : Stmt := top 12
def R_are_fields_1 : S :=
 (sSeq (sFrz 0) (sRet (oCall g_is_ascending (lCons (eVar .E 0) lNil))))
def R_are_fields_2 : S :=
 (sSeq (sIf (tNotF (tOfE (eUn gAll (eOfO (oComp (lOfA (eVar .I 0)) [1] (gNm 1) tYesF (eOfO (oCall g_is_name (lCons (eVar .E 1) lNil))))))))
 (sRet (oOfE (eC (.bl false))))
 sNil)
 R_are_fields_1)
def b_are_fields : S :=
 (sSeq (sIf (tOrF (tNotF (tOfE (eUn (isT .list) (eVar .B 0)))) (tNotF (tChn gLe gLe (eC (.int 1)) (eUn gLen (eVar .B 0)) (eC (.int 40)))))
 (sRet (oOfE (eC (.bl false))))
 sNil)
 R_are_fields_2)
def g_are_fields : Fn := runFn 2 [.E] b_are_fields
theorem sc_are_fields : FnScope ["value", "field"] ["value"] (defScope st_are_fields) := ⟨rfl, rfl, rfl, by decide +kernel, rfl, by decide +kernel, by decide +kernel⟩
theorem ok_are_fields {P : Program} {w : World} {K : PySem.W.Frag} {mg : Str → Option Value} {base : Heap} {f : Addr} {fd : FuncData} (T : Txt K mg) (F : FunD K "are_fields" "are_fields" (defArgs st_are_fields) (defBody st_are_fields) (defScope st_are_fields) [] [] f fd) (hg : mg "are_fields" = some (.ref f)) (D_is_ascending : DefOk P w K mg base 1 "is_ascending" ["values"] [.E] g_is_ascending) (D_is_name : DefOk P w K mg base 2 "is_name" ["value"] [.E] g_is_name) :
    DefOk P w K mg base 3 "are_fields" ["value"] [.E] g_are_fields :=
  have Sc := sc_are_fields
  def_ok (k := 2) (N := ["value", "field"]) F Sc rfl (by decide) hg (fun _ _ _ _ _ _ us hl => match us, hl with | [_], _ => rfl) fun cdv A outer sh H E C hr tk po =>
 (bj_cons (sj_if (wj_tj (wj_or (tj_not (tj_val (ej_isi (m := .B) .list rfl T.f_isinstance rfl T.f_list (by decide +kernel) (ej_var (m := .B) (i := 0) rfl (.inl rfl))))) (wj_or1 (tj_not (tj_chain opr_le cmp_le opr_le cmp_le (ej_int (m := .B)) (ej_call1 (m := .B) call_len c_len rfl T.f_len (by decide +kernel) (ej_var (m := .B) (i := 0) rfl (.inl rfl))) (ej_gint (m := .B) rfl T.c_MOST_FIELDS))))))
 (bj_one (sj_ret (oj_E (ej_bl (m := .E)))))
 bj_nil)
 (bj_cons (sj_if (tj_not (tj_val (ej_call1 (m := .B) (cr_all rfl) c_all rfl T.f_all (by decide +kernel) (ej_B (ej_O (oj_comp rfl Sc.nd (own := [("field", 1)]) (ij_seqSA (ej_var (m := .I) (i := 0) rfl (.inl rfl))) (blkOk_by (N := ["value", "field"]) (sc := defScope st_are_fields) (by decide +kernel)) (fun _ _ _ _ _ _ => (gj_name (i := 1) Sc.nd rfl (.inl rfl))) (fun _ _ _ _ _ _ => tsj_nil) (fun _ _ _ _ _ _ => (ej_O (oj_call D_is_name hr (by decide) takes0 rfl (lj_cons (ej_var (m := .E) (i := 1) rfl (.inl rfl)) lj_nil))))))))))
 (bj_one (sj_ret (oj_E (ej_bl (m := .E)))))
 bj_nil)
 (bj_one (sj_frz 0 (sj_ret (oj_call D_is_ascending hr (by decide) tk rfl (lj_cons (ej_var (m := .E) (i := 0) rfl (.inl rfl)) lj_nil)))))))

/-! ### is_pair -/
abbrev st_is_pair : Stmt := top 15
def R_is_pair_1 : S :=
 (sRet (oOfE (eAnd (eCmp gIn (eIx (eVar .B 1) (eC (.int 0))) (eVar .B 0)) (eCmp gIn (eIx (eVar .B 1) (eC (.int 1))) (eVar .B 0)))))
def b_is_pair : S :=
 (sSeq (sIf (tOrF (tNotF (tOfE (eUn (isT .tuple) (eVar .B 1)))) (tCmp gNe (eUn gLen (eVar .B 1)) (eC (.int 2))))
 (sRet (oOfE (eC (.bl false))))
 sNil)
 R_is_pair_1)
def g_is_pair : Fn := runFn 2 [.B, .B] b_is_pair
theorem sc_is_pair : FnScope ["names", "value"] ["names", "value"] (defScope st_is_pair) := ⟨rfl, rfl, rfl, by decide +kernel, rfl, by decide +kernel, by decide +kernel⟩
theorem ok_is_pair {P : Program} {w : World} {K : PySem.W.Frag} {mg : Str → Option Value} {base : Heap} {f : Addr} {fd : FuncData} (T : Txt K mg) (F : FunD K "is_pair" "is_pair" (defArgs st_is_pair) (defBody st_is_pair) (defScope st_is_pair) [] [] f fd) (hg : mg "is_pair" = some (.ref f))  :
    DefOk P w K mg base 1 "is_pair" ["names", "value"] [.B, .B] g_is_pair :=
  have Sc := sc_is_pair
  def_ok (k := 0) (N := ["names", "value"]) F Sc rfl (by decide) hg (fun _ _ _ _ _ _ us hl => match us, hl with | [_, _], _ => rfl) fun cdv A outer sh H E C hr tk po =>
 (bj_cons (sj_if (wj_tj (wj_or (tj_not (tj_val (ej_isi (m := .B) .tuple rfl T.f_isinstance rfl T.f_tuple (by decide +kernel) (ej_var (m := .B) (i := 1) rfl (.inl rfl))))) (wj_or1 (tj_cmp (op_neD (huR hr).u64) cmp_ne (ej_call1 (m := .B) call_len c_len rfl T.f_len (by decide +kernel) (ej_var (m := .B) (i := 1) rfl (.inl rfl))) (ej_int (m := .B)) (nomark _)))))
 (bj_one (sj_ret (oj_E (ej_bl (m := .E)))))
 bj_nil)
 (bj_one (sj_ret (oj_E (ej_and (ej_cmp (m := .B) (opr_in (huR hr)) cmp_in (ej_ixB (huR hr) (ej_var (m := .B) (i := 1) rfl (.inl rfl)) (ej_int (m := .B))) (ej_var (m := .B) (i := 0) rfl (.inl rfl)) (by rfl)) (ej_one (ej_cmp (m := .E) (opr_in (huR hr)) cmp_in (ej_ixB (huR hr) (ej_var (m := .B) (i := 1) rfl (.inl rfl)) (ej_int (m := .B))) (ej_var (m := .B) (i := 0) rfl (.inl rfl)) (by rfl))))))))

/-! ### first_wrong_pair -/
abbrev st_first_wrong_pair : Stmt := top 16
def L_first_wrong_pair_1 : S :=
 (sIf (tNotF (tOfE (eOfO (oCall g_is_pair (lCons (eVar .B 0) (lCons (eVar .B 3) lNil))))))
 (sRetV 2)
 sNil)
def R_first_wrong_pair_2 : S :=
 (sRet (oOfE (eC .non)))
def b_first_wrong_pair : S :=
 (sSeq (sSeq (sFrz 1) (sFor (lEnum (eVar .E 1)) (gTp 2 (gsCons (gNm 2) (gsCons (gNm 3) gsNil)))
 L_first_wrong_pair_1))
 R_first_wrong_pair_2)
def g_first_wrong_pair : Fn := runFn 4 [.B, .E] b_first_wrong_pair
theorem sc_first_wrong_pair : FnScope ["names", "pairs", "index", "value"] ["names", "pairs"] (defScope st_first_wrong_pair) := ⟨rfl, rfl, rfl, by decide +kernel, rfl, by decide +kernel, by decide +kernel⟩
theorem ok_first_wrong_pair {P : Program} {w : World} {K : PySem.W.Frag} {mg : Str → Option Value} {base : Heap} {f : Addr} {fd : FuncData} (T : Txt K mg) (F : FunD K "first_wrong_pair" "first_wrong_pair" (defArgs st_first_wrong_pair) (defBody st_first_wrong_pair) (defScope st_first_wrong_pair) [] [] f fd) (hg : mg "first_wrong_pair" = some (.ref f)) (D_is_pair : DefOk P w K mg base 1 "is_pair" ["names", "value"] [.B, .B] g_is_pair) :
    DefOk P w K mg base 2 "first_wrong_pair" ["names", "pairs"] [.B, .E] g_first_wrong_pair :=
  have Sc := sc_first_wrong_pair
  def_ok (k := 1) (N := ["names", "pairs", "index", "value"]) F Sc rfl (by decide) hg (fun _ _ _ _ _ _ us hl => match us, hl with | [_, _], _ => rfl) fun cdv A outer sh H E C hr tk po =>
 (bj_cons (sj_frz 1 (sj_for (vs := [2, 3]) po rfl (ij_enum rfl T.f_enumerate (ej_var (m := .E) (i := 1) rfl (.inl rfl))) (gj_tup rfl (gjs_cons (gj_name (i := 2) Sc.nd rfl (.inl rfl)) (gjs_cons (gj_name (i := 3) Sc.nd rfl (.inl rfl)) gjs_nil)))
 (bj_one (sj_if (tj_not (tj_val (ej_B (ej_O (oj_call D_is_pair hr (by decide) tk rfl (lj_cons (ej_var (m := .B) (i := 0) rfl (.inl rfl)) (lj_cons (ej_var (m := .B) (i := 3) rfl (.inl rfl)) lj_nil)))))))
 (bj_one (sj_retV (i := 2) rfl (.inl rfl)))
 bj_nil))))
 (bj_one (sj_ret (oj_E (ej_non (m := .E))))))

/-! ### check_pairs -/
abbrev st_check_pairs : Stmt := top 17
def R_check_pairs_1 : S :=
 (sSeq (sSeq (sFrz 1) (sAsg 2 (oCall g_first_wrong_pair (lCons (eVar .B 0) (lCons (eVar .E 1) lNil)))))
 (sIf (tCmp gNotN (eVar .B 2) (eC .non))
 sBad
 sNil))
def b_check_pairs : S :=
 (sSeq (sSeq (sFrz 0) (sIf (tNotF (tOfE (eOfO (oCall g_are_fields (lCons (eVar .E 0) lNil)))))
 sBad
 sNil))
 R_check_pairs_1)
def g_check_pairs : Fn := runFn 3 [.E, .E] b_check_pairs
theorem sc_check_pairs : FnScope ["names", "pairs", "index"] ["names", "pairs"] (defScope st_check_pairs) := ⟨rfl, rfl, rfl, by decide +kernel, rfl, by decide +kernel, by decide +kernel⟩
theorem ok_check_pairs {P : Program} {w : World} {K : PySem.W.Frag} {mg : Str → Option Value} {base : Heap} {f : Addr} {fd : FuncData} (T : Txt K mg) (F : FunD K "check_pairs" "check_pairs" (defArgs st_check_pairs) (defBody st_check_pairs) (defScope st_check_pairs) [] [] f fd) (hg : mg "check_pairs" = some (.ref f)) (D_are_fields : DefOk P w K mg base 3 "are_fields" ["value"] [.E] g_are_fields) (D_first_wrong_pair : DefOk P w K mg base 2 "first_wrong_pair" ["names", "pairs"] [.B, .E] g_first_wrong_pair) :
    DefOk P w K mg base 4 "check_pairs" ["names", "pairs"] [.E, .E] g_check_pairs :=
  have Sc := sc_check_pairs
  def_ok (k := 3) (N := ["names", "pairs", "index"]) F Sc rfl (by decide) hg (fun _ _ _ _ _ _ us hl => match us, hl with | [_, _], _ => rfl) fun cdv A outer sh H E C hr tk po =>
 (bj_cons (sj_frz 0 (sj_if (tj_not (tj_val (ej_B (ej_O (oj_call D_are_fields hr (by decide) tk rfl (lj_cons (ej_var (m := .E) (i := 0) rfl (.inl rfl)) lj_nil))))))
 (bj_one sj_never)
 bj_nil))
 (bj_cons (sj_frz 1 (sj_asg (i := 2) Sc.nd rfl (.inl rfl) (oj_call D_first_wrong_pair hr (by decide) tk rfl (lj_cons (ej_var (m := .B) (i := 0) rfl (.inl rfl)) (lj_cons (ej_var (m := .E) (i := 1) rfl (.inl rfl)) lj_nil)))))
 (bj_one (sj_if (tj_cmp op_notN cmp_notN (ej_var (m := .B) (i := 2) rfl (.inl rfl)) (ej_non (m := .B)) (nomark _))
 (bj_one sj_never)
 bj_nil))))

/-! ### put_in -/
abbrev st_put_in : Stmt := top 18
def b_put_in : S :=
 (sIf (tCmp gNotIn (eVar .B 2) (eIx (eVar .B 0) (eVar .B 1)))
 (sSeq (sFrz 2) (sAppP 0 (pxIx 0 (pxName 0) (eVar .B 1)) (eVar .E 2)))
 sNil)
def g_put_in : FnM := runFnM 3 [true, false, false] b_put_in
theorem sc_put_in : FnScope ["found", "name", "other"] ["found", "name", "other"] (defScope st_put_in) := ⟨rfl, rfl, rfl, by decide +kernel, rfl, by decide +kernel, by decide +kernel⟩
theorem ok_put_in {P : Program} {w : World} {K : PySem.W.Frag} {mg : Str → Option Value} {base : Heap} {f : Addr} {fd : FuncData} (T : Txt K mg) (F : FunD K "put_in" "put_in" (defArgs st_put_in) (defBody st_put_in) (defScope st_put_in) [] [] f fd) (hg : mg "put_in" = some (.ref f))  :
    DefM P w K mg base 1 "put_in" ["found", "name", "other"] [true, false, false] g_put_in :=
  have Sc := sc_put_in
  defM_ok (k := 0) (N := ["found", "name", "other"]) F Sc rfl (by decide) hg (fun _ _ _ _ _ _ us hl => match us, hl with | [_, _, _], _ => rfl) fun cdv A outer sh H E C hr tk po =>
 (bj_one (sj_if (tj_cmp (opr_notIn (huR hr)) cmp_notIn (ej_var (m := .B) (i := 2) rfl (.inl rfl)) (ej_ixB (huR hr) (ej_var (m := .B) (i := 0) rfl (.inl rfl)) (ej_var (m := .B) (i := 1) rfl (.inl rfl))) (by rfl))
 (bj_one (sj_frz 2 (sj_appP (pxj_ix (huR hr) (pxj_name (i := 0) rfl (.inl rfl)) (ej_var (m := .B) (i := 1) rfl (.inl rfl))) (ej_var (m := .E) (i := 2) rfl (.inl rfl)))))
 bj_nil))

/-! ### direct_befores -/
abbrev st_direct_befores : Stmt := top 19
def L_direct_befores_1 : S :=
 (sSeq (sFrz 4) (sSeq (sFrz 3) (sDropM (mCall [true, false, false] g_put_in (aM 2 (pxName 2) (aE (eVar .E 4) (aE (eVar .E 3) aNil)))))))
def R_direct_befores_2 : S :=
 (sRetV 2)
def b_direct_befores : S :=
 (sSeq (sAsg 2 (oDCompO (lOfA (eVar .I 0)) [5] (gNm 5) tYesF (eVar .B 5) (oLst lNil)))
 (sSeq (sSeq (sFrz 1) (sFor (lOfA (eVar .E 1)) (gTp 2 (gsCons (gNm 3) (gsCons (gNm 4) gsNil)))
 L_direct_befores_1))
 R_direct_befores_2))
def g_direct_befores : Fn := runFn 6 [.E, .E] b_direct_befores
theorem sc_direct_befores : FnScope ["names", "pairs", "found", "before", "after", "name"] ["names", "pairs"] (defScope st_direct_befores) := ⟨rfl, rfl, rfl, by decide +kernel, rfl, by decide +kernel, by decide +kernel⟩
theorem ok_direct_befores {P : Program} {w : World} {K : PySem.W.Frag} {mg : Str → Option Value} {base : Heap} {f : Addr} {fd : FuncData} (T : Txt K mg) (F : FunD K "direct_befores" "direct_befores" (defArgs st_direct_befores) (defBody st_direct_befores) (defScope st_direct_befores) [] [] f fd) (hg : mg "direct_befores" = some (.ref f)) (D_put_in : DefM P w K mg base 1 "put_in" ["found", "name", "other"] [true, false, false] g_put_in) :
    DefOk P w K mg base 2 "direct_befores" ["names", "pairs"] [.E, .E] g_direct_befores :=
  have Sc := sc_direct_befores
  def_ok (k := 1) (N := ["names", "pairs", "found", "before", "after", "name"]) F Sc rfl (by decide) hg (fun _ _ _ _ _ _ us hl => match us, hl with | [_, _], _ => rfl) fun cdv A outer sh H E C hr tk po =>
 (bj_cons (sj_asgDcO (i := 2) rfl Sc.nd rfl rfl (sw_trueD rfl rfl rfl (by decide +kernel)) (own := [("name", 5)]) (ij_seqSA (ej_var (m := .I) (i := 0) rfl (.inl rfl))) (blkOk_by (N := ["names", "pairs", "found", "before", "after", "name"]) (sc := defScope st_direct_befores) (by decide +kernel)) (fun _ _ _ _ _ _ => (gj_name (i := 5) Sc.nd rfl (.inl rfl))) (fun _ _ _ _ _ _ => tsj_nil) (fun _ _ _ _ _ _ => (ej_var (m := .B) (i := 5) rfl (.inl rfl))) (fun _ _ _ _ _ _ => (oj_lst le_nil)))
 (bj_cons (sj_frz 1 (sj_for (vs := [3, 4]) po rfl (ij_seqA (ej_var (m := .E) (i := 1) rfl (.inl rfl))) (gj_tup rfl (gjs_cons (gj_name (i := 3) Sc.nd rfl (.inl rfl)) (gjs_cons (gj_name (i := 4) Sc.nd rfl (.inl rfl)) gjs_nil)))
 (bj_one (sj_frz 4 (sj_frz 3 (sj_dropM (mj_call D_put_in hr (by decide) tk rfl (aj_M (i := 2) (pxj_name (i := 2) rfl (.inl rfl)) (aj_E (ej_var (m := .E) (i := 4) rfl (.inl rfl)) (aj_E (ej_var (m := .E) (i := 3) rfl (.inl rfl)) aj_nil))))))))))
 (bj_one (sj_retV (i := 2) rfl (.inl rfl)))))

/-! ### first_unplaced -/
abbrev st_first_unplaced : Stmt := top 24
def L_first_unplaced_1 : S :=
 (sIf (tCmp gNotIn (eVar .B 3) (eVar .B 1))
 (sRetV 3)
 sNil)
def R_first_unplaced_2 : S :=
 (sRet (oOfE (eC .non)))
def b_first_unplaced : S :=
 (sSeq (sFor (lOfA (eIx (eVar .I 0) (eVar .B 2))) (gNm 3)
 L_first_unplaced_1)
 R_first_unplaced_2)
def g_first_unplaced : Fn := runFn 4 [.E, .B, .B] b_first_unplaced
theorem sc_first_unplaced : FnScope ["befores", "placed", "name", "before"] ["befores", "placed", "name"] (defScope st_first_unplaced) := ⟨rfl, rfl, rfl, by decide +kernel, rfl, by decide +kernel, by decide +kernel⟩
theorem ok_first_unplaced {P : Program} {w : World} {K : PySem.W.Frag} {mg : Str → Option Value} {base : Heap} {f : Addr} {fd : FuncData} (T : Txt K mg) (F : FunD K "first_unplaced" "first_unplaced" (defArgs st_first_unplaced) (defBody st_first_unplaced) (defScope st_first_unplaced) [] [] f fd) (hg : mg "first_unplaced" = some (.ref f))  :
    DefOk P w K mg base 1 "first_unplaced" ["befores", "placed", "name"] [.E, .B, .B] g_first_unplaced :=
  have Sc := sc_first_unplaced
  def_ok (k := 0) (N := ["befores", "placed", "name", "before"]) F Sc rfl (by decide) hg (fun _ _ _ _ _ _ us hl => match us, hl with | [_, _, _], _ => rfl) fun cdv A outer sh H E C hr tk po =>
 (bj_cons (sj_for (vs := [3]) po rfl (ij_seqA (ej_ix (huR hr) (ej_var (m := .I) (i := 0) rfl (.inl rfl)) (ej_var (m := .B) (i := 2) rfl (.inl rfl)))) (gj_name (i := 3) Sc.nd rfl (.inl rfl))
 (bj_one (sj_if (tj_cmp (opr_notIn (huR hr)) cmp_notIn (ej_var (m := .B) (i := 3) rfl (.inl rfl)) (ej_var (m := .B) (i := 1) rfl (.inl rfl)) (by rfl))
 (bj_one (sj_retV (i := 3) rfl (.inl rfl)))
 bj_nil)))
 (bj_one (sj_ret (oj_E (ej_non (m := .E))))))

/-! ### way_back -/
abbrev st_way_back : Stmt := top 25
def L_way_back_1 : S :=
 (sSeq (sSeq (sFrz 2) (sApp 3 (qE (eVar .E 2))))
 (sSeq (sFrz 0) (sAsg 2 (oCall g_first_unplaced (lCons (eVar .E 0) (lCons (eVar .B 1) (lCons (eVar .B 2) lNil)))))))
def R_way_back_2 : S :=
 (sSeq (sFrz 2) (sRet (oBin gAdd (eVar .I 3) (eOfO (oLst (lCons (eVar .E 2) lNil))))))
def b_way_back : S :=
 (sSeq (sSeq (sFrz 2) (sAsg 3 (oLst (lCons (eVar .E 2) lNil))))
 (sSeq (sSeq (sFrz 0) (sAsg 2 (oCall g_first_unplaced (lCons (eVar .E 0) (lCons (eVar .B 1) (lCons (eVar .B 2) lNil))))))
 (sSeq (sWhile (tCmp gNotIn (eVar .B 2) (eVar .B 3))
 L_way_back_1)
 R_way_back_2)))
def g_way_back : Fn := runFn 4 [.E, .B, .E] b_way_back
theorem sc_way_back : FnScope ["befores", "placed", "name", "met"] ["befores", "placed", "name"] (defScope st_way_back) := ⟨rfl, rfl, rfl, by decide +kernel, rfl, by decide +kernel, by decide +kernel⟩
theorem ok_way_back {P : Program} {w : World} {K : PySem.W.Frag} {mg : Str → Option Value} {base : Heap} {f : Addr} {fd : FuncData} (T : Txt K mg) (F : FunD K "way_back" "way_back" (defArgs st_way_back) (defBody st_way_back) (defScope st_way_back) [] [] f fd) (hg : mg "way_back" = some (.ref f)) (D_first_unplaced : DefOk P w K mg base 1 "first_unplaced" ["befores", "placed", "name"] [.E, .B, .B] g_first_unplaced) :
    DefOk P w K mg base 2 "way_back" ["befores", "placed", "name"] [.E, .B, .E] g_way_back :=
  have Sc := sc_way_back
  def_ok (k := 1) (N := ["befores", "placed", "name", "met"]) F Sc rfl (by decide) hg (fun _ _ _ _ _ _ us hl => match us, hl with | [_, _, _], _ => rfl) fun cdv A outer sh H E C hr tk po =>
 (bj_cons (sj_frz 2 (sj_asg (i := 3) Sc.nd rfl (.inl rfl) (oj_lst (le_cons (ej_var (m := .E) (i := 2) rfl (.inl rfl)) le_nil))))
 (bj_cons (sj_frz 0 (sj_asg (i := 2) Sc.nd rfl (.inl rfl) (oj_call D_first_unplaced hr (by decide) tk rfl (lj_cons (ej_var (m := .E) (i := 0) rfl (.inl rfl)) (lj_cons (ej_var (m := .B) (i := 1) rfl (.inl rfl)) (lj_cons (ej_var (m := .B) (i := 2) rfl (.inl rfl)) lj_nil))))))
 (bj_cons (sj_while po (tj_cmp (opr_notIn (huR hr)) cmp_notIn (ej_var (m := .B) (i := 2) rfl (.inl rfl)) (ej_var (m := .B) (i := 3) rfl (.inl rfl)) (by rfl))
 (bj_cons (sj_frz 2 (sj_app (i := 3) rfl (.inl rfl) (qj_E (ej_var (m := .E) (i := 2) rfl (.inl rfl)))))
 (bj_one (sj_frz 0 (sj_asg (i := 2) Sc.nd rfl (.inl rfl) (oj_call D_first_unplaced hr (by decide) tk rfl (lj_cons (ej_var (m := .E) (i := 0) rfl (.inl rfl)) (lj_cons (ej_var (m := .B) (i := 1) rfl (.inl rfl)) (lj_cons (ej_var (m := .B) (i := 2) rfl (.inl rfl)) lj_nil)))))))))
 (bj_one (sj_frz 2 (sj_ret (oj_add (ej_var (m := .I) (i := 3) rfl (.inl rfl)) (ej_I (ej_O (oj_lst (le_cons (ej_var (m := .E) (i := 2) rfl (.inl rfl)) le_nil)))))))))))

/-! ### loop_of -/
abbrev st_loop_of : Stmt := top 26
def b_loop_of : S :=
 (sSeq (sAsg 3 (oComp (lOfA (eVar .I 0)) [6] (gNm 6) (tCmp gNotIn (eVar .B 6) (eVar .B 2)) (eVar .E 6)))
 (sSeq (sSeq (sFrz 1) (sAsg 4 (oCall g_way_back (lCons (eVar .E 1) (lCons (eVar .B 2) (lCons (eIx (eVar .I 3) (eC (.int 0))) lNil))))))
 (sSeq (sAsg 5 (oSl (eVar .I 4) (pAt (eOfO (oBin gAdd (eM1 .list gIndex (eVar .B 4) (eIx (eVar .B 4) (eUn gNeg (eC (.int 1))))) (eC (.int 1))))) pNo))
 (sSeq (sRev 5)
 (sRetV 5)))))
def g_loop_of : Fn := runFn 7 [.E, .E, .B] b_loop_of
theorem sc_loop_of : FnScope ["names", "befores", "placed", "unplaced", "met", "loop", "name"] ["names", "befores", "placed"] (defScope st_loop_of) := ⟨rfl, rfl, rfl, by decide +kernel, rfl, by decide +kernel, by decide +kernel⟩
theorem ok_loop_of {P : Program} {w : World} {K : PySem.W.Frag} {mg : Str → Option Value} {base : Heap} {f : Addr} {fd : FuncData} (T : Txt K mg) (F : FunD K "loop_of" "loop_of" (defArgs st_loop_of) (defBody st_loop_of) (defScope st_loop_of) [] [] f fd) (hg : mg "loop_of" = some (.ref f)) (D_way_back : DefOk P w K mg base 2 "way_back" ["befores", "placed", "name"] [.E, .B, .E] g_way_back) :
    DefOk P w K mg base 3 "loop_of" ["names", "befores", "placed"] [.E, .E, .B] g_loop_of :=
  have Sc := sc_loop_of
  def_ok (k := 2) (N := ["names", "befores", "placed", "unplaced", "met", "loop", "name"]) F Sc rfl (by decide) hg (fun _ _ _ _ _ _ us hl => match us, hl with | [_, _, _], _ => rfl) fun cdv A outer sh H E C hr tk po =>
 (bj_cons (sj_asgLc (i := 3) rfl Sc.nd rfl rfl (sw_true rfl rfl rfl (by decide +kernel)) (own := [("name", 6)]) (ij_seqSA (ej_var (m := .I) (i := 0) rfl (.inl rfl))) (blkOk_by (N := ["names", "befores", "placed", "unplaced", "met", "loop", "name"]) (sc := defScope st_loop_of) (by decide +kernel)) (fun _ _ _ _ _ _ => (gj_name (i := 6) Sc.nd rfl (.inl rfl))) (fun _ _ _ _ _ _ => (tsj_one (tj_cmp (opr_notIn (huR hr)) cmp_notIn (ej_var (m := .B) (i := 6) rfl (.inl rfl)) (ej_var (m := .B) (i := 2) rfl (.inr (.inl rfl))) (by rfl)))) (fun _ _ _ _ _ _ => (ej_var (m := .E) (i := 6) rfl (.inl rfl))))
 (bj_cons (sj_frz 1 (sj_asg (i := 4) Sc.nd rfl (.inl rfl) (oj_call D_way_back hr (by decide) tk rfl (lj_cons (ej_var (m := .E) (i := 1) rfl (.inl rfl)) (lj_cons (ej_var (m := .B) (i := 2) rfl (.inr (.inl rfl))) (lj_cons (ej_ix (huR hr) (ej_var (m := .I) (i := 3) rfl (.inl rfl)) (ej_int (m := .B))) lj_nil))))))
 (bj_cons (sj_asg (i := 5) Sc.nd rfl (.inl rfl) (oj_sl (ej_var (m := .I) (i := 4) rfl (.inl rfl)) (pj_some (ej_B (ej_O (oj_add (ej_m1 (m := .I) .list PySem.F.plainAttrs_list PySem.F.slot_list_index PySem.F.type_list_index mt_index m_index (ej_var (m := .B) (i := 4) rfl (.inl rfl)) (ej_ixB (huR hr) (ej_var (m := .B) (i := 4) rfl (.inl rfl)) (ej_neg (m := .B) (ej_int (m := .B))))) (ej_int (m := .I)))))) pj_none))
 (bj_cons (sj_rev (i := 5) rfl (.inl rfl))
 (bj_one (sj_retV (i := 5) rfl (.inl rfl)))))))

/-! ### is_ready -/
abbrev st_is_ready : Stmt := top 21
def R_is_ready_1 : S :=
 (sRet (oOfE (eUn gAll (eOfO (oComp (lOfA (eIx (eVar .I 0) (eVar .B 2))) [3] (gNm 3) tYesF (eCmp gIn (eVar .B 3) (eVar .B 1)))))))
def b_is_ready : S :=
 (sSeq (sIf (tCmp gIn (eVar .B 2) (eVar .B 1))
 (sRet (oOfE (eC (.bl false))))
 sNil)
 R_is_ready_1)
def g_is_ready : Fn := runFn 4 [.E, .B, .B] b_is_ready
theorem sc_is_ready : FnScope ["befores", "placed", "name", "before"] ["befores", "placed", "name"] (defScope st_is_ready) := ⟨rfl, rfl, rfl, by decide +kernel, rfl, by decide +kernel, by decide +kernel⟩
theorem ok_is_ready {P : Program} {w : World} {K : PySem.W.Frag} {mg : Str → Option Value} {base : Heap} {f : Addr} {fd : FuncData} (T : Txt K mg) (F : FunD K "is_ready" "is_ready" (defArgs st_is_ready) (defBody st_is_ready) (defScope st_is_ready) [] [] f fd) (hg : mg "is_ready" = some (.ref f))  :
    DefOk P w K mg base 1 "is_ready" ["befores", "placed", "name"] [.E, .B, .B] g_is_ready :=
  have Sc := sc_is_ready
  def_ok (k := 0) (N := ["befores", "placed", "name", "before"]) F Sc rfl (by decide) hg (fun _ _ _ _ _ _ us hl => match us, hl with | [_, _, _], _ => rfl) fun cdv A outer sh H E C hr tk po =>
 (bj_cons (sj_if (tj_cmp (opr_in (huR hr)) cmp_in (ej_var (m := .B) (i := 2) rfl (.inl rfl)) (ej_var (m := .B) (i := 1) rfl (.inr (.inl rfl))) (by rfl))
 (bj_one (sj_ret (oj_E (ej_bl (m := .E)))))
 bj_nil)
 (bj_one (sj_ret (oj_E (ej_call1 (m := .E) (cr_all rfl) c_all rfl T.f_all (by decide +kernel) (ej_B (ej_O (oj_comp rfl Sc.nd (own := [("before", 3)]) (ij_seqSA (ej_I (ej_ix (huR hr) (ej_var (m := .I) (i := 0) rfl (.inl rfl)) (ej_var (m := .B) (i := 2) rfl (.inl rfl))))) (blkOk_by (N := ["befores", "placed", "name", "before"]) (sc := defScope st_is_ready) (by decide +kernel)) (fun _ _ _ _ _ _ => (gj_name (i := 3) Sc.nd rfl (.inl rfl))) (fun _ _ _ _ _ _ => tsj_nil) (fun _ _ _ _ _ _ => (ej_cmp (m := .E) (opr_in (huR hr)) cmp_in (ej_var (m := .B) (i := 3) rfl (.inl rfl)) (ej_var (m := .B) (i := 1) rfl (.inr (.inl rfl))) (by rfl)))))))))))

/-! ### next_ready -/
abbrev st_next_ready : Stmt := top 22
def L_next_ready_1 : S :=
 (sSeq (sFrz 1) (sIf (tOfE (eOfO (oCall g_is_ready (lCons (eVar .E 1) (lCons (eVar .B 2) (lCons (eVar .B 3) lNil))))))
 (sRetV 3)
 sNil))
def R_next_ready_2 : S :=
 (sRet (oOfE (eC .non)))
def b_next_ready : S :=
 (sSeq (sSeq (sFrz 0) (sFor (lOfA (eVar .E 0)) (gNm 3)
 L_next_ready_1))
 R_next_ready_2)
def g_next_ready : Fn := runFn 4 [.E, .E, .B] b_next_ready
theorem sc_next_ready : FnScope ["names", "befores", "placed", "name"] ["names", "befores", "placed"] (defScope st_next_ready) := ⟨rfl, rfl, rfl, by decide +kernel, rfl, by decide +kernel, by decide +kernel⟩
theorem ok_next_ready {P : Program} {w : World} {K : PySem.W.Frag} {mg : Str → Option Value} {base : Heap} {f : Addr} {fd : FuncData} (T : Txt K mg) (F : FunD K "next_ready" "next_ready" (defArgs st_next_ready) (defBody st_next_ready) (defScope st_next_ready) [] [] f fd) (hg : mg "next_ready" = some (.ref f)) (D_is_ready : DefOk P w K mg base 1 "is_ready" ["befores", "placed", "name"] [.E, .B, .B] g_is_ready) :
    DefOk P w K mg base 2 "next_ready" ["names", "befores", "placed"] [.E, .E, .B] g_next_ready :=
  have Sc := sc_next_ready
  def_ok (k := 1) (N := ["names", "befores", "placed", "name"]) F Sc rfl (by decide) hg (fun _ _ _ _ _ _ us hl => match us, hl with | [_, _, _], _ => rfl) fun cdv A outer sh H E C hr tk po =>
 (bj_cons (sj_frz 0 (sj_for (vs := [3]) po rfl (ij_seqA (ej_var (m := .E) (i := 0) rfl (.inl rfl))) (gj_name (i := 3) Sc.nd rfl (.inl rfl))
 (bj_one (sj_frz 1 (sj_if (tj_val (ej_B (ej_O (oj_call D_is_ready hr (by decide) tk rfl (lj_cons (ej_var (m := .E) (i := 1) rfl (.inl rfl)) (lj_cons (ej_var (m := .B) (i := 2) rfl (.inl rfl)) (lj_cons (ej_var (m := .B) (i := 3) rfl (.inl rfl)) lj_nil)))))))
 (bj_one (sj_retV (i := 3) rfl (.inl rfl)))
 bj_nil)))))
 (bj_one (sj_ret (oj_E (ej_non (m := .E))))))

/-! ### placed_names -/
abbrev st_placed_names : Stmt := top 23
def L_placed_names_1 : S :=
 (sSeq (sSeq (sFrz 3) (sApp 2 (qE (eVar .E 3))))
 (sSeq (sFrz 1) (sSeq (sFrz 0) (sAsg 3 (oCall g_next_ready (lCons (eVar .E 0) (lCons (eVar .E 1) (lCons (eVar .B 2) lNil))))))))
def R_placed_names_2 : S :=
 (sRetV 2)
def b_placed_names : S :=
 (sSeq (sAsg 2 (oLst lNil))
 (sSeq (sSeq (sFrz 1) (sSeq (sFrz 0) (sAsg 3 (oCall g_next_ready (lCons (eVar .E 0) (lCons (eVar .E 1) (lCons (eVar .B 2) lNil)))))))
 (sSeq (sWhile (tCmp gNotN (eVar .B 3) (eC .non))
 L_placed_names_1)
 R_placed_names_2)))
def g_placed_names : Fn := runFn 4 [.E, .E] b_placed_names
theorem sc_placed_names : FnScope ["names", "befores", "placed", "name"] ["names", "befores"] (defScope st_placed_names) := ⟨rfl, rfl, rfl, by decide +kernel, rfl, by decide +kernel, by decide +kernel⟩
theorem ok_placed_names {P : Program} {w : World} {K : PySem.W.Frag} {mg : Str → Option Value} {base : Heap} {f : Addr} {fd : FuncData} (T : Txt K mg) (F : FunD K "placed_names" "placed_names" (defArgs st_placed_names) (defBody st_placed_names) (defScope st_placed_names) [] [] f fd) (hg : mg "placed_names" = some (.ref f)) (D_next_ready : DefOk P w K mg base 2 "next_ready" ["names", "befores", "placed"] [.E, .E, .B] g_next_ready) :
    DefOk P w K mg base 3 "placed_names" ["names", "befores"] [.E, .E] g_placed_names :=
  have Sc := sc_placed_names
  def_ok (k := 2) (N := ["names", "befores", "placed", "name"]) F Sc rfl (by decide) hg (fun _ _ _ _ _ _ us hl => match us, hl with | [_, _], _ => rfl) fun cdv A outer sh H E C hr tk po =>
 (bj_cons (sj_asg (i := 2) Sc.nd rfl (.inl rfl) (oj_lst le_nil))
 (bj_cons (sj_frz 1 (sj_frz 0 (sj_asg (i := 3) Sc.nd rfl (.inl rfl) (oj_call D_next_ready hr (by decide) tk rfl (lj_cons (ej_var (m := .E) (i := 0) rfl (.inl rfl)) (lj_cons (ej_var (m := .E) (i := 1) rfl (.inl rfl)) (lj_cons (ej_var (m := .B) (i := 2) rfl (.inl rfl)) lj_nil)))))))
 (bj_cons (sj_while po (tj_cmp op_notN cmp_notN (ej_var (m := .B) (i := 3) rfl (.inl rfl)) (ej_non (m := .B)) (nomark _))
 (bj_cons (sj_frz 3 (sj_app (i := 2) rfl (.inl rfl) (qj_E (ej_var (m := .E) (i := 3) rfl (.inl rfl)))))
 (bj_one (sj_frz 1 (sj_frz 0 (sj_asg (i := 3) Sc.nd rfl (.inl rfl) (oj_call D_next_ready hr (by decide) tk rfl (lj_cons (ej_var (m := .E) (i := 0) rfl (.inl rfl)) (lj_cons (ej_var (m := .E) (i := 1) rfl (.inl rfl)) (lj_cons (ej_var (m := .B) (i := 2) rfl (.inl rfl)) lj_nil))))))))))
 (bj_one (sj_retV (i := 2) rfl (.inl rfl))))))

/-! ### answer -/
abbrev st_answer : Stmt := top 27
def R_answer_1 : S :=
 (sSeq (sFrz 2) (sSeq (sFrz 0) (sRet (oTupO (loCons (oOfE (eC (.str (txt "loop")))) (loCons (oCall g_loop_of (lCons (eVar .E 0) (lCons (eVar .E 2) (lCons (eVar .B 3) lNil)))) loNil))))))
def b_answer : S :=
 (sSeq (sSeq (sFrz 1) (sSeq (sFrz 0) (sDrop (oCall g_check_pairs (lCons (eVar .E 0) (lCons (eVar .E 1) lNil))))))
 (sSeq (sSeq (sFrz 1) (sSeq (sFrz 0) (sAsg 2 (oCall g_direct_befores (lCons (eVar .E 0) (lCons (eVar .E 1) lNil))))))
 (sSeq (sSeq (sFrz 2) (sSeq (sFrz 0) (sAsg 3 (oCall g_placed_names (lCons (eVar .E 0) (lCons (eVar .E 2) lNil))))))
 (sSeq (sIf (tCmp gEq (eUn gLen (eVar .B 3)) (eUn gLen (eVar .B 0)))
 (sRetMv 3 (eC (.str (txt "order"))))
 sNil)
 R_answer_1))))
def g_answer : Fn := runFn 4 [.E, .E] b_answer
theorem sc_answer : FnScope ["names", "pairs", "befores", "placed"] ["names", "pairs"] (defScope st_answer) := ⟨rfl, rfl, rfl, by decide +kernel, rfl, by decide +kernel, by decide +kernel⟩
theorem ok_answer {P : Program} {w : World} {K : PySem.W.Frag} {mg : Str → Option Value} {base : Heap} {f : Addr} {fd : FuncData} (T : Txt K mg) (F : FunD K "answer" "answer" (defArgs st_answer) (defBody st_answer) (defScope st_answer) [] [] f fd) (hg : mg "answer" = some (.ref f)) (D_check_pairs : DefOk P w K mg base 4 "check_pairs" ["names", "pairs"] [.E, .E] g_check_pairs) (D_direct_befores : DefOk P w K mg base 2 "direct_befores" ["names", "pairs"] [.E, .E] g_direct_befores) (D_loop_of : DefOk P w K mg base 3 "loop_of" ["names", "befores", "placed"] [.E, .E, .B] g_loop_of) (D_placed_names : DefOk P w K mg base 3 "placed_names" ["names", "befores"] [.E, .E] g_placed_names) :
    DefOk P w K mg base 5 "answer" ["names", "pairs"] [.E, .E] g_answer :=
  have Sc := sc_answer
  def_ok (k := 4) (N := ["names", "pairs", "befores", "placed"]) F Sc rfl (by decide) hg (fun _ _ _ _ _ _ us hl => match us, hl with | [_, _], _ => rfl) fun cdv A outer sh H E C hr tk po =>
 (bj_cons (sj_frz 1 (sj_frz 0 (sj_expr (oj_call D_check_pairs hr (by decide) tk rfl (lj_cons (ej_var (m := .E) (i := 0) rfl (.inl rfl)) (lj_cons (ej_var (m := .E) (i := 1) rfl (.inl rfl)) lj_nil))))))
 (bj_cons (sj_frz 1 (sj_frz 0 (sj_asg (i := 2) Sc.nd rfl (.inl rfl) (oj_call D_direct_befores hr (by decide) tk rfl (lj_cons (ej_var (m := .E) (i := 0) rfl (.inl rfl)) (lj_cons (ej_var (m := .E) (i := 1) rfl (.inl rfl)) lj_nil))))))
 (bj_cons (sj_frz 2 (sj_frz 0 (sj_asg (i := 3) Sc.nd rfl (.inl rfl) (oj_call D_placed_names hr (by decide) tk rfl (lj_cons (ej_var (m := .E) (i := 0) rfl (.inl rfl)) (lj_cons (ej_var (m := .E) (i := 2) rfl (.inl rfl)) lj_nil))))))
 (bj_cons (sj_if (tj_cmp (op_eqD (huR hr).u64) cmp_eq (ej_call1 (m := .B) call_len c_len rfl T.f_len (by decide +kernel) (ej_var (m := .B) (i := 3) rfl (.inl rfl))) (ej_call1 (m := .B) call_len c_len rfl T.f_len (by decide +kernel) (ej_var (m := .B) (i := 0) rfl (.inl rfl))) (nomark _))
 (bj_one (sj_retMv (i := 3) rfl (.inl rfl) (ej_str (m := .E) (mkS_txt _).symm)))
 bj_nil)
 (bj_one (sj_frz 2 (sj_frz 0 (sj_ret (oj_tupO (lo_cons (oj_E (ej_str (m := .E) (mkS_txt _).symm)) fun _ => (lo_cons (oj_call D_loop_of hr (by decide) tk rfl (lj_cons (ej_var (m := .E) (i := 0) rfl (.inl rfl)) (lj_cons (ej_var (m := .E) (i := 2) rfl (.inl rfl)) (lj_cons (ej_var (m := .B) (i := 3) rfl (.inl rfl)) lj_nil)))) fun _ => lo_nil)))))))))))

/-! ### is_loop -/
abbrev st_is_loop : Stmt := top 30
def R_is_loop_1 : S :=
 (sSeq (sAsg 3 (oBin gAdd (eOfO (oSl (eVar .I 2) (pAt (eC (.int 1))) pNo)) (eOfO (oSl (eVar .I 2) pNo (pAt (eC (.int 1)))))))
 (sRet (oOfE (eUn gAll (eOfO (oComp (lZip (eVar .I 2) (eVar .I 3)) [4, 5] (gTp 2 (gsCons (gNm 4) (gsCons (gNm 5) gsNil))) tYesF (eCmp gIn (eTup (lCons (eVar .E 4) (lCons (eVar .E 5) lNil))) (eVar .B 1))))))))
def R_is_loop_2 : S :=
 (sSeq (sIf (tNotF (tOfE (eUn gAll (eOfO (oComp (lOfA (eVar .I 2)) [4] (gNm 4) tYesF (eCmp gIn (eVar .B 4) (eVar .B 0)))))))
 (sRet (oOfE (eC (.bl false))))
 sNil)
 R_is_loop_1)
def b_is_loop : S :=
 (sSeq (sIf (tOrF (tNotF (tOfE (eUn (isT .list) (eVar .B 2)))) (tNotF (tOfE (eVar .B 2))))
 (sRet (oOfE (eC (.bl false))))
 sNil)
 R_is_loop_2)
def g_is_loop : Fn := runFn 6 [.B, .B, .E] b_is_loop
theorem sc_is_loop : FnScope ["names", "pairs", "value", "nexts", "name", "after"] ["names", "pairs", "value"] (defScope st_is_loop) := ⟨rfl, rfl, rfl, by decide +kernel, rfl, by decide +kernel, by decide +kernel⟩
theorem ok_is_loop {P : Program} {w : World} {K : PySem.W.Frag} {mg : Str → Option Value} {base : Heap} {f : Addr} {fd : FuncData} (T : Txt K mg) (F : FunD K "is_loop" "is_loop" (defArgs st_is_loop) (defBody st_is_loop) (defScope st_is_loop) [] [] f fd) (hg : mg "is_loop" = some (.ref f))  :
    DefOk P w K mg base 1 "is_loop" ["names", "pairs", "value"] [.B, .B, .E] g_is_loop :=
  have Sc := sc_is_loop
  def_ok (k := 0) (N := ["names", "pairs", "value", "nexts", "name", "after"]) F Sc rfl (by decide) hg (fun _ _ _ _ _ _ us hl => match us, hl with | [_, _, _], _ => rfl) fun cdv A outer sh H E C hr tk po =>
 (bj_cons (sj_if (wj_tj (wj_or (tj_not (tj_val (ej_isi (m := .B) .list rfl T.f_isinstance rfl T.f_list (by decide +kernel) (ej_var (m := .B) (i := 2) rfl (.inl rfl))))) (wj_or1 (tj_not (tj_val (ej_var (m := .B) (i := 2) rfl (.inl rfl)))))))
 (bj_one (sj_ret (oj_E (ej_bl (m := .E)))))
 bj_nil)
 (bj_cons (sj_if (tj_not (tj_val (ej_call1 (m := .B) (cr_all rfl) c_all rfl T.f_all (by decide +kernel) (ej_B (ej_O (oj_comp rfl Sc.nd (own := [("name", 4)]) (ij_seqSA (ej_var (m := .I) (i := 2) rfl (.inl rfl))) (blkOk_by (N := ["names", "pairs", "value", "nexts", "name", "after"]) (sc := defScope st_is_loop) (by decide +kernel)) (fun _ _ _ _ _ _ => (gj_name (i := 4) Sc.nd rfl (.inl rfl))) (fun _ _ _ _ _ _ => tsj_nil) (fun _ _ _ _ _ _ => (ej_cmp (m := .E) (opr_in (huR hr)) cmp_in (ej_var (m := .B) (i := 4) rfl (.inl rfl)) (ej_var (m := .B) (i := 0) rfl (.inr (.inl rfl))) (by rfl)))))))))
 (bj_one (sj_ret (oj_E (ej_bl (m := .E)))))
 bj_nil)
 (bj_cons (sj_asg (i := 3) Sc.nd rfl (.inl rfl) (oj_add (ej_I (ej_O (oj_sl (ej_var (m := .I) (i := 2) rfl (.inl rfl)) (pj_some (ej_int (m := .B))) pj_none))) (ej_I (ej_O (oj_sl (ej_var (m := .I) (i := 2) rfl (.inl rfl)) pj_none (pj_some (ej_int (m := .B))))))))
 (bj_one (sj_ret (oj_E (ej_call1 (m := .E) (cr_all rfl) c_all rfl T.f_all (by decide +kernel) (ej_B (ej_O (oj_comp rfl Sc.nd (own := [("name", 4), ("after", 5)]) (ij_zipS rfl T.f_zip (ej_var (m := .I) (i := 2) rfl (.inl rfl)) (ej_var (m := .I) (i := 3) rfl (.inl rfl))) (blkOk_by (N := ["names", "pairs", "value", "nexts", "name", "after"]) (sc := defScope st_is_loop) (by decide +kernel)) (fun _ _ _ _ _ _ => (gj_tup rfl (gjs_cons (gj_name (i := 4) Sc.nd rfl (.inl rfl)) (gjs_cons (gj_name (i := 5) Sc.nd rfl (.inl rfl)) gjs_nil)))) (fun _ _ _ _ _ _ => tsj_nil) (fun _ _ _ _ _ _ => (ej_cmp (m := .E) (opr_in (huR hr)) cmp_in (ej_B (ej_tup (le_cons (ej_var (m := .E) (i := 4) rfl (.inl rfl)) (le_cons (ej_var (m := .E) (i := 5) rfl (.inl rfl)) le_nil)))) (ej_var (m := .B) (i := 1) rfl (.inr (.inl rfl))) (by rfl)))))))))))))

/-! ### has_all_once -/
abbrev st_has_all_once : Stmt := top 28
def R_has_all_once_1 : S :=
 (sRet (oOfE (eAnd (eUn gAll (eOfO (oComp (lOfA (eVar .I 1)) [2] (gNm 2) tYesF (eUn (isT .str) (eVar .B 2))))) (eUn gAll (eOfO (oComp (lOfA (eVar .I 0)) [2] (gNm 2) tYesF (eCmp gIn (eVar .B 2) (eVar .B 1))))))))
def b_has_all_once : S :=
 (sSeq (sIf (tOrF (tNotF (tOfE (eUn (isT .list) (eVar .B 1)))) (tCmp gNe (eUn gLen (eVar .B 1)) (eUn gLen (eVar .B 0))))
 (sRet (oOfE (eC (.bl false))))
 sNil)
 R_has_all_once_1)
def g_has_all_once : Fn := runFn 3 [.E, .E] b_has_all_once
theorem sc_has_all_once : FnScope ["names", "value", "name"] ["names", "value"] (defScope st_has_all_once) := ⟨rfl, rfl, rfl, by decide +kernel, rfl, by decide +kernel, by decide +kernel⟩
theorem ok_has_all_once {P : Program} {w : World} {K : PySem.W.Frag} {mg : Str → Option Value} {base : Heap} {f : Addr} {fd : FuncData} (T : Txt K mg) (F : FunD K "has_all_once" "has_all_once" (defArgs st_has_all_once) (defBody st_has_all_once) (defScope st_has_all_once) [] [] f fd) (hg : mg "has_all_once" = some (.ref f))  :
    DefOk P w K mg base 1 "has_all_once" ["names", "value"] [.E, .E] g_has_all_once :=
  have Sc := sc_has_all_once
  def_ok (k := 0) (N := ["names", "value", "name"]) F Sc rfl (by decide) hg (fun _ _ _ _ _ _ us hl => match us, hl with | [_, _], _ => rfl) fun cdv A outer sh H E C hr tk po =>
 (bj_cons (sj_if (wj_tj (wj_or (tj_not (tj_val (ej_isi (m := .B) .list rfl T.f_isinstance rfl T.f_list (by decide +kernel) (ej_var (m := .B) (i := 1) rfl (.inr (.inl rfl)))))) (wj_or1 (tj_cmp (op_neD (huR hr).u64) cmp_ne (ej_call1 (m := .B) call_len c_len rfl T.f_len (by decide +kernel) (ej_var (m := .B) (i := 1) rfl (.inr (.inl rfl)))) (ej_call1 (m := .B) call_len c_len rfl T.f_len (by decide +kernel) (ej_var (m := .B) (i := 0) rfl (.inl rfl))) (nomark _)))))
 (bj_one (sj_ret (oj_E (ej_bl (m := .E)))))
 bj_nil)
 (bj_one (sj_ret (oj_E (ej_and (ej_call1 (m := .B) (cr_all rfl) c_all rfl T.f_all (by decide +kernel) (ej_B (ej_O (oj_comp rfl Sc.nd (own := [("name", 2)]) (ij_seqSA (ej_var (m := .I) (i := 1) rfl (.inr (.inl rfl)))) (blkOk_by (N := ["names", "value", "name"]) (sc := defScope st_has_all_once) (by decide +kernel)) (fun _ _ _ _ _ _ => (gj_name (i := 2) Sc.nd rfl (.inl rfl))) (fun _ _ _ _ _ _ => tsj_nil) (fun _ _ _ _ _ _ => (ej_isi (m := .E) .str rfl T.f_isinstance rfl T.f_str (by decide +kernel) (ej_var (m := .B) (i := 2) rfl (.inl rfl)))))))) (ej_one (ej_call1 (m := .E) (cr_all rfl) c_all rfl T.f_all (by decide +kernel) (ej_B (ej_O (oj_comp rfl Sc.nd (own := [("name", 2)]) (ij_seqSA (ej_var (m := .I) (i := 0) rfl (.inl rfl))) (blkOk_by (N := ["names", "value", "name"]) (sc := defScope st_has_all_once) (by decide +kernel)) (fun _ _ _ _ _ _ => (gj_name (i := 2) Sc.nd rfl (.inl rfl))) (fun _ _ _ _ _ _ => tsj_nil) (fun _ _ _ _ _ _ => (ej_cmp (m := .E) (opr_in (huR hr)) cmp_in (ej_var (m := .B) (i := 2) rfl (.inl rfl)) (ej_var (m := .B) (i := 1) rfl (.inr (.inl rfl))) (by rfl)))))))))))))

/-! ### is_order -/
abbrev st_is_order : Stmt := top 29
def R_is_order_1 : S :=
 (sRet (oOfE (eUn gAll (eOfO (oComp (lOfA (eVar .I 1)) [3, 4] (gTp 2 (gsCons (gNm 3) (gsCons (gNm 4) gsNil))) tYesF (eCmp gLt (eM1 .list gIndex (eVar .B 2) (eVar .B 3)) (eM1 .list gIndex (eVar .B 2) (eVar .B 4))))))))
def b_is_order : S :=
 (sSeq (sSeq (sFrz 2) (sSeq (sFrz 0) (sIf (tNotF (tOfE (eOfO (oCall g_has_all_once (lCons (eVar .E 0) (lCons (eVar .E 2) lNil))))))
 (sRet (oOfE (eC (.bl false))))
 sNil)))
 R_is_order_1)
def g_is_order : Fn := runFn 5 [.E, .E, .E] b_is_order
theorem sc_is_order : FnScope ["names", "pairs", "value", "before", "after"] ["names", "pairs", "value"] (defScope st_is_order) := ⟨rfl, rfl, rfl, by decide +kernel, rfl, by decide +kernel, by decide +kernel⟩
theorem ok_is_order {P : Program} {w : World} {K : PySem.W.Frag} {mg : Str → Option Value} {base : Heap} {f : Addr} {fd : FuncData} (T : Txt K mg) (F : FunD K "is_order" "is_order" (defArgs st_is_order) (defBody st_is_order) (defScope st_is_order) [] [] f fd) (hg : mg "is_order" = some (.ref f)) (D_has_all_once : DefOk P w K mg base 1 "has_all_once" ["names", "value"] [.E, .E] g_has_all_once) :
    DefOk P w K mg base 2 "is_order" ["names", "pairs", "value"] [.E, .E, .E] g_is_order :=
  have Sc := sc_is_order
  def_ok (k := 1) (N := ["names", "pairs", "value", "before", "after"]) F Sc rfl (by decide) hg (fun _ _ _ _ _ _ us hl => match us, hl with | [_, _, _], _ => rfl) fun cdv A outer sh H E C hr tk po =>
 (bj_cons (sj_frz 2 (sj_frz 0 (sj_if (tj_not (tj_val (ej_B (ej_O (oj_call D_has_all_once hr (by decide) tk rfl (lj_cons (ej_var (m := .E) (i := 0) rfl (.inl rfl)) (lj_cons (ej_var (m := .E) (i := 2) rfl (.inr (.inl rfl))) lj_nil)))))))
 (bj_one (sj_ret (oj_E (ej_bl (m := .E)))))
 bj_nil)))
 (bj_one (sj_ret (oj_E (ej_call1 (m := .E) (cr_all rfl) c_all rfl T.f_all (by decide +kernel) (ej_B (ej_O (oj_comp rfl Sc.nd (own := [("before", 3), ("after", 4)]) (ij_seqSA (ej_var (m := .I) (i := 1) rfl (.inl rfl))) (blkOk_by (N := ["names", "pairs", "value", "before", "after"]) (sc := defScope st_is_order) (by decide +kernel)) (fun _ _ _ _ _ _ => (gj_tup rfl (gjs_cons (gj_name (i := 3) Sc.nd rfl (.inl rfl)) (gjs_cons (gj_name (i := 4) Sc.nd rfl (.inl rfl)) gjs_nil)))) (fun _ _ _ _ _ _ => tsj_nil) (fun _ _ _ _ _ _ => (ej_cmp (m := .E) opr_lt cmp_lt (ej_m1 (m := .B) .list PySem.F.plainAttrs_list PySem.F.slot_list_index PySem.F.type_list_index mt_index m_index (ej_var (m := .B) (i := 2) rfl (.inr (.inl rfl))) (ej_var (m := .B) (i := 3) rfl (.inl rfl))) (ej_m1 (m := .B) .list PySem.F.plainAttrs_list PySem.F.slot_list_index PySem.F.type_list_index mt_index m_index (ej_var (m := .B) (i := 2) rfl (.inr (.inl rfl))) (ej_var (m := .B) (i := 4) rfl (.inl rfl))) (nomark _)))))))))))

/-! ### _law_large_ones -/
abbrev st__law_large_ones : Stmt := top 42
def L__law_large_ones_1 : S :=
 (sIf (tCmp gGe (eM1 .list gIndex (eIx (eVar .B 6) (eC (.int 1))) (eIx (eVar .B 7) (eC (.int 0)))) (eM1 .list gIndex (eIx (eVar .B 6) (eC (.int 1))) (eIx (eVar .B 7) (eC (.int 1)))))
 (sRet (oOfE (eC (.bl false))))
 sNil)
def R__law_large_ones_2 : S :=
 (sSeq (sFrz 11) (sSeq (sFrz 2) (sRet (oOfE (eAnd (eCmp gIsB (eOfO (oCall g_is_order (lCons (eVar .E 2) (lCons (eVar .E 11) (lCons (eOfO (oUn gListA (eVar .I 4))) lNil))))) (eC (.bl false))) (eCmp gIsB (eOfO (oCall g_is_loop (lCons (eVar .B 2) (lCons (eVar .B 3) (lCons (eOfO (oUn gListA (eVar .I 10))) lNil))))) (eC (.bl false))))))))
def R__law_large_ones_3 : S :=
 (sSeq (sIf (tOrF (tCmp gNotB (eOfO (oCall g_is_loop (lCons (eVar .B 2) (lCons (eVar .B 11) (lCons (eOfO (oUn gListA (ePth .I 6 (pxIx 6 (pxName 6) (eC (.int 1)))))) lNil))))) (eC (.bl true))) (tCmp gNotB (eOfO (oCall g_is_loop (lCons (eVar .B 2) (lCons (eVar .B 11) (lCons (eOfO (oUn gListA (eVar .I 10))) lNil))))) (eC (.bl true))))
 (sRet (oOfE (eC (.bl false))))
 sNil)
 R__law_large_ones_2)
def R__law_large_ones_4 : S :=
 (sSeq (sAsg 6 (oCall g_answer (lCons (eOfO (oUn gListA (eVar .I 2))) (lCons (eOfO (oUn gListA (eVar .I 11))) lNil))))
 (sSeq (sIf (tOrF (tNotF (tOfE (eUn (isT .tuple) (eVar .B 6)))) (tOrF (tCmp gNe (eUn gLen (eVar .B 6)) (eC (.int 2))) (tOrF (tCmp gNe (eIx (eVar .B 6) (eC (.int 0))) (eC (.str (txt "loop")))) (tNotF (tOfE (eOfO (oCall g__law_is_loop (lCons (eVar .B 2) (lCons (eVar .B 11) (lCons (eIx (eVar .B 6) (eC (.int 1))) lNil))))))))))
 (sRet (oOfE (eC (.bl false))))
 sNil)
 R__law_large_ones_3))
def R__law_large_ones_5 : S :=
 (sSeq (sAsg 8 (oOfE (eBin gMod (eIx (eVar .B 1) (eC (.int 2))) (eUn gLen (eVar .B 2)))))
 (sSeq (sAsg 9 (oBin gAdd (eC (.int 1)) (eBin gMod (eIx (eVar .B 1) (eC (.int 3))) (eBin gSub (eUn gLen (eVar .B 2)) (eVar .B 8)))))
 (sSeq (sAsg 10 (oSl (eVar .I 4) (pAt (eVar .B 8)) (pAt (eOfO (oBin gAdd (eVar .I 8) (eVar .I 9))))))
 (sSeq (sAsg 11 (oBin gAdd (eVar .I 3) (eOfO (oComp (lRange1 (eVar .B 9)) [12] (gNm 12) tYesF (eTup (lCons (eIx (eVar .I 10) (eVar .B 12)) (lCons (eIx (eVar .I 10) (eBin gMod (eOfO (oBin gAdd (eVar .I 12) (eC (.int 1)))) (eVar .B 9))) lNil)))))))
 (sSeq (sIf (tCmp gEq (eBin gMod (eIx (eVar .B 1) (eC (.int 4))) (eC (.int 2))) (eC (.int 1)))
 (sAsg 11 (oBin gRev (eVar .I 11) (eUn gNeg (eC (.int 1)))))
 sNil)
 R__law_large_ones_4)))))
def R__law_large_ones_6 : S :=
 (sSeq (sSeq (sFrz 3) (sSeq (sFrz 2) (sIf (tOrF (tCmp gNotB (eOfO (oCall g_is_order (lCons (eVar .E 2) (lCons (eVar .E 3) (lCons (eOfO (oUn gListA (eVar .I 4))) lNil))))) (eC (.bl true))) (tCmp gNotB (eOfO (oCall g_is_loop (lCons (eVar .B 2) (lCons (eVar .B 3) (lCons (eOfO (oUn gListA (eVar .I 4))) lNil))))) (eC (.bl false))))
 (sRet (oOfE (eC (.bl false))))
 sNil)))
 R__law_large_ones_5)
def R__law_large_ones_7 : S :=
 (sSeq (sSeq (sFrz 3) (sFor (lOfA (eVar .E 3)) (gNm 7)
 L__law_large_ones_1))
 R__law_large_ones_6)
def R__law_large_ones_8 : S :=
 (sSeq (sSeq (sFrz 4) (sSeq (sFrz 3) (sSeq (sFrz 2) (sIf (tOrF (tCmp gNe (eUn gLen (eVar .B 4)) (eUn gLen (eVar .B 2))) (tOrF (tCmp gNe (eVar .B 6) (eTup (lCons (eC (.str (txt "order"))) (lCons (eVar .E 4) lNil)))) (tCmp gNe (eVar .B 5) (eOfO (oLst (lCons (eVar .E 2) (lCons (eVar .E 3) lNil)))))))
 (sRet (oOfE (eC (.bl false))))
 sNil))))
 R__law_large_ones_7)
def b__law_large_ones : S :=
 (sSeq (sAsg 1 (oCall g__law_numbers (lCons (eVar .B 0) (lCons (eC (.int 0)) (lCons (eC (.int 20)) lNil)))))
 (sSeq (sAsg 2 (oCall g__law_fields (lCons (eVar .B 0) (lCons (eC (.int 1)) (lCons (eOfO (oBin gAdd (eC (.int 13)) (eBin gMod (eIx (eVar .B 1) (eC (.int 0))) (eC (.int 28))))) lNil)))))
 (sSeq (sSeq (sFrz 2) (sAsg 3 (oCall g__law_pairs (lCons (eVar .B 0) (lCons (eC (.int 2)) (lCons (eVar .E 2) (lCons (eBin gMod (eIx (eVar .B 1) (eC (.int 1))) (eC (.int 101))) (lCons (eC (.int 0)) lNil))))))))
 (sSeq (sSeq (sFrz 3) (sSeq (sFrz 2) (sAsg 4 (oCall g__law_first_order (lCons (eVar .E 2) (lCons (eVar .E 3) lNil))))))
 (sSeq (sAsg 5 (oLst (lCons (eOfO (oUn gListA (eVar .I 2))) (lCons (eOfO (oUn gListA (eVar .I 3))) lNil))))
 (sSeq (sAsg 6 (oCall g_answer (lCons (eIx (eVar .I 5) (eC (.int 0))) (lCons (eIx (eVar .I 5) (eC (.int 1))) lNil))))
 (sSeq (sIf (tOrF (tNotF (tOfE (eUn (isT .tuple) (eVar .B 6)))) (tOrF (tCmp gNe (eUn gLen (eVar .B 6)) (eC (.int 2))) (tNotF (tOfE (eUn (isT .list) (eIx (eVar .B 6) (eC (.int 1))))))))
 (sRet (oOfE (eC (.bl false))))
 sNil)
 R__law_large_ones_8)))))))
def g__law_large_ones : Fn := runFn 13 [.B] b__law_large_ones
theorem sc__law_large_ones : FnScope ["script", "n", "names", "pairs", "due", "given", "found", "pair", "start", "size", "ring", "closed", "k"] ["script"] (defScope st__law_large_ones) := ⟨rfl, rfl, rfl, by decide +kernel, rfl, by decide +kernel, by decide +kernel⟩
theorem ok__law_large_ones {P : Program} {w : World} {K : PySem.W.Frag} {mg : Str → Option Value} {base : Heap} {f : Addr} {fd : FuncData} (T : Txt K mg) (F : FunD K "_law_large_ones" "_law_large_ones" (defArgs st__law_large_ones) (defBody st__law_large_ones) (defScope st__law_large_ones) [] [] f fd) (hg : mg "_law_large_ones" = some (.ref f)) (D__law_fields : DefOk P w K mg base 3 "_law_fields" ["script", "at", "count"] [.B, .E, .B] g__law_fields) (D__law_first_order : DefOk P w K mg base 1 "_law_first_order" ["names", "pairs"] [.E, .E] g__law_first_order) (D__law_is_loop : DefOk P w K mg base 1 "_law_is_loop" ["names", "pairs", "found"] [.B, .B, .B] g__law_is_loop) (D__law_numbers : DefOk P w K mg base 1 "_law_numbers" ["script", "at", "count"] [.B, .E, .B] g__law_numbers) (D__law_pairs : DefOk P w K mg base 2 "_law_pairs" ["script", "at", "names", "many", "kind"] [.B, .E, .E, .B, .B] g__law_pairs) (D_answer : DefOk P w K mg base 5 "answer" ["names", "pairs"] [.E, .E] g_answer) (D_is_loop : DefOk P w K mg base 1 "is_loop" ["names", "pairs", "value"] [.B, .B, .E] g_is_loop) (D_is_order : DefOk P w K mg base 2 "is_order" ["names", "pairs", "value"] [.E, .E, .E] g_is_order) :
    DefOk P w K mg base 6 "_law_large_ones" ["script"] [.B] g__law_large_ones :=
  have Sc := sc__law_large_ones
  def_ok (k := 5) (N := ["script", "n", "names", "pairs", "due", "given", "found", "pair", "start", "size", "ring", "closed", "k"]) F Sc rfl (by decide) hg (fun _ _ _ _ _ _ us hl => match us, hl with | [_], _ => rfl) fun cdv A outer sh H E C hr tk po =>
 (bj_cons (sj_asg (i := 1) Sc.nd rfl (.inl rfl) (oj_call D__law_numbers hr (by decide) tk rfl (lj_cons (ej_var (m := .B) (i := 0) rfl (.inl rfl)) (lj_cons (ej_int (m := .E)) (lj_cons (ej_int (m := .B)) lj_nil)))))
 (bj_cons (sj_asg (i := 2) Sc.nd rfl (.inl rfl) (oj_call D__law_fields hr (by decide) tk rfl (lj_cons (ej_var (m := .B) (i := 0) rfl (.inl rfl)) (lj_cons (ej_int (m := .E)) (lj_cons (ej_B (ej_O (oj_add (ej_int (m := .I)) (ej_mod (m := .I) (ej_ixB (huR hr) (ej_var (m := .B) (i := 1) rfl (.inl rfl)) (ej_int (m := .B))) (ej_int (m := .B)))))) lj_nil)))))
 (bj_cons (sj_frz 2 (sj_asg (i := 3) Sc.nd rfl (.inl rfl) (oj_call D__law_pairs hr (by decide) tk rfl (lj_cons (ej_var (m := .B) (i := 0) rfl (.inl rfl)) (lj_cons (ej_int (m := .E)) (lj_cons (ej_var (m := .E) (i := 2) rfl (.inl rfl)) (lj_cons (ej_mod (m := .B) (ej_ixB (huR hr) (ej_var (m := .B) (i := 1) rfl (.inl rfl)) (ej_int (m := .B))) (ej_int (m := .B))) (lj_cons (ej_int (m := .B)) lj_nil))))))))
 (bj_cons (sj_frz 3 (sj_frz 2 (sj_asg (i := 4) Sc.nd rfl (.inl rfl) (oj_call D__law_first_order hr (by decide) tk rfl (lj_cons (ej_var (m := .E) (i := 2) rfl (.inl rfl)) (lj_cons (ej_var (m := .E) (i := 3) rfl (.inl rfl)) lj_nil))))))
 (bj_cons (sj_asg (i := 5) Sc.nd rfl (.inl rfl) (oj_lst (le_cons (ej_O (oj_callT1 (call_listA rfl) c_listA rfl T.f_list (by decide +kernel) (ej_var (m := .I) (i := 2) rfl (.inl rfl)))) (le_cons (ej_O (oj_callT1 (call_listA rfl) c_listA rfl T.f_list (by decide +kernel) (ej_var (m := .I) (i := 3) rfl (.inl rfl)))) le_nil))))
 (bj_cons (sj_asg (i := 6) Sc.nd rfl (.inl rfl) (oj_call D_answer hr (by decide) tk rfl (lj_cons (ej_ix (huR hr) (ej_var (m := .I) (i := 5) rfl (.inl rfl)) (ej_int (m := .B))) (lj_cons (ej_ix (huR hr) (ej_var (m := .I) (i := 5) rfl (.inl rfl)) (ej_int (m := .B))) lj_nil))))
 (bj_cons (sj_if (wj_tj (wj_or (tj_not (tj_val (ej_isi (m := .B) .tuple rfl T.f_isinstance rfl T.f_tuple (by decide +kernel) (ej_var (m := .B) (i := 6) rfl (.inl rfl))))) (wj_or (tj_cmp (op_neD (huR hr).u64) cmp_ne (ej_call1 (m := .B) call_len c_len rfl T.f_len (by decide +kernel) (ej_var (m := .B) (i := 6) rfl (.inl rfl))) (ej_int (m := .B)) (nomark _)) (wj_or1 (tj_not (tj_val (ej_isi (m := .B) .list rfl T.f_isinstance rfl T.f_list (by decide +kernel) (ej_ixB (huR hr) (ej_var (m := .B) (i := 6) rfl (.inl rfl)) (ej_int (m := .B))))))))))
 (bj_one (sj_ret (oj_E (ej_bl (m := .E)))))
 bj_nil)
 (bj_cons (sj_frz 4 (sj_frz 3 (sj_frz 2 (sj_if (wj_tj (wj_or (tj_cmp (op_neD (huR hr).u64) cmp_ne (ej_call1 (m := .B) call_len c_len rfl T.f_len (by decide +kernel) (ej_var (m := .B) (i := 4) rfl (.inl rfl))) (ej_call1 (m := .B) call_len c_len rfl T.f_len (by decide +kernel) (ej_var (m := .B) (i := 2) rfl (.inl rfl))) (nomark _)) (wj_or (tj_cmp (op_neD (huR hr).u64) cmp_ne (ej_var (m := .B) (i := 6) rfl (.inl rfl)) (ej_B (ej_tup (le_cons (ej_str (m := .E) (mkS_txt _).symm) (le_cons (ej_var (m := .E) (i := 4) rfl (.inl rfl)) le_nil)))) (nomark _)) (wj_or1 (tj_cmp (op_neD (huR hr).u64) cmp_ne (ej_var (m := .B) (i := 5) rfl (.inl rfl)) (ej_B (ej_O (oj_lst (le_cons (ej_var (m := .E) (i := 2) rfl (.inl rfl)) (le_cons (ej_var (m := .E) (i := 3) rfl (.inl rfl)) le_nil))))) (nomark _))))))
 (bj_one (sj_ret (oj_E (ej_bl (m := .E)))))
 bj_nil))))
 (bj_cons (sj_frz 3 (sj_for (vs := [7]) po rfl (ij_seqA (ej_var (m := .E) (i := 3) rfl (.inl rfl))) (gj_name (i := 7) Sc.nd rfl (.inl rfl))
 (bj_one (sj_if (tj_cmp opr_ge cmp_ge (ej_m1 (m := .B) .list PySem.F.plainAttrs_list PySem.F.slot_list_index PySem.F.type_list_index mt_index m_index (ej_ixB (huR hr) (ej_var (m := .B) (i := 6) rfl (.inl rfl)) (ej_int (m := .B))) (ej_ixB (huR hr) (ej_var (m := .B) (i := 7) rfl (.inl rfl)) (ej_int (m := .B)))) (ej_m1 (m := .B) .list PySem.F.plainAttrs_list PySem.F.slot_list_index PySem.F.type_list_index mt_index m_index (ej_ixB (huR hr) (ej_var (m := .B) (i := 6) rfl (.inl rfl)) (ej_int (m := .B))) (ej_ixB (huR hr) (ej_var (m := .B) (i := 7) rfl (.inl rfl)) (ej_int (m := .B)))) (nomark _))
 (bj_one (sj_ret (oj_E (ej_bl (m := .E)))))
 bj_nil))))
 (bj_cons (sj_frz 3 (sj_frz 2 (sj_if (wj_tj (wj_or (tj_cmp op_notBl cmp_notB (ej_B (ej_O (oj_call D_is_order hr (by decide) tk rfl (lj_cons (ej_var (m := .E) (i := 2) rfl (.inl rfl)) (lj_cons (ej_var (m := .E) (i := 3) rfl (.inl rfl)) (lj_cons (ej_O (oj_callT1 (call_listA rfl) c_listA rfl T.f_list (by decide +kernel) (ej_var (m := .I) (i := 4) rfl (.inl rfl)))) lj_nil)))))) (ej_bl (m := .B)) (nomark _)) (wj_or1 (tj_cmp op_notBl cmp_notB (ej_B (ej_O (oj_call D_is_loop hr (by decide) tk rfl (lj_cons (ej_var (m := .B) (i := 2) rfl (.inl rfl)) (lj_cons (ej_var (m := .B) (i := 3) rfl (.inl rfl)) (lj_cons (ej_O (oj_callT1 (call_listA rfl) c_listA rfl T.f_list (by decide +kernel) (ej_var (m := .I) (i := 4) rfl (.inl rfl)))) lj_nil)))))) (ej_bl (m := .B)) (nomark _)))))
 (bj_one (sj_ret (oj_E (ej_bl (m := .E)))))
 bj_nil)))
 (bj_cons (sj_asg (i := 8) Sc.nd rfl (.inl rfl) (oj_E (ej_mod (m := .E) (ej_ixB (huR hr) (ej_var (m := .B) (i := 1) rfl (.inl rfl)) (ej_int (m := .B))) (ej_call1 (m := .B) call_len c_len rfl T.f_len (by decide +kernel) (ej_var (m := .B) (i := 2) rfl (.inl rfl))))))
 (bj_cons (sj_asg (i := 9) Sc.nd rfl (.inr rfl) (oj_add (ej_int (m := .I)) (ej_mod (m := .I) (ej_ixB (huR hr) (ej_var (m := .B) (i := 1) rfl (.inl rfl)) (ej_int (m := .B))) (ej_sub (m := .B) (ej_call1 (m := .B) call_len c_len rfl T.f_len (by decide +kernel) (ej_var (m := .B) (i := 2) rfl (.inl rfl))) (ej_var (m := .B) (i := 8) rfl (.inl rfl))))))
 (bj_cons (sj_asg (i := 10) Sc.nd rfl (.inr rfl) (oj_sl (ej_var (m := .I) (i := 4) rfl (.inl rfl)) (pj_some (ej_var (m := .B) (i := 8) rfl (.inl rfl))) (pj_some (ej_B (ej_O (oj_add (ej_var (m := .I) (i := 8) rfl (.inl rfl)) (ej_var (m := .I) (i := 9) rfl (.inr (.inl rfl)))))))))
 (bj_cons (sj_asg (i := 11) Sc.nd rfl (.inl rfl) (oj_add (ej_var (m := .I) (i := 3) rfl (.inl rfl)) (ej_I (ej_O (oj_comp rfl Sc.nd (own := [("k", 12)]) (ij_range1 rfl T.f_range (ej_var (m := .B) (i := 9) rfl (.inr (.inl rfl)))) (blkOk_by (N := ["script", "n", "names", "pairs", "due", "given", "found", "pair", "start", "size", "ring", "closed", "k"]) (sc := defScope st__law_large_ones) (by decide +kernel)) (fun _ _ _ _ _ _ => (gj_name (i := 12) Sc.nd rfl (.inl rfl))) (fun _ _ _ _ _ _ => tsj_nil) (fun _ _ _ _ _ _ => (ej_tup (le_cons (ej_ix (huR hr) (ej_var (m := .I) (i := 10) rfl (.inr (.inl rfl))) (ej_var (m := .B) (i := 12) rfl (.inl rfl))) (le_cons (ej_ix (huR hr) (ej_var (m := .I) (i := 10) rfl (.inr (.inl rfl))) (ej_mod (m := .B) (ej_B (ej_O (oj_add (ej_var (m := .I) (i := 12) rfl (.inl rfl)) (ej_int (m := .I))))) (ej_var (m := .B) (i := 9) rfl (.inr (.inl rfl))))) le_nil)))))))))
 (bj_cons (sj_if (tj_cmp (op_eqD (huR hr).u64) cmp_eq (ej_mod (m := .B) (ej_ixB (huR hr) (ej_var (m := .B) (i := 1) rfl (.inl rfl)) (ej_int (m := .B))) (ej_int (m := .B))) (ej_int (m := .B)) (nomark _))
 (bj_one (sj_asg (i := 11) Sc.nd rfl (.inl rfl) (oj_rev (ej_var (m := .I) (i := 11) rfl (.inl rfl)) (ej_neg (m := .B) (ej_int (m := .B))))))
 bj_nil)
 (bj_cons (sj_asg (i := 6) Sc.nd rfl (.inl rfl) (oj_call D_answer hr (by decide) tk rfl (lj_cons (ej_O (oj_callT1 (call_listA rfl) c_listA rfl T.f_list (by decide +kernel) (ej_var (m := .I) (i := 2) rfl (.inl rfl)))) (lj_cons (ej_O (oj_callT1 (call_listA rfl) c_listA rfl T.f_list (by decide +kernel) (ej_var (m := .I) (i := 11) rfl (.inl rfl)))) lj_nil))))
 (bj_cons (sj_if (wj_tj (wj_or (tj_not (tj_val (ej_isi (m := .B) .tuple rfl T.f_isinstance rfl T.f_tuple (by decide +kernel) (ej_var (m := .B) (i := 6) rfl (.inl rfl))))) (wj_or (tj_cmp (op_neD (huR hr).u64) cmp_ne (ej_call1 (m := .B) call_len c_len rfl T.f_len (by decide +kernel) (ej_var (m := .B) (i := 6) rfl (.inl rfl))) (ej_int (m := .B)) (nomark _)) (wj_or (tj_cmp (op_neD (huR hr).u64) cmp_ne (ej_ixB (huR hr) (ej_var (m := .B) (i := 6) rfl (.inl rfl)) (ej_int (m := .B))) (ej_str (m := .B) (mkS_txt _).symm) (nomark _)) (wj_or1 (tj_not (tj_val (ej_B (ej_O (oj_call D__law_is_loop hr (by decide) tk rfl (lj_cons (ej_var (m := .B) (i := 2) rfl (.inl rfl)) (lj_cons (ej_var (m := .B) (i := 11) rfl (.inl rfl)) (lj_cons (ej_ixB (huR hr) (ej_var (m := .B) (i := 6) rfl (.inl rfl)) (ej_int (m := .B))) lj_nil)))))))))))))
 (bj_one (sj_ret (oj_E (ej_bl (m := .E)))))
 bj_nil)
 (bj_cons (sj_if (wj_tj (wj_or (tj_cmp op_notBl cmp_notB (ej_B (ej_O (oj_call D_is_loop hr (by decide) tk rfl (lj_cons (ej_var (m := .B) (i := 2) rfl (.inl rfl)) (lj_cons (ej_var (m := .B) (i := 11) rfl (.inl rfl)) (lj_cons (ej_O (oj_callT1 (call_listA rfl) c_listA rfl T.f_list (by decide +kernel) (ej_pth (m := .I) (pxj_ix (huR hr) (pxj_name (i := 6) rfl (.inl rfl)) (ej_int (m := .B)))))) lj_nil)))))) (ej_bl (m := .B)) (nomark _)) (wj_or1 (tj_cmp op_notBl cmp_notB (ej_B (ej_O (oj_call D_is_loop hr (by decide) tk rfl (lj_cons (ej_var (m := .B) (i := 2) rfl (.inl rfl)) (lj_cons (ej_var (m := .B) (i := 11) rfl (.inl rfl)) (lj_cons (ej_O (oj_callT1 (call_listA rfl) c_listA rfl T.f_list (by decide +kernel) (ej_var (m := .I) (i := 10) rfl (.inr (.inl rfl))))) lj_nil)))))) (ej_bl (m := .B)) (nomark _)))))
 (bj_one (sj_ret (oj_E (ej_bl (m := .E)))))
 bj_nil)
 (bj_one (sj_frz 11 (sj_frz 2 (sj_ret (oj_E (ej_and (ej_cmp (m := .B) op_isBl cmp_isB (ej_B (ej_O (oj_call D_is_order hr (by decide) tk rfl (lj_cons (ej_var (m := .E) (i := 2) rfl (.inl rfl)) (lj_cons (ej_var (m := .E) (i := 11) rfl (.inl rfl)) (lj_cons (ej_O (oj_callT1 (call_listA rfl) c_listA rfl T.f_list (by decide +kernel) (ej_var (m := .I) (i := 4) rfl (.inl rfl)))) lj_nil)))))) (ej_bl (m := .B)) (nomark _)) (ej_one (ej_cmp (m := .E) op_isBl cmp_isB (ej_B (ej_O (oj_call D_is_loop hr (by decide) tk rfl (lj_cons (ej_var (m := .B) (i := 2) rfl (.inl rfl)) (lj_cons (ej_var (m := .B) (i := 3) rfl (.inl rfl)) (lj_cons (ej_O (oj_callT1 (call_listA rfl) c_listA rfl T.f_list (by decide +kernel) (ej_var (m := .I) (i := 10) rfl (.inr (.inl rfl))))) lj_nil)))))) (ej_bl (m := .B)) (nomark _)))))))))))))))))))))))))))

/-! ### _law_all_orders -/
abbrev st__law_all_orders : Stmt := top 38
def L__law_all_orders_1 : S :=
 (sSeq (sFrz 2) (sAsg 3 (oBin gAdd (eVar .I 3) (eOfO (oComp (lRange1 (eOfO (oBin gAdd (eUn gLen (eVar .B 4)) (eC (.int 1))))) [5] (gNm 5) tYesF (eOfO (oBin gAdd (eOfO (oBin gAdd (eOfO (oSl (eVar .I 4) pNo (pAt (eVar .B 5)))) (eOfO (oLst (lCons (eVar .E 2) lNil))))) (eOfO (oSl (eVar .I 4) (pAt (eVar .B 5)) pNo)))))))))
def R__law_all_orders_2 : S :=
 (sSeq (sFrz 3) (sAsg 1 (oOfE (eVar .E 3))))
def L__law_all_orders_3 : S :=
 (sSeq (sAsg 3 (oLst lNil))
 (sSeq (sSeq (sFrz 1) (sFor (lOfA (eVar .E 1)) (gNm 4)
 L__law_all_orders_1))
 R__law_all_orders_2))
def R__law_all_orders_4 : S :=
 (sRetV 1)
def b__law_all_orders : S :=
 (sSeq (sAsg 1 (oLst (lCons (eOfO (oLst lNil)) lNil)))
 (sSeq (sSeq (sFrz 0) (sFor (lOfA (eVar .E 0)) (gNm 2)
 L__law_all_orders_3))
 R__law_all_orders_4))
def g__law_all_orders : Fn := runFn 6 [.E] b__law_all_orders
theorem sc__law_all_orders : FnScope ["names", "found", "name", "longer", "order", "k"] ["names"] (defScope st__law_all_orders) := ⟨rfl, rfl, rfl, by decide +kernel, rfl, by decide +kernel, by decide +kernel⟩
theorem ok__law_all_orders {P : Program} {w : World} {K : PySem.W.Frag} {mg : Str → Option Value} {base : Heap} {f : Addr} {fd : FuncData} (T : Txt K mg) (F : FunD K "_law_all_orders" "_law_all_orders" (defArgs st__law_all_orders) (defBody st__law_all_orders) (defScope st__law_all_orders) [] [] f fd) (hg : mg "_law_all_orders" = some (.ref f))  :
    DefOk P w K mg base 1 "_law_all_orders" ["names"] [.E] g__law_all_orders :=
  have Sc := sc__law_all_orders
  def_ok (k := 0) (N := ["names", "found", "name", "longer", "order", "k"]) F Sc rfl (by decide) hg (fun _ _ _ _ _ _ us hl => match us, hl with | [_], _ => rfl) fun cdv A outer sh H E C hr tk po =>
 (bj_cons (sj_asg (i := 1) Sc.nd rfl (.inl rfl) (oj_lst (le_cons (ej_O (oj_lst le_nil)) le_nil)))
 (bj_cons (sj_frz 0 (sj_for (vs := [2]) po rfl (ij_seqA (ej_var (m := .E) (i := 0) rfl (.inl rfl))) (gj_name (i := 2) Sc.nd rfl (.inr rfl))
 (bj_cons (sj_asg (i := 3) Sc.nd rfl (.inl rfl) (oj_lst le_nil))
 (bj_cons (sj_frz 1 (sj_for (vs := [4]) po rfl (ij_seqA (ej_var (m := .E) (i := 1) rfl (.inl rfl))) (gj_name (i := 4) Sc.nd rfl (.inr rfl))
 (bj_one (sj_frz 2 (sj_asg (i := 3) Sc.nd rfl (.inl rfl) (oj_add (ej_var (m := .I) (i := 3) rfl (.inl rfl)) (ej_I (ej_O (oj_comp rfl Sc.nd (own := [("k", 5)]) (ij_range1 rfl T.f_range (ej_B (ej_O (oj_add (ej_call1 (m := .I) call_len c_len rfl T.f_len (by decide +kernel) (ej_var (m := .B) (i := 4) rfl (.inr (.inl rfl)))) (ej_int (m := .I)))))) (blkOk_by (N := ["names", "found", "name", "longer", "order", "k"]) (sc := defScope st__law_all_orders) (by decide +kernel)) (fun _ _ _ _ _ _ => (gj_name (i := 5) Sc.nd rfl (.inl rfl))) (fun _ _ _ _ _ _ => tsj_nil) (fun _ _ _ _ _ _ => (ej_O (oj_add (ej_I (ej_O (oj_add (ej_I (ej_O (oj_sl (ej_var (m := .I) (i := 4) rfl (.inr (.inl rfl))) pj_none (pj_some (ej_var (m := .B) (i := 5) rfl (.inl rfl)))))) (ej_I (ej_O (oj_lst (le_cons (ej_var (m := .E) (i := 2) rfl (.inr (.inl rfl))) le_nil))))))) (ej_I (ej_O (oj_sl (ej_var (m := .I) (i := 4) rfl (.inr (.inl rfl))) (pj_some (ej_var (m := .B) (i := 5) rfl (.inl rfl))) pj_none)))))))))))))))
 (bj_one (sj_frz 3 (sj_asg (i := 1) Sc.nd rfl (.inl rfl) (oj_E (ej_var (m := .E) (i := 3) rfl (.inl rfl))))))))))
 (bj_one (sj_retV (i := 1) rfl (.inl rfl)))))

/-! ### _law_keeps -/
abbrev st__law_keeps : Stmt := top 39
def L__law_keeps_1 : S :=
 (sIf (tCmp gGe (eM1 .list gIndex (eVar .B 0) (eIx (eVar .B 2) (eC (.int 0)))) (eM1 .list gIndex (eVar .B 0) (eIx (eVar .B 2) (eC (.int 1)))))
 (sRet (oOfE (eC (.bl false))))
 sNil)
def R__law_keeps_2 : S :=
 (sRet (oOfE (eC (.bl true))))
def b__law_keeps : S :=
 (sSeq (sSeq (sFrz 1) (sFor (lOfA (eVar .E 1)) (gNm 2)
 L__law_keeps_1))
 R__law_keeps_2)
def g__law_keeps : Fn := runFn 3 [.B, .E] b__law_keeps
theorem sc__law_keeps : FnScope ["order", "pairs", "pair"] ["order", "pairs"] (defScope st__law_keeps) := ⟨rfl, rfl, rfl, by decide +kernel, rfl, by decide +kernel, by decide +kernel⟩
theorem ok__law_keeps {P : Program} {w : World} {K : PySem.W.Frag} {mg : Str → Option Value} {base : Heap} {f : Addr} {fd : FuncData} (T : Txt K mg) (F : FunD K "_law_keeps" "_law_keeps" (defArgs st__law_keeps) (defBody st__law_keeps) (defScope st__law_keeps) [] [] f fd) (hg : mg "_law_keeps" = some (.ref f))  :
    DefOk P w K mg base 1 "_law_keeps" ["order", "pairs"] [.B, .E] g__law_keeps :=
  have Sc := sc__law_keeps
  def_ok (k := 0) (N := ["order", "pairs", "pair"]) F Sc rfl (by decide) hg (fun _ _ _ _ _ _ us hl => match us, hl with | [_, _], _ => rfl) fun cdv A outer sh H E C hr tk po =>
 (bj_cons (sj_frz 1 (sj_for (vs := [2]) po rfl (ij_seqA (ej_var (m := .E) (i := 1) rfl (.inl rfl))) (gj_name (i := 2) Sc.nd rfl (.inl rfl))
 (bj_one (sj_if (tj_cmp opr_ge cmp_ge (ej_m1 (m := .B) .list PySem.F.plainAttrs_list PySem.F.slot_list_index PySem.F.type_list_index mt_index m_index (ej_var (m := .B) (i := 0) rfl (.inl rfl)) (ej_ixB (huR hr) (ej_var (m := .B) (i := 2) rfl (.inl rfl)) (ej_int (m := .B)))) (ej_m1 (m := .B) .list PySem.F.plainAttrs_list PySem.F.slot_list_index PySem.F.type_list_index mt_index m_index (ej_var (m := .B) (i := 0) rfl (.inl rfl)) (ej_ixB (huR hr) (ej_var (m := .B) (i := 2) rfl (.inl rfl)) (ej_int (m := .B)))) (nomark _))
 (bj_one (sj_ret (oj_E (ej_bl (m := .E)))))
 bj_nil))))
 (bj_one (sj_ret (oj_E (ej_bl (m := .E))))))

/-! ### _law_small_ones -/
abbrev st__law_small_ones : Stmt := top 40
def R__law_small_ones_1 : S :=
 (sAppP 8 (pxIx 8 (pxName 8) (eC (.int 1))) (eC (.str (txt "spoilt"))))
def R__law_small_ones_2 : S :=
 (sSeq (sIf (tCmp gNe (eVar .B 5) (eOfO (oLst lNil)))
 (sIf (tOrF (tNotF (tOfE (eUn (isT .list) (eIx (eVar .B 8) (eC (.int 1)))))) (tCmp gNe (eVar .B 8) (eTup (lCons (eC (.str (txt "order"))) (lCons (eOfO (oUn gMinD (eVar .I 5))) lNil)))))
 (sRet (oOfE (eC (.bl false))))
 sNil)
 (sIf (tOrF (tCmp gNe (eIx (eVar .B 8) (eC (.int 0))) (eC (.str (txt "loop")))) (tOrF (tNotF (tOfE (eOfO (oCall g__law_is_loop (lCons (eVar .B 2) (lCons (eVar .B 3) (lCons (eIx (eVar .B 8) (eC (.int 1))) lNil))))))) (tCmp gNotB (eOfO (oCall g_is_loop (lCons (eVar .B 2) (lCons (eVar .B 3) (lCons (eOfO (oUn gListA (ePth .I 8 (pxIx 8 (pxName 8) (eC (.int 1)))))) lNil))))) (eC (.bl true)))))
 (sRet (oOfE (eC (.bl false))))
 sNil))
 R__law_small_ones_1)
def L__law_small_ones_3 : S :=
 (sSeq (sAsg 8 (oCall g_answer (lCons (eIx (eVar .I 6) (eC (.int 0))) (lCons (eIx (eVar .I 6) (eC (.int 1))) lNil))))
 (sSeq (sSeq (sFrz 3) (sSeq (sFrz 2) (sIf (tOrF (tNotF (tOfE (eUn (isT .tuple) (eVar .B 8)))) (tOrF (tCmp gNe (eUn gLen (eVar .B 8)) (eC (.int 2))) (tCmp gNe (eVar .B 6) (eOfO (oLst (lCons (eVar .E 2) (lCons (eVar .E 3) lNil)))))))
 (sRet (oOfE (eC (.bl false))))
 sNil)))
 R__law_small_ones_2))
def L__law_small_ones_4 : S :=
 (sSeq (sAsg 11 (oOfE (eIx (eVar .I 4) (eVar .B 10))))
 (sSeq (sAsg 12 (oCall g_is_order (lCons (eIx (eVar .I 6) (eC (.int 0))) (lCons (eIx (eVar .I 6) (eC (.int 1))) (lCons (eOfO (oUn gListA (eVar .I 11))) lNil)))))
 (sIf (tOrF (tNotF (tOfE (eUn (isT .bool) (eVar .B 12)))) (tCmp gNe (eVar .B 12) (eCmp gIn (eVar .B 11) (eVar .B 5))))
 (sRet (oOfE (eC (.bl false))))
 sNil)))
def L__law_small_ones_5 : S :=
 (sSeq (sFrz 13) (sIf (tCmp gNotB (eOfO (oCall g_is_loop (lCons (eIx (eVar .B 6) (eC (.int 0))) (lCons (eIx (eVar .B 6) (eC (.int 1))) (lCons (eOfO (oLst (lCons (eVar .E 13) lNil))) lNil))))) (eC (.bl false)))
 (sRet (oOfE (eC (.bl false))))
 sNil))
def R__law_small_ones_6 : S :=
 (sRet (oOfE (eCmp gIsB (eOfO (oCall g_is_order (lCons (eIx (eVar .I 6) (eC (.int 0))) (lCons (eIx (eVar .I 6) (eC (.int 1))) (lCons (eOfO (oUn gListA (eIx (eVar .I 5) (eBin gMod (eIx (eVar .B 1) (eC (.int 3))) (eUn gLen (eVar .B 5)))))) lNil))))) (eC (.bl true)))))
def R__law_small_ones_7 : S :=
 (sSeq (sFrz 3) (sSeq (sFrz 2) (sRet (oOfE (eCmp gEq (eVar .B 6) (eOfO (oLst (lCons (eVar .E 2) (lCons (eVar .E 3) lNil)))))))))
def R__law_small_ones_8 : S :=
 (sSeq (sIf (tCmp gNe (eVar .B 5) (eOfO (oLst lNil)))
 (sSeq (sSeq (sFrz 2) (sFor (lOfA (eVar .E 2)) (gNm 13)
 L__law_small_ones_5))
 R__law_small_ones_6)
 sNil)
 R__law_small_ones_7)
def R__law_small_ones_9 : S :=
 (sSeq (sAsg 9 (oBin gAdd (eC (.int 1)) (eBin gDiv (eUn gLen (eVar .B 4)) (eC (.int 60)))))
 (sSeq (sFor (lRange3A (eC (.int 0)) (eUn gLen (eVar .B 4)) (eVar .B 9)) (gNm 10)
 L__law_small_ones_4)
 R__law_small_ones_8))
def b__law_small_ones : S :=
 (sSeq (sAsg 1 (oCall g__law_numbers (lCons (eVar .B 0) (lCons (eC (.int 0)) (lCons (eC (.int 20)) lNil)))))
 (sSeq (sAsg 2 (oCall g__law_fields (lCons (eVar .B 0) (lCons (eC (.int 1)) (lCons (eOfO (oBin gAdd (eC (.int 1)) (eBin gMod (eIx (eVar .B 1) (eC (.int 0))) (eC (.int 6))))) lNil)))))
 (sSeq (sSeq (sFrz 2) (sAsg 3 (oCall g__law_pairs (lCons (eVar .B 0) (lCons (eC (.int 2)) (lCons (eVar .E 2) (lCons (eBin gMod (eIx (eVar .B 1) (eC (.int 1))) (eC (.int 13))) (lCons (eBin gMod (eIx (eVar .B 1) (eC (.int 2))) (eC (.int 3))) lNil))))))))
 (sSeq (sSeq (sFrz 2) (sAsg 4 (oCall g__law_all_orders (lCons (eVar .E 2) lNil))))
 (sSeq (sSeq (sFrz 11) (sSeq (sFrz 3) (sAsg 5 (oComp (lOfA (eVar .I 4)) [11] (gNm 11) (tOfE (eOfO (oCall g__law_keeps (lCons (eVar .B 11) (lCons (eVar .E 3) lNil))))) (eVar .E 11)))))
 (sSeq (sAsg 6 (oLst (lCons (eOfO (oUn gListA (eVar .I 2))) (lCons (eOfO (oUn gListA (eVar .I 3))) lNil))))
 (sSeq (sFor (lRange1 (eC (.int 2))) (gNm 7)
 L__law_small_ones_3)
 R__law_small_ones_9)))))))
def g__law_small_ones : Fn := runFn 14 [.B] b__law_small_ones
theorem sc__law_small_ones : FnScope ["script", "n", "names", "pairs", "orders", "right", "passed", "turn", "found", "step", "k", "order", "said", "name"] ["script"] (defScope st__law_small_ones) := ⟨rfl, rfl, rfl, by decide +kernel, rfl, by decide +kernel, by decide +kernel⟩
theorem ok__law_small_ones {P : Program} {w : World} {K : PySem.W.Frag} {mg : Str → Option Value} {base : Heap} {f : Addr} {fd : FuncData} (T : Txt K mg) (F : FunD K "_law_small_ones" "_law_small_ones" (defArgs st__law_small_ones) (defBody st__law_small_ones) (defScope st__law_small_ones) [] [] f fd) (hg : mg "_law_small_ones" = some (.ref f)) (D__law_all_orders : DefOk P w K mg base 1 "_law_all_orders" ["names"] [.E] g__law_all_orders) (D__law_fields : DefOk P w K mg base 3 "_law_fields" ["script", "at", "count"] [.B, .E, .B] g__law_fields) (D__law_is_loop : DefOk P w K mg base 1 "_law_is_loop" ["names", "pairs", "found"] [.B, .B, .B] g__law_is_loop) (D__law_keeps : DefOk P w K mg base 1 "_law_keeps" ["order", "pairs"] [.B, .E] g__law_keeps) (D__law_numbers : DefOk P w K mg base 1 "_law_numbers" ["script", "at", "count"] [.B, .E, .B] g__law_numbers) (D__law_pairs : DefOk P w K mg base 2 "_law_pairs" ["script", "at", "names", "many", "kind"] [.B, .E, .E, .B, .B] g__law_pairs) (D_answer : DefOk P w K mg base 5 "answer" ["names", "pairs"] [.E, .E] g_answer) (D_is_loop : DefOk P w K mg base 1 "is_loop" ["names", "pairs", "value"] [.B, .B, .E] g_is_loop) (D_is_order : DefOk P w K mg base 2 "is_order" ["names", "pairs", "value"] [.E, .E, .E] g_is_order) :
    DefOk P w K mg base 6 "_law_small_ones" ["script"] [.B] g__law_small_ones :=
  have Sc := sc__law_small_ones
  def_ok (k := 5) (N := ["script", "n", "names", "pairs", "orders", "right", "passed", "turn", "found", "step", "k", "order", "said", "name"]) F Sc rfl (by decide) hg (fun _ _ _ _ _ _ us hl => match us, hl with | [_], _ => rfl) fun cdv A outer sh H E C hr tk po =>
 (bj_cons (sj_asg (i := 1) Sc.nd rfl (.inl rfl) (oj_call D__law_numbers hr (by decide) tk rfl (lj_cons (ej_var (m := .B) (i := 0) rfl (.inl rfl)) (lj_cons (ej_int (m := .E)) (lj_cons (ej_int (m := .B)) lj_nil)))))
 (bj_cons (sj_asg (i := 2) Sc.nd rfl (.inl rfl) (oj_call D__law_fields hr (by decide) tk rfl (lj_cons (ej_var (m := .B) (i := 0) rfl (.inl rfl)) (lj_cons (ej_int (m := .E)) (lj_cons (ej_B (ej_O (oj_add (ej_int (m := .I)) (ej_mod (m := .I) (ej_ixB (huR hr) (ej_var (m := .B) (i := 1) rfl (.inl rfl)) (ej_int (m := .B))) (ej_int (m := .B)))))) lj_nil)))))
 (bj_cons (sj_frz 2 (sj_asg (i := 3) Sc.nd rfl (.inr rfl) (oj_call D__law_pairs hr (by decide) tk rfl (lj_cons (ej_var (m := .B) (i := 0) rfl (.inl rfl)) (lj_cons (ej_int (m := .E)) (lj_cons (ej_var (m := .E) (i := 2) rfl (.inl rfl)) (lj_cons (ej_mod (m := .B) (ej_ixB (huR hr) (ej_var (m := .B) (i := 1) rfl (.inl rfl)) (ej_int (m := .B))) (ej_int (m := .B))) (lj_cons (ej_mod (m := .B) (ej_ixB (huR hr) (ej_var (m := .B) (i := 1) rfl (.inl rfl)) (ej_int (m := .B))) (ej_int (m := .B))) lj_nil))))))))
 (bj_cons (sj_frz 2 (sj_asg (i := 4) Sc.nd rfl (.inl rfl) (oj_call D__law_all_orders hr (by decide) tk rfl (lj_cons (ej_var (m := .E) (i := 2) rfl (.inl rfl)) lj_nil))))
 (bj_cons (sj_frz 11 (sj_frz 3 (sj_asgLc (i := 5) rfl Sc.nd rfl rfl (sw_true rfl rfl rfl (by decide +kernel)) (own := [("order", 11)]) (ij_seqSA (ej_var (m := .I) (i := 4) rfl (.inl rfl))) (blkOk_by (N := ["script", "n", "names", "pairs", "orders", "right", "passed", "turn", "found", "step", "k", "order", "said", "name"]) (sc := defScope st__law_small_ones) (by decide +kernel)) (fun _ _ _ _ _ _ => (gj_name (i := 11) Sc.nd rfl (.inl rfl))) (fun _ _ _ _ _ _ => (tsj_one (tj_val (ej_B (ej_O (oj_call D__law_keeps hr (by decide) takes0 rfl (lj_cons (ej_var (m := .B) (i := 11) rfl (.inl rfl)) (lj_cons (ej_var (m := .E) (i := 3) rfl (.inr (.inl rfl))) lj_nil)))))))) (fun _ _ _ _ _ _ => (ej_var (m := .E) (i := 11) rfl (.inl rfl))))))
 (bj_cons (sj_asg (i := 6) Sc.nd rfl (.inl rfl) (oj_lst (le_cons (ej_O (oj_callT1 (call_listA rfl) c_listA rfl T.f_list (by decide +kernel) (ej_var (m := .I) (i := 2) rfl (.inl rfl)))) (le_cons (ej_O (oj_callT1 (call_listA rfl) c_listA rfl T.f_list (by decide +kernel) (ej_var (m := .I) (i := 3) rfl (.inr (.inl rfl))))) le_nil))))
 (bj_cons (sj_for (vs := [7]) po rfl (ij_range1 rfl T.f_range (ej_int (m := .B))) (gj_name (i := 7) Sc.nd rfl (.inl rfl))
 (bj_cons (sj_asg (i := 8) Sc.nd rfl (.inl rfl) (oj_call D_answer hr (by decide) tk rfl (lj_cons (ej_ix (huR hr) (ej_var (m := .I) (i := 6) rfl (.inl rfl)) (ej_int (m := .B))) (lj_cons (ej_ix (huR hr) (ej_var (m := .I) (i := 6) rfl (.inl rfl)) (ej_int (m := .B))) lj_nil))))
 (bj_cons (sj_frz 3 (sj_frz 2 (sj_if (wj_tj (wj_or (tj_not (tj_val (ej_isi (m := .B) .tuple rfl T.f_isinstance rfl T.f_tuple (by decide +kernel) (ej_var (m := .B) (i := 8) rfl (.inl rfl))))) (wj_or (tj_cmp (op_neD (huR hr).u64) cmp_ne (ej_call1 (m := .B) call_len c_len rfl T.f_len (by decide +kernel) (ej_var (m := .B) (i := 8) rfl (.inl rfl))) (ej_int (m := .B)) (nomark _)) (wj_or1 (tj_cmp (op_neD (huR hr).u64) cmp_ne (ej_var (m := .B) (i := 6) rfl (.inl rfl)) (ej_B (ej_O (oj_lst (le_cons (ej_var (m := .E) (i := 2) rfl (.inl rfl)) (le_cons (ej_var (m := .E) (i := 3) rfl (.inr (.inl rfl))) le_nil))))) (nomark _))))))
 (bj_one (sj_ret (oj_E (ej_bl (m := .E)))))
 bj_nil)))
 (bj_cons (sj_if (tj_cmp (op_neD (huR hr).u64) cmp_ne (ej_var (m := .B) (i := 5) rfl (.inl rfl)) (ej_B (ej_O (oj_lst le_nil))) (nomark _))
 (bj_one (sj_if (wj_tj (wj_or (tj_not (tj_val (ej_isi (m := .B) .list rfl T.f_isinstance rfl T.f_list (by decide +kernel) (ej_ixB (huR hr) (ej_var (m := .B) (i := 8) rfl (.inl rfl)) (ej_int (m := .B)))))) (wj_or1 (tj_cmp (op_neD (huR hr).u64) cmp_ne (ej_var (m := .B) (i := 8) rfl (.inl rfl)) (ej_B (ej_tup (le_cons (ej_str (m := .E) (mkS_txt _).symm) (le_cons (ej_O (oj_call1 (cr_minD rfl (huR hr)) c_minD rfl T.f_min (by decide +kernel) (ej_var (m := .I) (i := 5) rfl (.inl rfl)))) le_nil)))) (nomark _)))))
 (bj_one (sj_ret (oj_E (ej_bl (m := .E)))))
 bj_nil))
 (bj_one (sj_if (wj_tj (wj_or (tj_cmp (op_neD (huR hr).u64) cmp_ne (ej_ixB (huR hr) (ej_var (m := .B) (i := 8) rfl (.inl rfl)) (ej_int (m := .B))) (ej_str (m := .B) (mkS_txt _).symm) (nomark _)) (wj_or (tj_not (tj_val (ej_B (ej_O (oj_call D__law_is_loop hr (by decide) tk rfl (lj_cons (ej_var (m := .B) (i := 2) rfl (.inl rfl)) (lj_cons (ej_var (m := .B) (i := 3) rfl (.inr (.inl rfl))) (lj_cons (ej_ixB (huR hr) (ej_var (m := .B) (i := 8) rfl (.inl rfl)) (ej_int (m := .B))) lj_nil)))))))) (wj_or1 (tj_cmp op_notBl cmp_notB (ej_B (ej_O (oj_call D_is_loop hr (by decide) tk rfl (lj_cons (ej_var (m := .B) (i := 2) rfl (.inl rfl)) (lj_cons (ej_var (m := .B) (i := 3) rfl (.inr (.inl rfl))) (lj_cons (ej_O (oj_callT1 (call_listA rfl) c_listA rfl T.f_list (by decide +kernel) (ej_pth (m := .I) (pxj_ix (huR hr) (pxj_name (i := 8) rfl (.inl rfl)) (ej_int (m := .B)))))) lj_nil)))))) (ej_bl (m := .B)) (nomark _))))))
 (bj_one (sj_ret (oj_E (ej_bl (m := .E)))))
 bj_nil)))
 (bj_one (sj_appP (pxj_ix (huR hr) (pxj_name (i := 8) rfl (.inl rfl)) (ej_int (m := .B))) (ej_str (m := .E) (mkS_txt _).symm)))))))
 (bj_cons (sj_asg (i := 9) Sc.nd rfl (.inl rfl) (oj_add (ej_int (m := .I)) (ej_fdiv (m := .I) (ej_call1 (m := .B) call_len c_len rfl T.f_len (by decide +kernel) (ej_var (m := .B) (i := 4) rfl (.inl rfl))) (ej_int (m := .B)))))
 (bj_cons (sj_for (vs := [10]) po rfl (ij_range3A rfl T.f_range (ej_int (m := .B)) (ej_call1 (m := .B) call_len c_len rfl T.f_len (by decide +kernel) (ej_var (m := .B) (i := 4) rfl (.inl rfl))) (ej_var (m := .B) (i := 9) rfl (.inl rfl))) (gj_name (i := 10) Sc.nd rfl (.inl rfl))
 (bj_cons (sj_asg (i := 11) Sc.nd rfl (.inl rfl) (oj_E (ej_ix (huR hr) (ej_var (m := .I) (i := 4) rfl (.inl rfl)) (ej_var (m := .B) (i := 10) rfl (.inl rfl)))))
 (bj_cons (sj_asg (i := 12) Sc.nd rfl (.inl rfl) (oj_call D_is_order hr (by decide) tk rfl (lj_cons (ej_ix (huR hr) (ej_var (m := .I) (i := 6) rfl (.inl rfl)) (ej_int (m := .B))) (lj_cons (ej_ix (huR hr) (ej_var (m := .I) (i := 6) rfl (.inl rfl)) (ej_int (m := .B))) (lj_cons (ej_O (oj_callT1 (call_listA rfl) c_listA rfl T.f_list (by decide +kernel) (ej_var (m := .I) (i := 11) rfl (.inl rfl)))) lj_nil)))))
 (bj_one (sj_if (wj_tj (wj_or (tj_not (tj_val (ej_isi (m := .B) .bool rfl T.f_isinstance rfl T.f_bool (by decide +kernel) (ej_var (m := .B) (i := 12) rfl (.inl rfl))))) (wj_or1 (tj_cmp (op_neD (huR hr).u64) cmp_ne (ej_var (m := .B) (i := 12) rfl (.inl rfl)) (ej_cmp (m := .B) (opr_in (huR hr)) cmp_in (ej_var (m := .B) (i := 11) rfl (.inl rfl)) (ej_var (m := .B) (i := 5) rfl (.inl rfl)) (by rfl)) (nomark _)))))
 (bj_one (sj_ret (oj_E (ej_bl (m := .E)))))
 bj_nil)))))
 (bj_cons (sj_if (tj_cmp (op_neD (huR hr).u64) cmp_ne (ej_var (m := .B) (i := 5) rfl (.inl rfl)) (ej_B (ej_O (oj_lst le_nil))) (nomark _))
 (bj_cons (sj_frz 2 (sj_for (vs := [13]) po rfl (ij_seqA (ej_var (m := .E) (i := 2) rfl (.inl rfl))) (gj_name (i := 13) Sc.nd rfl (.inl rfl))
 (bj_one (sj_frz 13 (sj_if (tj_cmp op_notBl cmp_notB (ej_B (ej_O (oj_call D_is_loop hr (by decide) tk rfl (lj_cons (ej_ixB (huR hr) (ej_var (m := .B) (i := 6) rfl (.inl rfl)) (ej_int (m := .B))) (lj_cons (ej_ixB (huR hr) (ej_var (m := .B) (i := 6) rfl (.inl rfl)) (ej_int (m := .B))) (lj_cons (ej_O (oj_lst (le_cons (ej_var (m := .E) (i := 13) rfl (.inl rfl)) le_nil))) lj_nil)))))) (ej_bl (m := .B)) (nomark _))
 (bj_one (sj_ret (oj_E (ej_bl (m := .E)))))
 bj_nil)))))
 (bj_one (sj_ret (oj_E (ej_cmp (m := .E) op_isBl cmp_isB (ej_B (ej_O (oj_call D_is_order hr (by decide) tk rfl (lj_cons (ej_ix (huR hr) (ej_var (m := .I) (i := 6) rfl (.inl rfl)) (ej_int (m := .B))) (lj_cons (ej_ix (huR hr) (ej_var (m := .I) (i := 6) rfl (.inl rfl)) (ej_int (m := .B))) (lj_cons (ej_O (oj_callT1 (call_listA rfl) c_listA rfl T.f_list (by decide +kernel) (ej_I (ej_ix (huR hr) (ej_var (m := .I) (i := 5) rfl (.inl rfl)) (ej_mod (m := .B) (ej_ixB (huR hr) (ej_var (m := .B) (i := 1) rfl (.inl rfl)) (ej_int (m := .B))) (ej_call1 (m := .B) call_len c_len rfl T.f_len (by decide +kernel) (ej_var (m := .B) (i := 5) rfl (.inl rfl)))))))) lj_nil)))))) (ej_bl (m := .B)) (nomark _))))))
 bj_nil)
 (bj_one (sj_frz 3 (sj_frz 2 (sj_ret (oj_E (ej_cmp (m := .E) (op_eqD (huR hr).u64) cmp_eq (ej_var (m := .B) (i := 6) rfl (.inl rfl)) (ej_B (ej_O (oj_lst (le_cons (ej_var (m := .E) (i := 2) rfl (.inl rfl)) (le_cons (ej_var (m := .E) (i := 3) rfl (.inr (.inl rfl))) le_nil))))) (nomark _)))))))))))))))))

/-! ### law -/
abbrev st_law : Stmt := top 43
def b_law : S :=
 (sRet (oOfE (eAnd (eOfO (oCall g__law_small_ones (lCons (eVar .B 0) lNil))) (eOfO (oCall g__law_large_ones (lCons (eVar .B 0) lNil))))))
def g_law : Fn := runFn 1 [.E] b_law
theorem sc_law : FnScope ["script"] ["script"] (defScope st_law) := ⟨rfl, rfl, rfl, by decide +kernel, rfl, by decide +kernel, by decide +kernel⟩
theorem ok_law {P : Program} {w : World} {K : PySem.W.Frag} {mg : Str → Option Value} {base : Heap} {f : Addr} {fd : FuncData} (T : Txt K mg) (F : FunD K "law" "law" (defArgs st_law) (defBody st_law) (defScope st_law) [] [] f fd) (D__law_large_ones : DefOk P w K mg base 6 "_law_large_ones" ["script"] [.B] g__law_large_ones) (D__law_small_ones : DefOk P w K mg base 6 "_law_small_ones" ["script"] [.B] g__law_small_ones) :
    FnOk P w K mg base (L2.CX P w) 7 f fd ["script"] (spG K [.E] g_law) :=
  have Sc := sc_law
  fn_ok (k := 6) (N := ["script"]) F Sc rfl (by decide) fun cdv A outer sh H E C hr tk po =>
 (bj_one (sj_ret (oj_E (ej_and (ej_B (ej_O (oj_call D__law_small_ones hr (by decide) tk rfl (lj_cons (ej_var (m := .B) (i := 0) rfl (.inl rfl)) lj_nil)))) (ej_one (ej_O (oj_call D__law_large_ones hr (by decide) tk rfl (lj_cons (ej_var (m := .B) (i := 0) rfl (.inl rfl)) lj_nil))))))))

/-! ### the head -/
def dd__law_name : He.DefD := ⟨("_law_name", none), "_law_name", "_law_name", defArgs st__law_name, defBody st__law_name, defScope st__law_name, [], []⟩
def dd__law_names : He.DefD := ⟨("_law_names", none), "_law_names", "_law_names", defArgs st__law_names, defBody st__law_names, defScope st__law_names, [], []⟩
def dd__law_numbers : He.DefD := ⟨("_law_numbers", none), "_law_numbers", "_law_numbers", defArgs st__law_numbers, defBody st__law_numbers, defScope st__law_numbers, [], []⟩
def dd__law_fields : He.DefD := ⟨("_law_fields", none), "_law_fields", "_law_fields", defArgs st__law_fields, defBody st__law_fields, defScope st__law_fields, [], []⟩
def dd__law_first_order : He.DefD := ⟨("_law_first_order", none), "_law_first_order", "_law_first_order", defArgs st__law_first_order, defBody st__law_first_order, defScope st__law_first_order, [], []⟩
def dd__law_is_loop : He.DefD := ⟨("_law_is_loop", none), "_law_is_loop", "_law_is_loop", defArgs st__law_is_loop, defBody st__law_is_loop, defScope st__law_is_loop, [], []⟩
def dd__law_pairs : He.DefD := ⟨("_law_pairs", none), "_law_pairs", "_law_pairs", defArgs st__law_pairs, defBody st__law_pairs, defScope st__law_pairs, [], []⟩
def dd_is_ascending : He.DefD := ⟨("is_ascending", none), "is_ascending", "is_ascending", defArgs st_is_ascending, defBody st_is_ascending, defScope st_is_ascending, [], []⟩
def dd_has_name_signs : He.DefD := ⟨("has_name_signs", none), "has_name_signs", "has_name_signs", defArgs st_has_name_signs, defBody st_has_name_signs, defScope st_has_name_signs, [], []⟩
def dd_is_name : He.DefD := ⟨("is_name", none), "is_name", "is_name", defArgs st_is_name, defBody st_is_name, defScope st_is_name, [], []⟩
def dd_are_fields : He.DefD := ⟨("are_fields", none), "are_fields", "are_fields", defArgs st_are_fields, defBody st_are_fields, defScope st_are_fields, [], []⟩
def dd_is_pair : He.DefD := ⟨("is_pair", none), "is_pair", "is_pair", defArgs st_is_pair, defBody st_is_pair, defScope st_is_pair, [], []⟩
def dd_first_wrong_pair : He.DefD := ⟨("first_wrong_pair", none), "first_wrong_pair", "first_wrong_pair", defArgs st_first_wrong_pair, defBody st_first_wrong_pair, defScope st_first_wrong_pair, [], []⟩
def dd_check_pairs : He.DefD := ⟨("check_pairs", none), "check_pairs", "check_pairs", defArgs st_check_pairs, defBody st_check_pairs, defScope st_check_pairs, [], []⟩
def dd_put_in : He.DefD := ⟨("put_in", none), "put_in", "put_in", defArgs st_put_in, defBody st_put_in, defScope st_put_in, [], []⟩
def dd_direct_befores : He.DefD := ⟨("direct_befores", none), "direct_befores", "direct_befores", defArgs st_direct_befores, defBody st_direct_befores, defScope st_direct_befores, [], []⟩
def dd_first_unplaced : He.DefD := ⟨("first_unplaced", none), "first_unplaced", "first_unplaced", defArgs st_first_unplaced, defBody st_first_unplaced, defScope st_first_unplaced, [], []⟩
def dd_way_back : He.DefD := ⟨("way_back", none), "way_back", "way_back", defArgs st_way_back, defBody st_way_back, defScope st_way_back, [], []⟩
def dd_loop_of : He.DefD := ⟨("loop_of", none), "loop_of", "loop_of", defArgs st_loop_of, defBody st_loop_of, defScope st_loop_of, [], []⟩
def dd_is_ready : He.DefD := ⟨("is_ready", none), "is_ready", "is_ready", defArgs st_is_ready, defBody st_is_ready, defScope st_is_ready, [], []⟩
def dd_next_ready : He.DefD := ⟨("next_ready", none), "next_ready", "next_ready", defArgs st_next_ready, defBody st_next_ready, defScope st_next_ready, [], []⟩
def dd_placed_names : He.DefD := ⟨("placed_names", none), "placed_names", "placed_names", defArgs st_placed_names, defBody st_placed_names, defScope st_placed_names, [], []⟩
def dd_answer : He.DefD := ⟨("answer", none), "answer", "answer", defArgs st_answer, defBody st_answer, defScope st_answer, [], []⟩
def dd_is_loop : He.DefD := ⟨("is_loop", none), "is_loop", "is_loop", defArgs st_is_loop, defBody st_is_loop, defScope st_is_loop, [], []⟩
def dd_has_all_once : He.DefD := ⟨("has_all_once", none), "has_all_once", "has_all_once", defArgs st_has_all_once, defBody st_has_all_once, defScope st_has_all_once, [], []⟩
def dd_is_order : He.DefD := ⟨("is_order", none), "is_order", "is_order", defArgs st_is_order, defBody st_is_order, defScope st_is_order, [], []⟩
def dd__law_large_ones : He.DefD := ⟨("_law_large_ones", none), "_law_large_ones", "_law_large_ones", defArgs st__law_large_ones, defBody st__law_large_ones, defScope st__law_large_ones, [], []⟩
def dd__law_all_orders : He.DefD := ⟨("_law_all_orders", none), "_law_all_orders", "_law_all_orders", defArgs st__law_all_orders, defBody st__law_all_orders, defScope st__law_all_orders, [], []⟩
def dd__law_keeps : He.DefD := ⟨("_law_keeps", none), "_law_keeps", "_law_keeps", defArgs st__law_keeps, defBody st__law_keeps, defScope st__law_keeps, [], []⟩
def dd__law_small_ones : He.DefD := ⟨("_law_small_ones", none), "_law_small_ones", "_law_small_ones", defArgs st__law_small_ones, defBody st__law_small_ones, defScope st__law_small_ones, [], []⟩
def dd_law : He.DefD := ⟨("law", none), "law", "law", defArgs st_law, defBody st_law, defScope st_law, [], []⟩
def fn : List He.DefD := ([dd__law_name, dd__law_names, dd__law_numbers, dd__law_fields, dd__law_first_order, dd__law_is_loop, dd__law_pairs, dd_is_ascending, dd_has_name_signs, dd_is_name, dd_are_fields, dd_is_pair, dd_first_wrong_pair, dd_check_pairs, dd_put_in, dd_direct_befores, dd_first_unplaced, dd_way_back, dd_loop_of, dd_is_ready, dd_next_ready, dd_placed_names, dd_answer, dd_is_loop, dd_has_all_once] : List He.DefD) ++ ([dd_is_order, dd__law_large_ones, dd__law_all_orders, dd__law_keeps, dd__law_small_ones, dd_law] : List He.DefD)
def fa : List He.Fa := ([.glo "_law_name", .glo "_law_names", .glo "_law_numbers", .glo "_law_fields", .glo "_law_first_order", .glo "_law_is_loop", .glo "_law_pairs", .glo "is_ascending", .glo "has_name_signs", .glo "is_name", .glo "are_fields", .glo "is_pair", .glo "first_wrong_pair", .glo "check_pairs", .glo "put_in", .glo "direct_befores", .glo "first_unplaced", .glo "way_back", .glo "loop_of", .glo "is_ready", .glo "next_ready", .glo "placed_names", .glo "answer", .glo "is_loop", .glo "has_all_once"] : List He.Fa) ++ ([.glo "is_order", .glo "_law_large_ones", .glo "_law_all_orders", .glo "_law_keeps", .glo "_law_small_ones", .glo "law", .free "all", .free "bool", .free "enumerate", .free "int", .free "isinstance", .free "len", .free "list", .free "min", .free "range", .free "sorted", .free "str", .free "tuple", .free "zip", .str "FIGURES" (mkS (txt "0123456789")), .str "LETTERS" (mkS (txt "abcdefghijklmnopqrstuvwxyz")), .int "LONGEST_NAME" 12, .int "MOST_FIELDS" 40] : List He.Fa)
def loose : List Str := (["LETTERS", "FIGURES", "LONGEST_NAME", "has_name_signs", "is_name", "is_ascending", "FormError", "BadRule", "MOST_FIELDS", "are_fields", "NO_NAMES", "is_pair", "first_wrong_pair", "check_pairs", "put_in", "direct_befores", "is_ready", "next_ready", "placed_names", "first_unplaced", "way_back", "loop_of", "answer", "has_all_once", "is_order"] : List Str) ++ (["is_loop", "_law_numbers", "_law_name", "_law_names", "_law_fields", "_law_pairs", "_law_is_loop", "_law_all_orders", "_law_keeps", "_law_small_ones", "_law_first_order", "_law_large_ones"] : List Str)
abbrev R : PySem.W.OpenRow := PySem.W.OpenLaw.row PySem.Challenge.rw_formsforall_k39_orders_or_loops
abbrev hk : PySem.W.Hook := He.hookD 4 fa fn
def ob (s : PySem.W.SharedT) : He.AlD := He.obsDG 4 fa fn (HandSHeadRun.getT s)
theorem ob_eq (s : PySem.W.SharedT) : ob s = hk.obs s.abs := He.obsDG_eq (HandSHeadRun.getT_eq s)
theorem run (w : World) : HandSHeadRun.RunEq R (PySem.W.view R.prog [43]) hk ob 20000 loose w := by
  intro os
  kernel_rfl
theorem facts {P : Program} {w : World} {K : PySem.W.Frag} {h : Heap} {mg : Str → Option Value} {f : Addr} (X : K.In h) (G : h.Ns mainGlobals mg) (hfa : mg ("law" : Str) = some (.ref f)) (c : He.SaysD fa fn K) :
    ∃ fd : FuncData, (∀ (s : Shared) (v : Value), BindsTo s fd ⟨[v], []⟩ [("script", v)]) ∧ ∀ base : Heap, K.In base → base.Ns mainGlobals mg → FnOk P w K mg base (L2.CX P w) 7 f fd ["script"] (spG K [.E] g_law) := by
  obtain ⟨fd__law_name, F__law_name⟩ := c.def_ 0 (d := dd__law_name) rfl
  have G__law_name := He.glo_ok X G (c.fact 0 (f := .glo "_law_name") rfl)
  obtain ⟨fd__law_names, F__law_names⟩ := c.def_ 1 (d := dd__law_names) rfl
  have G__law_names := He.glo_ok X G (c.fact 1 (f := .glo "_law_names") rfl)
  obtain ⟨fd__law_numbers, F__law_numbers⟩ := c.def_ 2 (d := dd__law_numbers) rfl
  have G__law_numbers := He.glo_ok X G (c.fact 2 (f := .glo "_law_numbers") rfl)
  obtain ⟨fd__law_fields, F__law_fields⟩ := c.def_ 3 (d := dd__law_fields) rfl
  have G__law_fields := He.glo_ok X G (c.fact 3 (f := .glo "_law_fields") rfl)
  obtain ⟨fd__law_first_order, F__law_first_order⟩ := c.def_ 4 (d := dd__law_first_order) rfl
  have G__law_first_order := He.glo_ok X G (c.fact 4 (f := .glo "_law_first_order") rfl)
  obtain ⟨fd__law_is_loop, F__law_is_loop⟩ := c.def_ 5 (d := dd__law_is_loop) rfl
  have G__law_is_loop := He.glo_ok X G (c.fact 5 (f := .glo "_law_is_loop") rfl)
  obtain ⟨fd__law_pairs, F__law_pairs⟩ := c.def_ 6 (d := dd__law_pairs) rfl
  have G__law_pairs := He.glo_ok X G (c.fact 6 (f := .glo "_law_pairs") rfl)
  obtain ⟨fd_is_ascending, F_is_ascending⟩ := c.def_ 7 (d := dd_is_ascending) rfl
  have G_is_ascending := He.glo_ok X G (c.fact 7 (f := .glo "is_ascending") rfl)
  obtain ⟨fd_has_name_signs, F_has_name_signs⟩ := c.def_ 8 (d := dd_has_name_signs) rfl
  have G_has_name_signs := He.glo_ok X G (c.fact 8 (f := .glo "has_name_signs") rfl)
  obtain ⟨fd_is_name, F_is_name⟩ := c.def_ 9 (d := dd_is_name) rfl
  have G_is_name := He.glo_ok X G (c.fact 9 (f := .glo "is_name") rfl)
  obtain ⟨fd_are_fields, F_are_fields⟩ := c.def_ 10 (d := dd_are_fields) rfl
  have G_are_fields := He.glo_ok X G (c.fact 10 (f := .glo "are_fields") rfl)
  obtain ⟨fd_is_pair, F_is_pair⟩ := c.def_ 11 (d := dd_is_pair) rfl
  have G_is_pair := He.glo_ok X G (c.fact 11 (f := .glo "is_pair") rfl)
  obtain ⟨fd_first_wrong_pair, F_first_wrong_pair⟩ := c.def_ 12 (d := dd_first_wrong_pair) rfl
  have G_first_wrong_pair := He.glo_ok X G (c.fact 12 (f := .glo "first_wrong_pair") rfl)
  obtain ⟨fd_check_pairs, F_check_pairs⟩ := c.def_ 13 (d := dd_check_pairs) rfl
  have G_check_pairs := He.glo_ok X G (c.fact 13 (f := .glo "check_pairs") rfl)
  obtain ⟨fd_put_in, F_put_in⟩ := c.def_ 14 (d := dd_put_in) rfl
  have G_put_in := He.glo_ok X G (c.fact 14 (f := .glo "put_in") rfl)
  obtain ⟨fd_direct_befores, F_direct_befores⟩ := c.def_ 15 (d := dd_direct_befores) rfl
  have G_direct_befores := He.glo_ok X G (c.fact 15 (f := .glo "direct_befores") rfl)
  obtain ⟨fd_first_unplaced, F_first_unplaced⟩ := c.def_ 16 (d := dd_first_unplaced) rfl
  have G_first_unplaced := He.glo_ok X G (c.fact 16 (f := .glo "first_unplaced") rfl)
  obtain ⟨fd_way_back, F_way_back⟩ := c.def_ 17 (d := dd_way_back) rfl
  have G_way_back := He.glo_ok X G (c.fact 17 (f := .glo "way_back") rfl)
  obtain ⟨fd_loop_of, F_loop_of⟩ := c.def_ 18 (d := dd_loop_of) rfl
  have G_loop_of := He.glo_ok X G (c.fact 18 (f := .glo "loop_of") rfl)
  obtain ⟨fd_is_ready, F_is_ready⟩ := c.def_ 19 (d := dd_is_ready) rfl
  have G_is_ready := He.glo_ok X G (c.fact 19 (f := .glo "is_ready") rfl)
  obtain ⟨fd_next_ready, F_next_ready⟩ := c.def_ 20 (d := dd_next_ready) rfl
  have G_next_ready := He.glo_ok X G (c.fact 20 (f := .glo "next_ready") rfl)
  obtain ⟨fd_placed_names, F_placed_names⟩ := c.def_ 21 (d := dd_placed_names) rfl
  have G_placed_names := He.glo_ok X G (c.fact 21 (f := .glo "placed_names") rfl)
  obtain ⟨fd_answer, F_answer⟩ := c.def_ 22 (d := dd_answer) rfl
  have G_answer := He.glo_ok X G (c.fact 22 (f := .glo "answer") rfl)
  obtain ⟨fd_is_loop, F_is_loop⟩ := c.def_ 23 (d := dd_is_loop) rfl
  have G_is_loop := He.glo_ok X G (c.fact 23 (f := .glo "is_loop") rfl)
  obtain ⟨fd_has_all_once, F_has_all_once⟩ := c.def_ 24 (d := dd_has_all_once) rfl
  have G_has_all_once := He.glo_ok X G (c.fact 24 (f := .glo "has_all_once") rfl)
  obtain ⟨fd_is_order, F_is_order⟩ := c.def_ 25 (d := dd_is_order) rfl
  have G_is_order := He.glo_ok X G (c.fact 25 (f := .glo "is_order") rfl)
  obtain ⟨fd__law_large_ones, F__law_large_ones⟩ := c.def_ 26 (d := dd__law_large_ones) rfl
  have G__law_large_ones := He.glo_ok X G (c.fact 26 (f := .glo "_law_large_ones") rfl)
  obtain ⟨fd__law_all_orders, F__law_all_orders⟩ := c.def_ 27 (d := dd__law_all_orders) rfl
  have G__law_all_orders := He.glo_ok X G (c.fact 27 (f := .glo "_law_all_orders") rfl)
  obtain ⟨fd__law_keeps, F__law_keeps⟩ := c.def_ 28 (d := dd__law_keeps) rfl
  have G__law_keeps := He.glo_ok X G (c.fact 28 (f := .glo "_law_keeps") rfl)
  obtain ⟨fd__law_small_ones, F__law_small_ones⟩ := c.def_ 29 (d := dd__law_small_ones) rfl
  have G__law_small_ones := He.glo_ok X G (c.fact 29 (f := .glo "_law_small_ones") rfl)
  obtain ⟨fd_law, F_law⟩ := c.def_ 30 (d := dd_law) rfl
  have G_law := He.glo_ok X G (c.fact 30 (f := .glo "law") rfl)
  have T : Txt K mg := ⟨trivial,
    He.free_ok X G (c.fact 31 (f := .free "all") rfl),
    He.free_ok X G (c.fact 32 (f := .free "bool") rfl),
    He.free_ok X G (c.fact 33 (f := .free "enumerate") rfl),
    He.free_ok X G (c.fact 34 (f := .free "int") rfl),
    He.free_ok X G (c.fact 35 (f := .free "isinstance") rfl),
    He.free_ok X G (c.fact 36 (f := .free "len") rfl),
    He.free_ok X G (c.fact 37 (f := .free "list") rfl),
    He.free_ok X G (c.fact 38 (f := .free "min") rfl),
    He.free_ok X G (c.fact 39 (f := .free "range") rfl),
    He.free_ok X G (c.fact 40 (f := .free "sorted") rfl),
    He.free_ok X G (c.fact 41 (f := .free "str") rfl),
    He.free_ok X G (c.fact 42 (f := .free "tuple") rfl),
    He.free_ok X G (c.fact 43 (f := .free "zip") rfl),
    He.str_ok X G (c.fact 44 (f := .str "FIGURES" (mkS (txt "0123456789"))) rfl),
    He.str_ok X G (c.fact 45 (f := .str "LETTERS" (mkS (txt "abcdefghijklmnopqrstuvwxyz"))) rfl),
    He.int_ok X G (c.fact 46 (f := .int "LONGEST_NAME" 12) rfl),
    He.int_ok X G (c.fact 47 (f := .int "MOST_FIELDS" 40) rfl)⟩
  have e := hfa.symm.trans G_law
  cases e
  refine ⟨fd_law, fun s v => FunD.bindsA (ps := ["script"]) F_law (fun _ _ _ _ _ _ us hl => match us, hl with | [_], _ => rfl) s [v] rfl, fun base _ _ => ?_⟩
  have D__law_name := ok__law_name (P := P) (w := w) (base := base) T F__law_name G__law_name 
  have D__law_names := ok__law_names (P := P) (w := w) (base := base) T F__law_names G__law_names D__law_name
  have D__law_numbers := ok__law_numbers (P := P) (w := w) (base := base) T F__law_numbers G__law_numbers 
  have D__law_fields := ok__law_fields (P := P) (w := w) (base := base) T F__law_fields G__law_fields D__law_name D__law_names D__law_numbers
  have D__law_first_order := ok__law_first_order (P := P) (w := w) (base := base) T F__law_first_order G__law_first_order 
  have D__law_is_loop := ok__law_is_loop (P := P) (w := w) (base := base) T F__law_is_loop G__law_is_loop 
  have D__law_pairs := ok__law_pairs (P := P) (w := w) (base := base) T F__law_pairs G__law_pairs D__law_numbers
  have D_is_ascending := ok_is_ascending (P := P) (w := w) (base := base) T F_is_ascending G_is_ascending 
  have D_has_name_signs := ok_has_name_signs (P := P) (w := w) (base := base) T F_has_name_signs G_has_name_signs 
  have D_is_name := ok_is_name (P := P) (w := w) (base := base) T F_is_name G_is_name D_has_name_signs
  have D_are_fields := ok_are_fields (P := P) (w := w) (base := base) T F_are_fields G_are_fields D_is_ascending D_is_name
  have D_is_pair := ok_is_pair (P := P) (w := w) (base := base) T F_is_pair G_is_pair 
  have D_first_wrong_pair := ok_first_wrong_pair (P := P) (w := w) (base := base) T F_first_wrong_pair G_first_wrong_pair D_is_pair
  have D_check_pairs := ok_check_pairs (P := P) (w := w) (base := base) T F_check_pairs G_check_pairs D_are_fields D_first_wrong_pair
  have D_put_in := ok_put_in (P := P) (w := w) (base := base) T F_put_in G_put_in 
  have D_direct_befores := ok_direct_befores (P := P) (w := w) (base := base) T F_direct_befores G_direct_befores D_put_in
  have D_first_unplaced := ok_first_unplaced (P := P) (w := w) (base := base) T F_first_unplaced G_first_unplaced 
  have D_way_back := ok_way_back (P := P) (w := w) (base := base) T F_way_back G_way_back D_first_unplaced
  have D_loop_of := ok_loop_of (P := P) (w := w) (base := base) T F_loop_of G_loop_of D_way_back
  have D_is_ready := ok_is_ready (P := P) (w := w) (base := base) T F_is_ready G_is_ready 
  have D_next_ready := ok_next_ready (P := P) (w := w) (base := base) T F_next_ready G_next_ready D_is_ready
  have D_placed_names := ok_placed_names (P := P) (w := w) (base := base) T F_placed_names G_placed_names D_next_ready
  have D_answer := ok_answer (P := P) (w := w) (base := base) T F_answer G_answer D_check_pairs D_direct_befores D_loop_of D_placed_names
  have D_is_loop := ok_is_loop (P := P) (w := w) (base := base) T F_is_loop G_is_loop 
  have D_has_all_once := ok_has_all_once (P := P) (w := w) (base := base) T F_has_all_once G_has_all_once 
  have D_is_order := ok_is_order (P := P) (w := w) (base := base) T F_is_order G_is_order D_has_all_once
  have D__law_large_ones := ok__law_large_ones (P := P) (w := w) (base := base) T F__law_large_ones G__law_large_ones D__law_fields D__law_first_order D__law_is_loop D__law_numbers D__law_pairs D_answer D_is_loop D_is_order
  have D__law_all_orders := ok__law_all_orders (P := P) (w := w) (base := base) T F__law_all_orders G__law_all_orders 
  have D__law_keeps := ok__law_keeps (P := P) (w := w) (base := base) T F__law_keeps G__law_keeps 
  have D__law_small_ones := ok__law_small_ones (P := P) (w := w) (base := base) T F__law_small_ones G__law_small_ones D__law_all_orders D__law_fields D__law_is_loop D__law_keeps D__law_numbers D__law_pairs D_answer D_is_loop D_is_order
  exact ok_law (P := P) (w := w) (base := base) T F_law D__law_large_ones D__law_small_ones
end Lw
end
section
open PySem PySem.W PySem.Calls PyProof.Rows
theorem Lw.ends (hl : ∀ ns : List Int, ns.length ≤ 63 → Lw.g_law [.rol (ns.map .int)] = .ok (.fz (.bl true))) : PySem.Challenge.rw_formsforall_k39_orders_or_loops.Holds := by
  w_on; o_law
  refine HandSHeadRun.head_any (r := OpenLaw.row PySem.Challenge.rw_formsforall_k39_orders_or_loops) (q := view (OpenLaw.row PySem.Challenge.rw_formsforall_k39_orders_or_loops).prog [43]) (H := Lw.hk) (ob := Lw.ob) (M := 20000) (loose := Lw.loose) (d := HandSHeadRun.topDef (OpenLaw.row PySem.Challenge.rw_formsforall_k39_orders_or_loops).prog 43) (kwd := []) Lw.ob_eq
    (by kernel_rfl) (fun s => by kernel_rfl) Lw.run (by kernel_rfl) (by kernel_rfl) (by kernel_rfl) (by rfl) (by first | assumption | decide +kernel) (by decide +kernel) ⟨rfl, rfl, rfl, rfl, rfl, by decide +kernel⟩ ?hw ?hc
  case hw => w_witness2
  case hc =>
    refine L2.walk_ofE (l := PySem.Challenge.rw_formsforall_k39_orders_or_loops) (n := 63) (k := 7) (x := "script") (CX := L2.CX0) rfl (by decide) (by kernel_rfl) ⟨rfl, by decide, by decide⟩ ?F (fun _ _ _ _ z => z)
    intro w mg fa h Y G hmg0
    obtain ⟨K, KX, c⟩ := Y
    have hmg : mg ("law" : PySem.Str) = some (.ref fa) := by
      have e : (HandSHeadRun.topDef (OpenLaw.row PySem.Challenge.rw_formsforall_k39_orders_or_loops).prog 43).name = ("law" : PySem.Str) := by kernel_rfl
      rw [← e]
      exact hmg0
    obtain ⟨fd, hb, hF⟩ := Lw.facts (P := (PySem.Challenge.rw_formsforall_k39_orders_or_loops).prog) (w := w) KX G hmg c
    exact ⟨K, fd, (fun vs H Q _ => Fz.spG K [.E] Lw.g_law vs H Q fun _ _ _ => False), KX, hb, fun H a ns hl1 hO hS => Fz.law_sp hl hl1 hO hS, fun base k1 k2 => Fz.FnOk.calm (hF base k1 k2)⟩
end
section
namespace Lw
open Fz
open PySem (sizeLine)
open L2 (atI ixN)
def lows (n : Nat) (xs : List Int) : Prop := xs.length = n ∧ ∀ i ∈ xs, 0 ≤ i ∧ i < 1009
theorem lows_app {n : Nat} {xs : List Int} {i : Int} (h : lows n xs) (h0 : 0 ≤ i) (h1 : i < 1009) : lows (n + 1) (xs ++ [i]) := by
  refine ⟨by simp [h.1], fun p hp => ?_⟩
  rcases List.mem_append.mp hp with q | q
  · exact h.2 p q
  · have : p = i := by simpa using q
    subst this; exact ⟨h0, h1⟩
theorem snoc_map {xs : List Int} {i : Int} : xs.map PV.int ++ [.int i] = (xs ++ [i]).map PV.int := by simp
theorem low_get {n : Nat} {xs : List Int} (h : lows n xs) {i : Int} (h0 : 0 ≤ i) (h1 : i < n) : ∃ v : Int, atI (xs.map PV.int) i = some (.int v) ∧ 0 ≤ v ∧ v < 1009 := by
  rw [atI_map, atI_nn _ _ h0 (by rw [h.1]; exact h1)]
  exact ⟨_, rfl, h.2 _ (List.getElem_mem _)⟩
section
variable (ns : List Int) (at' count : Nat)
def numI (k : Nat) (ρ : Env) : Prop := ∃ (cell : Int) (x5 x6 : Fz.Slot) (xs : List Int), ρ = [.bor (.rol (ns.map .int)), .val (.int at'), .bor (.int count), .val (.int cell), .own (.l (xs.map .int)), x5, x6] ∧ lows k xs
theorem num_body (hc : count ≤ 1000000) (P : Po) (k : Nat) (hk : k < count) (ρ : Env) (h : numI ns at' count k ρ) (h1 : ∀ ρ, numI ns at' count (k + 1) ρ → P.nx ρ) : sat (stp (gNm 5) L__law_numbers_1 (.int (0 + k)) ρ) P := by
  obtain ⟨cell, x5, x6, xs, rfl, hx⟩ := h
  have hl : xs.length < sizeLine := lt_line (by rw [hx.1]; omega)
  simp [L__law_numbers_1, hl]
  refine sat_if (fun hcell => ?_) (fun hcell => ?_)
  · simp
    rw [snoc_map]
    exact h1 _ ⟨_, _, _, _, rfl, lows_app hx (Int.emod_nonneg _ (by decide)) (Int.emod_lt_of_pos _ (by decide))⟩
  · generalize hm : (cell * 48271 + ((k : Int) + 1) * 69621 + (at' : Int) * 4001) % 2147483647 = mixed
    have m0 : 0 ≤ mixed := hm ▸ Int.emod_nonneg _ (by decide)
    have m1 : mixed < 2147483647 := hm ▸ Int.emod_lt_of_pos _ (by decide)
    have mm : gMul (.int mixed) (.int mixed) = some (.fz (.int (mixed * mixed))) := gMul_l _ _ (by omega) (by omega)
    simp [mm, hl]
    rw [snoc_map]
    exact h1 _ ⟨_, _, _, _, rfl, lows_app hx (Int.emod_nonneg _ (by decide)) (Int.emod_lt_of_pos _ (by decide))⟩
theorem num_R3 (hc : count ≤ 1000000) (cell : Int) : sat (R__law_numbers_3 [.bor (.rol (ns.map .int)), .val (.int at'), .bor (.int count), .val (.int cell), .u, .u, .u]) (poR fun o => ∃ xs : List Int, o = .l (xs.map .int) ∧ lows count xs) := by
  simp [R__law_numbers_3, rng_nat (show count < 4611686018427387904 by omega)]
  refine sat_range (numI ns at' count) ⟨cell, _, _, [], rfl, rfl, fun _ h => nomatch h⟩ (fun k ρ hk hI => num_body ns at' count hc _ k hk ρ hI fun _ h => h) ?_
  rintro _ ⟨cell, x5, x6, xs, rfl, hx⟩
  simp [R__law_numbers_2]
  exact ⟨xs, rfl, hx⟩
theorem numbers_ok (hc : count ≤ 1000000) : ∃ xs : List Int, g__law_numbers [.rol (ns.map .int), .int at', .int count] = .ok (.l (xs.map .int)) ∧ lows count xs := by
  have R4 : ∀ cell : Int, sat (R__law_numbers_4 [.bor (.rol (ns.map .int)), .val (.int at'), .bor (.int count), .val (.int cell), .u, .u, .u]) (poR fun o => ∃ xs : List Int, o = .l (xs.map .int) ∧ lows count xs) := fun cell => by
    simp [R__law_numbers_4]
    refine sat_if (fun h => ?_) (fun h => ?_)
    · simp
      have := num_R3 ns at' count hc (1 - 2 * cell)
      exact this
    · simp
      exact num_R3 ns at' count hc _
  obtain ⟨o, e, xs, rfl, hx⟩ : ∃ o, g__law_numbers [.rol (ns.map .int), .int at', .int count] = .ok o ∧ ∃ xs : List Int, o = .l (xs.map .int) ∧ lows count xs := by
    refine run_ok _ rfl ?_
    simp [b__law_numbers, slotsOf, slotOf, List.replicate]
    refine sat_if (fun h => ?_) (fun h => ?_)
    · rw [atI_map, atI_nn _ _ (by omega) (by omega)]
      simp; exact R4 _
    · simp; exact R4 _
  exact ⟨xs, e, hx⟩
end
end Lw
end
section
namespace Lw
open Fz
open PySem (sizeLine)
open L2 (atI ixN)
/-! _law_name -/
theorem goodN_len {t : Tx} (h : goodN t) : 1 ≤ t.length := by obtain ⟨_, _, c, r, rfl, _⟩ := h; simp
def nameI (first size : Int) (k : Nat) (ρ : Fz.Env) : Prop := ∃ (mix : Int) (t : Tx) (x6 : Fz.Slot), ρ = [.val (.int first), .bor (.int size), .val (.int mix), .val (.str lowsT), .val (.str (lowsT ++ figsT)), .val (.str t), x6] ∧ t.length = k + 1 ∧ (∀ c ∈ t, isSg c = true) ∧ ∃ c r, t = c :: r ∧ isLow c = true
theorem name_ok (first size mix : Int) : ∃ t : Tx, g__law_name [.int first, .int size, .int mix] = .ok (.fz (.str t)) ∧ goodN t := by
  obtain ⟨o, e, t, rfl, hx⟩ : ∃ o, g__law_name [.int first, .int size, .int mix] = .ok o ∧ ∃ t, o = .fz (.str t) ∧ goodN t := by
    refine run_ok _ rfl ?_
    have h12 : 0 ≤ size % 12 := Int.emod_nonneg _ (by decide)
    have h12' : size % 12 < 12 := Int.emod_lt_of_pos _ (by decide)
    obtain ⟨n, hn⟩ : ∃ n : Nat, size % 12 = n := ⟨(size % 12).toNat, by omega⟩
    have e1 : gAdd (.str lowsT) (.str figsT) = some (.fz (.str (lowsT ++ figsT))) := gAdd_str _ _ (le_line (by rw [lowsT_len, figsT_len]; decide))
    simp [b__law_name, slotsOf, slotOf, List.replicate, e1, gIx_lows, hn, rng_nat (show n < 4611686018427387904 by omega)]
    refine sat_range (nameI first size) ?_ ?_ ?_
    · have hl := lt_low (k := (first % 26).toNat) (by have := Int.emod_lt_of_pos first (show (0 : Int) < 26 by decide); omega)
      exact ⟨_, _, _, rfl, rfl, fun c hc => by rw [List.mem_singleton.mp hc]; exact low_sg hl, _, _, rfl, hl⟩
    · rintro k _ hk ⟨mix, t, x6, rfl, h1, h2, c, r, rfl, h3⟩
      have ea : ∀ d, gAdd (.str (c :: r)) (.str [d]) = some (.fz (.str (c :: r ++ [d]))) := fun d => gAdd_str _ _ (le_line (by rw [h1]; simp; omega))
      simp [L__law_name_1, gIx_sgs, ea]
      have hs := sg_sg (k := ((mix * 8191 + first + k * 77 + 5) % 1000003 % 36).toNat) (by have := Int.emod_lt_of_pos ((mix * 8191 + first + k * 77 + 5) % 1000003) (show (0 : Int) < 36 by decide); omega)
      refine ⟨_, c :: (r ++ [sg ((mix * 8191 + first + k * 77 + 5) % 1000003 % 36).toNat]), _, rfl, by simpa using h1, fun d hd => ?_, _, _, rfl, h3⟩
      rw [← List.cons_append] at hd
      rcases List.mem_append.mp hd with q | q
      · exact h2 d q
      · rw [List.mem_singleton.mp q]; exact hs
    · rintro _ ⟨mix, t, x6, rfl, h1, h2, h3⟩
      simp [R__law_name_2]
      exact ⟨by omega, h2, h3⟩
  exact ⟨t, e, hx⟩
/-! _law_names -/
def nmsE (xs : List Int) (count : Int) (ts : List Tx) (x4 x5 x6 x7 x8 x9 : Fz.Slot) : Fz.Env := [.val (.lst (xs.map .int)), .bor (.int count), .val (.str lowsT), .own (.l (ts.map .str)), x4, x5, x6, x7, x8, x9]
def nmsI (xs : List Int) (count : Int) (k : Nat) (ρ : Fz.Env) : Prop := ∃ (ts : List Tx) (x4 x5 x6 x7 x8 x9 : Fz.Slot), ρ = nmsE xs count ts x4 x5 x6 x7 x8 x9 ∧ ts.length = k ∧ ts.Nodup ∧ ∀ t ∈ ts, goodN t
def stepI (xs : List Int) (count : Int) (ts : List Tx) (x4 x6 x7 : Fz.Slot) (one : Int) (tl : Tx) (s : Nat) (ρ : Fz.Env) : Prop :=
  ∃ (c : Fin 1114112) (x9 : Fz.Slot), ρ = nmsE xs count ts x4 (.val (.int one)) x6 x7 (.val (.str (c :: tl))) x9 ∧ isLow c = true ∧ (c :: tl ∈ ts → (0 < s → c = lt ((one + (s - 1 : Nat)) % 26).toNat) ∧ ∀ j, j + 1 < s → lt ((one + j) % 26).toNat :: tl ∈ ts)
theorem mod26 (i : Int) : (i % 26).toNat < 26 := by
  have := Int.emod_lt_of_pos i (show (0 : Int) < 26 by decide)
  have := Int.emod_nonneg i (show (26 : Int) ≠ 0 by decide)
  omega
theorem names_step (xs : List Int) (count : Int) (ts : List Tx) (x4 x6 x7 : Fz.Slot) (one : Int) (tl : Tx) (htl : tl.length ≤ 11) (s : Nat) (ρ : Fz.Env) (h : stepI xs count ts x4 x6 x7 one tl s ρ) (P : Po) (hP : ∀ ρ, stepI xs count ts x4 x6 x7 one tl (s + 1) ρ → P.nx ρ) : sat (stp (gNm 9) L__law_names_1 (.int (0 + s)) ρ) P := by
  obtain ⟨c, x9, rfl, hc, h⟩ := h
  simp [L__law_names_1, nmsE]
  by_cases hm : c :: tl ∈ ts
  · obtain ⟨h1, h2⟩ := h hm
    have es : gSl (.str (c :: tl)) (some 1) none = some (.fz (.str tl)) := by
      rw [gSl_str (le_line (by simp; omega)), show (1 : Int) = ((1 : Nat) : Int) from rfl, cut_from]
      rfl
    have ea : ∀ d, gAdd (.str [d]) (.str tl) = some (.fz (.str (d :: tl))) := fun d => gAdd_str _ _ (le_line (by simp; omega))
    simp [hm, gIx_lows, es, ea]
    refine hP _ ⟨_, _, rfl, lt_low (mod26 _), fun _ => ⟨fun _ => by rw [Nat.add_sub_cancel], fun j hj => ?_⟩⟩
    by_cases e : j + 1 < s
    · exact h2 j e
    · have := h1 (by omega)
      rw [show s - 1 = j by omega] at this
      rw [← this]; exact hm
  · simp [hm]
    exact hP _ ⟨c, _, rfl, hc, fun q => (hm q).elim⟩
theorem names_R2 (xs : List Int) (count : Int) (ts : List Tx) (x4 x5 x6 x7 x9 : Fz.Slot) (t : Tx) (hl : ts.length < 1000) (P : Po) (hP : ∀ x8, P.nx (nmsE xs count (ts ++ [t]) x4 x5 x6 x7 x8 x9)) : sat (R__law_names_2 (nmsE xs count ts x4 x5 x6 x7 (.val (.str t)) x9)) P := by
  simp [R__law_names_2, nmsE, show ts.length < sizeLine from lt_line (by omega)]
  have := hP (.val (.str t))
  simpa [nmsE] using this
theorem names_R3 (xs : List Int) (count : Int) (k : Nat) (ts : List Tx) (x4 x6 x7 x9 : Fz.Slot) (one : Int) (t : Tx) (ht : goodN t) (hl : ts.length = k) (hk : k ≤ 12) (hn : ts.Nodup) (hg : ∀ t ∈ ts, goodN t) (P : Po) (hP : ∀ ρ, nmsI xs count (k + 1) ρ → P.nx ρ) :
    sat (R__law_names_3 (nmsE xs count ts x4 (.val (.int one)) x6 x7 (.val (.str t)) x9)) P := by
  obtain ⟨h12, hs, c, tl, rfl, hc⟩ := ht
  simp [R__law_names_3]
  rw [show nmsE xs count ts x4 (.val (.int one)) x6 x7 (.val (.str (c :: tl))) x9 = nmsE xs count ts x4 (.val (.int one)) x6 x7 (.val (.str (c :: tl))) x9 from rfl]
  simp [show rngR 0 26 = .ok (rangeL 0 26) from rng_nat (n := 26) (by decide)]
  refine sat_range (stepI xs count ts x4 x6 x7 one tl) ⟨c, _, rfl, hc, fun _ => ⟨fun h => absurd h (by decide), fun j hj => absurd hj (by omega)⟩⟩ (fun s ρ _ hI => names_step xs count ts x4 x6 x7 one tl (by simpa using h12) s ρ hI _ fun _ h => h) ?_
  rintro _ ⟨d, x9, rfl, hd, h⟩
  refine names_R2 xs count ts x4 _ x6 x7 x9 (d :: tl) (by omega) _ fun x8 => hP _ ⟨_, _, _, _, _, _, _, rfl, by simp [hl], ?_, ?_⟩
  · have nm : d :: tl ∉ ts := fun hm => by
      obtain ⟨h1, h2⟩ := h hm
      obtain ⟨j, hj, hf⟩ := one_free (n := 26) (f := fun j : Nat => lt ((one + j) % 26).toNat :: tl) (l := ts) (fun i j hi hj e => by
        have e := lt_inj (mod26 _) (mod26 _) (List.cons.inj e).1
        have a1 := Int.emod_nonneg (one + i) (show (26 : Int) ≠ 0 by decide)
        have a2 := Int.emod_nonneg (one + j) (show (26 : Int) ≠ 0 by decide)
        omega) (by omega)
      refine hf ?_
      by_cases e : j + 1 < 26
      · exact h2 j e
      · have := h1 (by decide)
        rw [show (26 : Nat) - 1 = j by omega] at this
        show lt ((one + j) % 26).toNat :: tl ∈ ts
        rw [← this]; exact hm
    exact List.nodup_append.mpr ⟨hn, by simp, fun a ha b hb => by rw [List.mem_singleton.mp hb]; exact fun e => nm (e ▸ ha)⟩
  · intro u hu
    rcases List.mem_append.mp hu with q | q
    · exact hg u q
    · rw [List.mem_singleton.mp q]
      exact ⟨h12, fun x hx => (List.mem_cons.mp hx).elim (fun e => e ▸ low_sg hd) fun y => hs x (List.mem_cons_of_mem _ y), d, tl, rfl, hd⟩
theorem names_step4 {n : Nat} (xs : List Int) (hx : lows n xs) (count : Nat) (hc : count ≤ 12) (hn : 3 * count ≤ n) (k : Nat) (hk : k < count) (ρ : Fz.Env) (h : nmsI xs count k ρ) (P : Po) (hP : ∀ ρ, nmsI xs count (k + 1) ρ → P.nx ρ) : sat (stp (gNm 4) L__law_names_4 (.int (0 + k)) ρ) P := by
  obtain ⟨ts, x4, x5, x6, x7, x8, x9, rfl, h1, h2, h3⟩ := h
  obtain ⟨one, e1, _⟩ := low_get hx (i := 3 * (k : Int)) (by omega) (by omega)
  obtain ⟨size, e2, _⟩ := low_get hx (i := 3 * (k : Int) + 1) (by omega) (by omega)
  obtain ⟨mix, e3, _⟩ := low_get hx (i := 3 * (k : Int) + 2) (by omega) (by omega)
  obtain ⟨t, e4, ht⟩ := name_ok one size mix
  simp [L__law_names_4, nmsE, e1, e2, e3, e4]
  have R3 : ∀ t, goodN t → sat (R__law_names_3 [.val (.lst (xs.map .int)), .bor (.int count), .val (.str lowsT), .own (.l (ts.map .str)), .val (.int k), .val (.int one), .val (.int size), .val (.int mix), .val (.str t), x9]) P := fun t ht => names_R3 xs count k ts _ _ _ x9 one t ht h1 (by omega) h2 h3 P hP
  by_cases k0 : k = 0
  · simp [k0]
    simpa [k0] using R3 t ht
  · have kp : 0 < k := Nat.pos_of_ne_zero k0
    obtain ⟨c, r, rfl, hc'⟩ : ∃ c r, t = c :: r ∧ isLow c = true := ht.2.2
    have el : atI (ts.map PV.str) (-1) = some (.str (ts[ts.length - 1]'(by omega))) := by rw [atI_map, atI_m1 _ (by omega)]; rfl
    have hlast := h3 _ (List.getElem_mem (l := ts) (n := ts.length - 1) (by omega))
    revert el hlast
    generalize ts[ts.length - 1]'(by omega) = u
    intro el hlast
    simp [kp, el, gLen_str _ (le_line (show u.length ≤ 16000000 by have := hlast.1; omega))]
    by_cases m3 : mix % 3 = 0
    · by_cases hu : (u.length : Int) < 12
      · have ea : ∀ d, gAdd (.str u) (.str [d]) = some (.fz (.str (u ++ [d]))) := fun d => gAdd_str _ _ (le_line (by simp; omega))
        have ei : gIx (.str (c :: r)) (.int (-1)) = some (.str [(c :: r)[(c :: r).length - 1]'(by simp)]) := by
          rw [gIx_str _ _ (le_line (by have := ht.1; omega)), atI_m1 _ (by simp)]
          rfl
        have hs := ht.2.1 _ (List.getElem_mem (l := c :: r) (n := (c :: r).length - 1) (by simp))
        revert ei hs
        generalize (c :: r)[(c :: r).length - 1]'(by simp) = d
        intro ei hs
        simp [m3, hu, ei, ea]
        refine R3 (u ++ [d]) ⟨by simp; omega, fun x hx => (List.mem_append.mp hx).elim (hlast.2.1 x) fun q => by rw [List.mem_singleton.mp q]; exact hs, ?_⟩
        obtain ⟨a, b, e, l⟩ := hlast.2.2
        exact ⟨a, b ++ [d], by rw [e]; rfl, l⟩
      · simp [m3, hu]
        exact R3 _ ht
    · simp [m3]
      exact R3 _ ht
theorem names_ok {n : Nat} (xs : List Int) (hx : lows n xs) (count : Nat) (hc : count ≤ 12) (hn : 3 * count ≤ n) : ∃ ts : List Tx, g__law_names [.lst (xs.map .int), .int count] = .ok (.l (ts.map .str)) ∧ ts.length = count ∧ ts.Nodup ∧ ∀ t ∈ ts, goodN t := by
  obtain ⟨o, e, t, rfl, hx⟩ : ∃ o, g__law_names [.lst (xs.map .int), .int count] = .ok o ∧ ∃ ts : List Tx, o = .l (ts.map .str) ∧ ts.length = count ∧ ts.Nodup ∧ ∀ t ∈ ts, goodN t := by
    refine run_ok _ rfl ?_
    simp [b__law_names, slotsOf, slotOf, List.replicate, rng_nat (show count < 4611686018427387904 by omega)]
    refine sat_range (nmsI xs count) ⟨[], _, _, _, _, _, _, rfl, rfl, List.nodup_nil, fun _ h => nomatch h⟩ (fun k ρ hk hI => names_step4 xs hx count hc hn k hk ρ hI _ fun _ h => h) ?_
    rintro _ ⟨ts, x4, x5, x6, x7, x8, x9, rfl, h1, h2, h3⟩
    simp [R__law_names_5, nmsE]
    exact ⟨ts, rfl, h1, h2, h3⟩
  exact ⟨t, e, hx⟩
end Lw
end
section
namespace Lw
open Fz
open PySem (sizeLine)
open L2 (atI ixN)
/-- what fields are -/
structure Flds (count : Nat) (ts : List Tx) : Prop where
  len : ts.length = count
  nd : ts.Nodup
  good : ∀ t ∈ ts, goodN t
  asc : ts.Pairwise fun a b => txLe a b = true
theorem flds_sort {ts : List Tx} {count : Nat} (h1 : ts.length = count) (h2 : ts.Nodup) (h3 : ∀ t ∈ ts, goodN t) : Flds count (sortT txLe ts) := by
  have p := sortT_perm (le := txLe) ts
  exact ⟨by rw [p.length_eq, h1], p.symm.nodup h2, fun t ht => h3 t (p.subset ht), sortT_sorted txLe_total txLe_trans ts⟩
end Lw
end
section
namespace Lw
open Fz
open PySem (sizeLine)
open L2 (atI ixN)
/-! _law_fields -/
def two (k : Nat) : Tx := [sg (26 + (10 + k) / 10), sg (26 + (10 + k) % 10)]
theorem two_inj {j k : Nat} (hj : j < 40) (hk : k < 40) (h : two j = two k) : j = k := by
  have := two_fig hj; have h2 := two_fig hk
  have := tstr_inj (this.trans (h.trans h2.symm))
  omega
def fldI (ns xs : List Int) (at' count : Nat) (k : Nat) (ρ : Fz.Env) : Prop := ∃ (ts : List Tx) (x5 x6 : Fz.Slot), ρ = [.bor (.rol (ns.map .int)), .val (.int at'), .bor (.int count), .own (.l (xs.map .int)), .own (.l (ts.map .str)), x5, x6] ∧ ts.length = k ∧ ts.Nodup ∧ (∀ t ∈ ts, goodN t) ∧ ∀ t ∈ ts, ∃ j r, j < k ∧ t = r ++ two j
theorem fields_step (ns xs : List Int) (hx : lows 36 xs) (at' count : Nat) (hc : count ≤ 40) (k : Nat) (hk : k < count) (ρ : Fz.Env) (h : fldI ns xs at' count k ρ) (P : Po) (hP : ∀ ρ, fldI ns xs at' count (k + 1) ρ → P.nx ρ) : sat (stp (gNm 5) L__law_fields_1 (.int (0 + k)) ρ) P := by
  obtain ⟨ts, x5, x6, rfl, h1, h2, h3, h4⟩ := h
  have m36 : ∀ i : Int, 0 ≤ i % 36 ∧ i % 36 < (36 : Nat) := fun i => ⟨Int.emod_nonneg _ (by decide), Int.emod_lt_of_pos _ (by decide)⟩
  obtain ⟨a, e1, _⟩ := low_get hx (m36 k).1 (m36 k).2
  obtain ⟨b, e2, _⟩ := low_get hx (m36 (k + 7)).1 (m36 (k + 7)).2
  obtain ⟨c, e3, _⟩ := low_get hx (m36 (5 * k + 3)).1 (m36 (5 * k + 3)).2
  obtain ⟨t, e4, h12, hs, d, r, rfl, hd⟩ := name_ok a b (c + k)
  have e5 : gSl (.str (d :: r)) none (some 9) = some (.fz (.str ((d :: r).take 9))) := by
    rw [gSl_str (le_line (by omega)), show (9 : Int) = ((9 : Nat) : Int) from rfl, cut_to]
  have e6 : gStr (.int (10 + (k : Int))) = some (.str (two k)) := by
    rw [gStr_int _ (by omega), two_fig (by omega)]
    rfl
  have e7 : gAdd (.str ((d :: r).take 9)) (.str (two k)) = some (.fz (.str ((d :: r).take 9 ++ two k))) := gAdd_str _ _ (le_line (by rw [List.length_take]; simp [two]; omega))
  simp only [L__law_fields_1, stp_nm, m_sSeq, m_sAsg, m_oCall, m_lCons, m_lNil, m_eIx, m_eVar, m_eBin, m_eC, m_eOfO, m_oBin]
  simp [e1, e2, e3, e4, e5, e6]
  simp only [List.take_succ_cons] at e7
  simp [e7, show ts.length < sizeLine from lt_line (by omega)]
  refine hP _ ⟨ts ++ [d :: (r.take 8 ++ two k)], .val (.int k), .val (.str (d :: r)), by simp, by simp [h1], ?_, ?_, ?_⟩
  · refine List.nodup_append.mpr ⟨h2, by simp, fun x hx y hy e => ?_⟩
    rw [List.mem_singleton.mp hy] at e
    obtain ⟨j, s, hj, rfl⟩ := h4 x hx
    rw [← List.cons_append] at e
    have := (List.append_inj' e rfl).2
    have := two_inj (by omega) (by omega) this
    omega
  · intro x hx
    rcases List.mem_append.mp hx with q | q
    · exact h3 x q
    · rw [List.mem_singleton.mp q]
      refine ⟨by simp [two]; omega, fun y hy => ?_, d, _, rfl, hd⟩
      rcases List.mem_cons.mp hy with q | q
      · exact q ▸ low_sg hd
      · rcases List.mem_append.mp q with q | q
        · exact hs y (List.mem_cons_of_mem _ (List.mem_of_mem_take q))
        · simp only [two, List.mem_cons, List.not_mem_nil, or_false] at q
          rcases q with rfl | rfl <;> exact sg_sg (by omega)
  · intro x hx
    rcases List.mem_append.mp hx with q | q
    · obtain ⟨j, s, hj, e⟩ := h4 x q
      exact ⟨j, s, by omega, e⟩
    · exact ⟨k, d :: r.take 8, by omega, List.mem_singleton.mp q⟩
theorem fields_ok (ns : List Int) (at' count : Nat) (hc : count ≤ 40) : ∃ ts : List Tx, g__law_fields [.rol (ns.map .int), .int at', .int count] = .ok (.l (ts.map .str)) ∧ Flds count ts := by
  obtain ⟨o, e, t, rfl, hx⟩ : ∃ o, g__law_fields [.rol (ns.map .int), .int at', .int count] = .ok o ∧ ∃ ts : List Tx, o = .l (ts.map .str) ∧ Flds count ts := by
    refine run_ok _ rfl ?_
    obtain ⟨xs, en, hx⟩ := numbers_ok ns at' 36 (by decide)
    simp at en
    simp [b__law_fields, slotsOf, slotOf, List.replicate, en]
    by_cases h12 : (count : Int) ≤ 12
    · obtain ⟨ts, e2, h1, h2, h3⟩ := names_ok xs hx count (by omega) (by omega)
      simp [h12, e2, gSortA_strs (show ts.length < 64 by omega)]
      exact ⟨_, rfl, flds_sort h1 h2 h3⟩
    · simp [h12, R__law_fields_3, rng_nat (show count < 4611686018427387904 by omega)]
      refine sat_range (fldI ns xs at' count) ⟨[], _, _, rfl, rfl, List.nodup_nil, fun _ h => (nomatch h), fun _ h => nomatch h⟩ (fun k ρ hk hI => fields_step ns xs hx at' count hc k hk ρ hI _ fun _ h => h) ?_
      rintro _ ⟨ts, x5, x6, rfl, h1, h2, h3, h4⟩
      simp [R__law_fields_2, gSortA_strs (show ts.length < 64 by omega)]
      exact ⟨_, rfl, flds_sort h1 h2 h3⟩
  exact ⟨t, e, hx⟩
end Lw
end
section
namespace Lw
open Fz
open PySem (sizeLine)
open L2 (atI ixN)
/-! is_name -/
theorem gIn_sign (c : Fin 1114112) (x : Tx) : gIn (.str [c]) (.str x) = some (decide (c ∈ x)) := rfl
theorem gNotIn_sign (c : Fin 1114112) (x : Tx) : gNotIn (.str [c]) (.str x) = some (!decide (c ∈ x)) := rfl
theorem low_all : (List.range 26).all (fun k => decide ((Fin.ofNat 1114112 (97 + k)) ∈ lowsT)) = true := by decide +kernel
theorem fig_all : (List.range 10).all (fun k => decide ((Fin.ofNat 1114112 (48 + k)) ∈ figsT)) = true := by decide +kernel
theorem low_mem {c : Fin 1114112} (h : isLow c = true) : c ∈ lowsT := by
  unfold isLow at h
  simp only [Bool.and_eq_true, decide_eq_true_eq] at h
  have := of_decide_eq_true (List.all_eq_true.mp low_all (c.val - 97) (List.mem_range.mpr (by omega)))
  have e : Fin.ofNat 1114112 (97 + (c.val - 97)) = c := Fin.ext (by show (97 + (c.val - 97)) % 1114112 = c.val; have := c.isLt; omega)
  rw [e] at this
  exact this
theorem sg_mem {c : Fin 1114112} (h : isSg c = true) : c ∈ lowsT ∨ c ∈ figsT := by
  unfold isSg at h
  cases e : isLow c with
  | true => exact .inl (low_mem e)
  | false =>
    rw [e] at h
    simp only [Bool.false_or, Bool.and_eq_true, decide_eq_true_eq] at h
    have := of_decide_eq_true (List.all_eq_true.mp fig_all (c.val - 48) (List.mem_range.mpr (by omega)))
    have e : Fin.ofNat 1114112 (48 + (c.val - 48)) = c := Fin.ext (by show (48 + (c.val - 48)) % 1114112 = c.val; have := c.isLt; omega)
    rw [e] at this
    exact .inr this
def isNm (t : Tx) : Bool := match t with
  | [] => false
  | c :: r => decide (r.length < 12) && decide (c ∈ lowsT) && (c :: r).all fun c => decide (c ∈ lowsT) || decide (c ∈ figsT)
theorem good_nm {t : Tx} (h : goodN t) : isNm t = true := by
  obtain ⟨h1, h2, c, r, rfl, h3⟩ := h
  unfold isNm
  simp only [Bool.and_eq_true, decide_eq_true_eq, List.all_eq_true, Bool.or_eq_true]
  exact ⟨⟨by simp at h1; omega, low_mem h3⟩, fun x hx => sg_mem (h2 x hx)⟩
theorem signs_ok (c : Fin 1114112) (r : Tx) (hl : r.length < 12) : g_has_name_signs [.str (c :: r)] = .ok (.fz (.bl (decide (c ∈ lowsT) && (c :: r).all fun c => decide (c ∈ lowsT) || decide (c ∈ figsT)))) := by
  refine runN _ _ _ _ rfl ?_
  have e0 : gIx (.str (c :: r)) (.int 0) = some (.str [c]) := by
    rw [gIx_str _ _ (le_line (by simp; omega)), atI_nn _ _ (by decide) (by simp)]
    rfl
  have c1 := oComp_map (l := lOfA (eVar .I 0)) (vs := [1]) (g := gNm 1) (t := tYesF) (el := eOr (eCmp gIn (eVar .B 1) (eC (.str (txt "abcdefghijklmnopqrstuvwxyz")))) (eCmp gIn (eVar .B 1) (eC (.str (txt "0123456789"))))) (ρ := [.val (.str (c :: r)), .u]) (fun c => .str [c]) (fun c => .bl (decide (c ∈ lowsT) || decide (c ∈ figsT))) (c :: r) (by simp) (by simp [signsOf]) (fun d _ => by
    simp [gIn_sign]
    by_cases hd : d ∈ lowsT <;> simp [hd]) (le_line (by simp; omega))
  obtain ⟨b, hb⟩ : ∃ b, ((c :: r).all fun c => decide (c ∈ lowsT) || decide (c ∈ figsT)) = b := ⟨_, rfl⟩
  rw [hb]
  simp only [lowsT_eq, figsT_eq] at c1
  by_cases hc : c ∈ lowsT
  · simp [b_has_name_signs, slotsOf, slotOf, List.replicate, e0, gNotIn_sign, hc, R_has_name_signs_1]
    rw [c1]
    simp [gAll_b hb, -List.map_cons]
  · simp [b_has_name_signs, slotsOf, slotOf, List.replicate, e0, gNotIn_sign, hc]
/-- the kinds that are met -/
def pl : PV → Bool
  | .rol _ => false | .dit _ => false | .ins _ _ => false
  | _ => true
def nmB : PV → Bool
  | .str t => isNm t
  | _ => false
theorem name_is (p : PV) (hp : pl p = true) (hl : ∀ t, p = .str t → t.length ≤ 10000) : g_is_name [p] = .ok (.fz (.bl (nmB p))) := by
  refine runN _ _ _ _ rfl ?_
  cases p with
  | str t =>
    have hl := hl t rfl
    have el := gLen_str t (le_line (by omega))
    cases t with
    | nil => simp [b_is_name, slotsOf, slotOf, List.replicate, R_is_name_2, el, nmB, isNm]
    | cons c r =>
      by_cases h12 : r.length < 12
      · have e1 : ((r.length : Int) + 1 ≤ 12) := by omega
        have e2 : ((1 : Int) ≤ (r.length : Int) + 1) := by omega
        simp [b_is_name, slotsOf, slotOf, List.replicate, R_is_name_2, R_is_name_1, el, e1, e2, signs_ok c r h12, nmB, isNm, h12]
      · have e1 : ¬ ((r.length : Int) + 1 ≤ 12) := by omega
        have e2 : ((1 : Int) ≤ (r.length : Int) + 1) := by omega
        simp [b_is_name, slotsOf, slotOf, List.replicate, R_is_name_2, el, e1, e2, nmB, isNm, h12]
  | rol _ => cases hp
  | dit _ => cases hp
  | ins _ _ => cases hp
  | _ => simp [b_is_name, slotsOf, slotOf, List.replicate, nmB]
end Lw
end
section
namespace Lw
open Fz
open PySem (sizeLine)
open L2 (atI ixN)
/-! is_ascending, are_fields -/
def tp (q : Tx × Tx) : PV := .tup [.str q.1, .str q.2]
theorem zip_asc : ∀ {ts : List Tx}, (ts.Pairwise fun a b => txLt a b = true) → (ts.zip (ts.drop 1)).all (fun q => txLt q.1 q.2) = true
  | [], _ => rfl
  | [x], _ => rfl
  | x :: y :: r, h => by
    obtain ⟨h1, h2⟩ := List.pairwise_cons.mp h
    have ih := zip_asc h2
    show ((x, y) :: ((y :: r).zip ((y :: r).drop 1))).all _ = true
    rw [List.all_cons, ih, Bool.and_true]
    exact h1 y (by simp)
theorem slice_from (us : List Tx) (a : Nat) : gSl (.lst (us.map .str)) (some (a : Int)) none = some (.l ((us.drop a).map .str)) := by
  rw [gSl_lst, cut_map, cut_from]
theorem asc_ok (ts : List Tx) (hl : ts.length ≤ 1000) (h : ts.Pairwise fun a b => txLt a b = true) : g_is_ascending [.lst (ts.map .str)] = .ok (.fz (.bl true)) := by
  refine runN _ _ _ _ rfl ?_
  have s1 := slice_from ts 1
  have c1 := oComp_map (l := lZip (eVar .I 0) (eOfO (oSl (eVar .I 0) (pAt (eC (.int 1))) pNo))) (vs := [1, 2]) (g := gTp 2 (gsCons (gNm 1) (gsCons (gNm 2) gsNil))) (t := tYesF) (el := eCmp gLt (eVar .B 1) (eVar .B 2)) (ρ := [.val (.lst (ts.map .str)), .u, .u]) tp (fun q => .bl (txLt q.1 q.2)) (ts.zip (ts.drop 1)) (by simp) (by
      rw [m_lZip]
      simp [-List.map_drop, -List.drop_one, show gSl (.lst (ts.map .str)) (some 1) none = some (.l ((ts.drop 1).map .str)) from s1]
      rw [List.zip, List.map_zipWith]
      rfl) (fun q hq => by simp [tp, gOrd]) (le_line (by simp; omega))
  simp [b_is_ascending, slotsOf, slotOf, List.replicate]
  rw [c1]
  simp [gAll_b (zip_asc h), -List.drop_one]
theorem good_name {t : Tx} (h : goodN t) : g_is_name [.str t] = .ok (.fz (.bl true)) := by
  have := name_is (.str t) rfl (fun _ e => by cases e; have := h.1; omega)
  rw [this]
  show Res.ok (OT.fz (.bl (isNm t))) = _
  rw [good_nm h]
theorem flds_strict {count : Nat} {ts : List Tx} (h : Flds count ts) : ts.Pairwise fun a b => txLt a b = true := by
  refine (h.asc.and h.nd).imp ?_
  rintro a b ⟨h3, h4⟩
  cases z : txLt a b with
  | true => rfl
  | false => exact absurd (txLe_antisymm h3 (by unfold txLe; rw [z]; rfl)) h4
theorem are_ok {count : Nat} {ts : List Tx} (h : Flds count ts) (h1 : 1 ≤ count) (h2 : count ≤ 40) : g_are_fields [.lst (ts.map .str)] = .ok (.fz (.bl true)) := by
  refine runN _ _ _ _ rfl ?_
  have hl := h.len
  have c1 := oComp_map (l := lOfA (eVar .I 0)) (vs := [1]) (g := gNm 1) (t := tYesF) (el := eOfO (oCall g_is_name (lCons (eVar .E 1) lNil))) (ρ := [.val (.lst (ts.map .str)), .u]) PV.str (fun _ => .bl true) ts (by simp) (by simp) (fun d hd => by simp [good_name (h.good d hd)]) (le_line (by omega))
  have e1 : (1 : Int) ≤ ts.length := by omega
  have e2 : (ts.length : Int) ≤ 40 := by omega
  have g1 : gAll (.lst (ts.map fun _ => PV.bl true)) = some (.bl true) := gAll_b (b := fun _ : Tx => true) (by simp)
  simp [b_are_fields, slotsOf, slotOf, List.replicate, e1, e2, R_are_fields_2, R_are_fields_1, c1, g1, asc_ok ts (by omega) (flds_strict h)]
end Lw
end
section
namespace Lw
open Fz
open PySem (sizeLine)
open L2 (atI ixN)
/-! pairs of texts, slices of texts' lists -/
theorem add_l {x y : List PV} (h : x.length + y.length ≤ 100000) : gAdd (.lst x) (.lst y) = some (.l (x ++ y)) := gAdd_lst _ _ (le_line (by omega))
theorem sl_to (us : List Tx) (i : Int) (a : Nat) (h : i = a) : gSl (.lst (us.map .str)) none (some i) = some (.l ((us.take a).map .str)) := by
  rw [h, gSl_lst, cut_map, cut_to]
theorem sl_from (us : List Tx) (i : Int) (a : Nat) (h : i = a) : gSl (.lst (us.map .str)) (some i) none = some (.l ((us.drop a).map .str)) := by
  rw [h, gSl_lst, cut_map, cut_from]
theorem sl_init (us : List Tx) : gSl (.lst (us.map .str)) none (some (-1)) = some (.l (us.dropLast.map .str)) := by
  rw [gSl_lst, cut_map, cut_init]
theorem at_str (us : List Tx) (i : Int) (a : Nat) (ha : a < us.length) (h : i = a) : atI (us.map PV.str) i = some (.str us[a]) := by
  rw [atI_map, atI_nn _ _ (by omega) (by omega)]
  subst h
  rfl
theorem split_at {us : List Tx} {a : Nat} (ha : a < us.length) : us = us.take a ++ us[a] :: us.drop (a + 1) := by
  rw [← List.drop_eq_getElem_cons ha, List.take_append_drop]
theorem eqOk_tups (cl : List (Tx × Tx)) : eqOk (.lst (cl.map tp)) = true := eqOk_lst fun p hp => by
  obtain ⟨t, _, rfl⟩ := List.mem_map.mp hp
  exact ⟨rfl, by show 1 < 64; decide⟩
theorem any_tups (q : Tx × Tx) (cl : List (Tx × Tx)) : ((cl.map tp).any fun z => pvEq z (tp q)) = decide (q ∈ cl) := by
  induction cl with
  | nil => rfl
  | cons x xs ih =>
    rw [List.map_cons, List.any_cons, ih]
    have : pvEq (tp x) (tp q) = decide (x = q) := by
      obtain ⟨a, b⟩ := x
      obtain ⟨c, d⟩ := q
      simp [tp, pvEq, pvEqs]
      by_cases h1 : a = c <;> by_cases h2 : b = d <;> simp [h1, h2]
    rw [this]
    by_cases h : x = q
    · subst h; simp
    · have : q ≠ x := fun z => h z.symm
      simp [h, this]
theorem gIn_tups (a b : Tx) (cl : List (Tx × Tx)) : gIn (.tup [.str a, .str b]) (.lst (cl.map tp)) = some (decide ((a, b) ∈ cl)) := by
  show (if eqOk (tp (a, b)) && eqOk (.lst (cl.map tp)) then some ((cl.map tp).any fun z => pvEq z (tp (a, b))) else none) = _
  rw [eqOk_tups, any_tups]
  rfl
theorem gNotIn_tups (a b : Tx) (cl : List (Tx × Tx)) : gNotIn (.tup [.str a, .str b]) (.lst (cl.map tp)) = some (!decide ((a, b) ∈ cl)) := by
  show (gIn _ _).map _ = _
  rw [gIn_tups]
  rfl
theorem gIn_any (p : PV) (ts : List Tx) (h : eqOk p = true) : gIn p (.lst (ts.map .str)) = some ((ts.map PV.str).any fun z => pvEq z p) := by
  show (if eqOk p && eqOk (.lst (ts.map .str)) then some ((ts.map PV.str).any fun z => pvEq z p) else none) = _
  rw [eqOk_strs, h]
  rfl
end Lw
end
section
namespace Lw
open Fz
open PySem (sizeLine)
open L2 (atI ixN)
/-! check_pairs -/
def inN (ts : List Tx) (ps : List (Tx × Tx)) : Prop := ∀ q ∈ ps, q.1 ∈ ts ∧ q.2 ∈ ts
theorem pair_ok (ts : List Tx) (q : Tx × Tx) (h : q.1 ∈ ts ∧ q.2 ∈ ts) : g_is_pair [.lst (ts.map .str), tp q] = .ok (.fz (.bl true)) := by
  refine runN _ _ _ _ rfl ?_
  simp [b_is_pair, slotsOf, slotOf, List.replicate, tp, R_is_pair_1, h.1, h.2]
def fwI (ts : List Tx) (ps : List (Tx × Tx)) (k : Nat) (ρ : Fz.Env) : Prop := ∃ x2 x3 : Fz.Slot, ρ = [.bor (.lst (ts.map .str)), .val (.lst (ps.map tp)), x2, x3]
theorem fw_ok (ts : List Tx) (ps : List (Tx × Tx)) (h : inN ts ps) : g_first_wrong_pair [.lst (ts.map .str), .lst (ps.map tp)] = .ok (.fz .non) := by
  obtain ⟨o, e, rfl⟩ : ∃ o, g_first_wrong_pair [.lst (ts.map .str), .lst (ps.map tp)] = .ok o ∧ o = .fz .non := by
    refine run_ok _ rfl ?_
    simp [b_first_wrong_pair, slotsOf, slotOf, List.replicate]
    refine sat_for (fwI ts ps) ⟨_, _, rfl⟩ ?_ ?_
    · rintro k p _ hk ⟨x2, x3, rfl⟩
      obtain ⟨q, hq, rfl⟩ : ∃ q ∈ ps, p = .tup [.int k, tp q] := by
        rw [enumL, List.getElem?_map, List.getElem?_zipIdx, List.getElem?_map] at hk
        cases e : ps[k]? with
        | none => rw [e] at hk; cases hk
        | some q => rw [e] at hk; exact ⟨q, List.mem_of_getElem? e, by simpa using (Option.some.inj hk).symm⟩
      rw [stp_of (ρ1 := [.bor (.lst (ts.map .str)), .val (.lst (ps.map tp)), .val (.int k), .val (tp q)]) (by simp)]
      simp [L_first_wrong_pair_1, pair_ok ts q (h q hq)]
      exact ⟨_, _, rfl⟩
    · rintro _ ⟨x2, x3, rfl⟩
      simp [R_first_wrong_pair_2]
  exact e
theorem check_ok {count : Nat} {ts : List Tx} {ps : List (Tx × Tx)} (h : Flds count ts) (h1 : 1 ≤ count) (h2 : count ≤ 40) (hp : inN ts ps) : g_check_pairs [.lst (ts.map .str), .lst (ps.map tp)] = .ok (.fz .non) := by
  obtain ⟨o, e, rfl⟩ : ∃ o, g_check_pairs [.lst (ts.map .str), .lst (ps.map tp)] = .ok o ∧ o = .fz .non := by
    refine run_ok _ rfl ?_
    simp [b_check_pairs, slotsOf, slotOf, List.replicate, are_ok h h1 h2, R_check_pairs_1, fw_ok ts ps hp]
  exact e
end Lw
end
section
namespace Lw
open Fz
open PySem (sizeLine)
open L2 (atI ixN)
/-! _law_pairs -/
def rnk (ts : List Tx) (rk : List Int) (t : Tx) : Nat := (rk.getD (ts.idxOf t) 0).toNat * 64 + ts.idxOf t
def upw (r : Tx → Nat) (ps : List (Tx × Tx)) : Prop := ∀ q ∈ ps, r q.1 < r q.2
def prE (ns : List Int) (at' : Nat) (ts : List Tx) (many : Nat) (kind : Int) (s5 : Fz.Slot) (rk : List Int) (ps : List (Tx × Tx)) (ms : List Int) (x9 x10 x11 : Fz.Slot) : Fz.Env :=
  [.bor (.rol (ns.map .int)), .val (.int at'), .val (.lst (ts.map .str)), .bor (.int many), .bor (.int kind), s5, .own (.l (rk.map .int)), .own (.l (ps.map tp)), .own (.l (ms.map .int)), x9, x10, x11]
def prOk (ts : List Tx) (rk : List Int) (kind : Int) (n : Nat) (ps : List (Tx × Tx)) : Prop := inN ts ps ∧ ps.length ≤ n ∧ (kind = 0 → upw (rnk ts rk) ps)
theorem prOk_snoc {ts : List Tx} {rk : List Int} {kind : Int} {n : Nat} {ps : List (Tx × Tx)} (h : prOk ts rk kind n ps) {q : Tx × Tx} (h1 : q.1 ∈ ts ∧ q.2 ∈ ts) (h2 : kind = 0 → rnk ts rk q.1 < rnk ts rk q.2) : prOk ts rk kind (n + 1) (ps ++ [q]) := by
  refine ⟨fun p hp => ?_, by have := h.2.1; simp; omega, fun hk p hp => ?_⟩
  · rcases List.mem_append.mp hp with z | z
    · exact h.1 p z
    · rw [List.mem_singleton.mp z]; exact h1
  · rcases List.mem_append.mp hp with z | z
    · exact h.2.2 hk p z
    · rw [List.mem_singleton.mp z]; exact h2 hk
theorem prOk_up {ts : List Tx} {rk : List Int} {kind : Int} {n m : Nat} {ps : List (Tx × Tx)} (h : prOk ts rk kind n ps) (hm : n ≤ m) : prOk ts rk kind m ps := ⟨h.1, by have := h.2.1; omega, h.2.2⟩
theorem str_at {ts : List Tx} {a : Nat} (ha : a < ts.length) : atI (ts.map PV.str) (a : Int) = some (.str ts[a]) := by
  rw [atI_map, atI_nat, List.getElem?_eq_getElem ha]; rfl
section
variable {ns : List Int} {at' : Nat} {ts : List Tx} {many : Nat} {kind : Int} {s5 : Fz.Slot} {rk : List Int} {ps : List (Tx × Tx)} {ms : List Int} {x9 : Fz.Slot}
theorem snoc_tp (ps : List (Tx × Tx)) (x y : Tx) : ps.map tp ++ [.tup [.str x, .str y]] = (ps ++ [(x, y)]).map tp := by simp [tp]
theorem prs_R1 {k a b n : Nat} (hms : lows 60 ms) (ha : a < ts.length) (hb : b < ts.length) (h : prOk ts rk kind n ps) (hn : n ≤ 10000) (P : Po) (hP : ∀ ps', prOk ts rk kind (n + 1) ps' → P.nx (prE ns at' ts many kind s5 rk ps' ms (.val (.int k)) (.val (.int a)) (.val (.int b)))) :
    sat (R__law_pairs_1 (prE ns at' ts many kind s5 rk ps ms (.val (.int k)) (.val (.int a)) (.val (.int b)))) P := by
  have hl : ps.length < sizeLine := lt_line (by have := h.2.1; omega)
  have h20 := Nat.mod_lt k (show 0 < 20 by decide)
  obtain ⟨v, ev, _⟩ := low_get hms (i := 3 * ((k : Int) % 20) + 2) (by omega) (by omega)
  by_cases k2 : kind = 2
  · by_cases h9 : v % 9 = 0
    · simp [R__law_pairs_1, prE, k2, ev, h9, str_at ha, str_at hb, hl]
      rw [snoc_tp]
      simpa [prE, k2] using hP _ (prOk_snoc (q := (ts[b], ts[a])) h ⟨List.getElem_mem _, List.getElem_mem _⟩ fun z => by omega)
    · simp [R__law_pairs_1, prE, k2, ev, h9]
      simpa [prE, k2] using hP ps (prOk_up h (by omega))
  · simp [R__law_pairs_1, prE, k2]
    simpa [prE] using hP ps (prOk_up h (by omega))
theorem prs_R2 {k a b n : Nat} (hms : lows 60 ms) (ha : a < ts.length) (hb : b < ts.length) (h : prOk ts rk kind n ps) (hn : n ≤ 9000) (hr : a ≠ b → rnk ts rk (ts[a]) < rnk ts rk (ts[b])) (P : Po) (hP : ∀ ps', prOk ts rk kind (n + 2) ps' → P.nx (prE ns at' ts many kind s5 rk ps' ms (.val (.int k)) (.val (.int a)) (.val (.int b)))) :
    sat (R__law_pairs_2 (prE ns at' ts many kind s5 rk ps ms (.val (.int k)) (.val (.int a)) (.val (.int b)))) P := by
  have hl : ps.length < sizeLine := lt_line (by have := h.2.1; omega)
  by_cases hc : a ≠ b ∨ kind = 1
  · have hc' : ¬ ((a : Int) = b) ∨ kind = 1 := hc.imp (fun z => by omega) id
    have := prs_R1 (ns := ns) (at' := at') (many := many) (s5 := s5) (ms := ms) (k := k) hms ha hb (prOk_snoc (q := (ts[a], ts[b])) h ⟨List.getElem_mem _, List.getElem_mem _⟩ fun z => hr (hc.resolve_right (by omega))) (by omega) P hP
    by_cases e : (a : Int) = b
    · have k1 : kind = 1 := hc'.resolve_left (fun z => z e)
      subst k1
      simp only [prE] at this
      simp [R__law_pairs_2, prE, e, str_at ha, str_at hb, hl]
      have ab : a = b := by omega
      subst ab
      simpa [tp] using this
    · simp only [prE] at this
      simp [R__law_pairs_2, prE, e, str_at ha, str_at hb, hl]
      simpa [tp] using this
  · have k1 : ¬ kind = 1 := fun z => hc (.inr z)
    have ab : a = b := Classical.byContradiction fun z => hc (.inl z)
    have := prs_R1 (ns := ns) (at' := at') (many := many) (s5 := s5) (ms := ms) (k := k) hms ha hb h (by omega) P (fun ps' hp => hP ps' (prOk_up hp (by omega)))
    simp only [prE] at this
    simp [R__law_pairs_2, prE, k1, ab]
    simpa [ab] using this
theorem idx_at (hn : ts.Nodup) {a : Nat} (ha : a < ts.length) : ts.idxOf ts[a] = a := hn.idxOf_getElem a ha
theorem rnk_at (hn : ts.Nodup) {a : Nat} (ha : a < ts.length) : rnk ts rk ts[a] = (rk.getD a 0).toNat * 64 + a := by
  unfold rnk
  rw [idx_at hn ha]
theorem rk_at (hrk : rk.length = ts.length) {a : Nat} (ha : a < ts.length) : atI (rk.map PV.int) (a : Int) = some (.int (rk.getD a 0)) := by
  rw [atI_map, atI_nat, List.getD_eq_getElem?_getD, List.getElem?_eq_getElem (by omega)]; rfl
theorem prs_R3 {k n : Nat} {x10 x11 : Fz.Slot} (hms : lows 60 ms) (h0 : 0 < ts.length) (h64 : ts.length ≤ 60) (hnd : ts.Nodup) (hrk : rk.length = ts.length) (hr0 : ∀ a, 0 ≤ rk.getD a 0) (h : prOk ts rk kind n ps) (hn : n ≤ 9000) (P : Po) (hP : ∀ ps' x10 x11, prOk ts rk kind (n + 2) ps' → P.nx (prE ns at' ts many kind s5 rk ps' ms (.val (.int k)) x10 x11)) :
    sat (R__law_pairs_3 (prE ns at' ts many kind s5 rk ps ms (.val (.int k)) x10 x11)) P := by
  have h20 := Nat.mod_lt k (show 0 < 20 by decide)
  obtain ⟨v, ev, v0, _⟩ := low_get hms (i := 3 * ((k : Int) % 20)) (by omega) (by omega)
  obtain ⟨w, ew, w0, _⟩ := low_get hms (i := 3 * ((k : Int) % 20) + 1) (by omega) (by omega)
  obtain ⟨a, ea⟩ : ∃ a : Nat, v % (ts.length : Int) = a := ⟨(v % (ts.length : Int)).toNat, by have := Int.emod_nonneg v (show (ts.length : Int) ≠ 0 by omega); omega⟩
  obtain ⟨b, eb⟩ : ∃ b : Nat, w % (ts.length : Int) = b := ⟨(w % (ts.length : Int)).toNat, by have := Int.emod_nonneg w (show (ts.length : Int) ≠ 0 by omega); omega⟩
  have ha : a < ts.length := by have := Int.emod_lt_of_pos v (show (0 : Int) < ts.length by omega); omega
  have hb : b < ts.length := by have := Int.emod_lt_of_pos w (show (0 : Int) < ts.length by omega); omega
  have g1 := gMod_int v (ts.length : Int) (by omega)
  have g2 := gMod_int w (ts.length : Int) (by omega)
  rw [ea] at g1
  rw [eb] at g2
  simp only [R__law_pairs_3, prE]
  simp [-List.getD_eq_getElem?_getD, ev, ew, g1, g2, rk_at hrk ha, rk_at hrk hb]
  have ra := rnk_at (rk := rk) hnd ha
  have rb := rnk_at (rk := rk) hnd hb
  have na := hr0 a
  have nb := hr0 b
  refine sat_if (fun hc => ?_) (fun hc => ?_)
  · simp
    have := prs_R2 (ns := ns) (at' := at') (many := many) (s5 := s5) (ms := ms) (k := k) hms hb ha h (by omega) (fun z => by rw [ra, rb]; omega) P (fun ps' hp => hP ps' _ _ hp)
    simpa [prE] using this
  · simp
    have := prs_R2 (ns := ns) (at' := at') (many := many) (s5 := s5) (ms := ms) (k := k) hms ha hb h (by omega) (fun z => by rw [ra, rb]; omega) P (fun ps' hp => hP ps' _ _ hp)
    simpa [prE] using this
end
def prI (ns : List Int) (at' : Nat) (ts : List Tx) (many : Nat) (kind : Int) (s5 : Fz.Slot) (rk : List Int) (k : Nat) (ρ : Fz.Env) : Prop := ∃ (ps : List (Tx × Tx)) (ms : List Int) (x9 x10 x11 : Fz.Slot), ρ = prE ns at' ts many kind s5 rk ps ms x9 x10 x11 ∧ prOk ts rk kind (2 * k) ps ∧ (0 < k → lows 60 ms)
theorem pairs_ok (ns : List Int) (at' many : Nat) (kind : Int) (ts : List Tx) (h0 : 0 < ts.length) (h64 : ts.length ≤ 60) (hnd : ts.Nodup) (ham : at' ≤ 100000) (hmm : many ≤ 1000) :
    ∃ ps : List (Tx × Tx), g__law_pairs [.rol (ns.map .int), .int at', .lst (ts.map .str), .int many, .int kind] = .ok (.l (ps.map tp)) ∧ inN ts ps ∧ ps.length ≤ 2 * many ∧ (kind = 0 → ∃ r : Tx → Nat, upw r ps) := by
  obtain ⟨o, e, ps, rfl, hx⟩ : ∃ o, g__law_pairs [.rol (ns.map .int), .int at', .lst (ts.map .str), .int many, .int kind] = .ok o ∧ ∃ ps : List (Tx × Tx), o = .l (ps.map tp) ∧ inN ts ps ∧ ps.length ≤ 2 * many ∧ (kind = 0 → ∃ r : Tx → Nat, upw r ps) := by
    refine run_ok _ rfl ?_
    obtain ⟨xs, en, hx⟩ := numbers_ok ns at' 60 (by decide)
    simp at en
    have c1 := oComp_map (l := lRange1 (eUn gLen (eVar .B 2))) (vs := [9]) (g := gNm 9) (t := tYesF) (el := eBin gMod (eOfO (oBin gAdd (eOfO (oBin gMul (eIx (eVar .I 5) (eVar .B 9)) (eC (.int 7)))) (eVar .I 9))) (eC (.int 1009))) (ρ := [.bor (.rol (ns.map .int)), .val (.int at'), .val (.lst (ts.map .str)), .bor (.int many), .bor (.int kind), .own (.l (xs.map .int)), .u, .u, .u, .u, .u, .u]) (fun k : Nat => .int (k : Int)) (fun k => .int ((xs.getD k 0 * 7 + k) % 1009)) (List.range ts.length) (by simp) (by simp [rng_nat (show ts.length < 4611686018427387904 by omega)]; simp [rangeL]) (fun k hk => by
        have hk := List.mem_range.mp hk
        have e1 : atI (xs.map PV.int) (k : Int) = some (.int (xs.getD k 0)) := by
          rw [atI_map, atI_nat, List.getD_eq_getElem?_getD, List.getElem?_eq_getElem (by rw [hx.1]; omega)]; rfl
        have h2 := hx.2 (xs.getD k 0) (by rw [List.getD_eq_getElem?_getD, List.getElem?_eq_getElem (by rw [hx.1]; omega)]; exact List.getElem_mem _)
        have e2 : gMul (.int (xs.getD k 0)) (.int 7) = some (.fz (.int (xs.getD k 0 * 7))) := gMul_l _ _ (by omega) (by omega)
        simp [-List.getD_eq_getElem?_getD, e1, e2]) (le_line (by simp; omega))
    have em : (List.range ts.length).map (fun k : Nat => PV.int ((xs.getD k 0 * 7 + (k : Int)) % 1009)) = ((List.range ts.length).map (fun k : Nat => (xs.getD k 0 * 7 + (k : Int)) % 1009)).map PV.int := by rw [List.map_map]; rfl
    rw [em] at c1
    generalize hrk : (List.range ts.length).map (fun k : Nat => (xs.getD k 0 * 7 + (k : Int)) % 1009) = rk at c1
    have hl : rk.length = ts.length := by rw [← hrk]; simp
    have hr0 : ∀ a, 0 ≤ rk.getD a 0 := fun a => by
      rw [← hrk, List.getD_eq_getElem?_getD, List.getElem?_map]
      cases (List.range ts.length)[a]? with
      | none => exact Int.le_refl _
      | some k => exact Int.emod_nonneg _ (by decide)
    simp [b__law_pairs, slotsOf, slotOf, List.replicate, en]
    simp [c1, rng_nat (show many < 4611686018427387904 by omega)]
    refine sat_range (prI ns at' ts many kind (.own (.l (xs.map .int))) rk) ⟨[], [], _, _, _, rfl, ⟨fun _ h => (nomatch h), by simp, fun _ _ h => nomatch h⟩, fun h => absurd h (Nat.lt_irrefl _)⟩ ?_ ?_
    · rintro k _ hk ⟨ps, ms, x9, x10, x11, rfl, h1, h2⟩
      have go : ∀ ms : List Int, lows 60 ms → sat (R__law_pairs_3 (prE ns at' ts many kind (.own (.l (xs.map .int))) rk ps ms (.val (.int k)) x10 x11)) { nx := prI ns at' ts many kind (.own (.l (xs.map .int))) rk (k + 1), ct := prI ns at' ts many kind (.own (.l (xs.map .int))) rk (k + 1), bk := fun _ => False, rt := fun _ => False, ex := fun _ _ _ => False } := fun ms hms =>
        prs_R3 hms h0 h64 hnd hl hr0 h1 (by omega) _ fun ps' y10 y11 hp => ⟨ps', ms, _, y10, y11, rfl, hp, fun _ => hms⟩
      have go2 : ∀ ms : List Int, lows 60 ms → ∀ (B : Fz.Env → Prop) R E, sat (R__law_pairs_3 (prE ns at' ts many kind (.own (.l (xs.map .int))) rk ps ms (.val (.int k)) x10 x11)) { nx := prI ns at' ts many kind (.own (.l (xs.map .int))) rk (k + 1), ct := prI ns at' ts many kind (.own (.l (xs.map .int))) rk (k + 1), bk := B, rt := R, ex := E } := fun ms hms B R E =>
        (go ms hms).mono (fun _ h => h) (fun _ h => h.elim) (fun _ h => h) (fun _ h => h.elim) (fun _ _ _ h => h.elim)
      simp [prE, L__law_pairs_4]
      by_cases k20 : (k : Int) % 20 = 0
      · obtain ⟨ms', em, hm⟩ := numbers_ok ns (at' + 1 + k / 20) 60 (by decide)
        have e1 : ((at' : Int) + 1 + (k : Int) / 20) = ((at' + 1 + k / 20 : Nat) : Int) := by omega
        have e2 := gDiv_int (k : Int) 20 (by decide) (by decide)
        simp at em
        simp [k20, e2]
        rw [em]
        simp
        exact go2 ms' hm _ _ _
      · have k0 : 0 < k := Nat.pos_of_ne_zero fun z => k20 (by rw [z]; rfl)
        simp [k20]
        exact go2 ms (h2 k0) _ _ _
    · rintro _ ⟨ps, ms, x9, x10, x11, rfl, h1, h2⟩
      simp [R__law_pairs_5, prE]
      exact ⟨ps, rfl, h1.1, h1.2.1, fun z => ⟨_, h1.2.2 z⟩⟩
  exact ⟨ps, e, hx⟩
end Lw
end
section
namespace Lw
open Fz
open PySem (sizeLine Addr)
open L2 (atI ixN)
/-! dicts by a list of texts -/
theorem nodup_le {α : Type} [DecidableEq α] : ∀ {W ts : List α}, W.Nodup → (∀ w ∈ W, w ∈ ts) → W.length ≤ ts.length
  | [], _, _, _ => Nat.zero_le _
  | w :: W, ts, hn, hs => by
    obtain ⟨h1, h2⟩ := List.nodup_cons.mp hn
    have hw := hs w (by simp)
    have := nodup_le (W := W) (ts := ts.erase w) h2 fun x hx => (List.mem_erase_of_ne (show x ≠ w from fun e => h1 (e ▸ hx))).mpr (hs x (by simp [hx]))
    rw [List.length_erase_of_mem hw] at this
    have := List.length_pos_of_mem hw
    simp
    omega
theorem look_ad {β : Type} (F : Tx → β) (x : Tx) : ∀ (ts : List Tx), x ∈ ts → lookA (ts.map fun t => ((.inr t : K1), F t)) (.inr x) = some (F x)
  | t :: ts, h => by
    rw [List.map_cons]
    unfold lookA
    rw [List.find?_cons]
    by_cases e : t = x
    · simp [e]
    · have hx : x ∈ ts := (List.mem_cons.mp h).resolve_left fun z => e z.symm
      simp [e]
      have := look_ad F x ts hx
      unfold lookA at this
      simpa using this
theorem find_ad {β : Type} (F : Tx → β) (x : Tx) : ∀ (ts : List Tx), x ∈ ts → (ts.map fun t => ((.inr t : K1), F t)).findIdx? (fun q => decide (q.1 = .inr x)) = some (ts.idxOf x)
  | t :: ts, h => by
    rw [List.map_cons, List.findIdx?_cons]
    by_cases e : t = x
    · subst e; simp
    · have hx : x ∈ ts := (List.mem_cons.mp h).resolve_left fun z => e z.symm
      rw [find_ad F x ts hx]
      have eb : (t == x) = false := by simp [e]
      simp [e, List.idxOf_cons, eb]
theorem gIx_of (ts : List Tx) (F : Tx → PV) {x : Tx} (h : x ∈ ts) : gIx (.dic (ts.map fun t => ((.inr t : K1), F t))) (.str x) = some (F x) := by
  have e : gIx (.dic (ts.map fun t => ((.inr t : K1), F t))) (.str x) = (lookD (.dic (ts.map fun t => ((.inr t : K1), F t))) (.str x)).bind id := rfl
  rw [e, lookD_str, look_ad F x ts h]
  rfl
theorem setSnd_ad (F : Tx → OT) {x : Tx} (n : OT) : ∀ (ts : List Tx), ts.Nodup → x ∈ ts → setSnd (ts.map fun t => ((.inr t : K1), F t)) (ts.idxOf x) n = ts.map fun t => (.inr t, if t = x then n else F t) := fun ts hn hx => by
  have hi := List.idxOf_lt_length_iff.mpr hx
  unfold setSnd
  rw [List.getElem?_map, List.getElem?_eq_getElem hi]
  simp only [Option.map_some]
  refine List.ext_getElem? fun j => ?_
  by_cases e : ts.idxOf x = j
  · subst e
    rw [List.getElem?_set_self (by simpa using hi), List.getElem?_map, List.getElem?_eq_getElem hi]
    simp
  · rw [List.getElem?_set_ne e, List.getElem?_map, List.getElem?_map]
    cases ej : ts[j]? with
    | none => rfl
    | some z =>
      have : z ≠ x := fun q => by
        subst q
        obtain ⟨hj, rfl⟩ := List.getElem?_eq_some_iff.mp ej
        exact e (hn.idxOf_getElem j hj)
      simp [this]
/-- marks: a dict whose values are True -/
def mkK (y : Tx) : K1 × PV := (.inr y, .bl true)
theorem put_mk (ys : List Tx) (y : Tx) : putA (ys.map mkK) (.inr y) (.bl true) = (if y ∈ ys then ys else ys ++ [y]).map mkK := by
  unfold putA
  by_cases h : y ∈ ys
  · rw [if_pos h, if_pos (List.any_eq_true.mpr ⟨mkK y, List.mem_map.mpr ⟨y, h, rfl⟩, by simp [mkK]⟩), List.map_map]
    refine List.map_congr_left fun z _ => ?_
    show (if (mkK z).1 = .inr y then ((mkK z).1, PV.bl true) else mkK z) = mkK z
    by_cases e : (mkK z).1 = .inr y
    · rw [if_pos e]; rfl
    · rw [if_neg e]
  · rw [if_neg h, if_neg, List.map_append]
    · rfl
    · intro z
      obtain ⟨q, hq, e⟩ := List.any_eq_true.mp z
      obtain ⟨w, hw, rfl⟩ := List.mem_map.mp hq
      have := of_decide_eq_true e
      simp only [mkK, Sum.inr.injEq] at this
      exact h (this ▸ hw)
theorem keys_mk (ys : List Tx) : (ys.map mkK).map (fun q => keyPV q.1) = ys.map .str := by
  rw [List.map_map]; rfl
theorem look_mk (ys : List Tx) (y : Tx) : lookA (ys.map mkK) (.inr y) = if y ∈ ys then some (.bl true) else none := by
  induction ys with
  | nil => rfl
  | cons z zs ih =>
    unfold lookA at ih ⊢
    rw [List.map_cons, List.find?_cons]
    by_cases e : z = y
    · subst e; simp [mkK]
    · have e2 : ¬ y = z := fun q => e q.symm
      have : decide ((mkK z).1 = .inr y) = false := by simp [mkK, e]
      rw [this]
      simp only [List.mem_cons, e2, false_or]
      exact ih
end Lw
end
section
namespace Lw
open Fz
open PySem (sizeLine Addr)
open L2 (atI ixN)
/-! direct_befores, direct_afters -/
def addN (nb : Tx → List Tx) (x y : Tx) : Tx → List Tx := fun z => if z = x then (if y ∈ nb x then nb x else nb x ++ [y]) else nb z
def adT (ts : List Tx) (nb : Tx → List Tx) : OT := .D (ts.map fun t => (.inr t, .l ((nb t).map .str)))
def adP (ts : List Tx) (nb : Tx → List Tx) : PV := .dic (ts.map fun t => (.inr t, .lst ((nb t).map .str)))
theorem adT_pv (ts : List Tx) (nb : Tx → List Tx) : (adT ts nb).pv = adP ts nb := by
  show PV.dic (OT.pvK _) = _
  unfold adP
  congr 1
  induction ts with
  | nil => rfl
  | cons t ts ih => rw [List.map_cons, List.map_cons, OT.pvK, ih]; rfl
theorem gIx_ad (ts : List Tx) (nb : Tx → List Tx) {x : Tx} (h : x ∈ ts) : gIx (adP ts nb) (.str x) = some (.lst ((nb x).map .str)) := by
  have e : gIx (adP ts nb) (.str x) = (lookD (adP ts nb) (.str x)).bind id := rfl
  rw [e]
  unfold adP
  rw [lookD_str, look_ad (fun t => PV.lst ((nb t).map .str)) x ts h]
  rfl
theorem set_ad (nb : Tx → List Tx) {x y : Tx} (hy : y ∉ nb x) : ∀ (ts : List Tx), ts.Nodup → x ∈ ts → setSnd (ts.map fun t => ((.inr t : K1), OT.l ((nb t).map .str))) (ts.idxOf x) (.l ((nb x ++ [y]).map .str)) = ts.map fun t => (.inr t, .l ((addN nb x y t).map .str)) := fun ts hn hx => by
  have hi := List.idxOf_lt_length_iff.mpr hx
  unfold setSnd
  rw [List.getElem?_map, List.getElem?_eq_getElem hi]
  simp only [Option.map_some]
  refine List.ext_getElem? fun j => ?_
  by_cases e : ts.idxOf x = j
  · subst e
    rw [List.getElem?_set_self (by simpa using hi), List.getElem?_map, List.getElem?_eq_getElem hi]
    simp [addN, hy]
  · rw [List.getElem?_set_ne e, List.getElem?_map, List.getElem?_map]
    cases ej : ts[j]? with
    | none => rfl
    | some z =>
      have : z ≠ x := fun q => by
        subst q
        obtain ⟨hj, rfl⟩ := List.getElem?_eq_some_iff.mp ej
        exact e (hn.idxOf_getElem j hj)
      simp [addN, this]
theorem put_ok (a : Addr) (ts : List Tx) (nb : Tx → List Tx) (x y : Tx) (hn : ts.Nodup) (hx : x ∈ ts) (hl : (nb x).length < 100000) :
    g_put_in [a] [adT ts nb, .fz (.str x), .fz (.str y)] = .ok (.fz .non) [adT ts (addN nb x y)] := by
  refine runM_eq ⟨rfl, rfl⟩ ?_
  have e1 := gIx_ad ts nb hx
  have e2 : (OT.P a (adT ts nb)).pv = adP ts nb := adT_pv ts nb
  by_cases hy : y ∈ nb x
  · have : addN nb x y = nb := by
      funext z
      unfold addN
      by_cases e : z = x
      · simp [e, hy]
      · simp [e]
    simp [b_put_in, List.replicate, e2, e1, hy, this]
  · have f1 := find_ad (fun t => OT.l ((nb t).map .str)) x ts hx
    have hi := List.idxOf_lt_length_iff.mpr hx
    have k1 : (adT ts nb).core = adT ts nb := rfl
    have k2 : kidIdx (adT ts nb) (.str x) = some (ts.idxOf x) := f1
    have k3 : (OT.P a (adT ts nb)).kids[ts.idxOf x]? = some (.l ((nb x).map .str)) := by
      show ((ts.map fun t => ((.inr t : K1), OT.l ((nb t).map .str))).map Prod.snd)[ts.idxOf x]? = _
      rw [List.map_map, List.getElem?_map, List.getElem?_eq_getElem hi]
      simp
    have k4 : (OT.P a (adT ts nb)).setKid (ts.idxOf x) (.l ((nb x ++ [y]).map .str)) = .P a (adT ts (addN nb x y)) := by
      show OT.P a (.D (setSnd _ _ _)) = _
      rw [set_ad nb hy ts hn hx]
      rfl
    simp [b_put_in, List.replicate, e2, e1, hy]
    simp [k1, k2, at_cons', put_cons', k3, show (nb x).length < sizeLine from lt_line (by omega)]
    rw [snoc_m (f := PV.str), k4]
    simp
theorem mem_addN {nb : Tx → List Tx} {x y z w : Tx} : w ∈ addN nb x y z ↔ w ∈ nb z ∨ (z = x ∧ w = y) := by
  unfold addN
  by_cases e : z = x
  · subst e
    by_cases h : y ∈ nb z
    · simp [h]
      intro e; rw [e]; exact h
    · simp [h]
  · simp [e]
theorem nod_addN {nb : Tx → List Tx} {x y z : Tx} (h : (nb z).Nodup) : (addN nb x y z).Nodup := by
  unfold addN
  by_cases e : z = x
  · subst e
    by_cases hy : y ∈ nb z
    · simpa [hy] using h
    · simp only [if_true, hy, if_false]
      exact List.nodup_append.mpr ⟨h, by simp, fun a ha b hb z => by rw [List.mem_singleton.mp hb] at z; exact hy (z ▸ ha)⟩
  · simpa [e] using h
theorem len_addN {nb : Tx → List Tx} {x y z : Tx} {n : Nat} (h : ∀ z, (nb z).length ≤ n) : (addN nb x y z).length ≤ n + 1 := by
  unfold addN
  have h1 := h z
  have h2 := h x
  by_cases e : z = x
  · by_cases hy : y ∈ nb x
    · simp [e, hy]; omega
    · simp [e, hy]; omega
  · simp [e]; omega
def befs (ps : List (Tx × Tx)) : Tx → List Tx := ps.foldl (fun nb q => addN nb q.2 q.1) fun _ => []
def afts (ps : List (Tx × Tx)) : Tx → List Tx := ps.foldl (fun nb q => addN nb q.1 q.2) fun _ => []
theorem befs_snoc (d : List (Tx × Tx)) (q : Tx × Tx) : befs (d ++ [q]) = addN (befs d) q.2 q.1 := by unfold befs; rw [List.foldl_append]; rfl
theorem afts_snoc (d : List (Tx × Tx)) (q : Tx × Tx) : afts (d ++ [q]) = addN (afts d) q.1 q.2 := by unfold afts; rw [List.foldl_append]; rfl
theorem snoc_ind {α : Type} {p : List α → Prop} (h0 : p []) (h1 : ∀ d x, p d → p (d ++ [x])) (xs : List α) : p xs := by
  have : ∀ ys : List α, p ys.reverse := fun ys => by
    induction ys with
    | nil => exact h0
    | cons y ys ih => rw [List.reverse_cons]; exact h1 _ _ ih
  rw [← List.reverse_reverse xs]
  exact this _
theorem befs_len (ps : List (Tx × Tx)) : ∀ z, (befs ps z).length ≤ ps.length := snoc_ind (p := fun ps => ∀ z, (befs ps z).length ≤ ps.length) (fun z => Nat.le_refl _) (fun d q ih z => by rw [befs_snoc, List.length_append]; exact len_addN ih) ps
theorem afts_len (ps : List (Tx × Tx)) : ∀ z, (afts ps z).length ≤ ps.length := snoc_ind (p := fun ps => ∀ z, (afts ps z).length ≤ ps.length) (fun z => Nat.le_refl _) (fun d q ih z => by rw [afts_snoc, List.length_append]; exact len_addN ih) ps
theorem befs_mem (ps : List (Tx × Tx)) {x y : Tx} : y ∈ befs ps x ↔ (y, x) ∈ ps := snoc_ind (p := fun ps => ∀ x y, y ∈ befs ps x ↔ (y, x) ∈ ps) (fun x y => by simp [befs]) (fun d q ih x y => by
  rw [befs_snoc, mem_addN, ih]
  obtain ⟨a, b⟩ := q
  simp
  exact ⟨fun h => h.imp id fun z => ⟨z.2, z.1⟩, fun h => h.imp id fun z => ⟨z.2, z.1⟩⟩) ps x y
theorem afts_mem (ps : List (Tx × Tx)) {x y : Tx} : y ∈ afts ps x ↔ (x, y) ∈ ps := snoc_ind (p := fun ps => ∀ x y, y ∈ afts ps x ↔ (x, y) ∈ ps) (fun x y => by simp [afts]) (fun d q ih x y => by
  rw [afts_snoc, mem_addN, ih]
  obtain ⟨a, b⟩ := q
  simp) ps x y
theorem befs_nod (ps : List (Tx × Tx)) : ∀ x, (befs ps x).Nodup := snoc_ind (p := fun ps => ∀ x, (befs ps x).Nodup) (fun x => List.nodup_nil) (fun d q ih x => by rw [befs_snoc]; exact nod_addN (ih x)) ps
theorem afts_nod (ps : List (Tx × Tx)) : ∀ x, (afts ps x).Nodup := snoc_ind (p := fun ps => ∀ x, (afts ps x).Nodup) (fun x => List.nodup_nil) (fun d q ih x => by rw [afts_snoc]; exact nod_addN (ih x)) ps
def adE (ts : List Tx) (ps : List (Tx × Tx)) (nb : Tx → List Tx) (x3 x4 : Fz.Slot) : Fz.Env := [.val (.lst (ts.map .str)), .val (.lst (ps.map tp)), .own (adT ts nb), x3, x4, .u]
def adI (ts : List Tx) (ps : List (Tx × Tx)) (nb : Tx → List Tx) (ρ : Fz.Env) : Prop := ∃ x3 x4, ρ = adE ts ps nb x3 x4
theorem adI_of {ts : List Tx} {ps : List (Tx × Tx)} {nb : Tx → List Tx} {x3 x4 : Fz.Slot} : adI ts ps nb [.val (.lst (ts.map .str)), .val (.lst (ps.map tp)), .own (adT ts nb), x3, x4, .u] := ⟨x3, x4, rfl⟩
theorem call_put (ts : List Tx) (nb : Tx → List Tx) (x y : Tx) (hn : ts.Nodup) (hx : x ∈ ts) (hl : (nb x).length < 100000) : anyA 1 g_put_in [adT ts nb, .fz (.str x), .fz (.str y)] = .ok (.fz .non) [adT ts (addN nb x y)] := anyA_one fun a => put_ok a ts nb x y hn hx hl
theorem befores_ok (ts : List Tx) (ps : List (Tx × Tx)) (hn : ts.Nodup) (h1 : ts.length ≤ 1000) (h2 : ps.length ≤ 10000) (hp : inN ts ps) : g_direct_befores [.lst (ts.map .str), .lst (ps.map tp)] = .ok (adT ts (befs ps)) := by
  obtain ⟨o, e, rfl⟩ : ∃ o, g_direct_befores [.lst (ts.map .str), .lst (ps.map tp)] = .ok o ∧ o = adT ts (befs ps) := by
    refine run_ok _ rfl ?_
    have c1 := oDCompO_map (l := lOfA (eVar .I 0)) (vs := [5]) (g := gNm 5) (t := tYesF) (ek := eVar .B 5) (el := oLst lNil) (ρ := [.val (.lst (ts.map .str)), .val (.lst (ps.map tp)), .u, .u, .u, .u]) PV.str (fun t => .inr t) (fun _ => OT.l []) ts (by simp) (by simp) (fun x _ => by simp) (List.Pairwise.map _ (fun a b h e => h (Sum.inr.inj e)) hn) (le_line (by omega))
    simp [b_direct_befores, slotsOf, slotOf, List.replicate, c1]
    refine sat_list (fun d ρ => adI ts ps (befs d) ρ) ⟨_, _, rfl⟩ ?_ ?_
    · rintro d q r _ hd ⟨x3, x4, rfl⟩
      have hq := hp q (by rw [hd]; simp)
      rw [stp_of (ρ1 := adE ts ps (befs d) (.val (.str q.1)) (.val (.str q.2))) (by simp [adE, tp])]
      have e1 := call_put ts (befs d) q.2 q.1 hn hq.2 (by have := befs_len d q.2; have := congrArg List.length hd; simp at this; omega)
      have e2 : nd1 (adT ts (befs d)) = some (adT ts (befs d)) := rfl
      have e3 : (adT ts (befs d)).core = adT ts (befs d) := rfl
      have e4 : ∀ n, (adT ts (befs d)).reP n = n := fun _ => rfl
      simp [L_direct_befores_1, adE, e1, e2, e3, e4]
      rw [befs_snoc]
      exact adI_of
    · rintro _ ⟨x3, x4, rfl⟩
      simp [R_direct_befores_2, adE]
  exact e
end Lw
end
section
namespace Lw
open Fz
open PySem (sizeLine Addr)
open L2 (atI ixN)
/-! reached_over -/
inductive Rch (nb : Tx → List Tx) : Tx → Tx → Prop
  | one {x y : Tx} : y ∈ nb x → Rch nb x y
  | step {x y z : Tx} : Rch nb x y → z ∈ nb y → Rch nb x z
theorem Rch.trans {nb : Tx → List Tx} {x y z : Tx} (h : Rch nb x y) (h2 : Rch nb y z) : Rch nb x z := by
  induction h2 with
  | one h2 => exact .step h h2
  | step _ h2 ih => exact .step ih h2
theorem Rch.head {nb : Tx → List Tx} {x y z : Tx} (h : y ∈ nb x) (h2 : Rch nb y z) : Rch nb x z := (Rch.one h).trans h2
theorem Rch.mono {nb nb' : Tx → List Tx} (hm : ∀ x y, y ∈ nb x → y ∈ nb' x) {x y : Tx} (h : Rch nb x y) : Rch nb' x y := by
  induction h with
  | one h => exact .one (hm _ _ h)
  | step _ h ih => exact .step ih (hm _ _ h)
structure Nbs (ts : List Tx) (nb : Tx → List Tx) : Prop where
  nd : ts.Nodup
  len : ts.length < 64
  mem : ∀ x ∈ ts, ∀ y ∈ nb x, y ∈ ts
  nod : ∀ x, (nb x).Nodup
theorem Nbs.rch {ts : List Tx} {nb : Tx → List Tx} (h : Nbs ts nb) {x y : Tx} (hx : x ∈ ts) (r : Rch nb x y) : y ∈ ts := by
  induction r with
  | one r => exact h.mem _ hx _ r
  | step _ r ih => exact h.mem _ ih _ r
end Lw
end
section
namespace Lw
open Fz
open PySem (sizeLine Addr)
open L2 (atI ixN)
/-! placed_names -/
def rdy (nb : Tx → List Tx) (pl : List Tx) (x : Tx) : Bool := !decide (x ∈ pl) && (nb x).all fun y => decide (y ∈ pl)
theorem ready_ok (ts : List Tx) (nb : Tx → List Tx) (h : Nbs ts nb) (pl : List Tx) (x : Tx) (hx : x ∈ ts) : g_is_ready [adP ts nb, .lst (pl.map .str), .str x] = .ok (.fz (.bl (rdy nb pl x))) := by
  refine runN _ _ _ _ rfl ?_
  unfold rdy
  by_cases hp : x ∈ pl
  · simp [b_is_ready, slotsOf, slotOf, List.replicate, hp]
  · have c1 := oComp_map (l := lOfA (eIx (eVar .I 0) (eVar .B 2))) (vs := [3]) (g := gNm 3) (t := tYesF) (el := eCmp gIn (eVar .B 3) (eVar .B 1)) (ρ := [.val (adP ts nb), .bor (.lst (pl.map .str)), .bor (.str x), .u]) PV.str (fun y => .bl (decide (y ∈ pl))) (nb x) (by simp) (by simp [gIx_ad ts nb hx]) (fun y _ => by simp) (le_line (by have := nodup_le (h.nod x) (h.mem x hx); have := h.len; omega))
    obtain ⟨b, hb⟩ : ∃ b, ((nb x).all fun y => decide (y ∈ pl)) = b := ⟨_, rfl⟩
    rw [hb]
    simp [b_is_ready, slotsOf, slotOf, List.replicate, hp, R_is_ready_1, c1, gAll_b hb]
def nrI (ts : List Tx) (nb : Tx → List Tx) (pl : List Tx) (ρ : Fz.Env) : Prop := ∃ x3 : Fz.Slot, ρ = [.val (.lst (ts.map .str)), .val (adP ts nb), .bor (.lst (pl.map .str)), x3]
theorem next_ok (ts : List Tx) (nb : Tx → List Tx) (h : Nbs ts nb) (pl : List Tx) : g_next_ready [.lst (ts.map .str), adP ts nb, .lst (pl.map .str)] = .ok (.fz (ansP (ts.find? (rdy nb pl)))) := by
  obtain ⟨o, e, rfl⟩ : ∃ o, g_next_ready [.lst (ts.map .str), adP ts nb, .lst (pl.map .str)] = .ok o ∧ o = .fz (ansP (ts.find? (rdy nb pl))) := by
    refine run_ok _ rfl ?_
    simp [b_next_ready, slotsOf, slotOf, List.replicate]
    refine sat_find (nrI ts nb pl) (rdy nb pl) ⟨_, rfl⟩ ?_ ?_ ?_
    · rintro x _ hx hc ⟨x3, rfl⟩
      simp [L_next_ready_1, ready_ok ts nb h pl x hx, hc]
      exact ⟨_, rfl⟩
    · rintro x _ hf ⟨x3, rfl⟩
      have hx := List.mem_of_find?_eq_some hf
      have hc := List.find?_some hf
      simp [L_next_ready_1, ready_ok ts nb h pl x hx, hc, hf]
    · rintro _ hf ⟨x3, rfl⟩
      simp [R_next_ready_2, hf]
  exact e
structure Plc (ts : List Tx) (nb : Tx → List Tx) (pl : List Tx) : Prop where
  step : ∀ u x v, pl = u ++ x :: v → ts.find? (rdy nb u) = some x
  nd : pl.Nodup
  sub : ∀ x ∈ pl, x ∈ ts
theorem Plc.nil (ts : List Tx) (nb : Tx → List Tx) : Plc ts nb [] := ⟨fun u x v h => by simp at h, List.nodup_nil, fun _ h => nomatch h⟩
theorem Plc.snoc {ts : List Tx} {nb : Tx → List Tx} {pl : List Tx} {x : Tx} (h : Plc ts nb pl) (hx : ts.find? (rdy nb pl) = some x) : Plc ts nb (pl ++ [x]) where
  step := fun u y v e => by
    rcases List.append_eq_append_iff.mp e with ⟨a, e1, e2⟩ | ⟨a, e1, e2⟩
    · cases a with
      | nil =>
        simp at e1 e2
        rw [e1, ← e2.1]; exact hx
      | cons z a => simp at e2
    · cases a with
      | nil =>
        simp at e1 e2
        rw [← e1, e2.1]; exact hx
      | cons z a =>
        simp at e2
        rw [← e2.1] at e1
        exact h.step u y a e1
  nd := by
    have hc := List.find?_some hx
    unfold rdy at hc
    simp only [Bool.and_eq_true, Bool.not_eq_true', decide_eq_false_iff_not] at hc
    exact List.nodup_append.mpr ⟨h.nd, by simp, fun a ha b hb z => hc.1 (by rw [List.mem_singleton.mp hb] at z; exact z ▸ ha)⟩
  sub := fun y hy => by
    rcases List.mem_append.mp hy with q | q
    · exact h.sub y q
    · rw [List.mem_singleton.mp q]; exact List.mem_of_find?_eq_some hx
def plE (ts : List Tx) (nb : Tx → List Tx) (pl : List Tx) : Fz.Env := [.val (.lst (ts.map .str)), .val (adP ts nb), .own (.l (pl.map .str)), .val (ansP (ts.find? (rdy nb pl)))]
def plI (ts : List Tx) (nb : Tx → List Tx) (n : Nat) (ρ : Fz.Env) : Prop := ∃ pl, ρ = plE ts nb pl ∧ Plc ts nb pl ∧ n = ts.length - pl.length
theorem plI_of {ts : List Tx} {nb : Tx → List Tx} {pl : List Tx} {n : Nat} {q : List PV} (h : Plc ts nb pl) (hn : n = ts.length - pl.length) (hq : q = pl.map PV.str) : plI ts nb n [.val (.lst (ts.map .str)), .val (adP ts nb), .own (.l q), .val (ansP (ts.find? (rdy nb pl)))] := ⟨pl, by rw [hq]; rfl, h, hn⟩
theorem placed_ok (ts : List Tx) (nb : Tx → List Tx) (h : Nbs ts nb) : ∃ pl : List Tx, g_placed_names [.lst (ts.map .str), adP ts nb] = .ok (.l (pl.map .str)) ∧ Plc ts nb pl ∧ ts.find? (rdy nb pl) = none := by
  obtain ⟨o, e, pl, rfl, hx⟩ : ∃ o, g_placed_names [.lst (ts.map .str), adP ts nb] = .ok o ∧ ∃ pl : List Tx, o = .l (pl.map .str) ∧ Plc ts nb pl ∧ ts.find? (rdy nb pl) = none := by
    refine run_ok _ rfl ?_
    have n0 := next_ok ts nb h []
    simp only [List.map_nil] at n0
    simp [b_placed_names, slotsOf, slotOf, List.replicate, n0]
    refine sat_while (plI ts nb) (n := ts.length) (plI_of (Plc.nil ts nb) (by simp) rfl) ?_
    rintro n _ ⟨pl, rfl, hp, rfl⟩
    refine ⟨(ts.find? (rdy nb pl)).isSome, by simp [plE, nonP_ans], fun hb => ?_, fun hb => ?_⟩
    · obtain ⟨x, hx⟩ := Option.isSome_iff_exists.mp hb
      have p2 := hp.snoc hx
      have wl := nodup_le p2.nd p2.sub
      have hl := h.len
      simp only [List.length_append, List.length_singleton] at wl
      have n1 := next_ok ts nb h (pl ++ [x])
      simp only [List.map_append, List.map_cons, List.map_nil] at n1
      simp [L_placed_names_1, plE, hx, show pl.length < sizeLine from lt_line (by omega), n1]
      exact ⟨ts.length - (pl.length + 1), by omega, plI_of p2 (by simp) (by simp)⟩
    · have hb : ts.find? (rdy nb pl) = none := by simpa using hb
      simp [R_placed_names_2, plE, -List.find?_eq_none]
      exact ⟨pl, rfl, hp, by simpa using hb⟩
  exact ⟨pl, e, hx⟩
end Lw
end
section
namespace Lw
open Fz
open PySem (sizeLine Addr)
open L2 (atI ixN)
/-! orders of names -/
def Keeps (ts : List Tx) (ps : List (Tx × Tx)) (o : List Tx) : Prop := o.Perm ts ∧ ∀ q ∈ ps, o.idxOf q.1 < o.idxOf q.2
theorem befs_nbs {ts : List Tx} {ps : List (Tx × Tx)} (hn : ts.Nodup) (hl : ts.length < 64) (hp : inN ts ps) : Nbs ts (befs ps) := ⟨hn, hl, fun x hx y hy => (hp _ ((befs_mem ps).mp hy)).1, befs_nod ps⟩
theorem afts_nbs {ts : List Tx} {ps : List (Tx × Tx)} (hn : ts.Nodup) (hl : ts.length < 64) (hp : inN ts ps) : Nbs ts (afts ps) := ⟨hn, hl, fun x hx y hy => (hp _ ((afts_mem ps).mp hy)).2, afts_nod ps⟩
section
variable {ts : List Tx} {ps : List (Tx × Tx)} {pl : List Tx}
theorem Plc.before {nb : Tx → List Tx} (h : Plc ts nb pl) {u v : List Tx} {x : Tx} (e : pl = u ++ x :: v) : ∀ y ∈ nb x, y ∈ u := fun y hy => by
  have hc := List.find?_some (h.step u x v e)
  unfold rdy at hc
  simp only [Bool.and_eq_true, List.all_eq_true, decide_eq_true_eq] at hc
  exact hc.2 y hy
theorem idx_split {u v : List Tx} {x : Tx} (hn : (u ++ x :: v).Nodup) : (u ++ x :: v).idxOf x = u.length := by
  have : x ∉ u := fun z => (List.nodup_append.mp hn).2.2 x z x (by simp) rfl
  rw [List.idxOf_append, if_neg this]
  simp
theorem idx_left {u v : List Tx} {y : Tx} (hy : y ∈ u) : (u ++ v).idxOf y < u.length := by
  rw [List.idxOf_append, if_pos hy]
  exact List.idxOf_lt_length_iff.mpr hy
theorem perm_of {pl ts : List Tx} (hn : pl.Nodup) (hs : ∀ x ∈ pl, x ∈ ts) (ht : ts.Nodup) (ha : ∀ x ∈ ts, x ∈ pl) : pl.Perm ts := (List.perm_ext_iff_of_nodup hn ht).mpr fun x => ⟨hs x, ha x⟩
theorem Plc.idx (h : Plc ts (befs ps) pl) (hs : ∀ x ∈ ts, x ∈ pl) (hp : inN ts ps) : ∀ q ∈ ps, pl.idxOf q.1 < pl.idxOf q.2 := fun q hq => by
  obtain ⟨u, v, e⟩ := List.mem_iff_append.mp (hs _ (hp q hq).2)
  have hb := h.before e q.1 ((befs_mem ps).mpr hq)
  have hn := h.nd
  rw [e] at hn ⊢
  rw [idx_split hn]
  exact idx_left hb
theorem Plc.keeps (h : Plc ts (befs ps) pl) (ht : ts.Nodup) (hs : ∀ x ∈ ts, x ∈ pl) (hp : inN ts ps) : Keeps ts ps pl := ⟨perm_of h.nd h.sub ht hs, h.idx hs hp⟩
/-- without a ring all are placed -/
theorem Plc.all {r : Tx → Nat} (h : Plc ts (befs ps) pl) (hstop : ts.find? (rdy (befs ps) pl) = none) (hp : inN ts ps) (hr : upw r ps) : ∀ x ∈ ts, x ∈ pl := by
  have key : ∀ n x, r x < n → x ∈ ts → x ∈ pl := fun n => by
    induction n with
    | zero => intro x h; omega
    | succ n ih =>
      intro x hx hm
      have hc := List.find?_eq_none.mp hstop x hm
      apply Classical.byContradiction
      intro hpl
      refine hc ?_
      unfold rdy
      simp only [Bool.and_eq_true, Bool.not_eq_true', decide_eq_false_iff_not, List.all_eq_true, decide_eq_true_eq]
      refine ⟨hpl, fun y hy => ?_⟩
      have hyp := (befs_mem ps).mp hy
      have := hr _ hyp
      exact ih y (by simp at this; omega) (hp _ hyp).1
  exact fun x hx => key _ x (Nat.lt_succ_self _) hx
theorem Keeps.up {o : List Tx} (h : Keeps ts ps o) : upw (fun x => o.idxOf x) ps := h.2
/-- all are placed just where there is an order -/
theorem Plc.iff (h : Plc ts (befs ps) pl) (ht : ts.Nodup) (hstop : ts.find? (rdy (befs ps) pl) = none) (hp : inN ts ps) : pl.length = ts.length ↔ ∃ o, Keeps ts ps o := by
  constructor
  · intro hl
    refine ⟨pl, h.keeps ht (fun x hx => ?_) hp⟩
    apply Classical.byContradiction
    intro hx'
    have := nodup_le (W := x :: pl) (ts := ts) (List.nodup_cons.mpr ⟨hx', h.nd⟩) fun y hy => (List.mem_cons.mp hy).elim (fun e => e ▸ hx) (h.sub y)
    simp at this
    omega
  · rintro ⟨o, ho⟩
    exact (perm_of h.nd h.sub ht (h.all hstop hp ho.up)).length_eq
theorem rch_up {r : Tx → Nat} (hr : upw r ps) {x y : Tx} (h : Rch (befs ps) x y) : r y < r x := by
  induction h with
  | one h => exact hr _ ((befs_mem ps).mp h)
  | step _ h ih => exact Nat.lt_trans (hr _ ((befs_mem ps).mp h)) ih
theorem rch_flip {x y : Tx} (h : Rch (befs ps) x y) : Rch (afts ps) y x := by
  induction h with
  | one h => exact .one ((afts_mem ps).mpr ((befs_mem ps).mp h))
  | step _ h ih => exact Rch.head ((afts_mem ps).mpr ((befs_mem ps).mp h)) ih
theorem rch_flip' {x y : Tx} (h : Rch (afts ps) x y) : Rch (befs ps) y x := by
  induction h with
  | one h => exact .one ((befs_mem ps).mpr ((afts_mem ps).mp h))
  | step _ h ih => exact Rch.head ((befs_mem ps).mpr ((afts_mem ps).mp h)) ih
end
theorem adT_slot (ts : List Tx) (nb : Tx → List Tx) : toSlot (adT ts nb) = .own (adT ts nb) := rfl
end Lw
end
section
namespace Lw
open Fz
open PySem (sizeLine Addr)
open L2 (atI ixN)
/-! first_unplaced, way_back, loop_of -/
def fu (nb : Tx → List Tx) (pl : List Tx) (x : Tx) : Option Tx := (nb x).find? fun y => !decide (y ∈ pl)
def fuI (ts : List Tx) (nb : Tx → List Tx) (pl : List Tx) (x : Tx) (ρ : Fz.Env) : Prop := ∃ x3 : Fz.Slot, ρ = [.val (adP ts nb), .bor (.lst (pl.map .str)), .bor (.str x), x3]
theorem fu_ok (ts : List Tx) (nb : Tx → List Tx) (pl : List Tx) (x : Tx) (hx : x ∈ ts) : g_first_unplaced [adP ts nb, .lst (pl.map .str), .str x] = .ok (.fz (ansP (fu nb pl x))) := by
  obtain ⟨o, e, rfl⟩ : ∃ o, g_first_unplaced [adP ts nb, .lst (pl.map .str), .str x] = .ok o ∧ o = .fz (ansP (fu nb pl x)) := by
    refine run_ok _ rfl ?_
    unfold fu
    simp [b_first_unplaced, slotsOf, slotOf, List.replicate, gIx_ad ts nb hx]
    refine sat_find (fuI ts nb pl x) (fun y => !decide (y ∈ pl)) ⟨_, rfl⟩ ?_ ?_ ?_
    · rintro y _ hy hc ⟨x3, rfl⟩
      have hc : y ∈ pl := by simpa using hc
      simp [L_first_unplaced_1, hc]
      exact ⟨_, rfl⟩
    · rintro y _ hf ⟨x3, rfl⟩
      have hc := List.find?_some hf
      have hc : y ∉ pl := by simpa using hc
      simp [L_first_unplaced_1, hc, hf]
    · rintro _ hf ⟨x3, rfl⟩
      simp [R_first_unplaced_2, hf]
  exact e
structure Stk (ts : List Tx) (nb : Tx → List Tx) (pl : List Tx) : Prop where
  go : ∀ x ∈ ts, x ∉ pl → ∃ y, fu nb pl x = some y ∧ y ∈ ts ∧ y ∉ pl ∧ y ∈ nb x
theorem stk_of {ts : List Tx} {nb : Tx → List Tx} {pl : List Tx} (h : Nbs ts nb) (hstop : ts.find? (rdy nb pl) = none) : Stk ts nb pl := ⟨fun x hx hp => by
  have hc := List.find?_eq_none.mp hstop x hx
  cases e : fu nb pl x with
  | none =>
    refine absurd ?_ hc
    unfold rdy
    simp only [Bool.and_eq_true, Bool.not_eq_true', decide_eq_false_iff_not, List.all_eq_true, decide_eq_true_eq]
    refine ⟨hp, fun y hy => ?_⟩
    have := List.find?_eq_none.mp e y hy
    simpa using this
  | some y =>
    have hy := List.mem_of_find?_eq_some e
    have hc := List.find?_some e
    exact ⟨y, rfl, h.mem x hx y hy, by simpa using hc, hy⟩⟩
structure Chn (ts : List Tx) (nb : Tx → List Tx) (pl met : List Tx) (name : Tx) : Prop where
  nd : met.Nodup
  un : ∀ x ∈ met ++ [name], x ∈ ts ∧ x ∉ pl
  st : ∀ j (h : j < met.length), (met ++ [name])[j + 1]? = fu nb pl met[j]
def wbE (ts : List Tx) (nb : Tx → List Tx) (pl met : List Tx) (name : Tx) : Fz.Env := [.val (adP ts nb), .bor (.lst (pl.map .str)), .val (.str name), .own (.l (met.map .str))]
def wbI (ts : List Tx) (nb : Tx → List Tx) (pl : List Tx) (n : Nat) (ρ : Fz.Env) : Prop := ∃ met name, ρ = wbE ts nb pl met name ∧ Chn ts nb pl met name ∧ met ≠ [] ∧ n = ts.length - met.length
theorem wbI_of {ts : List Tx} {nb : Tx → List Tx} {pl met : List Tx} {name : Tx} {n : Nat} {q : List PV} (h : Chn ts nb pl met name) (h0 : met ≠ []) (hn : n = ts.length - met.length) (hq : q = met.map PV.str) : wbI ts nb pl n [.val (adP ts nb), .bor (.lst (pl.map .str)), .val (.str name), .own (.l q)] := ⟨met, name, by rw [hq]; rfl, h, h0, hn⟩
theorem way_ok (ts : List Tx) (nb : Tx → List Tx) (h : Nbs ts nb) (pl : List Tx) (hs : Stk ts nb pl) (x0 : Tx) (hx : x0 ∈ ts) (hp : x0 ∉ pl) :
    ∃ met name, g_way_back [adP ts nb, .lst (pl.map .str), .str x0] = .ok (.l ((met ++ [name]).map .str)) ∧ Chn ts nb pl met name ∧ name ∈ met := by
  obtain ⟨o, e, met, name, rfl, hx⟩ : ∃ o, g_way_back [adP ts nb, .lst (pl.map .str), .str x0] = .ok o ∧ ∃ met name, o = .l ((met ++ [name]).map .str) ∧ Chn ts nb pl met name ∧ name ∈ met := by
    refine run_ok _ rfl ?_
    obtain ⟨y, ey, y1, y2, y3⟩ := hs.go x0 hx hp
    simp [b_way_back, slotsOf, slotOf, List.replicate, fu_ok ts nb pl x0 hx, ey]
    refine sat_while (wbI ts nb pl) (n := ts.length - 1) (wbI_of (met := [x0]) ⟨by simp, fun z hz => ?_, fun j hj => ?_⟩ (by simp) rfl rfl) ?_
    · simp at hz
      rcases hz with rfl | rfl
      · exact ⟨hx, hp⟩
      · exact ⟨y1, y2⟩
    · have : j = 0 := by simp at hj; exact hj
      subst this
      simp [ey]
    rintro n _ ⟨met, name, rfl, hc, hm, rfl⟩
    refine ⟨!decide (name ∈ met), by simp [wbE], fun hb => ?_, fun hb => ?_⟩
    · have hb : name ∉ met := by simpa using hb
      have un := hc.un name (by simp)
      obtain ⟨z, ez, z1, z2, z3⟩ := hs.go name un.1 un.2
      have wl := nodup_le hc.nd (ts := ts) fun w hw => (hc.un w (by simp [hw])).1
      have n2 : (met ++ [name]).Nodup := List.nodup_append.mpr ⟨hc.nd, by simp, fun a ha b hb' z => hb (by rw [List.mem_singleton.mp hb'] at z; exact z ▸ ha)⟩
      have wl2 := nodup_le n2 (ts := ts) fun w hw => (hc.un w hw).1
      have hl := h.len
      simp only [List.length_append, List.length_singleton] at wl2
      simp [L_way_back_1, wbE, show met.length < sizeLine from lt_line (by omega), fu_ok ts nb pl name un.1, ez]
      refine ⟨ts.length - (met.length + 1), by omega, wbI_of (met := met ++ [name]) ⟨n2, fun w hw => ?_, fun j hj => ?_⟩ (by simp) (by simp) (by simp)⟩
      · rcases List.mem_append.mp hw with q | q
        · exact hc.un w q
        · rw [List.mem_singleton.mp q]; exact ⟨z1, z2⟩
      · by_cases e : j < met.length
        · have := hc.st j e
          rw [List.getElem_append_left e, ← this, List.getElem?_append_left (by simp; omega)]
        · have e : j = met.length := by simp at hj; omega
          subst e
          rw [List.getElem_append_right (Nat.le_refl _), List.getElem?_append_right (by simp)]
          simp [ez]
    · have hb : name ∈ met := by simpa using hb
      have wl := nodup_le hc.nd (ts := ts) fun w hw => (hc.un w (by simp [hw])).1
      have hl := h.len
      have ea : gAdd (.lst (met.map .str)) (.lst [.str name]) = some (.l (met.map .str ++ [.str name])) := gAdd_lst _ _ (le_line (by simp; omega))
      simp [R_way_back_2, wbE, ea]
      exact ⟨met, name, ⟨rfl, rfl⟩, hc, hb⟩
  exact ⟨met, name, e, hx⟩
end Lw
end
section
namespace Lw
open Fz
open PySem (sizeLine Addr)
open L2 (atI ixN)
/-! loop_of, answer -/
theorem rev_l (i : Nat) (ρ : Fz.Env) (ps : List PV) (h : ρ[i]? = some (.own (.l ps))) : sRev i ρ = .nx (ρ.set i (.own (.l ps.reverse))) := by
  unfold sRev
  rw [h]
/-- a ring of pairs -/
structure Ring (ts : List Tx) (ps : List (Tx × Tx)) (L : List Tx) : Prop where
  ne : L ≠ []
  nd : L.Nodup
  mem : ∀ x ∈ L, x ∈ ts
  pr : ∀ k (h : k < L.length), (L[k], L[(k + 1) % L.length]'(Nat.mod_lt _ (by omega))) ∈ ps
theorem ring_of {ts : List Tx} {ps : List (Tx × Tx)} {pl met : List Tx} {name : Tx} (hc : Chn ts (befs ps) pl met name) (hm : name ∈ met) : Ring ts ps (met.drop (met.idxOf name + 1) ++ [name]).reverse := by
  have hi := List.idxOf_lt_length_iff.mpr hm
  have hg : met[met.idxOf name] = name := List.getElem_idxOf hi
  generalize hI : met.idxOf name = i at hi hg ⊢
  generalize hD : met.drop (i + 1) ++ [name] = D
  have dl : D.length = met.length - i := by rw [← hD]; simp; omega
  have dg : ∀ j (h : j < D.length), D[j] = (met ++ [name])[i + 1 + j]'(by simp; omega) := fun j h => by
    subst hD
    by_cases e : i + 1 + j < met.length
    · rw [List.getElem_append_left (by simp; omega), List.getElem_drop, List.getElem_append_left e]
    · rw [List.getElem_append_right (by simp; omega), List.getElem_append_right (by omega)]
      simp
  have pr : ∀ j (h : j < met.length), ((met ++ [name])[j + 1]'(by simp; omega), met[j]) ∈ ps := fun j h => by
    have := hc.st j h
    rw [List.getElem?_eq_getElem (by simp; omega)] at this
    have hm := List.mem_of_find?_eq_some this.symm
    exact (befs_mem ps).mp hm
  have dnd : D.Nodup := by
    subst hD
    refine List.nodup_append.mpr ⟨(List.drop_sublist _ _).nodup hc.nd, by simp, fun a ha b hb z => ?_⟩
    rw [List.mem_singleton.mp hb] at z
    subst z
    obtain ⟨j, hj, e⟩ := List.mem_iff_getElem.mp ha
    rw [List.getElem_drop] at e
    have := (List.getElem_inj hc.nd).mp (e.trans hg.symm)
    omega
  refine ⟨fun z => ?_, List.pairwise_reverse.mpr (dnd.imp Ne.symm), fun x hx => ?_, fun k h => ?_⟩
  · have := congrArg List.length z
    simp [dl] at this
    omega
  · have hx := List.mem_reverse.mp hx
    subst hD
    rcases List.mem_append.mp hx with q | q
    · exact (hc.un x (List.mem_append_left _ (List.mem_of_mem_drop q))).1
    · exact (hc.un x (List.mem_append_right _ q)).1
  · simp only [List.length_reverse] at h
    simp only [List.length_reverse, List.getElem_reverse]
    by_cases e : k + 1 = D.length
    · have m0 : (k + 1) % D.length = 0 := by rw [e]; exact Nat.mod_self _
      simp only [m0]
      rw [dg _ (by omega), dg _ (by omega)]
      have p := pr i hi
      rw [hg] at p
      have e1 : i + 1 + (D.length - 1 - k) = i + 1 := by omega
      have e2 : i + 1 + (D.length - 1 - 0) = met.length := by omega
      simp only [e1, e2]
      rw [show (met ++ [name])[met.length]'(by simp) = name by simp]
      exact p
    · have m0 : (k + 1) % D.length = k + 1 := Nat.mod_eq_of_lt (by omega)
      simp only [m0]
      rw [dg _ (by omega), dg _ (by omega)]
      have p := pr (i + 1 + (D.length - 1 - (k + 1))) (by omega)
      have e1 : i + 1 + (D.length - 1 - k) = i + 1 + (D.length - 1 - (k + 1)) + 1 := by omega
      simp only [e1]
      rw [List.getElem_append_left (h := show i + 1 + (D.length - 1 - (k + 1)) < met.length by omega)]
      exact p
theorem loop_ok (ts : List Tx) (ps : List (Tx × Tx)) (h : Nbs ts (befs ps)) (pl : List Tx) (hs : Stk ts (befs ps) pl) (hne : ∃ x ∈ ts, x ∉ pl) :
    ∃ L, g_loop_of [.lst (ts.map .str), adP ts (befs ps), .lst (pl.map .str)] = .ok (.l (L.map .str)) ∧ Ring ts ps L := by
  have hl := h.len
  have c1 := oComp_filter (l := lOfA (eVar .I 0)) (vs := [6]) (g := gNm 6) (t := tCmp gNotIn (eVar .B 6) (eVar .B 2)) (el := eVar .E 6) (ρ := [.val (.lst (ts.map .str)), .val (adP ts (befs ps)), .bor (.lst (pl.map .str)), .u, .u, .u, .u]) PV.str PV.str (fun x => !decide (x ∈ pl)) ts (by simp) (by simp) (fun x _ => by by_cases e : x ∈ pl <;> simp [e]) (le_line (by omega))
  obtain ⟨x1, hx1, hx2⟩ := hne
  have hf : x1 ∈ ts.filter (fun x => !decide (x ∈ pl)) := List.mem_filter.mpr ⟨hx1, by simpa using hx2⟩
  cases eu : ts.filter (fun x => !decide (x ∈ pl)) with
  | nil => rw [eu] at hf; cases hf
  | cons u0 us =>
    have hu : u0 ∈ ts.filter (fun x => !decide (x ∈ pl)) := by rw [eu]; simp
    obtain ⟨hu1, hu2⟩ := List.mem_filter.mp hu
    have hu2 : u0 ∉ pl := by simpa using hu2
    obtain ⟨met, name, ew, hc, hm⟩ := way_ok ts (befs ps) h pl hs u0 hu1 hu2
    refine ⟨_, ?_, ring_of hc hm⟩
    rw [eu] at c1
    simp only [List.map_cons] at c1
    refine runN _ _ _ _ rfl ?_
    have wl := nodup_le hc.nd (ts := ts) fun w hw => (hc.un w (by simp [hw])).1
    have hi := List.idxOf_lt_length_iff.mpr hm
    generalize hV : met ++ [name] = V at ew
    have vl : V.length = met.length + 1 := by rw [← hV]; simp
    have e1 : atI (V.map PV.str) (-1) = some (.str name) := by
      rw [atI_map, atI_m1 _ (by omega)]
      simp only [Option.map_some]
      congr 2
      subst hV
      simp
    have e2 : gIndex (.lst (V.map .str)) (.str name) = some (.int (met.idxOf name)) := by
      rw [gIndex_strs (by rw [← hV]; simp), ← hV, List.idxOf_append, if_pos hm]
    have e3 : gSl (.lst (V.map .str)) (some ((met.idxOf name : Int) + 1)) none = some (.l ((met.drop (met.idxOf name + 1) ++ [name]).map .str)) := by
      have := slice_from V (met.idxOf name + 1)
      rw [show ((met.idxOf name : Int) + 1) = ((met.idxOf name + 1 : Nat) : Int) from rfl, this, ← hV, List.drop_append_of_le_length (by omega)]
    have er := rev_l 5 [Slot.val (PV.lst (List.map PV.str ts)), Slot.val (adP ts (befs ps)), Slot.bor (PV.lst (List.map PV.str pl)), Slot.own (OT.l (PV.str u0 :: List.map PV.str us)), Slot.own (OT.l (List.map PV.str V)), Slot.own (OT.l (List.map PV.str (List.drop (List.idxOf name met + 1) met ++ [name]))), Slot.u] _ rfl
    rw [← List.map_reverse] at er
    simp [b_loop_of, slotsOf, slotOf, List.replicate, c1, ew, e1, e2, e3, -List.map_append, -List.map_drop, er, -List.map_reverse, -List.reverse_append]
end Lw
end
section
namespace Lw
open Fz
open PySem (sizeLine Addr)
open L2 (atI ixN)
/-- answer -/
theorem told_ok {count : Nat} {ts : List Tx} {ps : List (Tx × Tx)} (h : Flds count ts) (h1 : 1 ≤ count) (h2 : count ≤ 40) (hp : inN ts ps) (h3 : ps.length ≤ 10000) :
    ∃ pl, Plc ts (befs ps) pl ∧ ts.find? (rdy (befs ps) pl) = none ∧
      ((pl.length = ts.length ∧ g_answer [.lst (ts.map .str), .lst (ps.map tp)] = .ok (.T [.fz (.str (txt "order")), .l (pl.map .str)])) ∨
        (pl.length < ts.length ∧ ∃ L, Ring ts ps L ∧ g_answer [.lst (ts.map .str), .lst (ps.map tp)] = .ok (.T [.fz (.str (txt "loop")), .l (L.map .str)]))) := by
  have hl := h.len
  have nbs := befs_nbs h.nd (by omega) hp
  have ck := check_ok h h1 h2 hp
  have bf := befores_ok ts ps h.nd (by omega) h3 hp
  obtain ⟨pl, e1, hpl, hstop⟩ := placed_ok ts (befs ps) nbs
  have wl := nodup_le hpl.nd hpl.sub
  refine ⟨pl, hpl, hstop, ?_⟩
  by_cases e : pl.length = ts.length
  · refine .inl ⟨e, runN _ _ _ _ rfl ?_⟩
    simp [b_answer, slotsOf, slotOf, List.replicate, ck, bf, adT_slot, adT_pv, e1, e]
  · have hne : ∃ x ∈ ts, x ∉ pl := by
      apply Classical.byContradiction
      intro hx
      have := nodup_le h.nd (ts := pl) fun x hm => Classical.byContradiction fun z => hx ⟨x, hm, z⟩
      omega
    obtain ⟨L, eL, hL⟩ := loop_ok ts ps nbs pl (stk_of nbs hstop) hne
    refine .inr ⟨by omega, L, hL, runN _ _ _ _ rfl ?_⟩
    have e' : ¬ ((pl.length : Int) = ts.length) := by omega
    simp [b_answer, slotsOf, slotOf, List.replicate, ck, bf, adT_slot, adT_pv, e1, e, e', R_answer_1, eL]
end Lw
end
section
namespace Lw
open Fz
open PySem (sizeLine Addr)
open L2 (atI ixN)
/-! _law_all_orders -/
def lsP (o : List Tx) : PV := .lst (o.map .str)
def insAt (o : List Tx) (x : Tx) (k : Nat) : List Tx := o.take k ++ [x] ++ o.drop k
def insAll (o : List Tx) (x : Tx) : List (List Tx) := (List.range (o.length + 1)).map (insAt o x)
theorem insAt_perm (o : List Tx) (x : Tx) (k : Nat) : (insAt o x k).Perm (o ++ [x]) := by
  unfold insAt
  have h1 : (o.take k ++ [x] ++ o.drop k).Perm (o.take k ++ o.drop k ++ [x]) := by
    rw [List.append_assoc, List.append_assoc]
    exact List.Perm.append_left _ List.perm_append_comm
  rw [List.take_append_drop] at h1
  exact h1
theorem ins_mem {d : List Tx} {x : Tx} {P : List (List Tx)} (hP : ∀ o, o ∈ P ↔ o.Perm d) (o : List Tx) : o ∈ P.flatMap (insAll · x) ↔ o.Perm (d ++ [x]) := by
  constructor
  · intro h
    obtain ⟨q, hq, h⟩ := List.mem_flatMap.mp h
    obtain ⟨k, _, rfl⟩ := List.mem_map.mp h
    exact (insAt_perm q x k).trans (((hP q).mp hq).append_right _)
  · intro h
    have hx : x ∈ o := h.mem_iff.mpr (by simp)
    obtain ⟨u, v, rfl⟩ := List.mem_iff_append.mp hx
    have h2 : (u ++ v).Perm d := by
      have h3 : (u ++ x :: v).Perm (x :: (u ++ v)) := List.perm_middle
      have h4 : (d ++ [x]).Perm (x :: d) := List.perm_append_comm
      exact (List.perm_cons x).mp (h3.symm.trans (h.trans h4))
    refine List.mem_flatMap.mpr ⟨u ++ v, (hP _).mpr h2, List.mem_map.mpr ⟨u.length, List.mem_range.mpr (by simp; omega), ?_⟩⟩
    unfold insAt
    simp
def aoI (ts : List Tx) (d : List Tx) (ρ : Fz.Env) : Prop := ∃ (P : List (List Tx)) (s1 x2 x3 x4 : Fz.Slot), ρ = [.val (.lst (ts.map .str)), s1, x2, x3, x4, .u] ∧ (s1 = .own (.l (P.map lsP)) ∨ s1 = .val (.lst (P.map lsP))) ∧ (∀ o, o ∈ P ↔ o.Perm d) ∧ P.length ≤ 7 ^ d.length
def aoJ (ts : List Tx) (P : List (List Tx)) (x : Tx) (Q : List (List Tx)) (ρ : Fz.Env) : Prop := ∃ x4 : Fz.Slot, ρ = [.val (.lst (ts.map .str)), .val (.lst (P.map lsP)), .val (.str x), .own (.l ((Q.flatMap (insAll · x)).map lsP)), x4, .u]
theorem aoJ_of {ts : List Tx} {P : List (List Tx)} {x : Tx} {Q : List (List Tx)} {x4 : Fz.Slot} {q : List PV} (hq : q = (Q.flatMap (insAll · x)).map lsP) : aoJ ts P x Q [.val (.lst (ts.map .str)), .val (.lst (P.map lsP)), .val (.str x), .own (.l q), x4, .u] := ⟨x4, by rw [hq]⟩
theorem flat_len {P : List (List Tx)} {x : Tx} {n : Nat} (h : ∀ o ∈ P, o.length + 1 ≤ n) : (P.flatMap (insAll · x)).length ≤ P.length * n := by
  induction P with
  | nil => simp
  | cons o P ih =>
    rw [List.flatMap_cons, List.length_append, List.length_cons, Nat.succ_mul]
    have h1 := ih fun q hq => h q (by simp [hq])
    have h2 := h o (by simp)
    have h3 : (insAll o x).length = o.length + 1 := by simp [insAll]
    omega
theorem pow7 {n : Nat} (h : n ≤ 6) : 7 ^ n ≤ 117649 := Nat.le_trans (Nat.pow_le_pow_right (by decide) h) (by decide)
theorem orders_ok (ts : List Tx) (h0 : ts ≠ []) (hl : ts.length ≤ 6) : ∃ P : List (List Tx), g__law_all_orders [.lst (ts.map .str)] = .ok (.fz (.lst (P.map lsP))) ∧ (∀ o, o ∈ P ↔ o.Perm ts) ∧ P.length ≤ 117649 := by
  obtain ⟨o, e, P, rfl, hP⟩ : ∃ o, g__law_all_orders [.lst (ts.map .str)] = .ok o ∧ ∃ P : List (List Tx), o = .fz (.lst (P.map lsP)) ∧ (∀ o, o ∈ P ↔ o.Perm ts) ∧ P.length ≤ 117649 := by
    refine run_ok _ rfl ?_
    simp [b__law_all_orders, slotsOf, slotOf, List.replicate]
    refine sat_list (fun d ρ => aoI ts d ρ ∧ (d ≠ [] → ∃ p, ρ[1]? = some (.val p))) ⟨⟨[[]], _, _, _, _, rfl, .inl rfl, fun o => by simp, by simp⟩, fun z => (z rfl).elim⟩ ?_ ?_
    · rintro d x r _ hd ⟨⟨P, s1, x2, x3, x4, rfl, h1, hP, hl1⟩, _⟩
      have dl : d.length < ts.length := by rw [hd]; simp
      have p7 := pow7 (n := d.length) (by omega)
      have ol : ∀ o ∈ P, o.length = d.length := fun o ho => ((hP o).mp ho).length_eq
      have fin : ∀ (x4 : Fz.Slot) (Q : List (List Tx)), Q = P.flatMap (insAll · x) → aoI ts (d ++ [x]) [.val (.lst (ts.map .str)), .val (.lst (Q.map lsP)), .val (.str x), .val (.lst (Q.map lsP)), x4, .u] := fun x4 Q hQ => by
        refine ⟨Q, _, _, _, _, rfl, .inr rfl, fun o => by rw [hQ]; exact ins_mem hP o, ?_⟩
        have := flat_len (P := P) (x := x) (n := 7) fun o ho => by have := ol o ho; omega
        rw [hQ, List.length_append, List.length_singleton, Nat.pow_succ]
        exact Nat.le_trans this (Nat.mul_le_mul_right 7 hl1)
      have core : ∀ x4, sat (loop (gNm 4) L__law_all_orders_1 (P.map lsP) [.val (.lst (ts.map .str)), .val (.lst (P.map lsP)), .val (.str x), .own (.l []), x4, .u]) { nx := fun ρ => sat (R__law_all_orders_2 ρ) { nx := fun ρ => aoI ts (d ++ [x]) ρ ∧ (d ++ [x] ≠ [] → ∃ p, ρ[1]? = some (.val p)), bk := fun _ => False, ct := fun ρ => aoI ts (d ++ [x]) ρ ∧ (d ++ [x] ≠ [] → ∃ p, ρ[1]? = some (.val p)), rt := fun _ => False, ex := fun _ _ _ => False }, bk := fun _ => False, ct := fun _ => False, rt := fun _ => False, ex := fun _ _ _ => False } := fun x4 => by
        refine sat_list (fun Q ρ => aoJ ts P x Q ρ) (aoJ_of (Q := []) rfl) ?_ ?_
        · rintro Q o rr _ hq ⟨y4, rfl⟩
          have ho : o ∈ P := by rw [hq]; simp
          have l6 : o.length < 6 := by have := ol o ho; omega
          have ql : Q.length ≤ P.length := by rw [hq]; simp
          have fl := flat_len (P := Q) (x := x) (n := 7) fun q hq' => by have := ol q (by rw [hq]; simp [hq']); omega
          have p7' := pow7 (n := d.length) (by omega)
          rw [stp_nm, if_pos (by simp)]
          simp only [List.set_cons_succ, List.set_cons_zero]
          have c1 := oComp_map (l := lRange1 (eOfO (oBin gAdd (eUn gLen (eVar .B 4)) (eC (.int 1))))) (vs := [5]) (g := gNm 5) (t := tYesF) (el := eOfO (oBin gAdd (eOfO (oBin gAdd (eOfO (oSl (eVar .I 4) pNo (pAt (eVar .B 5)))) (eOfO (oLst (lCons (eVar .E 2) lNil))))) (eOfO (oSl (eVar .I 4) (pAt (eVar .B 5)) pNo)))) (ρ := [.val (.lst (ts.map .str)), .val (.lst (P.map lsP)), .val (.str x), .own (.l ((Q.flatMap (insAll · x)).map lsP)), .val (lsP o), .u]) (fun k : Nat => .int (k : Int)) (fun k => lsP (insAt o x k)) (List.range (o.length + 1)) (by simp) (by
              have := rng_nat (n := o.length + 1) (by omega)
              push_cast at this
              simp [lsP, this]
              simp [rangeL]) (fun k hk => by
              have hk := List.mem_range.mp hk
              have s1 : gSl (.lst (o.map .str)) none (some (k : Int)) = some (.l ((o.take k).map .str)) := by rw [gSl_lst, cut_map, cut_to]
              have s2 : gSl (.lst (o.map .str)) (some (k : Int)) none = some (.l ((o.drop k).map .str)) := by rw [gSl_lst, cut_map, cut_from]
              have g1 : gAdd (.lst ((o.take k).map .str)) (.lst [.str x]) = some (.l ((o.take k ++ [x]).map .str)) := by rw [gAdd_lst _ _ (le_line (by simp; omega)), List.map_append]; rfl
              have g2 : gAdd (.lst ((o.take k ++ [x]).map .str)) (.lst ((o.drop k).map .str)) = some (.l ((insAt o x k).map .str)) := by rw [gAdd_lst _ _ (le_line (by simp; omega)), ← List.map_append]; rfl
              simp [lsP, s1, s2, g1, g2, -List.map_append, -List.map_take, -List.map_drop]) (le_line (by simp; omega))
          have e2 : (List.range (o.length + 1)).map (fun k => lsP (insAt o x k)) = (insAll o x).map lsP := by unfold insAll; rw [List.map_map]; rfl
          rw [e2] at c1
          have il : (insAll o x).length = o.length + 1 := by simp [insAll]
          have ea : gAdd (.lst ((Q.flatMap (insAll · x)).map lsP)) (.lst ((insAll o x).map lsP)) = some (.l (((Q ++ [o]).flatMap (insAll · x)).map lsP)) := by
            rw [gAdd_lst _ _ (le_line (by rw [List.length_map, List.length_map, il]; have := Nat.mul_le_mul_right 7 (Nat.le_trans ql hl1); omega)), ← List.map_append]
            simp
          generalize hW : (Q.flatMap (insAll · x)).map lsP = W at c1 ea ⊢
          simp [L__law_all_orders_1, c1, ea, -List.map_flatMap, -List.flatMap_append]
          exact aoJ_of rfl
        · rintro _ ⟨y4, rfl⟩
          simp [R__law_all_orders_2, -List.map_flatMap]
          exact fin _ _ rfl
      rw [stp_nm, if_pos (by simp)]
      rcases h1 with rfl | rfl <;>
        (simp [L__law_all_orders_3]
         refine sat.mono (core _) (fun ρ h => ?_) (fun _ h => h.elim) (fun _ h => h.elim) (fun _ h => h.elim) (fun _ _ _ h => h.elim)
         refine sat.mono h (fun ρ h => ?_) (fun _ h => h.elim) (fun ρ h => ?_) (fun _ h => h.elim) (fun _ _ _ h => h.elim)
         · simpa using h
         · simpa using h)
    · rintro _ ⟨⟨P, s1, x2, x3, x4, rfl, h1, hP, hl1⟩, hv⟩
      obtain ⟨p, hp⟩ := hv h0
      rcases h1 with rfl | rfl
      · simp at hp
      · simp [R__law_all_orders_4]
        exact ⟨P, rfl, hP, Nat.le_trans hl1 (pow7 hl)⟩
  exact ⟨P, e, hP⟩
end Lw
end
section
namespace Lw
open Fz
open PySem (sizeLine Addr)
open L2 (atI ixN)
/-! _law_keeps of k39, k42; the right orders -/
def kpB (ps : List (Tx × Tx)) (o : List Tx) : Bool := ps.all fun q => decide (o.idxOf q.1 < o.idxOf q.2)
def kpI (o : List Tx) (ps : List (Tx × Tx)) (ρ : Fz.Env) : Prop := ∃ x2, ρ = [.bor (lsP o), .val (.lst (ps.map tp)), x2]
theorem kp_ok {ts o : List Tx} {ps : List (Tx × Tx)} (hp : inN ts ps) (ho : o.Perm ts) : g__law_keeps [lsP o, .lst (ps.map tp)] = .ok (.fz (.bl (kpB ps o))) := by
  obtain ⟨r, e, rfl⟩ : ∃ r, g__law_keeps [lsP o, .lst (ps.map tp)] = .ok r ∧ r = .fz (.bl (kpB ps o)) := by
    refine run_ok _ rfl ?_
    simp [b__law_keeps, slotsOf, slotOf, List.replicate]
    have ix : ∀ q ∈ ps, gIndex (lsP o) (.str q.1) = some (.int (o.idxOf q.1)) ∧ gIndex (lsP o) (.str q.2) = some (.int (o.idxOf q.2)) := fun q hq => ⟨gIndex_strs (ho.mem_iff.mpr (hp q hq).1), gIndex_strs (ho.mem_iff.mpr (hp q hq).2)⟩
    have il : Tm.list.is (lsP o) = true := rfl
    refine sat_find (kpI o ps) (fun q => !decide (o.idxOf q.1 < o.idxOf q.2)) ⟨_, rfl⟩ ?_ ?_ ?_
    · rintro q _ hq hc ⟨x2, rfl⟩
      have hc : o.idxOf q.1 < o.idxOf q.2 := by simpa using hc
      simp [L__law_keeps_1, tp, ix q hq, il, show ¬ o.idxOf q.2 ≤ o.idxOf q.1 by omega]
      exact ⟨_, rfl⟩
    · rintro q _ hf ⟨x2, rfl⟩
      have hq := List.mem_of_find?_eq_some hf
      have hc := List.find?_some hf
      have hc' : o.idxOf q.2 ≤ o.idxOf q.1 := by simp at hc; omega
      have : kpB ps o = false := by
        cases z : kpB ps o with
        | false => rfl
        | true =>
          have := List.all_eq_true.mp z q hq
          simp at this
          omega
      simp [L__law_keeps_1, tp, ix q hq, il, hc', this]
    · rintro _ hf ⟨x2, rfl⟩
      have : kpB ps o = true := List.all_eq_true.mpr fun q hq => by
        have := List.find?_eq_none.mp hf q hq
        simpa using this
      simp [R__law_keeps_2, this]
  exact e
theorem kpB_iff {ts o : List Tx} {ps : List (Tx × Tx)} (ho : o.Perm ts) : kpB ps o = true ↔ Keeps ts ps o := by
  unfold kpB Keeps
  rw [List.all_eq_true]
  simp only [decide_eq_true_eq]
  exact ⟨fun h => ⟨ho, h⟩, fun h => h.2⟩
theorem okD_lsP (o : List Tx) : okD 1 (lsP o) := okD_strs o
theorem okD_lsPs (R : List (List Tx)) : okD 2 (.lst (R.map lsP)) := okD_lst fun p hp => by obtain ⟨o, _, rfl⟩ := List.mem_map.mp hp; exact okD_lsP o
theorem any_lsP (o : List Tx) (R : List (List Tx)) : ((R.map lsP).any fun z => pvEq z (lsP o)) = decide (o ∈ R) := by
  induction R with
  | nil => rfl
  | cons x xs ih =>
    rw [List.map_cons, List.any_cons, ih, show pvEq (lsP x) (lsP o) = decide (x = o) from pvEq_strs x o]
    by_cases h : x = o
    · subst h; simp
    · have : o ≠ x := fun z => h z.symm
      simp [h, this]
theorem gIn_lsP (o : List Tx) (R : List (List Tx)) : gIn (lsP o) (.lst (R.map lsP)) = some (decide (o ∈ R)) := by
  show (if eqOk (lsP o) && eqOk (.lst (R.map lsP)) then some ((R.map lsP).any fun z => pvEq z (lsP o)) else none) = _
  rw [(okD_lsP o).eqOk (by omega), (okD_lsPs R).eqOk (by omega), any_lsP]
  rfl
theorem gNotIn_lsP (o : List Tx) (R : List (List Tx)) : gNotIn (lsP o) (.lst (R.map lsP)) = some (!decide (o ∈ R)) := by
  show (gIn _ _).map _ = _
  rw [gIn_lsP]; rfl
theorem gEq_nilL (R : List (List Tx)) : gEq (.lst (R.map lsP)) (.lst []) = some (decide (R = [])) := by
  have ok : eqOk (.lst []) = true := (okD_lst (n := 0) (ps := []) fun _ h => nomatch h).eqOk (by omega)
  rw [gEq_of ((okD_lsPs R).eqOk (by omega)) ok]
  cases R with
  | nil => simp [pvEq, pvEqs]
  | cons x xs => simp [pvEq, pvEqs]
theorem gNe_nilL (R : List (List Tx)) : gNe (.lst (R.map lsP)) (.lst []) = some (!decide (R = [])) := by
  have ok : eqOk (.lst []) = true := (okD_lst (n := 0) (ps := []) fun _ h => nomatch h).eqOk (by omega)
  rw [gNe_of ((okD_lsPs R).eqOk (by omega)) ok]
  cases R with
  | nil => simp [pvEq, pvEqs]
  | cons x xs => simp [pvEq, pvEqs]
end Lw
end
section
namespace Lw
open Fz
open PySem (sizeLine)
open L2 (atI ixN)
/-! has_all_once -/
def sv (o : Option Tx) : PV := match o with
  | some t => .str t
  | none => .non
@[simp] theorem isT_str_str (t : Tx) : isT .str (.str t) = some (.bl true) := (rfl)
@[simp] theorem isT_list_lst (t : List PV) : isT .list (.lst t) = some (.bl true) := (rfl)
theorem once_kind (names : List Tx) (v : PV) (h : isT .list v = some (.bl false)) : g_has_all_once [.lst (names.map .str), v] = .ok (.fz (.bl false)) := by
  refine runN _ _ _ _ rfl ?_
  simp [b_has_all_once, slotsOf, slotOf, List.replicate, h]
theorem once_len (names : List Tx) (vs : List PV) (h : vs.length ≠ names.length) : g_has_all_once [.lst (names.map .str), .lst vs] = .ok (.fz (.bl false)) := by
  refine runN _ _ _ _ rfl ?_
  have h' : (vs.length : Int) ≠ names.length := by omega
  simp [b_has_all_once, slotsOf, slotOf, List.replicate, h']
theorem strs_of_opts : ∀ {os : List (Option Tx)}, os.all Option.isSome = true → ∃ us : List Tx, os = us.map some
  | [], _ => ⟨[], rfl⟩
  | none :: os, h => by simp at h
  | some t :: os, h => by
    obtain ⟨us, e⟩ := strs_of_opts (os := os) (by simpa using h)
    exact ⟨t :: us, by rw [e]; rfl⟩
theorem once_opts (names : List Tx) (os : List (Option Tx)) (h : os.length = names.length) (hl : names.length ≤ 1000) : g_has_all_once [.lst (names.map .str), .lst (os.map sv)] = .ok (.fz (.bl (os.all Option.isSome && names.all fun t => decide (some t ∈ os)))) := by
  refine runN _ _ _ _ rfl ?_
  have c1 := oComp_map (l := lOfA (eVar .I 1)) (vs := [2]) (g := gNm 2) (t := tYesF) (el := eUn (isT .str) (eVar .B 2)) (ρ := [.val (.lst (names.map .str)), .val (.lst (os.map sv)), .u]) sv (fun o => .bl (Option.isSome o)) os (by simp) (by simp) (fun o _ => by cases o <;> simp [sv, isT]) (le_line (by omega))
  cases e : os.all Option.isSome with
  | false => simp [b_has_all_once, slotsOf, slotOf, List.replicate, h, R_has_all_once_1, c1, gAll_b e]
  | true =>
    simp [b_has_all_once, slotsOf, slotOf, List.replicate, h, R_has_all_once_1, c1, gAll_b e, -List.all_eq_true]
    obtain ⟨us, rfl⟩ := strs_of_opts e
    have es : (us.map some).map sv = us.map PV.str := by simp [sv, Function.comp_def]
    have c2 := oComp_map (l := lOfA (eVar .I 0)) (vs := [2]) (g := gNm 2) (t := tYesF) (el := eCmp gIn (eVar .B 2) (eVar .B 1)) (ρ := [.val (.lst (names.map .str)), .val (.lst (us.map .str)), .u]) PV.str (fun o => .bl (decide (some o ∈ us.map some))) names (by simp) (by simp) (fun o _ => by simp) (le_line (by omega))
    rw [es, c2]
    simp [gAll_map]
/-! is_order -/
def allLt (us : List Tx) (ps : List (Tx × Tx)) : Bool := ps.all fun q => decide (us.idxOf q.1 < us.idxOf q.2)
theorem order_no (names : List Tx) (pairs v : PV) (h : g_has_all_once [.lst (names.map .str), v] = .ok (.fz (.bl false))) : g_is_order [.lst (names.map .str), pairs, v] = .ok (.fz (.bl false)) := by
  refine runN _ _ _ _ rfl ?_
  simp [b_is_order, slotsOf, slotOf, List.replicate, h]
theorem mem_iff {us names : List Tx} (h : us.Perm names) (t : Tx) : t ∈ us ↔ t ∈ names := h.mem_iff
theorem order_yes (names us : List Tx) (ps : List (Tx × Tx)) (hl : names.length ≤ 1000) (hps : ps.length ≤ 1000) (hp : us.Perm names) (hm : ∀ q ∈ ps, q.1 ∈ names ∧ q.2 ∈ names) :
    g_is_order [.lst (names.map .str), .lst (ps.map tp), .lst (us.map .str)] = .ok (.fz (.bl (allLt us ps))) := by
  refine runN _ _ _ _ rfl ?_
  have c0 := once_opts names (us.map some) (by rw [List.length_map]; exact hp.length_eq) hl
  have es : (us.map some).map sv = us.map PV.str := by simp [sv, Function.comp_def]
  rw [es] at c0
  have t1 : (us.map some).all Option.isSome = true := by simp
  have t2 : (names.all fun t => decide (some t ∈ us.map some)) = true := by simp; exact fun x hx => (mem_iff hp x).mpr hx
  rw [t1, t2] at c0
  simp [b_is_order, slotsOf, slotOf, List.replicate, c0, R_is_order_1]
  rw [oComp_map tp (fun q => .bl (decide (us.idxOf q.1 < us.idxOf q.2))) ps (by simp) (by simp) (fun q hq => by
    have h1 := gIndex_strs ((mem_iff hp q.1).mpr (hm q hq).1)
    have h2 := gIndex_strs ((mem_iff hp q.2).mpr (hm q hq).2)
    simp [tp, h1, h2]) (le_line (by omega))]
  simp [allLt, gAll_map, -List.all_eq_true]
end Lw
end
section
namespace Lw
open Fz
open PySem (sizeLine)
open L2 (atI ixN)
theorem gone_at {us : List Tx} {a : Nat} (ha : a < us.length) (hn : us.Nodup) {x : Tx} (hx : us[a] ≠ x) : us[a] ∉ us.take a ++ x :: us.drop (a + 1) := by
  have h := hn
  rw [split_at ha] at h
  have h2 := (List.perm_middle.nodup_iff.mp h)
  have h3 := (List.nodup_cons.mp h2).1
  intro q
  rcases List.mem_append.mp q with q | q
  · exact h3 (List.mem_append_left _ q)
  · rcases List.mem_cons.mp q with q | q
    · exact hx q
    · exact h3 (List.mem_append_right _ q)
/-! is_loop -/
def cyc (us : List Tx) : List (Tx × Tx) := (List.range us.length).map fun k => (us.getD k [], us.getD ((k + 1) % us.length) [])
theorem cyc_len (us : List Tx) : (cyc us).length = us.length := by simp [cyc]
theorem zip_cyc (us : List Tx) : us.zip (us.drop 1 ++ us.take 1) = cyc us := by
  refine List.ext_getElem? fun k => ?_
  by_cases hk : k < us.length
  · rw [cyc, List.getElem?_map, List.getElem?_range hk]
    rw [List.getElem?_zip_eq_some.mpr]
    · rfl
    · dsimp only
      refine ⟨by rw [List.getElem?_eq_getElem hk, List.getD_eq_getElem?_getD, List.getElem?_eq_getElem hk]; rfl, ?_⟩
      by_cases e : k + 1 < us.length
      · rw [List.getElem?_append_left (by simp; omega), List.getElem?_drop, Nat.mod_eq_of_lt e, Nat.add_comm 1 k, List.getD_eq_getElem?_getD, List.getElem?_eq_getElem e]; rfl
      · have e2 : k + 1 = us.length := by omega
        rw [List.getElem?_append_right (by simp; omega), List.length_drop, e2, Nat.mod_self, show k - (us.length - 1) = 0 by omega, List.getElem?_take_of_lt (by omega), List.getD_eq_getElem?_getD, List.getElem?_eq_getElem (by omega)]
        rfl
  · rw [List.getElem?_eq_none (by simp; omega), List.getElem?_eq_none (by rw [cyc_len]; omega)]
def loopB (names : List Tx) (cl : List (Tx × Tx)) (us : List Tx) : Bool := !us.isEmpty && us.all (fun t => decide (t ∈ names)) && (cyc us).all fun q => decide (q ∈ cl)
section
variable (names us : List Tx) (cl : List (Tx × Tx))
theorem loop_kind (pairs v : PV) (h : isT .list v = some (.bl false)) : g_is_loop [.lst (names.map .str), pairs, v] = .ok (.fz (.bl false)) := by
  refine runN _ _ _ _ rfl ?_
  simp [b_is_loop, slotsOf, slotOf, List.replicate, h]
theorem loop_bad (pairs : PV) (vs : List PV) (hl : vs.length ≤ 1000) (he : ∀ p ∈ vs, eqOk p = true) (h : ∃ p ∈ vs, ∀ t, t ∈ names → pvEq (.str t) p = false) : g_is_loop [.lst (names.map .str), pairs, .lst vs] = .ok (.fz (.bl false)) := by
  refine runN _ _ _ _ rfl ?_
  obtain ⟨p, hp, hb⟩ := h
  have e0 : vs.isEmpty = false := by cases vs with | nil => cases hp | cons => rfl
  have c1 := oComp_map (l := lOfA (eVar .I 2)) (vs := [4]) (g := gNm 4) (t := tYesF) (el := eCmp gIn (eVar .B 4) (eVar .B 0)) (ρ := [.bor (.lst (names.map .str)), .bor pairs, .val (.lst vs), .u, .u, .u]) id (fun p => .bl ((names.map PV.str).any fun z => pvEq z p)) vs (by simp) (by simp) (fun p hp => by simp [gIn_any p names (he p hp)]) (le_line (by omega))
  have e1 : (vs.all fun p => (names.map PV.str).any fun z => pvEq z p) = false := by
    cases e : vs.all _ with
    | false => rfl
    | true =>
      have := List.all_eq_true.mp e p hp
      obtain ⟨z, hz, hz2⟩ := List.any_eq_true.mp this
      obtain ⟨t, ht, rfl⟩ := List.mem_map.mp hz
      rw [hb t ht] at hz2
      cases hz2
  simp [b_is_loop, slotsOf, slotOf, List.replicate, e0, R_is_loop_2, c1, gAll_b e1, -List.all_eq_true, -List.any_map, -List.isEmpty_eq_false_iff]
theorem loop_strs (hl : us.length ≤ 1000) : g_is_loop [.lst (names.map .str), .lst (cl.map tp), .lst (us.map .str)] = .ok (.fz (.bl (loopB names cl us))) := by
  refine runN _ _ _ _ rfl ?_
  unfold loopB
  cases e0 : us.isEmpty with
  | true =>
    have : us = [] := List.isEmpty_iff.mp e0
    subst this
    simp [b_is_loop, slotsOf, slotOf, List.replicate]
  | false =>
    have e0' : (us.map PV.str).isEmpty = false := by cases us with | nil => cases e0 | cons => rfl
    have c1 := oComp_map (l := lOfA (eVar .I 2)) (vs := [4]) (g := gNm 4) (t := tYesF) (el := eCmp gIn (eVar .B 4) (eVar .B 0)) (ρ := [.bor (.lst (names.map .str)), .bor (.lst (cl.map tp)), .val (.lst (us.map .str)), .u, .u, .u]) PV.str (fun t => .bl (decide (t ∈ names))) us (by simp) (by simp) (fun p hp => by simp) (le_line (by omega))
    have c2 := oComp_map (l := lZip (eVar .I 2) (eVar .I 3)) (vs := [4, 5]) (g := gTp 2 (gsCons (gNm 4) (gsCons (gNm 5) gsNil))) (t := tYesF) (el := eCmp gIn (eTup (lCons (eVar .E 4) (lCons (eVar .E 5) lNil))) (eVar .B 1)) (ρ := [.bor (.lst (names.map .str)), .bor (.lst (cl.map tp)), .val (.lst (us.map .str)), .own (.l ((us.drop 1 ++ us.take 1).map .str)), .u, .u]) tp (fun q => .bl (decide (q ∈ cl))) (cyc us) (by simp) (by
        rw [← zip_cyc us, m_lZip]
        simp [-List.map_append, -List.map_take, -List.map_drop, -List.drop_one]
        rw [List.zip, List.map_zipWith]
        rfl) (fun q hq => by simp [tp, gIn_tups]) (le_line (by rw [cyc_len]; omega))
    have s1 := sl_from us 1 1 rfl
    have s2 := sl_to us 1 1 rfl
    have a1 : gAdd (.lst ((us.drop 1).map .str)) (.lst ((us.take 1).map .str)) = some (.l ((us.drop 1 ++ us.take 1).map .str)) := by
      rw [add_l (by simp; omega), List.map_append]
    obtain ⟨r2, h2⟩ : ∃ r, (cyc us).all (fun q => decide (q ∈ cl)) = r := ⟨_, rfl⟩
    rw [h2]
    cases e1 : us.all (fun t => decide (t ∈ names)) with
    | false => simp [b_is_loop, slotsOf, slotOf, List.replicate, e0', R_is_loop_2, c1, gAll_b e1, -List.isEmpty_eq_false_iff, -List.isEmpty_map]
    | true => simp [b_is_loop, slotsOf, slotOf, List.replicate, e0', R_is_loop_2, R_is_loop_1, c1, gAll_b e1, s1, s2, a1, c2, gAll_b h2, -List.map_append, -List.map_take, -List.map_drop, -List.drop_one, -List.isEmpty_eq_false_iff, -List.isEmpty_map]
end
end Lw
end
section
namespace Lw
open Fz
open PySem (sizeLine Addr)
open L2 (atI ixN)
/-! _law_first_order -/
theorem Plc.uniq {ts : List Tx} {nb : Tx → List Tx} {p q : List Tx} (hp : Plc ts nb p) (sp : ts.find? (rdy nb p) = none) (hq : Plc ts nb q) (sq : ts.find? (rdy nb q) = none) : p = q := by
  have key : ∀ n, p.take n = q.take n := fun n => by
    induction n with
    | zero => rfl
    | succ n ih =>
      have spc : ∀ {q : List Tx}, Plc ts nb q → ts.find? (rdy nb q) = none → q[n]? = if n ≤ q.length then ts.find? (rdy nb (q.take n)) else none := fun {q} hq hs => by
        by_cases hl : n < q.length
        · rw [if_pos (by omega), List.getElem?_eq_getElem hl]
          exact (hq.step (q.take n) q[n] (q.drop (n + 1)) (by rw [← List.drop_eq_getElem_cons hl, List.take_append_drop])).symm
        · rw [List.getElem?_eq_none (by omega)]
          split
          · rw [List.take_of_length_le (by omega)]; exact hs.symm
          · rfl
      have len : ∀ {q q' : List Tx}, q.take n = q'.take n → n ≤ q.length → n ≤ q'.length := fun {q q'} e hl => by
        have := congrArg List.length e
        simp at this
        omega
      have e2 : p[n]? = q[n]? := by
        rw [spc hp sp, spc hq sq, ih]
        by_cases a : n ≤ p.length
        · rw [if_pos a, if_pos (len ih a)]
        · rw [if_neg a, if_neg fun z => a (len ih.symm z)]
      rw [List.take_succ, List.take_succ, ih, e2]
  have := key (max p.length q.length)
  rwa [List.take_of_length_le (Nat.le_max_left _ _), List.take_of_length_le (Nat.le_max_right _ _)] at this
def foE (ts : List Tx) (ps : List (Tx × Tx)) (pl : List Tx) (x3 x4 : Fz.Slot) : Fz.Env := [.val (.lst (ts.map .str)), .val (.lst (ps.map tp)), .own (.l (pl.map .str)), x3, x4, .u]
def foJ (ts : List Tx) (ps : List (Tx × Tx)) (pl : List Tx) (x3 : Fz.Slot) (ρ : Fz.Env) : Prop := ∃ x4, shd1 (some x4) = true ∧ ρ = foE ts ps pl x3 x4
def foI (ts : List Tx) (ps : List (Tx × Tx)) (k : Nat) (ρ : Fz.Env) : Prop := ∃ pl x3 x4, ρ = foE ts ps pl x3 x4 ∧ Plc ts (befs ps) pl ∧ (pl.length = k ∨ ts.find? (rdy (befs ps) pl) = none)
theorem foI_of {ts : List Tx} {ps : List (Tx × Tx)} {pl : List Tx} {k : Nat} {x3 x4 : Fz.Slot} (h : Plc ts (befs ps) pl) (hk : pl.length = k ∨ ts.find? (rdy (befs ps) pl) = none) {q : List PV} (hq : q = pl.map PV.str) : foI ts ps k [.val (.lst (ts.map .str)), .val (.lst (ps.map tp)), .own (.l q), x3, x4, .u] := ⟨pl, x3, x4, by rw [hq]; rfl, h, hk⟩
def opB (pl : List Tx) (x : Tx) (q : Tx × Tx) : Bool := decide (q.2 = x) && !decide (q.1 ∈ pl)
theorem op_rdy (ps : List (Tx × Tx)) (pl : List Tx) (x : Tx) : rdy (befs ps) pl x = (!decide (x ∈ pl) && decide (ps.filter (opB pl x) = [])) := by
  unfold rdy
  congr 1
  rw [Bool.eq_iff_iff]
  simp only [List.all_eq_true, decide_eq_true_eq, List.filter_eq_nil_iff]
  unfold opB
  constructor
  · intro h q hq hc
    simp only [Bool.and_eq_true, decide_eq_true_eq, Bool.not_eq_true', decide_eq_false_iff_not] at hc
    exact hc.2 (h q.1 ((befs_mem ps).mpr (by rw [← hc.1]; exact hq)))
  · intro h y hy
    have := h (y, x) ((befs_mem ps).mp hy)
    simpa using this
theorem okD_tps (qs : List (Tx × Tx)) : okD 2 (.lst (qs.map tp)) := okD_lst (n := 1) fun z hz => by
  obtain ⟨q, _, rfl⟩ := List.mem_map.mp hz
  exact okD_tup (n := 0) fun y hy => by simp at hy; rcases hy with rfl | rfl <;> exact okD_str _
theorem gEq_nilT (qs : List (Tx × Tx)) : gEq (.lst (qs.map tp)) (.lst []) = some (decide (qs = [])) := by
  have ok : eqOk (.lst []) = true := (okD_lst (n := 0) (ps := []) fun _ h => nomatch h).eqOk (by omega)
  rw [gEq_of ((okD_tps qs).eqOk (by omega)) ok]
  cases qs with
  | nil => simp [pvEq, pvEqs]
  | cons x xs => simp [pvEq, pvEqs]
theorem first_ok (ts : List Tx) (ps : List (Tx × Tx)) (hn : ts.Nodup) (hl : ts.length ≤ 1000) (hp : ps.length ≤ 10000) : ∃ pl, g__law_first_order [.lst (ts.map .str), .lst (ps.map tp)] = .ok (.l (pl.map .str)) ∧ Plc ts (befs ps) pl ∧ ts.find? (rdy (befs ps) pl) = none := by
  obtain ⟨o, e, pl, rfl, hx⟩ : ∃ o, g__law_first_order [.lst (ts.map .str), .lst (ps.map tp)] = .ok o ∧ ∃ pl, o = .l (pl.map .str) ∧ Plc ts (befs ps) pl ∧ ts.find? (rdy (befs ps) pl) = none := by
    refine run_ok _ rfl ?_
    simp [b__law_first_order, slotsOf, slotOf, List.replicate, rng_nat (show ts.length < 4611686018427387904 by omega)]
    refine sat_range (foI ts ps) (foI_of (pl := []) (Plc.nil _ _) (.inl rfl) rfl) ?_ ?_
    · rintro k _ hk ⟨pl, x3, x4, rfl, hpl, hkl⟩
      have pll := nodup_le hpl.nd hpl.sub
      rw [stp_of (ρ1 := foE ts ps pl (.val (.int (0 + (k : Int)))) x4) (by simp [foE])]
      generalize hx3 : Slot.val (.int (0 + (k : Int))) = y3
      have c1 := fun x => oComp_filter (l := lOfA (eVar .I 1)) (vs := [5]) (g := gNm 5) (t := tAndF (tCmp gEq (eIx (eVar .B 5) (eC (.int 1))) (eVar .B 4)) (tCmp gNotIn (eIx (eVar .B 5) (eC (.int 0))) (eVar .B 2))) (el := eVar .E 5) (ρ := foE ts ps pl y3 (.val (.str x))) tp tp (opB pl x) ps (by simp [foE]) (by simp [foE]) (fun q _ => by
        unfold opB
        by_cases a1 : q.2 = x
        · by_cases a2 : q.1 ∈ pl <;> simp [foE, tp, a1, a2]
        · have a3 : (q.2 == x) = false := beq_eq_false_iff_ne.mpr a1
          simp [foE, tp, a1, a3]) (le_line (by omega))
      simp only [foE] at c1
      have sl : pl.length < sizeLine := lt_line (by omega)
      have body : sat (loop (gNm 4) L__law_first_order_1 (ts.map PV.str) (foE ts ps pl y3 x4)) { nx := foI ts ps (k + 1), ct := fun _ => False, bk := fun _ => False, rt := fun _ => False, ex := fun _ _ _ => False } := by
        refine sat_find (fun ρ => ∃ x4, ρ = foE ts ps pl y3 x4) (rdy (befs ps) pl) ⟨_, rfl⟩ ?_ ?_ ?_
        · rintro x _ hx hc ⟨x4, rfl⟩
          rw [op_rdy] at hc
          have fin : ∃ z4, foE ts ps pl y3 (.val (.str x)) = foE ts ps pl y3 z4 := ⟨_, rfl⟩
          rw [stp_of (ρ1 := foE ts ps pl y3 (.val (.str x))) (by simp [foE])]
          generalize hQ : (fun ρ => ∃ x4, ρ = foE ts ps pl y3 x4) = Q
          have fin : Q (foE ts ps pl y3 (.val (.str x))) := by rw [← hQ]; exact fin
          by_cases a1 : x ∈ pl
          · simp [L__law_first_order_1, foE, a1]
            simpa [foE] using fin
          · have a2 : ¬ ps.filter (opB pl x) = [] := by simpa [a1] using hc
            have g := gEq_nilT (ps.filter (opB pl x))
            rw [decide_eq_false a2] at g
            simp [L__law_first_order_1, foE, a1, c1 x, g]
            simpa [foE] using fin
        · rintro x _ hf ⟨x4, rfl⟩
          have hc := List.find?_some hf
          rw [op_rdy] at hc
          simp only [Bool.and_eq_true, Bool.not_eq_true', decide_eq_false_iff_not, decide_eq_true_eq] at hc
          have g := gEq_nilT (ps.filter (opB pl x))
          rw [decide_eq_true hc.2] at g
          rw [stp_of (ρ1 := foE ts ps pl y3 (.val (.str x))) (by simp [foE])]
          simp [L__law_first_order_1, foE, hc.1, c1 x, g, sl]
          refine foI_of (hpl.snoc hf) ?_ (by simp)
          rcases hkl with q | q
          · left; simp [q]
          · rw [hf] at q; cases q
        · rintro _ hf ⟨x4, rfl⟩
          exact foI_of hpl (.inr hf) rfl
      simp only [L__law_first_order_2, foE] at body ⊢
      simp
      exact body.mono (fun _ h => h) (fun _ h => h.elim) (fun _ h => h.elim) (fun _ h => h.elim) (fun _ _ _ h => h.elim)
    · rintro _ ⟨pl, x3, x4, rfl, hpl, hkl⟩
      simp [R__law_first_order_3, foE, -List.find?_eq_none]
      refine ⟨pl, rfl, hpl, ?_⟩
      have fin : ts.find? (rdy (befs ps) pl) = none := by
        rcases hkl with q | q
        · refine List.find?_eq_none.mpr fun x hx => ?_
          have hm : x ∈ pl := Classical.byContradiction fun z => by
            have := nodup_le (W := x :: pl) (ts := ts) (List.nodup_cons.mpr ⟨z, hpl.nd⟩) fun y hy => (List.mem_cons.mp hy).elim (fun e => e ▸ hx) (hpl.sub y)
            simp at this
            omega
          unfold rdy
          simp [hm]
        · exact q
      simpa using fin
  exact ⟨pl, e, hx⟩
end Lw
end
section
namespace Lw
open Fz
open PySem (sizeLine Addr)
open L2 (atI ixN)
/-! _law_is_loop of k39 -/
def ilI (ts L : List Tx) (ps : List (Tx × Tx)) (ρ : Fz.Env) : Prop := ∃ x3, ρ = [.bor (.lst (ts.map .str)), .bor (.lst (ps.map tp)), .bor (.lst (L.map .str)), x3]
theorem is_loop_ok {ts L : List Tx} {ps : List (Tx × Tx)} (h : Ring ts ps L) (hl : ts.length ≤ 1000) : g__law_is_loop [.lst (ts.map .str), .lst (ps.map tp), .lst (L.map .str)] = .ok (.fz (.bl true)) := by
  obtain ⟨r, e, rfl⟩ : ∃ r, g__law_is_loop [.lst (ts.map .str), .lst (ps.map tp), .lst (L.map .str)] = .ok r ∧ r = .fz (.bl true) := by
    refine run_ok _ rfl ?_
    have ll := nodup_le h.nd h.mem
    have l0 : 0 < L.length := List.length_pos_iff.mpr h.ne
    have ge : gEq (.lst (L.map .str)) (.lst []) = some false := by
      have := pvEq_strs L []
      simp only [List.map_nil] at this
      rw [gEq_of ((okD_strs L).eqOk (by omega)) (show eqOk (.lst []) = true from (okD_strs []).eqOk (by omega)), this]
      simp [h.ne]
    simp [b__law_is_loop, slotsOf, slotOf, List.replicate, ge, R__law_is_loop_4, rng_nat (show L.length < 4611686018427387904 by omega)]
    refine sat_range (fun _ ρ => ilI ts L ps ρ) ⟨_, rfl⟩ ?_ ?_
    · rintro k _ hk ⟨x3, rfl⟩
      have a1 := str_at hk
      have hm := Nat.mod_lt (k + 1) l0
      have a2 := str_at hm
      have g1 := gMod_int ((k : Int) + 1) (L.length : Int) (by omega)
      have e1 : ((k : Int) + 1) % (L.length : Int) = (((k + 1) % L.length : Nat) : Int) := by push_cast; rfl
      rw [← e1] at a2
      have gi := gIndex_strs (List.getElem_mem hk : L[k] ∈ L)
      rw [h.nd.idxOf_getElem k hk] at gi
      have m1 : L[k] ∈ ts := h.mem _ (List.getElem_mem _)
      have pr := gNotIn_tups L[k] (L[(k + 1) % L.length]) ps
      rw [decide_eq_true (h.pr k hk)] at pr
      generalize L[(k + 1) % L.length] = y at a2 pr
      generalize L[k] = x at a1 gi m1 pr
      have st : ∀ t : Tx, immut (.str t) = true := fun _ => rfl
      simp [L__law_is_loop_2, a1, m1, gi, R__law_is_loop_1, g1, a2, pr, eCap, st]
      exact ⟨_, rfl⟩
    · rintro _ ⟨x3, rfl⟩
      simp [R__law_is_loop_3]
  exact e
end Lw
end
section
namespace Lw
open Fz
open PySem (sizeLine Addr)
open L2 (atI ixN)
/-! the placed order is the least of the right ones -/
theorem split_diff {α : Type} [DecidableEq α] : ∀ {p o : List α}, p.length = o.length → p ≠ o → ∃ u x v y w, p = u ++ x :: v ∧ o = u ++ y :: w ∧ x ≠ y
  | [], [], _, h => (h rfl).elim
  | [], _ :: _, h, _ => by simp at h
  | _ :: _, [], h, _ => by simp at h
  | a :: p, b :: o, hl, hn => by
    by_cases e : a = b
    · subst e
      obtain ⟨u, x, v, y, w, h1, h2, h3⟩ := split_diff (p := p) (o := o) (by simpa using hl) fun z => hn (by rw [z])
      exact ⟨a :: u, x, v, y, w, by rw [h1]; rfl, by rw [h2]; rfl, h3⟩
    · exact ⟨[], a, p, b, o, rfl, rfl, e⟩
theorem find_first {α : Type} {R : α → α → Prop} {c : α → Bool} {x y : α} : ∀ {ts : List α}, ts.find? c = some x → c y = true → y ∈ ts → y ≠ x → ts.Pairwise R → R x y
  | t :: ts, hf, hc, hm, hn, hp => by
    obtain ⟨h1, h2⟩ := List.pairwise_cons.mp hp
    rw [List.find?_cons] at hf
    cases e : c t with
    | true =>
      rw [e] at hf
      have : t = x := Option.some.inj hf
      subst this
      exact h1 y ((List.mem_cons.mp hm).resolve_left hn)
    | false =>
      rw [e] at hf
      refine find_first hf hc ((List.mem_cons.mp hm).resolve_left fun z => ?_) hn h2
      rw [z, e] at hc; cases hc
theorem txsLt_app (u : List Tx) (x y : Tx) (v w : List Tx) (h : x ≠ y) : txsLt (u ++ x :: v) (u ++ y :: w) = txLt x y := by
  induction u with
  | nil => rw [List.nil_append, List.nil_append, txsLt, if_neg h]
  | cons a u ih => rw [List.cons_append, List.cons_append, txsLt, if_pos rfl, ih]
theorem txsLt_irr : ∀ o : List Tx, txsLt o o = false
  | [] => rfl
  | x :: xs => by rw [txsLt, if_pos rfl, txsLt_irr xs]
theorem plc_least {count : Nat} {ts pl o : List Tx} {ps : List (Tx × Tx)} (hf : Flds count ts) (hpl : Plc ts (befs ps) pl) (hl : pl.length = ts.length) (ho : Keeps ts ps o) (hp : inN ts ps) : o = pl ∨ (txsLt pl o = true ∧ txsLt o pl = false) := by
  by_cases e : o = pl
  · exact .inl e
  · right
    obtain ⟨u, x, v, y, w, h1, h2, h3⟩ := split_diff (p := pl) (o := o) (by rw [hl, ho.1.length_eq]) fun z => e z.symm
    have hx := hpl.step u x v h1
    have no : (u ++ y :: w).Nodup := by rw [← h2]; exact ho.1.symm.nodup hf.nd
    have yu : y ∉ u := fun z => (List.nodup_append.mp no).2.2 y z y (by simp) rfl
    have hy : y ∈ ts := ho.1.mem_iff.mp (by rw [h2]; simp)
    have ry : rdy (befs ps) u y = true := by
      unfold rdy
      simp only [Bool.and_eq_true, Bool.not_eq_true', decide_eq_false_iff_not, List.all_eq_true, decide_eq_true_eq]
      refine ⟨yu, fun z hz => ?_⟩
      have hq := (befs_mem ps).mp hz
      have lt := ho.2 (z, y) hq
      rw [h2, idx_split no] at lt
      rw [List.idxOf_append] at lt
      split at lt
      · assumption
      · omega
    have lt : txLt x y = true := find_first (R := fun a b => txLt a b = true) hx ry hy (Ne.symm h3) (flds_strict hf)
    refine ⟨by rw [h1, h2, txsLt_app u x y v w h3]; exact lt, ?_⟩
    rw [h1, h2, txsLt_app u y x w v (Ne.symm h3)]
    cases z : txLt y x with
    | false => rfl
    | true =>
      rcases txLe_total x y with q | q
      · unfold txLe at q; rw [z] at q; cases q
      · unfold txLe at q; rw [lt] at q; cases q
end Lw
end
section
namespace Lw
open Fz
open PySem (sizeLine Addr)
open L2 (atI ixN)
/-! told answers, and how the law spoils them -/
theorem ne_tp (w : Tx) (S : List Tx) : gNe (.tup [.str w, .lst (S.map .str)]) (.tup [.str w, .lst (S.map .str)]) = some false := by
  have ok : eqOk (.tup [.str w, .lst (S.map .str)]) = true := (okD_tup (n := 1) fun p hp => by
    simp at hp
    rcases hp with rfl | rfl
    · exact (okD_str w).up (by omega)
    · exact okD_strs S).eqOk (by omega)
  rw [gNe_of ok ok]
  simp [pvEq, pvEqs]
  exact (pvEq_strs S S).trans (by simp)
theorem spoil_T {a : OT} {ps : List PV} (p : PV) {i : Nat} {ρ : Fz.Env} (h : ρ[i]? = some (.own (.T [a, .l ps]))) (hl : ps.length < sizeLine) : (if isLN ((OT.T [a, .l ps]).at [1]) = true then putT i ρ [1] (((OT.T [a, .l ps]).at [1]).bind (appN p)) else Fl.bad) = .nx (ρ.set i (.own (.T [a, .l (ps ++ [p])]))) := by
  have e : (OT.T [a, .l ps]).at [1] = some (.l ps) := rfl
  have e2 : appN p (.l ps) = some (.l (ps ++ [p])) := if_pos hl
  rw [e, if_pos (show isLN (some (OT.l ps)) = true from rfl), Option.bind_some, e2, putT_eq h]
  rfl
end Lw
end
section
namespace Lw
open Fz
open PySem (sizeLine Addr)
open L2 (atI ixN)
/-! _law_small_ones of k39 -/
theorem ring_loopB {ts L : List Tx} {ps : List (Tx × Tx)} (h : Ring ts ps L) : loopB ts ps L = true := by
  unfold loopB
  rw [Bool.and_eq_true, Bool.and_eq_true]
  refine ⟨⟨by have := h.ne; cases L with | nil => exact absurd rfl this | cons => rfl, List.all_eq_true.mpr fun x hx => decide_eq_true (h.mem x hx)⟩, List.all_eq_true.mpr fun q hq => ?_⟩
  obtain ⟨k, hk, rfl⟩ := List.mem_map.mp hq
  have hk := List.mem_range.mp hk
  have := h.pr k hk
  refine decide_eq_true ?_
  rw [List.getD_eq_getElem?_getD, List.getD_eq_getElem?_getD, List.getElem?_eq_getElem hk, List.getElem?_eq_getElem (Nat.mod_lt _ (by omega))]
  exact this
theorem loop1 {ts : List Tx} {ps : List (Tx × Tx)} {x : Tx} (h : (x, x) ∉ ps) : loopB ts ps [x] = false := by
  have e : cyc [x] = [(x, x)] := by simp [cyc]
  unfold loopB
  rw [e]
  simp [h]
structure Sm (c : Nat) (ts : List Tx) (ps : List (Tx × Tx)) (P R pl : List (List Tx)) : Prop where
  fl : Flds c ts
  c1 : 1 ≤ c
  c2 : c ≤ 6
  inn : inN ts ps
  pln : ps.length ≤ 1000
  hP : ∀ o, o ∈ P ↔ o.Perm ts
  lP : P.length ≤ 117649
  hR : R = P.filter (kpB ps)
section
variable {ns n : List Int} {c : Nat} {ts : List Tx} {ps : List (Tx × Tx)} {P R : List (List Tx)}
theorem Sm.mR (h : Sm c ts ps P R []) (o : List Tx) : o ∈ R ↔ Keeps ts ps o := by
  rw [h.hR, List.mem_filter]
  exact ⟨fun q => (kpB_iff ((h.hP o).mp q.1)).mp q.2, fun q => ⟨(h.hP o).mpr q.1, (kpB_iff q.1).mpr q⟩⟩
theorem Sm.sub (h : Sm c ts ps P R []) {o : List Tx} (ho : o ∈ R) : o ∈ P := by
  rw [h.hR] at ho
  exact (List.mem_filter.mp ho).1
theorem Sm.yes (h : Sm c ts ps P R []) {o : List Tx} (ho : o ∈ P) : g_is_order [.lst (ts.map .str), .lst (ps.map tp), .lst (o.map .str)] = .ok (.fz (.bl (decide (o ∈ R)))) := by
  have tl := h.fl.len
  have e := order_yes ts o ps (by have := h.c2; omega) h.pln ((h.hP o).mp ho) fun q hq => h.inn q hq
  have e2 : allLt o ps = decide (o ∈ R) := by
    have k : allLt o ps = kpB ps o := rfl
    rw [k, h.hR]
    cases z : kpB ps o with
    | true => exact (decide_eq_true (List.mem_filter.mpr ⟨ho, z⟩)).symm
    | false => exact (decide_eq_false fun q => by have := (List.mem_filter.mp q).2; rw [z] at this; cases this).symm
  rw [e, e2]
def ppP (ts : List Tx) (ps : List (Tx × Tx)) : List PV := [.lst (ts.map .str), .lst (ps.map tp)]
theorem pp_ok (ts : List Tx) (ps : List (Tx × Tx)) : eqOk (.lst (ppP ts ps)) = true := (okD_lst (n := 2) fun p hp => by
    simp [ppP] at hp
    rcases hp with rfl | rfl
    · exact (okD_strs ts).up (by omega)
    · exact okD_tps ps).eqOk (by omega)
theorem datas_strs : ∀ ts : List Tx, isDatas (ts.map .str) = true
  | [] => rfl
  | t :: ts => by show (isData (.str t) && isDatas (ts.map .str)) = true; rw [datas_strs ts]; rfl
theorem datas_tps : ∀ ps : List (Tx × Tx), isDatas (ps.map tp) = true
  | [] => rfl
  | t :: ps => by show (isData (tp t) && isDatas (ps.map tp)) = true; rw [datas_tps ps]; rfl
theorem pp_eq (ts : List Tx) (ps : List (Tx × Tx)) : pvEq (.lst (ppP ts ps)) (.lst (ppP ts ps)) = true := pvEq_refl _ (by
  show (isDatas (ts.map .str) && (isDatas (ps.map tp) && true)) = true
  rw [datas_strs, datas_tps]; rfl)
theorem pp_ne (ts : List Tx) (ps : List (Tx × Tx)) : gNe (.lst (ppP ts ps)) (.lst (ppP ts ps)) = some false := by rw [gNe_of (pp_ok ts ps) (pp_ok ts ps), pp_eq]; rfl
theorem pp_qe (ts : List Tx) (ps : List (Tx × Tx)) : gEq (.lst (ppP ts ps)) (.lst (ppP ts ps)) = some true := by rw [gEq_of (pp_ok ts ps) (pp_ok ts ps), pp_eq]
def e39 (ns n : List Int) (ts : List Tx) (ps : List (Tx × Tx)) (P R : List (List Tx)) (x7 x8 x9 x10 x11 x12 x13 : Fz.Slot) : Fz.Env :=
  [.bor (.rol (ns.map .int)), .own (.l (n.map .int)), .val (.lst (ts.map .str)), .val (.lst (ps.map tp)), .val (.lst (P.map lsP)), .own (.l (R.map lsP)), .own (.l (ppP ts ps)), x7, x8, x9, x10, x11, x12, x13]
theorem L3s (h : Sm c ts ps P R []) (x7 x8 x9 x10 x11 x12 x13 : Fz.Slot) (Q : Po) (hQ : ∀ x8, Q.nx (e39 ns n ts ps P R x7 x8 x9 x10 x11 x12 x13)) :
    sat (L__law_small_ones_3 (e39 ns n ts ps P R x7 x8 x9 x10 x11 x12 x13)) Q := by
  have tl := h.fl.len
  have c2 := h.c2
  have pn := pp_ne ts ps
  obtain ⟨pl, hpl, hstop, hc⟩ := told_ok h.fl h.c1 (by omega) h.inn (by have := h.pln; omega)
  have pi := Plc.iff hpl h.fl.nd hstop h.inn
  simp only [ppP] at pn
  rcases hc with ⟨hl, e⟩ | ⟨hl, L, hL, e⟩
  · have hk : Keeps ts ps pl := hpl.keeps h.fl.nd (fun x hx => Classical.byContradiction fun z => by
      have := nodup_le (W := x :: pl) (ts := ts) (List.nodup_cons.mpr ⟨z, hpl.nd⟩) fun w hw => (List.mem_cons.mp hw).elim (fun e => e ▸ hx) (hpl.sub w)
      simp at this
      omega) h.inn
    have hm := (h.mR pl).mpr hk
    obtain ⟨o, R', hR'⟩ : ∃ o R', R = o :: R' := by
      cases R with
      | nil => cases hm
      | cons o R' => exact ⟨o, R', rfl⟩
    have lx : leastX o R' = pl := leastX_is (txsLt_irr pl) R' o (by rw [← hR']; exact hm) fun x hx => plc_least h.fl hpl hl ((h.mR x).mp (by rw [hR']; exact hx)) h.inn
    have gm := gMinD_strs o R'
    rw [lx] at gm
    have gm : gMinD (.lst (R.map lsP)) = some (.fz (.lst (pl.map .str))) := by rw [hR']; exact gm
    have gn := gNe_nilL R
    have rne : ¬ R = [] := by rw [hR']; simp
    have q1 := ne_tp (txt "order") pl
    have sl : pl.length < sizeLine := lt_line (by omega)
    have hQ := hQ (.own (.T [.fz (.str (txt "order")), .l (pl.map .str ++ [.str (txt "spoilt")])]))
    simp only [e39, ppP] at hQ ⊢
    generalize R.map lsP = RR at gm gn hQ ⊢
    simp [L__law_small_ones_3, e, pn, R__law_small_ones_2, gm, gn, rne, q1, R__law_small_ones_1]
    rw [spoil_T _ rfl (by simpa using sl), sat_nx]
    exact hQ
  · have R0 : R = [] := by
      cases R with
      | nil => rfl
      | cons o R' =>
        have := pi.mpr ⟨o, (h.mR o).mp (by simp)⟩
        omega
    have Ll : L.length ≤ ts.length := nodup_le hL.nd hL.mem
    have il := is_loop_ok hL (by omega)
    have l2 := loop_strs ts L ps (by omega)
    rw [ring_loopB hL] at l2
    have gn : gNe (.lst []) (.lst []) = some false := by simpa using gNe_nilL []
    have a1 : (((OT.T [OT.fz (PV.str (txt "loop")), OT.l (L.map .str)]).at [1]).bind (ndM Mode.I)) = some (.lst (L.map .str)) := rfl
    have sl : L.length < sizeLine := lt_line (by omega)
    have hQ := hQ (.own (.T [.fz (.str (txt "loop")), .l (L.map .str ++ [.str (txt "spoilt")])]))
    rw [R0] at hQ ⊢
    simp only [e39, ppP] at hQ
    simp [L__law_small_ones_3, e39, ppP, e, pn, R__law_small_ones_2, gn, R__law_small_ones_1, il, a1, l2]
    rw [spoil_T _ rfl (by simpa using sl), sat_nx]
    exact hQ
theorem L4s (h : Sm c ts ps P R []) {k : Nat} (hk : k < P.length) (x7 x8 x9 x11 x12 x13 : Fz.Slot) (Q : Po) (hQ : ∀ x11 x12, Q.nx (e39 ns n ts ps P R x7 x8 x9 (.val (.int k)) x11 x12 x13)) :
    sat (L__law_small_ones_4 (e39 ns n ts ps P R x7 x8 x9 (.val (.int k)) x11 x12 x13)) Q := by
  have a1 : atI (P.map lsP) (k : Int) = some (lsP P[k]) := by rw [atI_map, atI_nat, List.getElem?_eq_getElem hk]; rfl
  have y := h.yes (List.getElem_mem hk)
  have gi := gIn_lsP P[k] R
  have hQ := hQ (.val (lsP P[k])) (.val (.bl (decide (P[k] ∈ R))))
  have gl : gListA (lsP P[k]) = some (.l (P[k].map .str)) := rfl
  generalize P[k] = o at a1 y gi hQ gl
  have gl2 : lsP o = .lst (o.map .str) := rfl
  generalize lsP o = oo at a1 gi hQ gl
  simp only [e39, ppP] at hQ ⊢
  cases z : decide (o ∈ R) with
  | true =>
    rw [z] at y gi hQ
    simp [L__law_small_ones_4, a1, gl, y, gi]
    exact hQ
  | false =>
    rw [z] at y gi hQ
    simp [L__law_small_ones_4, a1, gl, y, gi]
    exact hQ
theorem L5s (h : Sm c ts ps P R []) (hr : R ≠ []) {x : Tx} (hx : x ∈ ts) (x7 x8 x9 x10 x11 x12 : Fz.Slot) (Q : Po) (hQ : Q.nx (e39 ns n ts ps P R x7 x8 x9 x10 x11 x12 (.val (.str x)))) :
    sat (L__law_small_ones_5 (e39 ns n ts ps P R x7 x8 x9 x10 x11 x12 (.val (.str x)))) Q := by
  obtain ⟨o, ho⟩ := List.exists_mem_of_ne_nil _ hr
  have hk := (h.mR o).mp ho
  have l2 := loop_strs ts [x] ps (by simp)
  rw [loop1 fun z => by have := hk.2 _ z; simp at this] at l2
  simp only [List.map_cons, List.map_nil] at l2
  simp only [e39, ppP] at hQ ⊢
  simp [L__law_small_ones_5, l2]
  exact hQ
theorem small_ok {m c : Nat} (h1 : 1 ≤ c) (h2 : c ≤ 100000) (h3 : m ≤ 200000) : PySem.Builtin.Range.small 0 m c = true := by
  have hs : 0 ≤ PySem.Builtin.Range.rangeSize 0 m c ∧ PySem.Builtin.Range.rangeSize 0 m c ≤ 200001 := by
    unfold PySem.Builtin.Range.rangeSize
    rw [if_pos (by omega)]
    by_cases hm : (0 : Int) < m
    · rw [if_pos hm]
      have a1 : 0 ≤ ((m : Int) - 0 - 1) / c := Int.ediv_nonneg (by omega) (by omega)
      have a2 : ((m : Int) - 0 - 1) / c ≤ (m : Int) - 0 - 1 := Int.ediv_le_self _ (by omega)
      omega
    · rw [if_neg hm]; omega
  unfold PySem.Builtin.Range.small
  generalize PySem.Builtin.Range.rangeSize 0 m c = z at hs ⊢
  have fl : ∀ i : Int, -10000000 ≤ i → i ≤ 10000000 → PySem.Builtin.Range.rangeFitsLong i = true := fun i a b => by
    unfold PySem.Builtin.Range.rangeFitsLong
    simp
    omega
  rw [fl 0 (by omega) (by omega), fl m (by omega) (by omega), fl c (by omega) (by omega), fl z (by omega) (by omega), if_pos (by omega), fl (m + (c - 1)) (by omega) (by omega)]
  simp
theorem step_ok {m c : Nat} (h1 : 1 ≤ c) (h2 : c ≤ 100000) (h3 : m ≤ 200000) : ∃ ks : List Nat, stepRA 0 m c = .ok (ks.map fun k : Nat => .int k) ∧ ∀ k ∈ ks, k < m := by
  have ok : stepOk 0 m c = true := by
    unfold stepOk
    rw [Bool.and_eq_true, Bool.and_eq_true]
    exact ⟨⟨by simp; omega, by simp; omega⟩, small_ok h1 h2 h3⟩
  refine ⟨(List.range (PySem.Builtin.Range.rangeSize 0 m c).toNat).map (· * c), ?_, ?_⟩
  · unfold stepRA
    rw [if_pos ok, stepL, List.map_map]
    congr 1
    refine List.map_congr_left fun k _ => ?_
    simp
  · intro k hk
    obtain ⟨j, hj, rfl⟩ := List.mem_map.mp hk
    have hj := List.mem_range.mp hj
    unfold PySem.Builtin.Range.rangeSize at hj
    rw [if_pos (by omega)] at hj
    by_cases hm : (0 : Int) < m
    · rw [if_pos hm] at hj
      have h5 : (j : Int) ≤ ((m : Int) - 0 - 1) / c := by omega
      have h6 : (j : Int) * c ≤ (m : Int) - 0 - 1 := Int.mul_le_of_le_ediv (by omega) h5
      have : ((j * c : Nat) : Int) < m := by push_cast; omega
      omega
    · rw [if_neg hm] at hj
      simp at hj
theorem R9s (h : Sm c ts ps P R []) (h3 : ∃ v : Int, atI (n.map PV.int) 3 = some (.int v)) (x7 x8 x9 x10 x11 x12 x13 : Fz.Slot) :
    sat (R__law_small_ones_9 (e39 ns n ts ps P R x7 x8 x9 x10 x11 x12 x13)) (poR fun o => o = .fz (.bl true)) := by
  have lP := h.lP
  have tl := h.fl.len
  have c2 := h.c2
  obtain ⟨v3, ev3⟩ := h3
  obtain ⟨c9, d1, d2, d3⟩ : ∃ c9 : Nat, (1 : Int) + (P.length : Int) / 60 = c9 ∧ 1 ≤ c9 ∧ c9 ≤ 100000 := ⟨1 + P.length / 60, by push_cast; rfl, by omega, by omega⟩
  obtain ⟨ks, es, hks⟩ := step_ok (m := P.length) (c := c9) d2 d3 (by omega)
  have core : ∀ x9, sat (loop (gNm 10) L__law_small_ones_4 (ks.map fun k : Nat => PV.int k) (e39 ns n ts ps P R x7 x8 x9 x10 x11 x12 x13)) { nx := fun ρ => ∃ x10 x11 x12, ρ = e39 ns n ts ps P R x7 x8 x9 x10 x11 x12 x13, ct := fun _ => False, bk := fun _ => False, rt := fun _ => False, ex := fun _ _ _ => False } := fun x9 => by
    refine sat_list (fun _ ρ => ∃ x10 x11 x12, ρ = e39 ns n ts ps P R x7 x8 x9 x10 x11 x12 x13) ⟨_, _, _, rfl⟩ ?_ ?_
    · rintro d k r _ hd ⟨y10, y11, y12, rfl⟩
      rw [stp_of (ρ1 := e39 ns n ts ps P R x7 x8 x9 (.val (.int k)) y11 y12 x13) (by simp [e39])]
      exact L4s h (hks k (by rw [hd]; simp)) _ _ _ _ _ _ _ fun x11 x12 => ⟨_, _, _, rfl⟩
    · rintro _ ⟨y10, y11, y12, rfl⟩
      exact ⟨_, _, _, rfl⟩
  have core := core (.val (.int (c9 : Int)))
  have pq := pp_qe ts ps
  have R8 : ∀ x9 x10 x11 x12, sat (R__law_small_ones_8 (e39 ns n ts ps P R x7 x8 x9 x10 x11 x12 x13)) (poR fun o => o = .fz (.bl true)) := fun x9 x10 x11 x12 => by
    by_cases hr : R = []
    · have gn : gNe (.lst []) (.lst []) = some false := by simpa using gNe_nilL []
      subst hr
      simp only [ppP] at pq
      simp [R__law_small_ones_8, e39, gn, R__law_small_ones_7, ppP, pq]
    · have gn := gNe_nilL R
      rw [decide_eq_false hr] at gn
      obtain ⟨j, hj, hjl⟩ : ∃ j : Nat, v3 % (R.length : Int) = j ∧ j < R.length := by
        have l0 := List.length_pos_iff.mpr hr
        have a1 := Int.emod_nonneg v3 (show (R.length : Int) ≠ 0 by omega)
        have a2 := Int.emod_lt_of_pos v3 (show (0 : Int) < R.length by omega)
        exact ⟨(v3 % (R.length : Int)).toNat, by omega, by omega⟩
      have a1 : atI (R.map lsP) (j : Int) = some (lsP R[j]) := by rw [atI_map, atI_nat, List.getElem?_eq_getElem hjl]; rfl
      have rm : R[j] ∈ R := List.getElem_mem hjl
      have y := h.yes (h.sub rm)
      rw [decide_eq_true rm] at y
      have gl : gListA (lsP R[j]) = some (.l (R[j].map .str)) := rfl
      have l0 : 0 < (R.length : Int) := by have := List.length_pos_iff.mpr hr; omega
      have body : sat (loop (gNm 13) L__law_small_ones_5 (ts.map .str) (e39 ns n ts ps P R x7 x8 x9 x10 x11 x12 x13)) { nx := fun ρ => ∃ x13, ρ = e39 ns n ts ps P R x7 x8 x9 x10 x11 x12 x13, ct := fun _ => False, bk := fun _ => False, rt := fun _ => False, ex := fun _ _ _ => False } := by
        refine sat_list (fun _ ρ => ∃ x13, ρ = e39 ns n ts ps P R x7 x8 x9 x10 x11 x12 x13) ⟨_, rfl⟩ ?_ ?_
        · rintro d x r _ hd ⟨y13, rfl⟩
          rw [stp_of (ρ1 := e39 ns n ts ps P R x7 x8 x9 x10 x11 x12 (.val (.str x))) (by simp [e39])]
          exact L5s h hr (by rw [hd]; simp) _ _ _ _ _ _ _ ⟨_, rfl⟩
        · rintro _ ⟨y13, rfl⟩
          exact ⟨_, rfl⟩
      generalize R[j] = o at a1 y gl
      have Rl : (R.map lsP).length = R.length := by simp
      have gm : gMod (.int v3) (.int (R.length : Int)) = some (.int (j : Int)) := by rw [gMod_int _ _ l0, hj]
      have R6 : ∀ x13 (Q : Po), Q.rt (.fz (.bl true)) → sat (R__law_small_ones_6 (e39 ns n ts ps P R x7 x8 x9 x10 x11 x12 x13)) Q := fun x13 Q hQ => by
        simp only [e39, ppP]
        generalize lsP o = oo at a1 gl
        generalize R.map lsP = RR at a1 Rl
        simp [R__law_small_ones_6, ev3, Rl, gm, a1, gl, y, hQ]
      simp only [e39, ppP] at body ⊢
      simp only [e39, ppP] at R6
      generalize R.map lsP = RR at gn body R6
      simp [R__law_small_ones_8, gn]
      refine body.mono ?_ (fun _ q => q.elim) (fun _ q => q.elim) (fun _ q => q.elim) fun _ _ _ q => q.elim
      rintro _ ⟨y13, rfl⟩
      exact R6 y13 _ rfl
  simp only [e39] at core R8 ⊢
  have PPl : (P.map lsP).length = P.length := by simp
  have gd : gDiv (.int (P.length : Int)) (.int 60) = some (.int ((P.length : Int) / 60)) := gDiv_int _ _ (by omega) (by omega)
  generalize P.map lsP = PP at core PPl R8 ⊢
  generalize hm : (P.length : Int) = M at d1 es gd
  generalize hM : M / 60 = M' at d1 gd
  simp [R__law_small_ones_9, PPl, hm, gd, d1, es]
  refine core.mono ?_ (fun _ q => q.elim) (fun _ q => q.elim) (fun _ q => q.elim) fun _ _ _ q => q.elim
  rintro _ ⟨y10, y11, y12, rfl⟩
  exact R8 _ _ _ _
theorem small_ok' (ns : List Int) : g__law_small_ones [.rol (ns.map .int)] = .ok (.fz (.bl true)) := by
  obtain ⟨o, e, rfl⟩ : ∃ o, g__law_small_ones [.rol (ns.map .int)] = .ok o ∧ o = .fz (.bl true) := by
    refine run_ok _ rfl ?_
    obtain ⟨n, en, hn⟩ := numbers_ok ns 0 20 (by decide)
    push_cast at en
    obtain ⟨v0, e0, a0, b0⟩ := low_get hn (i := 0) (by omega) (by omega)
    obtain ⟨v1, e1, a1, b1⟩ := low_get hn (i := 1) (by omega) (by omega)
    obtain ⟨v2, e2, a2, b2⟩ := low_get hn (i := 2) (by omega) (by omega)
    obtain ⟨v3, e3, a3, b3⟩ := low_get hn (i := 3) (by omega) (by omega)
    obtain ⟨c, hc, c1, c2⟩ : ∃ c : Nat, 1 + v0 % 6 = c ∧ 1 ≤ c ∧ c ≤ 6 := ⟨(1 + v0 % 6).toNat, by omega, by omega, by omega⟩
    obtain ⟨ts, et, ht⟩ := fields_ok ns 1 c (by omega)
    push_cast at et
    obtain ⟨m, em⟩ : ∃ m : Nat, v1 % 13 = m := ⟨(v1 % 13).toNat, by omega⟩
    obtain ⟨ps, ep, hp, pl', _⟩ := pairs_ok ns 2 m (v2 % 3) ts (by have := ht.len; omega) (by have := ht.len; omega) ht.nd (by decide) (by omega)
    push_cast at ep
    have tl := ht.len
    obtain ⟨P, eP, hP, lP⟩ := orders_ok ts (fun z => by rw [z] at tl; simp at tl; omega) (by omega)
    have cf := oComp_filter (l := lOfA (eVar .I 4)) (vs := [11]) (g := gNm 11) (t := tOfE (eOfO (oCall g__law_keeps (lCons (eVar .B 11) (lCons (eVar .E 3) lNil))))) (el := eVar .E 11) (ρ := [.bor (.rol (ns.map .int)), .own (.l (n.map .int)), .val (.lst (ts.map .str)), .val (.lst (ps.map tp)), .val (.lst (P.map lsP)), .u, .u, .u, .u, .u, .u, .u, .u, .u]) lsP lsP (kpB ps) P (by simp) (by simp) (fun o ho => by
      have := kp_ok hp ((hP o).mp ho)
      cases z : kpB ps o <;> simp [this, z]) (le_line (by omega))
    have hS : Sm c ts ps P (P.filter (kpB ps)) [] := ⟨ht, c1, c2, hp, by omega, hP, lP, rfl⟩
    have rr : rngR 0 2 = .ok (rangeL 0 2) := rng_ok (by omega) (by omega) (by omega) (by omega)
    have core : sat (loop (gNm 7) L__law_small_ones_3 (rangeL 0 2) (e39 ns n ts ps P (P.filter (kpB ps)) .u .u .u .u .u .u .u)) { nx := fun ρ => sat (R__law_small_ones_9 ρ) (poR fun o => o = .fz (.bl true)), ct := fun _ => False, bk := fun _ => False, rt := fun _ => False, ex := fun _ _ _ => False } := by
      refine sat_range (fun _ ρ => ∃ x7 x8, ρ = e39 ns n ts ps P (P.filter (kpB ps)) x7 x8 .u .u .u .u .u) ⟨_, _, rfl⟩ ?_ ?_
      · rintro k _ hk ⟨x7, x8, rfl⟩
        rw [stp_of (ρ1 := e39 ns n ts ps P (P.filter (kpB ps)) (.val (.int (0 + (k : Int)))) x8 .u .u .u .u .u) (by simp [e39])]
        exact L3s hS _ _ _ _ _ _ _ _ fun x8 => ⟨_, _, rfl⟩
      · rintro _ ⟨x7, x8, rfl⟩
        exact R9s hS ⟨v3, e3⟩ _ _ _ _ _ _ _
    generalize P.filter (kpB ps) = R at cf core
    simp only [e39, ppP] at core
    generalize P.map lsP = PP at eP cf core
    generalize R.map lsP = RR at cf core
    simp [b__law_small_ones, slotsOf, slotOf, List.replicate, en, e0, hc, et, e1, em, e2, ep, eP, cf, rr]
    exact core.mono (fun _ h => h) (fun _ h => h.elim) (fun _ h => h.elim) (fun _ h => h.elim) fun _ _ _ h => h.elim
  exact e
end
end Lw
end
section
namespace Lw
open Fz
open PySem (sizeLine Addr)
open L2 (atI ixN)
/-! _law_large_ones of k39 -/
theorem cut_between {α : Type} (xs : List α) (a b : Nat) : cut xs (some (a : Int)) (some (b : Int)) = (xs.take b).drop a := by
  have h1 := cut_from (xs.take b) a
  unfold cut at h1 ⊢
  rw [HT.sIx_nat, HT.sIx_nat]
  rw [List.drop_take]
  rcases Nat.le_total a xs.length with h | h
  · rw [Nat.min_eq_left h]
    rcases Nat.le_total b xs.length with g | g
    · rw [Nat.min_eq_left g]
    · rw [Nat.min_eq_right g, List.take_of_length_le (by simp), List.take_of_length_le (by simp; omega)]
  · rw [Nat.min_eq_right h, List.drop_of_length_le (Nat.le_refl _), List.drop_of_length_le h]; simp
theorem cyc_last {us : List Tx} (h : us ≠ []) : (us.getD (us.length - 1) [], us.getD 0 []) ∈ cyc us := by
  have l := List.length_pos_iff.mpr h
  refine List.mem_map.mpr ⟨us.length - 1, List.mem_range.mpr (by omega), ?_⟩
  rw [show us.length - 1 + 1 = us.length by omega, Nat.mod_self]
theorem cyc_bad {us : List Tx} (h : us ≠ []) (f : Tx → Nat) (hf : ∀ q ∈ cyc us, f q.1 < f q.2) : False := by
  have l := List.length_pos_iff.mpr h
  have up : ∀ k, k < us.length → f (us.getD 0 []) + k ≤ f (us.getD k []) := by
    intro k
    induction k with
    | zero => intro _; omega
    | succ k ih =>
      intro hk
      have := ih (by omega)
      have h2 := hf (us.getD k [], us.getD ((k + 1) % us.length) []) (List.mem_map.mpr ⟨k, List.mem_range.mpr (by omega), rfl⟩)
      rw [Nat.mod_eq_of_lt hk] at h2
      dsimp only at h2
      omega
  have a := up (us.length - 1) (by omega)
  have b := hf _ (cyc_last h)
  dsimp only at b
  omega
/-- a stretch of an order -/
structure Rg (pl us : List Tx) (a s : Nat) : Prop where
  s1 : 1 ≤ s
  le : a + s ≤ pl.length
  eq : us = (pl.take (a + s)).drop a
section
variable {ns n : List Int} {c : Nat} {ts pl us : List Tx} {ps cl : List (Tx × Tx)} {a s : Nat}
theorem Rg.len (h : Rg pl us a s) : us.length = s := by rw [h.eq, List.length_drop, List.length_take]; have := h.le; omega
theorem Rg.ne (h : Rg pl us a s) : us ≠ [] := fun z => by have := h.len; rw [z] at this; have := h.s1; simp at *; omega
theorem Rg.sub (h : Rg pl us a s) : ∀ x ∈ us, x ∈ pl := fun x hx => by rw [h.eq] at hx; exact List.mem_of_mem_take (List.mem_of_mem_drop hx)
theorem Rg.at (h : Rg pl us a s) {k : Nat} (hk : k < s) : us.getD k [] = pl.getD (a + k) [] := by
  rw [List.getD_eq_getElem?_getD, List.getD_eq_getElem?_getD, h.eq, List.getElem?_drop, List.getElem?_take_of_lt (by omega)]
theorem idx_getD {pl : List Tx} (hn : pl.Nodup) {k : Nat} (hk : k < pl.length) : pl.idxOf (pl.getD k []) = k := by
  rw [List.getD_eq_getElem?_getD, List.getElem?_eq_getElem hk]
  exact hn.idxOf_getElem k hk
theorem Rg.back (h : Rg pl us a s) (hn : pl.Nodup) : ¬ pl.idxOf (us.getD (us.length - 1) []) < pl.idxOf (us.getD 0 []) := by
  have l := h.len
  have s1 := h.s1
  have le := h.le
  rw [l, h.at (by omega), h.at (by omega), idx_getD hn (by omega), idx_getD hn (by omega)]
  omega
theorem no_loop (hk : Keeps ts ps pl) (h : Rg pl us a s) (hn : pl.Nodup) : loopB ts ps us = false := by
  cases z : loopB ts ps us with
  | false => rfl
  | true =>
    unfold loopB at z
    rw [Bool.and_eq_true] at z
    have := of_decide_eq_true (List.all_eq_true.mp z.2 _ (cyc_last h.ne))
    exact absurd (hk.2 _ this) (h.back hn)
theorem no_order (h : Rg pl us a s) (hn : pl.Nodup) (hc : ∀ q ∈ cyc us, q ∈ cl) : allLt pl cl = false := by
  cases z : allLt pl cl with
  | false => rfl
  | true => exact absurd (of_decide_eq_true (List.all_eq_true.mp z _ (hc _ (cyc_last h.ne)))) (h.back hn)
theorem a_loop (h : Rg pl us a s) (hs : ∀ x ∈ pl, x ∈ ts) (hc : ∀ q ∈ cyc us, q ∈ cl) : loopB ts cl us = true := by
  unfold loopB
  rw [Bool.and_eq_true, Bool.and_eq_true]
  refine ⟨⟨by have := h.ne; cases us with | nil => exact absurd rfl this | cons => rfl, List.all_eq_true.mpr fun x hx => decide_eq_true (hs x (h.sub x hx))⟩, List.all_eq_true.mpr fun q hq => decide_eq_true (hc q hq)⟩
theorem Rg.all (hl : 1 ≤ pl.length) : Rg pl pl 0 pl.length := ⟨hl, by omega, by simp⟩
theorem no_keeps (h : us ≠ []) (hc : ∀ q ∈ cyc us, q ∈ cl) : ¬ ∃ o, Keeps ts cl o := fun ⟨o, ho⟩ => cyc_bad h (fun x => o.idxOf x) fun q hq => ho.2 q (hc q hq)
theorem cyc_in (h : Rg pl us a s) (hs : ∀ x ∈ pl, x ∈ ts) : ∀ q ∈ cyc us, q.1 ∈ ts ∧ q.2 ∈ ts := fun q hq => by
  obtain ⟨k, hk, rfl⟩ := List.mem_map.mp hq
  have hk := List.mem_range.mp hk
  have g : ∀ j, j < us.length → us.getD j [] ∈ ts := fun j hj => by
    rw [List.getD_eq_getElem?_getD, List.getElem?_eq_getElem hj]
    exact hs _ (h.sub _ (List.getElem_mem hj))
  exact ⟨g k hk, g _ (Nat.mod_lt _ (by omega))⟩
end
end Lw
end
section
namespace Lw
open Fz
open PySem (sizeLine Addr)
open L2 (atI ixN)
/-! the law k39 -/
section
variable {ns n : List Int} {c : Nat} {ts pl us L : List Tx} {ps cl : List (Tx × Tx)} {a s : Nat}
def e39b (ns n : List Int) (ts pl : List Tx) (ps : List (Tx × Tx)) (x6 x7 x8 x9 x10 x11 : Fz.Slot) : Fz.Env :=
  [.bor (.rol (ns.map .int)), .own (.l (n.map .int)), .val (.lst (ts.map .str)), .val (.lst (ps.map tp)), .val (.lst (pl.map .str)), .own (.l (ppP ts ps)), x6, x7, x8, x9, x10, x11, .u]
structure Bg (c : Nat) (ts pl : List Tx) (ps : List (Tx × Tx)) : Prop where
  fl : Flds c ts
  c1 : 13 ≤ c
  c2 : c ≤ 40
  inn : inN ts ps
  pln : ps.length ≤ 300
  kp : Keeps ts ps pl
  plc : Plc ts (befs ps) pl
  stop : ts.find? (rdy (befs ps) pl) = none
theorem Bg.nd (h : Bg c ts pl ps) : pl.Nodup := h.plc.nd
theorem Bg.len (h : Bg c ts pl ps) : pl.length = ts.length := h.kp.1.length_eq
theorem told_loop (h : Bg c ts pl ps) (hi : inN ts cl) (hl : cl.length ≤ 1000) (hno : ¬ ∃ o, Keeps ts cl o) : ∃ L, Ring ts cl L ∧ g_answer [.lst (ts.map .str), .lst (cl.map tp)] = .ok (.T [.fz (.str (txt "loop")), .l (L.map .str)]) := by
  obtain ⟨q, hq, hs, hc⟩ := told_ok h.fl (by have := h.c1; omega) h.c2 hi (by omega)
  rcases hc with ⟨hl2, _⟩ | ⟨_, L, hL, e⟩
  · exact absurd ((Plc.iff hq h.fl.nd hs hi).mp hl2) hno
  · exact ⟨L, hL, e⟩
theorem told_order (h : Bg c ts pl ps) : g_answer [.lst (ts.map .str), .lst (ps.map tp)] = .ok (.T [.fz (.str (txt "order")), .l (pl.map .str)]) := by
  obtain ⟨q, hq, hs, hc⟩ := told_ok h.fl (by have := h.c1; omega) h.c2 h.inn (by have := h.pln; omega)
  obtain rfl := Plc.uniq hq hs h.plc h.stop
  rcases hc with ⟨_, e⟩ | ⟨hl, _⟩
  · exact e
  · have := h.len; omega
theorem R4b (h : Bg c ts pl ps) (hr : Rg pl us a s) (hi : inN ts cl) (hl : cl.length ≤ 1000) (hc : ∀ q ∈ cyc us, q ∈ cl) (x6 x7 x8 x9 : Fz.Slot) (Q : Po) (hQ : Q.rt (.fz (.bl true))) :
    sat (R__law_large_ones_4 (e39b ns n ts pl ps x6 x7 x8 x9 (.own (.l (us.map .str))) (.own (.l (cl.map tp))))) Q := by
  have tl := h.fl.len
  have c2 := h.c2
  obtain ⟨L, hL, e⟩ := told_loop h hi hl (no_keeps hr.ne hc)
  have Ll : L.length ≤ ts.length := nodup_le hL.nd hL.mem
  have ul := hr.len
  have sl := hr.le
  have pll := h.len
  have sub : ∀ x ∈ pl, x ∈ ts := fun x hx => h.kp.1.mem_iff.mp hx
  have il := is_loop_ok hL (by omega)
  have l1 := loop_strs ts L cl (by omega)
  rw [ring_loopB hL] at l1
  have l2 := loop_strs ts us cl (by omega)
  rw [a_loop hr sub hc] at l2
  have l3 := loop_strs ts us ps (by omega)
  rw [no_loop h.kp hr h.nd] at l3
  have o1 := order_yes ts pl cl (by omega) hl h.kp.1 fun q hq => hi q hq
  rw [no_order hr h.nd hc] at o1
  have a1 : (((OT.T [OT.fz (PV.str (txt "loop")), OT.l (L.map .str)]).at [1]).bind (ndM Mode.I)) = some (.lst (L.map .str)) := rfl
  simp only [e39b, ppP]
  generalize cl.map tp = CL at e il l1 l2 o1 ⊢
  generalize us.map PV.str = US at l2 l3 ⊢
  simp [R__law_large_ones_4, e, il, R__law_large_ones_3, a1, l1, l2, R__law_large_ones_2, o1, l3, hQ]
theorem R5b (h : Bg c ts pl ps) (hv : ∀ i : Int, 0 ≤ i → i < 20 → ∃ v : Int, atI (n.map PV.int) i = some (.int v)) (x6 x7 : Fz.Slot) (Q : Po) (hQ : Q.rt (.fz (.bl true))) :
    sat (R__law_large_ones_5 (e39b ns n ts pl ps x6 x7 .u .u .u .u)) Q := by
  have tl := h.fl.len
  have c1 := h.c1
  have c2 := h.c2
  have pll := h.len
  obtain ⟨v2, e2⟩ := hv 2 (by omega) (by omega)
  obtain ⟨v3, e3⟩ := hv 3 (by omega) (by omega)
  obtain ⟨v4, e4⟩ := hv 4 (by omega) (by omega)
  obtain ⟨a, ha, al⟩ : ∃ a : Nat, v2 % (ts.length : Int) = a ∧ a < ts.length := by
    have a1 := Int.emod_nonneg v2 (show (ts.length : Int) ≠ 0 by omega)
    have a2 := Int.emod_lt_of_pos v2 (show (0 : Int) < ts.length by omega)
    exact ⟨(v2 % (ts.length : Int)).toNat, by omega, by omega⟩
  obtain ⟨s, hs, s1, sl⟩ : ∃ s : Nat, 1 + v3 % ((ts.length : Int) - a) = s ∧ 1 ≤ s ∧ a + s ≤ ts.length := by
    have a1 := Int.emod_nonneg v3 (show (ts.length : Int) - a ≠ 0 by omega)
    have a2 := Int.emod_lt_of_pos v3 (show (0 : Int) < (ts.length : Int) - a by omega)
    exact ⟨(1 + v3 % ((ts.length : Int) - a)).toNat, by omega, by omega, by omega⟩
  obtain ⟨us, hr⟩ : ∃ us, Rg pl us a s := ⟨_, s1, by omega, rfl⟩
  have ul := hr.len
  have sub : ∀ x ∈ pl, x ∈ ts := fun x hx => h.kp.1.mem_iff.mp hx
  have cin := cyc_in hr sub
  have cl := cyc_len us
  have m1 : gMod (.int v2) (.int (ts.length : Int)) = some (.int (a : Int)) := by rw [gMod_int _ _ (by omega), ha]
  have m2 : gMod (.int v3) (.int ((ts.length : Int) - a)) = some (.int (v3 % ((ts.length : Int) - a))) := gMod_int _ _ (by omega)
  have sl1 : gSl (.lst (pl.map .str)) (some (a : Int)) (some ((a : Int) + (s : Int))) = some (.l (us.map .str)) := by
    rw [gSl_lst, cut_map, show (a : Int) + (s : Int) = ((a + s : Nat) : Int) by push_cast; rfl, cut_between, ← hr.eq]
  have rr : rngR 0 (s : Int) = .ok (rangeL 0 s) := rng_nat (by omega)
  have c1' := fun x6 x7 => oComp_map (l := lRange1 (eVar .B 9)) (vs := [12]) (g := gNm 12) (t := tYesF) (el := eTup (lCons (eIx (eVar .I 10) (eVar .B 12)) (lCons (eIx (eVar .I 10) (eBin gMod (eOfO (oBin gAdd (eVar .I 12) (eC (.int 1)))) (eVar .B 9))) lNil)))
    (ρ := e39b ns n ts pl ps x6 x7 (.val (.int (a : Int))) (.val (.int (s : Int))) (.own (.l (us.map .str))) .u) (fun k : Nat => .int (0 + (k : Int))) (fun k => tp (us.getD k [], us.getD ((k + 1) % us.length) [])) (List.range s) (by simp [e39b]) (by simp [e39b, rr, rangeL]) (fun k hk => by
      have hk := List.mem_range.mp hk
      have q1 : atI (us.map PV.str) (k : Int) = some (.str (us.getD k [])) := by rw [atI_map, atI_nat, List.getD_eq_getElem?_getD, List.getElem?_eq_getElem (by omega)]; rfl
      have q2 : atI (us.map PV.str) (((k + 1) % us.length : Nat) : Int) = some (.str (us.getD ((k + 1) % us.length) [])) := by
        have : (k + 1) % us.length < us.length := Nat.mod_lt _ (by omega)
        rw [atI_map, atI_nat, List.getD_eq_getElem?_getD, List.getElem?_eq_getElem this]; rfl
      have q3 : gMod (.int ((k : Int) + 1)) (.int (s : Int)) = some (.int (((k + 1) % us.length : Nat) : Int)) := by
        rw [gMod_int _ _ (by omega), ul]; push_cast; rfl
      generalize (((k + 1) % us.length : Nat) : Int) = z at q2 q3
      generalize us.getD ((k + 1) % us.length) [] = y2 at q2 ⊢
      generalize us.getD k [] = y1 at q1 ⊢
      generalize us.map PV.str = US at q1 q2 ⊢
      simp [e39b, q1, q2, q3, tp]) (le_line (by simp; omega))
  have ec : (List.range s).map (fun k => tp (us.getD k [], us.getD ((k + 1) % us.length) [])) = (cyc us).map tp := by
    rw [cyc, ul, List.map_map]; rfl
  rw [ec] at c1'
  have c1' := c1' x6 x7
  have ga : gAdd (.lst (ps.map tp)) (.lst ((cyc us).map tp)) = some (.l ((ps ++ cyc us).map tp)) := by
    rw [gAdd_lst _ _ (le_line (by have := h.pln; simp; omega))]; simp
  have gr : gRev (.lst ((ps ++ cyc us).map tp)) (.int (-1)) = some (.l (((ps ++ cyc us).reverse).map tp)) := by
    show some (OT.l ((ps ++ cyc us).map tp).reverse) = _
    rw [List.map_reverse]
  have in1 : inN ts (ps ++ cyc us) := fun q hq => (List.mem_append.mp hq).elim (h.inn q) (cin q)
  have in2 : inN ts (ps ++ cyc us).reverse := fun q hq => in1 q (List.mem_reverse.mp hq)
  have f1 := R4b (ns := ns) (n := n) h hr in1 (by have := h.pln; simp; omega) (fun q hq => List.mem_append_right _ hq) x6 x7 (.val (.int (a : Int))) (.val (.int (s : Int))) Q hQ
  have f2 := R4b (ns := ns) (n := n) h hr in2 (by have := h.pln; simp; omega) (fun q hq => List.mem_reverse.mpr (List.mem_append_right _ hq)) x6 x7 (.val (.int (a : Int))) (.val (.int (s : Int))) Q hQ
  simp only [e39b, ppP] at c1' f1 f2 ⊢
  generalize (ps ++ cyc us).reverse.map tp = A2 at gr f2
  generalize (ps ++ cyc us).map tp = A1 at ga gr f1
  generalize (cyc us).map tp = A0 at c1' ga
  generalize us.map PV.str = US at sl1 c1' f1 f2
  generalize hM : (ts.length : Int) = M at m1 m2 hs
  generalize v3 % (M - (a : Int)) = w3 at m2 hs
  simp [R__law_large_ones_5, e2, e3, e4, hM, m1, m2, hs, sl1, c1', ga, gr]
  split
  · rw [sat_nx]; exact f2
  · rw [sat_nx]; exact f1
theorem R7b (h : Bg c ts pl ps) (hv : ∀ i : Int, 0 ≤ i → i < 20 → ∃ v : Int, atI (n.map PV.int) i = some (.int v)) (Q : Po) (hQ : Q.rt (.fz (.bl true))) :
    sat (R__law_large_ones_7 (e39b ns n ts pl ps (.own (.T [.fz (.str (txt "order")), .l (pl.map .str)])) .u .u .u .u .u)) Q := by
  have tl := h.fl.len
  have c1 := h.c1
  have c2 := h.c2
  have pll := h.len
  have pn := h.pln
  have i1 : ∀ x6 : Fz.Slot, True := fun _ => trivial
  have o1 := order_yes ts pl ps (by omega) (by omega) h.kp.1 fun q hq => h.inn q hq
  have al : allLt pl ps = true := List.all_eq_true.mpr fun q hq => decide_eq_true (h.kp.2 q hq)
  rw [al] at o1
  have l1 := loop_strs ts pl ps (by omega)
  rw [no_loop h.kp (Rg.all (by omega)) h.nd] at l1
  have R6 : ∀ x7, sat (R__law_large_ones_6 (e39b ns n ts pl ps (.own (.T [.fz (.str (txt "order")), .l (pl.map .str)])) x7 .u .u .u .u)) Q := fun x7 => by
    have r5 := R5b (ns := ns) h hv (.own (.T [.fz (.str (txt "order")), .l (pl.map .str)])) x7 Q hQ
    simp only [e39b, ppP] at r5 ⊢
    simp [R__law_large_ones_6, o1, l1]
    exact r5
  have at1 : gIx (.tup [.str (txt "order"), .lst (pl.map .str)]) (.int 1) = some (.lst (pl.map .str)) := rfl
  have core : sat (loop (gNm 7) L__law_large_ones_1 (ps.map tp) (e39b ns n ts pl ps (.own (.T [.fz (.str (txt "order")), .l (pl.map .str)])) .u .u .u .u .u)) { nx := fun ρ => sat (R__law_large_ones_6 ρ) Q, ct := fun _ => False, bk := fun _ => False, rt := fun _ => False, ex := fun _ _ _ => False } := by
    refine sat_list (fun _ ρ => ∃ x7, ρ = e39b ns n ts pl ps (.own (.T [.fz (.str (txt "order")), .l (pl.map .str)])) x7 .u .u .u .u) ⟨_, rfl⟩ ?_ ?_
    · rintro d q r _ hd ⟨x7, rfl⟩
      have hq : q ∈ ps := by rw [hd]; simp
      rw [stp_of (ρ1 := e39b ns n ts pl ps (.own (.T [.fz (.str (txt "order")), .l (pl.map .str)])) (.val (tp q)) .u .u .u .u) (by simp [e39b, tp])]
      have g1 := gIndex_strs (h.kp.1.mem_iff.mpr (h.inn q hq).1)
      have g2 := gIndex_strs (h.kp.1.mem_iff.mpr (h.inn q hq).2)
      have lt := h.kp.2 q hq
      have b1 : ¬ ((pl.idxOf q.2 : Nat) : Int) ≤ (pl.idxOf q.1 : Nat) := by omega
      have fin : ∃ x7, e39b ns n ts pl ps (.own (.T [.fz (.str (txt "order")), .l (pl.map .str)])) (.val (tp q)) .u .u .u .u = e39b ns n ts pl ps (.own (.T [.fz (.str (txt "order")), .l (pl.map .str)])) x7 .u .u .u .u := ⟨_, rfl⟩
      simp only [e39b, ppP, tp] at fin ⊢
      have at0 : ∀ PL : List PV, gIx (.tup [.str (txt "order"), .lst PL]) (.int 1) = some (.lst PL) := fun _ => rfl
      generalize ((pl.idxOf q.1 : Nat) : Int) = z1 at g1 b1
      generalize ((pl.idxOf q.2 : Nat) : Int) = z2 at g2 b1
      generalize pl.map PV.str = PL at g1 g2 fin ⊢
      simp [L__law_large_ones_1, g1, g2, b1]
    · rintro _ ⟨x7, rfl⟩
      exact R6 x7
  simp only [e39b, ppP] at core ⊢
  simp [R__law_large_ones_7]
  exact core.mono (fun _ h => h) (fun _ h => h.elim) (fun _ h => h.elim) (fun _ h => h.elim) fun _ _ _ h => h.elim
end
theorem large_ok (ns : List Int) : g__law_large_ones [.rol (ns.map .int)] = .ok (.fz (.bl true)) := by
  obtain ⟨o, e, rfl⟩ : ∃ o, g__law_large_ones [.rol (ns.map .int)] = .ok o ∧ o = .fz (.bl true) := by
    refine run_ok _ rfl ?_
    obtain ⟨n, en, hn⟩ := numbers_ok ns 0 20 (by decide)
    push_cast at en
    have hv : ∀ i : Int, 0 ≤ i → i < 20 → ∃ v : Int, atI (n.map PV.int) i = some (.int v) := fun i a b => by
      obtain ⟨v, e, _⟩ := low_get hn a b
      exact ⟨v, e⟩
    obtain ⟨v0, e0, a0, b0⟩ := low_get hn (i := 0) (by omega) (by omega)
    obtain ⟨v1, e1, a1, b1⟩ := low_get hn (i := 1) (by omega) (by omega)
    obtain ⟨c, hc, c1, c2⟩ : ∃ c : Nat, 13 + v0 % 28 = c ∧ 13 ≤ c ∧ c ≤ 40 := ⟨(13 + v0 % 28).toNat, by omega, by omega, by omega⟩
    obtain ⟨ts, et, ht⟩ := fields_ok ns 1 c (by omega)
    push_cast at et
    obtain ⟨m, em⟩ : ∃ m : Nat, v1 % 101 = m := ⟨(v1 % 101).toNat, by omega⟩
    have tl := ht.len
    obtain ⟨ps, ep, hp, pl', hup⟩ := pairs_ok ns 2 m 0 ts (by omega) (by omega) ht.nd (by decide) (by omega)
    push_cast at ep
    obtain ⟨r, hr⟩ := hup rfl
    obtain ⟨pl, ef, hpl, hst⟩ := first_ok ts ps ht.nd (by omega) (by omega)
    have hB : Bg c ts pl ps := ⟨ht, c1, c2, hp, by omega, hpl.keeps ht.nd (hpl.all hst hp hr) hp, hpl, hst⟩
    have to := told_order hB
    have pll := hB.len
    have q1 := ne_tp (txt "order") pl
    have pn := pp_ne ts ps
    have R7 := R7b (ns := ns) (n := n) hB hv (poR fun o => o = .fz (.bl true)) rfl
    simp only [e39b, ppP] at R7 pn
    generalize hPL : pl.map PV.str = PL at to q1 R7
    have PLl : PL.length = ts.length := by rw [← hPL]; simp [pll]
    simp [b__law_large_ones, slotsOf, slotOf, List.replicate, en, e0, hc, et, e1, em, ep, ef, hPL, to, R__law_large_ones_8, PLl, q1, pn]
    exact R7
  exact e
theorem law_true (ns : List Int) : g_law [.rol (ns.map .int)] = .ok (.fz (.bl true)) := by
  refine runN _ _ _ _ rfl ?_
  simp [b_law, slotsOf, slotOf, List.replicate, small_ok' ns, large_ok ns]
end Lw
end
theorem PySem.Challenge.cw_formsforall_k39_orders_or_loops_holds : PySem.Challenge.rw_formsforall_k39_orders_or_loops.Holds := by
  exact Lw.ends fun ns _ => Lw.law_true ns
