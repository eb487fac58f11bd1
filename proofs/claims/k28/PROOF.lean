import PyProof.Rows.All
import Wide.All
import OpenK.AllK
import Wide.FinOn
import HandS.ForMost
import HandS.ForExc
import HandS.HeadHook1
import HandS.Deep
import HandS.IsInst
import KE.KRevSl
import HandS.Defaults
import HandS.HeadEnd
import HandS.HeadHook2
import HandS.Head2
import HandS.Small
import HandS.Iter
import HandS.RaiseMore
import HandS.Style
import HandS.DictComp
import HandS.More
import HandS.SortInts
import KE.DataCmp
import KE.SortData
import PyProof.Rows.ChunkLeaf
import KE.DataMinMax
import PyProof.P3Eq
import KE.DatumOrd
import HandS.Rev
import KE.SortKeyHeap
import PyProof.Rows.SortWalk
import HandS.SortKw
import PyProof.RulesMatch
import PyProof.RulesMatchSeq
import PyProof.Rows.MatchSeqLen
import HandS.ExcInit
import HandS.ExcOwn
import HandS.ExcField
import HandS.TryOnly
import KE.KExcIs
import PySem.Challenge.RW_formsforall_k28_judge_of_closed_lists
set_option Elab.async false
set_option linter.all false
set_option maxRecDepth 100000
section
/-! FwA: pure values, how the abstract heap bears them. -/
namespace Fz
open PySem PySem.Spec PyProof.Rows L2

/-- a sign: a code point -/
abbrev Ch := Fin 1114112
/-- a text: its signs -/
abbrev Tx := List Ch
def mkS (x : Tx) : Str := ⟨(x.map Fin.val).toArray⟩
theorem mkS_cps (x : Tx) : (mkS x).cps.toList = x.map Fin.val := by simp [mkS]
theorem val_inj : ∀ {x y : Tx}, x.map Fin.val = y.map Fin.val → x = y
  | [], [], _ => rfl
  | [], _ :: _, h => by simp at h
  | _ :: _, [], h => by simp at h
  | a :: x, b :: y, h => by
    simp only [List.map_cons, List.cons.injEq] at h
    rw [Fin.ext h.1, val_inj h.2]
theorem mkS_inj {x y : Tx} (h : mkS x = mkS y) : x = y := by
  have := congrArg (fun s : Str => s.cps.toList) h
  simp only [mkS_cps] at this
  exact val_inj this
theorem mkS_iff {x y : Tx} : mkS x = mkS y ↔ x = y := ⟨mkS_inj, fun h => by rw [h]⟩
theorem mkS_length (x : Tx) : (mkS x).length = x.length := by simp [mkS, Str.length]
theorem mkS_append (x y : Tx) : mkS x ++ mkS y = mkS (x ++ y) := by
  show Str.append (mkS x) (mkS y) = _
  simp [Str.append, mkS]
theorem mkS_sign (c : Ch) : (⟨#[c.val]⟩ : Str) = mkS [c] := by simp [mkS]
theorem mkS_ok (x : Tx) : PyData.strOk (mkS x) = true := by
  simp only [PyData.strOk, mkS, List.all_toArray, List.all_map, List.all_eq_true, Function.comp, decide_eq_true_eq]
  intro c _
  exact c.isLt
abbrev K1 := Int ⊕ Tx
def k1 : K1 → Key
  | .inl i => .inl i
  | .inr x => .inr (mkS x)
theorem k1_inj : ∀ {a b : K1}, k1 a = k1 b → a = b
  | .inl i, .inl j, h => by simp only [k1, Sum.inl.injEq] at h; rw [h]
  | .inr x, .inr y, h => by simp only [k1, Sum.inr.injEq] at h; rw [mkS_inj h]
  | .inl i, .inr y, h => by simp [k1] at h
  | .inr x, .inl j, h => by simp [k1] at h

inductive PV where
  | non | bl (b : Bool) | int (i : Int) | str (x : Tx)
  | tup (xs : List PV) | lst (xs : List PV)
  /-- a list that is only read: the script, a list of the top -/
  | rol (xs : List PV)
  | dic (kvs : List (K1 × PV))
  | dit (kvs : List (List K1 × PV))
  | ins (c : String) (fs : List (String × PV))
  deriving Inhabited

/-- a list of the text's top: it is never written -/
def KL (K : PySem.W.Frag) (a : Addr) (xs : List V) : Prop :=
  ∃ (o : Obj) (its : Array Value) (n : Nat), K.lookup a = some o ∧ o.cls = .type "list" ∧ o.dict = none ∧ o.data = .seq its n ∧ its.size ≤ sizeLine ∧ Vals xs its.toList
def RoAt (K : PySem.W.Frag) (H : Hp) (a : Addr) (xs : List V) : Prop := (∃ o, H a = some (.frz o (.lst xs))) ∨ KL K a xs
theorem RoAt.sq {K : PySem.W.Frag} {H : Hp} {a : Addr} {xs : List V} (h : RoAt K H a xs) : SqL K H a xs := h.elim (fun q => .inl (.inr q)) .inr
section
variable (K : PySem.W.Frag) (A : Addr → Prop) (H : Hp)
mutual
def Rep : PV → V → Prop
  | .non, v => v = .non
  | .bl b, v => v = .bl b
  | .int i, v => v = .int i
  | .str x, v => v = .str (mkS x)
  | .tup ps, v => ∃ a xs, v = .ref a ∧ H a = some (.tup xs) ∧ Reps ps xs
  | .lst ps, v => ∃ a xs, v = .ref a ∧ A a ∧ H a = some (.lst xs) ∧ Reps ps xs
  | .rol ps, v => ∃ a xs, v = .ref a ∧ RoAt K H a xs ∧ Reps ps xs
  | .dic kvs, v => ∃ a ks, v = .ref a ∧ A a ∧ Rd H a (.dK ks) ∧ RepK kvs ks
  | .dit kvs, v => ∃ a ks, v = .ref a ∧ A a ∧ Rd H a (.dT ks) ∧ RepT kvs ks
  | .ins c fs, v => ∃ a dx xs, v = .ref a ∧ A a ∧ H a = some (.ins (He.ga K (c : Str)) dx xs) ∧ RepF fs xs
def Reps : List PV → List V → Prop
  | [], xs => xs = []
  | p :: ps, xs => ∃ x r, xs = x :: r ∧ Rep p x ∧ Reps ps r
def RepK : List (K1 × PV) → List (Key × V) → Prop
  | [], ks => ks = []
  | (k, p) :: ps, ks => ∃ x r, ks = (k1 k, x) :: r ∧ Rep p x ∧ RepK ps r
def RepT : List (List K1 × PV) → List (List Key × V) → Prop
  | [], ks => ks = []
  | (k, p) :: ps, ks => ∃ x r, ks = (k.map k1, x) :: r ∧ Rep p x ∧ RepT ps r
def RepF : List (String × PV) → List (Str × V) → Prop
  | [], xs => xs = []
  | (f, p) :: ps, xs => ∃ x r, xs = ((f : Str), x) :: r ∧ Rep p x ∧ RepF ps r
end
end

/-- what carries a value over to another heap -/
structure Carry (A B : Addr → Prop) (H H' : Hp) : Prop where
  rdK : ∀ a u, A a → Rd H a (.dK u) → B a ∧ Rd H' a (.dK u)
  rdT : ∀ a u, A a → Rd H a (.dT u) → B a ∧ Rd H' a (.dT u)
  lst : ∀ a xs, A a → H a = some (.lst xs) → B a ∧ H' a = some (.lst xs)
  ins : ∀ a c d xs, A a → H a = some (.ins c d xs) → B a ∧ H' a = some (.ins c d xs)
  xds : ∀ a xs, A a → H a = some (.xd xs) → B a ∧ H' a = some (.xd xs)
  tup : ∀ a xs, H a = some (.tup xs) → H' a = some (.tup xs)
  scr : ∀ a o xs, H a = some (.frz o (.lst xs)) → H' a = some (.frz o (.lst xs))
theorem Carry.mk' {A B : Addr → Prop} {H H' : Hp} (sub : ∀ a o, A a → H a = some o → B a) (keep : ∀ a o, A a → H a = some o → H' a = some o) (tups : ∀ a xs, H a = some (.tup xs) → H' a = some (.tup xs))
    (frz : ∀ a o u, H a = some (.frz o u) → H' a = some (.frz o u)) : Carry A B H H' where
  rdK := fun a u ha h => h.elim (fun h => ⟨sub _ _ ha h, .inl (keep _ _ ha h)⟩) fun ⟨o, h⟩ => ⟨sub _ _ ha h, .inr ⟨o, keep _ _ ha h⟩⟩
  rdT := fun a u ha h => h.elim (fun h => ⟨sub _ _ ha h, .inl (keep _ _ ha h)⟩) fun ⟨o, h⟩ => ⟨sub _ _ ha h, .inr ⟨o, keep _ _ ha h⟩⟩
  lst := fun a xs ha h => ⟨sub _ _ ha h, keep _ _ ha h⟩
  ins := fun a c d xs ha h => ⟨sub _ _ ha h, keep _ _ ha h⟩
  xds := fun a xs ha h => ⟨sub _ _ ha h, keep _ _ ha h⟩
  tup := tups
  scr := fun a o xs h => frz _ _ _ h
theorem Carry.refl {A B : Addr → Prop} {H : Hp} (sub : ∀ a o, A a → H a = some o → B a) : Carry A B H H := Carry.mk' sub (fun _ _ _ q => q) (fun _ _ q => q) fun _ _ _ q => q
theorem Carry.ro {K : PySem.W.Frag} {A B : Addr → Prop} {H H' : Hp} (c : Carry A B H H') {a : Addr} {xs : List V} (h : RoAt K H a xs) : RoAt K H' a xs := h.elim (fun ⟨o, q⟩ => .inl ⟨o, c.scr _ _ _ q⟩) .inr
section
variable {K : PySem.W.Frag} {A B : Addr → Prop} {H H' : Hp}
mutual
theorem Rep.carry (c : Carry A B H H') : ∀ {p : PV} {v : V}, Rep K A H p v → Rep K B H' p v
  | .non, _, h => h
  | .bl _, _, h => h
  | .int _, _, h => h
  | .str _, _, h => h
  | .tup ps, _, h => by
    obtain ⟨a, xs, e, hs, r⟩ := h
    exact ⟨a, xs, e, c.tup _ _ hs, Reps.carry c r⟩
  | .lst ps, _, h => by
    obtain ⟨a, xs, e, ha, hs, r⟩ := h
    exact ⟨a, xs, e, (c.lst _ _ ha hs).1, (c.lst _ _ ha hs).2, Reps.carry c r⟩
  | .rol ps, _, h => by
    obtain ⟨a, xs, e, hs, r⟩ := h
    exact ⟨a, xs, e, c.ro hs, Reps.carry c r⟩
  | .dic kvs, _, h => by
    obtain ⟨a, xs, e, ha, hs, r⟩ := h
    exact ⟨a, xs, e, (c.rdK _ _ ha hs).1, (c.rdK _ _ ha hs).2, RepK.carry c r⟩
  | .dit kvs, _, h => by
    obtain ⟨a, xs, e, ha, hs, r⟩ := h
    exact ⟨a, xs, e, (c.rdT _ _ ha hs).1, (c.rdT _ _ ha hs).2, RepT.carry c r⟩
  | .ins cc fs, _, h => by
    obtain ⟨a, dx, xs, e, ha, hs, r⟩ := h
    exact ⟨a, dx, xs, e, (c.ins _ _ _ _ ha hs).1, (c.ins _ _ _ _ ha hs).2, RepF.carry c r⟩
theorem Reps.carry (c : Carry A B H H') : ∀ {ps : List PV} {vs : List V}, Reps K A H ps vs → Reps K B H' ps vs
  | [], _, h => h
  | p :: ps, _, h => by
    obtain ⟨x, r, e, h1, h2⟩ := h
    exact ⟨x, r, e, Rep.carry c h1, Reps.carry c h2⟩
theorem RepK.carry (c : Carry A B H H') : ∀ {ps : List (K1 × PV)} {vs : List (Key × V)}, RepK K A H ps vs → RepK K B H' ps vs
  | [], _, h => h
  | (k, p) :: ps, _, h => by
    obtain ⟨x, r, e, h1, h2⟩ := h
    exact ⟨x, r, e, Rep.carry c h1, RepK.carry c h2⟩
theorem RepT.carry (c : Carry A B H H') : ∀ {ps : List (List K1 × PV)} {vs : List (List Key × V)}, RepT K A H ps vs → RepT K B H' ps vs
  | [], _, h => h
  | (k, p) :: ps, _, h => by
    obtain ⟨x, r, e, h1, h2⟩ := h
    exact ⟨x, r, e, Rep.carry c h1, RepT.carry c h2⟩
theorem RepF.carry (c : Carry A B H H') : ∀ {ps : List (String × PV)} {vs : List (Str × V)}, RepF K A H ps vs → RepF K B H' ps vs
  | [], _, h => h
  | (k, p) :: ps, _, h => by
    obtain ⟨x, r, e, h1, h2⟩ := h
    exact ⟨x, r, e, Rep.carry c h1, RepF.carry c h2⟩
end
theorem Carry.same (s : Same H H') (sub : ∀ a, A a → B a) : Carry A B H H' := Carry.mk' (fun a _ q _ => sub a q) (fun a o _ h => s a o h) (fun a xs h => s a _ h) fun a o u h => s a _ h
theorem Rep.same {p : PV} {v : V} (s : Same H H') (h : Rep K A H p v) : Rep K A H' p v := Rep.carry (Carry.same s fun _ q => q) h
theorem Reps.same {p : List PV} {v : List V} (s : Same H H') (h : Reps K A H p v) : Reps K A H' p v := Reps.carry (Carry.same s fun _ q => q) h
theorem Rep.any {p : PV} {v : V} (h : Rep K A H p v) : Rep K (fun _ => True) H p v := Rep.carry (Carry.refl fun _ _ _ _ => trivial) h
theorem Rep.sub {p : PV} {v : V} (s : ∀ a, A a → B a) (h : Rep K A H p v) : Rep K B H p v := Rep.carry (Carry.refl fun a _ q _ => s a q) h
theorem Reps.sub {p : List PV} {v : List V} (s : ∀ a, A a → B a) (h : Reps K A H p v) : Reps K B H p v := Reps.carry (Carry.refl fun a _ q _ => s a q) h
end

/-! nothing in it can be changed -/
mutual
def immut : PV → Bool
  | .non => true | .bl _ => true | .int _ => true | .str _ => true
  | .tup ps => immuts ps
  | .rol ps => immuts ps
  | .lst _ => false | .dic _ => false | .dit _ => false | .ins _ _ => false
def immuts : List PV → Bool
  | [] => true
  | p :: ps => immut p && immuts ps
end
section
variable {K : PySem.W.Frag} {A B : Addr → Prop} {H : Hp}
mutual
theorem Rep.immut : ∀ {p : PV} {v : V}, Fz.immut p = true → Rep K A H p v → Rep K B H p v
  | .non, _, _, h => h
  | .bl _, _, _, h => h
  | .int _, _, _, h => h
  | .str _, _, _, h => h
  | .tup ps, _, i, h => by
    obtain ⟨a, xs, e, hs, r⟩ := h
    exact ⟨a, xs, e, hs, Reps.immut (by simpa [Fz.immut] using i) r⟩
  | .rol ps, _, i, h => by
    obtain ⟨a, xs, e, hs, r⟩ := h
    exact ⟨a, xs, e, hs, Reps.immut (by simpa [Fz.immut] using i) r⟩
  | .lst _, _, i, _ => by simp [Fz.immut] at i
  | .dic _, _, i, _ => by simp [Fz.immut] at i
  | .dit _, _, i, _ => by simp [Fz.immut] at i
  | .ins _ _, _, i, _ => by simp [Fz.immut] at i
theorem Reps.immut : ∀ {ps : List PV} {vs : List V}, immuts ps = true → Reps K A H ps vs → Reps K B H ps vs
  | [], _, _, h => h
  | p :: ps, _, i, h => by
    obtain ⟨x, r, e, h1, h2⟩ := h
    simp only [immuts, Bool.and_eq_true] at i
    exact ⟨x, r, e, Rep.immut i.1 h1, Reps.immut i.2 h2⟩
end
end

/-! ### lists of values -/
section
variable {K : PySem.W.Frag} {A : Addr → Prop} {H : Hp}
theorem Reps.length : ∀ {ps : List PV} {vs : List V}, Reps K A H ps vs → vs.length = ps.length
  | [], _, h => by rw [show _ = [] from h]; rfl
  | p :: ps, _, h => by
    obtain ⟨x, r, rfl, h1, h2⟩ := h
    simp [Reps.length h2]
theorem Reps.get : ∀ {ps : List PV} {vs : List V} {i : Nat} {p : PV}, Reps K A H ps vs → ps[i]? = some p → ∃ v, vs[i]? = some v ∧ Rep K A H p v
  | [], _, _, _, _, e => by simp at e
  | q :: ps, _, 0, p, h, e => by
    obtain ⟨x, r, rfl, h1, h2⟩ := h
    simp at e; subst e
    exact ⟨x, rfl, h1⟩
  | q :: ps, _, i + 1, p, h, e => by
    obtain ⟨x, r, rfl, h1, h2⟩ := h
    obtain ⟨v, e1, e2⟩ := Reps.get (i := i) h2 (by simpa using e)
    exact ⟨v, by simpa using e1, e2⟩
theorem Reps.getV : ∀ {ps : List PV} {vs : List V} {i : Nat} {v : V}, Reps K A H ps vs → vs[i]? = some v → ∃ p, ps[i]? = some p ∧ Rep K A H p v
  | [], _, _, _, h, e => by rw [show _ = [] from h] at e; simp at e
  | q :: ps, _, 0, p, h, e => by
    obtain ⟨x, r, rfl, h1, h2⟩ := h
    simp at e; subst e
    exact ⟨q, rfl, h1⟩
  | q :: ps, _, i + 1, p, h, e => by
    obtain ⟨x, r, rfl, h1, h2⟩ := h
    obtain ⟨v, e1, e2⟩ := Reps.getV (i := i) h2 (by simpa using e)
    exact ⟨v, by simpa using e1, e2⟩
theorem Reps.append : ∀ {ps qs : List PV} {vs ws : List V}, Reps K A H ps vs → Reps K A H qs ws → Reps K A H (ps ++ qs) (vs ++ ws)
  | [], _, _, _, h, h' => by rw [show _ = [] from h]; exact h'
  | p :: ps, _, _, _, h, h' => by
    obtain ⟨x, r, rfl, h1, h2⟩ := h
    exact ⟨x, _, rfl, h1, Reps.append h2 h'⟩
theorem Reps.nil : Reps K A H [] [] := rfl
theorem Reps.cons {p : PV} {v : V} {ps : List PV} {vs : List V} (h : Rep K A H p v) (t : Reps K A H ps vs) : Reps K A H (p :: ps) (v :: vs) := ⟨v, vs, rfl, h, t⟩
theorem Reps.one {p : PV} {v : V} (h : Rep K A H p v) : Reps K A H [p] [v] := ⟨v, [], rfl, h, rfl⟩
theorem Reps.take : ∀ {ps : List PV} {vs : List V} (n : Nat), Reps K A H ps vs → Reps K A H (ps.take n) (vs.take n)
  | [], _, n, h => by rw [show _ = [] from h]; simp [Reps]
  | p :: ps, _, 0, h => by simp [Reps]
  | p :: ps, _, n + 1, h => by
    obtain ⟨x, r, rfl, h1, h2⟩ := h
    exact ⟨x, _, rfl, h1, Reps.take n h2⟩
theorem Reps.drop : ∀ {ps : List PV} {vs : List V} (n : Nat), Reps K A H ps vs → Reps K A H (ps.drop n) (vs.drop n)
  | [], _, n, h => by rw [show _ = [] from h]; simp [Reps]
  | p :: ps, _, 0, h => by simpa using h
  | p :: ps, _, n + 1, h => by
    obtain ⟨x, r, rfl, h1, h2⟩ := h
    simpa using Reps.drop n h2
theorem Reps.set : ∀ {ps : List PV} {vs : List V} {p : PV} {v : V} (i : Nat), Reps K A H ps vs → Rep K A H p v → Reps K A H (ps.set i p) (vs.set i v)
  | [], _, _, _, i, h, _ => by rw [show _ = [] from h]; simp [Reps]
  | q :: ps, _, p, v, 0, h, h' => by
    obtain ⟨x, r, rfl, h1, h2⟩ := h
    exact ⟨v, _, rfl, h', h2⟩
  | q :: ps, _, p, v, i + 1, h, h' => by
    obtain ⟨x, r, rfl, h1, h2⟩ := h
    exact ⟨x, _, rfl, h1, Reps.set i h2 h'⟩
theorem Reps.reverse : ∀ {ps : List PV} {vs : List V}, Reps K A H ps vs → Reps K A H ps.reverse vs.reverse
  | [], _, h => by rw [show _ = [] from h]; simp [Reps]
  | p :: ps, _, h => by
    obtain ⟨x, r, rfl, h1, h2⟩ := h
    simp only [List.reverse_cons]
    exact Reps.append (Reps.reverse h2) (Reps.one h1)
theorem Reps.eraseIdx : ∀ {ps : List PV} {vs : List V} (i : Nat), Reps K A H ps vs → Reps K A H (ps.eraseIdx i) (vs.eraseIdx i)
  | [], _, i, h => by rw [show _ = [] from h]; simp [Reps]
  | p :: ps, _, 0, h => by
    obtain ⟨x, r, rfl, h1, h2⟩ := h
    simpa using h2
  | p :: ps, _, i + 1, h => by
    obtain ⟨x, r, rfl, h1, h2⟩ := h
    exact ⟨x, _, rfl, h1, Reps.eraseIdx i h2⟩
theorem Reps.ints : ∀ {ns : List Int} {vs : List V}, Reps K A H (ns.map .int) vs → vs = ns.map V.int
  | [], _, h => h
  | n :: ns, _, h => by
    obtain ⟨x, r, rfl, h1, h2⟩ := h
    rw [show x = V.int n from h1, Reps.ints h2]; rfl
theorem Reps.of_ints : ∀ (ns : List Int), Reps K A H (ns.map .int) (ns.map V.int)
  | [] => rfl
  | n :: ns => ⟨_, _, rfl, rfl, Reps.of_ints ns⟩
theorem Reps.strs : ∀ {ns : List Tx} {vs : List V}, Reps K A H (ns.map .str) vs → vs = ns.map fun x => V.str (mkS x)
  | [], _, h => h
  | n :: ns, _, h => by
    obtain ⟨x, r, rfl, h1, h2⟩ := h
    rw [show x = V.str (mkS n) from h1, Reps.strs h2]; rfl
theorem Reps.of_strs : ∀ (ns : List Tx), Reps K A H (ns.map .str) (ns.map fun x => V.str (mkS x))
  | [] => rfl
  | n :: ns => ⟨_, _, rfl, rfl, Reps.of_strs ns⟩
end
end Fz
end
section
/-! FwB: results, slots, the environment's representation, the judgements. -/
namespace Fz
open PySem PySem.Spec PyProof.Rows L2

/-! ### results -/
inductive Res (α : Type) where
  | ok (a : α)
  | exc (c : String) (fs : Option (List (String × PV)))
  | bad
def Res.bind {α β : Type} (r : Res α) (k : α → Res β) : Res β := match r with
  | .ok a => k a
  | .exc c fs => .exc c fs
  | .bad => .bad
instance : Monad Res where
  pure := .ok
  bind := Res.bind
@[simp] theorem bind_ok {α β : Type} (a : α) (k : α → Res β) : (Res.ok a >>= k) = k a := (rfl)
@[simp] theorem bind_exc {α β : Type} (c : String) (fs : Option (List (String × PV))) (k : α → Res β) : ((Res.exc c fs : Res α) >>= k) = .exc c fs := (rfl)
@[simp] theorem bind_bad {α β : Type} (k : α → Res β) : ((Res.bad : Res α) >>= k) = .bad := (rfl)
@[simp] theorem pure_ok {α : Type} (a : α) : (pure a : Res α) = .ok a := (rfl)
abbrev XF := String → Option (List (String × PV)) → Prop
def Out {α : Type} (r : Res α) (P : α → Prop) (E : XF) : Prop := match r with
  | .ok a => P a
  | .exc c fs => E c fs
  | .bad => False
theorem Out.bind {α β : Type} {r : Res α} {k : α → Res β} {P : β → Prop} {E : XF} (h : Out (r >>= k) P E) : Out r (fun a => Out (k a) P E) E := by
  cases r with
  | ok a => exact h
  | exc c fs => exact h
  | bad => exact h
theorem Out.mono {α : Type} {r : Res α} {P P' : α → Prop} {E E' : XF} (h : Out r P E) (hp : ∀ a, P a → P' a) (he : ∀ c fs, E c fs → E' c fs) : Out r P' E' := by
  cases r with
  | ok a => exact hp _ h
  | exc c fs => exact he _ _ h
  | bad => exact h
theorem Out.and {α : Type} {r : Res α} {P : α → Prop} {E : XF} (h : Out r P E) : Out r (fun a => r = .ok a ∧ P a) E := by
  cases r with
  | ok a => exact ⟨rfl, h⟩
  | exc c fs => exact h
  | bad => exact h

/-! ### owned things, slots -/
/-- what one name alone holds: its items are common values; or a common value -/
inductive OT where
  | fz (p : PV) | l (ps : List PV) | d (kvs : List (K1 × PV)) | dt (kvs : List (List K1 × PV)) | ins (c : String) (fs : List (String × PV))
  /-- a tuple, a list, a dict, an instance with own things in it -/
  | T (ts : List OT) | L (ts : List OT) | D (kvs : List (K1 × OT)) | I (c : String) (fs : List (String × OT))
  /-- what stands at an address; what a def hands back, and what it has changed -/
  | P (a : Addr) (t : OT) | M (o : OT) (ts : List OT)
  deriving Inhabited
mutual
def OT.pv : OT → PV
  | .fz p => p
  | .l ps => .lst ps
  | .d kvs => .dic kvs
  | .dt kvs => .dit kvs
  | .ins c fs => .ins c fs
  | .T ts => .tup (OT.pvs ts)
  | .L ts => .lst (OT.pvs ts)
  | .D kvs => .dic (OT.pvK kvs)
  | .I c fs => .ins c (OT.pvF fs)
  | .P _ t => t.pv
  | .M o _ => o.pv
def OT.pvs : List OT → List PV
  | [] => []
  | t :: ts => t.pv :: OT.pvs ts
def OT.pvK : List (K1 × OT) → List (K1 × PV)
  | [] => []
  | (k, t) :: ts => (k, t.pv) :: OT.pvK ts
def OT.pvF : List (String × OT) → List (String × PV)
  | [] => []
  | (k, t) :: ts => (k, t.pv) :: OT.pvF ts
end
inductive Slot where
  | u | val (p : PV) | bor (p : PV) | own (t : OT)
  /-- the exception that a suite holds: where it is, its dict, its fields -/
  | exn (a : Addr) (od : Option Addr) (l : List (String × PV))
  deriving Inhabited
abbrev Env := List Slot
abbrev Fp := Nat → List Addr
def InF (fp : Fp) (a : Addr) : Prop := ∃ i, a ∈ fp i
def put (fp : Fp) (i : Nat) (F : List Addr) : Fp := fun j => if j = i then F else fp j
theorem put_same {fp : Fp} {i : Nat} {F : List Addr} : put fp i F i = F := if_pos rfl
theorem put_ne {fp : Fp} {i j : Nat} {F : List Addr} (h : j ≠ i) : put fp i F j = fp j := if_neg h

section
variable (K : PySem.W.Frag)
mutual
def OTRep (A : Addr → Prop) (H : Hp) : OT → V → List Addr → Prop
  | .fz p, v, F => F = [] ∧ Rep K A H p v
  | .l ps, v, F => ∃ a xs, v = .ref a ∧ F = [a] ∧ H a = some (.lst xs) ∧ Reps K A H ps xs
  | .d kvs, v, F => ∃ a xs, v = .ref a ∧ F = [a] ∧ H a = some (.dK xs) ∧ RepK K A H kvs xs
  | .dt kvs, v, F => ∃ a xs, v = .ref a ∧ F = [a] ∧ H a = some (.dT xs) ∧ RepT K A H kvs xs
  | .ins c fs, v, F => ∃ a dx xs, v = .ref a ∧ F = [a] ∧ H a = some (.ins (He.ga K (c : Str)) dx xs) ∧ RepF K A H fs xs
  | .T ts, v, F => ∃ a xs, v = .ref a ∧ H a = some (.tup xs) ∧ OTReps A H ts xs F
  | .L ts, v, F => ∃ a xs F', v = .ref a ∧ F = a :: F' ∧ H a = some (.lst xs) ∧ OTReps A H ts xs F'
  | .D kvs, v, F => (kvs.map Prod.fst).Nodup ∧ ∃ a xs F', v = .ref a ∧ F = a :: F' ∧ H a = some (.dK xs) ∧ OTRepK A H kvs xs F'
  | .I c fs, v, F => ∃ a dx xs F', v = .ref a ∧ F = a :: F' ∧ H a = some (.ins (He.ga K (c : Str)) dx xs) ∧ OTRepF A H fs xs F'
  | .P b t, v, F => v = .ref b ∧ OTRep A H t v F
  | .M o ts, v, F => ∃ xs F1 F2, F = F1 ++ F2 ∧ OTRep A H o v F1 ∧ OTReps A H ts xs F2
def OTReps (A : Addr → Prop) (H : Hp) : List OT → List V → List Addr → Prop
  | [], xs, F => xs = [] ∧ F = []
  | t :: ts, xs, F => ∃ x r F1 F2, xs = x :: r ∧ F = F1 ++ F2 ∧ OTRep A H t x F1 ∧ OTReps A H ts r F2
def OTRepK (A : Addr → Prop) (H : Hp) : List (K1 × OT) → List (Key × V) → List Addr → Prop
  | [], xs, F => xs = [] ∧ F = []
  | (k, t) :: ts, xs, F => ∃ x r F1 F2, xs = (k1 k, x) :: r ∧ F = F1 ++ F2 ∧ OTRep A H t x F1 ∧ OTRepK A H ts r F2
def OTRepF (A : Addr → Prop) (H : Hp) : List (String × OT) → List (Str × V) → List Addr → Prop
  | [], xs, F => xs = [] ∧ F = []
  | (k, t) :: ts, xs, F => ∃ x r F1 F2, xs = ((k : Str), x) :: r ∧ F = F1 ++ F2 ∧ OTRep A H t x F1 ∧ OTRepF A H ts r F2
end
/-- its dict, its fields -/
def XSl (B : Addr → Prop) (H : Hp) (od : Option Addr) (l : List (String × PV)) : Prop := ∀ d, od = some d → ∃ xs, B d ∧ H d = some (.xd xs) ∧ RepF K (fun _ => False) H l xs
def SlotOk (A B : Addr → Prop) (H : Hp) (s : Slot) (so : Option (Option V)) (F : List Addr) : Prop := match s with
  | .u => F = []
  | .val p => F = [] ∧ ∃ v, so = some (some v) ∧ Rep K A H p v
  | .bor p => F = [] ∧ ∃ v, so = some (some v) ∧ Rep K B H p v
  | .own t => ∃ v, so = some (some v) ∧ OTRep K A H t v F
  | .exn a od l => F = [] ∧ so = some (some (.ref a)) ∧ XSl K B H od l
end
theorem XSl.carry {K : PySem.W.Frag} {B B' : Addr → Prop} {H H' : Hp} {od : Option Addr} {l : List (String × PV)} (c : Carry B B' H H') (h : XSl K B H od l) : XSl K B' H' od l := fun d e => by
  obtain ⟨xs, b, q, r⟩ := h d e
  have c2 : Carry (fun _ => False) (fun _ => False) H H' := ⟨fun _ _ z => z.elim, fun _ _ z => z.elim, fun _ _ z => z.elim, fun _ _ _ _ z => z.elim, fun _ _ z => z.elim, c.tup, c.scr⟩
  exact ⟨xs, (c.xds _ _ b q).1, (c.xds _ _ b q).2, RepF.carry c2 r⟩
/-- may be written -/
def Wr : HO → Prop
  | .lst _ => True | .dK _ => True | .dT _ => True | .ins _ _ _ => True | _ => False
section
variable {K : PySem.W.Frag} {A B A' : Addr → Prop} {H H' : Hp}
mutual
theorem OTRep.live : ∀ {t : OT} {v : V} {F : List Addr}, OTRep K A H t v F → ∀ a ∈ F, ∃ o, H a = some o ∧ Wr o
  | .fz p, _, _, h, a, ha => by rw [h.1] at ha; cases ha
  | .l ps, _, _, h, a, ha => by obtain ⟨b, xs, _, rfl, hb, _⟩ := h; rw [List.mem_singleton.mp ha]; exact ⟨_, hb, trivial⟩
  | .d ps, _, _, h, a, ha => by obtain ⟨b, xs, _, rfl, hb, _⟩ := h; rw [List.mem_singleton.mp ha]; exact ⟨_, hb, trivial⟩
  | .dt ps, _, _, h, a, ha => by obtain ⟨b, xs, _, rfl, hb, _⟩ := h; rw [List.mem_singleton.mp ha]; exact ⟨_, hb, trivial⟩
  | .ins c fs, _, _, h, a, ha => by obtain ⟨b, dx, xs, _, rfl, hb, _⟩ := h; rw [List.mem_singleton.mp ha]; exact ⟨_, hb, trivial⟩
  | .T ts, _, _, h, a, ha => by obtain ⟨b, xs, _, hb, r⟩ := h; exact OTReps.live r a ha
  | .L ts, _, _, h, a, ha => by
    obtain ⟨b, xs, F', _, rfl, hb, r⟩ := h
    rcases List.mem_cons.mp ha with rfl | ha
    · exact ⟨_, hb, trivial⟩
    · exact OTReps.live r a ha
  | .D ts, _, _, h, a, ha => by
    obtain ⟨_, b, xs, F', _, rfl, hb, r⟩ := h
    rcases List.mem_cons.mp ha with rfl | ha
    · exact ⟨_, hb, trivial⟩
    · exact OTRepK.live r a ha
  | .I c ts, _, _, h, a, ha => by
    obtain ⟨b, dx, xs, F', _, rfl, hb, r⟩ := h
    rcases List.mem_cons.mp ha with rfl | ha
    · exact ⟨_, hb, trivial⟩
    · exact OTRepF.live r a ha
  | .P b t, _, _, h, a, ha => OTRep.live h.2 a ha
  | .M o ts, _, _, h, a, ha => by
    obtain ⟨xs, F1, F2, rfl, h1, h2⟩ := h
    rcases List.mem_append.mp ha with q | q
    · exact OTRep.live h1 a q
    · exact OTReps.live h2 a q
theorem OTReps.live : ∀ {ts : List OT} {xs : List V} {F : List Addr}, OTReps K A H ts xs F → ∀ a ∈ F, ∃ o, H a = some o ∧ Wr o
  | [], _, _, h, a, ha => by rw [h.2] at ha; cases ha
  | t :: ts, _, _, h, a, ha => by
    obtain ⟨x, r, F1, F2, rfl, rfl, h1, h2⟩ := h
    rcases List.mem_append.mp ha with q | q
    · exact OTRep.live h1 a q
    · exact OTReps.live h2 a q
theorem OTRepK.live : ∀ {ts : List (K1 × OT)} {xs : List (Key × V)} {F : List Addr}, OTRepK K A H ts xs F → ∀ a ∈ F, ∃ o, H a = some o ∧ Wr o
  | [], _, _, h, a, ha => by rw [h.2] at ha; cases ha
  | (k, t) :: ts, _, _, h, a, ha => by
    obtain ⟨x, r, F1, F2, rfl, rfl, h1, h2⟩ := h
    rcases List.mem_append.mp ha with q | q
    · exact OTRep.live h1 a q
    · exact OTRepK.live h2 a q
theorem OTRepF.live : ∀ {ts : List (String × OT)} {xs : List (Str × V)} {F : List Addr}, OTRepF K A H ts xs F → ∀ a ∈ F, ∃ o, H a = some o ∧ Wr o
  | [], _, _, h, a, ha => by rw [h.2] at ha; cases ha
  | (k, t) :: ts, _, _, h, a, ha => by
    obtain ⟨x, r, F1, F2, rfl, rfl, h1, h2⟩ := h
    rcases List.mem_append.mp ha with q | q
    · exact OTRep.live h1 a q
    · exact OTRepF.live h2 a q
end
mutual
theorem OTRep.carry (c : Carry A B H H') : ∀ {t : OT} {v : V} {F : List Addr}, (∀ a ∈ F, ∀ o, H a = some o → H' a = some o) → OTRep K A H t v F → OTRep K B H' t v F
  | .fz p, _, _, s, h => ⟨h.1, Rep.carry c h.2⟩
  | .l ps, _, _, s, h => by obtain ⟨b, xs, e, rfl, hb, hr⟩ := h; exact ⟨b, xs, e, rfl, s _ (List.mem_singleton.mpr rfl) _ hb, Reps.carry c hr⟩
  | .d ps, _, _, s, h => by obtain ⟨b, xs, e, rfl, hb, hr⟩ := h; exact ⟨b, xs, e, rfl, s _ (List.mem_singleton.mpr rfl) _ hb, RepK.carry c hr⟩
  | .dt ps, _, _, s, h => by obtain ⟨b, xs, e, rfl, hb, hr⟩ := h; exact ⟨b, xs, e, rfl, s _ (List.mem_singleton.mpr rfl) _ hb, RepT.carry c hr⟩
  | .ins cc fs, _, _, s, h => by obtain ⟨b, dx, xs, e, rfl, hb, hr⟩ := h; exact ⟨b, dx, xs, e, rfl, s _ (List.mem_singleton.mpr rfl) _ hb, RepF.carry c hr⟩
  | .T ts, _, _, s, h => by obtain ⟨b, xs, e, hb, hr⟩ := h; exact ⟨b, xs, e, c.tup _ _ hb, OTReps.carry c s hr⟩
  | .L ts, _, _, s, h => by obtain ⟨b, xs, F', e, rfl, hb, hr⟩ := h; exact ⟨b, xs, F', e, rfl, s _ List.mem_cons_self _ hb, OTReps.carry c (fun a ha => s a (List.mem_cons_of_mem _ ha)) hr⟩
  | .D ts, _, _, s, h => by obtain ⟨hn, b, xs, F', e, rfl, hb, hr⟩ := h; exact ⟨hn, b, xs, F', e, rfl, s _ List.mem_cons_self _ hb, OTRepK.carry c (fun a ha => s a (List.mem_cons_of_mem _ ha)) hr⟩
  | .I cc ts, _, _, s, h => by obtain ⟨b, dx, xs, F', e, rfl, hb, hr⟩ := h; exact ⟨b, dx, xs, F', e, rfl, s _ List.mem_cons_self _ hb, OTRepF.carry c (fun a ha => s a (List.mem_cons_of_mem _ ha)) hr⟩
  | .P b t, _, _, s, h => ⟨h.1, OTRep.carry c s h.2⟩
  | .M o ts, _, _, s, h => by
    obtain ⟨xs, F1, F2, rfl, h1, h2⟩ := h
    exact ⟨xs, F1, F2, rfl, OTRep.carry c (fun a ha => s a (List.mem_append_left _ ha)) h1, OTReps.carry c (fun a ha => s a (List.mem_append_right _ ha)) h2⟩
theorem OTReps.carry (c : Carry A B H H') : ∀ {ts : List OT} {xs : List V} {F : List Addr}, (∀ a ∈ F, ∀ o, H a = some o → H' a = some o) → OTReps K A H ts xs F → OTReps K B H' ts xs F
  | [], _, _, s, h => h
  | t :: ts, _, _, s, h => by
    obtain ⟨x, r, F1, F2, rfl, rfl, h1, h2⟩ := h
    exact ⟨x, r, F1, F2, rfl, rfl, OTRep.carry c (fun a ha => s a (List.mem_append_left _ ha)) h1, OTReps.carry c (fun a ha => s a (List.mem_append_right _ ha)) h2⟩
theorem OTRepK.carry (c : Carry A B H H') : ∀ {ts : List (K1 × OT)} {xs : List (Key × V)} {F : List Addr}, (∀ a ∈ F, ∀ o, H a = some o → H' a = some o) → OTRepK K A H ts xs F → OTRepK K B H' ts xs F
  | [], _, _, s, h => h
  | (k, t) :: ts, _, _, s, h => by
    obtain ⟨x, r, F1, F2, rfl, rfl, h1, h2⟩ := h
    exact ⟨x, r, F1, F2, rfl, rfl, OTRep.carry c (fun a ha => s a (List.mem_append_left _ ha)) h1, OTRepK.carry c (fun a ha => s a (List.mem_append_right _ ha)) h2⟩
theorem OTRepF.carry (c : Carry A B H H') : ∀ {ts : List (String × OT)} {xs : List (Str × V)} {F : List Addr}, (∀ a ∈ F, ∀ o, H a = some o → H' a = some o) → OTRepF K A H ts xs F → OTRepF K B H' ts xs F
  | [], _, _, s, h => h
  | (k, t) :: ts, _, _, s, h => by
    obtain ⟨x, r, F1, F2, rfl, rfl, h1, h2⟩ := h
    exact ⟨x, r, F1, F2, rfl, rfl, OTRep.carry c (fun a ha => s a (List.mem_append_left _ ha)) h1, OTRepF.carry c (fun a ha => s a (List.mem_append_right _ ha)) h2⟩
end
/-! let go: what was owned is common -/
mutual
theorem OTRep.free (hA : ∀ a, A a → B a) : ∀ {t : OT} {v : V} {F : List Addr}, (∀ a ∈ F, B a) → OTRep K A H t v F → Rep K B H t.pv v
  | .fz p, _, _, s, h => Rep.carry (Carry.refl fun a _ q _ => hA a q) h.2
  | .l ps, _, _, s, h => by obtain ⟨b, xs, e, rfl, hb, hr⟩ := h; exact ⟨b, xs, e, s _ (List.mem_singleton.mpr rfl), hb, Reps.carry (Carry.refl fun a _ q _ => hA a q) hr⟩
  | .d ps, _, _, s, h => by obtain ⟨b, xs, e, rfl, hb, hr⟩ := h; exact ⟨b, xs, e, s _ (List.mem_singleton.mpr rfl), .inl hb, RepK.carry (Carry.refl fun a _ q _ => hA a q) hr⟩
  | .dt ps, _, _, s, h => by obtain ⟨b, xs, e, rfl, hb, hr⟩ := h; exact ⟨b, xs, e, s _ (List.mem_singleton.mpr rfl), .inl hb, RepT.carry (Carry.refl fun a _ q _ => hA a q) hr⟩
  | .ins cc fs, _, _, s, h => by obtain ⟨b, dx, xs, e, rfl, hb, hr⟩ := h; exact ⟨b, dx, xs, e, s _ (List.mem_singleton.mpr rfl), hb, RepF.carry (Carry.refl fun a _ q _ => hA a q) hr⟩
  | .T ts, _, _, s, h => by obtain ⟨b, xs, e, hb, hr⟩ := h; exact ⟨b, xs, e, hb, OTReps.free hA s hr⟩
  | .L ts, _, _, s, h => by obtain ⟨b, xs, F', e, rfl, hb, hr⟩ := h; exact ⟨b, xs, e, s _ List.mem_cons_self, hb, OTReps.free hA (fun a ha => s a (List.mem_cons_of_mem _ ha)) hr⟩
  | .D ts, _, _, s, h => by obtain ⟨_, b, xs, F', e, rfl, hb, hr⟩ := h; exact ⟨b, xs, e, s _ List.mem_cons_self, .inl hb, OTRepK.free hA (fun a ha => s a (List.mem_cons_of_mem _ ha)) hr⟩
  | .I cc ts, _, _, s, h => by obtain ⟨b, dx, xs, F', e, rfl, hb, hr⟩ := h; exact ⟨b, dx, xs, e, s _ List.mem_cons_self, hb, OTRepF.free hA (fun a ha => s a (List.mem_cons_of_mem _ ha)) hr⟩
  | .P b t, _, _, s, h => OTRep.free (t := t) hA s h.2
  | .M o ts, _, _, s, h => by
    obtain ⟨xs, F1, F2, rfl, h1, h2⟩ := h
    exact OTRep.free (t := o) hA (fun a ha => s a (List.mem_append_left _ ha)) h1
theorem OTReps.free (hA : ∀ a, A a → B a) : ∀ {ts : List OT} {xs : List V} {F : List Addr}, (∀ a ∈ F, B a) → OTReps K A H ts xs F → Reps K B H (OT.pvs ts) xs
  | [], _, _, s, h => h.1
  | t :: ts, _, _, s, h => by
    obtain ⟨x, r, F1, F2, rfl, rfl, h1, h2⟩ := h
    exact ⟨x, r, rfl, OTRep.free hA (fun a ha => s a (List.mem_append_left _ ha)) h1, OTReps.free hA (fun a ha => s a (List.mem_append_right _ ha)) h2⟩
theorem OTRepK.free (hA : ∀ a, A a → B a) : ∀ {ts : List (K1 × OT)} {xs : List (Key × V)} {F : List Addr}, (∀ a ∈ F, B a) → OTRepK K A H ts xs F → RepK K B H (OT.pvK ts) xs
  | [], _, _, s, h => h.1
  | (k, t) :: ts, _, _, s, h => by
    obtain ⟨x, r, F1, F2, rfl, rfl, h1, h2⟩ := h
    exact ⟨x, r, rfl, OTRep.free hA (fun a ha => s a (List.mem_append_left _ ha)) h1, OTRepK.free hA (fun a ha => s a (List.mem_append_right _ ha)) h2⟩
theorem OTRepF.free (hA : ∀ a, A a → B a) : ∀ {ts : List (String × OT)} {xs : List (Str × V)} {F : List Addr}, (∀ a ∈ F, B a) → OTRepF K A H ts xs F → RepF K B H (OT.pvF ts) xs
  | [], _, _, s, h => h.1
  | (k, t) :: ts, _, _, s, h => by
    obtain ⟨x, r, F1, F2, rfl, rfl, h1, h2⟩ := h
    exact ⟨x, r, rfl, OTRep.free hA (fun a ha => s a (List.mem_append_left _ ha)) h1, OTRepF.free hA (fun a ha => s a (List.mem_append_right _ ha)) h2⟩
end
end

/-! ### the environment -/
def Am (C : Addr → Prop) (fp : Fp) : Addr → Prop := fun a => C a ∧ ¬ InF fp a
structure EnvOk (K : PySem.W.Frag) (C : Addr → Prop) (ρ : Env) (σ : L2.St) (H : Hp) (fp : Fp) : Prop where
  len : ρ.length = σ.length
  slot : ∀ i s, ρ[i]? = some s → SlotOk K (Am C fp) (fun a => ¬ InF fp a) H s (σ[i]?) (fp i)
  out : ∀ i, ρ.length ≤ i → fp i = []
  inj : ∀ i j a, a ∈ fp i → a ∈ fp j → i = j
  nod : ∀ i, (fp i).Nodup
  cap : ∀ a, InF fp a → C a
  new : ∀ a, H a = none → C a
/-- what a step leaves as it was -/
structure Grow (H : Hp) (fp : Fp) (H' : Hp) (fp' : Fp) : Prop where
  keep : ∀ a o, H a = some o → ¬ InF fp a → H' a = some o
  tups : ∀ a xs, H a = some (.tup xs) → H' a = some (.tup xs)
  frz : ∀ a o u, H a = some (.frz o u) → H' a = some (.frz o u)
  more : ∀ a, H a ≠ none → H' a ≠ none
  new : ∀ a, InF fp' a → InF fp a ∨ H a = none
section
variable {K : PySem.W.Frag} {C : Addr → Prop} {ρ : Env} {σ : L2.St} {H H' H2 : Hp} {fp fp' fp2 : Fp}
theorem EnvOk.live (e : EnvOk K C ρ σ H fp) {a : Addr} (h : InF fp a) : ∃ o, H a = some o ∧ Wr o := by
  obtain ⟨i, hi⟩ := h
  by_cases hl : i < ρ.length
  · have := e.slot i ρ[i] (List.getElem?_eq_getElem hl)
    revert this
    cases ρ[i] with
    | u => intro s; rw [show fp i = [] from s] at hi; cases hi
    | val p => intro s; rw [s.1] at hi; cases hi
    | bor p => intro s; rw [s.1] at hi; cases hi
    | exn a od l => intro s; rw [s.1] at hi; cases hi
    | own t => rintro ⟨v, _, r⟩; exact r.live a hi
  · rw [e.out i (Nat.le_of_not_lt hl)] at hi; cases hi
theorem EnvOk.fresh (e : EnvOk K C ρ σ H fp) {a : Addr} (h : H a = none) : ¬ InF fp a := fun q => by
  obtain ⟨o, ho, _⟩ := e.live q
  rw [h] at ho; cases ho
theorem EnvOk.am_new (e : EnvOk K C ρ σ H fp) {a : Addr} (h : H a = none) : Am C fp a := ⟨e.new a h, e.fresh h⟩
theorem EnvOk.ntup (e : EnvOk K C ρ σ H fp) {a : Addr} {xs : List V} (h : H a = some (.tup xs)) : ¬ InF fp a := fun q => by
  obtain ⟨o, ho, w⟩ := e.live q
  rw [h] at ho; cases ho; exact w
theorem EnvOk.nfrz (e : EnvOk K C ρ σ H fp) {a : Addr} {o : Obj} {u : HO} (h : H a = some (.frz o u)) : ¬ InF fp a := fun q => by
  obtain ⟨o, ho, w⟩ := e.live q
  rw [h] at ho; cases ho; exact w
theorem Grow.refl : Grow H fp H fp := ⟨fun _ _ h _ => h, fun _ _ h => h, fun _ _ _ h => h, fun _ h => h, fun _ h => .inl h⟩
theorem Grow.trans (g : Grow H fp H' fp') (g2 : Grow H' fp' H2 fp2) : Grow H fp H2 fp2 where
  keep := fun a o h n => g2.keep a o (g.keep a o h n) fun q => (g.new a q).elim n fun z => by rw [h] at z; cases z
  tups := fun a xs h => g2.tups a xs (g.tups a xs h)
  frz := fun a o u h => g2.frz a o u (g.frz a o u h)
  more := fun a h => g2.more a (g.more a h)
  new := fun a h => by
    rcases g2.new a h with q | q
    · exact g.new a q
    · right
      cases z : H a with
      | none => rfl
      | some o => exact absurd q (g.more a (by rw [z]; simp))
theorem Grow.same (s : Same H H') : Grow H fp H' fp := ⟨fun a o h _ => s a o h, fun a xs h => s a _ h, fun a o xs h => s a _ h, fun a h => by
  cases z : H a with
  | none => exact absurd z h
  | some o => rw [s a o z]; simp, fun _ h => .inl h⟩
theorem EnvOk.same (e : EnvOk K C ρ σ H fp) (s : Same H H') : EnvOk K C ρ σ H' fp where
  len := e.len
  slot := fun i sl h => by
    have := e.slot i sl h
    revert this
    cases sl with
    | u => exact id
    | val p => rintro ⟨f, v, hv, r⟩; exact ⟨f, v, hv, r.same s⟩
    | bor p => rintro ⟨f, v, hv, r⟩; exact ⟨f, v, hv, r.same s⟩
    | exn a od l => rintro ⟨f, hv, r⟩; exact ⟨f, hv, XSl.carry (Carry.same s fun _ q => q) r⟩
    | own t => rintro ⟨v, hv, r⟩; exact ⟨v, hv, r.carry (Carry.same s fun _ q => q) fun a _ o q => s a o q⟩
  out := e.out
  inj := e.inj
  nod := e.nod
  cap := e.cap
  new := fun a h => e.new a (by
    cases z : H a with
    | none => rfl
    | some o => rw [s a o z] at h; cases h)
/-- a value carried over a step -/
theorem Grow.carry (g : Grow H fp H' fp') : Carry (Am C fp) (Am C fp') H H' :=
  Carry.mk' (fun a o q e => ⟨q.1, fun z => (g.new a z).elim q.2 fun y => (by rw [e] at y; cases y)⟩) (fun a o q e => g.keep a o e q.2) g.tups g.frz
theorem Grow.carryB (g : Grow H fp H' fp') : Carry (fun a => ¬ InF fp a) (fun a => ¬ InF fp' a) H H' :=
  Carry.mk' (fun a o q e z => (g.new a z).elim q fun y => (by rw [e] at y; cases y)) (fun a o q e => g.keep a o e q) g.tups g.frz
theorem Rep.grow {p : PV} {v : V} (g : Grow H fp H' fp') (h : Rep K (Am C fp) H p v) : Rep K (Am C fp') H' p v := Rep.carry g.carry h
end
end Fz
end
section
/-! FwC: the slots' changes, the judgements, blocks. -/
namespace Fz
open PySem PySem.Spec PyProof.Rows L2

section
variable {K : PySem.W.Frag} {C : Addr → Prop} {ρ : Env} {σ : L2.St} {H H' H2 : Hp} {fp fp' fp2 : Fp}
theorem inF_put {i : Nat} {F : List Addr} {a : Addr} (h : InF (put fp i F) a) : a ∈ F ∨ (InF fp a ∧ ∃ j, j ≠ i ∧ a ∈ fp j) := by
  obtain ⟨j, hj⟩ := h
  by_cases e : j = i
  · subst e; rw [put_same] at hj; exact .inl hj
  · rw [put_ne e] at hj; exact .inr ⟨⟨j, hj⟩, j, e, hj⟩
/-- THE STEP: slot i is given anew, its own objects may have changed -/
theorem EnvOk.step {i : Nat} {s' : Slot} {v : V} {F' : List Addr} (e : EnvOk K C ρ σ H fp) (hi : i < ρ.length)
    (keep : ∀ a o, a ∉ fp i → H a = some o → H' a = some o) (more : ∀ a, H a ≠ none → H' a ≠ none) (hF : ∀ a ∈ F', a ∈ fp i ∨ H a = none) (hn : F'.Nodup)
    (ok : (∀ a, InF (put fp i F') a → InF fp a ∨ H a = none) → Grow H fp H' (put fp i F') → SlotOk K (Am C (put fp i F')) (fun a => ¬ InF (put fp i F') a) H' s' (some (some v)) F') :
    EnvOk K C (ρ.set i s') (σ.set i (some v)) H' (put fp i F') ∧ Grow H fp H' (put fp i F') := by
  have hnew : ∀ a, InF (put fp i F') a → InF fp a ∨ H a = none := fun a q => by
    rcases inF_put q with q | q
    · rcases hF a q with z | z
      · exact .inl ⟨i, z⟩
      · exact .inr z
    · exact .inl q.1
  have g : Grow H fp H' (put fp i F') :=
    ⟨fun a o h n => keep a o (fun q => n ⟨i, q⟩) h, fun a xs h => keep a _ (fun q => e.ntup h ⟨i, q⟩) h, fun a o xs h => keep a _ (fun q => e.nfrz h ⟨i, q⟩) h, more, hnew⟩
  refine ⟨⟨by simp [e.len], fun j sl h => ?_, fun j hj => ?_, fun j k a h1 h2 => ?_, fun j => ?_, fun a q => ?_, fun a q => ?_⟩, g⟩
  · by_cases hj : j = i
    · subst hj
      rw [List.getElem?_set_self hi] at h
      cases h
      rw [put_same, List.getElem?_set_self (by rw [← e.len]; exact hi)]
      exact ok hnew g
    · rw [List.getElem?_set_ne (Ne.symm hj)] at h
      rw [put_ne hj, List.getElem?_set_ne (Ne.symm hj)]
      have := e.slot j sl h
      revert this
      cases sl with
      | u => exact id
      | val p => rintro ⟨f, v, hv, r⟩; exact ⟨f, v, hv, Rep.carry g.carry r⟩
      | bor p => rintro ⟨f, v, hv, r⟩; exact ⟨f, v, hv, Rep.carry g.carryB r⟩
      | exn a od l => rintro ⟨f, hv, r⟩; exact ⟨f, hv, XSl.carry g.carryB r⟩
      | own t => rintro ⟨v, hv, r⟩; exact ⟨v, hv, r.carry g.carry fun a ha o q => keep a o (fun z => hj (e.inj _ _ _ ha z)) q⟩
  · have hj' : ρ.length ≤ j := by simpa using hj
    rw [put_ne (by omega)]
    exact e.out j hj'
  · have other : ∀ j a, j ≠ i → a ∈ fp j → a ∉ F' := fun j a hj ha hf => by
      rcases hF a hf with z | z
      · exact hj (e.inj _ _ _ ha z)
      · exact e.fresh z ⟨j, ha⟩
    by_cases hj : j = i
    · by_cases hk : k = i
      · rw [hj, hk]
      · subst hj; rw [put_same] at h1; rw [put_ne hk] at h2; exact (other k a hk h2 h1).elim
    · by_cases hk : k = i
      · subst hk; rw [put_same] at h2; rw [put_ne hj] at h1; exact (other j a hj h1 h2).elim
      · rw [put_ne hj] at h1; rw [put_ne hk] at h2; exact e.inj _ _ _ h1 h2
  · by_cases hj : j = i
    · subst hj; rw [put_same]; exact hn
    · rw [put_ne hj]; exact e.nod j
  · rcases hnew a q with z | z
    · exact e.cap a z
    · exact e.new a z
  · exact e.new a (by
      cases z : H a with
      | none => rfl
      | some o => exact absurd q (more a (by rw [z]; simp)))
theorem EnvOk.setVal {i : Nat} {p : PV} {v : V} (e : EnvOk K C ρ σ H fp) (hi : i < ρ.length) (r : Rep K (Am C fp) H p v) : EnvOk K C (ρ.set i (.val p)) (σ.set i (some v)) H (put fp i []) ∧ Grow H fp H (put fp i []) :=
  e.step hi (fun _ _ _ h => h) (fun _ h => h) (fun _ h => nomatch h) List.nodup_nil fun _ g => ⟨rfl, v, rfl, Rep.carry g.carry r⟩
theorem EnvOk.setBor {i : Nat} {p : PV} {v : V} (e : EnvOk K C ρ σ H fp) (hi : i < ρ.length) (r : Rep K (fun a => ¬ InF fp a) H p v) : EnvOk K C (ρ.set i (.bor p)) (σ.set i (some v)) H (put fp i []) ∧ Grow H fp H (put fp i []) :=
  e.step hi (fun _ _ _ h => h) (fun _ h => h) (fun _ h => nomatch h) List.nodup_nil fun _ g => ⟨rfl, v, rfl, Rep.carry g.carryB r⟩
/-- a slot for a thing: a common value is a common value -/
def toSlot : OT → Slot
  | .fz p => .val p
  | t => .own t
/-- a thing of one's own, just made (between H and H' it came) -/
theorem EnvOk.setOwn {i : Nat} {t : OT} {v : V} {Fn : List Addr} (e : EnvOk K C ρ σ H fp) (hi : i < ρ.length) (s : Same H H') (r : OTRep K (fun a => Am C fp a ∧ a ∉ Fn) H' t v Fn) (hf : ∀ a ∈ Fn, H a = none) (hn : Fn.Nodup) :
    ∃ fp', EnvOk K C (ρ.set i (toSlot t)) (σ.set i (some v)) H' fp' ∧ Grow H fp H' fp' := by
  have key : ∀ sl, SlotOk K (fun a => Am C fp a ∧ a ∉ Fn) (fun a => ¬ InF (put fp i Fn) a) H' sl (some (some v)) Fn → ((∀ p, sl ≠ .bor p) ∧ ∀ a od l, sl ≠ .exn a od l) → EnvOk K C (ρ.set i sl) (σ.set i (some v)) H' (put fp i Fn) ∧ Grow H fp H' (put fp i Fn) := fun sl hs nb => by
    refine e.step hi (fun a o _ h => s a o h) (fun a h => (Grow.same s (fp := fp)).more a h) (fun a h => .inr (hf a h)) hn fun hnew g => ?_
    have sub : ∀ a, (Am C fp a ∧ a ∉ Fn) → Am C (put fp i Fn) a := fun a ⟨q1, q2⟩ => ⟨q1.1, fun z => (inF_put z).elim q2 fun y => q1.2 y.1⟩
    have c : Carry (fun a => Am C fp a ∧ a ∉ Fn) (Am C (put fp i Fn)) H' H' := Carry.refl fun a _ q _ => sub a q
    cases sl with
    | u => exact hs
    | val p => obtain ⟨f, w, hw, r⟩ := hs; exact ⟨f, w, hw, Rep.carry c r⟩
    | bor p => exact (nb.1 p rfl).elim
    | exn a od l => exact (nb.2 a od l rfl).elim
    | own t => obtain ⟨w, hw, r⟩ := hs; exact ⟨w, hw, r.carry c fun _ _ _ q => q⟩
  cases t with
  | fz p => exact ⟨_, key (.val p) ⟨r.1, v, rfl, r.2⟩ (by constructor <;> intros <;> simp)⟩
  | l ps => exact ⟨_, key (.own _) ⟨v, rfl, r⟩ (by constructor <;> intros <;> simp)⟩
  | d ps => exact ⟨_, key (.own _) ⟨v, rfl, r⟩ (by constructor <;> intros <;> simp)⟩
  | dt ps => exact ⟨_, key (.own _) ⟨v, rfl, r⟩ (by constructor <;> intros <;> simp)⟩
  | T ts => exact ⟨_, key (.own _) ⟨v, rfl, r⟩ (by constructor <;> intros <;> simp)⟩
  | L ts => exact ⟨_, key (.own _) ⟨v, rfl, r⟩ (by constructor <;> intros <;> simp)⟩
  | D ts => exact ⟨_, key (.own _) ⟨v, rfl, r⟩ (by constructor <;> intros <;> simp)⟩
  | I c ts => exact ⟨_, key (.own _) ⟨v, rfl, r⟩ (by constructor <;> intros <;> simp)⟩
  | P a ts => exact ⟨_, key (.own _) ⟨v, rfl, r⟩ (by constructor <;> intros <;> simp)⟩
  | M c ts => exact ⟨_, key (.own _) ⟨v, rfl, r⟩ (by constructor <;> intros <;> simp)⟩
  | ins c fs => exact ⟨_, key (.own _) ⟨v, rfl, r⟩ (by constructor <;> intros <;> simp)⟩
/-- what slot i holds is common from now on -/
theorem EnvOk.freeze {i : Nat} {t : OT} (e : EnvOk K C ρ σ H fp) (h : ρ[i]? = some (.own t)) : EnvOk K C (ρ.set i (.val t.pv)) σ H (put fp i []) ∧ Grow H fp H (put fp i []) := by
  have hi : i < ρ.length := (List.getElem?_eq_some_iff.mp h).1
  obtain ⟨v, hv, r⟩ := e.slot i _ h
  have hs : σ.set i (some v) = σ := by
    refine List.ext_getElem? fun j => ?_
    by_cases hj : j = i
    · subst hj; rw [List.getElem?_set_self (by rw [← e.len]; exact hi), hv]
    · rw [List.getElem?_set_ne (Ne.symm hj)]
  have := e.step (s' := .val t.pv) (v := v) (F' := []) hi (fun _ _ _ h => h) (fun _ h => h) (fun _ h => nomatch h) List.nodup_nil fun hnew g => ⟨rfl, v, rfl, OTRep.free (A := Am C fp) (fun a q => ⟨q.1, fun z => (inF_put z).elim (fun y => nomatch y) fun y => q.2 y.1⟩) (fun a ha => ⟨e.cap a ⟨i, ha⟩, fun z => (inF_put z).elim (fun y => nomatch y) fun ⟨_, j, hj, y⟩ => hj (e.inj _ _ _ y ha)⟩) r⟩
  rw [hs] at this
  exact this
/-- the own thing of slot i has changed in place -/
theorem EnvOk.write {i : Nat} {t t' : OT} {v : V} {F' : List Addr} (e : EnvOk K C ρ σ H fp) (h : ρ[i]? = some (.own t)) (hv : σ[i]? = some (some v)) (ht : ∀ p, t' ≠ .fz p)
    (keep : ∀ a o, a ∉ fp i → H a = some o → H' a = some o) (more : ∀ a, H a ≠ none → H' a ≠ none) (hF : ∀ a ∈ F', a ∈ fp i ∨ H a = none) (hn : F'.Nodup)
    (r : OTRep K (fun a => Am C fp a ∧ a ∉ F') H' t' v F') : EnvOk K C (ρ.set i (.own t')) σ H' (put fp i F') ∧ Grow H fp H' (put fp i F') := by
  have hi : i < ρ.length := (List.getElem?_eq_some_iff.mp h).1
  have hs : σ.set i (some v) = σ := by
    refine List.ext_getElem? fun j => ?_
    by_cases hj : j = i
    · subst hj; rw [List.getElem?_set_self (by rw [← e.len]; exact hi), hv]
    · rw [List.getElem?_set_ne (Ne.symm hj)]
  have := e.step (s' := .own t') (v := v) (F' := F') hi keep more hF hn fun hnew g => ⟨v, rfl, r.carry (Carry.refl fun a _ q _ => ⟨q.1.1, fun z => (inF_put z).elim q.2 fun y => q.1.2 y.1⟩) fun _ _ _ q => q⟩
  rw [hs] at this
  exact this
end

/-! ### the judgements -/
/-- E: a common value; I: its items are common; B: to be looked at only -/
inductive Mode where
  | E | I | B
def RepI (K : PySem.W.Frag) (A : Addr → Prop) (H : Hp) : PV → V → Prop
  | .lst ps, v => ∃ a xs, v = .ref a ∧ H a = some (.lst xs) ∧ Reps K A H ps xs
  | .dic kvs, v => ∃ a ks, v = .ref a ∧ Rd H a (.dK ks) ∧ RepK K A H kvs ks
  | .dit kvs, v => ∃ a ks, v = .ref a ∧ Rd H a (.dT ks) ∧ RepT K A H kvs ks
  | .ins c fs, v => ∃ a dx xs, v = .ref a ∧ H a = some (.ins (He.ga K (c : Str)) dx xs) ∧ RepF K A H fs xs
  | p, v => Rep K A H p v
def RepM (K : PySem.W.Frag) (C : Addr → Prop) (fp : Fp) (m : Mode) (H : Hp) (p : PV) (v : V) : Prop := match m with
  | .E => Rep K (Am C fp) H p v
  | .I => RepI K (Am C fp) H p v
  | .B => Rep K (fun _ => True) H p v
theorem Rep.toI {K : PySem.W.Frag} {A : Addr → Prop} {H : Hp} {p : PV} {v : V} (h : Rep K A H p v) : RepI K A H p v := by
  cases p with
  | lst ps => obtain ⟨a, xs, e, _, l, r⟩ := h; exact ⟨a, xs, e, l, r⟩
  | dic ps => obtain ⟨a, xs, e, _, l, r⟩ := h; exact ⟨a, xs, e, l, r⟩
  | dit ps => obtain ⟨a, xs, e, _, l, r⟩ := h; exact ⟨a, xs, e, l, r⟩
  | ins c ps => obtain ⟨a, dx, xs, e, _, l, r⟩ := h; exact ⟨a, dx, xs, e, l, r⟩
  | _ => exact h
theorem RepI.toB {K : PySem.W.Frag} {A : Addr → Prop} {H : Hp} {p : PV} {v : V} (h : RepI K A H p v) : Rep K (fun _ => True) H p v := by
  have c : Carry A (fun _ => True) H H := Carry.refl fun _ _ _ _ => trivial
  cases p with
  | lst ps => obtain ⟨a, xs, e, l, r⟩ := h; exact ⟨a, xs, e, trivial, l, Reps.carry c r⟩
  | dic ps => obtain ⟨a, xs, e, l, r⟩ := h; exact ⟨a, xs, e, trivial, l, RepK.carry c r⟩
  | dit ps => obtain ⟨a, xs, e, l, r⟩ := h; exact ⟨a, xs, e, trivial, l, RepT.carry c r⟩
  | ins cc ps => obtain ⟨a, dx, xs, e, l, r⟩ := h; exact ⟨a, dx, xs, e, trivial, l, RepF.carry c r⟩
  | tup ps => exact Rep.carry c h
  | rol ps => exact Rep.carry c h
  | non => exact h
  | bl b => exact h
  | int b => exact h
  | str b => exact h
theorem RepM.toB {K : PySem.W.Frag} {C : Addr → Prop} {fp : Fp} {m : Mode} {H : Hp} {p : PV} {v : V} (h : RepM K C fp m H p v) : Rep K (fun _ => True) H p v := by
  cases m with
  | E => exact Rep.any h
  | I => exact RepI.toB (A := Am C fp) h
  | B => exact h
theorem RepM.same {K : PySem.W.Frag} {C : Addr → Prop} {fp : Fp} {m : Mode} {H H' : Hp} {p : PV} {v : V} (s : Same H H') (h : RepM K C fp m H p v) : RepM K C fp m H' p v := by
  have c : Carry (Am C fp) (Am C fp) H H' := Carry.same s fun _ q => q
  cases m with
  | E => exact Rep.same s h
  | B => exact Rep.same (A := fun _ => True) s h
  | I =>
    revert h
    cases p with
    | lst ps =>
      rintro ⟨a, xs, e, l, r⟩
      exact ⟨a, xs, e, s _ _ l, Reps.carry c r⟩
    | dic ps =>
      rintro ⟨a, xs, e, l, r⟩
      refine ⟨a, xs, e, ?_, RepK.carry c r⟩
      rcases l with l | ⟨o, l⟩
      · exact .inl (s _ _ l)
      · exact .inr ⟨o, s _ _ l⟩
    | dit ps =>
      rintro ⟨a, xs, e, l, r⟩
      refine ⟨a, xs, e, ?_, RepT.carry c r⟩
      rcases l with l | ⟨o, l⟩
      · exact .inl (s _ _ l)
      · exact .inr ⟨o, s _ _ l⟩
    | ins cc ps => rintro ⟨a, dx, xs, e, l, r⟩; exact ⟨a, dx, xs, e, s _ _ l, RepF.carry c r⟩
    | tup ps => exact Rep.same (A := Am C fp) s
    | rol ps => exact Rep.same (A := Am C fp) s
    | non => exact id
    | bl b => exact id
    | int b => exact id
    | str b => exact id

abbrev E := Env → Res PV
abbrev T := Env → Res Bool
abbrev O := Env → Res OT
abbrev L := Env → Res (List PV)
/-- what is wanted of an exception: its class, its fields -/
def XW (K : PySem.W.Frag) (W : WX) (σ : L2.St) (H' : Hp) (c : String) (fs : Option (List (String × PV))) : Prop := match fs with
  | none => W (.ref (He.ga K (c : Str))) none σ H'
  | some fs => ∀ d H2 xs, Same H' H2 → H' d = none → H2 d = some (.xd xs) → RepF K (fun _ => True) H2 fs xs → W (.ref (He.ga K (c : Str))) (some d) σ H2
def XQ (K : PySem.W.Frag) (W : WX) (σ : L2.St) (H : Hp) : XF := fun c fs => ∀ H', Same H H' → XW K W σ H' c fs
theorem XQ.later {K : PySem.W.Frag} {W : WX} {σ : L2.St} {H H1 : Hp} (s : Same H H1) {c : String} {fs : Option (List (String × PV))} (h : XQ K W σ H c fs) : XQ K W σ H1 c fs := fun H' s' => h H' fun a o q => s' a o (s a o q)
theorem Same.trans' {H H1 H2 : Hp} (a : Same H H1) (b : Same H1 H2) : Same H H2 := fun x o q => b x o (a x o q)

section
variable (K : PySem.W.Frag) (C : Addr → Prop) (W : WX)
def tE (m : Mode) (f : E) : TE := fun σ H Q => ∃ ρ fp, EnvOk K C ρ σ H fp ∧ Out (f ρ) (fun p => ∀ v H', Same H H' → RepM K C fp m H' p v → Q v H') (XQ K W σ H)
def tT (f : T) : TT := fun σ H Q => ∃ ρ fp, EnvOk K C ρ σ H fp ∧ Out (f ρ) (fun b => ∀ H', Same H H' → Q b H') (XQ K W σ H)
def tO (f : O) : TE := fun σ H Q => ∃ ρ fp, EnvOk K C ρ σ H fp ∧ Out (f ρ) (fun t => ∀ v H' Fn, Same H H' → Fn.Nodup → (∀ a ∈ Fn, H a = none) → OTRep K (fun a => Am C fp a ∧ a ∉ Fn) H' t v Fn → Q v H') (XQ K W σ H)
/-- several: each of its own mode -/
def RepMs (fp : Fp) (H : Hp) : List Mode → List PV → List V → Prop
  | [], [], [] => True
  | m :: ms, p :: ps, v :: vs => RepM K C fp m H p v ∧ RepMs fp H ms ps vs
  | _, _, _ => False
def tL (ms : List Mode) (f : L) : TA := fun σ H Q => ∃ ρ fp, EnvOk K C ρ σ H fp ∧ Out (f ρ) (fun ps => ∀ vs H', Same H H' → RepMs K C fp H' ms ps vs → Q vs H') (XQ K W σ H)
end
def EJ (X : Cx) (C : Addr → Prop) (W : WX) (m : Mode) (e : Expr) (f : E) : Prop := PE X e (tE X.K C W m f)
def TJ (X : Cx) (C : Addr → Prop) (W : WX) (e : Expr) (f : T) : Prop := PT X e (tT X.K C W f)
def OJ (X : Cx) (C : Addr → Prop) (W : WX) (e : Expr) (f : O) : Prop := PE X e (tO X.K C W f)
def LJ (X : Cx) (C : Addr → Prop) (W : WX) (ms : List Mode) (es : List Expr) (f : L) : Prop := PA X es (tL X.K C W ms f)

theorem pe_weak {X : Cx} {e : Expr} {t t' : TE} (h : PE X e t) (w : ∀ σ H Q, t' σ H Q → t σ H Q) : PE X e t' := ⟨fun pins s σ H Q I q => h.run pins s σ H Q I (w σ H Q q)⟩
theorem pt_weak {X : Cx} {e : Expr} {t t' : TT} (h : PT X e t) (w : ∀ σ H Q, t' σ H Q → t σ H Q) : PT X e t' := ⟨fun pins s σ H Q I q => h.run pins s σ H Q I (w σ H Q q)⟩
theorem pw_weak {X : Cx} {e : Expr} {t t' : TT} (h : PW X e t) (w : ∀ σ H Q, t' σ H Q → t σ H Q) : PW X e t' := ⟨fun wh pins s σ H Q I q => h.run wh pins s σ H Q I (w σ H Q q)⟩
theorem pa_weak {X : Cx} {e : List Expr} {t t' : TA} (h : PA X e t) (w : ∀ σ H Q, t' σ H Q → t σ H Q) : PA X e t' := ⟨fun pos pins s σ H Q I q => h.run pos pins s σ H Q I (w σ H Q q)⟩
theorem ps_weak {X : Cx} {e : Stmt} {t t' : TS} (h : PS X e t) (w : ∀ D σ H, t' D σ H → t D σ H) : PS X e t' := ⟨fun pins s σ H D I q => h.run pins s σ H D I (w D σ H q)⟩
theorem pss_weak {X : Cx} {e : List Stmt} {t t' : TS} (h : PSs X e t) (w : ∀ D σ H, t' D σ H → t D σ H) : PSs X e t' := ⟨fun pins s σ H D I q => h.run pins s σ H D I (w D σ H q)⟩

/-! ### statements -/
inductive Fl where
  | nx (ρ : Env) | rt (o : OT) | bk (ρ : Env) | ct (ρ : Env) | ex (c : String) (fs : Option (List (String × PV))) (ρ : Env) | bad
abbrev S := Env → Fl
def withR {α : Type} (r : Res α) (ρ : Env) (k : α → Fl) : Fl := match r with
  | .ok a => k a
  | .exc c fs => .ex c fs ρ
  | .bad => .bad
@[simp] theorem withR_ok {α : Type} (a : α) (ρ : Env) (k : α → Fl) : withR (.ok a) ρ k = k a := (rfl)
@[simp] theorem withR_exc {α : Type} (c : String) (fs : Option (List (String × PV))) (ρ : Env) (k : α → Fl) : withR (.exc c fs) ρ k = .ex c fs ρ := (rfl)
@[simp] theorem withR_bad {α : Type} (ρ : Env) (k : α → Fl) : withR .bad ρ k = .bad := (rfl)
def Fl.andThen (f : Fl) (t : S) : Fl := match f with
  | .nx ρ => t ρ
  | f => f
@[simp] theorem then_nx (ρ : Env) (t : S) : (Fl.nx ρ).andThen t = t ρ := (rfl)
@[simp] theorem then_rt (o : OT) (t : S) : (Fl.rt o).andThen t = .rt o := (rfl)
@[simp] theorem then_bk (ρ : Env) (t : S) : (Fl.bk ρ).andThen t = .bk ρ := (rfl)
@[simp] theorem then_ct (ρ : Env) (t : S) : (Fl.ct ρ).andThen t = .ct ρ := (rfl)
@[simp] theorem then_ex (c : String) (fs : Option (List (String × PV))) (ρ : Env) (t : S) : (Fl.ex c fs ρ).andThen t = .ex c fs ρ := (rfl)
def sSeq (s t : S) : S := fun ρ => (s ρ).andThen t
def sNil : S := fun ρ => .nx ρ
section
variable (K : PySem.W.Frag) (C : Addr → Prop) (W : WX)
def FlQ (D : Ends) (H : Hp) (fp : Fp) : Fl → Prop
  | .nx ρ' => ∀ σ' H' fp', EnvOk K C ρ' σ' H' fp' → Grow H fp H' fp' → D.nx σ' H'
  | .bk ρ' => ∀ σ' H' fp', EnvOk K C ρ' σ' H' fp' → Grow H fp H' fp' → D.bk σ' H'
  | .ct ρ' => ∀ σ' H' fp', EnvOk K C ρ' σ' H' fp' → Grow H fp H' fp' → D.ct σ' H'
  | .rt o => ∀ v H' Fn, Grow H fp H' (fun _ => []) → Fn.Nodup → (∀ a ∈ Fn, InF fp a ∨ H a = none) → OTRep K (fun a => C a ∧ a ∉ Fn) H' o v Fn → D.rt v H'
  | .ex c fs ρ' => ∀ σ' H' fp', EnvOk K C ρ' σ' H' fp' → Grow H fp H' fp' → XW K W σ' H' c fs
  | .bad => False
def tS (s : S) : TS := fun D σ H => ∃ ρ fp, EnvOk K C ρ σ H fp ∧ FlQ K C W D H fp (s ρ)
end
def SJ (X : Cx) (C : Addr → Prop) (W : WX) (st : Stmt) (s : S) : Prop := PS X st (tS X.K C W s)
def BJ (X : Cx) (C : Addr → Prop) (W : WX) (sts : List Stmt) (s : S) : Prop := PSs X sts (tS X.K C W s)
section
variable {K : PySem.W.Frag} {C : Addr → Prop} {W : WX} {D : Ends} {H H1 : Hp} {fp fp1 : Fp}
theorem FlQ.later (g : Grow H fp H1 fp1) : ∀ {f : Fl}, FlQ K C W D H fp f → FlQ K C W D H1 fp1 f
  | .nx _, h => fun σ' H' fp' e g' => h σ' H' fp' e (g.trans g')
  | .bk _, h => fun σ' H' fp' e g' => h σ' H' fp' e (g.trans g')
  | .ct _, h => fun σ' H' fp' e g' => h σ' H' fp' e (g.trans g')
  | .ex _ _ _, h => fun σ' H' fp' e g' => h σ' H' fp' e (g.trans g')
  | .bad, h => h
  | .rt _, h => fun v H' Fn g' n hf r => h v H' Fn (g.trans g') n (fun a ha => by
      rcases hf a ha with q | q
      · exact g.new a q
      · right
        cases z : H a with
        | none => rfl
        | some o => exact absurd q (g.more a (by rw [z]; simp))) r
theorem FlQ.seq {s t : S} {ρ : Env} (h : FlQ K C W D H fp (sSeq s t ρ)) : FlQ K C W { D with nx := tS K C W t D } H fp (s ρ) := by
  unfold sSeq at h
  cases e : s ρ with
  | nx ρ' => rw [e] at h; exact fun σ' H' fp' e' g => ⟨ρ', fp', e', FlQ.later g h⟩
  | rt o => rw [e] at h; exact h
  | bk o => rw [e] at h; exact h
  | ct o => rw [e] at h; exact h
  | ex c fs o => rw [e] at h; exact h
  | bad => rw [e] at h; exact h
/-- what an expression's end becomes -/
theorem FlQ.ofR {α : Type} {r : Res α} {ρ : Env} {σ : L2.St} {k : α → Fl} (e : EnvOk K C ρ σ H fp) (h : FlQ K C W D H fp (withR r ρ k)) : Out r (fun a => FlQ K C W D H fp (k a)) (fun c fs => ∀ H' , Same H H' → XW K W σ H' c fs) := by
  cases r with
  | ok a => exact h
  | exc c fs => exact fun H' s => h σ H' fp (e.same s) (Grow.same s)
  | bad => exact h
end
section
variable {X : Cx} {C : Addr → Prop} {W : WX}
theorem bj_nil : BJ X C W [] sNil := pss_weak pss_nil fun D σ H ⟨ρ, fp, e, h⟩ => h σ H fp e Grow.refl
theorem bj_cons {st : Stmt} {rest : List Stmt} {s t : S} (h1 : SJ X C W st s) (h2 : BJ X C W rest t) : BJ X C W (st :: rest) (sSeq s t) :=
  pss_weak (pss_cons h1 h2) fun D σ H ⟨ρ, fp, e, h⟩ => ⟨ρ, fp, e, h.seq⟩
theorem bj_one {st : Stmt} {s : S} (h1 : SJ X C W st s) : BJ X C W [st] s := pss_weak (pss_one h1) fun D σ H h => h
end
end Fz
end
section
/-! FwD: expressions: names, constants, operators, comparisons, and, or, not. -/
namespace Fz
open PySem PySem.Spec PyProof.Rows L2
def ofO {α : Type} : Option α → Res α
  | some a => .ok a
  | none => .bad
@[simp] theorem ofO_some {α : Type} (a : α) : ofO (some a) = .ok a := (rfl)
@[simp] theorem ofO_none {α : Type} : (ofO none : Res α) = .bad := (rfl)
section
variable {X : Cx} {C : Addr → Prop} {W : WX} {e e1 e2 e3 : Expr} {pos : Pos} {m m1 m2 m3 : Mode} {f f1 f2 f3 : E}

theorem TE.out {K : PySem.W.Frag} {σ : L2.St} {H : Hp} {Q : VK} {ρ : Env} {fp : Fp} (eo : EnvOk K C ρ σ H fp) (h : Out (f ρ) (fun p => ∀ v H', Same H H' → RepM K C fp m H' p v → Q v H') (XQ K W σ H)) : tE K C W m f σ H Q := ⟨ρ, fp, eo, h⟩

/-! ### from one mode to another -/
theorem ej_I (h : EJ X C W .E e f) : EJ X C W .I e f := pe_weak h fun σ H Q ⟨ρ, fp, eo, o⟩ => ⟨ρ, fp, eo, o.mono (fun p q v H' s r => q v H' s (Rep.toI r)) fun _ _ q => q⟩
theorem ej_B (h : EJ X C W m e f) : EJ X C W .B e f := pe_weak h fun σ H Q ⟨ρ, fp, eo, o⟩ => ⟨ρ, fp, eo, o.mono (fun p q v H' s r => q v H' s (RepM.toB r)) fun _ _ q => q⟩
def eCap (f : E) : E := fun ρ => f ρ >>= fun p => if immut p then .ok p else .bad
theorem ej_cap (h : EJ X C W m e f) : EJ X C W .E e (eCap f) := pe_weak h fun σ H Q ⟨ρ, fp, eo, o⟩ => by
  refine ⟨ρ, fp, eo, (Out.bind o).mono (fun p q v H' s r => ?_) fun _ _ q => q⟩
  by_cases hi : immut p = true
  · rw [if_pos hi] at q
    exact q v H' s (Rep.immut hi (RepM.toB r))
  · rw [if_neg hi] at q
    exact q.elim
def eOfO (f : O) : E := fun ρ => f ρ >>= fun t => .ok t.pv
theorem ej_O {f : O} (h : OJ X C W e f) : EJ X C W .E e (eOfO f) := pe_weak h fun σ H Q ⟨ρ, fp, eo, o⟩ => by
  refine ⟨ρ, fp, eo, (Out.bind o).mono (fun t q v H' Fn s hn hf r => q v H' s ?_) fun _ _ q => q⟩
  exact OTRep.free (fun a q => q.1) (fun a ha => eo.am_new (hf a ha)) r
def oOfE (f : E) : O := fun ρ => f ρ >>= fun p => .ok (.fz p)
theorem oj_E (h : EJ X C W .E e f) : OJ X C W e (oOfE f) := pe_weak h fun σ H Q ⟨ρ, fp, eo, o⟩ => by
  refine ⟨ρ, fp, eo, (Out.bind o).mono (fun p q v H' s r => q v H' [] s List.nodup_nil (fun _ h => nomatch h) ⟨rfl, Rep.sub (fun a z => ⟨z, fun y => nomatch y⟩) r⟩) fun _ _ q => q⟩

/-! ### names, constants -/
/-- its items can't be changed -/
def immutI : PV → Bool
  | .lst ps => immuts ps
  | p => immut p
def eVar (m : Mode) (i : Nat) : E := fun ρ => match ρ[i]? with
  | some (.val p) => .ok p
  | some (.bor p) => (match m with
    | .B => .ok p
    | .I => if immutI p then .ok p else .bad
    | .E => if immut p then .ok p else .bad)
  | some (.own t) => (match m, t with
    | .B, t => .ok t.pv
    | .I, .l ps => .ok (.lst ps)
    | .I, .d ps => .ok (.dic ps)
    | .I, .dt ps => .ok (.dit ps)
    | .I, .ins c fs => .ok (.ins c fs)
    | _, _ => .bad)
  | _ => .bad
theorem ej_var {i : Nat} {x : Str} (hN : X.N[i]? = some x) (hv : Vis X.env.scope x) (hd : (x == ("__debug__" : Str)) = false := by decide) (hcd : (x == ("__classdict__" : Str)) = false := by decide) : EJ X C W m (.Name x pos) (eVar m i) :=
  pe_weak (pe_var hN hv hd hcd) fun σ H Q ⟨ρ, fp, eo, o⟩ => by
    have hs := eo.slot i
    unfold eVar at o
    cases h : ρ[i]? with
    | none => rw [h] at o; exact o.elim
    | some s =>
      rw [h] at o
      have hs := hs s h
      cases s with
      | u => exact o.elim
      | exn a od l => exact o.elim
      | val p =>
        obtain ⟨_, v, hv, r⟩ := hs
        refine ⟨v, hv, o v H (fun _ _ q => q) ?_⟩
        cases m with
        | E => exact r
        | I => exact Rep.toI r
        | B => exact Rep.any r
      | bor p =>
        obtain ⟨_, v, hv, r⟩ := hs
        cases m with
        | B => exact ⟨v, hv, o v H (fun _ _ q => q) (Rep.any r)⟩
        | E =>
          by_cases hi : immut p = true
          · simp only [if_pos hi] at o
            exact ⟨v, hv, o v H (fun _ _ q => q) (Rep.immut hi r)⟩
          · simp only [if_neg hi] at o; exact o.elim
        | I =>
          by_cases hi : immutI p = true
          · simp only [if_pos hi] at o
            refine ⟨v, hv, o v H (fun _ _ q => q) ?_⟩
            cases p with
            | lst ps => obtain ⟨a, xs, e, _, ha, rr⟩ := r; exact ⟨a, xs, e, ha, Reps.immut (by simpa [immutI] using hi) rr⟩
            | non => exact r
            | bl b => exact r
            | int b => exact r
            | str b => exact r
            | tup ps => exact Rep.immut (p := .tup ps) (A := fun a => ¬InF fp a) (by simpa [immutI] using hi) r
            | rol ps => exact Rep.immut (p := .rol ps) (A := fun a => ¬InF fp a) (by simpa [immutI] using hi) r
            | dic ps => simp [immutI, immut] at hi
            | dit ps => simp [immutI, immut] at hi
            | ins c ps => simp [immutI, immut] at hi
          · simp only [if_neg hi] at o; exact o.elim
      | own t =>
        obtain ⟨v, hv, r⟩ := hs
        cases m with
        | B => exact ⟨v, hv, o v H (fun _ _ q => q) (Rep.any (A := fun _ => True) (OTRep.free (A := Am C fp) (fun _ _ => trivial) (fun _ _ => trivial) r))⟩
        | E => cases t <;> exact o.elim
        | I =>
          cases t with
          | l ps => obtain ⟨a, xs, e, _, ha, rr⟩ := r; exact ⟨v, hv, o v H (fun _ _ q => q) ⟨a, xs, e, ha, rr⟩⟩
          | d ps => obtain ⟨a, xs, e, _, ha, rr⟩ := r; exact ⟨v, hv, o v H (fun _ _ q => q) ⟨a, xs, e, .inl ha, rr⟩⟩
          | dt ps => obtain ⟨a, xs, e, _, ha, rr⟩ := r; exact ⟨v, hv, o v H (fun _ _ q => q) ⟨a, xs, e, .inl ha, rr⟩⟩
          | ins c fs => obtain ⟨a, dx, xs, e, _, ha, rr⟩ := r; exact ⟨v, hv, o v H (fun _ _ q => q) ⟨a, dx, xs, e, ha, rr⟩⟩
          | fz p => exact o.elim
          | T ts => exact o.elim
          | L ts => exact o.elim
          | D ts => exact o.elim
          | I c ts => exact o.elim
          | P a ts => exact o.elim
          | M c ts => exact o.elim
def eC (p : PV) : E := fun _ => .ok p
/-- what is borne whatever the heap -/
def Atom (K : PySem.W.Frag) (p : PV) (v : V) : Prop := ∀ A H, Rep K A H p v
theorem atom_int {K : PySem.W.Frag} (i : Int) : Atom K (.int i) (.int i) := fun _ _ => rfl
theorem atom_bl {K : PySem.W.Frag} (i : Bool) : Atom K (.bl i) (.bl i) := fun _ _ => rfl
theorem atom_str {K : PySem.W.Frag} (x : Tx) : Atom K (.str x) (.str (mkS x)) := fun _ _ => rfl
theorem atom_non {K : PySem.W.Frag} : Atom K .non .non := fun _ _ => rfl
theorem Atom.rm {K : PySem.W.Frag} {p : PV} {v : V} (h : Atom K p v) {C : Addr → Prop} {fp : Fp} {m : Mode} {H : Hp} : RepM K C fp m H p v := by
  cases m with
  | E => exact h _ _
  | I => exact Rep.toI (h _ _)
  | B => exact h _ _
theorem ej_const {p : PV} {v : V} (h : PE X e (tC v)) (a : Atom X.K p v) : EJ X C W m e (eC p) := pe_weak h fun σ H Q ⟨ρ, fp, eo, o⟩ => o v H (fun _ _ q => q) a.rm
theorem ej_int {i : Int} {j : Nat} : EJ X C W m (.Constant (.int i) j pos) (eC (.int i)) := ej_const pe_int fun _ _ => rfl
theorem ej_bl {b : Bool} {j : Nat} : EJ X C W m (.Constant (.bool b) j pos) (eC (.bl b)) := ej_const pe_bl fun _ _ => rfl
theorem ej_non {j : Nat} : EJ X C W m (.Constant .none j pos) (eC .non) := ej_const pe_non fun _ _ => rfl
theorem ej_str {x : Tx} {z : Str} {j : Nat} (h : z = mkS x) : EJ X C W m (.Constant (.str z) j pos) (eC (.str x)) := ej_const pe_str fun _ _ => by rw [h]; rfl
/-- a whole number, a text of the top -/
theorem ej_gint {x : Str} {i : Int} (hg : Gl X x) (hm : ∃ t, X.mg x = some (.int i t)) (hd : (x == ("__debug__" : Str)) = false := by decide) : EJ X C W m (.Name x pos) (eC (.int i)) := by
  obtain ⟨t, hm⟩ := hm
  exact ej_const (pe_glob (v := .int i) hg hm ⟨t, rfl⟩ hd) fun _ _ => rfl
theorem ej_gstr {x : Str} {z : Tx} (hg : Gl X x) (hm : ∃ t, X.mg x = some (.str (mkS z) t)) (hd : (x == ("__debug__" : Str)) = false := by decide) : EJ X C W m (.Name x pos) (eC (.str z)) := by
  obtain ⟨t, hm⟩ := hm
  exact ej_const (pe_glob (v := .str (mkS z)) hg hm ⟨t, rfl⟩ hd) fun _ _ => rfl

/-! ### two in a row -/
theorem two {K : PySem.W.Frag} {σ : L2.St} {H : Hp} {fp : Fp} {ρ : Env} {α : Type} {k : PV → PV → Res α} {P : α → Prop} (eo : EnvOk K C ρ σ H fp)
    (o : Out (f1 ρ >>= fun x => f2 ρ >>= fun y => k x y) P (XQ K W σ H)) {R : V → V → Hp → Prop}
    (h : ∀ p q v u H2, Same H H2 → EnvOk K C ρ σ H2 fp → Out (k p q) P (XQ K W σ H) → RepM K C fp m1 H2 p v → RepM K C fp m2 H2 q u → R v u H2) :
    tE K C W m1 f1 σ H fun x H1 => tE K C W m2 f2 σ H1 fun y H2 => R x y H2 := by
  refine ⟨ρ, fp, eo, (Out.bind o).mono (fun p o1 v H1 s1 r1 => ?_) fun _ _ q => q⟩
  refine ⟨ρ, fp, eo.same s1, (Out.bind o1).mono (fun q o2 u H2 s2 r2 => ?_) fun _ _ q => q.later s1⟩
  exact h p q v u H2 (s1.trans s2) (eo.same (s1.trans s2)) o2 (r1.same s2) r2
theorem Out.ofO {α : Type} {o : Option α} {P : α → Prop} {E' : XF} (h : Out (Fz.ofO o) P E') : ∃ a, o = some a ∧ P a := by
  cases o with
  | none => exact h.elim
  | some a => exact ⟨a, rfl, h⟩

/-! ### a op b: whole numbers in, a whole number out -/
def gI (g : Int → Int → Option Int) : PV → PV → Option PV
  | .int i, .int j => (g i j).map .int
  | _, _ => none
def eBin (g : PV → PV → Option PV) (f1 f2 : E) : E := fun ρ => f1 ρ >>= fun x => f2 ρ >>= fun y => ofO (g x y)
theorem gI_some {g : Int → Int → Option Int} {p q z : PV} (h : gI g p q = some z) : ∃ i j k, p = .int i ∧ q = .int j ∧ g i j = some k ∧ z = .int k := by
  cases p <;> cases q <;> simp [gI] at h
  obtain ⟨k, h1, h2⟩ := h
  exact ⟨_, _, k, rfl, rfl, h1, h2.symm⟩
theorem ej_binI {op : Operator} {cnd : Int → Int → Prop} {g' : Int → Int → Int} {g : Int → Int → Option Int} (ho : OpR X (binaryOp op) (rI cnd fun i j => .int (g' i j))) (hg : ∀ i j k, g i j = some k → cnd i j ∧ k = g' i j)
    (h1 : EJ X C W m1 e1 f1) (h2 : EJ X C W m2 e2 f2) : EJ X C W m (.BinOp e1 op e2 pos) (eBin (gI g) f1 f2) :=
  pe_weak (pe_op ho h1 h2) fun σ H Q ⟨ρ, fp, eo, o⟩ => two (m1 := m1) (m2 := m2) eo o fun p q v u H2 s eo2 o2 r1 r2 => by
    obtain ⟨z, hz, hQ⟩ := Out.ofO o2
    obtain ⟨i, j, k, rfl, rfl, hk, rfl⟩ := gI_some hz
    obtain ⟨c, rfl⟩ := hg _ _ _ hk
    have e1 : v = .int i := RepM.toB r1
    have e2 : u = .int j := RepM.toB r2
    exact ⟨i, j, e1, e2, c, hQ _ H2 s (atom_int _).rm⟩
def gSub : PV → PV → Option PV := gI fun i j => some (i - j)
def gMod : PV → PV → Option PV := gI fun i j => if 0 < j then some (i % j) else none
def gDiv : PV → PV → Option PV := gI fun i j => if 0 < j ∧ j < 1073741824 then some (i / j) else none
def gPow : PV → PV → Option PV := gI fun i j => if 0 ≤ j ∧ j ≤ 1000000 ∧ i.natAbs < 2 ^ 64 then some (i ^ j.toNat) else none
theorem op_sub' : OpR X (binaryOp .Sub) (rI (fun _ _ => True) fun i j => .int (i - j)) := fun pins s σ H x y v u Q I rx ry ⟨i, j, e1, e2, _, q⟩ => op_sub pins s σ H x y v u Q I rx ry ⟨i, j, e1, e2, q⟩
theorem ej_sub (h1 : EJ X C W m1 e1 f1) (h2 : EJ X C W m2 e2 f2) : EJ X C W m (.BinOp e1 .Sub e2 pos) (eBin gSub f1 f2) :=
  ej_binI op_sub' (fun i j k h => ⟨trivial, (Option.some.inj h).symm⟩) h1 h2
theorem ej_mod (h1 : EJ X C W m1 e1 f1) (h2 : EJ X C W m2 e2 f2) : EJ X C W m (.BinOp e1 .Mod e2 pos) (eBin gMod f1 f2) :=
  ej_binI op_mod (fun i j k h => by
    by_cases c : 0 < j
    · simp only [if_pos c, Option.some.injEq] at h; exact ⟨c, h.symm⟩
    · simp [if_neg c] at h) h1 h2
theorem ej_fdiv (h1 : EJ X C W m1 e1 f1) (h2 : EJ X C W m2 e2 f2) : EJ X C W m (.BinOp e1 .FloorDiv e2 pos) (eBin gDiv f1 f2) :=
  ej_binI op_fdiv (fun i j k h => by
    by_cases c : 0 < j ∧ j < 1073741824
    · simp only [if_pos c, Option.some.injEq] at h; exact ⟨c, h.symm⟩
    · simp [if_neg c] at h) h1 h2
theorem ej_pow (h1 : EJ X C W m1 e1 f1) (h2 : EJ X C W m2 e2 f2) : EJ X C W m (.BinOp e1 .Pow e2 pos) (eBin gPow f1 f2) :=
  ej_binI op_pow (fun i j k h => by
    by_cases c : 0 ≤ j ∧ j ≤ 1000000 ∧ i.natAbs < 2 ^ 64
    · simp only [if_pos c, Option.some.injEq] at h; exact ⟨c, h.symm⟩
    · simp [if_neg c] at h) h1 h2
def eUn (g : PV → Option PV) (f : E) : E := fun ρ => f ρ >>= fun x => ofO (g x)
def gNeg : PV → Option PV
  | .int i => some (.int (-i))
  | _ => none
theorem ej_neg (h : EJ X C W m1 e f) : EJ X C W m (.UnaryOp .USub e pos) (eUn gNeg f) := pe_weak (pe_un un_neg h) fun σ H Q ⟨ρ, fp, eo, o⟩ => by
  refine ⟨ρ, fp, eo, (Out.bind o).mono (fun p o1 v H1 s1 r1 => ?_) fun _ _ q => q⟩
  obtain ⟨z, hz, hQ⟩ := Out.ofO o1
  cases p <;> simp only [gNeg, Option.some.injEq, reduceCtorEq] at hz
  subst hz
  exact ⟨_, RepM.toB r1, hQ _ H1 s1 (atom_int _).rm⟩

/-! ### comparisons -/
abbrev Cmp := PV → PV → Option Bool
/-- the rule's reading holds where g answers -/
def CmpOk (K : PySem.W.Frag) (r : R2) (g : Cmp) : Prop := ∀ p q b H v u Q, g p q = some b → Rep K (fun _ => True) H p v → Rep K (fun _ => True) H q u → Q (.bl b) H → r v u H Q
def eCmp (g : Cmp) (f1 f2 : E) : E := fun ρ => f1 ρ >>= fun x => f2 ρ >>= fun y => ofO (g x y) >>= fun b => .ok (.bl b)
def tCmp (g : Cmp) (f1 f2 : E) : T := fun ρ => f1 ρ >>= fun x => f2 ρ >>= fun y => ofO (g x y)
variable {op : CmpOp} {r : R2} {g : Cmp}
theorem ej_cmp (ho : OpR X (compareOp op) r) (hg : CmpOk X.K r g) (h1 : EJ X C W m1 e1 f1) (h2 : EJ X C W m2 e2 f2) (hm : behindInMarks op e2 = false) : EJ X C W m (.Compare e1 [op] [e2] pos) (eCmp g f1 f2) :=
  pe_weak (pe_cmpR ho h1 h2 hm) fun σ H Q ⟨ρ, fp, eo, o⟩ => two (m1 := m1) (m2 := m2) eo o fun p q v u H2 s eo2 o2 r1 r2 => by
    obtain ⟨z, hz, hQ⟩ := Out.ofO (Out.bind o2)
    exact hg p q z H2 v u Q hz (RepM.toB r1) (RepM.toB r2) (hQ _ H2 s (atom_bl _).rm)
theorem tj_cmp (ho : OpR X (compareOp op) r) (hg : CmpOk X.K r g) (h1 : EJ X C W m1 e1 f1) (h2 : EJ X C W m2 e2 f2) (hm : behindInMarks op e2 = false) : TJ X C W (.Compare e1 [op] [e2] pos) (tCmp g f1 f2) :=
  pt_weak (pt_cmpR ho h1 h2 hm) fun σ H Q ⟨ρ, fp, eo, o⟩ => two (m1 := m1) (m2 := m2) eo o fun p q v u H2 s eo2 o2 r1 r2 => by
    obtain ⟨z, hz, hQ⟩ := Out.ofO o2
    exact hg p q z H2 v u _ hz (RepM.toB r1) (RepM.toB r2) ⟨z, rfl, hQ H2 s⟩
/-- a op1 b op2 c, as a test and as a value -/
def tChn (g g' : Cmp) (f1 f2 f3 : E) : T := fun ρ => f1 ρ >>= fun x => f2 ρ >>= fun y => ofO (g x y) >>= fun b => if b = true then f3 ρ >>= fun z => ofO (g' y z) else .ok false
theorem tj_chain {op' : CmpOp} {r' : R2} {g' : Cmp} (ho : OpR X (compareOp op) r) (hg : CmpOk X.K r g) (ho' : OpR X (compareOp op') r') (hg' : CmpOk X.K r' g') (h1 : EJ X C W m1 e1 f1) (h2 : EJ X C W m2 e2 f2) (h3 : EJ X C W m3 e3 f3)
    (hm : lastMarks [op, op'] [e2, e3] = false := by with_unfolding_all rfl) : TJ X C W (.Compare e1 [op, op'] [e2, e3] pos) (tChn g g' f1 f2 f3) :=
  pt_weak (pt_chain ho ho' h1 h2 h3 hm) fun σ H Q ⟨ρ, fp, eo, o⟩ => two (m1 := m1) (m2 := m2) eo o fun p q v u H2 s eo2 o2 r1 r2 => by
    obtain ⟨z, hz, hQ⟩ := Out.ofO (Out.bind o2)
    refine hg p q z H2 v u _ hz (RepM.toB r1) (RepM.toB r2) ⟨z, rfl, ?_⟩
    cases z with
    | false => exact ⟨false, rfl, hQ H2 s⟩
    | true =>
      simp only [if_true] at hQ ⊢
      refine ⟨ρ, fp, eo2, (Out.bind hQ).mono (fun p3 o3 w H3 s3 r3 => ?_) fun _ _ q => q.later s⟩
      obtain ⟨z2, hz2, hQ2⟩ := Out.ofO o3
      exact hg' q p3 z2 H3 u w _ hz2 (RepM.toB (r2.same s3)) (RepM.toB r3) ⟨z2, rfl, hQ2 H3 (s.trans s3)⟩

/-! ### and, or, not, if -/
def WJ (X : Cx) (C : Addr → Prop) (W : WX) (e : Expr) (f : T) : Prop := PW X e (tT X.K C W f)
variable {t1 t2 : T} {rest : List Expr}
def tAndF (t1 t2 : T) : T := fun ρ => t1 ρ >>= fun b => if b = true then t2 ρ else .ok false
def tOrF (t1 t2 : T) : T := fun ρ => t1 ρ >>= fun b => if b = true then .ok true else t2 ρ
def tNotF (t1 : T) : T := fun ρ => t1 ρ >>= fun b => .ok (!b)
theorem wj_and1 (h : TJ X C W e t1) : WJ X C W (.BoolOp .And [e] pos) t1 := pw_and1 h
theorem wj_or1 (h : TJ X C W e t1) : WJ X C W (.BoolOp .Or [e] pos) t1 := pw_or1 h
theorem wj_and (h : TJ X C W e1 t1) (h2 : WJ X C W (.BoolOp .And (e2 :: rest) pos) t2) : WJ X C W (.BoolOp .And (e1 :: e2 :: rest) pos) (tAndF t1 t2) := pw_weak (pw_and h h2) fun σ H Q ⟨ρ, fp, eo, o⟩ => by
  refine ⟨ρ, fp, eo, (Out.bind o).mono (fun b o1 H1 s1 => ?_) fun _ _ q => q⟩
  cases b with
  | true => exact ⟨ρ, fp, eo.same s1, o1.mono (fun b q H2 s2 => q H2 (s1.trans s2)) fun _ _ q => q.later s1⟩
  | false => exact o1 H1 s1
theorem wj_or (h : TJ X C W e1 t1) (h2 : WJ X C W (.BoolOp .Or (e2 :: rest) pos) t2) : WJ X C W (.BoolOp .Or (e1 :: e2 :: rest) pos) (tOrF t1 t2) := pw_weak (pw_or h h2) fun σ H Q ⟨ρ, fp, eo, o⟩ => by
  refine ⟨ρ, fp, eo, (Out.bind o).mono (fun b o1 H1 s1 => ?_) fun _ _ q => q⟩
  cases b with
  | true => exact o1 H1 s1
  | false => exact ⟨ρ, fp, eo.same s1, o1.mono (fun b q H2 s2 => q H2 (s1.trans s2)) fun _ _ q => q.later s1⟩
theorem wj_tj (h : WJ X C W e t1) : TJ X C W e t1 := PW.pt h
theorem tj_not (h : TJ X C W e t1) : TJ X C W (.UnaryOp .Not e pos) (tNotF t1) := pt_weak (pt_not h) fun σ H Q ⟨ρ, fp, eo, o⟩ => ⟨ρ, fp, eo, (Out.bind o).mono (fun b q H1 s1 => q H1 s1) fun _ _ q => q⟩
/-- .. as values: all but the last are True or False -/
def bOf : PV → Res Bool
  | .bl b => .ok b
  | _ => .bad
def eAnd (f1 f2 : E) : E := fun ρ => f1 ρ >>= fun x => bOf x >>= fun b => if b = true then f2 ρ else .ok (.bl false)
def eOr (f1 f2 : E) : E := fun ρ => f1 ρ >>= fun x => bOf x >>= fun b => if b = true then .ok (.bl true) else f2 ρ
def eNot (f1 : E) : E := fun ρ => f1 ρ >>= fun x => bOf x >>= fun b => .ok (.bl (!b))
theorem ej_one {o : BoolOp} (h : EJ X C W m e f) : EJ X C W m (.BoolOp o [e] pos) f := pe_one h
theorem Out.bOf {p : PV} {α : Type} {k : Bool → Res α} {P : α → Prop} {E' : XF} (h : Out (Fz.bOf p >>= k) P E') : ∃ b, p = .bl b ∧ Out (k b) P E' := by
  cases p <;> first | exact ⟨_, rfl, h⟩ | exact h.elim
theorem ej_and (h1 : EJ X C W m1 e1 f1) (h2 : EJ X C W m (.BoolOp .And (e2 :: rest) pos) f2) : EJ X C W m (.BoolOp .And (e1 :: e2 :: rest) pos) (eAnd f1 f2) := pe_weak (pe_and h1 h2) fun σ H Q ⟨ρ, fp, eo, o⟩ => by
  refine ⟨ρ, fp, eo, (Out.bind o).mono (fun p o1 v H1 s1 r1 => ?_) fun _ _ q => q⟩
  obtain ⟨b, rfl, o2⟩ := Out.bOf o1
  refine ⟨b, RepM.toB r1, ?_⟩
  cases b with
  | true => exact ⟨ρ, fp, eo.same s1, o2.mono (fun b q v H2 s2 => q v H2 (s1.trans s2)) fun _ _ q => q.later s1⟩
  | false => exact o2 _ H1 s1 (atom_bl _).rm
theorem ej_or (h1 : EJ X C W m1 e1 f1) (h2 : EJ X C W m (.BoolOp .Or (e2 :: rest) pos) f2) : EJ X C W m (.BoolOp .Or (e1 :: e2 :: rest) pos) (eOr f1 f2) := pe_weak (pe_or h1 h2) fun σ H Q ⟨ρ, fp, eo, o⟩ => by
  refine ⟨ρ, fp, eo, (Out.bind o).mono (fun p o1 v H1 s1 r1 => ?_) fun _ _ q => q⟩
  obtain ⟨b, rfl, o2⟩ := Out.bOf o1
  refine ⟨b, RepM.toB r1, ?_⟩
  cases b with
  | true => exact o2 _ H1 s1 (atom_bl _).rm
  | false => exact ⟨ρ, fp, eo.same s1, o2.mono (fun b q v H2 s2 => q v H2 (s1.trans s2)) fun _ _ q => q.later s1⟩
theorem ej_not (h1 : EJ X C W m1 e1 f1) : EJ X C W m (.UnaryOp .Not e1 pos) (eNot f1) := pe_weak (pe_not h1) fun σ H Q ⟨ρ, fp, eo, o⟩ => by
  refine ⟨ρ, fp, eo, (Out.bind o).mono (fun p o1 v H1 s1 r1 => ?_) fun _ _ q => q⟩
  obtain ⟨b, rfl, o2⟩ := Out.bOf o1
  exact ⟨b, RepM.toB r1, o2 _ H1 s1 (atom_bl _).rm⟩
def eIf (t : T) (f1 f2 : E) : E := fun ρ => t ρ >>= fun b => if b = true then f1 ρ else f2 ρ
theorem ej_if (h : TJ X C W e t1) (h1 : EJ X C W m e1 f1) (h2 : EJ X C W m e2 f2) : EJ X C W m (.IfExp e e1 e2 pos) (eIf t1 f1 f2) := pe_weak (pe_ifExp h h1 h2) fun σ H Q ⟨ρ, fp, eo, o⟩ => by
  refine ⟨ρ, fp, eo, (Out.bind o).mono (fun b o1 H1 s1 => ?_) fun _ _ q => q⟩
  cases b with
  | true => exact ⟨ρ, fp, eo.same s1, o1.mono (fun b q v H2 s2 => q v H2 (s1.trans s2)) fun _ _ q => q.later s1⟩
  | false => exact ⟨ρ, fp, eo.same s1, o1.mono (fun b q v H2 s2 => q v H2 (s1.trans s2)) fun _ _ q => q.later s1⟩
def oIf (t : T) (f1 f2 : O) : O := fun ρ => t ρ >>= fun b => if b = true then f1 ρ else f2 ρ
theorem OJ.later {K : PySem.W.Frag} {f : O} {σ : L2.St} {H H1 : Hp} {Q : VK} {ρ : Env} {fp : Fp} (eo : EnvOk K C ρ σ H fp) (s1 : Same H H1)
    (o : Out (f ρ) (fun t => ∀ v H' Fn, Same H H' → Fn.Nodup → (∀ a ∈ Fn, H a = none) → OTRep K (fun a => Am C fp a ∧ a ∉ Fn) H' t v Fn → Q v H') (XQ K W σ H)) : tO K C W f σ H1 Q :=
  ⟨ρ, fp, eo.same s1, o.mono (fun t q v H2 Fn s2 hn hf r => q v H2 Fn (s1.trans s2) hn (fun a ha => by
    cases z : H a with
    | none => rfl
    | some o => have := hf a ha; rw [s1 a o z] at this; cases this) r) fun _ _ q => q.later s1⟩
theorem oj_if {f1 f2 : O} (h : TJ X C W e t1) (h1 : OJ X C W e1 f1) (h2 : OJ X C W e2 f2) : OJ X C W (.IfExp e e1 e2 pos) (oIf t1 f1 f2) := pe_weak (pe_ifExp h h1 h2) fun σ H Q ⟨ρ, fp, eo, o⟩ => by
  refine ⟨ρ, fp, eo, (Out.bind o).mono (fun b o1 H1 s1 => ?_) fun _ _ q => q⟩
  cases b with
  | true => exact OJ.later eo s1 o1
  | false => exact OJ.later eo s1 o1
/-- the truth of a value -/
def truth : PV → Res Bool
  | .non => .ok false
  | .bl b => .ok b
  | .int i => .ok (i != 0)
  | .str x => if x.length ≤ sizeLine then .ok (!x.isEmpty) else .bad
  | .lst ps => .ok (!ps.isEmpty)
  | .rol ps => .ok (!ps.isEmpty)
  | .tup ps => .ok (!ps.isEmpty)
  | _ => .bad
def tOfE (f : E) : T := fun ρ => f ρ >>= truth
theorem isEmpty_reps {K : PySem.W.Frag} {A : Addr → Prop} {H : Hp} {ps : List PV} {vs : List V} (r : Reps K A H ps vs) : vs.isEmpty = ps.isEmpty := by
  cases ps with
  | nil => rw [show vs = [] from r]; rfl
  | cons p ps => obtain ⟨x, t, rfl, _⟩ := r; rfl
theorem tru_of {K : PySem.W.Frag} {H : Hp} {p : PV} {v : V} {b : Bool} (h : truth p = .ok b) (r : Rep K (fun _ => True) H p v) : TruV K v H b := by
  cases p with
  | non => rw [show v = .non from r]; exact (Res.ok.inj h).symm
  | bl c => rw [show v = .bl c from r]; exact (Res.ok.inj h).symm
  | int c => rw [show v = .int c from r]; exact (Res.ok.inj h).symm
  | str x =>
    rw [show v = .str (mkS x) from r]
    simp only [truth] at h
    split at h
    · rename_i hl
      refine ⟨by rw [mkS_length]; exact hl, ?_⟩
      rw [mkS_length, ← Res.ok.inj h]
      cases x <;> simp <;> omega
    · cases h
  | lst ps => obtain ⟨a, xs, rfl, _, l, rr⟩ := r; exact .inl ⟨xs, SqL.of l, by rw [isEmpty_reps rr]; exact (Res.ok.inj h).symm⟩
  | rol ps => obtain ⟨a, xs, rfl, l, rr⟩ := r; exact .inl ⟨xs, l.sq, by rw [isEmpty_reps rr]; exact (Res.ok.inj h).symm⟩
  | tup ps => obtain ⟨a, xs, rfl, l, rr⟩ := r; exact .inr (.inl ⟨xs, SqT.of l, by rw [isEmpty_reps rr]; exact (Res.ok.inj h).symm⟩)
  | dic ps => simp [truth] at h
  | dit ps => simp [truth] at h
  | ins c ps => simp [truth] at h
theorem truth_noexc {p : PV} {c : String} {fs : Option (List (String × PV))} : truth p ≠ .exc c fs := by
  cases p <;> simp only [truth] <;> first | (intro h; cases h; done) | (split <;> intro h <;> cases h)
theorem tj_val (h : EJ X C W m e f) (he : ∀ whole, isTrue e X.env whole = (do let v ← whole; standAt e.pos; holding [v] (truthy v)) := by intro _; rfl) : TJ X C W e (tOfE f) := pt_weak (pt_truth h he) fun σ H Q ⟨ρ, fp, eo, o⟩ => by
  refine ⟨ρ, fp, eo, (Out.bind o).mono (fun p o1 v H1 s1 r1 => ?_) fun _ _ q => q⟩
  cases z : truth p with
  | ok b => rw [z] at o1; exact ⟨b, tru_of z (RepM.toB r1), o1 H1 s1⟩
  | exc c fs => exact (truth_noexc z).elim
  | bad => rw [z] at o1; exact o1.elim
end
end Fz
end
section
/-! FwE: equality, in, +, *, subscripts, displays, built-in calls. -/
namespace Fz
open PySem PySem.Spec PyProof.Rows L2

/-! ### equality of data -/
mutual
def isData : PV → Bool
  | .non => true | .bl _ => true | .int _ => true | .str _ => true
  | .tup ps => isDatas ps | .lst ps => isDatas ps | .rol ps => isDatas ps
  | .dic _ => false | .dit _ => false | .ins _ _ => false
def isDatas : List PV → Bool
  | [] => true
  | p :: ps => isData p && isDatas ps
end
mutual
def dep : PV → Nat
  | .tup ps => deps ps + 1 | .lst ps => deps ps + 1 | .rol ps => deps ps + 1
  | _ => 0
def deps : List PV → Nat
  | [] => 0
  | p :: ps => max (dep p) (deps ps)
end
mutual
def pvEq : PV → PV → Bool
  | .non, .non => true
  | .bl a, .bl b => a == b
  | .bl a, .int j => (if a then 1 else 0) == j
  | .int i, .bl b => i == (if b then 1 else 0)
  | .int i, .int j => i == j
  | .str x, .str y => x == y
  | .lst xs, .lst ys => pvEqs xs ys
  | .rol xs, .lst ys => pvEqs xs ys
  | .lst xs, .rol ys => pvEqs xs ys
  | .rol xs, .rol ys => pvEqs xs ys
  | .tup xs, .tup ys => pvEqs xs ys
  | _, _ => false
def pvEqs : List PV → List PV → Bool
  | [], [] => true
  | x :: xs, y :: ys => pvEq x y && pvEqs xs ys
  | _, _ => false
end
mutual
def toD : PV → PyData
  | .non => .none | .bl b => .bool b | .int i => .int i | .str x => .str (mkS x)
  | .tup ps => .tuple (toDs ps) | .lst ps => .list (toDs ps) | .rol ps => .list (toDs ps)
  | .dic _ => .dict [] | .dit _ => .dict [] | .ins _ _ => .dict []
def toDs : List PV → List PyData
  | [] => []
  | p :: ps => toD p :: toDs ps
end
mutual
theorem toD_lay : ∀ p : PV, (toD p).canLay0 = isData p
  | .non => rfl | .bl _ => rfl | .int _ => rfl
  | .str x => by simp only [toD, PyData.canLay0, isData]; exact mkS_ok x
  | .tup ps => by simp only [toD, PyData.canLay0, isData]; exact toDs_lay ps
  | .lst ps => by simp only [toD, PyData.canLay0, isData]; exact toDs_lay ps
  | .rol ps => by simp only [toD, PyData.canLay0, isData]; exact toDs_lay ps
  | .dic _ => rfl | .dit _ => rfl | .ins _ _ => rfl
theorem toDs_lay : ∀ ps : List PV, PyData.canLayAll0 (toDs ps) = isDatas ps
  | [] => rfl
  | p :: ps => by simp only [toDs, PyData.canLayAll0, isDatas, toD_lay p, toDs_lay ps]
end
mutual
theorem toD_dep : ∀ p : PV, isData p = true → (toD p).depth = dep p
  | .non, _ => rfl | .bl _, _ => rfl | .int _, _ => rfl | .str x, _ => rfl
  | .tup ps, h => by simp only [toD, PyData.depth, dep]; rw [toDs_dep ps (by simpa [isData] using h)]
  | .lst ps, h => by simp only [toD, PyData.depth, dep]; rw [toDs_dep ps (by simpa [isData] using h)]
  | .rol ps, h => by simp only [toD, PyData.depth, dep]; rw [toDs_dep ps (by simpa [isData] using h)]
  | .dic _, h => by simp [isData] at h
  | .dit _, h => by simp [isData] at h
  | .ins _ _, h => by simp [isData] at h
theorem toDs_dep : ∀ ps : List PV, isDatas ps = true → PyData.depthAll (toDs ps) = deps ps
  | [], _ => rfl
  | p :: ps, h => by
    simp only [isDatas, Bool.and_eq_true] at h
    simp only [toDs, PyData.depthAll, deps, toD_dep p h.1, toDs_dep ps h.2]
end
theorem str_beq (x y : Tx) : (mkS x == mkS y) = (x == y) := by
  by_cases h : x = y
  · subst h; simp
  · rw [beq_eq_false_iff_ne.mpr h]; exact beq_eq_false_iff_ne.mpr fun e => h (mkS_inj e)
mutual
theorem toD_eqv : ∀ (p q : PV), isData p = true → isData q = true → PyData.eqv (toD p) (toD q) = pvEq p q := fun p q hp hq => by
  cases p with
  | dic _ => simp [isData] at hp
  | dit _ => simp [isData] at hp
  | ins _ _ => simp [isData] at hp
  | str x =>
    cases q <;> simp only [toD, PyData.eqv, pvEq]
    exact str_beq _ _
  | tup ps =>
    cases q <;> simp only [toD, PyData.eqv, pvEq]
    exact toDs_eqv ps _ (by simpa [isData] using hp) (by simpa [isData] using hq)
  | lst ps =>
    cases q <;> simp only [toD, PyData.eqv, pvEq]
    · exact toDs_eqv ps _ (by simpa [isData] using hp) (by simpa [isData] using hq)
    · exact toDs_eqv ps _ (by simpa [isData] using hp) (by simpa [isData] using hq)
  | rol ps =>
    cases q <;> simp only [toD, PyData.eqv, pvEq]
    · exact toDs_eqv ps _ (by simpa [isData] using hp) (by simpa [isData] using hq)
    · exact toDs_eqv ps _ (by simpa [isData] using hp) (by simpa [isData] using hq)
  | non => cases q <;> simp only [toD, PyData.eqv, pvEq]
  | bl b => cases q <;> simp only [toD, PyData.eqv, pvEq]
  | int b => cases q <;> simp only [toD, PyData.eqv, pvEq]
theorem toDs_eqv : ∀ (ps qs : List PV), isDatas ps = true → isDatas qs = true → PyData.eqvAll (toDs ps) (toDs qs) = pvEqs ps qs
  | [], [], _, _ => rfl
  | [], _ :: _, _, _ => rfl
  | _ :: _, [], _, _ => rfl
  | p :: ps, q :: qs, h1, h2 => by
    simp only [isDatas, Bool.and_eq_true] at h1 h2
    simp only [toDs, PyData.eqvAll, pvEqs, toD_eqv p q h1.1 h2.1, toDs_eqv ps qs h1.2 h2.2]
end
def eqOk (p : PV) : Bool := isData p && decide (dep p ≤ 64)
theorem shaped_of {p : PV} (h : eqOk p = true) : SeqAt.shaped (toD p) = true := by
  simp only [eqOk, Bool.and_eq_true, decide_eq_true_eq] at h
  simp only [SeqAt.shaped, Bool.and_eq_true, decide_eq_true_eq, toD_lay, toD_dep p h.1]
  exact h
theorem data_of {p : PV} (h : eqOk p = true) : isData p = true := (Bool.and_eq_true_iff.mp h).1
section
variable {K : PySem.W.Frag} {A : Addr → Prop} {H : Hp}
mutual
theorem Rep.dp : ∀ {p : PV} {v : V}, isData p = true → Rep K A H p v → Dp K H v (toD p)
  | .non, _, _, h => by rw [show _ = V.non from h]; exact .non
  | .bl b, _, _, h => by rw [show _ = V.bl b from h]; exact .bl b
  | .int b, _, _, h => by rw [show _ = V.int b from h]; exact .int b
  | .str b, _, _, h => by rw [show _ = V.str (mkS b) from h]; exact .str _
  | .tup ps, _, d, h => by
    obtain ⟨a, xs, rfl, hs, r⟩ := h
    exact .tup (SqT.of hs) (Reps.dp (by simpa [isData] using d) r)
  | .lst ps, _, d, h => by
    obtain ⟨a, xs, rfl, _, hs, r⟩ := h
    exact .lst (SqL.of hs) (Reps.dp (by simpa [isData] using d) r)
  | .rol ps, _, d, h => by
    obtain ⟨a, xs, rfl, hs, r⟩ := h
    exact .lst hs.sq (Reps.dp (by simpa [isData] using d) r)
  | .dic _, _, d, _ => by simp [isData] at d
  | .dit _, _, d, _ => by simp [isData] at d
  | .ins _ _, _, d, _ => by simp [isData] at d
theorem Reps.dp : ∀ {ps : List PV} {vs : List V}, isDatas ps = true → Reps K A H ps vs → DpAll K H vs (toDs ps)
  | [], _, _, h => by rw [show _ = [] from h]; exact .nil
  | p :: ps, _, d, h => by
    obtain ⟨x, r, rfl, h1, h2⟩ := h
    simp only [isDatas, Bool.and_eq_true] at d
    exact .cons (Rep.dp d.1 h1) (Reps.dp d.2 h2)
end
end
def gEq : Cmp := fun p q => if eqOk p && eqOk q then some (pvEq p q) else none
def gNe : Cmp := fun p q => if eqOk p && eqOk q then some (!pvEq p q) else none
/-- room for what compares deeply -/
def Hu (X : Cx) : Prop := X.A.units + 150 < cLine
section
variable {X : Cx}
theorem Hu.u64 (h : Hu X) : X.A.units + 64 < cLine := by have : X.A.units + 150 < cLine := h; omega
theorem Hu.u65 (h : Hu X) : X.A.units + 65 < cLine := by have : X.A.units + 150 < cLine := h; omega
theorem Hu.u1 (h : Hu X) : X.A.units + 1 < cLine := by have : X.A.units + 150 < cLine := h; omega
theorem Hu.u0 (h : Hu X) : X.A.units < cLine := by have : X.A.units + 150 < cLine := h; omega
theorem cmp_eq : CmpOk X.K (rEqD X.K) gEq := fun p q b H v u Q hg r1 r2 hQ => by
  unfold gEq at hg
  split at hg
  · rename_i h
    simp only [Bool.and_eq_true] at h
    refine ⟨toD p, toD q, r1.dp (data_of h.1), r2.dp (data_of h.2), shaped_of h.1, shaped_of h.2, ?_⟩
    rw [toD_eqv p q (data_of h.1) (data_of h.2), Option.some.inj hg]
    exact hQ
  · cases hg
theorem cmp_ne : CmpOk X.K (rNeD X.K) gNe := fun p q b H v u Q hg r1 r2 hQ => by
  unfold gNe at hg
  split at hg
  · rename_i h
    simp only [Bool.and_eq_true] at h
    refine ⟨toD p, toD q, r1.dp (data_of h.1), r2.dp (data_of h.2), shaped_of h.1, shaped_of h.2, ?_⟩
    rw [toD_eqv p q (data_of h.1) (data_of h.2), Option.some.inj hg]
    exact hQ
  · cases hg
/-! ### is None -/
def isNonP : PV → Bool
  | .non => true
  | _ => false
def gIsN : Cmp := fun p q => match q with
  | .non => some (isNonP p)
  | _ => none
def gNotN : Cmp := fun p q => match q with
  | .non => some (!isNonP p)
  | _ => none
theorem rep_non {K : PySem.W.Frag} {A : Addr → Prop} {H : Hp} {p : PV} {v : V} (r : Rep K A H p v) : decide (v = .non) = isNonP p := by
  cases p with
  | non => rw [show v = .non from r]; rfl
  | bl b => rw [show v = .bl b from r]; rfl
  | int b => rw [show v = .int b from r]; rfl
  | str b => rw [show v = .str (mkS b) from r]; rfl
  | tup ps => obtain ⟨a, xs, rfl, _⟩ := r; rfl
  | lst ps => obtain ⟨a, xs, rfl, _⟩ := r; rfl
  | rol ps => obtain ⟨a, xs, rfl, _⟩ := r; rfl
  | dic ps => obtain ⟨a, xs, rfl, _⟩ := r; rfl
  | dit ps => obtain ⟨a, xs, rfl, _⟩ := r; rfl
  | ins c ps => obtain ⟨a, dx, xs, rfl, _⟩ := r; rfl
theorem cmp_isN : CmpOk X.K (fun x y H Q => y = .non ∧ Q (.bl (decide (x = .non))) H) gIsN := fun p q b H v u Q hg r1 r2 hQ => by
  cases q <;> simp only [gIsN, Option.some.injEq, reduceCtorEq] at hg
  exact ⟨r2, by rw [rep_non r1, hg]; exact hQ⟩
theorem cmp_notN : CmpOk X.K (fun x y H Q => y = .non ∧ Q (.bl (!decide (x = .non))) H) gNotN := fun p q b H v u Q hg r1 r2 hQ => by
  cases q <;> simp only [gNotN, Option.some.injEq, reduceCtorEq] at hg
  exact ⟨r2, by rw [rep_non r1, hg]; exact hQ⟩
/-! ### order -/
def txLt (x y : Tx) : Bool := decide (x.map Fin.val < y.map Fin.val)
def gOrd (fi : Int → Int → Bool) (fs : Tx → Tx → Bool) : Cmp := fun p q => match p, q with
  | .int i, .int j => some (fi i j)
  | .str x, .str y => some (fs x y)
  | _, _ => none
def rOrd (fi : Int → Int → Bool) (fs : List Nat → List Nat → Bool) : R2 := fun x y H Q => rI0 (fun i j => .bl (fi i j)) x y H Q ∨ ∃ i j, x = .str i ∧ y = .str j ∧ Q (.bl (fs i.cps.toList j.cps.toList)) H
theorem cmp_ord {fi : Int → Int → Bool} {fs : Tx → Tx → Bool} {fs' : List Nat → List Nat → Bool} (h : ∀ x y, fs' (x.map Fin.val) (y.map Fin.val) = fs x y) : CmpOk X.K (rOrd fi fs') (gOrd fi fs) := fun p q b H v u Q hg r1 r2 hQ => by
  cases p <;> cases q <;> simp only [gOrd, Option.some.injEq, reduceCtorEq] at hg
  · subst hg; exact .inl ⟨_, _, r1, r2, hQ⟩
  · subst hg
    refine .inr ⟨_, _, r1, r2, ?_⟩
    rw [mkS_cps, mkS_cps, h]
    exact hQ
abbrev gLt : Cmp := gOrd (fun i j => decide (i < j)) txLt
abbrev gGt : Cmp := gOrd (fun i j => decide (j < i)) fun x y => txLt y x
abbrev gLe : Cmp := gOrd (fun i j => decide (i ≤ j)) fun x y => !txLt y x
abbrev gGe : Cmp := gOrd (fun i j => decide (j ≤ i)) fun x y => !txLt x y

theorem opr_lt : OpR X (compareOp .Lt) (rOrd (fun i j => decide (i < j)) fun x y => decide (x < y)) := OpR.or op_lt op_lt_str
theorem opr_gt : OpR X (compareOp .Gt) (rOrd (fun i j => decide (j < i)) fun x y => decide (y < x)) := OpR.or op_gt op_gt_str
theorem opr_le : OpR X (compareOp .LtE) (rOrd (fun i j => decide (i ≤ j)) fun x y => !decide (y < x)) := OpR.or op_le op_le_str
theorem opr_ge : OpR X (compareOp .GtE) (rOrd (fun i j => decide (j ≤ i)) fun x y => !decide (x < y)) := OpR.or op_ge op_ge_str
theorem cmp_lt : CmpOk X.K (rOrd (fun i j => decide (i < j)) fun x y => decide (x < y)) gLt := cmp_ord fun _ _ => rfl
theorem cmp_gt : CmpOk X.K (rOrd (fun i j => decide (j < i)) fun x y => decide (y < x)) gGt := cmp_ord fun _ _ => rfl
theorem cmp_le : CmpOk X.K (rOrd (fun i j => decide (i ≤ j)) fun x y => !decide (y < x)) gLe := cmp_ord fun _ _ => rfl
theorem cmp_ge : CmpOk X.K (rOrd (fun i j => decide (j ≤ i)) fun x y => !decide (x < y)) gGe := cmp_ord fun _ _ => rfl

/-! ### in -/
def keyOf : PV → Option K1
  | .int i => some (.inl i)
  | .str x => some (.inr x)
  | _ => none
def keysOf : List PV → Option (List K1)
  | [] => some []
  | p :: ps => (keyOf p).bind fun k => (keysOf ps).map fun ks => k :: ks
def lookA {κ β : Type} [DecidableEq κ] (kvs : List (κ × β)) (k : κ) : Option β := (kvs.find? fun q => decide (q.1 = k)).map (·.2)
theorem rep_key {K : PySem.W.Frag} {A : Addr → Prop} {H : Hp} {p : PV} {v : V} {k : K1} (r : Rep K A H p v) (h : keyOf p = some k) : v = kV (k1 k) := by
  cases p <;> simp only [keyOf, Option.some.injEq, reduceCtorEq] at h
  · subst h; exact r
  · subst h; exact r
theorem reps_keys {K : PySem.W.Frag} {A : Addr → Prop} {H : Hp} : ∀ {ps : List PV} {vs : List V} {ks : List K1}, Reps K A H ps vs → keysOf ps = some ks → vs = (ks.map k1).map kV
  | [], _, _, r, h => by
    rw [show _ = [] from r]
    simp only [keysOf, Option.some.injEq] at h
    rw [← h]; rfl
  | p :: ps, _, ks, r, h => by
    obtain ⟨x, t, rfl, r1, r2⟩ := r
    simp only [keysOf] at h
    cases e : keyOf p with
    | none => rw [e] at h; cases h
    | some k =>
      rw [e] at h
      cases e2 : keysOf ps with
      | none => rw [e2] at h; cases h
      | some ks' =>
        rw [e2] at h
        cases h
        rw [rep_key r1 e, reps_keys r2 e2]; rfl
theorem key_dec (a b : K1) : decide (k1 a = k1 b) = decide (a = b) := by
  by_cases h : a = b
  · subst h; simp
  · rw [decide_eq_false h]; exact decide_eq_false fun e => h (k1_inj e)
theorem repK_val {K : PySem.W.Frag} {A : Addr → Prop} {H : Hp} (k : K1) : ∀ {kvs : List (K1 × PV)} {ks : List (Key × V)}, RepK K A H kvs ks →
    (lookA kvs k = none ∧ valV ks (k1 k) = none) ∨ ∃ p v, lookA kvs k = some p ∧ valV ks (k1 k) = some v ∧ Rep K A H p v
  | [], _, r => by rw [show _ = [] from r]; exact .inl ⟨rfl, rfl⟩
  | (j, p) :: kvs, _, r => by
    obtain ⟨x, t, rfl, r1, r2⟩ := r
    by_cases e : j = k
    · subst e
      exact .inr ⟨p, x, by simp [lookA], valV_pos rfl, r1⟩
    · have e1 : lookA ((j, p) :: kvs) k = lookA kvs k := by simp [lookA, List.find?_cons, e]
      have e2 : valV ((k1 j, x) :: t) (k1 k) = valV t (k1 k) := valV_neg fun z => e (k1_inj z)
      rw [e1, e2]
      exact repK_val k r2
theorem keys_inj {a b : List K1} (h : a.map k1 = b.map k1) : a = b := by
  induction a generalizing b with
  | nil => cases b with
    | nil => rfl
    | cons _ _ => simp at h
  | cons x a ih => cases b with
    | nil => simp at h
    | cons y b =>
      simp only [List.map_cons, List.cons.injEq] at h
      rw [k1_inj h.1, ih h.2]
theorem repT_val {K : PySem.W.Frag} {A : Addr → Prop} {H : Hp} (k : List K1) : ∀ {kvs : List (List K1 × PV)} {ks : List (List Key × V)}, RepT K A H kvs ks →
    (lookA kvs k = none ∧ valV ks (k.map k1) = none) ∨ ∃ p v, lookA kvs k = some p ∧ valV ks (k.map k1) = some v ∧ Rep K A H p v
  | [], _, r => by rw [show _ = [] from r]; exact .inl ⟨rfl, rfl⟩
  | (j, p) :: kvs, _, r => by
    obtain ⟨x, t, rfl, r1, r2⟩ := r
    by_cases e : j = k
    · subst e
      exact .inr ⟨p, x, by simp [lookA], valV_pos rfl, r1⟩
    · have e1 : lookA ((j, p) :: kvs) k = lookA kvs k := by simp [lookA, List.find?_cons, e]
      have e2 : valV ((j.map k1, x) :: t) (k.map k1) = valV t (k.map k1) := valV_neg fun z => e (keys_inj z)
      rw [e1, e2]
      exact repT_val k r2
/-- a dict's answer to a key -/
def lookD : PV → PV → Option (Option PV)
  | .dic kvs, k => (keyOf k).map fun k => lookA kvs k
  | .dit kvs, .tup ks => (keysOf ks).map fun k => lookA kvs k
  | _, _ => none
theorem dget_of {K : PySem.W.Frag} {A : Addr → Prop} {H : Hp} {d k : PV} {v u : V} {o : Option PV} (h : lookD d k = some o) (rd : RepI K A H d v) (rk : Rep K (fun _ => True) H k u) :
    ∃ a, v = .ref a ∧ IsD H a ∧ ((o = none ∧ DGet H a u none) ∨ ∃ p w, o = some p ∧ DGet H a u (some w) ∧ Rep K A H p w) := by
  cases d <;> simp only [lookD, reduceCtorEq] at h
  case dic kvs =>
    obtain ⟨a, ks, rfl, hr, r⟩ := rd
    cases e : keyOf k with
    | none => rw [e] at h; cases h
    | some k' =>
      rw [e] at h; cases h
      refine ⟨a, rfl, .inl ⟨_, hr⟩, ?_⟩
      rcases repK_val k' r with ⟨h1, h2⟩ | ⟨p, w, h1, h2, h3⟩
      · exact .inl ⟨h1, .inl ⟨ks, _, hr, rep_key rk e, h2.symm⟩⟩
      · exact .inr ⟨p, w, h1, .inl ⟨ks, _, hr, rep_key rk e, h2.symm⟩, h3⟩
  case dit kvs =>
    obtain ⟨a, ks, rfl, hr, r⟩ := rd
    cases k <;> simp only [reduceCtorEq] at h
    rename_i kk
    obtain ⟨b, xs, rfl, hb, r2⟩ := rk
    cases e : keysOf kk with
    | none => rw [e] at h; cases h
    | some k' =>
      rw [e] at h; cases h
      refine ⟨a, rfl, .inr ⟨_, hr⟩, ?_⟩
      rw [reps_keys r2 e] at hb
      rcases repT_val k' r with ⟨h1, h2⟩ | ⟨p, w, h1, h2, h3⟩
      · exact .inl ⟨h1, .inr ⟨ks, _, b, hr, rfl, hb, h2.symm⟩⟩
      · exact .inr ⟨p, w, h1, .inr ⟨ks, _, b, hr, rfl, hb, h2.symm⟩, h3⟩
def isFlat : PV → Bool
  | .non => true | .bl _ => true | .int _ => true | .str _ => true
  | _ => false
def gInB : PV → PV → Option Bool
  | p, .lst qs => if eqOk p && eqOk (.lst qs) then some (qs.any fun z => pvEq z p) else none
  | p, .rol qs => if eqOk p && eqOk (.rol qs) then some (qs.any fun z => pvEq z p) else none
  | p, .tup qs => if isFlat p && qs.all isFlat then some (qs.any fun z => pvEq z p) else none
  | .str [c], .str z => some (decide (c ∈ z))
  | p, d => (lookD d p).map (·.isSome)
def rInAll (K : PySem.W.Frag) (n : Bool) : R2 := fun x y H Q =>
  (∃ d ds, Dp K H x d ∧ Dp K H y (.list ds) ∧ SeqAt.shaped d = true ∧ SeqAt.shaped (.list ds) = true ∧ Q (.bl (n ^^ ds.any fun z => PyData.eqv z d)) H) ∨
  rIn K n x y H Q ∨ (∃ (c : Nat) (z : Str), x = .str ⟨#[c]⟩ ∧ y = .str z ∧ Q (.bl (n ^^ decide (c ∈ z.cps.toList))) H) ∨ ∃ a o, y = .ref a ∧ DGet H a x o ∧ Q (.bl (n ^^ o.isSome)) H
theorem opr_in (hu : Hu X) : OpR X (compareOp .In) (rInAll X.K false) := by
  rintro pins s σ H x y v u Q I rx ry (⟨d, ds, h1, h2, h3, h4, q⟩ | h | ⟨c, z, h1, h2, q⟩ | ⟨a, o, rfl, g, q⟩)
  · exact op_inD hu.u65 pins s σ H x y v u Q I rx ry ⟨d, ds, h1, h2, h3, h4, by simpa using q⟩
  · exact op_in_seq pins s σ H x y v u Q I rx ry h
  · exact op_in_sign pins s σ H x y v u Q I rx ry ⟨c, z, h1, h2, by simpa using q⟩
  · cases ry
    exact d_in hu.u1 I g rx fun s' I' => ⟨.bl _, H, I', rfl, by simpa using q⟩
theorem opr_notIn (hu : Hu X) : OpR X (compareOp .NotIn) (rInAll X.K true) := by
  rintro pins s σ H x y v u Q I rx ry (⟨d, ds, h1, h2, h3, h4, q⟩ | h | ⟨c, z, h1, h2, q⟩ | ⟨a, o, rfl, g, q⟩)
  · exact op_notInD hu.u65 pins s σ H x y v u Q I rx ry ⟨d, ds, h1, h2, h3, h4, by simpa using q⟩
  · exact op_notIn_seq pins s σ H x y v u Q I rx ry h
  · exact op_notIn_sign pins s σ H x y v u Q I rx ry ⟨c, z, h1, h2, by simpa using q⟩
  · cases ry
    exact d_notIn hu.u1 I g rx fun s' I' => ⟨.bl _, H, I', rfl, by simpa using q⟩
theorem any_toDs (p : PV) (hp : isData p = true) : ∀ (qs : List PV), isDatas qs = true → ((toDs qs).any fun z => PyData.eqv z (toD p)) = qs.any fun z => pvEq z p
  | [], _ => rfl
  | q :: qs, h => by
    simp only [isDatas, Bool.and_eq_true] at h
    simp only [toDs, List.any_cons, toD_eqv q p h.1 hp, any_toDs p hp qs h.2]
theorem rep_flat {K : PySem.W.Frag} {A : Addr → Prop} {H : Hp} {p : PV} {v : V} (f : isFlat p = true) (r : Rep K A H p v) : flatV v = true := by
  cases p <;> simp only [isFlat, reduceCtorEq] at f
  · rw [show v = .non from r]; rfl
  · rename_i b; rw [show v = .bl b from r]; rfl
  · rename_i b; rw [show v = .int b from r]; rfl
  · rename_i b; rw [show v = .str (mkS b) from r]; rfl
theorem eqV_pv {K : PySem.W.Frag} {A : Addr → Prop} {H : Hp} {p q : PV} {v u : V} (fp : isFlat p = true) (fq : isFlat q = true) (r : Rep K A H p v) (r2 : Rep K A H q u) : eqV v u = pvEq p q := by
  cases p <;> simp only [isFlat, reduceCtorEq] at fp <;> cases q <;> simp only [isFlat, reduceCtorEq] at fq <;> simp only [Rep] at r r2 <;> subst r r2 <;> simp only [eqV, pvEq]
  exact str_beq _ _
theorem in_flat {K : PySem.W.Frag} {A : Addr → Prop} {H : Hp} {p : PV} {v : V} (fp : isFlat p = true) (r : Rep K A H p v) : ∀ {qs : List PV} {us : List V}, qs.all isFlat = true → Reps K A H qs us → us.all flatV = true ∧ inV v us = qs.any fun z => pvEq z p
  | [], _, _, h => by rw [show _ = [] from h]; exact ⟨rfl, rfl⟩
  | q :: qs, _, f, h => by
    obtain ⟨x, t, rfl, h1, h2⟩ := h
    simp only [List.all_cons, Bool.and_eq_true] at f
    obtain ⟨e1, e2⟩ := in_flat fp r f.2 h2
    refine ⟨by simp [rep_flat f.1 h1, e1], ?_⟩
    unfold inV at e2 ⊢
    simp only [List.any_cons, eqV_pv f.1 fp h1 r, e2]
theorem cmp_inG (n : Bool) : CmpOk X.K (rInAll X.K n) (fun p q => (gInB p q).map (n ^^ ·)) := fun p q b H v u Q hg r1 r2 hQ => by
  dsimp only at hg
  cases e : gInB p q with
  | none => rw [e] at hg; cases hg
  | some b' =>
    rw [e] at hg
    cases hg
    have lst : ∀ qs ds, (eqOk p && eqOk q) = true → Dp X.K H u (.list ds) → toD q = .list ds → ds = toDs qs → isDatas qs = true → b' = (qs.any fun z => pvEq z p) → rInAll X.K n v u H Q := fun qs ds h d1 d2 d3 d4 d5 => by
      simp only [Bool.and_eq_true] at h
      refine .inl ⟨toD p, ds, r1.dp (data_of h.1), d1, shaped_of h.1, d2 ▸ shaped_of h.2, ?_⟩
      rw [d3, any_toDs p (data_of h.1) qs d4, ← d5]
      exact hQ
    have dict : (lookD q p).map (·.isSome) = some b' → rInAll X.K n v u H Q := fun h => by
      cases e2 : lookD q p with
      | none => rw [e2] at h; cases h
      | some o =>
        rw [e2] at h; cases h
        obtain ⟨a, rfl, _, h | ⟨p', w, rfl, g, _⟩⟩ := dget_of e2 (Rep.toI r2) r1
        · obtain ⟨rfl, g⟩ := h
          exact .inr (.inr (.inr ⟨a, none, rfl, g, hQ⟩))
        · exact .inr (.inr (.inr ⟨a, some w, rfl, g, hQ⟩))
    cases q with
    | lst qs =>
      simp only [gInB] at e
      split at e
      · rename_i h
        have hd : isDatas qs = true := by have := data_of (Bool.and_eq_true_iff.mp h).2; simpa [isData] using this
        exact lst qs _ h (by have := r2.dp (data_of (Bool.and_eq_true_iff.mp h).2); simpa [toD] using this) rfl rfl hd (Option.some.inj e).symm
      · cases e
    | rol qs =>
      simp only [gInB] at e
      split at e
      · rename_i h
        have hd : isDatas qs = true := by have := data_of (Bool.and_eq_true_iff.mp h).2; simpa [isData] using this
        exact lst qs _ h (by have := r2.dp (data_of (Bool.and_eq_true_iff.mp h).2); simpa [toD] using this) rfl rfl hd (Option.some.inj e).symm
      · cases e
    | tup qs =>
      simp only [gInB] at e
      split at e
      · rename_i h
        simp only [Bool.and_eq_true] at h
        obtain ⟨a, xs, rfl, ha, r⟩ := r2
        obtain ⟨f1, f2⟩ := in_flat h.1 r1 h.2 r
        refine .inr (.inl ⟨a, xs, rfl, .inr (SqT.of ha), rep_flat h.1 r1, f1, ?_⟩)
        rw [f2, Option.some.inj e]
        cases n <;> simpa using hQ
      · cases e
    | str z =>
      cases p with
      | str x =>
        match x, e, r1 with
        | [], e, _ => simp [gInB, lookD] at e
        | [c], e, r1 =>
          simp only [gInB, Option.some.injEq] at e
          refine .inr (.inr (.inl ⟨c.val, mkS z, by rw [mkS_sign]; exact r1, r2, ?_⟩))
          have : decide (c.val ∈ (mkS z).cps.toList) = decide (c ∈ z) := by
            rw [mkS_cps]
            congr 1
            simp only [List.mem_map, eq_iff_iff]
            exact ⟨fun ⟨d, h1, h2⟩ => by rw [← Fin.ext h2]; exact h1, fun h => ⟨c, h, rfl⟩⟩
          rw [this, e]
          exact hQ
        | _ :: _ :: _, e, _ => simp [gInB, lookD] at e
      | _ => simp [gInB, lookD] at e
    | dic kvs => exact dict (by cases p <;> first | exact e | (rename_i x; cases x with | nil => exact e | cons c r => cases r <;> exact e))
    | dit kvs => exact dict (by cases p <;> first | exact e | (rename_i x; cases x with | nil => exact e | cons c r => cases r <;> exact e))
    | non => simp [gInB, lookD] at e
    | bl b => simp [gInB, lookD] at e
    | int b => simp [gInB, lookD] at e
    | ins c b => simp [gInB, lookD] at e
def gIn : Cmp := gInB
def gNotIn : Cmp := fun p q => (gInB p q).map (!·)
theorem cmp_in : CmpOk X.K (rInAll X.K false) gIn := fun p q b H v u Q hg => cmp_inG false p q b H v u Q (by simp only [gIn] at hg; dsimp only; rw [hg]; simp)
theorem cmp_notIn : CmpOk X.K (rInAll X.K true) gNotIn := fun p q b H v u Q hg => cmp_inG true p q b H v u Q (by simp only [gNotIn] at hg; simpa using hg)
end
end Fz
end
section
/-! FwF: +, *, subscripts, slices, displays, built-in calls, methods that read. -/
namespace Fz
open PySem PySem.Spec PyProof.Rows L2

/-- what follows a thing just made -/
def KO (K : PySem.W.Frag) (A : Addr → Prop) (H : Hp) (t : OT) (Q : VK) : Prop :=
  ∀ w H' Fn, Same H H' → Fn.Nodup → (∀ a ∈ Fn, H a = none) → OTRep K (fun a => A a ∧ a ∉ Fn) H' t w Fn → Q w H'
section
variable {K : PySem.W.Frag} {A : Addr → Prop} {H : Hp} {Q : VK}
theorem KO.rep {p : PV} {v : V} (k : KO K A H (.fz p) Q) (r : Rep K A H p v) : Q v H := k v H [] (Same.refl H) List.nodup_nil (fun _ h => nomatch h) ⟨rfl, Rep.sub (fun a q => ⟨q, fun h => nomatch h⟩) r⟩
theorem KO.repS {p : PV} {v : V} {H' : Hp} (k : KO K A H (.fz p) Q) (s : Same H H') (r : Rep K A H' p v) : Q v H' := k v H' [] s List.nodup_nil (fun _ h => nomatch h) ⟨rfl, Rep.sub (fun a q => ⟨q, fun h => nomatch h⟩) r⟩
theorem same_upd {p : Addr} {o : HO} (h : H p = none) : Same H (upd H p o) := fun b x e => by rw [upd_ne (ne_of_none e h)]; exact e
theorem carry_new {p : Addr} {o : HO} (h : H p = none) : Carry A (fun a => A a ∧ a ∉ [p]) H (upd H p o) :=
  Carry.mk' (fun a x q e => ⟨q, fun z => by rw [List.mem_singleton.mp z, h] at e; cases e⟩) (fun a x _ e => same_upd h a x e) (fun a xs e => same_upd h a _ e) fun a x u e => same_upd h a _ e
theorem KO.l {ps : List PV} {xs : List V} (k : KO K A H (.l ps) Q) (r : Reps K A H ps xs) (p : Addr) (hp : H p = none) : Q (.ref p) (upd H p (.lst xs)) :=
  k _ _ [p] (same_upd hp) (by simp) (fun a h => by rw [List.mem_singleton.mp h]; exact hp) ⟨p, xs, rfl, rfl, upd_same, Reps.carry (carry_new hp) r⟩
theorem KO.d {ps : List (K1 × PV)} {xs : List (Key × V)} (k : KO K A H (.d ps) Q) (r : RepK K A H ps xs) (p : Addr) (hp : H p = none) : Q (.ref p) (upd H p (.dK xs)) :=
  k _ _ [p] (same_upd hp) (by simp) (fun a h => by rw [List.mem_singleton.mp h]; exact hp) ⟨p, xs, rfl, rfl, upd_same, RepK.carry (carry_new hp) r⟩
theorem KO.t {ps : List PV} {xs : List V} (k : KO K A H (.fz (.tup ps)) Q) (r : Reps K A H ps xs) (p : Addr) (hp : H p = none) : Q (.ref p) (upd H p (.tup xs)) :=
  k.repS (same_upd hp) ⟨p, xs, rfl, upd_same, Reps.carry (Carry.same (same_upd hp) fun _ q => q) r⟩
theorem KO.later {H1 : Hp} {t : OT} (k : KO K A H t Q) (s : Same H H1) : KO K A H1 t Q := fun w H' Fn s' n f r => k w H' Fn (s.trans s') n (fun a ha => by
  cases z : H a with
  | none => rfl
  | some o => have := f a ha; rw [s a o z] at this; cases this) r
end
section
variable {X : Cx} {C : Addr → Prop} {W : WX} {e e1 e2 e3 : Expr} {pos : Pos} {m m1 m2 m3 : Mode} {f f1 f2 f3 : E}

/-! ### a op b -/
def oBin (g : PV → PV → Option OT) (f1 f2 : E) : O := fun ρ => f1 ρ >>= fun x => f2 ρ >>= fun y => ofO (g x y)
def BinOk (K : PySem.W.Frag) (r : R2) (g : PV → PV → Option OT) : Prop := ∀ (A : Addr → Prop) H p q t v u Q, g p q = some t → RepI K A H p v → RepI K A H q u → KO K A H t Q → r v u H Q
theorem oj_bin {op : Operator} {r : R2} {g : PV → PV → Option OT} (ho : OpR X (binaryOp op) r) (hg : BinOk X.K r g) (h1 : EJ X C W .I e1 f1) (h2 : EJ X C W .I e2 f2) : OJ X C W (.BinOp e1 op e2 pos) (oBin g f1 f2) :=
  pe_weak (pe_op ho h1 h2) fun σ H Q ⟨ρ, fp, eo, o⟩ => two (m1 := .I) (m2 := .I) eo o fun p q v u H2 s eo2 o2 r1 r2 => by
    obtain ⟨t, ht, hQ⟩ := Out.ofO o2
    exact hg (Am C fp) H2 p q t v u Q ht r1 r2 (KO.later hQ s)
def gAdd : PV → PV → Option OT
  | .int i, .int j => some (.fz (.int (i + j)))
  | .str x, .str y => if x.length + y.length ≤ sizeLine then some (.fz (.str (x ++ y))) else none
  | .lst x, .lst y => if x.length + y.length ≤ sizeLine then some (.l (x ++ y)) else none
  | .tup x, .tup y => if x.isEmpty then none else if x.length + y.length ≤ sizeLine then some (.fz (.tup (x ++ y))) else none
  | _, _ => none
def rAddAll (K : PySem.W.Frag) : R2 := fun x y H Q => ((rI0 (fun i j => .int (i + j)) x y H Q ∨ ∃ i j, x = .str i ∧ y = .str j ∧ i.length + j.length ≤ sizeLine ∧ Q (.str (i ++ j)) H) ∨ rCat x y H Q) ∨ rCatT K x y H Q
theorem opr_add : OpR X (binaryOp .Add) (rAddAll X.K) := OpR.or (OpR.or (OpR.or op_add op_add_str) op_cat) op_catT
theorem bin_add : BinOk X.K (rAddAll X.K) gAdd := fun A H p q t v u Q hg r1 r2 k => by
  cases p <;> cases q <;> simp only [gAdd, reduceCtorEq] at hg
  · cases hg
    exact .inl (.inl (.inl ⟨_, _, r1, r2, k.rep rfl⟩))
  · split at hg
    · rename_i h
      cases hg
      refine .inl (.inl (.inr ⟨_, _, r1, r2, by rw [mkS_length, mkS_length]; exact h, ?_⟩))
      rw [mkS_append]
      exact k.rep rfl
    · cases hg
  · split at hg
    · cases hg
    · rename_i he
      split at hg
      · rename_i h
        cases hg
        obtain ⟨a, xs, rfl, ha, ra⟩ := r1
        obtain ⟨b, ys, rfl, hb, rb⟩ := r2
        rename_i ps qs
        refine .inr ⟨a, b, xs, ys, rfl, rfl, SqT.of ha, SqT.of hb, fun z => he ?_, by rw [ra.length, rb.length]; exact h, fun z => ?_, fun _ => k.t (ra.append rb)⟩
        · subst z; cases ps with
          | nil => rfl
          | cons p ps => obtain ⟨_, _, z, _⟩ := ra; cases z
        · subst z
          have : qs = [] := by
            cases qs with
            | nil => rfl
            | cons p ps => obtain ⟨_, _, z, _⟩ := rb; cases z
          subst this
          rw [List.append_nil] at k
          exact k.rep ⟨a, xs, rfl, ha, ra⟩
      · cases hg
  · split at hg
    · rename_i h
      cases hg
      obtain ⟨a, xs, rfl, ha, ra⟩ := r1
      obtain ⟨b, ys, rfl, hb, rb⟩ := r2
      exact .inl (.inr ⟨a, b, xs, ys, rfl, rfl, ha, hb, by rw [ra.length, rb.length]; exact h, k.l (ra.append rb)⟩)
    · cases hg
theorem oj_add (h1 : EJ X C W .I e1 f1) (h2 : EJ X C W .I e2 f2) : OJ X C W (.BinOp e1 .Add e2 pos) (oBin gAdd f1 f2) := oj_bin opr_add bin_add h1 h2
def gMul : PV → PV → Option OT
  | .int i, .int j => if (-(2 ^ 64) < i ∧ i < 2 ^ 64) ∨ (-(2 ^ 64) < j ∧ j < 2 ^ 64) then some (.fz (.int (i * j))) else none
  | .lst x, .int j => if -(2 ^ 63) ≤ j ∧ j < 2 ^ 63 ∧ x.length * j.toNat ≤ sizeLine then some (.l (List.replicate j.toNat x).flatten) else none
  | _, _ => none
theorem reps_rep {K : PySem.W.Frag} {A : Addr → Prop} {H : Hp} {ps : List PV} {vs : List V} (h : Reps K A H ps vs) : ∀ k : Nat, Reps K A H (List.replicate k ps).flatten (List.replicate k vs).flatten
  | 0 => rfl
  | k + 1 => by
    rw [List.replicate_succ, List.replicate_succ, List.flatten_cons, List.flatten_cons]
    exact h.append (reps_rep h k)
theorem opr_mul : OpR X (binaryOp .Mult) (fun x y H Q => rI CMul (fun i j => .int (i * j)) x y H Q ∨ rRep x y H Q) := OpR.or op_mul op_rep
theorem bin_mul : BinOk X.K (fun x y H Q => rI CMul (fun i j => .int (i * j)) x y H Q ∨ rRep x y H Q) gMul := fun A H p q t v u Q hg r1 r2 k => by
  cases p <;> cases q <;> simp only [gMul, reduceCtorEq] at hg
  · split at hg
    · rename_i h
      cases hg
      exact .inl ⟨_, _, r1, r2, h, k.rep rfl⟩
    · cases hg
  · split at hg
    · rename_i h
      cases hg
      obtain ⟨a, xs, rfl, ha, ra⟩ := r1
      exact .inr ⟨a, _, xs, rfl, r2, ha, h.1, h.2.1, by rw [ra.length]; exact h.2.2, k.l (reps_rep ra _)⟩
    · cases hg
theorem oj_mul (h1 : EJ X C W .I e1 f1) (h2 : EJ X C W .I e2 f2) : OJ X C W (.BinOp e1 .Mult e2 pos) (oBin gMul f1 f2) := oj_bin opr_mul bin_mul h1 h2

/-! ### a[b] -/
def gIx : PV → PV → Option PV
  | .lst ps, .int i => atI ps i
  | .rol ps, .int i => atI ps i
  | .tup ps, .int i => atI ps i
  | .str x, .int i => if x.length ≤ sizeLine then (atI x i).map fun c => .str [c] else none
  | d, k => (lookD d k).bind id
theorem reps_at {K : PySem.W.Frag} {A : Addr → Prop} {H : Hp} {ps : List PV} {vs : List V} {i : Int} {p : PV} (r : Reps K A H ps vs) (h : atI ps i = some p) : ∃ v, atI vs i = some v ∧ Rep K A H p v := by
  unfold atI at h ⊢
  rw [r.length]
  cases e : ixN ps.length i with
  | none => rw [e] at h; cases h
  | some j =>
    rw [e] at h
    exact r.get h
theorem str_at {x : Tx} {i : Int} {c : Ch} (h : atI x i = some c) : atI (mkS x).cps.toList i = some c.val := by
  rw [mkS_cps]
  unfold atI at h ⊢
  rw [List.length_map]
  cases e : ixN x.length i with
  | none => rw [e] at h; cases h
  | some j =>
    rw [e] at h
    simp only [Option.bind_some] at h ⊢
    rw [List.getElem?_map, h]; rfl
theorem pe_or' {t t' : TE} (h : PE X e t) (h' : PE X e t') : PE X e (fun σ H Q => t σ H Q ∨ t' σ H Q) := ⟨fun pins s σ H Q I q => q.elim (h.run pins s σ H Q I) (h'.run pins s σ H Q I)⟩
/-- the reading of a[b], whatever a is -/
theorem ix_read {A : Addr → Prop} {H : Hp} {p q z : PV} {v u : V} {Q : VK} (hz : gIx p q = some z) (r1 : RepI X.K A H p v) (r2 : Rep X.K (fun _ => True) H q u) (k : ∀ w, Rep X.K A H z w → Q w H) :
    rIx X.K v u H Q ∨ ∃ a w, v = .ref a ∧ DGet H a u (some w) ∧ Q w H := by
  have dict : (lookD p q).bind id = some z → ∃ a w, v = .ref a ∧ DGet H a u (some w) ∧ Q w H := fun h => by
    cases e : lookD p q with
    | none => rw [e] at h; cases h
    | some o =>
      rw [e] at h
      have h : o = some z := h
      obtain ⟨a, rfl, _, ⟨h', _⟩ | ⟨p', w, h', g, r⟩⟩ := dget_of e r1 r2
      · rw [h'] at h; cases h
      · rw [h'] at h; cases h
        exact ⟨a, w, rfl, g, k w r⟩
  cases p with
  | lst ps =>
    cases q <;> first | (simp [gIx, lookD] at hz; done) | skip
    obtain ⟨a, xs, rfl, ha, r⟩ := r1
    obtain ⟨w, hw, rw'⟩ := reps_at r hz
    exact .inl (.inl ⟨a, xs, _, w, rfl, r2, SqL.of ha, hw, k w rw'⟩)
  | rol ps =>
    cases q <;> first | (simp [gIx, lookD] at hz; done) | skip
    obtain ⟨a, xs, rfl, ha, r⟩ := r1
    obtain ⟨w, hw, rw'⟩ := reps_at r hz
    exact .inl (.inl ⟨a, xs, _, w, rfl, r2, ha.sq, hw, k w rw'⟩)
  | tup ps =>
    cases q <;> first | (simp [gIx, lookD] at hz; done) | skip
    obtain ⟨a, xs, rfl, ha, r⟩ := r1
    obtain ⟨w, hw, rw'⟩ := reps_at r hz
    exact .inl (.inr (.inl ⟨a, xs, _, w, rfl, r2, SqT.of ha, hw, k w rw'⟩))
  | str x =>
    cases q <;> first | (simp [gIx, lookD] at hz; done) | skip
    rename_i i
    simp only [gIx] at hz
    split at hz
    · rename_i hl
      cases e : atI x i with
      | none => rw [e] at hz; cases hz
      | some c =>
        rw [e] at hz
        cases hz
        refine .inl (.inr (.inr ⟨mkS x, i, c.val, r1, r2, by rw [mkS_length]; exact hl, str_at e, ?_⟩))
        rw [mkS_sign]
        exact k _ rfl
    · cases hz
  | dic kvs => exact .inr (dict (by cases q <;> exact hz))
  | dit kvs => exact .inr (dict (by cases q <;> exact hz))
  | non => cases q <;> simp [gIx, lookD] at hz
  | bl b => cases q <;> simp [gIx, lookD] at hz
  | int b => cases q <;> simp [gIx, lookD] at hz
  | ins c b => cases q <;> simp [gIx, lookD] at hz
def eIx (f1 f2 : E) : E := fun ρ => f1 ρ >>= fun x => f2 ρ >>= fun y => ofO (gIx x y)
theorem two_or {K : PySem.W.Frag} {σ : L2.St} {H : Hp} {fp : Fp} {ρ : Env} {α : Type} {k : PV → PV → Res α} {P : α → Prop} (eo : EnvOk K C ρ σ H fp)
    (o : Out (f1 ρ >>= fun x => f2 ρ >>= fun y => k x y) P (XQ K W σ H)) {R R' : V → V → Hp → Prop} (sel : PV → PV → Bool)
    (h : ∀ p q v u H2, Same H H2 → EnvOk K C ρ σ H2 fp → Out (k p q) P (XQ K W σ H) → RepM K C fp m1 H2 p v → RepM K C fp m2 H2 q u → (sel p q = true → R v u H2) ∧ (sel p q = false → R' v u H2)) :
    (tE K C W m1 f1 σ H fun x H1 => tE K C W m2 f2 σ H1 fun y H2 => R x y H2) ∨ tE K C W m1 f1 σ H fun x H1 => tE K C W m2 f2 σ H1 fun y H2 => R' x y H2 := by
  have main : ∀ (R2 : V → V → Hp → Prop) (b : Bool), (∀ p q, f1 ρ = .ok p → f2 ρ = .ok q → sel p q = b) → (∀ p q v u H2, Same H H2 → EnvOk K C ρ σ H2 fp → Out (k p q) P (XQ K W σ H) → RepM K C fp m1 H2 p v → RepM K C fp m2 H2 q u → sel p q = b → R2 v u H2) →
      tE K C W m1 f1 σ H fun x H1 => tE K C W m2 f2 σ H1 fun y H2 => R2 x y H2 := fun R2 b hb h2 => by
    refine ⟨ρ, fp, eo, (Out.bind o).and.mono (fun p ⟨e1, o1⟩ v H1 s1 r1 => ?_) fun _ _ q => q⟩
    refine ⟨ρ, fp, eo.same s1, (Out.bind o1).and.mono (fun q ⟨e2, o2⟩ u H2 s2 r2 => ?_) fun _ _ q => q.later s1⟩
    exact h2 p q v u H2 (s1.trans s2) (eo.same (s1.trans s2)) o2 (r1.same s2) r2 (hb p q e1 e2)
  by_cases hb : ∃ p q, f1 ρ = .ok p ∧ f2 ρ = .ok q ∧ sel p q = false
  · right
    obtain ⟨p0, q0, e1, e2, e3⟩ := hb
    refine main R' false (fun p q h1 h2 => by rw [e1] at h1; rw [e2] at h2; cases h1; cases h2; exact e3) fun p q v u H2 s eo2 o2 r1 r2 hs => (h p q v u H2 s eo2 o2 r1 r2).2 hs
  · left
    refine main R true (fun p q h1 h2 => by
      cases z : sel p q with
      | true => rfl
      | false => exact (hb ⟨p, q, h1, h2, z⟩).elim) fun p q v u H2 s eo2 o2 r1 r2 hs => (h p q v u H2 s eo2 o2 r1 r2).1 hs
def isDict : PV → Bool
  | .dic _ => true
  | .dit _ => true
  | _ => false
theorem ix_sel {A : Addr → Prop} {H : Hp} {p q z : PV} {v u : V} {Q : VK} (hz : gIx p q = some z) (r1 : RepI X.K A H p v) (r2 : Rep X.K (fun _ => True) H q u) (k : ∀ w, Rep X.K A H z w → Q w H) :
    ((!isDict p) = true → rIx X.K v u H Q) ∧ ((!isDict p) = false → ∃ a w, v = .ref a ∧ DGet H a u (some w) ∧ Q w H) := by
  have dict : ∀ q', gIx p q' = some z → isDict p = true → (lookD p q').bind id = some z := fun q' h d => by
    cases p <;> simp only [isDict, reduceCtorEq] at d <;> cases q' <;> exact h
  refine ⟨fun d => ?_, fun d => ?_⟩
  · cases p <;> simp only [isDict, Bool.not_true, Bool.not_false, reduceCtorEq] at d <;> cases q <;> first | (simp [gIx, lookD] at hz; done) | skip
    · rename_i x i
      simp only [gIx] at hz
      split at hz
      · rename_i hl
        cases e : atI x i with
        | none => rw [e] at hz; cases hz
        | some c =>
          rw [e] at hz
          cases hz
          refine .inr (.inr ⟨mkS x, i, c.val, r1, r2, by rw [mkS_length]; exact hl, str_at e, ?_⟩)
          rw [mkS_sign]
          exact k _ rfl
      · cases hz
    · obtain ⟨a, xs, rfl, ha, r⟩ := r1
      obtain ⟨w, hw, rw'⟩ := reps_at r hz
      exact .inr (.inl ⟨a, xs, _, w, rfl, r2, SqT.of ha, hw, k w rw'⟩)
    · obtain ⟨a, xs, rfl, ha, r⟩ := r1
      obtain ⟨w, hw, rw'⟩ := reps_at r hz
      exact .inl ⟨a, xs, _, w, rfl, r2, SqL.of ha, hw, k w rw'⟩
    · obtain ⟨a, xs, rfl, ha, r⟩ := r1
      obtain ⟨w, hw, rw'⟩ := reps_at r hz
      exact .inl ⟨a, xs, _, w, rfl, r2, ha.sq, hw, k w rw'⟩
  · have h := dict q hz (by cases z : isDict p <;> simp_all)
    cases e : lookD p q with
    | none => rw [e] at h; cases h
    | some o =>
      rw [e] at h
      have h : o = some z := h
      obtain ⟨a, rfl, _, ⟨h', _⟩ | ⟨p', w, h', g, r⟩⟩ := dget_of e r1 r2
      · rw [h'] at h; cases h
      · rw [h'] at h; cases h
        exact ⟨a, w, rfl, g, k w r⟩
/-- an item of what has common items -/
theorem ej_ix (hu : Hu X) (h1 : EJ X C W .I e1 f1) (h2 : EJ X C W m2 e2 f2) (hs : ∀ o i, subscripted e2 false o i = operate [o, i] (getItem o i) := by intro _ _; rfl) : EJ X C W .E (.Subscript e1 e2 pos) (eIx f1 f2) :=
  pe_weak (pe_or' (pe_ix ix_seq h1 h2 hs) (pe_dget hu.u1 h1 h2 hs)) fun σ H Q ⟨ρ, fp, eo, o⟩ =>
    two_or (m1 := .I) (m2 := m2) eo o (fun p _ => !isDict p) fun p q v u H2 s eo2 o2 r1 r2 => by
      obtain ⟨z, hz, hQ⟩ := Out.ofO o2
      exact ix_sel hz r1 (RepM.toB r2) fun w r => hQ w H2 s r
/-- .. to be looked at only -/
theorem ej_ixB (hu : Hu X) (h1 : EJ X C W .B e1 f1) (h2 : EJ X C W m2 e2 f2) (hs : ∀ o i, subscripted e2 false o i = operate [o, i] (getItem o i) := by intro _ _; rfl) : EJ X C W .B (.Subscript e1 e2 pos) (eIx f1 f2) :=
  pe_weak (pe_or' (pe_ix ix_seq h1 h2 hs) (pe_dget hu.u1 h1 h2 hs)) fun σ H Q ⟨ρ, fp, eo, o⟩ =>
    two_or (m1 := .B) (m2 := m2) eo o (fun p _ => !isDict p) fun p q v u H2 s eo2 o2 r1 r2 => by
      obtain ⟨z, hz, hQ⟩ := Out.ofO o2
      exact ix_sel (A := fun _ => True) hz (Rep.toI r1) (RepM.toB r2) fun w r => hQ w H2 s r
end
end Fz
end
section
/-! FwG: slices, displays, arguments, calls of built-ins. -/
namespace Fz
open PySem PySem.Spec PyProof.Rows L2
section
variable {X : Cx} {C : Addr → Prop} {W : WX} {e e1 e2 e3 : Expr} {pos p2 pn : Pos} {m m1 m2 m3 : Mode} {f f1 f2 f3 : E}

/-! ### slices -/
abbrev P := Env → Res (Option Int)
def tP (K : PySem.W.Frag) (C : Addr → Prop) (W : WX) (f : P) : TO := fun σ H Q => ∃ ρ fp, EnvOk K C ρ σ H fp ∧ Out (f ρ) (fun o => ∀ H', Same H H' → Q o H') (XQ K W σ H)
def PJ (X : Cx) (C : Addr → Prop) (W : WX) (e : Option Expr) (f : P) : Prop := PO X e (tP X.K C W f)
theorem po_weak {e : Option Expr} {t t' : TO} (h : PO X e t) (w : ∀ σ H Q, t' σ H Q → t σ H Q) : PO X e t' := ⟨fun pins s σ H Q I q => h.run pins s σ H Q I (w σ H Q q)⟩
def pNo : P := fun _ => .ok none
def intOf : PV → Res Int
  | .int i => .ok i
  | _ => .bad
def pAt (f : E) : P := fun ρ => f ρ >>= fun x => intOf x >>= fun i => .ok (some i)
theorem pj_none : PJ X C W none pNo := po_weak po_none fun σ H Q ⟨ρ, fp, eo, o⟩ => o H (Same.refl H)
theorem pj_some (h : EJ X C W m e f) : PJ X C W (some e) (pAt f) := po_weak (po_some h) fun σ H Q ⟨ρ, fp, eo, o⟩ => by
  refine ⟨ρ, fp, eo, (Out.bind o).mono (fun p o1 v H1 s1 r1 => ?_) fun _ _ q => q⟩
  cases p with
  | int i => exact ⟨i, RepM.toB r1, o1 H1 s1⟩
  | _ => exact o1.elim
def cut {α : Type} (xs : List α) (lo hi : Option Int) : List α := (xs.drop (HT.sIx xs.length 0 lo)).take (HT.sIx xs.length xs.length hi - HT.sIx xs.length 0 lo)
def gSl : PV → Option Int → Option Int → Option OT
  | .lst ps, lo, hi => some (.l (cut ps lo hi))
  | .rol ps, lo, hi => some (.l (cut ps lo hi))
  | .str x, lo, hi => if x.length ≤ sizeLine then some (.fz (.str (cut x lo hi))) else none
  | .tup ps, lo, hi => if HT.sIx ps.length 0 lo = 0 ∧ HT.sIx ps.length ps.length hi = ps.length then none else some (.fz (.tup (cut ps lo hi)))
  | _, _, _ => none
theorem reps_cut {K : PySem.W.Frag} {A : Addr → Prop} {H : Hp} {ps : List PV} {vs : List V} (r : Reps K A H ps vs) (lo hi : Option Int) : Reps K A H (cut ps lo hi) (cutV vs lo hi) := by
  unfold cut cutV
  rw [r.length]
  exact (r.drop _).take _
theorem cutS_mk (x : Tx) (lo hi : Option Int) : cutS (mkS x) lo hi = mkS (cut x lo hi) := by
  unfold cutS cut
  rw [mkS_length, mkS_cps, mkS, ← List.map_drop, ← List.map_take]
def oSl (f : E) (lo hi : P) : O := fun ρ => f ρ >>= fun x => lo ρ >>= fun l => hi ρ >>= fun u => ofO (gSl x l u)
theorem oj_sl {lo hi : Option Expr} {pl ph : P} (h : EJ X C W .I e f) (hl : PJ X C W lo pl) (hh : PJ X C W hi ph) : OJ X C W (.Subscript e (.Slice lo hi none p2) pos) (oSl f pl ph) :=
  pe_weak (pe_slice (SlR.or (SlR.or sl_list sl_str) sl_tup) h hl hh) fun σ H Q ⟨ρ, fp, eo, o⟩ => by
    refine ⟨ρ, fp, eo, (Out.bind o).mono (fun p o1 v H1 s1 r1 => ?_) fun _ _ q => q⟩
    refine ⟨ρ, fp, eo.same s1, (Out.bind o1).mono (fun l o2 H2 s2 => ?_) fun _ _ q => q.later s1⟩
    refine ⟨ρ, fp, eo.same (s1.trans s2), (Out.bind o2).mono (fun u o3 H3 s3 => ?_) fun _ _ q => q.later (s1.trans s2)⟩
    obtain ⟨t, ht, hQ⟩ := Out.ofO o3
    have k : KO X.K (Am C fp) H3 t Q := KO.later hQ ((s1.trans s2).trans s3)
    have r : RepI X.K (Am C fp) H3 p v := r1.same (m := .I) (s2.trans s3)
    clear hQ o1 o2 o3
    cases p <;> simp only [gSl, reduceCtorEq] at ht
    · split at ht
      · rename_i hz
        cases ht
        refine .inl (.inr ⟨_, r, by rw [mkS_length]; exact hz, ?_⟩)
        rw [cutS_mk]
        exact k.rep rfl
      · cases ht
    · split at ht
      · cases ht
      · rename_i hw
        cases ht
        obtain ⟨a, xs, rfl, ha, rr⟩ := r
        exact .inr ⟨a, xs, rfl, SqT.of ha, by rw [rr.length]; exact hw, k.t (reps_cut rr l u)⟩
    · cases ht
      obtain ⟨a, xs, rfl, ha, rr⟩ := r
      exact .inl (.inl ⟨a, xs, rfl, SqL.of ha, k.l (reps_cut rr l u)⟩)
    · cases ht
      obtain ⟨a, xs, rfl, ha, rr⟩ := r
      exact .inl (.inl ⟨a, xs, rfl, ha.sq, k.l (reps_cut rr l u)⟩)
/-- xs[::-1] -/
def tRev (K : PySem.W.Frag) (te ts : TE) : TE := fun σ H Q => te σ H fun x H1 => ts σ H1 fun y H2 => y = .int (-1) ∧ ∃ a xs, x = .ref a ∧ SqL K H2 a xs ∧ ∀ p, H2 p = none → Q (.ref p) (upd H2 p (.lst xs.reverse))
theorem pe_rev {te ts : TE} (he : PE X e te) (hs : PE X e2 ts) : PE X (.Subscript e (.Slice none none (some e2) p2) pos) (tRev X.K te ts) := by
  refine ⟨fun pins s σ H Q I h => ?_⟩
  refine Subscript_ (thn (he.run pins s σ H _ I h) fun v s1 ⟨x, H1, I1, r1, q1⟩ => ?_)
  refine wpAny_Slice ?_
  rw [evalPart_none, evalPart_some]
  refine wpAny_pure (wpAny_pure (thn (hs.run pins s1 σ H1 _ I1 q1) fun vk s3 ⟨y, H3, I3, rk, hy, a, xs, hx, hl, q3⟩ => ?_))
  subst hx hy
  cases r1
  obtain ⟨t, rfl⟩ := rk
  have I4 : Inv X pins σ H3 { s3 with heap := s3.heap.push { cls := .type "slice", data := .fields #[.none, .none, .int (-1) t] } } := I3.kept (t' := s3.toks) fun b ob q => Heap.get?_push_of_some _ q
  obtain ⟨its, r, ht, hz⟩ := I4.list hl
  have hlen := r.length
  refine tail_any (T := "list") (ops := [.ref a, .ref s3.heap.objs.size]) ht.isList.typeIs slot_list_getitem.lookup ?_ (by with_unfolding_all rfl)
  refine wpAny_getItem_list_slice ht.isList (Heap.IsSliceOf.new ..) .none .none (.int _ _) (by simp) ?_ (by rw [List.size_toArray] <;> omega)
  rw [PySem.W.krv_pick]
  refine ⟨.ref _, _, I4.laid (t' := s3.toks) (o := .lst xs.reverse) (fun b ob q => Heap.get?_push_of_some _ q) (Nat.le_refl _) ?_, rfl, q3 _ (I4.hok.fresh (Nat.le_refl _))⟩
  exact ⟨by rw [List.length_reverse]; exact hz, _, 0, r.reverse, Heap.get?_push_size _ rfl⟩
def gRev : PV → PV → Option OT
  | .lst ps, .int i => if i = -1 then some (.l ps.reverse) else none
  | .rol ps, .int i => if i = -1 then some (.l ps.reverse) else none
  | _, _ => none
theorem oj_rev (h : EJ X C W .I e f) (h2 : EJ X C W m2 e2 f2) : OJ X C W (.Subscript e (.Slice none none (some e2) p2) pos) (oBin gRev f f2) :=
  pe_weak (pe_rev h h2) fun σ H Q ⟨ρ, fp, eo, o⟩ => two (m1 := .I) (m2 := m2) eo o fun p q v u H2 s eo2 o2 r1 r2 => by
    obtain ⟨t, ht, hQ⟩ := Out.ofO o2
    have k : KO X.K (Am C fp) H2 t Q := KO.later hQ s
    have r : RepI X.K (Am C fp) H2 p v := r1
    have r2 := RepM.toB r2
    cases p <;> cases q <;> simp only [gRev, reduceCtorEq] at ht
    · split at ht
      · rename_i hi; subst hi; cases ht
        obtain ⟨a, xs, rfl, ha, rr⟩ := r
        exact ⟨r2, a, xs, rfl, SqL.of ha, k.l rr.reverse⟩
      · cases ht
    · split at ht
      · rename_i hi; subst hi; cases ht
        obtain ⟨a, xs, rfl, ha, rr⟩ := r
        exact ⟨r2, a, xs, rfl, ha.sq, k.l rr.reverse⟩
      · cases ht

/-! ### displays: all items are common -/
def tLE (K : PySem.W.Frag) (C : Addr → Prop) (W : WX) (f : L) : TA := fun σ H Q => ∃ ρ fp, EnvOk K C ρ σ H fp ∧ Out (f ρ) (fun ps => ∀ vs H', Same H H' → Reps K (Am C fp) H' ps vs → Q vs H') (XQ K W σ H)
def LE (X : Cx) (C : Addr → Prop) (W : WX) (es : List Expr) (n : Nat) (f : L) : Prop := PA X es (tLE X.K C W f) ∧ ∀ ρ ps, f ρ = .ok ps → ps.length = n
def lNil : L := fun _ => .ok []
def lCons (f : E) (g : L) : L := fun ρ => f ρ >>= fun p => g ρ >>= fun ps => .ok (p :: ps)
theorem le_nil : LE X C W [] 0 lNil := ⟨pa_weak pa_nil fun σ H Q ⟨ρ, fp, eo, o⟩ => o [] H (Same.refl H) rfl, fun ρ ps h => by cases h; rfl⟩
theorem bind_ok_inv {α β : Type} {r : Res α} {k : α → Res β} {b : β} (h : (r >>= k) = .ok b) : ∃ a, r = .ok a ∧ k a = .ok b := by
  cases r with
  | ok a => exact ⟨a, rfl, h⟩
  | exc c fs => cases h
  | bad => cases h
theorem le_cons {es : List Expr} {n : Nat} {g : L} (h : EJ X C W .E e f) (h2 : LE X C W es n g) (hs : starEach (e :: es) X.env = (false, eval e X.env) :: starEach es X.env := by rfl) : LE X C W (e :: es) (n + 1) (lCons f g) := by
  refine ⟨pa_weak (pa_cons h h2.1 hs) fun σ H Q ⟨ρ, fp, eo, o⟩ => ?_, fun ρ ps hp => ?_⟩
  · refine ⟨ρ, fp, eo, (Out.bind o).mono (fun p o1 v H1 s1 r1 => ?_) fun _ _ q => q⟩
    refine ⟨ρ, fp, eo.same s1, (Out.bind o1).mono (fun ps o2 vs H2 s2 r2 => ?_) fun _ _ q => q.later s1⟩
    exact o2 (v :: vs) H2 (s1.trans s2) (Reps.cons (Rep.same (A := Am C fp) s2 r1) r2)
  · obtain ⟨p, _, hp⟩ := bind_ok_inv hp
    obtain ⟨qs, e2, hp⟩ := bind_ok_inv hp
    cases hp
    simp [h2.2 ρ qs e2]
def oLst (g : L) : O := fun ρ => g ρ >>= fun ps => .ok (.l ps)
def eTup (g : L) : E := fun ρ => g ρ >>= fun ps => .ok (.tup ps)
theorem oj_lst {es : List Expr} {n : Nat} {g : L} (h : LE X C W es n g) (hn : n ≤ sizeLine := by decide) : OJ X C W (.List es pos) (oLst g) := pe_weak (pe_lst h.1) fun σ H Q ⟨ρ, fp, eo, o⟩ => by
  refine ⟨ρ, fp, eo, (Out.bind o).and.mono (fun ps ⟨e1, o1⟩ vs H1 s1 r1 => ?_) fun _ _ q => q⟩
  exact ⟨by rw [r1.length, h.2 ρ ps e1]; exact hn, (KO.later (K := X.K) (A := Am C fp) (t := .l ps) o1 s1).l r1⟩
theorem ej_tup {es : List Expr} {n : Nat} {g : L} {k : Nat} (h : LE X C W es n g) (hn : n ≤ sizeLine := by decide) : EJ X C W .E (.Tuple es k pos) (eTup g) := pe_weak (pe_tup h.1) fun σ H Q ⟨ρ, fp, eo, o⟩ => by
  refine ⟨ρ, fp, eo, (Out.bind o).and.mono (fun ps ⟨e1, o1⟩ vs H1 s1 r1 => ?_) fun _ _ q => q⟩
  refine ⟨by rw [r1.length, h.2 ρ ps e1]; exact hn, fun p hp => o1 (.ref p) (upd H1 p (.tup vs)) (s1.trans (same_upd hp)) ⟨p, vs, rfl, upd_same, Reps.same (same_upd hp) r1⟩⟩

/-! ### arguments, each of its own mode -/
def LJ' (X : Cx) (C : Addr → Prop) (W : WX) (ms : List Mode) (es : List Expr) (f : L) : Prop := PA X es (tL X.K C W ms f)
theorem lj_nil : LJ' X C W [] [] lNil := pa_weak pa_nil fun σ H Q ⟨ρ, fp, eo, o⟩ => o [] H (Same.refl H) trivial
theorem RepMs.same {K : PySem.W.Frag} {fp : Fp} {H H' : Hp} (s : Same H H') : ∀ {ms : List Mode} {ps : List PV} {vs : List V}, RepMs K C fp H ms ps vs → RepMs K C fp H' ms ps vs
  | [], [], [], h => h
  | m :: ms, p :: ps, v :: vs, h => ⟨h.1.same s, RepMs.same s h.2⟩
theorem lj_cons {es : List Expr} {ms : List Mode} {g : L} (h : EJ X C W m e f) (h2 : LJ' X C W ms es g) (hs : starEach (e :: es) X.env = (false, eval e X.env) :: starEach es X.env := by rfl) : LJ' X C W (m :: ms) (e :: es) (lCons f g) :=
  pa_weak (pa_cons h h2 hs) fun σ H Q ⟨ρ, fp, eo, o⟩ => by
    refine ⟨ρ, fp, eo, (Out.bind o).mono (fun p o1 v H1 s1 r1 => ?_) fun _ _ q => q⟩
    refine ⟨ρ, fp, eo.same s1, (Out.bind o1).mono (fun ps o2 vs H2 s2 r2 => ?_) fun _ _ q => q.later s1⟩
    exact o2 (v :: vs) H2 (s1.trans s2) ⟨r1.same s2, r2⟩

/-! ### calls of built-ins with one argument -/
def oUn (g : PV → Option OT) (f : E) : O := fun ρ => f ρ >>= fun x => ofO (g x)
def Call1 (K : PySem.W.Frag) (r : List V → Hp → VK → Prop) (m : Mode) (g : PV → Option OT) : Prop := ∀ (C : Addr → Prop) fp H p t v Q, g p = some t → RepM K C fp m H p v → KO K (Am C fp) H t Q → r [v] H Q
/-- .. whose answer is an atom -/
def Call1A (K : PySem.W.Frag) (r : List V → Hp → VK → Prop) (g : PV → Option PV) : Prop := ∀ H p z v Q, g p = some z → Rep K (fun _ => True) H p v → (∀ w, Atom K z w → Q w H) → r [v] H Q
theorem read1 {r : List V → Hp → VK → Prop} {m : Mode} {g : PV → Option OT} (hg : Call1 X.K r m g) {σ : L2.St} {H : Hp} {Q : VK} (h : tO X.K C W (oUn g f) σ H Q) :
    tCons (tE X.K C W m f) tNil σ H fun vs H1 => r vs H1 Q := by
  obtain ⟨ρ, fp, eo, o⟩ := h
  refine ⟨ρ, fp, eo, (Out.bind o).mono (fun p o1 v H1 s1 r1 => ?_) fun _ _ q => q⟩
  obtain ⟨t, ht, hQ⟩ := Out.ofO o1
  exact hg C fp H1 p t v Q ht r1 (KO.later hQ s1)
theorem read1A {r : List V → Hp → VK → Prop} {g : PV → Option PV} (hg : Call1A X.K r g) {σ : L2.St} {H : Hp} {Q : VK} (h : tE X.K C W m (eUn g f) σ H Q) :
    tCons (tE X.K C W m1 f) tNil σ H fun vs H1 => r vs H1 Q := by
  obtain ⟨ρ, fp, eo, o⟩ := h
  refine ⟨ρ, fp, eo, (Out.bind o).mono (fun p o1 v H1 s1 r1 => ?_) fun _ _ q => q⟩
  obtain ⟨t, ht, hQ⟩ := Out.ofO o1
  exact hg H1 p t v Q ht (RepM.toB r1) fun w a => hQ w H1 s1 a.rm
variable {nid : String} {x : Str} {r : List V → Hp → VK → Prop} {g : PV → Option OT} {gA : PV → Option PV}
theorem oj_call1 (hc : CallR X (.builtin nid) r) (hg : Call1 X.K r m g) (hl : Gl X x) (hm : X.mg x = none) (hv : bootBuiltins x = some (.builtin nid)) (h : EJ X C W m e f) (hn : x ≠ "__name__" := by decide) (hdb : (x == ("__debug__" : Str)) = false := by decide)
    (he : starEach [e] X.env = (false, eval e X.env) :: starEach [] X.env := by rfl) (hpl : (backTo pos (starEach [] X.env)).any (·.1) = false := by rfl) : OJ X C W (.Call (.Name x pn) [e] [] pos) (oUn g f) :=
  pe_weak (pe_callB hc hl hm hv (pa_cons h pa_nil he) hn hdb he hpl) fun σ H Q h => read1 hg h
theorem ej_call1 (hc : CallR X (.builtin nid) r) (hg : Call1A X.K r gA) (hl : Gl X x) (hm : X.mg x = none) (hv : bootBuiltins x = some (.builtin nid)) (h : EJ X C W m1 e f) (hn : x ≠ "__name__" := by decide) (hdb : (x == ("__debug__" : Str)) = false := by decide)
    (he : starEach [e] X.env = (false, eval e X.env) :: starEach [] X.env := by rfl) (hpl : (backTo pos (starEach [] X.env)).any (·.1) = false := by rfl) : EJ X C W m (.Call (.Name x pn) [e] [] pos) (eUn gA f) :=
  pe_weak (pe_callB hc hl hm hv (pa_cons h pa_nil he) hn hdb he hpl) fun σ H Q h => read1A hg h
theorem oj_callT1 (hc : CallR X (.type nid) r) (hg : Call1 X.K r m g) (hl : Gl X x) (hm : X.mg x = none) (hv : bootBuiltins x = some (.type nid)) (h : EJ X C W m e f) (hn : x ≠ "__name__" := by decide) (hdb : (x == ("__debug__" : Str)) = false := by decide)
    (he : starEach [e] X.env = (false, eval e X.env) :: starEach [] X.env := by rfl) (hpl : (backTo pos (starEach [] X.env)).any (·.1) = false := by rfl) : OJ X C W (.Call (.Name x pn) [e] [] pos) (oUn g f) :=
  pe_weak (pe_callTy hc hl hm hv (pa_cons h pa_nil he) hn hdb he hpl) fun σ H Q h => read1 hg h
theorem ej_callT1 (hc : CallR X (.type nid) r) (hg : Call1A X.K r gA) (hl : Gl X x) (hm : X.mg x = none) (hv : bootBuiltins x = some (.type nid)) (h : EJ X C W m1 e f) (hn : x ≠ "__name__" := by decide) (hdb : (x == ("__debug__" : Str)) = false := by decide)
    (he : starEach [e] X.env = (false, eval e X.env) :: starEach [] X.env := by rfl) (hpl : (backTo pos (starEach [] X.env)).any (·.1) = false := by rfl) : EJ X C W m (.Call (.Name x pn) [e] [] pos) (eUn gA f) :=
  pe_weak (pe_callTy hc hl hm hv (pa_cons h pa_nil he) hn hdb he hpl) fun σ H Q h => read1A hg h

/-- len -/
def gLen : PV → Option PV
  | .str x => if x.length ≤ sizeLine then some (.int x.length) else none
  | .lst ps => some (.int ps.length)
  | .rol ps => some (.int ps.length)
  | .tup ps => some (.int ps.length)
  | _ => none
theorem c_len : Call1A X.K (fun xs H Q => ∃ x n, xs = [x] ∧ LenV X.K x H n ∧ Q (.int n) H) gLen := fun H p z v Q hg r k => by
  cases p <;> simp only [gLen, Option.some.injEq, reduceCtorEq] at hg
  · split at hg
    · rename_i h
      cases hg
      exact ⟨v, _, rfl, by rw [show v = .str (mkS _) from r]; exact ⟨by rw [mkS_length]; exact h, (mkS_length _).symm⟩, k _ (atom_int _)⟩
    · cases hg
  · subst hg; obtain ⟨a, xs, rfl, ha, rr⟩ := r; exact ⟨_, _, rfl, .inr ⟨xs, SqT.of ha, rr.length.symm⟩, k _ (atom_int _)⟩
  · subst hg; obtain ⟨a, xs, rfl, _, ha, rr⟩ := r; exact ⟨_, _, rfl, .inl ⟨xs, SqL.of ha, rr.length.symm⟩, k _ (atom_int _)⟩
  · subst hg; obtain ⟨a, xs, rfl, ha, rr⟩ := r; exact ⟨_, _, rfl, .inl ⟨xs, ha.sq, rr.length.symm⟩, k _ (atom_int _)⟩
/-- list(..), tuple(..) -/
def gList : PV → Option OT
  | .lst ps => some (.l ps)
  | .rol ps => some (.l ps)
  | .tup ps => some (.l ps)
  | _ => none
theorem c_list : Call1 X.K (fun xs H Q => ∃ p ys, xs = [.ref p] ∧ (SqL X.K H p ys ∨ SqT X.K H p ys) ∧ ∀ l, H l = none → Q (.ref l) (upd H l (.lst ys))) .I gList := fun C fp H p t v Q hg r k => by
  cases p <;> simp only [gList, Option.some.injEq, reduceCtorEq] at hg
  · subst hg; obtain ⟨a, xs, rfl, ha, rr⟩ := r; exact ⟨a, xs, rfl, .inr (SqT.of ha), k.l rr⟩
  · subst hg; obtain ⟨a, xs, rfl, ha, rr⟩ := r; exact ⟨a, xs, rfl, .inl (SqL.of ha), k.l rr⟩
  · subst hg; obtain ⟨a, xs, rfl, ha, rr⟩ := r; exact ⟨a, xs, rfl, .inl ha.sq, k.l rr⟩
def gTuple : PV → Option OT
  | .lst ps => some (.fz (.tup ps))
  | .rol ps => some (.fz (.tup ps))
  | .tup ps => some (.fz (.tup ps))
  | _ => none
theorem c_tuple : Call1 X.K (fun xs H Q => ∃ p ys, xs = [.ref p] ∧ ((SqL X.K H p ys ∧ ∀ l, H l = none → Q (.ref l) (upd H l (.tup ys))) ∨ (SqT X.K H p ys ∧ Q (.ref p) H))) .I gTuple := fun C fp H p t v Q hg r k => by
  cases p <;> simp only [gTuple, Option.some.injEq, reduceCtorEq] at hg
  · subst hg; obtain ⟨a, xs, rfl, ha, rr⟩ := r; exact ⟨a, xs, rfl, .inr ⟨SqT.of ha, k.rep ⟨a, xs, rfl, ha, rr⟩⟩⟩
  · subst hg; obtain ⟨a, xs, rfl, ha, rr⟩ := r; exact ⟨a, xs, rfl, .inl ⟨SqL.of ha, k.t rr⟩⟩
  · subst hg; obtain ⟨a, xs, rfl, ha, rr⟩ := r; exact ⟨a, xs, rfl, .inl ⟨ha.sq, k.t rr⟩⟩
/-- int(..), str(..) of a whole number -/
def gInt : PV → Option PV
  | .int i => some (.int i)
  | .bl b => some (.int (if b then 1 else 0))
  | _ => none
theorem c_int : Call1A X.K (fun xs H Q => (∃ i, xs = [.int i] ∧ Q (.int i) H) ∨ ∃ k, xs = [.bl k] ∧ Q (.int (if k then 1 else 0)) H) gInt := fun H p z v Q hg r k => by
  cases p <;> simp only [gInt, Option.some.injEq, reduceCtorEq] at hg
  · subst hg; exact .inr ⟨_, by rw [show v = .bl _ from r], k _ (atom_int _)⟩
  · subst hg; exact .inl ⟨_, by rw [show v = .int _ from r], k _ (atom_int _)⟩
theorem char_lt (c : Char) : c.toNat < 1114112 := by
  have h := c.valid
  simp only [UInt32.isValidChar, Nat.isValidChar] at h
  have : c.toNat = c.val.toNat := rfl
  omega
/-- a text of Lean's -/
def txt (s : String) : Tx := s.toList.map fun c => ⟨c.toNat, char_lt c⟩
theorem mkS_txt (s : String) : mkS (txt s) = Str.ofString s := by
  rw [Str.ofString_eq_toList, mkS, txt, List.map_map]
  rfl
def gStr : PV → Option PV
  | .int i => if i.natAbs.log2 < 1920 then some (.str (txt (toString i))) else none
  | _ => none
theorem c_str : Call1A X.K (fun xs H Q => ∃ i, xs = [.int i] ∧ i.natAbs.log2 < 1920 ∧ Q (.str (toString i)) H) gStr := fun H p z v Q hg r k => by
  cases p <;> simp only [gStr, reduceCtorEq] at hg
  split at hg
  · rename_i h
    cases hg
    exact ⟨_, by rw [show v = .int _ from r], h, k _ (by rw [← mkS_txt]; exact atom_str _)⟩
  · cases hg
/-- all, any of truths -/
def bools : List PV → Option (List Bool)
  | [] => some []
  | .bl b :: ps => (bools ps).map (b :: ·)
  | _ :: _ => none
theorem reps_bools {K : PySem.W.Frag} {A : Addr → Prop} {H : Hp} : ∀ {ps : List PV} {vs : List V} {bs : List Bool}, Reps K A H ps vs → bools ps = some bs → vs = bs.map V.bl
  | [], _, _, r, h => by
    rw [show _ = [] from r]
    simp only [bools, Option.some.injEq] at h
    rw [← h]; rfl
  | p :: ps, _, bs, r, h => by
    obtain ⟨x, t, rfl, r1, r2⟩ := r
    cases p <;> simp only [bools, reduceCtorEq] at h
    cases e : bools ps with
    | none => rw [e] at h; cases h
    | some cs =>
      rw [e] at h; cases h
      rw [show x = .bl _ from r1, reps_bools r2 e]; rfl
def gAll : PV → Option PV
  | .lst ps => (bools ps).map fun bs => .bl (bs.all id)
  | _ => none
def gAny : PV → Option PV
  | .lst ps => (bools ps).map fun bs => .bl (bs.any id)
  | _ => none
theorem c_all : Call1A X.K (rAll X.K) gAll := fun H p z v Q hg r k => by
  cases p <;> simp only [gAll, reduceCtorEq] at hg
  rename_i ps
  obtain ⟨a, xs, rfl, _, ha, rr⟩ := r
  cases e : bools ps with
  | none => rw [e] at hg; cases hg
  | some bs =>
    rw [e] at hg; cases hg
    exact ⟨a, bs, rfl, by rw [← reps_bools rr e]; exact SqL.of ha, k _ (atom_bl _)⟩
theorem c_any : Call1A X.K (rAny X.K) gAny := fun H p z v Q hg r k => by
  cases p <;> simp only [gAny, reduceCtorEq] at hg
  rename_i ps
  obtain ⟨a, xs, rfl, _, ha, rr⟩ := r
  cases e : bools ps with
  | none => rw [e] at hg; cases hg
  | some bs =>
    rw [e] at hg; cases hg
    exact ⟨a, bs, rfl, by rw [← reps_bools rr e]; exact SqL.of ha, k _ (atom_bl _)⟩

/-! ### isinstance(x, T), T a built-in type -/
inductive Ty where
  | int | bool | str | list | tuple | dict
def Ty.name : Ty → String
  | .int => "int" | .bool => "bool" | .str => "str" | .list => "list" | .tuple => "tuple" | .dict => "dict"
def isT (t : Ty) : PV → Option PV
  | .non => some (.bl false)
  | .bl _ => some (.bl (match t with | .bool => true | .int => true | _ => false))
  | .int _ => some (.bl (match t with | .int => true | _ => false))
  | .str _ => some (.bl (match t with | .str => true | _ => false))
  | .tup _ => some (.bl (match t with | .tuple => true | _ => false))
  | .lst _ => some (.bl (match t with | .list => true | _ => false))
  | .dic _ => some (.bl (match t with | .dict => true | _ => false))
  | _ => none
theorem kitTab : ∀ t : Ty, kitB "NoneType" t.name = some false ∧ kitB "bool" t.name = some (match t with | .bool => true | .int => true | _ => false) ∧ kitB "int" t.name = some (match t with | .int => true | _ => false) ∧
    kitB "str" t.name = some (match t with | .str => true | _ => false) ∧ kitB "tuple" t.name = some (match t with | .tuple => true | _ => false) ∧ kitB "list" t.name = some (match t with | .list => true | _ => false) ∧
    kitB "dict" t.name = some (match t with | .dict => true | _ => false) := by
  intro t
  cases t <;> decide +kernel
theorem isT_ok {t : Ty} {K : PySem.W.Frag} {H : Hp} {p z : PV} {v : V} (hg : isT t p = some z) (r : Rep K (fun _ => True) H p v) : ∃ b n, z = .bl b ∧ TyX K H v (.type n) ∧ kitB n t.name = some b := by
  obtain ⟨k1, k2, k3, k4, k5, k6, k7⟩ := kitTab t
  cases p <;> simp only [isT, Option.some.injEq, reduceCtorEq] at hg <;> subst hg
  · rw [show v = .non from r]; exact ⟨_, _, rfl, .base .non, k1⟩
  · rw [show v = .bl _ from r]; exact ⟨_, _, rfl, .base (.bl _), k2⟩
  · rw [show v = .int _ from r]; exact ⟨_, _, rfl, .base (.int _), k3⟩
  · rw [show v = .str _ from r]; exact ⟨_, _, rfl, .base (.str _), k4⟩
  · obtain ⟨a, xs, rfl, ha, _⟩ := r; exact ⟨_, _, rfl, .base (.tup ha), k5⟩
  · obtain ⟨a, xs, rfl, _, ha, _⟩ := r; exact ⟨_, _, rfl, .base (.lst ha), k6⟩
  · obtain ⟨a, xs, rfl, _, ha | ⟨o, ha⟩, _⟩ := r
    · exact ⟨_, _, rfl, .base (.dK ha), k7⟩
    · exact ⟨_, _, rfl, .fDict ha, k7⟩
theorem ej_isi (t : Ty) {ps : Str} {px : Pos} (hg : Gl X "isinstance") (hm : X.mg "isinstance" = none) (hgT : Gl X ps) (hmT : X.mg ps = none) (hvT : bootBuiltins ps = some (.type t.name)) (h : EJ X C W m1 e f) (hn : ps ≠ "__name__" := by decide) (hd : (ps == ("__debug__" : Str)) = false := by decide)
    (he : starEach [e, .Name ps px] X.env = (false, eval e X.env) :: starEach [.Name ps px] X.env := by rfl) (he2 : starEach [.Name ps px] X.env = (false, eval (.Name ps px) X.env) :: starEach [] X.env := by rfl) (hpl : (backTo pos (starEach [.Name ps px] X.env)).any (·.1) = false := by rfl) :
    EJ X C W m (.Call (.Name "isinstance" pn) [e, .Name ps px] [] pos) (eUn (isT t) f) :=
  pe_weak (pe_callB call_isi hg hm (by decide +kernel) (pa_cons h (pa_cons (pe_bltn (v := .ty t.name) hgT hmT hvT rfl hn hd) pa_nil he2) he) (by decide) (by decide) he hpl) fun σ H Q ⟨ρ, fp, eo, o⟩ => by
    refine ⟨ρ, fp, eo, (Out.bind o).mono (fun p o1 v H1 s1 r1 => ?_) fun _ _ q => q⟩
    obtain ⟨z, hz, hQ⟩ := Out.ofO o1
    obtain ⟨b, n, rfl, ty, kb⟩ := isT_ok hz (RepM.toB r1)
    exact ⟨v, .ty t.name, .type n, .type t.name, b, rfl, .ty _, ty, kit_ty kb, hQ _ H1 s1 (atom_bl _).rm⟩
end
end Fz
end
section
/-! FwH: targets, statements, loops, comprehensions. -/
namespace Fz
open PySem PySem.Spec PyProof.Rows L2
section
variable {X : Cx} {C : Addr → Prop} {W : WX} {e e1 e2 e3 tg iter : Expr} {pos p2 pn : Pos} {m m1 m2 m3 : Mode} {f f1 f2 f3 : E} {fo : O}

/-! ### targets: common values -/
abbrev G := PV → Env → Option Env
/-- all but these slots are as they were -/
def But (vs : List Nat) (σ σ' : L2.St) : Prop := σ'.length = σ.length ∧ ∀ i, i ∉ vs → σ'[i]? = σ[i]?
theorem But.trans {vs : List Nat} {σ σ' σ2 : L2.St} (a : But vs σ σ') (b : But vs σ' σ2) : But vs σ σ2 := ⟨b.1.trans a.1, fun i h => (b.2 i h).trans (a.2 i h)⟩
theorem wipe_get (σ : L2.St) (i : Nat) : ∀ {vs : List Nat}, (wipe σ vs)[i]? = if i ∈ vs ∧ i < σ.length then some none else σ[i]?
  | [] => by simp [wipe]
  | v :: vs => by
    simp only [wipe]
    by_cases h : i = v
    · subst h
      by_cases hl : i < σ.length
      · rw [List.getElem?_set_self (by rw [wipe_length]; exact hl)]; simp [hl]
      · rw [List.getElem?_eq_none (by rw [List.length_set, wipe_length]; omega), List.getElem?_eq_none (by omega)]; simp [hl]
    · rw [List.getElem?_set_ne (Ne.symm h), wipe_get σ i]
      simp [h]
theorem But.wipe {vs : List Nat} {σ σ' : L2.St} (b : But vs σ σ') : L2.wipe σ' vs = L2.wipe σ vs := by
  refine List.ext_getElem? fun i => ?_
  rw [wipe_get, wipe_get, b.1]
  by_cases h : i ∈ vs
  · by_cases hl : i < σ.length
    · rw [if_pos ⟨h, hl⟩, if_pos ⟨h, hl⟩]
    · rw [if_neg (fun q => hl q.2), if_neg (fun q => hl q.2), List.getElem?_eq_none (by rw [b.1]; omega), List.getElem?_eq_none (by omega)]
  · rw [if_neg (fun q => h q.1), if_neg (fun q => h q.1), b.2 i h]
def tGt (vs : List Nat) (K : PySem.W.Frag) (C : Addr → Prop) (g : G) : TG := fun v σ H Q => ∃ ρ fp p ρ', EnvOk K C ρ σ H fp ∧ Rep K (Am C fp) H p v ∧ g p ρ = some ρ' ∧ ∀ σ' fp', EnvOk K C ρ' σ' H fp' → Grow H fp H fp' → But vs σ σ' → (∀ j, j ∉ vs → fp' j = fp j) → Q σ' H
def GJ (X : Cx) (C : Addr → Prop) (vs : List Nat) (e : Expr) (g : G) : Prop := PG X e (tGt vs X.K C g)
abbrev Gs := List PV → Env → Option Env
def tGts (is : List Nat) (K : PySem.W.Frag) (C : Addr → Prop) (g : Gs) : TGs := fun vs σ H Q => ∃ ρ fp ps ρ', EnvOk K C ρ σ H fp ∧ Reps K (Am C fp) H ps vs ∧ g ps ρ = some ρ' ∧ ∀ σ' fp', EnvOk K C ρ' σ' H fp' → Grow H fp H fp' → But is σ σ' → (∀ j, j ∉ is → fp' j = fp j) → Q σ' H
def GJs (X : Cx) (C : Addr → Prop) (vs : List Nat) (es : List Expr) (g : Gs) : Prop := PGs X es (tGts vs X.K C g)
theorem pg_weak {t t' : TG} (h : PG X e t) (w : ∀ v σ H Q, t' v σ H Q → t v σ H Q) : PG X e t' := ⟨fun pins s σ H v u Q I r q => h.run pins s σ H v u Q I r (w v σ H Q q)⟩
theorem pgs_weak {es : List Expr} {t t' : TGs} (h : PGs X es t) (w : ∀ v σ H Q, t' v σ H Q → t v σ H Q) : PGs X es t' := ⟨fun pins s σ H v u Q I r q => h.run pins s σ H v u Q I r (w v σ H Q q)⟩
def gNm (i : Nat) : G := fun p ρ => if i < ρ.length then some (ρ.set i (.val p)) else none
theorem gj_name {i : Nat} {x : Str} {vs : List Nat} (hN : X.N.Nodup) (hi : X.N[i]? = some x) (hx : Loc X.env.scope x) (hv : i ∈ vs := by decide) (hf : X.fn x = true ∨ X.env.scope.names.lookup x = some .local := by first | exact .inl rfl | exact .inr rfl | assumption) : GJ X C vs (.Name x pos) (gNm i) :=
  pg_weak (pg_name hN hi hx hf) fun v σ H Q ⟨ρ, fp, p, ρ', eo, r, hg, k⟩ => by
    unfold gNm at hg
    split at hg
    · rename_i hl
      cases hg
      obtain ⟨e1, g1⟩ := eo.setVal hl r
      exact k _ _ e1 g1 ⟨by simp, fun j hj => List.getElem?_set_ne fun z => hj (by rw [← z]; exact hv)⟩ fun j hj => put_ne fun z => hj (by rw [z]; exact hv)
    · cases hg
def gsNil : Gs := fun ps ρ => match ps with
  | [] => some ρ
  | _ => none
def gsCons (g : G) (h : Gs) : Gs := fun ps ρ => match ps with
  | [] => none
  | p :: ps => (g p ρ).bind fun ρ' => h ps ρ'
theorem gjs_nil {vs : List Nat} : GJs X C vs [] gsNil := pgs_weak pgs_nil fun v σ H Q ⟨ρ, fp, ps, ρ', eo, r, hg, k⟩ => by
  cases ps with
  | nil => cases hg; exact ⟨r, k σ fp eo Grow.refl ⟨rfl, fun _ _ => rfl⟩ fun _ _ => rfl⟩
  | cons p ps => cases hg
theorem gjs_cons {es : List Expr} {g : G} {h : Gs} {vs : List Nat} (h1 : GJ X C vs e g) (h2 : GJs X C vs es h) (hs : (assignEach (e :: es) X.env).map (·.2) = assign e X.env :: (assignEach es X.env).map (·.2) := by rfl) : GJs X C vs (e :: es) (gsCons g h) :=
  pgs_weak (pgs_cons h1 h2 hs) fun v σ H Q ⟨ρ, fp, ps, ρ', eo, r, hg, k⟩ => by
    cases ps with
    | nil => cases hg
    | cons p ps =>
      obtain ⟨x, t, rfl, r1, r2⟩ := r
      simp only [gsCons] at hg
      cases e1 : g p ρ with
      | none => rw [e1] at hg; cases hg
      | some ρ1 =>
        rw [e1] at hg
        refine ⟨x, t, rfl, ρ, fp, p, ρ1, eo, r1, e1, fun σ1 fp1 eo1 g1 b1 p1 => ?_⟩
        exact ⟨ρ1, fp1, ps, ρ', eo1, Reps.carry g1.carry r2, hg, fun σ2 fp2 eo2 g2 b2 p2 => k σ2 fp2 eo2 (g1.trans g2) (b1.trans b2) fun j hj => (p2 j hj).trans (p1 j hj)⟩
def gTp (n : Nat) (h : Gs) : G := fun p ρ => match p with
  | .tup ps => if ps.length = n then h ps ρ else none
  | _ => none
theorem gj_tup {es : List Expr} {k n : Nat} {h : Gs} {vs : List Nat} (hc : X.calm = true) (h1 : GJs X C vs es h) (hn : (assignEach es X.env).length = n := by rfl) (hst : (assignEach es X.env).findIdx? (·.1) = none := by rfl) : GJ X C vs (.Tuple es k pos) (gTp n h) :=
  pg_weak (pg_tup hc h1 hn hst) fun v σ H Q ⟨ρ, fp, p, ρ', eo, r, hg, k⟩ => by
    cases p <;> simp only [gTp, reduceCtorEq] at hg
    split at hg
    · rename_i hl
      obtain ⟨a, xs, rfl, ha, rr⟩ := r
      exact ⟨a, xs, rfl, SqT.of ha, by rw [rr.length]; exact hl, ρ, fp, _, ρ', eo, rr, hg, k⟩
    · cases hg

/-! ### small statements -/
def sAsg (i : Nat) (fo : O) : S := fun ρ => withR (fo ρ) ρ fun t => if i < ρ.length then .nx (ρ.set i (toSlot t)) else .bad
theorem asg_read {i : Nat} {K : PySem.W.Frag} {D : Ends} {σ : L2.St} {H : Hp} (h : tS K C W (sAsg i fo) D σ H) : tO K C W fo σ H fun x H1 => D.nx (σ.set i (some x)) H1 := by
  obtain ⟨ρ, fp, eo, h⟩ := h
  refine ⟨ρ, fp, eo, (FlQ.ofR eo h).mono (fun t q v H' Fn s hn hf r => ?_) fun _ _ q => q⟩
  split at q
  · rename_i hl
    obtain ⟨fp', e', g'⟩ := eo.setOwn hl s r hf hn
    exact q _ _ fp' e' g'
  · exact q.elim
theorem sj_asg {i : Nat} {x : Str} {pos' : Pos} (hN : X.N.Nodup) (hi : X.N[i]? = some x) (hx : Loc X.env.scope x) (he : OJ X C W e fo) (hs : swapsWith e (some (.Name x pos')) pos.line X.env = pure false := by rfl)
    (hf : X.fn x = true ∨ X.env.scope.names.lookup x = some .local := by first | exact .inl rfl | exact .inr rfl | assumption) : SJ X C W (.Assign [.Name x pos'] e pos) (sAsg i fo) :=
  ps_weak (ps_set hN hi hx he hs hf) fun D σ H h => asg_read h
def sAsgT (g : G) (f : E) : S := fun ρ => withR (f ρ) ρ fun p => match g p ρ with
  | some ρ' => .nx ρ'
  | none => .bad
theorem sj_asgT {g : G} {vs : List Nat} (he : EJ X C W .E e f) (hg : GJ X C vs tg g) (hs : swapsWithSole [tg] e pos.line X.env = pure false := by rfl) (hw : swappedStores [tg] e X.env = pure none := by rfl) (h1 : (assignEach [tg] X.env).map (·.2) = [assign tg X.env] := by rfl) : SJ X C W (.Assign [tg] e pos) (sAsgT g f) :=
  ps_weak (ps_asg he hg hs hw h1) fun D σ H ⟨ρ, fp, eo, h⟩ => by
    refine ⟨ρ, fp, eo, (FlQ.ofR eo h).mono (fun p q v H' s r => ?_) fun _ _ q => q⟩
    split at q
    · rename_i ρ' hρ
      exact ⟨ρ, fp, p, ρ', eo.same s, r, hρ, fun σ2 fp2 e2 g2 _ _ => q σ2 _ fp2 e2 ((Grow.same s).trans g2)⟩
    · exact q.elim
/-- names stored from the right, the values ahead of them taken from the left -/
def sPar (i j : Nat) (g : L) : S := fun ρ => withR (g ρ) ρ fun ps => match ps with
  | [p, q] => if i < ρ.length ∧ j < ρ.length ∧ i ≠ j then .nx ((ρ.set i (.val p)).set j (.val q)) else .bad
  | _ => .bad
theorem sj_par {i j n : Nat} {x y : Str} {a b : Expr} {g : L} {px py pt : Pos} {kt k2 : Nat} {pt2 : Pos} (hc : X.calm = true) (hN : X.N.Nodup) (hi : X.N[i]? = some x) (hj : X.N[j]? = some y) (hij : i ≠ j)
    (hx : X.env.scope.names.lookup x = some .local) (hy : X.env.scope.names.lookup y = some .local) (ha : LE X C W [a, b] n g)
    (hw : swappedStores [.Tuple [.Name x px, .Name y py] kt pt] (.Tuple [a, b] k2 pt2) X.env = pure (some [x, y])) (hs : swapsWithSole [.Tuple [.Name x px, .Name y py] kt pt] (.Tuple [a, b] k2 pt2) pos.line X.env = pure false := by rfl) :
    SJ X C W (.Assign [.Tuple [.Name x px, .Name y py] kt pt] (.Tuple [a, b] k2 pt2) pos) (sPar i j g) :=
  ps_weak (ps_par hc hN hi hj hij hx hy ha.1 hw hs) fun D σ H ⟨ρ, fp, eo, h⟩ => by
    refine ⟨ρ, fp, eo, (FlQ.ofR eo h).mono (fun ps q vs H' s r => ?_) fun _ _ q => q⟩
    match ps, q, r with
    | [p1, p2], q, r =>
      obtain ⟨v1, _, rfl, r1, v2, _, rfl, r2, rfl⟩ := r
      refine ⟨v1, v2, rfl, ?_⟩
      simp only at q
      split at q
      · rename_i hl
        obtain ⟨e1, g1⟩ := (eo.same s).setVal hl.1 r1
        obtain ⟨e2, g2⟩ := e1.setVal (i := j) (by simpa using hl.2.1) (Rep.carry g1.carry r2)
        exact q _ _ _ e2 ((Grow.same s).trans (g1.trans g2))
      · exact q.elim
/-- three names -/
def tPar3 (i j l : Nat) (ta : TA) : TS := fun D σ H => ta σ H fun vs H1 => ∃ v1 v2 v3, vs = [v1, v2, v3] ∧ D.nx (((σ.set i (some v1)).set j (some v2)).set l (some v3)) H1
theorem ps_par3 {i j l : Nat} {x y z : Str} {a b c : Expr} {ta : TA} {px py pz pt : Pos} {kt k2 : Nat} {pt2 : Pos} (hc : X.calm = true) (hN : X.N.Nodup) (hi : X.N[i]? = some x) (hj : X.N[j]? = some y) (hl : X.N[l]? = some z) (hij : i ≠ j) (hil : i ≠ l) (hjl : j ≠ l)
    (hx : X.env.scope.names.lookup x = some .local) (hy : X.env.scope.names.lookup y = some .local) (hz : X.env.scope.names.lookup z = some .local) (ha : PA X [a, b, c] ta)
    (hw : swappedStores [.Tuple [.Name x px, .Name y py, .Name z pz] kt pt] (.Tuple [a, b, c] k2 pt2) X.env = pure (some [x, y, z])) (hs : swapsWithSole [.Tuple [.Name x px, .Name y py, .Name z pz] kt pt] (.Tuple [a, b, c] k2 pt2) pos.line X.env = pure false := by rfl) :
    PS X (.Assign [.Tuple [.Name x px, .Name y py, .Name z pz] kt pt] (.Tuple [a, b, c] k2 pt2) pos) (tPar3 i j l ta) := by
  constructor; intro pins s σ H D I0 h
  rw [exec_Assign_arm]
  apply wpAny_bind; apply wpAny_standAt
  rw [hs]; apply wpAny_bind; apply wpAny_pure; rw [if_neg (by decide)]
  refine wpAny_bind (Tuple_ (thn (ha.run _ pins s σ H _ I0 h) fun us s1 hA => ?_))
  obtain ⟨vs, H1, I1, r1, v1, v2, v3, e1, q1⟩ := hA
  subst e1
  obtain ⟨u1, u2, u3, rfl, rv1, rv2, rv3⟩ : ∃ u1 u2 u3, us = [u1, u2, u3] ∧ RelV v1 u1 ∧ RelV v2 u2 ∧ RelV v3 u3 := by
    cases r1 with
    | cons a1 r1 =>
      cases r1 with
      | cons a2 r1 =>
        cases r1 with
        | cons a3 r1 => cases r1; exact ⟨_, _, _, rfl, a1, a2, a3⟩
  refine wpAny_newObj_type ?_ (by show 3 ≤ sizeLine; decide)
  have I2 : L2.Inv X pins σ H1 { s1 with heap := s1.heap.push { cls := .type "tuple", data := .seq [u1, u2, u3].toArray } } := I1.kept (t' := s1.toks) fun b o e => Heap.get?_push_of_some _ e
  rw [hw]; apply wpAny_bind; apply wpAny_pure
  show wpAny (model X.prog X.w) X.A (do rule "assign.swapped-stores"; let items ← unpackItems (.ref s1.heap.objs.size) 3 none; assignInOrder [fun v => bindName X.env z v, fun v => bindName X.env y v, fun v => bindName X.env x v] items.reverse; pure Flow.next) _ _ _
  refine wpAny_bind (wpAny_rule (wpAny_bind (unpackItems_tuple (items := #[u1, u2, u3]) (I0.ok.hd hc) (IsTup.new s1.heap _) fun h' hx' => ?_)))
  have I3 := I2.kept (h' := h') (t' := s1.toks) fun b o e => hx' b o (Nat.ne_of_lt (Heap.lt_size e)) e
  show wpAny _ _ (assignInOrder [fun v => bindName X.env z v, fun v => bindName X.env y v, fun v => bindName X.env x v] [u3, u2, u1] >>= fun _ => pure Flow.next) _ _ _
  refine wpAny_bind (assignInOrder_cons (wpAny_bindName (store_ok I3 hN hl (.inl hz) rv3 (fun s2 I4 => ?_) (.inr hz))))
  refine assignInOrder_cons (wpAny_bindName (store_ok I4 hN hj (.inl hy) rv2 (fun s3 I5 => ?_) (.inr hy)))
  refine assignInOrder_cons (wpAny_bindName (store_ok I5 hN hi (.inl hx) rv1 (fun s4 I6 => assignInOrder_nil (wpAny_pure ?_)) (.inr hx)))
  have e : ((σ.set l (some v3)).set j (some v2)).set i (some v1) = ((σ.set i (some v1)).set j (some v2)).set l (some v3) := by
    rw [List.set_comm (some v2) (some v1) (Ne.symm hij), List.set_comm (some v3) (some v1) (Ne.symm hil), List.set_comm (some v3) (some v2) (Ne.symm hjl)]
  rw [e] at I6
  exact ⟨_, H1, I6, q1⟩
def sPar3 (i j l : Nat) (g : L) : S := fun ρ => withR (g ρ) ρ fun ps => match ps with
  | [p, q, r] => if i < ρ.length ∧ j < ρ.length ∧ l < ρ.length then .nx (((ρ.set i (.val p)).set j (.val q)).set l (.val r)) else .bad
  | _ => .bad
theorem sj_par3 {i j l n : Nat} {x y z : Str} {a b c : Expr} {g : L} {px py pz pt : Pos} {kt k2 : Nat} {pt2 : Pos} (hc : X.calm = true) (hN : X.N.Nodup) (hi : X.N[i]? = some x) (hj : X.N[j]? = some y) (hl : X.N[l]? = some z) (hij : i ≠ j) (hil : i ≠ l) (hjl : j ≠ l)
    (hx : X.env.scope.names.lookup x = some .local) (hy : X.env.scope.names.lookup y = some .local) (hz : X.env.scope.names.lookup z = some .local) (ha : LE X C W [a, b, c] n g)
    (hw : swappedStores [.Tuple [.Name x px, .Name y py, .Name z pz] kt pt] (.Tuple [a, b, c] k2 pt2) X.env = pure (some [x, y, z])) (hs : swapsWithSole [.Tuple [.Name x px, .Name y py, .Name z pz] kt pt] (.Tuple [a, b, c] k2 pt2) pos.line X.env = pure false := by rfl) :
    SJ X C W (.Assign [.Tuple [.Name x px, .Name y py, .Name z pz] kt pt] (.Tuple [a, b, c] k2 pt2) pos) (sPar3 i j l g) :=
  ps_weak (ps_par3 hc hN hi hj hl hij hil hjl hx hy hz ha.1 hw hs) fun D σ H ⟨ρ, fp, eo, h⟩ => by
    refine ⟨ρ, fp, eo, (FlQ.ofR eo h).mono (fun ps q vs H' s r => ?_) fun _ _ q => q⟩
    match ps, q, r with
    | [p1, p2, p3], q, r =>
      obtain ⟨v1, _, rfl, r1, v2, _, rfl, r2, v3, _, rfl, r3, rfl⟩ := r
      refine ⟨v1, v2, v3, rfl, ?_⟩
      simp only at q
      split at q
      · rename_i hl
        obtain ⟨e1, g1⟩ := (eo.same s).setVal hl.1 r1
        obtain ⟨e2, g2⟩ := e1.setVal (i := j) (by simpa using hl.2.1) (Rep.carry g1.carry r2)
        obtain ⟨e3, g3⟩ := e2.setVal (i := l) (by simpa using hl.2.2) (Rep.carry (g1.trans g2).carry r3)
        exact q _ _ _ e3 ((Grow.same s).trans ((g1.trans g2).trans g3))
      · exact q.elim
def sFrz (i : Nat) : S := fun ρ => match ρ[i]? with
  | some (.own t) => .nx (ρ.set i (.val t.pv))
  | _ => .nx ρ
/-- ahead of a statement a name may let go -/
theorem sj_frz {st : Stmt} {s : S} (i : Nat) (h : SJ X C W st s) : SJ X C W st (sSeq (sFrz i) s) := ps_weak h fun D σ H ⟨ρ, fp, eo, h⟩ => by
  unfold sSeq sFrz at h
  split at h
  · rename_i t ht
    obtain ⟨e1, g1⟩ := eo.freeze ht
    exact ⟨_, _, e1, FlQ.later g1 h⟩
  · exact ⟨ρ, fp, eo, h⟩
/-- a name that can't be seen is no more its own -/
def sDrop (fo : O) : S := fun ρ => withR (fo ρ) ρ fun _ => .nx ρ
theorem sj_expr (he : OJ X C W e fo) (hs : swapsWith e none pos.line X.env = pure false := by rfl) : SJ X C W (.Expr e pos) (sDrop fo) := ps_weak (ps_expr he hs) fun D σ H ⟨ρ, fp, eo, h⟩ =>
  ⟨ρ, fp, eo, (FlQ.ofR eo h).mono (fun t q v H' Fn s hn hf r => q σ H' fp (eo.same s) (Grow.same s)) fun _ _ q => q⟩
theorem sj_pass : SJ X C W (.Pass pos) sNil := ps_weak ps_pass fun D σ H ⟨ρ, fp, eo, h⟩ => h σ H fp eo Grow.refl
def sBrk : S := fun ρ => .bk ρ
def sCnt : S := fun ρ => .ct ρ
theorem sj_break : SJ X C W (.Break pos) sBrk := ps_weak ps_break fun D σ H ⟨ρ, fp, eo, h⟩ => h σ H fp eo Grow.refl
theorem sj_continue : SJ X C W (.Continue pos) sCnt := ps_weak ps_continue fun D σ H ⟨ρ, fp, eo, h⟩ => h σ H fp eo Grow.refl
def sRet (fo : O) : S := fun ρ => withR (fo ρ) ρ fun t => .rt t
theorem sj_ret (he : OJ X C W e fo) : SJ X C W (.Return (some e) pos) (sRet fo) := ps_weak (ps_ret he) fun D σ H ⟨ρ, fp, eo, h⟩ =>
  ⟨ρ, fp, eo, (FlQ.ofR eo h).mono (fun t q v H' Fn s hn hf r => q v H' Fn (by
    have g := Grow.same (fp := fp) s
    exact ⟨g.keep, g.tups, g.frz, g.more, fun a h => by obtain ⟨_, h⟩ := h; cases h⟩) hn (fun a ha => .inr (hf a ha)) (r.carry (Carry.refl fun a _ q _ => ⟨q.1.1, q.2⟩) fun _ _ _ q => q)) fun _ _ q => q⟩
def sRetN : S := fun _ => .rt (.fz .non)
theorem grow_end {H H' : Hp} {fp fp' : Fp} (g : Grow H fp H' fp') : Grow H fp H' (fun _ => []) := ⟨g.keep, g.tups, g.frz, g.more, fun a h => by obtain ⟨_, h⟩ := h; cases h⟩
theorem sj_retN : SJ X C W (.Return none pos) sRetN := ps_weak ps_retN fun D σ H ⟨ρ, fp, eo, h⟩ => h .non H [] (grow_end Grow.refl) List.nodup_nil (fun _ h => nomatch h) ⟨rfl, rfl⟩
/-- return x: what x alone held is handed on -/
def sRetV (i : Nat) : S := fun ρ => match ρ[i]? with
  | some (.own t) => .rt t
  | some (.val p) => .rt (.fz p)
  | some (.bor p) => if immut p then .rt (.fz p) else .bad
  | _ => .bad
theorem sj_retV {i : Nat} {x : Str} {pos' : Pos} (hN : X.N[i]? = some x) (hv : Vis X.env.scope x) (hd : (x == ("__debug__" : Str)) = false := by decide) (hcd : (x == ("__classdict__" : Str)) = false := by decide) : SJ X C W (.Return (some (.Name x pos')) pos) (sRetV i) :=
  ps_weak (ps_ret (pe_var hN hv hd hcd)) fun D σ H ⟨ρ, fp, eo, h⟩ => by
    have hs := eo.slot i
    unfold sRetV at h
    cases e : ρ[i]? with
    | none => rw [e] at h; exact h.elim
    | some sl =>
      rw [e] at h
      have hs := hs sl e
      cases sl with
      | u => exact h.elim
      | exn a od l => exact h.elim
      | val p =>
        obtain ⟨_, v, hv, r⟩ := hs
        exact ⟨v, hv, h v H [] (grow_end Grow.refl) List.nodup_nil (fun _ h => nomatch h) ⟨rfl, Rep.sub (fun a q => ⟨q.1, fun z => nomatch z⟩) r⟩⟩
      | bor p =>
        obtain ⟨_, v, hv, r⟩ := hs
        simp only at h
        split at h
        · rename_i hi
          exact ⟨v, hv, h v H [] (grow_end Grow.refl) List.nodup_nil (fun _ h => nomatch h) ⟨rfl, Rep.immut hi r⟩⟩
        · exact h.elim
      | own t =>
        obtain ⟨v, hv, r⟩ := hs
        exact ⟨v, hv, h v H (fp i) (grow_end Grow.refl) (eo.nod i) (fun a ha => .inl ⟨i, ha⟩) (r.carry (Carry.refl fun a _ q _ => ⟨q.1, fun z => q.2 ⟨i, z⟩⟩) fun _ _ _ q => q)⟩
def sIf (t : T) (s1 s2 : S) : S := fun ρ => withR (t ρ) ρ fun b => if b = true then s1 ρ else s2 ρ
theorem sj_if {t : T} {a b : List Stmt} {s1 s2 : S} (ht : TJ X C W e t) (h1 : BJ X C W a s1) (h2 : BJ X C W b s2) : SJ X C W (.If e a b pos) (sIf t s1 s2) := ps_weak (ps_if ht h1 h2) fun D σ H ⟨ρ, fp, eo, h⟩ => by
  refine ⟨ρ, fp, eo, (FlQ.ofR eo h).mono (fun b q H' s => ?_) fun _ _ q => q⟩
  cases b with
  | true => exact ⟨ρ, fp, eo.same s, FlQ.later (Grow.same s) q⟩
  | false => exact ⟨ρ, fp, eo.same s, FlQ.later (Grow.same s) q⟩

/-! ### what is walked -/
/-- J yields the items, as long as rel says that what is walked stands -/
def IterOk (K : PySem.W.Frag) (A : Addr → Prop) (H0 : Hp) (rel : Hp → Prop) (J : It) (items : List PV) : Prop :=
  ∀ H (B : Addr → Prop), rel H → Carry A B H0 H → ∀ i, (∀ p, items[i]? = some p → J.go i H ∧ ∀ x H', J.yld i H x H' → Same H H' ∧ Rep K B H' p x) ∧ (items.length ≤ i → J.stop i H)
/-- any step; steps that change nothing -/
def relG (H : Hp) (fp : Fp) : Hp → Prop := fun H' => (∀ a o, H a = some o → ¬ InF fp a → H' a = some o) ∧ (∀ a xs, H a = some (.tup xs) → H' a = some (.tup xs)) ∧ ∀ a o u, H a = some (.frz o u) → H' a = some (.frz o u)
def relS (H : Hp) (fp : Fp) : Hp → Prop := fun H' => Same H H'
def tI (K : PySem.W.Frag) (C : Addr → Prop) (W : WX) (rel : Hp → Fp → Hp → Prop) (f : L) : TI := fun σ H R => ∃ ρ fp, EnvOk K C ρ σ H fp ∧ Out (f ρ) (fun items => ∀ J H', Same H H' → IterOk K (Am C fp) H' (rel H' fp) J items → R J H') (XQ K W σ H)
def IJ (X : Cx) (C : Addr → Prop) (W : WX) (rel : Hp → Fp → Hp → Prop) (tg iter : Expr) (f : L) : Prop := PI X tg iter (tI X.K C W rel f)
theorem pi_weak {t t' : TI} (h : PI X tg iter t) (w : ∀ σ H R, t' σ H R → t σ H R) : PI X tg iter t' := ⟨fun pins s σ H R I q => h.run pins s σ H R I (w σ H R q)⟩
theorem pi_or {t t' : TI} (h : PI X tg iter t) (h' : PI X tg iter t') : PI X tg iter (fun σ H R => t σ H R ∨ t' σ H R) := ⟨fun pins s σ H R I q => q.elim (h.run pins s σ H R I) (h'.run pins s σ H R I)⟩
/-- the items of a list, a tuple -/
def itemsOf : PV → Res (List PV)
  | .lst ps => .ok ps
  | .rol ps => .ok ps
  | .tup ps => .ok ps
  | _ => .bad
def lOf (f : E) : L := fun ρ => f ρ >>= itemsOf
theorem iter_list {K : PySem.W.Frag} {A : Addr → Prop} {H0 : Hp} {rel : Hp → Prop} {a : Addr} {ps : List PV} {xs : List V} (r : Reps K A H0 ps xs) (h : ∀ H, rel H → SqL K H a xs) : IterOk K A H0 rel (Itl K a) ps := fun H B hr c i => by
  have h1 := h H hr
  have h2 := Reps.carry c r
  refine ⟨fun p hp => ?_, fun hi => ⟨xs, h1, by rw [h2.length]; exact hi⟩⟩
  obtain ⟨v, hv, r⟩ := h2.get hp
  refine ⟨⟨xs, v, h1, hv⟩, fun x H' ⟨e1, e2⟩ => ?_⟩
  have := e2 xs h1
  rw [hv] at this; cases this
  subst e1
  exact ⟨Same.refl _, r⟩
theorem iter_tup {K : PySem.W.Frag} {A : Addr → Prop} {H0 : Hp} {rel : Hp → Prop} {a : Addr} {ps : List PV} {xs : List V} (r : Reps K A H0 ps xs) (h : ∀ H, rel H → SqT K H a xs) : IterOk K A H0 rel (Itt K a) ps := fun H B hr c i => by
  have h1 := h H hr
  have h2 := Reps.carry c r
  refine ⟨fun p hp => ?_, fun hi => ⟨xs, h1, by rw [h2.length]; exact hi⟩⟩
  obtain ⟨v, hv, r⟩ := h2.get hp
  refine ⟨⟨xs, v, h1, hv⟩, fun x H' ⟨e1, e2⟩ => ?_⟩
  have := e2 xs h1
  rw [hv] at this; cases this
  subst e1
  exact ⟨Same.refl _, r⟩
def isTupP : PV → Bool
  | .tup _ => true
  | _ => false
/-- a sequence that stands -/
def Stands (K : PySem.W.Frag) (A : Addr → Prop) (H0 : Hp) (rel : Hp → Prop) (p : PV) (v : V) (ps : List PV) : Prop :=
  ∃ a xs, v = .ref a ∧ Reps K A H0 ps xs ∧ (isTupP p = false → ∀ H, rel H → SqL K H a xs) ∧ (isTupP p = true → ∀ H, rel H → SqT K H a xs)
theorem ro_rel {K : PySem.W.Frag} {H H' : Hp} (h : ∀ a o u, H a = some (.frz o u) → H' a = some (.frz o u)) {a : Addr} {xs : List V} (r : RoAt K H a xs) : SqL K H' a xs := r.elim (fun ⟨o, q⟩ => .inl (.inr ⟨o, h _ _ _ q⟩)) .inr
theorem seq_stands {K : PySem.W.Frag} {H0 : Hp} {fp0 : Fp} {p : PV} {v : V} {ps : List PV} (r : Rep K (Am C fp0) H0 p v) (h : itemsOf p = .ok ps) : Stands K (Am C fp0) H0 (relG H0 fp0) p v ps := by
  cases p <;> simp only [itemsOf, Res.ok.injEq, reduceCtorEq] at h <;> subst h
  · obtain ⟨a, xs, rfl, ha, rr⟩ := r
    exact ⟨a, xs, rfl, rr, fun z => (by cases z), fun _ H g => SqT.of (g.2.1 _ _ ha)⟩
  · obtain ⟨a, xs, rfl, hA, ha, rr⟩ := r
    exact ⟨a, xs, rfl, rr, fun _ H g => SqL.of (g.1 _ _ ha hA.2), fun z => by cases z⟩
  · obtain ⟨a, xs, rfl, ha, rr⟩ := r
    exact ⟨a, xs, rfl, rr, fun _ H g => ro_rel g.2.2 ha, fun z => by cases z⟩
theorem seq_standsS {K : PySem.W.Frag} {H0 : Hp} {fp0 : Fp} {p : PV} {v : V} {ps : List PV} (r : RepI K (Am C fp0) H0 p v) (h : itemsOf p = .ok ps) : Stands K (Am C fp0) H0 (relS H0 fp0) p v ps := by
  cases p <;> simp only [itemsOf, Res.ok.injEq, reduceCtorEq] at h <;> subst h
  · obtain ⟨a, xs, rfl, ha, rr⟩ := r
    exact ⟨a, xs, rfl, rr, fun z => (by cases z), fun _ H s => SqT.of (s _ _ ha)⟩
  · obtain ⟨a, xs, rfl, ha, rr⟩ := r
    exact ⟨a, xs, rfl, rr, fun _ H s => SqL.of (s _ _ ha), fun z => by cases z⟩
  · obtain ⟨a, xs, rfl, ha, rr⟩ := r
    exact ⟨a, xs, rfl, rr, fun _ H s => ro_rel (fun a o u h => s a _ h) ha, fun z => by cases z⟩
theorem itemsOf_out {p : PV} {P : List PV → Prop} {E' : XF} (h : Out (itemsOf p) P E') : ∃ ps, itemsOf p = .ok ps ∧ P ps := by
  cases p <;> first | exact ⟨_, rfl, h⟩ | exact h.elim
theorem seq_read {σ : L2.St} {H : Hp} {R : It → Hp → Prop} {rel : Hp → Fp → Hp → Prop} (hst : ∀ (fp : Fp) H' p v ps, RepM X.K C fp m H' p v → itemsOf p = .ok ps → Stands X.K (Am C fp) H' (rel H' fp) p v ps) (hrf : ∀ H fp, rel H fp H)
    (h : tI X.K C W rel (lOf f) σ H R) : iList X.K (tE X.K C W m f) σ H R ∨ iTup X.K (tE X.K C W m f) σ H R := by
  obtain ⟨ρ, fp, eo, o⟩ := h
  by_cases ht : ∃ p, f ρ = .ok p ∧ isTupP p = true
  · obtain ⟨p0, e0, t0⟩ := ht
    right
    refine ⟨ρ, fp, eo, (Out.bind o).and.mono (fun p ⟨e1, o1⟩ v H1 s1 r1 => ?_) fun _ _ q => q⟩
    rw [e0] at e1; cases e1
    obtain ⟨ps, hp, o2⟩ := itemsOf_out o1
    obtain ⟨a, xs, rfl, rr, _, h2⟩ := hst fp H1 p0 v ps r1 hp
    exact ⟨a, rfl, ⟨xs, h2 t0 H1 (hrf _ _)⟩, o2 _ H1 s1 (iter_tup rr (h2 t0))⟩
  · left
    refine ⟨ρ, fp, eo, (Out.bind o).and.mono (fun p ⟨e1, o1⟩ v H1 s1 r1 => ?_) fun _ _ q => q⟩
    have t0 : isTupP p = false := by
      cases z : isTupP p with
      | false => rfl
      | true => exact (ht ⟨p, e1, z⟩).elim
    obtain ⟨ps, hp, o2⟩ := itemsOf_out o1
    obtain ⟨a, xs, rfl, rr, h2, _⟩ := hst fp H1 p v ps r1 hp
    exact ⟨a, rfl, ⟨xs, h2 t0 H1 (hrf _ _)⟩, o2 _ H1 s1 (iter_list rr (h2 t0))⟩
theorem relG.refl {H : Hp} {fp : Fp} : relG H fp H := ⟨fun _ _ h _ => h, fun _ _ h => h, fun _ _ _ h => h⟩
theorem ij_seq (h : EJ X C W .E iter f) : IJ X C W relG tg iter (lOf f) :=
  pi_weak (pi_or (pi_list h) (pi_tup h)) fun σ H R q => seq_read (m := .E) (fun fp H' p v ps r hp => seq_stands r hp) (fun _ _ => relG.refl) q
theorem ij_seqS (h : EJ X C W .I iter f) : IJ X C W relS tg iter (lOf f) :=
  pi_weak (pi_or (pi_list h) (pi_tup h)) fun σ H R q => seq_read (m := .I) (fun fp H' p v ps r hp => seq_standsS r hp) (fun H fp => Same.refl H) q
/-- a range -/
def rangeL (lo : Int) (n : Nat) : List PV := (List.range n).map fun (k : Nat) => .int (lo + (k : Int))
theorem iter_range {K : PySem.W.Frag} {A : Addr → Prop} {H0 : Hp} {rel : Hp → Prop} {lo : Int} {n : Nat} : IterOk K A H0 rel (Itr lo n) (rangeL lo n) := fun H B hr _ i => by
  refine ⟨fun p hp => ?_, fun hi => (by simpa [rangeL] using hi : n ≤ i)⟩
  rw [rangeL, List.getElem?_map] at hp
  by_cases hi : i < n
  · rw [List.getElem?_eq_getElem (by simpa using hi)] at hp
    simp only [List.getElem_range, Option.map_some, Option.some.injEq] at hp
    refine ⟨hi, fun x H' ⟨e1, e2⟩ => ?_⟩
    subst e1 e2 hp
    exact ⟨Same.refl _, rfl⟩
  · rw [List.getElem?_eq_none (by simpa using Nat.le_of_not_lt hi)] at hp
    cases hp
def bnd (i : Int) : Bool := decide (-(2 ^ 62) ≤ i ∧ i < 2 ^ 62)
def lRange1 (f : E) : L := fun ρ => f ρ >>= intOf >>= fun j => if bnd j = true then .ok (rangeL 0 j.toNat) else .bad
theorem ij_range1 {rel : Hp → Fp → Hp → Prop} (hg : Gl X "range") (hm : X.mg "range" = none) (h : EJ X C W m e f) (hs : starEach [e] X.env = [(false, eval e X.env)] := by rfl) : IJ X C W rel tg (.Call (.Name "range" p2) [e] [] pos) (lRange1 f) :=
  pi_weak (pi_range1 hg hm (pa_cons h pa_nil hs) hs) fun σ H R ⟨ρ, fp, eo, o⟩ => by
    refine ⟨ρ, fp, eo, (Out.bind (Out.bind o)).mono (fun p o1 v H1 s1 r1 => ?_) fun _ _ q => q⟩
    cases p with
    | int j =>
      have o1 : Out (if bnd j = true then Res.ok (rangeL 0 j.toNat) else .bad) _ _ := o1
      split at o1
      · rename_i hb
        have hb : -(2 ^ 62) ≤ j ∧ j < 2 ^ 62 := by simpa [bnd] using hb
        exact ⟨j, by rw [show v = .int j from RepM.toB r1], hb.1, hb.2, o1 _ H1 s1 iter_range⟩
      · exact o1.elim
    | _ => exact o1.elim
def lRange2 (f g : E) : L := fun ρ => f ρ >>= fun x => g ρ >>= fun y => intOf x >>= fun i => intOf y >>= fun j => if bnd i = true ∧ bnd j = true then .ok (rangeL i (j - i).toNat) else .bad
theorem ij_range2 {rel : Hp → Fp → Hp → Prop} (hg : Gl X "range") (hm : X.mg "range" = none) (h1 : EJ X C W m1 e1 f1) (h2 : EJ X C W m2 e2 f2) (hs : starEach [e1, e2] X.env = [(false, eval e1 X.env), (false, eval e2 X.env)] := by rfl) (hs2 : starEach [e2] X.env = [(false, eval e2 X.env)] := by rfl) :
    IJ X C W rel tg (.Call (.Name "range" p2) [e1, e2] [] pos) (lRange2 f1 f2) :=
  pi_weak (pi_range2 hg hm (pa_cons h1 (pa_cons h2 pa_nil hs2) (by rw [hs, hs2])) hs hs2) fun σ H R ⟨ρ, fp, eo, o⟩ => two (m1 := m1) (m2 := m2) eo o fun p q v u H2 s eo2 o2 r1 r2 => by
    cases p with
    | int i =>
      cases q with
      | int j =>
        have o2 : Out (if bnd i = true ∧ bnd j = true then Res.ok (rangeL i (j - i).toNat) else .bad) _ _ := o2
        split at o2
        · rename_i hb
          have hb : (-(2 ^ 62) ≤ i ∧ i < 2 ^ 62) ∧ -(2 ^ 62) ≤ j ∧ j < 2 ^ 62 := by simpa [bnd] using hb
          exact ⟨i, j, by rw [show v = .int i from RepM.toB r1, show u = .int j from RepM.toB r2], ⟨hb.1.1, hb.1.2, hb.2⟩, o2 _ H2 s iter_range⟩
        · exact o2.elim
      | _ => exact o2.elim
    | _ => exact o2.elim

/-! ### for -/
def loop (g : G) (body : S) : List PV → Env → Fl
  | [], ρ => .nx ρ
  | p :: ps, ρ => match g p ρ with
    | none => .bad
    | some ρ1 => match body ρ1 with
      | .nx ρ2 => loop g body ps ρ2
      | .ct ρ2 => loop g body ps ρ2
      | .bk ρ2 => .nx ρ2
      | r => r
def sFor (l : L) (g : G) (body : S) : S := fun ρ => withR (l ρ) ρ fun ps => loop g body ps ρ
theorem sj_for {l : L} {g : G} {body : S} {sts : List Stmt} {vs : List Nat} (hp : PassesOwn (model X.prog X.w) X.A X.env X.xe) (hc : X.calm = true) (hi : IJ X C W relG tg iter l) (hg : GJ X C vs tg g) (hb : BJ X C W sts body) (hs : ∀ x, foldedSetIterable iter X.env x = pure x := by intro _; rfl) :
    SJ X C W (.For tg iter sts [] pos) (sFor l g body) :=
  ps_weak (ps_for hp hc hi hg hb hs) fun D σ H ⟨ρ, fp, eo, h⟩ => by
    refine ⟨ρ, fp, eo, (FlQ.ofR eo h).mono (fun items q J H0 s0 it => ?_) fun _ _ q => q⟩
    refine ⟨fun i m σ H => m = items.length - i ∧ ∃ ρ fp', EnvOk X.K C ρ σ H fp' ∧ Grow H0 fp H fp' ∧ FlQ X.K C W D H fp' (loop g body (items.drop i) ρ), ⟨_, rfl, ρ, fp, eo.same s0, Grow.refl, FlQ.later (Grow.same s0) q⟩, ?_⟩
    rintro i m' σ1 H1 ⟨rfl, ρ1, fp1, eo1, g1, q1⟩
    obtain ⟨it1, it2⟩ := it H1 (Am C fp1) ⟨g1.keep, g1.tups, g1.frz⟩ g1.carry i
    by_cases hi : i < items.length
    · have hx : items[i]? = some items[i] := List.getElem?_eq_getElem hi
      obtain ⟨go, yl⟩ := it1 _ hx
      rw [List.drop_eq_getElem_cons hi] at q1
      refine .inr ⟨go, fun σ' H' => ∃ ρ' fp', EnvOk X.K C ρ' σ' H' fp' ∧ Grow H0 fp H' fp' ∧ FlQ X.K C W D H' fp' (loop g body (items.drop (i + 1)) ρ'), fun σ' H' ⟨ρ', fp', a, b, c⟩ => ⟨items.length - (i + 1), by omega, rfl, ρ', fp', a, b, c⟩, fun x H' hy => ?_⟩
      obtain ⟨s2, r⟩ := yl x H' hy
      have q2 := FlQ.later (Grow.same (fp := fp1) s2) q1
      unfold loop at q2
      split at q2
      · exact q2.elim
      · rename_i ρ2 hρ
        refine ⟨ρ1, fp1, items[i], ρ2, eo1.same s2, r, hρ, fun σ3 fp3 eo3 g3 _ _ => ⟨ρ2, fp3, eo3, ?_⟩⟩
        have q3 := FlQ.later g3 q2
        have gg : Grow H0 fp H' fp3 := g1.trans ((Grow.same s2).trans g3)
        cases z : body ρ2 with
        | nx a => rw [z] at q3; exact fun σ4 H4 fp4 eo4 g4 => ⟨_, fp4, eo4, gg.trans g4, FlQ.later g4 q3⟩
        | ct a => rw [z] at q3; exact fun σ4 H4 fp4 eo4 g4 => ⟨_, fp4, eo4, gg.trans g4, FlQ.later g4 q3⟩
        | bk a => rw [z] at q3; exact q3
        | rt a => rw [z] at q3; exact q3
        | ex a b c => rw [z] at q3; exact q3
        | bad => rw [z] at q3; exact q3.elim
    · rw [List.drop_eq_nil_of_le (Nat.le_of_not_lt hi)] at q1
      exact .inl ⟨it2 (Nat.le_of_not_lt hi), q1 σ1 H1 fp1 eo1 Grow.refl⟩
end
end Fz
end
section
/-! FwI: comprehensions. -/
namespace Fz
open PySem PySem.Spec PyProof.Rows L2
def wipeE (ρ : Env) : List Nat → Env
  | [] => ρ
  | v :: vs => (wipeE ρ vs).set v .u
/-- the names of a comprehension hide nothing that is alone its own -/
def shadowOk (ρ : Env) (vs : List Nat) : Bool := vs.all fun i => match ρ[i]? with
  | some (.own _) => false
  | _ => true
theorem wipeE_len (ρ : Env) : ∀ vs, (wipeE ρ vs).length = ρ.length
  | [] => rfl
  | v :: vs => by simp [wipeE, wipeE_len ρ vs]
theorem wipeE_get (ρ : Env) (σ : L2.St) {i : Nat} {s : Slot} : ∀ {vs : List Nat}, (wipeE ρ vs)[i]? = some s → (s = .u ∧ i ∈ vs) ∨ (i ∉ vs ∧ ρ[i]? = some s ∧ (wipe σ vs)[i]? = σ[i]?)
  | [], h => .inr ⟨by simp, h, rfl⟩
  | v :: vs, h => by
    simp only [wipeE] at h
    by_cases hv : i = v
    · subst hv
      have hl : i < (wipeE ρ vs).length := by
        have := (List.getElem?_eq_some_iff.mp h).1
        simpa using this
      rw [List.getElem?_set_self hl] at h
      cases h
      exact .inl ⟨rfl, List.mem_cons_self⟩
    · rw [List.getElem?_set_ne (Ne.symm hv)] at h
      rcases wipeE_get ρ σ h with ⟨a, b⟩ | ⟨a, b, c⟩
      · exact .inl ⟨a, List.mem_cons_of_mem _ b⟩
      · refine .inr ⟨by simp [hv, a], b, ?_⟩
        simp only [wipe]
        rw [List.getElem?_set_ne (Ne.symm hv)]
        exact c
/-- one turn: none where the tests say no; exceptions out of a block are not served -/
def compTurn (g : G) (t : T) (el : E) (ρ : Env) (p : PV) : Option (Option PV) := match g p ρ with
  | none => none
  | some ρ1 => match t ρ1 with
    | .ok true => (match el ρ1 with
      | .ok y => some (some y)
      | _ => none)
    | .ok false => some none
    | _ => none
def compLoop (g : G) (t : T) (el : E) (ρ : Env) : List PV → Option (List PV)
  | [] => some []
  | p :: ps => (compTurn g t el ρ p).bind fun o => (compLoop g t el ρ ps).map fun ys => match o with
    | some y => y :: ys
    | none => ys
def tYesF : T := fun _ => .ok true
/-- so much fits a list -/
def fits (ps : List PV) : Res OT := if ps.length ≤ sizeLine then .ok (.l ps) else .bad
def oComp (l : L) (vs : List Nat) (g : G) (t : T) (el : E) : O := fun ρ => if shadowOk ρ vs = true then l ρ >>= fun ps => ofO (compLoop g t el (wipeE ρ vs) ps) >>= fits else .bad
def W0 : WX := fun _ _ _ _ => False
section
variable {X : Cx} {C : Addr → Prop} {W : WX} {e e1 e2 e3 tg iter : Expr} {pos p2 pn : Pos} {m m1 m2 m3 : Mode} {f f1 f2 f3 : E} {fo : O}
theorem EnvOk.block {K : PySem.W.Frag} {ρ : Env} {σ : L2.St} {H H' : Hp} {fp : Fp} {vs : List Nat} {D : Addr} (eo : EnvOk K C ρ σ H fp) (hs : shadowOk ρ vs = true) (hD : H D = none) (keep : ∀ a o, H a = some o → H' a = some o) (hD' : H' D ≠ none) :
    EnvOk K (fun a => C a ∧ a ≠ D) (wipeE ρ vs) (wipe σ vs) H' fp where
  len := by rw [wipeE_len, wipe_length]; exact eo.len
  slot := fun i s h => by
    rcases wipeE_get ρ σ h with ⟨rfl, hi⟩ | ⟨hi, h2, h3⟩
    · have := (List.all_eq_true.mp hs) i hi
      have hi2 : i < ρ.length := by
        have := (List.getElem?_eq_some_iff.mp h).1
        rwa [wipeE_len] at this
      have e : ρ[i]? = some ρ[i] := List.getElem?_eq_getElem hi2
      have sl := eo.slot i _ e
      rw [e] at this
      revert sl this
      cases ρ[i] with
      | u => intro _ h; exact h
      | val p => intro _ h; exact h.1
      | bor p => intro _ h; exact h.1
      | exn a od l => intro _ h; exact h.1
      | own t => intro h _; cases h
    · have sl := eo.slot i _ h2
      rw [h3]
      have c : Carry (Am C fp) (Am (fun a => C a ∧ a ≠ D) fp) H H' := Carry.mk' (fun a o q e => ⟨⟨q.1, fun z => by rw [z, hD] at e; cases e⟩, q.2⟩) (fun a o _ e => keep a o e) (fun a xs e => keep a _ e) fun a o u e => keep a _ e
      have cB : Carry (fun a => ¬ InF fp a) (fun a => ¬ InF fp a) H H' := Carry.mk' (fun a o q e => q) (fun a o _ e => keep a o e) (fun a xs e => keep a _ e) fun a o u e => keep a _ e
      revert sl
      cases s with
      | u => exact id
      | val p => rintro ⟨f, v, hv, r⟩; exact ⟨f, v, hv, Rep.carry c r⟩
      | bor p => rintro ⟨f, v, hv, r⟩; exact ⟨f, v, hv, Rep.carry cB r⟩
      | exn a od l => rintro ⟨f, hv, r⟩; exact ⟨f, hv, XSl.carry cB r⟩
      | own t => rintro ⟨v, hv, r⟩; exact ⟨v, hv, r.carry c fun a _ o q => keep a o q⟩
  out := fun i hi => eo.out i (by rwa [wipeE_len] at hi)
  inj := eo.inj
  nod := eo.nod
  cap := fun a h => ⟨eo.cap a h, fun z => by obtain ⟨o, ho, _⟩ := eo.live h; rw [z, hD] at ho; cases ho⟩
  new := fun a h => ⟨eo.new a (by
    cases z : H a with
    | none => rfl
    | some o => rw [keep a o z] at h; cases h), fun z => hD' (z ▸ h)⟩
theorem wipe_wipe (σ : L2.St) (vs : List Nat) : wipe (wipe σ vs) vs = wipe σ vs := by
  refine List.ext_getElem? fun i => ?_
  rw [wipe_get, wipe_get, wipe_length]
  by_cases h : i ∈ vs ∧ i < σ.length
  · rw [if_pos h, if_pos h]
  · rw [if_neg h, if_neg h]
/-- the tests of a clause -/
def TsJ (X : Cx) (C : Addr → Prop) (W : WX) (ifs : List Expr) (t : T) : Prop := PTs X ifs (tT X.K C W t)
theorem pts_weak {X : Cx} {ifs : List Expr} {t t' : TT} (h : PTs X ifs t) (w : ∀ σ H Q, t' σ H Q → t σ H Q) : PTs X ifs t' := ⟨fun pins s σ H Q I q => h.run pins s σ H Q I (w σ H Q q)⟩
theorem tsj_nil : TsJ X C W [] tYesF := pts_weak pts_nil fun σ H Q ⟨ρ, fp, eo, o⟩ => o H (Same.refl H)
theorem tsj_one {t : T} (h : TJ X C W e t) : TsJ X C W [e] t := pts_one h
end
section
variable {X : Cx} {C : Addr → Prop} {W : WX} {e e1 e2 e3 tg iter : Expr} {pos p2 pn : Pos} {m m1 m2 m3 : Mode} {f f1 f2 f3 : E} {fo : O}
/-- readings for any frame of common things -/
def uG (vs : List Nat) (K : PySem.W.Frag) (g : G) : TG := fun v σ H Q => ∃ D, tGt vs K D g v σ H Q
def uT (K : PySem.W.Frag) (t : T) : TT := fun σ H Q => ∃ D, tT K D W0 t σ H Q
def uE (K : PySem.W.Frag) (f : E) : TE := fun σ H Q => ∃ D, tE K D W0 .E f σ H Q
theorem uG_ok {vs : List Nat} {g : G} (h : ∀ D, GJ X D vs tg g) : PG X tg (uG vs X.K g) := ⟨fun pins s σ H v u Q I r ⟨D, q⟩ => (h D).run pins s σ H v u Q I r q⟩
theorem uT_ok {ifs : List Expr} {t : T} (h : ∀ D, TsJ X D W0 ifs t) : PTs X ifs (uT X.K t) := ⟨fun pins s σ H Q I ⟨D, q⟩ => (h D).run pins s σ H Q I q⟩
theorem uE_ok (h : ∀ D, EJ X D W0 .E e f) : PE X e (uE X.K f) := ⟨fun pins s σ H Q I ⟨D, q⟩ => (h D).run pins s σ H Q I q⟩
theorem fits_out {ps : List PV} {P : OT → Prop} {E' : XF} (h : Out (fits ps) P E') : ps.length ≤ sizeLine ∧ P (.l ps) := by
  unfold fits at h
  split at h
  · rename_i hl; exact ⟨hl, h⟩
  · exact h.elim
theorem Out.noexc {α : Type} {r : Res α} {P : α → Prop} {E' : XF} (h : Out r P E') (n : ∀ c fs, r ≠ .exc c fs) : ∃ a, r = .ok a ∧ P a := by
  cases r with
  | ok a => exact ⟨a, rfl, h⟩
  | exc c fs => exact (n c fs rfl).elim
  | bad => exact h.elim
theorem comp_loop_le {g : G} {t : T} {el : E} {ρ : Env} : ∀ {ps ys : List PV}, compLoop g t el ρ ps = some ys → ys.length ≤ ps.length
  | [], ys, h => by cases h; exact Nat.le_refl _
  | p :: ps, ys, h => by
    simp only [compLoop] at h
    cases e : compTurn g t el ρ p with
    | none => rw [e] at h; cases h
    | some o =>
      rw [e] at h
      cases e2 : compLoop g t el ρ ps with
      | none => rw [e2] at h; cases h
      | some zs =>
        rw [e2] at h
        have := comp_loop_le e2
        cases o with
        | none => cases h; simp only [List.length_cons]; omega
        | some y => cases h; simp only [List.length_cons]; omega
/-- the reading of a comprehension -/
theorem comp_read {K : PySem.W.Frag} {l : L} {vs : List Nat} {g : G} {t : T} {el : E} {σ : L2.St} {H : Hp} {Q : VK} (h : tO K C W (oComp l vs g t el) σ H Q) : tLc (tI K C W relS l) (uG vs K g) (uT K t) (uE K el) vs σ H Q := by
  obtain ⟨ρ, fp, eo, o⟩ := h
  unfold oComp at o
  split at o
  case isFalse => exact o.elim
  rename_i hs
  refine ⟨ρ, fp, eo, (Out.bind o).mono (fun items o1 J H1 s1 it => ?_) fun _ _ q => q⟩
  intro D hD
  obtain ⟨res, hres, o2⟩ := Out.ofO (Out.bind o1)
  obtain ⟨hfit, k⟩ := fits_out o2
  have k : KO K (Am C fp) H1 (.l res) Q := KO.later k s1
  refine ⟨fun i m H => m = items.length - i ∧ ∃ acc accV rest, (∀ a o, a ≠ D → H1 a = some o → H a = some o) ∧ H D = some (.lst accV) ∧ Reps K (fun a => Am C fp a ∧ a ≠ D) H acc accV ∧ compLoop g t el (wipeE ρ vs) (items.drop i) = some rest ∧ res = acc ++ rest,
    ⟨_, rfl, [], [], res, fun a o ha e => by rw [upd_ne ha]; exact e, upd_same, rfl, hres, rfl⟩, ?_⟩
  rintro i m H2 ⟨rfl, acc, accV, rest, keep, hDD, ra, hr, he⟩
  have sm : Same H1 H2 := fun a o e => keep a o (fun z => by rw [z, hD] at e; cases e) e
  have cB : Carry (Am C fp) (Am (fun a => C a ∧ a ≠ D) fp) H1 H2 := Carry.mk' (fun a o q e => ⟨⟨q.1, fun z => by rw [z, hD] at e; cases e⟩, q.2⟩) (fun a o _ e => sm a o e) (fun a xs e => sm a _ e) fun a o u e => sm a _ e
  obtain ⟨it1, it2⟩ := it H2 _ sm cB i
  by_cases hi : i < items.length
  · have hx : items[i]? = some items[i] := List.getElem?_eq_getElem hi
    obtain ⟨go, yl⟩ := it1 _ hx
    rw [List.drop_eq_getElem_cons hi] at hr
    simp only [compLoop] at hr
    cases eT : compTurn g t el (wipeE ρ vs) items[i] with
    | none => rw [eT] at hr; cases hr
    | some ot =>
      rw [eT] at hr
      cases eL : compLoop g t el (wipeE ρ vs) (items.drop (i + 1)) with
      | none => rw [eL] at hr; cases hr
      | some rest' =>
        rw [eL] at hr
        refine .inr ⟨go, fun H' => ∃ acc accV rest, (∀ a o, a ≠ D → H1 a = some o → H' a = some o) ∧ H' D = some (.lst accV) ∧ Reps K (fun a => Am C fp a ∧ a ≠ D) H' acc accV ∧ compLoop g t el (wipeE ρ vs) (items.drop (i + 1)) = some rest ∧ res = acc ++ rest,
          fun H' ⟨a, b, c, d⟩ => ⟨items.length - (i + 1), by omega, rfl, a, b, c, d⟩, fun x H' hy => ?_⟩
        obtain ⟨s2, r⟩ := yl x H' hy
        unfold compTurn at eT
        cases eg : g items[i] (wipeE ρ vs) with
        | none => rw [eg] at eT; cases eT
        | some ρ1 =>
          rw [eg] at eT
          simp only at eT
          have sm' : Same H1 H' := sm.trans s2
          have hD' : H' D = some (.lst accV) := s2 _ _ hDD
          have eb : EnvOk K (fun a => C a ∧ a ≠ D) (wipeE ρ vs) (wipe σ vs) H' fp := (eo.same s1).block hs hD sm' (by rw [hD']; simp)
          refine ⟨fun a => C a ∧ a ≠ D, wipeE ρ vs, fp, items[i], ρ1, eb, r, eg, fun σ3 fp3 eo3 g3 b3 p3 => ⟨(b3.wipe).trans (wipe_wipe σ vs), ?_⟩⟩
          have stay : ∀ H4, Same H' H4 → (∀ a o, a ≠ D → H1 a = some o → H4 a = some o) ∧ H4 D = some (.lst accV) ∧ Reps K (fun a => Am C fp a ∧ a ≠ D) H4 acc accV := fun H4 s4 =>
            ⟨fun a o _ e => s4 a o (sm' a o e), s4 _ _ hD', Reps.same (s2.trans s4) ra⟩
          have inF : ∀ a, InF fp a → InF fp3 a := fun a ⟨j, hj⟩ => by
            by_cases hv : j ∈ vs
            · have : fp j = [] := by
                by_cases hl : j < (wipeE ρ vs).length
                · have e := List.getElem?_eq_getElem hl
                  rcases wipeE_get ρ σ e with ⟨z, _⟩ | ⟨z, _⟩
                  · have := eb.slot j _ e; rw [z] at this; exact this
                  · exact (z hv).elim
                · exact eb.out j (Nat.le_of_not_lt hl)
              rw [this] at hj; cases hj
            · exact ⟨j, by rw [p3 j hv]; exact hj⟩
          cases et : t ρ1 with
          | exc c fs => rw [et] at eT; cases eT
          | bad => rw [et] at eT; cases eT
          | ok b =>
            rw [et] at eT
            refine ⟨fun a => C a ∧ a ≠ D, ρ1, fp3, eo3, ?_⟩
            rw [et]
            intro H4 s4
            obtain ⟨k1, k2, k3⟩ := stay H4 s4
            cases b with
            | false =>
              cases eT
              rw [if_neg (by simp)]
              refine ⟨acc, accV, rest', k1, k2, k3, eL, ?_⟩
              simp only [Option.map_some, Option.bind_some, Option.some.injEq] at hr
              rw [he, ← hr]
            | true =>
              rw [if_pos rfl]
              simp only at eT
              cases ee : el ρ1 with
              | exc c fs => rw [ee] at eT; cases eT
              | bad => rw [ee] at eT; cases eT
              | ok y =>
                rw [ee] at eT
                cases eT
                simp only [Option.map_some, Option.bind_some, Option.some.injEq] at hr
                refine ⟨fun a => C a ∧ a ≠ D, ρ1, fp3, eo3.same s4, ?_⟩
                rw [ee]
                intro v H5 s5 rv
                obtain ⟨k1, k2, k3⟩ := stay H5 (s4.trans s5)
                refine ⟨accV, k2, ?_, acc ++ [y], accV ++ [v], rest', fun a o ha e => by rw [upd_ne ha]; exact k1 a o ha e, upd_same, ?_, eL, ?_⟩
                · rw [k3.length]
                  rw [he, ← hr] at hfit
                  simp only [List.length_append, List.length_cons] at hfit
                  omega
                · have rv : Rep K (fun a => Am C fp a ∧ a ≠ D) H5 y v := Rep.sub (fun a q => ⟨⟨q.1.1, fun z => q.2 (inF a z)⟩, q.1.2⟩) (rv : Rep K (Am (fun a => C a ∧ a ≠ D) fp3) H5 y v)
                  have nt : ∀ a, a ≠ D → (upd H5 D (.lst (accV ++ [v]))) a = H5 a := fun a h => upd_ne h
                  have c : Carry (fun a => Am C fp a ∧ a ≠ D) (fun a => Am C fp a ∧ a ≠ D) H5 (upd H5 D (.lst (accV ++ [v]))) :=
                    Carry.mk' (fun a o q _ => q) (fun a o q e => by rw [nt a q.2]; exact e) (fun a xs e => by rw [nt a (fun z => by rw [z, k2] at e; cases e)]; exact e) fun a o u e => by rw [nt a (fun z => by rw [z, k2] at e; cases e)]; exact e
                  exact (Reps.carry c k3).append (Reps.one (Rep.carry c rv))
                · rw [he, ← hr]; simp
  · rw [List.drop_eq_nil_of_le (Nat.le_of_not_lt hi)] at hr
    cases hr
    rw [List.append_nil] at he
    subst he
    refine .inl ⟨it2 (Nat.le_of_not_lt hi), k _ _ [D] ?_ (by simp) (fun a h => by rw [List.mem_singleton.mp h]; exact hD) ⟨D, accV, rfl, rfl, hDD, Reps.sub (fun a q => ⟨q.1, fun z => q.2 (List.mem_singleton.mp z)⟩) ra⟩⟩
    exact sm
/-- [el for tg in iter if ..] -/
theorem oj_comp {elt : Expr} {ifs : List Expr} {scope : Scope} {own : List (Str × Nat)} {l : L} {g : G} {t : T} {el : E} (hc : X.calm = true) (hN : X.N.Nodup) (hi : IJ X C W relS tg iter l) (ok : BlkOk X.N X.env.scope scope own)
    (hg : ∀ (D : Addr → Prop) (s : Shared) (H : Hp) (c : Addr) (cl : List (Str × Addr)) (fp : List Addr), GJ (X.blk s H scope (compEnvC scope cl c X.env) fp) D (own.map (·.2)) tg g)
    (ht : ∀ (D : Addr → Prop) (s : Shared) (H : Hp) (c : Addr) (cl : List (Str × Addr)) (fp : List Addr), TsJ (X.blk s H scope (compEnvC scope cl c X.env) fp) D W0 ifs t)
    (he : ∀ (D : Addr → Prop) (s : Shared) (H : Hp) (c : Addr) (cl : List (Str × Addr)) (fp : List Addr), EJ (X.blk s H scope (compEnvC scope cl c X.env) fp) D W0 .E elt el) (hs : ∀ x, foldedSetIterable iter X.env x = pure x := by intro _; rfl) :
    OJ X C W (.ListComp elt [⟨tg, iter, ifs, 0⟩] scope pos) (oComp l (own.map (·.2)) g t el) :=
  pe_weak (pe_lc hc hN hi ok (fun s H c cl fp => uG_ok fun D => hg D s H c cl fp) (fun s H c cl fp => uT_ok fun D => ht D s H c cl fp) (fun s H c cl fp => uE_ok fun D => he D s H c cl fp) hs) fun σ H Q h => comp_read h
/-- y = [..], on one line, y a local -/
theorem sj_asgLc {i : Nat} {y : Str} {py spos : Pos} {elt : Expr} {ifs : List Expr} {scope : Scope} {own : List (Str × Nat)} {l : L} {g : G} {t : T} {el : E} (hc : X.calm = true) (hN : X.N.Nodup) (hy : X.N[i]? = some y) (hyl : X.env.scope.names.lookup y = some .local)
    (hsw : swapsWith (.ListComp elt [⟨tg, iter, ifs, 0⟩] scope pos) (some (.Name y py)) spos.line X.env = pure true) (hi : IJ X C W relS tg iter l) (ok : BlkOk X.N X.env.scope scope own)
    (hg : ∀ (D : Addr → Prop) (s : Shared) (H : Hp) (c : Addr) (cl : List (Str × Addr)) (fp : List Addr), GJ (X.blk s H scope (compEnvC scope cl c X.env) fp) D (own.map (·.2)) tg g)
    (ht : ∀ (D : Addr → Prop) (s : Shared) (H : Hp) (c : Addr) (cl : List (Str × Addr)) (fp : List Addr), TsJ (X.blk s H scope (compEnvC scope cl c X.env) fp) D W0 ifs t)
    (he : ∀ (D : Addr → Prop) (s : Shared) (H : Hp) (c : Addr) (cl : List (Str × Addr)) (fp : List Addr), EJ (X.blk s H scope (compEnvC scope cl c X.env) fp) D W0 .E elt el) (hs : ∀ x, foldedSetIterable iter X.env x = pure x := by intro _; rfl) :
    SJ X C W (.Assign [.Name y py] (.ListComp elt [⟨tg, iter, ifs, 0⟩] scope pos) spos) (sAsg i (oComp l (own.map (·.2)) g t el)) :=
  ps_weak (ps_setLc hc hN hy hyl hsw hi ok (fun s H c cl fp => uG_ok fun D => hg D s H c cl fp) (fun s H c cl fp => uT_ok fun D => ht D s H c cl fp) (fun s H c cl fp => uE_ok fun D => he D s H c cl fp) hs) fun D σ H h => comp_read (asg_read h)
end
end Fz
end
section
/-! FwJ: changes of what is one's own; while. -/
namespace Fz
open PySem PySem.Spec PyProof.Rows L2
section
variable {X : Cx} {C : Addr → Prop} {W : WX} {e e1 e2 e3 tg iter : Expr} {pos p2 pn pa : Pos} {m m1 m2 m3 : Mode} {f f1 f2 f3 : E} {fo : O}

/-- a list of slot i is rewritten -/
theorem EnvOk.writeL {K : PySem.W.Frag} {ρ : Env} {σ : L2.St} {H : Hp} {fp : Fp} {i : Nat} {ps qs : List PV} {a : Addr} {xs ys : List V} (e : EnvOk K C ρ σ H fp) (h : ρ[i]? = some (.own (.l ps))) (hv : σ[i]? = some (some (.ref a))) (hF : fp i = [a]) (ha : H a = some (.lst xs)) (r : Reps K (Am C fp) H qs ys) :
    EnvOk K C (ρ.set i (.own (.l qs))) σ (upd H a (.lst ys)) (put fp i [a]) ∧ Grow H fp (upd H a (.lst ys)) (put fp i [a]) := by
  have ne : ∀ b, b ≠ a → (upd H a (.lst ys)) b = H b := fun b hb => upd_ne hb
  refine e.write h hv (by intros; simp) (fun b o hb q => ?_) (fun b hb => ?_) (fun b hb => .inl (by rw [hF]; exact hb)) (by simp) ⟨a, ys, rfl, rfl, upd_same, ?_⟩
  · rw [hF] at hb
    rw [ne b (by simpa using hb)]; exact q
  · by_cases z : b = a
    · subst z; rw [upd_same]; simp
    · rw [ne b z]; exact hb
  · have nA : ∀ b, Am C fp b → b ≠ a := fun b q z => q.2 ⟨i, by rw [hF, z]; simp⟩
    exact Reps.carry (Carry.mk' (fun b o q _ => ⟨q, fun z => nA b q (by simpa using z)⟩) (fun b o q z => by rw [ne b (nA b q)]; exact z) (fun b xs' z => by rw [ne b (fun q => by rw [q, ha] at z; cases z)]; exact z) fun b o u z => by rw [ne b (fun q => by rw [q, ha] at z; cases z)]; exact z) r
theorem EnvOk.writeD {K : PySem.W.Frag} {ρ : Env} {σ : L2.St} {H : Hp} {fp : Fp} {i : Nat} {ps qs : List (K1 × PV)} {a : Addr} {xs ys : List (Key × V)} (e : EnvOk K C ρ σ H fp) (h : ρ[i]? = some (.own (.d ps))) (hv : σ[i]? = some (some (.ref a))) (hF : fp i = [a]) (ha : H a = some (.dK xs)) (r : RepK K (Am C fp) H qs ys) :
    EnvOk K C (ρ.set i (.own (.d qs))) σ (upd H a (.dK ys)) (put fp i [a]) ∧ Grow H fp (upd H a (.dK ys)) (put fp i [a]) := by
  have ne : ∀ b, b ≠ a → (upd H a (.dK ys)) b = H b := fun b hb => upd_ne hb
  refine e.write h hv (by intros; simp) (fun b o hb q => ?_) (fun b hb => ?_) (fun b hb => .inl (by rw [hF]; exact hb)) (by simp) ⟨a, ys, rfl, rfl, upd_same, ?_⟩
  · rw [hF] at hb
    rw [ne b (by simpa using hb)]; exact q
  · by_cases z : b = a
    · subst z; rw [upd_same]; simp
    · rw [ne b z]; exact hb
  · have nA : ∀ b, Am C fp b → b ≠ a := fun b q z => q.2 ⟨i, by rw [hF, z]; simp⟩
    exact RepK.carry (Carry.mk' (fun b o q _ => ⟨q, fun z => nA b q (by simpa using z)⟩) (fun b o q z => by rw [ne b (nA b q)]; exact z) (fun b xs' z => by rw [ne b (fun q => by rw [q, ha] at z; cases z)]; exact z) fun b o u z => by rw [ne b (fun q => by rw [q, ha] at z; cases z)]; exact z) r
theorem EnvOk.ownL {K : PySem.W.Frag} {ρ : Env} {σ : L2.St} {H : Hp} {fp : Fp} {i : Nat} {ps : List PV} (e : EnvOk K C ρ σ H fp) (h : ρ[i]? = some (.own (.l ps))) : ∃ a xs, σ[i]? = some (some (.ref a)) ∧ fp i = [a] ∧ H a = some (.lst xs) ∧ Reps K (Am C fp) H ps xs := by
  obtain ⟨v, hv, a, xs, rfl, hF, ha, r⟩ := e.slot i _ h
  exact ⟨a, xs, hv, hF, ha, r⟩
theorem EnvOk.ownD {K : PySem.W.Frag} {ρ : Env} {σ : L2.St} {H : Hp} {fp : Fp} {i : Nat} {ps : List (K1 × PV)} (e : EnvOk K C ρ σ H fp) (h : ρ[i]? = some (.own (.d ps))) : ∃ a xs, σ[i]? = some (some (.ref a)) ∧ fp i = [a] ∧ H a = some (.dK xs) ∧ RepK K (Am C fp) H ps xs := by
  obtain ⟨v, hv, a, xs, rfl, hF, ha, r⟩ := e.slot i _ h
  exact ⟨a, xs, hv, hF, ha, r⟩

/-! ### expressions that change a name's own thing -/
abbrev Qx := Env → Res (PV × Env)
def tQ (K : PySem.W.Frag) (C : Addr → Prop) (W : WX) (q : Qx) : TE := fun σ H Q => ∃ ρ fp, EnvOk K C ρ σ H fp ∧ Out (q ρ) (fun r => ∀ v H' fp', EnvOk K C r.2 σ H' fp' → Grow H fp H' fp' → Rep K (Am C fp') H' r.1 v → Q v H') (XQ K W σ H)
def QJ (X : Cx) (C : Addr → Prop) (W : WX) (e : Expr) (q : Qx) : Prop := PE X e (tQ X.K C W q)
def qE (f : E) : Qx := fun ρ => f ρ >>= fun p => .ok (p, ρ)
theorem qj_E (h : EJ X C W .E e f) : QJ X C W e (qE f) := pe_weak h fun σ H Q ⟨ρ, fp, eo, o⟩ => ⟨ρ, fp, eo, (Out.bind o).mono (fun p q v H' s r => q v H' fp (eo.same s) (Grow.same s) r) fun _ _ q => q⟩
/-- x.pop(e) -/
def qPopAt (i : Nat) (f : E) : Qx := fun ρ => match ρ[i]? with
  | some (.own (.l ps)) => f ρ >>= fun x => intOf x >>= fun k => if bnd k = true then (match ixN ps.length k with
    | some j => (match ps[j]? with
      | some p => .ok (p, ρ.set i (.own (.l (ps.eraseIdx j))))
      | none => .bad)
    | none => .bad) else .bad
  | _ => .bad
theorem bnd_spec {k : Int} (h : bnd k = true) : -(2 ^ 62) ≤ k ∧ k < 2 ^ 62 := by simpa [bnd] using h
theorem reps_getV {K : PySem.W.Frag} {A : Addr → Prop} {H : Hp} {ps : List PV} {vs : List V} {i : Nat} {p : PV} (r : Reps K A H ps vs) (h : ps[i]? = some p) : ∃ v, vs[i]? = some v ∧ Rep K A H p v := r.get h
theorem qj_popAt {i : Nat} {x : Str} {apos px : Pos} (hN : X.N[i]? = some x) (hv : Vis X.env.scope x) (h : EJ X C W m e f) (hd : (x == ("__debug__" : Str)) = false := by decide) (hcd : (x == ("__classdict__" : Str)) = false := by decide)
    (hbase : attributeBase (.Name x px) "pop" X.env (eval (.Name x px) X.env) = eval (.Name x px) X.env := by rfl)
    (hfew : ((backTo pos (starEach [e] X.env)).all (fun x => !x.1) && (backToKw pos (keywordEach [] X.env)).all (fun x => x.1.isSome) && decide ([e].length + ([] : List Keyword).length + (if ([] : List Keyword).isEmpty then 0 else 1) < 30)) = true := by rfl)
    (hline : (apos.endLine == pos.line) = true := by rfl) (hs : starEach [e] X.env = (false, eval e X.env) :: starEach [] X.env := by rfl) (hplain : (backTo pos (starEach [] X.env)).any (·.1) = false := by rfl) : QJ X C W (.Call (.Attribute (.Name x px) "pop" apos) [e] [] pos) (qPopAt i f) :=
  pe_weak (pe_bm PySem.F.plainAttrs_list PySem.F.slot_list_pop PySem.F.type_list_pop mt_popAt (pe_var hN hv hd hcd) (pa_cons h pa_nil hs) hbase hfew hline hs hplain) fun σ H Q ⟨ρ, fp, eo, o⟩ => by
    unfold qPopAt at o
    split at o
    · rename_i ps hi
      obtain ⟨a, xs, hσ, hF, ha, rr⟩ := eo.ownL hi
      refine ⟨.ref a, hσ, .inl ⟨rfl, xs, SqL.of ha⟩, ρ, fp, eo, (Out.bind o).mono (fun p o1 v H1 s1 r1 => ?_) fun _ _ q => q⟩
      cases p with
      | int k =>
        have o1 : Out (if bnd k = true then (match ixN ps.length k with
          | some j => (match ps[j]? with
            | some p => Res.ok (p, ρ.set i (.own (.l (ps.eraseIdx j))))
            | none => .bad)
          | none => .bad) else .bad) _ _ := o1
        split at o1
        · rename_i hb
          obtain ⟨b1, b2⟩ := bnd_spec hb
          split at o1
          · rename_i j hj
            split at o1
            · rename_i p hp
              obtain ⟨w, hw, rw'⟩ := rr.get hp
              have ha1 : H1 a = some (.lst xs) := s1 _ _ ha
              have eo1 := eo.same s1
              obtain ⟨e2, g2⟩ := eo1.writeL hi hσ hF ha1 ((rr.same s1).eraseIdx j)
              refine ⟨a, xs, k, j, w, rfl, by rw [show v = .int k from RepM.toB r1], ha1, by omega, by omega, (ixN_seq (by rw [rr.length]; exact hj)).1, hw, ?_⟩
              exact o1 w _ _ e2 ((Grow.same s1).trans g2) (Rep.carry g2.carry (rw'.same s1))
            · exact o1.elim
          · exact o1.elim
        · exact o1.elim
      | _ => exact o1.elim
    · exact o.elim
/-- x.pop() -/
def qPop (i : Nat) : Qx := fun ρ => match ρ[i]? with
  | some (.own (.l ps)) => (match ps[ps.length - 1]? with
    | some p => .ok (p, ρ.set i (.own (.l ps.dropLast)))
    | none => .bad)
  | _ => .bad
theorem Reps.dropLast {K : PySem.W.Frag} {A : Addr → Prop} {H : Hp} {ps : List PV} {vs : List V} (r : Reps K A H ps vs) : Reps K A H ps.dropLast vs.dropLast := by
  rw [List.dropLast_eq_take, List.dropLast_eq_take, r.length]
  exact r.take _
theorem qj_pop {i : Nat} {x : Str} {apos px : Pos} (hN : X.N[i]? = some x) (hv : Vis X.env.scope x) (hd : (x == ("__debug__" : Str)) = false := by decide) (hcd : (x == ("__classdict__" : Str)) = false := by decide)
    (hbase : attributeBase (.Name x px) "pop" X.env (eval (.Name x px) X.env) = eval (.Name x px) X.env := by rfl) (hline : (apos.endLine == pos.line) = true := by rfl) : QJ X C W (.Call (.Attribute (.Name x px) "pop" apos) [] [] pos) (qPop i) :=
  pe_weak (pe_bm0 PySem.F.plainAttrs_list PySem.F.slot_list_pop PySem.F.type_list_pop mt_pop (pe_var hN hv hd hcd) hbase hline) fun σ H Q ⟨ρ, fp, eo, o⟩ => by
    unfold qPop at o
    split at o
    · rename_i ps hi
      obtain ⟨a, xs, hσ, hF, ha, rr⟩ := eo.ownL hi
      split at o
      · rename_i p hp
        obtain ⟨w, hw, rw'⟩ := rr.get hp
        obtain ⟨e2, g2⟩ := eo.writeL hi hσ hF ha rr.dropLast
        refine ⟨.ref a, hσ, .inl ⟨rfl, xs, SqL.of ha⟩, a, xs, w, rfl, rfl, ha, by rw [rr.length]; exact hw, ?_⟩
        exact o w _ _ e2 g2 (Rep.carry g2.carry rw')
      · exact o.elim
    · exact o.elim
def sAsgQ (i : Nat) (q : Qx) : S := fun ρ => withR (q ρ) ρ fun r => if i < r.2.length then .nx (r.2.set i (.val r.1)) else .bad
theorem sj_asgQ {i : Nat} {x : Str} {q : Qx} {pos' : Pos} (hN : X.N.Nodup) (hi : X.N[i]? = some x) (hx : Loc X.env.scope x) (he : QJ X C W e q) (hs : swapsWith e (some (.Name x pos')) pos.line X.env = pure false := by rfl)
    (hf : X.fn x = true ∨ X.env.scope.names.lookup x = some .local := by first | exact .inl rfl | exact .inr rfl | assumption) : SJ X C W (.Assign [.Name x pos'] e pos) (sAsgQ i q) :=
  ps_weak (ps_set hN hi hx he hs hf) fun D σ H ⟨ρ, fp, eo, h⟩ => by
    refine ⟨ρ, fp, eo, (FlQ.ofR eo h).mono (fun r q v H' fp' e' g' rr => ?_) fun _ _ q => q⟩
    split at q
    · rename_i hl
      obtain ⟨e2, g2⟩ := e'.setVal hl rr
      exact q _ _ _ e2 (g'.trans g2)
    · exact q.elim
def sAsgTQ (g : G) (q : Qx) : S := fun ρ => withR (q ρ) ρ fun r => match g r.1 r.2 with
  | some ρ' => .nx ρ'
  | none => .bad
theorem sj_asgTQ {g : G} {q : Qx} {vs : List Nat} (he : QJ X C W e q) (hg : GJ X C vs tg g) (hs : swapsWithSole [tg] e pos.line X.env = pure false := by rfl) (hw : swappedStores [tg] e X.env = pure none := by rfl) (h1 : (assignEach [tg] X.env).map (·.2) = [assign tg X.env] := by rfl) : SJ X C W (.Assign [tg] e pos) (sAsgTQ g q) :=
  ps_weak (ps_asg he hg hs hw h1) fun D σ H ⟨ρ, fp, eo, h⟩ => by
    refine ⟨ρ, fp, eo, (FlQ.ofR eo h).mono (fun r q v H' fp' e' g' rr => ?_) fun _ _ q => q⟩
    split at q
    · rename_i ρ' hρ
      exact ⟨_, fp', _, ρ', e', rr, hρ, fun σ2 fp2 e2 g2 _ _ => q σ2 _ fp2 e2 (g'.trans g2)⟩
    · exact q.elim
def sRetQ (q : Qx) : S := fun ρ => withR (q ρ) ρ fun r => .rt (.fz r.1)
theorem sj_retQ {q : Qx} (he : QJ X C W e q) : SJ X C W (.Return (some e) pos) (sRetQ q) := ps_weak (ps_ret he) fun D σ H ⟨ρ, fp, eo, h⟩ =>
  ⟨ρ, fp, eo, (FlQ.ofR eo h).mono (fun r q v H' fp' e' g' rr => q v H' [] (grow_end g') List.nodup_nil (fun _ h => nomatch h) ⟨rfl, Rep.sub (fun a z => ⟨z.1, fun y => nomatch y⟩) rr⟩) fun _ _ q => q⟩
def sDropQ (q : Qx) : S := fun ρ => withR (q ρ) ρ fun r => .nx r.2
theorem sj_exprQ {q : Qx} (he : QJ X C W e q) (hs : swapsWith e none pos.line X.env = pure false := by rfl) : SJ X C W (.Expr e pos) (sDropQ q) := ps_weak (ps_expr he hs) fun D σ H ⟨ρ, fp, eo, h⟩ =>
  ⟨ρ, fp, eo, (FlQ.ofR eo h).mono (fun r q v H' fp' e' g' rr => q σ H' fp' e' g') fun _ _ q => q⟩

/-! ### x.append(e), x.extend(e), x.reverse() -/
def sApp (i : Nat) (q : Qx) : S := fun ρ => match ρ[i]? with
  | some (.own (.l _)) => withR (q ρ) ρ fun r => (match r.2[i]? with
    | some (.own (.l ps)) => if ps.length < sizeLine then .nx (r.2.set i (.own (.l (ps ++ [r.1])))) else .bad
    | _ => .bad)
  | _ => .bad
theorem sj_app {i : Nat} {x : Str} {q : Qx} {apos px cpos : Pos} (hN : X.N[i]? = some x) (hv : Vis X.env.scope x) (h : QJ X C W e q) (hd : (x == ("__debug__" : Str)) = false := by decide) (hcd : (x == ("__classdict__" : Str)) = false := by decide)
    (hsw : swapsWith (.Call (.Attribute (.Name x px) "append" apos) [e] [] cpos) none pos.line X.env = pure false := by rfl)
    (hbase : attributeBase (.Name x px) "append" X.env (eval (.Name x px) X.env) = eval (.Name x px) X.env := by rfl)
    (hfew : ((backTo cpos (starEach [e] X.env)).all (fun x => !x.1) && (backToKw cpos (keywordEach [] X.env)).all (fun x => x.1.isSome) && decide ([e].length + ([] : List Keyword).length + (if ([] : List Keyword).isEmpty then 0 else 1) < 30)) = true := by rfl)
    (hline : (apos.endLine == cpos.line) = true := by rfl) (hs : starEach [e] X.env = (false, eval e X.env) :: starEach [] X.env := by rfl) (hplain : (backTo cpos (starEach [] X.env)).any (·.1) = false := by rfl) :
    SJ X C W (.Expr (.Call (.Attribute (.Name x px) "append" apos) [e] [] cpos) pos) (sApp i q) :=
  ps_weak (ps_expr (pe_bm PySem.F.plainAttrs_list PySem.F.slot_list_append PySem.F.type_list_append mt_append (pe_var hN hv hd hcd) (pa_cons h pa_nil hs) hbase hfew hline hs hplain) hsw) fun D σ H ⟨ρ, fp, eo, o⟩ => by
    unfold sApp at o
    split at o
    · rename_i ps0 hi
      obtain ⟨a, xs0, hσ, _, ha, _⟩ := eo.ownL hi
      refine ⟨.ref a, hσ, .inl ⟨rfl, xs0, SqL.of ha⟩, ρ, fp, eo, (FlQ.ofR eo o).mono (fun r q v H1 fp1 e1 g1 r1 => ?_) fun _ _ q => q⟩
      split at q
      · rename_i ps hi1
        split at q
        · rename_i hl
          obtain ⟨b, xs, hσ1, hF, hb, rr⟩ := e1.ownL hi1
          rw [hσ] at hσ1; cases hσ1
          obtain ⟨e2, g2⟩ := e1.writeL hi1 hσ hF hb (rr.append (Reps.one r1))
          exact ⟨a, xs, v, rfl, rfl, hb, by rw [rr.length]; exact hl, q σ _ _ e2 (g1.trans g2)⟩
        · exact q.elim
      · exact q.elim
    · exact o.elim
def sExt (i : Nat) (f : E) : S := fun ρ => match ρ[i]? with
  | some (.own (.l ps)) => withR (f ρ) ρ fun y => (match y with
    | .lst qs => if ps.length + qs.length ≤ sizeLine then .nx (ρ.set i (.own (.l (ps ++ qs)))) else .bad
    | _ => .bad)
  | _ => .bad
theorem sj_ext {i : Nat} {x : Str} {apos px cpos : Pos} (hN : X.N[i]? = some x) (hv : Vis X.env.scope x) (h : EJ X C W .I e f) (hd : (x == ("__debug__" : Str)) = false := by decide) (hcd : (x == ("__classdict__" : Str)) = false := by decide)
    (hsw : swapsWith (.Call (.Attribute (.Name x px) "extend" apos) [e] [] cpos) none pos.line X.env = pure false := by rfl)
    (hbase : attributeBase (.Name x px) "extend" X.env (eval (.Name x px) X.env) = eval (.Name x px) X.env := by rfl)
    (hfew : ((backTo cpos (starEach [e] X.env)).all (fun x => !x.1) && (backToKw cpos (keywordEach [] X.env)).all (fun x => x.1.isSome) && decide ([e].length + ([] : List Keyword).length + (if ([] : List Keyword).isEmpty then 0 else 1) < 30)) = true := by rfl)
    (hline : (apos.endLine == cpos.line) = true := by rfl) (hs : starEach [e] X.env = (false, eval e X.env) :: starEach [] X.env := by rfl) (hplain : (backTo cpos (starEach [] X.env)).any (·.1) = false := by rfl) :
    SJ X C W (.Expr (.Call (.Attribute (.Name x px) "extend" apos) [e] [] cpos) pos) (sExt i f) :=
  ps_weak (ps_expr (pe_bm PySem.F.plainAttrs_list PySem.F.slot_list_extend PySem.F.type_list_extend mt_extend (pe_var hN hv hd hcd) (pa_cons h pa_nil hs) hbase hfew hline hs hplain) hsw) fun D σ H ⟨ρ, fp, eo, o⟩ => by
    unfold sExt at o
    split at o
    · rename_i ps hi
      obtain ⟨a, xs, hσ, hF, ha, rr⟩ := eo.ownL hi
      refine ⟨.ref a, hσ, .inl ⟨rfl, xs, SqL.of ha⟩, ρ, fp, eo, (FlQ.ofR eo o).mono (fun y q v H1 s1 r1 => ?_) fun _ _ q => q⟩
      cases y with
      | lst qs =>
        obtain ⟨b, ys, rfl, hb, r2⟩ := r1
        simp only at q
        split at q
        · rename_i hl
          obtain ⟨e2, g2⟩ := (eo.same s1).writeL hi hσ hF (s1 _ _ ha) ((rr.same s1).append r2)
          exact ⟨a, b, xs, ys, rfl, rfl, s1 _ _ ha, hb, by rw [rr.length, r2.length]; exact hl, q σ _ _ e2 ((Grow.same s1).trans g2)⟩
        · exact q.elim
      | _ => exact q.elim
    · exact o.elim
def sRev (i : Nat) : S := fun ρ => match ρ[i]? with
  | some (.own (.l ps)) => .nx (ρ.set i (.own (.l ps.reverse)))
  | _ => .bad
theorem sj_rev {i : Nat} {x : Str} {apos px cpos : Pos} (hN : X.N[i]? = some x) (hv : Vis X.env.scope x) (hd : (x == ("__debug__" : Str)) = false := by decide) (hcd : (x == ("__classdict__" : Str)) = false := by decide)
    (hsw : swapsWith (.Call (.Attribute (.Name x px) "reverse" apos) [] [] cpos) none pos.line X.env = pure false := by rfl)
    (hbase : attributeBase (.Name x px) "reverse" X.env (eval (.Name x px) X.env) = eval (.Name x px) X.env := by rfl) (hline : (apos.endLine == cpos.line) = true := by rfl) :
    SJ X C W (.Expr (.Call (.Attribute (.Name x px) "reverse" apos) [] [] cpos) pos) (sRev i) :=
  ps_weak (ps_expr (pe_bm0 PySem.F.plainAttrs_list PySem.F.slot_list_reverse PySem.F.type_list_reverse mt_reverse (pe_var hN hv hd hcd) hbase hline) hsw) fun D σ H ⟨ρ, fp, eo, o⟩ => by
    unfold sRev at o
    split at o
    · rename_i ps hi
      obtain ⟨a, xs, hσ, hF, ha, rr⟩ := eo.ownL hi
      obtain ⟨e2, g2⟩ := eo.writeL hi hσ hF ha rr.reverse
      exact ⟨.ref a, hσ, .inl ⟨rfl, xs, SqL.of ha⟩, a, xs, rfl, rfl, ha, o σ _ _ e2 g2⟩
    · exact o.elim

/-! ### while -/
def whileN (t : T) (body : S) : Nat → Env → Option Fl
  | 0, _ => none
  | n + 1, ρ => match t ρ with
    | .ok false => some (.nx ρ)
    | .ok true => (match body ρ with
      | .nx ρ2 => whileN t body n ρ2
      | .ct ρ2 => whileN t body n ρ2
      | .bk ρ2 => some (.nx ρ2)
      | r => some r)
    | .exc c fs => some (.ex c fs ρ)
    | .bad => some .bad
open Classical in
/-- its end, if it comes to one -/
noncomputable def sWhile (t : T) (body : S) : S := fun ρ => if h : ∃ r n, whileN t body n ρ = some r then h.choose else .bad
theorem whileN_mono {t : T} {body : S} : ∀ {n k : Nat} {ρ : Env} {r : Fl}, whileN t body n ρ = some r → n ≤ k → whileN t body k ρ = some r
  | 0, _, _, _, h, _ => by cases h
  | n + 1, 0, _, _, _, hk => by omega
  | n + 1, k + 1, ρ, r, h, hk => by
    unfold whileN at h ⊢
    cases e : t ρ with
    | exc c fs => rw [e] at h; exact h
    | bad => rw [e] at h; exact h
    | ok b =>
      rw [e] at h
      cases b with
      | false => exact h
      | true =>
        simp only at h ⊢
        cases e2 : body ρ with
        | nx ρ2 => rw [e2] at h; exact whileN_mono h (by omega)
        | ct ρ2 => rw [e2] at h; exact whileN_mono h (by omega)
        | bk ρ2 => rw [e2] at h; exact h
        | rt o => rw [e2] at h; exact h
        | ex c fs ρ2 => rw [e2] at h; exact h
        | bad => rw [e2] at h; exact h
theorem sWhile_of {t : T} {body : S} {ρ : Env} {r : Fl} {n : Nat} (h : whileN t body n ρ = some r) : sWhile t body ρ = r := by
  unfold sWhile
  rw [dif_pos ⟨r, n, h⟩]
  have hx : ∃ r n, whileN t body n ρ = some r := ⟨r, n, h⟩
  obtain ⟨k, hk⟩ := hx.choose_spec
  have e1 := whileN_mono h (Nat.le_max_left n k)
  have e2 := whileN_mono hk (Nat.le_max_right n k)
  rw [e1] at e2
  exact (Option.some.inj e2).symm
theorem sj_while {t : T} {body : S} {sts : List Stmt} (hp : PassesOwn (model X.prog X.w) X.A X.env X.xe) (ht : TJ X C W e t) (hb : BJ X C W sts body) : SJ X C W (.While e sts [] pos) (sWhile t body) :=
  ps_weak (ps_while hp ht hb) fun D σ H ⟨ρ, fp, eo, h⟩ => by
    have hx : ∃ r n, whileN t body n ρ = some r := by
      by_cases hx : ∃ r n, whileN t body n ρ = some r
      · exact hx
      · unfold sWhile at h
        rw [dif_neg hx] at h
        exact h.elim
    obtain ⟨r, n, hr⟩ := hx
    rw [sWhile_of hr] at h
    refine ⟨fun n σ' H' => ∃ ρ' fp', EnvOk X.K C ρ' σ' H' fp' ∧ whileN t body n ρ' = some r ∧ FlQ X.K C W D H' fp' r, ⟨n, ρ, fp, eo, hr, h⟩, ?_⟩
    rintro n σ1 H1 ⟨ρ1, fp1, eo1, hr1, q1⟩
    cases n with
    | zero => cases hr1
    | succ n =>
      unfold whileN at hr1
      refine ⟨ρ1, fp1, eo1, ?_⟩
      cases e : t ρ1 with
      | bad => rw [e] at hr1; cases hr1; exact q1.elim
      | exc c fs => rw [e] at hr1; cases hr1; exact fun H' s => q1 σ1 H' fp1 (eo1.same s) (Grow.same s)
      | ok b =>
        rw [e] at hr1
        intro H2 s2
        have q2 := FlQ.later (Grow.same (fp := fp1) s2) q1
        have eo2 := eo1.same s2
        cases b with
        | false =>
          cases hr1
          rw [if_neg (by simp)]
          exact q2 σ1 H2 fp1 eo2 Grow.refl
        | true =>
          rw [if_pos rfl]
          simp only at hr1
          refine ⟨fun σ' H' => ∃ ρ' fp', EnvOk X.K C ρ' σ' H' fp' ∧ whileN t body n ρ' = some r ∧ FlQ X.K C W D H' fp' r, fun σ' H' z => ⟨n, by omega, z⟩, ρ1, fp1, eo2, ?_⟩
          cases e2 : body ρ1 with
          | nx ρ2 => rw [e2] at hr1; exact fun σ3 H3 fp3 e3 g3 => ⟨ρ2, fp3, e3, hr1, FlQ.later g3 q2⟩
          | ct ρ2 => rw [e2] at hr1; exact fun σ3 H3 fp3 e3 g3 => ⟨ρ2, fp3, e3, hr1, FlQ.later g3 q2⟩
          | bk ρ2 => rw [e2] at hr1; cases hr1; exact q2
          | rt o => rw [e2] at hr1; cases hr1; exact q2
          | ex c fs ρ2 => rw [e2] at hr1; cases hr1; exact q2
          | bad => rw [e2] at hr1; cases hr1; exact q2.elim
end
end Fz
end
section
/-! FwK: what a def promises, calls, the end. -/
namespace Fz
open PySem PySem.Spec PyProof.Rows L2
abbrev Fn := List PV → Res OT
def slotOf : Mode → PV → Slot
  | .B, p => .bor p
  | _, p => .val p
def slotsOf : List Mode → List PV → Env
  | m :: ms, p :: ps => slotOf m p :: slotsOf ms ps
  | _, _ => []
/-- a def by its body: n names, the parameters' modes -/
def runFn (n : Nat) (ms : List Mode) (s : S) : Fn := fun ps => if ps.length = ms.length then (match s (slotsOf ms ps ++ List.replicate (n - ps.length) .u) with
  | .rt o => .ok o
  | .nx _ => .ok (.fz .non)
  | .ex c fs _ => .exc c fs
  | _ => .bad) else .bad
def RepArgs (K : PySem.W.Frag) (C : Addr → Prop) (H : Hp) : List Mode → List PV → List V → Prop
  | [], [], [] => True
  | m :: ms, p :: ps, v :: vs => Rep K (match m with | .B => (fun _ => True) | _ => C) H p v ∧ RepArgs K C H ms ps vs
  | _, _, _ => False
def spG (K : PySem.W.Frag) (ms : List Mode) (g : Fn) : Sp := fun vs H Q E => ∃ (C : Addr → Prop) (ps : List PV), RepArgs K C H ms ps vs ∧ Out (g ps) (fun t => KO K (fun a => C a ∨ H a = none) H t Q) (XQ K (fun c d _ H => E c d H) [] H)
theorem RepArgs.len {K : PySem.W.Frag} {C : Addr → Prop} {H : Hp} : ∀ {ms : List Mode} {ps : List PV} {vs : List V}, RepArgs K C H ms ps vs → ps.length = ms.length ∧ vs.length = ms.length
  | [], [], [], _ => ⟨rfl, rfl⟩
  | _ :: _, _ :: _, _ :: _, h => ⟨by simp [(RepArgs.len h.2).1], by simp [(RepArgs.len h.2).2]⟩
theorem slotsOf_len : ∀ {ms : List Mode} {ps : List PV}, ps.length = ms.length → (slotsOf ms ps).length = ps.length
  | [], [], _ => rfl
  | m :: ms, p :: ps, h => by simp [slotsOf, slotsOf_len (ms := ms) (ps := ps) (by simpa using h)]
  | [], _ :: _, h => by simp at h
  | _ :: _, [], h => by simp at h
theorem noF (a : Addr) : ¬ InF (fun _ => []) a := fun ⟨_, h⟩ => nomatch h
theorem slots_get {K : PySem.W.Frag} {C : Addr → Prop} {H : Hp} : ∀ {ms : List Mode} {ps : List PV} {vs : List V} {i : Nat} {s : Slot}, RepArgs K C H ms ps vs → (slotsOf ms ps)[i]? = some s →
    SlotOk K (fun a => C a ∨ H a = none) (fun _ => True) H s ((vs.map some)[i]?) []
  | [], [], [], _, _, _, h => by simp [slotsOf] at h
  | m :: ms, p :: ps, v :: vs, 0, s, r, h => by
    simp only [slotsOf, List.getElem?_cons_zero, Option.some.injEq] at h
    subst h
    cases m with
    | B => exact ⟨rfl, v, rfl, r.1⟩
    | E => exact ⟨rfl, v, rfl, Rep.sub (fun a q => .inl q) r.1⟩
    | I => exact ⟨rfl, v, rfl, Rep.sub (fun a q => .inl q) r.1⟩
  | m :: ms, p :: ps, v :: vs, i + 1, s, r, h => by
    simp only [slotsOf, List.getElem?_cons_succ] at h
    simpa using slots_get r.2 h
theorem entry {K : PySem.W.Frag} {C : Addr → Prop} {H : Hp} {ms : List Mode} {ps : List PV} {vs : List V} {N : List Str} (r : RepArgs K C H ms ps vs) (hn : ms.length ≤ N.length) :
    EnvOk K (fun a => C a ∨ H a = none) (slotsOf ms ps ++ List.replicate (N.length - ps.length) .u) (L2.start N vs) H (fun _ => []) := by
  obtain ⟨l1, l2⟩ := r.len
  have l3 := slotsOf_len l1
  have e1 : Am (fun a => C a ∨ H a = none) (fun _ => []) = fun a => C a ∨ H a = none := by
    funext a
    exact propext ⟨fun h => h.1, fun h => ⟨h, noF a⟩⟩
  refine ⟨by simp [L2.start, l1, l2, l3], fun i s h => ?_, fun _ _ => rfl, fun _ _ _ h => (nomatch h), fun _ => List.nodup_nil, fun a h => (noF a h).elim, fun a h => .inr h⟩
  rw [e1]
  by_cases hi : i < (slotsOf ms ps).length
  · rw [List.getElem?_append_left hi] at h
    unfold L2.start
    rw [List.getElem?_append_left (by simp; omega)]
    have := slots_get r h
    revert this
    cases s with
    | u => exact id
    | val p => exact id
    | bor p => rintro ⟨f, v, hv, r⟩; exact ⟨f, v, hv, Rep.sub (fun a _ => noF a) r⟩
    | exn a od l => rintro ⟨f, hv, r⟩; exact ⟨f, hv, XSl.carry (Carry.refl fun a _ _ _ => noF a) r⟩
    | own t => exact id
  · rw [List.getElem?_append_right (Nat.le_of_not_lt hi), List.getElem?_replicate] at h
    split at h
    · cases h; rfl
    · cases h
/-- a def of the text: its function, its name, how it binds -/
structure DefOk (P : Program) (w : World) (K : PySem.W.Frag) (mg : Str → Option Value) (base : Heap) (k : Nat) (x : Str) (ps : List Str) (ms : List Mode) (g : Fn) : Prop where
  ex : ∃ f fd, FnOk P w K mg base (L2.CX P w) k f fd ps (spG K ms g) ∧ mg x = some (.ref f) ∧ PySem.W.keepIn K (.ref f) = true ∧ Binds K fd ps []
section
variable {P : Program} {w : World} {K : PySem.W.Frag} {mg : Str → Option Value} {base : Heap}
/-- the context of a def's body -/
abbrev XD (P : Program) (w : World) (K : PySem.W.Frag) (mg : Str → Option Value) (base : Heap) (N : List Str) (qual : Str) (scope : Scope) (f : Addr) (cdv : Value) (A : Around) (outer : List PySem.Env) (s : Shared) (H : Hp) (E : XK) : Cx := cxOf (L2.CX P w) P w K mg base N qual scope f cdv A outer s H E

theorem grow_same {H H' : Hp} {fp' : Fp} (g : Grow H (fun _ => []) H' fp') : Same H H' := fun a o h => g.keep a o h (noF a)
/-- THE RULE: a def keeps its promise, by its body -/
theorem fn_ok {x qual : Str} {params : Arguments} {body : List Stmt} {scope : Scope} {f : Addr} {fd : FuncData} {N ps : List Str} {k : Nat} {ms : List Mode} {s : S} (F : FunD K x qual params body scope [] [] f fd) (Sc : FnScope N ps scope) (hm : ms.length = ps.length) (hN : ms.length ≤ N.length)
    (hb : ∀ (cdv : Value) (A : Around) (outer : List PySem.Env) (sh : Shared) (H : Hp) (E : XK) (C : Addr → Prop), Room k (XD P w K mg base N qual scope f cdv A outer sh H E).A → Takes (XD P w K mg base N qual scope f cdv A outer sh H E) (fun c d _ H => E c d H) →
      PassesOwn (model P w) (XD P w K mg base N qual scope f cdv A outer sh H E).A (XD P w K mg base N qual scope f cdv A outer sh H E).env (XD P w K mg base N qual scope f cdv A outer sh H E).xe → BJ (XD P w K mg base N qual scope f cdv A outer sh H E) C (fun c d _ H => E c d H) body s) :
    FnOk P w K mg base (L2.CX P w) (k + 1) f fd ps (spG K ms (runFn N.length ms s)) := by
  refine F.ok Sc (fun vs H Q E h => ?_) (fun cdv A outer sh H vs Q E hr h => ?_)
  · obtain ⟨C, qs, r, _⟩ := h
    rw [r.len.2, hm]
  · obtain ⟨C, qs, r, o⟩ := h
    refine ⟨_, hb cdv A outer sh H E (fun a => C a ∨ H a = none) hr (takes_of rfl rfl rfl rfl) (passes_of rfl), _, _, entry r hN, ?_⟩
    unfold runFn at o
    rw [if_pos r.len.1] at o
    revert o
    cases s (slotsOf ms qs ++ List.replicate (N.length - qs.length) .u) with
    | nx ρ =>
      intro o σ' H' fp' e g
      have k : KO K (fun a => C a ∨ H a = none) H (.fz .non) Q := o
      exact k.repS (grow_same g) rfl
    | rt t => intro o v H' Fn g n hf rr; exact o v H' Fn (grow_same g) n (fun a ha => (hf a ha).elim (fun z => (noF a z).elim) id) rr
    | bk ρ => exact False.elim
    | ct ρ => exact False.elim
    | ex c fs ρ => intro o σ' H' fp' e g; exact o H' (grow_same g)
    | bad => exact False.elim
theorem def_ok {x qual : Str} {params : Arguments} {body : List Stmt} {scope : Scope} {f : Addr} {fd : FuncData} {N ps : List Str} {k : Nat} {ms : List Mode} {s : S} (F : FunD K x qual params body scope [] [] f fd) (Sc : FnScope N ps scope) (hm : ms.length = ps.length) (hN : ms.length ≤ N.length) (hg : mg x = some (.ref f))
    (hbd : ∀ (kV doc pm : Value) (an : Option Addr) (cdv ct : Value) (us : List Value), us.length = ps.length → bindArgs (PySem.W.fnOf x qual params body scope .none kV doc pm an cdv ct) ⟨us, []⟩ = pure (ps.zip us))
    (hb : ∀ (cdv : Value) (A : Around) (outer : List PySem.Env) (sh : Shared) (H : Hp) (E : XK) (C : Addr → Prop), Room k (XD P w K mg base N qual scope f cdv A outer sh H E).A → Takes (XD P w K mg base N qual scope f cdv A outer sh H E) (fun c d _ H => E c d H) →
      PassesOwn (model P w) (XD P w K mg base N qual scope f cdv A outer sh H E).A (XD P w K mg base N qual scope f cdv A outer sh H E).env (XD P w K mg base N qual scope f cdv A outer sh H E).xe → BJ (XD P w K mg base N qual scope f cdv A outer sh H E) C (fun c d _ H => E c d H) body s) :
    DefOk P w K mg base (k + 1) x ps ms (runFn N.length ms s) := ⟨f, fd, fn_ok F Sc hm hN hb, hg, F.kp, F.bindsN hbd⟩
end
theorem RepMs.args {K : PySem.W.Frag} {C : Addr → Prop} {fp : Fp} {H : Hp} : ∀ {ms : List Mode} {ps : List PV} {vs : List V}, (∀ m ∈ ms, m ≠ .I) → RepMs K C fp H ms ps vs → RepArgs K (Am C fp) H ms ps vs
  | [], [], [], _, h => h
  | m :: ms, p :: ps, v :: vs, hm, h => by
    refine ⟨?_, RepMs.args (fun m h => hm m (List.mem_cons_of_mem _ h)) h.2⟩
    cases m with
    | E => exact h.1
    | B => exact h.1
    | I => exact (hm .I List.mem_cons_self rfl).elim
def noI : List Mode → Bool
  | [] => true
  | .I :: _ => false
  | _ :: ms => noI ms
theorem noI_ok : ∀ {ms : List Mode}, noI ms = true → ∀ m ∈ ms, m ≠ .I
  | [], _, _, h => nomatch h
  | .E :: ms, h, m, hm => by
    rcases List.mem_cons.mp hm with rfl | hm
    · intro z; cases z
    · exact noI_ok (ms := ms) h m hm
  | .B :: ms, h, m, hm => by
    rcases List.mem_cons.mp hm with rfl | hm
    · intro z; cases z
    · exact noI_ok (ms := ms) h m hm
section
variable {X : Cx} {C : Addr → Prop} {W : WX} {e : Expr} {pos p2 : Pos}
def oCall (g : Fn) (l : L) : O := fun ρ => l ρ >>= g
theorem call_read {ms : List Mode} {g : Fn} {l : L} {σ : L2.St} {H : Hp} {Q : VK} (hI : noI ms = true) (h : tO X.K C W (oCall g l) σ H Q) : tL X.K C W ms l σ H fun vs H1 => spG X.K ms g vs H1 Q (WE W σ) := by
  obtain ⟨ρ, fp, eo, o⟩ := h
  refine ⟨ρ, fp, eo, (Out.bind o).mono (fun ps o1 vs H1 s1 r1 => ?_) fun _ _ q => q⟩
  refine ⟨Am C fp, ps, RepMs.args (noI_ok hI) r1, o1.mono (fun t q v H' Fn s n hf r => ?_) fun c fs q H' s => ?_⟩
  · have k : KO X.K (Am C fp) H1 t Q := KO.later q s1
    exact k v H' Fn s n hf (r.carry (Carry.refl fun a _ z _ => ⟨z.1.elim id fun y => (eo.same s1).am_new y, z.2⟩) fun _ _ _ z => z)
  · have := q H' (s1.trans s)
    cases fs with
    | none => exact this
    | some fs => exact this
theorem oj_call {k j : Nat} {x : Str} {ps : List Str} {ms : List Mode} {g : Fn} {es : List Expr} {l : L} (D : DefOk X.prog X.w X.K X.mg X.base k x ps ms g) (hr : Room j X.A) (hk : k ≤ j) (tk : Takes X W) (hg : Gl X x) (ha : LJ' X C W ms (e :: es) l) (hI : noI ms = true := by rfl) (hdb : (x == ("__debug__" : Str)) = false := by decide)
    (he : starEach (e :: es) X.env = (false, eval e X.env) :: starEach es X.env := by rfl) (hpl : (backTo pos (starEach es X.env)).any (·.1) = false := by rfl) : OJ X C W (.Call (.Name x p2) (e :: es) [] pos) (oCall g l) := by
  obtain ⟨f, fd, F, hm, kp, b⟩ := D.ex
  exact pe_weak (pe_callS F (hr.mono hk) hg hm kp b (fun σ => passAt tk σ) ha hdb he hpl) fun σ H Q h => call_read hI h
theorem huR {j : Nat} (hr : Room j X.A) : Hu X := by
  have := hr.un
  show X.A.units + 150 < cLine
  omega
end
/-! ### the end -/
theorem FnOk.calm {P : Program} {w : World} {K : PySem.W.Frag} {mg : Str → Option Value} {base : Heap} {k : Nat} {f : Addr} {fd : FuncData} {ps : List Str} {sp : Sp} (F : FnOk P w K mg base (L2.CX P w) k f fd ps sp) : FnOk P w K mg base L2.CX0 k f fd ps (fun vs H Q _ => sp vs H Q fun _ _ _ => False) where
  len := fun vs H Q _ h => F.len vs H Q _ h
  run := fun A outer s H args us vs Q E hr e b r h => codeAny_mono (F.run A outer s H args us vs Q _ hr e b r h) fun q s' hq => by
    cases q with
    | error e =>
      obtain ⟨_, _, _, _, _, _, _, _, _, _, _, _, z⟩ := hq
      exact z.elim
    | ok fl => cases fl <;> exact hq
theorem script_rep {K : PySem.W.Frag} {H : Hp} {a : Addr} {ns : List Int} (h : Only H) (hS : SqL K H a (ns.map V.int)) : Rep K (fun _ => False) H (.rol (ns.map .int)) (.ref a) := by
  refine ⟨a, ns.map V.int, rfl, ?_, Reps.of_ints ns⟩
  rcases hS with (hS | hS) | hS
  · rcases h a with z | ⟨o, xs, z⟩
    · rw [hS] at z; cases z
    · rw [hS] at z; cases z
  · exact .inl hS
  · exact .inr hS
/-- the law: its run gives True -/
theorem law_sp {K : PySem.W.Frag} {g : Fn} {n : Nat} (hl : ∀ ns : List Int, ns.length ≤ n → g [.rol (ns.map .int)] = .ok (.fz (.bl true))) {H : Hp} {a : Addr} {ns : List Int} (h1 : ns.length ≤ n) (h2 : Only H) (hS : SqL K H a (ns.map V.int)) :
    spG K [.E] g [.ref a] H (fun v _ => v = .bl true) fun _ _ _ => False := by
  refine ⟨fun _ => False, [.rol (ns.map .int)], ⟨script_rep h2 hS, trivial⟩, ?_⟩
  rw [hl ns h1]
  intro v H' Fn s n hf r
  exact r.2
end Fz
end
section
/-! FwL: zip, enumerate, signs, index, sorted texts. -/
namespace Fz
open PySem PySem.Spec PyProof.Rows L2
section
variable {X : Cx} {C : Addr → Prop} {W : WX} {e e1 e2 e3 tg iter : Expr} {pos p2 pn tpos : Pos} {m m1 m2 m3 : Mode} {f f1 f2 f3 : E} {elts : List Expr} {kk : Nat}
/-! ### zip, enumerate of lists -/
def listOf' : PV → Res (List PV)
  | .lst ps => .ok ps
  | .rol ps => .ok ps
  | _ => .bad
theorem listOf_out {p : PV} {P : List PV → Prop} {E' : XF} (h : Out (listOf' p) P E') : ∃ ps, listOf' p = .ok ps ∧ P ps := by
  cases p <;> first | exact ⟨_, rfl, h⟩ | exact h.elim
theorem listOf_items {p : PV} {ps : List PV} (h : listOf' p = .ok ps) : itemsOf p = .ok ps ∧ isTupP p = false := by
  cases p <;> simp only [listOf', Res.ok.injEq, reduceCtorEq] at h <;> subst h <;> exact ⟨rfl, rfl⟩
theorem iter_zip {K : PySem.W.Frag} {A : Addr → Prop} {H0 : Hp} {rel : Hp → Prop} {a b : Addr} {ps qs : List PV} {xs ys : List V} (r : Reps K A H0 ps xs) (r2 : Reps K A H0 qs ys) (h : ∀ H, rel H → SqL K H a xs) (h2 : ∀ H, rel H → SqL K H b ys) :
    IterOk K A H0 rel (Itz K a b) (List.zipWith (fun p q => PV.tup [p, q]) ps qs) := fun H B hr c i => by
  have s1 := h H hr
  have s2 := h2 H hr
  have c1 := Reps.carry c r
  have c2 := Reps.carry c r2
  refine ⟨fun p hp => ?_, fun hi => ⟨xs, ys, s1, s2, ?_⟩⟩
  · rw [List.getElem?_zipWith] at hp
    cases e1 : ps[i]? with
    | none => rw [e1] at hp; simp at hp
    | some p1 =>
      cases e2 : qs[i]? with
      | none => rw [e1, e2] at hp; simp at hp
      | some q1 =>
        rw [e1, e2] at hp
        simp only [Option.some.injEq] at hp
        subst hp
        obtain ⟨v, hv, rv⟩ := c1.get e1
        obtain ⟨u, hu, ru⟩ := c2.get e2
        refine ⟨⟨xs, ys, v, u, s1, s2, hv, hu⟩, fun x H' ⟨T, x1, y1, ex, hT, eH, f1, f2⟩ => ?_⟩
        have := f1 xs s1
        rw [hv] at this; cases this
        have := f2 ys s2
        rw [hu] at this; cases this
        subst ex eH
        exact ⟨same_upd hT, T, [v, u], rfl, upd_same, Rep.same (same_upd hT) rv |> fun a => Reps.cons a (Reps.one (Rep.same (same_upd hT) ru))⟩
  · rw [List.length_zipWith] at hi
    rw [c1.length, c2.length]
    omega
def lZip (f1 f2 : E) : L := fun ρ => f1 ρ >>= fun x => f2 ρ >>= fun y => listOf' x >>= fun ps => listOf' y >>= fun qs => .ok (List.zipWith (fun p q => PV.tup [p, q]) ps qs)
theorem zip_read {rel : Hp → Fp → Hp → Prop} {σ : L2.St} {H : Hp} {R : It → Hp → Prop} (hst : ∀ (fp : Fp) H' p v ps, RepM X.K C fp m H' p v → itemsOf p = .ok ps → Stands X.K (Am C fp) H' (rel H' fp) p v ps) (hrf : ∀ H fp, rel H fp H)
    (h : tI X.K C W rel (lZip f1 f2) σ H R) : iZip X.K (tCons (tE X.K C W m f1) (tCons (tE X.K C W m f2) tNil)) σ H R := by
  obtain ⟨ρ, fp, eo, o⟩ := h
  refine two (m1 := m) (m2 := m) eo o fun p q v u H2 s eo2 o2 r1 r2 => ?_
  obtain ⟨ps, hp, o3⟩ := listOf_out (Out.bind o2)
  obtain ⟨qs, hq, o4⟩ := listOf_out (Out.bind o3)
  obtain ⟨i1, t1⟩ := listOf_items hp
  obtain ⟨i2, t2⟩ := listOf_items hq
  obtain ⟨a, xs, rfl, ra, ha, _⟩ := hst fp H2 p v ps r1 i1
  obtain ⟨b, ys, rfl, rb, hb, _⟩ := hst fp H2 q u qs r2 i2
  exact ⟨a, b, xs, ys, rfl, ha t1 H2 (hrf _ _), hb t2 H2 (hrf _ _), o4 _ H2 s (iter_zip ra rb (ha t1) (hb t2))⟩
theorem ij_zip (hg : Gl X "zip") (hm : X.mg "zip" = none) (h1 : EJ X C W .E e1 f1) (h2 : EJ X C W .E e2 f2) (hs : starEach [e1, e2] X.env = (false, eval e1 X.env) :: starEach [e2] X.env := by rfl) (hs2 : starEach [e2] X.env = (false, eval e2 X.env) :: starEach [] X.env := by rfl) (hpl : (backTo pos (starEach [e2] X.env)).any (·.1) = false := by rfl) :
    IJ X C W relG (.Tuple elts kk tpos) (.Call (.Name "zip" pn) [e1, e2] [] pos) (lZip f1 f2) :=
  pi_weak (pi_zip hg hm (pa_cons h1 (pa_cons h2 pa_nil hs2) hs) (hs := hs) (hpl := hpl)) fun σ H R q => zip_read (m := .E) (fun fp H' p v ps r hp => seq_stands r hp) (fun _ _ => relG.refl) q
theorem ij_zipS (hg : Gl X "zip") (hm : X.mg "zip" = none) (h1 : EJ X C W .I e1 f1) (h2 : EJ X C W .I e2 f2) (hs : starEach [e1, e2] X.env = (false, eval e1 X.env) :: starEach [e2] X.env := by rfl) (hs2 : starEach [e2] X.env = (false, eval e2 X.env) :: starEach [] X.env := by rfl) (hpl : (backTo pos (starEach [e2] X.env)).any (·.1) = false := by rfl) :
    IJ X C W relS (.Tuple elts kk tpos) (.Call (.Name "zip" pn) [e1, e2] [] pos) (lZip f1 f2) :=
  pi_weak (pi_zip hg hm (pa_cons h1 (pa_cons h2 pa_nil hs2) hs) (hs := hs) (hpl := hpl)) fun σ H R q => zip_read (m := .I) (fun fp H' p v ps r hp => seq_standsS r hp) (fun H fp => Same.refl H) q
def enumL (ps : List PV) : List PV := ps.zipIdx.map fun q => PV.tup [.int (q.2 : Nat), q.1]
theorem iter_enum {K : PySem.W.Frag} {A : Addr → Prop} {H0 : Hp} {rel : Hp → Prop} {a : Addr} {ps : List PV} {xs : List V} (r : Reps K A H0 ps xs) (h : ∀ H, rel H → SqL K H a xs) : IterOk K A H0 rel (Ite K a) (enumL ps) := fun H B hr c i => by
  have s1 := h H hr
  have c1 := Reps.carry c r
  refine ⟨fun p hp => ?_, fun hi => ⟨xs, s1, by rw [c1.length]; simpa [enumL] using hi⟩⟩
  rw [enumL, List.getElem?_map, List.getElem?_zipIdx] at hp
  cases e1 : ps[i]? with
  | none => rw [e1] at hp; simp at hp
  | some p1 =>
    rw [e1] at hp
    simp only [Option.map_some, Option.some.injEq, Nat.zero_add] at hp
    subst hp
    obtain ⟨v, hv, rv⟩ := c1.get e1
    refine ⟨⟨xs, v, s1, hv⟩, fun x H' ⟨T, x1, ex, hT, eH, f1⟩ => ?_⟩
    have := f1 xs s1
    rw [hv] at this; cases this
    subst ex eH
    exact ⟨same_upd hT, T, [.int (i : Nat), v], rfl, upd_same, Reps.cons (p := .int (i : Nat)) rfl (Reps.one (Rep.same (same_upd hT) rv))⟩
def lEnum (f : E) : L := fun ρ => f ρ >>= fun x => listOf' x >>= fun ps => .ok (enumL ps)
theorem enum_read {rel : Hp → Fp → Hp → Prop} {σ : L2.St} {H : Hp} {R : It → Hp → Prop} (hst : ∀ (fp : Fp) H' p v ps, RepM X.K C fp m H' p v → itemsOf p = .ok ps → Stands X.K (Am C fp) H' (rel H' fp) p v ps) (hrf : ∀ H fp, rel H fp H)
    (h : tI X.K C W rel (lEnum f) σ H R) : iEnum X.K (tCons (tE X.K C W m f) tNil) σ H R := by
  obtain ⟨ρ, fp, eo, o⟩ := h
  refine ⟨ρ, fp, eo, (Out.bind o).mono (fun p o2 v H2 s r1 => ?_) fun _ _ q => q⟩
  obtain ⟨ps, hp, o3⟩ := listOf_out (Out.bind o2)
  obtain ⟨i1, t1⟩ := listOf_items hp
  obtain ⟨a, xs, rfl, ra, ha, _⟩ := hst fp H2 p v ps r1 i1
  exact ⟨a, xs, rfl, ha t1 H2 (hrf _ _), o3 _ H2 s (iter_enum ra (ha t1))⟩
theorem ij_enum (hg : Gl X "enumerate") (hm : X.mg "enumerate" = none) (h1 : EJ X C W .E e f) (hs : starEach [e] X.env = (false, eval e X.env) :: starEach [] X.env := by rfl) : IJ X C W relG (.Tuple elts kk tpos) (.Call (.Name "enumerate" pn) [e] [] pos) (lEnum f) :=
  pi_weak (pi_enum hg hm (pa_cons h1 pa_nil hs) (hs := hs)) fun σ H R q => enum_read (m := .E) (fun fp H' p v ps r hp => seq_stands r hp) (fun _ _ => relG.refl) q
theorem ij_enumS (hg : Gl X "enumerate") (hm : X.mg "enumerate" = none) (h1 : EJ X C W .I e f) (hs : starEach [e] X.env = (false, eval e X.env) :: starEach [] X.env := by rfl) : IJ X C W relS (.Tuple elts kk tpos) (.Call (.Name "enumerate" pn) [e] [] pos) (lEnum f) :=
  pi_weak (pi_enum hg hm (pa_cons h1 pa_nil hs) (hs := hs)) fun σ H R q => enum_read (m := .I) (fun fp H' p v ps r hp => seq_standsS r hp) (fun H fp => Same.refl H) q

/-! ### a method with one argument whose answer is an atom -/
inductive Tm where
  | list | str
def Tm.name : Tm → String
  | .list => "list"
  | .str => "str"
def Tm.is : Tm → PV → Bool
  | .list, .lst _ => true
  | .list, .rol _ => true
  | .str, .str _ => true
  | _, _ => false
theorem tm_ok {t : Tm} {K : PySem.W.Frag} {H : Hp} {p : PV} {v : V} (h : t.is p = true) (r : Rep K (fun _ => True) H p v) : tyV K t.name v H := by
  cases t <;> cases p <;> simp only [Tm.is, reduceCtorEq] at h
  · obtain ⟨a, xs, rfl, _, ha, _⟩ := r; exact .inl ⟨rfl, xs, SqL.of ha⟩
  · obtain ⟨a, xs, rfl, ha, _⟩ := r; exact .inl ⟨rfl, xs, ha.sq⟩
  · rw [show v = .str _ from r]; rfl
def eM1 (t : Tm) (g : PV → PV → Option PV) (f1 f2 : E) : E := fun ρ => f1 ρ >>= fun x => if t.is x = true then f2 ρ >>= fun y => ofO (g x y) else .bad
def Mt1A (K : PySem.W.Frag) (r : V → List V → Hp → VK → Prop) (g : PV → PV → Option PV) : Prop := ∀ H p q z v u Q, g p q = some z → Rep K (fun _ => True) H p v → Rep K (fun _ => True) H q u → (∀ w, Atom K z w → Q w H) → r v [u] H Q
theorem ej_m1 (t : Tm) {nid : String} {name : Str} {r : V → List V → Hp → VK → Prop} {g : PV → PV → Option PV} {apos cpos : Pos} (pa : PlainAttrs t.name) (slot : PySem.Slot t.name name nid) (hty : typeOf (.builtin nid) = pure (.type "method_descriptor")) (hm : MtR X nid r) (hg : Mt1A X.K r g)
    (h1 : EJ X C W m1 e1 f1) (h2 : EJ X C W m2 e2 f2) (hbase : attributeBase e1 name X.env (eval e1 X.env) = eval e1 X.env := by rfl)
    (hfew : ((backTo cpos (starEach [e2] X.env)).all (fun x => !x.1) && (backToKw cpos (keywordEach [] X.env)).all (fun x => x.1.isSome) && decide ([e2].length + ([] : List Keyword).length + (if ([] : List Keyword).isEmpty then 0 else 1) < 30)) = true := by rfl)
    (hline : (apos.endLine == cpos.line) = true := by rfl) (hs : starEach [e2] X.env = (false, eval e2 X.env) :: starEach [] X.env := by rfl) (hplain : (backTo cpos (starEach [] X.env)).any (·.1) = false := by rfl) :
    EJ X C W m (.Call (.Attribute e1 name apos) [e2] [] cpos) (eM1 t g f1 f2) :=
  pe_weak (pe_bm pa slot hty hm h1 (pa_cons h2 pa_nil hs) hbase hfew hline hs hplain) fun σ H Q ⟨ρ, fp, eo, o⟩ => by
    refine ⟨ρ, fp, eo, (Out.bind o).mono (fun p o1 v H1 s1 r1 => ?_) fun _ _ q => q⟩
    split at o1
    · rename_i ht
      refine ⟨tm_ok ht (RepM.toB r1), ρ, fp, eo.same s1, (Out.bind o1).mono (fun q o2 u H2 s2 r2 => ?_) fun _ _ q => q.later s1⟩
      obtain ⟨z, hz, hQ⟩ := Out.ofO o2
      exact hg H2 p q z v u Q hz (Rep.same s2 (RepM.toB r1)) (RepM.toB r2) fun w a => hQ w H2 (s1.trans s2) a.rm
    · exact o1.elim
/-- xs.index(y), flat items -/
def gIndex : PV → PV → Option PV
  | .lst ps, y => if isFlat y && ps.all isFlat then (ps.findIdx? fun z => pvEq z y).map fun j => .int (j : Nat) else none
  | .rol ps, y => if isFlat y && ps.all isFlat then (ps.findIdx? fun z => pvEq z y).map fun j => .int (j : Nat) else none
  | _, _ => none
theorem flat_get {K : PySem.W.Frag} {A : Addr → Prop} {H : Hp} : ∀ {ps : List PV} {vs : List V}, ps.all isFlat = true → Reps K A H ps vs → vs.all flatV = true
  | [], _, _, r => by rw [show _ = [] from r]; rfl
  | p :: ps, _, f, r => by
    obtain ⟨x, t, rfl, r1, r2⟩ := r
    simp only [List.all_cons, Bool.and_eq_true] at f
    simp [rep_flat f.1 r1, flat_get f.2 r2]
theorem index_read {K : PySem.W.Frag} {H : Hp} {a : Addr} {ps : List PV} {xs : List V} {y z : PV} {u : V} {Q : VK} (hS : SqL K H a xs) (rr : Reps K (fun _ => True) H ps xs) (h : (if isFlat y && ps.all isFlat then (ps.findIdx? fun z => pvEq z y).map fun j => PV.int (j : Nat) else none) = some z)
    (r2 : Rep K (fun _ => True) H y u) (k : ∀ w, Atom K z w → Q w H) : rIndex K (.ref a) [u] H Q := by
  split at h
  · rename_i hf
    simp only [Bool.and_eq_true] at hf
    cases e : ps.findIdx? (fun z => pvEq z y) with
    | none => rw [e] at h; cases h
    | some j =>
      rw [e] at h; cases h
      obtain ⟨hj, h1, h2⟩ := List.findIdx?_eq_some_iff_getElem.mp e
      obtain ⟨w, hw, rw'⟩ := rr.get (List.getElem?_eq_getElem hj)
      have fl : ∀ (i : Nat) (hi : i < ps.length), isFlat ps[i] = true := fun i hi => List.all_eq_true.mp hf.2 _ (List.getElem_mem hi)
      refine ⟨a, xs, u, j, w, rfl, rfl, hS, rep_flat hf.1 r2, flat_get hf.2 rr, hw, by rw [eqV_pv (fl j hj) hf.1 rw' r2]; exact h1, fun i z' hi hz => ?_, k _ (atom_int _)⟩
      obtain ⟨p, hp, rp⟩ := rr.getV hz
      have hil : i < ps.length := by omega
      rw [List.getElem?_eq_getElem hil] at hp
      cases hp
      rw [eqV_pv (fl i hil) hf.1 rp r2]
      simpa using h2 i hi
  · cases h
theorem m_index : Mt1A X.K (rIndex X.K) gIndex := fun H p q z v u Q hg r1 r2 k => by
  cases p <;> simp only [gIndex, reduceCtorEq] at hg
  · obtain ⟨a, xs, rfl, _, ha, rr⟩ := r1; exact index_read (SqL.of ha) rr hg r2 k
  · obtain ⟨a, xs, rfl, ha, rr⟩ := r1; exact index_read ha.sq rr hg r2 k
/-- x.startswith(y) -/
def preB : Tx → Tx → Bool
  | [], _ => true
  | _ :: _, [] => false
  | c :: x, d :: y => c == d && preB x y
end

/-! ### sorted texts, whole numbers -/
def insT {α : Type} (le : α → α → Bool) (x : α) : List α → List α
  | [] => [x]
  | y :: r => if le x y then x :: y :: r else y :: insT le x r
def sortT {α : Type} (le : α → α → Bool) : List α → List α
  | [] => []
  | x :: r => insT le x (sortT le r)
section
variable {α : Type} {le : α → α → Bool}
theorem insT_perm (x : α) : ∀ l, (insT le x l).Perm (x :: l)
  | [] => .refl _
  | y :: r => by
    simp only [insT]
    split
    · exact .refl _
    · exact ((insT_perm x r).cons y).trans (.swap x y r)
theorem sortT_perm : ∀ l, (sortT le l).Perm l
  | [] => .refl _
  | x :: r => (insT_perm x _).trans ((sortT_perm r).cons x)
theorem insT_sorted (tot : ∀ a b, le a b = true ∨ le b a = true) (tr : ∀ a b c, le a b = true → le b c = true → le a c = true) (x : α) : ∀ l, l.Pairwise (fun a b => le a b = true) → (insT le x l).Pairwise fun a b => le a b = true
  | [], _ => by simp [insT]
  | y :: r, h => by
    simp only [insT]
    obtain ⟨h1, h2⟩ := List.pairwise_cons.mp h
    split
    · rename_i hxy
      exact List.pairwise_cons.mpr ⟨fun z hz => (List.mem_cons.mp hz).elim (fun e => e ▸ hxy) fun hz => tr _ _ _ hxy (h1 z hz), h⟩
    · rename_i hxy
      refine List.pairwise_cons.mpr ⟨fun z hz => ?_, insT_sorted tot tr x r h2⟩
      rcases List.mem_cons.mp ((insT_perm x r).mem_iff.mp hz) with rfl | hz
      · exact (tot z y).resolve_left hxy
      · exact h1 z hz
theorem sortT_sorted (tot : ∀ a b, le a b = true ∨ le b a = true) (tr : ∀ a b c, le a b = true → le b c = true → le a c = true) : ∀ l, (sortT le l).Pairwise fun a b => le a b = true
  | [] => .nil
  | x :: r => insT_sorted tot tr x _ (sortT_sorted tot tr r)
end
def txLe (x y : Tx) : Bool := !txLt y x
theorem txLt_iff {x y : Tx} : txLt x y = true ↔ x.map Fin.val < y.map Fin.val := by simp [txLt]
theorem txLe_iff {x y : Tx} : txLe x y = true ↔ ¬ y.map Fin.val < x.map Fin.val := by simp [txLe, txLt]
theorem nlt_trans {a b c : List Nat} (h1 : ¬ b < a) (h2 : ¬ c < b) : ¬ c < a := by
  have h1 : a ≤ b := List.not_lt.mp h1
  have h2 : b ≤ c := List.not_lt.mp h2
  exact List.not_lt.mpr (List.le_trans h1 h2)
theorem txLe_trans (x y z : Tx) (h1 : txLe x y = true) (h2 : txLe y z = true) : txLe x z = true := txLe_iff.mpr (nlt_trans (txLe_iff.mp h1) (txLe_iff.mp h2))
theorem txLe_total (x y : Tx) : txLe x y = true ∨ txLe y x = true := by
  rw [txLe_iff, txLe_iff]
  have := List.le_total (x.map Fin.val) (y.map Fin.val)
  rcases this with h | h
  · exact .inl (List.not_lt.mpr h)
  · exact .inr (List.not_lt.mpr h)
theorem txLe_antisymm {x y : Tx} (h1 : txLe x y = true) (h2 : txLe y x = true) : x = y :=
  val_inj (List.le_antisymm (List.not_lt.mp (txLe_iff.mp h1)) (List.not_lt.mp (txLe_iff.mp h2)))
theorem sorted_le {ys : List Str} (h : sortedS ys = true) : ys.Pairwise fun a b => ¬ b.cps.toList < a.cps.toList := by
  have tr : ∀ {a b c : Str}, ¬ b.cps.toList < a.cps.toList → ¬ c.cps.toList < b.cps.toList → ¬ c.cps.toList < a.cps.toList := fun h1 h2 => nlt_trans h1 h2
  have main : ∀ (r : List Str) (p : Str), risingS p r = true → (p :: r).Pairwise fun a b => ¬ b.cps.toList < a.cps.toList := by
    intro r
    induction r with
    | nil => intro p _; simp
    | cons x r ih =>
      intro p h
      simp only [risingS, Bool.and_eq_true, Bool.not_eq_true'] at h
      have h1 : ¬ x.cps.toList < p.cps.toList := by
        have := h.1
        rw [ltCps_eq] at this
        simpa using this
      have h2 := ih x h.2
      refine List.pairwise_cons.mpr ⟨fun z hz => ?_, h2⟩
      rcases List.mem_cons.mp hz with rfl | hz
      · exact h1
      · exact tr h1 ((List.pairwise_cons.mp h2).1 z hz)
  cases ys with
  | nil => exact .nil
  | cons p r => exact main r p h
theorem sorted_eq {xs : List Tx} {ys : List Str} (hp : ys.Perm (xs.map mkS)) (hs : sortedS ys = true) : ys = (sortT txLe xs).map mkS := by
  have p2 : ((sortT txLe xs).map mkS).Perm (xs.map mkS) := (sortT_perm xs).map mkS
  have s2 : ((sortT txLe xs).map mkS).Pairwise fun a b => ¬ b.cps.toList < a.cps.toList := by
    rw [List.pairwise_map]
    exact (sortT_sorted txLe_total txLe_trans xs).imp fun h => by rw [mkS_cps, mkS_cps]; exact txLe_iff.mp h
  refine (hp.trans p2.symm).eq_of_pairwise (fun a b _ _ h1 h2 => ?_) (sorted_le hs) s2
  have := List.le_antisymm (List.not_lt.mp h1) (List.not_lt.mp h2)
  cases a; cases b
  simp only [Str.mk.injEq]
  exact Array.toList_inj.mp this
def strsOf : List PV → Option (List Tx)
  | [] => some []
  | .str x :: ps => (strsOf ps).map (x :: ·)
  | _ :: _ => none
theorem strsOf_eq : ∀ {ps : List PV} {xs : List Tx}, strsOf ps = some xs → ps = xs.map .str
  | [], xs, h => by cases h; rfl
  | p :: ps, xs, h => by
    cases p <;> simp only [strsOf, reduceCtorEq] at h
    cases e : strsOf ps with
    | none => rw [e] at h; cases h
    | some ys => rw [e] at h; cases h; rw [strsOf_eq e]; rfl
theorem strsOf_map (xs : List Tx) : strsOf (xs.map .str) = some xs := by
  induction xs with
  | nil => rfl
  | cons x xs ih => simp [strsOf, ih]
def gSortS : PV → Option OT
  | .lst ps => (strsOf ps).bind fun xs => if xs.length < 64 then some (.l ((sortT txLe xs).map .str)) else none
  | _ => none
section
variable {X : Cx}
theorem c_sortS : Call1 X.K (rSortedS X.K) .I gSortS := fun C fp H p t v Q hg r k => by
  cases p <;> simp only [gSortS, reduceCtorEq] at hg
  rename_i ps
  obtain ⟨a, vs, rfl, ha, rr⟩ := r
  cases e : strsOf ps with
  | none => rw [e] at hg; cases hg
  | some xs =>
    rw [e] at hg
    simp only [Option.bind_some] at hg
    split at hg
    · rename_i hl
      cases hg
      rw [strsOf_eq e] at rr
      have ev := rr.strs
      refine ⟨a, xs.map mkS, rfl, by rw [List.map_map]; rw [ev] at ha; exact SqL.of ha, by simpa using hl, fun ys p hp hs hn => ?_⟩
      rw [sorted_eq hp hs, List.map_map]
      exact k.l (Reps.of_strs _) p hn
    · cases hg
end
end Fz
end
section
/-! FwM: to reckon with the pure bodies. -/
namespace Fz
open PySem PySem.Spec PyProof.Rows L2

/-! ### each construct at an environment -/
section
variable (ρ : Env) (m : Mode) (i j k : Nat) (f f1 f2 f3 : E) (t t1 t2 : T) (fo fo1 fo2 : O) (s s1 s2 : S) (l l1 l2 : L) (gg : G)
@[simp] theorem m_eC (p : PV) : eC p ρ = .ok p := (rfl)
@[simp] theorem m_eOfO : eOfO fo ρ = fo ρ >>= fun t => .ok t.pv := (rfl)
@[simp] theorem m_oOfE : oOfE f ρ = f ρ >>= fun p => .ok (.fz p) := (rfl)
@[simp] theorem m_eBin (g : PV → PV → Option PV) : eBin g f1 f2 ρ = f1 ρ >>= fun x => f2 ρ >>= fun y => ofO (g x y) := (rfl)
@[simp] theorem m_eUn (g : PV → Option PV) : eUn g f ρ = f ρ >>= fun x => ofO (g x) := (rfl)
@[simp] theorem m_oUn (g : PV → Option OT) : oUn g f ρ = f ρ >>= fun x => ofO (g x) := (rfl)
@[simp] theorem m_oBin (g : PV → PV → Option OT) : oBin g f1 f2 ρ = f1 ρ >>= fun x => f2 ρ >>= fun y => ofO (g x y) := (rfl)
@[simp] theorem m_eCmp (g : Cmp) : eCmp g f1 f2 ρ = f1 ρ >>= fun x => f2 ρ >>= fun y => ofO (g x y) >>= fun b => .ok (.bl b) := (rfl)
@[simp] theorem m_tCmp (g : Cmp) : tCmp g f1 f2 ρ = f1 ρ >>= fun x => f2 ρ >>= fun y => ofO (g x y) := (rfl)
@[simp] theorem m_tChn (g g' : Cmp) : tChn g g' f1 f2 f3 ρ = f1 ρ >>= fun x => f2 ρ >>= fun y => ofO (g x y) >>= fun b => if b = true then f3 ρ >>= fun z => ofO (g' y z) else .ok false := (rfl)
@[simp] theorem m_tAndF : tAndF t1 t2 ρ = t1 ρ >>= fun b => if b = true then t2 ρ else .ok false := (rfl)
@[simp] theorem m_tOrF : tOrF t1 t2 ρ = t1 ρ >>= fun b => if b = true then .ok true else t2 ρ := (rfl)
@[simp] theorem m_tNotF : tNotF t ρ = t ρ >>= fun b => .ok (!b) := (rfl)
@[simp] theorem m_eAnd : eAnd f1 f2 ρ = f1 ρ >>= fun x => bOf x >>= fun b => if b = true then f2 ρ else .ok (.bl false) := (rfl)
@[simp] theorem m_eOr : eOr f1 f2 ρ = f1 ρ >>= fun x => bOf x >>= fun b => if b = true then .ok (.bl true) else f2 ρ := (rfl)
@[simp] theorem m_eNot : eNot f1 ρ = f1 ρ >>= fun x => bOf x >>= fun b => .ok (.bl (!b)) := (rfl)
@[simp] theorem m_eIf : eIf t f1 f2 ρ = t ρ >>= fun b => if b = true then f1 ρ else f2 ρ := (rfl)
@[simp] theorem m_oIf : oIf t fo1 fo2 ρ = t ρ >>= fun b => if b = true then fo1 ρ else fo2 ρ := (rfl)
@[simp] theorem m_tOfE : tOfE f ρ = f ρ >>= truth := (rfl)
@[simp] theorem m_eIx : eIx f1 f2 ρ = f1 ρ >>= fun x => f2 ρ >>= fun y => ofO (gIx x y) := (rfl)
@[simp] theorem m_eM1 (tm : Tm) (g : PV → PV → Option PV) : eM1 tm g f1 f2 ρ = f1 ρ >>= fun x => if tm.is x = true then f2 ρ >>= fun y => ofO (g x y) else .bad := (rfl)
@[simp] theorem m_pNo : pNo ρ = .ok none := (rfl)
@[simp] theorem m_pAt : pAt f ρ = f ρ >>= fun x => intOf x >>= fun i => .ok (some i) := (rfl)
@[simp] theorem m_oSl (lo hi : P) : oSl f lo hi ρ = f ρ >>= fun x => lo ρ >>= fun l => hi ρ >>= fun u => ofO (gSl x l u) := (rfl)
@[simp] theorem m_lNil : lNil ρ = .ok [] := (rfl)
@[simp] theorem m_lCons : lCons f l ρ = f ρ >>= fun p => l ρ >>= fun ps => .ok (p :: ps) := (rfl)
@[simp] theorem m_oLst : oLst l ρ = l ρ >>= fun ps => .ok (.l ps) := (rfl)
@[simp] theorem m_eTup : eTup l ρ = l ρ >>= fun ps => .ok (.tup ps) := (rfl)
@[simp] theorem m_oCall (g : Fn) : oCall g l ρ = l ρ >>= g := (rfl)
@[simp] theorem m_lOf : lOf f ρ = f ρ >>= itemsOf := (rfl)
@[simp] theorem m_lZip : lZip f1 f2 ρ = f1 ρ >>= fun x => f2 ρ >>= fun y => listOf' x >>= fun ps => listOf' y >>= fun qs => .ok (List.zipWith (fun p q => PV.tup [p, q]) ps qs) := (rfl)
@[simp] theorem m_lEnum : lEnum f ρ = f ρ >>= fun x => listOf' x >>= fun ps => .ok (enumL ps) := (rfl)
@[simp] theorem m_sSeq : sSeq s1 s2 ρ = (s1 ρ).andThen s2 := (rfl)
@[simp] theorem m_sNil : sNil ρ = .nx ρ := (rfl)
@[simp] theorem m_sBrk : sBrk ρ = .bk ρ := (rfl)
@[simp] theorem m_sCnt : sCnt ρ = .ct ρ := (rfl)
@[simp] theorem m_sAsg : sAsg i fo ρ = withR (fo ρ) ρ fun t => if i < ρ.length then .nx (ρ.set i (toSlot t)) else .bad := (rfl)
@[simp] theorem m_sDrop : sDrop fo ρ = withR (fo ρ) ρ fun _ => .nx ρ := (rfl)
@[simp] theorem m_sRet : sRet fo ρ = withR (fo ρ) ρ fun t => .rt t := (rfl)
@[simp] theorem m_sRetN : sRetN ρ = .rt (.fz .non) := (rfl)
@[simp] theorem m_sIf : sIf t s1 s2 ρ = withR (t ρ) ρ fun b => if b = true then s1 ρ else s2 ρ := (rfl)
@[simp] theorem m_sFor : sFor l gg s ρ = withR (l ρ) ρ fun ps => loop gg s ps ρ := (rfl)
@[simp] theorem m_sDropQ (q : Qx) : sDropQ q ρ = withR (q ρ) ρ fun r => .nx r.2 := (rfl)
@[simp] theorem m_sRetQ (q : Qx) : sRetQ q ρ = withR (q ρ) ρ fun r => .rt (.fz r.1) := (rfl)
@[simp] theorem m_sAsgQ (q : Qx) : sAsgQ i q ρ = withR (q ρ) ρ fun r => if i < r.2.length then .nx (r.2.set i (.val r.1)) else .bad := (rfl)
@[simp] theorem m_qE : qE f ρ = f ρ >>= fun p => .ok (p, ρ) := (rfl)
@[simp] theorem m_gNm (p : PV) : gNm i p ρ = if i < ρ.length then some (ρ.set i (.val p)) else none := (rfl)
@[simp] theorem m_gsNil : gsNil [] ρ = some ρ := (rfl)
@[simp] theorem m_gTp (n : Nat) (h : Gs) (ps : List PV) : gTp n h (.tup ps) ρ = if ps.length = n then h ps ρ else none := (rfl)
end
@[simp] theorem pv_fz (p : PV) : (OT.fz p).pv = p := (rfl)
@[simp] theorem pv_l (p : List PV) : (OT.l p).pv = .lst p := (rfl)
@[simp] theorem ts_fz (p : PV) : toSlot (.fz p) = .val p := (rfl)
@[simp] theorem ts_l (p : List PV) : toSlot (.l p) = .own (.l p) := (rfl)
@[simp] theorem bOf_bl (b : Bool) : bOf (.bl b) = .ok b := (rfl)
@[simp] theorem intOf_int (i : Int) : intOf (.int i) = .ok i := (rfl)
/-! what a slot gives -/
def rdS (m : Mode) : Option Slot → Res PV
  | some (.val p) => .ok p
  | some (.bor p) => (match m with
    | .B => .ok p
    | .I => if immutI p then .ok p else .bad
    | .E => if immut p then .ok p else .bad)
  | some (.own t) => (match m, t with
    | .B, t => .ok t.pv
    | .I, .l ps => .ok (.lst ps)
    | .I, .d ps => .ok (.dic ps)
    | .I, .dt ps => .ok (.dit ps)
    | .I, .ins c fs => .ok (.ins c fs)
    | _, _ => .bad)
  | _ => .bad
@[simp] theorem m_eVar (m : Mode) (i : Nat) (ρ : Env) : eVar m i ρ = rdS m ρ[i]? := (rfl)
@[simp] theorem rd_val (m : Mode) (p : PV) : rdS m (some (.val p)) = .ok p := (rfl)
@[simp] theorem rd_bor (p : PV) : rdS .B (some (.bor p)) = .ok p := (rfl)
@[simp] theorem rd_borI (p : PV) : rdS .I (some (.bor p)) = if immutI p then .ok p else .bad := (rfl)
@[simp] theorem rd_borE (p : PV) : rdS .E (some (.bor p)) = if immut p then .ok p else .bad := (rfl)
@[simp] theorem rd_own (t : OT) : rdS .B (some (.own t)) = .ok t.pv := (rfl)
@[simp] theorem rd_ownI (ps : List PV) : rdS .I (some (.own (.l ps))) = .ok (.lst ps) := (rfl)
@[simp] theorem rd_ownD (ps : List (K1 × PV)) : rdS .I (some (.own (.d ps))) = .ok (.dic ps) := (rfl)
def rtS : Option Slot → Fl
  | some (.own t) => .rt t
  | some (.val p) => .rt (.fz p)
  | some (.bor p) => if immut p then .rt (.fz p) else .bad
  | _ => .bad
@[simp] theorem m_sRetV (i : Nat) (ρ : Env) : sRetV i ρ = rtS ρ[i]? := (rfl)
@[simp] theorem rt_own (t : OT) : rtS (some (.own t)) = .rt t := (rfl)
@[simp] theorem rt_val (p : PV) : rtS (some (.val p)) = .rt (.fz p) := (rfl)
@[simp] theorem rt_bor (p : PV) : rtS (some (.bor p)) = if immut p then .rt (.fz p) else .bad := (rfl)
def frzS (i : Nat) (ρ : Env) : Option Slot → Fl
  | some (.own t) => .nx (ρ.set i (.val t.pv))
  | _ => .nx ρ
@[simp] theorem m_sFrz (i : Nat) (ρ : Env) : sFrz i ρ = frzS i ρ ρ[i]? := (rfl)
@[simp] theorem frz_own (i : Nat) (ρ : Env) (t : OT) : frzS i ρ (some (.own t)) = .nx (ρ.set i (.val t.pv)) := (rfl)
@[simp] theorem frz_val (i : Nat) (ρ : Env) (p : PV) : frzS i ρ (some (.val p)) = .nx ρ := (rfl)
@[simp] theorem frz_bor (i : Nat) (ρ : Env) (p : PV) : frzS i ρ (some (.bor p)) = .nx ρ := (rfl)
@[simp] theorem frz_u (i : Nat) (ρ : Env) : frzS i ρ (some .u) = .nx ρ := (rfl)
def appS (i : Nat) (ρ : Env) (f : E) : Option Slot → Fl
  | some (.own (.l ps)) => withR (f ρ) ρ fun p => if ps.length < sizeLine then .nx (ρ.set i (.own (.l (ps ++ [p])))) else .bad
  | _ => .bad
@[simp] theorem m_sApp (i : Nat) (f : E) (ρ : Env) : sApp i (qE f) ρ = appS i ρ f ρ[i]? := by
  unfold sApp appS
  split
  · rename_i ps h
    simp only [m_qE]
    cases f ρ <;> simp [h]
  · rename_i h
    first
      | rfl
      | (split
         · rename_i ps h2; exact (h _ h2).elim
         · rfl)
@[simp] theorem app_l (i : Nat) (ρ : Env) (f : E) (ps : List PV) : appS i ρ f (some (.own (.l ps))) = withR (f ρ) ρ fun p => if ps.length < sizeLine then .nx (ρ.set i (.own (.l (ps ++ [p])))) else .bad := (rfl)
def extS (i : Nat) (ρ : Env) (f : E) : Option Slot → Fl
  | some (.own (.l ps)) => withR (f ρ) ρ fun y => (match y with
    | .lst qs => if ps.length + qs.length ≤ sizeLine then .nx (ρ.set i (.own (.l (ps ++ qs)))) else .bad
    | _ => .bad)
  | _ => .bad
@[simp] theorem m_sExt (i : Nat) (f : E) (ρ : Env) : sExt i f ρ = extS i ρ f ρ[i]? := (rfl)
@[simp] theorem ext_l (i : Nat) (ρ : Env) (f : E) (ps : List PV) : extS i ρ f (some (.own (.l ps))) = withR (f ρ) ρ fun y => (match y with
    | .lst qs => if ps.length + qs.length ≤ sizeLine then .nx (ρ.set i (.own (.l (ps ++ qs)))) else .bad
    | _ => .bad) := (rfl)
def popS (i : Nat) (ρ : Env) (f : E) : Option Slot → Res (PV × Env)
  | some (.own (.l ps)) => f ρ >>= fun x => intOf x >>= fun k => if bnd k = true then (match ixN ps.length k with
    | some j => (match ps[j]? with
      | some p => .ok (p, ρ.set i (.own (.l (ps.eraseIdx j))))
      | none => .bad)
    | none => .bad) else .bad
  | _ => .bad
@[simp] theorem m_qPopAt (i : Nat) (f : E) (ρ : Env) : qPopAt i f ρ = popS i ρ f ρ[i]? := (rfl)
theorem bnd_small {k : Int} (h1 : -4611686018427387904 ≤ k) (h2 : k < 4611686018427387904) : bnd k = true := by
  have e : (2 : Int) ^ 62 = 4611686018427387904 := by decide +kernel
  unfold bnd
  rw [e, decide_eq_true_iff]
  exact ⟨h1, h2⟩
theorem pop_l (i : Nat) (ρ : Env) (f : E) (ps : List PV) (k : Nat) (p : PV) (hk : f ρ = .ok (.int k)) (hp : ps[k]? = some p) (hb : ps.length ≤ 16777216) : popS i ρ f (some (.own (.l ps))) = .ok (p, ρ.set i (.own (.l (ps.eraseIdx k)))) := by
  have hl : k < ps.length := (List.getElem?_eq_some_iff.mp hp).1
  have h1 : bnd (k : Int) = true := bnd_small (by omega) (by omega)
  have h2 : ixN ps.length (k : Int) = some k := by
    unfold ixN
    rw [if_pos (by omega), if_pos (by omega)]
    simp
  have key : popS i ρ f (some (.own (.l ps))) = (f ρ >>= fun x => intOf x >>= fun k => if bnd k = true then (match ixN ps.length k with
    | some j => (match ps[j]? with
      | some p => .ok (p, ρ.set i (.own (.l (ps.eraseIdx j))))
      | none => .bad)
    | none => .bad) else .bad) := rfl
  rw [key, hk, bind_ok, intOf_int, bind_ok, if_pos h1, h2]
  dsimp only
  rw [hp]
@[simp] theorem m_sPar (i j : Nat) (g : L) (ρ : Env) : sPar i j g ρ = withR (g ρ) ρ fun ps => match ps with
  | [p, q] => if i < ρ.length ∧ j < ρ.length ∧ i ≠ j then .nx ((ρ.set i (.val p)).set j (.val q)) else .bad
  | _ => .bad := (rfl)
@[simp] theorem m_sPar3 (i j l : Nat) (g : L) (ρ : Env) : sPar3 i j l g ρ = withR (g ρ) ρ fun ps => match ps with
  | [p, q, r] => if i < ρ.length ∧ j < ρ.length ∧ l < ρ.length then .nx (((ρ.set i (.val p)).set j (.val q)).set l (.val r)) else .bad
  | _ => .bad := (rfl)
theorem run1 (n : Nat) (m1 : Mode) (s : S) (p : PV) : runFn n [m1] s [p] = (match s (slotOf m1 p :: List.replicate (n - 1) .u) with
  | .rt o => .ok o
  | .nx _ => .ok (.fz .non)
  | .ex c fs _ => .exc c fs
  | _ => .bad) := rfl
theorem runN (n : Nat) (ms : List Mode) (s : S) (ps : List PV) (h : ps.length = ms.length) {o : OT} (e : s (slotsOf ms ps ++ List.replicate (n - ps.length) .u) = .rt o) : runFn n ms s ps = .ok o := by
  unfold runFn
  rw [if_pos h, e]
/-! ### what a flow must do -/
structure Po where
  nx : Env → Prop
  bk : Env → Prop
  ct : Env → Prop
  rt : OT → Prop
  ex : String → Option (List (String × PV)) → Env → Prop
@[irreducible] def sat (f : Fl) (P : Po) : Prop := match f with
  | .nx ρ => P.nx ρ
  | .ct ρ => P.ct ρ
  | .bk ρ => P.bk ρ
  | .rt o => P.rt o
  | .ex c fs ρ => P.ex c fs ρ
  | .bad => False
@[simp] theorem sat_nx (ρ : Env) (P : Po) : sat (.nx ρ) P = P.nx ρ := by unfold sat; rfl
@[simp] theorem sat_bk (ρ : Env) (P : Po) : sat (.bk ρ) P = P.bk ρ := by unfold sat; rfl
@[simp] theorem sat_ct (ρ : Env) (P : Po) : sat (.ct ρ) P = P.ct ρ := by unfold sat; rfl
@[simp] theorem sat_rt (o : OT) (P : Po) : sat (.rt o) P = P.rt o := by unfold sat; rfl
@[simp] theorem sat_ex (c : String) (fs : Option (List (String × PV))) (ρ : Env) (P : Po) : sat (.ex c fs ρ) P = P.ex c fs ρ := by unfold sat; rfl
@[simp] theorem sat_then (f : Fl) (s : S) (P : Po) : sat (f.andThen s) P = sat f { P with nx := fun ρ => sat (s ρ) P } := by cases f <;> simp <;> unfold sat <;> rfl
theorem sat.mono {f : Fl} {P P' : Po} (h : sat f P) (h1 : ∀ ρ, P.nx ρ → P'.nx ρ) (h2 : ∀ ρ, P.bk ρ → P'.bk ρ) (h3 : ∀ ρ, P.ct ρ → P'.ct ρ) (h4 : ∀ o, P.rt o → P'.rt o) (h5 : ∀ c fs ρ, P.ex c fs ρ → P'.ex c fs ρ) : sat f P' := by
  unfold sat at h ⊢
  cases f with
  | nx ρ => exact h1 _ h
  | bk ρ => exact h2 _ h
  | ct ρ => exact h3 _ h
  | rt o => exact h4 _ h
  | ex c fs ρ => exact h5 _ _ _ h
  | bad => exact h
theorem sat_if {c : Prop} [Decidable c] {f1 f2 : Fl} {P : Po} (h1 : c → sat f1 P) (h2 : ¬ c → sat f2 P) : sat (if c then f1 else f2) P := by
  split
  · exact h1 ‹_›
  · exact h2 ‹_›
/-- a def's whole -/
def poR (R : OT → Prop) : Po := ⟨fun _ => R (.fz .non), fun _ => False, fun _ => False, R, fun _ _ _ => False⟩
@[simp] theorem poR_nx (R : OT → Prop) (ρ : Env) : (poR R).nx ρ = R (.fz .non) := (rfl)
@[simp] theorem poR_rt (R : OT → Prop) : (poR R).rt = R := (rfl)
theorem run_ok {n : Nat} {ms : List Mode} {s : S} {ps : List PV} (R : OT → Prop) (h : ps.length = ms.length) (hs : sat (s (slotsOf ms ps ++ List.replicate (n - ps.length) .u)) (poR R)) : ∃ o, runFn n ms s ps = .ok o ∧ R o := by
  unfold runFn
  rw [if_pos h]
  unfold sat at hs
  revert hs
  cases s (slotsOf ms ps ++ List.replicate (n - ps.length) .u) with
  | nx ρ => exact fun h => ⟨_, rfl, h⟩
  | rt o => exact fun h => ⟨_, rfl, h⟩
  | _ => exact fun h => h.elim
/-- one turn -/
def stp (g : G) (body : S) (p : PV) (ρ : Env) : Fl := match g p ρ with
  | none => .bad
  | some ρ1 => body ρ1
@[simp] theorem stp_nm (i : Nat) (body : S) (p : PV) (ρ : Env) : stp (gNm i) body p ρ = if i < ρ.length then body (ρ.set i (.val p)) else .bad := by
  unfold stp gNm
  split
  · rename_i h; split at h
    · cases h
    · rw [if_neg ‹_›]
  · rename_i h; split at h
    · cases h; rw [if_pos ‹_›]
    · cases h
theorem sat_loop {g : G} {body : S} {P : Po} (I : Nat → Env → Prop) : ∀ (ps : List PV) (c : Nat) (ρ : Env), I c ρ →
    (∀ k p ρ, ps[k]? = some p → I (c + k) ρ → sat (stp g body p ρ) { P with nx := I (c + k + 1), ct := I (c + k + 1), bk := P.nx }) → (∀ ρ, I (c + ps.length) ρ → P.nx ρ) → sat (loop g body ps ρ) P
  | [], c, ρ, h0, _, he => by unfold loop; rw [sat_nx]; exact he ρ h0
  | p :: ps, c, ρ, h0, st, he => by
    have t1 := st 0 p ρ rfl h0
    have nxt : ∀ ρ2, I (c + 1) ρ2 → sat (loop g body ps ρ2) P := fun ρ2 h2 => by
      refine sat_loop I ps (c + 1) ρ2 h2 (fun k q ρ hq hI => ?_) fun ρ h => he ρ (by rw [show c + (p :: ps).length = c + 1 + ps.length by simp; omega]; exact h)
      have := st (k + 1) q ρ (by simpa using hq) (by rw [show c + (k + 1) = c + 1 + k by omega]; exact hI)
      rw [show c + (k + 1) + 1 = c + 1 + k + 1 by omega] at this
      exact this
    unfold stp at t1
    unfold loop
    unfold sat at t1 nxt ⊢
    revert t1 nxt
    cases g p ρ with
    | none => exact fun h _ => h.elim
    | some ρ1 =>
      dsimp only
      cases body ρ1 with
      | nx ρ2 => exact fun t1 nxt => nxt ρ2 t1
      | ct ρ2 => exact fun t1 nxt => nxt ρ2 t1
      | bk ρ2 => exact fun t1 _ => t1
      | rt o => exact fun t1 _ => t1
      | ex c fs ρ => exact fun t1 _ => t1
      | bad => exact fun t1 _ => t1.elim
theorem range_get {lo : Int} {n k : Nat} {p : PV} (h : (rangeL lo n)[k]? = some p) : p = .int (lo + k) ∧ k < n := by
  unfold rangeL at h
  rw [List.getElem?_map] at h
  by_cases hk : k < n
  · rw [List.getElem?_range hk] at h
    exact ⟨(Option.some.inj h).symm, hk⟩
  · rw [List.getElem?_eq_none (by simpa using hk)] at h
    cases h
@[simp] theorem rangeL_len (lo : Int) (n : Nat) : (rangeL lo n).length = n := by simp [rangeL]
/-- a loop over the items -/
theorem sat_for {g : G} {body : S} {P : Po} {ps : List PV} {ρ : Env} (I : Nat → Env → Prop) (h0 : I 0 ρ)
    (st : ∀ k p ρ, ps[k]? = some p → I k ρ → sat (stp g body p ρ) { P with nx := I (k + 1), ct := I (k + 1), bk := P.nx }) (he : ∀ ρ, I ps.length ρ → P.nx ρ) : sat (loop g body ps ρ) P :=
  sat_loop I ps 0 ρ h0 (by simpa using st) (by simpa using he)
theorem sat_range {g : G} {body : S} {P : Po} {lo : Int} {n : Nat} {ρ : Env} (I : Nat → Env → Prop) (h0 : I 0 ρ)
    (st : ∀ k ρ, k < n → I k ρ → sat (stp g body (.int (lo + k)) ρ) { P with nx := I (k + 1), ct := I (k + 1), bk := P.nx }) (he : ∀ ρ, I n ρ → P.nx ρ) : sat (loop g body (rangeL lo n) ρ) P :=
  sat_for I h0 (fun k p ρ hp hI => by obtain ⟨rfl, hk⟩ := range_get hp; exact st k ρ hk hI) (by simpa using he)
/-- range's bound -/
def rngR (lo hi : Int) : Res (List PV) := if bnd lo = true ∧ bnd hi = true then .ok (rangeL lo (hi - lo).toNat) else .bad
theorem rng_ok {lo hi : Int} (h1 : -4611686018427387904 ≤ lo) (h2 : lo < 4611686018427387904) (h3 : -4611686018427387904 ≤ hi) (h4 : hi < 4611686018427387904) : rngR lo hi = .ok (rangeL lo (hi - lo).toNat) := if_pos ⟨bnd_small h1 h2, bnd_small h3 h4⟩
theorem rng_nat {n : Nat} (h : n < 4611686018427387904) : rngR 0 (n : Int) = .ok (rangeL 0 n) := by
  rw [rng_ok (by omega) (by omega) (by omega) (by omega)]
  simp
@[simp] theorem m_lRange1 (f : E) (ρ : Env) : lRange1 f ρ = f ρ >>= intOf >>= rngR 0 := by
  unfold lRange1 rngR
  congr 1
  funext j
  rw [Int.sub_zero]
  by_cases h : bnd j = true
  · rw [if_pos h, if_pos ⟨bnd_small (by omega) (by omega), h⟩]
  · rw [if_neg h, if_neg fun q => h q.2]
@[simp] theorem m_lRange2 (f1 f2 : E) (ρ : Env) : lRange2 f1 f2 ρ = f1 ρ >>= fun x => f2 ρ >>= fun y => intOf x >>= fun i => intOf y >>= fun j => rngR i j := (rfl)
end Fz
end
section
/-! FwN: the operators at known kinds. -/
namespace Fz
open PySem PySem.Spec PyProof.Rows L2
theorem le_line {n : Nat} (h : n ≤ 16000000) : n ≤ sizeLine := Nat.le_trans h (by decide +kernel)
theorem lt_line {n : Nat} (h : n < 16000000) : n < sizeLine := Nat.lt_of_lt_of_le h (by decide +kernel)
section
variable (i j : Int) (x y : Tx) (ps qs : List PV) (b b' : Bool)
@[simp] theorem gAdd_int : gAdd (.int i) (.int j) = some (.fz (.int (i + j))) := (rfl)
theorem gAdd_str (h : x.length + y.length ≤ sizeLine) : gAdd (.str x) (.str y) = some (.fz (.str (x ++ y))) := if_pos h
theorem gAdd_lst (h : ps.length + qs.length ≤ sizeLine) : gAdd (.lst ps) (.lst qs) = some (.l (ps ++ qs)) := if_pos h
theorem two64 : (2 : Int) ^ 64 = 18446744073709551616 := by decide +kernel
@[simp] theorem gMul_r (h1 : -18446744073709551616 < j) (h2 : j < 18446744073709551616) : gMul (.int i) (.int j) = some (.fz (.int (i * j))) := if_pos (.inr (by rw [two64]; exact ⟨h1, h2⟩))
@[simp] theorem gMul_l (h1 : -18446744073709551616 < i) (h2 : i < 18446744073709551616) : gMul (.int i) (.int j) = some (.fz (.int (i * j))) := if_pos (.inl (by rw [two64]; exact ⟨h1, h2⟩))
@[simp] theorem gSub_int : gSub (.int i) (.int j) = some (.int (i - j)) := (rfl)
@[simp] theorem gNeg_int : gNeg (.int i) = some (.int (-i)) := (rfl)
@[simp] theorem gMod_int (h : 0 < j) : gMod (.int i) (.int j) = some (.int (i % j)) := by
  show ((if 0 < j then some (i % j) else none).map PV.int) = _
  rw [if_pos h]; rfl
@[simp] theorem gDiv_int (h : 0 < j) (h2 : j < 1073741824) : gDiv (.int i) (.int j) = some (.int (i / j)) := by
  show ((if 0 < j ∧ j < 1073741824 then some (i / j) else none).map PV.int) = _
  rw [if_pos ⟨h, h2⟩]; rfl
theorem gPow_int (n : Nat) (h : n ≤ 1000000) (h2 : i.natAbs < 1000000000000000000) : gPow (.int i) (.int n) = some (.int (i ^ n)) := by
  show ((if 0 ≤ (n : Int) ∧ (n : Int) ≤ 1000000 ∧ i.natAbs < 2 ^ 64 then some (i ^ (n : Int).toNat) else none).map PV.int) = _
  rw [if_pos ⟨by omega, by omega, Nat.lt_trans h2 (by decide +kernel)⟩]
  rfl
@[simp] theorem gPow_18 : gPow (.int 10) (.int 18) = some (.int 1000000000000000000) := by
  rw [show (18 : Int) = ((18 : Nat) : Int) from rfl, gPow_int _ _ (by decide) (by decide)]
  rfl
@[simp] theorem gOrd_int (fi : Int → Int → Bool) (fs : Tx → Tx → Bool) : gOrd fi fs (.int i) (.int j) = some (fi i j) := (rfl)
@[simp] theorem gOrd_str (fi : Int → Int → Bool) (fs : Tx → Tx → Bool) : gOrd fi fs (.str x) (.str y) = some (fs x y) := (rfl)
theorem gEq_of {p q : PV} (hp : eqOk p = true) (hq : eqOk q = true) : gEq p q = some (pvEq p q) := if_pos (by rw [hp, hq]; rfl)
theorem gNe_of {p q : PV} (hp : eqOk p = true) (hq : eqOk q = true) : gNe p q = some (!pvEq p q) := if_pos (by rw [hp, hq]; rfl)
@[simp] theorem ok_int : eqOk (.int i) = true := (rfl)
@[simp] theorem ok_str : eqOk (.str x) = true := (rfl)
@[simp] theorem ok_bl : eqOk (.bl b) = true := (rfl)
@[simp] theorem ok_non : eqOk .non = true := (rfl)
@[simp] theorem gEq_int : gEq (.int i) (.int j) = some (i == j) := (rfl)
@[simp] theorem gNe_int : gNe (.int i) (.int j) = some (!(i == j)) := (rfl)
@[simp] theorem gEq_str : gEq (.str x) (.str y) = some (x == y) := (rfl)
@[simp] theorem gNe_str : gNe (.str x) (.str y) = some (!(x == y)) := (rfl)
@[simp] theorem gEq_bl : gEq (.bl b) (.bl b') = some (b == b') := (rfl)
@[simp] theorem gNe_bl : gNe (.bl b) (.bl b') = some (!(b == b')) := (rfl)
theorem gLen_str (h : x.length ≤ sizeLine) : gLen (.str x) = some (.int x.length) := if_pos h
@[simp] theorem gLen_lst : gLen (.lst ps) = some (.int ps.length) := (rfl)
@[simp] theorem gLen_rol : gLen (.rol ps) = some (.int ps.length) := (rfl)
@[simp] theorem gLen_tup : gLen (.tup ps) = some (.int ps.length) := (rfl)
@[simp] theorem gList_lst : gList (.lst ps) = some (.l ps) := (rfl)
@[simp] theorem gList_rol : gList (.rol ps) = some (.l ps) := (rfl)
@[simp] theorem gList_tup : gList (.tup ps) = some (.l ps) := (rfl)
@[simp] theorem gTuple_lst : gTuple (.lst ps) = some (.fz (.tup ps)) := (rfl)
@[simp] theorem gTuple_rol : gTuple (.rol ps) = some (.fz (.tup ps)) := (rfl)
@[simp] theorem gTuple_tup : gTuple (.tup ps) = some (.fz (.tup ps)) := (rfl)
@[simp] theorem gInt_int : gInt (.int i) = some (.int i) := (rfl)
@[simp] theorem items_lst : itemsOf (.lst ps) = .ok ps := (rfl)
@[simp] theorem items_rol : itemsOf (.rol ps) = .ok ps := (rfl)
@[simp] theorem items_tup : itemsOf (.tup ps) = .ok ps := (rfl)
@[simp] theorem lof_lst : listOf' (.lst ps) = .ok ps := (rfl)
@[simp] theorem lof_rol : listOf' (.rol ps) = .ok ps := (rfl)
@[simp] theorem isT_non (t : Ty) : isT t .non = some (.bl false) := (rfl)
@[simp] theorem gIsN_non : gIsN .non .non = some true := (rfl)
@[simp] theorem truth_bl : truth (.bl b) = .ok b := (rfl)
@[simp] theorem truth_int : truth (.int i) = .ok (i != 0) := (rfl)
@[simp] theorem truth_lst : truth (.lst ps) = .ok (!ps.isEmpty) := (rfl)
theorem ixN_nn {n : Nat} (h0 : 0 ≤ i) (h1 : i < n) : ixN n i = some i.toNat := by
  unfold ixN
  rw [if_pos h0, if_pos h1]
theorem ixN_neg {n : Nat} (h0 : i < 0) (h1 : -(n : Int) ≤ i) : ixN n i = some (i + n).toNat := by
  unfold ixN
  rw [if_neg (by omega), if_pos h1]
theorem atI_nn {α : Type} (xs : List α) (h0 : 0 ≤ i) (h1 : i < xs.length) : atI xs i = some (xs[i.toNat]'(by omega)) := by
  unfold atI
  rw [ixN_nn i h0 h1]
  exact List.getElem?_eq_getElem _
theorem atI_m1 {α : Type} (xs : List α) (h1 : 0 < xs.length) : atI xs (-1) = some (xs[xs.length - 1]'(by omega)) := by
  unfold atI
  rw [ixN_neg _ (by omega) (by omega), show (-1 + (xs.length : Int)).toNat = xs.length - 1 by omega]
  exact List.getElem?_eq_getElem _
@[simp] theorem gIx_lst : gIx (.lst ps) (.int i) = atI ps i := (rfl)
@[simp] theorem gIx_rol : gIx (.rol ps) (.int i) = atI ps i := (rfl)
@[simp] theorem gIx_tup : gIx (.tup ps) (.int i) = atI ps i := (rfl)
theorem gIx_str (h : x.length ≤ sizeLine) : gIx (.str x) (.int i) = (atI x i).map fun c => .str [c] := if_pos h
theorem atI_map {α β : Type} (f : α → β) (xs : List α) : atI (xs.map f) i = (atI xs i).map f := by
  unfold atI
  rw [List.length_map]
  cases ixN xs.length i with
  | none => rfl
  | some k => exact List.getElem?_map
theorem gStr_int (h : i.natAbs < 1000000000) : gStr (.int i) = some (.str (txt (toString i))) := if_pos (by
  rcases Nat.eq_zero_or_pos i.natAbs with q | q
  · rw [q]; decide
  · exact Nat.lt_trans ((Nat.log2_lt (by omega)).mpr (Nat.lt_trans h (by decide : 1000000000 < 2 ^ 30))) (by decide))
end
end Fz
end
section
/-! FwO: texts, lists of texts. -/
namespace Fz
open PySem (sizeLine)
def isLow (c : Fin 1114112) : Bool := decide (97 ≤ c.val) && decide (c.val ≤ 122)
def isSg (c : Fin 1114112) : Bool := isLow c || decide (48 ≤ c.val) && decide (c.val ≤ 57)
def lowsT : Tx := txt "abcdefghijklmnopqrstuvwxyz"
def figsT : Tx := txt "0123456789"
@[simp] theorem lowsT_eq : txt "abcdefghijklmnopqrstuvwxyz" = lowsT := (rfl)
@[simp] theorem figsT_eq : txt "0123456789" = figsT := (rfl)
theorem lowsT_len : lowsT.length = 26 := by decide +kernel
theorem lowsT_nodup : lowsT.Nodup := by decide +kernel
theorem lowsT_all : lowsT.all isLow = true := by decide +kernel
theorem lowsT_low : ∀ c ∈ lowsT, isLow c = true := List.all_eq_true.mp lowsT_all
theorem figsT_len : figsT.length = 10 := by decide +kernel
theorem figsT_all : figsT.all isSg = true := by decide +kernel
theorem figsT_sg : ∀ c ∈ figsT, isSg c = true := List.all_eq_true.mp figsT_all
def lt (k : Nat) : Fin 1114112 := lowsT.getD k 0
def sg (k : Nat) : Fin 1114112 := (lowsT ++ figsT).getD k 0
theorem lt_low {k : Nat} (h : k < 26) : isLow (lt k) = true := by
  unfold lt
  rw [List.getD_eq_getElem?_getD, List.getElem?_eq_getElem (by rw [lowsT_len]; exact h)]
  exact lowsT_low _ (List.getElem_mem _)
theorem lt_inj {j k : Nat} (hj : j < 26) (hk : k < 26) (h : lt j = lt k) : j = k := by
  unfold lt at h
  rw [List.getD_eq_getElem?_getD, List.getD_eq_getElem?_getD, List.getElem?_eq_getElem (by rw [lowsT_len]; exact hj), List.getElem?_eq_getElem (by rw [lowsT_len]; exact hk)] at h
  exact (List.getElem_inj lowsT_nodup).mp h
theorem low_sg {c : Fin 1114112} (h : isLow c = true) : isSg c = true := by unfold isSg; rw [h]; rfl
theorem sg_sg {k : Nat} (h : k < 36) : isSg (sg k) = true := by
  unfold sg
  rw [List.getD_eq_getElem?_getD, List.getElem?_eq_getElem (by rw [List.length_append, lowsT_len, figsT_len]; exact h)]
  rcases List.mem_append.mp (List.getElem_mem (l := lowsT ++ figsT) (n := k) (by rw [List.length_append, lowsT_len, figsT_len]; exact h)) with q | q
  · exact low_sg (lowsT_low _ q)
  · exact figsT_sg _ q
theorem gIx_lows (i : Int) : gIx (.str lowsT) (.int (i % 26)) = some (.str [lt (i % 26).toNat]) := by
  have h0 : 0 ≤ i % 26 := Int.emod_nonneg _ (by decide)
  have h1 : i % 26 < 26 := Int.emod_lt_of_pos _ (by decide)
  rw [gIx_str _ _ (le_line (by rw [lowsT_len]; decide)), atI_nn _ _ h0 (by rw [lowsT_len]; exact h1)]
  unfold lt
  rw [List.getD_eq_getElem?_getD, List.getElem?_eq_getElem (by rw [lowsT_len]; omega)]
  rfl
theorem gIx_sgs (i : Int) : gIx (.str (lowsT ++ figsT)) (.int (i % 36)) = some (.str [sg (i % 36).toNat]) := by
  have h0 : 0 ≤ i % 36 := Int.emod_nonneg _ (by decide)
  have h1 : i % 36 < 36 := Int.emod_lt_of_pos _ (by decide)
  have hl : (lowsT ++ figsT).length = 36 := by rw [List.length_append, lowsT_len, figsT_len]
  rw [gIx_str _ _ (le_line (by rw [hl]; decide)), atI_nn _ _ h0 (by rw [hl]; exact h1)]
  unfold sg
  rw [List.getD_eq_getElem?_getD, List.getElem?_eq_getElem (by rw [hl]; omega)]
  rfl
/-- a name: a small letter, then up to eleven small letters or figures -/
def goodN (t : Tx) : Prop := t.length ≤ 12 ∧ (∀ c ∈ t, isSg c = true) ∧ ∃ c r, t = c :: r ∧ isLow c = true
/-! lists of texts, looked at -/
theorem eqOk_lst {ps : List PV} (h : ∀ p ∈ ps, isData p = true ∧ dep p < 64) : eqOk (.lst ps) = true := by
  have key : isDatas ps = true ∧ deps ps < 64 := by
    induction ps with
    | nil => exact ⟨rfl, by decide⟩
    | cons p ps ih =>
      obtain ⟨h1, h2⟩ := h p (List.mem_cons_self)
      obtain ⟨i1, i2⟩ := ih fun q hq => h q (List.mem_cons_of_mem _ hq)
      refine ⟨?_, ?_⟩
      · show (isData p && isDatas ps) = true
        rw [h1, i1]; rfl
      · show max (dep p) (deps ps) < 64
        exact Nat.max_lt.mpr ⟨h2, i2⟩
  unfold eqOk
  rw [show isData (.lst ps) = true from key.1]
  simp only [Bool.true_and, decide_eq_true_eq]
  show deps ps + 1 ≤ 64
  omega
theorem eqOk_strs (ts : List Tx) : eqOk (.lst (ts.map .str)) = true := eqOk_lst fun p hp => by
  obtain ⟨t, _, rfl⟩ := List.mem_map.mp hp
  exact ⟨rfl, by show 0 < 64; decide⟩
theorem any_strs (t : Tx) (ts : List Tx) : ((ts.map PV.str).any fun z => pvEq z (.str t)) = decide (t ∈ ts) := by
  induction ts with
  | nil => rfl
  | cons x xs ih =>
    rw [List.map_cons, List.any_cons, ih]
    show ((x == t) || decide (t ∈ xs)) = _
    by_cases h : x = t
    · subst h; simp
    · have : t ≠ x := fun z => h z.symm
      simp [h, this]
@[simp] theorem gIn_strs (t : Tx) (ts : List Tx) : gIn (.str t) (.lst (ts.map .str)) = some (decide (t ∈ ts)) := by
  show (if eqOk (.str t) && eqOk (.lst (ts.map .str)) then some ((ts.map PV.str).any fun z => pvEq z (.str t)) else none) = _
  rw [eqOk_strs, any_strs]
  rfl
@[simp] theorem gNotIn_strs (t : Tx) (ts : List Tx) : gNotIn (.str t) (.lst (ts.map .str)) = some (!decide (t ∈ ts)) := by
  show (gIn _ _).map _ = _
  rw [gIn_strs]
  rfl
/-! distinct things among few -/
theorem nodup_few {α : Type} [DecidableEq α] : ∀ {l1 l2 : List α}, l1.Nodup → (∀ x ∈ l1, x ∈ l2) → l1.length ≤ l2.length
  | [], _, _, _ => Nat.zero_le _
  | x :: l1, l2, hn, hs => by
    have hx := hs x List.mem_cons_self
    have hn' := List.nodup_cons.mp hn
    have := nodup_few (l1 := l1) (l2 := l2.erase x) hn'.2 fun y hy => by
      have hy2 := hs y (List.mem_cons_of_mem _ hy)
      have hne : y ≠ x := fun z => hn'.1 (z ▸ hy)
      exact (List.mem_erase_of_ne hne).mpr hy2
    rw [List.length_erase_of_mem hx] at this
    have hp : 0 < l2.length := List.length_pos_of_mem hx
    simp only [List.length_cons]
    omega
theorem nodup_map_range {α : Type} {n : Nat} {f : Nat → α} (h : ∀ i j, i < n → j < n → f i = f j → i = j) : ((List.range n).map f).Nodup := by
  unfold List.Nodup
  rw [List.pairwise_map]
  exact List.Pairwise.imp_of_mem (R := fun a b => a ≠ b) (fun ha hb hne e => hne (h _ _ (List.mem_range.mp ha) (List.mem_range.mp hb) e)) List.nodup_range
/-- so many differ, so few are told: one is not among them -/
theorem one_free {α : Type} [DecidableEq α] {n : Nat} {f : Nat → α} {l : List α} (h : ∀ i j, i < n → j < n → f i = f j → i = j) (hl : l.length < n) : ∃ i, i < n ∧ f i ∉ l := by
  refine Classical.byContradiction fun q => ?_
  have := nodup_few (l1 := (List.range n).map f) (l2 := l) (nodup_map_range h) fun x hx => by
    obtain ⟨i, hi, rfl⟩ := List.mem_map.mp hx
    exact Classical.byContradiction fun z => q ⟨i, List.mem_range.mp hi, z⟩
  rw [List.length_map, List.length_range] at this
  omega
/-! cuts -/
theorem cut_from {α : Type} (xs : List α) (k : Nat) : cut xs (some (k : Int)) none = xs.drop k := by
  unfold cut
  show (xs.drop (HT.sIx xs.length 0 (some (k : Int)))).take (xs.length - HT.sIx xs.length 0 (some (k : Int))) = _
  rw [HT.sIx_nat]
  rcases Nat.le_total k xs.length with h | h
  · rw [Nat.min_eq_left h, List.take_of_length_le (by simp)]
  · rw [Nat.min_eq_right h, List.drop_of_length_le h, List.drop_of_length_le (Nat.le_refl _), List.take_nil]
theorem cut_to {α : Type} (xs : List α) (k : Nat) : cut xs none (some (k : Int)) = xs.take k := by
  unfold cut
  show (xs.drop 0).take (HT.sIx xs.length xs.length (some (k : Int)) - 0) = _
  rw [HT.sIx_nat, List.drop_zero, Nat.sub_zero]
  rcases Nat.le_total k xs.length with h | h
  · rw [Nat.min_eq_left h]
  · rw [Nat.min_eq_right h, List.take_of_length_le h, List.take_of_length_le (Nat.le_refl _)]
theorem gSl_str {x : Tx} {lo hi : Option Int} (h : x.length ≤ sizeLine) : gSl (.str x) lo hi = some (.fz (.str (cut x lo hi))) := if_pos h
theorem gSl_lst {x : List PV} {lo hi : Option Int} : gSl (.lst x) lo hi = some (.l (cut x lo hi)) := (rfl)
end Fz
end
section
/-! FwP: numbers as texts; sorting texts. -/
namespace Fz
open PySem (sizeLine)
theorem char_inj {a b : Char} (h : a.toNat = b.toNat) : a = b := Char.ext (UInt32.toNat_inj.mp h)
theorem txt_inj {s t : String} (h : txt s = txt t) : s = t := by
  unfold txt at h
  have : s.toList = t.toList := by
    revert h
    generalize s.toList = xs
    generalize t.toList = ys
    intro h
    induction xs generalizing ys with
    | nil => cases ys with
      | nil => rfl
      | cons y ys => cases h
    | cons x xs ih => cases ys with
      | nil => cases h
      | cons y ys =>
        simp only [List.map_cons, List.cons.injEq, Fin.mk.injEq] at h
        rw [char_inj h.1, ih _ h.2]
  exact String.toList_inj.mp this
theorem tstr_inj {i j : Int} (h : txt (toString i) = txt (toString j)) : i = j := Int.repr_injective (txt_inj h)
theorem two_all : (List.range 40).all (fun k => decide (txt (toString ((10 : Int) + k)) = [sg (26 + (10 + k) / 10), sg (26 + (10 + k) % 10)])) = true := by decide +kernel
theorem two_fig {k : Nat} (h : k < 40) : txt (toString ((10 : Int) + k)) = [sg (26 + (10 + k) / 10), sg (26 + (10 + k) % 10)] := by
  have := List.all_eq_true.mp two_all k (List.mem_range.mpr h)
  exact of_decide_eq_true this
theorem gSortS_strs {ts : List Tx} (h : ts.length < 64) : gSortS (.lst (ts.map .str)) = some (.l ((sortT txLe ts).map .str)) := by
  show (strsOf (ts.map .str)).bind _ = _
  rw [strsOf_map]
  exact if_pos h
end Fz
end
section
/-! FwQ: comprehensions, pops, index. -/
namespace Fz
open PySem (sizeLine)
open L2 (atI ixN)
def appT (i : Nat) (p : PV) (ρ : Env) : Option Slot → Fl
  | some (.own (.l ps)) => if ps.length < sizeLine then .nx (ρ.set i (.own (.l (ps ++ [p])))) else .bad
  | _ => .bad
def appR (i : Nat) (ρ : Env) (r : Res (PV × Env)) : Option Slot → Fl
  | some (.own (.l _)) => withR r ρ fun r => appT i r.1 r.2 r.2[i]?
  | _ => .bad
@[simp] theorem m_sAppPop (i j : Nat) (f : E) (ρ : Env) : sApp i (qPopAt j f) ρ = appR i ρ (popS j ρ f ρ[j]?) ρ[i]? := (rfl)
@[simp] theorem appR_l (i : Nat) (ρ : Env) (r : Res (PV × Env)) (ps : List PV) : appR i ρ r (some (.own (.l ps))) = withR r ρ fun r => appT i r.1 r.2 r.2[i]? := (rfl)
@[simp] theorem appT_l (i : Nat) (p : PV) (ρ : Env) (ps : List PV) : appT i p ρ (some (.own (.l ps))) = if ps.length < sizeLine then .nx (ρ.set i (.own (.l (ps ++ [p])))) else .bad := (rfl)
@[simp] theorem m_gsCons (g : G) (h : Gs) (p : PV) (ps : List PV) (ρ : Env) : gsCons g h (p :: ps) ρ = (g p ρ).bind (h ps) := (rfl)
@[simp] theorem tm_list (ps : List PV) : Tm.is .list (.lst ps) = true := (rfl)
/-! comprehensions -/
@[simp] theorem tYes (ρ : Env) : tYesF ρ = .ok true := (rfl)
@[simp] theorem wipe_nil (ρ : Env) : wipeE ρ [] = ρ := (rfl)
@[simp] theorem wipe_cons (ρ : Env) (v : Nat) (vs : List Nat) : wipeE ρ (v :: vs) = (wipeE ρ vs).set v .u := (rfl)
def shd1 : Option Slot → Bool
  | some (.own _) => false
  | _ => true
@[simp] theorem shd_nil (ρ : Env) : shadowOk ρ [] = true := (rfl)
@[simp] theorem shd_cons (ρ : Env) (v : Nat) (vs : List Nat) : shadowOk ρ (v :: vs) = (shd1 ρ[v]? && shadowOk ρ vs) := (rfl)
@[simp] theorem shd1_u : shd1 (some .u) = true := (rfl)
@[simp] theorem shd1_val (p : PV) : shd1 (some (.val p)) = true := (rfl)
@[simp] theorem shd1_bor (p : PV) : shd1 (some (.bor p)) = true := (rfl)
def elR : Res PV → Option (Option PV)
  | .ok y => some (some y)
  | _ => none
@[simp] theorem elR_ok (y : PV) : elR (.ok y) = some (some y) := (rfl)
def tnR (el : E) (ρ : Env) : Res Bool → Option (Option PV)
  | .ok true => elR (el ρ)
  | .ok false => some none
  | _ => none
@[simp] theorem tnR_true (el : E) (ρ : Env) : tnR el ρ (.ok true) = elR (el ρ) := (rfl)
@[simp] theorem tnR_false (el : E) (ρ : Env) : tnR el ρ (.ok false) = some none := (rfl)
def gR (t : T) (el : E) : Option Env → Option (Option PV)
  | none => none
  | some ρ1 => tnR el ρ1 (t ρ1)
@[simp] theorem gR_some (t : T) (el : E) (ρ : Env) : gR t el (some ρ) = tnR el ρ (t ρ) := (rfl)
@[simp] theorem m_compTurn (g : G) (t : T) (el : E) (ρ : Env) (p : PV) : compTurn g t el ρ p = gR t el (g p ρ) := by
  unfold compTurn gR
  cases g p ρ with
  | none => rfl
  | some ρ1 =>
    dsimp only
    unfold tnR elR
    cases t ρ1 with
    | ok b => cases b <;> rfl
    | _ => rfl
theorem comp_map {α : Type} {g : G} {t : T} {el : E} {ρ : Env} {inj F : α → PV} : ∀ {xs : List α}, (∀ x ∈ xs, compTurn g t el ρ (inj x) = some (some (F x))) → compLoop g t el ρ (xs.map inj) = some (xs.map F)
  | [], _ => rfl
  | x :: xs, h => by
    rw [List.map_cons]
    unfold compLoop
    rw [h x List.mem_cons_self, comp_map fun y hy => h y (List.mem_cons_of_mem _ hy)]
    rfl
theorem comp_filter {α : Type} {g : G} {t : T} {el : E} {ρ : Env} {inj F : α → PV} {c : α → Bool} : ∀ {xs : List α}, (∀ x ∈ xs, compTurn g t el ρ (inj x) = some (if c x = true then some (F x) else none)) → compLoop g t el ρ (xs.map inj) = some ((xs.filter c).map F)
  | [], _ => rfl
  | x :: xs, h => by
    rw [List.map_cons]
    unfold compLoop
    rw [h x List.mem_cons_self, comp_filter fun y hy => h y (List.mem_cons_of_mem _ hy), List.filter_cons]
    cases c x <;> rfl
theorem oComp_map {α : Type} {l : L} {vs : List Nat} {g : G} {t : T} {el : E} {ρ : Env} (inj F : α → PV) (xs : List α) (h1 : shadowOk ρ vs = true) (h2 : l ρ = .ok (xs.map inj)) (h3 : ∀ x ∈ xs, compTurn g t el (wipeE ρ vs) (inj x) = some (some (F x))) (h4 : xs.length ≤ sizeLine) :
    oComp l vs g t el ρ = .ok (.l (xs.map F)) := by
  unfold oComp
  rw [if_pos h1, h2, bind_ok, comp_map h3, ofO_some, bind_ok]
  exact if_pos (by rw [List.length_map]; exact h4)
theorem oComp_filter {α : Type} {l : L} {vs : List Nat} {g : G} {t : T} {el : E} {ρ : Env} (inj F : α → PV) (c : α → Bool) (xs : List α) (h1 : shadowOk ρ vs = true) (h2 : l ρ = .ok (xs.map inj)) (h3 : ∀ x ∈ xs, compTurn g t el (wipeE ρ vs) (inj x) = some (if c x = true then some (F x) else none)) (h4 : xs.length ≤ sizeLine) :
    oComp l vs g t el ρ = .ok (.l ((xs.filter c).map F)) := by
  unfold oComp
  rw [if_pos h1, h2, bind_ok, comp_filter h3, ofO_some, bind_ok]
  exact if_pos (by rw [List.length_map]; exact Nat.le_trans (List.length_filter_le _ _) h4)
theorem bools_map {α : Type} (b : α → Bool) (xs : List α) : bools (xs.map fun x => .bl (b x)) = some (xs.map b) := by
  induction xs with
  | nil => rfl
  | cons x xs ih => show (bools (xs.map fun x => .bl (b x))).map (b x :: ·) = _; rw [ih]; rfl
theorem gAll_map {α : Type} (b : α → Bool) (xs : List α) : gAll (.lst (xs.map fun x => .bl (b x))) = some (.bl (xs.all b)) := by
  show (bools _).map _ = _
  rw [bools_map]
  simp
theorem gAny_map {α : Type} (b : α → Bool) (xs : List α) : gAny (.lst (xs.map fun x => .bl (b x))) = some (.bl (xs.any b)) := by
  show (bools _).map _ = _
  rw [bools_map]
  simp
theorem gAll_b {α : Type} {b : α → Bool} {xs : List α} {r : Bool} (h : xs.all b = r) : gAll (.lst (xs.map fun x => .bl (b x))) = some (.bl r) := by rw [gAll_map, h]
theorem gAny_b {α : Type} {b : α → Bool} {xs : List α} {r : Bool} (h : xs.any b = r) : gAny (.lst (xs.map fun x => .bl (b x))) = some (.bl r) := by rw [gAny_map, h]
/-! index -/
theorem flat_strs (ts : List Tx) : (ts.map PV.str).all isFlat = true := by simp [isFlat]
theorem gIndex_strs {t : Tx} {ts : List Tx} (h : t ∈ ts) : gIndex (.lst (ts.map .str)) (.str t) = some (.int (ts.idxOf t : Nat)) := by
  show (if isFlat (.str t) && (ts.map PV.str).all isFlat then ((ts.map PV.str).findIdx? fun z => pvEq z (.str t)).map fun j => PV.int (j : Nat) else none) = _
  rw [flat_strs, show (isFlat (.str t) && true) = true from rfl, if_pos rfl]
  have : (ts.map PV.str).findIdx? (fun z => pvEq z (.str t)) = some (ts.idxOf t) := by
    rw [List.findIdx?_map]
    show ts.findIdx? (fun x => x == t) = _
    induction ts with
    | nil => cases h
    | cons x ts ih =>
      rw [List.findIdx?_cons, List.idxOf_cons]
      by_cases e : x = t
      · subst e; simp
      · have e' : (x == t) = false := by simp [e]
        rw [e', ih (by rcases List.mem_cons.mp h with q | q; exact (e q.symm).elim; exact q)]
        simp
  rw [this]
  rfl
/-! cuts -/
theorem cut_map {α β : Type} (f : α → β) (xs : List α) (lo hi : Option Int) : cut (xs.map f) lo hi = (cut xs lo hi).map f := by
  unfold cut
  rw [List.length_map, List.map_take, List.map_drop]
theorem sIx_m1 (n d : Nat) : HT.sIx n d (some (-1)) = n - 1 := by
  show (if (-1 : Int) < 0 then ((-1 : Int) + (n : Int)).toNat else min (-1 : Int).toNat n) = _
  rw [if_pos (by decide)]
  omega
theorem cut_init {α : Type} (xs : List α) : cut xs none (some (-1)) = xs.dropLast := by
  unfold cut
  rw [sIx_m1, List.dropLast_eq_take]
  rfl
end Fz
namespace Fz
theorem erase_map {α β : Type} (f : α → β) : ∀ (xs : List α) (i : Nat), (xs.map f).eraseIdx i = (xs.eraseIdx i).map f
  | [], _ => rfl
  | _ :: _, 0 => rfl
  | x :: xs, i + 1 => by simp only [List.map_cons, List.eraseIdx_cons_succ, erase_map f xs i]
theorem erase_perm {α : Type} : ∀ {xs : List α} {i : Nat} (h : i < xs.length), (xs[i] :: xs.eraseIdx i).Perm xs
  | [], _, h => absurd h (Nat.not_lt_zero _)
  | x :: xs, 0, _ => .refl _
  | x :: xs, i + 1, h => by
    simp only [List.getElem_cons_succ, List.eraseIdx_cons_succ]
    exact (List.Perm.swap _ _ _).trans ((erase_perm (by simpa using h)).cons x)
end Fz
end
section
/-! FwR: stores into a list, a dict; empty dicts. -/
namespace Fz
open PySem PySem.Spec PyProof.Rows L2
section
variable {K : PySem.W.Frag} {A : Addr → Prop} {H : Hp}
def putA {κ β : Type} [DecidableEq κ] (kvs : List (κ × β)) (k : κ) (p : β) : List (κ × β) :=
  if (kvs.any fun q => decide (q.1 = k)) = true then kvs.map (fun q => if q.1 = k then (q.1, p) else q) else kvs ++ [(k, p)]
theorem repK_any : ∀ {kvs : List (K1 × PV)} {ks : List (Key × V)} (k : K1), RepK K A H kvs ks → (ks.any fun q => decide (q.1 = k1 k)) = kvs.any fun q => decide (q.1 = k)
  | [], ks, k, h => by rw [show ks = [] from h]; rfl
  | (j, p) :: kvs, ks, k, h => by
    obtain ⟨x, r, rfl, h1, h2⟩ := h
    rw [List.any_cons, List.any_cons, repK_any k h2]
    show (decide (k1 j = k1 k) || _) = _
    rw [key_dec]
theorem repK_map {p : PV} {v : V} (rv : Rep K A H p v) (k : K1) : ∀ {kvs : List (K1 × PV)} {ks : List (Key × V)}, RepK K A H kvs ks →
    RepK K A H (kvs.map fun q => if q.1 = k then (q.1, p) else q) (ks.map fun q => if q.1 = k1 k then (q.1, v) else q)
  | [], ks, h => by rw [show ks = [] from h]; rfl
  | (j, q) :: kvs, ks, h => by
    obtain ⟨x, r, rfl, h1, h2⟩ := h
    rw [List.map_cons, List.map_cons]
    by_cases e : j = k
    · rw [if_pos e, if_pos (show k1 j = k1 k by rw [e])]
      exact ⟨v, _, rfl, rv, repK_map rv k h2⟩
    · rw [if_neg e, if_neg (show ¬ k1 j = k1 k from fun z => e (k1_inj z))]
      exact ⟨x, _, rfl, h1, repK_map rv k h2⟩
theorem repK_snoc {p : PV} {v : V} (rv : Rep K A H p v) (k : K1) : ∀ {kvs : List (K1 × PV)} {ks : List (Key × V)}, RepK K A H kvs ks → RepK K A H (kvs ++ [(k, p)]) (ks ++ [(k1 k, v)])
  | [], ks, h => by rw [show ks = [] from h]; exact ⟨v, [], rfl, rv, rfl⟩
  | (j, q) :: kvs, ks, h => by
    obtain ⟨x, r, rfl, h1, h2⟩ := h
    exact ⟨x, _, rfl, h1, repK_snoc rv k h2⟩
theorem RepK.put {p : PV} {v : V} {kvs : List (K1 × PV)} {ks : List (Key × V)} (h : RepK K A H kvs ks) (rv : Rep K A H p v) (k : K1) : RepK K A H (putA kvs k p) (putK ks (k1 k) v) := by
  unfold putA putK
  rw [repK_any k h]
  split
  · exact repK_map rv k h
  · exact repK_snoc rv k h
theorem RepK.len : ∀ {kvs : List (K1 × PV)} {ks : List (Key × V)}, RepK K A H kvs ks → ks.length = kvs.length
  | [], ks, h => by rw [show ks = [] from h]; rfl
  | (j, q) :: kvs, ks, h => by
    obtain ⟨x, r, rfl, h1, h2⟩ := h
    simp [RepK.len h2]
end
theorem PSet.or {X : Cx} {t u : TSet} (h : PSet X t) (h' : PSet X u) : PSet X (fun o i v H Q => t o i v H Q ∨ u o i v H Q) :=
  fun pins s σ H o i v ov iv w Q I ro ri rv q => q.elim (h pins s σ H o i v ov iv w Q I ro ri rv) (h' pins s σ H o i v ov iv w Q I ro ri rv)
/-- what a store makes of a slot -/
def putS (i : Nat) (ρ : Env) (k v : PV) : Option Slot → Fl
  | some (.own (.l ps)) => (match k with
    | .int z => (match ixN ps.length z with
      | some j => .nx (ρ.set i (.own (.l (ps.set j v))))
      | none => .bad)
    | _ => .bad)
  | some (.own (.d kvs)) => (match keyOf k with
    | some k => if kvs.length < sizeLine then .nx (ρ.set i (.own (.d (putA kvs k v)))) else .bad
    | none => .bad)
  | _ => .bad
/-- x[k] = v -/
def isOwn : Option Slot → Bool
  | some (.own _) => true
  | _ => false
def sPut (i : Nat) (fi fv : E) : S := fun ρ => if isOwn ρ[i]? = true then withR (fv ρ) ρ fun v => withR (fi ρ) ρ fun k => putS i ρ k v ρ[i]? else .bad
section
variable {X : Cx} {C : Addr → Prop} {W : WX} {e e1 e2 : Expr} {pos p2 tpos : Pos} {m m1 m2 : Mode} {f f1 f2 : E}
theorem put_read {i : Nat} {ρ : Env} {σ : L2.St} {H : Hp} {fp : Fp} {D : Ends} {k v : PV} {u w o : V} (eo : EnvOk X.K C ρ σ H fp) (rk : Rep X.K (fun _ => True) H k u) (rv : Rep X.K (Am C fp) H v w) (ho : σ[i]? = some (some o))
    (q : FlQ X.K C W D H fp (putS i ρ k v ρ[i]?)) : rSetL o u w H (fun H' => D.nx σ H') ∨ rSetD o u w H (fun H' => D.nx σ H') := by
  cases hs : ρ[i]? with
  | none => rw [hs] at q; exact q.elim
  | some s =>
    rw [hs] at q
    cases s with
    | own t =>
      cases t with
      | l ps =>
        cases k with
        | int z =>
          simp only [putS] at q
          cases hj : ixN ps.length z with
          | none => rw [hj] at q; exact q.elim
          | some j =>
            rw [hj] at q
            obtain ⟨a, xs, hσ, hF, ha, rr⟩ := eo.ownL hs
            rw [ho] at hσ; cases hσ
            obtain ⟨e2, g2⟩ := eo.writeL hs ho hF ha (Reps.set j rr rv)
            exact .inl ⟨a, xs, z, j, rfl, rk, ha, by rw [rr.length]; exact hj, q _ _ _ e2 g2⟩
        | _ => exact q.elim
      | d kvs =>
        simp only [putS] at q
        cases hk : keyOf k with
        | none => rw [hk] at q; exact q.elim
        | some k' =>
          rw [hk] at q
          simp only at q
          split at q
          · rename_i hl
            obtain ⟨a, xs, hσ, hF, ha, rr⟩ := eo.ownD hs
            rw [ho] at hσ; cases hσ
            obtain ⟨e2, g2⟩ := eo.writeD hs ho hF ha (RepK.put rr rv k')
            exact .inr ⟨a, _, rfl, by rw [rep_key rk hk]; exact DPut.k ha (by rw [rr.len]; exact hl), q _ _ _ e2 g2⟩
          · exact q.elim
      | _ => exact q.elim
    | _ => exact q.elim
theorem sj_put {i : Nat} {x : Str} {px : Pos} {fi fv : E} (hu : Hu X) (hN : X.N[i]? = some x) (hv : Vis X.env.scope x) (he : EJ X C W .E e fv) (hi : EJ X C W .B e1 fi) (hd : (x == ("__debug__" : Str)) = false := by decide) (hcd : (x == ("__classdict__" : Str)) = false := by decide)
    (ha : ∀ v, assign (.Subscript (.Name x px) e1 tpos) X.env v = (do
      let ov ← holding [v] (eval (.Name x px) X.env)
      let iv ← holding [v, ov] (eval e1 X.env)
      standAt tpos
      holding [v, ov, iv] (setItem ov iv v)
      release [v, ov, iv] []) := by intro _; rfl)
    (hs : swapsWithSole [.Subscript (.Name x px) e1 tpos] e pos.line X.env = pure false := by rfl) (hw : swappedStores [.Subscript (.Name x px) e1 tpos] e X.env = pure none := by rfl) (h1 : (assignEach [.Subscript (.Name x px) e1 tpos] X.env).map (·.2) = [assign (.Subscript (.Name x px) e1 tpos) X.env] := by rfl) :
    SJ X C W (.Assign [.Subscript (.Name x px) e1 tpos] e pos) (sPut i fi fv) :=
  ps_weak (ps_asg he (pg_sub (pe_var hN hv hd hcd) hi (PSet.or set_list (set_dict hu.u1)) ha) hs hw h1) fun D σ H ⟨ρ, fp, eo, h⟩ => by
    unfold sPut at h
    split at h
    · rename_i hown
      refine ⟨ρ, fp, eo, (FlQ.ofR eo h).mono (fun v q w H1 s1 r1 => ?_) fun _ _ q => q⟩
      have eo1 := eo.same s1
      have hx : ∃ o, σ[i]? = some (some o) := by
        cases hs : ρ[i]? with
        | none => rw [hs] at hown; cases hown
        | some s =>
          rw [hs] at hown
          cases s with
          | own t => obtain ⟨o, ho, _⟩ := eo.slot i _ hs; exact ⟨o, ho⟩
          | _ => cases hown
      obtain ⟨o, ho⟩ := hx
      refine ⟨o, ho, ρ, fp, eo1, (FlQ.ofR eo1 (FlQ.later (Grow.same s1) q)).mono (fun k q2 u H2 s2 r2 => ?_) fun _ _ q => q⟩
      have eo2 := eo1.same s2
      exact put_read eo2 r2 (RepM.same (m := .E) s2 r1) ho (FlQ.later (Grow.same s2) q2)
    · exact h.elim
end
end Fz
end
section
/-! FwS: {}, startswith, join. -/
namespace Fz
open PySem PySem.Spec PyProof.Rows L2
section
variable {X : Cx} {C : Addr → Prop} {W : WX} {e e1 e2 : Expr} {pos p2 tpos : Pos} {m m1 m2 : Mode} {f f1 f2 : E}
def oDic0 : O := fun _ => .ok (.d [])
theorem oj_dic0 : OJ X C W (.Dict [] [] pos) oDic0 := pe_weak pe_dnewK fun σ H Q ⟨ρ, fp, eo, o⟩ p hp => by
  refine o (.ref p) (upd H p (.dK [])) [p] (fun a o q => ?_) (by simp) (fun a ha => by rw [List.mem_singleton.mp ha]; exact hp) ⟨p, [], rfl, rfl, upd_same, rfl⟩
  rw [upd_ne (fun z => by rw [z, hp] at q; cases q)]
  exact q
end
/-! startswith -/
def gStarts : PV → PV → Option PV
  | .str x, .str y => some (.bl (x.take y.length == y))
  | _, _ => none
theorem starts_eq (x y : Tx) : Txt.startswith (mkS x) (mkS y) = (x.take y.length == y) := by
  have e1 : (mkS y).length = y.length := by simp [mkS, Str.length]
  have e2 : (mkS x).length = x.length := by simp [mkS, Str.length]
  unfold Txt.startswith Builtin.Str.subAt
  rw [e1, e2]
  have e3 : ((mkS x).cps.extract 0 (0 + y.length) == (mkS y).cps) = (x.take y.length == y) := by
    rw [Bool.eq_iff_iff, beq_iff_eq, beq_iff_eq]
    constructor
    · intro h
      have := congrArg Array.toList h
      rw [Array.toList_extract, mkS_cps, mkS_cps] at this
      simp only [List.extract_eq_take_drop, List.drop_zero, Nat.zero_add, Nat.sub_zero, ← List.map_take] at this
      exact val_inj this
    · intro h
      apply Array.toList_inj.mp
      rw [Array.toList_extract, mkS_cps, mkS_cps]
      simp only [List.extract_eq_take_drop, List.drop_zero, Nat.zero_add, Nat.sub_zero, ← List.map_take]
      rw [h]
  rw [e3]
  cases h : x.take y.length == y with
  | false => rw [Bool.and_false]
  | true =>
    have := congrArg List.length (beq_iff_eq.mp h)
    rw [List.length_take] at this
    rw [Bool.and_true, decide_eq_true_eq]
    omega
theorem m_starts {X : Cx} : Mt1A X.K (fun x xs H Q => ∃ a b, x = .str a ∧ xs = [.str b] ∧ Q (.bl (Txt.startswith a b)) H) gStarts := fun H p q z v u Q hg r1 r2 k => by
  cases p <;> simp only [gStarts, reduceCtorEq] at hg <;> cases q <;> simp only [reduceCtorEq] at hg
  rename_i x y
  cases hg
  refine ⟨mkS x, mkS y, r1, by rw [show u = .str (mkS y) from r2], ?_⟩
  rw [starts_eq]
  exact k _ (fun A H => rfl)
/-! join -/
def joinT (sep : Tx) : List Tx → Tx
  | [] => []
  | x :: xs => x ++ (xs.map fun y => sep ++ y).flatten
theorem glued_from (sep : Tx) : ∀ (xs : List Tx) (acc : Array Nat), ((xs.map mkS).foldl (fun acc p => acc ++ (mkS sep).cps ++ p.cps) acc).toList = acc.toList ++ ((xs.map fun y => sep ++ y).flatten).map Fin.val
  | [], acc => by simp
  | x :: xs, acc => by
    rw [List.map_cons, List.foldl_cons, glued_from sep xs]
    simp [mkS, List.append_assoc]
theorem join_eq (sep : Tx) (xs : List Tx) : Txt.join (mkS sep) (xs.map mkS) = mkS (joinT sep xs) := by
  have key : (Txt.join (mkS sep) (xs.map mkS)).cps.toList = (joinT sep xs).map Fin.val := by
    cases xs with
    | nil => rfl
    | cons x xs =>
      show ((xs.map mkS).foldl (fun acc p => acc ++ (mkS sep).cps ++ p.cps) (mkS x).cps).toList = _
      rw [glued_from]
      simp [joinT, mkS]
  have : (Txt.join (mkS sep) (xs.map mkS)).cps = (mkS (joinT sep xs)).cps := Array.toList_inj.mp (by rw [key, mkS_cps])
  revert this
  generalize Txt.join (mkS sep) (xs.map mkS) = s
  cases s
  intro h
  simp only at h
  rw [h]
def gJoin : PV → PV → Option PV
  | .str sep, .lst ps => (strsOf ps).bind fun xs => if (xs.map (·.length)).sum + xs.length * sep.length ≤ 16777216 then some (.str (joinT sep xs)) else none
  | _, _ => none
theorem m_join {X : Cx} : Mt1A X.K (fun x xs H Q => ∃ a p, ∃ ys : List Str, x = .str a ∧ xs = [.ref p] ∧ (SqL X.K H p (ys.map V.str) ∨ SqT X.K H p (ys.map V.str)) ∧
    (ys.map (·.length)).sum + ys.length * a.length ≤ 16777216 ∧ Q (.str (Txt.join a ys)) H) gJoin := fun H p q z v u Q hg r1 r2 k => by
  cases p <;> simp only [gJoin, reduceCtorEq] at hg <;> cases q <;> simp only [reduceCtorEq] at hg
  rename_i sep ps
  cases e : strsOf ps with
  | none => rw [e] at hg; cases hg
  | some xs =>
    rw [e] at hg
    simp only [Option.bind_some] at hg
    split at hg
    · rename_i hl
      cases hg
      obtain ⟨a, vs, rfl, _, ha, rr⟩ := r2
      rw [strsOf_eq e] at rr
      have ev := rr.strs
      refine ⟨mkS sep, a, xs.map mkS, r1, rfl, .inl (by rw [List.map_map]; rw [ev] at ha; exact SqL.of ha), ?_, ?_⟩
      · rw [List.map_map, List.length_map, mkS_length]
        rw [show ((fun x : Str => x.length) ∘ mkS) = fun x : Tx => x.length from funext fun x => mkS_length x]
        exact hl
      · rw [join_eq]
        exact k _ (fun A H => rfl)
    · cases hg
end Fz
end
section
/-! FwT: x += e of ints; two stores at once. -/
namespace Fz
open PySem PySem.Spec PyProof.Rows L2
def slotInt : Option Slot → Option Int
  | some (.val (.int a)) => some a
  | some (.bor (.int a)) => some a
  | _ => none
def augI (i : Nat) (ρ : Env) (g : Int → Int → Int) (a : Int) : PV → Fl
  | .int b => .nx (ρ.set i (.val (.int (g a b))))
  | _ => .bad
def augS (i : Nat) (ρ : Env) (g : Int → Int → Int) (f : E) : Option Int → Fl
  | some a => withR (f ρ) ρ fun y => augI i ρ g a y
  | none => .bad
def sAug (i : Nat) (g : Int → Int → Int) (f : E) : S := fun ρ => augS i ρ g f (slotInt ρ[i]?)
section
variable {X : Cx} {C : Addr → Prop} {W : WX} {e e1 e2 : Expr} {pos p2 tpos : Pos} {m m1 m2 : Mode} {f f1 f2 : E}
theorem sj_aug {i : Nat} {x : Str} {op : Operator} {pos' : Pos} {g : Int → Int → Int} (hN : X.N.Nodup) (hi : X.N[i]? = some x) (hx : Loc X.env.scope x) (ho : PIp X op (ipI g)) (he : EJ X C W .B e f)
    (hf : X.fn x = true ∨ X.env.scope.names.lookup x = some .local := by first | exact .inl rfl | exact .inr rfl | assumption) : SJ X C W (.AugAssign (.Name x pos') op e pos) (sAug i g f) :=
  ps_weak (ps_aug hN hi hx he ho hf) fun D σ H ⟨ρ, fp, eo, h⟩ => by
    unfold sAug at h
    cases hs : slotInt ρ[i]? with
    | none => rw [hs] at h; exact h.elim
    | some a =>
      rw [hs] at h
      have hv : σ[i]? = some (some (.int a)) ∧ i < ρ.length := by
        cases hq : ρ[i]? with
        | none => rw [hq] at hs; cases hs
        | some s =>
          have hl := (List.getElem?_eq_some_iff.mp hq).1
          rw [hq] at hs
          cases s with
          | val p =>
            cases p <;> simp only [slotInt, reduceCtorEq, Option.some.injEq] at hs
            obtain ⟨_, v, hv, r⟩ := eo.slot i _ hq
            rw [show v = .int _ from r, hs] at hv
            exact ⟨hv, hl⟩
          | bor p =>
            cases p <;> simp only [slotInt, reduceCtorEq, Option.some.injEq] at hs
            obtain ⟨_, v, hv, r⟩ := eo.slot i _ hq
            rw [show v = .int _ from r, hs] at hv
            exact ⟨hv, hl⟩
          | _ => simp only [slotInt, reduceCtorEq] at hs
      refine ⟨.int a, hv.1, ρ, fp, eo, (FlQ.ofR eo h).mono (fun y q w H1 s1 r1 => ?_) fun _ _ q => q⟩
      cases y <;> simp only [augI] at q
      case int b =>
        obtain ⟨e1, g1⟩ := (eo.same s1).setVal (p := .int (g a b)) (v := .int (g a b)) hv.2 rfl
        exact ⟨a, b, rfl, by rw [show w = .int b from r1], q _ _ _ e1 ((Grow.same s1).trans g1)⟩
      all_goals exact q.elim
/-- x[k], y[l] = a, b -/
def put2 (i1 i2 : Nat) (f1 f2 : E) (ρ : Env) : PV → Fl
  | .tup [v1, v2] => withR (f1 ρ) ρ fun k => (putS i1 ρ k v1 ρ[i1]?).andThen fun ρ2 => if isOwn ρ2[i2]? = true then withR (f2 ρ2) ρ2 fun k2 => putS i2 ρ2 k2 v2 ρ2[i2]? else .bad
  | _ => .bad
def sPut2 (i1 i2 : Nat) (f1 f2 fv : E) : S := fun ρ => if isOwn ρ[i1]? = true then withR (fv ρ) ρ (put2 i1 i2 f1 f2 ρ) else .bad
theorem own_val {K : PySem.W.Frag} {i : Nat} {ρ : Env} {σ : L2.St} {H : Hp} {fp : Fp} (eo : EnvOk K C ρ σ H fp) (hown : isOwn ρ[i]? = true) : ∃ o, σ[i]? = some (some o) := by
  cases hs : ρ[i]? with
  | none => rw [hs] at hown; cases hown
  | some s =>
    rw [hs] at hown
    cases s with
    | own t => obtain ⟨o, ho, _⟩ := eo.slot i _ hs; exact ⟨o, ho⟩
    | _ => cases hown
theorem FlQ.seq2 {K : PySem.W.Frag} {D : Ends} {H : Hp} {fp : Fp} {fl : Fl} {t : S} (h : FlQ K C W D H fp (fl.andThen t)) : FlQ K C W { D with nx := fun σ' H' => ∃ ρ2 fp2, EnvOk K C ρ2 σ' H' fp2 ∧ Grow H fp H' fp2 ∧ FlQ K C W D H' fp2 (t ρ2) } H fp fl := by
  cases fl with
  | nx ρ' => exact fun σ' H' fp' e' g => ⟨ρ', fp', e', g, FlQ.later g h⟩
  | rt o => exact h
  | bk o => exact h
  | ct o => exact h
  | ex c fs o => exact h
  | bad => exact h
theorem sj_put2 {i1 i2 : Nat} {x y : Str} {px py tp1 tp2 : Pos} {kk : Nat} {fv : E} (hc : X.calm = true) (hu : Hu X) (hN : X.N[i1]? = some x) (hv : Vis X.env.scope x) (hN2 : X.N[i2]? = some y) (hv2 : Vis X.env.scope y) (he : EJ X C W .E e fv) (h1 : EJ X C W .B e1 f1) (h2 : EJ X C W .B e2 f2)
    (hd : (x == ("__debug__" : Str)) = false := by decide) (hcd : (x == ("__classdict__" : Str)) = false := by decide) (hd2 : (y == ("__debug__" : Str)) = false := by decide) (hcd2 : (y == ("__classdict__" : Str)) = false := by decide)
    (ha : ∀ v, assign (.Subscript (.Name x px) e1 tp1) X.env v = (do
      let ov ← holding [v] (eval (.Name x px) X.env)
      let iv ← holding [v, ov] (eval e1 X.env)
      standAt tp1
      holding [v, ov, iv] (setItem ov iv v)
      release [v, ov, iv] []) := by intro _; rfl)
    (ha2 : ∀ v, assign (.Subscript (.Name y py) e2 tp2) X.env v = (do
      let ov ← holding [v] (eval (.Name y py) X.env)
      let iv ← holding [v, ov] (eval e2 X.env)
      standAt tp2
      holding [v, ov, iv] (setItem ov iv v)
      release [v, ov, iv] []) := by intro _; rfl)
    (hn : (assignEach [.Subscript (.Name x px) e1 tp1, .Subscript (.Name y py) e2 tp2] X.env).length = 2 := by rfl) (hst : (assignEach [.Subscript (.Name x px) e1 tp1, .Subscript (.Name y py) e2 tp2] X.env).findIdx? (·.1) = none := by rfl)
    (hq1 : (assignEach [.Subscript (.Name x px) e1 tp1, .Subscript (.Name y py) e2 tp2] X.env).map (·.2) = assign (.Subscript (.Name x px) e1 tp1) X.env :: (assignEach [.Subscript (.Name y py) e2 tp2] X.env).map (·.2) := by rfl)
    (hq2 : (assignEach [.Subscript (.Name y py) e2 tp2] X.env).map (·.2) = assign (.Subscript (.Name y py) e2 tp2) X.env :: (assignEach [] X.env).map (·.2) := by rfl)
    (hs : swapsWithSole [.Tuple [.Subscript (.Name x px) e1 tp1, .Subscript (.Name y py) e2 tp2] kk tpos] e pos.line X.env = pure false := by rfl) (hw : swappedStores [.Tuple [.Subscript (.Name x px) e1 tp1, .Subscript (.Name y py) e2 tp2] kk tpos] e X.env = pure none := by rfl)
    (hq : (assignEach [.Tuple [.Subscript (.Name x px) e1 tp1, .Subscript (.Name y py) e2 tp2] kk tpos] X.env).map (·.2) = [assign (.Tuple [.Subscript (.Name x px) e1 tp1, .Subscript (.Name y py) e2 tp2] kk tpos) X.env] := by rfl) :
    SJ X C W (.Assign [.Tuple [.Subscript (.Name x px) e1 tp1, .Subscript (.Name y py) e2 tp2] kk tpos] e pos) (sPut2 i1 i2 f1 f2 fv) :=
  ps_weak (ps_asg he (pg_tup hc (pgs_cons (pg_sub (pe_var hN hv hd hcd) h1 (PSet.or set_list (set_dict hu.u1)) ha) (pgs_cons (pg_sub (pe_var hN2 hv2 hd2 hcd2) h2 (PSet.or set_list (set_dict hu.u1)) ha2) pgs_nil hq2) hq1) hn hst) hs hw hq) fun D σ H ⟨ρ, fp, eo, h⟩ => by
    unfold sPut2 at h
    split at h
    · rename_i hown
      refine ⟨ρ, fp, eo, (FlQ.ofR eo h).mono (fun v q w H1 s1 r1 => ?_) fun _ _ q => q⟩
      have eo1 := eo.same s1
      match v, q, r1 with
      | .tup [v1, v2], q, r1 =>
        obtain ⟨a, xs, rfl, ha', rr⟩ := r1
        obtain ⟨w1, _, rfl, rv1, w2, _, rfl, rv2, rfl⟩ := rr
        refine ⟨a, [w1, w2], rfl, SqT.of ha', rfl, w1, [w2], rfl, ?_⟩
        obtain ⟨o, ho⟩ := own_val eo hown
        refine ⟨o, ho, ρ, fp, eo1, (FlQ.ofR eo1 (FlQ.later (Grow.same s1) q)).mono (fun k q2 u H2 s2 r2 => ?_) fun _ _ q => q⟩
        have eo2 := eo1.same s2
        have q3 := FlQ.seq2 (FlQ.later (Grow.same s2) q2)
        have fin : ∀ H', (∃ ρ2 fp2, EnvOk X.K C ρ2 σ H' fp2 ∧ Grow H2 fp H' fp2 ∧ FlQ X.K C W D H' fp2 ((fun ρ2 => if isOwn ρ2[i2]? = true then withR (f2 ρ2) ρ2 fun k2 => putS i2 ρ2 k2 v2 ρ2[i2]? else .bad) ρ2)) →
            gCons (L2.gSub (tVar i2) (tE X.K C W .B f2) (fun o i v H Q => rSetL o i v H Q ∨ rSetD o i v H Q)) gNil [w2] σ H' D.nx := by
          rintro H' ⟨ρ2, fp2, eo3, g3, q5⟩
          dsimp only at q5
          split at q5
          · rename_i hown2
            obtain ⟨o2, ho2⟩ := own_val eo3 hown2
            refine ⟨w2, [], rfl, o2, ho2, ρ2, fp2, eo3, (FlQ.ofR eo3 q5).mono (fun k2 q6 u2 H3 s3 r3 => ?_) fun _ _ q => q⟩
            have rv2' : Rep X.K (Am C fp2) H' v2 w2 := Rep.carry g3.carry (RepM.same (m := .E) s2 rv2)
            have := put_read (eo3.same s3) r3 (RepM.same (m := .E) s3 rv2') ho2 (FlQ.later (Grow.same s3) q6)
            refine this.imp ?_ ?_
            · rintro ⟨a, xs, k', j, h1, h2, h3, h4, h6⟩
              exact ⟨a, xs, k', j, h1, h2, h3, h4, rfl, h6⟩
            · rintro ⟨a, H4, h1, h2, h6⟩
              exact ⟨a, H4, h1, h2, rfl, h6⟩
          · exact q5.elim
        refine (put_read eo2 r2 (RepM.same (m := .E) s2 rv1) ho q3).imp ?_ ?_
        · rintro ⟨a, xs, k', j, h1, h2, h3, h4, h6⟩
          exact ⟨a, xs, k', j, h1, h2, h3, h4, fin _ h6⟩
        · rintro ⟨a, H4, h1, h2, h6⟩
          exact ⟨a, H4, h1, h2, fin _ h6⟩
      | .non, q, _ => exact q.elim
      | .bl _, q, _ => exact q.elim
      | .int _, q, _ => exact q.elim
      | .str _, q, _ => exact q.elim
      | .lst _, q, _ => exact q.elim
      | .rol _, q, _ => exact q.elim
      | .dic _, q, _ => exact q.elim
      | .dit _, q, _ => exact q.elim
      | .ins _ _, q, _ => exact q.elim
      | .tup [], q, _ => exact q.elim
      | .tup [_], q, _ => exact q.elim
      | .tup (_ :: _ :: _ :: _), q, _ => exact q.elim
    · exact h.elim
end
end Fz
end
section
/-! FwU: iteration over a text, too. -/
namespace Fz
open PySem PySem.Spec PyProof.Rows L2
def signsOf (x : Tx) : List PV := x.map fun c => .str [c]
def itemsA : PV → Res (List PV)
  | .str x => .ok (signsOf x)
  | p => itemsOf p
def lOfA (f : E) : L := fun ρ => f ρ >>= itemsA
theorem iter_str {K : PySem.W.Frag} {A : Addr → Prop} {H0 : Hp} {rel : Hp → Prop} (x : Tx) : IterOk K A H0 rel (Its (mkS x)) (signsOf x) := fun H B hr hcar i => by
  have hs : (mkS x).cps.size = x.length := by simp [mkS]
  refine ⟨fun p hp => ?_, fun hi => ?_⟩
  · unfold signsOf at hp
    rw [List.getElem?_map] at hp
    obtain ⟨c, hc, rfl⟩ := Option.map_eq_some_iff.mp hp
    have hl := (List.getElem?_eq_some_iff.mp hc).1
    refine ⟨by show i < (mkS x).cps.size; rw [hs]; exact hl, fun y H' h => ?_⟩
    obtain ⟨rfl, d, hd, rfl⟩ := h
    refine ⟨Same.refl _, ?_⟩
    have : d = c.val := by
      have e : (mkS x).cps[i]? = some c.val := by simp [mkS, hc]
      rw [e] at hd
      exact (Option.some.inj hd).symm
    rw [this]
    rfl
  · show (mkS x).cps.size ≤ i
    rw [hs]
    simpa [signsOf] using hi
section
variable {X : Cx} {C : Addr → Prop} {W : WX} {e e1 e2 e3 tg iter : Expr} {pos p2 pn tpos : Pos} {m m1 m2 m3 : Mode} {f f1 f2 f3 : E}
theorem seqA_read {σ : L2.St} {H : Hp} {R : It → Hp → Prop} {rel : Hp → Fp → Hp → Prop} (hst : ∀ (fp : Fp) H' p v ps, RepM X.K C fp m H' p v → itemsOf p = .ok ps → Stands X.K (Am C fp) H' (rel H' fp) p v ps) (hrf : ∀ H fp, rel H fp H)
    (h : tI X.K C W rel (lOfA f) σ H R) : (iList X.K (tE X.K C W m f) σ H R ∨ iTup X.K (tE X.K C W m f) σ H R) ∨ iStr (tE X.K C W m f) σ H R := by
  obtain ⟨ρ, fp, eo, o⟩ := h
  by_cases ht : ∃ x, f ρ = .ok (.str x)
  · obtain ⟨x, e0⟩ := ht
    right
    refine ⟨ρ, fp, eo, (Out.bind o).and.mono (fun p ⟨e1, o1⟩ v H1 s1 r1 => ?_) fun _ _ q => q⟩
    rw [e0] at e1; cases e1
    have rv : v = .str (mkS x) := RepM.toB r1
    exact ⟨mkS x, rv, (show Out (Res.ok (signsOf x)) _ _ from o1) _ H1 s1 (iter_str x)⟩
  · left
    refine seq_read hst hrf ⟨ρ, fp, eo, ?_⟩
    have e : lOf f ρ = lOfA f ρ := by
      unfold lOf lOfA
      cases z : f ρ with
      | ok p => cases p <;> first | rfl | exact (ht ⟨_, z⟩).elim
      | exc c fs => rfl
      | bad => rfl
    rw [e]
    exact o
theorem ij_seqA (h : EJ X C W .E iter f) : IJ X C W relG tg iter (lOfA f) :=
  pi_weak (pi_or (pi_or (pi_list h) (pi_tup h)) (pi_str h)) fun σ H R q => seqA_read (m := .E) (fun fp H' p v ps r hp => seq_stands r hp) (fun _ _ => relG.refl) q
theorem ij_seqSA (h : EJ X C W .I iter f) : IJ X C W relS tg iter (lOfA f) :=
  pi_weak (pi_or (pi_or (pi_list h) (pi_tup h)) (pi_str h)) fun σ H R q => seqA_read (m := .I) (fun fp H' p v ps r hp => seq_standsS r hp) (fun H fp => Same.refl H) q
end
@[simp] theorem m_lOfA (f : E) (ρ : Env) : lOfA f ρ = f ρ >>= itemsA := (rfl)
@[simp] theorem itA_lst (ps : List PV) : itemsA (.lst ps) = .ok ps := (rfl)
@[simp] theorem itA_rol (ps : List PV) : itemsA (.rol ps) = .ok ps := (rfl)
@[simp] theorem itA_tup (ps : List PV) : itemsA (.tup ps) = .ok ps := (rfl)
@[simp] theorem itA_str (x : Tx) : itemsA (.str x) = .ok (signsOf x) := (rfl)
end Fz
end
section
/-! FwV: str of None, of a text. -/
namespace Fz
open PySem PySem.Spec PyProof.Rows L2
def rStrA : List V → Hp → VK → Prop := fun xs H Q => (∃ i, xs = [.int i] ∧ i.natAbs.log2 < 1920 ∧ Q (.str (toString i)) H) ∨ (xs = [.non] ∧ Q (.str "None") H) ∨ ∃ a, xs = [.str a] ∧ Q (.str a) H
theorem call_strA {X : Cx} : CallR X (.type "str") rStrA := by
  rintro pins s σ H xs us Q I r (h | ⟨rfl, q⟩ | h)
  · exact call_str_int pins s σ H xs us Q I r h
  · obtain ⟨u, rfl, r1⟩ := vals1 r
    cases r1
    exact PySem.P.str_of_none ⟨.str "None", H, I.tok _, ⟨_, rfl⟩, q⟩
  · exact SkE.call_str_str pins s σ H xs us Q I r h
def gStrA : PV → Option PV
  | .int i => gStr (.int i)
  | .non => some (.str (txt "None"))
  | .str x => some (.str x)
  | _ => none
theorem c_strA {X : Cx} : Call1A X.K rStrA gStrA := fun H p z v Q hg r k => by
  cases p <;> simp only [gStrA, reduceCtorEq] at hg
  · cases hg
    exact .inr (.inl ⟨by rw [show v = .non from r], k _ (by rw [← mkS_txt]; exact atom_str _)⟩)
  · exact .inl (c_str (X := X) H _ z v Q hg r k)
  · cases hg
    exact .inr (.inr ⟨_, by rw [show v = .str _ from r], k _ (atom_str _)⟩)
@[simp] theorem tm_str (x : Tx) : Tm.is .str (.str x) = true := (rfl)
@[simp] theorem gStrA_int (i : Int) : gStrA (.int i) = gStr (.int i) := (rfl)
@[simp] theorem gStrA_non : gStrA .non = some (.str (txt "None")) := (rfl)
@[simp] theorem gStrA_str (x : Tx) : gStrA (.str x) = some (.str x) := (rfl)
/-! stores -/
@[simp] theorem m_sPut (i : Nat) (fi fv : E) (ρ : Env) : sPut i fi fv ρ = if isOwn ρ[i]? = true then withR (fv ρ) ρ fun v => withR (fi ρ) ρ fun k => putS i ρ k v ρ[i]? else .bad := (rfl)
@[simp] theorem isOwn_own (t : OT) : isOwn (some (.own t)) = true := (rfl)
theorem put_l (i : Nat) (ρ : Env) (z : Int) (v : PV) (ps : List PV) (h0 : 0 ≤ z) (h1 : z < ps.length) : putS i ρ (.int z) v (some (.own (.l ps))) = .nx (ρ.set i (.own (.l (ps.set z.toNat v)))) := by
  unfold putS
  simp only [ixN_nn z h0 h1]
@[simp] theorem put_d (i : Nat) (ρ : Env) (x : Tx) (v : PV) (kvs : List (K1 × PV)) : putS i ρ (.str x) v (some (.own (.d kvs))) = if kvs.length < sizeLine then .nx (ρ.set i (.own (.d (putA kvs (.inr x) v)))) else .bad := (rfl)
@[simp] theorem m_oDic0 (ρ : Env) : oDic0 ρ = .ok (.d []) := (rfl)
@[simp] theorem ts_d (p : List (K1 × PV)) : toSlot (.d p) = .own (.d p) := (rfl)
@[simp] theorem pv_d (p : List (K1 × PV)) : (OT.d p).pv = .dic p := (rfl)
/-! kinds -/
section
variable (t : Ty) (b : Bool) (i : Int) (x : Tx) (ps : List PV) (kvs : List (K1 × PV))
@[simp] theorem isT_b : isT t (.bl b) = some (.bl (match t with | .bool => true | .int => true | _ => false)) := (rfl)
@[simp] theorem isT_i : isT t (.int i) = some (.bl (match t with | .int => true | _ => false)) := (rfl)
@[simp] theorem isT_s : isT t (.str x) = some (.bl (match t with | .str => true | _ => false)) := (rfl)
@[simp] theorem isT_t : isT t (.tup ps) = some (.bl (match t with | .tuple => true | _ => false)) := (rfl)
@[simp] theorem isT_l : isT t (.lst ps) = some (.bl (match t with | .list => true | _ => false)) := (rfl)
@[simp] theorem isT_d : isT t (.dic kvs) = some (.bl (match t with | .dict => true | _ => false)) := (rfl)
end
/-! targets -/
def asgT : Option Env → Fl
  | some ρ' => .nx ρ'
  | none => .bad
@[simp] theorem asgT_some (ρ : Env) : asgT (some ρ) = .nx ρ := (rfl)
@[simp] theorem m_sAsgT (g : G) (f : E) (ρ : Env) : sAsgT g f ρ = withR (f ρ) ρ fun p => asgT (g p ρ) := by
  unfold sAsgT
  first
    | rfl
    | (congr 1
       done)
    | (congr 1
       funext p
       cases g p ρ <;> rfl)
@[simp] theorem m_sPut2 (i1 i2 : Nat) (f1 f2 fv : E) (ρ : Env) : sPut2 i1 i2 f1 f2 fv ρ = if isOwn ρ[i1]? = true then withR (fv ρ) ρ (put2 i1 i2 f1 f2 ρ) else .bad := (rfl)
@[simp] theorem m_put2 (i1 i2 : Nat) (f1 f2 : E) (ρ : Env) (v1 v2 : PV) : put2 i1 i2 f1 f2 ρ (.tup [v1, v2]) = withR (f1 ρ) ρ fun k => (putS i1 ρ k v1 ρ[i1]?).andThen fun ρ2 => if isOwn ρ2[i2]? = true then withR (f2 ρ2) ρ2 fun k2 => putS i2 ρ2 k2 v2 ρ2[i2]? else .bad := (rfl)
@[simp] theorem m_sAug (i : Nat) (g : Int → Int → Int) (f : E) (ρ : Env) : sAug i g f ρ = augS i ρ g f (slotInt ρ[i]?) := (rfl)
@[simp] theorem slotInt_val (a : Int) : slotInt (some (.val (.int a))) = some a := (rfl)
@[simp] theorem slotInt_bor (a : Int) : slotInt (some (.bor (.int a))) = some a := (rfl)
@[simp] theorem m_augS (i : Nat) (ρ : Env) (g : Int → Int → Int) (f : E) (a : Int) : augS i ρ g f (some a) = withR (f ρ) ρ fun y => augI i ρ g a y := (rfl)
@[simp] theorem m_augI (i : Nat) (ρ : Env) (g : Int → Int → Int) (a b : Int) : augI i ρ g a (.int b) = .nx (ρ.set i (.val (.int (g a b)))) := (rfl)
/-! a loop, item by item -/
theorem sat_nil {g : G} {body : S} {ρ : Env} {P : Po} : sat (loop g body [] ρ) P = P.nx ρ := by
  unfold loop
  rw [sat_nx]
theorem sat_cons {g : G} {body : S} {p : PV} {ps : List PV} {ρ : Env} {P : Po} : sat (loop g body (p :: ps) ρ) P = sat (stp g body p ρ) { P with nx := fun ρ' => sat (loop g body ps ρ') P, ct := fun ρ' => sat (loop g body ps ρ') P, bk := P.nx } := by
  rw [loop]
  unfold stp sat
  cases g p ρ with
  | none => rfl
  | some ρ1 =>
    dsimp only
    cases body ρ1 <;> rfl
theorem stp_of {g : G} {body : S} {p : PV} {ρ ρ1 : Env} (h : g p ρ = some ρ1) : stp g body p ρ = body ρ1 := by
  unfold stp
  rw [h]
end Fz
end
section
/-! FwW: paths into what is one's own. -/
namespace Fz
open PySem PySem.Spec PyProof.Rows L2
/-- without what says where it stands -/
def OT.core : OT → OT
  | .P _ t => t.core
  | t => t
def OT.reP : OT → OT → OT
  | .P a t, n => .P a (t.reP n)
  | _, n => n
theorem core_core : ∀ t : OT, t.core.core = t.core
  | .P a t => by rw [OT.core, core_core t]
  | .fz _ | .l _ | .d _ | .dt _ | .ins _ _ | .T _ | .L _ | .D _ | .I _ _ | .M _ _ => rfl
def OT.kids0 : OT → List OT
  | .T ts => ts
  | .L ts => ts
  | .D kvs => kvs.map Prod.snd
  | .I _ fs => fs.map Prod.snd
  | _ => []
def setSnd {α β : Type} (xs : List (α × β)) (i : Nat) (b : β) : List (α × β) := match xs[i]? with
  | some q => xs.set i (q.1, b)
  | none => xs
def OT.kids (t : OT) : List OT := t.core.kids0
theorem kids_core (t : OT) : t.core.kids = t.kids := by unfold OT.kids; rw [core_core]
def OT.setKid0 : OT → Nat → OT → OT
  | .T ts, i, n => .T (ts.set i n)
  | .L ts, i, n => .L (ts.set i n)
  | .D kvs, i, n => .D (setSnd kvs i n)
  | .I c fs, i, n => .I c (setSnd fs i n)
  | t, _, _ => t
def OT.setKid (t : OT) (i : Nat) (n : OT) : OT := t.reP (t.core.setKid0 i n)
def OT.at (t : OT) : List Nat → Option OT
  | [] => some t.core
  | i :: π => match t.kids[i]? with
    | some k => k.at π
    | none => none
def OT.put (t : OT) (π : List Nat) (n : OT) : OT := match π with
  | [] => t.reP n
  | i :: π => match t.kids[i]? with
    | some k => t.setKid i (k.put π n)
    | none => t
/-- what stands at a place of an object -/
def kidV (H : Hp) (a : Addr) (i : Nat) (x : V) : Prop :=
  (∃ xs, (H a = some (.lst xs) ∨ H a = some (.tup xs)) ∧ xs[i]? = some x) ∨ (∃ ks k, H a = some (.dK ks) ∧ ks[i]? = some (k, x)) ∨ ∃ c dx fs f, H a = some (.ins c dx fs) ∧ fs[i]? = some (f, x)
def subV (H : Hp) : V → List Nat → V → Prop
  | v, [], u => u = v
  | v, i :: π, u => ∃ a x, v = .ref a ∧ kidV H a i x ∧ subV H x π u
theorem kidV.det {H : Hp} {a : Addr} {i : Nat} {x y : V} (h : kidV H a i x) (h' : kidV H a i y) : x = y := by
  rcases h with ⟨xs, h1, h2⟩ | ⟨ks, k, h1, h2⟩ | ⟨c, dx, fs, f, h1, h2⟩ <;> rcases h' with ⟨ys, g1, g2⟩ | ⟨ls, l, g1, g2⟩ | ⟨c', dx', gs, g, g1, g2⟩
  · rcases h1 with h1 | h1 <;> rcases g1 with g1 | g1 <;> rw [h1] at g1 <;> cases g1 <;> rw [h2] at g2 <;> exact Option.some.inj g2
  · rcases h1 with h1 | h1 <;> rw [h1] at g1 <;> cases g1
  · rcases h1 with h1 | h1 <;> rw [h1] at g1 <;> cases g1
  · rcases g1 with g1 | g1 <;> rw [h1] at g1 <;> cases g1
  · rw [h1] at g1; cases g1; rw [h2] at g2; cases g2; rfl
  · rw [h1] at g1; cases g1
  · rcases g1 with g1 | g1 <;> rw [h1] at g1 <;> cases g1
  · rw [h1] at g1; cases g1
  · rw [h1] at g1; cases g1; rw [h2] at g2; cases g2; rfl
theorem subV.det {H : Hp} : ∀ {π : List Nat} {v u u' : V}, subV H v π u → subV H v π u' → u = u'
  | [], _, _, _, h, h' => h.trans h'.symm
  | i :: π, _, _, _, h, h' => by
    obtain ⟨a, x, rfl, k, r⟩ := h
    obtain ⟨b, y, e, k', r'⟩ := h'
    cases e
    cases k.det k'
    exact subV.det r r'
theorem subV.snoc {H : Hp} {a : Addr} {i : Nat} {x : V} : ∀ {π : List Nat} {v : V}, subV H v π (.ref a) → kidV H a i x → subV H v (π ++ [i]) x
  | [], _, h, k => ⟨a, x, h.symm, k, rfl⟩
  | j :: π, _, h, k => by
    obtain ⟨b, y, rfl, k', r⟩ := h
    exact ⟨b, y, rfl, k', subV.snoc r k⟩
theorem at_snoc {n k : OT} {i : Nat} : ∀ {π : List Nat} {t : OT}, t.at π = some n → n.kids[i]? = some k → t.at (π ++ [i]) = some k.core
  | [], t, h, hk => by
    have e : t.core = n := Option.some.inj h
    rw [← e, kids_core] at hk
    show (match t.kids[i]? with
      | some k => k.at []
      | none => none) = _
    rw [hk]; rfl
  | j :: π, t, h, hk => by
    have h : (match t.kids[j]? with
      | some k => k.at π
      | none => none) = some n := h
    show (match t.kids[j]? with
      | some k => k.at (π ++ [i])
      | none => none) = _
    cases e : t.kids[j]? with
    | none => rw [e] at h; cases h
    | some c => rw [e] at h; exact at_snoc (t := c) h hk
section
variable {K : PySem.W.Frag} {A B : Addr → Prop} {H H' : Hp}
/-- one of several -/
theorem OTReps.kid : ∀ {ts : List OT} {xs : List V} {F : List Addr} {i : Nat} {n : OT}, OTReps K A H ts xs F → ts[i]? = some n →
    ∃ u Fn F1 F2, F = F1 ++ (Fn ++ F2) ∧ xs[i]? = some u ∧ OTRep K A H n u Fn ∧ ∀ (B : Addr → Prop) H' n' Fn', Carry A B H H' → (∀ a ∈ F1 ++ F2, ∀ o, H a = some o → H' a = some o) → OTRep K B H' n' u Fn' → OTReps K B H' (ts.set i n') xs (F1 ++ (Fn' ++ F2))
  | [], _, _, _, _, _, e => by simp at e
  | t :: ts, _, _, 0, n, h, e => by
    obtain ⟨x, r, F1, F2, rfl, rfl, h1, h2⟩ := h
    cases e
    exact ⟨x, F1, [], F2, rfl, rfl, h1, fun B H' n' Fn' c k r' => ⟨x, r, Fn', F2, rfl, rfl, r', OTReps.carry c (fun a ha => k a ha) h2⟩⟩
  | t :: ts, _, _, i + 1, n, h, e => by
    obtain ⟨x, r, F1, F2, rfl, rfl, h1, h2⟩ := h
    obtain ⟨u, Fn, G1, G2, rfl, hu, hr, hk⟩ := OTReps.kid (i := i) h2 (by simpa using e)
    refine ⟨u, Fn, F1 ++ G1, G2, by simp, by simpa using hu, hr, fun B H' n' Fn' c k r' => ⟨x, r, F1, G1 ++ (Fn' ++ G2), rfl, by simp, OTRep.carry c (fun a ha => k a (by simp [ha])) h1, hk B H' n' Fn' c (fun a ha => k a ?_) r'⟩⟩
    rcases List.mem_append.mp ha with q | q <;> simp [q]
theorem OTRepK.kid : ∀ {ts : List (K1 × OT)} {xs : List (Key × V)} {F : List Addr} {i : Nat} {q : K1 × OT}, OTRepK K A H ts xs F → ts[i]? = some q →
    ∃ u Fn F1 F2, F = F1 ++ (Fn ++ F2) ∧ xs[i]? = some (k1 q.1, u) ∧ OTRep K A H q.2 u Fn ∧ ∀ (B : Addr → Prop) H' n' Fn', Carry A B H H' → (∀ a ∈ F1 ++ F2, ∀ o, H a = some o → H' a = some o) → OTRep K B H' n' u Fn' → OTRepK K B H' (ts.set i (q.1, n')) xs (F1 ++ (Fn' ++ F2))
  | [], _, _, _, _, _, e => by simp at e
  | (j, t) :: ts, _, _, 0, n, h, e => by
    obtain ⟨x, r, F1, F2, rfl, rfl, h1, h2⟩ := h
    cases e
    exact ⟨x, F1, [], F2, rfl, rfl, h1, fun B H' n' Fn' c k r' => ⟨x, r, Fn', F2, rfl, rfl, r', OTRepK.carry c (fun a ha => k a ha) h2⟩⟩
  | (j, t) :: ts, _, _, i + 1, n, h, e => by
    obtain ⟨x, r, F1, F2, rfl, rfl, h1, h2⟩ := h
    obtain ⟨u, Fn, G1, G2, rfl, hu, hr, hk⟩ := OTRepK.kid (i := i) h2 (by simpa using e)
    refine ⟨u, Fn, F1 ++ G1, G2, by simp, by simpa using hu, hr, fun B H' n' Fn' c k r' => ⟨x, r, F1, G1 ++ (Fn' ++ G2), rfl, by simp, OTRep.carry c (fun a ha => k a (by simp [ha])) h1, hk B H' n' Fn' c (fun a ha => k a ?_) r'⟩⟩
    rcases List.mem_append.mp ha with q | q <;> simp [q]
theorem OTRepF.kid : ∀ {ts : List (String × OT)} {xs : List (Str × V)} {F : List Addr} {i : Nat} {q : String × OT}, OTRepF K A H ts xs F → ts[i]? = some q →
    ∃ u Fn F1 F2, F = F1 ++ (Fn ++ F2) ∧ xs[i]? = some ((q.1 : Str), u) ∧ OTRep K A H q.2 u Fn ∧ ∀ (B : Addr → Prop) H' n' Fn', Carry A B H H' → (∀ a ∈ F1 ++ F2, ∀ o, H a = some o → H' a = some o) → OTRep K B H' n' u Fn' → OTRepF K B H' (ts.set i (q.1, n')) xs (F1 ++ (Fn' ++ F2))
  | [], _, _, _, _, _, e => by simp at e
  | (j, t) :: ts, _, _, 0, n, h, e => by
    obtain ⟨x, r, F1, F2, rfl, rfl, h1, h2⟩ := h
    cases e
    exact ⟨x, F1, [], F2, rfl, rfl, h1, fun B H' n' Fn' c k r' => ⟨x, r, Fn', F2, rfl, rfl, r', OTRepF.carry c (fun a ha => k a ha) h2⟩⟩
  | (j, t) :: ts, _, _, i + 1, n, h, e => by
    obtain ⟨x, r, F1, F2, rfl, rfl, h1, h2⟩ := h
    obtain ⟨u, Fn, G1, G2, rfl, hu, hr, hk⟩ := OTRepF.kid (i := i) h2 (by simpa using e)
    refine ⟨u, Fn, F1 ++ G1, G2, by simp, by simpa using hu, hr, fun B H' n' Fn' c k r' => ⟨x, r, F1, G1 ++ (Fn' ++ G2), rfl, by simp, OTRep.carry c (fun a ha => k a (by simp [ha])) h1, hk B H' n' Fn' c (fun a ha => k a ?_) r'⟩⟩
    rcases List.mem_append.mp ha with q | q <;> simp [q]
theorem setSnd_fst {α β : Type} (xs : List (α × β)) (i : Nat) (b : β) : (setSnd xs i b).map Prod.fst = xs.map Prod.fst := by
  unfold setSnd
  cases e : xs[i]? with
  | none => rfl
  | some q =>
    dsimp only
    refine List.ext_getElem? fun j => ?_
    rw [List.getElem?_map, List.getElem?_map]
    by_cases h : i = j
    · subst h
      rw [List.getElem?_set_self (List.getElem?_eq_some_iff.mp e).1, e]; rfl
    · rw [List.getElem?_set_ne h]
theorem OTRep.core : ∀ {t : OT} {v : V} {F : List Addr}, OTRep K A H t v F → OTRep K A H t.core v F
  | .P a t, v, F, h => OTRep.core (t := t) h.2
  | .fz _, _, _, h | .l _, _, _, h | .d _, _, _, h | .dt _, _, _, h | .ins _ _, _, _, h | .T _, _, _, h | .L _, _, _, h | .D _, _, _, h | .I _ _, _, _, h | .M _ _, _, _, h => h
theorem OTRep.reP {n' : OT} {Fn' : List Addr} : ∀ {t : OT} {v : V} {F : List Addr}, OTRep K A H t v F → OTRep K B H' n' v Fn' → OTRep K B H' (t.reP n') v Fn'
  | .P a t, v, F, h, r => ⟨h.1, OTRep.reP (t := t) h.2 r⟩
  | .fz _, _, _, _, r | .l _, _, _, _, r | .d _, _, _, _, r | .dt _, _, _, _, r | .ins _ _, _, _, _, r | .T _, _, _, _, r | .L _, _, _, _, r | .D _, _, _, _, r | .I _ _, _, _, _, r | .M _ _, _, _, _, r => r
/-- one thing in another -/
theorem OTRep.kid0 {t n : OT} {v : V} {F : List Addr} {i : Nat} (h : OTRep K A H t v F) (e : t.kids0[i]? = some n) :
    ∃ a u Fn F1 F2, v = .ref a ∧ F = F1 ++ (Fn ++ F2) ∧ kidV H a i u ∧ OTRep K A H n u Fn ∧ ∀ (B : Addr → Prop) H' n' Fn', Carry A B H H' → (∀ a ∈ F1 ++ F2, ∀ o, H a = some o → H' a = some o) → OTRep K B H' n' u Fn' → OTRep K B H' (t.setKid0 i n') v (F1 ++ (Fn' ++ F2)) := by
  cases t with
  | T ts =>
    obtain ⟨a, xs, rfl, ha, r⟩ := h
    obtain ⟨u, Fn, F1, F2, rfl, hu, hr, hk⟩ := r.kid e
    exact ⟨a, u, Fn, F1, F2, rfl, rfl, .inl ⟨xs, .inr ha, hu⟩, hr, fun B H' n' Fn' c k r' => ⟨a, xs, rfl, c.tup _ _ ha, hk B H' n' Fn' c k r'⟩⟩
  | L ts =>
    obtain ⟨a, xs, F', rfl, rfl, ha, r⟩ := h
    obtain ⟨u, Fn, F1, F2, rfl, hu, hr, hk⟩ := r.kid e
    exact ⟨a, u, Fn, a :: F1, F2, rfl, rfl, .inl ⟨xs, .inl ha, hu⟩, hr, fun B H' n' Fn' c k r' => ⟨a, xs, _, rfl, rfl, k a (by simp) _ ha, hk B H' n' Fn' c (fun b hb => k b (by simp at hb ⊢; exact .inr hb)) r'⟩⟩
  | D kvs =>
    obtain ⟨hn, a, xs, F', rfl, rfl, ha, r⟩ := h
    have e : (kvs.map Prod.snd)[i]? = some n := e
    rw [List.getElem?_map] at e
    obtain ⟨q, hq, rfl⟩ := Option.map_eq_some_iff.mp e
    obtain ⟨u, Fn, F1, F2, rfl, hu, hr, hk⟩ := r.kid hq
    refine ⟨a, u, Fn, a :: F1, F2, rfl, rfl, .inr (.inl ⟨xs, _, ha, hu⟩), hr, fun B H' n' Fn' c k r' => ⟨by rw [setSnd_fst]; exact hn, a, xs, F1 ++ (Fn' ++ F2), rfl, rfl, k a (by simp) _ ha, ?_⟩⟩
    have := hk B H' n' Fn' c (fun b hb => k b (by simp at hb ⊢; exact .inr hb)) r'
    unfold setSnd
    rw [hq]
    exact this
  | I c fs =>
    obtain ⟨a, dx, xs, F', rfl, rfl, ha, r⟩ := h
    have e : (fs.map Prod.snd)[i]? = some n := e
    rw [List.getElem?_map] at e
    obtain ⟨q, hq, rfl⟩ := Option.map_eq_some_iff.mp e
    obtain ⟨u, Fn, F1, F2, rfl, hu, hr, hk⟩ := r.kid hq
    refine ⟨a, u, Fn, a :: F1, F2, rfl, rfl, .inr (.inr ⟨_, dx, xs, _, ha, hu⟩), hr, fun B H' n' Fn' c k r' => ⟨a, dx, xs, F1 ++ (Fn' ++ F2), rfl, rfl, k a (by simp) _ ha, ?_⟩⟩
    have := hk B H' n' Fn' c (fun b hb => k b (by simp at hb ⊢; exact .inr hb)) r'
    unfold setSnd
    rw [hq]
    exact this
  | _ => simp [OT.kids0] at e
theorem OTRep.kid {t n : OT} {v : V} {F : List Addr} {i : Nat} (h : OTRep K A H t v F) (e : t.kids[i]? = some n) :
    ∃ a u Fn F1 F2, v = .ref a ∧ F = F1 ++ (Fn ++ F2) ∧ kidV H a i u ∧ OTRep K A H n u Fn ∧ ∀ (B : Addr → Prop) H' n' Fn', Carry A B H H' → (∀ a ∈ F1 ++ F2, ∀ o, H a = some o → H' a = some o) → OTRep K B H' n' u Fn' → OTRep K B H' (t.setKid i n') v (F1 ++ (Fn' ++ F2)) := by
  obtain ⟨a, u, Fn, F1, F2, e1, e2, h1, h2, h3⟩ := h.core.kid0 e
  exact ⟨a, u, Fn, F1, F2, e1, e2, h1, h2, fun B H' n' Fn' c k r => h.reP (h3 B H' n' Fn' c k r)⟩
/-- THE ZIP: the thing at a path, and what a change of it makes of the whole -/
theorem OTRep.zip {n : OT} : ∀ {π : List Nat} {t : OT} {v : V} {F : List Addr}, OTRep K A H t v F → t.at π = some n →
    ∃ u Fn F1 F2, F = F1 ++ (Fn ++ F2) ∧ subV H v π u ∧ OTRep K A H n u Fn ∧ ∀ (B : Addr → Prop) H' n' Fn', Carry A B H H' → (∀ a ∈ F1 ++ F2, ∀ o, H a = some o → H' a = some o) → OTRep K B H' n' u Fn' → OTRep K B H' (t.put π n') v (F1 ++ (Fn' ++ F2))
  | [], t, v, F, h, e => by
    have e : t.core = n := Option.some.inj e
    subst e
    exact ⟨v, F, [], [], by simp, rfl, h.core, fun B H' n' Fn' c k r => by simpa [OT.put] using h.reP r⟩
  | i :: π, t, v, F, h, e => by
    have e : (match t.kids[i]? with
      | some k => k.at π
      | none => none) = some n := e
    cases ek : t.kids[i]? with
    | none => rw [ek] at e; cases e
    | some c =>
      rw [ek] at e
      obtain ⟨a, u, Fn, F1, F2, rfl, rfl, hk, hr, cl⟩ := h.kid ek
      obtain ⟨u2, Fn2, G1, G2, rfl, hs, hr2, cl2⟩ := OTRep.zip hr e
      refine ⟨u2, Fn2, F1 ++ G1, G2 ++ F2, by simp, ⟨a, u, rfl, hk, hs⟩, hr2, fun B H' n' Fn' c' k r => ?_⟩
      have r1 := cl2 B H' n' Fn' c' (fun b hb => k b (by simp at hb ⊢; rcases hb with q | q <;> simp [q])) r
      have r2 := cl B H' _ _ c' (fun b hb => k b (by simp at hb ⊢; rcases hb with q | q <;> simp [q])) r1
      have ep : t.put (i :: π) n' = t.setKid i (c.put π n') := by
        show (match t.kids[i]? with
          | some k => t.setKid i (k.put π n')
          | none => t) = _
        rw [ek]
      rw [ep]
      simpa using r2
end
end Fz
end
section
/-! FwX: path expressions; changes at a path. -/
namespace Fz
open PySem PySem.Spec PyProof.Rows L2
theorem subV.same {H H' : Hp} (s : Same H H') : ∀ {π : List Nat} {v u : V}, subV H v π u → subV H' v π u
  | [], _, _, h => h
  | i :: π, _, _, h => by
    obtain ⟨a, x, rfl, k, r⟩ := h
    refine ⟨a, x, rfl, ?_, subV.same s r⟩
    rcases k with ⟨xs, h1, h2⟩ | ⟨ks, k, h1, h2⟩ | ⟨c, dx, fs, f, h1, h2⟩
    · exact .inl ⟨xs, h1.imp (s _ _) (s _ _), h2⟩
    · exact .inr (.inl ⟨ks, k, s _ _ h1, h2⟩)
    · exact .inr (.inr ⟨c, dx, fs, f, s _ _ h1, h2⟩)
theorem setKid0_nfz {t k : OT} {i : Nat} (h : t.kids0[i]? = some k) (n : OT) : ∀ p, t.setKid0 i n ≠ .fz p := by
  cases t <;> first | (simp [OT.kids0] at h; done) | (intro p q; simp [OT.setKid0] at q; done) | skip
theorem reP_nfz {n : OT} (h : ∀ p, n ≠ .fz p) (t : OT) : ∀ p, t.reP n ≠ .fz p := by
  cases t with
  | P a t => intro p q; rw [OT.reP] at q; cases q
  | _ => exact h
theorem setKid_nfz {t k : OT} {i : Nat} (h : t.kids[i]? = some k) (n : OT) : ∀ p, t.setKid i n ≠ .fz p := reP_nfz (setKid0_nfz h n) t
theorem put_nfz {t n n' : OT} (nf : ∀ p, n' ≠ .fz p) : ∀ {π : List Nat}, t.at π = some n → ∀ p, t.put π n' ≠ .fz p
  | [], _ => reP_nfz nf t
  | i :: π, h => by
    have h : (match t.kids[i]? with
      | some k => k.at π
      | none => none) = some n := h
    cases e : t.kids[i]? with
    | none => rw [e] at h; cases h
    | some k =>
      have : t.put (i :: π) n' = t.setKid i (k.put π n') := by
        show (match t.kids[i]? with
          | some k => t.setKid i (k.put π n')
          | none => t) = _
        rw [e]
      rw [this]
      exact setKid_nfz e _
section
variable {K : PySem.W.Frag} {C : Addr → Prop} {ρ : Env} {σ : L2.St} {H H' : Hp} {fp : Fp}
/-- what is at a path of slot i is rewritten -/
theorem EnvOk.writeAt {i : Nat} {t n n' : OT} {π : List Nat} {v u : V} (e : EnvOk K C ρ σ H fp) (h : ρ[i]? = some (.own t)) (hv : σ[i]? = some (some v)) (hn : t.at π = some n) (hu : subV H v π u) (nf : ∀ p, n' ≠ .fz p)
    (step : ∀ Fn, OTRep K (Am C fp) H n u Fn → (∀ a ∈ Fn, a ∈ fp i) → Fn.Nodup → (∀ a o, a ∉ Fn → H a = some o → H' a = some o) ∧ (∀ a, H a ≠ none → H' a ≠ none) ∧ ∃ Fn', (∀ a ∈ Fn', a ∈ Fn ∨ H a = none) ∧ Fn'.Nodup ∧ ∀ B : Addr → Prop, (∀ b, Am C fp b → b ∉ Fn' → B b) → (∀ a, B a → a ∉ Fn') → Carry (Am C fp) B H H' → OTRep K B H' n' u Fn') :
    ∃ fp', EnvOk K C (ρ.set i (.own (t.put π n'))) σ H' fp' ∧ Grow H fp H' fp' := by
  obtain ⟨v', hv', r⟩ := e.slot i _ h
  rw [hv] at hv'; cases hv'
  obtain ⟨u', Fn, F1, F2, hF, hs, hr, cl⟩ := r.zip hn
  cases hu.det hs
  have sub : ∀ a ∈ Fn, a ∈ fp i := fun a ha => by rw [hF]; simp [ha]
  have nd := e.nod i
  rw [hF] at nd
  have nd1 := List.nodup_append.mp nd
  have nd2 := List.nodup_append.mp nd1.2.1
  obtain ⟨keep, more, Fn', hsub, hnod, out⟩ := step Fn hr sub nd2.1
  have out' : ∀ a ∈ Fn', a ∉ F1 ∧ a ∉ F2 := fun a ha => by
    rcases hsub a ha with q | q
    · exact ⟨fun z => nd1.2.2 a z a (by simp [q]) rfl, fun z => nd2.2.2 a q a z rfl⟩
    · have nf : a ∉ fp i := fun z => e.fresh q ⟨i, z⟩
      rw [hF] at nf
      exact ⟨fun z => nf (by simp [z]), fun z => nf (by simp [z])⟩
  have nodF : (F1 ++ (Fn' ++ F2)).Nodup := by
    refine List.nodup_append.mpr ⟨nd1.1, List.nodup_append.mpr ⟨hnod, nd2.2.1, fun a ha b hb z => (out' a ha).2 (z ▸ hb)⟩, fun a ha b hb z => ?_⟩
    rcases List.mem_append.mp hb with q | q
    · exact (out' b q).1 (z ▸ ha)
    · exact nd1.2.2 a ha b (by simp [q]) z
  have hFs : ∀ a ∈ F1 ++ (Fn' ++ F2), a ∈ fp i ∨ H a = none := fun a ha => by
    rw [hF]
    simp only [List.mem_append] at ha ⊢
    rcases ha with q | q | q
    · exact .inl (.inl q)
    · rcases hsub a q with z | z
      · exact .inl (.inr (.inl z))
      · exact .inr z
    · exact .inl (.inr (.inr q))
  have key := e.write (t' := t.put π n') (F' := F1 ++ (Fn' ++ F2)) h hv (put_nfz nf hn) (fun a o ha q => keep a o (fun z => ha (sub a z)) q) more hFs nodF ?_
  · exact ⟨_, key.1, key.2⟩
  · have c : Carry (Am C fp) (fun a => Am C fp a ∧ a ∉ F1 ++ (Fn' ++ F2)) H H' :=
      Carry.mk' (fun a o q z => ⟨q, fun m => (hFs a m).elim (fun y => q.2 ⟨i, y⟩) fun y => by rw [y] at z; cases z⟩) (fun a o q z => keep a o (fun m => q.2 ⟨i, sub a m⟩) z)
        (fun a xs z => keep a _ (fun m => e.ntup z ⟨i, sub a m⟩) z) fun a o x z => keep a _ (fun m => e.nfrz z ⟨i, sub a m⟩) z
    refine cl _ H' n' Fn' c (fun a ha o q => keep a o (fun m => ?_) q) (out _ (fun b hb hn => ⟨hb, fun m => ?_⟩) (fun a ha m => ha.2 (by simp [m])) c)
    · rcases List.mem_append.mp ha with z | z
      · exact nd1.2.2 a z a (by simp [m]) rfl
      · exact nd2.2.2 a m a z rfl
    · simp only [List.mem_append] at m
      refine hb.2 ⟨i, ?_⟩
      rw [hF]
      rcases m with m | m | m
      · simp [m]
      · exact (hn m).elim
      · simp [m]
end

/-! ### path expressions -/
abbrev Px := Env → Res (List Nat)
theorem ixN_lt {n : Nat} {i : Int} {j : Nat} (h : ixN n i = some j) : j < n := by
  unfold ixN at h
  split at h
  · split at h
    · cases h; omega
    · cases h
  · split at h
    · cases h; omega
    · cases h
def ownT : Option Slot → Option OT
  | some (.own t) => some t
  | _ => none
def nodeOf (i : Nat) (ρ : Env) (π : List Nat) : Option OT := (ownT ρ[i]?).bind fun t => t.at π
def tPx (K : PySem.W.Frag) (C : Addr → Prop) (W : WX) (i : Nat) (px : Px) : TE := fun σ H Q => ∃ ρ fp, EnvOk K C ρ σ H fp ∧ Out (px ρ) (fun π => ∀ v u H', Same H H' → σ[i]? = some (some v) → subV H' v π u → Q u H') (XQ K W σ H)
structure PxJ (X : Cx) (C : Addr → Prop) (W : WX) (i : Nat) (e : Expr) (px : Px) : Prop where
  run : PE X e (tPx X.K C W i px)
  wf : ∀ ρ π, px ρ = .ok π → ∃ n, nodeOf i ρ π = some n
theorem node_own {i : Nat} {ρ : Env} {π : List Nat} {n : OT} (h : nodeOf i ρ π = some n) : ∃ t, ρ[i]? = some (.own t) ∧ t.at π = some n := by
  unfold nodeOf at h
  cases e : ρ[i]? with
  | none => rw [e] at h; cases h
  | some s =>
    rw [e] at h
    cases s with
    | own t => exact ⟨t, rfl, h⟩
    | _ => cases h
def pxName (i : Nat) : Px := fun ρ => ofO ((ownT ρ[i]?).map fun _ => [])
def kidIdx : OT → PV → Option Nat
  | .L ts, .int k => ixN ts.length k
  | .T ts, .int k => ixN ts.length k
  | .D kvs, k => (keyOf k).bind fun k => kvs.findIdx? fun q => decide (q.1 = k)
  | _, _ => none
def pxIx (i : Nat) (px : Px) (f : E) : Px := fun ρ => px ρ >>= fun π => f ρ >>= fun k => ofO ((nodeOf i ρ π).bind fun n => (kidIdx n k).map fun j => π ++ [j])
section
variable {X : Cx} {C : Addr → Prop} {W : WX} {e e1 e2 e3 : Expr} {pos p2 tpos : Pos} {m m1 m2 : Mode} {f f1 f2 : E} {px : Px} {fo : O}
theorem pxj_name {i : Nat} {x : Str} (hN : X.N[i]? = some x) (hv : Vis X.env.scope x) (hd : (x == ("__debug__" : Str)) = false := by decide) (hcd : (x == ("__classdict__" : Str)) = false := by decide) : PxJ X C W i (.Name x pos) (pxName i) where
  run := pe_weak (pe_var hN hv hd hcd) fun σ H Q ⟨ρ, fp, eo, o⟩ => by
    unfold pxName at o
    cases e : ρ[i]? with
    | none => rw [e] at o; exact o.elim
    | some s =>
      rw [e] at o
      cases s with
      | own t =>
        obtain ⟨v, hv, r⟩ := eo.slot i _ e
        have o : ∀ v u H', Same H H' → σ[i]? = some (some v) → subV H' v [] u → Q u H' := o
        exact ⟨v, hv, o v v H (Same.refl H) hv rfl⟩
      | _ => exact o.elim
  wf := fun ρ π h => by
    unfold pxName at h
    unfold nodeOf
    cases e : ownT ρ[i]? with
    | none => rw [e] at h; cases h
    | some t => rw [e] at h; cases h; exact ⟨t.core, rfl⟩
theorem kidIdx_kid {n : OT} {k : PV} {j : Nat} (h : kidIdx n k = some j) : ∃ c, n.kids[j]? = some c := by
  cases n with
  | L ts =>
    cases k <;> simp only [kidIdx, reduceCtorEq] at h
    have := ixN_lt h
    exact ⟨ts[j], List.getElem?_eq_getElem this⟩
  | T ts =>
    cases k <;> simp only [kidIdx, reduceCtorEq] at h
    have := ixN_lt h
    exact ⟨ts[j], List.getElem?_eq_getElem this⟩
  | D kvs =>
    simp only [kidIdx] at h
    cases e : keyOf k with
    | none => rw [e] at h; cases h
    | some k' =>
      rw [e] at h
      obtain ⟨hj, _⟩ := List.findIdx?_eq_some_iff_getElem.mp h
      exact ⟨kvs[j].2, by show (kvs.map Prod.snd)[j]? = _; rw [List.getElem?_map, List.getElem?_eq_getElem hj]; rfl⟩
  | _ => simp [kidIdx] at h
theorem OTReps.get {K : PySem.W.Frag} {A : Addr → Prop} {H : Hp} : ∀ {ts : List OT} {xs : List V} {F : List Addr}, OTReps K A H ts xs F → xs.length = ts.length
  | [], _, _, h => by rw [h.1]; rfl
  | t :: ts, _, _, h => by
    obtain ⟨x, r, F1, F2, rfl, rfl, h1, h2⟩ := h
    simp [OTReps.get h2]
theorem OTRepK.val {K : PySem.W.Frag} {A : Addr → Prop} {H : Hp} (k : K1) : ∀ {kvs : List (K1 × OT)} {ks : List (Key × V)} {F : List Addr} {j : Nat}, OTRepK K A H kvs ks F → kvs.findIdx? (fun q => decide (q.1 = k)) = some j →
    ∃ v, valV ks (k1 k) = some v ∧ ks[j]? = some (k1 k, v)
  | [], _, _, _, h, e => by cases e
  | (i, t) :: kvs, _, _, j, h, e => by
    obtain ⟨x, r, F1, F2, rfl, rfl, h1, h2⟩ := h
    rw [List.findIdx?_cons] at e
    by_cases hk : i = k
    · subst hk
      simp at e
      subst e
      exact ⟨x, valV_pos rfl, rfl⟩
    · simp only [hk, decide_false, Bool.false_eq_true, if_false] at e
      obtain ⟨j', e', rfl⟩ := Option.map_eq_some_iff.mp e
      obtain ⟨v, hv, hj⟩ := OTRepK.val k h2 e'
      exact ⟨v, by rw [valV_neg fun z => hk (k1_inj z)]; exact hv, by simpa using hj⟩
def isDNode : Option OT → Bool
  | some (.D _) => true
  | _ => false
theorem pxj_ix {i : Nat} (hu : Hu X) (h1 : PxJ X C W i e1 px) (h2 : EJ X C W m2 e2 f2) (hs : ∀ o i, subscripted e2 false o i = operate [o, i] (getItem o i) := by intro _ _; rfl) : PxJ X C W i (.Subscript e1 e2 pos) (pxIx i px f2) where
  run := pe_weak (pe_or' (pe_ix ix_seq h1.run h2 hs) (pe_dget hu.u1 h1.run h2 hs)) fun σ H Q ⟨ρ, fp, eo, o⟩ => by
    have main : ∀ (R : V → V → Hp → Prop), (∀ π k j n v u w H2, px ρ = .ok π → nodeOf i ρ π = some n → kidIdx n k = some j → Same H H2 → σ[i]? = some (some v) → subV H2 v π u → RepM X.K C fp m2 H2 k w → (∀ v u H', Same H H' → σ[i]? = some (some v) → subV H' v (π ++ [j]) u → Q u H') → R u w H2) →
        tPx X.K C W i px σ H fun x H1 => tE X.K C W m2 f2 σ H1 fun y H2 => R x y H2 := fun R hR => by
      refine ⟨ρ, fp, eo, (Out.bind o).and.mono (fun π ⟨e1, o1⟩ v u H1 s1 hv hu' => ?_) fun _ _ q => q⟩
      refine ⟨ρ, fp, eo.same s1, (Out.bind o1).mono (fun k o2 w H2 s2 r2 => ?_) fun _ _ q => q.later s1⟩
      obtain ⟨z, hz, q⟩ := Out.ofO o2
      obtain ⟨n, hn⟩ := h1.wf ρ π e1
      rw [hn] at hz
      obtain ⟨j, hj, rfl⟩ := Option.map_eq_some_iff.mp hz
      exact hR π k j n v u w H2 e1 hn hj (s1.trans s2) hv (hu'.same s2) r2 q
    have rep : ∀ {π n v u H2}, nodeOf i ρ π = some n → Same H H2 → σ[i]? = some (some v) → subV H2 v π u → ∃ Fn, OTRep X.K (Am C fp) H2 n u Fn := fun {π n v u H2} hn s hv hu' => by
      obtain ⟨t, ht, hat⟩ := node_own hn
      obtain ⟨v', hv', r⟩ := (eo.same s).slot i _ ht
      rw [hv] at hv'; cases hv'
      obtain ⟨u', Fn, _, _, _, hs', hr, _⟩ := r.zip hat
      cases hu'.det hs'
      exact ⟨Fn, hr⟩
    by_cases hd : ∃ π, px ρ = .ok π ∧ isDNode (nodeOf i ρ π) = true
    · obtain ⟨π0, e0, d0⟩ := hd
      refine .inr (main _ fun π k j n v u w H2 ep hn hj s hv hu' rk q => ?_)
      rw [e0] at ep; cases ep
      rw [hn] at d0
      obtain ⟨Fn, r⟩ := rep hn s hv hu'
      cases n with
      | D kvs =>
        obtain ⟨_, a, xs, F', rfl, _, ha, r⟩ := r
        simp only [kidIdx] at hj
        cases ek : keyOf k with
        | none => rw [ek] at hj; cases hj
        | some k' =>
          rw [ek] at hj
          obtain ⟨x, hx, hxj⟩ := r.val k' hj
          refine ⟨a, x, rfl, ?_, q v x H2 s hv (hu'.snoc (.inr (.inl ⟨xs, _, ha, hxj⟩)))⟩
          rw [rep_key (RepM.toB rk) ek, ← hx]
          exact DGet.k ha
      | _ => cases d0
    · refine .inl (main _ fun π k j n v u w H2 ep hn hj s hv hu' rk q => ?_)
      have nd : isDNode (some n) = false := by
        cases z : isDNode (some n) with
        | false => rfl
        | true => exact (hd ⟨π, ep, by rw [hn]; exact z⟩).elim
      obtain ⟨Fn, r⟩ := rep hn s hv hu'
      cases n with
      | L ts =>
        cases k <;> simp only [kidIdx, reduceCtorEq] at hj
        obtain ⟨a, xs, F', rfl, _, ha, r⟩ := r
        have hl := r.get
        obtain ⟨x, hx⟩ : ∃ x, xs[j]? = some x := ⟨xs[j]'(by rw [hl]; exact ixN_lt hj), List.getElem?_eq_getElem _⟩
        exact .inl ⟨a, xs, _, _, rfl, RepM.toB rk, SqL.of ha, by show (ixN xs.length _).bind (fun j => xs[j]?) = _; rw [hl, hj]; exact hx, q v _ H2 s hv (hu'.snoc (.inl ⟨xs, .inl ha, hx⟩))⟩
      | T ts =>
        cases k <;> simp only [kidIdx, reduceCtorEq] at hj
        obtain ⟨a, xs, rfl, ha, r⟩ := r
        have hl := r.get
        obtain ⟨x, hx⟩ : ∃ x, xs[j]? = some x := ⟨xs[j]'(by rw [hl]; exact ixN_lt hj), List.getElem?_eq_getElem _⟩
        exact .inr (.inl ⟨a, xs, _, _, rfl, RepM.toB rk, SqT.of ha, by show (ixN xs.length _).bind (fun j => xs[j]?) = _; rw [hl, hj]; exact hx, q v _ H2 s hv (hu'.snoc (.inl ⟨xs, .inr ha, hx⟩))⟩)
      | D kvs => cases nd
      | _ => simp [kidIdx] at hj
  wf := fun ρ π h => by
    obtain ⟨π', e1, h⟩ := bind_ok_inv h
    obtain ⟨k, e2, h⟩ := bind_ok_inv h
    obtain ⟨n, hn⟩ := h1.wf ρ π' e1
    rw [hn] at h
    have h : ofO ((kidIdx n k).map fun j => π' ++ [j]) = .ok π := h
    cases ej : kidIdx n k with
    | none => rw [ej] at h; cases h
    | some j =>
      rw [ej] at h
      cases h
      obtain ⟨c, hc⟩ := kidIdx_kid ej
      obtain ⟨t, ht, hat⟩ := node_own hn
      refine ⟨c.core, ?_⟩
      unfold nodeOf
      rw [ht]
      exact at_snoc hat hc

/-! ### reading at a path -/
def ndM : Mode → OT → Option PV
  | .B, n => some n.pv
  | _, .fz p => some p
  | .I, .l ps => some (.lst ps)
  | .I, .d kvs => some (.dic kvs)
  | .I, .dt kvs => some (.dit kvs)
  | .I, .ins c fs => some (.ins c fs)
  | _, _ => none
def ePth (m : Mode) (i : Nat) (px : Px) : E := fun ρ => px ρ >>= fun π => ofO ((nodeOf i ρ π).bind (ndM m))
theorem ej_pth {i : Nat} (h : PxJ X C W i e px) : EJ X C W m e (ePth m i px) := pe_weak h.run fun σ H Q ⟨ρ, fp, eo, o⟩ => by
  refine ⟨ρ, fp, eo, (Out.bind o).mono (fun π o1 v u H1 s1 hv hu => ?_) fun _ _ q => q⟩
  obtain ⟨z, hz, q⟩ := Out.ofO o1
  obtain ⟨n, hn, hz⟩ := Option.bind_eq_some_iff.mp hz
  obtain ⟨t, ht, hat⟩ := node_own hn
  obtain ⟨v', hv', r⟩ := (eo.same s1).slot i _ ht
  rw [hv] at hv'; cases hv'
  obtain ⟨u', Fn, _, _, _, hs', hr, _⟩ := r.zip hat
  cases hu.det hs'
  refine q u H1 s1 ?_
  cases m with
  | B =>
    cases hz
    exact Rep.any (A := fun _ => True) (OTRep.free (A := Am C fp) (fun _ _ => trivial) (fun _ _ => trivial) hr)
  | E =>
    cases n <;> simp only [ndM, reduceCtorEq, Option.some.injEq] at hz
    subst hz
    exact hr.2
  | I =>
    cases n <;> simp only [ndM, reduceCtorEq, Option.some.injEq] at hz <;> subst hz
    · exact Rep.toI hr.2
    · obtain ⟨a, xs, rfl, _, ha, rr⟩ := hr; exact ⟨a, xs, rfl, ha, rr⟩
    · obtain ⟨a, xs, rfl, _, ha, rr⟩ := hr; exact ⟨a, xs, rfl, .inl ha, rr⟩
    · obtain ⟨a, xs, rfl, _, ha, rr⟩ := hr; exact ⟨a, xs, rfl, .inl ha, rr⟩
    · obtain ⟨a, dx, xs, rfl, _, ha, rr⟩ := hr; exact ⟨a, dx, xs, rfl, ha, rr⟩
end
end Fz
end
section
/-! FwY: changes at a path: append, extend, clear, pop, stores. -/
namespace Fz
open PySem PySem.Spec PyProof.Rows L2
section
variable {K : PySem.W.Frag} {C : Addr → Prop} {ρ : Env} {σ : L2.St} {H H1 H' : Hp} {fp : Fp}
theorem EnvOk.nodeRep {i : Nat} {n : OT} {π : List Nat} {v u : V} (eo : EnvOk K C ρ σ H fp) (hn : nodeOf i ρ π = some n) (hv : σ[i]? = some (some v)) (hu : subV H v π u) : ∃ Fn, OTRep K (Am C fp) H n u Fn := by
  obtain ⟨t, ht, hat⟩ := node_own hn
  obtain ⟨v', hv', r⟩ := eo.slot i _ ht
  rw [hv] at hv'; cases hv'
  obtain ⟨u', Fn, _, _, _, hs', hr, _⟩ := r.zip hat
  cases hu.det hs'
  exact ⟨Fn, hr⟩
/-- the whole after a change at a path -/
def putT (i : Nat) (ρ : Env) (π : List Nat) : Option OT → Fl
  | some n => (match ownT ρ[i]? with
    | some t => .nx (ρ.set i (.own (t.put π n)))
    | none => .bad)
  | none => .bad
theorem putT_eq {i : Nat} {π : List Nat} {t n : OT} (h : ρ[i]? = some (.own t)) : putT i ρ π (some n) = .nx (ρ.set i (.own (t.put π n))) := by
  unfold putT
  rw [h]; rfl
/-- a list of common things becomes another one -/
theorem EnvOk.wrL {i : Nat} {ps qs : List PV} {π : List Nat} {v : V} {a : Addr} {xs ys : List V} (e : EnvOk K C ρ σ H fp) (hn : nodeOf i ρ π = some (.l ps)) (hv : σ[i]? = some (some v)) (hu : subV H v π (.ref a)) (ha : H a = some (.lst xs)) (r : Reps K (Am C fp) H qs ys) :
    ∃ ρ' fp', putT i ρ π (some (.l qs)) = .nx ρ' ∧ EnvOk K C ρ' σ (upd H a (.lst ys)) fp' ∧ Grow H fp (upd H a (.lst ys)) fp' := by
  obtain ⟨t, ht, hat⟩ := node_own hn
  obtain ⟨fp', e', g'⟩ := e.writeAt (H' := upd H a (.lst ys)) (n' := .l qs) ht hv hat hu (by intros; simp) fun Fn hr sub nd => by
    obtain ⟨b, zs, eb, rfl, hb, _⟩ := hr
    cases eb
    refine ⟨fun c o hc q => by rw [upd_ne (by simpa using hc)]; exact q, fun c hc => ?_, [a], fun c hc => .inl hc, by simp, fun B hB nB c => ⟨a, ys, rfl, rfl, upd_same, Reps.carry c r⟩⟩
    by_cases z : c = a
    · subst z; rw [upd_same]; simp
    · rw [upd_ne z]; exact hc
  exact ⟨_, fp', putT_eq ht, e', g'⟩
theorem EnvOk.wrD {i : Nat} {ps qs : List (K1 × PV)} {π : List Nat} {v : V} {a : Addr} {xs ys : List (Key × V)} (e : EnvOk K C ρ σ H fp) (hn : nodeOf i ρ π = some (.d ps)) (hv : σ[i]? = some (some v)) (hu : subV H v π (.ref a)) (ha : H a = some (.dK xs)) (r : RepK K (Am C fp) H qs ys) :
    ∃ ρ' fp', putT i ρ π (some (.d qs)) = .nx ρ' ∧ EnvOk K C ρ' σ (upd H a (.dK ys)) fp' ∧ Grow H fp (upd H a (.dK ys)) fp' := by
  obtain ⟨t, ht, hat⟩ := node_own hn
  obtain ⟨fp', e', g'⟩ := e.writeAt (H' := upd H a (.dK ys)) (n' := .d qs) ht hv hat hu (by intros; simp) fun Fn hr sub nd => by
    obtain ⟨b, zs, eb, rfl, hb, _⟩ := hr
    cases eb
    refine ⟨fun c o hc q => by rw [upd_ne (by simpa using hc)]; exact q, fun c hc => ?_, [a], fun c hc => .inl hc, by simp, fun B hB nB c => ⟨a, ys, rfl, rfl, upd_same, RepK.carry c r⟩⟩
    by_cases z : c = a
    · subst z; rw [upd_same]; simp
    · rw [upd_ne z]; exact hc
  exact ⟨_, fp', putT_eq ht, e', g'⟩
/-! new own things within -/
def asL : OT → Option (List OT)
  | .L ts => some ts
  | .l [] => some []
  | _ => none
def asD : OT → Option (List (K1 × OT))
  | .D kvs => some kvs
  | .d [] => some []
  | _ => none
theorem asL_rep {A : Addr → Prop} {n : OT} {ts : List OT} {u : V} {Fn : List Addr} (h : asL n = some ts) (r : OTRep K A H n u Fn) : ∃ a xs F', u = .ref a ∧ Fn = a :: F' ∧ H a = some (.lst xs) ∧ OTReps K A H ts xs F' := by
  cases n with
  | L us => cases h; exact r
  | l ps =>
    cases ps with
    | nil => cases h; obtain ⟨a, xs, rfl, rfl, ha, rr⟩ := r; exact ⟨a, xs, [], rfl, rfl, ha, rr, rfl⟩
    | cons _ _ => cases h
  | _ => cases h
theorem asD_rep {A : Addr → Prop} {n : OT} {ts : List (K1 × OT)} {u : V} {Fn : List Addr} (h : asD n = some ts) (r : OTRep K A H n u Fn) : (ts.map Prod.fst).Nodup ∧ ∃ a xs F', u = .ref a ∧ Fn = a :: F' ∧ H a = some (.dK xs) ∧ OTRepK K A H ts xs F' := by
  cases n with
  | D us => cases h; exact r
  | d ps =>
    cases ps with
    | nil => cases h; obtain ⟨a, xs, rfl, rfl, ha, rr⟩ := r; exact ⟨List.nodup_nil, a, xs, [], rfl, rfl, ha, rr, rfl⟩
    | cons _ _ => cases h
  | _ => cases h
theorem OTReps.snoc {A : Addr → Prop} {c : OT} {w : V} {Fc : List Addr} (rc : OTRep K A H c w Fc) : ∀ {ts : List OT} {xs : List V} {F : List Addr}, OTReps K A H ts xs F → OTReps K A H (ts ++ [c]) (xs ++ [w]) (F ++ Fc)
  | [], xs, F, h => by rw [h.1, h.2]; exact ⟨w, [], Fc, [], rfl, by simp, rc, rfl, rfl⟩
  | t :: ts, _, _, h => by
    obtain ⟨x, r, F1, F2, rfl, rfl, h1, h2⟩ := h
    exact ⟨x, _, F1, F2 ++ Fc, rfl, by simp, h1, OTReps.snoc rc h2⟩
theorem OTRepK.snoc {A : Addr → Prop} {c : OT} {w : V} {Fc : List Addr} (k : K1) (rc : OTRep K A H c w Fc) : ∀ {ts : List (K1 × OT)} {xs : List (Key × V)} {F : List Addr}, OTRepK K A H ts xs F → OTRepK K A H (ts ++ [(k, c)]) (xs ++ [(k1 k, w)]) (F ++ Fc)
  | [], xs, F, h => by rw [h.1, h.2]; exact ⟨w, [], Fc, [], rfl, by simp, rc, rfl, rfl⟩
  | (j, t) :: ts, _, _, h => by
    obtain ⟨x, r, F1, F2, rfl, rfl, h1, h2⟩ := h
    exact ⟨x, _, F1, F2 ++ Fc, rfl, by simp, h1, OTRepK.snoc k rc h2⟩
theorem otK_any {A : Addr → Prop} (k : K1) : ∀ {kvs : List (K1 × OT)} {ks : List (Key × V)} {F : List Addr}, OTRepK K A H kvs ks F → (ks.any fun q => decide (q.1 = k1 k)) = kvs.any fun q => decide (q.1 = k)
  | [], ks, F, h => by rw [h.1]; rfl
  | (j, p) :: kvs, ks, F, h => by
    obtain ⟨x, r, F1, F2, rfl, rfl, h1, h2⟩ := h
    rw [List.any_cons, List.any_cons, otK_any k h2]
    show (decide (k1 j = k1 k) || _) = _
    rw [key_dec]
theorem map_no {α : Type} (k : K1) (c : α) : ∀ {kvs : List (K1 × α)}, k ∉ kvs.map Prod.fst → kvs.map (fun q => if q.1 = k then (q.1, c) else q) = kvs
  | [], _ => rfl
  | (j, t) :: kvs, h => by
    simp only [List.map_cons, List.mem_cons, not_or] at h
    rw [List.map_cons, map_no k c h.2, if_neg (fun e => h.1 e.symm)]
theorem otK_mapNo {A : Addr → Prop} (k : K1) (w : V) : ∀ {kvs : List (K1 × OT)} {ks : List (Key × V)} {F : List Addr}, k ∉ kvs.map Prod.fst → OTRepK K A H kvs ks F → ks.map (fun q => if q.1 = k1 k then (q.1, w) else q) = ks
  | [], ks, F, _, h => by rw [h.1]; rfl
  | (j, t) :: kvs, ks, F, hn, h => by
    obtain ⟨x, r, F1, F2, rfl, rfl, h1, h2⟩ := h
    simp only [List.map_cons, List.mem_cons, not_or] at hn
    rw [List.map_cons, otK_mapNo k w hn.2 h2, if_neg (fun e => hn.1 (k1_inj e).symm)]
theorem otK_map {A : Addr → Prop} {c : OT} {w : V} {Fc : List Addr} (k : K1) (nc : Fc.Nodup) : ∀ {kvs : List (K1 × OT)} {ks : List (Key × V)} {F : List Addr}, k ∈ kvs.map Prod.fst → (kvs.map Prod.fst).Nodup → OTRepK K A H kvs ks F →
    ∃ F', (∀ a ∈ F', a ∈ F ∨ a ∈ Fc) ∧ (F.Nodup → (∀ a ∈ Fc, a ∉ F) → F'.Nodup) ∧ ∀ (B : Addr → Prop) H', Carry A B H H' → (∀ a ∈ F, ∀ o, H a = some o → H' a = some o) → OTRep K B H' c w Fc →
      OTRepK K B H' (kvs.map fun q => if q.1 = k then (q.1, c) else q) (ks.map fun q => if q.1 = k1 k then (q.1, w) else q) F'
  | [], _, _, hm, _, _ => by cases hm
  | (j, t) :: kvs, ks, F, hm, nd, h => by
    obtain ⟨x, r, F1, F2, rfl, rfl, h1, h2⟩ := h
    simp only [List.map_cons, List.nodup_cons] at nd
    by_cases e : j = k
    · subst e
      refine ⟨Fc ++ F2, fun a ha => ?_, fun nF dis => ?_, fun B H' cc kp rc => ?_⟩
      · rcases List.mem_append.mp ha with q | q
        · exact .inr q
        · exact .inl (by simp [q])
      · have := List.nodup_append.mp nF
        exact List.nodup_append.mpr ⟨nc, this.2.1, fun a ha b hb z => dis a ha (by rw [z]; simp [hb])⟩
      · rw [List.map_cons, List.map_cons, map_no j c nd.1, otK_mapNo j w nd.1 h2, if_pos rfl, if_pos rfl]
        exact ⟨w, r, Fc, F2, rfl, rfl, rc, OTRepK.carry cc (fun a ha => kp a (by simp [ha])) h2⟩
    · have hm' : k ∈ kvs.map Prod.fst := by
        simp only [List.map_cons, List.mem_cons] at hm
        exact hm.resolve_left fun z => e z.symm
      obtain ⟨F', s', n', r'⟩ := otK_map (w := w) k nc hm' nd.2 h2
      refine ⟨F1 ++ F', fun a ha => ?_, fun nF dis => ?_, fun B H' cc kp rc => ?_⟩
      · rcases List.mem_append.mp ha with q | q
        · exact .inl (by simp [q])
        · exact (s' a q).imp (fun z => by simp [z]) id
      · have := List.nodup_append.mp nF
        refine List.nodup_append.mpr ⟨this.1, n' this.2.1 fun a ha z => dis a ha (by simp [z]), fun a ha b hb z => ?_⟩
        rcases s' b hb with q | q
        · exact this.2.2 a ha b q z
        · exact dis b q (by rw [← z]; simp [ha])
      · rw [List.map_cons, List.map_cons, if_neg e, if_neg (fun z => e (k1_inj z))]
        exact ⟨x, _, F1, F', rfl, rfl, OTRep.carry cc (fun a ha => kp a (by simp [ha])) h1, r' B H' cc (fun a ha => kp a (by simp [ha])) rc⟩
theorem OTRepK.put {A : Addr → Prop} {c : OT} {w : V} {Fc : List Addr} (k : K1) (nc : Fc.Nodup) {kvs : List (K1 × OT)} {ks : List (Key × V)} {F : List Addr} (nd : (kvs.map Prod.fst).Nodup) (h : OTRepK K A H kvs ks F) :
    ((putA kvs k c).map Prod.fst).Nodup ∧ ∃ F', (∀ a ∈ F', a ∈ F ∨ a ∈ Fc) ∧ (F.Nodup → (∀ a ∈ Fc, a ∉ F) → F'.Nodup) ∧ ∀ (B : Addr → Prop) H', Carry A B H H' → (∀ a ∈ F, ∀ o, H a = some o → H' a = some o) → OTRep K B H' c w Fc → OTRepK K B H' (putA kvs k c) (putK ks (k1 k) w) F' := by
  unfold putA putK
  rw [otK_any k h]
  split
  · rename_i hm
    have hm : k ∈ kvs.map Prod.fst := by
      obtain ⟨q, hq, e⟩ := List.any_eq_true.mp hm
      exact List.mem_map.mpr ⟨q, hq, of_decide_eq_true e⟩
    refine ⟨?_, otK_map k nc hm nd h⟩
    have : (kvs.map fun q => if q.1 = k then (q.1, c) else q).map Prod.fst = kvs.map Prod.fst := by
      rw [List.map_map]
      refine List.map_congr_left fun q _ => ?_
      simp only [Function.comp]
      split <;> rfl
    rw [this]; exact nd
  · rename_i hm
    have hm : k ∉ kvs.map Prod.fst := fun z => hm (by
      obtain ⟨q, hq, rfl⟩ := List.mem_map.mp z
      exact List.any_eq_true.mpr ⟨q, hq, by simp⟩)
    refine ⟨?_, F ++ Fc, fun a ha => List.mem_append.mp ha, fun nF dis => List.nodup_append.mpr ⟨nF, nc, fun a ha b hb z => dis b hb (z ▸ ha)⟩, fun B H' cc kp rc => OTRepK.snoc k rc (OTRepK.carry cc kp h)⟩
    rw [List.map_append]
    exact List.nodup_append.mpr ⟨nd, by simp, fun a ha b hb z => by
      have : b = k := by simpa using hb
      exact hm (by rw [← this, ← z]; exact ha)⟩
theorem OTRepK.len {A : Addr → Prop} : ∀ {kvs : List (K1 × OT)} {ks : List (Key × V)} {F : List Addr}, OTRepK K A H kvs ks F → ks.length = kvs.length
  | [], _, _, h => by rw [h.1]; rfl
  | (j, t) :: kvs, _, _, h => by
    obtain ⟨x, r, F1, F2, rfl, rfl, h1, h2⟩ := h
    simp [OTRepK.len h2]
/-- c, made since H, is put at the end of a list -/
theorem EnvOk.wrLO {i : Nat} {n c : OT} {ts : List OT} {π : List Nat} {v w : V} {a : Addr} {Fc : List Addr} (e : EnvOk K C ρ σ H fp) (s1 : Same H H1) (hn : nodeOf i ρ π = some n) (hL : asL n = some ts) (hv : σ[i]? = some (some v)) (hu : subV H v π (.ref a)) (nc : Fc.Nodup) (fc : ∀ b ∈ Fc, H b = none)
    (rc : OTRep K (fun b => Am C fp b ∧ b ∉ Fc) H1 c w Fc) : ∃ xs ρ' fp', xs.length = ts.length ∧ H1 a = some (.lst xs) ∧ putT i ρ π (some (.L (ts ++ [c]))) = .nx ρ' ∧ EnvOk K C ρ' σ (upd H1 a (.lst (xs ++ [w]))) fp' ∧ Grow H fp (upd H1 a (.lst (xs ++ [w]))) fp' := by
  obtain ⟨t, ht, hat⟩ := node_own hn
  obtain ⟨Fn0, r0⟩ := e.nodeRep hn hv hu
  obtain ⟨a', xs, F0, ea, _, ha, rr0⟩ := asL_rep hL r0
  cases ea
  obtain ⟨fp', e', g'⟩ := e.writeAt (H' := upd H1 a (.lst (xs ++ [w]))) (n' := .L (ts ++ [c])) ht hv hat hu (by intros; simp) fun Fn hr sub nd => by
    obtain ⟨b, zs, F', eb, rfl, hb, rr⟩ := asL_rep hL hr
    cases eb
    rw [ha] at hb; cases hb
    have live : ∀ b ∈ a :: F', H b ≠ none := fun b hb z => by
      obtain ⟨o, ho, _⟩ := hr.live b hb
      rw [z] at ho; cases ho
    have nd' := List.nodup_cons.mp nd
    refine ⟨fun b o hb q => by rw [upd_ne (fun z => hb (by simp [z]))]; exact s1 _ _ q, fun b hb => ?_, a :: (F' ++ Fc), fun b hb => ?_, ?_, fun B hB nB cc => ⟨a, xs ++ [w], F' ++ Fc, rfl, rfl, upd_same, OTReps.snoc (OTRep.carry ?_ (fun b hb o q => ?_) rc) (OTReps.carry cc (fun b hb o q => ?_) rr)⟩⟩
    · by_cases z : b = a
      · subst z; rw [upd_same]; simp
      · rw [upd_ne z]
        intro y
        cases q : H b with
        | none => exact hb q
        | some o => rw [s1 _ _ q] at y; cases y
    · simp only [List.mem_cons, List.mem_append] at hb
      rcases hb with q | q | q
      · exact .inl (by simp [q])
      · exact .inl (by simp [q])
      · exact .inr (fc b q)
    · refine List.nodup_cons.mpr ⟨fun z => ?_, List.nodup_append.mpr ⟨nd'.2, nc, fun b hb d hd z => live b (by simp [hb]) (by rw [z]; exact fc d hd)⟩⟩
      rcases List.mem_append.mp z with q | q
      · exact nd'.1 q
      · exact live a (by simp) (fc a q)
    · refine Carry.mk' (fun b o q z => hB b q.1 fun m => ?_) (fun b o q z => by rw [upd_ne (fun y => q.1.2 ⟨i, sub b (by simp [y])⟩)]; exact z) (fun b zs z => by rw [upd_ne (fun y => by rw [y, s1 _ _ ha] at z; cases z)]; exact z) fun b o x z => by rw [upd_ne (fun y => by rw [y, s1 _ _ ha] at z; cases z)]; exact z
      simp only [List.mem_cons, List.mem_append] at m
      rcases m with m | m | m
      · exact q.1.2 ⟨i, sub b (by simp [m])⟩
      · exact q.1.2 ⟨i, sub b (by simp [m])⟩
      · exact q.2 m
    · rw [upd_ne (fun y => live a (by simp) (by rw [← y]; exact fc b hb))]; exact q
    · rw [upd_ne (fun y => nd'.1 (by rw [← y]; exact hb))]; exact s1 _ _ q
  exact ⟨xs, _, fp', rr0.get, s1 _ _ ha, putT_eq ht, e', g'⟩
/-- c, made since H, is put under a key -/
theorem EnvOk.wrDO {i : Nat} {n c : OT} {ts : List (K1 × OT)} {π : List Nat} {v w : V} {a : Addr} {Fc : List Addr} (k : K1) (e : EnvOk K C ρ σ H fp) (s1 : Same H H1) (hn : nodeOf i ρ π = some n) (hL : asD n = some ts) (hv : σ[i]? = some (some v)) (hu : subV H v π (.ref a)) (nc : Fc.Nodup) (fc : ∀ b ∈ Fc, H b = none)
    (rc : OTRep K (fun b => Am C fp b ∧ b ∉ Fc) H1 c w Fc) : ∃ xs ρ' fp', xs.length = ts.length ∧ H1 a = some (.dK xs) ∧ putT i ρ π (some (.D (putA ts k c))) = .nx ρ' ∧ EnvOk K C ρ' σ (upd H1 a (.dK (putK xs (k1 k) w))) fp' ∧ Grow H fp (upd H1 a (.dK (putK xs (k1 k) w))) fp' := by
  obtain ⟨t, ht, hat⟩ := node_own hn
  obtain ⟨Fn0, r0⟩ := e.nodeRep hn hv hu
  obtain ⟨_, a', xs, F0, ea, _, ha, rr0⟩ := asD_rep hL r0
  cases ea
  obtain ⟨fp', e', g'⟩ := e.writeAt (H' := upd H1 a (.dK (putK xs (k1 k) w))) (n' := .D (putA ts k c)) ht hv hat hu (by intros; simp) fun Fn hr sub nd => by
    obtain ⟨nk, b, zs, F', eb, rfl, hb, rr⟩ := asD_rep hL hr
    cases eb
    rw [ha] at hb; cases hb
    have live : ∀ b ∈ a :: F', H b ≠ none := fun b hb z => by
      obtain ⟨o, ho, _⟩ := hr.live b hb
      rw [z] at ho; cases ho
    have nd' := List.nodup_cons.mp nd
    have dis : ∀ b ∈ Fc, b ∉ F' := fun b hb z => live b (by simp [z]) (fc b hb)
    obtain ⟨nk2, F2, sub2, nod2, cl⟩ := OTRepK.put (c := c) (w := w) k nc nk rr
    refine ⟨fun b o hb q => by rw [upd_ne (fun z => hb (by simp [z]))]; exact s1 _ _ q, fun b hb => ?_, a :: F2, fun b hb => ?_, ?_, fun B hB nB cc => ⟨nk2, a, _, F2, rfl, rfl, upd_same, cl B _ cc (fun b hb o q => ?_) (OTRep.carry ?_ (fun b hb o q => ?_) rc)⟩⟩
    · by_cases z : b = a
      · subst z; rw [upd_same]; simp
      · rw [upd_ne z]
        intro y
        cases q : H b with
        | none => exact hb q
        | some o => rw [s1 _ _ q] at y; cases y
    · rcases List.mem_cons.mp hb with q | q
      · exact .inl (by simp [q])
      · exact (sub2 b q).imp (fun z => by simp [z]) (fc b)
    · refine List.nodup_cons.mpr ⟨fun z => ?_, nod2 nd'.2 dis⟩
      rcases sub2 a z with q | q
      · exact nd'.1 q
      · exact live a (by simp) (fc a q)
    · rw [upd_ne (fun y => nd'.1 (by rw [← y]; exact hb))]; exact s1 _ _ q
    · refine Carry.mk' (fun b o q z => hB b q.1 fun m => ?_) (fun b o q z => by rw [upd_ne (fun y => q.1.2 ⟨i, sub b (by simp [y])⟩)]; exact z) (fun b zs z => by rw [upd_ne (fun y => by rw [y, s1 _ _ ha] at z; cases z)]; exact z) fun b o x z => by rw [upd_ne (fun y => by rw [y, s1 _ _ ha] at z; cases z)]; exact z
      rcases List.mem_cons.mp m with m | m
      · exact q.1.2 ⟨i, sub b (by simp [m])⟩
      · rcases sub2 b m with m | m
        · exact q.1.2 ⟨i, sub b (by simp [m])⟩
        · exact q.2 m
    · rw [upd_ne (fun y => live a (by simp) (by rw [← y]; exact fc b hb))]; exact q
  exact ⟨xs, _, fp', rr0.len, s1 _ _ ha, putT_eq ht, e', g'⟩
end

/-! ### statements -/
def isLN : Option OT → Bool
  | some (.l _) => true
  | some (.L _) => true
  | _ => false
def appN (p : PV) : OT → Option OT
  | .l ps => if ps.length < sizeLine then some (.l (ps ++ [p])) else none
  | _ => none
def appNO (c : OT) (n : OT) : Option OT := (asL n).bind fun ts => if ts.length < sizeLine then some (.L (ts ++ [c])) else none
def extN : PV → OT → Option OT
  | .lst qs, .l ps => if ps.length + qs.length ≤ sizeLine then some (.l (ps ++ qs)) else none
  | _, _ => none
def clrN : OT → Option OT
  | .l _ => some (.l [])
  | _ => none
def putN (k v : PV) : OT → Option OT
  | .l ps => (match k with
    | .int z => (ixN ps.length z).map fun j => .l (ps.set j v)
    | _ => none)
  | .d kvs => (keyOf k).bind fun k => if kvs.length < sizeLine then some (.d (putA kvs k v)) else none
  | _ => none
def putNO (k : PV) (c : OT) (n : OT) : Option OT := (asD n).bind fun kvs => (keyOf k).bind fun k => if kvs.length < sizeLine then some (.D (putA kvs k c)) else none
/-- path.append(e) -/
def sAppP (i : Nat) (px : Px) (f : E) : S := fun ρ => withR (px ρ) ρ fun π => if isLN (nodeOf i ρ π) = true then withR (f ρ) ρ fun p => putT i ρ π ((nodeOf i ρ π).bind (appN p)) else .bad
def sAppPO (i : Nat) (px : Px) (f : O) : S := fun ρ => withR (px ρ) ρ fun π => if isLN (nodeOf i ρ π) = true then withR (f ρ) ρ fun c => putT i ρ π ((nodeOf i ρ π).bind (appNO c)) else .bad
def sExtP (i : Nat) (px : Px) (f : E) : S := fun ρ => withR (px ρ) ρ fun π => if isLN (nodeOf i ρ π) = true then withR (f ρ) ρ fun p => putT i ρ π ((nodeOf i ρ π).bind (extN p)) else .bad
def sClrP (i : Nat) (px : Px) : S := fun ρ => withR (px ρ) ρ fun π => putT i ρ π ((nodeOf i ρ π).bind clrN)
def sPutP (i : Nat) (px : Px) (fi fv : E) : S := fun ρ => withR (fv ρ) ρ fun v => withR (px ρ) ρ fun π => withR (fi ρ) ρ fun k => putT i ρ π ((nodeOf i ρ π).bind (putN k v))
def sPutPO (i : Nat) (px : Px) (fi : E) (fv : O) : S := fun ρ => withR (fv ρ) ρ fun c => withR (px ρ) ρ fun π => withR (fi ρ) ρ fun k => putT i ρ π ((nodeOf i ρ π).bind (putNO k c))
section
variable {X : Cx} {C : Addr → Prop} {W : WX} {e e1 e2 e3 o : Expr} {pos p2 tpos : Pos} {m m1 m2 : Mode} {f f1 f2 : E} {px : Px} {fo : O}
theorem isLN_at {K : PySem.W.Frag} {ρ : Env} {σ : L2.St} {H : Hp} {fp : Fp} {i : Nat} {π : List Nat} {v u : V} (eo : EnvOk K C ρ σ H fp) (h : isLN (nodeOf i ρ π) = true) (hv : σ[i]? = some (some v)) (hu : subV H v π u) : ∃ a xs, u = .ref a ∧ H a = some (.lst xs) := by
  cases hn : nodeOf i ρ π with
  | none => rw [hn] at h; cases h
  | some n =>
    rw [hn] at h
    obtain ⟨Fn, r⟩ := eo.nodeRep hn hv hu
    cases n with
    | l ps => obtain ⟨a, xs, rfl, _, ha, _⟩ := r; exact ⟨a, xs, rfl, ha⟩
    | L ts => obtain ⟨a, xs, F', rfl, _, ha, _⟩ := r; exact ⟨a, xs, rfl, ha⟩
    | _ => cases h
theorem sj_appP {i : Nat} {apos cpos : Pos} (hp : PxJ X C W i o px) (h : EJ X C W .E e f)
    (hsw : swapsWith (.Call (.Attribute o "append" apos) [e] [] cpos) none pos.line X.env = pure false := by rfl)
    (hbase : attributeBase o "append" X.env (eval o X.env) = eval o X.env := by rfl)
    (hfew : ((backTo cpos (starEach [e] X.env)).all (fun x => !x.1) && (backToKw cpos (keywordEach [] X.env)).all (fun x => x.1.isSome) && decide ([e].length + ([] : List Keyword).length + (if ([] : List Keyword).isEmpty then 0 else 1) < 30)) = true := by rfl)
    (hline : (apos.endLine == cpos.line) = true := by rfl) (hs : starEach [e] X.env = (false, eval e X.env) :: starEach [] X.env := by rfl) (hplain : (backTo cpos (starEach [] X.env)).any (·.1) = false := by rfl) :
    SJ X C W (.Expr (.Call (.Attribute o "append" apos) [e] [] cpos) pos) (sAppP i px f) :=
  ps_weak (ps_expr (pe_bm PySem.F.plainAttrs_list PySem.F.slot_list_append PySem.F.type_list_append mt_append hp.run (pa_cons h pa_nil hs) hbase hfew hline hs hplain) hsw) fun D σ H ⟨ρ, fp, eo, q⟩ => by
    refine ⟨ρ, fp, eo, (FlQ.ofR eo q).mono (fun π q v u H1 s1 hv hu => ?_) fun _ _ q => q⟩
    have eo1 := eo.same s1
    have q := FlQ.later (Grow.same (fp := fp) s1) q
    try dsimp only at q
    split at q
    · rename_i hL
      obtain ⟨a, xs, rfl, ha⟩ := isLN_at eo1 hL hv hu
      refine ⟨.inl ⟨rfl, xs, SqL.of ha⟩, ρ, fp, eo1, (FlQ.ofR eo1 q).mono (fun p q w H2 s2 r2 => ?_) fun _ _ q => q⟩
      have eo2 := eo1.same s2
      have q := FlQ.later (Grow.same (fp := fp) s2) q
      try dsimp only at q
      cases hn : nodeOf i ρ π with
      | none => rw [hn] at q; exact q.elim
      | some n =>
        rw [hn] at q
        cases n with
        | l ps =>
          simp only [Option.bind_some, appN] at q
          split at q
          · rename_i hl
            obtain ⟨Fn, rn⟩ := eo2.nodeRep hn hv (hu.same s2)
            obtain ⟨b, ys, eb, _, hb, rr⟩ := rn
            cases eb
            obtain ⟨ρ', fp', e', eo', g'⟩ := eo2.wrL hn hv (hu.same s2) hb (rr.append (Reps.one r2))
            rw [e'] at q
            exact ⟨a, ys, w, rfl, rfl, hb, by rw [rr.length]; exact hl, q _ _ _ eo' g'⟩
          · exact q.elim
        | _ => exact q.elim
    · exact q.elim
theorem sj_appPO {i : Nat} {apos cpos : Pos} (hp : PxJ X C W i o px) (h : OJ X C W e fo)
    (hsw : swapsWith (.Call (.Attribute o "append" apos) [e] [] cpos) none pos.line X.env = pure false := by rfl)
    (hbase : attributeBase o "append" X.env (eval o X.env) = eval o X.env := by rfl)
    (hfew : ((backTo cpos (starEach [e] X.env)).all (fun x => !x.1) && (backToKw cpos (keywordEach [] X.env)).all (fun x => x.1.isSome) && decide ([e].length + ([] : List Keyword).length + (if ([] : List Keyword).isEmpty then 0 else 1) < 30)) = true := by rfl)
    (hline : (apos.endLine == cpos.line) = true := by rfl) (hs : starEach [e] X.env = (false, eval e X.env) :: starEach [] X.env := by rfl) (hplain : (backTo cpos (starEach [] X.env)).any (·.1) = false := by rfl) :
    SJ X C W (.Expr (.Call (.Attribute o "append" apos) [e] [] cpos) pos) (sAppPO i px fo) :=
  ps_weak (ps_expr (pe_bm PySem.F.plainAttrs_list PySem.F.slot_list_append PySem.F.type_list_append mt_append hp.run (pa_cons h pa_nil hs) hbase hfew hline hs hplain) hsw) fun D σ H ⟨ρ, fp, eo, q⟩ => by
    refine ⟨ρ, fp, eo, (FlQ.ofR eo q).mono (fun π q v u H1 s1 hv hu => ?_) fun _ _ q => q⟩
    have eo1 := eo.same s1
    have q := FlQ.later (Grow.same (fp := fp) s1) q
    try dsimp only at q
    split at q
    · rename_i hL
      obtain ⟨a, xs, rfl, ha⟩ := isLN_at eo1 hL hv hu
      refine ⟨.inl ⟨rfl, xs, SqL.of ha⟩, ρ, fp, eo1, (FlQ.ofR eo1 q).mono (fun c q w H2 Fc s2 nc fc rc => ?_) fun _ _ q => q⟩
      cases hn : nodeOf i ρ π with
      | none => rw [hn] at q; exact q.elim
      | some n =>
        rw [hn] at q
        simp only [Option.bind_some, appNO] at q
        cases hA : asL n with
        | none => rw [hA] at q; exact q.elim
        | some ts =>
          rw [hA] at q
          simp only [Option.bind_some] at q
          split at q
          · rename_i hl
            obtain ⟨ys, ρ', fp', hy, hb, e', eo', g'⟩ := eo1.wrLO s2 hn hA hv hu nc fc rc
            rw [e'] at q
            exact ⟨a, ys, w, rfl, rfl, hb, by rw [hy]; exact hl, q _ _ _ eo' g'⟩
          · exact q.elim
    · exact q.elim
theorem sj_extP {i : Nat} {apos cpos : Pos} (hp : PxJ X C W i o px) (h : EJ X C W .I e f)
    (hsw : swapsWith (.Call (.Attribute o "extend" apos) [e] [] cpos) none pos.line X.env = pure false := by rfl)
    (hbase : attributeBase o "extend" X.env (eval o X.env) = eval o X.env := by rfl)
    (hfew : ((backTo cpos (starEach [e] X.env)).all (fun x => !x.1) && (backToKw cpos (keywordEach [] X.env)).all (fun x => x.1.isSome) && decide ([e].length + ([] : List Keyword).length + (if ([] : List Keyword).isEmpty then 0 else 1) < 30)) = true := by rfl)
    (hline : (apos.endLine == cpos.line) = true := by rfl) (hs : starEach [e] X.env = (false, eval e X.env) :: starEach [] X.env := by rfl) (hplain : (backTo cpos (starEach [] X.env)).any (·.1) = false := by rfl) :
    SJ X C W (.Expr (.Call (.Attribute o "extend" apos) [e] [] cpos) pos) (sExtP i px f) :=
  ps_weak (ps_expr (pe_bm PySem.F.plainAttrs_list PySem.F.slot_list_extend PySem.F.type_list_extend mt_extend hp.run (pa_cons h pa_nil hs) hbase hfew hline hs hplain) hsw) fun D σ H ⟨ρ, fp, eo, q⟩ => by
    refine ⟨ρ, fp, eo, (FlQ.ofR eo q).mono (fun π q v u H1 s1 hv hu => ?_) fun _ _ q => q⟩
    have eo1 := eo.same s1
    have q := FlQ.later (Grow.same (fp := fp) s1) q
    try dsimp only at q
    split at q
    · rename_i hL
      obtain ⟨a, xs, rfl, ha⟩ := isLN_at eo1 hL hv hu
      refine ⟨.inl ⟨rfl, xs, SqL.of ha⟩, ρ, fp, eo1, (FlQ.ofR eo1 q).mono (fun p q w H2 s2 r2 => ?_) fun _ _ q => q⟩
      have eo2 := eo1.same s2
      have q := FlQ.later (Grow.same (fp := fp) s2) q
      try dsimp only at q
      cases hn : nodeOf i ρ π with
      | none => rw [hn] at q; exact q.elim
      | some n =>
        rw [hn] at q
        cases n with
        | l ps =>
          cases p with
          | lst qs =>
            simp only [Option.bind_some, extN] at q
            split at q
            · rename_i hl
              obtain ⟨Fn, rn⟩ := eo2.nodeRep hn hv (hu.same s2)
              obtain ⟨b, ys, eb, _, hb, rr⟩ := rn
              cases eb
              obtain ⟨b, zs, rfl, hz, rz⟩ := r2
              obtain ⟨ρ', fp', e', eo', g'⟩ := eo2.wrL hn hv (hu.same s2) hb (rr.append rz)
              rw [e'] at q
              exact ⟨a, b, ys, zs, rfl, rfl, hb, hz, by rw [rr.length, rz.length]; exact hl, q _ _ _ eo' g'⟩
            · exact q.elim
          | _ => exact q.elim
        | _ => cases p <;> exact q.elim
    · exact q.elim
theorem sj_clrP {i : Nat} {apos cpos : Pos} (hp : PxJ X C W i o px)
    (hsw : swapsWith (.Call (.Attribute o "clear" apos) [] [] cpos) none pos.line X.env = pure false := by rfl)
    (hbase : attributeBase o "clear" X.env (eval o X.env) = eval o X.env := by rfl) (hline : (apos.endLine == cpos.line) = true := by rfl) :
    SJ X C W (.Expr (.Call (.Attribute o "clear" apos) [] [] cpos) pos) (sClrP i px) :=
  ps_weak (ps_expr (pe_bm0 PySem.F.plainAttrs_list PySem.F.slot_list_clear PySem.F.type_list_clear mt_clear hp.run hbase hline) hsw) fun D σ H ⟨ρ, fp, eo, q⟩ => by
    refine ⟨ρ, fp, eo, (FlQ.ofR eo q).mono (fun π q v u H1 s1 hv hu => ?_) fun _ _ q => q⟩
    have eo1 := eo.same s1
    have q := FlQ.later (Grow.same (fp := fp) s1) q
    try dsimp only at q
    cases hn : nodeOf i ρ π with
    | none => rw [hn] at q; exact q.elim
    | some n =>
      rw [hn] at q
      cases n with
      | l ps =>
        obtain ⟨Fn, rn⟩ := eo1.nodeRep hn hv hu
        obtain ⟨b, ys, rfl, _, hb, rr⟩ := rn
        obtain ⟨ρ', fp', e', eo', g'⟩ := eo1.wrL (qs := []) (ys := []) hn hv hu hb rfl
        simp only [Option.bind_some, clrN] at q
        rw [e'] at q
        exact ⟨.inl ⟨rfl, ys, SqL.of hb⟩, b, ys, rfl, rfl, hb, q _ _ _ eo' g'⟩
      | _ => exact q.elim
theorem putN_read {i : Nat} {ρ : Env} {σ : L2.St} {H : Hp} {fp : Fp} {D : Ends} {π : List Nat} {k v : PV} {v0 u w o : V} (eo : EnvOk X.K C ρ σ H fp) (rk : Rep X.K (fun _ => True) H k u) (rv : Rep X.K (Am C fp) H v w) (hv : σ[i]? = some (some v0)) (hu : subV H v0 π o)
    (q : FlQ X.K C W D H fp (putT i ρ π ((nodeOf i ρ π).bind (putN k v)))) : rSetL o u w H (fun H' => D.nx σ H') ∨ rSetD o u w H (fun H' => D.nx σ H') := by
  cases hn : nodeOf i ρ π with
  | none => rw [hn] at q; exact q.elim
  | some n =>
    rw [hn] at q
    obtain ⟨Fn, rn⟩ := eo.nodeRep hn hv hu
    cases n with
    | l ps =>
      cases k with
      | int z =>
        simp only [Option.bind_some, putN] at q
        cases hj : ixN ps.length z with
        | none => rw [hj] at q; exact q.elim
        | some j =>
          rw [hj] at q
          obtain ⟨a, xs, rfl, hF, ha, rr⟩ := rn
          obtain ⟨ρ', fp', e', eo', g'⟩ := eo.wrL hn hv hu ha (Reps.set j rr rv)
          simp only [Option.map_some] at q
          rw [e'] at q
          exact .inl ⟨a, xs, z, j, rfl, rk, ha, by rw [rr.length]; exact hj, q _ _ _ eo' g'⟩
      | _ => exact q.elim
    | d kvs =>
      simp only [Option.bind_some, putN] at q
      cases hk : keyOf k with
      | none => rw [hk] at q; exact q.elim
      | some k' =>
        rw [hk] at q
        simp only [Option.bind_some] at q
        split at q
        · rename_i hl
          obtain ⟨a, xs, rfl, hF, ha, rr⟩ := rn
          obtain ⟨ρ', fp', e', eo', g'⟩ := eo.wrD hn hv hu ha (RepK.put rr rv k')
          rw [e'] at q
          exact .inr ⟨a, _, rfl, by rw [rep_key rk hk]; exact DPut.k ha (by rw [rr.len]; exact hl), q _ _ _ eo' g'⟩
        · exact q.elim
    | _ => exact q.elim
theorem sj_putP {i : Nat} {fi fv : E} (hu : Hu X) (hp : PxJ X C W i o px) (he : EJ X C W .E e fv) (hi : EJ X C W .B e1 fi)
    (ha : ∀ v, assign (.Subscript o e1 tpos) X.env v = (do
      let ov ← holding [v] (eval o X.env)
      let iv ← holding [v, ov] (eval e1 X.env)
      standAt tpos
      holding [v, ov, iv] (setItem ov iv v)
      release [v, ov, iv] []) := by intro _; rfl)
    (hs : swapsWithSole [.Subscript o e1 tpos] e pos.line X.env = pure false := by rfl) (hw : swappedStores [.Subscript o e1 tpos] e X.env = pure none := by rfl) (h1 : (assignEach [.Subscript o e1 tpos] X.env).map (·.2) = [assign (.Subscript o e1 tpos) X.env] := by rfl) :
    SJ X C W (.Assign [.Subscript o e1 tpos] e pos) (sPutP i px fi fv) :=
  ps_weak (ps_asg he (pg_sub hp.run hi (PSet.or set_list (set_dict hu.u1)) ha) hs hw h1) fun D σ H ⟨ρ, fp, eo, h⟩ => by
    refine ⟨ρ, fp, eo, (FlQ.ofR eo h).mono (fun v q w H1 s1 r1 => ?_) fun _ _ q => q⟩
    have eo1 := eo.same s1
    refine ⟨ρ, fp, eo1, (FlQ.ofR eo1 (FlQ.later (Grow.same s1) q)).mono (fun π q2 v0 u H2 s2 hv hu => ?_) fun _ _ q => q⟩
    have eo2 := eo1.same s2
    refine ⟨ρ, fp, eo2, (FlQ.ofR eo2 (FlQ.later (Grow.same s2) q2)).mono (fun k q3 u3 H3 s3 r3 => ?_) fun _ _ q => q⟩
    exact putN_read (eo2.same s3) r3 (RepM.same (m := .E) (s2.trans s3) r1) hv (hu.same s3) (FlQ.later (Grow.same s3) q3)
theorem sj_putPO {i : Nat} {fi : E} (hu : Hu X) (hp : PxJ X C W i o px) (he : OJ X C W e fo) (hi : EJ X C W .B e1 fi)
    (ha : ∀ v, assign (.Subscript o e1 tpos) X.env v = (do
      let ov ← holding [v] (eval o X.env)
      let iv ← holding [v, ov] (eval e1 X.env)
      standAt tpos
      holding [v, ov, iv] (setItem ov iv v)
      release [v, ov, iv] []) := by intro _; rfl)
    (hs : swapsWithSole [.Subscript o e1 tpos] e pos.line X.env = pure false := by rfl) (hw : swappedStores [.Subscript o e1 tpos] e X.env = pure none := by rfl) (h1 : (assignEach [.Subscript o e1 tpos] X.env).map (·.2) = [assign (.Subscript o e1 tpos) X.env] := by rfl) :
    SJ X C W (.Assign [.Subscript o e1 tpos] e pos) (sPutPO i px fi fo) :=
  ps_weak (ps_asg he (pg_sub hp.run hi (set_dict hu.u1) ha) hs hw h1) fun D σ H ⟨ρ, fp, eo, h⟩ => by
    refine ⟨ρ, fp, eo, (FlQ.ofR eo h).mono (fun c q w H1 Fc s1 nc fc rc => ?_) fun _ _ q => q⟩
    have eo1 := eo.same s1
    refine ⟨ρ, fp, eo1, (FlQ.ofR eo q).mono (fun π q2 v0 u H2 s2 hv hu => ?_) fun _ _ q => XQ.later s1 q⟩
    have eo2 := eo1.same s2
    refine ⟨ρ, fp, eo2, (FlQ.ofR eo q2).mono (fun k q3 u3 H3 s3 r3 => ?_) fun _ _ q => XQ.later (s1.trans s2) q⟩
    have sAll : Same H H3 := s1.trans (s2.trans s3)
    have q4 := q3
    cases hn : nodeOf i ρ π with
    | none => rw [hn] at q4; exact q4.elim
    | some n =>
      rw [hn] at q4
      simp only [Option.bind_some, putNO] at q4
      cases hA : asD n with
      | none => rw [hA] at q4; exact q4.elim
      | some ts =>
        rw [hA] at q4
        simp only [Option.bind_some] at q4
        cases hk : keyOf k with
        | none => rw [hk] at q4; exact q4.elim
        | some k' =>
          rw [hk] at q4
          simp only [Option.bind_some] at q4
          split at q4
          · rename_i hl
            -- the path stands already before the thing was made
            obtain ⟨t, ht, hat⟩ := node_own hn
            obtain ⟨v', hv', r⟩ := eo.slot i _ ht
            rw [hv] at hv'; cases hv'
            obtain ⟨u', Fn, _, _, _, hs', hr, _⟩ := r.zip hat
            cases (hu.same s3).det (hs'.same sAll)
            obtain ⟨_, a, xs0, F', rfl, _, ha0, _⟩ := asD_rep hA hr
            have rc' : OTRep X.K (fun b => Am C fp b ∧ b ∉ Fc) H3 c w Fc := rc.carry (Carry.same (s2.trans s3) fun _ q => q) fun b _ o z => (s2.trans s3) _ _ z
            obtain ⟨ys, ρ', fp', hy, hb, e', eo', g'⟩ := eo.wrDO k' sAll hn hA hv hs' nc fc rc'
            rw [e'] at q4
            exact ⟨a, _, rfl, by rw [rep_key (RepM.toB r3) hk]; exact DPut.k hb (by rw [hy]; exact hl), q4 _ _ _ eo' g'⟩
          · exact q4.elim
end
end Fz
end
section
/-! FwZ: what never runs, is True, sum, max, min, ranges down, dict.get. -/
namespace Fz
open PySem PySem.Spec PyProof.Rows L2
section
variable {X : Cx} {C : Addr → Prop} {W : WX} {e e1 e2 e3 o tg : Expr} {pos p2 pn tpos : Pos} {m m1 m2 m3 : Mode} {f f1 f2 f3 : E} {px : Px} {fo : O}
def sBad : S := fun _ => .bad
theorem sj_never {st : Stmt} : SJ X C W st sBad := ps_weak ps_never fun D σ H ⟨ρ, fp, eo, h⟩ => h.elim
/-! is True -/
def gIsB : Cmp := fun p q => match p, q with
  | .bl a, .bl b => some (decide (a = b))
  | _, _ => none
def gNotB : Cmp := fun p q => match p, q with
  | .bl a, .bl b => some (!decide (a = b))
  | _, _ => none
theorem cmp_isB : CmpOk X.K rIsB gIsB := fun p q b H v u Q hg r1 r2 hQ => by
  cases p <;> cases q <;> simp only [gIsB, Option.some.injEq, reduceCtorEq] at hg
  subst hg
  exact ⟨_, _, r1, r2, hQ⟩
theorem cmp_notB : CmpOk X.K rNotB gNotB := fun p q b H v u Q hg r1 r2 hQ => by
  cases p <;> cases q <;> simp only [gNotB, Option.some.injEq, reduceCtorEq] at hg
  subst hg
  exact ⟨_, _, r1, r2, hQ⟩
/-! lists of whole numbers -/
def intsOf : List PV → Option (List Int)
  | [] => some []
  | .int x :: ps => (intsOf ps).map (x :: ·)
  | _ :: _ => none
theorem intsOf_eq : ∀ {ps : List PV} {xs : List Int}, intsOf ps = some xs → ps = xs.map .int
  | [], xs, h => by cases h; rfl
  | p :: ps, xs, h => by
    cases p <;> simp only [intsOf, reduceCtorEq] at h
    cases e : intsOf ps with
    | none => rw [e] at h; cases h
    | some ys => rw [e] at h; cases h; rw [intsOf_eq e]; rfl
@[simp] theorem intsOf_map (xs : List Int) : intsOf (xs.map .int) = some xs := by
  induction xs with
  | nil => rfl
  | cons x xs ih => simp [intsOf, ih]
def maxI : List Int → Option Int
  | [] => none
  | x :: xs => some (xs.foldl max x)
def minI : List Int → Option Int
  | [] => none
  | x :: xs => some (xs.foldl min x)
theorem foldl_max : ∀ (xs : List Int) (x : Int), (xs.foldl max x = x ∨ xs.foldl max x ∈ xs) ∧ x ≤ xs.foldl max x ∧ ∀ y ∈ xs, y ≤ xs.foldl max x
  | [], x => ⟨.inl rfl, Int.le_refl _, fun _ h => nomatch h⟩
  | y :: ys, x => by
    obtain ⟨h1, h2, h3⟩ := foldl_max ys (max x y)
    refine ⟨?_, ?_, fun z hz => ?_⟩
    · rcases h1 with q | q
      · by_cases hxy : x ≤ y
        · right; simp only [List.foldl_cons, q]; rw [Int.max_eq_right hxy]; exact List.mem_cons_self
        · left; simp only [List.foldl_cons, q]; exact Int.max_eq_left (by omega)
      · right; exact List.mem_cons_of_mem _ q
    · simp only [List.foldl_cons]; have := Int.le_max_left x y; omega
    · simp only [List.foldl_cons]
      rcases List.mem_cons.mp hz with rfl | hz
      · have := Int.le_max_right x z; omega
      · exact h3 z hz
theorem foldl_min : ∀ (xs : List Int) (x : Int), (xs.foldl min x = x ∨ xs.foldl min x ∈ xs) ∧ xs.foldl min x ≤ x ∧ ∀ y ∈ xs, xs.foldl min x ≤ y
  | [], x => ⟨.inl rfl, Int.le_refl _, fun _ h => nomatch h⟩
  | y :: ys, x => by
    obtain ⟨h1, h2, h3⟩ := foldl_min ys (min x y)
    refine ⟨?_, ?_, fun z hz => ?_⟩
    · rcases h1 with q | q
      · by_cases hxy : y ≤ x
        · right; simp only [List.foldl_cons, q]; rw [Int.min_eq_right hxy]; exact List.mem_cons_self
        · left; simp only [List.foldl_cons, q]; exact Int.min_eq_left (by omega)
      · right; exact List.mem_cons_of_mem _ q
    · simp only [List.foldl_cons]; have := Int.min_le_left x y; omega
    · simp only [List.foldl_cons]
      rcases List.mem_cons.mp hz with rfl | hz
      · have := Int.min_le_right x z; omega
      · exact h3 z hz
theorem maxI_spec {xs : List Int} {m : Int} (h : maxI xs = some m) : m ∈ xs ∧ ∀ y ∈ xs, y ≤ m := by
  cases xs with
  | nil => cases h
  | cons x xs =>
    cases h
    obtain ⟨h1, h2, h3⟩ := foldl_max xs x
    refine ⟨h1.elim (fun e => ?_) (List.mem_cons_of_mem _), fun y hy => (List.mem_cons.mp hy).elim (fun e => e ▸ h2) (h3 y)⟩
    have : xs.foldl max x = x := e
    show xs.foldl max x ∈ _
    rw [this]; exact List.mem_cons_self
theorem minI_spec {xs : List Int} {m : Int} (h : minI xs = some m) : m ∈ xs ∧ ∀ y ∈ xs, m ≤ y := by
  cases xs with
  | nil => cases h
  | cons x xs =>
    cases h
    obtain ⟨h1, h2, h3⟩ := foldl_min xs x
    refine ⟨h1.elim (fun e => ?_) (List.mem_cons_of_mem _), fun y hy => (List.mem_cons.mp hy).elim (fun e => e ▸ h2) (h3 y)⟩
    have : xs.foldl min x = x := e
    show xs.foldl min x ∈ _
    rw [this]; exact List.mem_cons_self
def gSum : PV → Option PV
  | .lst ps => (intsOf ps).map fun ns => .int ns.sum
  | _ => none
def gMaxL : PV → Option PV
  | .lst ps => (intsOf ps).bind fun ns => (maxI ns).map .int
  | _ => none
def gMinL : PV → Option PV
  | .lst ps => (intsOf ps).bind fun ns => (minI ns).map .int
  | _ => none
theorem rep_ints {K : PySem.W.Frag} {H : Hp} {ps : List PV} {v : V} {ns : List Int} (e : intsOf ps = some ns) (r : Rep K (fun _ => True) H (.lst ps) v) : ∃ a, v = .ref a ∧ SqL K H a (ns.map V.int) := by
  obtain ⟨a, vs, rfl, _, ha, rr⟩ := r
  rw [intsOf_eq e] at rr
  rw [rr.ints] at ha
  exact ⟨a, rfl, SqL.of ha⟩
theorem c_sum : Call1A X.K (rSum X.K) gSum := fun H p z v Q hg r k => by
  cases p <;> simp only [gSum, reduceCtorEq] at hg
  obtain ⟨ns, e, rfl⟩ := Option.map_eq_some_iff.mp hg
  obtain ⟨a, rfl, hs⟩ := rep_ints e r
  exact ⟨a, ns, rfl, hs, k _ (atom_int _)⟩
theorem c_maxL : Call1A X.K (rMax X.K) gMaxL := fun H p z v Q hg r k => by
  cases p <;> simp only [gMaxL, reduceCtorEq] at hg
  obtain ⟨ns, e, hg⟩ := Option.bind_eq_some_iff.mp hg
  obtain ⟨m, hm, rfl⟩ := Option.map_eq_some_iff.mp hg
  obtain ⟨a, rfl, hs⟩ := rep_ints e r
  obtain ⟨h1, h2⟩ := maxI_spec hm
  refine ⟨a, ns, rfl, hs, List.length_pos_of_mem h1, fun m' hm' hle => ?_⟩
  have : m' = m := Int.le_antisymm (h2 _ hm') (hle _ h1)
  rw [this]
  exact k _ (atom_int _)
theorem c_minL : Call1A X.K (rMin X.K) gMinL := fun H p z v Q hg r k => by
  cases p <;> simp only [gMinL, reduceCtorEq] at hg
  obtain ⟨ns, e, hg⟩ := Option.bind_eq_some_iff.mp hg
  obtain ⟨m, hm, rfl⟩ := Option.map_eq_some_iff.mp hg
  obtain ⟨a, rfl, hs⟩ := rep_ints e r
  obtain ⟨h1, h2⟩ := minI_spec hm
  refine ⟨a, ns, rfl, hs, List.length_pos_of_mem h1, fun m' hm' hle => ?_⟩
  have : m' = m := Int.le_antisymm (hle _ h1) (h2 _ hm')
  rw [this]
  exact k _ (atom_int _)
/-! max, min of two -/
def Call2A (K : PySem.W.Frag) (r : List V → Hp → VK → Prop) (g : PV → PV → Option PV) : Prop := ∀ H p q z v u Q, g p q = some z → Rep K (fun _ => True) H p v → Rep K (fun _ => True) H q u → (∀ w, Atom K z w → Q w H) → r [v, u] H Q
theorem ej_call2 {x : Str} {nid : String} {r : List V → Hp → VK → Prop} {g : PV → PV → Option PV} (hc : CallR X (.builtin nid) r) (hg : Call2A X.K r g) (hl : Gl X x) (hm : X.mg x = none) (hv : bootBuiltins x = some (.builtin nid)) (h1 : EJ X C W m1 e1 f1) (h2 : EJ X C W m2 e2 f2) (hn : x ≠ "__name__" := by decide) (hdb : (x == ("__debug__" : Str)) = false := by decide)
    (he : starEach (e1 :: [e2]) X.env = (false, eval e1 X.env) :: starEach [e2] X.env := by rfl) (he2 : starEach [e2] X.env = (false, eval e2 X.env) :: starEach [] X.env := by rfl) (hpl : (backTo pos (starEach [e2] X.env)).any (·.1) = false := by rfl) : EJ X C W m (.Call (.Name x p2) [e1, e2] [] pos) (eBin g f1 f2) :=
  pe_weak (pe_callB hc hl hm hv (pa_cons h1 (pa_cons h2 pa_nil he2) he) hn hdb he hpl) fun σ H Q ⟨ρ, fp, eo, o⟩ => two (m1 := m1) (m2 := m2) eo o fun p q v u H2 s eo2 o2 r1 r2 => by
    obtain ⟨z, hz, hQ⟩ := Out.ofO o2
    exact hg H2 p q z v u Q hz (RepM.toB r1) (RepM.toB r2) fun w a => hQ w H2 s a.rm
def gMax2 : PV → PV → Option PV
  | .int i, .int j => some (.int (max i j))
  | _, _ => none
def gMin2 : PV → PV → Option PV
  | .int i, .int j => some (.int (min i j))
  | _, _ => none
theorem c_max2 : Call2A X.K (fun xs H Q => ∃ i j, xs = [.int i, .int j] ∧ Q (.int (if j > i then j else i)) H) gMax2 := fun H p q z v u Q hg r1 r2 k => by
  cases p <;> cases q <;> simp only [gMax2, reduceCtorEq, Option.some.injEq] at hg
  subst hg
  refine ⟨_, _, by rw [show v = .int _ from r1, show u = .int _ from r2], k _ ?_⟩
  rename_i i j
  have : (if j > i then j else i) = max i j := by
    split
    · exact (Int.max_eq_right (by omega)).symm
    · exact (Int.max_eq_left (by omega)).symm
  rw [this]; exact atom_int _
theorem c_min2 : Call2A X.K (fun xs H Q => ∃ i j, xs = [.int i, .int j] ∧ Q (.int (if j < i then j else i)) H) gMin2 := fun H p q z v u Q hg r1 r2 k => by
  cases p <;> cases q <;> simp only [gMin2, reduceCtorEq, Option.some.injEq] at hg
  subst hg
  refine ⟨_, _, by rw [show v = .int _ from r1, show u = .int _ from r2], k _ ?_⟩
  rename_i i j
  have : (if j < i then j else i) = min i j := by
    split
    · exact (Int.min_eq_right (by omega)).symm
    · exact (Int.min_eq_left (by omega)).symm
  rw [this]; exact atom_int _
/-! range(a, b, -1) -/
def downL (lo : Int) (n : Nat) : List PV := (List.range n).map fun (k : Nat) => .int (lo - (k : Int))
theorem iter_down {K : PySem.W.Frag} {A : Addr → Prop} {H0 : Hp} {rel : Hp → Prop} {lo : Int} {n : Nat} : IterOk K A H0 rel (Itc lo (-1) n) (downL lo n) := fun H B hr _ i => by
  refine ⟨fun p hp => ?_, fun hi => (by simpa [downL] using hi : n ≤ i)⟩
  rw [downL, List.getElem?_map] at hp
  by_cases hi : i < n
  · rw [List.getElem?_eq_getElem (by simpa using hi)] at hp
    simp only [List.getElem_range, Option.map_some, Option.some.injEq] at hp
    refine ⟨hi, fun x H' ⟨e1, e2⟩ => ?_⟩
    subst e1 e2 hp
    refine ⟨Same.refl _, ?_⟩
    show V.int _ = V.int _
    congr 1
    omega
  · rw [List.getElem?_eq_none (by simpa using Nat.le_of_not_lt hi)] at hp
    cases hp
def downR (i j : Int) : Res (List PV) := if bnd i = true ∧ bnd j = true then .ok (downL i (i - j).toNat) else .bad
def isM1 : PV → Bool
  | .int c => decide (c = -1)
  | _ => false
def stepR (i j : Int) (z : PV) : Res (List PV) := if isM1 z = true then downR i j else .bad
def lRange3 (f g h : E) : L := fun ρ => f ρ >>= fun x => g ρ >>= fun y => h ρ >>= fun z => intOf x >>= fun i => intOf y >>= fun j => stepR i j z
theorem ij_range3 {rel : Hp → Fp → Hp → Prop} (hg : Gl X "range") (hm : X.mg "range" = none) (h1 : EJ X C W m1 e1 f1) (h2 : EJ X C W m2 e2 f2) (h3 : EJ X C W m3 e3 f3) (hs : starEach [e1, e2, e3] X.env = (false, eval e1 X.env) :: starEach [e2, e3] X.env := by rfl) (hs2 : starEach [e2, e3] X.env = (false, eval e2 X.env) :: starEach [e3] X.env := by rfl)
    (hs3 : starEach [e3] X.env = (false, eval e3 X.env) :: starEach [] X.env := by rfl) (hpl : (backTo pos (starEach [e2, e3] X.env)).any (·.1) = false := by rfl) :
    IJ X C W rel tg (.Call (.Name "range" p2) [e1, e2, e3] [] pos) (lRange3 f1 f2 f3) :=
  pi_weak (pi_range3 hg hm (pa_cons h1 (pa_cons h2 (pa_cons h3 pa_nil hs3) hs2) hs) hs hpl) fun σ H R ⟨ρ, fp, eo, o⟩ => by
    refine ⟨ρ, fp, eo, (Out.bind o).mono (fun p o1 v H1 s1 r1 => ?_) fun _ _ q => q⟩
    refine ⟨ρ, fp, eo.same s1, (Out.bind o1).mono (fun q o2 u H2 s2 r2 => ?_) fun _ _ q => XQ.later s1 q⟩
    refine ⟨ρ, fp, eo.same (s1.trans s2), (Out.bind o2).mono (fun z o3 w H3 s3 r3 => ?_) fun _ _ q => XQ.later (s1.trans s2) q⟩
    cases p with
    | int i =>
      cases q with
      | int j =>
        have o4 : Out (stepR i j z) _ _ := o3
        unfold stepR at o4
        split at o4
        · rename_i hz
          cases z with
          | int c =>
            have hc : c = -1 := of_decide_eq_true hz
            subst hc
            unfold downR at o4
            split at o4
            · rename_i hb
              have hb : (-(2 ^ 62) ≤ i ∧ i < 2 ^ 62) ∧ -(2 ^ 62) ≤ j ∧ j < 2 ^ 62 := by simpa [bnd] using hb
              exact ⟨i, j, -1, (i - j).toNat, by rw [show v = .int i from RepM.toB r1, show u = .int j from RepM.toB r2, show w = .int (-1) from RepM.toB r3], RgC.neg hb.1.1 hb.1.2 hb.2.1 hb.2.2, o4 _ H3 (s1.trans (s2.trans s3)) iter_down⟩
            · exact o4.elim
          | _ => cases hz
        · exact o4.elim
      | _ => exact o3.elim
    | _ => exact o3.elim
/-! d.get(k), d.get(k, x) -/
def gGet (d k : PV) : Option PV := (lookD d k).map fun o => o.getD .non
def isDic : PV → Bool
  | .dic _ => true
  | .dit _ => true
  | _ => false
def eGet (f1 f2 : E) : E := fun ρ => f1 ρ >>= fun d => if isDic d = true then f2 ρ >>= fun k => ofO (gGet d k) else .bad
def eGet2 (f1 f2 f3 : E) : E := fun ρ => f1 ρ >>= fun d => if isDic d = true then f2 ρ >>= fun k => f3 ρ >>= fun x => ofO ((lookD d k).map fun o => o.getD x) else .bad
theorem isDic_at {K : PySem.W.Frag} {A : Addr → Prop} {H : Hp} {d : PV} {v : V} (h : isDic d = true) (r : RepI K A H d v) : ∃ a, v = .ref a ∧ IsD H a := by
  cases d <;> simp only [isDic, reduceCtorEq] at h
  · obtain ⟨a, ks, rfl, hr, _⟩ := r; exact ⟨a, rfl, .inl ⟨_, hr⟩⟩
  · obtain ⟨a, ks, rfl, hr, _⟩ := r; exact ⟨a, rfl, .inr ⟨_, hr⟩⟩
theorem ej_get {apos cpos : Pos} (hu : Hu X) (h1 : EJ X C W .I o f1) (h2 : EJ X C W m2 e f2)
    (hbase : attributeBase o "get" X.env (eval o X.env) = eval o X.env := by rfl)
    (hfew : ((backTo cpos (starEach [e] X.env)).all (fun x => !x.1) && (backToKw cpos (keywordEach [] X.env)).all (fun x => x.1.isSome) && decide (([e] : List Expr).length + ([] : List Keyword).length + (if ([] : List Keyword).isEmpty then 0 else 1) < 30)) = true := by rfl)
    (hline : (apos.endLine == cpos.line) = true := by rfl) (htr : backTo cpos (starEach [e] X.env) = [(false, eval e X.env)] := by rfl) :
    EJ X C W .E (.Call (.Attribute o "get" apos) [e] [] cpos) (eGet f1 f2) :=
  pe_weak (pe_dget1 hu.u1 h1 h2 ⟨hbase, hfew, hline, htr⟩) fun σ H Q ⟨ρ, fp, eo, q⟩ => by
    refine ⟨ρ, fp, eo, (Out.bind q).mono (fun d q1 v H1 s1 r1 => ?_) fun _ _ q => q⟩
    split at q1
    · rename_i hd
      obtain ⟨a, rfl, hD⟩ := isDic_at hd r1
      refine ⟨a, rfl, hD, ρ, fp, eo.same s1, (Out.bind q1).mono (fun k q2 u H2 s2 r2 => ?_) fun _ _ q => XQ.later s1 q⟩
      obtain ⟨z, hz, hQ⟩ := Out.ofO q2
      obtain ⟨oo, ho, rfl⟩ := Option.map_eq_some_iff.mp hz
      obtain ⟨a', ea, _, h⟩ := dget_of ho (RepM.same (m := .I) s2 r1) (RepM.toB r2)
      cases ea
      rcases h with ⟨rfl, g⟩ | ⟨p, w, rfl, g, r⟩
      · exact ⟨none, g, hQ _ H2 (s1.trans s2) rfl⟩
      · exact ⟨some w, g, hQ _ H2 (s1.trans s2) r⟩
    · exact q1.elim
theorem ej_get2 {apos cpos : Pos} (hu : Hu X) (h1 : EJ X C W .I o f1) (h2 : EJ X C W m2 e f2) (h3 : EJ X C W .E e3 f3)
    (hbase : attributeBase o "get" X.env (eval o X.env) = eval o X.env := by rfl)
    (hfew : ((backTo cpos (starEach [e, e3] X.env)).all (fun x => !x.1) && (backToKw cpos (keywordEach [] X.env)).all (fun x => x.1.isSome) && decide (([e, e3] : List Expr).length + ([] : List Keyword).length + (if ([] : List Keyword).isEmpty then 0 else 1) < 30)) = true := by rfl)
    (hline : (apos.endLine == cpos.line) = true := by rfl) (htr : backTo cpos (starEach [e, e3] X.env) = [(false, eval e X.env), (false, eval e3 X.env)] := by rfl) :
    EJ X C W .E (.Call (.Attribute o "get" apos) [e, e3] [] cpos) (eGet2 f1 f2 f3) :=
  pe_weak (pe_dget2 hu.u1 h1 h2 h3 ⟨hbase, hfew, hline, htr⟩) fun σ H Q ⟨ρ, fp, eo, q⟩ => by
    refine ⟨ρ, fp, eo, (Out.bind q).mono (fun d q1 v H1 s1 r1 => ?_) fun _ _ q => q⟩
    split at q1
    · rename_i hd
      obtain ⟨a, rfl, hD⟩ := isDic_at hd r1
      refine ⟨a, rfl, hD, ρ, fp, eo.same s1, (Out.bind q1).mono (fun k q2 u H2 s2 r2 => ?_) fun _ _ q => XQ.later s1 q⟩
      refine ⟨ρ, fp, eo.same (s1.trans s2), (Out.bind q2).mono (fun x q3 u3 H3 s3 r3 => ?_) fun _ _ q => XQ.later (s1.trans s2) q⟩
      obtain ⟨z, hz, hQ⟩ := Out.ofO q3
      obtain ⟨oo, ho, rfl⟩ := Option.map_eq_some_iff.mp hz
      obtain ⟨a', ea, _, h⟩ := dget_of ho (RepM.same (m := .I) (s2.trans s3) r1) (Rep.same s3 (RepM.toB r2))
      cases ea
      rcases h with ⟨rfl, g⟩ | ⟨p, w, rfl, g, r⟩
      · exact ⟨none, g, hQ _ H3 (s1.trans (s2.trans s3)) r3⟩
      · exact ⟨some w, g, hQ _ H3 (s1.trans (s2.trans s3)) r⟩
    · exact q1.elim
end
section
variable (ρ : Env) (i : Nat) (f f1 f2 f3 : E) (px : Px) (fo : O) (π : List Nat)
@[simp] theorem m_sBad : sBad ρ = .bad := (rfl)
@[simp] theorem m_lRange3 : lRange3 f1 f2 f3 ρ = f1 ρ >>= fun x => f2 ρ >>= fun y => f3 ρ >>= fun z => intOf x >>= fun i => intOf y >>= fun j => stepR i j z := (rfl)
@[simp] theorem stepR_m1 (i j : Int) : stepR i j (.int (-1)) = downR i j := (rfl)
@[simp] theorem m_eGet : eGet f1 f2 ρ = f1 ρ >>= fun d => if isDic d = true then f2 ρ >>= fun k => ofO (gGet d k) else .bad := (rfl)
@[simp] theorem m_eGet2 : eGet2 f1 f2 f3 ρ = f1 ρ >>= fun d => if isDic d = true then f2 ρ >>= fun k => f3 ρ >>= fun x => ofO ((lookD d k).map fun o => o.getD x) else .bad := (rfl)
@[simp] theorem isDic_dic (kvs : List (K1 × PV)) : isDic (.dic kvs) = true := (rfl)
@[simp] theorem lookD_str (kvs : List (K1 × PV)) (x : Tx) : lookD (.dic kvs) (.str x) = some (lookA kvs (.inr x)) := (rfl)
@[simp] theorem lookD_int (kvs : List (K1 × PV)) (x : Int) : lookD (.dic kvs) (.int x) = some (lookA kvs (.inl x)) := (rfl)
@[simp] theorem gIsB_bl (a b : Bool) : gIsB (.bl a) (.bl b) = some (decide (a = b)) := (rfl)
@[simp] theorem gNotB_bl (a b : Bool) : gNotB (.bl a) (.bl b) = some (!decide (a = b)) := (rfl)
@[simp] theorem gSum_ints (xs : List Int) : gSum (.lst (xs.map .int)) = some (.int xs.sum) := by simp [gSum]
@[simp] theorem gMax2_ii (i j : Int) : gMax2 (.int i) (.int j) = some (.int (max i j)) := (rfl)
@[simp] theorem gMin2_ii (i j : Int) : gMin2 (.int i) (.int j) = some (.int (min i j)) := (rfl)
@[simp] theorem m_sAppP : sAppP i px f ρ = withR (px ρ) ρ fun π => if isLN (nodeOf i ρ π) = true then withR (f ρ) ρ fun p => putT i ρ π ((nodeOf i ρ π).bind (appN p)) else .bad := (rfl)
@[simp] theorem m_sAppPO : sAppPO i px fo ρ = withR (px ρ) ρ fun π => if isLN (nodeOf i ρ π) = true then withR (fo ρ) ρ fun c => putT i ρ π ((nodeOf i ρ π).bind (appNO c)) else .bad := (rfl)
@[simp] theorem m_sExtP : sExtP i px f ρ = withR (px ρ) ρ fun π => if isLN (nodeOf i ρ π) = true then withR (f ρ) ρ fun p => putT i ρ π ((nodeOf i ρ π).bind (extN p)) else .bad := (rfl)
@[simp] theorem m_sClrP : sClrP i px ρ = withR (px ρ) ρ fun π => putT i ρ π ((nodeOf i ρ π).bind clrN) := (rfl)
@[simp] theorem m_sPutP : sPutP i px f1 f2 ρ = withR (f2 ρ) ρ fun v => withR (px ρ) ρ fun π => withR (f1 ρ) ρ fun k => putT i ρ π ((nodeOf i ρ π).bind (putN k v)) := (rfl)
@[simp] theorem m_sPutPO : sPutPO i px f1 fo ρ = withR (fo ρ) ρ fun c => withR (px ρ) ρ fun π => withR (f1 ρ) ρ fun k => putT i ρ π ((nodeOf i ρ π).bind (putNO k c)) := (rfl)
@[simp] theorem m_pxName : pxName i ρ = ofO ((ownT ρ[i]?).map fun _ => []) := (rfl)
@[simp] theorem m_pxIx : pxIx i px f ρ = px ρ >>= fun π => f ρ >>= fun k => ofO ((nodeOf i ρ π).bind fun n => (kidIdx n k).map fun j => π ++ [j]) := (rfl)
@[simp] theorem m_ePth (m : Mode) : ePth m i px ρ = px ρ >>= fun π => ofO ((nodeOf i ρ π).bind (ndM m)) := (rfl)
@[simp] theorem ownT_own (t : OT) : ownT (some (.own t)) = some t := (rfl)
@[simp] theorem m_nodeOf : nodeOf i ρ π = (ownT ρ[i]?).bind fun t => t.at π := (rfl)
@[simp] theorem at_nil (t : OT) : t.at [] = some t.core := (rfl)
@[simp] theorem put_nil (t n : OT) : t.put [] n = t.reP n := (rfl)
@[simp] theorem core_fz (p : PV) : (OT.fz p).core = .fz p := (rfl)
@[simp] theorem reP_fz (p : PV) (n : OT) : (OT.fz p).reP n = n := (rfl)
@[simp] theorem core_l (p : List PV) : (OT.l p).core = .l p := (rfl)
@[simp] theorem reP_l (p : List PV) (n : OT) : (OT.l p).reP n = n := (rfl)
@[simp] theorem core_d (p : List (K1 × PV)) : (OT.d p).core = .d p := (rfl)
@[simp] theorem reP_d (p : List (K1 × PV)) (n : OT) : (OT.d p).reP n = n := (rfl)
@[simp] theorem core_dt (p : List (List K1 × PV)) : (OT.dt p).core = .dt p := (rfl)
@[simp] theorem reP_dt (p : List (List K1 × PV)) (n : OT) : (OT.dt p).reP n = n := (rfl)
@[simp] theorem core_ins (c : String) (p : List (String × PV)) : (OT.ins c p).core = .ins c p := (rfl)
@[simp] theorem reP_ins (c : String) (p : List (String × PV)) (n : OT) : (OT.ins c p).reP n = n := (rfl)
@[simp] theorem core_T (p : List OT) : (OT.T p).core = .T p := (rfl)
@[simp] theorem reP_T (p : List OT) (n : OT) : (OT.T p).reP n = n := (rfl)
@[simp] theorem core_L (p : List OT) : (OT.L p).core = .L p := (rfl)
@[simp] theorem reP_L (p : List OT) (n : OT) : (OT.L p).reP n = n := (rfl)
@[simp] theorem core_D (p : List (K1 × OT)) : (OT.D p).core = .D p := (rfl)
@[simp] theorem reP_D (p : List (K1 × OT)) (n : OT) : (OT.D p).reP n = n := (rfl)
@[simp] theorem core_I (c : String) (p : List (String × OT)) : (OT.I c p).core = .I c p := (rfl)
@[simp] theorem reP_I (c : String) (p : List (String × OT)) (n : OT) : (OT.I c p).reP n = n := (rfl)
@[simp] theorem core_P (a : Addr) (t : OT) : (OT.P a t).core = t.core := (rfl)
@[simp] theorem reP_P (a : Addr) (t n : OT) : (OT.P a t).reP n = .P a (t.reP n) := (rfl)
end
end Fz
end
section
/-! Fya: comprehensions of own things: lists of lists, dicts. -/
namespace Fz
open PySem PySem.Spec PyProof.Rows L2
section
variable {X : Cx} {C : Addr → Prop} {W : WX} {e e1 e2 e3 tg iter : Expr} {pos p2 pn : Pos} {m m1 m2 m3 : Mode} {f f1 f2 f3 : E} {fo : O}
theorem EnvOk.blockS {K : PySem.W.Frag} {ρ : Env} {σ : L2.St} {H H' : Hp} {fp : Fp} {vs : List Nat} {S : Addr → Prop} (eo : EnvOk K C ρ σ H fp) (hs : shadowOk ρ vs = true) (hD : ∀ a, S a → H a = none) (keep : ∀ a o, H a = some o → H' a = some o) (hD' : ∀ a, S a → H' a ≠ none) :
    EnvOk K (fun a => C a ∧ ¬ S a) (wipeE ρ vs) (wipe σ vs) H' fp where
  len := by rw [wipeE_len, wipe_length]; exact eo.len
  slot := fun i s h => by
    rcases wipeE_get ρ σ h with ⟨rfl, hi⟩ | ⟨hi, h2, h3⟩
    · have := (List.all_eq_true.mp hs) i hi
      have hi2 : i < ρ.length := by
        have := (List.getElem?_eq_some_iff.mp h).1
        rwa [wipeE_len] at this
      have e : ρ[i]? = some ρ[i] := List.getElem?_eq_getElem hi2
      have sl := eo.slot i _ e
      rw [e] at this
      revert sl this
      cases ρ[i] with
      | u => intro _ h; exact h
      | val p => intro _ h; exact h.1
      | bor p => intro _ h; exact h.1
      | exn a od l => intro _ h; exact h.1
      | own t => intro h _; cases h
    · have sl := eo.slot i _ h2
      rw [h3]
      have c : Carry (Am C fp) (Am (fun a => C a ∧ ¬ S a) fp) H H' := Carry.mk' (fun a o q e => ⟨⟨q.1, fun z => by rw [hD a z] at e; cases e⟩, q.2⟩) (fun a o _ e => keep a o e) (fun a xs e => keep a _ e) fun a o u e => keep a _ e
      have cB : Carry (fun a => ¬ InF fp a) (fun a => ¬ InF fp a) H H' := Carry.mk' (fun a o q e => q) (fun a o _ e => keep a o e) (fun a xs e => keep a _ e) fun a o u e => keep a _ e
      revert sl
      cases s with
      | u => exact id
      | val p => rintro ⟨f, v, hv, r⟩; exact ⟨f, v, hv, Rep.carry c r⟩
      | bor p => rintro ⟨f, v, hv, r⟩; exact ⟨f, v, hv, Rep.carry cB r⟩
      | exn a od l => rintro ⟨f, hv, r⟩; exact ⟨f, hv, XSl.carry cB r⟩
      | own t => rintro ⟨v, hv, r⟩; exact ⟨v, hv, r.carry c fun a _ o q => keep a o q⟩
  out := fun i hi => eo.out i (by rwa [wipeE_len] at hi)
  inj := eo.inj
  nod := eo.nod
  cap := fun a h => ⟨eo.cap a h, fun z => by obtain ⟨o, ho, _⟩ := eo.live h; rw [hD a z] at ho; cases ho⟩
  new := fun a h => ⟨eo.new a (by
    cases z : H a with
    | none => rfl
    | some o => rw [keep a o z] at h; cases h), fun z => hD' a z h⟩
def uO (K : PySem.W.Frag) (f : O) : TE := fun σ H Q => ∃ D, tO K D W0 f σ H Q
theorem uO_ok (h : ∀ D, OJ X D W0 e fo) : PE X e (uO X.K fo) := ⟨fun pins s σ H Q I ⟨D, q⟩ => (h D).run pins s σ H Q I q⟩
def uB (K : PySem.W.Frag) (f : E) : TE := fun σ H Q => ∃ D, tE K D W0 .B f σ H Q
theorem uB_ok (h : ∀ D, EJ X D W0 .B e f) : PE X e (uB X.K f) := ⟨fun pins s σ H Q I ⟨D, q⟩ => (h D).run pins s σ H Q I q⟩
end
/-! lists of own things -/
def otR : Res OT → Option (Option OT)
  | .ok y => some (some y)
  | _ => none
def otT (el : O) (ρ : Env) : Res Bool → Option (Option OT)
  | .ok true => otR (el ρ)
  | .ok false => some none
  | _ => none
def turnO (g : G) (t : T) (el : O) (ρ : Env) (p : PV) : Option (Option OT) := match g p ρ with
  | none => none
  | some ρ1 => otT el ρ1 (t ρ1)
def loopO (g : G) (t : T) (el : O) (ρ : Env) : List PV → Option (List OT)
  | [] => some []
  | p :: ps => (turnO g t el ρ p).bind fun o => (loopO g t el ρ ps).map fun ys => match o with
    | some y => y :: ys
    | none => ys
def fitsO (ps : List OT) : Res OT := if ps.length ≤ sizeLine then .ok (.L ps) else .bad
def oCompO (l : L) (vs : List Nat) (g : G) (t : T) (el : O) : O := fun ρ => if shadowOk ρ vs = true then l ρ >>= fun ps => ofO (loopO g t el (wipeE ρ vs) ps) >>= fitsO else .bad
/-! dicts of own things -/
def dtR (k : Res PV) (y : Res OT) : Option (Option (K1 × OT)) := match k, y with
  | .ok p, .ok y => (keyOf p).map fun k => some (k, y)
  | _, _ => none
def dtT (ek : E) (el : O) (ρ : Env) : Res Bool → Option (Option (K1 × OT))
  | .ok true => dtR (ek ρ) (el ρ)
  | .ok false => some none
  | _ => none
def turnD (g : G) (t : T) (ek : E) (el : O) (ρ : Env) (p : PV) : Option (Option (K1 × OT)) := match g p ρ with
  | none => none
  | some ρ1 => dtT ek el ρ1 (t ρ1)
def loopD (g : G) (t : T) (ek : E) (el : O) (ρ : Env) : List PV → List (K1 × OT) → Option (List (K1 × OT))
  | [], acc => some acc
  | p :: ps, acc => (turnD g t ek el ρ p).bind fun o => match o with
    | some q => if acc.length < sizeLine then loopD g t ek el ρ ps (putA acc q.1 q.2) else none
    | none => loopD g t ek el ρ ps acc
def oDCompO (l : L) (vs : List Nat) (g : G) (t : T) (ek : E) (el : O) : O := fun ρ => if shadowOk ρ vs = true then l ρ >>= fun ps => ofO (loopD g t ek el (wipeE ρ vs) ps []) >>= fun kvs => .ok (.D kvs) else .bad
def fzs : List (K1 × OT) → Option (List (K1 × PV))
  | [] => some []
  | (k, .fz p) :: r => (fzs r).map ((k, p) :: ·)
  | _ :: _ => none
def flatD : OT → Res OT
  | .D kvs => ofO ((fzs kvs).map .d)
  | _ => .bad
def oDComp (l : L) (vs : List Nat) (g : G) (t : T) (ek ev : E) : O := fun ρ => oDCompO l vs g t ek (oOfE ev) ρ >>= flatD
section
variable {X : Cx} {C : Addr → Prop} {W : WX} {e e1 e2 e3 tg iter : Expr} {pos p2 pn : Pos} {m m1 m2 m3 : Mode} {f f1 f2 f3 : E} {fo : O}
theorem fitsO_out {ps : List OT} {P : OT → Prop} {E' : XF} (h : Out (fitsO ps) P E') : ps.length ≤ sizeLine ∧ P (.L ps) := by
  unfold fitsO at h
  split at h
  · rename_i hl; exact ⟨hl, h⟩
  · exact h.elim
theorem comp_readO {K : PySem.W.Frag} {l : L} {vs : List Nat} {g : G} {t : T} {el : O} {σ : L2.St} {H : Hp} {Q : VK} (h : tO K C W (oCompO l vs g t el) σ H Q) : tLc (tI K C W relS l) (uG vs K g) (uT K t) (uO K el) vs σ H Q := by
  obtain ⟨ρ, fp, eo, o⟩ := h
  unfold oCompO at o
  split at o
  case isFalse => exact o.elim
  rename_i hs
  refine ⟨ρ, fp, eo, (Out.bind o).mono (fun items o1 J H1 s1 it => ?_) fun _ _ q => q⟩
  intro D hD
  obtain ⟨res, hres, o2⟩ := Out.ofO (Out.bind o1)
  obtain ⟨hfit, k⟩ := fitsO_out o2
  have k : KO K (Am C fp) H1 (.L res) Q := KO.later k s1
  have eo1 := eo.same s1
  refine ⟨fun i m H => m = items.length - i ∧ ∃ acc accV F rest, (∀ a o, a ≠ D → H1 a = some o → H a = some o) ∧ H D = some (.lst accV) ∧ OTReps K (fun a => Am C fp a ∧ a ≠ D ∧ a ∉ F) H acc accV F ∧ F.Nodup ∧ (∀ a ∈ F, H1 a = none ∧ a ≠ D) ∧ loopO g t el (wipeE ρ vs) (items.drop i) = some rest ∧ res = acc ++ rest,
    ⟨_, rfl, [], [], [], res, fun a o ha e => by rw [upd_ne ha]; exact e, upd_same, ⟨rfl, rfl⟩, List.nodup_nil, (fun _ h => nomatch h), hres, rfl⟩, ?_⟩
  rintro i m H2 ⟨rfl, acc, accV, F, rest, keep, hDD, ra, nF, fF, hr, he⟩
  have sm : Same H1 H2 := fun a o e => keep a o (fun z => by rw [z, hD] at e; cases e) e
  have cB : Carry (Am C fp) (Am (fun a => C a ∧ ¬ (a = D ∨ a ∈ F)) fp) H1 H2 := Carry.mk' (fun a o q e => ⟨⟨q.1, fun z => z.elim (fun z => by rw [z, hD] at e; cases e) fun z => by rw [(fF a z).1] at e; cases e⟩, q.2⟩) (fun a o _ e => sm a o e) (fun a xs e => sm a _ e) fun a o u e => sm a _ e
  obtain ⟨it1, it2⟩ := it H2 _ sm cB i
  by_cases hi : i < items.length
  · have hx : items[i]? = some items[i] := List.getElem?_eq_getElem hi
    obtain ⟨go, yl⟩ := it1 _ hx
    rw [List.drop_eq_getElem_cons hi] at hr
    simp only [loopO] at hr
    cases eT : turnO g t el (wipeE ρ vs) items[i] with
    | none => rw [eT] at hr; cases hr
    | some ot =>
      rw [eT] at hr
      cases eL : loopO g t el (wipeE ρ vs) (items.drop (i + 1)) with
      | none => rw [eL] at hr; cases hr
      | some rest' =>
        rw [eL] at hr
        refine .inr ⟨go, fun H' => ∃ acc accV F rest, (∀ a o, a ≠ D → H1 a = some o → H' a = some o) ∧ H' D = some (.lst accV) ∧ OTReps K (fun a => Am C fp a ∧ a ≠ D ∧ a ∉ F) H' acc accV F ∧ F.Nodup ∧ (∀ a ∈ F, H1 a = none ∧ a ≠ D) ∧ loopO g t el (wipeE ρ vs) (items.drop (i + 1)) = some rest ∧ res = acc ++ rest,
          fun H' z => ⟨items.length - (i + 1), by omega, rfl, z⟩, fun x H' hy => ?_⟩
        obtain ⟨s2, r⟩ := yl x H' hy
        unfold turnO at eT
        cases eg : g items[i] (wipeE ρ vs) with
        | none => rw [eg] at eT; cases eT
        | some ρ1 =>
          rw [eg] at eT
          simp only at eT
          have sm' : Same H1 H' := sm.trans s2
          have hD' : H' D = some (.lst accV) := s2 _ _ hDD
          have liveF : ∀ a, (a = D ∨ a ∈ F) → H' a ≠ none := fun a z => by
            rcases z with z | z
            · rw [z, hD']; simp
            · obtain ⟨o, ho, _⟩ := OTReps.live ra a z
              rw [s2 _ _ ho]; simp
          have eb : EnvOk K (fun a => C a ∧ ¬ (a = D ∨ a ∈ F)) (wipeE ρ vs) (wipe σ vs) H' fp := eo1.blockS (S := fun a => a = D ∨ a ∈ F) hs (fun a z => z.elim (fun z => z ▸ hD) fun z => (fF a z).1) sm' liveF
          refine ⟨_, wipeE ρ vs, fp, items[i], ρ1, eb, r, eg, fun σ3 fp3 eo3 g3 b3 p3 => ⟨(b3.wipe).trans (wipe_wipe σ vs), ?_⟩⟩
          have stay : ∀ H4, Same H' H4 → (∀ a o, a ≠ D → H1 a = some o → H4 a = some o) ∧ H4 D = some (.lst accV) ∧ OTReps K (fun a => Am C fp a ∧ a ≠ D ∧ a ∉ F) H4 acc accV F := fun H4 s4 =>
            ⟨fun a o _ e => s4 a o (sm' a o e), s4 _ _ hD', OTReps.carry (Carry.same (s2.trans s4) fun _ q => q) (fun a _ o q => (s2.trans s4) a o q) ra⟩
          have inF : ∀ a, InF fp a → InF fp3 a := fun a ⟨j, hj⟩ => by
            by_cases hv : j ∈ vs
            · have : fp j = [] := by
                by_cases hl : j < (wipeE ρ vs).length
                · have e := List.getElem?_eq_getElem hl
                  rcases wipeE_get ρ σ e with ⟨z, _⟩ | ⟨z, _⟩
                  · have := eb.slot j _ e; rw [z] at this; exact this
                  · exact (z hv).elim
                · exact eb.out j (Nat.le_of_not_lt hl)
              rw [this] at hj; cases hj
            · exact ⟨j, by rw [p3 j hv]; exact hj⟩
          cases et : t ρ1 with
          | exc c fs => rw [et] at eT; cases eT
          | bad => rw [et] at eT; cases eT
          | ok b =>
            rw [et] at eT
            refine ⟨_, ρ1, fp3, eo3, ?_⟩
            rw [et]
            intro H4 s4
            obtain ⟨k1, k2, k3⟩ := stay H4 s4
            cases b with
            | false =>
              cases eT
              rw [if_neg (by simp)]
              refine ⟨acc, accV, F, rest', k1, k2, k3, nF, fF, eL, ?_⟩
              simp only [Option.map_some, Option.bind_some, Option.some.injEq] at hr
              rw [he, ← hr]
            | true =>
              rw [if_pos rfl]
              simp only [otT] at eT
              cases ee : el ρ1 with
              | exc c fs => rw [ee] at eT; cases eT
              | bad => rw [ee] at eT; cases eT
              | ok y =>
                rw [ee] at eT
                cases eT
                simp only [Option.map_some, Option.bind_some, Option.some.injEq] at hr
                refine ⟨_, ρ1, fp3, eo3.same s4, ?_⟩
                rw [ee]
                intro v H5 Fn s5 nn fn rv
                obtain ⟨k1, k2, k3⟩ := stay H5 (s4.trans s5)
                have old : ∀ a o, H' a = some o → a ∉ Fn := fun a o q z => by have := fn a z; rw [s4 _ _ q] at this; cases this
                have nD : D ∉ Fn := old D _ hD'
                have ra' : OTReps K (fun a => Am C fp a ∧ a ≠ D ∧ a ∉ F) H' acc accV F := OTReps.carry (Carry.same s2 fun _ q => q) (fun a _ o q => s2 a o q) ra
                have dF : ∀ a ∈ F, a ∉ Fn := fun a ha => by
                  cases z : H' a with
                  | none => exact (liveF a (.inr ha) z).elim
                  | some o => exact old a o z
                have nt : ∀ a, a ≠ D → (upd H5 D (.lst (accV ++ [v]))) a = H5 a := fun a h => upd_ne h
                refine ⟨accV, k2, ?_, acc ++ [y], accV ++ [v], F ++ Fn, rest', fun a o ha e => by rw [upd_ne ha]; exact k1 a o ha e, upd_same, OTReps.snoc (OTRep.carry ?_ (fun a ha o q => by rw [nt a (fun z => nD (z ▸ ha))]; exact q) rv) (OTReps.carry ?_ (fun a ha o q => by rw [nt a (fF a ha).2]; exact (s4.trans s5) _ _ q) ra'), List.nodup_append.mpr ⟨nF, nn, fun a ha b hb z => dF a ha (z ▸ hb)⟩, fun a ha => ?_, eL, ?_⟩
                · rw [OTReps.get k3]
                  rw [he, ← hr] at hfit
                  simp only [List.length_append, List.length_cons] at hfit
                  omega
                · refine Carry.mk' (fun a o q _ => ⟨⟨q.1.1.1, fun z => q.1.2 (inF a z)⟩, fun z => q.1.1.2 (.inl z), fun z => ?_⟩) (fun a o q z => by rw [nt a (fun y => q.1.1.2 (.inl y))]; exact z) (fun a xs z => by rw [nt a (fun y => by rw [y, k2] at z; cases z)]; exact z) fun a o u z => by rw [nt a (fun y => by rw [y, k2] at z; cases z)]; exact z
                  rcases List.mem_append.mp z with z | z
                  · exact q.1.1.2 (.inr z)
                  · exact q.2 z
                · refine Carry.mk' (fun a o q z => ⟨q.1, q.2.1, fun y => (List.mem_append.mp y).elim q.2.2 (old a o z)⟩) (fun a o q z => by rw [nt a q.2.1]; exact (s4.trans s5) _ _ z) (fun a xs z => by rw [nt a (fun y => by rw [y, hD'] at z; cases z)]; exact (s4.trans s5) _ _ z) fun a o u z => by rw [nt a (fun y => by rw [y, hD'] at z; cases z)]; exact (s4.trans s5) _ _ z
                · rcases List.mem_append.mp ha with z | z
                  · exact fF a z
                  · refine ⟨?_, fun y => nD (y ▸ z)⟩
                    cases q : H1 a with
                    | none => rfl
                    | some o => exact (old a o (sm' _ _ q) z).elim
                · rw [he, ← hr]; simp
  · rw [List.drop_eq_nil_of_le (Nat.le_of_not_lt hi)] at hr
    cases hr
    rw [List.append_nil] at he
    subst he
    refine .inl ⟨it2 (Nat.le_of_not_lt hi), k _ _ (D :: F) sm (List.nodup_cons.mpr ⟨fun z => (fF D z).2 rfl, nF⟩) (fun a h => (List.mem_cons.mp h).elim (fun z => z ▸ hD) fun z => (fF a z).1) ⟨D, accV, F, rfl, rfl, hDD, OTReps.carry (Carry.refl fun a _ q _ => ⟨q.1, fun z => (List.mem_cons.mp z).elim q.2.1 q.2.2⟩) (fun _ _ _ q => q) ra⟩⟩
theorem dcomp_read {K : PySem.W.Frag} {l : L} {vs : List Nat} {g : G} {t : T} {ek : E} {el : O} {σ : L2.St} {H : Hp} {Q : VK} (h : tO K C W (oDCompO l vs g t ek el) σ H Q) : tDc (tI K C W relS l) (uG vs K g) (uT K t) (uB K ek) (uO K el) vs σ H Q := by
  obtain ⟨ρ, fp, eo, o⟩ := h
  unfold oDCompO at o
  split at o
  case isFalse => exact o.elim
  rename_i hs
  refine ⟨ρ, fp, eo, (Out.bind o).mono (fun items o1 J H1 s1 it => ?_) fun _ _ q => q⟩
  intro D hD
  obtain ⟨res, hres, o2⟩ := Out.ofO (Out.bind o1)
  have k : KO K (Am C fp) H1 (.D res) Q := KO.later o2 s1
  have eo1 := eo.same s1
  refine ⟨fun i m H => m = items.length - i ∧ ∃ acc accV F, (∀ a o, a ≠ D → H1 a = some o → H a = some o) ∧ H D = some (.dK accV) ∧ OTRepK K (fun a => Am C fp a ∧ a ≠ D ∧ a ∉ F) H acc accV F ∧ F.Nodup ∧ (∀ a ∈ F, H1 a = none ∧ a ≠ D) ∧ (acc.map Prod.fst).Nodup ∧ loopD g t ek el (wipeE ρ vs) (items.drop i) acc = some res,
    ⟨_, rfl, [], [], [], fun a o ha e => by rw [upd_ne ha]; exact e, upd_same, ⟨rfl, rfl⟩, List.nodup_nil, (fun _ h => nomatch h), List.nodup_nil, hres⟩, ?_⟩
  rintro i m H2 ⟨rfl, acc, accV, F, keep, hDD, ra, nF, fF, nk, hr⟩
  have sm : Same H1 H2 := fun a o e => keep a o (fun z => by rw [z, hD] at e; cases e) e
  have cB : Carry (Am C fp) (Am (fun a => C a ∧ ¬ (a = D ∨ a ∈ F)) fp) H1 H2 := Carry.mk' (fun a o q e => ⟨⟨q.1, fun z => z.elim (fun z => by rw [z, hD] at e; cases e) fun z => by rw [(fF a z).1] at e; cases e⟩, q.2⟩) (fun a o _ e => sm a o e) (fun a xs e => sm a _ e) fun a o u e => sm a _ e
  obtain ⟨it1, it2⟩ := it H2 _ sm cB i
  by_cases hi : i < items.length
  · have hx : items[i]? = some items[i] := List.getElem?_eq_getElem hi
    obtain ⟨go, yl⟩ := it1 _ hx
    rw [List.drop_eq_getElem_cons hi] at hr
    simp only [loopD] at hr
    cases eT : turnD g t ek el (wipeE ρ vs) items[i] with
    | none => rw [eT] at hr; cases hr
    | some ot =>
      rw [eT] at hr
      simp only [Option.bind_some] at hr
      refine .inr ⟨go, fun H' => ∃ acc accV F, (∀ a o, a ≠ D → H1 a = some o → H' a = some o) ∧ H' D = some (.dK accV) ∧ OTRepK K (fun a => Am C fp a ∧ a ≠ D ∧ a ∉ F) H' acc accV F ∧ F.Nodup ∧ (∀ a ∈ F, H1 a = none ∧ a ≠ D) ∧ (acc.map Prod.fst).Nodup ∧ loopD g t ek el (wipeE ρ vs) (items.drop (i + 1)) acc = some res,
        fun H' z => ⟨items.length - (i + 1), by omega, rfl, z⟩, fun x H' hy => ?_⟩
      obtain ⟨s2, r⟩ := yl x H' hy
      unfold turnD at eT
      cases eg : g items[i] (wipeE ρ vs) with
      | none => rw [eg] at eT; cases eT
      | some ρ1 =>
        rw [eg] at eT
        simp only at eT
        have sm' : Same H1 H' := sm.trans s2
        have hD' : H' D = some (.dK accV) := s2 _ _ hDD
        have liveF : ∀ a, (a = D ∨ a ∈ F) → H' a ≠ none := fun a z => by
          rcases z with z | z
          · rw [z, hD']; simp
          · obtain ⟨o, ho, _⟩ := OTRepK.live ra a z
            rw [s2 _ _ ho]; simp
        have eb : EnvOk K (fun a => C a ∧ ¬ (a = D ∨ a ∈ F)) (wipeE ρ vs) (wipe σ vs) H' fp := eo1.blockS (S := fun a => a = D ∨ a ∈ F) hs (fun a z => z.elim (fun z => z ▸ hD) fun z => (fF a z).1) sm' liveF
        refine ⟨_, wipeE ρ vs, fp, items[i], ρ1, eb, r, eg, fun σ3 fp3 eo3 g3 b3 p3 => ⟨(b3.wipe).trans (wipe_wipe σ vs), ?_⟩⟩
        have stay : ∀ H4, Same H' H4 → (∀ a o, a ≠ D → H1 a = some o → H4 a = some o) ∧ H4 D = some (.dK accV) ∧ OTRepK K (fun a => Am C fp a ∧ a ≠ D ∧ a ∉ F) H4 acc accV F := fun H4 s4 =>
          ⟨fun a o _ e => s4 a o (sm' a o e), s4 _ _ hD', OTRepK.carry (Carry.same (s2.trans s4) fun _ q => q) (fun a _ o q => (s2.trans s4) a o q) ra⟩
        have inF : ∀ a, InF fp a → InF fp3 a := fun a ⟨j, hj⟩ => by
          by_cases hv : j ∈ vs
          · have : fp j = [] := by
              by_cases hl : j < (wipeE ρ vs).length
              · have e := List.getElem?_eq_getElem hl
                rcases wipeE_get ρ σ e with ⟨z, _⟩ | ⟨z, _⟩
                · have := eb.slot j _ e; rw [z] at this; exact this
                · exact (z hv).elim
              · exact eb.out j (Nat.le_of_not_lt hl)
            rw [this] at hj; cases hj
          · exact ⟨j, by rw [p3 j hv]; exact hj⟩
        cases et : t ρ1 with
        | exc c fs => rw [et] at eT; cases eT
        | bad => rw [et] at eT; cases eT
        | ok b =>
          rw [et] at eT
          refine ⟨_, ρ1, fp3, eo3, ?_⟩
          rw [et]
          intro H4 s4
          obtain ⟨k1, k2, k3⟩ := stay H4 s4
          cases b with
          | false =>
            cases eT
            rw [if_neg (by simp)]
            exact ⟨acc, accV, F, k1, k2, k3, nF, fF, nk, hr⟩
          | true =>
            rw [if_pos rfl]
            simp only [dtT] at eT
            cases ek0 : ek ρ1 with
            | exc c fs => rw [ek0] at eT; cases eT
            | bad => rw [ek0] at eT; cases eT
            | ok pk =>
              cases ee : el ρ1 with
              | exc c fs => rw [ek0, ee] at eT; cases eT
              | bad => rw [ek0, ee] at eT; cases eT
              | ok y =>
                rw [ek0, ee] at eT
                obtain ⟨kk, hkk, eT⟩ := Option.map_eq_some_iff.mp eT
                subst eT
                simp only at hr
                split at hr
                case isFalse => cases hr
                rename_i hlen
                refine ⟨_, ρ1, fp3, eo3.same s4, ?_⟩
                rw [ek0]
                intro vk H4' s4' rk
                refine ⟨_, ρ1, fp3, eo3.same (s4.trans s4'), ?_⟩
                rw [ee]
                intro v H5 Fn s5 nn fn rv
                have s45 : Same H' H5 := s4.trans (s4'.trans s5)
                obtain ⟨k1, k2, k3⟩ := stay H5 s45
                have old : ∀ a o, H' a = some o → a ∉ Fn := fun a o q z => by have := fn a z; rw [(s4.trans s4') _ _ q] at this; cases this
                have nD : D ∉ Fn := old D _ hD'
                have ra' : OTRepK K (fun a => Am C fp a ∧ a ≠ D ∧ a ∉ F) H' acc accV F := OTRepK.carry (Carry.same s2 fun _ q => q) (fun a _ o q => s2 a o q) ra
                have dF : ∀ a ∈ Fn, a ∉ F := fun a hn ha => by
                  cases z : H' a with
                  | none => exact (liveF a (.inr ha) z).elim
                  | some o => exact old a o z hn
                obtain ⟨nk2, F2, sub2, nod2, cl⟩ := OTRepK.put (c := y) (w := v) kk nn nk ra'
                have nt : ∀ a, a ≠ D → (upd H5 D (.dK (putK accV (Fz.k1 kk) v))) a = H5 a := fun a h => upd_ne h
                have ev : vk = kV (Fz.k1 kk) := rep_key (RepM.toB (m := .B) rk) hkk
                refine ⟨accV, _, ev, k2, by rw [OTRepK.len k3]; exact hlen, putA acc kk y, _, F2, fun a o ha e => by rw [upd_ne ha]; exact k1 a o ha e, upd_same, cl _ _ ?_ (fun a ha o q => by rw [nt a (fF a ha).2]; exact s45 _ _ q) (OTRep.carry ?_ (fun a ha o q => by rw [nt a (fun z => nD (z ▸ ha))]; exact q) rv), nod2 nF dF, fun a ha => ?_, nk2, hr⟩
                · refine Carry.mk' (fun a o q z => ⟨q.1, q.2.1, fun y => (sub2 a y).elim q.2.2 (old a o z)⟩) (fun a o q z => by rw [nt a q.2.1]; exact s45 _ _ z) (fun a xs z => by rw [nt a (fun y => by rw [y, hD'] at z; cases z)]; exact s45 _ _ z) fun a o u z => by rw [nt a (fun y => by rw [y, hD'] at z; cases z)]; exact s45 _ _ z
                · refine Carry.mk' (fun a o q _ => ⟨⟨q.1.1.1, fun z => q.1.2 (inF a z)⟩, fun z => q.1.1.2 (.inl z), fun z => ?_⟩) (fun a o q z => by rw [nt a (fun y => q.1.1.2 (.inl y))]; exact z) (fun a xs z => by rw [nt a (fun y => by rw [y, k2] at z; cases z)]; exact z) fun a o u z => by rw [nt a (fun y => by rw [y, k2] at z; cases z)]; exact z
                  rcases sub2 a z with z | z
                  · exact q.1.1.2 (.inr z)
                  · exact q.2 z
                · rcases sub2 a ha with z | z
                  · exact fF a z
                  · refine ⟨?_, fun y => nD (y ▸ z)⟩
                    cases q : H1 a with
                    | none => rfl
                    | some o => exact (old a o (sm' _ _ q) z).elim
  · rw [List.drop_eq_nil_of_le (Nat.le_of_not_lt hi)] at hr
    cases hr
    refine .inl ⟨it2 (Nat.le_of_not_lt hi), k _ _ (D :: F) sm (List.nodup_cons.mpr ⟨fun z => (fF D z).2 rfl, nF⟩) (fun a h => (List.mem_cons.mp h).elim (fun z => z ▸ hD) fun z => (fF a z).1) ⟨nk, D, accV, F, rfl, rfl, hDD, OTRepK.carry (Carry.refl fun a _ q _ => ⟨q.1, fun z => (List.mem_cons.mp z).elim q.2.1 q.2.2⟩) (fun _ _ _ q => q) ra⟩⟩

theorem fzs_rep {K : PySem.W.Frag} {A : Addr → Prop} {H : Hp} : ∀ {kvs : List (K1 × OT)} {qs : List (K1 × PV)} {ks : List (Key × V)} {F : List Addr}, fzs kvs = some qs → OTRepK K A H kvs ks F → F = [] ∧ RepK K A H qs ks
  | [], _, _, _, e, h => by cases e; rw [h.1, h.2]; exact ⟨rfl, rfl⟩
  | (k, t) :: kvs, qs, _, _, e, h => by
    obtain ⟨x, r, F1, F2, rfl, rfl, h1, h2⟩ := h
    cases t with
    | fz p =>
      obtain ⟨q', e', rfl⟩ := Option.map_eq_some_iff.mp e
      obtain ⟨e1, r1⟩ := h1
      obtain ⟨e2, r2⟩ := fzs_rep e' h2
      rw [e1, e2]
      exact ⟨rfl, x, r, rfl, r1, r2⟩
    | _ => cases e
theorem dcomp_readE {K : PySem.W.Frag} {l : L} {vs : List Nat} {g : G} {t : T} {ek ev : E} {σ : L2.St} {H : Hp} {Q : VK} (h : tO K C W (oDComp l vs g t ek ev) σ H Q) : tO K C W (oDCompO l vs g t ek (oOfE ev)) σ H Q := by
  obtain ⟨ρ, fp, eo, o⟩ := h
  refine ⟨ρ, fp, eo, (Out.bind o).mono (fun d o1 v H' Fn s n f r => ?_) fun _ _ q => q⟩
  cases d with
  | D kvs =>
    obtain ⟨qs, hq, q⟩ := Out.ofO (show Out (ofO ((fzs kvs).map OT.d)) _ _ from o1)
    obtain ⟨qs', hq', rfl⟩ := Option.map_eq_some_iff.mp hq
    obtain ⟨_, a, xs, F', rfl, rfl, ha, rr⟩ := r
    obtain ⟨rfl, r'⟩ := fzs_rep hq' rr
    exact q _ H' [a] s n f ⟨a, xs, rfl, rfl, ha, r'⟩
  | _ => exact o1.elim
/-- [el for ..], el own things -/
theorem oj_compO {elt : Expr} {ifs : List Expr} {scope : Scope} {own : List (Str × Nat)} {l : L} {g : G} {t : T} {el : O} (hc : X.calm = true) (hN : X.N.Nodup) (hi : IJ X C W relS tg iter l) (ok : BlkOk X.N X.env.scope scope own)
    (hg : ∀ (D : Addr → Prop) (s : Shared) (H : Hp) (c : Addr) (cl : List (Str × Addr)) (fp : List Addr), GJ (X.blk s H scope (compEnvC scope cl c X.env) fp) D (own.map (·.2)) tg g)
    (ht : ∀ (D : Addr → Prop) (s : Shared) (H : Hp) (c : Addr) (cl : List (Str × Addr)) (fp : List Addr), TsJ (X.blk s H scope (compEnvC scope cl c X.env) fp) D W0 ifs t)
    (he : ∀ (D : Addr → Prop) (s : Shared) (H : Hp) (c : Addr) (cl : List (Str × Addr)) (fp : List Addr), OJ (X.blk s H scope (compEnvC scope cl c X.env) fp) D W0 elt el) (hs : ∀ x, foldedSetIterable iter X.env x = pure x := by intro _; rfl) :
    OJ X C W (.ListComp elt [⟨tg, iter, ifs, 0⟩] scope pos) (oCompO l (own.map (·.2)) g t el) :=
  pe_weak (pe_lc hc hN hi ok (fun s H c cl fp => uG_ok fun D => hg D s H c cl fp) (fun s H c cl fp => uT_ok fun D => ht D s H c cl fp) (fun s H c cl fp => uO_ok fun D => he D s H c cl fp) hs) fun σ H Q h => comp_readO h
theorem sj_asgLcO {i : Nat} {y : Str} {py spos : Pos} {elt : Expr} {ifs : List Expr} {scope : Scope} {own : List (Str × Nat)} {l : L} {g : G} {t : T} {el : O} (hc : X.calm = true) (hN : X.N.Nodup) (hy : X.N[i]? = some y) (hyl : X.env.scope.names.lookup y = some .local)
    (hsw : swapsWith (.ListComp elt [⟨tg, iter, ifs, 0⟩] scope pos) (some (.Name y py)) spos.line X.env = pure true) (hi : IJ X C W relS tg iter l) (ok : BlkOk X.N X.env.scope scope own)
    (hg : ∀ (D : Addr → Prop) (s : Shared) (H : Hp) (c : Addr) (cl : List (Str × Addr)) (fp : List Addr), GJ (X.blk s H scope (compEnvC scope cl c X.env) fp) D (own.map (·.2)) tg g)
    (ht : ∀ (D : Addr → Prop) (s : Shared) (H : Hp) (c : Addr) (cl : List (Str × Addr)) (fp : List Addr), TsJ (X.blk s H scope (compEnvC scope cl c X.env) fp) D W0 ifs t)
    (he : ∀ (D : Addr → Prop) (s : Shared) (H : Hp) (c : Addr) (cl : List (Str × Addr)) (fp : List Addr), OJ (X.blk s H scope (compEnvC scope cl c X.env) fp) D W0 elt el) (hs : ∀ x, foldedSetIterable iter X.env x = pure x := by intro _; rfl) :
    SJ X C W (.Assign [.Name y py] (.ListComp elt [⟨tg, iter, ifs, 0⟩] scope pos) spos) (sAsg i (oCompO l (own.map (·.2)) g t el)) :=
  ps_weak (ps_setLc hc hN hy hyl hsw hi ok (fun s H c cl fp => uG_ok fun D => hg D s H c cl fp) (fun s H c cl fp => uT_ok fun D => ht D s H c cl fp) (fun s H c cl fp => uO_ok fun D => he D s H c cl fp) hs) fun D σ H h => comp_readO (asg_read h)
/-- {k: v for ..} -/
theorem oj_dcompO {kx vx : Expr} {ifs : List Expr} {scope : Scope} {own : List (Str × Nat)} {l : L} {g : G} {t : T} {ek : E} {el : O} (hc : X.calm = true) (hN : X.N.Nodup) (hi : IJ X C W relS tg iter l) (ok : BlkOk X.N X.env.scope scope own)
    (hg : ∀ (D : Addr → Prop) (s : Shared) (H : Hp) (c : Addr) (cl : List (Str × Addr)) (fp : List Addr), GJ (X.blk s H scope (compEnvC scope cl c X.env) fp) D (own.map (·.2)) tg g)
    (ht : ∀ (D : Addr → Prop) (s : Shared) (H : Hp) (c : Addr) (cl : List (Str × Addr)) (fp : List Addr), TsJ (X.blk s H scope (compEnvC scope cl c X.env) fp) D W0 ifs t)
    (hk : ∀ (D : Addr → Prop) (s : Shared) (H : Hp) (c : Addr) (cl : List (Str × Addr)) (fp : List Addr), EJ (X.blk s H scope (compEnvC scope cl c X.env) fp) D W0 .B kx ek)
    (he : ∀ (D : Addr → Prop) (s : Shared) (H : Hp) (c : Addr) (cl : List (Str × Addr)) (fp : List Addr), OJ (X.blk s H scope (compEnvC scope cl c X.env) fp) D W0 vx el) (hs : ∀ x, foldedSetIterable iter X.env x = pure x := by intro _; rfl) :
    OJ X C W (.DictComp kx vx [⟨tg, iter, ifs, 0⟩] scope pos) (oDCompO l (own.map (·.2)) g t ek el) :=
  pe_weak (pe_dc hc hN hi ok (fun s H c cl fp => uG_ok fun D => hg D s H c cl fp) (fun s H c cl fp => uT_ok fun D => ht D s H c cl fp) (fun s H c cl fp => uB_ok fun D => hk D s H c cl fp) (fun s H c cl fp => uO_ok fun D => he D s H c cl fp) hs) fun σ H Q h => dcomp_read h
theorem oj_dcomp {kx vx : Expr} {ifs : List Expr} {scope : Scope} {own : List (Str × Nat)} {l : L} {g : G} {t : T} {ek ev : E} (hc : X.calm = true) (hN : X.N.Nodup) (hi : IJ X C W relS tg iter l) (ok : BlkOk X.N X.env.scope scope own)
    (hg : ∀ (D : Addr → Prop) (s : Shared) (H : Hp) (c : Addr) (cl : List (Str × Addr)) (fp : List Addr), GJ (X.blk s H scope (compEnvC scope cl c X.env) fp) D (own.map (·.2)) tg g)
    (ht : ∀ (D : Addr → Prop) (s : Shared) (H : Hp) (c : Addr) (cl : List (Str × Addr)) (fp : List Addr), TsJ (X.blk s H scope (compEnvC scope cl c X.env) fp) D W0 ifs t)
    (hk : ∀ (D : Addr → Prop) (s : Shared) (H : Hp) (c : Addr) (cl : List (Str × Addr)) (fp : List Addr), EJ (X.blk s H scope (compEnvC scope cl c X.env) fp) D W0 .B kx ek)
    (he : ∀ (D : Addr → Prop) (s : Shared) (H : Hp) (c : Addr) (cl : List (Str × Addr)) (fp : List Addr), EJ (X.blk s H scope (compEnvC scope cl c X.env) fp) D W0 .E vx ev) (hs : ∀ x, foldedSetIterable iter X.env x = pure x := by intro _; rfl) :
    OJ X C W (.DictComp kx vx [⟨tg, iter, ifs, 0⟩] scope pos) (oDComp l (own.map (·.2)) g t ek ev) :=
  pe_weak (oj_dcompO hc hN hi ok hg ht hk (fun D s H c cl fp => oj_E (he D s H c cl fp)) hs) fun σ H Q h => dcomp_readE h
/-- y = {..}, on one line, y a local -/
theorem ps_setDc {i : Nat} {y : Str} {py : Pos} {kx vx tg iter : Expr} {ifs : List Expr} {scope : Scope} {own : List (Str × Nat)} {pos spos : Pos} {wi : TI} {g : TG} {tt : TT} {tk tv : TE} (hc : X.calm = true) (hN : X.N.Nodup) (hy : X.N[i]? = some y) (hyl : X.env.scope.names.lookup y = some .local)
    (hsw : swapsWith (.DictComp kx vx [⟨tg, iter, ifs, 0⟩] scope pos) (some (.Name y py)) spos.line X.env = pure true) (hi : PI X tg iter wi) (ok : BlkOk X.N X.env.scope scope own)
    (hg : ∀ (s : Shared) (H : Hp) (C : Addr) (cl : List (Str × Addr)) (fp : List Addr), PG (X.blk s H scope (compEnvC scope cl C X.env) fp) tg g) (ht : ∀ (s : Shared) (H : Hp) (C : Addr) (cl : List (Str × Addr)) (fp : List Addr), PTs (X.blk s H scope (compEnvC scope cl C X.env) fp) ifs tt)
    (hk : ∀ (s : Shared) (H : Hp) (C : Addr) (cl : List (Str × Addr)) (fp : List Addr), PE (X.blk s H scope (compEnvC scope cl C X.env) fp) kx tk)
    (he : ∀ (s : Shared) (H : Hp) (C : Addr) (cl : List (Str × Addr)) (fp : List Addr), PE (X.blk s H scope (compEnvC scope cl C X.env) fp) vx tv) (hs : ∀ x, foldedSetIterable iter X.env x = pure x := by intro _; rfl) :
    PS X (.Assign [.Name y py] (.DictComp kx vx [⟨tg, iter, ifs, 0⟩] scope pos) spos) (tAsg (tDc wi g tt tk tv (own.map (·.2))) (gName i)) := by
  refine ⟨fun pins s σ H D I h => ?_⟩
  rw [exec_Assign_Name_used _ _ _ _ hsw]
  refine wpAny_bind (wpAny_standAt (wpAny_bind ?_))
  show wpAny _ X.A (do let _ ← comprehension (.DictComp kx vx [⟨tg, iter, ifs, 0⟩] scope pos) scope X.env (firstIterPos [⟨tg, iter, ifs, 0⟩] pos) (newDict) false (eval iter X.env) (some (assign (.Name y py) X.env))) _ _ s
  have h : tDc wi g tt tk tv (own.map (·.2)) σ H (fun x H1 => gName i x σ H1 D.nx) := h
  refine wpAny_bind (thn (dc_core (Qf := fun _ s' => SP X pins D .next s') hc hN I hi ok hg ht hk he hs h fun L C s' m H' I' q hn f => ?_) fun _ s' hq => wpAny_pure (wpAny_pure hq))
  show wpAny _ _ (assign (.Name y py) X.env (.ref L)) _ _ _
  refine wpAny_assign_Name (store_ok2 (v := V.ref L) I' hN hy (.inl hyl) rfl (fun s2 I2 ⟨a, sb, ha⟩ => ?_) (.inr hyl))
  obtain ⟨f0, f1, f2, f3, f4, f5⟩ := f
  have haC : C ≠ a := by
    rcases ha with z | z
    · rw [z]; exact f1
    · exact fun e => f4 y a z e.symm
  refine ⟨m, hn.sameBut sb haC, fun h3 sb3 => ?_⟩
  exact ⟨_, H', I2.turned (t' := s2.toks) (fun b o hb e => (sb3.2 b hb).trans e) f0 f1 f3 f4 f5, q⟩
end
end Fz
namespace Fz
open PySem PySem.Spec PyProof.Rows L2
section
variable {X : Cx} {C : Addr → Prop} {W : WX} {tg iter : Expr}
theorem sw_trueD {kx vx : Expr} {gs : List Comprehension} {scope : Scope} {pos py : Pos} {y : Str} {l : Nat} {env : PySem.Env} (hk : env.scope.kind = .function) (hy : env.scope.names.lookup y = some .local) (hl : (py.line == pos.line) = true)
    (ha : (scope.names.any fun (n, k) => n == y && (k == .local || k == .cell)) = false) : swapsWith (.DictComp kx vx gs scope pos) (some (.Name y py)) l env = pure true := by
  have ky : env.kindOf y = some .local := hy
  have hb : env.blockKind = .function := by unfold PySem.Env.blockKind; rw [hk]; rfl
  unfold swapsWith
  simp only [hb, ky, ha, Expr.pos, hl]
  rfl
theorem sj_asgDcO {i : Nat} {y : Str} {py pos spos : Pos} {kx vx : Expr} {ifs : List Expr} {scope : Scope} {own : List (Str × Nat)} {l : L} {g : G} {t : T} {ek : E} {el : O} (hc : X.calm = true) (hN : X.N.Nodup) (hy : X.N[i]? = some y) (hyl : X.env.scope.names.lookup y = some .local)
    (hsw : swapsWith (.DictComp kx vx [⟨tg, iter, ifs, 0⟩] scope pos) (some (.Name y py)) spos.line X.env = pure true) (hi : IJ X C W relS tg iter l) (ok : BlkOk X.N X.env.scope scope own)
    (hg : ∀ (D : Addr → Prop) (s : Shared) (H : Hp) (c : Addr) (cl : List (Str × Addr)) (fp : List Addr), GJ (X.blk s H scope (compEnvC scope cl c X.env) fp) D (own.map (·.2)) tg g)
    (ht : ∀ (D : Addr → Prop) (s : Shared) (H : Hp) (c : Addr) (cl : List (Str × Addr)) (fp : List Addr), TsJ (X.blk s H scope (compEnvC scope cl c X.env) fp) D W0 ifs t)
    (hk : ∀ (D : Addr → Prop) (s : Shared) (H : Hp) (c : Addr) (cl : List (Str × Addr)) (fp : List Addr), EJ (X.blk s H scope (compEnvC scope cl c X.env) fp) D W0 .B kx ek)
    (he : ∀ (D : Addr → Prop) (s : Shared) (H : Hp) (c : Addr) (cl : List (Str × Addr)) (fp : List Addr), OJ (X.blk s H scope (compEnvC scope cl c X.env) fp) D W0 vx el) (hs : ∀ x, foldedSetIterable iter X.env x = pure x := by intro _; rfl) :
    SJ X C W (.Assign [.Name y py] (.DictComp kx vx [⟨tg, iter, ifs, 0⟩] scope pos) spos) (sAsg i (oDCompO l (own.map (·.2)) g t ek el)) :=
  ps_weak (ps_setDc hc hN hy hyl hsw hi ok (fun s H c cl fp => uG_ok fun D => hg D s H c cl fp) (fun s H c cl fp => uT_ok fun D => ht D s H c cl fp) (fun s H c cl fp => uB_ok fun D => hk D s H c cl fp) (fun s H c cl fp => uO_ok fun D => he D s H c cl fp) hs) fun D σ H h => dcomp_read (asg_read h)
theorem sj_asgDc {i : Nat} {y : Str} {py pos spos : Pos} {kx vx : Expr} {ifs : List Expr} {scope : Scope} {own : List (Str × Nat)} {l : L} {g : G} {t : T} {ek ev : E} (hc : X.calm = true) (hN : X.N.Nodup) (hy : X.N[i]? = some y) (hyl : X.env.scope.names.lookup y = some .local)
    (hsw : swapsWith (.DictComp kx vx [⟨tg, iter, ifs, 0⟩] scope pos) (some (.Name y py)) spos.line X.env = pure true) (hi : IJ X C W relS tg iter l) (ok : BlkOk X.N X.env.scope scope own)
    (hg : ∀ (D : Addr → Prop) (s : Shared) (H : Hp) (c : Addr) (cl : List (Str × Addr)) (fp : List Addr), GJ (X.blk s H scope (compEnvC scope cl c X.env) fp) D (own.map (·.2)) tg g)
    (ht : ∀ (D : Addr → Prop) (s : Shared) (H : Hp) (c : Addr) (cl : List (Str × Addr)) (fp : List Addr), TsJ (X.blk s H scope (compEnvC scope cl c X.env) fp) D W0 ifs t)
    (hk : ∀ (D : Addr → Prop) (s : Shared) (H : Hp) (c : Addr) (cl : List (Str × Addr)) (fp : List Addr), EJ (X.blk s H scope (compEnvC scope cl c X.env) fp) D W0 .B kx ek)
    (he : ∀ (D : Addr → Prop) (s : Shared) (H : Hp) (c : Addr) (cl : List (Str × Addr)) (fp : List Addr), EJ (X.blk s H scope (compEnvC scope cl c X.env) fp) D W0 .E vx ev) (hs : ∀ x, foldedSetIterable iter X.env x = pure x := by intro _; rfl) :
    SJ X C W (.Assign [.Name y py] (.DictComp kx vx [⟨tg, iter, ifs, 0⟩] scope pos) spos) (sAsg i (oDComp l (own.map (·.2)) g t ek ev)) :=
  ps_weak (ps_setDc hc hN hy hyl hsw hi ok (fun s H c cl fp => uG_ok fun D => hg D s H c cl fp) (fun s H c cl fp => uT_ok fun D => ht D s H c cl fp) (fun s H c cl fp => uB_ok fun D => hk D s H c cl fp) (fun s H c cl fp => uO_ok fun D => oj_E (he D s H c cl fp)) hs) fun D σ H h => dcomp_read (dcomp_readE (asg_read h))
end
/-! ### to reckon -/
@[simp] theorem ts_D (p : List (K1 × OT)) : toSlot (.D p) = .own (.D p) := (rfl)
@[simp] theorem ts_L (p : List OT) : toSlot (.L p) = .own (.L p) := (rfl)
@[simp] theorem ts_T (p : List OT) : toSlot (.T p) = .own (.T p) := (rfl)
@[simp] theorem otR_ok (y : OT) : otR (.ok y) = some (some y) := (rfl)
@[simp] theorem otT_true (el : O) (ρ : Env) : otT el ρ (.ok true) = otR (el ρ) := (rfl)
@[simp] theorem otT_false (el : O) (ρ : Env) : otT el ρ (.ok false) = some none := (rfl)
@[simp] theorem dtR_str (x : Tx) (y : OT) : dtR (.ok (.str x)) (.ok y) = some (some (.inr x, y)) := (rfl)
@[simp] theorem dtR_int (x : Int) (y : OT) : dtR (.ok (.int x)) (.ok y) = some (some (.inl x, y)) := (rfl)
@[simp] theorem dtT_true (ek : E) (el : O) (ρ : Env) : dtT ek el ρ (.ok true) = dtR (ek ρ) (el ρ) := (rfl)
@[simp] theorem dtT_false (ek : E) (el : O) (ρ : Env) : dtT ek el ρ (.ok false) = some none := (rfl)
def turnO' (t : T) (el : O) : Option Env → Option (Option OT)
  | none => none
  | some ρ1 => otT el ρ1 (t ρ1)
@[simp] theorem m_turnO (g : G) (t : T) (el : O) (ρ : Env) (p : PV) : turnO g t el ρ p = turnO' t el (g p ρ) := (rfl)
@[simp] theorem turnO'_some (t : T) (el : O) (ρ : Env) : turnO' t el (some ρ) = otT el ρ (t ρ) := (rfl)
def turnD' (t : T) (ek : E) (el : O) : Option Env → Option (Option (K1 × OT))
  | none => none
  | some ρ1 => dtT ek el ρ1 (t ρ1)
@[simp] theorem m_turnD (g : G) (t : T) (ek : E) (el : O) (ρ : Env) (p : PV) : turnD g t ek el ρ p = turnD' t ek el (g p ρ) := (rfl)
@[simp] theorem turnD'_some (t : T) (ek : E) (el : O) (ρ : Env) : turnD' t ek el (some ρ) = dtT ek el ρ (t ρ) := (rfl)
/-- different keys, one after another -/
theorem putA_new {κ β : Type} [DecidableEq κ] {kvs : List (κ × β)} {k : κ} (h : k ∉ kvs.map Prod.fst) (b : β) : putA kvs k b = kvs ++ [(k, b)] := by
  unfold putA
  rw [if_neg]
  intro z
  obtain ⟨q, hq, e⟩ := List.any_eq_true.mp z
  exact h (List.mem_map.mpr ⟨q, hq, of_decide_eq_true e⟩)
theorem loopD_map {α : Type} {g : G} {t : T} {ek : E} {el : O} {ρ : Env} {inj : α → PV} {ky : α → K1} {F : α → OT} : ∀ {xs : List α} {acc : List (K1 × OT)}, (∀ x ∈ xs, turnD g t ek el ρ (inj x) = some (some (ky x, F x))) → (acc.map Prod.fst ++ xs.map ky).Nodup → acc.length + xs.length ≤ sizeLine →
    loopD g t ek el ρ (xs.map inj) acc = some (acc ++ xs.map fun x => (ky x, F x))
  | [], acc, _, _, _ => by simp [loopD]
  | x :: xs, acc, h, hn, hl => by
    rw [List.map_cons]
    unfold loopD
    rw [h x List.mem_cons_self]
    simp only [Option.bind_some]
    have hx : ky x ∉ acc.map Prod.fst := fun z => by
      have := (List.nodup_append.mp hn).2.2
      exact this _ z (ky x) (by simp) rfl
    rw [if_pos (by simp at hl; omega), putA_new hx, loopD_map (fun y hy => h y (List.mem_cons_of_mem _ hy)) (by simpa using hn) (by simp at hl ⊢; omega)]
    simp
theorem fzs_map {α : Type} {ky : α → K1} {F : α → PV} : ∀ xs : List α, fzs (xs.map fun x => (ky x, .fz (F x))) = some (xs.map fun x => (ky x, F x))
  | [] => rfl
  | x :: xs => by
    show (fzs (xs.map fun x => (ky x, .fz (F x)))).map _ = _
    rw [fzs_map xs]; rfl
theorem oDCompO_map {α : Type} {l : L} {vs : List Nat} {g : G} {t : T} {ek : E} {el : O} {ρ : Env} (inj : α → PV) (ky : α → K1) (F : α → OT) (xs : List α) (h1 : shadowOk ρ vs = true) (h2 : l ρ = .ok (xs.map inj)) (h3 : ∀ x ∈ xs, turnD g t ek el (wipeE ρ vs) (inj x) = some (some (ky x, F x))) (hn : (xs.map ky).Nodup) (h4 : xs.length ≤ sizeLine) :
    oDCompO l vs g t ek el ρ = .ok (.D (xs.map fun x => (ky x, F x))) := by
  unfold oDCompO
  rw [if_pos h1, h2, bind_ok, loopD_map h3 (by simpa using hn) (by simpa using h4)]
  rfl
theorem oDComp_map {α : Type} {l : L} {vs : List Nat} {g : G} {t : T} {ek ev : E} {ρ : Env} (inj : α → PV) (ky : α → K1) (F : α → PV) (xs : List α) (h1 : shadowOk ρ vs = true) (h2 : l ρ = .ok (xs.map inj)) (h3 : ∀ x ∈ xs, turnD g t ek (oOfE ev) (wipeE ρ vs) (inj x) = some (some (ky x, .fz (F x)))) (hn : (xs.map ky).Nodup) (h4 : xs.length ≤ sizeLine) :
    oDComp l vs g t ek ev ρ = .ok (.d (xs.map fun x => (ky x, F x))) := by
  unfold oDComp
  rw [oDCompO_map inj ky (fun x => .fz (F x)) xs h1 h2 h3 hn h4, bind_ok]
  show ofO ((fzs (xs.map fun x => (ky x, OT.fz (F x)))).map OT.d) = _
  rw [fzs_map]
  rfl
theorem loopO_map {α : Type} {g : G} {t : T} {el : O} {ρ : Env} {inj : α → PV} {F : α → OT} : ∀ {xs : List α}, (∀ x ∈ xs, turnO g t el ρ (inj x) = some (some (F x))) → loopO g t el ρ (xs.map inj) = some (xs.map F)
  | [], _ => rfl
  | x :: xs, h => by
    rw [List.map_cons]
    unfold loopO
    rw [h x List.mem_cons_self, loopO_map fun y hy => h y (List.mem_cons_of_mem _ hy)]
    rfl
theorem oCompO_map {α : Type} {l : L} {vs : List Nat} {g : G} {t : T} {el : O} {ρ : Env} (inj : α → PV) (F : α → OT) (xs : List α) (h1 : shadowOk ρ vs = true) (h2 : l ρ = .ok (xs.map inj)) (h3 : ∀ x ∈ xs, turnO g t el (wipeE ρ vs) (inj x) = some (some (F x))) (h4 : xs.length ≤ sizeLine) :
    oCompO l vs g t el ρ = .ok (.L (xs.map F)) := by
  unfold oCompO
  rw [if_pos h1, h2, bind_ok, loopO_map h3, ofO_some, bind_ok]
  unfold fitsO
  exact if_pos (by rw [List.length_map]; exact h4)
end Fz
end
section
/-! Fyb: dicts walked by their keys; sorted, list, len of dicts. -/
namespace Fz
open PySem PySem.Spec PyProof.Rows L2
def keyPV : K1 → PV
  | .inl i => .int i
  | .inr x => .str x
theorem rep_keyPV {K : PySem.W.Frag} {A : Addr → Prop} {H : Hp} (k : K1) : Rep K A H (keyPV k) (kV (k1 k)) := by cases k <;> rfl
section
variable {K : PySem.W.Frag} {C : Addr → Prop} {ρ : Env} {σ : L2.St} {H H' : Hp} {fp : Fp}
theorem EnvOk.via (e : EnvOk K C ρ σ H fp) (c : Carry (Am C fp) (Am C fp) H H') (cB : Carry (fun a => ¬ InF fp a) (fun a => ¬ InF fp a) H H') (ko : ∀ a, InF fp a → ∀ o, H a = some o → H' a = some o) (kn : ∀ a, H' a = none → H a = none) : EnvOk K C ρ σ H' fp where
  len := e.len
  slot := fun i sl h => by
    have := e.slot i sl h
    revert this
    cases sl with
    | u => exact id
    | val p => rintro ⟨f, v, hv, r⟩; exact ⟨f, v, hv, Rep.carry c r⟩
    | bor p => rintro ⟨f, v, hv, r⟩; exact ⟨f, v, hv, Rep.carry cB r⟩
    | exn a od l => rintro ⟨f, hv, r⟩; exact ⟨f, hv, XSl.carry cB r⟩
    | own t => rintro ⟨v, hv, r⟩; exact ⟨v, hv, r.carry c fun a ha o q => ko a ⟨i, ha⟩ o q⟩
  out := e.out
  inj := e.inj
  nod := e.nod
  cap := e.cap
  new := fun a h => e.new a (kn a h)
theorem carry_lock {A : Addr → Prop} {d : Addr} {od : Obj} {ks : List (Key × V)} (hd : H d = some (.dK ks)) : Carry A A H (upd H d (.frz od (.dK ks))) where
  rdK := fun a u ha h => ⟨ha, by
    by_cases z : a = d
    · subst z
      rcases h with h | ⟨o, h⟩ <;> rw [hd] at h <;> cases h
      exact .inr ⟨od, upd_same⟩
    · exact h.imp (fun h => by rw [upd_ne z]; exact h) fun ⟨o, h⟩ => ⟨o, by rw [upd_ne z]; exact h⟩⟩
  rdT := fun a u ha h => ⟨ha, by
    by_cases z : a = d
    · subst z
      rcases h with h | ⟨o, h⟩ <;> rw [hd] at h <;> cases h
    · exact h.imp (fun h => by rw [upd_ne z]; exact h) fun ⟨o, h⟩ => ⟨o, by rw [upd_ne z]; exact h⟩⟩
  lst := fun a xs ha h => ⟨ha, by rw [upd_ne (fun z => by rw [z, hd] at h; cases h)]; exact h⟩
  ins := fun a c dx xs ha h => ⟨ha, by rw [upd_ne (fun z => by rw [z, hd] at h; cases h)]; exact h⟩
  xds := fun a xs ha h => ⟨ha, by rw [upd_ne (fun z => by rw [z, hd] at h; cases h)]; exact h⟩
  tup := fun a xs h => by rw [upd_ne (fun z => by rw [z, hd] at h; cases h)]; exact h
  scr := fun a o xs h => by rw [upd_ne (fun z => by rw [z, hd] at h; cases h)]; exact h
theorem carry_unlock {A : Addr → Prop} {d : Addr} {od : Obj} {ks : List (Key × V)} (hd : H d = some (.frz od (.dK ks))) : Carry A A H (upd H d (.dK ks)) where
  rdK := fun a u ha h => ⟨ha, by
    by_cases z : a = d
    · subst z
      rcases h with h | ⟨o, h⟩ <;> rw [hd] at h <;> cases h
      exact .inl upd_same
    · exact h.imp (fun h => by rw [upd_ne z]; exact h) fun ⟨o, h⟩ => ⟨o, by rw [upd_ne z]; exact h⟩⟩
  rdT := fun a u ha h => ⟨ha, by
    by_cases z : a = d
    · subst z
      rcases h with h | ⟨o, h⟩ <;> rw [hd] at h <;> cases h
    · exact h.imp (fun h => by rw [upd_ne z]; exact h) fun ⟨o, h⟩ => ⟨o, by rw [upd_ne z]; exact h⟩⟩
  lst := fun a xs ha h => ⟨ha, by rw [upd_ne (fun z => by rw [z, hd] at h; cases h)]; exact h⟩
  ins := fun a c dx xs ha h => ⟨ha, by rw [upd_ne (fun z => by rw [z, hd] at h; cases h)]; exact h⟩
  xds := fun a xs ha h => ⟨ha, by rw [upd_ne (fun z => by rw [z, hd] at h; cases h)]; exact h⟩
  tup := fun a xs h => by rw [upd_ne (fun z => by rw [z, hd] at h; cases h)]; exact h
  scr := fun a o xs h => by rw [upd_ne (fun z => by rw [z, hd] at h; cases h)]; exact h
theorem EnvOk.lock {d : Addr} {od : Obj} {ks : List (Key × V)} (e : EnvOk K C ρ σ H fp) (nd : ¬ InF fp d) (hd : H d = some (.dK ks)) : EnvOk K C ρ σ (upd H d (.frz od (.dK ks))) fp :=
  e.via (carry_lock hd) (carry_lock hd) (fun a ha o q => by rw [upd_ne (fun z => nd (by rw [← z]; exact ha))]; exact q) fun a h => by
    by_cases z : a = d
    · subst z; rw [upd_same] at h; cases h
    · rwa [upd_ne z] at h
theorem EnvOk.unlock {d : Addr} {od : Obj} {ks : List (Key × V)} (e : EnvOk K C ρ σ H fp) (nd : ¬ InF fp d) (hd : H d = some (.frz od (.dK ks))) : EnvOk K C ρ σ (upd H d (.dK ks)) fp :=
  e.via (carry_unlock hd) (carry_unlock hd) (fun a ha o q => by rw [upd_ne (fun z => nd (by rw [← z]; exact ha))]; exact q) fun a h => by
    by_cases z : a = d
    · subst z; rw [upd_same] at h; cases h
    · rwa [upd_ne z] at h
end
def keysOfS : Option Slot → Res (List PV)
  | some (.val (.dic kvs)) => .ok (kvs.map fun q => keyPV q.1)
  | _ => .bad
/-- the keys of the dict of slot i -/
def lKeysV (i : Nat) : L := fun ρ => keysOfS ρ[i]?
theorem lKeys_inv {i : Nat} {ρ : Env} {ps : List PV} (h : lKeysV i ρ = .ok ps) : ∃ kvs, ρ[i]? = some (.val (.dic kvs)) ∧ ps = kvs.map fun q => keyPV q.1 := by
  unfold lKeysV keysOfS at h
  split at h
  · rename_i kvs e; cases h; exact ⟨kvs, e, rfl⟩
  · cases h
theorem lKeys_noexc {i : Nat} {ρ : Env} {c : String} {fs : Option (List (String × PV))} : lKeysV i ρ ≠ .exc c fs := by
  unfold lKeysV keysOfS
  split <;> intro h <;> cases h
section
variable {X : Cx} {C : Addr → Prop} {W : WX} {e e1 e2 e3 tg iter : Expr} {pos p2 pn : Pos} {m m1 m2 m3 : Mode} {f f1 f2 f3 : E} {fo : O}
/-- a name's dict -/
def DicAt (σ : L2.St) (H : Hp) (i : Nat) : Prop := ∃ d o ks, σ[i]? = some (some (.ref d)) ∧ H d = some (.frz o (.dK ks))
theorem repK_get {K : PySem.W.Frag} {A : Addr → Prop} {H : Hp} : ∀ {kvs : List (K1 × PV)} {ks : List (Key × V)}, RepK K A H kvs ks → ks.map (·.1) = kvs.map fun q => k1 q.1
  | [], _, h => by rw [show _ = [] from h]; rfl
  | (k, p) :: kvs, _, h => by
    obtain ⟨x, r, rfl, h1, h2⟩ := h
    simp [repK_get h2]
theorem iter_keys {K : PySem.W.Frag} {A : Addr → Prop} {H0 : Hp} {rel : Hp → Prop} {d : Addr} {o : Obj} {kvs : List (K1 × PV)} {ks : List (Key × V)} (r : RepK K A H0 kvs ks) (h : ∀ H, rel H → H d = some (.frz o (.dK ks))) : IterOk K A H0 rel (Itk d o ks) (kvs.map fun q => keyPV q.1) := fun H B hr c i => by
  have h1 := h H hr
  have hl := r.len
  refine ⟨fun p hp => ?_, fun hi => ⟨h1, by rw [hl]; simpa using hi⟩⟩
  rw [List.getElem?_map] at hp
  obtain ⟨q, hq, rfl⟩ := Option.map_eq_some_iff.mp hp
  refine ⟨⟨h1, by rw [hl]; exact (List.getElem?_eq_some_iff.mp hq).1⟩, fun x H' ⟨e1, k, v, e2, e3⟩ => ?_⟩
  subst e1 e3
  refine ⟨Same.refl _, ?_⟩
  have := congrArg (fun l => l[i]?) (repK_get r)
  simp only [List.getElem?_map, hq, e2, Option.map_some, Option.some.injEq] at this
  rw [this]
  exact rep_keyPV q.1
theorem keys_tI {i : Nat} {rel : Hp → Fp → Hp → Prop} (hrel : ∀ H fp H' d o u, rel H fp H' → H d = some (.frz o u) → H' d = some (.frz o u)) {σ : L2.St} {H : Hp} {R : It → Hp → Prop} (hD : DicAt σ H i) (h : tI X.K C W rel (lKeysV i) σ H R) : iKeys (tVar i) σ H R := by
  obtain ⟨ρ, fp, eo, q⟩ := h
  cases e : lKeysV i ρ with
  | bad => rw [e] at q; exact q.elim
  | exc c fs => exact (lKeys_noexc e).elim
  | ok ps =>
    rw [e] at q
    obtain ⟨kvs, hs, rfl⟩ := lKeys_inv e
    obtain ⟨d, o, ks, hσ, hd⟩ := hD
    obtain ⟨_, v, hv, r⟩ := eo.slot i _ hs
    rw [hσ] at hv; cases hv
    obtain ⟨a, ks', ea, _, hr, rr⟩ := r
    cases ea
    have : ks' = ks := by
      rcases hr with hr | ⟨o', hr⟩ <;> rw [hd] at hr <;> cases hr
      rfl
    subst this
    exact ⟨.ref d, hσ, d, o, rfl, .inl ⟨ks', hd, q _ H (Same.refl H) (iter_keys rr fun H' hr' => hrel _ _ _ _ _ _ hr' hd)⟩⟩
/-- an expression over a dict's keys: the dict is locked meanwhile -/
theorem lockE_of {i : Nat} {t : TE} (ne : ∀ ρ c fs, fo ρ ≠ .exc c fs) (isd : ∀ ρ o, fo ρ = .ok o → ∃ kvs, ρ[i]? = some (.val (.dic kvs))) (h : ∀ σ H Q, DicAt σ H i → tO X.K C W fo σ H Q → t σ H Q) {σ : L2.St} {H : Hp} {Q : VK} (q : tO X.K C W fo σ H Q) : t σ H Q ∨ tLockE t σ H Q := by
  obtain ⟨ρ, fp, eo, q⟩ := q
  cases e : fo ρ with
  | bad => rw [e] at q; exact q.elim
  | exc c fs => exact (ne _ _ _ e).elim
  | ok o =>
    rw [e] at q
    obtain ⟨kvs, hs⟩ := isd ρ o e
    obtain ⟨_, v, hv, r⟩ := eo.slot i _ hs
    obtain ⟨d, ks, rfl, hA, hr, rr⟩ := r
    rcases hr with hd | ⟨ob, hd⟩
    · right
      refine ⟨d, .dK ks, hd, trivial, fun od => h _ _ _ ⟨d, od, ks, hv, upd_same⟩ ⟨ρ, fp, eo.lock hA.2 hd, ?_⟩⟩
      rw [e]
      intro v H' Fn s n f r
      have hd' : H' d = some (.frz od (.dK ks)) := s _ _ upd_same
      have nF : d ∉ Fn := fun z => by have := f d z; rw [upd_same] at this; cases this
      refine ⟨hd', q v _ Fn (fun a o' z => ?_) n (fun a ha => ?_) (OTRep.carry (carry_unlock hd') (fun a ha o' z => by rw [upd_ne (fun y => nF (by rw [← y]; exact ha))]; exact z) r)⟩
      · by_cases y : a = d
        · subst y; rw [hd] at z; cases z; exact upd_same
        · rw [upd_ne y]; exact s _ _ (by rw [upd_ne y]; exact z)
      · have := f a ha
        rwa [upd_ne (fun y => nF (by rw [← y]; exact ha))] at this
    · left
      exact h _ _ _ ⟨d, ob, ks, hv, hd⟩ ⟨ρ, fp, eo, by rw [e]; exact q⟩
theorem relS_frz {H : Hp} {fp : Fp} {H' : Hp} {d : Addr} {o : Obj} {u : HO} (r : relS H fp H') (h : H d = some (.frz o u)) : H' d = some (.frz o u) := r _ _ h
theorem oComp_inv {l : L} {vs : List Nat} {g : G} {t : T} {el : E} {ρ : Env} {o : OT} (h : oComp l vs g t el ρ = .ok o) : ∃ ps, l ρ = .ok ps := by
  unfold oComp at h
  split at h
  · obtain ⟨ps, e, _⟩ := bind_ok_inv h; exact ⟨ps, e⟩
  · cases h
theorem oComp_ne {l : L} {vs : List Nat} {g : G} {t : T} {el : E} {ρ : Env} {c : String} {fs : Option (List (String × PV))} (hl : ∀ c fs, l ρ ≠ .exc c fs) : oComp l vs g t el ρ ≠ .exc c fs := by
  unfold oComp
  split
  · cases e : l ρ with
    | exc c fs => exact (hl c fs e).elim
    | bad => intro h; cases h
    | ok ps =>
      rw [bind_ok]
      cases e2 : compLoop g t el (wipeE ρ vs) ps with
      | none => intro h; cases h
      | some ys =>
        show fits ys ≠ _
        unfold fits
        split <;> intro h <;> cases h
  · intro h; cases h
theorem oDCompO_inv {l : L} {vs : List Nat} {g : G} {t : T} {ek : E} {el : O} {ρ : Env} {o : OT} (h : oDCompO l vs g t ek el ρ = .ok o) : ∃ ps, l ρ = .ok ps := by
  unfold oDCompO at h
  split at h
  · obtain ⟨ps, e, _⟩ := bind_ok_inv h; exact ⟨ps, e⟩
  · cases h
theorem oDCompO_ne {l : L} {vs : List Nat} {g : G} {t : T} {ek : E} {el : O} {ρ : Env} {c : String} {fs : Option (List (String × PV))} (hl : ∀ c fs, l ρ ≠ .exc c fs) : oDCompO l vs g t ek el ρ ≠ .exc c fs := by
  unfold oDCompO
  split
  · cases e : l ρ with
    | exc c fs => exact (hl c fs e).elim
    | bad => intro h; cases h
    | ok ps =>
      rw [bind_ok]
      cases e2 : loopD g t ek el (wipeE ρ vs) ps [] with
      | none => intro h; cases h
      | some ys => intro h; cases h
  · intro h; cases h
theorem oDComp_ne {l : L} {vs : List Nat} {g : G} {t : T} {ek ev : E} {ρ : Env} {c : String} {fs : Option (List (String × PV))} (hl : ∀ c fs, l ρ ≠ .exc c fs) : oDComp l vs g t ek ev ρ ≠ .exc c fs := by
  unfold oDComp
  cases e : oDCompO l vs g t ek (oOfE ev) ρ with
  | exc c fs => exact (oDCompO_ne hl e).elim
  | bad => intro h; cases h
  | ok o =>
    rw [bind_ok]
    cases o with
    | D kvs =>
      show ofO ((fzs kvs).map OT.d) ≠ _
      cases fzs kvs <;> intro h <;> cases h
    | _ => intro h; cases h
theorem oDComp_inv {l : L} {vs : List Nat} {g : G} {t : T} {ek ev : E} {ρ : Env} {o : OT} (h : oDComp l vs g t ek ev ρ = .ok o) : ∃ ps, l ρ = .ok ps := by
  unfold oDComp at h
  obtain ⟨o', e, _⟩ := bind_ok_inv h
  exact oDCompO_inv e
/-- [el for k in d ..], d a name -/
theorem oj_compK {i : Nat} {x : Str} {px : Pos} {elt : Expr} {ifs : List Expr} {scope : Scope} {own : List (Str × Nat)} {g : G} {t : T} {el : E} (hc : X.calm = true) (hN : X.N.Nodup) (hN' : X.N[i]? = some x) (hv : Vis X.env.scope x) (ok : BlkOk X.N X.env.scope scope own)
    (hg : ∀ (D : Addr → Prop) (s : Shared) (H : Hp) (c : Addr) (cl : List (Str × Addr)) (fp : List Addr), GJ (X.blk s H scope (compEnvC scope cl c X.env) fp) D (own.map (·.2)) tg g)
    (ht : ∀ (D : Addr → Prop) (s : Shared) (H : Hp) (c : Addr) (cl : List (Str × Addr)) (fp : List Addr), TsJ (X.blk s H scope (compEnvC scope cl c X.env) fp) D W0 ifs t)
    (he : ∀ (D : Addr → Prop) (s : Shared) (H : Hp) (c : Addr) (cl : List (Str × Addr)) (fp : List Addr), EJ (X.blk s H scope (compEnvC scope cl c X.env) fp) D W0 .E elt el) (hd : (x == ("__debug__" : Str)) = false := by decide) (hcd : (x == ("__classdict__" : Str)) = false := by decide) (hs : ∀ z, foldedSetIterable (.Name x px) X.env z = pure z := by intro _; rfl) :
    OJ X C W (.ListComp elt [⟨tg, .Name x px, ifs, 0⟩] scope pos) (oComp (lKeysV i) (own.map (·.2)) g t el) := by
  have base : PE X (.ListComp elt [⟨tg, .Name x px, ifs, 0⟩] scope pos) (tLc (iKeys (tVar i)) (uG (own.map (·.2)) X.K g) (uT X.K t) (uE X.K el) (own.map (·.2))) := pe_lc (pos := pos) hc hN (pi_keys (tg := tg) (pe_var (pos := px) hN' hv hd hcd)) ok (fun s H c cl fp => uG_ok fun D => hg D s H c cl fp) (fun s H c cl fp => uT_ok fun D => ht D s H c cl fp) (fun s H c cl fp => uE_ok fun D => he D s H c cl fp) hs
  refine pe_weak (pe_or' base (pe_lock base)) fun σ H Q q => lockE_of (i := i) (fun ρ c fs => oComp_ne fun c fs => lKeys_noexc) (fun ρ o h => ?_) (fun σ H Q hD q => ?_) q
  · obtain ⟨ps, h⟩ := oComp_inv h
    obtain ⟨kvs, h, _⟩ := lKeys_inv h
    exact ⟨kvs, h⟩
  · exact keys_tI (fun _ _ _ _ _ _ r h => relS_frz r h) hD (comp_read q)
theorem oj_dcompKO {i : Nat} {x : Str} {px : Pos} {kx vx : Expr} {ifs : List Expr} {scope : Scope} {own : List (Str × Nat)} {g : G} {t : T} {ek : E} {el : O} (hc : X.calm = true) (hN : X.N.Nodup) (hN' : X.N[i]? = some x) (hv : Vis X.env.scope x) (ok : BlkOk X.N X.env.scope scope own)
    (hg : ∀ (D : Addr → Prop) (s : Shared) (H : Hp) (c : Addr) (cl : List (Str × Addr)) (fp : List Addr), GJ (X.blk s H scope (compEnvC scope cl c X.env) fp) D (own.map (·.2)) tg g)
    (ht : ∀ (D : Addr → Prop) (s : Shared) (H : Hp) (c : Addr) (cl : List (Str × Addr)) (fp : List Addr), TsJ (X.blk s H scope (compEnvC scope cl c X.env) fp) D W0 ifs t)
    (hk : ∀ (D : Addr → Prop) (s : Shared) (H : Hp) (c : Addr) (cl : List (Str × Addr)) (fp : List Addr), EJ (X.blk s H scope (compEnvC scope cl c X.env) fp) D W0 .B kx ek)
    (he : ∀ (D : Addr → Prop) (s : Shared) (H : Hp) (c : Addr) (cl : List (Str × Addr)) (fp : List Addr), OJ (X.blk s H scope (compEnvC scope cl c X.env) fp) D W0 vx el) (hd : (x == ("__debug__" : Str)) = false := by decide) (hcd : (x == ("__classdict__" : Str)) = false := by decide) (hs : ∀ z, foldedSetIterable (.Name x px) X.env z = pure z := by intro _; rfl) :
    OJ X C W (.DictComp kx vx [⟨tg, .Name x px, ifs, 0⟩] scope pos) (oDCompO (lKeysV i) (own.map (·.2)) g t ek el) := by
  have base : PE X (.DictComp kx vx [⟨tg, .Name x px, ifs, 0⟩] scope pos) (tDc (iKeys (tVar i)) (uG (own.map (·.2)) X.K g) (uT X.K t) (uB X.K ek) (uO X.K el) (own.map (·.2))) := pe_dc (pos := pos) hc hN (pi_keys (tg := tg) (pe_var (pos := px) hN' hv hd hcd)) ok (fun s H c cl fp => uG_ok fun D => hg D s H c cl fp) (fun s H c cl fp => uT_ok fun D => ht D s H c cl fp) (fun s H c cl fp => uB_ok fun D => hk D s H c cl fp) (fun s H c cl fp => uO_ok fun D => he D s H c cl fp) hs
  refine pe_weak (pe_or' base (pe_lock base)) fun σ H Q q => lockE_of (i := i) (fun ρ c fs => oDCompO_ne fun c fs => lKeys_noexc) (fun ρ o h => ?_) (fun σ H Q hD q => ?_) q
  · obtain ⟨ps, h⟩ := oDCompO_inv h
    obtain ⟨kvs, h, _⟩ := lKeys_inv h
    exact ⟨kvs, h⟩
  · exact keys_tI (fun _ _ _ _ _ _ r h => relS_frz r h) hD (dcomp_read q)
theorem oj_dcompK {i : Nat} {x : Str} {px : Pos} {kx vx : Expr} {ifs : List Expr} {scope : Scope} {own : List (Str × Nat)} {g : G} {t : T} {ek ev : E} (hc : X.calm = true) (hN : X.N.Nodup) (hN' : X.N[i]? = some x) (hv : Vis X.env.scope x) (ok : BlkOk X.N X.env.scope scope own)
    (hg : ∀ (D : Addr → Prop) (s : Shared) (H : Hp) (c : Addr) (cl : List (Str × Addr)) (fp : List Addr), GJ (X.blk s H scope (compEnvC scope cl c X.env) fp) D (own.map (·.2)) tg g)
    (ht : ∀ (D : Addr → Prop) (s : Shared) (H : Hp) (c : Addr) (cl : List (Str × Addr)) (fp : List Addr), TsJ (X.blk s H scope (compEnvC scope cl c X.env) fp) D W0 ifs t)
    (hk : ∀ (D : Addr → Prop) (s : Shared) (H : Hp) (c : Addr) (cl : List (Str × Addr)) (fp : List Addr), EJ (X.blk s H scope (compEnvC scope cl c X.env) fp) D W0 .B kx ek)
    (he : ∀ (D : Addr → Prop) (s : Shared) (H : Hp) (c : Addr) (cl : List (Str × Addr)) (fp : List Addr), EJ (X.blk s H scope (compEnvC scope cl c X.env) fp) D W0 .E vx ev) (hd : (x == ("__debug__" : Str)) = false := by decide) (hcd : (x == ("__classdict__" : Str)) = false := by decide) (hs : ∀ z, foldedSetIterable (.Name x px) X.env z = pure z := by intro _; rfl) :
    OJ X C W (.DictComp kx vx [⟨tg, .Name x px, ifs, 0⟩] scope pos) (oDComp (lKeysV i) (own.map (·.2)) g t ek ev) :=
  pe_weak (oj_dcompKO hc hN hN' hv ok hg ht hk (fun D s H c cl fp => oj_E (he D s H c cl fp)) hd hcd hs) fun σ H Q h => dcomp_readE h
/-! for k in d: .. -/
def noEx : Fl → Fl
  | .ex _ _ _ => .bad
  | r => r
def sForK (i : Nat) (g : G) (body : S) : S := fun ρ => noEx (withR (lKeysV i ρ) ρ fun ps => loop g body ps ρ)
theorem sj_forK {i : Nat} {x : Str} {px : Pos} {g : G} {body : S} {sts : List Stmt} {vs : List Nat} (hp : PassesOwn (model X.prog X.w) X.A X.env X.xe) (hc : X.calm = true) (hN' : X.N[i]? = some x) (hv : Vis X.env.scope x) (hg : GJ X C vs tg g) (hb : BJ X C W sts body) (hd : (x == ("__debug__" : Str)) = false := by decide) (hcd : (x == ("__classdict__" : Str)) = false := by decide) (hs : ∀ z, foldedSetIterable (.Name x px) X.env z = pure z := by intro _; rfl) :
    SJ X C W (.For tg (.Name x px) sts [] pos) (sForK i g body) := by
  have base := ps_for (pos := pos) hp hc (pi_keys (tg := tg) (pe_var (pos := px) hN' hv hd hcd)) hg hb hs
  -- with the dict locked
  have run : ∀ D σ H, DicAt σ H i → tS X.K C W (fun ρ => withR (lKeysV i ρ) ρ fun ps => loop g body ps ρ) D σ H → tFor (iKeys (tVar i)) (tGt vs X.K C g) (tS X.K C W body) D σ H := fun D σ H hD ⟨ρ, fp, eo, h⟩ => by
    refine keys_tI (C := C) (W := W) (rel := relG) (fun _ _ _ _ _ _ r h => r.2.2 _ _ _ h) hD ⟨ρ, fp, eo, (FlQ.ofR eo h).mono (fun items q J H0 s0 it => ?_) fun _ _ q => q⟩
    refine ⟨fun i m σ H => m = items.length - i ∧ ∃ ρ fp', EnvOk X.K C ρ σ H fp' ∧ Grow H0 fp H fp' ∧ FlQ X.K C W D H fp' (loop g body (items.drop i) ρ), ⟨_, rfl, ρ, fp, eo.same s0, Grow.refl, FlQ.later (Grow.same s0) q⟩, ?_⟩
    rintro i m' σ1 H1 ⟨rfl, ρ1, fp1, eo1, g1, q1⟩
    obtain ⟨it1, it2⟩ := it H1 (Am C fp1) ⟨g1.keep, g1.tups, g1.frz⟩ g1.carry i
    by_cases hi : i < items.length
    · have hx : items[i]? = some items[i] := List.getElem?_eq_getElem hi
      obtain ⟨go, yl⟩ := it1 _ hx
      rw [List.drop_eq_getElem_cons hi] at q1
      refine .inr ⟨go, fun σ' H' => ∃ ρ' fp', EnvOk X.K C ρ' σ' H' fp' ∧ Grow H0 fp H' fp' ∧ FlQ X.K C W D H' fp' (loop g body (items.drop (i + 1)) ρ'), fun σ' H' ⟨ρ', fp', a, b, c⟩ => ⟨items.length - (i + 1), by omega, rfl, ρ', fp', a, b, c⟩, fun x H' hy => ?_⟩
      obtain ⟨s2, r⟩ := yl x H' hy
      have q2 := FlQ.later (Grow.same (fp := fp1) s2) q1
      unfold loop at q2
      split at q2
      · exact q2.elim
      · rename_i ρ2 hρ
        refine ⟨ρ1, fp1, items[i], ρ2, eo1.same s2, r, hρ, fun σ3 fp3 eo3 g3 _ _ => ⟨ρ2, fp3, eo3, ?_⟩⟩
        have q3 := FlQ.later g3 q2
        have gg : Grow H0 fp H' fp3 := g1.trans ((Grow.same s2).trans g3)
        cases z : body ρ2 with
        | nx a => rw [z] at q3; exact fun σ4 H4 fp4 eo4 g4 => ⟨_, fp4, eo4, gg.trans g4, FlQ.later g4 q3⟩
        | ct a => rw [z] at q3; exact fun σ4 H4 fp4 eo4 g4 => ⟨_, fp4, eo4, gg.trans g4, FlQ.later g4 q3⟩
        | bk a => rw [z] at q3; exact q3
        | rt a => rw [z] at q3; exact q3
        | ex a b c => rw [z] at q3; exact q3
        | bad => rw [z] at q3; exact q3.elim
    · rw [List.drop_eq_nil_of_le (Nat.le_of_not_lt hi)] at q1
      exact .inl ⟨it2 (Nat.le_of_not_lt hi), q1 σ1 H1 fp1 eo1 Grow.refl⟩
  have base2 : PS X (.For tg (.Name x px) sts [] pos) (fun D σ H => tFor (iKeys (tVar i)) (tGt vs X.K C g) (tS X.K C W body) D σ H ∨ tLock (tFor (iKeys (tVar i)) (tGt vs X.K C g) (tS X.K C W body)) D σ H) :=
    ⟨fun pins s σ H D I q => q.elim (base.run pins s σ H D I) ((ps_lock base).run pins s σ H D I)⟩
  refine ps_weak base2 fun D σ H ⟨ρ, fp, eo, h⟩ => ?_
  unfold sForK at h
  cases e : lKeysV i ρ with
  | bad => rw [e] at h; exact h.elim
  | exc c fs => exact (lKeys_noexc e).elim
  | ok ps =>
    obtain ⟨kvs, hsl, rfl⟩ := lKeys_inv e
    rw [e] at h
    have h : FlQ X.K C W D H fp (noEx (loop g body (kvs.map fun q => keyPV q.1) ρ)) := h
    obtain ⟨_, v, hv, r⟩ := eo.slot i _ hsl
    obtain ⟨d, ks, rfl, hA, hr, rr⟩ := r
    have noex : ∀ {D' H'}, FlQ X.K C W D' H' fp (noEx (loop g body (kvs.map fun q => keyPV q.1) ρ)) → FlQ X.K C W D' H' fp (loop g body (kvs.map fun q => keyPV q.1) ρ) := fun {D' H'} h => by
      cases z : loop g body (kvs.map fun q => keyPV q.1) ρ <;> rw [z] at h <;> first | exact h | exact h.elim
    rcases hr with hdd | ⟨ob, hdd⟩
    · right
      refine ⟨d, .dK ks, hdd, trivial, fun od => run _ _ _ ⟨d, od, ks, hv, upd_same⟩ ⟨ρ, fp, eo.lock hA.2 hdd, ?_⟩⟩
      show FlQ _ _ _ _ _ _ (withR (lKeysV i ρ) ρ fun ps => loop g body ps ρ)
      rw [e]
      refine noex ?_
      have gl : ∀ {H' fp'}, Grow (upd H d (.frz od (.dK ks))) fp H' fp' → H' d = some (.frz od (.dK ks)) ∧ ¬ InF fp' d ∧ Grow H fp (upd H' d (.dK ks)) fp' := fun {H' fp'} g => by
        have hd' : H' d = some (.frz od (.dK ks)) := g.frz _ _ _ upd_same
        have nF' : ¬ InF fp' d := fun z => (g.new d z).elim hA.2 fun y => by rw [upd_same] at y; cases y
        refine ⟨hd', nF', fun a o q n => ?_, fun a xs q => ?_, fun a o u q => ?_, fun a q => ?_, fun a q => ?_⟩
        · by_cases y : a = d
          · subst y; rw [hdd] at q; cases q; exact upd_same
          · rw [upd_ne y]; exact g.keep a o (by rw [upd_ne y]; exact q) n
        · have y : a ≠ d := fun y => by rw [y, hdd] at q; cases q
          rw [upd_ne y]; exact g.tups a xs (by rw [upd_ne y]; exact q)
        · have y : a ≠ d := fun y => by rw [y, hdd] at q; cases q
          rw [upd_ne y]; exact g.frz a o u (by rw [upd_ne y]; exact q)
        · by_cases y : a = d
          · subst y; rw [upd_same]; simp
          · rw [upd_ne y]; exact g.more a (by rw [upd_ne y]; exact q)
        · rcases g.new a q with z | z
          · exact .inl z
          · right
            have y : a ≠ d := fun y => by rw [y, upd_same] at z; cases z
            rwa [upd_ne y] at z
      cases z : noEx (loop g body (kvs.map fun q => keyPV q.1) ρ) with
      | nx a => rw [z] at h; exact fun σ' H' fp' e' g' => ⟨(gl g').1, h σ' _ fp' (e'.unlock (gl g').2.1 (gl g').1) (gl g').2.2⟩
      | ct a => rw [z] at h; exact fun σ' H' fp' e' g' => ⟨(gl g').1, h σ' _ fp' (e'.unlock (gl g').2.1 (gl g').1) (gl g').2.2⟩
      | bk a => rw [z] at h; exact fun σ' H' fp' e' g' => ⟨(gl g').1, h σ' _ fp' (e'.unlock (gl g').2.1 (gl g').1) (gl g').2.2⟩
      | rt a =>
        rw [z] at h
        intro v H' Fn g' n f r
        have nF : d ∉ Fn := fun z => (f d z).elim hA.2 fun y => by rw [upd_same] at y; cases y
        refine ⟨(gl g').1, h v _ Fn (gl g').2.2 n (fun a ha => (f a ha).imp id fun y => ?_) (OTRep.carry (carry_unlock (gl g').1) (fun a ha o q => by rw [upd_ne (fun y => nF (by rw [← y]; exact ha))]; exact q) r)⟩
        have ne : a ≠ d := fun q => nF (by rw [← q]; exact ha)
        rwa [upd_ne ne] at y
      | ex a b c => exfalso; revert z; cases loop g body (kvs.map fun q => keyPV q.1) ρ <;> intro z <;> cases z
      | bad => rw [z] at h; exact h.elim
    · left
      exact run _ _ _ ⟨d, ob, ks, hv, hdd⟩ ⟨ρ, fp, eo, by show FlQ _ _ _ _ _ _ (withR (lKeysV i ρ) ρ fun ps => loop g body ps ρ); rw [e]; exact noex h⟩
end

theorem CallR.or {X : Cx} {f : Value} {r r' : List V → Hp → VK → Prop} (h : CallR X f r) (h' : CallR X f r') : CallR X f (fun xs H Q => r xs H Q ∨ r' xs H Q) := fun pins s σ H xs us Q I rr q => q.elim (h pins s σ H xs us Q I rr) (h' pins s σ H xs us Q I rr)
def txKeys : List (K1 × PV) → Option (List Tx)
  | [] => some []
  | (.inr x, _) :: r => (txKeys r).map (x :: ·)
  | _ :: _ => none
theorem txKeys_map {α : Type} (ky : α → Tx) (F : α → PV) : ∀ xs : List α, txKeys (xs.map fun x => (.inr (ky x), F x)) = some (xs.map ky)
  | [] => rfl
  | x :: xs => by show (txKeys (xs.map fun x => (.inr (ky x), F x))).map _ = _; rw [txKeys_map ky F xs]; rfl
theorem txKeys_rep {K : PySem.W.Frag} {A : Addr → Prop} {H : Hp} : ∀ {kvs : List (K1 × PV)} {ks : List (Key × V)} {xs : List Tx}, txKeys kvs = some xs → RepK K A H kvs ks → ks.map (·.1) = (xs.map mkS).map Sum.inr
  | [], _, _, e, h => by cases e; rw [show _ = [] from h]; rfl
  | (k, p) :: kvs, _, xs, e, h => by
    obtain ⟨x, r, rfl, h1, h2⟩ := h
    cases k with
    | inl i => cases e
    | inr y =>
      obtain ⟨ys, e', rfl⟩ := Option.map_eq_some_iff.mp e
      simp [txKeys_rep e' h2, k1]
/-- sorted of texts, of whole numbers, of a dict's texts -/
def gSortA : PV → Option OT
  | .lst ps => (match strsOf ps with
    | some xs => if xs.length < 64 then some (.l ((sortT txLe xs).map .str)) else none
    | none => (intsOf ps).map fun ns => .l ((sortT (fun a b => decide (a ≤ b)) ns).map .int))
  | .dic kvs => (txKeys kvs).bind fun xs => if xs.length < 64 then some (.l ((sortT txLe xs).map .str)) else none
  | _ => none
def rSortA (K : PySem.W.Frag) : List V → Hp → VK → Prop := fun xs H Q => (rSortedS K xs H Q ∨ rSortedI K xs H Q) ∨ ∃ (a : Addr) (kvs : List (Key × V)) (ks : List Str), xs = [.ref a] ∧ Rd H a (.dK kvs) ∧ kvs.map (·.1) = ks.map Sum.inr ∧ ks.length < 64 ∧
    ∀ ys p, ys.Perm ks → sortedS ys = true → H p = none → Q (.ref p) (upd H p (.lst (ys.map V.str)))
theorem sortI_eq {xs ys : List Int} (hp : ys.Perm xs) (hs : ys.Pairwise (· ≤ ·)) : ys = sortT (fun a b => decide (a ≤ b)) xs := by
  have s2 : (sortT (fun a b => decide (a ≤ b)) xs).Pairwise (· ≤ ·) := (sortT_sorted (le := fun a b : Int => decide (a ≤ b)) (fun a b => by simp only [decide_eq_true_eq]; omega) (fun a b c h1 h2 => by simp only [decide_eq_true_eq] at *; omega) xs).imp fun h => of_decide_eq_true h
  exact (hp.trans (sortT_perm xs).symm).eq_of_pairwise (fun a b _ _ h1 h2 => Int.le_antisymm h1 h2) hs s2
section
variable {X : Cx}
theorem cr_sortA (hc : X.calm = true) : CallR X (.builtin "sorted") (rSortA X.K) := CallR.or (CallR.or cr_sortedS cr_sortedI) (call_sortedD hc)
theorem c_sortA : Call1 X.K (rSortA X.K) .I gSortA := fun C fp H p t v Q hg r k => by
  cases p <;> simp only [gSortA, reduceCtorEq] at hg
  case lst ps =>
    cases e : strsOf ps with
    | some xs =>
      rw [e] at hg
      exact .inl (.inl (c_sortS (X := X) C fp H _ t v Q (by show (strsOf ps).bind _ = _; rw [e]; exact hg) r k))
    | none =>
      rw [e] at hg
      obtain ⟨ns, en, rfl⟩ := Option.map_eq_some_iff.mp hg
      obtain ⟨a, vs, rfl, ha, rr⟩ := r
      rw [intsOf_eq en] at rr
      have ev := rr.ints
      refine .inl (.inr ⟨a, ns, rfl, by rw [ev] at ha; exact SqL.of ha, fun ys p hp hs hn => ?_⟩)
      rw [sortI_eq hp hs]
      exact k.l (Reps.of_ints _) p hn
  case dic kvs =>
    obtain ⟨xs, e, hg⟩ := Option.bind_eq_some_iff.mp hg
    split at hg
    · rename_i hl
      cases hg
      obtain ⟨a, ks, rfl, hr, rr⟩ := r
      refine .inr ⟨a, ks, xs.map mkS, rfl, hr, txKeys_rep e rr, by simpa using hl, fun ys p hp hs hn => ?_⟩
      rw [sorted_eq hp hs, List.map_map]
      exact k.l (Reps.of_strs _) p hn
    · cases hg
/-- list of a list, a tuple, a dict -/
def gListA : PV → Option OT
  | .lst x => some (.l x)
  | .tup x => some (.l x)
  | .dic kvs => some (.l (kvs.map fun q => keyPV q.1))
  | .rol x => some (.l x)
  | _ => none
def rListA (K : PySem.W.Frag) : List V → Hp → VK → Prop := fun xs H Q => (∃ p ys, xs = [.ref p] ∧ (SqL K H p ys ∨ SqT K H p ys) ∧ ∀ l, H l = none → Q (.ref l) (upd H l (.lst ys))) ∨ ∃ (a : Addr) (kvs : List (Key × V)), xs = [.ref a] ∧ Rd H a (.dK kvs) ∧ ∀ p, H p = none → Q (.ref p) (upd H p (.lst (kvs.map fun kv => kV kv.1)))
theorem call_listA (hc : X.calm = true) : CallR X (.type "list") (rListA X.K) := CallR.or call_list_of (call_listD hc)
theorem keys_reps {K : PySem.W.Frag} {A B : Addr → Prop} {H : Hp} : ∀ {kvs : List (K1 × PV)} {ks : List (Key × V)}, RepK K A H kvs ks → Reps K B H (kvs.map fun q => keyPV q.1) (ks.map fun kv => kV kv.1)
  | [], _, h => by rw [show _ = [] from h]; rfl
  | (k, p) :: kvs, _, h => by
    obtain ⟨x, r, rfl, h1, h2⟩ := h
    exact ⟨_, _, rfl, rep_keyPV k, keys_reps h2⟩
theorem c_listA : Call1 X.K (rListA X.K) .I gListA := fun C fp H p t v Q hg r k => by
  cases p with
  | dic kvs =>
    cases hg
    obtain ⟨a, ks, rfl, hr, rr⟩ := r
    exact .inr ⟨a, ks, rfl, hr, fun p hp => k.l (keys_reps rr) p hp⟩
  | lst ps => exact .inl (c_list (X := X) C fp H (.lst ps) t v Q hg r k)
  | tup ps => exact .inl (c_list (X := X) C fp H (.tup ps) t v Q hg r k)
  | rol ps => exact .inl (c_list (X := X) C fp H (.rol ps) t v Q hg r k)
  | _ => cases hg
end
@[simp] theorem gSortA_strs {xs : List Tx} (h : xs.length < 64) : gSortA (.lst (xs.map .str)) = some (OT.l ((sortT txLe xs).map .str)) := by
  show (match strsOf (xs.map .str) with
    | some xs => if xs.length < 64 then some (OT.l ((sortT txLe xs).map .str)) else none
    | none => (intsOf (xs.map .str)).map fun ns => OT.l ((sortT (fun a b => decide (a ≤ b)) ns).map .int)) = _
  rw [strsOf_map]
  exact if_pos h
theorem gSortA_dic {kvs : List (K1 × PV)} {xs : List Tx} (e : txKeys kvs = some xs) (h : xs.length < 64) : gSortA (.dic kvs) = some (OT.l ((sortT txLe xs).map .str)) := by
  show (txKeys kvs).bind (fun xs => if xs.length < 64 then some (OT.l ((sortT txLe xs).map .str)) else none) = _
  rw [e]
  exact if_pos h
@[simp] theorem gListA_lst (ps : List PV) : gListA (.lst ps) = some (.l ps) := (rfl)
@[simp] theorem gListA_tup (ps : List PV) : gListA (.tup ps) = some (.l ps) := (rfl)
@[simp] theorem gListA_dic (kvs : List (K1 × PV)) : gListA (.dic kvs) = some (.l (kvs.map fun q => keyPV q.1)) := (rfl)
@[simp] theorem m_lKeysV (i : Nat) (ρ : Env) : lKeysV i ρ = keysOfS ρ[i]? := (rfl)
@[simp] theorem keysOfS_dic (kvs : List (K1 × PV)) : keysOfS (some (.val (.dic kvs))) = .ok (kvs.map fun q => keyPV q.1) := (rfl)
end Fz
end
section
/-! Fyc: tuples and lists with own things in them, made. -/
namespace Fz
open PySem PySem.Spec PyProof.Rows L2
abbrev LO := Env → Res (List OT)
def tLO (K : PySem.W.Frag) (C : Addr → Prop) (W : WX) (f : LO) : TA := fun σ H Q => ∃ ρ fp, EnvOk K C ρ σ H fp ∧ Out (f ρ) (fun ts => ∀ vs H' F, Same H H' → F.Nodup → (∀ a ∈ F, H a = none) → OTReps K (fun a => Am C fp a ∧ a ∉ F) H' ts vs F → Q vs H') (XQ K W σ H)
def LOJ (X : Cx) (C : Addr → Prop) (W : WX) (es : List Expr) (n : Nat) (f : LO) : Prop := PA X es (tLO X.K C W f) ∧ ∀ ρ ps, f ρ = .ok ps → ps.length = n
def loNil : LO := fun _ => .ok []
def loCons (f : O) (g : LO) : LO := fun ρ => f ρ >>= fun p => g ρ >>= fun ps => .ok (p :: ps)
def oTupO (g : LO) : O := fun ρ => g ρ >>= fun ts => .ok (.T ts)
def oLstO (g : LO) : O := fun ρ => g ρ >>= fun ts => .ok (.L ts)
section
variable {X : Cx} {C : Addr → Prop} {W : WX} {e e1 e2 e3 o tg : Expr} {pos p2 pn tpos : Pos} {m m1 m2 m3 : Mode} {f f1 f2 f3 : E} {px : Px} {fo : O}
theorem lo_nil : LOJ X C W [] 0 loNil := ⟨pa_weak pa_nil fun σ H Q ⟨ρ, fp, eo, o⟩ => o [] H [] (Same.refl H) List.nodup_nil (fun _ h => nomatch h) ⟨rfl, rfl⟩, fun ρ ps h => by cases h; rfl⟩
theorem lo_cons {es : List Expr} {n : Nat} {g : LO} (h : OJ X C W e fo) (h2 : ∀ D, LOJ X D W es n g) (hs : starEach (e :: es) X.env = (false, eval e X.env) :: starEach es X.env := by rfl) : LOJ X C W (e :: es) (n + 1) (loCons fo g) := by
  have h2' : PA X es (fun σ H Q => ∃ D, tLO X.K D W g σ H Q) := ⟨fun pos pins s σ H Q I ⟨D, q⟩ => (h2 D).1.run pos pins s σ H Q I q⟩
  refine ⟨pa_weak (pa_cons h h2' hs) fun σ H Q ⟨ρ, fp, eo, o⟩ => ?_, fun ρ ps hp => ?_⟩
  · refine ⟨ρ, fp, eo, (Out.bind o).mono (fun t o1 v H1 F1 s1 n1 f1 r1 => ?_) fun _ _ q => q⟩
    have live : ∀ a ∈ F1, H1 a ≠ none := fun a ha z => by
      obtain ⟨oo, ho, _⟩ := OTRep.live r1 a ha
      rw [z] at ho; cases ho
    have eo' : EnvOk X.K (fun a => C a ∧ ¬ (a ∈ F1)) ρ σ H1 fp := eo.blockS (vs := []) (S := fun a => a ∈ F1) rfl f1 s1 live
    refine ⟨_, ρ, fp, eo', (Out.bind o1).mono (fun ts o2 vs H2 F2 s2 n2 f2 r2 => ?_) fun _ _ q => XQ.later s1 q⟩
    have dis : ∀ a ∈ F1, a ∉ F2 := fun a h1 h2 => live a h1 (f2 a h2)
    refine o2 (v :: vs) H2 (F1 ++ F2) (s1.trans s2) (List.nodup_append.mpr ⟨n1, n2, fun a ha b hb z => dis a ha (z ▸ hb)⟩) (fun a ha => ?_) ⟨v, vs, F1, F2, rfl, rfl, ?_, ?_⟩
    · rcases List.mem_append.mp ha with q | q
      · exact f1 a q
      · cases z : H a with
        | none => rfl
        | some o => have := f2 a q; rw [s1 _ _ z] at this; cases this
    · refine r1.carry (Carry.mk' (fun a o q z => ⟨q.1, fun y => (List.mem_append.mp y).elim q.2 fun y => by rw [f2 a y] at z; cases z⟩) (fun a o _ z => s2 _ _ z) (fun a xs z => s2 _ _ z) fun a o u z => s2 _ _ z) fun a _ o z => s2 _ _ z
    · exact OTReps.carry (Carry.refl fun a _ q _ => ⟨⟨q.1.1.1, q.1.2⟩, fun y => (List.mem_append.mp y).elim q.1.1.2 q.2⟩) (fun _ _ _ q => q) r2
  · obtain ⟨a, _, hp⟩ := bind_ok_inv hp
    obtain ⟨b, e2, hp⟩ := bind_ok_inv hp
    cases hp
    simp [(h2 C).2 _ _ e2]
/-- (a, b), with own things -/
theorem oj_tupO {es : List Expr} {n : Nat} {g : LO} {k : Nat} (h : LOJ X C W es n g) (hn : n ≤ sizeLine := by decide) : OJ X C W (.Tuple es k pos) (oTupO g) := pe_weak (pe_tup h.1) fun σ H Q ⟨ρ, fp, eo, o⟩ => by
  refine ⟨ρ, fp, eo, (Out.bind o).and.mono (fun ts ⟨e, q⟩ vs H1 F s nd f r => ?_) fun _ _ q => q⟩
  have hl : vs.length = n := (OTReps.get r).trans (h.2 ρ ts e)
  refine ⟨by rw [hl]; exact hn, fun p hp => ?_⟩
  have q : ∀ v H' Fn, Same H H' → Fn.Nodup → (∀ a ∈ Fn, H a = none) → OTRep X.K (fun a => Am C fp a ∧ a ∉ Fn) H' (.T ts) v Fn → Q v H' := q
  have nF : ∀ a ∈ F, a ≠ p := fun a ha z => by
    obtain ⟨oo, ho, _⟩ := OTReps.live r a ha
    rw [z, hp] at ho; cases ho
  have s2 : Same H1 (upd H1 p (.tup vs)) := same_upd hp
  exact q _ _ F (s.trans s2) nd f ⟨p, vs, rfl, upd_same, OTReps.carry (Carry.same s2 fun _ q => q) (fun a _ o q => s2 a o q) r⟩
/-- [a, b], with own things -/
theorem oj_lstO {es : List Expr} {n : Nat} {g : LO} (h : LOJ X C W es n g) (hn : n ≤ sizeLine := by decide) : OJ X C W (.List es pos) (oLstO g) := pe_weak (pe_lst h.1) fun σ H Q ⟨ρ, fp, eo, o⟩ => by
  refine ⟨ρ, fp, eo, (Out.bind o).and.mono (fun ts ⟨e, q⟩ vs H1 F s nd f r => ?_) fun _ _ q => q⟩
  have hl : vs.length = n := (OTReps.get r).trans (h.2 ρ ts e)
  refine ⟨by rw [hl]; exact hn, fun p hp => ?_⟩
  have q : ∀ v H' Fn, Same H H' → Fn.Nodup → (∀ a ∈ Fn, H a = none) → OTRep X.K (fun a => Am C fp a ∧ a ∉ Fn) H' (.L ts) v Fn → Q v H' := q
  have nF : p ∉ F := fun z => by
    obtain ⟨oo, ho, _⟩ := OTReps.live r p z
    rw [hp] at ho; cases ho
  have s2 : Same H1 (upd H1 p (.lst vs)) := same_upd hp
  have hp0 : H p = none := by
    cases z : H p with
    | none => rfl
    | some o => rw [s _ _ z] at hp; cases hp
  refine q _ _ (p :: F) (s.trans s2) (List.nodup_cons.mpr ⟨nF, nd⟩) (fun a ha => (List.mem_cons.mp ha).elim (fun z => z ▸ hp0) (f a)) ⟨p, vs, F, rfl, rfl, upd_same, OTReps.carry (Carry.mk' (fun a o q z => ⟨q.1, fun y => (List.mem_cons.mp y).elim (fun y => by rw [y, hp] at z; cases z) q.2⟩) (fun a o _ z => s2 _ _ z) (fun a xs z => s2 _ _ z) fun a o u z => s2 _ _ z) (fun a _ o q => s2 a o q) r⟩
/-- return (a, x): what x alone held is handed on -/
def retMv (p : PV) : Option Slot → Fl
  | some (.own t) => .rt (.T [.fz p, t])
  | some (.val q) => .rt (.T [.fz p, .fz q])
  | _ => .bad
def sRetMv (i : Nat) (f : E) : S := fun ρ => withR (f ρ) ρ fun p => retMv p ρ[i]?
theorem sj_retMv {i : Nat} {x : Str} {k : Nat} {px tp : Pos} (hN : X.N[i]? = some x) (hv : Vis X.env.scope x) (h : EJ X C W .E e f) (hd : (x == ("__debug__" : Str)) = false := by decide) (hcd : (x == ("__classdict__" : Str)) = false := by decide)
    (hs : starEach [e, .Name x px] X.env = (false, eval e X.env) :: starEach [.Name x px] X.env := by rfl) (hs2 : starEach [.Name x px] X.env = (false, eval (.Name x px) X.env) :: starEach [] X.env := by rfl) : SJ X C W (.Return (some (.Tuple [e, .Name x px] k tp)) pos) (sRetMv i f) :=
  ps_weak (ps_ret (pe_tup (pa_cons h (pa_cons (pe_var hN hv hd hcd) pa_nil hs2) hs))) fun D σ H ⟨ρ, fp, eo, q⟩ => by
    refine ⟨ρ, fp, eo, (FlQ.ofR eo q).mono (fun p q v H1 s1 r1 => ?_) fun _ _ q => q⟩
    have q := FlQ.later (Grow.same (fp := fp) s1) q
    have eo1 := eo.same s1
    have done : ∀ (t : OT) (w : V) (Fw : List Addr), (∀ a ∈ Fw, a ∈ fp i) → Fw.Nodup → OTRep X.K (Am C fp) H1 t w Fw → FlQ X.K C W D H1 fp (.rt (.T [.fz p, t])) → ∀ T, H1 T = none → D.rt (.ref T) (upd H1 T (.tup [v, w])) := fun t w Fw sub nd r q T hT => by
      have s2 : Same H1 (upd H1 T (.tup [v, w])) := same_upd hT
      have am : ∀ a, Am C fp a → C a ∧ a ∉ Fw := fun a q => ⟨q.1, fun z => q.2 ⟨i, sub a z⟩⟩
      have c : Carry (Am C fp) (fun a => C a ∧ a ∉ Fw) H1 (upd H1 T (.tup [v, w])) := Carry.same s2 am
      exact q _ _ Fw (grow_end (Grow.same s2)) nd (fun a ha => .inl ⟨i, sub a ha⟩) ⟨T, [v, w], rfl, upd_same, v, [w], [], Fw, rfl, rfl, ⟨rfl, Rep.carry c r1⟩, w, [], Fw, [], rfl, (List.append_nil _).symm, OTRep.carry c (fun a _ o z => s2 _ _ z) r, rfl, rfl⟩
    cases e : ρ[i]? with
    | none => rw [e] at q; exact q.elim
    | some sl =>
      rw [e] at q
      cases sl with
      | u => exact q.elim
      | bor p => exact q.elim
      | exn a od l => exact q.elim
      | val z =>
        obtain ⟨_, w, hw, r⟩ := eo1.slot i _ e
        exact ⟨w, hw, by show 2 ≤ sizeLine; decide, fun T hT => done (.fz z) w [] (fun _ h => nomatch h) List.nodup_nil ⟨rfl, r⟩ q T hT⟩
      | own t =>
        obtain ⟨w, hw, r⟩ := eo1.slot i _ e
        exact ⟨w, hw, by show 2 ≤ sizeLine; decide, fun T hT => done t w (fp i) (fun _ h => h) (eo1.nod i) r q T hT⟩
end
section
variable (ρ : Env) (i : Nat) (f : E) (fo : O) (g : LO)
@[simp] theorem m_loNil : loNil ρ = .ok [] := (rfl)
@[simp] theorem m_loCons : loCons fo g ρ = fo ρ >>= fun p => g ρ >>= fun ps => .ok (p :: ps) := (rfl)
@[simp] theorem m_oTupO : oTupO g ρ = g ρ >>= fun ts => .ok (.T ts) := (rfl)
@[simp] theorem m_oLstO : oLstO g ρ = g ρ >>= fun ts => .ok (.L ts) := (rfl)
@[simp] theorem m_sRetMv : sRetMv i f ρ = withR (f ρ) ρ fun p => retMv p ρ[i]? := (rfl)
@[simp] theorem retMv_own (p : PV) (t : OT) : retMv p (some (.own t)) = .rt (.T [.fz p, t]) := (rfl)
@[simp] theorem retMv_val (p q : PV) : retMv p (some (.val q)) = .rt (.T [.fz p, .fz q]) := (rfl)
@[simp] theorem m_sForK (gg : G) (s : S) : sForK i gg s ρ = noEx (withR (lKeysV i ρ) ρ fun ps => loop gg s ps ρ) := (rfl)
@[simp] theorem pv_T (ts : List OT) : (OT.T ts).pv = .tup (OT.pvs ts) := (rfl)
@[simp] theorem pv_L (ts : List OT) : (OT.L ts).pv = .lst (OT.pvs ts) := (rfl)
@[simp] theorem pv_D (ts : List (K1 × OT)) : (OT.D ts).pv = .dic (OT.pvK ts) := (rfl)
@[simp] theorem pvs_nil : OT.pvs [] = [] := (rfl)
@[simp] theorem pvs_cons (t : OT) (ts : List OT) : OT.pvs (t :: ts) = t.pv :: OT.pvs ts := (rfl)
end
theorem pvs_map {α : Type} (F : α → OT) : ∀ xs : List α, OT.pvs (xs.map F) = xs.map fun x => (F x).pv
  | [] => rfl
  | x :: xs => by show (F x).pv :: OT.pvs (xs.map F) = _; rw [pvs_map F xs]; rfl
theorem pvK_map {α : Type} (ky : α → K1) (F : α → OT) : ∀ xs : List α, OT.pvK (xs.map fun x => (ky x, F x)) = xs.map fun x => (ky x, (F x).pv)
  | [] => rfl
  | x :: xs => by show (ky x, (F x).pv) :: OT.pvK (xs.map fun x => (ky x, F x)) = _; rw [pvK_map ky F xs]; rfl
theorem sat_noEx {f : Fl} {P : Po} (h : sat f { P with ex := fun _ _ _ => False }) : sat (noEx f) P := by
  unfold sat at h ⊢
  cases f <;> exact h
end Fz
end
section
/-! Fyd: borrowed things walked, unpacked: the names hold borrowed things. -/
namespace Fz
open PySem PySem.Spec PyProof.Rows L2
/-- may not be one's own -/
abbrev NF (fp : Fp) : Addr → Prop := fun a => ¬ InF fp a
def tR (K : PySem.W.Frag) (C : Addr → Prop) (W : WX) (f : E) : TE := fun σ H Q => ∃ ρ fp, EnvOk K C ρ σ H fp ∧ Out (f ρ) (fun p => ∀ v H', Same H H' → Rep K (NF fp) H' p v → Q v H') (XQ K W σ H)
def RJ (X : Cx) (C : Addr → Prop) (W : WX) (e : Expr) (f : E) : Prop := PE X e (tR X.K C W f)
def rvS : Option Slot → Res PV
  | some (.val p) => .ok p
  | some (.bor p) => .ok p
  | _ => .bad
def rVar (i : Nat) : E := fun ρ => rvS ρ[i]?
section
variable {X : Cx} {C : Addr → Prop} {W : WX} {e e1 e2 e3 o tg iter : Expr} {pos p2 pn tpos : Pos} {m m1 m2 m3 : Mode} {f f1 f2 f3 : E} {px : Px} {fo : O}
theorem am_nf {C : Addr → Prop} {fp : Fp} {K : PySem.W.Frag} {H : Hp} {p : PV} {v : V} (r : Rep K (Am C fp) H p v) : Rep K (NF fp) H p v := Rep.sub (fun _ q => q.2) r
theorem rj_var {i : Nat} {x : Str} (hN : X.N[i]? = some x) (hv : Vis X.env.scope x) (hd : (x == ("__debug__" : Str)) = false := by decide) (hcd : (x == ("__classdict__" : Str)) = false := by decide) : RJ X C W (.Name x pos) (rVar i) :=
  pe_weak (pe_var hN hv hd hcd) fun σ H Q ⟨ρ, fp, eo, o⟩ => by
    unfold rVar at o
    cases e : ρ[i]? with
    | none => rw [e] at o; exact o.elim
    | some s =>
      rw [e] at o
      cases s with
      | val p => obtain ⟨_, v, hv, r⟩ := eo.slot i _ e; exact ⟨v, hv, o v H (Same.refl H) (am_nf r)⟩
      | bor p => obtain ⟨_, v, hv, r⟩ := eo.slot i _ e; exact ⟨v, hv, o v H (Same.refl H) r⟩
      | _ => exact o.elim
theorem rj_E (h : EJ X C W .E e f) : RJ X C W e f := pe_weak h fun σ H Q ⟨ρ, fp, eo, o⟩ => ⟨ρ, fp, eo, o.mono (fun p q v H' s r => q v H' s (am_nf r)) fun _ _ q => q⟩
theorem rj_ix (hu : Hu X) (h1 : RJ X C W e1 f1) (h2 : EJ X C W m2 e2 f2) (hs : ∀ o i, subscripted e2 false o i = operate [o, i] (getItem o i) := by intro _ _; rfl) : RJ X C W (.Subscript e1 e2 pos) (eIx f1 f2) :=
  pe_weak (pe_or' (pe_ix ix_seq h1 h2 hs) (pe_dget hu.u1 h1 h2 hs)) fun σ H Q ⟨ρ, fp, eo, o⟩ => by
    have main : ∀ (R2 : V → V → Hp → Prop) (b : Bool), (∀ p q, f1 ρ = .ok p → f2 ρ = .ok q → (!isDict p) = b) → (∀ p q v u H2, Same H H2 → Out (ofO (gIx p q)) (fun z => ∀ v H', Same H H' → Rep X.K (NF fp) H' z v → Q v H') (XQ X.K W σ H) → Rep X.K (NF fp) H2 p v → RepM X.K C fp m2 H2 q u → (!isDict p) = b → R2 v u H2) →
        tR X.K C W f1 σ H fun x H1 => tE X.K C W m2 f2 σ H1 fun y H2 => R2 x y H2 := fun R2 b hb h2 => by
      refine ⟨ρ, fp, eo, (Out.bind o).and.mono (fun p ⟨e1, o1⟩ v H1 s1 r1 => ?_) fun _ _ q => q⟩
      refine ⟨ρ, fp, eo.same s1, (Out.bind o1).and.mono (fun q ⟨e2, o2⟩ u H2 s2 r2 => ?_) fun _ _ q => XQ.later s1 q⟩
      exact h2 p q v u H2 (s1.trans s2) o2 (r1.same s2) r2 (hb p q e1 e2)
    by_cases hb : ∃ p q, f1 ρ = .ok p ∧ f2 ρ = .ok q ∧ (!isDict p) = false
    · right
      obtain ⟨p0, q0, e1, e2, e3⟩ := hb
      refine main _ false (fun p q h1 h2 => by rw [e1] at h1; rw [e2] at h2; cases h1; cases h2; exact e3) fun p q v u H2 s o2 r1 r2 hs => ?_
      obtain ⟨z, hz, hQ⟩ := Out.ofO o2
      exact (ix_sel hz (Rep.toI r1) (RepM.toB r2) fun w r => hQ w H2 s r).2 hs
    · left
      refine main _ true (fun p q h1 h2 => by
        cases z : (!isDict p) with
        | true => rfl
        | false => exact (hb ⟨p, q, h1, h2, z⟩).elim) fun p q v u H2 s o2 r1 r2 hs => ?_
      obtain ⟨z, hz, hQ⟩ := Out.ofO o2
      exact (ix_sel hz (Rep.toI r1) (RepM.toB r2) fun w r => hQ w H2 s r).1 hs
/-! targets -/
def gNmB (i : Nat) : G := fun p ρ => if i < ρ.length then some (ρ.set i (.bor p)) else none
def tGtR (vs : List Nat) (K : PySem.W.Frag) (C : Addr → Prop) (g : G) : TG := fun v σ H Q => ∃ ρ fp p ρ', EnvOk K C ρ σ H fp ∧ Rep K (NF fp) H p v ∧ g p ρ = some ρ' ∧ ∀ σ' fp', EnvOk K C ρ' σ' H fp' → Grow H fp H fp' → But vs σ σ' → (∀ j, j ∉ vs → fp' j = fp j) → Q σ' H
def GJR (X : Cx) (C : Addr → Prop) (vs : List Nat) (e : Expr) (g : G) : Prop := PG X e (tGtR vs X.K C g)
def tGtsR (is : List Nat) (K : PySem.W.Frag) (C : Addr → Prop) (g : Gs) : TGs := fun vs σ H Q => ∃ ρ fp ps ρ', EnvOk K C ρ σ H fp ∧ Reps K (NF fp) H ps vs ∧ g ps ρ = some ρ' ∧ ∀ σ' fp', EnvOk K C ρ' σ' H fp' → Grow H fp H fp' → But is σ σ' → (∀ j, j ∉ is → fp' j = fp j) → Q σ' H
def GJsR (X : Cx) (C : Addr → Prop) (vs : List Nat) (es : List Expr) (g : Gs) : Prop := PGs X es (tGtsR vs X.K C g)
theorem gjr_name {i : Nat} {x : Str} {vs : List Nat} (hN : X.N.Nodup) (hi : X.N[i]? = some x) (hx : Loc X.env.scope x) (hv : i ∈ vs := by decide) (hf : X.fn x = true ∨ X.env.scope.names.lookup x = some .local := by first | exact .inl rfl | exact .inr rfl | assumption) : GJR X C vs (.Name x pos) (gNmB i) :=
  pg_weak (pg_name hN hi hx hf) fun v σ H Q ⟨ρ, fp, p, ρ', eo, r, hg, k⟩ => by
    unfold gNmB at hg
    split at hg
    · rename_i hl
      cases hg
      obtain ⟨e1, g1⟩ := eo.setBor hl r
      exact k _ _ e1 g1 ⟨by simp, fun j hj => List.getElem?_set_ne fun z => hj (by rw [← z]; exact hv)⟩ fun j hj => put_ne fun z => hj (by rw [z]; exact hv)
    · cases hg
theorem gjsr_nil {vs : List Nat} : GJsR X C vs [] gsNil := pgs_weak pgs_nil fun v σ H Q ⟨ρ, fp, ps, ρ', eo, r, hg, k⟩ => by
  cases ps with
  | nil =>
    cases hg
    rw [show v = [] from r]
    exact ⟨rfl, k σ fp eo Grow.refl ⟨rfl, fun _ _ => rfl⟩ fun _ _ => rfl⟩
  | cons p ps => cases hg
theorem gjsr_cons {es : List Expr} {g : G} {h : Gs} {vs : List Nat} (h1 : GJR X C vs e g) (h2 : GJsR X C vs es h) (hs : (assignEach (e :: es) X.env).map (·.2) = assign e X.env :: (assignEach es X.env).map (·.2) := by rfl) : GJsR X C vs (e :: es) (gsCons g h) :=
  pgs_weak (pgs_cons h1 h2 hs) fun v σ H Q ⟨ρ, fp, ps, ρ', eo, r, hg, k⟩ => by
    cases ps with
    | nil => cases hg
    | cons p ps =>
      obtain ⟨x, t, rfl, r1, r2⟩ := r
      simp only [gsCons] at hg
      cases e1 : g p ρ with
      | none => rw [e1] at hg; cases hg
      | some ρ1 =>
        rw [e1] at hg
        refine ⟨x, t, rfl, ρ, fp, p, ρ1, eo, r1, e1, fun σ1 fp1 eo1 g1 b1 p1 => ?_⟩
        exact ⟨ρ1, fp1, ps, ρ', eo1, Reps.carry g1.carryB r2, hg, fun σ2 fp2 eo2 g2 b2 p2 => k σ2 fp2 eo2 (g1.trans g2) (b1.trans b2) fun j hj => (p2 j hj).trans (p1 j hj)⟩
theorem gjr_tup {es : List Expr} {k n : Nat} {h : Gs} {vs : List Nat} (hc : X.calm = true) (h1 : GJsR X C vs es h) (hn : (assignEach es X.env).length = n := by rfl) (hst : (assignEach es X.env).findIdx? (·.1) = none := by rfl) : GJR X C vs (.Tuple es k pos) (gTp n h) :=
  pg_weak (pg_tup hc h1 hn hst) fun v σ H Q ⟨ρ, fp, p, ρ', eo, r, hg, k⟩ => by
    cases p <;> simp only [gTp, reduceCtorEq] at hg
    split at hg
    · rename_i hl
      obtain ⟨a, xs, rfl, ha, rr⟩ := r
      exact ⟨a, xs, rfl, SqT.of ha, by rw [rr.length]; exact hl, ρ, fp, _, ρ', eo, rr, hg, k⟩
    · cases hg
/-- a, b = e, e borrowed -/
theorem sj_asgTR {g : G} {vs : List Nat} (he : RJ X C W e f) (hg : GJR X C vs tg g) (hs : swapsWithSole [tg] e pos.line X.env = pure false := by rfl) (hw : swappedStores [tg] e X.env = pure none := by rfl) (h1 : (assignEach [tg] X.env).map (·.2) = [assign tg X.env] := by rfl) : SJ X C W (.Assign [tg] e pos) (sAsgT g f) :=
  ps_weak (ps_asg he hg hs hw h1) fun D σ H ⟨ρ, fp, eo, h⟩ => by
    refine ⟨ρ, fp, eo, (FlQ.ofR eo h).mono (fun p q v H1 s r => ?_) fun _ _ q => q⟩
    have q := FlQ.later (Grow.same (fp := fp) s) q
    split at q
    · rename_i ρ' hρ
      exact ⟨ρ, fp, p, ρ', eo.same s, r, hρ, fun σ2 fp2 e2 g2 _ _ => q σ2 _ fp2 e2 g2⟩
    · exact q.elim
/-! what is walked -/
def tIR (K : PySem.W.Frag) (C : Addr → Prop) (W : WX) (f : L) : TI := fun σ H R => ∃ ρ fp, EnvOk K C ρ σ H fp ∧ Out (f ρ) (fun items => ∀ J H', Same H H' → IterOk K (NF fp) H' (relG H' fp) J items → R J H') (XQ K W σ H)
def IJR (X : Cx) (C : Addr → Prop) (W : WX) (tg iter : Expr) (f : L) : Prop := PI X tg iter (tIR X.K C W f)
theorem seq_standsR {K : PySem.W.Frag} {H0 : Hp} {fp0 : Fp} {p : PV} {v : V} {ps : List PV} (r : Rep K (NF fp0) H0 p v) (h : itemsOf p = .ok ps) : Stands K (NF fp0) H0 (relG H0 fp0) p v ps := by
  cases p <;> simp only [itemsOf, Res.ok.injEq, reduceCtorEq] at h <;> subst h
  · obtain ⟨a, xs, rfl, ha, rr⟩ := r
    exact ⟨a, xs, rfl, rr, fun z => (by cases z), fun _ H g => SqT.of (g.2.1 _ _ ha)⟩
  · obtain ⟨a, xs, rfl, hA, ha, rr⟩ := r
    exact ⟨a, xs, rfl, rr, fun _ H g => SqL.of (g.1 _ _ ha hA), fun z => by cases z⟩
  · obtain ⟨a, xs, rfl, ha, rr⟩ := r
    exact ⟨a, xs, rfl, rr, fun _ H g => ro_rel g.2.2 ha, fun z => by cases z⟩
theorem ijr_seq (h : RJ X C W iter f) : IJR X C W tg iter (lOfA f) :=
  pi_weak (pi_or (pi_or (pi_list h) (pi_tup h)) (pi_str h)) fun σ H R ⟨ρ, fp, eo, o⟩ => by
    by_cases ht : ∃ x, f ρ = .ok (.str x)
    · obtain ⟨x, e0⟩ := ht
      right
      refine ⟨ρ, fp, eo, (Out.bind o).and.mono (fun p ⟨e1, o1⟩ v H1 s1 r1 => ?_) fun _ _ q => q⟩
      rw [e0] at e1; cases e1
      exact ⟨mkS x, r1, (show Out (Res.ok (signsOf x)) _ _ from o1) _ H1 s1 (iter_str x)⟩
    · left
      have o : Out (f ρ >>= itemsA) _ _ := o
      by_cases hT : ∃ p, f ρ = .ok p ∧ isTupP p = true
      · obtain ⟨p0, e0, t0⟩ := hT
        right
        refine ⟨ρ, fp, eo, (Out.bind o).and.mono (fun p ⟨e1, o1⟩ v H1 s1 r1 => ?_) fun _ _ q => q⟩
        rw [e0] at e1; cases e1
        cases p0 <;> first | (cases t0; done) | skip
        obtain ⟨a, xs, rfl, rr, _, h2⟩ := seq_standsR r1 rfl
        exact ⟨a, rfl, ⟨xs, h2 rfl H1 relG.refl⟩, (show Out (Res.ok _) _ _ from o1) _ H1 s1 (iter_tup rr (h2 rfl))⟩
      · left
        refine ⟨ρ, fp, eo, (Out.bind o).and.mono (fun p ⟨e1, o1⟩ v H1 s1 r1 => ?_) fun _ _ q => q⟩
        cases p with
        | str x => exact (ht ⟨x, e1⟩).elim
        | tup ps => exact (hT ⟨_, e1, rfl⟩).elim
        | lst ps =>
          obtain ⟨a, xs, rfl, rr, h2, _⟩ := seq_standsR r1 rfl
          exact ⟨a, rfl, ⟨xs, h2 rfl H1 relG.refl⟩, (show Out (Res.ok _) _ _ from o1) _ H1 s1 (iter_list rr (h2 rfl))⟩
        | rol ps =>
          obtain ⟨a, xs, rfl, rr, h2, _⟩ := seq_standsR r1 rfl
          exact ⟨a, rfl, ⟨xs, h2 rfl H1 relG.refl⟩, (show Out (Res.ok _) _ _ from o1) _ H1 s1 (iter_list rr (h2 rfl))⟩
        | _ => exact o1.elim
theorem sj_forR {l : L} {g : G} {body : S} {sts : List Stmt} {vs : List Nat} (hp : PassesOwn (model X.prog X.w) X.A X.env X.xe) (hc : X.calm = true) (hi : IJR X C W tg iter l) (hg : GJR X C vs tg g) (hb : BJ X C W sts body) (hs : ∀ x, foldedSetIterable iter X.env x = pure x := by intro _; rfl) :
    SJ X C W (.For tg iter sts [] pos) (sFor l g body) :=
  ps_weak (ps_for hp hc hi hg hb hs) fun D σ H ⟨ρ, fp, eo, h⟩ => by
    refine ⟨ρ, fp, eo, (FlQ.ofR eo h).mono (fun items q J H0 s0 it => ?_) fun _ _ q => q⟩
    refine ⟨fun i m σ H => m = items.length - i ∧ ∃ ρ fp', EnvOk X.K C ρ σ H fp' ∧ Grow H0 fp H fp' ∧ FlQ X.K C W D H fp' (loop g body (items.drop i) ρ), ⟨_, rfl, ρ, fp, eo.same s0, Grow.refl, FlQ.later (Grow.same s0) q⟩, ?_⟩
    rintro i m' σ1 H1 ⟨rfl, ρ1, fp1, eo1, g1, q1⟩
    obtain ⟨it1, it2⟩ := it H1 (NF fp1) ⟨g1.keep, g1.tups, g1.frz⟩ g1.carryB i
    by_cases hi : i < items.length
    · have hx : items[i]? = some items[i] := List.getElem?_eq_getElem hi
      obtain ⟨go, yl⟩ := it1 _ hx
      rw [List.drop_eq_getElem_cons hi] at q1
      refine .inr ⟨go, fun σ' H' => ∃ ρ' fp', EnvOk X.K C ρ' σ' H' fp' ∧ Grow H0 fp H' fp' ∧ FlQ X.K C W D H' fp' (loop g body (items.drop (i + 1)) ρ'), fun σ' H' ⟨ρ', fp', a, b, c⟩ => ⟨items.length - (i + 1), by omega, rfl, ρ', fp', a, b, c⟩, fun x H' hy => ?_⟩
      obtain ⟨s2, r⟩ := yl x H' hy
      have q2 := FlQ.later (Grow.same (fp := fp1) s2) q1
      unfold loop at q2
      split at q2
      · exact q2.elim
      · rename_i ρ2 hρ
        refine ⟨ρ1, fp1, items[i], ρ2, eo1.same s2, r, hρ, fun σ3 fp3 eo3 g3 _ _ => ⟨ρ2, fp3, eo3, ?_⟩⟩
        have q3 := FlQ.later g3 q2
        have gg : Grow H0 fp H' fp3 := g1.trans ((Grow.same s2).trans g3)
        cases z : body ρ2 with
        | nx a => rw [z] at q3; exact fun σ4 H4 fp4 eo4 g4 => ⟨_, fp4, eo4, gg.trans g4, FlQ.later g4 q3⟩
        | ct a => rw [z] at q3; exact fun σ4 H4 fp4 eo4 g4 => ⟨_, fp4, eo4, gg.trans g4, FlQ.later g4 q3⟩
        | bk a => rw [z] at q3; exact q3
        | rt a => rw [z] at q3; exact q3
        | ex a b c => rw [z] at q3; exact q3
        | bad => rw [z] at q3; exact q3.elim
    · rw [List.drop_eq_nil_of_le (Nat.le_of_not_lt hi)] at q1
      exact .inl ⟨it2 (Nat.le_of_not_lt hi), q1 σ1 H1 fp1 eo1 Grow.refl⟩
end
section
variable (ρ : Env) (i : Nat) (p : PV)
@[simp] theorem m_rVar : rVar i ρ = rvS ρ[i]? := (rfl)
@[simp] theorem rvS_val : rvS (some (.val p)) = .ok p := (rfl)
@[simp] theorem rvS_bor : rvS (some (.bor p)) = .ok p := (rfl)
@[simp] theorem m_gNmB : gNmB i p ρ = if i < ρ.length then some (ρ.set i (.bor p)) else none := (rfl)
@[simp] theorem stp_nmB (body : S) : stp (gNmB i) body p ρ = if i < ρ.length then body (ρ.set i (.bor p)) else .bad := by
  unfold stp gNmB
  split
  · rename_i h; split at h
    · cases h
    · rw [if_neg ‹_›]
  · rename_i h; split at h
    · cases h; rw [if_pos ‹_›]
    · cases h
end
end Fz
end
section
/-! Fye: for the plain proofs: loops over typed lists, equality of values, sorted lists. -/
namespace Fz
open PySem (sizeLine)
open L2 (atI ixN)
theorem sat_list {α : Type} {g : G} {body : S} {P : Po} {inj : α → PV} {xs : List α} {ρ : Env} (I : List α → Env → Prop) (h0 : I [] ρ)
    (st : ∀ d x r ρ, xs = d ++ x :: r → I d ρ → sat (stp g body (inj x) ρ) { P with nx := I (d ++ [x]), ct := I (d ++ [x]), bk := P.nx }) (he : ∀ ρ, I xs ρ → P.nx ρ) : sat (loop g body (xs.map inj) ρ) P := by
  refine sat_for (fun k ρ => I (xs.take k) ρ) (by simpa using h0) (fun k p ρ hp hI => ?_) (fun ρ h => he ρ (by simpa using h))
  rw [List.getElem?_map] at hp
  obtain ⟨x, hx, rfl⟩ := Option.map_eq_some_iff.mp hp
  obtain ⟨hk, rfl⟩ := List.getElem?_eq_some_iff.mp hx
  have e : xs.take (k + 1) = xs.take k ++ [xs[k]] := by rw [List.take_succ, hx]; rfl
  have := st (xs.take k) xs[k] (xs.drop (k + 1)) ρ (by rw [← List.drop_eq_getElem_cons hk, List.take_append_drop]) hI
  rw [← e] at this
  exact this
/-- a loop that carries a state on -/
theorem sat_fold {α β : Type} {g : G} {body : S} {P : Po} {inj : α → PV} {xs : List α} {ρ : Env} (R : β → Env → Prop) (f : β → α → β) (b : β) (h0 : R b ρ)
    (st : ∀ b x ρ, x ∈ xs → R b ρ → sat (stp g body (inj x) ρ) { P with nx := R (f b x), ct := R (f b x), bk := P.nx }) (he : ∀ ρ, R (xs.foldl f b) ρ → P.nx ρ) : sat (loop g body (xs.map inj) ρ) P :=
  sat_list (fun d ρ => R (d.foldl f b) ρ) h0 (fun d x r ρ hx hI => by
    have := st _ x ρ (by rw [hx]; simp) hI
    simpa using this) he
/-- a loop that stops at the first that serves -/
theorem sat_find {α : Type} {g : G} {body : S} {P : Po} {inj : α → PV} {xs : List α} {ρ : Env} (R : Env → Prop) (c : α → Bool) (h0 : R ρ)
    (no : ∀ x ρ, x ∈ xs → c x = false → R ρ → sat (stp g body (inj x) ρ) { P with nx := R, ct := R, bk := P.nx }) (yes : ∀ x ρ, xs.find? c = some x → R ρ → sat (stp g body (inj x) ρ) { P with nx := fun _ => False, ct := fun _ => False, bk := P.nx }) (he : ∀ ρ, xs.find? c = none → R ρ → P.nx ρ) : sat (loop g body (xs.map inj) ρ) P := by
  induction xs generalizing ρ with
  | nil => rw [List.map_nil, sat_nil]; exact he ρ rfl h0
  | cons x xs ih =>
    rw [List.map_cons, sat_cons]
    by_cases hc : c x = true
    · refine sat.mono (yes x ρ (by rw [List.find?_cons, hc]) h0) (fun _ h => h.elim) (fun _ h => h) (fun _ h => h.elim) (fun _ h => h) fun _ _ _ h => h
    · have hc : c x = false := by simpa using hc
      have ef : (x :: xs).find? c = xs.find? c := by rw [List.find?_cons, hc]
      rw [ef] at yes he
      refine sat.mono (no x ρ List.mem_cons_self hc h0) (fun ρ' h => ?_) (fun _ h => h) (fun ρ' h => ?_) (fun _ h => h) fun _ _ _ h => h
      · exact ih h (fun y ρ hy => no y ρ (List.mem_cons_of_mem _ hy)) yes he
      · exact ih h (fun y ρ hy => no y ρ (List.mem_cons_of_mem _ hy)) yes he
/-! equal values -/
mutual
theorem pvEq_refl : ∀ (p : PV), isData p = true → pvEq p p = true
  | .non, _ => by simp [pvEq]
  | .bl b, _ => by simp [pvEq]
  | .int b, _ => by simp [pvEq]
  | .str b, _ => by simp [pvEq]
  | .tup ps, h => by simp only [isData] at h; simp only [pvEq]; exact pvEqs_refl ps h
  | .lst ps, h => by simp only [isData] at h; simp only [pvEq]; exact pvEqs_refl ps h
  | .rol ps, h => by simp only [isData] at h; simp only [pvEq]; exact pvEqs_refl ps h
  | .dic _, h => by simp [isData] at h
  | .dit _, h => by simp [isData] at h
  | .ins _ _, h => by simp [isData] at h
theorem pvEqs_refl : ∀ (ps : List PV), isDatas ps = true → pvEqs ps ps = true
  | [], _ => by simp [pvEqs]
  | p :: ps, h => by
    simp only [isDatas, Bool.and_eq_true] at h
    simp only [pvEqs, Bool.and_eq_true]
    exact ⟨pvEq_refl p h.1, pvEqs_refl ps h.2⟩
end
theorem pvEqs_map {α : Type} [DecidableEq α] {f : α → PV} (h : ∀ x y, pvEq (f x) (f y) = decide (x = y)) : ∀ xs ys : List α, pvEqs (xs.map f) (ys.map f) = decide (xs = ys)
  | [], [] => by simp [pvEqs]
  | [], _ :: _ => by simp [pvEqs]
  | _ :: _, [] => by simp [pvEqs]
  | x :: xs, y :: ys => by
    simp only [List.map_cons, pvEqs, h, pvEqs_map h xs ys]
    by_cases e : x = y <;> simp [e]
theorem pvEq_strs (xs ys : List Tx) : pvEq (.lst (xs.map .str)) (.lst (ys.map .str)) = decide (xs = ys) := by
  simp only [pvEq]
  exact pvEqs_map (fun x y => by simp only [pvEq]; by_cases h : x = y <;> simp [h]) xs ys
theorem eqOk_data {p : PV} (h : eqOk p = true) : isData p = true := by
  unfold eqOk at h
  simp only [Bool.and_eq_true] at h
  exact h.1
theorem gEq_refl {p : PV} (h : eqOk p = true) : gEq p p = some true := by rw [gEq_of h h, pvEq_refl p (eqOk_data h)]
theorem gNe_refl {p : PV} (h : eqOk p = true) : gNe p p = some false := by rw [gNe_of h h, pvEq_refl p (eqOk_data h)]; rfl
/-- data of a depth -/
def okD (n : Nat) (p : PV) : Prop := isData p = true ∧ dep p ≤ n
theorem okD.eqOk {n : Nat} {p : PV} (h : okD n p) (hn : n ≤ 64) : eqOk p = true := by
  unfold Fz.eqOk
  rw [h.1]
  simp only [Bool.true_and, decide_eq_true_eq]
  have := h.2
  omega
theorem okD_str (x : Tx) : okD 0 (.str x) := ⟨rfl, Nat.le_refl _⟩
theorem okD_int (x : Int) : okD 0 (.int x) := ⟨rfl, Nat.le_refl _⟩
theorem okD_bl (x : Bool) : okD 0 (.bl x) := ⟨rfl, Nat.le_refl _⟩
theorem okD_non : okD 0 .non := ⟨rfl, Nat.le_refl _⟩
theorem okD.up {n m : Nat} {p : PV} (h : okD n p) (hm : n ≤ m) : okD m p := ⟨h.1, Nat.le_trans h.2 hm⟩
theorem okDs {n : Nat} : ∀ {ps : List PV}, (∀ p ∈ ps, okD n p) → isDatas ps = true ∧ deps ps ≤ n
  | [], _ => ⟨rfl, Nat.zero_le _⟩
  | p :: ps, h => by
    obtain ⟨h1, h2⟩ := h p List.mem_cons_self
    obtain ⟨i1, i2⟩ := okDs fun q hq => h q (List.mem_cons_of_mem _ hq)
    exact ⟨by show (isData p && isDatas ps) = true; rw [h1, i1]; rfl, by show max (dep p) (deps ps) ≤ n; exact Nat.max_le.mpr ⟨h2, i2⟩⟩
theorem okD_lst {n : Nat} {ps : List PV} (h : ∀ p ∈ ps, okD n p) : okD (n + 1) (.lst ps) := ⟨(okDs h).1, Nat.succ_le_succ (okDs h).2⟩
theorem okD_tup {n : Nat} {ps : List PV} (h : ∀ p ∈ ps, okD n p) : okD (n + 1) (.tup ps) := ⟨(okDs h).1, Nat.succ_le_succ (okDs h).2⟩
theorem okD_strs (xs : List Tx) : okD 1 (.lst (xs.map .str)) := okD_lst fun p hp => by obtain ⟨x, _, rfl⟩ := List.mem_map.mp hp; exact okD_str x
theorem okD_ints (xs : List Int) : okD 1 (.lst (xs.map .int)) := okD_lst fun p hp => by obtain ⟨x, _, rfl⟩ := List.mem_map.mp hp; exact okD_int x
/-! places -/
theorem atI_nat {α : Type} (xs : List α) (k : Nat) : atI xs (k : Int) = xs[k]? := by
  unfold atI ixN
  rw [if_pos (by omega)]
  by_cases h : k < xs.length
  · rw [if_pos (by omega)]; simp
  · rw [if_neg (by omega)]
    rw [List.getElem?_eq_none (by omega)]; rfl
@[simp] theorem atI_0 {α : Type} (x : α) (xs : List α) : atI (x :: xs) 0 = some x := (atI_nat _ 0).trans rfl
@[simp] theorem atI_1 {α : Type} (x y : α) (xs : List α) : atI (x :: y :: xs) 1 = some y := (atI_nat _ 1).trans rfl
@[simp] theorem atI_2 {α : Type} (x y z : α) (xs : List α) : atI (x :: y :: z :: xs) 2 = some z := (atI_nat _ 2).trans rfl
@[simp] theorem atI_3 {α : Type} (x y z w : α) (xs : List α) : atI (x :: y :: z :: w :: xs) 3 = some w := (atI_nat _ 3).trans rfl
/-! sorted lists -/
section
variable {α : Type} {le : α → α → Bool}
theorem mem_sortT {x : α} {xs : List α} : x ∈ sortT le xs ↔ x ∈ xs := (sortT_perm xs).mem_iff
theorem len_sortT (xs : List α) : (sortT le xs).length = xs.length := (sortT_perm xs).length_eq
theorem nodup_sortT {xs : List α} (h : xs.Nodup) : (sortT le xs).Nodup := (sortT_perm xs).nodup_iff.mpr h
theorem sortT_eq (tot : ∀ a b, le a b = true ∨ le b a = true) (tr : ∀ a b c, le a b = true → le b c = true → le a c = true) (anti : ∀ a b, le a b = true → le b a = true → a = b) {xs ys : List α} (h : xs.Perm ys) (hs : ys.Pairwise fun a b => le a b = true) : sortT le xs = ys :=
  ((sortT_perm xs).trans h).eq_of_pairwise (fun a b _ _ h1 h2 => anti a b h1 h2) (sortT_sorted tot tr xs) hs
end
theorem sortX_eq {xs ys : List Tx} (h : xs.Perm ys) (hs : ys.Pairwise fun a b => txLe a b = true) : sortT txLe xs = ys := sortT_eq txLe_total txLe_trans (fun _ _ => txLe_antisymm) h hs
theorem sortX_sorted (xs : List Tx) : (sortT txLe xs).Pairwise fun a b => txLe a b = true := sortT_sorted txLe_total txLe_trans xs
theorem sortX_perm {xs ys : List Tx} (h : xs.Perm ys) : sortT txLe xs = sortT txLe ys := sortX_eq (h.trans (sortT_perm ys).symm) (sortX_sorted ys)
theorem sortX_self {xs : List Tx} (h : xs.Pairwise fun a b => txLe a b = true) : sortT txLe xs = xs := sortX_eq (.refl _) h
/-- strictly rising -/
theorem sortX_strict {xs : List Tx} (h : xs.Nodup) : (sortT txLe xs).Pairwise fun a b => txLt a b = true := by
  have h1 := sortX_sorted xs
  have h2 : (sortT txLe xs).Pairwise (· ≠ ·) := nodup_sortT h
  refine (h1.and h2).imp ?_
  rintro a b ⟨h3, h4⟩
  cases z : txLt a b with
  | true => rfl
  | false => exact absurd (txLe_antisymm h3 (by unfold txLe; rw [z]; rfl)) h4

theorem snoc_m {α : Type} (f : α → PV) (xs : List α) (x : α) : xs.map f ++ [f x] = (xs ++ [x]).map f := by simp
/-! None or a text -/
def ansP : Option Tx → PV
  | some a => .str a
  | none => .non
@[simp] theorem ansP_some (a : Tx) : ansP (some a) = .str a := (rfl)
@[simp] theorem ansP_none : ansP none = .non := (rfl)
@[simp] theorem nonP_non : isNonP .non = true := (rfl)
@[simp] theorem nonP_str (x : Tx) : isNonP (.str x) = false := (rfl)
@[simp] theorem nonP_int (x : Int) : isNonP (.int x) = false := (rfl)
@[simp] theorem nonP_bl (x : Bool) : isNonP (.bl x) = false := (rfl)
@[simp] theorem nonP_tup (x : List PV) : isNonP (.tup x) = false := (rfl)
@[simp] theorem nonP_lst (x : List PV) : isNonP (.lst x) = false := (rfl)
@[simp] theorem nonP_dic (x : List (K1 × PV)) : isNonP (.dic x) = false := (rfl)
theorem nonP_ans (o : Option Tx) : isNonP (ansP o) = o.isNone := by cases o <;> rfl
@[simp] theorem gIsN_p (p : PV) : gIsN p .non = some (isNonP p) := (rfl)
@[simp] theorem gNotN_p (p : PV) : gNotN p .non = some (!isNonP p) := (rfl)
theorem okD_ans (o : Option Tx) : okD 0 (ansP o) := by cases o <;> exact ⟨rfl, Nat.le_refl _⟩
theorem pvEq_ans (a b : Option Tx) : pvEq (ansP a) (ansP b) = decide (a = b) := by
  cases a with
  | none => cases b <;> simp [ansP, pvEq]
  | some a => cases b with
    | none => simp [ansP, pvEq]
    | some b => by_cases h : a = b <;> simp [ansP, pvEq, h]
theorem gEq_ans (a b : Option Tx) : gEq (ansP a) (ansP b) = some (decide (a = b)) := by
  rw [gEq_of ((okD_ans a).eqOk (by omega)) ((okD_ans b).eqOk (by omega)), pvEq_ans]
theorem gNe_ans (a b : Option Tx) : gNe (ansP a) (ansP b) = some (!decide (a = b)) := by
  rw [gNe_of ((okD_ans a).eqOk (by omega)) ((okD_ans b).eqOk (by omega)), pvEq_ans]
/-! paths -/
@[simp] theorem kids_T (ts : List OT) : (OT.T ts).kids = ts := (rfl)
@[simp] theorem kids_L (ts : List OT) : (OT.L ts).kids = ts := (rfl)
@[simp] theorem kids_D (ts : List (K1 × OT)) : (OT.D ts).kids = ts.map Prod.snd := (rfl)
@[simp] theorem setKid_T (ts : List OT) (i : Nat) (n : OT) : (OT.T ts).setKid i n = .T (ts.set i n) := (rfl)
@[simp] theorem setKid_L (ts : List OT) (i : Nat) (n : OT) : (OT.L ts).setKid i n = .L (ts.set i n) := (rfl)
@[simp] theorem setKid_D (ts : List (K1 × OT)) (i : Nat) (n : OT) : (OT.D ts).setKid i n = .D (setSnd ts i n) := (rfl)
theorem at_cons' (t : OT) (i : Nat) (π : List Nat) : t.at (i :: π) = (t.kids[i]?).bind fun k => k.at π := by
  show (match t.kids[i]? with
    | some k => k.at π
    | none => none) = _
  cases t.kids[i]? <;> rfl
def putKid (t n : OT) (i : Nat) (π : List Nat) : Option OT → OT
  | some k => t.setKid i (k.put π n)
  | none => t
@[simp] theorem putKid_some (t n k : OT) (i : Nat) (π : List Nat) : putKid t n i π (some k) = t.setKid i (k.put π n) := (rfl)
theorem put_cons' (t n : OT) (i : Nat) (π : List Nat) : t.put (i :: π) n = putKid t n i π t.kids[i]? := by
  show (match t.kids[i]? with
    | some k => t.setKid i (k.put π n)
    | none => t) = _
  cases t.kids[i]? <;> rfl
@[simp] theorem kidIdx_L (ts : List OT) (k : Int) : kidIdx (.L ts) (.int k) = ixN ts.length k := (rfl)
@[simp] theorem kidIdx_T (ts : List OT) (k : Int) : kidIdx (.T ts) (.int k) = ixN ts.length k := (rfl)
@[simp] theorem kidIdx_Ds (ts : List (K1 × OT)) (x : Tx) : kidIdx (.D ts) (.str x) = ts.findIdx? fun q => decide (q.1 = .inr x) := (rfl)
theorem ixN_nat {n k : Nat} (h : k < n) : ixN n (k : Int) = some k := by
  rw [ixN_nn _ (by omega) (by omega)]; simp
@[simp] theorem ixN_0 (n : Nat) : ixN (n + 1) 0 = some 0 := ixN_nat (k := 0) (by omega)
@[simp] theorem ixN_1 (n : Nat) : ixN (n + 1 + 1) 1 = some 1 := ixN_nat (k := 1) (by omega)
@[simp] theorem putT_some (i : Nat) (ρ : Env) (π : List Nat) (n : OT) : putT i ρ π (some n) = (match ownT ρ[i]? with
    | some t => .nx (ρ.set i (.own (t.put π n)))
    | none => .bad) := (rfl)
@[simp] theorem isLN_l (ps : List PV) : isLN (some (.l ps)) = true := (rfl)
@[simp] theorem isLN_L (ps : List OT) : isLN (some (.L ps)) = true := (rfl)
@[simp] theorem appN_l (p : PV) (ps : List PV) : appN p (.l ps) = if ps.length < sizeLine then some (.l (ps ++ [p])) else none := (rfl)
@[simp] theorem appNO_L (c : OT) (ts : List OT) : appNO c (.L ts) = if ts.length < sizeLine then some (.L (ts ++ [c])) else none := (rfl)
@[simp] theorem ndM_B (n : OT) : ndM .B n = some n.pv := by cases n <;> rfl
@[simp] theorem ndM_E (p : PV) : ndM .E (.fz p) = some p := (rfl)
@[simp] theorem ndM_Ifz (p : PV) : ndM .I (.fz p) = some p := (rfl)
@[simp] theorem ndM_Il (p : List PV) : ndM .I (.l p) = some (.lst p) := (rfl)
@[simp] theorem ndM_Id (p : List (K1 × PV)) : ndM .I (.d p) = some (.dic p) := (rfl)
end Fz
end
section
/-! Fyf: defs that change what they are given. -/
namespace Fz
open PySem PySem.Spec PyProof.Rows L2
inductive ResM where
  | ok (o : OT) (ts : List OT)
  | exc (c : String) (fs : Option (List (String × PV))) (ts : List OT)
  | bad
abbrev FnM := List Addr → List OT → ResM
def slotsM : List Bool → List Addr → List OT → Env
  | true :: fl, a :: as, t :: ts => .own (.P a t) :: slotsM fl as ts
  | false :: fl, as, .fz p :: ts => .val p :: slotsM fl as ts
  | _, _, _ => []
/-- what the changed things are in the end -/
def endM : List Bool → List Addr → Env → Option (List OT)
  | true :: fl, a :: as, .own (.P b t) :: ρ => if b = a then (endM fl as ρ).map (t :: ·) else none
  | false :: fl, as, _ :: ρ => endM fl as ρ
  | [], [], _ => some []
  | _, _, _ => none
def unP : List Addr → List OT → Option (List OT)
  | a :: as, .P b t :: ts => if b = a then (unP as ts).map (t :: ·) else none
  | [], [] => some []
  | _, _ => none
def okM (o : OT) : Option (List OT) → ResM
  | some ts => .ok o ts
  | none => .bad
def excM (c : String) (fs : Option (List (String × PV))) : Option (List OT) → ResM
  | some ts => .exc c fs ts
  | none => .bad
def lenM (fl : List Bool) (as : List Addr) (ts : List OT) : Prop := ts.length = fl.length ∧ as.length = (fl.filter id).length
instance (fl : List Bool) (as : List Addr) (ts : List OT) : Decidable (lenM fl as ts) := by unfold lenM; infer_instance
def flM (fl : List Bool) (as : List Addr) : Fl → ResM
  | .rt (.M o ps) => okM o (unP as ps)
  | .nx ρ => okM (.fz .non) (endM fl as ρ)
  | .ex c fs ρ => excM c fs (endM fl as ρ)
  | _ => .bad
def runFnM (n : Nat) (fl : List Bool) (s : S) : FnM := fun as ts => if lenM fl as ts then flM fl as (s (slotsM fl as ts ++ List.replicate (n - fl.length) .u)) else .bad
section
variable (K : PySem.W.Frag)
def RepArgsM (A : Addr → Prop) (H : Hp) : List Bool → List Addr → List OT → List V → List (List Addr) → Prop
  | [], [], [], [], [] => True
  | true :: fl, a :: as, t :: ts, v :: vs, F :: Fs => v = .ref a ∧ OTRep K A H t v F ∧ RepArgsM A H fl as ts vs Fs
  | false :: fl, as, t :: ts, v :: vs, F :: Fs => F = [] ∧ (∃ p, t = .fz p ∧ Rep K A H p v) ∧ RepArgsM A H fl as ts vs Fs
  | _, _, _, _, _ => False
/-- what a call leaves as it was -/
structure Kept (H : Hp) (F : List Addr) (H' : Hp) (F' : List Addr) : Prop where
  keep : ∀ a o, a ∉ F → H a = some o → H' a = some o
  more : ∀ a, H a ≠ none → H' a ≠ none
  nod : F'.Nodup
  sub : ∀ a ∈ F', a ∈ F ∨ H a = none
def OutM (C : Addr → Prop) (H : Hp) (F : List Addr) (as : List Addr) (Q : VK) (E : XK) : ResM → Prop
  | .ok o ts => ∀ v H' Fn F', Kept H F H' (Fn ++ F') → OTRep K (fun a => (C a ∨ a ∈ F ∨ H a = none) ∧ a ∉ Fn ++ F') H' o v Fn → OTReps K (fun a => (C a ∨ a ∈ F ∨ H a = none) ∧ a ∉ Fn ++ F') H' ts (as.map V.ref) F' → Q v H'
  | .exc c fs ts => ∀ H' F', Kept H F H' F' → OTReps K (fun a => (C a ∨ a ∈ F ∨ H a = none) ∧ a ∉ F') H' ts (as.map V.ref) F' → XW K (fun c d _ H => E c d H) [] H' c fs
  | .bad => False
def spM (fl : List Bool) (g : FnM) : Sp := fun vs H Q E => ∃ (C : Addr → Prop) (as : List Addr) (ts : List OT) (Fs : List (List Addr)), RepArgsM K C H fl as ts vs Fs ∧ Fs.flatten.Nodup ∧ (∀ a ∈ Fs.flatten, ¬ C a) ∧ OutM K C H Fs.flatten as Q E (g as ts)
end
section
variable {K : PySem.W.Frag} {A C : Addr → Prop} {H H' : Hp}
theorem RepArgsM.len : ∀ {fl : List Bool} {as : List Addr} {ts : List OT} {vs : List V} {Fs : List (List Addr)}, RepArgsM K A H fl as ts vs Fs → lenM fl as ts ∧ vs.length = fl.length ∧ Fs.length = fl.length
  | [], [], [], [], [], _ => ⟨⟨rfl, rfl⟩, rfl, rfl⟩
  | true :: fl, a :: as, t :: ts, v :: vs, F :: Fs, h => by
    obtain ⟨⟨h1, h2⟩, h3, h4⟩ := RepArgsM.len h.2.2
    exact ⟨⟨by simp [h1], by simp [h2]⟩, by simp [h3], by simp [h4]⟩
  | false :: fl, as, t :: ts, v :: vs, F :: Fs, h => by
    obtain ⟨⟨h1, h2⟩, h3, h4⟩ := RepArgsM.len h.2.2
    exact ⟨⟨by simp [h1], by simp [h2]⟩, by simp [h3], by simp [h4]⟩
theorem slotsM_len : ∀ {fl : List Bool} {as : List Addr} {ts : List OT} {vs : List V} {Fs : List (List Addr)}, RepArgsM K A H fl as ts vs Fs → (slotsM fl as ts).length = fl.length
  | [], [], [], [], [], _ => rfl
  | true :: fl, a :: as, t :: ts, v :: vs, F :: Fs, h => by simp [slotsM, slotsM_len h.2.2]
  | false :: fl, as, t :: ts, v :: vs, F :: Fs, h => by
    obtain ⟨p, rfl, _⟩ := h.2.1
    simp [slotsM, slotsM_len h.2.2]
def fpOf (Fs : List (List Addr)) : Fp := fun i => (Fs[i]?).getD []
theorem inF_of {Fs : List (List Addr)} {a : Addr} : InF (fpOf Fs) a ↔ a ∈ Fs.flatten := by
  unfold InF fpOf
  constructor
  · rintro ⟨i, h⟩
    cases e : Fs[i]? with
    | none => rw [e] at h; cases h
    | some F => rw [e] at h; exact List.mem_flatten.mpr ⟨F, List.mem_of_getElem? e, h⟩
  · intro h
    obtain ⟨F, hF, ha⟩ := List.mem_flatten.mp h
    obtain ⟨i, hi⟩ := List.getElem?_of_mem hF
    exact ⟨i, by rw [hi]; exact ha⟩
theorem slotsM_get {B : Addr → Prop} (hA : ∀ a, A a → B a) : ∀ {fl : List Bool} {as : List Addr} {ts : List OT} {vs : List V} {Fs : List (List Addr)} {i : Nat} {s : Slot}, RepArgsM K A H fl as ts vs Fs → (slotsM fl as ts)[i]? = some s →
    SlotOk K B (fun _ => True) H s ((vs.map some)[i]?) (fpOf Fs i)
  | [], [], [], [], [], _, _, _, h => by simp [slotsM] at h
  | true :: fl, a :: as, t :: ts, v :: vs, F :: Fs, 0, s, r, h => by
    simp only [slotsM, List.getElem?_cons_zero, Option.some.injEq] at h
    subst h
    exact ⟨v, rfl, r.1, r.2.1.carry (Carry.refl fun a _ q _ => hA a q) fun _ _ _ q => q⟩
  | true :: fl, a :: as, t :: ts, v :: vs, F :: Fs, i + 1, s, r, h => by
    simp only [slotsM, List.getElem?_cons_succ] at h
    simpa [fpOf] using slotsM_get hA r.2.2 h
  | false :: fl, as, t :: ts, v :: vs, F :: Fs, 0, s, r, h => by
    obtain ⟨e, ⟨p, rfl, rp⟩, _⟩ := r
    simp only [slotsM, List.getElem?_cons_zero, Option.some.injEq] at h
    subst h
    exact ⟨e, v, rfl, Rep.sub hA rp⟩
  | false :: fl, as, t :: ts, v :: vs, F :: Fs, i + 1, s, r, h => by
    obtain ⟨e, ⟨p, rfl, rp⟩, r⟩ := r
    simp only [slotsM, List.getElem?_cons_succ] at h
    simpa [fpOf] using slotsM_get hA r h
theorem flat_inj : ∀ {Fs : List (List Addr)} {i j : Nat} {a : Addr}, Fs.flatten.Nodup → a ∈ fpOf Fs i → a ∈ fpOf Fs j → i = j
  | [], i, j, a, _, h, _ => by simp [fpOf] at h
  | F :: Fs, i, j, a, n, hi, hj => by
    rw [List.flatten_cons] at n
    obtain ⟨n1, n2, n3⟩ := List.nodup_append.mp n
    have mem : ∀ {k}, a ∈ fpOf (F :: Fs) (k + 1) → a ∈ Fs.flatten := fun {k} h => inF_of.mp ⟨k, h⟩
    cases i with
    | zero => cases j with
      | zero => rfl
      | succ j => exact (n3 a hi a (mem hj) rfl).elim
    | succ i => cases j with
      | zero => exact (n3 a hj a (mem hi) rfl).elim
      | succ j => rw [flat_inj n2 (i := i) (j := j) hi hj]
theorem flat_nod : ∀ {Fs : List (List Addr)} {i : Nat}, Fs.flatten.Nodup → (fpOf Fs i).Nodup
  | [], i, _ => by simp [fpOf]
  | F :: Fs, i, n => by
    rw [List.flatten_cons] at n
    obtain ⟨n1, n2, n3⟩ := List.nodup_append.mp n
    cases i with
    | zero => exact n1
    | succ i => exact flat_nod (i := i) n2
theorem entryM {fl : List Bool} {as : List Addr} {ts : List OT} {vs : List V} {Fs : List (List Addr)} {N : List Str} (r : RepArgsM K C H fl as ts vs Fs) (nd : Fs.flatten.Nodup) (dis : ∀ a ∈ Fs.flatten, ¬ C a) (hn : fl.length ≤ N.length) :
    EnvOk K (fun a => C a ∨ a ∈ Fs.flatten ∨ H a = none) (slotsM fl as ts ++ List.replicate (N.length - fl.length) .u) (L2.start N vs) H (fpOf Fs) := by
  obtain ⟨⟨l1, l2⟩, l3, l4⟩ := r.len
  have l5 := slotsM_len r
  refine ⟨by simp [L2.start, l3, l5], fun i s h => ?_, fun i hi => ?_, fun i j a h1 h2 => flat_inj nd h1 h2, fun i => flat_nod nd, fun a h => .inr (.inl (inF_of.mp h)), fun a h => .inr (.inr h)⟩
  · by_cases hi : i < (slotsM fl as ts).length
    · rw [List.getElem?_append_left hi] at h
      unfold L2.start
      rw [List.getElem?_append_left (by simp; omega)]
      have := slotsM_get (B := Am (fun a => C a ∨ a ∈ Fs.flatten ∨ H a = none) (fpOf Fs)) (fun a q => ⟨.inl q, fun z => dis a (inF_of.mp z) q⟩) r h
      revert this
      cases s with
      | u => exact id
      | val p => exact id
      | bor p =>
        intro _
        exfalso
        have nb : ∀ {fl : List Bool} {as : List Addr} {ts : List OT} {i : Nat}, (slotsM fl as ts)[i]? ≠ some (.bor p) := by
          intro fl as ts
          induction fl, as, ts using slotsM.induct with
          | case1 fl a as t ts ih => intro i; cases i with
            | zero => simp [slotsM]
            | succ i => simpa [slotsM] using ih
          | case2 as fl p ts ih => intro i; cases i with
            | zero => simp [slotsM]
            | succ i => simpa [slotsM] using ih
          | case3 fl as ts h1 h2 => intro i; rw [slotsM] <;> first | (simp; done) | assumption
        exact nb h
      | exn a od l =>
        intro _
        exfalso
        have nb : ∀ {fl : List Bool} {as : List Addr} {ts : List OT} {i : Nat}, (slotsM fl as ts)[i]? ≠ some (.exn a od l) := by
          intro fl as ts
          induction fl, as, ts using slotsM.induct with
          | case1 fl a as t ts ih => intro i; cases i with
            | zero => simp [slotsM]
            | succ i => simpa [slotsM] using ih
          | case2 as fl p ts ih => intro i; cases i with
            | zero => simp [slotsM]
            | succ i => simpa [slotsM] using ih
          | case3 fl as ts h1 h2 => intro i; rw [slotsM] <;> first | (simp; done) | assumption
        exact nb h
      | own t => exact id
    · rw [List.getElem?_append_right (Nat.le_of_not_lt hi), List.getElem?_replicate] at h
      split at h
      · cases h
        show fpOf Fs i = []
        unfold fpOf
        rw [List.getElem?_eq_none (by omega)]; rfl
      · cases h
  · have hi : fl.length ≤ i := by
      have : (slotsM fl as ts ++ List.replicate (N.length - fl.length) Slot.u).length ≤ i := hi
      simp [l5] at this
      omega
    unfold fpOf
    rw [List.getElem?_eq_none (by omega)]; rfl
theorem endM_rep {ρ : Env} {σ : L2.St} {fp : Fp} (e : EnvOk K C ρ σ H fp) : ∀ {fl : List Bool} {as : List Addr} {k : Nat} {ts : List OT}, endM fl as (ρ.drop k) = some ts →
    ∃ F, OTReps K (Am C fp) H ts (as.map V.ref) F ∧ F.Nodup ∧ ∀ a ∈ F, ∃ j, k ≤ j ∧ a ∈ fp j
  | [], as, k, ts, h => by
    cases as with
    | nil => simp only [endM, Option.some.injEq] at h; subst h; exact ⟨[], ⟨rfl, rfl⟩, List.nodup_nil, fun _ h => nomatch h⟩
    | cons a as => simp [endM] at h
  | true :: fl, [], k, ts, h => by simp [endM] at h
  | true :: fl, a :: as, k, ts, h => by
    cases ed : ρ.drop k with
    | nil => rw [ed] at h; simp [endM] at h
    | cons s r =>
      rw [ed] at h
      have er : ρ.drop (k + 1) = r := by rw [← List.drop_drop, ed]; rfl
      have ek : ρ[k]? = some s := by rw [← List.head?_drop, ed]; rfl
      cases s with
      | own t =>
        cases t with
        | P b t =>
          simp only [endM] at h
          split at h
          · rename_i hb
            subst hb
            obtain ⟨ts', h', rfl⟩ := Option.map_eq_some_iff.mp h
            rw [← er] at h'
            obtain ⟨F, r1, n1, s1⟩ := endM_rep e h'
            obtain ⟨v, hv, hr⟩ := e.slot k _ ek
            have hr2 : v = .ref b ∧ OTRep K (Am C fp) H t v (fp k) := hr
            obtain ⟨rfl, hr2⟩ := hr2
            refine ⟨fp k ++ F, ⟨_, _, fp k, F, rfl, rfl, hr2, r1⟩, List.nodup_append.mpr ⟨e.nod k, n1, fun x hx y hy z => ?_⟩, fun x hx => ?_⟩
            · obtain ⟨j, hj, hm⟩ := s1 y hy
              have := e.inj _ _ _ hx (z ▸ hm)
              omega
            · rcases List.mem_append.mp hx with q | q
              · exact ⟨k, Nat.le_refl _, q⟩
              · obtain ⟨j, hj, hm⟩ := s1 x q
                exact ⟨j, by omega, hm⟩
          · cases h
        | _ => simp [endM] at h
      | _ => simp [endM] at h
  | false :: fl, as, k, ts, h => by
    cases ed : ρ.drop k with
    | nil => rw [ed] at h; simp [endM] at h
    | cons s r =>
      rw [ed] at h
      have er : ρ.drop (k + 1) = r := by rw [← List.drop_drop, ed]; rfl
      simp only [endM] at h
      rw [← er] at h
      obtain ⟨F, r1, n1, s1⟩ := endM_rep e h
      exact ⟨F, r1, n1, fun x hx => by obtain ⟨j, hj, hm⟩ := s1 x hx; exact ⟨j, by omega, hm⟩⟩
theorem unP_rep : ∀ {as : List Addr} {ps ts : List OT} {xs : List V} {F : List Addr}, unP as ps = some ts → OTReps K A H ps xs F → OTReps K A H ts (as.map V.ref) F
  | [], [], ts, xs, F, h, r => by simp only [unP, Option.some.injEq] at h; subst h; exact ⟨rfl, r.2⟩
  | a :: as, .P b t :: ps, ts, xs, F, h, r => by
    simp only [unP] at h
    split at h
    · rename_i hb
      subst hb
      obtain ⟨ts', h', rfl⟩ := Option.map_eq_some_iff.mp h
      obtain ⟨x, r', F1, F2, rfl, rfl, r1, r2⟩ := r
      obtain ⟨rfl, r1⟩ := r1
      exact ⟨_, _, F1, F2, rfl, rfl, r1, unP_rep h' r2⟩
    · cases h
  | [], _ :: _, ts, xs, F, h, r => by simp [unP] at h
  | _ :: _, [], ts, xs, F, h, r => by simp [unP] at h
  | a :: as, .fz _ :: ps, ts, xs, F, h, r | a :: as, .l _ :: ps, ts, xs, F, h, r | a :: as, .d _ :: ps, ts, xs, F, h, r | a :: as, .dt _ :: ps, ts, xs, F, h, r | a :: as, .ins _ _ :: ps, ts, xs, F, h, r
  | a :: as, .T _ :: ps, ts, xs, F, h, r | a :: as, .L _ :: ps, ts, xs, F, h, r | a :: as, .D _ :: ps, ts, xs, F, h, r | a :: as, .I _ _ :: ps, ts, xs, F, h, r | a :: as, .M _ _ :: ps, ts, xs, F, h, r => by simp [unP] at h
end
/-! ### the def's rule -/
structure DefM (P : Program) (w : World) (K : PySem.W.Frag) (mg : Str → Option Value) (base : Heap) (k : Nat) (x : Str) (ps : List Str) (fl : List Bool) (g : FnM) : Prop where
  ex : ∃ f fd, FnOk P w K mg base (L2.CX P w) k f fd ps (spM K fl g) ∧ mg x = some (.ref f) ∧ PySem.W.keepIn K (.ref f) = true ∧ Binds K fd ps []
section
variable {P : Program} {w : World} {K : PySem.W.Frag} {mg : Str → Option Value} {base : Heap}
theorem fnM_ok {x qual : Str} {params : Arguments} {body : List Stmt} {scope : Scope} {f : Addr} {fd : FuncData} {N ps : List Str} {k : Nat} {fl : List Bool} {s : S} (F : FunD K x qual params body scope [] [] f fd) (Sc : FnScope N ps scope) (hm : fl.length = ps.length) (hN : fl.length ≤ N.length)
    (hb : ∀ (cdv : Value) (A : Around) (outer : List PySem.Env) (sh : Shared) (H : Hp) (E : XK) (C : Addr → Prop), Room k (XD P w K mg base N qual scope f cdv A outer sh H E).A → Takes (XD P w K mg base N qual scope f cdv A outer sh H E) (fun c d _ H => E c d H) →
      PassesOwn (model P w) (XD P w K mg base N qual scope f cdv A outer sh H E).A (XD P w K mg base N qual scope f cdv A outer sh H E).env (XD P w K mg base N qual scope f cdv A outer sh H E).xe → BJ (XD P w K mg base N qual scope f cdv A outer sh H E) C (fun c d _ H => E c d H) body s) :
    FnOk P w K mg base (L2.CX P w) (k + 1) f fd ps (spM K fl (runFnM N.length fl s)) := by
  refine F.ok Sc (fun vs H Q E h => ?_) (fun cdv A outer sh H vs Q E hr h => ?_)
  · obtain ⟨C, as, ts, Fs, r, _⟩ := h
    rw [r.len.2.1, hm]
  · obtain ⟨C, as, ts, Fs, r, nd, dis, o⟩ := h
    refine ⟨_, hb cdv A outer sh H E (fun a => C a ∨ a ∈ Fs.flatten ∨ H a = none) hr (takes_of rfl rfl rfl rfl) (passes_of rfl), _, _, entryM r nd dis hN, ?_⟩
    unfold runFnM at o
    rw [if_pos r.len.1] at o
    have kept : ∀ {H' : Hp} {fp' : Fp} {F' : List Addr}, Grow H (fpOf Fs) H' fp' → F'.Nodup → (∀ a ∈ F', InF (fpOf Fs) a ∨ H a = none) → Kept H Fs.flatten H' F' := fun {H' fp' F'} g n sub =>
      ⟨fun a o' hn he => g.keep a o' he fun z => hn (inF_of.mp z), g.more, n, fun a ha => (sub a ha).imp inF_of.mp id⟩
    revert o
    cases hs : s (slotsM fl as ts ++ List.replicate (N.length - fl.length) .u) with
    | nx ρ =>
      intro o σ' H' fp' e g
      unfold flM okM at o
      cases he : endM fl as ρ with
      | none => simp only [he] at o; exact o.elim
      | some ts' =>
        simp only [he] at o
        obtain ⟨F', r1, n1, s1⟩ := endM_rep (k := 0) e he
        have inf : ∀ a ∈ F', InF fp' a := fun a ha => by obtain ⟨j, _, hj⟩ := s1 a ha; exact ⟨j, hj⟩
        exact o .non H' [] F' (kept g n1 fun a ha => g.new a (inf a ha)) ⟨rfl, rfl⟩ (OTReps.carry (Carry.refl fun a _ q _ => ⟨q.1, fun z => q.2 (inf a z)⟩) (fun _ _ _ q => q) r1)
    | rt t =>
      intro o v H' Fn g n hf rr
      cases t with
      | M oo ps' =>
        unfold flM okM at o
        cases he : unP as ps' with
        | none => simp only [he] at o; exact o.elim
        | some ts' =>
          simp only [he] at o
          obtain ⟨xs, F1, F2, rfl, r1, r2⟩ := rr
          exact o v H' F1 F2 (kept g n hf) r1 (unP_rep he r2)
      | _ => exact o.elim
    | bk ρ => exact False.elim
    | ct ρ => exact False.elim
    | ex c fs ρ =>
      intro o σ' H' fp' e g
      unfold flM excM at o
      cases he : endM fl as ρ with
      | none => simp only [he] at o; exact o.elim
      | some ts' =>
        simp only [he] at o
        obtain ⟨F', r1, n1, s1⟩ := endM_rep (k := 0) e he
        have inf : ∀ a ∈ F', InF fp' a := fun a ha => by obtain ⟨j, _, hj⟩ := s1 a ha; exact ⟨j, hj⟩
        have := o H' F' (kept g n1 fun a ha => g.new a (inf a ha)) (OTReps.carry (Carry.refl fun a _ q _ => ⟨q.1, fun z => q.2 (inf a z)⟩) (fun _ _ _ q => q) r1)
        cases fs with
        | none => exact this
        | some fs => exact this
    | bad => exact False.elim
theorem defM_ok {x qual : Str} {params : Arguments} {body : List Stmt} {scope : Scope} {f : Addr} {fd : FuncData} {N ps : List Str} {k : Nat} {fl : List Bool} {s : S} (F : FunD K x qual params body scope [] [] f fd) (Sc : FnScope N ps scope) (hm : fl.length = ps.length) (hN : fl.length ≤ N.length) (hg : mg x = some (.ref f))
    (hbd : ∀ (kV doc pm : Value) (an : Option Addr) (cdv ct : Value) (us : List Value), us.length = ps.length → bindArgs (PySem.W.fnOf x qual params body scope .none kV doc pm an cdv ct) ⟨us, []⟩ = pure (ps.zip us))
    (hb : ∀ (cdv : Value) (A : Around) (outer : List PySem.Env) (sh : Shared) (H : Hp) (E : XK) (C : Addr → Prop), Room k (XD P w K mg base N qual scope f cdv A outer sh H E).A → Takes (XD P w K mg base N qual scope f cdv A outer sh H E) (fun c d _ H => E c d H) →
      PassesOwn (model P w) (XD P w K mg base N qual scope f cdv A outer sh H E).A (XD P w K mg base N qual scope f cdv A outer sh H E).env (XD P w K mg base N qual scope f cdv A outer sh H E).xe → BJ (XD P w K mg base N qual scope f cdv A outer sh H E) C (fun c d _ H => E c d H) body s) :
    DefM P w K mg base (k + 1) x ps fl (runFnM N.length fl s) := ⟨f, fd, fnM_ok F Sc hm hN hb, hg, F.kp, F.bindsN hbd⟩
end
end Fz
end
section
/-! Fyg: calls of defs that change what they are given. -/
namespace Fz
open PySem PySem.Spec PyProof.Rows L2
/-- an argument: a common value, or what is at a path of a slot -/
inductive AV where
  | e (p : PV) | m (i : Nat) (π : List Nat)
def AV.isM : AV → Bool
  | .e _ => false
  | .m _ _ => true
abbrev AL := Env → Res (List AV)
def aNil : AL := fun _ => .ok []
def aE (f : E) (l : AL) : AL := fun ρ => f ρ >>= fun p => l ρ >>= fun as => .ok (.e p :: as)
def aM (i : Nat) (px : Px) (l : AL) : AL := fun ρ => px ρ >>= fun π => l ρ >>= fun as => .ok (.m i π :: as)
def isNd : OT → Bool
  | .fz _ => false
  | .M _ _ => false
  | .P _ _ => false
  | _ => true
def nd1 (n : OT) : Option OT := if isNd n = true then some n else none
def tOf (ρ : Env) : AV → Option OT
  | .e p => some (.fz p)
  | .m i π => (nodeOf i ρ π).bind nd1
def treesA (ρ : Env) : List AV → Option (List OT)
  | [] => some []
  | a :: as => (tOf ρ a).bind fun t => (treesA ρ as).map fun ts => t :: ts
def slotsA : List AV → List Nat
  | [] => []
  | .e _ :: as => slotsA as
  | .m i _ :: as => i :: slotsA as
def put1 (ρ : Env) (i : Nat) (π : List Nat) (t' : OT) : Option OT → Env
  | some t => ρ.set i (.own (t.put π t'))
  | none => ρ
def putAll (ρ : Env) : List AV → List OT → Env
  | .e _ :: as, ts => putAll ρ as ts
  | .m i π :: as, t :: ts => put1 (putAll ρ as ts) i π t (ownT ρ[i]?)
  | _, _ => ρ
inductive ResE where
  | ok (o : OT) (ρ : Env) | exc (c : String) (fs : Option (List (String × PV))) (ρ : Env) | bad
abbrev Mx := Env → ResE
open Classical in
/-- the same whatever the addresses -/
noncomputable def anyA (m : Nat) (g : FnM) (ts : List OT) : ResM := if h : ∃ r, ∀ as : List Addr, as.length = m → g as ts = r then h.choose else .bad
theorem anyA_of {m : Nat} {g : FnM} {ts : List OT} {r : ResM} (h : ∀ as : List Addr, as.length = m → g as ts = r) : anyA m g ts = r := by
  unfold anyA
  have hx : ∃ r, ∀ as : List Addr, as.length = m → g as ts = r := ⟨r, h⟩
  rw [dif_pos hx]
  have h2 := hx.choose_spec (List.replicate m 0) (by simp)
  rw [← h2, h _ (by simp)]
theorem anyA_one {g : FnM} {ts : List OT} {r : ResM} (h : ∀ a : Addr, g [a] ts = r) : anyA 1 g ts = r := anyA_of fun as hl => match as, hl with
  | [a], _ => h a
theorem anyA_two {g : FnM} {ts : List OT} {r : ResM} (h : ∀ a b : Addr, g [a, b] ts = r) : anyA 2 g ts = r := anyA_of fun as hl => match as, hl with
  | [a, b], _ => h a b
theorem anyA_spec {m : Nat} {g : FnM} {ts : List OT} {as : List Addr} (h : as.length = m) : anyA m g ts = .bad ∨ g as ts = anyA m g ts := by
  unfold anyA
  by_cases hx : ∃ r, ∀ as : List Addr, as.length = m → g as ts = r
  · rw [dif_pos hx]; exact .inr (hx.choose_spec as h)
  · rw [dif_neg hx]; exact .inl rfl
def backE (ρ : Env) (avs : List AV) : ResM → ResE
  | .ok o ts => .ok o (putAll ρ avs ts)
  | .exc c fs ts => .exc c fs (putAll ρ avs ts)
  | .bad => .bad
noncomputable def goE (m : Nat) (g : FnM) (ρ : Env) (avs : List AV) : Option (List OT) → ResE
  | some ts => backE ρ avs (anyA m g ts)
  | none => .bad
noncomputable def callE (fl : List Bool) (g : FnM) (ρ : Env) : Res (List AV) → ResE
  | .ok avs => if avs.map AV.isM = fl ∧ (slotsA avs).Nodup then goE (fl.filter id).length g ρ avs (treesA ρ avs) else .bad
  | .exc c fs => .exc c fs ρ
  | .bad => .bad
noncomputable def mCall (fl : List Bool) (g : FnM) (l : AL) : Mx := fun ρ => callE fl g ρ (l ρ)
section
variable (K : PySem.W.Frag) (C : Addr → Prop) (W : WX)
def RepAV (fp : Fp) (σ : L2.St) (H : Hp) : AV → V → Prop
  | .e p, v => Rep K (Am C fp) H p v
  | .m i π, u => ∃ w, σ[i]? = some (some w) ∧ subV H w π u
def RepAVs (fp : Fp) (σ : L2.St) (H : Hp) : List AV → List V → Prop
  | [], [] => True
  | a :: as, v :: vs => RepAV K C fp σ H a v ∧ RepAVs fp σ H as vs
  | _, _ => False
def tA (l : AL) : TA := fun σ H Q => ∃ ρ fp, EnvOk K C ρ σ H fp ∧ Out (l ρ) (fun as => ∀ vs H', Same H H' → RepAVs K C fp σ H' as vs → Q vs H') (XQ K W σ H)
def OutE (σ : L2.St) (H : Hp) (fp : Fp) (P : OT → Env → Prop) : ResE → Prop
  | .ok o ρ' => P o ρ'
  | .exc c fs ρ' => ∀ H' fp', EnvOk K C ρ' σ H' fp' → Grow H fp H' fp' → XW K W σ H' c fs
  | .bad => False
def tM (q : Mx) : TE := fun σ H Q => ∃ ρ fp, EnvOk K C ρ σ H fp ∧ OutE K C W σ H fp (fun o ρ' => ∀ v H' fp' Fn, EnvOk K (fun a => C a ∧ a ∉ Fn) ρ' σ H' fp' → Grow H fp H' fp' → Fn.Nodup → (∀ a ∈ Fn, InF fp a ∨ H a = none) → (∀ a ∈ Fn, ¬ InF fp' a) → (∀ (j : Nat) p w, ρ'[j]? = some (Slot.bor p) → σ[j]? = some (some w) → Rep K (fun a => ¬ InF fp' a ∧ a ∉ Fn) H' p w) → OTRep K (fun a => Am C fp' a ∧ a ∉ Fn) H' o v Fn → Q v H') (q ρ)
end
def AJ (X : Cx) (C : Addr → Prop) (W : WX) (es : List Expr) (l : AL) : Prop := PA X es (tA X.K C W l)
def MJ (X : Cx) (C : Addr → Prop) (W : WX) (e : Expr) (q : Mx) : Prop := PE X e (tM X.K C W q)
section
variable {K : PySem.W.Frag} {C : Addr → Prop} {fp : Fp} {σ : L2.St} {ρ : Env} {H H' : Hp}
theorem RepAV.same (s : Same H H') : ∀ {a : AV} {v : V}, RepAV K C fp σ H a v → RepAV K C fp σ H' a v
  | .e p, v, h => Rep.same s h
  | .m i π, u, ⟨w, h1, h2⟩ => ⟨w, h1, h2.same s⟩
theorem put1_len {i : Nat} {π : List Nat} {t : OT} {o : Option OT} : (put1 ρ i π t o).length = ρ.length := by cases o <;> simp [put1]
theorem putAll_len : ∀ {avs : List AV} {ts : List OT}, (putAll ρ avs ts).length = ρ.length
  | [], _ => rfl
  | .e _ :: as, ts => putAll_len (avs := as)
  | .m i π :: as, [] => rfl
  | .m i π :: as, t :: ts => by rw [putAll, put1_len, putAll_len]
theorem putAll_ne {j : Nat} : ∀ {avs : List AV} {ts : List OT}, j ∉ slotsA avs → (putAll ρ avs ts)[j]? = ρ[j]?
  | [], _, _ => rfl
  | .e _ :: as, ts, h => putAll_ne (avs := as) h
  | .m i π :: as, [], _ => rfl
  | .m i π :: as, t :: ts, h => by
    simp only [slotsA, List.mem_cons, not_or] at h
    rw [putAll]
    have ih := putAll_ne (avs := as) (ts := ts) h.2
    rw [← ih]
    cases ownT _ with
    | none => rfl
    | some t0 => rw [put1, List.getElem?_set_ne (Ne.symm h.1)]
theorem nd_ref {A : Addr → Prop} {n : OT} {v : V} {F : List Addr} (h : isNd n = true) (r : OTRep K A H n v F) : ∃ a, v = .ref a := by
  cases n with
  | fz p => cases h
  | M o ts => cases h
  | P a t => cases h
  | l ps => obtain ⟨a, xs, e, _⟩ := r; exact ⟨a, e⟩
  | d ps => obtain ⟨a, xs, e, _⟩ := r; exact ⟨a, e⟩
  | dt ps => obtain ⟨a, xs, e, _⟩ := r; exact ⟨a, e⟩
  | ins c ps => obtain ⟨a, dx, xs, e, _⟩ := r; exact ⟨a, e⟩
  | T ps => obtain ⟨a, xs, e, _⟩ := r; exact ⟨a, e⟩
  | L ps => obtain ⟨a, xs, _, e, _⟩ := r; exact ⟨a, e⟩
  | D ps => obtain ⟨_, a, xs, _, e, _⟩ := r; exact ⟨a, e⟩
  | I c ps => obtain ⟨a, dx, xs, _, e, _⟩ := r; exact ⟨a, e⟩
/-- what the callee is given, and what its changes make of the slots -/
theorem zipAll (e : EnvOk K C ρ σ H fp) : ∀ {avs : List AV} {ts : List OT} {vs : List V}, (slotsA avs).Nodup → treesA ρ avs = some ts → RepAVs K C fp σ H avs vs →
    ∃ (as : List Addr) (Fs : List (List Addr)), RepArgsM K (Am C fp) H (avs.map AV.isM) as ts vs Fs ∧ Fs.flatten.Nodup ∧ (∀ a ∈ Fs.flatten, ∃ i ∈ slotsA avs, a ∈ fp i) ∧
      ∀ (B : Addr → Prop) H' ts' F' (Z : List Addr), (∀ a ∈ Fs.flatten, a ∈ Z) → (∀ a, InF fp a → a ∈ Z → (∃ i ∈ slotsA avs, a ∈ fp i) → a ∈ Fs.flatten) → OTReps K B H' ts' (as.map V.ref) F' → F'.Nodup → (∀ a ∈ F', a ∈ Z ∨ H a = none) → Carry (Am C fp) B H H' → (∀ a o, a ∉ Z → H a = some o → H' a = some o) →
        ∃ fp2 : Fp, (∀ j, j ∉ slotsA avs → fp2 j = fp j) ∧ (∀ i ∈ slotsA avs, ∃ t2 v, (putAll ρ avs ts')[i]? = some (.own t2) ∧ σ[i]? = some (some v) ∧ OTRep K B H' t2 v (fp2 i) ∧ (fp2 i).Nodup) ∧
          (∀ i ∈ slotsA avs, ∀ a ∈ fp2 i, (a ∈ fp i ∧ a ∉ Z) ∨ a ∈ F') ∧ (∀ i ∈ slotsA avs, ∀ j ∈ slotsA avs, ∀ a, a ∈ F' → a ∈ fp2 i → a ∈ fp2 j → i = j)
  | [], ts, vs, _, ht, hv => by
    simp only [treesA, Option.some.injEq] at ht
    subst ht
    cases vs with
    | cons _ _ => exact hv.elim
    | nil => exact ⟨[], [], trivial, List.nodup_nil, fun _ h => (nomatch h), fun B H' ts' F' Z _ _ r _ _ _ _ => ⟨fp, fun _ _ => rfl, fun _ h => (nomatch h), fun _ h => (nomatch h), fun _ h => nomatch h⟩⟩
  | .e p :: avs, ts, vs, hn, ht, hv => by
    cases vs with
    | nil => exact hv.elim
    | cons v vs =>
      obtain ⟨ts0, ht0, rfl⟩ := Option.map_eq_some_iff.mp (show (treesA ρ avs).map (fun ts => .fz p :: ts) = some ts from ht)
      obtain ⟨as, Fs, h1, h2, h3, h4⟩ := zipAll e (avs := avs) hn ht0 hv.2
      have es : slotsA (.e p :: avs) = slotsA avs := rfl
      have ef : ([] :: Fs).flatten = Fs.flatten := rfl
      rw [es]
      exact ⟨as, [] :: Fs, ⟨rfl, ⟨p, rfl, hv.1⟩, h1⟩, by rw [ef]; exact h2, by rw [ef]; exact h3, fun B H' ts' F' Z z1 z2 r n s c k => by rw [ef] at z1 z2; exact h4 B H' ts' F' Z z1 z2 r n s c k⟩
  | .m i π :: avs, ts, vs, hn, ht, hv => by
    cases vs with
    | nil => exact hv.elim
    | cons v vs =>
      simp only [treesA] at ht
      obtain ⟨n, hn1, ht⟩ := Option.bind_eq_some_iff.mp ht
      obtain ⟨n', hn2, hn3⟩ := Option.bind_eq_some_iff.mp hn1
      have hnd : isNd n' = true ∧ n' = n := by
        unfold nd1 at hn3
        split at hn3
        · exact ⟨‹_›, Option.some.inj hn3⟩
        · cases hn3
      obtain ⟨hnd, rfl⟩ := hnd
      obtain ⟨ts0, ht0, rfl⟩ := Option.map_eq_some_iff.mp ht
      simp only [slotsA, List.nodup_cons] at hn
      obtain ⟨as, Fs, h1, h2, h3, h4⟩ := zipAll e (avs := avs) hn.2 ht0 hv.2
      obtain ⟨t, hsl, hat⟩ := node_own hn2
      obtain ⟨w, hw, hr⟩ := e.slot i _ hsl
      obtain ⟨w', hw', hsub⟩ := hv.1
      rw [hw] at hw'; cases hw'
      obtain ⟨u, Fn, F1, F2, hF, hs, hrn, cl⟩ := hr.zip hat
      cases hsub.det hs
      obtain ⟨a, rfl⟩ := nd_ref hnd hrn
      have nd := e.nod i
      rw [hF] at nd
      obtain ⟨nd1, nd2, nd3⟩ := List.nodup_append.mp nd
      obtain ⟨nd4, nd5, nd6⟩ := List.nodup_append.mp nd2
      have sub : ∀ b ∈ Fn, b ∈ fp i := fun b hb => by rw [hF]; simp [hb]
      have out : ∀ b ∈ Fs.flatten, b ∉ fp i := fun b hb hi => by
        obtain ⟨j, hj, hm⟩ := h3 b hb
        have := e.inj _ _ _ hi hm
        subst this
        exact hn.1 hj
      refine ⟨a :: as, Fn :: Fs, ⟨rfl, hrn, h1⟩, ?_, fun b hb => ?_, fun B H' ts' F' Z z1 z2 r nf s c k => ?_⟩
      · rw [List.flatten_cons]
        exact List.nodup_append.mpr ⟨nd4, h2, fun b hb d hd z => out d hd (z ▸ sub b hb)⟩
      · rw [List.flatten_cons] at hb
        rcases List.mem_append.mp hb with q | q
        · exact ⟨i, by simp [slotsA], sub b q⟩
        · obtain ⟨j, hj, hm⟩ := h3 b q
          exact ⟨j, by simp [slotsA, hj], hm⟩
      · cases ts' with
        | nil => exact absurd r.1 (by simp)
        | cons t' ts' =>
          obtain ⟨x, r', G1, G2, ex, rfl, r1, r2⟩ := r
          simp only [List.map_cons, List.cons.injEq] at ex
          obtain ⟨rfl, rfl⟩ := ex
          obtain ⟨ng1, ng2, ng3⟩ := List.nodup_append.mp nf
          rw [List.flatten_cons] at z1 z2
          obtain ⟨fp2, p1, p2, p3, p4⟩ := h4 B H' ts' G2 Z (fun b hb => z1 b (by simp [hb])) (fun b hb hz hj => by
            have := z2 b hb hz (by obtain ⟨j, hj, hm⟩ := hj; exact ⟨j, by simp [slotsA, hj], hm⟩)
            rcases List.mem_append.mp this with q | q
            · exfalso
              obtain ⟨j, hj, hm⟩ := hj
              have := e.inj _ _ _ (sub b q) hm
              subst this
              exact hn.1 hj
            · exact q) r2 ng2 (fun b hb => s b (by simp [hb])) c k
          have nZ : ∀ b ∈ F1 ++ F2, b ∉ Z := fun b hb hz => by
            have hbi : b ∈ fp i := by rw [hF]; rcases List.mem_append.mp hb with q | q <;> simp [q]
            have := z2 b ⟨i, hbi⟩ hz ⟨i, by simp [slotsA], hbi⟩
            rcases List.mem_append.mp this with q | q
            · rcases List.mem_append.mp hb with y | y
              · exact nd3 b y b (by simp [q]) rfl
              · exact nd6 b q b y rfl
            · exact out b q hbi
          have liveF : ∀ b ∈ F1 ++ F2, b ∉ G1 := fun b hb hg => by
            rcases s b (by simp [hg]) with q | q
            · exact nZ b hb q
            · have hbi : b ∈ fp i := by rw [hF]; rcases List.mem_append.mp hb with q | q <;> simp [q]
              exact e.fresh q ⟨i, hbi⟩
          have inotin : i ∉ slotsA avs := hn.1
          have e2 : (putAll ρ (.m i π :: avs) (t' :: ts'))[i]? = some (.own (t.put π t')) := by
            rw [putAll, hsl]
            show ((putAll ρ avs ts').set i (.own (t.put π t')))[i]? = _
            rw [List.getElem?_set_self (by rw [putAll_len]; exact (List.getElem?_eq_some_iff.mp hsl).1)]
          have e3 : ∀ j, j ≠ i → (putAll ρ (.m i π :: avs) (t' :: ts'))[j]? = (putAll ρ avs ts')[j]? := fun j hj => by
            rw [putAll, hsl]
            show ((putAll ρ avs ts').set i (.own (t.put π t')))[j]? = _
            rw [List.getElem?_set_ne (Ne.symm hj)]
          refine ⟨put fp2 i (F1 ++ (G1 ++ F2)), fun j hj => ?_, fun j hj => ?_, fun j hj b hb => ?_, fun j hj l hl b hb b1 b2 => ?_⟩
          · simp only [slotsA, List.mem_cons, not_or] at hj
            rw [put_ne hj.1, p1 j hj.2]
          · by_cases hji : j = i
            · subst hji
              refine ⟨_, w, e2, hw, ?_, ?_⟩
              · rw [put_same]
                exact cl B H' t' G1 c (fun b hb o ho => k b o (nZ b hb) ho) r1
              · rw [put_same]
                refine List.nodup_append.mpr ⟨nd1, List.nodup_append.mpr ⟨ng1, nd5, fun b hb d hd z => liveF d (by simp [hd]) (z ▸ hb)⟩, fun b hb d hd z => ?_⟩
                subst z
                rcases List.mem_append.mp hd with q | q
                · exact liveF b (by simp [hb]) q
                · exact nd3 b hb b (by simp [q]) rfl
            · have hj' : j ∈ slotsA avs := by
                simp only [slotsA, List.mem_cons] at hj
                exact hj.resolve_left hji
              obtain ⟨t2, v2, q1, q2, q3, q4⟩ := p2 j hj'
              exact ⟨t2, v2, by rw [e3 j hji]; exact q1, q2, by rw [put_ne hji]; exact q3, by rw [put_ne hji]; exact q4⟩
          · by_cases hji : j = i
            · subst hji
              rw [put_same] at hb
              simp only [List.mem_append] at hb ⊢
              rcases hb with q | q | q
              · exact .inl ⟨by rw [hF]; simp [q], nZ b (by simp [q])⟩
              · exact .inr (.inl q)
              · exact .inl ⟨by rw [hF]; simp [q], nZ b (by simp [q])⟩
            · have hj' : j ∈ slotsA avs := by
                simp only [slotsA, List.mem_cons] at hj
                exact hj.resolve_left hji
              rw [put_ne hji] at hb
              exact (p3 j hj' b hb).imp id fun z => by simp [z]
          · -- one slot for each
            have key : ∀ {j b}, j ∈ slotsA (.m i π :: avs) → b ∈ G1 ++ G2 → b ∈ put fp2 i (F1 ++ (G1 ++ F2)) j → (j = i ∧ b ∈ G1) ∨ (j ≠ i ∧ j ∈ slotsA avs ∧ b ∈ fp2 j ∧ b ∈ G2) := fun {j b} hj hb hp => by
              by_cases hji : j = i
              · subst hji
                rw [put_same] at hp
                refine .inl ⟨rfl, ?_⟩
                simp only [List.mem_append] at hp
                have no : ∀ b ∈ F1 ++ F2, b ∉ G1 ++ G2 := fun b hb hg => by
                  rcases s b hg with q | q
                  · exact nZ b hb q
                  · have hbi : b ∈ fp j := by rw [hF]; rcases List.mem_append.mp hb with q | q <;> simp [q]
                    exact e.fresh q ⟨j, hbi⟩
                rcases hp with q | q | q
                · exact (no b (by simp [q]) hb).elim
                · exact q
                · exact (no b (by simp [q]) hb).elim
              · have hj' : j ∈ slotsA avs := by
                  simp only [slotsA, List.mem_cons] at hj
                  exact hj.resolve_left hji
                rw [put_ne hji] at hp
                refine .inr ⟨hji, hj', hp, ?_⟩
                rcases p3 j hj' b hp with ⟨q1, q2⟩ | q
                · exfalso
                  rcases s b hb with y | y
                  · exact q2 y
                  · exact e.fresh y ⟨j, q1⟩
                · exact q
            rcases key hj hb b1 with ⟨rfl, g1⟩ | ⟨x1, x2, x3, x4⟩
            · rcases key hl hb b2 with ⟨rfl, g2⟩ | ⟨y1, y2, y3, y4⟩
              · rfl
              · exact (ng3 b g1 b y4 rfl).elim
            · rcases key hl hb b2 with ⟨rfl, g2⟩ | ⟨y1, y2, y3, y4⟩
              · exact (ng3 b g2 b x4 rfl).elim
              · exact p4 j x2 l y2 b x4 x3 y3
end
end Fz
end
section
/-! Fyh: the call of a def that changes what it is given; statements about it. -/
namespace Fz
open PySem PySem.Spec PyProof.Rows L2
section
variable {K : PySem.W.Frag} {C : Addr → Prop} {fp : Fp} {σ : L2.St} {ρ : Env} {H H1 H' : Hp}
theorem afterAll (e : EnvOk K C ρ σ H fp) {avs : List AV} {ts : List OT} {vs : List V} (hn : (slotsA avs).Nodup) (ht : treesA ρ avs = some ts) (hv : RepAVs K C fp σ H avs vs) :
    ∃ (as : List Addr) (Fs : List (List Addr)), RepArgsM K (Am C fp) H (avs.map AV.isM) as ts vs Fs ∧ Fs.flatten.Nodup ∧ (∀ a ∈ Fs.flatten, ¬ Am C fp a) ∧
      ∀ H' ts' Fn F', Kept H Fs.flatten H' (Fn ++ F') → (∀ a ∈ Fn, H' a ≠ none) → OTReps K (fun a => (Am C fp a ∨ a ∈ Fs.flatten ∨ H a = none) ∧ a ∉ Fn ++ F') H' ts' (as.map V.ref) F' →
        ∃ fp2, EnvOk K (fun a => C a ∧ a ∉ Fn) (putAll ρ avs ts') σ H' fp2 ∧ Grow H fp H' fp2 ∧ (∀ a ∈ Fn, InF fp a ∨ H a = none) ∧ (∀ a ∈ Fn, ¬ InF fp2 a) ∧ (∀ (j : Nat) p w, (putAll ρ avs ts')[j]? = some (Slot.bor p) → σ[j]? = some (some w) → Rep K (fun a => ¬ InF fp2 a ∧ a ∉ Fn) H' p w) ∧ ∀ a, ((Am C fp a ∨ a ∈ Fs.flatten ∨ H a = none) ∧ a ∉ Fn ++ F') → Am C fp2 a ∧ a ∉ Fn := by
  obtain ⟨as, Fs, h1, h2, h3, h4⟩ := zipAll e hn ht hv
  have inf : ∀ a ∈ Fs.flatten, InF fp a := fun a ha => by obtain ⟨i, _, hi⟩ := h3 a ha; exact ⟨i, hi⟩
  refine ⟨as, Fs, h1, h2, fun a ha z => z.2 (inf a ha), fun H' ts' Fn F' kp lv r => ?_⟩
  obtain ⟨nn1, nn2, nn3⟩ := List.nodup_append.mp kp.nod
  have c : Carry (Am C fp) (fun a => (Am C fp a ∨ a ∈ Fs.flatten ∨ H a = none) ∧ a ∉ Fn ++ F') H H' :=
    Carry.mk' (fun a o q z => ⟨.inl q, fun y => (kp.sub a y).elim (fun y => q.2 (inf a y)) fun y => by rw [y] at z; cases z⟩) (fun a o q z => kp.keep a o (fun y => q.2 (inf a y)) z)
      (fun a xs z => kp.keep a _ (fun y => e.ntup z (inf a y)) z) fun a o u z => kp.keep a _ (fun y => e.nfrz z (inf a y)) z
  obtain ⟨fp2, p1, p2, p3, p4⟩ := h4 _ H' ts' F' Fs.flatten (fun _ h => h) (fun a _ h _ => h) r nn2 (fun a ha => kp.sub a (by simp [ha])) c kp.keep
  -- what is in the slots afterwards
  have in2 : ∀ a, InF fp2 a → (InF fp a ∧ a ∉ Fs.flatten) ∨ a ∈ F' := fun a ⟨j, hj⟩ => by
    by_cases hs : j ∈ slotsA avs
    · exact (p3 j hs a hj).imp (fun q => ⟨⟨j, q.1⟩, q.2⟩) id
    · rw [p1 j hs] at hj
      refine .inl ⟨⟨j, hj⟩, fun z => ?_⟩
      obtain ⟨i, hi, hm⟩ := h3 a z
      exact hs (e.inj _ _ _ hm hj ▸ hi)
  have nF2 : ∀ a ∈ Fn, ¬ InF fp2 a := fun a ha h => by
    rcases in2 a h with ⟨q1, q2⟩ | q
    · rcases kp.sub a (by simp [ha]) with y | y
      · exact q2 y
      · exact e.fresh y q1
    · exact nn3 a ha a q rfl
  have bA : ∀ a, ((Am C fp a ∨ a ∈ Fs.flatten ∨ H a = none) ∧ a ∉ Fn ++ F') → Am C fp2 a ∧ a ∉ Fn := fun a ⟨q1, q2⟩ => by
    simp only [List.mem_append, not_or] at q2
    refine ⟨⟨?_, fun h => ?_⟩, q2.1⟩
    · rcases q1 with q | q | q
      · exact q.1
      · exact e.cap a (inf a q)
      · exact e.new a q
    · rcases in2 a h with ⟨y1, y2⟩ | y
      · rcases q1 with q | q | q
        · exact q.2 y1
        · exact y2 q
        · exact e.fresh q y1
      · exact q2.2 y
  have c2 : Carry (fun a => (Am C fp a ∨ a ∈ Fs.flatten ∨ H a = none) ∧ a ∉ Fn ++ F') (Am (fun a => C a ∧ a ∉ Fn) fp2) H' H' := Carry.refl fun a _ q _ => ⟨⟨(bA a q).1.1, (bA a q).2⟩, (bA a q).1.2⟩
  have cB : Carry (fun a => ¬ InF fp a) (fun a => ¬ InF fp2 a) H H' :=
    Carry.mk' (fun a o q z h => (in2 a h).elim (fun y => q y.1) fun y => (kp.sub a (by simp [y])).elim (fun y => q (inf a y)) fun y => by rw [y] at z; cases z) (fun a o q z => kp.keep a o (fun y => q (inf a y)) z)
      (fun a xs z => kp.keep a _ (fun y => e.ntup z (inf a y)) z) fun a o u z => kp.keep a _ (fun y => e.nfrz z (inf a y)) z
  have g : Grow H fp H' fp2 := ⟨fun a o h n => kp.keep a o (fun z => n (inf a z)) h, fun a xs z => kp.keep a _ (fun y => e.ntup z (inf a y)) z, fun a o u z => kp.keep a _ (fun y => e.nfrz z (inf a y)) z, kp.more, fun a h => (in2 a h).elim (fun y => .inl y.1) fun y => (kp.sub a (by simp [y])).imp (inf a) id⟩
  have lt : ∀ i ∈ slotsA avs, i < ρ.length := fun i hi => by
    obtain ⟨t2, v, q, _⟩ := p2 i hi
    have := (List.getElem?_eq_some_iff.mp q).1
    rwa [putAll_len] at this
  refine ⟨fp2, ⟨by rw [putAll_len]; exact e.len, fun i s h => ?_, fun i hi => ?_, fun i j a a1 a2 => ?_, fun i => ?_, fun a h => ?_, fun a h => ?_⟩, g, fun a ha => (kp.sub a (by simp [ha])).imp (inf a) id, nF2, fun j p w hj hw => ?_, bA⟩
  · by_cases hs : i ∈ slotsA avs
    · obtain ⟨t2, v, q1, q2, q3, q4⟩ := p2 i hs
      rw [q1] at h
      cases h
      exact ⟨v, q2, q3.carry c2 fun _ _ _ q => q⟩
    · rw [putAll_ne hs] at h
      have := e.slot i s h
      rw [p1 i hs]
      revert this
      cases s with
      | u => exact id
      | val p => rintro ⟨f, v, hv, r⟩; exact ⟨f, v, hv, Rep.carry c2 (Rep.carry c r)⟩
      | bor p => rintro ⟨f, v, hv, r⟩; exact ⟨f, v, hv, Rep.carry cB r⟩
      | exn a od l => rintro ⟨f, hv, r⟩; exact ⟨f, hv, XSl.carry cB r⟩
      | own t =>
        rintro ⟨v, hv, r⟩
        exact ⟨v, hv, (r.carry c fun a ha o q => kp.keep a o (fun z => by
          obtain ⟨j, hj, hm⟩ := h3 a z
          exact hs (e.inj _ _ _ hm ha ▸ hj)) q).carry c2 fun _ _ _ q => q⟩
  · have hi' : ρ.length ≤ i := by rw [putAll_len] at hi; exact hi
    rw [p1 i fun z => by have := lt i z; omega]
    exact e.out i hi'
  · by_cases s1 : i ∈ slotsA avs
    · by_cases s2 : j ∈ slotsA avs
      · rcases p3 i s1 a a1 with ⟨x1, x2⟩ | x
        · rcases p3 j s2 a a2 with ⟨y1, y2⟩ | y
          · exact e.inj _ _ _ x1 y1
          · exact p4 i s1 j s2 a y a1 a2
        · exact p4 i s1 j s2 a x a1 a2
      · rw [p1 j s2] at a2
        rcases p3 i s1 a a1 with ⟨x1, x2⟩ | x
        · exact e.inj _ _ _ x1 a2
        · exfalso
          rcases kp.sub a (by simp [x]) with y | y
          · obtain ⟨k, hk, hm⟩ := h3 a y
            exact s2 (e.inj _ _ _ hm a2 ▸ hk)
          · exact e.fresh y ⟨j, a2⟩
    · rw [p1 i s1] at a1
      by_cases s2 : j ∈ slotsA avs
      · rcases p3 j s2 a a2 with ⟨x1, x2⟩ | x
        · exact e.inj _ _ _ a1 x1
        · exfalso
          rcases kp.sub a (by simp [x]) with y | y
          · obtain ⟨k, hk, hm⟩ := h3 a y
            exact s1 (e.inj _ _ _ hm a1 ▸ hk)
          · exact e.fresh y ⟨i, a1⟩
      · rw [p1 j s2] at a2
        exact e.inj _ _ _ a1 a2
  · by_cases hs : i ∈ slotsA avs
    · obtain ⟨t2, v, q1, q2, q3, q4⟩ := p2 i hs
      exact q4
    · rw [p1 i hs]; exact e.nod i
  · refine ⟨?_, fun z => nF2 a z h⟩
    rcases in2 a h with ⟨q, _⟩ | q
    · exact e.cap a q
    · rcases kp.sub a (by simp [q]) with y | y
      · exact e.cap a (inf a y)
      · exact e.new a y
  · refine ⟨e.new a ?_, fun z => lv a z h⟩
    cases z : H a with
    | none => rfl
    | some o => exact absurd h (kp.more a (by rw [z]; simp))
  · by_cases hs : j ∈ slotsA avs
    · obtain ⟨t2, v, q1, _⟩ := p2 j hs
      rw [q1] at hj; cases hj
    · rw [putAll_ne hs] at hj
      obtain ⟨_, w', hw', r'⟩ := e.slot j _ hj
      rw [hw] at hw'; cases hw'
      exact Rep.carry (Carry.mk' (fun a o q z => ⟨fun h => (in2 a h).elim (fun y => q y.1) fun y => (kp.sub a (by simp [y])).elim (fun y => q (inf a y)) (fun y => by rw [y] at z; cases z), fun y => (kp.sub a (by simp [y])).elim (fun y => q (inf a y)) (fun y => by rw [y] at z; cases z)⟩) (fun a o q z => kp.keep a o (fun y => q (inf a y)) z)
        (fun a xs z => kp.keep a _ (fun y => e.ntup z (inf a y)) z) fun a o u z => kp.keep a _ (fun y => e.nfrz z (inf a y)) z) r'
end
section
variable {X : Cx} {C : Addr → Prop} {W : WX} {e : Expr} {pos p2 : Pos} {f : E} {px : Px} {fo : O}
theorem aj_nil : AJ X C W [] aNil := pa_weak pa_nil fun σ H Q ⟨ρ, fp, eo, o⟩ => o [] H (Same.refl H) trivial
theorem RepAVs.same {K : PySem.W.Frag} {fp : Fp} {σ : L2.St} {H H' : Hp} (s : Same H H') : ∀ {as : List AV} {vs : List V}, RepAVs K C fp σ H as vs → RepAVs K C fp σ H' as vs
  | [], [], h => h
  | a :: as, v :: vs, h => ⟨RepAV.same s h.1, RepAVs.same s h.2⟩
theorem aj_E {es : List Expr} {l : AL} (h : EJ X C W .E e f) (h2 : AJ X C W es l) (hs : starEach (e :: es) X.env = (false, eval e X.env) :: starEach es X.env := by rfl) : AJ X C W (e :: es) (aE f l) :=
  pa_weak (pa_cons h h2 hs) fun σ H Q ⟨ρ, fp, eo, o⟩ => by
    refine ⟨ρ, fp, eo, (Out.bind o).mono (fun p o1 v H1 s1 r1 => ?_) fun _ _ q => q⟩
    refine ⟨ρ, fp, eo.same s1, (Out.bind o1).mono (fun ps o2 vs H2 s2 r2 => ?_) fun _ _ q => q.later s1⟩
    exact o2 (v :: vs) H2 (s1.trans s2) ⟨RepM.same (m := .E) s2 r1, r2⟩
theorem aj_M {es : List Expr} {l : AL} {i : Nat} (h : PxJ X C W i e px) (h2 : AJ X C W es l) (hs : starEach (e :: es) X.env = (false, eval e X.env) :: starEach es X.env := by rfl) : AJ X C W (e :: es) (aM i px l) :=
  pa_weak (pa_cons h.run h2 hs) fun σ H Q ⟨ρ, fp, eo, o⟩ => by
    refine ⟨ρ, fp, eo, (Out.bind o).and.mono (fun π ⟨ep, o1⟩ v u H1 s1 hv hu => ?_) fun _ _ q => q⟩
    refine ⟨ρ, fp, eo.same s1, (Out.bind o1).mono (fun ps o2 vs H2 s2 r2 => ?_) fun _ _ q => q.later s1⟩
    exact o2 (u :: vs) H2 (s1.trans s2) ⟨⟨v, hv, hu.same s2⟩, r2⟩
theorem mj_call {k j : Nat} {x : Str} {ps : List Str} {fl : List Bool} {g : FnM} {es : List Expr} {l : AL} (D : DefM X.prog X.w X.K X.mg X.base k x ps fl g) (hr : Room j X.A) (hk : k ≤ j) (tk : Takes X W) (hg : Gl X x) (ha : AJ X C W (e :: es) l) (hdb : (x == ("__debug__" : Str)) = false := by decide)
    (he : starEach (e :: es) X.env = (false, eval e X.env) :: starEach es X.env := by rfl) (hpl : (backTo pos (starEach es X.env)).any (·.1) = false := by rfl) : MJ X C W (.Call (.Name x p2) (e :: es) [] pos) (mCall fl g l) := by
  obtain ⟨f, fd, F, hm, kp, b⟩ := D.ex
  refine pe_weak (pe_callS F (hr.mono hk) hg hm kp b (fun σ => passAt tk σ) ha hdb he hpl) fun σ H Q h => ?_
  obtain ⟨ρ, fp, eo, o⟩ := h
  refine ⟨ρ, fp, eo, ?_⟩
  unfold mCall callE at o
  cases el : l ρ with
  | bad => rw [el] at o; exact o.elim
  | exc c fs =>
    rw [el] at o
    exact fun H' s => o H' fp (eo.same s) (Grow.same s)
  | ok avs =>
    rw [el] at o
    intro vs H1 s1 rv
    dsimp only at o
    by_cases hc : avs.map AV.isM = fl ∧ (slotsA avs).Nodup
    · rw [if_pos hc] at o
      obtain ⟨hfl, hnd⟩ := hc
      cases et : treesA ρ avs with
      | none => rw [et] at o; exact o.elim
      | some ts =>
        rw [et] at o
        have eo1 := eo.same s1
        obtain ⟨as, Fs, h1, h2, h3, h4⟩ := afterAll eo1 hnd et rv
        rw [hfl] at h1
        refine ⟨Am C fp, as, ts, Fs, h1, h2, h3, ?_⟩
        have none0 : ∀ a, H1 a = none → H a = none := fun a z => by
          cases y : H a with
          | none => rfl
          | some o => rw [s1 _ _ y] at z; cases z
        unfold goE at o
        dsimp only at o
        rcases anyA_spec (g := g) (ts := ts) h1.len.1.2 with hb | hg'
        · rw [hb] at o; exact o.elim
        · rw [hg']
          cases er : anyA (fl.filter id).length g ts with
          | bad => rw [er] at o; exact o.elim
          | ok oo ts' =>
            rw [er] at o
            intro v H' Fn F' kp ro rts
            obtain ⟨fp2, e2, g2, sF, nF, bo, bA⟩ := h4 H' ts' Fn F' kp (fun a ha z => by
              obtain ⟨w, hw, _⟩ := ro.live a ha
              rw [z] at hw; cases hw) rts
            exact o v H' fp2 Fn e2 ((Grow.same s1).trans g2) (List.nodup_append.mp kp.nod).1 (fun a ha => (sF a ha).imp id (none0 a)) nF bo (ro.carry (Carry.refl fun a _ q _ => bA a q) fun _ _ _ q => q)
          | exc c fs ts' =>
            rw [er] at o
            intro H' F' kp rts
            obtain ⟨fp2, e2, g2, sF, nF, bo, bA⟩ := h4 H' ts' [] F' kp (fun a ha => nomatch ha) rts
            have ec : (fun a => C a ∧ a ∉ ([] : List Addr)) = C := by funext a; simp
            rw [ec] at e2
            have := o H' fp2 e2 ((Grow.same s1).trans g2)
            cases fs with
            | none => exact this
            | some fs => exact this
    · rw [if_neg hc] at o
      exact o.elim
/-! statements -/
def withE (r : ResE) (k : OT → Env → Fl) : Fl := match r with
  | .ok o ρ => k o ρ
  | .exc c fs ρ => .ex c fs ρ
  | .bad => .bad
@[simp] theorem withE_ok (o : OT) (ρ : Env) (k : OT → Env → Fl) : withE (.ok o ρ) k = k o ρ := (rfl)
@[simp] theorem withE_exc (c : String) (fs : Option (List (String × PV))) (ρ : Env) (k : OT → Env → Fl) : withE (.exc c fs ρ) k = .ex c fs ρ := (rfl)
@[simp] theorem withE_bad (k : OT → Env → Fl) : withE .bad k = .bad := (rfl)
def sDropM (q : Mx) : S := fun ρ => withE (q ρ) fun _ ρ => .nx ρ
def sAsgM (i : Nat) (q : Mx) : S := fun ρ => withE (q ρ) fun o ρ => if i < ρ.length then .nx (ρ.set i (toSlot o)) else .bad
def sRetMq (q : Mx) : S := fun ρ => withE (q ρ) fun o ρ => .rt o
/-- what was handed back is taken into a slot -/
theorem EnvOk.adopt {K : PySem.W.Frag} {ρ : Env} {σ : L2.St} {H : Hp} {fp : Fp} {Fn : List Addr} {i : Nat} {o : OT} {v : V} (e : EnvOk K (fun a => C a ∧ a ∉ Fn) ρ σ H fp) (hi : i < ρ.length) (hC : ∀ a ∈ Fn, C a) (hn : Fn.Nodup) (dis : ∀ a ∈ Fn, ¬ InF fp a) (bo : ∀ (j : Nat) p w, ρ[j]? = some (Slot.bor p) → σ[j]? = some (some w) → Rep K (fun a => ¬ InF fp a ∧ a ∉ Fn) H p w) (r : OTRep K (fun a => Am C fp a ∧ a ∉ Fn) H o v Fn) :
    EnvOk K C (ρ.set i (toSlot o)) (σ.set i (some v)) H (put fp i Fn) := by
  have inp : ∀ a, InF (put fp i Fn) a → a ∈ Fn ∨ InF fp a := fun a h => (inF_put h).imp id fun q => q.1
  have c : Carry (Am (fun a => C a ∧ a ∉ Fn) fp) (Am C (put fp i Fn)) H H := Carry.refl fun a _ q _ => ⟨q.1.1, fun z => (inp a z).elim q.1.2 q.2⟩
  have c2 : Carry (fun a => Am C fp a ∧ a ∉ Fn) (Am C (put fp i Fn)) H H := Carry.refl fun a _ q _ => ⟨q.1.1, fun z => (inp a z).elim q.2 q.1.2⟩
  refine ⟨by simp [e.len], fun j s h => ?_, fun j hj => ?_, fun j k a a1 a2 => ?_, fun j => ?_, fun a h => ?_, fun a h => (e.new a h).1⟩
  · by_cases hji : j = i
    · subst hji
      rw [List.getElem?_set_self hi] at h
      cases h
      rw [put_same, List.getElem?_set_self (by rw [← e.len]; exact hi)]
      cases o with
      | fz p => obtain ⟨rfl, r⟩ := r; exact ⟨rfl, v, rfl, Rep.carry c2 r⟩
      | l ps => exact ⟨v, rfl, OTRep.carry c2 (fun _ _ _ q => q) r⟩
      | d ps => exact ⟨v, rfl, OTRep.carry c2 (fun _ _ _ q => q) r⟩
      | dt ps => exact ⟨v, rfl, OTRep.carry c2 (fun _ _ _ q => q) r⟩
      | ins c' ps => exact ⟨v, rfl, OTRep.carry c2 (fun _ _ _ q => q) r⟩
      | T ps => exact ⟨v, rfl, OTRep.carry c2 (fun _ _ _ q => q) r⟩
      | L ps => exact ⟨v, rfl, OTRep.carry c2 (fun _ _ _ q => q) r⟩
      | D ps => exact ⟨v, rfl, OTRep.carry c2 (fun _ _ _ q => q) r⟩
      | I c' ps => exact ⟨v, rfl, OTRep.carry c2 (fun _ _ _ q => q) r⟩
      | P a ps => exact ⟨v, rfl, OTRep.carry c2 (fun _ _ _ q => q) r⟩
      | M a ps => exact ⟨v, rfl, OTRep.carry c2 (fun _ _ _ q => q) r⟩
    · rw [List.getElem?_set_ne (Ne.symm hji)] at h
      rw [put_ne hji, List.getElem?_set_ne (Ne.symm hji)]
      have := e.slot j s h
      revert this
      cases s with
      | u => exact id
      | val p => rintro ⟨f, w, hw, r⟩; exact ⟨f, w, hw, Rep.carry c r⟩
      | bor p => rintro ⟨f, w, hw, _⟩; exact ⟨f, w, hw, Rep.carry (Carry.refl fun a _ q _ z => (inp a z).elim q.2 q.1) (bo j p w h hw)⟩
      | exn x od l =>
        rintro ⟨f, hw, q⟩
        refine ⟨f, hw, fun dd ed => ?_⟩
        obtain ⟨xs, b, q1, q2⟩ := q dd ed
        refine ⟨xs, fun z => (inp dd z).elim (fun y => ?_) b, q1, q2⟩
        obtain ⟨o', ho, wr⟩ := OTRep.live r dd y
        rw [q1] at ho; cases ho; exact wr
      | own t => rintro ⟨w, hw, r⟩; exact ⟨w, hw, OTRep.carry c (fun _ _ _ q => q) r⟩
  · have hj' : ρ.length ≤ j := by simpa using hj
    rw [put_ne (by omega)]
    exact e.out j hj'
  · by_cases h1 : j = i
    · by_cases h2 : k = i
      · rw [h1, h2]
      · subst h1; rw [put_same] at a1; rw [put_ne h2] at a2; exact (dis a a1 ⟨k, a2⟩).elim
    · by_cases h2 : k = i
      · subst h2; rw [put_same] at a2; rw [put_ne h1] at a1; exact (dis a a2 ⟨j, a1⟩).elim
      · rw [put_ne h1] at a1; rw [put_ne h2] at a2; exact e.inj _ _ _ a1 a2
  · by_cases h1 : j = i
    · subst h1; rw [put_same]; exact hn
    · rw [put_ne h1]; exact e.nod j
  · rcases inp a h with q | q
    · exact hC a q
    · exact (e.cap a q).1
theorem EnvOk.wide {K : PySem.W.Frag} {C C' : Addr → Prop} {ρ : Env} {σ : L2.St} {H : Hp} {fp : Fp} (e : EnvOk K C ρ σ H fp) (h : ∀ a, C a → C' a) : EnvOk K C' ρ σ H fp where
  len := e.len
  slot := fun i s hs => by
    have := e.slot i s hs
    have c : Carry (Am C fp) (Am C' fp) H H := Carry.refl fun a _ q _ => ⟨h a q.1, q.2⟩
    revert this
    cases s with
    | u => exact id
    | val p => rintro ⟨f, w, hw, r⟩; exact ⟨f, w, hw, Rep.carry c r⟩
    | bor p => exact id
    | exn a od l => exact id
    | own t => rintro ⟨w, hw, r⟩; exact ⟨w, hw, OTRep.carry c (fun _ _ _ q => q) r⟩
  out := e.out
  inj := e.inj
  nod := e.nod
  cap := fun a q => h a (e.cap a q)
  new := fun a q => h a (e.new a q)
theorem FlQ.ofE {K : PySem.W.Frag} {W : WX} {D : Ends} {H : Hp} {fp : Fp} {σ : L2.St} {r : ResE} {k : OT → Env → Fl} {P : OT → Env → Prop} (h : FlQ K C W D H fp (withE r k)) (hk : ∀ o ρ', FlQ K C W D H fp (k o ρ') → P o ρ') : OutE K C W σ H fp P r := by
  cases r with
  | ok o ρ' => exact hk o ρ' h
  | exc c fs ρ' => exact fun H' fp' e g => h σ H' fp' e g
  | bad => exact h
theorem sj_dropM {q : Mx} (he : MJ X C W e q) (hs : swapsWith e none pos.line X.env = pure false := by rfl) : SJ X C W (.Expr e pos) (sDropM q) := ps_weak (ps_expr he hs) fun D σ H ⟨ρ, fp, eo, h⟩ =>
  ⟨ρ, fp, eo, FlQ.ofE h fun o ρ' h v H' fp' Fn e2 g n sb dis bo r => h σ H' fp' (e2.wide fun _ q => q.1) g⟩
theorem grow_put {H H' : Hp} {fp fp' : Fp} {Fn : List Addr} {i : Nat} (g : Grow H fp H' fp') (s : ∀ a ∈ Fn, InF fp a ∨ H a = none) : Grow H fp H' (put fp' i Fn) :=
  ⟨g.keep, g.tups, g.frz, g.more, fun a h => (inF_put h).elim (s a) fun q => g.new a q.1⟩
theorem sj_asgM {i : Nat} {x : Str} {q : Mx} {pos' : Pos} (hN : X.N.Nodup) (hi : X.N[i]? = some x) (hx : Loc X.env.scope x) (he : MJ X C W e q) (hs : swapsWith e (some (.Name x pos')) pos.line X.env = pure false := by rfl)
    (hf : X.fn x = true ∨ X.env.scope.names.lookup x = some .local := by first | exact .inl rfl | exact .inr rfl | assumption) : SJ X C W (.Assign [.Name x pos'] e pos) (sAsgM i q) :=
  ps_weak (ps_set hN hi hx he hs hf) fun D σ H ⟨ρ, fp, eo, h⟩ => by
    refine ⟨ρ, fp, eo, FlQ.ofE h fun o ρ' h v H' fp' Fn e2 g n sb dis bo r => ?_⟩
    split at h
    · rename_i hl
      exact h _ H' _ (e2.adopt hl (fun a ha => (sb a ha).elim (eo.cap a) (eo.new a)) n dis bo r) (grow_put g sb)
    · exact h.elim
theorem sj_retM {q : Mx} (he : MJ X C W e q) : SJ X C W (.Return (some e) pos) (sRetMq q) := ps_weak (ps_ret he) fun D σ H ⟨ρ, fp, eo, h⟩ =>
  ⟨ρ, fp, eo, FlQ.ofE h fun o ρ' h v H' fp' Fn e2 g n sb dis bo r => h v H' Fn (grow_end g) n sb (r.carry (Carry.refl fun a _ q _ => ⟨q.1.1, q.2⟩) fun _ _ _ q => q)⟩
/-! what a changing def hands back -/
def owns (ρ : Env) : List Nat → Option (List OT)
  | [] => some []
  | j :: js => (ownT ρ[j]?).bind fun t => (owns ρ js).map fun ts => t :: ts
def retMM (o : OT) : Option (List OT) → Fl
  | some ts => .rt (.M o ts)
  | none => .bad
def sRetO (js : List Nat) (f : O) : S := fun ρ => withR (f ρ) ρ fun o => retMM o (owns ρ js)
def sRetOM (js : List Nat) (q : Mx) : S := fun ρ => withE (q ρ) fun o ρ => retMM o (owns ρ js)
theorem owns_rep {K : PySem.W.Frag} {ρ : Env} {σ : L2.St} {H : Hp} {fp : Fp} (e : EnvOk K C ρ σ H fp) : ∀ {js : List Nat} {ts : List OT}, js.Nodup → owns ρ js = some ts → ∃ xs F, OTReps K (Am C fp) H ts xs F ∧ F.Nodup ∧ ∀ a ∈ F, ∃ j ∈ js, a ∈ fp j
  | [], ts, _, h => by simp only [owns, Option.some.injEq] at h; subst h; exact ⟨[], [], ⟨rfl, rfl⟩, List.nodup_nil, fun _ h => nomatch h⟩
  | j :: js, ts, n, h => by
    obtain ⟨t, h1, h2⟩ := Option.bind_eq_some_iff.mp (show (ownT ρ[j]?).bind _ = some ts from h)
    obtain ⟨ts', h3, rfl⟩ := Option.map_eq_some_iff.mp h2
    obtain ⟨nj, n⟩ := List.nodup_cons.mp n
    obtain ⟨xs, F, r, nF, s⟩ := owns_rep e n h3
    obtain ⟨t', ht, hat⟩ : ∃ t', ρ[j]? = some (.own t') ∧ t' = t := by
      cases es : ρ[j]? with
      | none => rw [es] at h1; cases h1
      | some sl =>
        rw [es] at h1
        cases sl with
        | own t' => exact ⟨t', rfl, Option.some.inj h1⟩
        | _ => cases h1
    subst hat
    obtain ⟨v, hv, rt⟩ := e.slot j _ ht
    refine ⟨v :: xs, fp j ++ F, ⟨v, xs, fp j, F, rfl, rfl, rt, r⟩, List.nodup_append.mpr ⟨e.nod j, nF, fun a ha b hb z => ?_⟩, fun a ha => ?_⟩
    · subst z
      obtain ⟨k, hk, hm⟩ := s a hb
      exact nj (e.inj _ _ _ ha hm ▸ hk)
    · rcases List.mem_append.mp ha with q | q
      · exact ⟨j, by simp, q⟩
      · obtain ⟨k, hk, hm⟩ := s a q
        exact ⟨k, by simp [hk], hm⟩
theorem sj_retO {js : List Nat} (he : OJ X C W e fo) (hjs : js.Nodup := by decide) : SJ X C W (.Return (some e) pos) (sRetO js fo) := ps_weak (ps_ret he) fun D σ H ⟨ρ, fp, eo, h⟩ => by
  refine ⟨ρ, fp, eo, (FlQ.ofR eo h).mono (fun o q v H' Fn s n hf r => ?_) fun _ _ q => q⟩
  cases eb : owns ρ js with
  | none => rw [eb] at q; exact q.elim
  | some ts =>
    rw [eb] at q
    obtain ⟨xs, F, r2, nF, s2⟩ := owns_rep eo hjs eb
    have inF : ∀ a ∈ F, InF fp a := fun a ha => by obtain ⟨j, _, hj⟩ := s2 a ha; exact ⟨j, hj⟩
    have dis : ∀ a ∈ Fn, a ∉ F := fun a ha z => eo.fresh (hf a ha) (inF a z)
    refine q v H' (Fn ++ F) (grow_end (Grow.same s)) (List.nodup_append.mpr ⟨n, nF, fun a ha b hb z => dis a ha (z ▸ hb)⟩) (fun a ha => (List.mem_append.mp ha).elim (fun z => .inr (hf a z)) fun z => .inl (inF a z)) ⟨xs, Fn, F, rfl, r.carry (Carry.refl fun a _ q _ => ⟨q.1.1, fun z => (List.mem_append.mp z).elim q.2 fun y => q.1.2 (inF a y)⟩) fun _ _ _ q => q, OTReps.carry (Carry.mk' (fun a o q z => ⟨q.1, fun y => (List.mem_append.mp y).elim (fun y => by rw [hf a y] at z; cases z) fun y => q.2 (inF a y)⟩) (fun a o _ z => s a o z) (fun a xs z => s a _ z) fun a o u z => s a _ z) (fun a _ o q => s a o q) r2⟩
theorem sj_retOM {js : List Nat} {q : Mx} (he : MJ X C W e q) (hjs : js.Nodup := by decide) : SJ X C W (.Return (some e) pos) (sRetOM js q) := ps_weak (ps_ret he) fun D σ H ⟨ρ, fp, eo, h⟩ => by
  refine ⟨ρ, fp, eo, FlQ.ofE h fun o ρ' h v H' fp' Fn e2 g n sb dis bo r => ?_⟩
  cases eb : owns ρ' js with
  | none => rw [eb] at h; exact h.elim
  | some ts =>
    rw [eb] at h
    obtain ⟨xs, F, r2, nF, s2⟩ := owns_rep e2 hjs eb
    have inF : ∀ a ∈ F, InF fp' a := fun a ha => by obtain ⟨j, _, hj⟩ := s2 a ha; exact ⟨j, hj⟩
    exact h v H' (Fn ++ F) (grow_end g) (List.nodup_append.mpr ⟨n, nF, fun a ha b hb z => dis a ha (inF a (z ▸ hb))⟩) (fun a ha => (List.mem_append.mp ha).elim (sb a) fun z => g.new a (inF a z)) ⟨xs, Fn, F, rfl, r.carry (Carry.refl fun a _ q _ => ⟨q.1.1, fun z => (List.mem_append.mp z).elim q.2 fun y => q.1.2 (inF a y)⟩) fun _ _ _ q => q, OTReps.carry (Carry.refl fun a _ q _ => ⟨q.1.1, fun y => (List.mem_append.mp y).elim q.1.2 fun y => q.2 (inF a y)⟩) (fun _ _ _ q => q) r2⟩
end
end Fz
end
section
/-! Fyi: for the plain proofs: calls of changing defs; while. -/
namespace Fz
open PySem (sizeLine Addr)
open L2 (atI ixN)
section
variable (ρ : Env) (i : Nat) (f : E) (fo : O) (l : AL) (px : Px) (q : Mx)
@[simp] theorem m_aNil : aNil ρ = .ok [] := (rfl)
@[simp] theorem m_aE : aE f l ρ = f ρ >>= fun p => l ρ >>= fun as => .ok (.e p :: as) := (rfl)
@[simp] theorem m_aM : aM i px l ρ = px ρ >>= fun π => l ρ >>= fun as => .ok (.m i π :: as) := (rfl)
@[simp] theorem m_mCall (fl : List Bool) (g : FnM) : mCall fl g l ρ = callE fl g ρ (l ρ) := (rfl)
@[simp] theorem callE_exc (fl : List Bool) (g : FnM) (c : String) (fs : Option (List (String × PV))) : callE fl g ρ (.exc c fs) = .exc c fs ρ := (rfl)
@[simp] theorem callE_bad (fl : List Bool) (g : FnM) : callE fl g ρ .bad = .bad := (rfl)
@[simp] theorem isM_e (p : PV) : (AV.e p).isM = false := (rfl)
@[simp] theorem isM_m (π : List Nat) : (AV.m i π).isM = true := (rfl)
@[simp] theorem slotsA_nil : slotsA [] = [] := (rfl)
@[simp] theorem slotsA_e (p : PV) (as : List AV) : slotsA (.e p :: as) = slotsA as := (rfl)
@[simp] theorem slotsA_m (π : List Nat) (as : List AV) : slotsA (.m i π :: as) = i :: slotsA as := (rfl)
@[simp] theorem callE_ok (fl : List Bool) (g : FnM) (avs : List AV) : callE fl g ρ (.ok avs) = if avs.map AV.isM = fl ∧ (slotsA avs).Nodup then goE (fl.filter id).length g ρ avs (treesA ρ avs) else .bad := (rfl)
@[simp] theorem goE_some (m : Nat) (g : FnM) (avs : List AV) (ts : List OT) : goE m g ρ avs (some ts) = backE ρ avs (anyA m g ts) := (rfl)
@[simp] theorem treesA_nil : treesA ρ [] = some [] := (rfl)
@[simp] theorem treesA_cons (a : AV) (as : List AV) : treesA ρ (a :: as) = (tOf ρ a).bind fun t => (treesA ρ as).map fun ts => t :: ts := (rfl)
@[simp] theorem tOf_e (p : PV) : tOf ρ (.e p) = some (.fz p) := (rfl)
@[simp] theorem tOf_m (π : List Nat) : tOf ρ (.m i π) = (nodeOf i ρ π).bind nd1 := (rfl)
@[simp] theorem nd1_l (p : List PV) : nd1 (.l p) = some (.l p) := (rfl)
@[simp] theorem nd1_d (p : List (K1 × PV)) : nd1 (.d p) = some (.d p) := (rfl)
@[simp] theorem nd1_dt (p : List (List K1 × PV)) : nd1 (.dt p) = some (.dt p) := (rfl)
@[simp] theorem nd1_L (p : List OT) : nd1 (.L p) = some (.L p) := (rfl)
@[simp] theorem nd1_D (p : List (K1 × OT)) : nd1 (.D p) = some (.D p) := (rfl)
@[simp] theorem nd1_T (p : List OT) : nd1 (.T p) = some (.T p) := (rfl)
@[simp] theorem nd1_I (c : String) (p : List (String × OT)) : nd1 (.I c p) = some (.I c p) := (rfl)
@[simp] theorem backE_ok (avs : List AV) (o : OT) (ts : List OT) : backE ρ avs (.ok o ts) = .ok o (putAll ρ avs ts) := (rfl)
@[simp] theorem backE_exc (avs : List AV) (c : String) (fs : Option (List (String × PV))) (ts : List OT) : backE ρ avs (.exc c fs ts) = .exc c fs (putAll ρ avs ts) := (rfl)
@[simp] theorem putAll_nil (ts : List OT) : putAll ρ [] ts = ρ := (rfl)
@[simp] theorem putAll_e (p : PV) (as : List AV) (ts : List OT) : putAll ρ (.e p :: as) ts = putAll ρ as ts := (rfl)
@[simp] theorem putAll_m (π : List Nat) (as : List AV) (t : OT) (ts : List OT) : putAll ρ (.m i π :: as) (t :: ts) = put1 (putAll ρ as ts) i π t (ownT ρ[i]?) := (rfl)
@[simp] theorem put1_some (π : List Nat) (t t' : OT) : put1 ρ i π t' (some t) = ρ.set i (.own (t.put π t')) := (rfl)
@[simp] theorem m_sDropM : sDropM q ρ = withE (q ρ) fun _ ρ => .nx ρ := (rfl)
@[simp] theorem m_sAsgM : sAsgM i q ρ = withE (q ρ) fun o ρ => if i < ρ.length then .nx (ρ.set i (toSlot o)) else .bad := (rfl)
@[simp] theorem m_sRetMq : sRetMq q ρ = withE (q ρ) fun o ρ => .rt o := (rfl)
@[simp] theorem m_sRetO (js : List Nat) : sRetO js fo ρ = withR (fo ρ) ρ fun o => retMM o (owns ρ js) := (rfl)
@[simp] theorem m_sRetOM (js : List Nat) : sRetOM js q ρ = withE (q ρ) fun o ρ => retMM o (owns ρ js) := (rfl)
@[simp] theorem owns_nil : owns ρ [] = some [] := (rfl)
@[simp] theorem owns_cons (j : Nat) (js : List Nat) : owns ρ (j :: js) = (ownT ρ[j]?).bind fun t => (owns ρ js).map fun ts => t :: ts := (rfl)
@[simp] theorem retMM_some (o : OT) (ts : List OT) : retMM o (some ts) = .rt (.M o ts) := (rfl)
/-! a changing def by its body -/
def poM (as : List Addr) (fl : List Bool) (R : OT → List OT → Prop) : Po := ⟨fun ρ => ∃ ts, endM fl as ρ = some ts ∧ R (.fz .non) ts, fun _ => False, fun _ => False, fun o => ∃ r ps ts, o = .M r ps ∧ unP as ps = some ts ∧ R r ts, fun _ _ _ => False⟩
@[simp] theorem poM_nx (as : List Addr) (fl : List Bool) (R : OT → List OT → Prop) : (poM as fl R).nx ρ = ∃ ts, endM fl as ρ = some ts ∧ R (.fz .non) ts := (rfl)
@[simp] theorem poM_rt (as : List Addr) (fl : List Bool) (R : OT → List OT → Prop) (r : OT) (ps : List OT) : (poM as fl R).rt (.M r ps) = ∃ ts, unP as ps = some ts ∧ R r ts := propext ⟨fun ⟨r', ps', ts, e, h1, h2⟩ => by cases e; exact ⟨ts, h1, h2⟩, fun ⟨ts, h1, h2⟩ => ⟨r, ps, ts, rfl, h1, h2⟩⟩
theorem runM_ok {n : Nat} {fl : List Bool} {s : S} {as : List Addr} {ts : List OT} (R : OT → List OT → Prop) (h : lenM fl as ts) (hs : sat (s (slotsM fl as ts ++ List.replicate (n - fl.length) .u)) (poM as fl R)) : ∃ o ts', runFnM n fl s as ts = .ok o ts' ∧ R o ts' := by
  unfold runFnM
  rw [if_pos h]
  unfold sat at hs
  revert hs
  cases s (slotsM fl as ts ++ List.replicate (n - fl.length) .u) with
  | nx ρ =>
    rintro ⟨ts', h1, h2⟩
    exact ⟨_, ts', by show okM _ _ = _; rw [h1]; rfl, h2⟩
  | rt o =>
    rintro ⟨r, ps, ts', rfl, h1, h2⟩
    exact ⟨r, ts', by show okM _ _ = _; rw [h1]; rfl, h2⟩
  | bk ρ => exact fun h => h.elim
  | ct ρ => exact fun h => h.elim
  | ex c fs ρ => exact fun h => h.elim
  | bad => exact fun h => h.elim
/-- its whole, where it is known -/
theorem runM_eq {n : Nat} {fl : List Bool} {s : S} {as : List Addr} {ts : List OT} {o : OT} {ts' : List OT} (h : lenM fl as ts) (hs : sat (s (slotsM fl as ts ++ List.replicate (n - fl.length) .u)) (poM as fl fun r us => r = o ∧ us = ts')) : runFnM n fl s as ts = .ok o ts' := by
  obtain ⟨r, us, e, rfl, rfl⟩ := runM_ok _ h hs
  exact e
@[simp] theorem slotsM_t (fl : List Bool) (a : Addr) (as : List Addr) (t : OT) (ts : List OT) : slotsM (true :: fl) (a :: as) (t :: ts) = .own (.P a t) :: slotsM fl as ts := (rfl)
@[simp] theorem slotsM_f (fl : List Bool) (as : List Addr) (p : PV) (ts : List OT) : slotsM (false :: fl) as (.fz p :: ts) = .val p :: slotsM fl as ts := by cases as <;> rfl
@[simp] theorem slotsM_n : slotsM [] [] [] = [] := (rfl)
@[simp] theorem endM_t (fl : List Bool) (a : Addr) (as : List Addr) (t : OT) : endM (true :: fl) (a :: as) (.own (.P a t) :: ρ) = (endM fl as ρ).map (t :: ·) := if_pos rfl
@[simp] theorem endM_f (fl : List Bool) (as : List Addr) (s : Slot) : endM (false :: fl) as (s :: ρ) = endM fl as ρ := by cases as <;> rfl
@[simp] theorem endM_n : endM [] [] ρ = some [] := (rfl)
@[simp] theorem unP_c (a : Addr) (as : List Addr) (t : OT) (ts : List OT) : unP (a :: as) (.P a t :: ts) = (unP as ts).map (t :: ·) := if_pos rfl
@[simp] theorem unP_n : unP [] [] = some [] := (rfl)
end
/-! while -/
theorem sat_while {t : T} {body : S} {P : Po} (I : Nat → Env → Prop) : ∀ {n : Nat} {ρ : Env}, I n ρ → (∀ n ρ, I n ρ → ∃ b, t ρ = .ok b ∧ (b = true → sat (body ρ) { P with nx := fun ρ' => ∃ m, m < n ∧ I m ρ', ct := fun ρ' => ∃ m, m < n ∧ I m ρ', bk := P.nx }) ∧ (b = false → P.nx ρ)) → sat (sWhile t body ρ) P := by
  intro n ρ h0 st
  have key : ∀ (k n : Nat) (ρ : Env), n < k → I n ρ → ∃ r m, whileN t body m ρ = some r ∧ sat r P := by
    intro k
    induction k with
    | zero => intro n ρ h; omega
    | succ k ih =>
      intro n ρ hn hI
      obtain ⟨b, hb, h1, h2⟩ := st n ρ hI
      cases b with
      | false => exact ⟨.nx ρ, 1, by simp [whileN, hb], by rw [sat_nx]; exact h2 rfl⟩
      | true =>
        have hs := h1 rfl
        cases e : body ρ with
        | nx ρ2 =>
          rw [e, sat_nx] at hs
          obtain ⟨m, hm, hI2⟩ := hs
          obtain ⟨r, j, hj, hr⟩ := ih m ρ2 (by omega) hI2
          exact ⟨r, j + 1, by simp [whileN, hb, e, hj], hr⟩
        | ct ρ2 =>
          rw [e, sat_ct] at hs
          obtain ⟨m, hm, hI2⟩ := hs
          obtain ⟨r, j, hj, hr⟩ := ih m ρ2 (by omega) hI2
          exact ⟨r, j + 1, by simp [whileN, hb, e, hj], hr⟩
        | bk ρ2 => rw [e, sat_bk] at hs; exact ⟨.nx ρ2, 1, by simp [whileN, hb, e], by rw [sat_nx]; exact hs⟩
        | rt o => rw [e, sat_rt] at hs; exact ⟨.rt o, 1, by simp [whileN, hb, e], by rw [sat_rt]; exact hs⟩
        | ex c fs ρ2 => rw [e, sat_ex] at hs; exact ⟨.ex c fs ρ2, 1, by simp [whileN, hb, e], by rw [sat_ex]; exact hs⟩
        | bad => rw [e] at hs; unfold sat at hs; exact hs.elim
  obtain ⟨r, m, hm, hr⟩ := key (n + 1) n ρ (by omega) h0
  rw [sWhile_of hm]
  exact hr
end Fz
end
section
/-! Fyj: < and its like between tuples, lists. -/
namespace Fz
open PySem PySem.Spec PyProof.Rows L2
def likeP (p q : PV) : Bool := PySem.W.alike (toD p) (toD q)
def pvLt (p q : PV) : Bool := PySem.W.dataLt (toD p) (toD q)
def notNo : PV → Bool
  | .non => false
  | _ => true
def ordOk (p q : PV) : Bool := eqOk p && eqOk q && likeP p q && notNo p
def gLtA : Cmp := fun p q => if ordOk p q = true then some (pvLt p q) else none
def gGtA : Cmp := fun p q => if ordOk p q = true then some (pvLt q p) else none
def gLeA : Cmp := fun p q => if ordOk p q = true then some (!pvLt q p) else none
def gGeA : Cmp := fun p q => if ordOk p q = true then some (!pvLt p q) else none
def rOrdD (K : PySem.W.Frag) (r : PyData → PyData → Bool) : R2 := fun x y H Q => ∃ d e, Dp K H x d ∧ Dp K H y e ∧ PySem.W.alike d e = true ∧ d ≠ .none ∧ min d.depth e.depth ≤ 64 ∧ Q (.bl (r d e)) H
section
variable {X : Cx}
theorem opr_ltA (hu : Hu X) : OpR X (compareOp .Lt) (rOrdD X.K fun d e => PySem.W.dataLt d e) := by
  intro pins s σ H x y v u Q I rx ry ⟨d, e, hd, he, al, nn, dp, q⟩
  obtain ⟨as, r1⟩ := Dp.reads I d x v hd rx
  obtain ⟨bs, r2⟩ := Dp.reads I e y u he ry
  exact PySem.W.lt_data r1 r2 al nn (by have := hu; unfold Hu at this; omega) ⟨.bl _, H, I, rfl, q⟩
theorem opr_gtA (hu : Hu X) : OpR X (compareOp .Gt) (rOrdD X.K fun d e => PySem.W.dataLt e d) := by
  intro pins s σ H x y v u Q I rx ry ⟨d, e, hd, he, al, nn, dp, q⟩
  obtain ⟨as, r1⟩ := Dp.reads I d x v hd rx
  obtain ⟨bs, r2⟩ := Dp.reads I e y u he ry
  exact PySem.W.gt_data r1 r2 al nn (by have := hu; unfold Hu at this; omega) ⟨.bl _, H, I, rfl, q⟩
theorem opr_leA (hu : Hu X) : OpR X (compareOp .LtE) (rOrdD X.K fun d e => !PySem.W.dataLt e d) := by
  intro pins s σ H x y v u Q I rx ry ⟨d, e, hd, he, al, nn, dp, q⟩
  obtain ⟨as, r1⟩ := Dp.reads I d x v hd rx
  obtain ⟨bs, r2⟩ := Dp.reads I e y u he ry
  exact PySem.W.le_data r1 r2 al nn (by have := hu; unfold Hu at this; omega) ⟨.bl _, H, I, rfl, q⟩
theorem opr_geA (hu : Hu X) : OpR X (compareOp .GtE) (rOrdD X.K fun d e => !PySem.W.dataLt d e) := by
  intro pins s σ H x y v u Q I rx ry ⟨d, e, hd, he, al, nn, dp, q⟩
  obtain ⟨as, r1⟩ := Dp.reads I d x v hd rx
  obtain ⟨bs, r2⟩ := Dp.reads I e y u he ry
  exact PySem.W.ge_data r1 r2 al nn (by have := hu; unfold Hu at this; omega) ⟨.bl _, H, I, rfl, q⟩
theorem ordOk_spec {p q : PV} (h : ordOk p q = true) : eqOk p = true ∧ eqOk q = true ∧ likeP p q = true ∧ p ≠ .non := by
  unfold ordOk at h
  simp only [Bool.and_eq_true] at h
  exact ⟨h.1.1.1, h.1.1.2, h.1.2, fun e => by rw [e] at h; cases h.2⟩
theorem cmp_ordA {r : PyData → PyData → Bool} : CmpOk X.K (rOrdD X.K r) (fun p q => if ordOk p q = true then some (r (toD p) (toD q)) else none) := fun p q b H v u Q hg r1 r2 hQ => by
  dsimp only at hg
  split at hg
  · rename_i h
    cases hg
    obtain ⟨h1, h2, h3, h4⟩ := ordOk_spec h
    refine ⟨toD p, toD q, r1.dp (data_of h1), r2.dp (data_of h2), h3, fun z => h4 ?_, ?_, hQ⟩
    · cases p <;> first | rfl | (simp [toD] at z; done) | (simp [eqOk, isData] at h1; done)
    · have := shaped_of h1
      simp only [SeqAt.shaped, Bool.and_eq_true, decide_eq_true_eq] at this
      omega
  · cases hg
theorem cmp_ltA : CmpOk X.K (rOrdD X.K fun d e => PySem.W.dataLt d e) gLtA := cmp_ordA
theorem cmp_gtA : CmpOk X.K (rOrdD X.K fun d e => PySem.W.dataLt e d) gGtA := cmp_ordA (r := fun d e => PySem.W.dataLt e d)
theorem cmp_leA : CmpOk X.K (rOrdD X.K fun d e => !PySem.W.dataLt e d) gLeA := cmp_ordA (r := fun d e => !PySem.W.dataLt e d)
theorem cmp_geA : CmpOk X.K (rOrdD X.K fun d e => !PySem.W.dataLt d e) gGeA := cmp_ordA (r := fun d e => !PySem.W.dataLt d e)
end
theorem ordOk_ii (a b c d : Int) : ordOk (.tup [.int a, .int b]) (.tup [.int c, .int d]) = true := by
  unfold ordOk likeP
  simp [eqOk, isData, isDatas, dep, deps, toD, toDs, PySem.W.alike, PySem.W.alikeAll, notNo]
theorem pvLt_ii (a b c d : Int) : pvLt (.tup [.int a, .int b]) (.tup [.int c, .int d]) = decide (a < c ∨ (a = c ∧ b < d)) := PySem.W.dataLt_ii a b c d
@[simp] theorem gGtA_ii (a b c d : Int) : gGtA (.tup [.int a, .int b]) (.tup [.int c, .int d]) = some (decide (c < a ∨ (c = a ∧ d < b))) := by
  unfold gGtA
  rw [if_pos (ordOk_ii a b c d), pvLt_ii]
@[simp] theorem gLtA_ii (a b c d : Int) : gLtA (.tup [.int a, .int b]) (.tup [.int c, .int d]) = some (decide (a < c ∨ (a = c ∧ b < d))) := by
  unfold gLtA
  rw [if_pos (ordOk_ii a b c d), pvLt_ii]
end Fz
end
section
/-! Fyk: range with any step. -/
namespace Fz
open PySem PySem.Spec PyProof.Rows L2
def stepL (lo c : Int) (n : Nat) : List PV := (List.range n).map fun (k : Nat) => .int (lo + (k : Int) * c)
theorem iter_step {K : PySem.W.Frag} {A : Addr → Prop} {H0 : Hp} {rel : Hp → Prop} {lo c : Int} {n : Nat} : IterOk K A H0 rel (Itc lo c n) (stepL lo c n) := fun H B hr _ i => by
  refine ⟨fun p hp => ?_, fun hi => (by simpa [stepL] using hi : n ≤ i)⟩
  rw [stepL, List.getElem?_map] at hp
  by_cases hi : i < n
  · rw [List.getElem?_eq_getElem (by simpa using hi)] at hp
    simp only [List.getElem_range, Option.map_some, Option.some.injEq] at hp
    refine ⟨hi, fun x H' ⟨e1, e2⟩ => ?_⟩
    subst e1 e2 hp
    exact ⟨Same.refl _, rfl⟩
  · rw [List.getElem?_eq_none (by simpa using Nat.le_of_not_lt hi)] at hp
    cases hp
def stepOk (i j c : Int) : Bool := decide (c ≠ 0) && decide (c.natAbs < 1073741824) && Builtin.Range.small i j c
def stepRA (i j c : Int) : Res (List PV) := if stepOk i j c = true then .ok (stepL i c (Builtin.Range.rangeSize i j c).toNat) else .bad
def lRange3A (f g h : E) : L := fun ρ => f ρ >>= fun x => g ρ >>= fun y => h ρ >>= fun z => intOf x >>= fun i => intOf y >>= fun j => intOf z >>= fun c => stepRA i j c
section
variable {X : Cx} {C : Addr → Prop} {W : WX} {e1 e2 e3 tg : Expr} {pos p2 : Pos} {m1 m2 m3 : Mode} {f1 f2 f3 : E}
theorem intOf_inv {p : PV} {α : Type} {k : Int → Res α} {P : α → Prop} {E' : XF} (h : Out (intOf p >>= k) P E') : ∃ i, p = .int i ∧ Out (k i) P E' := by
  cases p with
  | int i => exact ⟨i, rfl, h⟩
  | _ => exact h.elim
theorem ij_range3A {rel : Hp → Fp → Hp → Prop} (hg : Gl X "range") (hm : X.mg "range" = none) (h1 : EJ X C W m1 e1 f1) (h2 : EJ X C W m2 e2 f2) (h3 : EJ X C W m3 e3 f3) (hs : starEach [e1, e2, e3] X.env = (false, eval e1 X.env) :: starEach [e2, e3] X.env := by rfl) (hs2 : starEach [e2, e3] X.env = (false, eval e2 X.env) :: starEach [e3] X.env := by rfl)
    (hs3 : starEach [e3] X.env = (false, eval e3 X.env) :: starEach [] X.env := by rfl) (hpl : (backTo pos (starEach [e2, e3] X.env)).any (·.1) = false := by rfl) :
    IJ X C W rel tg (.Call (.Name "range" p2) [e1, e2, e3] [] pos) (lRange3A f1 f2 f3) :=
  pi_weak (pi_range3 hg hm (pa_cons h1 (pa_cons h2 (pa_cons h3 pa_nil hs3) hs2) hs) hs hpl) fun σ H R ⟨ρ, fp, eo, o⟩ => by
    refine ⟨ρ, fp, eo, (Out.bind o).mono (fun p o1 v H1 s1 r1 => ?_) fun _ _ q => q⟩
    refine ⟨ρ, fp, eo.same s1, (Out.bind o1).mono (fun q o2 u H2 s2 r2 => ?_) fun _ _ q => XQ.later s1 q⟩
    refine ⟨ρ, fp, eo.same (s1.trans s2), (Out.bind o2).mono (fun z o3 w H3 s3 r3 => ?_) fun _ _ q => XQ.later (s1.trans s2) q⟩
    cases p with
    | int i =>
      cases q with
      | int j =>
        cases z with
        | int c =>
          have o4 : Out (stepRA i j c) _ _ := o3
          unfold stepRA at o4
          split at o4
          · rename_i hz
            unfold stepOk at hz
            simp only [Bool.and_eq_true, decide_eq_true_eq] at hz
            exact ⟨i, j, c, _, by rw [show v = .int i from RepM.toB r1, show u = .int j from RepM.toB r2, show w = .int c from RepM.toB r3], ⟨hz.1.1, hz.1.2, hz.2, rangeSize_toNat i j c⟩, o4 _ H3 (s1.trans (s2.trans s3)) iter_step⟩
          · exact o4.elim
        | _ => exact o3.elim
      | _ => exact o3.elim
    | _ => exact o3.elim
end
@[simp] theorem m_lRange3A (f g h : E) (ρ : Env) : lRange3A f g h ρ = f ρ >>= fun x => g ρ >>= fun y => h ρ >>= fun z => intOf x >>= fun i => intOf y >>= fun j => intOf z >>= fun c => stepRA i j c := (rfl)
end Fz
end
section
/-! Fyl: min and max of lists of texts, tuples, lists. -/
namespace Fz
open PySem PySem.Spec PyProof.Rows L2
def rMinD (K : PySem.W.Frag) (mD : PyData → List PyData → PyData) : List V → Hp → VK → Prop := fun xs H Q => ∃ (a : Addr) (vs : List V) (d : PyData) (ds : List PyData), xs = [.ref a] ∧ SqL K H a vs ∧ DpAll K H vs (d :: ds) ∧ PySem.W.AlikeAll (d :: ds) ∧ PyData.depthAll (d :: ds) ≤ 66 ∧ (∀ e ∈ d :: ds, e.canLay0 = true) ∧ ∀ (i : Nat) v, vs[i]? = some v → (d :: ds)[i]? = some (mD d ds) → Q v H
theorem readsAll_get {h : Heap} : ∀ {ds : List PyData} {us : List Value} {as : List Addr} {i : Nat} {u : Value}, ReadsAll h us ds as → us[i]? = some u → ∃ d bs, ds[i]? = some d ∧ Reads h u d bs
  | [], _, _, i, u, r, hu => by cases r; cases hu
  | d :: ds, _, _, i, u, r, hu => by
    cases r with
    | cons r1 r2 =>
      cases i with
      | zero => cases hu; exact ⟨_, _, rfl, r1⟩
      | succ i => exact readsAll_get (ds := ds) (i := i) r2 hu
section
variable {X : Cx}
theorem cr_minD (hc : X.calm = true) (hu : Hu X) : CallR X (.builtin "min") (rMinD X.K PySem.W.minD) := by
  intro pins s σ H xs us Q I r ⟨a, vs, d, ds, ex, hq, hd, hal, hdep, hlay, q⟩
  subst ex
  cases r with
  | cons r rr =>
    cases rr
    cases r
    obtain ⟨its, rv, p, _⟩ := I.list hq
    obtain ⟨as, hr⟩ := Dp.readsAll I (d :: ds) vs its hd rv
    refine PySem.W.min_list_data (I.ok.hd hc) p.isList (by simpa using hr) hal (by have := hu; unfold Hu at this; omega) fun i v h' tk bs hi rd keep => ?_
    have hi' : its[i]? = some v := by simpa using hi
    have I2 : Inv X pins σ H { s with heap := h', toks := tk } := I.kept keep
    obtain ⟨e, cs, he, re⟩ := readsAll_get hr hi'
    have el : e.canLay0 = true := hlay e (List.mem_of_getElem? he)
    have ee : e = PySem.W.minD d ds := ((PyProof.Rows.Reads.keeps keep re).unique _ _ rd).1
    obtain ⟨x, hx, rx⟩ : ∃ x, vs[i]? = some x ∧ RelV x v := by
      have hl := rv.length
      have hlt : i < vs.length := by rw [hl]; exact (List.getElem?_eq_some_iff.mp hi').1
      obtain ⟨u, hu, ru⟩ := rv.get (List.getElem?_eq_getElem hlt)
      rw [hi'] at hu; cases hu
      exact ⟨_, List.getElem?_eq_getElem hlt, ru⟩
    exact ⟨x, H, I2, rx, q i x hx (by rw [he, ee])⟩
theorem cr_maxD (hc : X.calm = true) (hu : Hu X) : CallR X (.builtin "max") (rMinD X.K PySem.W.maxD) := by
  intro pins s σ H xs us Q I r ⟨a, vs, d, ds, ex, hq, hd, hal, hdep, hlay, q⟩
  subst ex
  cases r with
  | cons r rr =>
    cases rr
    cases r
    obtain ⟨its, rv, p, _⟩ := I.list hq
    obtain ⟨as, hr⟩ := Dp.readsAll I (d :: ds) vs its hd rv
    refine PySem.W.max_list_data (I.ok.hd hc) p.isList (by simpa using hr) hal (by have := hu; unfold Hu at this; omega) fun i v h' tk bs hi rd keep => ?_
    have hi' : its[i]? = some v := by simpa using hi
    have I2 : Inv X pins σ H { s with heap := h', toks := tk } := I.kept keep
    obtain ⟨e, cs, he, re⟩ := readsAll_get hr hi'
    have ee : e = PySem.W.maxD d ds := ((PyProof.Rows.Reads.keeps keep re).unique _ _ rd).1
    obtain ⟨x, hx, rx⟩ : ∃ x, vs[i]? = some x ∧ RelV x v := by
      have hl := rv.length
      have hlt : i < vs.length := by rw [hl]; exact (List.getElem?_eq_some_iff.mp hi').1
      obtain ⟨u, hu, ru⟩ := rv.get (List.getElem?_eq_getElem hlt)
      rw [hi'] at hu; cases hu
      exact ⟨_, List.getElem?_eq_getElem hlt, ru⟩
    exact ⟨x, H, I2, rx, q i x hx (by rw [he, ee])⟩
end
/-! values that are what they read as -/
mutual
def plainD : PV → Bool
  | .non => true | .bl _ => true | .int _ => true | .str _ => true
  | .tup ps => plainDs ps
  | .lst ps => plainDs ps
  | .rol _ => false | .dic _ => false | .dit _ => false | .ins _ _ => false
def plainDs : List PV → Bool
  | [] => true
  | p :: ps => plainD p && plainDs ps
end
mutual
theorem toD_inj : ∀ (p q : PV), plainD p = true → plainD q = true → toD p = toD q → p = q := fun p q hp hq e => by
  cases p with
  | non => cases q <;> simp [toD, plainD] at * 
  | bl b => cases q <;> simp [toD, plainD] at * ; exact e
  | int b => cases q <;> simp [toD, plainD] at * ; exact e
  | str x => cases q <;> simp [toD, plainD] at * ; exact mkS_inj e
  | tup ps => cases q <;> simp [toD, plainD] at * ; exact toDs_inj ps _ hp hq e
  | lst ps => cases q <;> simp [toD, plainD] at * ; exact toDs_inj ps _ hp hq e
  | rol ps => simp [plainD] at hp
  | dic _ => simp [plainD] at hp
  | dit _ => simp [plainD] at hp
  | ins _ _ => simp [plainD] at hp
theorem toDs_inj : ∀ (ps qs : List PV), plainDs ps = true → plainDs qs = true → toDs ps = toDs qs → ps = qs
  | [], [], _, _, _ => rfl
  | [], _ :: _, _, _, h => by simp [toDs] at h
  | _ :: _, [], _, _, h => by simp [toDs] at h
  | p :: ps, q :: qs, h1, h2, h => by
    simp only [plainDs, Bool.and_eq_true] at h1 h2
    simp only [toDs, List.cons.injEq] at h
    rw [toD_inj p q h1.1 h2.1 h.1, toDs_inj ps qs h1.2 h2.2 h.2]
end
def leastP (p : PV) (ps : List PV) : PV := ps.foldl (fun a y => if pvLt y a = true then y else a) p
def mostP (p : PV) (ps : List PV) : PV := ps.foldl (fun a y => if pvLt a y = true then y else a) p
def ordAll (ps : List PV) : Bool := ps.all (fun p => eqOk p && plainD p && notNo p) && ps.all fun p => ps.all fun q => likeP p q
def gMinD : PV → Option OT
  | .lst (p :: ps) => if ordAll (p :: ps) = true then some (.fz (leastP p ps)) else none
  | _ => none
def gMaxD : PV → Option OT
  | .lst (p :: ps) => if ordAll (p :: ps) = true then some (.fz (mostP p ps)) else none
  | _ => none
theorem least_toD (p : PV) : ∀ ps : List PV, PySem.W.minD (toD p) (toDs ps) = toD (leastP p ps) := fun ps => by
  unfold PySem.W.minD leastP
  induction ps generalizing p with
  | nil => rfl
  | cons q qs ih =>
    rw [toDs, List.foldl_cons, List.foldl_cons, ← ih]
    show List.foldl _ (if pvLt q p = true then toD q else toD p) _ = _
    cases pvLt q p <;> rfl
theorem most_toD (p : PV) : ∀ ps : List PV, PySem.W.maxD (toD p) (toDs ps) = toD (mostP p ps) := fun ps => by
  unfold PySem.W.maxD mostP
  induction ps generalizing p with
  | nil => rfl
  | cons q qs ih =>
    rw [toDs, List.foldl_cons, List.foldl_cons, ← ih]
    show List.foldl _ (if pvLt p q = true then toD q else toD p) _ = _
    cases pvLt p q <;> rfl
theorem least_mem (p : PV) : ∀ ps : List PV, leastP p ps ∈ p :: ps := fun ps => by
  unfold leastP
  induction ps generalizing p with
  | nil => simp
  | cons q qs ih =>
    rw [List.foldl_cons]
    cases pvLt q p with
    | false => exact (List.mem_cons.mp (ih p)).elim (fun e => by simp at e ⊢; simp [e]) fun h => by simp at h ⊢; simp [h]
    | true => exact (List.mem_cons.mp (ih q)).elim (fun e => by simp at e ⊢; simp [e]) fun h => by simp at h ⊢; simp [h]
theorem most_mem (p : PV) : ∀ ps : List PV, mostP p ps ∈ p :: ps := fun ps => by
  unfold mostP
  induction ps generalizing p with
  | nil => simp
  | cons q qs ih =>
    rw [List.foldl_cons]
    cases pvLt p q with
    | false => exact (List.mem_cons.mp (ih p)).elim (fun e => by simp at e ⊢; simp [e]) fun h => by simp at h ⊢; simp [h]
    | true => exact (List.mem_cons.mp (ih q)).elim (fun e => by simp at e ⊢; simp [e]) fun h => by simp at h ⊢; simp [h]
theorem toDs_get : ∀ {ps : List PV} {i : Nat} {e : PyData}, (toDs ps)[i]? = some e → ∃ p, ps[i]? = some p ∧ toD p = e
  | [], i, e, h => by simp [toDs] at h
  | p :: ps, 0, e, h => by simp [toDs] at h; exact ⟨p, rfl, h⟩
  | p :: ps, i + 1, e, h => by simp [toDs] at h; exact toDs_get (ps := ps) h
theorem toDs_mem {ps : List PV} {e : PyData} (h : e ∈ toDs ps) : ∃ p ∈ ps, toD p = e := by
  obtain ⟨i, hi⟩ := List.getElem?_of_mem h
  obtain ⟨p, hp, e⟩ := toDs_get hi
  exact ⟨p, List.mem_of_getElem? hp, e⟩
theorem deps_of : ∀ {ps : List PV}, (∀ p ∈ ps, eqOk p = true) → isDatas ps = true ∧ deps ps ≤ 64
  | [], _ => ⟨rfl, Nat.zero_le _⟩
  | p :: ps, h => by
    obtain ⟨i1, i2⟩ := deps_of (ps := ps) fun q hq => h q (List.mem_cons_of_mem _ hq)
    have h1 := h p List.mem_cons_self
    unfold eqOk at h1
    simp only [Bool.and_eq_true, decide_eq_true_eq] at h1
    exact ⟨by show (isData p && isDatas ps) = true; rw [h1.1, i1]; rfl, by show max (dep p) (deps ps) ≤ 64; exact Nat.max_le.mpr ⟨h1.2, i2⟩⟩
theorem minD_call {K : PySem.W.Frag} {mD : PyData → List PyData → PyData} {mP : PV → List PV → PV} (h1 : ∀ p ps, mD (toD p) (toDs ps) = toD (mP p ps)) (h2 : ∀ p ps, mP p ps ∈ p :: ps) {C : Addr → Prop} {fp : Fp} {H : Hp} {p : PV} {ps : List PV} {v : V} {Q : VK} (ho : ordAll (p :: ps) = true) (r : RepM K C fp .I H (.lst (p :: ps)) v) (k : KO K (Am C fp) H (.fz (mP p ps)) Q) : rMinD K mD [v] H Q := by
  obtain ⟨a, xs, rfl, ha, rr⟩ := r
  unfold ordAll at ho
  simp only [Bool.and_eq_true, List.all_eq_true] at ho
  obtain ⟨ho1, ho2⟩ := ho
  obtain ⟨d1, d2⟩ := deps_of fun q hq => (ho1 q hq).1.1
  have dd : DpAll K H xs (toDs (p :: ps)) := rr.dp d1
  refine ⟨a, xs, toD p, toDs ps, rfl, SqL.of ha, dd, ⟨fun x hx y hy => ?_, fun x hx => ?_⟩, ?_, fun e he => ?_, fun i w hw he => ?_⟩
  · obtain ⟨q, hq, rfl⟩ := toDs_mem (ps := p :: ps) hx
    obtain ⟨q', hq', rfl⟩ := toDs_mem (ps := p :: ps) hy
    exact ho2 q hq q' hq'
  · obtain ⟨q, hq, rfl⟩ := toDs_mem (ps := p :: ps) hx
    have h3 := ho1 q hq
    intro z
    cases q <;> simp [toD] at z
    · simp [notNo] at h3
  · have := toDs_dep (p :: ps) d1
    show PyData.depthAll (toDs (p :: ps)) ≤ 66
    omega
  · obtain ⟨q, hq, rfl⟩ := toDs_mem (ps := p :: ps) he
    rw [toD_lay]
    exact data_of (ho1 q hq).1.1
  · rw [h1] at he
    obtain ⟨q, hq, e⟩ := toDs_get (ps := p :: ps) he
    have e2 := toD_inj q (mP p ps) (ho1 q (List.mem_of_getElem? hq)).1.2 (ho1 _ (h2 p ps)).1.2 e
    subst e2
    obtain ⟨w', hw', rw'⟩ := rr.get hq
    rw [hw] at hw'; cases hw'
    exact k.rep rw'
theorem gMinD_inv {p : PV} {t : OT} (h : gMinD p = some t) : ∃ q qs, p = .lst (q :: qs) ∧ ordAll (q :: qs) = true ∧ t = .fz (leastP q qs) := by
  match p, h with
  | .lst (q :: qs), h =>
    have h : (if ordAll (q :: qs) = true then some (OT.fz (leastP q qs)) else none) = some t := h
    by_cases ho : ordAll (q :: qs) = true
    · rw [if_pos ho] at h; exact ⟨q, qs, rfl, ho, (Option.some.inj h).symm⟩
    · rw [if_neg ho] at h; cases h
theorem gMaxD_inv {p : PV} {t : OT} (h : gMaxD p = some t) : ∃ q qs, p = .lst (q :: qs) ∧ ordAll (q :: qs) = true ∧ t = .fz (mostP q qs) := by
  match p, h with
  | .lst (q :: qs), h =>
    have h : (if ordAll (q :: qs) = true then some (OT.fz (mostP q qs)) else none) = some t := h
    by_cases ho : ordAll (q :: qs) = true
    · rw [if_pos ho] at h; exact ⟨q, qs, rfl, ho, (Option.some.inj h).symm⟩
    · rw [if_neg ho] at h; cases h
theorem c_minD {X : Cx} : Call1 X.K (rMinD X.K PySem.W.minD) .I gMinD := fun C fp H p t v Q hg r k => by
  obtain ⟨q, qs, rfl, ho, rfl⟩ := gMinD_inv hg
  exact minD_call least_toD least_mem ho r k
theorem c_maxD {X : Cx} : Call1 X.K (rMinD X.K PySem.W.maxD) .I gMaxD := fun C fp H p t v Q hg r k => by
  obtain ⟨q, qs, rfl, ho, rfl⟩ := gMaxD_inv hg
  exact minD_call most_toD most_mem ho r k
end Fz
end
section
/-! Fym: the order of lists of texts, in plain words. -/
namespace Fz
open PySem PySem.Spec PyProof.Rows L2
def txsLt : List Tx → List Tx → Bool
  | [], [] => false
  | [], _ :: _ => true
  | _ :: _, [] => false
  | x :: xs, y :: ys => if x = y then txsLt xs ys else txLt x y
theorem toDs_strs : ∀ xs : List Tx, toDs (xs.map .str) = (xs.map mkS).map PyData.str
  | [] => rfl
  | x :: xs => by rw [List.map_cons, toDs, toDs_strs xs]; rfl
theorem listLt_txs : ∀ a b : List Tx, PySem.W.listLt (a.map mkS) (b.map mkS) = txsLt a b
  | [], [] => rfl
  | [], _ :: _ => rfl
  | _ :: _, [] => rfl
  | x :: xs, y :: ys => by
    rw [List.map_cons, List.map_cons, PySem.W.listLt, txsLt, listLt_txs xs ys]
    by_cases h : x = y
    · subst h; simp
    · rw [if_neg h, if_neg fun e => h (mkS_inj e)]
      show decide ((mkS x).cps.toList < (mkS y).cps.toList) = _
      rw [mkS_cps, mkS_cps]
      rfl
theorem pvLt_strs (a b : List Tx) : pvLt (.lst (a.map .str)) (.lst (b.map .str)) = txsLt a b := by
  show PySem.W.dataLt (.list (toDs (a.map .str))) (.list (toDs (b.map .str))) = _
  rw [toDs_strs, toDs_strs]
  exact (PySem.W.DatumOrd.lt_eq (α := List Str) (a.map mkS) (b.map mkS)).trans (listLt_txs a b)
theorem likeP_strs (a b : List Tx) : likeP (.lst (a.map .str)) (.lst (b.map .str)) = true := by
  show PySem.W.alike (.list (toDs (a.map .str))) (.list (toDs (b.map .str))) = true
  rw [toDs_strs, toDs_strs]
  exact PySem.W.DatumOrd.alike (α := List Str) (a.map mkS) (b.map mkS)
theorem plain_strs : ∀ a : List Tx, plainDs (a.map .str) = true
  | [] => rfl
  | x :: xs => by rw [List.map_cons, plainDs, plain_strs xs]; rfl
theorem ordAll_strs (R : List (List Tx)) : ordAll (R.map fun o => .lst (o.map .str)) = true := by
  unfold ordAll
  simp only [Bool.and_eq_true, List.all_eq_true]
  refine ⟨fun p hp => ?_, fun p hp q hq => ?_⟩
  · obtain ⟨o, _, rfl⟩ := List.mem_map.mp hp
    exact ⟨⟨(okD_strs o).eqOk (by omega), plain_strs o⟩, rfl⟩
  · obtain ⟨o, _, rfl⟩ := List.mem_map.mp hp
    obtain ⟨o', _, rfl⟩ := List.mem_map.mp hq
    exact likeP_strs o o'
/-- the first of the least -/
def leastX (o : List Tx) (R : List (List Tx)) : List Tx := R.foldl (fun a y => if txsLt y a = true then y else a) o
theorem leastP_strs (o : List Tx) (R : List (List Tx)) : leastP (.lst (o.map .str)) (R.map fun o => .lst (o.map .str)) = .lst ((leastX o R).map .str) := by
  unfold leastP leastX
  induction R generalizing o with
  | nil => rfl
  | cons y ys ih =>
    rw [List.map_cons, List.foldl_cons, List.foldl_cons, pvLt_strs]
    cases txsLt y o with
    | true => exact ih y
    | false => exact ih o
theorem gMinD_strs (o : List Tx) (R : List (List Tx)) : gMinD (.lst ((o :: R).map fun o => .lst (o.map .str))) = some (.fz (.lst ((leastX o R).map .str))) := by
  have h : gMinD (.lst ((o :: R).map fun o => .lst (o.map .str))) = (if ordAll ((o :: R).map fun o => .lst (o.map .str)) = true then some (OT.fz (leastP (.lst (o.map .str)) (R.map fun o => .lst (o.map .str)))) else none) := rfl
  rw [h, if_pos (ordAll_strs (o :: R)), leastP_strs]
/-- one that is less than all others is the least -/
theorem leastX_is {m : List Tx} (irr : txsLt m m = false) : ∀ (R : List (List Tx)) (o : List Tx), m ∈ o :: R → (∀ x ∈ o :: R, x = m ∨ (txsLt m x = true ∧ txsLt x m = false)) → leastX o R = m
  | [], o, h, _ => by
    have : m = o := by simpa using h
    rw [this]; rfl
  | y :: ys, o, h, ha => by
    unfold leastX
    rw [List.foldl_cons]
    have hy := ha y (by simp)
    have ho := ha o (by simp)
    rcases hy with rfl | ⟨y1, y2⟩
    · rcases ho with rfl | ⟨o1, o2⟩
      · rw [irr]
        exact leastX_is irr ys _ (by simp) fun x hx => ha x (by simp at hx ⊢; rcases hx with q | q <;> simp [q])
      · rw [if_pos o1]
        exact leastX_is irr ys _ (by simp) fun x hx => ha x (by simp at hx ⊢; rcases hx with q | q <;> simp [q])
    · rcases ho with rfl | ⟨o1, o2⟩
      · rw [if_neg (by rw [y2]; simp)]
        exact leastX_is irr ys _ (by simp) fun x hx => ha x (by simp at hx ⊢; rcases hx with q | q <;> simp [q])
      · have hm : m ∈ ys := by
          simp at h
          rcases h with q | q | q
          · rw [q] at o1 irr; rw [irr] at o1; cases o1
          · rw [q] at y1 irr; rw [irr] at y1; cases y1
          · exact q
        split
        · exact leastX_is irr ys _ (by simp [hm]) fun x hx => ha x (by simp at hx ⊢; rcases hx with q | q <;> simp [q])
        · exact leastX_is irr ys _ (by simp [hm]) fun x hx => ha x (by simp at hx ⊢; rcases hx with q | q <;> simp [q])
end Fz
end
section
/-! Fyn: instances: their fields, their methods, how they are made. -/
namespace Fz
open PySem PySem.Spec PyProof.Rows L2
theorem ofS_inj {f g : String} (h : (f : Str) = (g : Str)) : f = g := txt_inj (mkS_inj (by rw [mkS_txt, mkS_txt]; exact h))
theorem ofS_beq {f g : String} : ((f : Str) == (g : Str)) = decide (f = g) := by
  by_cases h : f = g
  · subst h; simp
  · rw [decide_eq_false h, beq_eq_false_iff_ne]; exact fun z => h (ofS_inj z)
/-! fields of values -/
def fldP (f : String) : List (String × PV) → Option PV
  | [] => none
  | (g, p) :: r => if g = f then some p else fldP f r
def insF (f : String) : PV → Option PV
  | .ins _ fs => fldP f fs
  | _ => none
def insC (c : String) : PV → Bool
  | .ins d _ => decide (d = c)
  | _ => false
def eFld (c f : String) (e : E) : E := fun ρ => e ρ >>= fun p => ofO (if insC c p = true then insF f p else none)
section
variable {K : PySem.W.Frag} {A : Addr → Prop} {H : Hp}
theorem RepF.look {f : String} : ∀ {fs : List (String × PV)} {xs : List (Str × V)}, RepF K A H fs xs → (match fldP f fs with
    | some p => ∃ v, xs.lookup (f : Str) = some v ∧ Rep K A H p v
    | none => xs.lookup (f : Str) = none)
  | [], xs, h => by rw [show xs = [] from h]; rfl
  | (g, p) :: r, xs, h => by
    obtain ⟨x, ys, rfl, h1, h2⟩ := h
    have ih := RepF.look (f := f) h2
    by_cases e : g = f
    · subst e
      rw [fldP, if_pos rfl]
      exact ⟨x, by rw [List.lookup]; simp, h1⟩
    · have e2 : ((f : Str) == (g : Str)) = false := by rw [ofS_beq]; exact decide_eq_false fun z => e z.symm
      rw [fldP, if_neg e]
      have e3 : List.lookup (f : Str) (((g : Str), x) :: ys) = ys.lookup (f : Str) := by rw [List.lookup, e2]
      rw [e3]; exact ih
theorem RepF.some {f : String} {fs : List (String × PV)} {xs : List (Str × V)} {p : PV} (h : RepF K A H fs xs) (e : fldP f fs = some p) : ∃ v, xs.lookup (f : Str) = .some v ∧ Rep K A H p v := by
  have := h.look (f := f)
  rw [e] at this; exact this
theorem RepF.none {f : String} {fs : List (String × PV)} {xs : List (Str × V)} (h : RepF K A H fs xs) (e : fldP f fs = none) : xs.lookup (f : Str) = .none := by
  have := h.look (f := f)
  rw [e] at this; exact this
end
section
variable {X : Cx} {C : Addr → Prop} {W : WX} {e : Expr} {pos p2 : Pos} {m : Mode} {f1 : E} {px : Px} {fo : O}
theorem eFld_out {c f : String} {p q : PV} (h : (if insC c p = true then insF f p else none) = some q) : ∃ fs, p = .ins c fs ∧ fldP f fs = some q := by
  cases p with
  | ins d fs =>
    by_cases e : d = c
    · subst e; rw [if_pos (by simp [insC])] at h; exact ⟨fs, rfl, h⟩
    · rw [if_neg (by simp [insC, e])] at h; cases h
  | _ => simp [insC] at h
theorem ej_fldB {c f : String} (cl : Cls X.K (He.ga X.K (c : Str))) (na : NoAttr X.K (He.ga X.K (c : Str)) (f : Str)) (h : EJ X C W m e f1) (hb : attributeBase e (f : Str) X.env (eval e X.env) = eval e X.env := by rfl) : EJ X C W .B (.Attribute e (f : Str) pos) (eFld c f f1) :=
  pe_weak (pe_fld (ej_B h) hb) fun σ H Q ⟨ρ, fp, eo, o⟩ => by
    refine ⟨ρ, fp, eo, (Out.bind o).mono (fun p o1 v H1 s1 r1 => ?_) fun _ _ q => q⟩
    obtain ⟨q, hq, hQ⟩ := Out.ofO o1
    obtain ⟨fs, rfl, hf⟩ := eFld_out hq
    obtain ⟨a, dx, xs, rfl, _, ha, rf⟩ := (show Rep X.K (fun _ => True) H1 (.ins c fs) v from r1)
    obtain ⟨y, hy, ry⟩ := rf.some hf
    exact ⟨a, _, dx, xs, y, rfl, ha, cl, na, hy, hQ y H1 s1 ry⟩
theorem ej_fld {c f : String} (cl : Cls X.K (He.ga X.K (c : Str))) (na : NoAttr X.K (He.ga X.K (c : Str)) (f : Str)) (h : EJ X C W .I e f1) (hb : attributeBase e (f : Str) X.env (eval e X.env) = eval e X.env := by rfl) : EJ X C W .E (.Attribute e (f : Str) pos) (eFld c f f1) :=
  pe_weak (pe_fld h hb) fun σ H Q ⟨ρ, fp, eo, o⟩ => by
    refine ⟨ρ, fp, eo, (Out.bind o).mono (fun p o1 v H1 s1 r1 => ?_) fun _ _ q => q⟩
    obtain ⟨q, hq, hQ⟩ := Out.ofO o1
    obtain ⟨fs, rfl, hf⟩ := eFld_out hq
    obtain ⟨a, dx, xs, rfl, ha, rf⟩ := (show RepI X.K (Am C fp) H1 (.ins c fs) v from r1)
    obtain ⟨y, hy, ry⟩ := rf.some hf
    exact ⟨a, _, dx, xs, y, rfl, ha, cl, na, hy, hQ y H1 s1 ry⟩
end
/-! fields at a path -/
def fldIdx (c f : String) : OT → Option Nat
  | .I d fs => if d = c then fs.findIdx? fun q => decide (q.1 = f) else none
  | _ => none
def pxFld (c f : String) (i : Nat) (px : Px) : Px := fun ρ => px ρ >>= fun π => ofO ((nodeOf i ρ π).bind fun n => (fldIdx c f n).map fun j => π ++ [j])
theorem fldIdx_I {c f : String} {n : OT} {j : Nat} (h : fldIdx c f n = some j) : ∃ fs, n = .I c fs ∧ fs.findIdx? (fun q => decide (q.1 = f)) = some j := by
  cases n with
  | I d fs =>
    by_cases e : d = c
    · subst e; exact ⟨fs, rfl, by simpa [fldIdx] using h⟩
    · simp [fldIdx, e] at h
  | _ => cases h
theorem OTRepF.val {K : PySem.W.Frag} {A : Addr → Prop} {H : Hp} (f : String) : ∀ {fs : List (String × OT)} {xs : List (Str × V)} {F : List Addr} {j : Nat}, OTRepF K A H fs xs F → fs.findIdx? (fun q => decide (q.1 = f)) = some j →
    ∃ v, xs.lookup (f : Str) = some v ∧ xs[j]? = some ((f : Str), v)
  | [], _, _, _, h, e => by cases e
  | (g, t) :: fs, _, _, j, h, e => by
    obtain ⟨x, r, F1, F2, rfl, rfl, h1, h2⟩ := h
    rw [List.findIdx?_cons] at e
    by_cases hk : g = f
    · subst hk
      simp at e
      subst e
      exact ⟨x, by rw [List.lookup]; simp, rfl⟩
    · simp only [hk, decide_false, Bool.false_eq_true, if_false] at e
      obtain ⟨j', e', rfl⟩ := Option.map_eq_some_iff.mp e
      obtain ⟨v, hv, hj⟩ := OTRepF.val f h2 e'
      have e2 : ((f : Str) == (g : Str)) = false := by rw [ofS_beq]; exact decide_eq_false fun z => hk z.symm
      exact ⟨v, by rw [List.lookup, e2]; exact hv, by simpa using hj⟩
section
variable {X : Cx} {C : Addr → Prop} {W : WX} {e : Expr} {pos p2 : Pos} {m : Mode} {f1 : E} {px : Px} {fo : O}
theorem pxj_fld {i : Nat} {c f : String} (cl : Cls X.K (He.ga X.K (c : Str))) (na : NoAttr X.K (He.ga X.K (c : Str)) (f : Str)) (h1 : PxJ X C W i e px) (hb : attributeBase e (f : Str) X.env (eval e X.env) = eval e X.env := by rfl) : PxJ X C W i (.Attribute e (f : Str) pos) (pxFld c f i px) where
  run := pe_weak (pe_fld h1.run hb) fun σ H Q ⟨ρ, fp, eo, o⟩ => by
    refine ⟨ρ, fp, eo, (Out.bind o).and.mono (fun π ⟨e1, o1⟩ v u H1 s1 hv hu' => ?_) fun _ _ q => q⟩
    obtain ⟨z, hz, hQ⟩ := Out.ofO o1
    obtain ⟨n, hn, hz⟩ := Option.bind_eq_some_iff.mp hz
    obtain ⟨j, hj, rfl⟩ := Option.map_eq_some_iff.mp hz
    obtain ⟨fs, rfl, hf⟩ := fldIdx_I hj
    obtain ⟨Fn, r⟩ := (eo.same s1).nodeRep hn hv hu'
    obtain ⟨a, dx, xs, F', rfl, _, ha, rf⟩ := r
    obtain ⟨y, hy, hyj⟩ := rf.val f hf
    exact ⟨a, _, dx, xs, y, rfl, ha, cl, na, hy, hQ v y H1 s1 hv (hu'.snoc (.inr (.inr ⟨_, dx, xs, _, ha, hyj⟩)))⟩
  wf := fun ρ π h => by
    obtain ⟨π', e1, h⟩ := bind_ok_inv h
    obtain ⟨n, hn⟩ := h1.wf ρ π' e1
    rw [hn] at h
    have h : ofO ((fldIdx c f n).map fun j => π' ++ [j]) = .ok π := h
    cases ej : fldIdx c f n with
    | none => rw [ej] at h; cases h
    | some j =>
      rw [ej] at h
      cases h
      obtain ⟨fs, rfl, hf⟩ := fldIdx_I ej
      obtain ⟨hj, _⟩ := List.findIdx?_eq_some_iff_getElem.mp hf
      obtain ⟨t, ht, hat⟩ := node_own hn
      refine ⟨fs[j].2.core, ?_⟩
      unfold nodeOf
      rw [ht]
      exact at_snoc hat (by show (fs.map Prod.snd)[j]? = _; rw [List.getElem?_map, List.getElem?_eq_getElem hj]; rfl)
end
/-! a field is set -/
def putFO (f : String) (c : OT) : List (String × OT) → List (String × OT)
  | [] => [(f, c)]
  | (g, t) :: r => if g = f then (g, c) :: r else (g, t) :: putFO f c r
def setF (c f : String) (n : OT) : OT → Option OT
  | .I d fs => if d = c ∧ fs.length < 1000 then some (.I d (putFO f n fs)) else none
  | _ => none
theorem setF_I {c f : String} {n t n' : OT} (h : setF c f n t = some n') : ∃ fs, t = .I c fs ∧ fs.length < 1000 ∧ n' = .I c (putFO f n fs) := by
  cases t with
  | I d fs =>
    have h2 : (if d = c ∧ fs.length < 1000 then some (.I d (putFO f n fs)) else none) = some n' := h
    clear h
    split at h2
    · rename_i hc
      exact ⟨fs, by rw [hc.1], hc.2, by rw [← hc.1]; exact (Option.some.inj h2).symm⟩
    · exact nomatch h2
  | _ => cases h
def sFldO (i : Nat) (px : Px) (c f : String) (fo : O) : S := fun ρ => withR (fo ρ) ρ fun t => withR (px ρ) ρ fun π => putT i ρ π ((nodeOf i ρ π).bind (setF c f t))
section
variable {K : PySem.W.Frag} {C A : Addr → Prop} {ρ : Env} {σ : L2.St} {H H1 H' : Hp} {fp : Fp}
theorem OTRepF.len : ∀ {fs : List (String × OT)} {xs : List (Str × V)} {F : List Addr}, OTRepF K A H fs xs F → xs.length = fs.length
  | [], _, _, h => by rw [h.1]; rfl
  | (j, t) :: kvs, _, _, h => by
    obtain ⟨x, r, F1, F2, rfl, rfl, h1, h2⟩ := h
    simp [OTRepF.len h2]
theorem OTRepF.put {c : OT} {w : V} {Fc : List Addr} (f : String) (nc : Fc.Nodup) : ∀ {fs : List (String × OT)} {xs : List (Str × V)} {F : List Addr}, OTRepF K A H fs xs F →
    ∃ F', (∀ a ∈ F', a ∈ F ∨ a ∈ Fc) ∧ (F.Nodup → (∀ a ∈ Fc, a ∉ F) → F'.Nodup) ∧ ∀ (B : Addr → Prop) H', Carry A B H H' → (∀ a ∈ F, ∀ o, H a = some o → H' a = some o) → OTRep K B H' c w Fc → OTRepF K B H' (putFO f c fs) (L2.putF (f : Str) w xs) F'
  | [], xs, F, h => by
    obtain ⟨rfl, rfl⟩ := h
    exact ⟨Fc, fun a ha => .inr ha, fun _ _ => nc, fun B H' cc kp rc => ⟨w, [], Fc, [], rfl, by simp, rc, rfl, rfl⟩⟩
  | (g, t) :: fs, xs, F, h => by
    obtain ⟨x, r, F1, F2, rfl, rfl, h1, h2⟩ := h
    by_cases e : g = f
    · subst e
      refine ⟨Fc ++ F2, fun a ha => ?_, fun nF dis => ?_, fun B H' cc kp rc => ?_⟩
      · rcases List.mem_append.mp ha with q | q
        · exact .inr q
        · exact .inl (by simp [q])
      · have := List.nodup_append.mp nF
        exact List.nodup_append.mpr ⟨nc, this.2.1, fun a ha b hb z => dis a ha (by rw [z]; simp [hb])⟩
      · rw [putFO, if_pos rfl, L2.putF, if_pos rfl]
        exact ⟨w, r, Fc, F2, rfl, rfl, rc, OTRepF.carry cc (fun a ha => kp a (by simp [ha])) h2⟩
    · obtain ⟨F', s', n', r'⟩ := OTRepF.put (c := c) (w := w) f nc h2
      refine ⟨F1 ++ F', fun a ha => ?_, fun nF dis => ?_, fun B H' cc kp rc => ?_⟩
      · rcases List.mem_append.mp ha with q | q
        · exact .inl (by simp [q])
        · exact (s' a q).imp (fun z => by simp [z]) id
      · have := List.nodup_append.mp nF
        refine List.nodup_append.mpr ⟨this.1, n' this.2.1 fun a ha z => dis a ha (by simp [z]), fun a ha b hb z => ?_⟩
        rcases s' b hb with q | q
        · exact this.2.2 a ha b q z
        · exact dis b q (by rw [← z]; simp [ha])
      · rw [putFO, if_neg e, L2.putF, if_neg (fun z => e (ofS_inj z))]
        exact ⟨x, _, F1, F', rfl, rfl, OTRep.carry cc (fun a ha => kp a (by simp [ha])) h1, r' B H' cc (fun a ha => kp a (by simp [ha])) rc⟩
/-- c, made since H, is put into a field -/
theorem EnvOk.wrFO {i : Nat} {c : OT} {k f : String} {fs : List (String × OT)} {π : List Nat} {v w : V} {a : Addr} {Fc : List Addr} (e : EnvOk K C ρ σ H fp) (s1 : Same H H1) (hn : nodeOf i ρ π = some (.I k fs)) (hv : σ[i]? = some (some v)) (hu : subV H v π (.ref a)) (nc : Fc.Nodup) (fc : ∀ b ∈ Fc, H b = none)
    (rc : OTRep K (fun b => Am C fp b ∧ b ∉ Fc) H1 c w Fc) : ∃ dx xs ρ' fp', xs.length = fs.length ∧ H1 a = some (.ins (He.ga K (k : Str)) dx xs) ∧ putT i ρ π (some (.I k (putFO f c fs))) = .nx ρ' ∧
      EnvOk K C ρ' σ (upd H1 a (.ins (He.ga K (k : Str)) dx (L2.putF (f : Str) w xs))) fp' ∧ Grow H fp (upd H1 a (.ins (He.ga K (k : Str)) dx (L2.putF (f : Str) w xs))) fp' := by
  obtain ⟨t, ht, hat⟩ := node_own hn
  obtain ⟨Fn0, r0⟩ := e.nodeRep hn hv hu
  obtain ⟨a', dx, xs, F0, ea, _, ha, rr0⟩ := r0
  cases ea
  obtain ⟨fp', e', g'⟩ := e.writeAt (H' := upd H1 a (.ins (He.ga K (k : Str)) dx (L2.putF (f : Str) w xs))) (n' := .I k (putFO f c fs)) ht hv hat hu (by intros; simp) fun Fn hr sub nd => by
    have hr' := hr
    obtain ⟨b, dx', zs, F', eb, rfl, hb, rr⟩ := hr
    cases eb
    rw [ha] at hb; cases hb
    have live : ∀ b ∈ a :: F', H b ≠ none := fun b hb z => by
      obtain ⟨o, ho, _⟩ := hr'.live b hb
      rw [z] at ho; cases ho
    have nd' := List.nodup_cons.mp nd
    have dis : ∀ b ∈ Fc, b ∉ F' := fun b hb z => live b (by simp [z]) (fc b hb)
    obtain ⟨F2, sub2, nod2, cl⟩ := OTRepF.put (c := c) (w := w) f nc rr
    refine ⟨fun b o hb q => by rw [upd_ne (fun z => hb (by simp [z]))]; exact s1 _ _ q, fun b hb => ?_, a :: F2, fun b hb => ?_, ?_, fun B hB nB cc => ⟨a, dx, _, F2, rfl, rfl, upd_same, cl B _ cc (fun b hb o q => ?_) (OTRep.carry ?_ (fun b hb o q => ?_) rc)⟩⟩
    · by_cases z : b = a
      · subst z; rw [upd_same]; simp
      · rw [upd_ne z]
        intro y
        cases q : H b with
        | none => exact hb q
        | some o => rw [s1 _ _ q] at y; cases y
    · rcases List.mem_cons.mp hb with q | q
      · exact .inl (by simp [q])
      · exact (sub2 b q).imp (fun z => by simp [z]) (fc b)
    · refine List.nodup_cons.mpr ⟨fun z => ?_, nod2 nd'.2 dis⟩
      rcases sub2 a z with q | q
      · exact nd'.1 q
      · exact live a (by simp) (fc a q)
    · rw [upd_ne (fun y => nd'.1 (by rw [← y]; exact hb))]; exact s1 _ _ q
    · refine Carry.mk' (fun b o q z => hB b q.1 fun m => ?_) (fun b o q z => by rw [upd_ne (fun y => q.1.2 ⟨i, sub b (by simp [y])⟩)]; exact z) (fun b zs z => by rw [upd_ne (fun y => by rw [y, s1 _ _ ha] at z; cases z)]; exact z) fun b o x z => by rw [upd_ne (fun y => by rw [y, s1 _ _ ha] at z; cases z)]; exact z
      rcases List.mem_cons.mp m with m | m
      · exact q.1.2 ⟨i, sub b (by simp [m])⟩
      · rcases sub2 b m with m | m
        · exact q.1.2 ⟨i, sub b (by simp [m])⟩
        · exact q.2 m
    · rw [upd_ne (fun y => live a (by simp) (by rw [← y]; exact fc b hb))]; exact q
  exact ⟨dx, xs, _, fp', rr0.len, s1 _ _ ha, putT_eq ht, e', g'⟩
end
section
variable {X : Cx} {C : Addr → Prop} {W : WX} {e o : Expr} {pos tpos p2 : Pos} {m : Mode} {f1 : E} {px : Px} {fo : O}
/-- path.f = e -/
theorem sj_fldO {i : Nat} {c f : String} (cl : Cls X.K (He.ga X.K (c : Str))) (na : NoAttr X.K (He.ga X.K (c : Str)) (f : Str)) (hp : PxJ X C W i o px) (he : OJ X C W e fo)
    (hs : swapsWith e (some (.Attribute o (f : Str) tpos)) pos.line X.env = pure false := by rfl) : SJ X C W (.Assign [.Attribute o (f : Str) tpos] e pos) (sFldO i px c f fo) :=
  ps_weak (ps_fld hp.run he hs) fun D σ H ⟨ρ, fp, eo, h⟩ => by
    refine ⟨ρ, fp, eo, (FlQ.ofR eo h).mono (fun t q w H1 Fc s1 nc fc rc => ?_) fun _ _ q => q⟩
    have eo1 := eo.same s1
    refine ⟨ρ, fp, eo1, (FlQ.ofR eo q).mono (fun π q2 v0 u H2 s2 hv hu => ?_) fun _ _ q => XQ.later s1 q⟩
    have q4 := q2
    cases hn : nodeOf i ρ π with
    | none => rw [hn] at q4; exact q4.elim
    | some n =>
      rw [hn] at q4
      simp only [Option.bind_some] at q4
      cases hF : setF c f t n with
      | none => rw [hF] at q4; exact q4.elim
      | some n' =>
        rw [hF] at q4
        obtain ⟨fs, rfl, hl, rfl⟩ := setF_I hF
        obtain ⟨tt, ht, hat⟩ := node_own hn
        obtain ⟨v', hv', r⟩ := eo.slot i _ ht
        rw [hv] at hv'; cases hv'
        obtain ⟨u', Fn, _, _, _, hs', hr, _⟩ := r.zip hat
        cases hu.det (hs'.same (s1.trans s2))
        obtain ⟨a, dx0, xs0, F', rfl, _, ha0, _⟩ := hr
        have rc' : OTRep X.K (fun b => Am C fp b ∧ b ∉ Fc) H2 t w Fc := rc.carry (Carry.same s2 fun _ q => q) fun b _ o z => s2 _ _ z
        obtain ⟨dx, ys, ρ', fp', hy, hb, e', eo', g'⟩ := eo.wrFO (f := f) (s1.trans s2) hn hv hs' nc fc rc'
        rw [e'] at q4
        exact ⟨a, _, dx, ys, rfl, hb, cl, na, by rw [hy]; exact hl, q4 _ _ _ eo' g'⟩
end
/-! ### methods -/
structure MethOk (P : Program) (w : World) (K : PySem.W.Frag) (mg : Str → Option Value) (base : Heap) (k : Nat) (c m : String) (ps : List Str) (ms : List Mode) (g : Fn) : Prop where
  ex : ∃ f fd, FnOk P w K mg base (L2.CX P w) k f fd ps (spG K ms g) ∧ Meth K (He.ga K (c : Str)) (m : Str) f ∧ Binds K fd ps []
def recvOk (c m : String) : PV → Bool
  | .ins d fs => decide (d = c) && (fldP m fs).isNone
  | _ => false
def oMeth (c m : String) (g : Fn) (f0 : E) (l : L) : O := fun ρ => f0 ρ >>= fun p => if recvOk c m p = true then l ρ >>= fun ps => g (p :: ps) else .bad
section
variable {X : Cx} {C : Addr → Prop} {W : WX} {e o : Expr} {es : List Expr} {pos apos p2 : Pos} {m0 : Mode} {f0 : E} {l : L} {k j : Nat} {c m : String} {ps : List Str} {ms : List Mode} {g : Fn}
theorem sp_of {K : PySem.W.Frag} {ρ : Env} {fp : Fp} {σ : L2.St} {H H1 : Hp} {qs : List PV} {vs : List V} {Q : VK} (eo : EnvOk K C ρ σ H fp) (hI : noI ms = true) (r : RepMs K C fp H1 ms qs vs) (s1 : Same H H1)
    (o1 : Out (g qs) (fun t => ∀ v H' Fn, Same H H' → Fn.Nodup → (∀ a ∈ Fn, H a = none) → OTRep K (fun a => Am C fp a ∧ a ∉ Fn) H' t v Fn → Q v H') (XQ K W σ H)) : spG K ms g vs H1 Q (WE W σ) := by
  refine ⟨Am C fp, qs, RepMs.args (noI_ok hI) r, o1.mono (fun t q v H' Fn s n hf r => ?_) fun c fs q H' s => ?_⟩
  · have kk : KO K (Am C fp) H1 t Q := KO.later q s1
    exact kk v H' Fn s n hf (r.carry (Carry.refl fun a _ z _ => ⟨z.1.elim id fun y => (eo.same s1).am_new y, z.2⟩) fun _ _ _ z => z)
  · have := q H' (s1.trans s)
    cases fs with
    | none => exact this
    | some fs => exact this
theorem recv_at {K : PySem.W.Frag} {fp : Fp} {H : Hp} {p : PV} {v : V} (h : recvOk c m p = true) (r : RepM K C fp m0 H p v) : ∃ a dx fs, v = .ref a ∧ H a = some (.ins (He.ga K (c : Str)) dx fs) ∧ fs.lookup (m : Str) = none := by
  cases p with
  | ins d fs =>
    simp only [recvOk, Bool.and_eq_true, decide_eq_true_eq, Option.isNone_iff_eq_none] at h
    obtain ⟨rfl, hf⟩ := h
    obtain ⟨a, dx, xs, rfl, _, ha, rf⟩ := (show Rep K (fun _ => True) H (.ins d fs) v from RepM.toB r)
    exact ⟨a, dx, xs, rfl, ha, rf.none hf⟩
  | _ => cases h
/-- o.m() -/
theorem oj_meth0 {pl : Sem Bool} (D : MethOk X.prog X.w X.K X.mg X.base k c m ps [m0] g) (cl : Cls X.K (He.ga X.K (c : Str))) (hr : Room j X.A) (hk : k ≤ j) (tk : Takes X W) (ho : EJ X C W m0 o f0) (hI : noI [m0] = true := by rfl)
    (ht : eval (.Call (.Attribute o (m : Str) apos) [] [] pos) X.env = (do
      let ov ← eval o X.env; standAt apos.atName; let (f, first) ← holding [ov] (getMethod ov (m : Str) pl); callWith pos f first (backTo pos (starEach [] X.env)) (backToKw pos (keywordEach [] X.env))) := by rfl) :
    OJ X C W (.Call (.Attribute o (m : Str) apos) [] [] pos) (oMeth c m g f0 lNil) := by
  obtain ⟨f, fd, F, hm, b⟩ := D.ex
  refine ⟨fun pins s σ H Q I h => ?_⟩
  obtain ⟨ρ, fp, eo, o1⟩ := h
  refine methcall_of (te := tE X.K C W m0 f0) ho I ⟨ρ, fp, eo, ?_⟩ ht
  refine (Out.bind o1).mono (fun p o2 v H1 s1 r1 => ?_) fun _ _ q => q
  split at o2
  · rename_i hrv
    obtain ⟨a, dx, fs, rfl, ha, hf⟩ := recv_at hrv r1
    exact ⟨a, _, dx, fs, f, rfl, ha, cl, hm, hf, fun s1' I1 => PySem.W.callWith_K0 (first := [.ref a]) I1.kIn hm.kp (run_fnS (us := [.ref a]) (vs := [.ref a]) F (hr.mono hk) b (passAt tk σ) I1 (.cons rfl .nil) (sp_of (qs := [p]) eo hI ⟨r1, trivial⟩ s1 o2))⟩
  · exact o2.elim
/-- o.m(e, ..) -/
theorem oj_meth {pl : Sem Bool} (D : MethOk X.prog X.w X.K X.mg X.base k c m ps (m0 :: ms) g) (cl : Cls X.K (He.ga X.K (c : Str))) (hr : Room j X.A) (hk : k ≤ j) (tk : Takes X W) (ho : EJ X C W m0 o f0) (ha : LJ' X C W ms (e :: es) l) (hI : noI (m0 :: ms) = true := by rfl)
    (hst : starEach (e :: es) X.env = (false, eval e X.env) :: starEach es X.env := by rfl) (hpl : (backTo pos (starEach es X.env)).any (·.1) = false := by rfl)
    (ht : eval (.Call (.Attribute o (m : Str) apos) (e :: es) [] pos) X.env = (do
      let ov ← eval o X.env; standAt apos.atName; let (f, first) ← holding [ov] (getMethod ov (m : Str) pl); callWith pos f first (backTo pos (starEach (e :: es) X.env)) (backToKw pos (keywordEach [] X.env))) := by rfl) :
    OJ X C W (.Call (.Attribute o (m : Str) apos) (e :: es) [] pos) (oMeth c m g f0 l) := by
  obtain ⟨f, fd, F, hm, b⟩ := D.ex
  refine ⟨fun pins s σ H Q I h => ?_⟩
  obtain ⟨ρ, fp, eo, o1⟩ := h
  refine methcall_of (te := tE X.K C W m0 f0) ho I ⟨ρ, fp, eo, ?_⟩ ht
  refine (Out.bind o1).mono (fun p o2 v H1 s1 r1 => ?_) fun _ _ q => q
  split at o2
  · rename_i hrv
    obtain ⟨a, dx, fs, rfl, ha', hf⟩ := recv_at hrv r1
    refine ⟨a, _, dx, fs, f, rfl, ha', cl, hm, hf, fun s1' I1 => ?_⟩
    refine PySem.W.callWith_K (first := [.ref a]) (h₀ := X.base) I.ok.mod.kin hm.kp (thn (ha.run pos pins s1' σ H1 (fun vs H2 => spG X.K (m0 :: ms) g (.ref a :: vs) H2 Q (WE W σ)) I1 ⟨ρ, fp, eo.same s1, ?_⟩) fun us s2 ⟨vs, H2, I2, r, q2⟩ => ⟨I2.kIn, ?_⟩) hst hpl
    · exact (Out.bind o2).mono (fun qs o3 vs H2 s2 r2 => sp_of (qs := p :: qs) eo hI ⟨r1.same s2, r2⟩ (s1.trans s2) o3) fun _ _ q => XQ.later s1 q
    · exact run_fnS (us := .ref a :: us) (vs := .ref a :: vs) F (hr.mono hk) b (passAt tk σ) I2 (.cons rfl r) q2
  · exact o2.elim
end
/-! ### how an instance is made -/
structure InitOk (P : Program) (w : World) (K : PySem.W.Frag) (mg : Str → Option Value) (base : Heap) (k : Nat) (c : String) (ps : List Str) (fl : List Bool) (g : FnM) : Prop where
  ex : ∃ f fd, FnOk P w K mg base (L2.CX P w) k f fd ps (spM K (true :: fl) g) ∧ Mk K (He.ga K (c : Str)) f ∧ mg (c : Str) = some (.ref (He.ga K (c : Str))) ∧ Binds K fd ps []
def mkR : ResM → Res OT
  | .ok (.fz .non) [t] => .ok t
  | .exc c fs _ => .exc c fs
  | _ => .bad
noncomputable def oMake (c : String) (g : FnM) (l : L) : O := fun ρ => l ρ >>= fun ps => mkR (anyA 1 g (.I c [] :: ps.map .fz))
section
variable {X : Cx} {C : Addr → Prop} {W : WX} {e o : Expr} {es : List Expr} {pos apos p2 : Pos} {l : L} {k j : Nat} {c : String} {ps : List Str} {ms : List Mode} {fl : List Bool} {g : FnM}
theorem run_makeS {pins : List (Addr × Obj)} {σ : L2.St} {H : Hp} {s : Shared} {Q : VK} {us : List Value} {vs : List V} {f A0 : Addr} {fd : FuncData} {sp : Sp} {E : XK} {CX : CXT} (M : Mk X.K A0 f) (F : FnOk X.prog X.w X.K X.mg X.base CX k f fd ps sp) (hr : Room (k + 1) X.A) (hb : Binds X.K fd ps [])
    (hx : PassesAt CX X σ E) (I : Inv X pins σ H s) (r : Vals vs us) (h : ∀ x dx, H x = none → H dx = none → dx ≠ x → sp (.ref x :: vs) (upd (upd H dx (.own x)) x (.ins A0 dx [])) (fun v H2 => v = .non ∧ Q (.ref x) H2) E) :
    wpAny (model X.prog X.w) X.A (call (.ref A0) us) (EP X pins σ Q) X.xe s := by
  have hq := h (s.heap.objs.size + 1) s.heap.objs.size (I.hok.fresh (Nat.le_succ _)) (I.hok.fresh (Nat.le_refl _)) (Nat.ne_of_lt (Nat.lt_succ_self _))
  have J := Inv.made (C := A0) I
  have rr : Vals (V.ref (s.heap.objs.size + 1) :: vs) (Value.ref (s.heap.objs.size + 1) :: us) := .cons rfl r
  have hl : (Value.ref (s.heap.objs.size + 1) :: us).length = ps.length := by rw [← rr.length]; exact F.len _ _ _ _ hq
  have bb := hb _ (Value.ref (s.heap.objs.size + 1) :: us) J.kIn (by rw [List.append_nil]; exact hl)
  rw [List.append_nil] at bb
  refine wpAny_call (make_map (f := f) I.kIn M.makes M.init (beq_iff_eq.mp M.fn) (codeAny_mono (F.run _ X.stack _ _ ⟨Value.ref (s.heap.objs.size + 1) :: us, []⟩ _ _ _ E (hr.make A0 us []) (J.env0.make A0 us []) bb rr hq) fun r s' z => ?_))
  rcases r with e | fl
  · exact hx pins _ _ e s' J z
  · cases fl with
    | ret u => obtain ⟨v, H', J', rv, ev, q3⟩ := J.after z; subst ev; exact ⟨rv, ⟨V.ref (s.heap.objs.size + 1), H', J', rfl, q3⟩⟩
    | next => exact False.elim z
    | brk => exact False.elim z
    | cont => exact False.elim z
theorem repArgs_E {K : PySem.W.Frag} {fp : Fp} {A : Addr → Prop} {H H2 : Hp} (hc : Carry (Am C fp) A H H2) : ∀ {n : Nat} {qs : List PV} {vs : List V}, RepMs K C fp H (List.replicate n .E) qs vs → RepArgsM K A H2 (List.replicate n false) [] (qs.map .fz) vs (List.replicate n [])
  | 0, [], [], _ => trivial
  | n + 1, p :: qs, v :: vs, h => ⟨rfl, ⟨p, rfl, Rep.carry hc h.1⟩, repArgs_E hc h.2⟩
theorem make_read {n : Nat} {σ : L2.St} {H : Hp} {Q : VK} (h : tO X.K C W (oMake c g l) σ H Q) :
    tL X.K C W (List.replicate n .E) l σ H fun vs H1 => ∀ x dx, H1 x = none → H1 dx = none → dx ≠ x →
      spM X.K (true :: List.replicate n false) g (.ref x :: vs) (upd (upd H1 dx (.own x)) x (.ins (He.ga X.K (c : Str)) dx [])) (fun v H2 => v = .non ∧ Q (.ref x) H2) (WE W σ) := by
  obtain ⟨ρ, fp, eo, o⟩ := h
  refine ⟨ρ, fp, eo, (Out.bind o).mono (fun qs o1 vs H1 s1 r1 x dx hx hdx ne => ?_) fun _ _ q => q⟩
  have eo1 := eo.same s1
  have none0 : ∀ a, H1 a = none → H a = none := fun a z => by
    cases y : H a with
    | none => rfl
    | some o => rw [s1 _ _ y] at z; cases z
  have keep2 : ∀ a o, H1 a = some o → upd (upd H1 dx (.own x)) x (.ins (He.ga X.K (c : Str)) dx []) a = some o := fun a o z => by
    rw [upd_ne (fun y => by rw [y, hx] at z; cases z), upd_ne (fun y => by rw [y, hdx] at z; cases z)]; exact z
  have cc : Carry (Am C fp) (fun a => Am C fp a ∧ a ≠ x) H1 (upd (upd H1 dx (.own x)) x (.ins (He.ga X.K (c : Str)) dx [])) :=
    Carry.mk' (fun a o q z => ⟨q, fun y => by rw [y, hx] at z; cases z⟩) (fun a o _ z => keep2 a o z) (fun a xs z => keep2 a _ z) fun a o u z => keep2 a _ z
  have fl0 : ((([x] : List Addr) :: List.replicate n []).flatten) = [x] := by
    rw [List.flatten_cons]
    have : (List.replicate n ([] : List Addr)).flatten = [] := by simp
    rw [this]; rfl
  refine ⟨fun a => Am C fp a ∧ a ≠ x, [x], .I c [] :: qs.map .fz, [x] :: List.replicate n [], ⟨rfl, ⟨x, dx, [], [], rfl, rfl, upd_same, rfl, rfl⟩, repArgs_E cc r1⟩, by rw [fl0]; simp, fun a ha q => by rw [fl0] at ha; exact q.2 (List.mem_singleton.mp ha), ?_⟩
  rw [fl0]
  have gone : ∀ a, upd (upd H1 dx (.own x)) x (.ins (He.ga X.K (c : Str)) dx []) a = none → H1 a = none := fun a z => by
    cases y : H1 a with
    | none => rfl
    | some o => rw [keep2 _ _ y] at z; cases z
  rcases anyA_spec (m := 1) (g := g) (ts := .I c [] :: qs.map .fz) (as := [x]) rfl with hb | hg
  · rw [hb] at o1; exact o1.elim
  · rw [hg]
    cases er : anyA 1 g (.I c [] :: qs.map .fz) with
    | bad => rw [er] at o1; exact o1.elim
    | exc cl fs ts =>
      rw [er] at o1
      intro H' F' kp rts
      have sm : Same H H' := fun a o z => kp.keep a o (fun y => by rw [List.mem_singleton.mp y] at z; rw [s1 _ _ z] at hx; cases hx) (keep2 _ _ (s1 _ _ z))
      have := o1 H' sm
      cases fs with
      | none => exact this
      | some fs => exact this
    | ok oo ts =>
      rw [er] at o1
      cases oo with
      | fz p =>
        cases p with
        | non =>
          cases ts with
          | nil => exact o1.elim
          | cons t ts =>
            cases ts with
            | cons _ _ => exact o1.elim
            | nil =>
              intro v H' Fn F' kp ro rts
              obtain ⟨rfl, rv⟩ := ro
              refine ⟨rv, ?_⟩
              obtain ⟨y, r', F1, F2, ey, rfl, rt, er2⟩ := rts
              simp only [List.map_cons, List.map_nil, List.cons.injEq] at ey
              obtain ⟨rfl, rfl⟩ := ey
              obtain ⟨_, rfl⟩ := er2
              have sm : Same H H' := fun a o z => kp.keep a o (fun y => by rw [List.mem_singleton.mp y] at z; rw [s1 _ _ z] at hx; cases hx) (keep2 _ _ (s1 _ _ z))
              refine o1 (.ref x) H' F1 sm (by have := kp.nod; simpa using this) (fun a ha => ?_) (rt.carry (Carry.refl fun a _ q _ => ⟨?_, fun z => q.2 (by simp [z])⟩) fun _ _ _ q => q)
              · rcases kp.sub a (by simp [ha]) with y | y
                · rw [List.mem_singleton.mp y]; exact none0 x hx
                · exact none0 a (gone a y)
              · rcases q.1 with y | y | y
                · exact y.1
                · rw [List.mem_singleton.mp y]; exact eo1.am_new hx
                · exact eo1.am_new (gone a y)
        | _ => exact o1.elim
      | _ => exact o1.elim
/-- C(e, ..) -/
theorem oj_make {n : Nat} (D : InitOk X.prog X.w X.K X.mg X.base k c ps (List.replicate n false) g) (hr : Room j X.A) (hk : k + 1 ≤ j) (tk : Takes X W) (hg : Gl X (c : Str)) (ha : LJ' X C W (List.replicate n .E) (e :: es) l) (hdb : ((c : Str) == ("__debug__" : Str)) = false := by decide)
    (he : starEach (e :: es) X.env = (false, eval e X.env) :: starEach es X.env := by rfl) (hpl : (backTo pos (starEach es X.env)).any (·.1) = false := by rfl) : OJ X C W (.Call (.Name (c : Str) p2) (e :: es) [] pos) (oMake c g l) := by
  obtain ⟨f, fd, F, M, hm, b⟩ := D.ex
  refine ⟨fun pins s σ H Q I h => ?_⟩
  refine wpAny_Call_Name_kw (ld_glob I hg hm ?_ hdb)
  refine PySem.W.callWith_K (h₀ := X.base) I.ok.mod.kin M.kp (thn (ha.run pos pins s σ H _ I (make_read h)) fun us s1 ⟨vs, H1, I1, r, q⟩ => ⟨I1.kIn, ?_⟩) he hpl
  exact run_makeS M F (hr.mono hk) b (passAt tk σ) I1 r q
theorem oj_make0 (D : InitOk X.prog X.w X.K X.mg X.base k c ps [] g) (hr : Room j X.A) (hk : k + 1 ≤ j) (tk : Takes X W) (hg : Gl X (c : Str)) (hdb : ((c : Str) == ("__debug__" : Str)) = false := by decide) : OJ X C W (.Call (.Name (c : Str) p2) [] [] pos) (oMake c g lNil) := by
  obtain ⟨f, fd, F, M, hm, b⟩ := D.ex
  refine ⟨fun pins s σ H Q I h => ?_⟩
  refine wpAny_Call_Name_kw (ld_glob I hg hm ?_ hdb)
  obtain ⟨ρ, fp, eo, o⟩ := make_read (n := 0) h
  exact PySem.W.callWith_K0 I.kIn M.kp (run_makeS (us := []) M F (hr.mono hk) b (passAt tk σ) I .nil (o [] H (Same.refl H) trivial))
end
end Fz
end
section
/-! Fyo: reversed; instances in the plain proofs. -/
namespace Fz
open PySem PySem.Spec PyProof.Rows L2
theorem iter_rev {K : PySem.W.Frag} {A : Addr → Prop} {H0 : Hp} {rel : Hp → Prop} {a : Addr} {ps : List PV} {xs : List V} (r : Reps K A H0 ps xs) (h : ∀ H, rel H → SqL K H a xs) : IterOk K A H0 rel (Itv K a xs.length) ps.reverse := fun H B hr c i => by
  have h1 := h H hr
  have h2 := Reps.carry c r
  have hl := h2.length
  refine ⟨fun p hp => ?_, fun hi => ?_⟩
  · have hi : i < ps.length := by have := (List.getElem?_eq_some_iff.mp hp).1; simpa using this
    rw [List.getElem?_reverse hi] at hp
    obtain ⟨v, hv, r⟩ := h2.get hp
    rw [← hl] at hv
    refine ⟨⟨by omega, xs, v, h1, hv⟩, fun x H' ⟨e1, e2⟩ => ?_⟩
    have := e2 xs h1
    rw [hv] at this; cases this
    subst e1
    exact ⟨Same.refl _, r⟩
  · show xs.length ≤ i
    rw [hl]; simpa using hi
theorem iter_revT {K : PySem.W.Frag} {A : Addr → Prop} {H0 : Hp} {rel : Hp → Prop} {a : Addr} {ps : List PV} {xs : List V} (r : Reps K A H0 ps xs) (h : ∀ H, rel H → SqT K H a xs) : IterOk K A H0 rel (RT.ItvT K a xs.length) ps.reverse := fun H B hr c i => by
  have h1 := h H hr
  have h2 := Reps.carry c r
  have hl := h2.length
  refine ⟨fun p hp => ?_, fun hi => ?_⟩
  · have hi : i < ps.length := by have := (List.getElem?_eq_some_iff.mp hp).1; simpa using this
    rw [List.getElem?_reverse hi] at hp
    obtain ⟨v, hv, r⟩ := h2.get hp
    rw [← hl] at hv
    refine ⟨⟨by omega, xs, v, h1, hv⟩, fun x H' ⟨e1, e2⟩ => ?_⟩
    have := e2 xs h1
    rw [hv] at this; cases this
    subst e1
    exact ⟨Same.refl _, r⟩
  · show xs.length ≤ i
    rw [hl]; simpa using hi
def lRev (f : E) : L := fun ρ => f ρ >>= fun p => itemsOf p >>= fun ps => .ok ps.reverse
section
variable {X : Cx} {C : Addr → Prop} {W : WX} {e e1 e2 tg iter : Expr} {pos p2 pn tpos : Pos} {m : Mode} {f : E}
theorem rev_read {σ : L2.St} {H : Hp} {R : It → Hp → Prop} {rel : Hp → Fp → Hp → Prop} (hst : ∀ (fp : Fp) H' p v ps, RepM X.K C fp m H' p v → itemsOf p = .ok ps → Stands X.K (Am C fp) H' (rel H' fp) p v ps) (hrf : ∀ H fp, rel H fp H)
    (h : tI X.K C W rel (lRev f) σ H R) : RT.iRevA X.K (tE X.K C W m f) σ H R := by
  obtain ⟨ρ, fp, eo, o⟩ := h
  refine ⟨ρ, fp, eo, (Out.bind o).mono (fun p o1 v H1 s1 r1 => ?_) fun _ _ q => q⟩
  obtain ⟨ps, hp, o2⟩ := itemsOf_out (Out.bind o1)
  obtain ⟨a, xs, rfl, rr, h1, h2⟩ := hst fp H1 p v ps r1 hp
  refine ⟨a, xs, rfl, ?_⟩
  cases t0 : isTupP p with
  | false => exact .inl ⟨h1 t0 H1 (hrf _ _), o2 _ H1 s1 (iter_rev rr (h1 t0))⟩
  | true => exact .inr ⟨h2 t0 H1 (hrf _ _), o2 _ H1 s1 (iter_revT rr (h2 t0))⟩
theorem ij_rev (hg : Gl X "reversed") (hm : X.mg "reversed" = none) (h : EJ X C W .E e f) (hs : starEach [e] X.env = (false, eval e X.env) :: starEach [] X.env := by rfl) : IJ X C W relG tg (.Call (.Name "reversed" pn) [e] [] pos) (lRev f) :=
  pi_weak (RT.pi_revA hg hm h hs) fun σ H R q => rev_read (m := .E) (fun fp H' p v ps r hp => seq_stands r hp) (fun _ _ => relG.refl) q
theorem ij_revS (hg : Gl X "reversed") (hm : X.mg "reversed" = none) (h : EJ X C W .I e f) (hs : starEach [e] X.env = (false, eval e X.env) :: starEach [] X.env := by rfl) : IJ X C W relS tg (.Call (.Name "reversed" pn) [e] [] pos) (lRev f) :=
  pi_weak (RT.pi_revA hg hm h hs) fun σ H R q => rev_read (m := .I) (fun fp H' p v ps r hp => seq_standsS r hp) (fun H fp => Same.refl H) q
end
@[simp] theorem m_lRev (f : E) (ρ : Env) : lRev f ρ = f ρ >>= fun p => itemsOf p >>= fun ps => .ok ps.reverse := (rfl)
@[simp] theorem itO_lst (ps : List PV) : itemsOf (.lst ps) = .ok ps := (rfl)
@[simp] theorem itO_tup (ps : List PV) : itemsOf (.tup ps) = .ok ps := (rfl)
section
variable (ρ : Env) (c f m : String) (e : E) (fo : O) (px : Px) (i : Nat) (l : L)
@[simp] theorem m_eFld : eFld c f e ρ = e ρ >>= fun p => ofO (if insC c p = true then insF f p else none) := (rfl)
@[simp] theorem insC_ins (d : String) (fs : List (String × PV)) : insC c (.ins d fs) = decide (d = c) := (rfl)
@[simp] theorem insF_ins (d : String) (fs : List (String × PV)) : insF f (.ins d fs) = fldP f fs := (rfl)
@[simp] theorem fldP_nil : fldP f [] = none := (rfl)
@[simp] theorem fldP_cons (g : String) (p : PV) (r : List (String × PV)) : fldP f ((g, p) :: r) = if g = f then some p else fldP f r := (rfl)
@[simp] theorem m_pxFld : pxFld c f i px ρ = px ρ >>= fun π => ofO ((nodeOf i ρ π).bind fun n => (fldIdx c f n).map fun j => π ++ [j]) := (rfl)
@[simp] theorem fldIdx_Is (d : String) (fs : List (String × OT)) : fldIdx c f (.I d fs) = if d = c then fs.findIdx? (fun q => decide (q.1 = f)) else none := (rfl)
@[simp] theorem m_sFldO : sFldO i px c f fo ρ = withR (fo ρ) ρ fun t => withR (px ρ) ρ fun π => putT i ρ π ((nodeOf i ρ π).bind (setF c f t)) := (rfl)
@[simp] theorem setF_Is (d : String) (n : OT) (fs : List (String × OT)) : setF c f n (.I d fs) = if d = c ∧ fs.length < 1000 then some (.I d (putFO f n fs)) else none := (rfl)
@[simp] theorem putFO_nil (n : OT) : putFO f n [] = [(f, n)] := (rfl)
@[simp] theorem putFO_cons (n t : OT) (g : String) (r : List (String × OT)) : putFO f n ((g, t) :: r) = if g = f then (g, n) :: r else (g, t) :: putFO f n r := (rfl)
@[simp] theorem m_oMeth (g : Fn) : oMeth c m g e l ρ = e ρ >>= fun p => if recvOk c m p = true then l ρ >>= fun ps => g (p :: ps) else .bad := (rfl)
@[simp] theorem recvOk_ins (d : String) (fs : List (String × PV)) : recvOk c m (.ins d fs) = (decide (d = c) && (fldP m fs).isNone) := (rfl)
@[simp] theorem m_oMake (g : FnM) : oMake c g l ρ = l ρ >>= fun ps => mkR (anyA 1 g (.I c [] :: ps.map .fz)) := (rfl)
@[simp] theorem mkR_ok (t : OT) : mkR (.ok (.fz .non) [t]) = .ok t := (rfl)
@[simp] theorem mkR_exc (k : String) (fs : Option (List (String × PV))) (ts : List OT) : mkR (.exc k fs ts) = .exc k fs := (rfl)
@[simp] theorem kids_I (fs : List (String × OT)) : (OT.I c fs).kids = fs.map Prod.snd := (rfl)
@[simp] theorem setKid_I (fs : List (String × OT)) (n : OT) : (OT.I c fs).setKid i n = .I c (setSnd fs i n) := (rfl)
@[simp] theorem pv_I (fs : List (String × OT)) : (OT.I c fs).pv = .ins c (OT.pvF fs) := (rfl)
@[simp] theorem pvF_nil : OT.pvF [] = [] := (rfl)
@[simp] theorem pvF_cons (k : String) (t : OT) (ts : List (String × OT)) : OT.pvF ((k, t) :: ts) = (k, t.pv) :: OT.pvF ts := (rfl)
@[simp] theorem ts_I (fs : List (String × OT)) : toSlot (.I c fs) = .own (.I c fs) := (rfl)
end
end Fz
end
section
/-! Fyp: methods and __init__ by their bodies. -/
namespace Fz
open PySem PySem.Spec PyProof.Rows L2
section
variable {P : Program} {w : World} {K : PySem.W.Frag} {mg : Str → Option Value} {base : Heap}
theorem meth_ok {c m : String} {x qual : Str} {params : Arguments} {body : List Stmt} {scope : Scope} {f : Addr} {fd : FuncData} {N ps : List Str} {k : Nat} {ms : List Mode} {s : S} (F : FunD K x qual params body scope [] [] f fd) (Sc : FnScope N ps scope) (hm : ms.length = ps.length) (hN : ms.length ≤ N.length) (hg : Meth K (He.ga K (c : Str)) (m : Str) f)
    (hbd : ∀ (kV doc pm : Value) (an : Option Addr) (cdv ct : Value) (us : List Value), us.length = ps.length → bindArgs (PySem.W.fnOf x qual params body scope .none kV doc pm an cdv ct) ⟨us, []⟩ = pure (ps.zip us))
    (hb : ∀ (cdv : Value) (A : Around) (outer : List PySem.Env) (sh : Shared) (H : Hp) (E : XK) (C : Addr → Prop), Room k (XD P w K mg base N qual scope f cdv A outer sh H E).A → Takes (XD P w K mg base N qual scope f cdv A outer sh H E) (fun c d _ H => E c d H) →
      PassesOwn (model P w) (XD P w K mg base N qual scope f cdv A outer sh H E).A (XD P w K mg base N qual scope f cdv A outer sh H E).env (XD P w K mg base N qual scope f cdv A outer sh H E).xe → BJ (XD P w K mg base N qual scope f cdv A outer sh H E) C (fun c d _ H => E c d H) body s) :
    MethOk P w K mg base (k + 1) c m ps ms (runFn N.length ms s) := ⟨f, fd, fn_ok F Sc hm hN hb, hg, F.bindsN hbd⟩
theorem init_ok {c : String} {x qual : Str} {params : Arguments} {body : List Stmt} {scope : Scope} {f : Addr} {fd : FuncData} {N ps : List Str} {k : Nat} {fl : List Bool} {s : S} (F : FunD K x qual params body scope [] [] f fd) (Sc : FnScope N ps scope) (hm : (true :: fl).length = ps.length) (hN : (true :: fl).length ≤ N.length) (hg : Mk K (He.ga K (c : Str)) f) (hG : mg (c : Str) = some (.ref (He.ga K (c : Str))))
    (hbd : ∀ (kV doc pm : Value) (an : Option Addr) (cdv ct : Value) (us : List Value), us.length = ps.length → bindArgs (PySem.W.fnOf x qual params body scope .none kV doc pm an cdv ct) ⟨us, []⟩ = pure (ps.zip us))
    (hb : ∀ (cdv : Value) (A : Around) (outer : List PySem.Env) (sh : Shared) (H : Hp) (E : XK) (C : Addr → Prop), Room k (XD P w K mg base N qual scope f cdv A outer sh H E).A → Takes (XD P w K mg base N qual scope f cdv A outer sh H E) (fun c d _ H => E c d H) →
      PassesOwn (model P w) (XD P w K mg base N qual scope f cdv A outer sh H E).A (XD P w K mg base N qual scope f cdv A outer sh H E).env (XD P w K mg base N qual scope f cdv A outer sh H E).xe → BJ (XD P w K mg base N qual scope f cdv A outer sh H E) C (fun c d _ H => E c d H) body s) :
    InitOk P w K mg base (k + 1) c ps fl (runFnM N.length (true :: fl) s) := ⟨f, fd, fnM_ok F Sc hm hN hb, hg, hG, F.bindsN hbd⟩
end
end Fz
end
section
/-! Fyq: sorted of data of any length; sorted by a def of the text. -/
namespace Fz
open PySem PySem.Spec PyProof.Rows L2
/-! ### plain -/
abbrev PVV := PV × V
def encB (b : PVV) : PyData := toD b.1
def pvLe (a b : PV) : Bool := !pvLt b a
theorem le_enc : PySem.W.dataLe false encB = fun a b => pvLe a.1 b.1 := rfl
def isTup1 : PV → Bool
  | .tup (_ :: _) => true
  | _ => false
def sortOk (ps : List PV) : Bool := ps.all (fun p => eqOk p && notNo p) && (ps.all fun p => ps.all fun q => likeP p q) && (ps.all isTup1 || ps.all fun p => !isTupP p)
def gSortD : PV → Option OT
  | .lst ps => if sortOk ps = true then some (.l (ps.mergeSort pvLe)) else none
  | _ => none
structure SortB (K : PySem.W.Frag) (H : Hp) (bs : List PVV) : Prop where
  dp : ∀ b ∈ bs, Dp K H b.2 (toD b.1)
  al : PySem.W.AllAlike (bs.map encB)
  so : PySem.W.Sortable (bs.map encB)
  de : ∀ b ∈ bs, (encB b).depth ≤ 70
def rSortD (K : PySem.W.Frag) : List V → Hp → VK → Prop := fun xs H Q => ∃ (a : Addr) (bs : List PVV), xs = [.ref a] ∧ SqL K H a (bs.map Prod.snd) ∧ SortB K H bs ∧
  ∀ p, H p = none → Q (.ref p) (upd H p (.lst ((bs.mergeSort fun a b => pvLe a.1 b.1).map Prod.snd)))
theorem each_vals {bs : List PVV} : ∀ {us : List Value}, Vals (bs.map Prod.snd) us → PySem.W.EachIs (fun u (b : PVV) => RelV b.2 u) us bs := by
  induction bs with
  | nil => intro us r; cases r; exact .nil
  | cons b bs ih => intro us r; cases r with
    | cons r1 r2 => exact .cons r1 (ih r2)
theorem vals_each : ∀ {us : List Value} {bs : List PVV}, PySem.W.EachIs (fun u (b : PVV) => RelV b.2 u) us bs → Vals (bs.map Prod.snd) us
  | _, _, .nil => .nil
  | _, _, .cons h t => .cons h (vals_each t)
theorem each_and {α β : Type} {R S : α → β → Prop} : ∀ {as : List α} {bs : List β}, PySem.W.EachIs R as bs → (∀ a b, b ∈ bs → R a b → S a b) → PySem.W.EachIs S as bs
  | _, _, .nil, _ => .nil
  | _, _, .cons h t, f => .cons (f _ _ (by simp) h) (each_and t fun a b hb => f a b (by simp [hb]))
section
variable {X : Cx}
theorem cr_sortD (hu : Hu X) : CallR X (.builtin "sorted") (rSortD X.K) := by
  intro pins s σ H xs us Q I r ⟨a, bs, ex, hq, hb, q⟩
  subst ex
  obtain ⟨u, rfl, ru⟩ := vals1 r
  obtain rfl : u = Value.ref a := ru
  obtain ⟨its, rv, p, hz⟩ := I.list hq
  have e := each_vals rv
  have er : PySem.W.EachIs (fun v (b : PVV) => ∃ as, Reads s.heap v (encB b) as) its bs := each_and e fun u b hm h => Dp.reads I (toD b.1) b.2 u (hb.dp b hm) h
  have hl : bs.length ≤ sizeLine := by simpa using hz
  refine PySem.W.sorted_data p.isList e er hb.al hb.so hl (fun b hm => by have h1 := hb.de b hm; have h2 := hu; unfold Hu at h2; omega) fun out ho eo => ?_
  obtain ⟨n, hn⟩ := sortedAll_at s.heap its (List.toArray out)
  have ev := vals_each eo
  rw [le_enc] at ev
  refine ⟨.ref (s.heap.objs.size + 1), upd H (s.heap.objs.size + 1) (.lst ((bs.mergeSort fun a b => pvLe a.1 b.1).map Prod.snd)), I.laid (t' := s.toks) (a := s.heap.objs.size + 1) (fun b u q => sortedAll_old q) (Nat.le_succ _) ⟨?_, out, n, ev, hn⟩, rfl, q _ (I.hok.fresh (Nat.le_succ _))⟩
  rw [List.length_map, List.length_mergeSort]; exact hl
end
theorem zip_fst {α β : Type} : ∀ {xs : List α} {ys : List β}, xs.length = ys.length → (xs.zip ys).map Prod.fst = xs
  | [], [], _ => rfl
  | [], _ :: _, h => by simp at h
  | _ :: _, [], h => by simp at h
  | x :: xs, y :: ys, h => by simp [zip_fst (xs := xs) (ys := ys) (by simpa using h)]
theorem zip_snd {α β : Type} : ∀ {xs : List α} {ys : List β}, xs.length = ys.length → (xs.zip ys).map Prod.snd = ys
  | [], [], _ => rfl
  | [], _ :: _, h => by simp at h
  | _ :: _, [], h => by simp at h
  | x :: xs, y :: ys, h => by simp [zip_snd (xs := xs) (ys := ys) (by simpa using h)]
section
variable {K : PySem.W.Frag} {A : Addr → Prop} {H : Hp}
theorem reps_mem : ∀ {ps : List PV} {vs : List V}, Reps K A H ps vs → ∀ b ∈ ps.zip vs, Rep K A H b.1 b.2
  | [], _, _, b, hb => by simp at hb
  | p :: ps, _, h, b, hb => by
    obtain ⟨x, r, rfl, h1, h2⟩ := h
    rcases List.mem_cons.mp hb with rfl | hb
    · exact h1
    · exact reps_mem h2 b hb
theorem reps_bs : ∀ {bs : List PVV}, (∀ b ∈ bs, Rep K A H b.1 b.2) → Reps K A H (bs.map Prod.fst) (bs.map Prod.snd)
  | [], _ => rfl
  | b :: bs, h => ⟨_, _, rfl, h b (by simp), reps_bs fun c hc => h c (by simp [hc])⟩
theorem sortOk_spec {ps : List PV} (h : sortOk ps = true) : (∀ p ∈ ps, eqOk p = true ∧ notNo p = true) ∧ (∀ p ∈ ps, ∀ q ∈ ps, likeP p q = true) ∧ ((∀ p ∈ ps, isTup1 p = true) ∨ ∀ p ∈ ps, isTupP p = false) := by
  unfold sortOk at h
  simp only [Bool.and_eq_true, Bool.or_eq_true, List.all_eq_true, Bool.not_eq_true'] at h
  exact ⟨h.1.1, h.1.2, h.2⟩
theorem toD_tup1 {p : PV} (h : isTup1 p = true) : ∃ x r, toD p = .tuple (x :: r) := by
  match p, h with
  | .tup (x :: r), _ => exact ⟨toD x, toDs r, rfl⟩
theorem toD_notup {p : PV} (h : isTupP p = false) : ∀ xs, toD p ≠ .tuple xs := fun xs e => by
  cases p <;> simp [toD, isTupP] at *
theorem toD_nonone {p : PV} (h : notNo p = true) (h2 : eqOk p = true) : toD p ≠ .none := fun e => by
  cases p <;> simp [toD, notNo, eqOk, isData] at *
theorem sortB_of {ps : List PV} {vs : List V} (ho : sortOk ps = true) (r : Reps K A H ps vs) : SortB K H (ps.zip vs) := by
  obtain ⟨h1, h2, h3⟩ := sortOk_spec ho
  have hm : ∀ b ∈ ps.zip vs, b.1 ∈ ps := fun b hb => (List.of_mem_zip hb).1
  refine ⟨fun b hb => (reps_mem r b hb).dp (data_of (h1 _ (hm b hb)).1), fun d hd d' hd' => ?_, ?_, fun b hb => ?_⟩
  · obtain ⟨b, hb, rfl⟩ := List.mem_map.mp hd
    obtain ⟨c, hc, rfl⟩ := List.mem_map.mp hd'
    exact h2 _ (hm b hb) _ (hm c hc)
  · rcases h3 with h3 | h3
    · exact .inl fun d hd => by obtain ⟨b, hb, rfl⟩ := List.mem_map.mp hd; exact toD_tup1 (h3 _ (hm b hb))
    · exact .inr fun d hd => by obtain ⟨b, hb, rfl⟩ := List.mem_map.mp hd; exact ⟨toD_nonone (h1 _ (hm b hb)).2 (h1 _ (hm b hb)).1, toD_notup (h3 _ (hm b hb))⟩
  · have := shaped_of (h1 _ (hm b hb)).1
    simp only [SeqAt.shaped, Bool.and_eq_true, decide_eq_true_eq] at this
    unfold encB
    omega
end
theorem gSortD_inv {p : PV} {t : OT} (h : gSortD p = some t) : ∃ ps, p = .lst ps ∧ sortOk ps = true ∧ t = .l (ps.mergeSort pvLe) := by
  match p, h with
  | .lst ps, h =>
    have h : (if sortOk ps = true then some (OT.l (ps.mergeSort pvLe)) else none) = some t := h
    by_cases ho : sortOk ps = true
    · rw [if_pos ho] at h; exact ⟨ps, rfl, ho, (Option.some.inj h).symm⟩
    · rw [if_neg ho] at h; cases h
theorem c_sortD {X : Cx} : Call1 X.K (rSortD X.K) .I gSortD := fun C fp H p t v Q hg r k => by
  obtain ⟨ps, rfl, ho, rfl⟩ := gSortD_inv hg
  obtain ⟨a, xs, rfl, ha, rr⟩ := r
  have hl := rr.length
  refine ⟨a, ps.zip xs, rfl, by rw [zip_snd hl.symm]; exact SqL.of ha, sortB_of ho rr, ?_⟩
  have e : ps.mergeSort pvLe = ((ps.zip xs).mergeSort fun a b => pvLe a.1 b.1).map Prod.fst := by
    rw [PySem.W.sort_maps (s := pvLe) Prod.fst fun _ _ _ _ => rfl, zip_fst hl.symm]
  rw [e] at k
  exact k.l (reps_bs fun b hb => reps_mem rr b (List.mem_mergeSort.mp hb))
end Fz
end
section
/-! Fyr: sorted(xs, key=f), f a def of the text. -/
namespace Fz
open PySem PySem.Spec PyProof.Rows L2
section
variable {K : PySem.W.Frag} {H H' : Hp}
theorem sqL_same {a : Addr} {xs : List V} (s : Same H H') (h : SqL K H a xs) : SqL K H' a xs := h.imp (fun q => q.imp (s _ _) fun ⟨o, z⟩ => ⟨o, s _ _ z⟩) id
theorem sqT_same {a : Addr} {xs : List V} (s : Same H H') (h : SqT K H a xs) : SqT K H' a xs := h.imp (fun q => q.imp (s _ _) fun ⟨o, z⟩ => ⟨o, s _ _ z⟩) id
mutual
theorem dp_same (s : Same H H') : ∀ {d : PyData} {v : V}, Dp K H v d → Dp K H' v d
  | _, _, .non => .non
  | _, _, .bl b => .bl b
  | _, _, .int i => .int i
  | _, _, .str x => .str x
  | _, _, .lst h1 h2 => .lst (sqL_same s h1) (dps_same s h2)
  | _, _, .tup h1 h2 => .tup (sqT_same s h1) (dps_same s h2)
theorem dps_same (s : Same H H') : ∀ {ds : List PyData} {vs : List V}, DpAll K H vs ds → DpAll K H' vs ds
  | _, _, .nil => .nil
  | _, _, .cons h1 h2 => .cons (dp_same s h1) (dps_same s h2)
end
theorem dps_len : ∀ {ds : List PyData} {vs : List V}, DpAll K H vs ds → vs.length = ds.length
  | _, _, .nil => rfl
  | _, _, .cons h1 h2 => by simp [dps_len h2]
end
theorem DpAll.snoc {K : PySem.W.Frag} {H : Hp} {v : V} {d : PyData} (h : Dp K H v d) : ∀ {vs : List V} {ds : List PyData}, DpAll K H vs ds → DpAll K H (vs ++ [v]) (ds ++ [d])
  | _, _, .nil => .cons h .nil
  | _, _, .cons a b => .cons a (DpAll.snoc h b)
theorem vals_snoc {v : V} {u : Value} (h : RelV v u) : ∀ {vs : List V} {us : List Value}, Vals vs us → Vals (vs ++ [v]) (us ++ [u])
  | _, _, .nil => .cons h .nil
  | _, _, .cons a b => .cons a (vals_snoc h b)
section
variable {X : Cx} {pins : List (Addr × Obj)} {s : Shared} {σ : L2.St} {H : Hp} {us : List Value} {bs : List PVV}
/-- an address that no one has yet -/
structure Newer (X : Cx) (pins : List (Addr × Obj)) (x : Addr) : Prop where
  up : X.s_0.heap.objs.size ≤ x
  loc : x ≠ X.env.locals
  cell : ∀ y c, X.env.cells.lookup y = some c → c ≠ x
  pin : ∀ p ∈ X.pn ++ pins, p.1 ≠ x
  fs : x ∉ X.fs
theorem newer_of {x : Addr} (I : Inv X pins σ H s) (h : s.heap.objs.size ≤ x) : Newer X pins x where
  up := Nat.le_trans I.sz h
  loc := fun e => by have := I.lt; rw [← e] at this; exact Nat.lt_irrefl _ (Nat.lt_of_lt_of_le this h)
  cell := fun y c e z => by
    obtain ⟨v, o, ho, _⟩ := I.cell y c e
    have := Heap.lt_size ho
    rw [z] at this
    exact Nat.lt_irrefl _ (Nat.lt_of_lt_of_le this h)
  pin := fun p hp z => by
    have := Heap.lt_size (I.pin p hp).1
    rw [z] at this
    exact Nat.lt_irrefl _ (Nat.lt_of_lt_of_le this h)
  fs := I.nofs h
theorem Newer.turn {x : Addr} {h' : Heap} {t' : Nat} (n : Newer X pins x) (I : Inv X pins σ H s) (hn : H x = none) (k : ∀ b o, b ≠ x → s.heap.get? b = some o → h'.get? b = some o) : Inv X pins σ H { s with heap := h', toks := t' } :=
  I.turned k hn n.loc (.inr n.up) n.cell n.pin
/-- one pin more -/
theorem pin1 {x : Addr} {o : Obj} (I : Inv X pins σ H s) (n : x ≠ X.env.locals) (nf : x ∉ X.fs) (e : s.heap.get? x = some o) (hn : H x = none) (hc : ∀ v, o.data ≠ .cell v) : Inv X ((x, o) :: pins) σ H s :=
  I.pins_of fun p hp => by
    rcases List.mem_cons.mp hp with rfl | hp
    · exact ⟨e, hn, n, nf, hc⟩
    · exact I.pin p (by simp [hp])
theorem unpin1 {q : Addr × Obj} (I : Inv X (q :: pins) σ H s) : Inv X pins σ H s := I.pins_of fun p hp => I.pin p (by
  rcases List.mem_append.mp (show p ∈ X.pn ++ pins by simp [hp]) with z | z
  · simp [z]
  · simp [z])
theorem seq_nocell {xs : Array Value} {n : Nat} : ∀ v, (seqObj "list" xs n).data ≠ .cell v := fun v z => by cases z
/-- the keys: a turn for each item -/
def KeyT (X : Cx) (H : Hp) (f : Addr) (kf : PV → PV) (bs : List PVV) : Prop := ∀ (pins : List (Addr × Obj)) (s : Shared) (σ : L2.St) (H1 : Hp) (b : PVV) (u : Value), Inv X pins σ H1 s → Same H H1 → b ∈ bs → RelV b.2 u →
  wpAny (model X.prog X.w) X.A.in1.in1 (call (.ref f) [u]) (fun w s' => ∃ v H2, Inv X pins σ H2 s' ∧ Same H1 H2 ∧ RelV v w ∧ Dp X.K H2 v (toD (kf b.1))) (fun _ _ => False) s
def keyOf' (kf : PV → PV) (b : PVV) : PyData := toD (kf b.1)
theorem rest_ok {f kS a : Addr} {kf : PV → PV} {e1 : Nat} {P : PySem.Fin → Shared → Prop} {E : Value → Shared → Prop} (T : KeyT X H f kf bs) (J : Inv X ((kS, seqObj "list" #[] 0) :: (a, seqObj "list" #[] e1) :: pins) σ H s) (hne : kS ≠ a) (nk : Newer X pins kS) (na : Newer X pins a)
    (rv : Vals (bs.map Prod.snd) us) (hl : us.length ≤ sizeLine) (hal : PySem.W.AllAlike (bs.map (keyOf' kf))) (hso : PySem.W.Sortable (bs.map (keyOf' kf))) (hde : ∀ d ∈ bs.map (keyOf' kf), X.A.in1.in1.units + d.depth < cLine)
    (hP : ∀ H' s', Inv X pins σ (upd H' a (.lst ((bs.mergeSort fun x y => pvLe (kf x.1) (kf y.1)).map Prod.snd))) s' → Same H H' → H' a = none → P (.done (.ret .none)) s') :
    wpAny (model X.prog X.w) X.A.in1.in1 (PyProof.Rows.ksk_rest a (.ref f) false us.toArray e1 (.ref kS)) P E s := by
  have hbl : us.length = bs.length := by have := rv.length; simpa using this.symm
  have ev := each_vals rv
  unfold PyProof.Rows.ksk_rest
  refine wpAny_bind (wpAny_rule ?_)
  rw [List.forIn_toArray]
  refine wpAny_bind (PyProof.Rows.ksk_fold (fun i s' => ∃ H' kA e, Inv X ((kS, seqObj "list" kA e) :: (a, seqObj "list" #[] e1) :: pins) σ H' s' ∧ Same H H' ∧ ∃ kv, Vals kv kA.toList ∧ DpAll X.K H' kv ((bs.map (keyOf' kf)).take i)) us 0 s ⟨H, #[], 0, J, Same.refl H, [], .nil, by rw [List.take_zero]; exact .nil⟩ ?step ?done)
  case step =>
    rintro j x s' hx ⟨H', kA, e, J', sm, kv, rk, dk⟩
    simp only [Nat.zero_add] at dk ⊢
    have hj : j < bs.length := by rw [← hbl]; exact (List.getElem?_eq_some_iff.mp hx).1
    have rx : RelV bs[j].2 x := by
      obtain ⟨u, hu, ru⟩ := rv.get (i := j) (x := bs[j].2) (by rw [List.getElem?_map, List.getElem?_eq_getElem hj]; rfl)
      rw [hx] at hu; cases hu; exact ru
    refine wpAny_bind (wpAny_attempt (wpAny_mono (T _ s' σ H' bs[j] x J' sm (List.getElem_mem _) rx) (fun w s'' he => ?_) fun _ _ z => z.elim))
    obtain ⟨v, H2, J2, sm2, rw2, dv⟩ := he
    have pk := J2.pin (kS, seqObj "list" kA e) (by simp)
    have pa := J2.pin (a, seqObj "list" #[] e1) (by simp)
    have kl : kA.size = j := by
      have h1 := rk.length
      have h2 := dps_len dk
      rw [List.length_take, List.length_map] at h2
      simp only [Array.length_toList] at h1
      omega
    have s1 := Heap.SameBut.update s''.heap kS (Obj.mapSeq (·.push w))
    obtain ⟨c2, hc2⟩ : ∃ c2, (s''.heap.update kS (Obj.mapSeq (·.push w))).get? kS = some (seqObj "list" (kA.push w) c2) := ⟨_, get?_update_seq pk.1 (·.push w)⟩
    refine wpAny_bind (listUpdate_at pk.1 rfl ?_ (by omega) (by rw [Array.size_push]; omega))
    refine wpAny_pure ⟨rfl, H2, kA.push w, c2, ?_, sm.trans sm2, kv ++ [v], ?_, ?_⟩
    · have J3 : Inv X pins σ H2 { s'' with heap := s''.heap.update kS (Obj.mapSeq (·.push w)) } := nk.turn (t' := s''.toks) (unpin1 (unpin1 J2)) pk.2.1 fun b o hb q => (s1.2 b hb).trans q
      exact pin1 (pin1 J3 na.loc na.fs ((s1.2 a hne.symm).trans pa.1) pa.2.1 seq_nocell) nk.loc nk.fs hc2 pk.2.1 seq_nocell
    · rw [Array.toList_push]; exact vals_snoc rw2 rk
    · have e3 : (bs.map (keyOf' kf)).take (j + 1) = (bs.map (keyOf' kf)).take j ++ [keyOf' kf bs[j]] := by
        rw [List.take_add_one, List.getElem?_map, List.getElem?_eq_getElem hj]; rfl
      rw [e3]
      exact DpAll.snoc dv (dps_same sm2 dk)
  case done =>
    rintro s' ⟨H', kA, e, J', sm, kv, rk, dk⟩
    have pk := J'.pin (kS, seqObj "list" kA e) (by simp)
    have pa := J'.pin (a, seqObj "list" #[] e1) (by simp)
    have e3 : (bs.map (keyOf' kf)).take (0 + us.length) = bs.map (keyOf' kf) := List.take_of_length_le (by rw [List.length_map]; omega)
    rw [e3] at dk
    have hsz : kA.size = us.length := by
      have h1 := rk.length
      have h2 := dps_len dk
      rw [List.length_map] at h2
      simp only [Array.length_toList] at h1
      omega
    obtain ⟨as, hr⟩ := Dp.readsAll J' _ _ _ dk rk
    have hk' := PySem.W.readsAll_each (h := s'.heap) (keyOf' kf) hr
    have hk2 : PySem.W.EachIs (fun v k => ∃ as, Reads s'.heap v k as) kA.toList (bs.map (keyOf' kf)) := PySem.W.each_map (R := fun v k => ∃ as, Reads s'.heap v k as) (keyOf' kf) hk'
    obtain ⟨G, g1, g2⟩ := restrict s'.heap fun b => decide (b ≠ kS)
    refine wpAny_bind (listItems_at pk.1 rfl ?_)
    refine PySem.W.keyH_end (κ := PySem.W.dataKind s'.heap (bs.map (keyOf' kf))) (h₁ := G) (vs := us) (fun b o hb q => ?_) (g2 kS (by simp)) pk.1 pa.1 hne (PySem.W.SortsAt.data (s := s') hk2 hal hso hde) hsz hl fun h3 tk3 c k3 n3 => ?_
    · by_cases z : b = kS
      · subst z; rw [g2 b (by simp)] at q; cases q
      · rw [g1 b (by simp [z])] at q; exact q
    · have ko : PySem.W.KeyedOut false (bs.map (keyOf' kf)) us (PySem.W.sortVals (PySem.W.dataKind s'.heap (bs.map (keyOf' kf))) false kA.toList us) := ⟨s'.heap, kA.toList, hal, rfl, hk2⟩
      have eo := vals_each (PySem.W.keyedOut_each (keyOf' kf) ko ev)
      have keep : ∀ b o, b ≠ a → b ≠ kS → s'.heap.get? b = some o → h3.get? b = some o := fun b o h1 h2 q => k3 b o h1 (by rw [g1 b (by simp [h2])]; exact q)
      have ht : ∀ b u, H' b = some u → b ≠ a ∧ b ≠ kS := fun b u q => ⟨fun z => (by rw [z, pa.2.1] at q; cases q), fun z => by rw [z, pk.2.1] at q; cases q⟩
      have J0 := unpin1 (unpin1 J')
      refine hP H' _ (J0.step (g' := s'.gens) (d' := s'.drawn) (ch := [kS, a]) (fun b hb => ?_) (fun b o _ _ hc q _ => keep b o (fun z => hc (by simp [z])) (fun z => hc (by simp [z])) q) (fun b o _ _ hc q _ => ⟨o.slots, keep b o (fun z => hc (by simp [z])) (fun z => hc (by simp [z])) q⟩)
        (fun b o hc q n => by rw [upd_ne (fun z => hc (by simp [z]))]; exact n) (fun b o hc q => ⟨o, keep b o (fun z => hc (by simp [z])) (fun z => hc (by simp [z])) q⟩) (fun b xs q => by rw [upd_ne (ht b _ q).1]; exact q) (fun b o u q => by rw [upd_ne (ht b _ q).1]; exact q)
        (fun b ps q => ⟨#[], by rw [upd_ne (ht b _ q).1, q]; simp⟩) (fun m hm => ?_) (fun b u q => ?_) J0.bare) sm pa.2.1
      · rcases List.mem_cons.mp hb with rfl | hb
        · exact ⟨.inr nk.up, nk.loc, nk.cell, nk.pin⟩
        · rw [List.mem_singleton.mp hb]; exact ⟨.inr na.up, na.loc, na.cell, na.pin⟩
      · obtain ⟨o, es, ep, ho, r⟩ := hm
        exact ⟨o, es, ep, keep _ o (Ne.symm na.loc) (Ne.symm nk.loc) ho, r⟩
      · by_cases z : b = a
        · subst z
          rw [upd_same] at q
          cases q
          refine ⟨?_, _, c, eo, n3⟩
          rw [List.length_map, List.length_mergeSort]; omega
        · rw [upd_ne z] at q
          refine ((J0.hok b u q).stay (H' := upd H' a _) (fun c' v hc q' => keep c' v ?_ ?_ q') (fun _ q' => ?_) fun _ _ q' => ?_)
          · rcases hc with y | y
            · rw [y]; exact z
            · exact (ht c' _ y).1
          · rcases hc with y | y
            · rw [y]; exact (ht b _ q).2
            · exact (ht c' _ y).2
          · first | exact (upd_ne (ht _ _ q').1).trans q' | exact q'
          · first | exact (upd_ne (ht _ _ q').1).trans q' | exact q'
end
end Fz
end
section
/-! Fys: sorted(xs, key=f): the rule. -/
namespace Fz
open PySem PySem.Spec PyProof.Rows L2
section
variable {X : Cx} {pins : List (Addr × Obj)} {s : Shared} {σ : L2.St} {H : Hp} {bs : List PVV}
theorem sortK_run {l f : Addr} {kf : PV → PV} {Q : VK} (hu : Hu X) (T : KeyT X H f kf bs) (I : Inv X pins σ H s) (hq : SqL X.K H l (bs.map Prod.snd)) (hal : PySem.W.AllAlike (bs.map (keyOf' kf))) (hso : PySem.W.Sortable (bs.map (keyOf' kf))) (hde : ∀ b ∈ bs, (keyOf' kf b).depth ≤ 70)
    (q : ∀ p H', Same H H' → H' p = none → Q (.ref p) (upd H' p (.lst ((bs.mergeSort fun x y => pvLe (kf x.1) (kf y.1)).map Prod.snd)))) :
    wpAny (model X.prog X.w) X.A (call (.builtin "sorted") [.ref l] [(Str.ofString "key", .ref f)]) (EP X pins σ Q) X.xe s := by
  obtain ⟨its, rv, p, hz⟩ := I.list hq
  have hl : its.length ≤ sizeLine := by rw [← rv.length]; exact hz
  have ho := PySem.W.copyHeap_at s.heap its
  obtain ⟨e1, ho1⟩ : ∃ e1, ((PySem.W.copyHeap s.heap its).update (s.heap.objs.size + 1) (Obj.mapSeq fun _ => (#[] : Array Value))).get? (s.heap.objs.size + 1) = some (seqObj "list" #[] e1) := ⟨_, get?_update_seq ho fun _ => #[]⟩
  refine PySem.W.sorted_of_sort p.isList hl (PyProof.Rows.ksk_s1 _ _) (fun x => PyProof.Rows.ksk_l1 _ _) fun E' => ?_
  rw [PyProof.Rows.ksk_t1]
  unfold PyProof.Rows.ksk_tree
  refine wpAny_bind (listItems_at ho rfl (wpAny_bind (listUpdate_at ho rfl (wpAny_bind (seqEpoch_at ho1 rfl ?_)) (by simpa using hl) (Nat.zero_le _))))
  refine wpAny_bind (wpAny_newTuple (wpAny_bind (wpAny_newList (wpAny_holding ?_) (Nat.zero_le _))) hl)
  have szc : (PySem.W.copyHeap s.heap its).objs.size = s.heap.objs.size + 2 := by
    unfold PySem.W.copyHeap
    rw [size_push', Heap.size_update, size_push']
  have szk : (((PySem.W.copyHeap s.heap its).update (s.heap.objs.size + 1) (Obj.mapSeq fun _ => (#[] : Array Value))).push (seqObj "tuple" its.toArray 0)).objs.size = s.heap.objs.size + 3 := by rw [size_push', Heap.size_update, szc]
  have J : Inv X pins σ H { s with heap := PySem.W.sortingHeap (PySem.W.copyHeap s.heap its) (s.heap.objs.size + 1) its, toks := s.toks } := I.kept fun b o e => PySem.W.sorting_copy_old e
  have na : Newer X pins (s.heap.objs.size + 1) := newer_of I (Nat.le_succ _)
  have nk : Newer X pins (s.heap.objs.size + 3) := newer_of I (by omega)
  have fa : H (s.heap.objs.size + 1) = none := I.hok.fresh (Nat.le_succ _)
  have fk : H (s.heap.objs.size + 3) = none := I.hok.fresh (by omega)
  have ga : (PySem.W.sortingHeap (PySem.W.copyHeap s.heap its) (s.heap.objs.size + 1) its).get? (s.heap.objs.size + 1) = some (seqObj "list" #[] e1) := Heap.get?_push_of_some _ (Heap.get?_push_of_some _ ho1)
  have gk : (PySem.W.sortingHeap (PySem.W.copyHeap s.heap its) (s.heap.objs.size + 1) its).get? (s.heap.objs.size + 3) = some (seqObj "list" #[] 0) := by
    rw [← szk]; exact Heap.get?_push_size _ rfl
  have J2 := pin1 (pin1 J na.loc na.fs ga fa seq_nocell) nk.loc nk.fs gk fk seq_nocell
  have := rest_ok (P := fun g s' => g = .done (.ret .none) ∧ EP X pins σ Q (.ref (s.heap.objs.size + 1)) s') (E := E') T J2 (fun z => absurd (Nat.add_left_cancel z) (by decide)) nk na rv hl hal hso (fun d hd => by
    obtain ⟨b, hb, rfl⟩ := List.mem_map.mp hd
    have h1 := hde b hb
    have h2 := hu
    unfold Hu at h2
    show X.A.units + 2 + _ < cLine
    omega) fun H' s' K sm hn => ⟨rfl, .ref (s.heap.objs.size + 1), _, K, rfl, q _ _ sm hn⟩
  show wpAny (model X.prog X.w) X.A.in1.in1 _ _ _ _
  rw [show (((PySem.W.copyHeap s.heap its).update (s.heap.objs.size + 1) (Obj.mapSeq fun _ => (#[] : Array Value))).push (seqObj "tuple" its.toArray 0)).objs.size = s.heap.objs.size + 3 from szk]
  exact this
end
/-! ### the keys by a def -/
def keyP (g : Fn) (p : PV) : PV := match g [p] with
  | .ok (.fz k) => k
  | _ => .non
def keyOkP (g : Fn) (p : PV) : Bool := match g [p] with
  | .ok (.fz k) => eqOk k
  | _ => false
theorem keyOkP_spec {g : Fn} {p : PV} (h : keyOkP g p = true) : g [p] = .ok (.fz (keyP g p)) ∧ eqOk (keyP g p) = true := by
  unfold keyOkP at h
  unfold keyP
  cases e : g [p] with
  | ok t =>
    rw [e] at h
    cases t with
    | fz k => exact ⟨rfl, h⟩
    | _ => cases h
  | exc c fs => rw [e] at h; cases h
  | bad => rw [e] at h; cases h
def gSortK (g : Fn) : PV → Option OT
  | .lst ps => if (ps.all (keyOkP g) && sortOk (ps.map (keyP g))) = true then some (.l (ps.mergeSort fun a b => pvLe (keyP g a) (keyP g b))) else none
  | _ => none
theorem gSortK_inv {g : Fn} {p : PV} {t : OT} (h : gSortK g p = some t) : ∃ ps, p = .lst ps ∧ (∀ p ∈ ps, keyOkP g p = true) ∧ sortOk (ps.map (keyP g)) = true ∧ t = .l (ps.mergeSort fun a b => pvLe (keyP g a) (keyP g b)) := by
  match p, h with
  | .lst ps, h =>
    have h : (if (ps.all (keyOkP g) && sortOk (ps.map (keyP g))) = true then some (OT.l (ps.mergeSort fun a b => pvLe (keyP g a) (keyP g b))) else none) = some t := h
    by_cases ho : (ps.all (keyOkP g) && sortOk (ps.map (keyP g))) = true
    · rw [if_pos ho] at h
      rw [Bool.and_eq_true, List.all_eq_true] at ho
      exact ⟨ps, rfl, ho.1, ho.2, (Option.some.inj h).symm⟩
    · rw [if_neg ho] at h; cases h
section
variable {X : Cx} {C : Addr → Prop} {W : WX} {e : Expr} {pos p2 p3 kp : Pos} {f1 : E}
theorem keyT_of {k : Nat} {ps : List Str} {m : Mode} {g : Fn} {f : Addr} {fd : FuncData} (F : FnOk X.prog X.w X.K X.mg X.base (L2.CX X.prog X.w) k f fd ps (spG X.K [m] g)) (hr : Room (k + 2) X.A) (b : Binds X.K fd ps []) {H : Hp} {bs : List PVV} {A : Addr → Prop} (hR : ∀ b ∈ bs, Rep X.K A H b.1 b.2) (hg : ∀ b ∈ bs, keyOkP g b.1 = true) :
    KeyT X H f (keyP g) bs := by
  intro pins s σ H1 c u I sm hc rc
  obtain ⟨e1, e2⟩ := keyOkP_spec (hg c hc)
  have hr1 : Rep X.K A H1 c.1 c.2 := Rep.same sm (hR c hc)
  have hsp : spG X.K [m] g [c.2] H1 (fun v H2 => Same H1 H2 ∧ Dp X.K H2 v (toD (keyP g c.1))) (fun _ _ _ => False) := by
    refine ⟨A, [c.1], ⟨?_, trivial⟩, ?_⟩
    · cases m with
      | B => exact Rep.any hr1
      | E => exact hr1
      | I => exact hr1
    · rw [e1]
      intro v H' Fn s2 n hf r
      obtain ⟨_, rv⟩ := r
      exact ⟨s2, rv.dp (data_of e2)⟩
  have hl : [u].length = ps.length := by rw [← F.len _ _ _ _ hsp]; rfl
  have bb := b s [u] I.kIn (by simpa using hl)
  rw [List.append_nil] at bb
  have rm : Room k X.A.in1.in1 := Room.in1 (Room.in1 hr)
  refine wpAny_call (codeAny_mono (F.run X.A.in1.in1 X.stack s H1 ⟨[u], []⟩ [u] [c.2] _ _ rm (I.env0.in1.in1) bb (.cons rc .nil) hsp) fun r s' hq => ?_)
  cases r with
  | error e =>
    obtain ⟨_, _, _, _, _, _, _, _, _, _, _, _, z⟩ := hq
    exact z.elim
  | ok fl =>
    cases fl with
    | ret w =>
      obtain ⟨v, H2, J, rv, sq, dv⟩ := I.after hq
      exact ⟨v, H2, J, sq, rv, dv⟩
    | next => exact False.elim hq
    | brk => exact False.elim hq
    | cont => exact False.elim hq
def rSortKey (X : Cx) (f : Addr) (kf : PV → PV) : List V → List V → Hp → VK → Prop := fun xs zs H Q => ∃ (l : Addr) (bs : List PVV), xs = [.ref l] ∧ zs = [.ref f] ∧ SqL X.K H l (bs.map Prod.snd) ∧ KeyT X H f kf bs ∧ PySem.W.AllAlike (bs.map (keyOf' kf)) ∧ PySem.W.Sortable (bs.map (keyOf' kf)) ∧
  (∀ b ∈ bs, (keyOf' kf b).depth ≤ 70) ∧ ∀ p H', Same H H' → H' p = none → Q (.ref p) (upd H' p (.lst ((bs.mergeSort fun x y => pvLe (kf x.1) (kf y.1)).map Prod.snd)))
theorem cr_sortKey (hu : Hu X) {f : Addr} {kf : PV → PV} : CallRK X (.builtin "sorted") [Str.ofString "key"] (rSortKey X f kf) := by
  intro pins s σ H xs zs us ws Q I r1 r2 ⟨l, bs, ex, ez, hq, T, hal, hso, hde, q⟩
  subst ex; subst ez
  obtain ⟨u, rfl, ru⟩ := vals1 r1
  obtain ⟨w, rfl, rw⟩ := vals1 r2
  obtain rfl : u = Value.ref l := ru
  obtain rfl : w = Value.ref f := rw
  exact sortK_run hu T I hq hal hso hde q
theorem oj_sortK {k j : Nat} {x : Str} {ps : List Str} {m : Mode} {g : Fn} (D : DefOk X.prog X.w X.K X.mg X.base k x ps [m] g) (hr : Room j X.A) (hk : k + 2 ≤ j) (hgs : Gl X "sorted") (hms : X.mg "sorted" = none) (hg : Gl X x) (h : EJ X C W .I e f1) (hdx : (x == ("__debug__" : Str)) = false := by decide)
    (he : backTo pos (starEach [e] X.env) = (false, eval e X.env) :: backTo pos (starEach [] X.env) := by rfl) (hpl : (backTo pos (starEach [e] X.env)).any (·.1) = false := by rfl)
    (hall : (backToKw pos (keywordEach [⟨some (Str.ofString "key"), .Name x p3, kp⟩] X.env)).all (·.1.isSome) = true := by rfl) (hnone : (backToKw pos (keywordEach [⟨some (Str.ofString "key"), .Name x p3, kp⟩] X.env)).any (·.1.isNone) = false := by rfl)
    (hks : (backToKw pos (keywordEach [⟨some (Str.ofString "key"), .Name x p3, kp⟩] X.env)).filterMap (·.1) = [Str.ofString "key"] := by rfl) (hs : starEach [e] X.env = (false, eval e X.env) :: starEach [] X.env := by rfl) :
    OJ X C W (.Call (.Name "sorted" p2) [e] [⟨some (Str.ofString "key"), .Name x p3, kp⟩] pos) (oUn (gSortK g) f1) := by
  obtain ⟨f, fd, F, hm, kp', b⟩ := D.ex
  refine pe_weak (pe_callBK (cr_sortKey (huR hr) (f := f) (kf := keyP g)) hgs hms (by rfl) (pa_cons h pa_nil hs) (pk_cons (pe_glob (v := .ref f) hg hm rfl hdx) pk_nil) (by decide) (by decide) he hpl hall hnone hks) fun σ H Q ⟨ρ, fp, eo, o⟩ => ?_
  refine ⟨ρ, fp, eo, (Out.bind o).mono (fun p o1 v H1 s1 r1 => ?_) fun _ _ q => q⟩
  obtain ⟨t, ht, hQ⟩ := Out.ofO o1
  obtain ⟨qs, rfl, h1, h2, rfl⟩ := gSortK_inv ht
  obtain ⟨a, xs, rfl, ha, rr⟩ := (show RepI X.K (Am C fp) H1 (.lst qs) v from r1)
  have hl := rr.length
  have kk : KO X.K (Am C fp) H1 (.l (qs.mergeSort fun a b => pvLe (keyP g a) (keyP g b))) Q := KO.later hQ s1
  have hz : ∀ b ∈ qs.zip xs, b.1 ∈ qs := fun b hb => (List.of_mem_zip hb).1
  obtain ⟨g1, g2, g3⟩ := sortOk_spec h2
  refine ⟨a, qs.zip xs, rfl, rfl, by rw [zip_snd hl.symm]; exact SqL.of ha, keyT_of F (hr.mono hk) b (reps_mem rr) (fun c hc => h1 _ (hz c hc)), fun d hd d' hd' => ?_, ?_, fun c hc => ?_, fun p H' sm hn => ?_⟩
  · obtain ⟨c, hc, rfl⟩ := List.mem_map.mp hd
    obtain ⟨c', hc', rfl⟩ := List.mem_map.mp hd'
    exact g2 _ (List.mem_map.mpr ⟨_, hz c hc, rfl⟩) _ (List.mem_map.mpr ⟨_, hz c' hc', rfl⟩)
  · rcases g3 with g3 | g3
    · exact .inl fun d hd => by obtain ⟨c, hc, rfl⟩ := List.mem_map.mp hd; exact toD_tup1 (g3 _ (List.mem_map.mpr ⟨_, hz c hc, rfl⟩))
    · exact .inr fun d hd => by
        obtain ⟨c, hc, rfl⟩ := List.mem_map.mp hd
        have hm : keyP g c.1 ∈ qs.map (keyP g) := List.mem_map.mpr ⟨_, hz c hc, rfl⟩
        exact ⟨toD_nonone (g1 _ hm).2 (g1 _ hm).1, toD_notup (g3 _ hm)⟩
  · have := shaped_of (g1 _ (List.mem_map.mpr ⟨_, hz c hc, rfl⟩)).1
    simp only [SeqAt.shaped, Bool.and_eq_true, decide_eq_true_eq] at this
    unfold keyOf'
    omega
  · have e1 : (qs.mergeSort fun a b => pvLe (keyP g a) (keyP g b)) = ((qs.zip xs).mergeSort fun x y => pvLe (keyP g x.1) (keyP g y.1)).map Prod.fst := by
      rw [PySem.W.sort_maps (s := fun a b => pvLe (keyP g a) (keyP g b)) Prod.fst fun _ _ _ _ => rfl, zip_fst hl.symm]
    rw [e1] at kk
    have k2 := KO.later kk sm
    exact k2.l (reps_bs fun c hc => Rep.same sm (reps_mem rr c (List.mem_mergeSort.mp hc))) p hn
end
@[simp] theorem gSortK_lst (g : Fn) (ps : List PV) : gSortK g (.lst ps) = if (ps.all (keyOkP g) && sortOk (ps.map (keyP g))) = true then some (.l (ps.mergeSort fun a b => pvLe (keyP g a) (keyP g b))) else none := (rfl)
end Fz
end
section
/-! Fyt: a dict display of one pair. -/
namespace Fz
open PySem PySem.Spec PyProof.Rows L2
def oDic1 (fk fv : E) : O := fun ρ => fk ρ >>= fun k => fv ρ >>= fun v => ofO ((keyOf k).map fun k => OT.d [(k, v)])
section
variable {X : Cx} {C : Addr → Prop} {W : WX} {e1 e2 : Expr} {pos : Pos} {m : Mode} {fk fv : E}
theorem pe_ex {α : Type} {e : Expr} {t : α → TE} (h : ∀ a, PE X e (t a)) : PE X e (fun σ H Q => ∃ a, t a σ H Q) := ⟨fun pins s σ H Q I q => by
  obtain ⟨a, q⟩ := q
  exact (h a).run pins s σ H Q I q⟩
theorem oj_dic1 (hk : ∀ C, EJ X C W m e1 fk) (hv : ∀ C, EJ X C W .E e2 fv) : OJ X C W (.Dict [some e1] [e2] pos) (oDic1 fk fv) := by
  refine ⟨fun pins s σ H Q I h => ?_⟩
  obtain ⟨ρ, fp, eo, o⟩ := h
  -- the new dict's address is none of what is evaluated
  refine (pe_disp (trs := [(fun σ H Q => ∃ p, tE X.K (fun a => C a ∧ a ≠ p) W m fk σ H Q, fun σ H Q => ∃ p, tE X.K (fun a => C a ∧ a ≠ p) W .E fv σ H Q)]) (pps_cons (pe_ex fun p => hk fun a => C a ∧ a ≠ p) (pe_ex fun p => hv fun a => C a ∧ a ≠ p) pps_nil) rfl rfl (by simp) (by show 1 ≤ 15; decide)).run pins s σ H Q I fun p hp => ?_
  have s0 : Same H (upd H p (.dK [])) := same_upd hp
  have eo1 : EnvOk X.K (fun a => C a ∧ a ≠ p) ρ σ (upd H p (.dK [])) fp := eo.block (vs := []) rfl hp s0 (by rw [upd_same]; simp)
  refine ⟨p, ρ, fp, eo1, (Out.bind o).mono (fun k o1 x H1 s1 r1 => ?_) fun _ _ q => XQ.later s0 q⟩
  have p1 : H1 p = some (.dK []) := s1 _ _ upd_same
  refine ⟨p, ρ, fp, eo1.same s1, (Out.bind o1).mono (fun v o2 y H2 s2 r2 => ?_) fun _ _ q => XQ.later (s0.trans s1) q⟩
  have p2 : H2 p = some (.dK []) := s2 _ _ p1
  obtain ⟨t, ht, hQ⟩ := Out.ofO o2
  obtain ⟨k', hk', rfl⟩ := Option.map_eq_some_iff.mp ht
  have ex : x = kV (k1 k') := rep_key (RepM.toB r1) hk'
  refine ⟨p2, [(k1 k', y)], by rw [ex]; rfl, by show 1 ≤ 15; decide, ?_⟩
  have em : mergeK [] [(k1 k', y)] = [(k1 k', y)] := rfl
  rw [em]
  have sA : Same H (upd H2 p (.dK [(k1 k', y)])) := fun a o' z => by
    have ne : a ≠ p := fun e => by rw [e, hp] at z; cases z
    rw [upd_ne ne]; exact s2 _ _ (s1 _ _ (s0 _ _ z))
  refine hQ (.ref p) _ [p] sA (by simp) (fun a ha => by rw [List.mem_singleton.mp ha]; exact hp) ⟨p, _, rfl, rfl, upd_same, y, [], rfl, ?_, rfl⟩
  have r2 : Rep X.K (Am (fun a => C a ∧ a ≠ p) fp) H2 v y := r2
  refine Rep.carry (Carry.mk' (fun a o' q z => ⟨⟨q.1.1, q.2⟩, fun m => q.1.2 (List.mem_singleton.mp m)⟩) (fun a o' q z => by rw [upd_ne q.1.2]; exact z) (fun a xs z => by rw [upd_ne (fun e => by rw [e, p2] at z; cases z)]; exact z) fun a o' u z => by rw [upd_ne (fun e => by rw [e, p2] at z; cases z)]; exact z) r2
end
@[simp] theorem m_oDic1 (fk fv : E) (ρ : Env) : oDic1 fk fv ρ = fk ρ >>= fun k => fv ρ >>= fun v => ofO ((keyOf k).map fun k => OT.d [(k, v)]) := (rfl)
@[simp] theorem keyOf_str (x : Tx) : keyOf (.str x) = some (.inr x) := (rfl)
@[simp] theorem keyOf_int (x : Int) : keyOf (.int x) = some (.inl x) := (rfl)
end Fz
end
section
/-! Fyu: match with texts and a wildcard. -/
namespace Fz
open PySem PySem.Spec PyProof.Rows L2
structure PMc (X : Cx) (cs : List MatchCase) (t : V → TS) : Prop where
  run : ∀ (first : Bool) (pins : List (Addr × Obj)) (s : Shared) (σ : L2.St) (H : Hp) (D : Ends) (x : V) (v : Value), Inv X pins σ H s → RelV x v → t x D σ H → wpAny (model X.prog X.w) X.A (matchCases cs X.env v first) (SP X pins D) X.xe s
section
variable {X : Cx} {subj value : Expr} {pos ppos : Pos} {body : List Stmt} {rest : List MatchCase} {tv : TE} {tb : TS} {tr : V → TS}
theorem ps_match {cs : List MatchCase} {t : V → TS} (hs : PE X subj tv) (hc : PMc X cs t) : PS X (.Match subj cs pos) (fun D σ H => tv σ H fun x H1 => t x D σ H1) :=
  ⟨fun pins s σ H D I h => wpAny_Match (thn (hs.run pins s σ H _ I h) fun v s1 ⟨x, H1, I1, r1, q1⟩ => hc.run true pins s1 σ H1 D x v I1 r1 q1)⟩
theorem pm_wild (hb : PSs X body tb) : PMc X (⟨.MatchAs none none ppos, none, body⟩ :: rest) (fun _ => tb) :=
  ⟨fun first pins s σ H D x v I r h => wpAny_matchCases_cons (wpAny_matchPattern_Capture (wpAny_assignInOrder_none (hb.run pins s σ H D I h)))⟩
theorem pm_lit {r : R2} (ho : OpR X (compareOp .Eq) r) (hv : PE X value tv) (hb : PSs X body tb) (hr : PMc X rest tr) : PMc X (⟨.MatchValue value ppos, none, body⟩ :: rest) (fun x D σ H => tv σ H fun y H1 => r x y H1 fun c H2 => ∃ b, c = .bl b ∧ (if b = true then tb D σ H2 else tr x D σ H2)) :=
  ⟨fun first pins s σ H D x v I rx h => wpAny_matchCases_cons (wpAny_matchPattern_Value (thn (hv.run pins s σ H _ I h) fun u s1 ⟨y, H1, I1, ry, q1⟩ => thn (ho pins s1 σ H1 x y v u _ I1 rx ry q1) fun c s2 ⟨z, H2, I2, rz, b, e, q2⟩ => by
    subst e
    cases rz
    refine wpAny_truthy_bool ?_
    cases b with
    | true =>
      exact wpAny_assignInOrder_none (hb.run pins s2 σ H2 D I2 q2)
    | false =>
      exact hr.run false pins s2 σ H2 D x v I2 rx q2))⟩
end
abbrev CS := PV → S
def tCs (K : PySem.W.Frag) (C : Addr → Prop) (W : WX) (k : CS) : V → TS := fun x D σ H => ∃ ρ fp p, EnvOk K C ρ σ H fp ∧ Rep K (fun _ => True) H p x ∧ FlQ K C W D H fp (k p ρ)
def CJ (X : Cx) (C : Addr → Prop) (W : WX) (cs : List MatchCase) (k : CS) : Prop := PMc X cs (tCs X.K C W k)
def kWild (s : S) : CS := fun _ => s
def litS (o : Option Bool) (s1 s2 : S) (ρ : Env) : Fl := match o with
  | some true => s1 ρ
  | some false => s2 ρ
  | none => .bad
def kLit (w : Tx) (s : S) (k : CS) : CS := fun p ρ => litS (gEq p (.str w)) s (k p) ρ
def sMatch (f : E) (k : CS) : S := fun ρ => withR (f ρ) ρ fun p => k p ρ
section
variable {X : Cx} {C : Addr → Prop} {W : WX} {subj value : Expr} {pos ppos : Pos} {body : List Stmt} {rest cs : List MatchCase} {f : E} {s : S} {k : CS} {w : Tx} {m : Mode}
theorem sj_match (hs : EJ X C W m subj f) (hc : CJ X C W cs k) : SJ X C W (.Match subj cs pos) (sMatch f k) := ps_weak (ps_match hs hc) fun D σ H ⟨ρ, fp, eo, h⟩ =>
  ⟨ρ, fp, eo, (FlQ.ofR eo h).mono (fun p q v H1 s1 r1 => ⟨ρ, fp, p, eo.same s1, RepM.toB r1, FlQ.later (Grow.same s1) q⟩) fun _ _ q => q⟩
theorem pm_weak {t t' : V → TS} (h : PMc X cs t) (w : ∀ x D σ H, t' x D σ H → t x D σ H) : PMc X cs t' := ⟨fun first pins s σ H D x v I r q => h.run first pins s σ H D x v I r (w x D σ H q)⟩
theorem mj_wild (hb : BJ X C W body s) : CJ X C W (⟨.MatchAs none none ppos, none, body⟩ :: rest) (kWild s) := pm_weak (pm_wild hb) fun x D σ H ⟨ρ, fp, p, eo, r, q⟩ => ⟨ρ, fp, eo, q⟩
theorem mj_lit (hu : X.A.units + 64 < cLine) (hv : EJ X C W .B value (eC (.str w))) (hb : BJ X C W body s) (hr : CJ X C W rest k) : CJ X C W (⟨.MatchValue value ppos, none, body⟩ :: rest) (kLit w s k) :=
  pm_weak (pm_lit (op_eqD hu) hv hb hr) fun x D σ H ⟨ρ, fp, p, eo, r, q⟩ => by
    refine ⟨ρ, fp, eo, ?_⟩
    show Out (Res.ok (PV.str w)) _ _
    intro v H1 s1 r1
    unfold kLit litS at q
    cases e : gEq p (.str w) with
    | none => rw [e] at q; exact q.elim
    | some b =>
      rw [e] at q
      refine cmp_eq p (.str w) b H1 x v _ e (Rep.same (A := fun _ => True) s1 r) (RepM.toB r1) ⟨b, rfl, ?_⟩
      cases b with
      | true => exact ⟨ρ, fp, eo.same s1, FlQ.later (Grow.same s1) q⟩
      | false => exact ⟨ρ, fp, p, eo.same s1, Rep.same (A := fun _ => True) s1 r, FlQ.later (Grow.same s1) q⟩
end
@[simp] theorem m_sMatch (f : E) (k : CS) (ρ : Env) : sMatch f k ρ = withR (f ρ) ρ fun p => k p ρ := (rfl)
@[simp] theorem m_kWild (s : S) (p : PV) (ρ : Env) : kWild s p ρ = s ρ := (rfl)
@[simp] theorem m_kLit (w : Tx) (s : S) (k : CS) (p : PV) (ρ : Env) : kLit w s k p ρ = litS (gEq p (.str w)) s (k p) ρ := (rfl)
@[simp] theorem litS_some (b : Bool) (s1 s2 : S) (ρ : Env) : litS (some b) s1 s2 ρ = if b = true then s1 ρ else s2 ρ := by cases b <;> rfl
/-! not of anything -/
section
variable {X : Cx} {C : Addr → Prop} {W : WX} {a : Expr} {pos : Pos} {ta : TE} {m m1 : Mode} {f1 : E}
theorem pe_notT (ha : PE X a ta) : PE X (.UnaryOp .Not a pos) (fun σ H Q => ta σ H fun x H1 => ∃ k, TruV X.K x H1 k ∧ Q (.bl (!k)) H1) := by
  refine ⟨fun pins s σ H Q I h => ?_⟩
  refine UnaryOp_ (thn (ha.run pins s σ H _ I h) fun v s1 ⟨x, H1, I1, r1, k, q1, q2⟩ => ?_)
  exact not_of (thn (tru_ok pins s1 σ H1 x v (fun b H2 => Q (.bl (!b)) H2) I1 r1 ⟨k, q1, q2⟩) fun b s2 ⟨H2, I2, q⟩ => ⟨.bl (!b), H2, I2, rfl, q⟩)
def eNotT (f1 : E) : E := fun ρ => f1 ρ >>= truth >>= fun b => .ok (.bl (!b))
theorem ej_notT (h1 : EJ X C W m1 a f1) : EJ X C W m (.UnaryOp .Not a pos) (eNotT f1) := pe_weak (pe_notT h1) fun σ H Q ⟨ρ, fp, eo, o⟩ => by
  unfold eNotT at o
  cases e : f1 ρ with
  | bad => rw [e] at o; exact o.elim
  | exc c fs => rw [e] at o; exact ⟨ρ, fp, eo, by rw [e]; exact o⟩
  | ok p =>
    rw [e] at o
    have o : Out (truth p >>= fun b => Res.ok (PV.bl (!b))) (fun p => ∀ (v : V) (H' : Hp), Same H H' → RepM X.K C fp m H' p v → Q v H') (XQ X.K W σ H) := o
    refine ⟨ρ, fp, eo, ?_⟩
    rw [e]
    intro v H1 s1 r1
    cases z : truth p with
    | ok b => rw [z] at o; exact ⟨b, tru_of z (RepM.toB r1), o _ H1 s1 (atom_bl _).rm⟩
    | exc c fs => exact (truth_noexc z).elim
    | bad => rw [z] at o; exact o.elim
end
@[simp] theorem m_eNotT (f1 : E) (ρ : Env) : eNotT f1 ρ = f1 ρ >>= truth >>= fun b => .ok (.bl (!b)) := (rfl)
end Fz
end
section
/-! Fyv: match of a tuple with patterns ("word", name, ..). -/
namespace Fz
open PySem PySem.Spec PyProof.Rows L2
def caps (ns : List (Str × Pos)) : List Pattern := ns.map fun n => .MatchAs none (some n.1) n.2
theorem caps_star : ∀ (ns : List (Str × Pos)), (caps ns).findIdx? (·.isStar) = none
  | [] => rfl
  | n :: ns => by
    have ih := caps_star ns
    unfold caps at ih ⊢
    rw [List.map_cons, List.findIdx?_cons]
    rw [ih]; rfl
section
variable {M : Model} {A : Around} {E : Value → Shared → Prop} {s : Shared} {env : PySem.Env}
theorem each_caps (env : PySem.Env) : ∀ (ns : List (Str × Pos)) (us : List Value) (Q : Option (List (Str × Value)) → Shared → Prop) (s : Shared), us.length = ns.length → Q (some ((ns.map (·.1)).zip us)) s → wpAny M A (matchEach (caps ns) env us) Q E s
  | [], [], _, _, _, h => wpAny_matchEach_nil h
  | [], _ :: _, _, _, hl, _ => by cases hl
  | _ :: _, [], _, _, hl, _ => by cases hl
  | n :: ns, u :: us, Q, s, hl, h => by
    have ih := each_caps env ns us (fun r' s₂ => match r' with | none => Q none s₂ | some more => Q (some ([(n.1, u)] ++ more)) s₂) s (by simpa using hl) h
    have e : caps (n :: ns) = .MatchAs none (some n.1) n.2 :: caps ns := rfl
    rw [e]
    exact wpAny_matchEach_cons (wpAny_matchPattern_Capture ih)
end
/-- names bound by a pattern -/
structure PB (X : Cx) (ns : List Str) (t : TGs) : Prop where
  run : ∀ (pins : List (Addr × Obj)) (s : Shared) (σ : L2.St) (H : Hp) (vs : List V) (us : List Value) (Q : L2.St → Hp → Prop), Inv X pins σ H s → Vals vs us → t vs σ H Q →
    wpAny (model X.prog X.w) X.A (assignInOrder (ns.map fun n => bindName X.env n) us) (fun _ s' => ∃ σ' H', Inv X pins σ' H' s' ∧ Q σ' H') X.xe s
section
variable {X : Cx}
theorem pb_nil : PB X [] gNil := ⟨fun pins s σ H vs us Q I r h => by
  obtain ⟨e, h⟩ := h
  subst e
  cases r
  exact assignInOrder_nil ⟨σ, H, I, h⟩⟩
theorem pb_cons {i : Nat} {x : Str} {ns : List Str} {u : TGs} (hN : X.N.Nodup) (hi : X.N[i]? = some x) (hx : Loc X.env.scope x) (h2 : PB X ns u) (hf : X.fn x = true ∨ X.env.scope.names.lookup x = some .local := by first | exact .inl rfl | exact .inr rfl | assumption) : PB X (x :: ns) (gCons (gName i) u) := ⟨fun pins s σ H vs us Q I r h => by
  obtain ⟨v, vr, e1, h⟩ := h
  subst e1
  cases r with
  | cons r rr =>
    refine assignInOrder_cons (wpAny_bindName (store_ok I hN hi hx r (fun s1 I1 => ?_) hf))
    exact h2.run pins s1 _ H _ _ Q I1 rr h⟩
theorem pb_weak {ns : List Str} {t t' : TGs} (h : PB X ns t) (w : ∀ v σ H Q, t' v σ H Q → t v σ H Q) : PB X ns t' := ⟨fun pins s σ H v u Q I r q => h.run pins s σ H v u Q I r (w v σ H Q q)⟩
end
section
variable {X : Cx} {value : Expr} {spos vpos : Pos} {body : List Stmt} {rest : List MatchCase} {tv : TE} {tb : TS} {tr : V → TS} {tg : TGs}
/-- a tuple: its length, then its first item, then the others to names -/
theorem pm_tup {r : R2} {ns : List (Str × Pos)} (hc : X.calm = true) (ho : OpR X (compareOp .Eq) r) (hv : PE X value tv) (hg : PB X (ns.map (·.1)) tg) (hb : PSs X body tb) (hr : PMc X rest tr) (hne : ns ≠ []) :
    PMc X (⟨.MatchSequence (.MatchValue value vpos :: caps ns) spos, none, body⟩ :: rest) (fun x D σ H => ∃ a xs, x = .ref a ∧ SqT X.K H a xs ∧
      ((xs.length ≠ ns.length + 1 ∧ tr x D σ H) ∨ ∃ y ys, xs = y :: ys ∧ ys.length = ns.length ∧ tv σ H fun c H1 => r y c H1 fun z H2 => ∃ b, z = .bl b ∧ (if b = true then tg ys σ H2 (fun σ' H3 => tb D σ' H3) else tr x D σ H2))) :=
  ⟨fun first pins s σ H D x v I rx h => by
    obtain ⟨a, xs, e1, hq, h⟩ := h
    subst e1
    cases rx
    obtain ⟨its, rv, hT, hz⟩ := I.tuple hq
    have zz : sizeLine < 2 ^ 63 := by decide
    have fit : (its.toArray.size : Int) < 2 ^ 63 := by
      have := rv.length
      simp
      omega
    refine wpAny_matchCases_cons ?_
    have hst : (Pattern.MatchValue value vpos :: caps ns).findIdx? (·.isStar) = none := by
      rw [List.findIdx?_cons, caps_star ns]; rfl
    have hw : ((Pattern.MatchValue value vpos :: caps ns).all fun p => p.isWildcard || (p.isStar && p.names.isEmpty)) = false := by
      rw [List.all_cons]; rfl
    have cl : (caps ns).length = ns.length := by simp [caps]
    rcases h with ⟨hl, h⟩ | ⟨y, ys, e2, hl, h⟩
    · refine matchSeq_tuple_miss hT fit (by have := rv.length; simp [cl]; omega) ?_ hst hw
      exact hr.run false pins _ σ H D (.ref a) (.ref a) (I.tok _) rfl h
    · subst e2
      obtain ⟨u, us, rfl, ry, rys⟩ : ∃ u us, its = u :: us ∧ RelV y u ∧ Vals ys us := by
        cases rv with
        | cons a b => exact ⟨_, _, rfl, a, b⟩
      have hus : us.length = ns.length := by rw [← rys.length]; exact hl
      refine matchSeq_tuple_hit hT fit (by simp [cl, hus]) ?_ hst hw
      have I0 : Inv X pins σ H { s with toks := s.toks + 1 + 1 } := I.tok _
      have hT0 : IsTup s.heap a (u :: us).toArray := hT
      have sz : (Pattern.MatchValue value vpos :: caps ns).length = (u :: us).toArray.size := by simp [cl, hus]
      rw [sz]
      refine unpackItems_tuple (I0.ok.hd hc) hT0 fun h' hx => ?_
      have I1 : Inv X pins σ H { s with heap := h', toks := s.toks + 1 + 1 } := I0.kept (t' := s.toks + 1 + 1) fun b o e => hx b o (Nat.ne_of_lt (Heap.lt_size e)) e
      show wpAny _ _ (matchEach (.MatchValue value vpos :: caps ns) X.env (u :: us)) _ _ _
      refine wpAny_matchEach_cons (wpAny_matchPattern_Value (thn (hv.run pins _ σ H _ I1 h) fun w s1 ⟨c, H1, I2, rc, q1⟩ => thn (ho pins s1 σ H1 y c u w _ I2 ry rc q1) fun z s2 ⟨zz', H2, I3, rz, b, e, q2⟩ => ?_))
      subst e
      cases rz
      refine wpAny_truthy_bool ?_
      cases b with
      | false => exact hr.run false pins s2 σ H2 D (.ref a) (.ref a) I3 rfl q2
      | true =>
        refine each_caps X.env ns us _ s2 hus ?_
        have e3 : ((ns.map (·.1)).zip us).map (·.2) = us := by
          rw [List.map_snd_zip]
          simp [hus]
        have e4 : ((ns.map (·.1)).zip us).map (fun p => bindName X.env p.1) = ns.map fun n => bindName X.env n.1 := by
          have : ((ns.map (·.1)).zip us).map (·.1) = ns.map (·.1) := by
            rw [List.map_fst_zip]
            simp [hus]
          calc ((ns.map (·.1)).zip us).map (fun p => bindName X.env p.1) = (((ns.map (·.1)).zip us).map (·.1)).map (bindName X.env) := by rw [List.map_map]; rfl
            _ = _ := by rw [this, List.map_map]; rfl
        show wpAny _ _ (assignInOrder (((ns.map (·.1)).zip us).map fun p => bindName X.env p.1) (((ns.map (·.1)).zip us).map (·.2))) _ _ _
        rw [e3, e4, show (ns.map fun n => bindName X.env n.1) = (ns.map (·.1)).map fun n => bindName X.env n by rw [List.map_map]; rfl]
        exact thn (hg.run pins s2 σ H2 ys us _ I3 rys q2) fun _ s3 ⟨σ', H3, I4, q3⟩ => hb.run pins s3 σ' H3 D I4 q3⟩
end
def GBs (X : Cx) (C : Addr → Prop) (vs : List Nat) (ns : List Str) (g : Gs) : Prop := PB X ns (tGts vs X.K C g)
theorem gbs_nil {X : Cx} {C : Addr → Prop} {vs : List Nat} : GBs X C vs [] gsNil := pb_weak pb_nil fun v σ H Q ⟨ρ, fp, ps, ρ', eo, r, hg, k⟩ => by
  cases ps with
  | nil => cases hg; exact ⟨r, k σ fp eo Grow.refl ⟨rfl, fun _ _ => rfl⟩ fun _ _ => rfl⟩
  | cons p ps => cases hg
theorem gbs_cons {X : Cx} {C : Addr → Prop} {ns : List Str} {i : Nat} {x : Str} {h : Gs} {vs : List Nat} (hN : X.N.Nodup) (hi : X.N[i]? = some x) (hx : Loc X.env.scope x) (h2 : GBs X C vs ns h) (hv : i ∈ vs := by decide) (hf : X.fn x = true ∨ X.env.scope.names.lookup x = some .local := by first | exact .inl rfl | exact .inr rfl | assumption) : GBs X C vs (x :: ns) (gsCons (gNm i) h) :=
  pb_weak (pb_cons hN hi hx h2 hf) fun v σ H Q ⟨ρ, fp, ps, ρ', eo, r, hg, k⟩ => by
    cases ps with
    | nil => cases hg
    | cons p ps =>
      obtain ⟨y, t, rfl, r1, r2⟩ := r
      simp only [gsCons, gNm] at hg
      split at hg
      · rename_i hl
        obtain ⟨e1, g1⟩ := eo.setVal hl r1
        refine ⟨y, t, rfl, _, _, ps, ρ', e1, Reps.carry g1.carry r2, hg, fun σ2 fp2 eo2 g2 b2 p2 => ?_⟩
        exact k σ2 fp2 eo2 (g1.trans g2) (But.trans ⟨by simp, fun j hj => List.getElem?_set_ne fun z => hj (by rw [← z]; exact hv)⟩ b2) fun j hj => (p2 j hj).trans (put_ne fun z => hj (by rw [z]; exact hv))
      · cases hg
def tCsE (K : PySem.W.Frag) (C : Addr → Prop) (W : WX) (k : CS) : V → TS := fun x D σ H => ∃ ρ fp p, EnvOk K C ρ σ H fp ∧ Rep K (Am C fp) H p x ∧ FlQ K C W D H fp (k p ρ)
def CJE (X : Cx) (C : Addr → Prop) (W : WX) (cs : List MatchCase) (k : CS) : Prop := PMc X cs (tCsE X.K C W k)
def setS (o : Option Env) (s : S) : Fl := match o with
  | some ρ => s ρ
  | none => .bad
def tupS (n : Nat) (w : Tx) (g : Gs) (s k : S) (ρ : Env) : List PV → Fl
  | q :: qs => if qs.length = n then litS (gEq q (.str w)) (fun ρ => setS (g qs ρ) s) k ρ else k ρ
  | [] => k ρ
def kTup (n : Nat) (w : Tx) (g : Gs) (s : S) (k : CS) : CS := fun p ρ => match p with
  | .tup ps => tupS n w g s (k p) ρ ps
  | _ => .bad
section
variable {X : Cx} {C : Addr → Prop} {W : WX} {subj value : Expr} {pos ppos spos vpos : Pos} {body : List Stmt} {rest cs : List MatchCase} {f : E} {s : S} {k : CS} {w : Tx} {g : Gs} {vs : List Nat}
theorem sj_matchE (hs : EJ X C W .E subj f) (hc : CJE X C W cs k) : SJ X C W (.Match subj cs pos) (sMatch f k) := ps_weak (ps_match hs hc) fun D σ H ⟨ρ, fp, eo, h⟩ =>
  ⟨ρ, fp, eo, (FlQ.ofR eo h).mono (fun p q v H1 s1 r1 => ⟨ρ, fp, p, eo.same s1, r1, FlQ.later (Grow.same s1) q⟩) fun _ _ q => q⟩
theorem mjE_wild (hb : BJ X C W body s) : CJE X C W (⟨.MatchAs none none ppos, none, body⟩ :: rest) (kWild s) := pm_weak (pm_wild hb) fun x D σ H ⟨ρ, fp, p, eo, r, q⟩ => ⟨ρ, fp, eo, q⟩
theorem mjE_tup {ns : List (Str × Pos)} (hc : X.calm = true) (hu : X.A.units + 64 < cLine) (hv : EJ X C W .B value (eC (.str w))) (hg : GBs X C vs (ns.map (·.1)) g) (hb : BJ X C W body s) (hr : CJE X C W rest k) (hne : ns ≠ []) :
    CJE X C W (⟨.MatchSequence (.MatchValue value vpos :: caps ns) spos, none, body⟩ :: rest) (kTup ns.length w g s k) :=
  pm_weak (pm_tup hc (op_eqD hu) hv hg hb hr hne) fun x D σ H ⟨ρ, fp, p, eo, r, q⟩ => by
    cases p with
    | tup ps =>
      obtain ⟨a, xs, e1, ha, rr⟩ := id r
      have q : FlQ X.K C W D H fp (tupS ns.length w g s (k (.tup ps)) ρ ps) := q
      refine ⟨a, xs, e1, SqT.of ha, ?_⟩
      cases ps with
      | nil =>
        have : xs = [] := rr
        subst this
        exact .inl ⟨by simp, ρ, fp, _, eo, r, q⟩
      | cons p0 qs =>
        obtain ⟨y, ys, rfl, r0, rs⟩ := rr
        have q : FlQ X.K C W D H fp (if qs.length = ns.length then litS (gEq p0 (.str w)) (fun ρ => setS (g qs ρ) s) (k (.tup (p0 :: qs))) ρ else k (.tup (p0 :: qs)) ρ) := q
        by_cases hl : qs.length = ns.length
        · rw [if_pos hl] at q
          refine .inr ⟨y, ys, rfl, by rw [rs.length]; exact hl, ρ, fp, eo, ?_⟩
          show Out (Res.ok (PV.str w)) _ _
          intro v H1 s1 r1
          unfold litS at q
          cases e : gEq p0 (.str w) with
          | none => rw [e] at q; exact q.elim
          | some b =>
            rw [e] at q
            refine cmp_eq p0 (.str w) b H1 y v _ e (Rep.any (Rep.same s1 r0)) (RepM.toB r1) ⟨b, rfl, ?_⟩
            cases b with
            | true =>
              have q : FlQ X.K C W D H fp (setS (g qs ρ) s) := q
              cases eg : g qs ρ with
              | none => rw [eg] at q; exact q.elim
              | some ρ1 =>
                rw [eg] at q
                exact ⟨ρ, fp, qs, ρ1, eo.same s1, Reps.same s1 rs, eg, fun σ' fp' e2 g2 _ _ => ⟨ρ1, fp', e2, FlQ.later ((Grow.same s1).trans g2) q⟩⟩
            | false => exact ⟨ρ, fp, _, eo.same s1, Rep.same s1 r, FlQ.later (Grow.same s1) q⟩
        · rw [if_neg hl] at q
          exact .inl ⟨by have := rs.length; simp; omega, ρ, fp, _, eo, r, q⟩
    | _ => exact q.elim
end
@[simp] theorem m_kTup (n : Nat) (w : Tx) (g : Gs) (s : S) (k : CS) (ps : List PV) (ρ : Env) : kTup n w g s k (.tup ps) ρ = tupS n w g s (k (.tup ps)) ρ ps := (rfl)
@[simp] theorem tupS_nil (n : Nat) (w : Tx) (g : Gs) (s k : S) (ρ : Env) : tupS n w g s k ρ [] = k ρ := (rfl)
@[simp] theorem tupS_cons (n : Nat) (w : Tx) (g : Gs) (s k : S) (ρ : Env) (q : PV) (qs : List PV) : tupS n w g s k ρ (q :: qs) = if qs.length = n then litS (gEq q (.str w)) (fun ρ => setS (g qs ρ) s) k ρ else k ρ := (rfl)
@[simp] theorem setS_some (ρ : Env) (s : S) : setS (some ρ) s = s ρ := (rfl)
end Fz
end
section
/-! Fyw: what the text says of its exception classes; the hook with these facts. -/
namespace Fz
open PySem PySem.Spec PyProof.Rows L2
/-- the exception classes: a name, the names of what it inherits (itself too) -/
abbrev Tab := List (String × List String)
def isSub (t : Tab) (c h : String) : Bool := match t.lookup c with
  | some as => as.contains h
  | none => false
def inTab (t : Tab) (c : String) : Bool := (t.lookup c).isSome
def oexB (K : PySem.W.Frag) (C : Addr) : Bool := match K.lookup C with
  | some ⟨.type tn, _, .cls cd, sl⟩ => (match cd.mro, sl.toList with
    | .ref C' :: bm, [_, _, _, _, some (.builtin n), _] => decide (tn = "type") && (C' == C && (decide (n = "ValueError.__new__") && (!cd.hasDel && (cd.hasDict && PySem.HandSPX.refsVE bm))))
    | _, _ => false)
  | _ => false
/-- what one class must have -/
structure XCl (K : PySem.W.Frag) (fl : List String) (C : Addr) : Prop where
  oex : ∃ nm q N bs bm sn sub ab col dd k0 k1 k2 k3 k5, K.lookup C = some (excClassObj nm q C N bs bm true sn sub ab col dd k0 k1 k2 k3 k5 "ValueError.__new__") ∧ PySem.HandSPX.refsVE bm = true
  sa : PySem.W.findIn K (.ref C) "__setattr__" = some (some (.builtin "object.__setattr__"))
  ga : PySem.W.findIn K (.ref C) "__getattribute__" = some (some (.builtin "BaseException.__getattribute__"))
  gg : PySem.W.findIn K (.ref C) "__getattr__" = some none
  cl : PySem.W.findIn K (.ref C) "__class__" = some (some (.builtin "object.__class__"))
  exC : PySem.W.subIn K (.ref C) (.type "BaseException") = some true
  tyC : PySem.W.typeIn K (.ref C) = some (.type "type")
  kC : PySem.W.keepIn K (.ref C) = true
  hd : PySem.W.hasDictIn K C = true
  mo : PySem.W.mroIn K C (.type "object") = some true
  na : ∀ f ∈ fl, PySem.W.findIn K (.ref C) (f : Str) = some none
def xclB (K : PySem.W.Frag) (fl : List String) (C : Addr) : Bool :=
  oexB K C && (decide (PySem.W.findIn K (.ref C) "__setattr__" = some (some (.builtin "object.__setattr__"))) && (decide (PySem.W.findIn K (.ref C) "__getattribute__" = some (some (.builtin "BaseException.__getattribute__"))) &&
  (decide (PySem.W.findIn K (.ref C) "__getattr__" = some none) && (decide (PySem.W.findIn K (.ref C) "__class__" = some (some (.builtin "object.__class__"))) && (decide (PySem.W.subIn K (.ref C) (.type "BaseException") = some true) &&
  (decide (PySem.W.typeIn K (.ref C) = some (.type "type")) && (PySem.W.keepIn K (.ref C) && (PySem.W.hasDictIn K C && (decide (PySem.W.mroIn K C (.type "object") = some true) &&
  fl.all fun f => decide (PySem.W.findIn K (.ref C) (f : Str) = some none))))))))))
theorem oexB_ok {K : PySem.W.Frag} {C : Addr} (h : oexB K C = true) : ∃ nm q N bs bm sn sub ab col dd k0 k1 k2 k3 k5, K.lookup C = some (excClassObj nm q C N bs bm true sn sub ab col dd k0 k1 k2 k3 k5 "ValueError.__new__") ∧ PySem.HandSPX.refsVE bm = true := by
  unfold oexB at h
  split at h
  · rename_i tn dd cd sl ho
    split at h
    · rename_i C' bm k0 k1 k2 k3 n k5 hm hs
      simp only [Bool.and_eq_true, decide_eq_true_eq, beq_iff_eq, Bool.not_eq_true'] at h
      obtain ⟨rfl, rfl, rfl, hdel, hdi, hr⟩ := h
      obtain ⟨nm, bs, mro, ns, qn, hd, sn, sub, ab, col, del⟩ := cd
      dsimp only at hm hdel hdi
      subst hm hdel hdi
      have hsl : sl = #[k0, k1, k2, k3, some (.builtin "ValueError.__new__"), k5] := by
        obtain ⟨l⟩ := sl
        simp only at hs
        rw [hs]
      subst hsl
      exact ⟨nm, qn, ns, bs, bm, sn, sub, ab, col, dd, k0, k1, k2, k3, k5, ho, hr⟩
    · cases h
  · cases h
theorem xclB_ok {K : PySem.W.Frag} {fl : List String} {C : Addr} (h : xclB K fl C = true) : XCl K fl C := by
  unfold xclB at h
  simp only [Bool.and_eq_true, decide_eq_true_eq, List.all_eq_true] at h
  obtain ⟨h1, h2, h3, h4, h5, h6, h7, h8, h9, h10, h11⟩ := h
  exact ⟨oexB_ok h1, h2, h3, h4, h5, h6, h7, h8, h9, h10, h11⟩
theorem XCl.toO {K : PySem.W.Frag} {fl : List String} {C : Addr} (x : XCl K fl C) : OexC K C := ⟨x.oex, x.sa, x.exC, x.tyC, x.kC⟩
theorem XCl.toX {K : PySem.W.Frag} {fl : List String} {C : Addr} (x : XCl K fl C) : XfC K C := ⟨x.ga, x.gg, x.exC, x.hd⟩
/-- the table's facts -/
structure XTab (K : PySem.W.Frag) (t : Tab) (fl : List String) : Prop where
  sp : PySem.W.specialIn K (.builtin "object.__class__") "__get__" = some (some (.builtin "getset_descriptor.__get__"))
  tk : PySem.W.takesIn K (.builtin "object.__class__") = some true
  cls : ∀ c, inTab t c = true → XCl K fl (He.ga K (c : Str))
  exm : ∀ c h, inTab t c = true → inTab t h = true → PySem.W.exmOne K (.ref (He.ga K (c : Str))) (.ref (He.ga K (h : Str))) = some (isSub t c h)
  kit : ∀ c h, inTab t c = true → inTab t h = true → PySem.W.kitOne K (.ref (He.ga K (c : Str))) (.ref (He.ga K (h : Str))) = some (isSub t c h)
def xtabB (K : PySem.W.Frag) (t : Tab) (fl : List String) : Bool :=
  decide (PySem.W.specialIn K (.builtin "object.__class__") "__get__" = some (some (.builtin "getset_descriptor.__get__"))) && (decide (PySem.W.takesIn K (.builtin "object.__class__") = some true) &&
  ((t.map Prod.fst).all fun c => xclB K fl (He.ga K (c : Str)) && (t.map Prod.fst).all fun h =>
    decide (PySem.W.exmOne K (.ref (He.ga K (c : Str))) (.ref (He.ga K (h : Str))) = some (isSub t c h)) && decide (PySem.W.kitOne K (.ref (He.ga K (c : Str))) (.ref (He.ga K (h : Str))) = some (isSub t c h))))
theorem inTab_mem {t : Tab} {c : String} (h : inTab t c = true) : c ∈ t.map Prod.fst := by
  unfold inTab at h
  induction t with
  | nil => cases h
  | cons p t ih =>
    obtain ⟨k, v⟩ := p
    by_cases e : c = k
    · simp [e]
    · have e2 : (c == k) = false := by simpa using e
      simp only [List.lookup_cons, e2] at h
      exact List.mem_cons_of_mem _ (ih h)
theorem xtabB_ok {K : PySem.W.Frag} {t : Tab} {fl : List String} (h : xtabB K t fl = true) : XTab K t fl := by
  unfold xtabB at h
  simp only [Bool.and_eq_true, decide_eq_true_eq, List.all_eq_true] at h
  obtain ⟨h1, h2, h3⟩ := h
  exact ⟨h1, h2, fun c hc => xclB_ok (h3 c (inTab_mem hc)).1, fun c d hc hd => ((h3 c (inTab_mem hc)).2 d (inTab_mem hd)).1, fun c d hc hd => ((h3 c (inTab_mem hc)).2 d (inTab_mem hd)).2⟩
/-! ### the hook -/
inductive FaX where
  | b (f : He.Fa)
  | tab (t : Tab) (fl : List String)
  /-- a class without an own __init__ | with one -/
  | bare (c : String)
  | ini (c : String)
def iniB (K : PySem.W.Frag) (C : Addr) : Bool := decide (PySem.W.findIn K (.ref C) "__init__" = some (some (.ref (He.ma K C "__init__")))) && decide (PySem.W.typeIn K (.ref (He.ma K C "__init__")) = some (.type "function"))
def FaX.ok (K : PySem.W.Frag) : FaX → Bool
  | .b f => f.ok K
  | .tab t fl => xtabB K t fl
  | .bare c => PySem.W.excIn K (He.ga K (c : Str)) He.veBase "ValueError.__new__"
  | .ini c => iniB K (He.ga K (c : Str))
theorem iniB_ok {K : PySem.W.Frag} {C : Addr} (h : iniB K C = true) : PySem.W.findIn K (.ref C) "__init__" = some (some (.ref (He.ma K C "__init__"))) ∧ PySem.W.typeIn K (.ref (He.ma K C "__init__")) = some (.type "function") := by
  unfold iniB at h
  simp only [Bool.and_eq_true, decide_eq_true_eq] at h
  exact h
def obsX (fa : List FaX) (fn : List He.DefD) (K : PySem.W.Frag) : He.AlD := ((fa.all fun f => f.ok K) && fn.all fun d => d.ok K, fn.map fun d => He.fnW K d.at_)
def SaysX (fa : List FaX) (fn : List He.DefD) (K : PySem.W.Frag) : Prop := obsX fa fn K = He.valD fn
def obsXG (n : Nat) (fa : List FaX) (fn : List He.DefD) (g : Addr → Option Obj) : He.AlD := obsX fa fn (He.frG g (He.asD g n))
def hookX (n : Nat) (fa : List FaX) (fn : List He.DefD) : PySem.W.Hook where
  α := He.AlD
  obs := fun s => obsXG n fa fn s.heap.get?
  val := fun _ => He.valD fn
  says := fun _ h => ∃ K : PySem.W.Frag, K.In h ∧ SaysX fa fn K
  of := fun _ _ e => ⟨_, He.frG_in, e⟩
  keeps := fun _ _ _ ⟨K, hK, c⟩ k => ⟨K, PySem.W.Frag.In.keeps hK k, c⟩
theorem obsXG_eq {n : Nat} {fa : List FaX} {fn : List He.DefD} {g : Addr → Option Obj} {s : Shared} (h : ∀ a, g a = s.heap.get? a) : obsXG n fa fn g = (hookX n fa fn).obs s := by
  have e : g = s.heap.get? := funext h
  rw [e] <;> rfl
section
variable {fa : List FaX} {fn : List He.DefD} {K : PySem.W.Frag}
theorem SaysX.fact0 (c : SaysX fa fn K) (i : Nat) {f : FaX} (h : fa[i]? = some f := by rfl) : f.ok K = true :=
  List.all_eq_true.mp (Bool.and_eq_true_iff.mp (congrArg Prod.fst c)).1 f (List.mem_of_getElem? h)
theorem SaysX.fact (c : SaysX fa fn K) (i : Nat) {f : He.Fa} (h : fa[i]? = some (.b f) := by rfl) : f.ok K = true := SaysX.fact0 c i h
theorem SaysX.def_ (c : SaysX fa fn K) (i : Nat) {d : He.DefD} (h : fn[i]? = some d := by rfl) : ∃ fd, FunD K d.name d.qual d.params d.body d.scope (d.dvs K) (d.kws K) (He.fAd K d.at_) fd := by
  have c2 := (Bool.and_eq_true_iff.mp (congrArg Prod.fst c)).2
  have e2 : (fn.map fun d => He.fnW K d.at_)[i]? = (fn.map He.DefD.val)[i]? := congrArg (fun z : He.AlD => z.2[i]?) c
  rw [List.getElem?_map, List.getElem?_map, h] at e2
  exact He.DefD.funD (Option.some.inj e2) (List.all_eq_true.mp c2 d (List.mem_of_getElem? h))
end
end Fz
end
section
/-! Fyx: raise, try .. except, what a suite reads of its exception. -/
namespace Fz
open PySem PySem.Spec PyProof.Rows L2

/-! ### an __init__ that sets one field -/
/-- its promise: the exception has its dict, with this field -/
def spIni (K : PySem.W.Frag) (C : Addr) (f : Str) : Sp := fun vs H Q _ => ∃ (a : Addr) (y : V), vs = [.ref a, y] ∧ H a = some (exo a C none) ∧ ∀ dx, H dx = none → dx ≠ a → Q .non (upd (upd H dx (exd dx [(f, y)])) a (exo a C (some dx)))
section
variable {P : Program} {w : World} {K : PySem.W.Frag} {mg : Str → Option Value} {base : Heap}
theorem ini_ok {fl : List String} {C : Addr} {f x y qual : Str} {params : Arguments} {scope : Scope} {fa : Addr} {fd : FuncData} {p1 p2 p3 pos : Pos} {dn : Str} (F : FunD K dn qual params [.Assign [.Attribute (.Name x p1) f p2] (.Name y p3) pos] scope [] [] fa fd) (Sc : FnScope [x, y] [x, y] scope)
    (T : XCl K fl C) (hf : PySem.W.findIn K (.ref C) f = some none)
    (hx : x ≠ y) (vx : Vis scope x) (vy : Vis scope y) (d1 : (x == ("__debug__" : Str)) = false := by decide) (d2 : (y == ("__debug__" : Str)) = false := by decide) (c1 : (x == ("__classdict__" : Str)) = false := by decide) (c2 : (y == ("__classdict__" : Str)) = false := by decide)
    (hs : ∀ env : PySem.Env, swapsWith (.Name y p3) (some (.Attribute (.Name x p1) f p2)) pos.line env = pure false := by intro _; rfl) :
    FnOk P w K mg base (L2.CX P w) 1 fa fd [x, y] (spIni K C f) := by
  refine F.ok Sc (fun vs H Q E h => ?_) (fun cdv A outer sh H vs Q E hr h => ?_)
  · obtain ⟨a, z, rfl, _⟩ := h
    rfl
  · obtain ⟨a, z, rfl, ha, hq⟩ := h
    refine ⟨_, pss_one (ps_ost (pe_var (i := 0) (x := x) rfl vx d1 c1) (pe_var (i := 1) (x := y) rfl vy d2 c2) (hs _)), ?_⟩
    refine ⟨z, rfl, .ref a, rfl, a, C, rfl, T.toO, hf, .inl ⟨ha, fun dx h1 h2 => hq dx h1 h2⟩⟩
end
/-- making an exception of a class with such an __init__ -/
structure XMk (P : Program) (w : World) (K : PySem.W.Frag) (mg : Str → Option Value) (base : Heap) (c f : String) : Prop where
  ex : ∃ fa fd ps, FnOk P w K mg base (L2.CX P w) 1 fa fd ps (spIni K (He.ga K (c : Str)) (f : Str)) ∧ Binds K fd ps [] ∧ PySem.W.findIn K (.ref (He.ga K (c : Str))) "__init__" = some (some (.ref fa)) ∧ PySem.W.typeIn K (.ref fa) = some (.type "function")
  oex : OexC K (He.ga K (c : Str))
  mg : mg (c : Str) = some (.ref (He.ga K (c : Str)))
structure XBr (K : PySem.W.Frag) (mg : Str → Option Value) (c : String) : Prop where
  exc : PySem.W.excIn K (He.ga K (c : Str)) He.veBase "ValueError.__new__" = true
  oex : OexC K (He.ga K (c : Str))
  mg : mg (c : Str) = some (.ref (He.ga K (c : Str)))
section
variable {X : Cx} {C : Addr → Prop} {W : WX} {e e1 e2 : Expr} {pos p2 pn pa : Pos} {m m1 : Mode} {f f1 : E}
def sRaise (c : String) (fn : String) (f : E) : S := fun ρ => withR (f ρ) ρ fun p => .ex c (some [(fn, p)]) ρ
def sRaise0 (c : String) : S := fun ρ => .ex c none ρ
theorem sj_raise0 {c : String} {mtx : Str} {j : Nat} {p3 : Pos} (B : XBr X.K X.mg c) (hc : X.calm = true) (tk : Takes X W) (hg : Gl X (c : Str)) (hdb : ((c : Str) == ("__debug__" : Str)) = false := by decide) :
    SJ X C W (.Raise (some (.Call (.Name (c : Str) p2) [.Constant (.str mtx) j p3] [] pn)) none pos) (sRaise0 c) :=
  ps_weak (ps_raise hc tk (pmk_own (m := mtx) (j := j) PySem.F.excBase_ValueError B.exc B.mg B.oex.kC (raises_own B.oex.exC B.oex.tyC) hg hdb)) fun D σ H ⟨ρ, fp, eo, h⟩ => h σ H fp eo Grow.refl
theorem sj_raise {k : Nat} {c fn : String} (M : XMk X.prog X.w X.K X.mg X.base c fn) (hr : Room k X.A) (hk : 2 ≤ k) (hc : X.calm = true) (tk : Takes X W) (hg : Gl X (c : Str)) (h : EJ X C W m e f) (hdb : ((c : Str) == ("__debug__" : Str)) = false := by decide)
    (he : starEach [e] X.env = (false, eval e X.env) :: starEach [] X.env := by rfl) (hpl : (backTo pn (starEach [] X.env)).any (·.1) = false := by rfl) :
    SJ X C W (.Raise (some (.Call (.Name (c : Str) p2) [e] [] pn)) none pos) (sRaise c fn f) := by
  obtain ⟨fa, fd, ps, F, hb, iC, tI⟩ := M.ex
  refine ps_weak (ps_raise hc tk (pmk_oex (ds := []) (dvs := []) M.oex iC tI F (hr.mono hk) hb .nil (passes_call (takes0 (X := X)) fun _ _ _ _ z => z) hg M.mg (pa_cons h pa_nil he) hdb he hpl)) fun D σ H ⟨ρ, fp, eo, q⟩ => ?_
  refine ⟨ρ, fp, eo, (FlQ.ofR eo q).mono (fun p o v H1 s1 r1 => ?_) fun _ _ z => z⟩
  refine ⟨by show 1 ≤ 1000; decide, fun a ha => ⟨a, v, rfl, upd_same, fun dx hd hne => ?_⟩⟩
  have hd1 : H1 dx = none := by rwa [upd_ne hne] at hd
  refine ⟨rfl, dx, [((fn : Str), v)], upd_same, by rw [upd_ne hne]; exact upd_same, hd1, ?_⟩
  have eh : upd (del (upd (upd (upd H1 a (exo a (He.ga X.K (c : Str)) none)) dx (exd dx [((fn : Str), v)])) a (exo a (He.ga X.K (c : Str)) (some dx))) a) dx (.xd [((fn : Str), v)]) = upd H1 dx (.xd [((fn : Str), v)]) := by
    funext b
    by_cases h1 : b = dx
    · subst h1; rw [upd_same, upd_same]
    · rw [upd_ne h1, upd_ne h1]
      by_cases h2 : b = a
      · subst h2; rw [del_same, ha]
      · rw [del_ne h2, upd_ne h2, upd_ne h1, upd_ne h2]
  rw [eh]
  have s2 : Same H1 (upd H1 dx (.xd [((fn : Str), v)])) := same_upd hd1
  exact o σ H1 fp (eo.same s1) (Grow.same s1) dx _ [((fn : Str), v)] s2 hd1 upd_same ⟨v, [], rfl, Rep.same s2 (RepM.toB r1), rfl⟩
end

/-! ### what a suite reads -/
def eXf (a : Addr) (od : Option Addr) (i : Nat) (n : String) : E := fun ρ => match ρ[i]? with
  | some (.exn a' od' l) => if a' = a ∧ od' = od ∧ od.isSome = true then ofO (fldP n l) else .bad
  | _ => .bad
def eIsX (a : Addr) (od : Option Addr) (i : Nat) (t : Tab) (c h : String) : E := fun ρ => match ρ[i]? with
  | some (.exn a' od' l) => if a' = a ∧ od' = od then .ok (.bl (isSub t c h)) else .bad
  | _ => .bad
def eIsXs (a : Addr) (od : Option Addr) (i : Nat) (t : Tab) (c : String) (hs : List String) : E := fun ρ => match ρ[i]? with
  | some (.exn a' od' l) => if a' = a ∧ od' = od then .ok (.bl (hs.any fun h => isSub t c h)) else .bad
  | _ => .bad
section
variable {X : Cx} {C : Addr → Prop} {W : WX} {pos p1 p2 pn px : Pos} {m : Mode} {t : Tab} {fl : List String}
theorem exn_in {K : PySem.W.Frag} {ρ : Env} {σ : L2.St} {H : Hp} {fp : Fp} {i : Nat} {a : Addr} {od : Option Addr} {l : List (String × PV)} (eo : EnvOk K C ρ σ H fp) (h : ρ[i]? = some (.exn a od l)) : σ[i]? = some (some (.ref a)) ∧ ∀ d, od = some d → ∃ xs, H d = some (.xd xs) ∧ RepF K (fun _ => False) H l xs := by
  obtain ⟨_, h1, h2⟩ := eo.slot i _ h
  exact ⟨h1, fun d e => by obtain ⟨xs, _, q, r⟩ := h2 d e; exact ⟨xs, q, r⟩⟩
theorem rep_none {K : PySem.W.Frag} {C : Addr → Prop} {fp : Fp} {H : Hp} {p : PV} {v : V} (h : Rep K (fun _ => False) H p v) : RepM K C fp m H p v := by
  cases m with
  | E => exact Rep.sub (fun _ z => z.elim) h
  | I => exact Rep.toI (Rep.sub (fun _ z => z.elim) h)
  | B => exact Rep.sub (fun _ z => z.elim) h
theorem ej_xf {a : Addr} {oe : Obj} {c : String} {od : Option Addr} {pl : List (Addr × Obj)} {i : Nat} {x : Str} {n : String} (T : XTab X.K t fl) (hz : Zc (.ref (He.ga X.K (c : Str))) od oe) (hf : ∃ vs, oe.data = .fields vs) (hc : inTab t c = true) (hn : n ∈ fl)
    (hN : X.N[i]? = some x) (hv : Vis X.env.scope x) (hd : (x == ("__debug__" : Str)) = false := by decide) (hcd : (x == ("__classdict__" : Str)) = false := by decide) (hb : attributeBase (.Name x p1) (n : Str) X.env (eval (.Name x p1) X.env) = eval (.Name x p1) X.env := by rfl) :
    EJ (X.suite a ((a, oe) :: pl)) C W m (.Attribute (.Name x p1) (n : Str) pos) (eXf a od i n) :=
  pe_weak (pe_xf (X := X) (n := (n : Str)) (T.cls c hc).toX ((T.cls c hc).na n hn) hz hf (pe_var (X := X.suite a ((a, oe) :: pl)) hN hv hd hcd) hb) fun σ H Q ⟨ρ, fp, eo, o⟩ => by
    unfold eXf at o
    split at o
    · rename_i a' od' l hi
      split at o
      · rename_i hh
        obtain ⟨rfl, rfl, hs⟩ := hh
        obtain ⟨h1, h2⟩ := exn_in eo hi
        obtain ⟨d, ed⟩ := Option.isSome_iff_exists.mp hs
        obtain ⟨xs, hx, rf⟩ := h2 d ed
        obtain ⟨z, hz', hQ⟩ := Out.ofO o
        obtain ⟨v, hl, rv⟩ := RepF.some rf hz'
        exact ⟨.ref a', h1, rfl, rfl, d, xs, v, ed, hx, hl, hQ v H (Same.refl H) (rep_none rv)⟩
      · exact o.elim
    · exact o.elim
/-- isinstance(e, h) -/
def rIsX (K : PySem.W.Frag) (D a : Addr) (od : Option Addr) : List V → Hp → VK → Prop := fun xs H Q => ∃ (h : Addr) (b : Bool), xs = [.ref a, .ref h] ∧ PySem.W.kitOne K (.ref D) (.ref h) = some b ∧ (∀ d, od = some d → ∃ fs, H d = some (.xd fs)) ∧ Q (.bl b) H
def rIsXs (K : PySem.W.Frag) (D a : Addr) (od : Option Addr) : List V → Hp → VK → Prop := fun xs H Q => ∃ (tp : Addr) (hs : List Addr) (b : Bool), xs = [.ref a, .ref tp] ∧ H tp = some (.tup (hs.map V.ref)) ∧ PySem.W.kitAny K (.ref D) (hs.map Value.ref) = some b ∧ (∀ d, od = some d → ∃ fs, H d = some (.xd fs)) ∧ Q (.bl b) H
theorem inst_of {pins : List (Addr × Obj)} {s : Shared} {σ : L2.St} {H : Hp} {a D : Addr} {oe : Obj} {od : Option Addr} {pl : List (Addr × Obj)} (I : Inv (X.suite a ((a, oe) :: pl)) pins σ H s) (hz : Zc (.ref D) od oe) (hf : ∃ vs, oe.data = .fields vs) (hd : ∀ d, od = some d → ∃ fs, H d = some (.xd fs)) :
    ∃ ob, PySem.W.InstAt s.heap a oe D ob := by
  obtain ⟨ha, _⟩ := I.pin (a, oe) (List.mem_append_left _ List.mem_cons_self)
  obtain ⟨vs, hv⟩ := hf
  cases od with
  | none => exact ⟨none, ha, hz.1, by unfold PySem.W.notCls; rw [hv] <;> rfl, by rw [hz.2]; trivial⟩
  | some d =>
    obtain ⟨fs, hx⟩ := hd d rfl
    have hx : ObjOk (X.suite a ((a, oe) :: pl)).prog (X.suite a ((a, oe) :: pl)).w H s.heap d (.xd fs) := I.hok d _ hx
    obtain ⟨mA, hns, _⟩ := hx
    obtain ⟨o2, ho, _⟩ := lookIn_ns hns
    exact ⟨some o2, ha, hz.1, by unfold PySem.W.notCls; rw [hv] <;> rfl, by rw [hz.2]; exact ho⟩
theorem call_isX {a D : Addr} {oe : Obj} {od : Option Addr} {pl : List (Addr × Obj)} (T : XCl X.K fl D) (hsp : PySem.W.specialIn X.K (.builtin "object.__class__") "__get__" = some (some (.builtin "getset_descriptor.__get__"))) (htk : PySem.W.takesIn X.K (.builtin "object.__class__") = some true)
    (hz : Zc (.ref D) od oe) (hf : ∃ vs, oe.data = .fields vs) : CallR (X.suite a ((a, oe) :: pl)) (.builtin "isinstance") (rIsX X.K D a od) := by
  intro pins s σ H xs us Q I r h
  obtain ⟨hh, b, rfl, e, hd, q⟩ := h
  cases r with
  | @cons _ u1 _ ur rx rr =>
    cases rr with
    | @cons _ u2 _ ur2 rt rr =>
      cases rr
      obtain rfl : u1 = Value.ref a := rx
      obtain rfl : u2 = Value.ref hh := rt
      obtain ⟨ob, J⟩ := inst_of I hz hf hd
      have hcl : (PySem.W.clsIn X.K D).isSome = true := by
        obtain ⟨cd, hc, _⟩ := PySem.W.any_some T.hd
        rw [hc]; rfl
      exact PySem.W.kia_one (PySem.W.kitx_exc hcl T.ga T.gg T.exC T.cl hsp htk T.mo) I.kIn J e (fun z => nomatch z) fun tk => ⟨.bl b, H, I.kept (t' := tk) fun _ _ z => z, rfl, q⟩
theorem vals_refs : ∀ {hs : List Addr} {us : List Value}, Vals (hs.map V.ref) us → us = hs.map Value.ref
  | [], us, r => by cases r; rfl
  | h :: hs, us, r => by
    cases r with
    | @cons _ u _ ur rx rr =>
      obtain rfl : u = Value.ref h := rx
      rw [vals_refs rr]; rfl
theorem call_isXs {a D : Addr} {oe : Obj} {od : Option Addr} {pl : List (Addr × Obj)} (T : XCl X.K fl D) (hsp : PySem.W.specialIn X.K (.builtin "object.__class__") "__get__" = some (some (.builtin "getset_descriptor.__get__"))) (htk : PySem.W.takesIn X.K (.builtin "object.__class__") = some true)
    (hz : Zc (.ref D) od oe) (hf : ∃ vs, oe.data = .fields vs) : CallR (X.suite a ((a, oe) :: pl)) (.builtin "isinstance") (rIsXs X.K D a od) := by
  intro pins s σ H xs us Q I r h
  obtain ⟨tp, hs, b, rfl, ht, e, hd, q⟩ := h
  cases r with
  | @cons _ u1 _ ur rx rr =>
    cases rr with
    | @cons _ u2 _ ur2 rt rr =>
      cases rr
      obtain rfl : u1 = Value.ref a := rx
      obtain rfl : u2 = Value.ref tp := rt
      obtain ⟨ob, J⟩ := inst_of I hz hf hd
      have hcl : (PySem.W.clsIn X.K D).isSome = true := by
        obtain ⟨cd, hc, _⟩ := PySem.W.any_some T.hd
        rw [hc]; rfl
      obtain ⟨its, rv, ⟨o2, ho, hc2, n2, hd2⟩, _⟩ := I.tuple (a := tp) (xs := hs.map V.ref) (.inl (.inl ht))
      rw [vals_refs rv] at hd2
      obtain ⟨oc, odd, oda, osl⟩ := o2
      dsimp only at hc2 hd2
      subst hc2 hd2
      exact PySem.W.kia_tup (PySem.W.kitx_exc hcl T.ga T.gg T.exC T.cl hsp htk T.mo) I.kIn J ho e (fun z => nomatch z) fun tk => ⟨.bl b, H, I.kept (t' := tk) fun _ _ z => z, rfl, q⟩
theorem ej_isX {a : Addr} {oe : Obj} {c h : String} {od : Option Addr} {pl : List (Addr × Obj)} {i : Nat} {x : Str} (T : XTab X.K t fl) (hz : Zc (.ref (He.ga X.K (c : Str))) od oe) (hf : ∃ vs, oe.data = .fields vs) (hc : inTab t c = true) (hh : inTab t h = true)
    (hg : Gl X "isinstance") (hm : X.mg "isinstance" = none) (hgh : Gl X (h : Str)) (hmh : X.mg (h : Str) = some (.ref (He.ga X.K (h : Str))))
    (hN : X.N[i]? = some x) (hv : Vis X.env.scope x) (hd : (x == ("__debug__" : Str)) = false := by decide) (hcd : (x == ("__classdict__" : Str)) = false := by decide) (hdh : ((h : Str) == ("__debug__" : Str)) = false := by decide)
    (he : starEach [.Name x p1, .Name (h : Str) px] X.env = (false, eval (.Name x p1) X.env) :: starEach [.Name (h : Str) px] X.env := by rfl) (he2 : starEach [.Name (h : Str) px] X.env = (false, eval (.Name (h : Str) px) X.env) :: starEach [] X.env := by rfl) (hpl : (backTo pos (starEach [.Name (h : Str) px] X.env)).any (·.1) = false := by rfl) :
    EJ (X.suite a ((a, oe) :: pl)) C W m (.Call (.Name "isinstance" pn) [.Name x p1, .Name (h : Str) px] [] pos) (eIsX a od i t c h) :=
  pe_weak (pe_callB (X := X.suite a ((a, oe) :: pl)) (call_isX (T.cls c hc) T.sp T.tk hz hf) hg hm (by decide +kernel) (pa_cons (pe_var (X := X.suite a ((a, oe) :: pl)) hN hv hd hcd) (pa_cons (pe_glob (X := X.suite a ((a, oe) :: pl)) (v := .ref (He.ga X.K (h : Str))) hgh hmh rfl hdh) pa_nil he2) he) (by decide) (by decide) he hpl) fun σ H Q ⟨ρ, fp, eo, o⟩ => by
    unfold eIsX at o
    split at o
    · rename_i a' od' l hi
      split at o
      · rename_i q
        obtain ⟨rfl, rfl⟩ := q
        obtain ⟨h1, h2⟩ := exn_in eo hi
        exact ⟨.ref a', h1, _, isSub t c h, rfl, T.kit c h hc hh, fun d e => by obtain ⟨xs, q, _⟩ := h2 d e; exact ⟨xs, q⟩, o _ H (Same.refl H) (atom_bl _).rm⟩
      · exact o.elim
    · exact o.elim
def tRefs (vs : List V) : TA := fun σ H Q => Q vs H
theorem pa_cls0 : PA X [] (tRefs []) := pa_weak pa_nil fun σ H Q q => q
theorem pa_cls1 {es : List Expr} {hs : List String} {h : String} (hgh : Gl X (h : Str)) (hmh : X.mg (h : Str) = some (.ref (He.ga X.K (h : Str)))) (r : PA X es (tRefs (hs.map fun h : String => V.ref (He.ga X.K (h : Str))))) (hdh : ((h : Str) == ("__debug__" : Str)) = false := by decide)
    (he : starEach (.Name (h : Str) px :: es) X.env = (false, eval (.Name (h : Str) px) X.env) :: starEach es X.env := by rfl) : PA X (.Name (h : Str) px :: es) (tRefs ((h :: hs).map fun h : String => V.ref (He.ga X.K (h : Str)))) :=
  pa_weak (pa_cons (pe_glob (v := .ref (He.ga X.K (h : Str))) hgh hmh rfl hdh) r he) fun σ H Q q => q
theorem kitAny_of (T : XTab X.K t fl) {c : String} (hc : inTab t c = true) : ∀ {hs : List String}, (hs.all fun h : String => inTab t h) = true → PySem.W.kitAny X.K (.ref (He.ga X.K (c : Str))) (hs.map fun h : String => Value.ref (He.ga X.K (h : Str))) = some (hs.any fun h => isSub t c h)
  | [], _ => rfl
  | h :: hs, ha => by
    simp only [List.all_cons, Bool.and_eq_true] at ha
    simp only [List.map_cons, PySem.W.kitAny, T.kit c h hc ha.1, List.any_cons]
    cases isSub t c h with
    | true => rfl
    | false => simpa using kitAny_of T hc ha.2
theorem ej_isXs {a : Addr} {oe : Obj} {c : String} {hs : List String} {od : Option Addr} {pl : List (Addr × Obj)} {i : Nat} {x : Str} {es : List Expr} {kt : Nat} (T : XTab X.K t fl) (hz : Zc (.ref (He.ga X.K (c : Str))) od oe) (hf : ∃ vs, oe.data = .fields vs) (hc : inTab t c = true) (hh : (hs.all fun h => inTab t h) = true)
    (hg : Gl X "isinstance") (hm : X.mg "isinstance" = none) (ha : PA (X.suite a ((a, oe) :: pl)) es (tRefs (hs.map fun h : String => V.ref (He.ga X.K (h : Str)))))
    (hN : X.N[i]? = some x) (hv : Vis X.env.scope x) (hl : hs.length ≤ sizeLine := by decide) (hd : (x == ("__debug__" : Str)) = false := by decide) (hcd : (x == ("__classdict__" : Str)) = false := by decide)
    (he : starEach [.Name x p1, .Tuple es kt px] X.env = (false, eval (.Name x p1) X.env) :: starEach [.Tuple es kt px] X.env := by rfl) (he2 : starEach [.Tuple es kt px] X.env = (false, eval (.Tuple es kt px) X.env) :: starEach [] X.env := by rfl) (hpl : (backTo pos (starEach [.Tuple es kt px] X.env)).any (·.1) = false := by rfl) :
    EJ (X.suite a ((a, oe) :: pl)) C W m (.Call (.Name "isinstance" pn) [.Name x p1, .Tuple es kt px] [] pos) (eIsXs a od i t c hs) :=
  pe_weak (pe_callB (X := X.suite a ((a, oe) :: pl)) (call_isXs (T.cls c hc) T.sp T.tk hz hf) hg hm (by decide +kernel) (pa_cons (pe_var (X := X.suite a ((a, oe) :: pl)) hN hv hd hcd) (pa_cons (pe_tup ha) pa_nil he2) he) (by decide) (by decide) he hpl) fun σ H Q ⟨ρ, fp, eo, o⟩ => by
    unfold eIsXs at o
    split at o
    · rename_i a' od' l hi
      split at o
      · rename_i q
        obtain ⟨rfl, rfl⟩ := q
        obtain ⟨h1, h2⟩ := exn_in eo hi
        refine ⟨.ref a', h1, by simpa using hl, fun tp htp => ?_⟩
        have s1 : Same H (upd H tp (.tup (hs.map fun h : String => V.ref (He.ga X.K (h : Str))))) := same_upd htp
        refine ⟨tp, hs.map fun h : String => He.ga X.K (h : Str), _, rfl, ?_, ?_, fun d e => ?_, o _ _ s1 (atom_bl _).rm⟩
        · rw [List.map_map]; exact upd_same
        · rw [List.map_map]; exact kitAny_of T hc hh
        · obtain ⟨xs, q, _⟩ := h2 d e; exact ⟨xs, s1 _ _ q⟩
      · exact o.elim
    · exact o.elim
end
end Fz
end
section
/-! Fyy: try .. except. -/
namespace Fz
open PySem PySem.Spec PyProof.Rows L2
def immutF : List (String × PV) → Bool
  | [] => true
  | (_, p) :: l => immut p && immutF l
theorem RepF.immut {K : PySem.W.Frag} {A B : Addr → Prop} {H : Hp} : ∀ {l : List (String × PV)} {xs : List (Str × V)}, immutF l = true → RepF K A H l xs → RepF K B H l xs
  | [], _, _, h => h
  | (f, p) :: l, _, i, h => by
    obtain ⟨x, r, e, h1, h2⟩ := h
    simp only [immutF, Bool.and_eq_true] at i
    exact ⟨x, r, e, Rep.immut i.1 h1, RepF.immut i.2 h2⟩
/-- the end of a suite: its exception's name is gone -/
def dropX (i : Nat) : Fl → Fl
  | .nx ρ => .nx (ρ.set i .u)
  | .bk ρ => .bk (ρ.set i .u)
  | .ct ρ => .ct (ρ.set i .u)
  | .rt o => .rt o
  | .ex _ _ _ => .bad
  | .bad => .bad
def noX : Fl → Fl
  | .ex _ _ _ => .bad
  | f => f
@[simp] theorem dropX_nx (i : Nat) (ρ : Env) : dropX i (.nx ρ) = .nx (ρ.set i .u) := (rfl)
@[simp] theorem dropX_bk (i : Nat) (ρ : Env) : dropX i (.bk ρ) = .bk (ρ.set i .u) := (rfl)
@[simp] theorem dropX_ct (i : Nat) (ρ : Env) : dropX i (.ct ρ) = .ct (ρ.set i .u) := (rfl)
@[simp] theorem dropX_rt (i : Nat) (o : OT) : dropX i (.rt o) = .rt o := (rfl)
@[simp] theorem noX_nx (ρ : Env) : noX (.nx ρ) = .nx ρ := (rfl)
@[simp] theorem noX_bk (ρ : Env) : noX (.bk ρ) = .bk ρ := (rfl)
@[simp] theorem noX_ct (ρ : Env) : noX (.ct ρ) = .ct ρ := (rfl)
@[simp] theorem noX_rt (o : OT) : noX (.rt o) = .rt o := (rfl)
open Classical in
/-- what comes wherever the exception and its dict stand -/
noncomputable def anyX (f : Addr → Addr → Fl) : Fl := if h : ∃ r, ∀ a d, f a d = r then h.choose else .bad
theorem anyX_eq {f : Addr → Addr → Fl} {r : Fl} (h : ∀ a d, f a d = r) : anyX f = r := by
  have hx : ∃ r, ∀ a d, f a d = r := ⟨r, h⟩
  unfold anyX
  rw [dif_pos hx]
  exact (hx.choose_spec 0 0).symm.trans (h 0 0)
@[simp] theorem anyX_c (r : Fl) : anyX (fun _ _ => r) = r := anyX_eq fun _ _ => rfl
theorem anyX_at {f : Addr → Addr → Fl} (h : anyX f ≠ .bad) (a d : Addr) : f a d = anyX f := by
  unfold anyX at h ⊢
  by_cases hx : ∃ r, ∀ a d, f a d = r
  · rw [dif_pos hx]; exact hx.choose_spec a d
  · rw [dif_neg hx] at h; exact (h rfl).elim
abbrev Su := Addr → Option Addr → String → S
/-- except h as e -/
noncomputable def sTryAs (t : Tab) (h : String) (i : Nat) (body : S) (su : Su) : S := fun ρ => match body ρ with
  | .ex c fs ρ' => if inTab t c = true then (if isSub t c h = true then (if i < ρ'.length ∧ immutF (fs.getD []) = true then anyX fun a d => dropX i (su a (fs.map fun _ => d) c (ρ'.set i (.exn a (fs.map fun _ => d) (fs.getD [])))) else .bad) else .ex c fs ρ') else .bad
  | r => r
/-- except h -/
def sTry0 (t : Tab) (h : String) (body : S) (su : S) : S := fun ρ => match body ρ with
  | .ex c fs ρ' => if inTab t c = true then (if isSub t c h = true then noX (su ρ') else .ex c fs ρ') else .bad
  | r => r
section
variable {K : PySem.W.Frag} {C : Addr → Prop} {ρ : Env} {σ : L2.St} {H H' : Hp} {fp : Fp}
theorem EnvOk.stepN {i : Nat} {s' : Slot} {so : Option V} (e : EnvOk K C ρ σ H fp) (ok : Grow H fp H (put fp i []) → i < ρ.length → SlotOk K (Am C (put fp i [])) (fun a => ¬ InF (put fp i []) a) H s' (some so) []) :
    EnvOk K C (ρ.set i s') (σ.set i so) H (put fp i []) ∧ Grow H fp H (put fp i []) := by
  have hnew : ∀ a, InF (put fp i []) a → InF fp a := fun a q => (inF_put q).elim (fun z => nomatch z) fun z => z.1
  have g : Grow H fp H (put fp i []) := ⟨fun _ _ h _ => h, fun _ _ h => h, fun _ _ _ h => h, fun _ h => h, fun a h => .inl (hnew a h)⟩
  refine ⟨⟨by simp [e.len], fun j sl h => ?_, fun j hj => ?_, fun j k a h1 h2 => ?_, fun j => ?_, fun a q => e.cap a (hnew a q), e.new⟩, g⟩
  · by_cases hj : j = i
    · subst hj
      have hl : j < ρ.length := by
        have := (List.getElem?_eq_some_iff.mp h).1
        simpa using this
      rw [List.getElem?_set_self hl] at h
      cases h
      rw [put_same, List.getElem?_set_self (by rw [← e.len]; exact hl)]
      exact ok g hl
    · rw [List.getElem?_set_ne (Ne.symm hj)] at h
      rw [put_ne hj, List.getElem?_set_ne (Ne.symm hj)]
      have := e.slot j sl h
      revert this
      cases sl with
      | u => exact id
      | val p => rintro ⟨f, v, hv, r⟩; exact ⟨f, v, hv, Rep.carry g.carry r⟩
      | bor p => rintro ⟨f, v, hv, r⟩; exact ⟨f, v, hv, Rep.carry g.carryB r⟩
      | exn a od l => rintro ⟨f, hv, r⟩; exact ⟨f, hv, XSl.carry g.carryB r⟩
      | own t => rintro ⟨v, hv, r⟩; exact ⟨v, hv, r.carry g.carry fun a _ o q => q⟩
  · by_cases hji : j = i
    · subst hji; rw [put_same]
    · rw [put_ne hji]; exact e.out j (by simpa using hj)
  · by_cases hj : j = i
    · subst hj; rw [put_same] at h1; cases h1
    · by_cases hk : k = i
      · subst hk; rw [put_same] at h2; cases h2
      · rw [put_ne hj] at h1; rw [put_ne hk] at h2; exact e.inj _ _ _ h1 h2
  · by_cases hj : j = i
    · subst hj; rw [put_same]; exact List.nodup_nil
    · rw [put_ne hj]; exact e.nod j
theorem FlQ.undrop {W : WX} {D : Ends} {i : Nat} : ∀ {r : Fl}, FlQ K C W D H fp (dropX i r) → FlQ K C (fun _ _ _ _ => False) { nx := fun σ' H' => D.nx (σ'.set i none) H', rt := D.rt, bk := fun σ' H' => D.bk (σ'.set i none) H', ct := fun σ' H' => D.ct (σ'.set i none) H' } H fp r
  | .nx ρ, h => fun σ' H' fp' e g => by obtain ⟨e2, g2⟩ := e.stepN (i := i) (s' := .u) (so := none) fun _ _ => rfl; exact h _ _ _ e2 (g.trans g2)
  | .bk ρ, h => fun σ' H' fp' e g => by obtain ⟨e2, g2⟩ := e.stepN (i := i) (s' := .u) (so := none) fun _ _ => rfl; exact h _ _ _ e2 (g.trans g2)
  | .ct ρ, h => fun σ' H' fp' e g => by obtain ⟨e2, g2⟩ := e.stepN (i := i) (s' := .u) (so := none) fun _ _ => rfl; exact h _ _ _ e2 (g.trans g2)
  | .rt o, h => h
  | .ex c fs ρ, h => h.elim
  | .bad, h => h
theorem FlQ.nox {W : WX} {D : Ends} : ∀ {r : Fl}, FlQ K C W D H fp (noX r) → FlQ K C (fun _ _ _ _ => False) D H fp r
  | .nx ρ, h => h
  | .bk ρ, h => h
  | .ct ρ, h => h
  | .rt o, h => h
  | .ex c fs ρ, h => h.elim
  | .bad, h => h
end
section
variable {X : Cx} {C : Addr → Prop} {W : WX} {body suite : List Stmt} {b₀ : Stmt} {np pos pos' : Pos} {t : Tab} {fl : List String} {h : String} {x n : Str} {i : Nat} {sb : S}
abbrev WN : WX := fun _ _ _ _ => False
theorem names_of {h : String} (hg : Gl X (h : Str)) (hm : X.mg (h : Str) = some (.ref (He.ga X.K (h : Str)))) (hd : ((h : Str) == ("__debug__" : Str)) = false) : Names X (h : Str) (.ref (He.ga X.K (h : Str))) := ⟨hg, hd, .inl hm⟩
theorem sj_tryAs {su : Su} (T : XTab X.K t fl) (hs : X.stack = X.env :: X.outer) (hf : X.env.frame = some X.env.locals) (hN : X.N.Nodup) (hi : X.N[i]? = some n) (hln : X.env.kindOf n = some .local) (hg : Gl X (h : Str)) (hm : X.mg (h : Str) = some (.ref (He.ga X.K (h : Str)))) (hh : inTab t h = true) (tk : Takes X W)
    (hb : ∀ (W' : WX) (pn : List (Addr × Obj)) (xe : Value → Shared → Prop), Takes (X.tr pn xe) W' → PassesOwn (model X.prog X.w) X.A X.env xe → BJ (X.tr pn xe) C W' body sb)
    (hsu : ∀ (a : Addr) (oe : Obj) (c : String) (od : Option Addr) (pn : List (Addr × Obj)), inTab t c = true → Zc (.ref (He.ga X.K (c : Str))) od oe → (∃ vs, oe.data = .fields vs) → BJ (X.suite a ((a, oe) :: pn)) C WN (b₀ :: suite) (su a od c))
    (hd : ((h : Str) == ("__debug__" : Str)) = false := by decide) :
    SJ X C W (.Try body [.ExceptHandler (some (.Name (h : Str) np)) (some n) (b₀ :: suite) pos'] [] [] pos) (sTryAs t h i sb su) := by
  refine ps_weak (ps_try_as (ts := fun a cls d D σ H => ∃ c, inTab t c = true ∧ cls = .ref (He.ga X.K (c : Str)) ∧ tS X.K C WN (su a d c) D σ H) (tb := fun W' => tS X.K C W' sb) hs hf hN hi hln (names_of hg hm hd) tk hb (fun a oe cls d pn hz hv => ⟨fun pins s σ H D I q => ?_⟩)) fun D σ H ⟨ρ, fp, eo, q⟩ => ⟨ρ, fp, eo, ?_⟩
  · obtain ⟨c, hc, rfl, q⟩ := q
    exact (hsu a oe c d pn hc hz hv).run pins s σ H D I q
  · unfold sTryAs at q
    cases e : sb ρ with
    | nx ρ' => rw [e] at q; exact q
    | bk ρ' => rw [e] at q; exact q
    | ct ρ' => rw [e] at q; exact q
    | rt o => rw [e] at q; exact q
    | bad => rw [e] at q; exact q
    | ex c fs ρ' =>
      rw [e] at q
      simp only at q
      split at q
      · rename_i hc
        have ex := T.exm c h hc hh
        intro σ' H' fp' e' g'
        split at q
        · rename_i hsb
          split at q
          · rename_i hl
            have fin : ∀ (a d : Addr) (H2 : Hp) (so : Option V), Same H' H2 → so = some (.ref a) → (∀ l, fs = some l → ∃ xs, H' d = none ∧ H2 d = some (.xd xs) ∧ RepF X.K (fun _ => True) H2 l xs) →
                tS X.K C WN (su a (fs.map fun _ => d) c) { nx := fun σ' H' => D.nx (σ'.set i none) H', rt := D.rt, bk := fun σ' H' => D.bk (σ'.set i none) H', ct := fun σ' H' => D.ct (σ'.set i none) H' } (σ'.set i so) H2 := by
              intro a d H2 so s2 hso hx
              have e2 := e'.same s2
              obtain ⟨e3, g3⟩ := e2.stepN (i := i) (s' := .exn a (fs.map fun _ => d) (fs.getD [])) (so := so) fun g _ => ⟨rfl, by rw [hso], fun d' ed => by
                cases fs with
                | none => cases ed
                | some l =>
                  cases ed
                  obtain ⟨xs, h0, h1, h2⟩ := hx l rfl
                  exact ⟨xs, fun z => (inF_put z).elim (fun y => nomatch y) fun y => e'.fresh h0 y.1, h1, RepF.immut hl.2 h2⟩⟩
              refine ⟨_, _, e3, FlQ.undrop (i := i) (W := W) ?_⟩
              have q2 : FlQ X.K C W D H2 (put fp' i []) _ := FlQ.later ((g'.trans (Grow.same s2)).trans g3) q
              have nb : anyX (fun a d => dropX i (su a (fs.map fun _ => d) c (ρ'.set i (.exn a (fs.map fun _ => d) (fs.getD []))))) ≠ .bad := fun z => by rw [z] at q2; exact q2
              rw [← anyX_at nb a d] at q2
              exact q2
            cases fs with
            | none => exact ⟨true, by rw [ex, hsb], fun _ a ha => ⟨c, hc, rfl, fin a a H' _ (Same.refl H') rfl fun l z => by cases z⟩, fun z => by cases z⟩
            | some l => exact fun d H2 xs s2 hd' h2 rf => ⟨true, by rw [ex, hsb], fun _ a ha => ⟨c, hc, rfl, fin a d H2 _ s2 rfl fun l' z => by cases z; exact ⟨xs, hd', h2, rf⟩⟩, fun z => by cases z⟩
          · exact q.elim
        · rename_i hsb
          have hsb : isSub t c h = false := by simpa using hsb
          have q2 := q σ' H' fp' e' g'
          cases fs with
          | none => exact ⟨false, by rw [ex, hsb], (fun z => nomatch z), fun _ => q2⟩
          | some l => exact fun d H2 xs s2 hd' h2 rf => ⟨false, by rw [ex, hsb], (fun z => nomatch z), fun _ => q2 d H2 xs s2 hd' h2 rf⟩
      · exact q.elim
theorem sj_try0 {su : S} (T : XTab X.K t fl) (hs : X.stack = X.env :: X.outer) (hf : X.env.frame = some X.env.locals) (hg : Gl X (h : Str)) (hm : X.mg (h : Str) = some (.ref (He.ga X.K (h : Str)))) (hh : inTab t h = true) (tk : Takes X W)
    (hb : ∀ (W' : WX) (pn : List (Addr × Obj)) (xe : Value → Shared → Prop), Takes (X.tr pn xe) W' → PassesOwn (model X.prog X.w) X.A X.env xe → BJ (X.tr pn xe) C W' body sb)
    (hsu : ∀ (a : Addr) (oe : Obj) (pn : List (Addr × Obj)), BJ (X.suite a ((a, oe) :: pn)) C WN (b₀ :: suite) su)
    (hd : ((h : Str) == ("__debug__" : Str)) = false := by decide) :
    SJ X C W (.Try body [.ExceptHandler (some (.Name (h : Str) np)) none (b₀ :: suite) pos'] [] [] pos) (sTry0 t h sb su) := by
  refine ps_weak (ps_try_only (ts := fun a cls d => tS X.K C WN su) (tb := fun W' => tS X.K C W' sb) hs hf (names_of hg hm hd) tk hb (fun a oe cls d pn hz hv => hsu a oe pn)) fun D σ H ⟨ρ, fp, eo, q⟩ => ⟨ρ, fp, eo, ?_⟩
  unfold sTry0 at q
  cases e : sb ρ with
  | nx ρ' => rw [e] at q; exact q
  | bk ρ' => rw [e] at q; exact q
  | ct ρ' => rw [e] at q; exact q
  | rt o => rw [e] at q; exact q
  | bad => rw [e] at q; exact q
  | ex c fs ρ' =>
    rw [e] at q
    simp only at q
    split at q
    · rename_i hc
      have ex := T.exm c h hc hh
      intro σ' H' fp' e' g'
      split at q
      · rename_i hsb
        have fin : ∀ H2, Same H' H2 → tS X.K C WN su D σ' H2 := fun H2 s2 => ⟨ρ', fp', e'.same s2, FlQ.nox (FlQ.later (g'.trans (Grow.same s2)) q)⟩
        cases fs with
        | none => exact ⟨true, by rw [ex, hsb], fun _ a ha => fin H' (Same.refl H'), fun z => by cases z⟩
        | some l => exact fun d H2 xs s2 hd' h2 rf => ⟨true, by rw [ex, hsb], fun _ a ha => fin H2 s2, fun z => by cases z⟩
      · rename_i hsb
        have hsb : isSub t c h = false := by simpa using hsb
        have q2 := q σ' H' fp' e' g'
        cases fs with
        | none => exact ⟨false, by rw [ex, hsb], (fun z => nomatch z), fun _ => q2⟩
        | some l => exact fun d H2 xs s2 hd' h2 rf => ⟨false, by rw [ex, hsb], (fun z => nomatch z), fun _ => q2 d H2 xs s2 hd' h2 rf⟩
    · exact q.elim
end
end Fz
end
section
/-! Fyz: to reckon with exceptions. -/
namespace Fz
open PySem PySem.Spec PyProof.Rows L2
section
variable (ρ : Env) (i : Nat) (f : E) (s : S) (t : Tab) (c h : String) (fs : Option (List (String × PV))) (su : Su)
@[simp] theorem m_raise (fn : String) : sRaise c fn f ρ = withR (f ρ) ρ fun p => .ex c (some [(fn, p)]) ρ := (rfl)
@[simp] theorem m_raise0 : sRaise0 c ρ = .ex c none ρ := (rfl)
/-- the clause -/
noncomputable def catA (t : Tab) (h : String) (i : Nat) (su : Su) : Fl → Fl
  | .ex c fs ρ' => if inTab t c = true then (if isSub t c h = true then (if i < ρ'.length ∧ immutF (fs.getD []) = true then anyX fun a d => dropX i (su a (fs.map fun _ => d) c (ρ'.set i (.exn a (fs.map fun _ => d) (fs.getD [])))) else .bad) else .ex c fs ρ') else .bad
  | r => r
def cat0 (t : Tab) (h : String) (su : S) : Fl → Fl
  | .ex c fs ρ' => if inTab t c = true then (if isSub t c h = true then noX (su ρ') else .ex c fs ρ') else .bad
  | r => r
@[simp] theorem m_tryAs : sTryAs t h i s su ρ = catA t h i su (s ρ) := by
  unfold sTryAs catA
  cases s ρ <;> rfl
@[simp] theorem m_try0 (su : S) : sTry0 t h s su ρ = cat0 t h su (s ρ) := by
  unfold sTry0 cat0
  cases s ρ <;> rfl
@[simp] theorem catA_nx : catA t h i su (.nx ρ) = .nx ρ := (rfl)
@[simp] theorem catA_bk : catA t h i su (.bk ρ) = .bk ρ := (rfl)
@[simp] theorem catA_ct : catA t h i su (.ct ρ) = .ct ρ := (rfl)
@[simp] theorem catA_rt (o : OT) : catA t h i su (.rt o) = .rt o := (rfl)
@[simp] theorem cat0_nx (su : S) : cat0 t h su (.nx ρ) = .nx ρ := (rfl)
@[simp] theorem cat0_bk (su : S) : cat0 t h su (.bk ρ) = .bk ρ := (rfl)
@[simp] theorem cat0_ct (su : S) : cat0 t h su (.ct ρ) = .ct ρ := (rfl)
@[simp] theorem cat0_rt (su : S) (o : OT) : cat0 t h su (.rt o) = .rt o := (rfl)
@[simp] theorem catA_ex : catA t h i su (.ex c fs ρ) = if inTab t c = true then (if isSub t c h = true then (if i < ρ.length ∧ immutF (fs.getD []) = true then anyX fun a d => dropX i (su a (fs.map fun _ => d) c (ρ.set i (.exn a (fs.map fun _ => d) (fs.getD [])))) else .bad) else .ex c fs ρ) else .bad := (rfl)
@[simp] theorem cat0_ex (su : S) : cat0 t h su (.ex c fs ρ) = if inTab t c = true then (if isSub t c h = true then noX (su ρ) else .ex c fs ρ) else .bad := (rfl)
@[simp] theorem sat_catA (fl : Fl) (P : Po) : sat (catA t h i su fl) P = sat fl { P with ex := fun c fs ρ => sat (catA t h i su (.ex c fs ρ)) P } := by
  cases fl <;> first | (simp only [catA_nx, catA_bk, catA_ct, catA_rt, sat_nx, sat_bk, sat_ct, sat_rt, sat_ex]; done) | (unfold sat catA; rfl)
@[simp] theorem sat_cat0 (su : S) (fl : Fl) (P : Po) : sat (cat0 t h su fl) P = sat fl { P with ex := fun c fs ρ => sat (cat0 t h su (.ex c fs ρ)) P } := by
  cases fl <;> first | (simp only [cat0_nx, cat0_bk, cat0_ct, cat0_rt, sat_nx, sat_bk, sat_ct, sat_rt, sat_ex]; done) | (unfold sat cat0; rfl)
/-! what a suite reads -/
def xfS (a : Addr) (od : Option Addr) (n : String) : Option Slot → Res PV
  | some (.exn a' od' l) => if a' = a ∧ od' = od ∧ od.isSome = true then ofO (fldP n l) else .bad
  | _ => .bad
def xiS (a : Addr) (od : Option Addr) (b : Bool) : Option Slot → Res PV
  | some (.exn a' od' l) => if a' = a ∧ od' = od then .ok (.bl b) else .bad
  | _ => .bad
@[simp] theorem m_eXf (a : Addr) (od : Option Addr) (n : String) : eXf a od i n ρ = xfS a od n ρ[i]? := (rfl)
@[simp] theorem m_eIsX (a : Addr) (od : Option Addr) : eIsX a od i t c h ρ = xiS a od (isSub t c h) ρ[i]? := (rfl)
@[simp] theorem m_eIsXs (a : Addr) (od : Option Addr) (hs : List String) : eIsXs a od i t c hs ρ = xiS a od (hs.any fun h => isSub t c h) ρ[i]? := (rfl)
@[simp] theorem xf_at (a d : Addr) (n : String) (l : List (String × PV)) : xfS a (some d) n (some (.exn a (some d) l)) = ofO (fldP n l) := by simp [xfS]
@[simp] theorem xi_at (a : Addr) (od : Option Addr) (b : Bool) (l : List (String × PV)) : xiS a od b (some (.exn a od l)) = .ok (.bl b) := by simp [xiS]
end
/-! a def that may raise -/
theorem runX (n : Nat) (ms : List Mode) (s : S) (ps : List PV) (h : ps.length = ms.length) {c : String} {fs : Option (List (String × PV))} {ρ : Env} (e : s (slotsOf ms ps ++ List.replicate (n - ps.length) .u) = .ex c fs ρ) : runFn n ms s ps = .exc c fs := by
  unfold runFn
  rw [if_pos h, e]
/-- what a def's end must be: a value | an exception -/
def endsR (R : OT → Prop) (E : String → Option (List (String × PV)) → Prop) : Res OT → Prop
  | .ok o => R o
  | .exc c fs => E c fs
  | .bad => False
def poX (R : OT → Prop) (E : String → Option (List (String × PV)) → Prop) : Po := ⟨fun _ => R (.fz .non), fun _ => False, fun _ => False, R, fun c fs _ => E c fs⟩
@[simp] theorem poX_nx (R : OT → Prop) (E : String → Option (List (String × PV)) → Prop) (ρ : Env) : (poX R E).nx ρ = R (.fz .non) := (rfl)
@[simp] theorem poX_rt (R : OT → Prop) (E : String → Option (List (String × PV)) → Prop) : (poX R E).rt = R := (rfl)
@[simp] theorem poX_ex (R : OT → Prop) (E : String → Option (List (String × PV)) → Prop) (c : String) (fs : Option (List (String × PV))) (ρ : Env) : (poX R E).ex c fs ρ = E c fs := (rfl)
theorem run_res {n : Nat} {ms : List Mode} {s : S} {ps : List PV} (R : OT → Prop) (E : String → Option (List (String × PV)) → Prop) (h : ps.length = ms.length) (hs : sat (s (slotsOf ms ps ++ List.replicate (n - ps.length) .u)) (poX R E)) : endsR R E (runFn n ms s ps) := by
  unfold runFn
  rw [if_pos h]
  unfold sat at hs
  revert hs
  cases s (slotsOf ms ps ++ List.replicate (n - ps.length) .u) with
  | nx ρ => exact fun h => h
  | rt o => exact fun h => h
  | ex c fs ρ => exact fun h => h
  | _ => exact fun h => h.elim
theorem huS {X : Cx} {j : Nat} {a : Addr} {pn : List (Addr × Obj)} (hr : Room j X.A) : Hu (X.suite a pn) := by
  have := hr.un
  show X.A.units + 150 < cLine
  omega
end Fz
end
section
/-! Fyza: try with several clauses, named or not. -/
namespace Fz
open PySem PySem.Spec PyProof.Rows L2
/-- a clause: the slot of its name, its class, what its suite does -/
abbrev Cl := Option Nat × Value × (Addr → Value → Option Addr → TS)
def goneE (i : Nat) (D : Ends) : Ends := ⟨fun s h => D.nx (s.set i none) h, D.rt, fun s h => D.bk (s.set i none) h, fun s h => D.ct (s.set i none) h⟩
def wCl (K : PySem.W.Frag) (Wo : WX) (D : Ends) : List Cl → WX
  | [] => Wo
  | (none, c, t) :: r => fun k d s h => ∃ b, PySem.W.exmOne K k c = some b ∧ (b = true → ∀ a, h a = none → t a k d D s h) ∧ (b = false → wCl K Wo D r k d s h)
  | (some i, c, t) :: r => fun k d s h => ∃ b, PySem.W.exmOne K k c = some b ∧ (b = true → ∀ a, h a = none → t a k d (goneE i D) (s.set i (some (.ref a))) h) ∧ (b = false → wCl K Wo D r k d s h)
inductive ClOk (X : Cx) : List ExceptHandler → List Cl → Prop
  | nil : ClOk X [] []
  | only {x : Str} {c : Value} {t : Addr → Value → Option Addr → TS} {b0 : Stmt} {su : List Stmt} {p1 p2 : Pos} {hs : List ExceptHandler} {l : List Cl} (hc : Names X x c)
      (hu : ∀ (a : Addr) (oe : Obj) (k : Value) (d : Option Addr) (pn : List (Addr × Obj)), Zc k d oe → (∃ vs, oe.data = .fields vs) → PSs (X.suite a ((a, oe) :: pn)) (b0 :: su) (t a k d)) (r : ClOk X hs l) : ClOk X (.ExceptHandler (some (.Name x p1)) none (b0 :: su) p2 :: hs) ((none, c, t) :: l)
  | as {x n : Str} {i : Nat} {c : Value} {t : Addr → Value → Option Addr → TS} {b0 : Stmt} {su : List Stmt} {p1 p2 : Pos} {hs : List ExceptHandler} {l : List Cl} (hi : X.N[i]? = some n) (hl : X.env.kindOf n = some .local) (hc : Names X x c)
      (hu : ∀ (a : Addr) (oe : Obj) (k : Value) (d : Option Addr) (pn : List (Addr × Obj)), Zc k d oe → (∃ vs, oe.data = .fields vs) → PSs (X.suite a ((a, oe) :: pn)) (b0 :: su) (t a k d)) (r : ClOk X hs l) : ClOk X (.ExceptHandler (some (.Name x p1)) (some n) (b0 :: su) p2 :: hs) ((some i, c, t) :: l)
section
variable {X : Cx} {body : List Stmt} {h0 : ExceptHandler} {hds : List ExceptHandler} {l : List Cl} {pos : Pos} {tb : WX → TS} {Wo : WX}
/-- the end of a clause's suite, as the end of the statement -/
theorem cl_end {pins pn : List (Addr × Obj)} {q : Addr × Obj} {a : Addr} {D : Ends} {f : Flow} {s : Shared} (ok : X.Ok) (h : SP (X.suite a (q :: (X.pn ++ pins))) [] D f s) : SP X pins D f s := by
  cases f <;> first
    | (obtain ⟨s6, H6, S6, q6⟩ := h; exact ⟨s6, H6, S6.unsuite ok, q6⟩)
    | (obtain ⟨v6, s6, H6, S6, r6, q6⟩ := h; exact ⟨v6, s6, H6, S6.unsuite ok, r6, q6⟩)
theorem cl_gone {pins : List (Addr × Obj)} {q : Addr × Obj} {a : Addr} {D : Ends} {f : Flow} {s : Shared} {n : Str} {i : Nat} {p : Pos} (ok : X.Ok) (hN : X.N.Nodup) (hi : X.N[i]? = some n) (hl : X.env.kindOf n = some .local) (h : SP (X.suite a (q :: (X.pn ++ pins))) [] (goneE i D) f s) :
    wpAny (model X.prog X.w) X.A (do bindName X.env n .none; unbindBehindTheSuite X.env n p) (fun _ s7 => SP X pins D f s7) X.xe s := by
  cases f <;> first
    | (obtain ⟨s6, H6, S6, q6⟩ := h; exact gone_ok (S6.unsuite ok) hN hi hl fun s7 J7 => ⟨_, _, J7, q6⟩)
    | (obtain ⟨v6, s6, H6, S6, r6, q6⟩ := h; exact gone_ok (S6.unsuite ok) hN hi hl fun s7 J7 => ⟨_, _, _, J7, r6, q6⟩)
theorem ps_clauses (hs : X.stack = X.env :: X.outer) (hf : X.env.frame = some X.env.locals) (hN : X.N.Nodup) (tk : Takes X Wo)
    (hb : ∀ (W : WX) (pn : List (Addr × Obj)) (xe : Value → Shared → Prop), Takes (X.tr pn xe) W → PassesOwn (model X.prog X.w) X.A X.env xe → PSs (X.tr pn xe) body (tb W)) (hh : ClOk X (h0 :: hds) l) :
    PS X (.Try body (h0 :: hds) [] [] pos) (fun D σ H => tb (wCl X.K Wo D l) D σ H) := ⟨fun pins s σ H D I h => by
  have ok := I.ok; have hfr : X.A.frames = some (X.env :: X.outer) := ok.frames.trans (by rw [hs])
  refine wpAny_Try_except (wpAny_mono ((hb (wCl X.K Wo D l) (X.pn ++ pins) (fun e s1 => wpAny (model X.prog X.w) X.A (noteFrame e X.env) (fun _ s2 => wpAny (model X.prog X.w) X.A (setFlight e none) (fun _ s3 => wpAny (model X.prog X.w) X.A (handleBy e X.env (h0 :: hds)) (SP X pins D) X.xe s3) X.xe s2) X.xe s1) (fun u s' xx => ?c) PassesOwn.looking).run [] s σ H D (I.toTry _) h) (fun f s1 hsp => ?n) fun e s1 he => he)
  case n => cases f <;> first
    | (obtain ⟨σ', H', J', q⟩ := hsp; first | exact wpAny_execs_nil ⟨σ', H', J'.ofTry ok, q⟩ | exact ⟨σ', H', J'.ofTry ok, q⟩)
    | (obtain ⟨v, σ', H', J', r, q⟩ := hsp; exact ⟨v, σ', H', J'.ofTry ok, r, q⟩)
  case c =>
    obtain ⟨a, B, sI, pins', σ', H', cls, d, rfl, J', nb, up, sky, na, os, ag, w⟩ := xx
    have J : Inv X pins σ' H' sI := J'.ofTry ok; rw [hs] at sky
    show wpAny (model X.prog X.w) X.A (noteFrame (.ref a) X.env) _ _ _; refine Sky.land Zc.steady hfr hf sky fun h3 fl3 up3 => ?_
    have J3 : Inv X pins σ' H' { s' with heap := h3 } := J.landed nb fl3.1 (up.trans up3) os ag; obtain ⟨oe3, vs3, he3, hz3, hd3⟩ := fl3.there
    have nfr : a ∉ frs (X.env :: X.outer) := fun hm => by obtain ⟨_, o', e', hnf⟩ := fl3.2.2.1.mem hm; rw [he3] at e'; cases e'; exact hnf _ hd3
    have nL : a ≠ X.env.locals := fun z => nfr (List.mem_filterMap.mpr ⟨_, .head _, by rw [hf, z]⟩)
    have nF : a ∉ X.fs := fun hm => by obtain ⟨e, he, q⟩ := List.mem_filterMap.mp hm; exact nfr (List.mem_filterMap.mpr ⟨e, .tail _ he, q⟩)
    have S3 := J3.suite he3 hd3 na nL nF; have LT : PySem.W.Looks (model X.prog X.w) h3 (typeOf (.ref a)) cls := fun A Q E s k q => wpAny_typeOf_ref (k _ _ he3) (by rw [hz3.1]; exact q)
    have test : ∀ {x : Str} {c : Value} {p1 : Pos} {Q E : Value → Shared → Prop}, Names X x c → Q c { s' with heap := h3 } → wpAny (model X.prog X.w) (X.A.mark (some (.ref a))) (eval (.Name x p1) X.env) Q E { s' with heap := h3 } := fun {x c p1 Q E} hc q => by
      obtain ⟨hg, hdbg, hm | ⟨hm, hv, hnn⟩⟩ := hc <;> first | exact ld_glob (X := X.suite a ((a, oe3) :: (X.pn ++ pins))) S3 hg hm q hdbg | exact ld_blt (X := X.suite a ((a, oe3) :: (X.pn ++ pins))) S3 hg hm hv q hnn hdbg
    have into : ∀ {h4 : Heap}, HandSPX.FlyingZ B (X.env :: X.outer) a (Zc cls d) h4 → h3.UpToSlots h4 → ∃ oe4, (∃ vs, oe4.data = .fields vs) ∧ Zc cls d oe4 ∧ Inv (X.suite a ((a, oe4) :: (X.pn ++ pins))) [] σ' H' { s' with heap := h4 } := fun {h4} fl4 up4 => by
      obtain ⟨oe4, vs4, he4, hz4, hd4⟩ := fl4.there; exact ⟨oe4, ⟨vs4, hd4⟩, hz4, (J.landed (s' := { s' with heap := h4 }) nb fl4.1 ((up.trans up3).trans up4) os ag).suite he4 hd4 na nL nF⟩
    have go : ∀ {hs' : List ExceptHandler} {l' : List Cl}, ClOk X hs' l' → wCl X.K Wo D l' cls d σ' H' → wpAny (model X.prog X.w) X.A (handleBy (.ref a) X.env hs') (SP X pins D) X.xe { s' with heap := h3 } := by
      intro hs' l' hk; induction hk with
      | nil =>
        intro w; refine wpAny_handleBy_nil ?_; obtain ⟨k1, k2, k3, oe, vs, T, oT, ts', he, hz, hd, h1, hr⟩ := id fl3
        have fin : wpAny (model X.prog X.w) X.A (setFlight (.ref a) X.env.frame) (fun _ s4 => wpAny (model X.prog X.w) X.A (throw (.ref a) : Sem Flow) (SP X pins D) X.xe s4) X.xe { s' with heap := h3 } := by
          rw [hf]; exact HandSPX.setFlight_upZ fl3 fun h4 hh4 up4 => wpAny_throw (tk _ _ ⟨a, B, sI, pins, σ', H', cls, d, rfl, J, nb, (up.trans up3).trans up4, .inr (.inr (by rw [hs]; exact hh4)), na, os, ag, w⟩)
        unfold PySem.passOn; refine wpAny_bind (wpAny_field he hd h1 ?_); rw [if_neg (show ¬ ((Value.ref T == Value.none) = true) from by simp)]
        first | exact wpAny_bind (wpAny_pure (wpAny_bind fin)) | exact wpAny_bind fin
      | @only x c t b0 su p1 p2 hs2 l2 hc hu r ih =>
        rintro ⟨b, hb1, hyes, hno⟩; have LM := PySem.W.exm_one (M := model X.prog X.w) (J3.kIn) LT hb1
        refine wpAny_handleBy_cons (codeAny_handlers_test (test hc (LM.here ?_))) (by intro q; cases q); cases b with
        | false => exact ih (hno rfl)
        | true =>
          refine codeAny_handlers_suite (HandSPX.lands_againZ fl3 fun h4 fl4 up4 => ?_); obtain ⟨oe4, hd4, hz4, S4⟩ := into fl4 up4
          exact wpAny_mono ((hu a oe4 cls d (X.pn ++ pins) hz4 hd4).run [] _ _ H' _ S4 (hyes rfl a na)) (fun f s6 hsp => cl_end (pn := []) ok hsp) fun _ _ z => False.elim z
      | @as x n i c t b0 su p1 p2 hs2 l2 hi hl hc hu r ih =>
        rintro ⟨b, hb1, hyes, hno⟩; have LM := PySem.W.exm_one (M := model X.prog X.w) (J3.kIn) LT hb1
        refine wpAny_handleBy_cons (codeAny_handlers_test (test hc (LM.here ?_))) (by intro q; cases q); cases b with
        | false => exact ih (hno rfl)
        | true =>
          refine codeAny_handlers_suite_as (HandSPX.lands_againZ fl3 fun h4 fl4 up4 => ?_); obtain ⟨oe4, hd4, hz4, S4⟩ := into fl4 up4
          refine store_ok (X := X.suite a ((a, oe4) :: (X.pn ++ pins))) (v := .ref a) S4 hN hi (.inl hl) rfl (fun s5 S5 => ?_) (.inr hl)
          exact wpAny_mono ((hu a oe4 cls d (X.pn ++ pins) hz4 hd4).run [] s5 _ H' _ S5 (hyes rfl a na)) (fun f s6 hsp => cl_gone ok hN hi hl hsp) fun _ _ z => False.elim z
    exact go hh w⟩
end
end Fz
end
section
/-! Fyzb: try with several clauses, in the layer. -/
namespace Fz
open PySem PySem.Spec PyProof.Rows L2
abbrev ClS := String × Option Nat × Su
noncomputable def catC (o : Option Nat) (su : Su) (c : String) (fs : Option (List (String × PV))) (ρ : Env) : Fl := match o with
  | some i => if i < ρ.length ∧ immutF (fs.getD []) = true then anyX fun a d => dropX i (su a (fs.map fun _ => d) c (ρ.set i (.exn a (fs.map fun _ => d) (fs.getD [])))) else .bad
  | none => anyX fun a d => noX (su a (fs.map fun _ => d) c ρ)
noncomputable def catL (t : Tab) : List ClS → String → Option (List (String × PV)) → Env → Fl
  | [], c, fs, ρ => .ex c fs ρ
  | (h, o, su) :: r, c, fs, ρ => if isSub t c h = true then catC o su c fs ρ else catL t r c fs ρ
noncomputable def catF (t : Tab) (l : List ClS) : Fl → Fl
  | .ex c fs ρ => if inTab t c = true then catL t l c fs ρ else .bad
  | r => r
noncomputable def sTryL (t : Tab) (l : List ClS) (body : S) : S := fun ρ => catF t l (body ρ)
section
variable (t : Tab) (l : List ClS) (ρ : Env) (c h : String) (fs : Option (List (String × PV))) (su : Su) (i : Nat) (body : S)
@[simp] theorem m_tryL : sTryL t l body ρ = catF t l (body ρ) := (rfl)
@[simp] theorem catF_nx : catF t l (.nx ρ) = .nx ρ := (rfl)
@[simp] theorem catF_bk : catF t l (.bk ρ) = .bk ρ := (rfl)
@[simp] theorem catF_ct : catF t l (.ct ρ) = .ct ρ := (rfl)
@[simp] theorem catF_rt (o : OT) : catF t l (.rt o) = .rt o := (rfl)
@[simp] theorem catF_ex : catF t l (.ex c fs ρ) = if inTab t c = true then catL t l c fs ρ else .bad := (rfl)
@[simp] theorem catL_nil : catL t [] c fs ρ = .ex c fs ρ := (rfl)
@[simp] theorem catL_cons (o : Option Nat) : catL t ((h, o, su) :: l) c fs ρ = if isSub t c h = true then catC o su c fs ρ else catL t l c fs ρ := (rfl)
@[simp] theorem catC_some : catC (some i) su c fs ρ = if i < ρ.length ∧ immutF (fs.getD []) = true then anyX fun a d => dropX i (su a (fs.map fun _ => d) c (ρ.set i (.exn a (fs.map fun _ => d) (fs.getD [])))) else .bad := (rfl)
@[simp] theorem catC_none : catC none su c fs ρ = anyX fun a d => noX (su a (fs.map fun _ => d) c ρ) := (rfl)
@[simp] theorem sat_catF (fl : Fl) (P : Po) : sat (catF t l fl) P = sat fl { P with ex := fun c fs ρ => sat (catF t l (.ex c fs ρ)) P } := by
  cases fl <;> first | (simp only [catF_nx, catF_bk, catF_ct, catF_rt, sat_nx, sat_bk, sat_ct, sat_rt, sat_ex]; done) | (unfold sat catF; rfl)
end
section
variable {X : Cx} {C : Addr → Prop} {W : WX} {t : Tab} {fl : List String}
/-- the clauses as they stand, and what they mean -/
inductive ClJ (X : Cx) (C : Addr → Prop) (t : Tab) : List ExceptHandler → List ClS → Prop
  | nil : ClJ X C t [] []
  | only {h : String} {su : Su} {b0 : Stmt} {sts : List Stmt} {p1 p2 : Pos} {hs : List ExceptHandler} {l : List ClS} (hg : Gl X (h : Str)) (hm : X.mg (h : Str) = some (.ref (He.ga X.K (h : Str)))) (hh : inTab t h = true)
      (hu : ∀ (a : Addr) (oe : Obj) (c : String) (od : Option Addr) (pn : List (Addr × Obj)), inTab t c = true → Zc (.ref (He.ga X.K (c : Str))) od oe → (∃ vs, oe.data = .fields vs) → BJ (X.suite a ((a, oe) :: pn)) C WN (b0 :: sts) (su a od c))
      (r : ClJ X C t hs l) (hd : ((h : Str) == ("__debug__" : Str)) = false := by decide) : ClJ X C t (.ExceptHandler (some (.Name (h : Str) p1)) none (b0 :: sts) p2 :: hs) ((h, none, su) :: l)
  | as {h : String} {n : Str} {i : Nat} {su : Su} {b0 : Stmt} {sts : List Stmt} {p1 p2 : Pos} {hs : List ExceptHandler} {l : List ClS} (hi : X.N[i]? = some n) (hl : X.env.kindOf n = some .local) (hg : Gl X (h : Str)) (hm : X.mg (h : Str) = some (.ref (He.ga X.K (h : Str)))) (hh : inTab t h = true)
      (hu : ∀ (a : Addr) (oe : Obj) (c : String) (od : Option Addr) (pn : List (Addr × Obj)), inTab t c = true → Zc (.ref (He.ga X.K (c : Str))) od oe → (∃ vs, oe.data = .fields vs) → BJ (X.suite a ((a, oe) :: pn)) C WN (b0 :: sts) (su a od c))
      (r : ClJ X C t hs l) (hd : ((h : Str) == ("__debug__" : Str)) = false := by decide) : ClJ X C t (.ExceptHandler (some (.Name (h : Str) p1)) (some n) (b0 :: sts) p2 :: hs) ((h, some i, su) :: l)
def suT (X : Cx) (C : Addr → Prop) (t : Tab) (su : Su) : Addr → Value → Option Addr → TS := fun a k d D σ H => ∃ c, inTab t c = true ∧ k = .ref (He.ga X.K (c : Str)) ∧ tS X.K C WN (su a d c) D σ H
def clOf (X : Cx) (C : Addr → Prop) (t : Tab) : List ClS → List Cl := fun l => l.map fun q => (q.2.1, .ref (He.ga X.K (q.1 : Str)), suT X C t q.2.2)
theorem clj_ok {hs : List ExceptHandler} {l : List ClS} (j : ClJ X C t hs l) : ClOk X hs (clOf X C t l) := by
  induction j with
  | nil => exact .nil
  | only hg hm hh hu r hd ih =>
    exact .only (names_of hg hm hd) (fun a oe k d pn hz hv => ⟨fun pins s σ H D I q => by
      obtain ⟨c, hc, rfl, q⟩ := q
      exact (hu a oe c d pn hc hz hv).run pins s σ H D I q⟩) ih
  | as hi hl hg hm hh hu r hd ih =>
    exact .as hi hl (names_of hg hm hd) (fun a oe k d pn hz hv => ⟨fun pins s σ H D I q => by
      obtain ⟨c, hc, rfl, q⟩ := q
      exact (hu a oe c d pn hc hz hv).run pins s σ H D I q⟩) ih
section
variable {K : PySem.W.Frag} {D : Ends} {ρ' : Env} {σ' : L2.St} {H H' H2 : Hp} {fp fp' : Fp} {fs : Option (List (String × PV))} {su : Su} {i : Nat} {c : String}
theorem fin_as (e' : EnvOk K C ρ' σ' H' fp') (g' : Grow H fp H' fp') (hl : immutF (fs.getD []) = true) (q : FlQ K C W D H fp (anyX fun a d => dropX i (su a (fs.map fun _ => d) c (ρ'.set i (.exn a (fs.map fun _ => d) (fs.getD []))))))
    (a d : Addr) (s2 : Same H' H2) (hx : ∀ l, fs = some l → ∃ xs, H' d = none ∧ H2 d = some (.xd xs) ∧ RepF K (fun _ => True) H2 l xs) : tS K C WN (su a (fs.map fun _ => d) c) (goneE i D) (σ'.set i (some (.ref a))) H2 := by
  have e2 := e'.same s2
  obtain ⟨e3, g3⟩ := e2.stepN (i := i) (s' := .exn a (fs.map fun _ => d) (fs.getD [])) (so := some (.ref a)) fun g _ => ⟨rfl, rfl, fun d' ed => by
    cases fs with
    | none => cases ed
    | some l =>
      cases ed
      obtain ⟨xs, h0, h1, h2⟩ := hx l rfl
      exact ⟨xs, fun z => (inF_put z).elim (fun y => nomatch y) fun y => e'.fresh h0 y.1, h1, RepF.immut hl h2⟩⟩
  refine ⟨_, _, e3, FlQ.undrop (i := i) (W := W) ?_⟩
  have q2 : FlQ K C W D H2 (put fp' i []) _ := FlQ.later ((g'.trans (Grow.same s2)).trans g3) q
  have nb : anyX (fun a d => dropX i (su a (fs.map fun _ => d) c (ρ'.set i (.exn a (fs.map fun _ => d) (fs.getD []))))) ≠ .bad := fun z => by rw [z] at q2; exact q2
  rw [← anyX_at nb a d] at q2
  exact q2
theorem fin_no (e' : EnvOk K C ρ' σ' H' fp') (g' : Grow H fp H' fp') (q : FlQ K C W D H fp (anyX fun a d => noX (su a (fs.map fun _ => d) c ρ'))) (a d : Addr) (s2 : Same H' H2) : tS K C WN (su a (fs.map fun _ => d) c) D σ' H2 := by
  refine ⟨_, _, e'.same s2, FlQ.nox (W := W) ?_⟩
  have q2 : FlQ K C W D H2 fp' _ := FlQ.later (g'.trans (Grow.same s2)) q
  have nb : anyX (fun a d => noX (su a (fs.map fun _ => d) c ρ')) ≠ .bad := fun z => by rw [z] at q2; exact q2
  rw [← anyX_at nb a d] at q2
  exact q2
end
/-- the clauses take what comes -/
theorem cl_takes (T : XTab X.K t fl) {D : Ends} {ρ' : Env} {σ' : L2.St} {H H' : Hp} {fp fp' : Fp} {fs : Option (List (String × PV))} {c : String} (hc : inTab t c = true) (e' : EnvOk X.K C ρ' σ' H' fp') (g' : Grow H fp H' fp') {hs : List ExceptHandler} {l : List ClS} (j : ClJ X C t hs l)
    (q : FlQ X.K C W D H fp (catL t l c fs ρ')) : XW X.K (wCl X.K W D (clOf X C t l)) σ' H' c fs := by
  induction j with
  | nil => exact q σ' H' fp' e' g'
  | @only h su b0 sts p1 p2 hs l hg hm hh hu r hd ih =>
    have ex := T.exm c h hc hh
    rw [catL_cons] at q
    split at q
    · rename_i hsb
      rw [hsb] at ex
      rw [catC_none] at q
      cases fs with
      | none => exact ⟨true, ex, fun _ a ha => ⟨c, hc, rfl, fin_no (fs := none) e' g' q a a (Same.refl H')⟩, (fun z => nomatch z)⟩
      | some l => exact fun d H2 xs s2 hd' h2 rf => ⟨true, ex, fun _ a ha => ⟨c, hc, rfl, fin_no (fs := some l) e' g' q a d s2⟩, (fun z => nomatch z)⟩
    · rename_i hsb
      have hsb : isSub t c h = false := by simpa using hsb
      rw [hsb] at ex
      have q2 := ih q
      cases fs with
      | none => exact ⟨false, ex, (fun z => nomatch z), fun _ => q2⟩
      | some l => exact fun d H2 xs s2 hd' h2 rf => ⟨false, ex, (fun z => nomatch z), fun _ => q2 d H2 xs s2 hd' h2 rf⟩
  | @as h n i su b0 sts p1 p2 hs l hi hl hg hm hh hu r hd ih =>
    have ex := T.exm c h hc hh
    rw [catL_cons] at q
    split at q
    · rename_i hsb
      rw [hsb] at ex
      rw [catC_some] at q
      split at q
      · rename_i hl2
        cases fs with
        | none => exact ⟨true, ex, fun _ a ha => ⟨c, hc, rfl, fin_as (fs := none) e' g' hl2.2 q a a (Same.refl H') fun l z => by cases z⟩, (fun z => nomatch z)⟩
        | some l => exact fun d H2 xs s2 hd' h2 rf => ⟨true, ex, fun _ a ha => ⟨c, hc, rfl, fin_as (fs := some l) e' g' hl2.2 q a d s2 fun l' z => by cases z; exact ⟨xs, hd', h2, rf⟩⟩, (fun z => nomatch z)⟩
      · exact q.elim
    · rename_i hsb
      have hsb : isSub t c h = false := by simpa using hsb
      rw [hsb] at ex
      have q2 := ih q
      cases fs with
      | none => exact ⟨false, ex, (fun z => nomatch z), fun _ => q2⟩
      | some l => exact fun d H2 xs s2 hd' h2 rf => ⟨false, ex, (fun z => nomatch z), fun _ => q2 d H2 xs s2 hd' h2 rf⟩
theorem sj_tryL {body : List Stmt} {h0 : ExceptHandler} {hds : List ExceptHandler} {l : List ClS} {sb : S} {pos : Pos} (T : XTab X.K t fl) (hs : X.stack = X.env :: X.outer) (hf : X.env.frame = some X.env.locals) (hN : X.N.Nodup) (tk : Takes X W)
    (hb : ∀ (W' : WX) (pn : List (Addr × Obj)) (xe : Value → Shared → Prop), Takes (X.tr pn xe) W' → PassesOwn (model X.prog X.w) X.A X.env xe → BJ (X.tr pn xe) C W' body sb) (j : ClJ X C t (h0 :: hds) l) :
    SJ X C W (.Try body (h0 :: hds) [] [] pos) (sTryL t l sb) := by
  refine ps_weak (ps_clauses (tb := fun W' => tS X.K C W' sb) hs hf hN tk hb (clj_ok j)) fun D σ H ⟨ρ, fp, eo, q⟩ => ⟨ρ, fp, eo, ?_⟩
  unfold sTryL at q
  cases e : sb ρ with
  | nx ρ' => rw [e] at q; exact q
  | bk ρ' => rw [e] at q; exact q
  | ct ρ' => rw [e] at q; exact q
  | rt o => rw [e] at q; exact q
  | bad => rw [e] at q; exact q
  | ex c fs ρ' =>
    rw [e, catF_ex] at q
    split at q
    · rename_i hc
      exact fun σ' H' fp' e' g' => cl_takes T hc e' g' j q
    · exact q.elim
end
/-- a def under another name of the module -/
theorem def_okA {P : Program} {w : World} {K : PySem.W.Frag} {mg : Str → Option Value} {base : Heap} {x y qual : Str} {params : Arguments} {body : List Stmt} {scope : Scope} {f : Addr} {fd : FuncData} {N ps : List Str} {k : Nat} {ms : List Mode} {s : S} (F : FunD K x qual params body scope [] [] f fd) (Sc : FnScope N ps scope) (hm : ms.length = ps.length) (hN : ms.length ≤ N.length) (hg : mg y = some (.ref f))
    (hbd : ∀ (kV doc pm : Value) (an : Option Addr) (cdv ct : Value) (us : List Value), us.length = ps.length → bindArgs (PySem.W.fnOf x qual params body scope .none kV doc pm an cdv ct) ⟨us, []⟩ = pure (ps.zip us))
    (hb : ∀ (cdv : Value) (A : Around) (outer : List PySem.Env) (sh : Shared) (H : Hp) (E : XK) (C : Addr → Prop), Room k (XD P w K mg base N qual scope f cdv A outer sh H E).A → Takes (XD P w K mg base N qual scope f cdv A outer sh H E) (fun c d _ H => E c d H) →
      PassesOwn (model P w) (XD P w K mg base N qual scope f cdv A outer sh H E).A (XD P w K mg base N qual scope f cdv A outer sh H E).env (XD P w K mg base N qual scope f cdv A outer sh H E).xe → BJ (XD P w K mg base N qual scope f cdv A outer sh H E) C (fun c d _ H => E c d H) body s) :
    DefOk P w K mg base (k + 1) y ps ms (runFn N.length ms s) := ⟨f, fd, fn_ok F Sc hm hN hb, hg, F.kp, F.bindsN hbd⟩
end Fz
end
section
/-! Fyzc: a dict display of several pairs. -/
namespace Fz
open PySem PySem.Spec PyProof.Rows L2
abbrev DS := Env → Res (List (K1 × PV))
def dNil : DS := fun _ => .ok []
def dCons (fk fv : E) (d : DS) : DS := fun ρ => fk ρ >>= fun k => fv ρ >>= fun v => d ρ >>= fun r => ofO ((keyOf k).map fun k => (k, v) :: r)
def mergeA (kvs more : List (K1 × PV)) : List (K1 × PV) := more.foldl (fun acc q => putA acc q.1 q.2) kvs
def disN (kvs : List (K1 × PV)) : Option OT := if kvs.length ≤ 15 then some (.d (mergeA [] kvs)) else none
def oDicN (d : DS) : O := fun ρ => d ρ >>= fun kvs => ofO (disN kvs)
section
variable {K : PySem.W.Frag} {A : Addr → Prop} {H : Hp}
theorem repK_len : ∀ {kvs : List (K1 × PV)} {ks : List (Key × V)}, RepK K A H kvs ks → ks.length = kvs.length
  | [], ks, h => by rw [show ks = [] from h]; rfl
  | (k, p) :: kvs, ks, h => by
    obtain ⟨x, r, rfl, _, h2⟩ := h
    rw [List.length_cons, List.length_cons, repK_len h2]
theorem repK_merge : ∀ {more : List (K1 × PV)} {rs : List (Key × V)} {kvs : List (K1 × PV)} {ks : List (Key × V)}, RepK K A H more rs → RepK K A H kvs ks → RepK K A H (mergeA kvs more) (mergeK ks rs)
  | [], rs, kvs, ks, h, q => by rw [show rs = [] from h]; exact q
  | (k, p) :: more, rs, kvs, ks, h, q => by
    obtain ⟨x, r, rfl, h1, h2⟩ := h
    have e := repK_merge (kvs := putA kvs k p) (ks := putK ks (k1 k) x) h2 (RepK.put q h1 k)
    exact e
end
section
variable {X : Cx} {W : WX}
def tDs (K : PySem.W.Frag) (C : Addr → Prop) (W : WX) (d : DS) (σ : L2.St) (H : Hp) (Q : List (V × V) → Hp → Prop) : Prop :=
  ∃ ρ fp, EnvOk K C ρ σ H fp ∧ Out (d ρ) (fun kvs => ∀ (ks : List (Key × V)) H', Same H H' → RepK K (Am C fp) H' kvs ks → Q (ks.map fun kv => (kV kv.1, kv.2)) H') (XQ K W σ H)
def DJ (X : Cx) (W : WX) (pos : Pos) (keys : List (Option Expr)) (values : List Expr) (d : DS) : Prop :=
  ∃ trs, PPs X pos keys values trs ∧ ∀ C σ H Q, tDs X.K C W d σ H Q → tPairs trs σ H Q
variable {pos : Pos} {e1 e2 : Expr} {ks : List (Option Expr)} {vs : List Expr} {m : Mode} {fk fv : E} {d : DS}
theorem dj_nil : DJ X W pos [] [] dNil := ⟨[], pps_nil, fun C σ H Q ⟨ρ, fp, eo, o⟩ => o [] H (fun _ _ q => q) rfl⟩
theorem dj_cons (hk : ∀ C, EJ X C W m e1 fk) (hv : ∀ C, EJ X C W .E e2 fv) (hr : DJ X W pos ks vs d) : DJ X W pos (some e1 :: ks) (e2 :: vs) (dCons fk fv d) := by
  obtain ⟨trs, hp, hq⟩ := hr
  refine ⟨(fun σ H Q => ∃ C, tE X.K C W m fk σ H Q, fun σ H Q => ∃ C, tE X.K C W .E fv σ H Q) :: trs, pps_cons (pe_ex hk) (pe_ex hv) hp, fun C σ H Q ⟨ρ, fp, eo, o⟩ => ?_⟩
  refine ⟨C, ρ, fp, eo, (Out.bind o).mono (fun k o1 x H1 s1 r1 => ?_) fun _ _ q => q⟩
  refine ⟨C, ρ, fp, eo.same s1, (Out.bind o1).mono (fun v o2 y H2 s2 r2 => ?_) fun _ _ q => XQ.later s1 q⟩
  refine hq C σ H2 _ ⟨ρ, fp, (eo.same s1).same s2, (Out.bind o2).mono (fun r o3 kk H3 s3 r3 => ?_) fun _ _ q => XQ.later (s1.trans s2) q⟩
  obtain ⟨t, ht, hQ⟩ := Out.ofO o3
  obtain ⟨k', hk', rfl⟩ := Option.map_eq_some_iff.mp ht
  have ex : x = kV (k1 k') := rep_key (RepM.toB r1) hk'
  subst ex
  exact hQ ((k1 k', y) :: kk) H3 ((s1.trans s2).trans s3) ⟨y, kk, rfl, Rep.same s3 r2, r3⟩
theorem oj_dicN {C : Addr → Prop} (h : DJ X W pos ks vs d) (hall : ks.all (·.isSome) = true) (hl : ks.length = vs.length) (h0 : ks ≠ []) (h15 : ks.length ≤ 15) : OJ X C W (.Dict ks vs pos) (oDicN d) := by
  obtain ⟨trs, hp, hq⟩ := h
  refine ⟨fun pins s σ H Q I h => ?_⟩
  obtain ⟨ρ, fp, eo, o⟩ := h
  refine (pe_disp hp hall hl h0 h15).run pins s σ H Q I fun p hpn => ?_
  have s0 : Same H (upd H p (.dK [])) := same_upd hpn
  have eo1 : EnvOk X.K (fun a => C a ∧ a ≠ p) ρ σ (upd H p (.dK [])) fp := eo.block (vs := []) rfl hpn s0 (by rw [upd_same]; simp)
  refine hq (fun a => C a ∧ a ≠ p) _ _ _ ⟨ρ, fp, eo1, (Out.bind o).mono (fun kvs o1 kk H2 s2 r2 => ?_) fun _ _ q => XQ.later s0 q⟩
  have p2 : H2 p = some (.dK []) := s2 _ _ upd_same
  obtain ⟨t, ht, hQ⟩ := Out.ofO o1
  unfold disN at ht
  split at ht
  · rename_i hlen
    cases ht
    refine ⟨p2, kk, rfl, by rw [repK_len r2]; exact hlen, ?_⟩
    have sA : Same H (upd H2 p (.dK (mergeK [] kk))) := fun a o' z => by
      have ne : a ≠ p := fun e => by rw [e, hpn] at z; cases z
      rw [upd_ne ne]; exact s2 _ _ (s0 _ _ z)
    refine hQ (.ref p) _ [p] sA (by simp) (fun a ha => by rw [List.mem_singleton.mp ha]; exact hpn) ⟨p, _, rfl, rfl, upd_same, ?_⟩
    refine RepK.carry (Carry.mk' (fun a o' q z => ⟨⟨q.1.1, q.2⟩, fun m => q.1.2 (List.mem_singleton.mp m)⟩) (fun a o' q z => by rw [upd_ne q.1.2]; exact z) (fun a xs z => by rw [upd_ne (fun e => by rw [e, p2] at z; cases z)]; exact z) fun a o' u z => by rw [upd_ne (fun e => by rw [e, p2] at z; cases z)]; exact z) (repK_merge r2 rfl)
  · cases ht
end
section
variable {ρ : Env}
@[simp] theorem m_dNil : dNil ρ = .ok [] := (rfl)
@[simp] theorem m_dCons (fk fv : E) (d : DS) : dCons fk fv d ρ = fk ρ >>= fun k => fv ρ >>= fun v => d ρ >>= fun r => ofO ((keyOf k).map fun k => (k, v) :: r) := (rfl)
@[simp] theorem m_oDicN (d : DS) : oDicN d ρ = d ρ >>= fun kvs => ofO (disN kvs) := (rfl)
end
end Fz
end
section
/-! Fyzd: the head's equation in parts: what is looked at, what is seen, the facts in pieces. -/
namespace Fz
open PySem PySem.W PySem.Calls
/-- the hook over all the addresses below n -/
def obsNG (n : Nat) (fa : List FaX) (fn : List He.DefD) (g : Addr → Option Obj) : He.AlD := obsX fa fn (He.frG g (List.range n))
def hookN (n : Nat) (fa : List FaX) (fn : List He.DefD) : PySem.W.Hook where
  α := He.AlD
  obs := fun s => obsNG n fa fn s.heap.get?
  val := fun _ => He.valD fn
  says := fun _ h => ∃ K : PySem.W.Frag, K.In h ∧ SaysX fa fn K
  of := fun _ _ e => ⟨_, He.frG_in, e⟩
  keeps := fun _ _ _ ⟨K, hK, c⟩ k => ⟨K, PySem.W.Frag.In.keeps hK k, c⟩
theorem obsNG_eq {n : Nat} {fa : List FaX} {fn : List He.DefD} {g : Addr → Option Obj} {s : Shared} (h : ∀ a, g a = s.heap.get? a) : obsNG n fa fn g = (hookN n fa fn).obs s := by
  have e : g = s.heap.get? := funext h
  rw [e] <;> rfl
def LookR (r : OpenRow) (M : Nat) (w : World) : Prop := ∀ os : OsState, (HandSHeadRun.endF (HandSHeadRun.stepQ (HandSHeadRun.denQ HandSHeadRun.tabQ) r.prog w) M r.prog w os).map (fun s => HandSHeadRun.looksF r.prog (boot_heap w.params) s.abs) = some true
def SeenR (r : OpenRow) (q : Program) (M : Nat) (loose : List PySem.Str) (w : World) : Prop := ∀ os : OsState, (HandSHeadRun.endF (HandSHeadRun.stepQ (HandSHeadRun.denQ HandSHeadRun.tabQ) r.prog w) M r.prog w os).map (fun s => HandSHeadRun.seenQ q loose (importedModules r.prog.main.body) (fun s => xlAt q [] s && recOk r.toRowW.records s) s.abs) = some (openGood q loose)
def ObsR (r : OpenRow) (M : Nat) (n : Nat) (fa : List FaX) (fn : List He.DefD) (w : World) : Prop := ∀ os : OsState, (HandSHeadRun.endF (HandSHeadRun.stepQ (HandSHeadRun.denQ HandSHeadRun.tabQ) r.prog w) M r.prog w os).map (fun s => obsNG n fa fn (HandSHeadRun.getT s)) = some (He.valD fn)
theorem map_one {α β : Type} {o : Option α} {f : α → β} {b : β} (h : o.map f = some b) : ∃ a, o = some a ∧ f a = b := Option.map_eq_some_iff.mp h
theorem run_join {r : OpenRow} {q : Program} {M n : Nat} {fa : List FaX} {fn : List He.DefD} {loose : List PySem.Str} {w : World} (h1 : LookR r M w) (h2 : SeenR r q M loose w) (h3 : ObsR r M n fa fn w) :
    HandSHeadRun.RunEq r q (hookN n fa fn) (fun s => obsNG n fa fn (HandSHeadRun.getT s)) M loose w := fun os => by
  obtain ⟨s, e, a1⟩ := map_one (h1 os)
  obtain ⟨s2, e2, a2⟩ := map_one (h2 os)
  obtain ⟨s3, e3, a3⟩ := map_one (h3 os)
  have x2 : s2 = s := Option.some.inj (e2.symm.trans e)
  have x3 : s3 = s := Option.some.inj (e3.symm.trans e)
  subst x2 x3
  rw [e]
  show some (HandSHeadRun.looksF r.prog (boot_heap w.params) s3.abs, HandSHeadRun.seenQ q loose (importedModules r.prog.main.body) (fun s => xlAt q [] s && recOk r.toRowW.records s) s3.abs, obsNG n fa fn (HandSHeadRun.getT s3)) = _
  rw [a1, a2, a3]
  rfl
theorem obs_join {r : OpenRow} {M n : Nat} {fa fb : List FaX} {fn gn : List He.DefD} {w : World} (h1 : ObsR r M n fa fn w) (h2 : ObsR r M n fb gn w) : ObsR r M n (fa ++ fb) (fn ++ gn) w := fun os => by
  obtain ⟨s, e, a1⟩ := map_one (h1 os)
  obtain ⟨s2, e2, a2⟩ := map_one (h2 os)
  have x2 : s2 = s := Option.some.inj (e2.symm.trans e)
  subst x2
  rw [e]
  show some (obsNG n (fa ++ fb) (fn ++ gn) (HandSHeadRun.getT s2)) = _
  unfold obsNG obsX He.valD at a1 a2 ⊢
  obtain ⟨p1, p2⟩ := Prod.mk.inj a1
  obtain ⟨q1, q2⟩ := Prod.mk.inj a2
  rw [List.all_append, List.all_append, List.map_append, List.map_append, p2, q2]
  rw [Bool.and_eq_true] at p1 q1
  rw [p1.1, p1.2, q1.1, q1.2]
  rfl
end Fz
end
noncomputable section
namespace Lw
open PySem PySem.Spec PyProof.Rows L2 Fz
def top (i : Nat) : Stmt := PySem.Challenge.pw_formsforall_k28_judge_of_closed_lists.main.body.getD i (.Pass ⟨0, 0, 0, 0⟩)
/-- what the top has -/
structure Txt (K : PySem.W.Frag) (mg : Str → Option Value) : Prop where
  nil : True
  f_all : mg "all" = none
  f_bool : mg "bool" = none
  f_int : mg "int" = none
  f_isinstance : mg "isinstance" = none
  f_len : mg "len" = none
  f_list : mg "list" = none
  f_range : mg "range" = none
  f_sorted : mg "sorted" = none
  f_str : mg "str" = none
  f_tuple : mg "tuple" = none
  f_zip : mg "zip" = none
  c_FIGURES : ∃ t, mg "FIGURES" = some (.str (mkS (txt "0123456789")) t)
  c_LETTERS : ∃ t, mg "LETTERS" = some (.str (mkS (txt "abcdefghijklmnopqrstuvwxyz")) t)
  c_LONGEST_NAME : ∃ t, mg "LONGEST_NAME" = some (.int 12 t)

/-! ### _law_changed -/
abbrev st__law_changed : Stmt := top 27
def R__law_changed_1 : S :=
 (sRetV 3)
def b__law_changed : S :=
 (sSeq (sAsg 3 (oLst (lCons (eOfO (oLst lNil)) (lCons (eOfO (oUn gListA (eVar .I 1))) (lCons (eOfO (oBin gAdd (eVar .I 0) (eOfO (oLst (lCons (eC (.str (txt "zzzzzzzzzzzz"))) lNil))))) (lCons (eOfO (oUn gSortA (eOfO (oBin gAdd (eVar .I 0) (eOfO (oLst (lCons (eIx (eVar .I 1) (eBin gMod (eIx (eVar .B 2) (eC (.int 0))) (eUn gLen (eVar .B 1)))) lNil))))))) (lCons (eOfO (oBin gRev (eVar .I 0) (eUn gNeg (eC (.int 1))))) (lCons (eOfO (oUn gTuple (eVar .I 0))) lNil))))))))
 (sSeq (sSeq (sFrz 0) (sAsg 3 (oBin gAdd (eVar .I 3) (eOfO (oLst (lCons (eC .non) (lCons (eOfO oDic0) (lCons (eC (.str (txt ""))) (lCons (eC (.int 0)) (lCons (eOfO (oBin gAdd (eVar .I 0) (eOfO (oLst (lCons (eC .non) lNil))))) (lCons (eOfO (oBin gAdd (eOfO (oLst (lCons (eC (.str (txt "A"))) lNil))) (eVar .I 0))) (lCons (eOfO (oBin gAdd (eVar .I 0) (eOfO (oLst (lCons (eC (.int 5)) lNil))))) (lCons (eOfO (oLst (lCons (eVar .E 0) lNil))) (lCons (eOfO (oLst (lCons (eC (.str (txt "1"))) lNil))) (lCons (eOfO (oBin gAdd (eOfO (oLst (lCons (eC (.str (txt "0a"))) lNil))) (eVar .I 0))) (lCons (eOfO (oBin gAdd (eVar .I 0) (eOfO (oLst (lCons (eC (.str (txt "zz zz"))) lNil))))) lNil))))))))))))))))
 (sSeq (sIf (tOfE (eVar .B 0))
 (sSeq (sAsg 4 (oOfE (eBin gMod (eIx (eVar .B 2) (eC (.int 1))) (eUn gLen (eVar .B 0)))))
 (sSeq (sAsg 3 (oBin gAdd (eVar .I 3) (eOfO (oLst (lCons (eOfO (oBin gAdd (eOfO (oSl (eVar .I 0) pNo (pAt (eVar .B 4)))) (eOfO (oSl (eVar .I 0) (pAt (eOfO (oBin gAdd (eVar .I 4) (eC (.int 1))))) pNo)))) (lCons (eOfO (oBin gAdd (eOfO (oBin gAdd (eOfO (oSl (eVar .I 0) pNo (pAt (eVar .B 4)))) (eOfO (oLst (lCons (eIx (eVar .I 0) (eVar .B 4)) lNil))))) (eOfO (oSl (eVar .I 0) (pAt (eVar .B 4)) pNo)))) (lCons (eOfO (oBin gAdd (eOfO (oBin gAdd (eOfO (oSl (eVar .I 0) pNo (pAt (eVar .B 4)))) (eOfO (oLst (lCons (eC .non) lNil))))) (eOfO (oSl (eVar .I 0) (pAt (eOfO (oBin gAdd (eVar .I 4) (eC (.int 1))))) pNo)))) lNil)))))))
 (sAsg 3 (oBin gAdd (eVar .I 3) (eOfO (oLst (lCons (eOfO (oBin gAdd (eOfO (oBin gAdd (eOfO (oSl (eVar .I 0) pNo (pAt (eVar .B 4)))) (eOfO (oLst (lCons (eTup (lCons (eIx (eVar .I 0) (eVar .B 4)) lNil)) lNil))))) (eOfO (oSl (eVar .I 0) (pAt (eOfO (oBin gAdd (eVar .I 4) (eC (.int 1))))) pNo)))) (lCons (eOfO (oBin gAdd (eOfO (oBin gAdd (eOfO (oSl (eVar .I 0) pNo (pAt (eVar .B 4)))) (eOfO (oLst (lCons (eC (.str (txt ""))) lNil))))) (eOfO (oSl (eVar .I 0) (pAt (eOfO (oBin gAdd (eVar .I 4) (eC (.int 1))))) pNo)))) lNil))))))))
 sNil)
 R__law_changed_1)))
def g__law_changed : Fn := runFn 5 [.E, .E, .B] b__law_changed
theorem sc__law_changed : FnScope ["value", "names", "numbers", "found", "at"] ["value", "names", "numbers"] (defScope st__law_changed) := ⟨rfl, rfl, rfl, by decide +kernel, rfl, by decide +kernel, by decide +kernel⟩
theorem ok__law_changed {P : Program} {w : World} {K : PySem.W.Frag} {mg : Str → Option Value} {base : Heap} {f : Addr} {fd : FuncData} (T : Txt K mg) (F : FunD K "_law_changed" "_law_changed" (defArgs st__law_changed) (defBody st__law_changed) (defScope st__law_changed) [] [] f fd) (hg : mg "_law_changed" = some (.ref f))  :
    DefOk P w K mg base 1 "_law_changed" ["value", "names", "numbers"] [.E, .E, .B] g__law_changed :=
  have Sc := sc__law_changed
  def_ok (k := 0) (N := ["value", "names", "numbers", "found", "at"]) F Sc rfl (by decide) hg (fun _ _ _ _ _ _ us hl => match us, hl with | [_, _, _], _ => rfl) fun cdv A outer sh H E C hr tk po =>
 (bj_cons (sj_asg (i := 3) Sc.nd rfl (.inl rfl) (oj_lst (le_cons (ej_O (oj_lst le_nil)) (le_cons (ej_O (oj_callT1 (call_listA rfl) c_listA rfl T.f_list (by decide +kernel) (ej_var (m := .I) (i := 1) rfl (.inl rfl)))) (le_cons (ej_O (oj_add (ej_var (m := .I) (i := 0) rfl (.inl rfl)) (ej_I (ej_O (oj_lst (le_cons (ej_str (m := .E) (mkS_txt _).symm) le_nil)))))) (le_cons (ej_O (oj_call1 (cr_sortA rfl) c_sortA rfl T.f_sorted (by decide +kernel) (ej_I (ej_O (oj_add (ej_var (m := .I) (i := 0) rfl (.inl rfl)) (ej_I (ej_O (oj_lst (le_cons (ej_ix (huR hr) (ej_var (m := .I) (i := 1) rfl (.inl rfl)) (ej_mod (m := .B) (ej_ixB (huR hr) (ej_var (m := .B) (i := 2) rfl (.inl rfl)) (ej_int (m := .B))) (ej_call1 (m := .B) call_len c_len rfl T.f_len (by decide +kernel) (ej_var (m := .B) (i := 1) rfl (.inl rfl))))) le_nil))))))))) (le_cons (ej_O (oj_rev (ej_var (m := .I) (i := 0) rfl (.inl rfl)) (ej_neg (m := .B) (ej_int (m := .B))))) (le_cons (ej_O (oj_callT1 call_tuple_of c_tuple rfl T.f_tuple (by decide +kernel) (ej_var (m := .I) (i := 0) rfl (.inl rfl)))) le_nil))))))))
 (bj_cons (sj_frz 0 (sj_asg (i := 3) Sc.nd rfl (.inl rfl) (oj_add (ej_var (m := .I) (i := 3) rfl (.inl rfl)) (ej_I (ej_O (oj_lst (le_cons (ej_non (m := .E)) (le_cons (ej_O oj_dic0) (le_cons (ej_str (m := .E) (mkS_txt _).symm) (le_cons (ej_int (m := .E)) (le_cons (ej_O (oj_add (ej_var (m := .I) (i := 0) rfl (.inl rfl)) (ej_I (ej_O (oj_lst (le_cons (ej_non (m := .E)) le_nil)))))) (le_cons (ej_O (oj_add (ej_I (ej_O (oj_lst (le_cons (ej_str (m := .E) (mkS_txt _).symm) le_nil)))) (ej_var (m := .I) (i := 0) rfl (.inl rfl)))) (le_cons (ej_O (oj_add (ej_var (m := .I) (i := 0) rfl (.inl rfl)) (ej_I (ej_O (oj_lst (le_cons (ej_int (m := .E)) le_nil)))))) (le_cons (ej_O (oj_lst (le_cons (ej_var (m := .E) (i := 0) rfl (.inl rfl)) le_nil))) (le_cons (ej_O (oj_lst (le_cons (ej_str (m := .E) (mkS_txt _).symm) le_nil))) (le_cons (ej_O (oj_add (ej_I (ej_O (oj_lst (le_cons (ej_str (m := .E) (mkS_txt _).symm) le_nil)))) (ej_var (m := .I) (i := 0) rfl (.inl rfl)))) (le_cons (ej_O (oj_add (ej_var (m := .I) (i := 0) rfl (.inl rfl)) (ej_I (ej_O (oj_lst (le_cons (ej_str (m := .E) (mkS_txt _).symm) le_nil)))))) le_nil)))))))))))))))))
 (bj_cons (sj_if (tj_val (ej_var (m := .B) (i := 0) rfl (.inl rfl)))
 (bj_cons (sj_asg (i := 4) Sc.nd rfl (.inl rfl) (oj_E (ej_mod (m := .E) (ej_ixB (huR hr) (ej_var (m := .B) (i := 2) rfl (.inl rfl)) (ej_int (m := .B))) (ej_call1 (m := .B) call_len c_len rfl T.f_len (by decide +kernel) (ej_var (m := .B) (i := 0) rfl (.inl rfl))))))
 (bj_cons (sj_asg (i := 3) Sc.nd rfl (.inl rfl) (oj_add (ej_var (m := .I) (i := 3) rfl (.inl rfl)) (ej_I (ej_O (oj_lst (le_cons (ej_O (oj_add (ej_I (ej_O (oj_sl (ej_var (m := .I) (i := 0) rfl (.inl rfl)) pj_none (pj_some (ej_var (m := .B) (i := 4) rfl (.inl rfl)))))) (ej_I (ej_O (oj_sl (ej_var (m := .I) (i := 0) rfl (.inl rfl)) (pj_some (ej_B (ej_O (oj_add (ej_var (m := .I) (i := 4) rfl (.inl rfl)) (ej_int (m := .I)))))) pj_none))))) (le_cons (ej_O (oj_add (ej_I (ej_O (oj_add (ej_I (ej_O (oj_sl (ej_var (m := .I) (i := 0) rfl (.inl rfl)) pj_none (pj_some (ej_var (m := .B) (i := 4) rfl (.inl rfl)))))) (ej_I (ej_O (oj_lst (le_cons (ej_ix (huR hr) (ej_var (m := .I) (i := 0) rfl (.inl rfl)) (ej_var (m := .B) (i := 4) rfl (.inl rfl))) le_nil))))))) (ej_I (ej_O (oj_sl (ej_var (m := .I) (i := 0) rfl (.inl rfl)) (pj_some (ej_var (m := .B) (i := 4) rfl (.inl rfl))) pj_none))))) (le_cons (ej_O (oj_add (ej_I (ej_O (oj_add (ej_I (ej_O (oj_sl (ej_var (m := .I) (i := 0) rfl (.inl rfl)) pj_none (pj_some (ej_var (m := .B) (i := 4) rfl (.inl rfl)))))) (ej_I (ej_O (oj_lst (le_cons (ej_non (m := .E)) le_nil))))))) (ej_I (ej_O (oj_sl (ej_var (m := .I) (i := 0) rfl (.inl rfl)) (pj_some (ej_B (ej_O (oj_add (ej_var (m := .I) (i := 4) rfl (.inl rfl)) (ej_int (m := .I)))))) pj_none))))) le_nil))))))))
 (bj_one (sj_asg (i := 3) Sc.nd rfl (.inl rfl) (oj_add (ej_var (m := .I) (i := 3) rfl (.inl rfl)) (ej_I (ej_O (oj_lst (le_cons (ej_O (oj_add (ej_I (ej_O (oj_add (ej_I (ej_O (oj_sl (ej_var (m := .I) (i := 0) rfl (.inl rfl)) pj_none (pj_some (ej_var (m := .B) (i := 4) rfl (.inl rfl)))))) (ej_I (ej_O (oj_lst (le_cons (ej_tup (le_cons (ej_ix (huR hr) (ej_var (m := .I) (i := 0) rfl (.inl rfl)) (ej_var (m := .B) (i := 4) rfl (.inl rfl))) le_nil)) le_nil))))))) (ej_I (ej_O (oj_sl (ej_var (m := .I) (i := 0) rfl (.inl rfl)) (pj_some (ej_B (ej_O (oj_add (ej_var (m := .I) (i := 4) rfl (.inl rfl)) (ej_int (m := .I)))))) pj_none))))) (le_cons (ej_O (oj_add (ej_I (ej_O (oj_add (ej_I (ej_O (oj_sl (ej_var (m := .I) (i := 0) rfl (.inl rfl)) pj_none (pj_some (ej_var (m := .B) (i := 4) rfl (.inl rfl)))))) (ej_I (ej_O (oj_lst (le_cons (ej_str (m := .E) (mkS_txt _).symm) le_nil))))))) (ej_I (ej_O (oj_sl (ej_var (m := .I) (i := 0) rfl (.inl rfl)) (pj_some (ej_B (ej_O (oj_add (ej_var (m := .I) (i := 4) rfl (.inl rfl)) (ej_int (m := .I)))))) pj_none))))) le_nil))))))))))
 bj_nil)
 (bj_one (sj_retV (i := 3) rfl (.inl rfl))))))

/-! ### _law_closed_from -/
abbrev st__law_closed_from : Stmt := top 26
def L__law_closed_from_1 : S :=
 (sIf (tAndF (tCmp gNotIn (eVar .B 4) (eVar .B 2)) (tNotF (tOfE (eOfO (oComp (lOfA (eVar .I 5)) [6] (gNm 6) (tCmp gNotIn (eVar .B 6) (eVar .B 2)) (eVar .E 6))))))
 (sSeq (sFrz 4) (sApp 2 (qE (eVar .E 4))))
 sNil)
def L__law_closed_from_2 : S :=
 (sSeq (sFrz 0) (sFor (lOfA (eVar .E 0)) (gTp 2 (gsCons (gNm 4) (gsCons (gNm 5) gsNil)))
 L__law_closed_from_1))
def R__law_closed_from_3 : S :=
 (sRet (oUn gSortA (eVar .I 2)))
def b__law_closed_from : S :=
 (sSeq (sAsg 2 (oUn gListA (eVar .I 1)))
 (sSeq (sFor (lRange1 (eUn gLen (eVar .B 0))) (gNm 3)
 L__law_closed_from_2)
 R__law_closed_from_3))
def g__law_closed_from : Fn := runFn 7 [.E, .E] b__law_closed_from
theorem sc__law_closed_from : FnScope ["rules", "begin", "listed", "turn", "field", "conditions", "name"] ["rules", "begin"] (defScope st__law_closed_from) := ⟨rfl, rfl, rfl, by decide +kernel, rfl, by decide +kernel, by decide +kernel⟩
theorem ok__law_closed_from {P : Program} {w : World} {K : PySem.W.Frag} {mg : Str → Option Value} {base : Heap} {f : Addr} {fd : FuncData} (T : Txt K mg) (F : FunD K "_law_closed_from" "_law_closed_from" (defArgs st__law_closed_from) (defBody st__law_closed_from) (defScope st__law_closed_from) [] [] f fd) (hg : mg "_law_closed_from" = some (.ref f))  :
    DefOk P w K mg base 1 "_law_closed_from" ["rules", "begin"] [.E, .E] g__law_closed_from :=
  have Sc := sc__law_closed_from
  def_ok (k := 0) (N := ["rules", "begin", "listed", "turn", "field", "conditions", "name"]) F Sc rfl (by decide) hg (fun _ _ _ _ _ _ us hl => match us, hl with | [_, _], _ => rfl) fun cdv A outer sh H E C hr tk po =>
 (bj_cons (sj_asg (i := 2) Sc.nd rfl (.inr rfl) (oj_callT1 (call_listA rfl) c_listA rfl T.f_list (by decide +kernel) (ej_var (m := .I) (i := 1) rfl (.inl rfl))))
 (bj_cons (sj_for (vs := [3]) po rfl (ij_range1 rfl T.f_range (ej_call1 (m := .B) call_len c_len rfl T.f_len (by decide +kernel) (ej_var (m := .B) (i := 0) rfl (.inl rfl)))) (gj_name (i := 3) Sc.nd rfl (.inl rfl))
 (bj_one (sj_frz 0 (sj_for (vs := [4, 5]) po rfl (ij_seqA (ej_var (m := .E) (i := 0) rfl (.inl rfl))) (gj_tup rfl (gjs_cons (gj_name (i := 4) Sc.nd rfl (.inl rfl)) (gjs_cons (gj_name (i := 5) Sc.nd rfl (.inl rfl)) gjs_nil)))
 (bj_one (sj_if (wj_tj (wj_and (tj_cmp (opr_notIn (huR hr)) cmp_notIn (ej_var (m := .B) (i := 4) rfl (.inl rfl)) (ej_var (m := .B) (i := 2) rfl (.inr (.inl rfl))) (by rfl)) (wj_and1 (tj_not (tj_val (ej_B (ej_O (oj_comp rfl Sc.nd (own := [("name", 6)]) (ij_seqSA (ej_var (m := .I) (i := 5) rfl (.inl rfl))) (blkOk_by (N := ["rules", "begin", "listed", "turn", "field", "conditions", "name"]) (sc := defScope st__law_closed_from) (by decide +kernel)) (fun _ _ _ _ _ _ => (gj_name (i := 6) Sc.nd rfl (.inl rfl))) (fun _ _ _ _ _ _ => (tsj_one (tj_cmp (opr_notIn (huR hr)) cmp_notIn (ej_var (m := .B) (i := 6) rfl (.inl rfl)) (ej_var (m := .B) (i := 2) rfl (.inr (.inl rfl))) (by rfl)))) (fun _ _ _ _ _ _ => (ej_var (m := .E) (i := 6) rfl (.inl rfl)))))))))))
 (bj_one (sj_frz 4 (sj_app (i := 2) rfl (.inr (.inl rfl)) (qj_E (ej_var (m := .E) (i := 4) rfl (.inl rfl))))))
 bj_nil))))))
 (bj_one (sj_ret (oj_call1 (cr_sortA rfl) c_sortA rfl T.f_sorted (by decide +kernel) (ej_var (m := .I) (i := 2) rfl (.inr (.inl rfl))))))))

/-! ### _law_is_name -/
abbrev st__law_is_name : Stmt := top 24
def R__law_is_name_1 : S :=
 (sRet (oOfE (eNotT (eOfO (oComp (lOfA (eVar .I 0)) [1] (gNm 1) (tCmp gNotIn (eVar .B 1) (eC (.str (txt "abcdefghijklmnopqrstuvwxyz0123456789")))) (eVar .E 1))))))
def b__law_is_name : S :=
 (sSeq (sIf (tOrF (tNotF (tOfE (eUn (isT .str) (eVar .B 0)))) (tOrF (tNotF (tChn gLe gLe (eC (.int 1)) (eUn gLen (eVar .B 0)) (eC (.int 12)))) (tCmp gNotIn (eIx (eVar .B 0) (eC (.int 0))) (eC (.str (txt "abcdefghijklmnopqrstuvwxyz"))))))
 (sRet (oOfE (eC (.bl false))))
 sNil)
 R__law_is_name_1)
def g__law_is_name : Fn := runFn 2 [.E] b__law_is_name
theorem sc__law_is_name : FnScope ["value", "sign"] ["value"] (defScope st__law_is_name) := ⟨rfl, rfl, rfl, by decide +kernel, rfl, by decide +kernel, by decide +kernel⟩
theorem ok__law_is_name {P : Program} {w : World} {K : PySem.W.Frag} {mg : Str → Option Value} {base : Heap} {f : Addr} {fd : FuncData} (T : Txt K mg) (F : FunD K "_law_is_name" "_law_is_name" (defArgs st__law_is_name) (defBody st__law_is_name) (defScope st__law_is_name) [] [] f fd) (hg : mg "_law_is_name" = some (.ref f))  :
    DefOk P w K mg base 1 "_law_is_name" ["value"] [.E] g__law_is_name :=
  have Sc := sc__law_is_name
  def_ok (k := 0) (N := ["value", "sign"]) F Sc rfl (by decide) hg (fun _ _ _ _ _ _ us hl => match us, hl with | [_], _ => rfl) fun cdv A outer sh H E C hr tk po =>
 (bj_cons (sj_if (wj_tj (wj_or (tj_not (tj_val (ej_isi (m := .B) .str rfl T.f_isinstance rfl T.f_str (by decide +kernel) (ej_var (m := .B) (i := 0) rfl (.inl rfl))))) (wj_or (tj_not (tj_chain opr_le cmp_le opr_le cmp_le (ej_int (m := .B)) (ej_call1 (m := .B) call_len c_len rfl T.f_len (by decide +kernel) (ej_var (m := .B) (i := 0) rfl (.inl rfl))) (ej_int (m := .B)))) (wj_or1 (tj_cmp (opr_notIn (huR hr)) cmp_notIn (ej_ixB (huR hr) (ej_var (m := .B) (i := 0) rfl (.inl rfl)) (ej_int (m := .B))) (ej_str (m := .B) (mkS_txt _).symm) (by rfl))))))
 (bj_one (sj_ret (oj_E (ej_bl (m := .E)))))
 bj_nil)
 (bj_one (sj_ret (oj_E (ej_notT (m := .E) (ej_B (ej_O (oj_comp rfl Sc.nd (own := [("sign", 1)]) (ij_seqSA (ej_var (m := .I) (i := 0) rfl (.inl rfl))) (blkOk_by (N := ["value", "sign"]) (sc := defScope st__law_is_name) (by decide +kernel)) (fun _ _ _ _ _ _ => (gj_name (i := 1) Sc.nd rfl (.inl rfl))) (fun _ _ _ _ _ _ => (tsj_one (tj_cmp (opr_notIn (huR hr)) cmp_notIn (ej_var (m := .B) (i := 1) rfl (.inl rfl)) (ej_str (m := .B) (mkS_txt _).symm) (by rfl)))) (fun _ _ _ _ _ _ => (ej_var (m := .E) (i := 1) rfl (.inl rfl)))))))))))

/-! ### _law_is_closed -/
abbrev st__law_is_closed : Stmt := top 25
def L__law_is_closed_1 : S :=
 (sIf (tAndF (tCmp gNotIn (eVar .B 4) (eVar .B 3)) (tNotF (tOfE (eOfO (oComp (lOfA (eVar .I 5)) [6] (gNm 6) (tCmp gNotIn (eVar .B 6) (eVar .B 3)) (eVar .E 6))))))
 (sRet (oOfE (eC (.bl false))))
 sNil)
def R__law_is_closed_2 : S :=
 (sRet (oOfE (eC (.bl true))))
def R__law_is_closed_3 : S :=
 (sSeq (sSeq (sFrz 0) (sFor (lOfA (eVar .E 0)) (gTp 2 (gsCons (gNm 4) (gsCons (gNm 5) gsNil)))
 L__law_is_closed_1))
 R__law_is_closed_2)
def R__law_is_closed_4 : S :=
 (sSeq (sIf (tOfE (eOfO (oComp (lOfA (eVar .I 1)) [6] (gNm 6) (tCmp gNotIn (eVar .B 6) (eVar .B 3)) (eVar .E 6))))
 (sRet (oOfE (eC (.bl false))))
 sNil)
 R__law_is_closed_3)
def R__law_is_closed_5 : S :=
 (sSeq (sIf (tOrF (tCmp gNe (eVar .B 3) (eOfO (oUn gSortA (eVar .I 3)))) (tOrF (tOfE (eOfO (oComp (lRange1 (eUn gLen (eVar .B 3))) [7] (gNm 7) (tCmp gIn (eIx (eVar .B 3) (eVar .B 7)) (eOfO (oSl (eVar .I 3) pNo (pAt (eVar .B 7))))) (eVar .E 7)))) (tCmp gIn (eVar .B 2) (eVar .B 3))))
 (sRet (oOfE (eC (.bl false))))
 sNil)
 R__law_is_closed_4)
def b__law_is_closed : S :=
 (sSeq (sIf (tOrF (tNotF (tOfE (eUn (isT .list) (eVar .B 3)))) (tNotF (tOfE (eUn gAll (eOfO (oComp (lOfA (eVar .I 3)) [6] (gNm 6) tYesF (eOfO (oCall g__law_is_name (lCons (eVar .E 6) lNil)))))))))
 (sRet (oOfE (eC (.bl false))))
 sNil)
 R__law_is_closed_5)
def g__law_is_closed : Fn := runFn 8 [.E, .E, .B, .E] b__law_is_closed
theorem sc__law_is_closed : FnScope ["rules", "start", "field", "value", "shown_field", "conditions", "name", "k"] ["rules", "start", "field", "value"] (defScope st__law_is_closed) := ⟨rfl, rfl, rfl, by decide +kernel, rfl, by decide +kernel, by decide +kernel⟩
theorem ok__law_is_closed {P : Program} {w : World} {K : PySem.W.Frag} {mg : Str → Option Value} {base : Heap} {f : Addr} {fd : FuncData} (T : Txt K mg) (F : FunD K "_law_is_closed" "_law_is_closed" (defArgs st__law_is_closed) (defBody st__law_is_closed) (defScope st__law_is_closed) [] [] f fd) (hg : mg "_law_is_closed" = some (.ref f)) (D__law_is_name : DefOk P w K mg base 1 "_law_is_name" ["value"] [.E] g__law_is_name) :
    DefOk P w K mg base 2 "_law_is_closed" ["rules", "start", "field", "value"] [.E, .E, .B, .E] g__law_is_closed :=
  have Sc := sc__law_is_closed
  def_ok (k := 1) (N := ["rules", "start", "field", "value", "shown_field", "conditions", "name", "k"]) F Sc rfl (by decide) hg (fun _ _ _ _ _ _ us hl => match us, hl with | [_, _, _, _], _ => rfl) fun cdv A outer sh H E C hr tk po =>
 (bj_cons (sj_if (wj_tj (wj_or (tj_not (tj_val (ej_isi (m := .B) .list rfl T.f_isinstance rfl T.f_list (by decide +kernel) (ej_var (m := .B) (i := 3) rfl (.inr (.inl rfl)))))) (wj_or1 (tj_not (tj_val (ej_call1 (m := .B) (cr_all rfl) c_all rfl T.f_all (by decide +kernel) (ej_B (ej_O (oj_comp rfl Sc.nd (own := [("name", 6)]) (ij_seqSA (ej_var (m := .I) (i := 3) rfl (.inr (.inl rfl)))) (blkOk_by (N := ["rules", "start", "field", "value", "shown_field", "conditions", "name", "k"]) (sc := defScope st__law_is_closed) (by decide +kernel)) (fun _ _ _ _ _ _ => (gj_name (i := 6) Sc.nd rfl (.inl rfl))) (fun _ _ _ _ _ _ => tsj_nil) (fun _ _ _ _ _ _ => (ej_O (oj_call D__law_is_name hr (by decide) takes0 rfl (lj_cons (ej_var (m := .E) (i := 6) rfl (.inl rfl)) lj_nil)))))))))))))
 (bj_one (sj_ret (oj_E (ej_bl (m := .E)))))
 bj_nil)
 (bj_cons (sj_if (wj_tj (wj_or (tj_cmp (op_neD (huR hr).u64) cmp_ne (ej_var (m := .B) (i := 3) rfl (.inr (.inl rfl))) (ej_B (ej_O (oj_call1 (cr_sortA rfl) c_sortA rfl T.f_sorted (by decide +kernel) (ej_var (m := .I) (i := 3) rfl (.inr (.inl rfl)))))) (nomark _)) (wj_or (tj_val (ej_B (ej_O (oj_comp rfl Sc.nd (own := [("k", 7)]) (ij_range1 rfl T.f_range (ej_call1 (m := .B) call_len c_len rfl T.f_len (by decide +kernel) (ej_var (m := .B) (i := 3) rfl (.inr (.inl rfl))))) (blkOk_by (N := ["rules", "start", "field", "value", "shown_field", "conditions", "name", "k"]) (sc := defScope st__law_is_closed) (by decide +kernel)) (fun _ _ _ _ _ _ => (gj_name (i := 7) Sc.nd rfl (.inl rfl))) (fun _ _ _ _ _ _ => (tsj_one (tj_cmp (opr_in (huR hr)) cmp_in (ej_ixB (huR hr) (ej_var (m := .B) (i := 3) rfl (.inr (.inl rfl))) (ej_var (m := .B) (i := 7) rfl (.inl rfl))) (ej_B (ej_O (oj_sl (ej_var (m := .I) (i := 3) rfl (.inr (.inl rfl))) pj_none (pj_some (ej_var (m := .B) (i := 7) rfl (.inl rfl)))))) (by rfl)))) (fun _ _ _ _ _ _ => (ej_var (m := .E) (i := 7) rfl (.inl rfl))))))) (wj_or1 (tj_cmp (opr_in (huR hr)) cmp_in (ej_var (m := .B) (i := 2) rfl (.inl rfl)) (ej_var (m := .B) (i := 3) rfl (.inr (.inl rfl))) (by rfl))))))
 (bj_one (sj_ret (oj_E (ej_bl (m := .E)))))
 bj_nil)
 (bj_cons (sj_if (tj_val (ej_B (ej_O (oj_comp rfl Sc.nd (own := [("name", 6)]) (ij_seqSA (ej_var (m := .I) (i := 1) rfl (.inl rfl))) (blkOk_by (N := ["rules", "start", "field", "value", "shown_field", "conditions", "name", "k"]) (sc := defScope st__law_is_closed) (by decide +kernel)) (fun _ _ _ _ _ _ => (gj_name (i := 6) Sc.nd rfl (.inl rfl))) (fun _ _ _ _ _ _ => (tsj_one (tj_cmp (opr_notIn (huR hr)) cmp_notIn (ej_var (m := .B) (i := 6) rfl (.inl rfl)) (ej_var (m := .B) (i := 3) rfl (.inr (.inl rfl))) (by rfl)))) (fun _ _ _ _ _ _ => (ej_var (m := .E) (i := 6) rfl (.inl rfl)))))))
 (bj_one (sj_ret (oj_E (ej_bl (m := .E)))))
 bj_nil)
 (bj_cons (sj_frz 0 (sj_for (vs := [4, 5]) po rfl (ij_seqA (ej_var (m := .E) (i := 0) rfl (.inl rfl))) (gj_tup rfl (gjs_cons (gj_name (i := 4) Sc.nd rfl (.inl rfl)) (gjs_cons (gj_name (i := 5) Sc.nd rfl (.inl rfl)) gjs_nil)))
 (bj_one (sj_if (wj_tj (wj_and (tj_cmp (opr_notIn (huR hr)) cmp_notIn (ej_var (m := .B) (i := 4) rfl (.inl rfl)) (ej_var (m := .B) (i := 3) rfl (.inr (.inl rfl))) (by rfl)) (wj_and1 (tj_not (tj_val (ej_B (ej_O (oj_comp rfl Sc.nd (own := [("name", 6)]) (ij_seqSA (ej_var (m := .I) (i := 5) rfl (.inl rfl))) (blkOk_by (N := ["rules", "start", "field", "value", "shown_field", "conditions", "name", "k"]) (sc := defScope st__law_is_closed) (by decide +kernel)) (fun _ _ _ _ _ _ => (gj_name (i := 6) Sc.nd rfl (.inl rfl))) (fun _ _ _ _ _ _ => (tsj_one (tj_cmp (opr_notIn (huR hr)) cmp_notIn (ej_var (m := .B) (i := 6) rfl (.inl rfl)) (ej_var (m := .B) (i := 3) rfl (.inr (.inl rfl))) (by rfl)))) (fun _ _ _ _ _ _ => (ej_var (m := .E) (i := 6) rfl (.inl rfl)))))))))))
 (bj_one (sj_ret (oj_E (ej_bl (m := .E)))))
 bj_nil))))
 (bj_one (sj_ret (oj_E (ej_bl (m := .E)))))))))

/-! ### _law_numbers -/
abbrev st__law_numbers : Stmt := top 18
def L__law_numbers_1 : S :=
 (sIf (tCmp gGe (eVar .B 3) (eBin gPow (eC (.int 10)) (eC (.int 18))))
 (sSeq (sApp 4 (qE (eBin gMod (eVar .B 3) (eC (.int 1009)))))
 (sAsg 3 (oOfE (eBin gDiv (eVar .B 3) (eC (.int 1009))))))
 (sSeq (sAsg 6 (oOfE (eBin gMod (eOfO (oBin gAdd (eOfO (oBin gAdd (eOfO (oBin gMul (eVar .I 3) (eC (.int 48271)))) (eOfO (oBin gMul (eOfO (oBin gAdd (eVar .I 5) (eC (.int 1)))) (eC (.int 69621)))))) (eOfO (oBin gMul (eVar .I 1) (eC (.int 4001)))))) (eC (.int 2147483647)))))
 (sSeq (sAsg 6 (oOfE (eBin gMod (eOfO (oBin gAdd (eOfO (oBin gMul (eVar .I 6) (eVar .I 6))) (eOfO (oBin gMul (eC (.int 16807)) (eOfO (oBin gAdd (eVar .I 5) (eC (.int 3)))))))) (eC (.int 2147483629)))))
 (sApp 4 (qE (eBin gMod (eBin gDiv (eVar .B 6) (eC (.int 7))) (eC (.int 1009))))))))
def R__law_numbers_2 : S :=
 (sRetV 4)
def R__law_numbers_3 : S :=
 (sSeq (sAsg 4 (oLst lNil))
 (sSeq (sFor (lRange1 (eVar .B 2)) (gNm 5)
 L__law_numbers_1)
 R__law_numbers_2))
def R__law_numbers_4 : S :=
 (sSeq (sIf (tCmp gLt (eVar .B 3) (eC (.int 0)))
 (sAsg 3 (oOfE (eBin gSub (eC (.int 1)) (eOfO (oBin gMul (eC (.int 2)) (eVar .I 3))))))
 sNil)
 R__law_numbers_3)
def b__law_numbers : S :=
 (sSeq (sAsg 3 (oBin gMul (eC (.int 1000003)) (eOfO (oBin gAdd (eVar .I 1) (eC (.int 1))))))
 (sSeq (sIf (tCmp gLt (eVar .B 1) (eUn gLen (eVar .B 0)))
 (sAsg 3 (oOfE (eUn gInt (eIx (eVar .B 0) (eVar .B 1)))))
 sNil)
 R__law_numbers_4))
def g__law_numbers : Fn := runFn 7 [.B, .E, .B] b__law_numbers
theorem sc__law_numbers : FnScope ["script", "at", "count", "cell", "numbers", "k", "mixed"] ["script", "at", "count"] (defScope st__law_numbers) := ⟨rfl, rfl, rfl, by decide +kernel, rfl, by decide +kernel, by decide +kernel⟩
theorem ok__law_numbers {P : Program} {w : World} {K : PySem.W.Frag} {mg : Str → Option Value} {base : Heap} {f : Addr} {fd : FuncData} (T : Txt K mg) (F : FunD K "_law_numbers" "_law_numbers" (defArgs st__law_numbers) (defBody st__law_numbers) (defScope st__law_numbers) [] [] f fd) (hg : mg "_law_numbers" = some (.ref f))  :
    DefOk P w K mg base 1 "_law_numbers" ["script", "at", "count"] [.B, .E, .B] g__law_numbers :=
  have Sc := sc__law_numbers
  def_ok (k := 0) (N := ["script", "at", "count", "cell", "numbers", "k", "mixed"]) F Sc rfl (by decide) hg (fun _ _ _ _ _ _ us hl => match us, hl with | [_, _, _], _ => rfl) fun cdv A outer sh H E C hr tk po =>
 (bj_cons (sj_asg (i := 3) Sc.nd rfl (.inl rfl) (oj_mul (ej_int (m := .I)) (ej_I (ej_O (oj_add (ej_var (m := .I) (i := 1) rfl (.inl rfl)) (ej_int (m := .I)))))))
 (bj_cons (sj_if (tj_cmp opr_lt cmp_lt (ej_var (m := .B) (i := 1) rfl (.inl rfl)) (ej_call1 (m := .B) call_len c_len rfl T.f_len (by decide +kernel) (ej_var (m := .B) (i := 0) rfl (.inl rfl))) (nomark _))
 (bj_one (sj_asg (i := 3) Sc.nd rfl (.inl rfl) (oj_E (ej_callT1 (m := .E) call_int1 c_int rfl T.f_int (by decide +kernel) (ej_ixB (huR hr) (ej_var (m := .B) (i := 0) rfl (.inl rfl)) (ej_var (m := .B) (i := 1) rfl (.inl rfl)))))))
 bj_nil)
 (bj_cons (sj_if (tj_cmp opr_lt cmp_lt (ej_var (m := .B) (i := 3) rfl (.inl rfl)) (ej_int (m := .B)) (nomark _))
 (bj_one (sj_asg (i := 3) Sc.nd rfl (.inl rfl) (oj_E (ej_sub (m := .E) (ej_int (m := .B)) (ej_B (ej_O (oj_mul (ej_int (m := .I)) (ej_var (m := .I) (i := 3) rfl (.inl rfl)))))))))
 bj_nil)
 (bj_cons (sj_asg (i := 4) Sc.nd rfl (.inl rfl) (oj_lst le_nil))
 (bj_cons (sj_for (vs := [5]) po rfl (ij_range1 rfl T.f_range (ej_var (m := .B) (i := 2) rfl (.inl rfl))) (gj_name (i := 5) Sc.nd rfl (.inl rfl))
 (bj_one (sj_if (tj_cmp opr_ge cmp_ge (ej_var (m := .B) (i := 3) rfl (.inl rfl)) (ej_pow (m := .B) (ej_int (m := .B)) (ej_int (m := .B))) (nomark _))
 (bj_cons (sj_app (i := 4) rfl (.inl rfl) (qj_E (ej_mod (m := .E) (ej_var (m := .B) (i := 3) rfl (.inl rfl)) (ej_int (m := .B)))))
 (bj_one (sj_asg (i := 3) Sc.nd rfl (.inl rfl) (oj_E (ej_fdiv (m := .E) (ej_var (m := .B) (i := 3) rfl (.inl rfl)) (ej_int (m := .B)))))))
 (bj_cons (sj_asg (i := 6) Sc.nd rfl (.inl rfl) (oj_E (ej_mod (m := .E) (ej_B (ej_O (oj_add (ej_I (ej_O (oj_add (ej_I (ej_O (oj_mul (ej_var (m := .I) (i := 3) rfl (.inl rfl)) (ej_int (m := .I))))) (ej_I (ej_O (oj_mul (ej_I (ej_O (oj_add (ej_var (m := .I) (i := 5) rfl (.inl rfl)) (ej_int (m := .I))))) (ej_int (m := .I)))))))) (ej_I (ej_O (oj_mul (ej_var (m := .I) (i := 1) rfl (.inl rfl)) (ej_int (m := .I)))))))) (ej_int (m := .B)))))
 (bj_cons (sj_asg (i := 6) Sc.nd rfl (.inl rfl) (oj_E (ej_mod (m := .E) (ej_B (ej_O (oj_add (ej_I (ej_O (oj_mul (ej_var (m := .I) (i := 6) rfl (.inl rfl)) (ej_var (m := .I) (i := 6) rfl (.inl rfl))))) (ej_I (ej_O (oj_mul (ej_int (m := .I)) (ej_I (ej_O (oj_add (ej_var (m := .I) (i := 5) rfl (.inl rfl)) (ej_int (m := .I))))))))))) (ej_int (m := .B)))))
 (bj_one (sj_app (i := 4) rfl (.inl rfl) (qj_E (ej_mod (m := .E) (ej_fdiv (m := .B) (ej_var (m := .B) (i := 6) rfl (.inl rfl)) (ej_int (m := .B))) (ej_int (m := .B)))))))))))
 (bj_one (sj_retV (i := 4) rfl (.inl rfl))))))))

/-! ### _law_papers -/
abbrev st__law_papers : Stmt := top 28
def b__law_papers : S :=
 (sSeq (sSeq (sFrz 0) (sAsg 1 (oLst (lCons (eTup (lCons (eC (.str (txt "Hidden"))) (lCons (eVar .E 0) lNil))) (lCons (eTup (lCons (eC (.str (txt "hidden"))) lNil)) (lCons (eTup (lCons (eC (.str (txt "hidden"))) (lCons (eVar .E 0) (lCons (eVar .E 0) lNil)))) (lCons (eOfO (oLst (lCons (eC (.str (txt "hidden"))) (lCons (eVar .E 0) lNil)))) (lCons (eTup (lCons (eVar .E 0) (lCons (eC (.str (txt "hidden"))) lNil))) (lCons (eTup (lCons (eC (.str (txt "shown"))) (lCons (eVar .E 0) lNil))) (lCons (eC .non) lNil))))))))))
 (sSeq (sFrz 0) (sRet (oBin gAdd (eVar .I 1) (eOfO (oLst (lCons (eTup lNil) (lCons (eC (.str (txt "hidden"))) (lCons (eVar .E 0) (lCons (eTup (lCons (eC (.str (txt "hidden"))) (lCons (eOfO (oUn gTuple (eVar .I 0))) lNil))) (lCons (eTup (lCons (eC (.str (txt ""))) (lCons (eVar .E 0) lNil))) (lCons (eTup (lCons (eC .non) (lCons (eVar .E 0) lNil))) (lCons (eOfO oDic0) (lCons (eC (.int 0)) lNil))))))))))))))
def g__law_papers : Fn := runFn 2 [.E] b__law_papers
theorem sc__law_papers : FnScope ["value", "found"] ["value"] (defScope st__law_papers) := ⟨rfl, rfl, rfl, by decide +kernel, rfl, by decide +kernel, by decide +kernel⟩
theorem ok__law_papers {P : Program} {w : World} {K : PySem.W.Frag} {mg : Str → Option Value} {base : Heap} {f : Addr} {fd : FuncData} (T : Txt K mg) (F : FunD K "_law_papers" "_law_papers" (defArgs st__law_papers) (defBody st__law_papers) (defScope st__law_papers) [] [] f fd) (hg : mg "_law_papers" = some (.ref f))  :
    DefOk P w K mg base 1 "_law_papers" ["value"] [.E] g__law_papers :=
  have Sc := sc__law_papers
  def_ok (k := 0) (N := ["value", "found"]) F Sc rfl (by decide) hg (fun _ _ _ _ _ _ us hl => match us, hl with | [_], _ => rfl) fun cdv A outer sh H E C hr tk po =>
 (bj_cons (sj_frz 0 (sj_asg (i := 1) Sc.nd rfl (.inl rfl) (oj_lst (le_cons (ej_tup (le_cons (ej_str (m := .E) (mkS_txt _).symm) (le_cons (ej_var (m := .E) (i := 0) rfl (.inl rfl)) le_nil))) (le_cons (ej_tup (le_cons (ej_str (m := .E) (mkS_txt _).symm) le_nil)) (le_cons (ej_tup (le_cons (ej_str (m := .E) (mkS_txt _).symm) (le_cons (ej_var (m := .E) (i := 0) rfl (.inl rfl)) (le_cons (ej_var (m := .E) (i := 0) rfl (.inl rfl)) le_nil)))) (le_cons (ej_O (oj_lst (le_cons (ej_str (m := .E) (mkS_txt _).symm) (le_cons (ej_var (m := .E) (i := 0) rfl (.inl rfl)) le_nil)))) (le_cons (ej_tup (le_cons (ej_var (m := .E) (i := 0) rfl (.inl rfl)) (le_cons (ej_str (m := .E) (mkS_txt _).symm) le_nil))) (le_cons (ej_tup (le_cons (ej_str (m := .E) (mkS_txt _).symm) (le_cons (ej_var (m := .E) (i := 0) rfl (.inl rfl)) le_nil))) (le_cons (ej_non (m := .E)) le_nil))))))))))
 (bj_one (sj_frz 0 (sj_ret (oj_add (ej_var (m := .I) (i := 1) rfl (.inl rfl)) (ej_I (ej_O (oj_lst (le_cons (ej_tup le_nil) (le_cons (ej_str (m := .E) (mkS_txt _).symm) (le_cons (ej_var (m := .E) (i := 0) rfl (.inl rfl)) (le_cons (ej_tup (le_cons (ej_str (m := .E) (mkS_txt _).symm) (le_cons (ej_O (oj_callT1 call_tuple_of c_tuple rfl T.f_tuple (by decide +kernel) (ej_var (m := .I) (i := 0) rfl (.inl rfl)))) le_nil))) (le_cons (ej_tup (le_cons (ej_str (m := .E) (mkS_txt _).symm) (le_cons (ej_var (m := .E) (i := 0) rfl (.inl rfl)) le_nil))) (le_cons (ej_tup (le_cons (ej_non (m := .E)) (le_cons (ej_var (m := .E) (i := 0) rfl (.inl rfl)) le_nil))) (le_cons (ej_O oj_dic0) (le_cons (ej_int (m := .E)) le_nil))))))))))))))))

/-! ### _law_says -/
abbrev st__law_says : Stmt := top 19
def b__law_says : S :=
 (sRet (oOfE (eAnd (eUn (isT .bool) (eVar .B 0)) (eCmp gEq (eVar .B 0) (eVar .B 1)))))
def g__law_says : Fn := runFn 2 [.B, .B] b__law_says
theorem sc__law_says : FnScope ["actual", "due"] ["actual", "due"] (defScope st__law_says) := ⟨rfl, rfl, rfl, by decide +kernel, rfl, by decide +kernel, by decide +kernel⟩
theorem ok__law_says {P : Program} {w : World} {K : PySem.W.Frag} {mg : Str → Option Value} {base : Heap} {f : Addr} {fd : FuncData} (T : Txt K mg) (F : FunD K "_law_says" "_law_says" (defArgs st__law_says) (defBody st__law_says) (defScope st__law_says) [] [] f fd) (hg : mg "_law_says" = some (.ref f))  :
    DefOk P w K mg base 1 "_law_says" ["actual", "due"] [.B, .B] g__law_says :=
  have Sc := sc__law_says
  def_ok (k := 0) (N := ["actual", "due"]) F Sc rfl (by decide) hg (fun _ _ _ _ _ _ us hl => match us, hl with | [_, _], _ => rfl) fun cdv A outer sh H E C hr tk po =>
 (bj_one (sj_ret (oj_E (ej_and (ej_isi (m := .B) .bool rfl T.f_isinstance rfl T.f_bool (by decide +kernel) (ej_var (m := .B) (i := 0) rfl (.inl rfl))) (ej_one (ej_cmp (m := .E) (op_eqD (huR hr).u64) cmp_eq (ej_var (m := .B) (i := 0) rfl (.inl rfl)) (ej_var (m := .B) (i := 1) rfl (.inl rfl)) (nomark _)))))))

/-! ### _law_pool -/
abbrev st__law_pool : Stmt := top 20
def L__law_pool_1 : S :=
 (sSeq (sAsg 6 (oSl (eOfO (oCall g__law_numbers (lCons (eVar .B 0) (lCons (eOfO (oBin gAdd (eVar .I 1) (eBin gMod (eVar .B 5) (eC (.int 10))))) (lCons (eOfO (oBin gMul (eC (.int 12)) (eOfO (oBin gAdd (eC (.int 1)) (eBin gDiv (eVar .B 5) (eC (.int 10))))))) lNil))))) (pAt (eUn gNeg (eC (.int 12)))) pNo))
 (sSeq (sAsg 7 (oOfE (eM1 .str gJoin (eC (.str (txt ""))) (eOfO (oComp (lRange1 (eBin gMod (eOfO (oBin gMul (eIx (eVar .I 6) (eC (.int 0))) (eIx (eVar .I 6) (eC (.int 1))))) (eC (.int 11)))) [9] (gNm 9) tYesF (eIx (eVar .I 3) (eBin gMod (eIx (eVar .B 6) (eOfO (oBin gAdd (eC (.int 2)) (eVar .I 9)))) (eC (.int 36)))))))))
 (sSeq (sAsg 8 (oComp (lOfA (eOfO (oSl (eVar .I 3) pNo (pAt (eC (.int 26)))))) [10] (gNm 10) (tCmp gNotIn (eOfO (oBin gAdd (eVar .I 10) (eVar .I 7))) (eVar .B 4)) (eVar .E 10)))
 (sIf (tOfE (eVar .B 8))
 (sApp 4 (qE (eOfO (oBin gAdd (eIx (eVar .I 8) (eBin gMod (eIx (eVar .B 6) (eC (.int 1))) (eUn gLen (eVar .B 8)))) (eVar .I 7)))))
 sNil))))
def R__law_pool_2 : S :=
 (sRet (oUn gSortA (eVar .I 4)))
def b__law_pool : S :=
 (sSeq (sAsg 3 (oOfE (eC (.str (txt "abcdefghijklmnopqrstuvwxyz0123456789")))))
 (sSeq (sAsg 4 (oLst lNil))
 (sSeq (sFor (lRange1 (eVar .B 2)) (gNm 5)
 L__law_pool_1)
 R__law_pool_2)))
def g__law_pool : Fn := runFn 11 [.B, .E, .B] b__law_pool
theorem sc__law_pool : FnScope ["script", "at", "count", "signs", "names", "k", "numbers", "rest", "free", "j", "sign"] ["script", "at", "count"] (defScope st__law_pool) := ⟨rfl, rfl, rfl, by decide +kernel, rfl, by decide +kernel, by decide +kernel⟩
theorem ok__law_pool {P : Program} {w : World} {K : PySem.W.Frag} {mg : Str → Option Value} {base : Heap} {f : Addr} {fd : FuncData} (T : Txt K mg) (F : FunD K "_law_pool" "_law_pool" (defArgs st__law_pool) (defBody st__law_pool) (defScope st__law_pool) [] [] f fd) (hg : mg "_law_pool" = some (.ref f)) (D__law_numbers : DefOk P w K mg base 1 "_law_numbers" ["script", "at", "count"] [.B, .E, .B] g__law_numbers) :
    DefOk P w K mg base 2 "_law_pool" ["script", "at", "count"] [.B, .E, .B] g__law_pool :=
  have Sc := sc__law_pool
  def_ok (k := 1) (N := ["script", "at", "count", "signs", "names", "k", "numbers", "rest", "free", "j", "sign"]) F Sc rfl (by decide) hg (fun _ _ _ _ _ _ us hl => match us, hl with | [_, _, _], _ => rfl) fun cdv A outer sh H E C hr tk po =>
 (bj_cons (sj_asg (i := 3) Sc.nd rfl (.inr rfl) (oj_E (ej_str (m := .E) (mkS_txt _).symm)))
 (bj_cons (sj_asg (i := 4) Sc.nd rfl (.inr rfl) (oj_lst le_nil))
 (bj_cons (sj_for (vs := [5]) po rfl (ij_range1 rfl T.f_range (ej_var (m := .B) (i := 2) rfl (.inl rfl))) (gj_name (i := 5) Sc.nd rfl (.inl rfl))
 (bj_cons (sj_asg (i := 6) Sc.nd rfl (.inr rfl) (oj_sl (ej_I (ej_O (oj_call D__law_numbers hr (by decide) tk rfl (lj_cons (ej_var (m := .B) (i := 0) rfl (.inl rfl)) (lj_cons (ej_O (oj_add (ej_var (m := .I) (i := 1) rfl (.inl rfl)) (ej_mod (m := .I) (ej_var (m := .B) (i := 5) rfl (.inl rfl)) (ej_int (m := .B))))) (lj_cons (ej_B (ej_O (oj_mul (ej_int (m := .I)) (ej_I (ej_O (oj_add (ej_int (m := .I)) (ej_fdiv (m := .I) (ej_var (m := .B) (i := 5) rfl (.inl rfl)) (ej_int (m := .B))))))))) lj_nil)))))) (pj_some (ej_neg (m := .B) (ej_int (m := .B)))) pj_none))
 (bj_cons (sj_asg (i := 7) Sc.nd rfl (.inr rfl) (oj_E (ej_m1 (m := .E) .str PySem.F.plainAttrs_str PySem.F.slot_str_join PySem.F.type_str_join mt_join m_join (ej_str (m := .B) (mkS_txt _).symm) (ej_B (ej_O (oj_comp rfl Sc.nd (own := [("j", 9)]) (ij_range1 rfl T.f_range (ej_mod (m := .B) (ej_B (ej_O (oj_mul (ej_I (ej_ix (huR hr) (ej_var (m := .I) (i := 6) rfl (.inr (.inl rfl))) (ej_int (m := .B)))) (ej_I (ej_ix (huR hr) (ej_var (m := .I) (i := 6) rfl (.inr (.inl rfl))) (ej_int (m := .B))))))) (ej_int (m := .B)))) (blkOk_by (N := ["script", "at", "count", "signs", "names", "k", "numbers", "rest", "free", "j", "sign"]) (sc := defScope st__law_pool) (by decide +kernel)) (fun _ _ _ _ _ _ => (gj_name (i := 9) Sc.nd rfl (.inl rfl))) (fun _ _ _ _ _ _ => tsj_nil) (fun _ _ _ _ _ _ => (ej_ix (huR hr) (ej_var (m := .I) (i := 3) rfl (.inr (.inl rfl))) (ej_mod (m := .B) (ej_ixB (huR hr) (ej_var (m := .B) (i := 6) rfl (.inr (.inl rfl))) (ej_B (ej_O (oj_add (ej_int (m := .I)) (ej_var (m := .I) (i := 9) rfl (.inl rfl)))))) (ej_int (m := .B)))))))))))
 (bj_cons (sj_asgLc (i := 8) rfl Sc.nd rfl rfl (sw_true rfl rfl rfl (by decide +kernel)) (own := [("sign", 10)]) (ij_seqSA (ej_I (ej_O (oj_sl (ej_var (m := .I) (i := 3) rfl (.inr (.inl rfl))) pj_none (pj_some (ej_int (m := .B))))))) (blkOk_by (N := ["script", "at", "count", "signs", "names", "k", "numbers", "rest", "free", "j", "sign"]) (sc := defScope st__law_pool) (by decide +kernel)) (fun _ _ _ _ _ _ => (gj_name (i := 10) Sc.nd rfl (.inl rfl))) (fun _ _ _ _ _ _ => (tsj_one (tj_cmp (opr_notIn (huR hr)) cmp_notIn (ej_B (ej_O (oj_add (ej_var (m := .I) (i := 10) rfl (.inl rfl)) (ej_var (m := .I) (i := 7) rfl (.inr (.inl rfl)))))) (ej_var (m := .B) (i := 4) rfl (.inr (.inl rfl))) (by rfl)))) (fun _ _ _ _ _ _ => (ej_var (m := .E) (i := 10) rfl (.inl rfl))))
 (bj_one (sj_if (tj_val (ej_var (m := .B) (i := 8) rfl (.inl rfl)))
 (bj_one (sj_app (i := 4) rfl (.inr (.inl rfl)) (qj_E (ej_O (oj_add (ej_I (ej_ix (huR hr) (ej_var (m := .I) (i := 8) rfl (.inl rfl)) (ej_mod (m := .B) (ej_ixB (huR hr) (ej_var (m := .B) (i := 6) rfl (.inr (.inl rfl))) (ej_int (m := .B))) (ej_call1 (m := .B) call_len c_len rfl T.f_len (by decide +kernel) (ej_var (m := .B) (i := 8) rfl (.inl rfl)))))) (ej_var (m := .I) (i := 7) rfl (.inr (.inl rfl))))))))
 bj_nil))))))
 (bj_one (sj_ret (oj_call1 (cr_sortA rfl) c_sortA rfl T.f_sorted (by decide +kernel) (ej_var (m := .I) (i := 4) rfl (.inr (.inl rfl)))))))))

/-! ### _law_some -/
abbrev st__law_some : Stmt := top 21
def L__law_some_1 : S :=
 (sSeq (sAsg 6 (oOfE (eIx (eVar .I 0) (eBin gMod (eIx (eVar .B 1) (eOfO (oBin gAdd (eC (.int 1)) (eVar .I 5)))) (eUn gLen (eVar .B 0))))))
 (sIf (tCmp gNotIn (eVar .B 6) (eVar .B 4))
 (sSeq (sFrz 6) (sApp 4 (qE (eVar .E 6))))
 sNil))
def R__law_some_2 : S :=
 (sRet (oUn gSortA (eVar .I 4)))
def b__law_some : S :=
 (sSeq (sAsg 3 (oOfE (eBin gMod (eIx (eVar .B 1) (eC (.int 0))) (eOfO (oBin gAdd (eVar .I 2) (eC (.int 1)))))))
 (sSeq (sAsg 4 (oLst lNil))
 (sSeq (sFor (lRange1 (eVar .B 3)) (gNm 5)
 L__law_some_1)
 R__law_some_2)))
def g__law_some : Fn := runFn 7 [.E, .B, .E] b__law_some
theorem sc__law_some : FnScope ["names", "numbers", "most", "many", "found", "k", "name"] ["names", "numbers", "most"] (defScope st__law_some) := ⟨rfl, rfl, rfl, by decide +kernel, rfl, by decide +kernel, by decide +kernel⟩
theorem ok__law_some {P : Program} {w : World} {K : PySem.W.Frag} {mg : Str → Option Value} {base : Heap} {f : Addr} {fd : FuncData} (T : Txt K mg) (F : FunD K "_law_some" "_law_some" (defArgs st__law_some) (defBody st__law_some) (defScope st__law_some) [] [] f fd) (hg : mg "_law_some" = some (.ref f))  :
    DefOk P w K mg base 1 "_law_some" ["names", "numbers", "most"] [.E, .B, .E] g__law_some :=
  have Sc := sc__law_some
  def_ok (k := 0) (N := ["names", "numbers", "most", "many", "found", "k", "name"]) F Sc rfl (by decide) hg (fun _ _ _ _ _ _ us hl => match us, hl with | [_, _, _], _ => rfl) fun cdv A outer sh H E C hr tk po =>
 (bj_cons (sj_asg (i := 3) Sc.nd rfl (.inl rfl) (oj_E (ej_mod (m := .E) (ej_ixB (huR hr) (ej_var (m := .B) (i := 1) rfl (.inl rfl)) (ej_int (m := .B))) (ej_B (ej_O (oj_add (ej_var (m := .I) (i := 2) rfl (.inl rfl)) (ej_int (m := .I))))))))
 (bj_cons (sj_asg (i := 4) Sc.nd rfl (.inl rfl) (oj_lst le_nil))
 (bj_cons (sj_for (vs := [5]) po rfl (ij_range1 rfl T.f_range (ej_var (m := .B) (i := 3) rfl (.inl rfl))) (gj_name (i := 5) Sc.nd rfl (.inl rfl))
 (bj_cons (sj_asg (i := 6) Sc.nd rfl (.inl rfl) (oj_E (ej_ix (huR hr) (ej_var (m := .I) (i := 0) rfl (.inl rfl)) (ej_mod (m := .B) (ej_ixB (huR hr) (ej_var (m := .B) (i := 1) rfl (.inl rfl)) (ej_B (ej_O (oj_add (ej_int (m := .I)) (ej_var (m := .I) (i := 5) rfl (.inl rfl)))))) (ej_call1 (m := .B) call_len c_len rfl T.f_len (by decide +kernel) (ej_var (m := .B) (i := 0) rfl (.inl rfl)))))))
 (bj_one (sj_if (tj_cmp (opr_notIn (huR hr)) cmp_notIn (ej_var (m := .B) (i := 6) rfl (.inl rfl)) (ej_var (m := .B) (i := 4) rfl (.inl rfl)) (by rfl))
 (bj_one (sj_frz 6 (sj_app (i := 4) rfl (.inl rfl) (qj_E (ej_var (m := .E) (i := 6) rfl (.inl rfl))))))
 bj_nil))))
 (bj_one (sj_ret (oj_call1 (cr_sortA rfl) c_sortA rfl T.f_sorted (by decide +kernel) (ej_var (m := .I) (i := 4) rfl (.inl rfl))))))))

/-! ### _law_rules -/
abbrev st__law_rules : Stmt := top 22
def L__law_rules_1 : S :=
 (sSeq (sAsg 7 (oSl (eOfO (oCall g__law_numbers (lCons (eVar .B 0) (lCons (eOfO (oBin gAdd (eVar .I 1) (eBin gMod (eVar .B 6) (eC (.int 12))))) (lCons (eOfO (oBin gMul (eC (.int 8)) (eOfO (oBin gAdd (eC (.int 1)) (eBin gDiv (eVar .B 6) (eC (.int 12))))))) lNil))))) (pAt (eUn gNeg (eC (.int 8)))) pNo))
 (sSeq (sAsg 8 (oOfE (eIx (eVar .I 2) (eBin gMod (eIx (eVar .B 7) (eC (.int 6))) (eUn gLen (eVar .B 2))))))
 (sSeq (sSeq (sFrz 8) (sSeq (sFrz 4) (sSeq (sFrz 2) (sApp 5 (qE (eTup (lCons (eVar .E 8) (lCons (eOfO (oUn gTuple (eOfO (oCall g__law_some (lCons (eVar .E 2) (lCons (eVar .B 7) (lCons (eVar .E 4) lNil))))))) lNil))))))))
 (sIf (tAndF (tCmp gEq (eBin gMod (eIx (eVar .B 7) (eC (.int 7))) (eC (.int 9))) (eC (.int 0))) (tCmp gGt (eVar .B 6) (eC (.int 0))))
 (sPut 5 (eVar .B 6) (eIx (eVar .I 5) (eBin gMod (eIx (eVar .B 7) (eC (.int 6))) (eVar .B 6))))
 sNil))))
def R__law_rules_2 : S :=
 (sRetV 5)
def b__law_rules : S :=
 (sSeq (sAsg 5 (oLst lNil))
 (sSeq (sFor (lRange1 (eVar .B 3)) (gNm 6)
 L__law_rules_1)
 R__law_rules_2))
def g__law_rules : Fn := runFn 9 [.B, .E, .E, .B, .E] b__law_rules
theorem sc__law_rules : FnScope ["script", "at", "names", "many", "most", "rules", "k", "numbers", "field"] ["script", "at", "names", "many", "most"] (defScope st__law_rules) := ⟨rfl, rfl, rfl, by decide +kernel, rfl, by decide +kernel, by decide +kernel⟩
theorem ok__law_rules {P : Program} {w : World} {K : PySem.W.Frag} {mg : Str → Option Value} {base : Heap} {f : Addr} {fd : FuncData} (T : Txt K mg) (F : FunD K "_law_rules" "_law_rules" (defArgs st__law_rules) (defBody st__law_rules) (defScope st__law_rules) [] [] f fd) (hg : mg "_law_rules" = some (.ref f)) (D__law_numbers : DefOk P w K mg base 1 "_law_numbers" ["script", "at", "count"] [.B, .E, .B] g__law_numbers) (D__law_some : DefOk P w K mg base 1 "_law_some" ["names", "numbers", "most"] [.E, .B, .E] g__law_some) :
    DefOk P w K mg base 2 "_law_rules" ["script", "at", "names", "many", "most"] [.B, .E, .E, .B, .E] g__law_rules :=
  have Sc := sc__law_rules
  def_ok (k := 1) (N := ["script", "at", "names", "many", "most", "rules", "k", "numbers", "field"]) F Sc rfl (by decide) hg (fun _ _ _ _ _ _ us hl => match us, hl with | [_, _, _, _, _], _ => rfl) fun cdv A outer sh H E C hr tk po =>
 (bj_cons (sj_asg (i := 5) Sc.nd rfl (.inl rfl) (oj_lst le_nil))
 (bj_cons (sj_for (vs := [6]) po rfl (ij_range1 rfl T.f_range (ej_var (m := .B) (i := 3) rfl (.inl rfl))) (gj_name (i := 6) Sc.nd rfl (.inl rfl))
 (bj_cons (sj_asg (i := 7) Sc.nd rfl (.inl rfl) (oj_sl (ej_I (ej_O (oj_call D__law_numbers hr (by decide) tk rfl (lj_cons (ej_var (m := .B) (i := 0) rfl (.inl rfl)) (lj_cons (ej_O (oj_add (ej_var (m := .I) (i := 1) rfl (.inl rfl)) (ej_mod (m := .I) (ej_var (m := .B) (i := 6) rfl (.inl rfl)) (ej_int (m := .B))))) (lj_cons (ej_B (ej_O (oj_mul (ej_int (m := .I)) (ej_I (ej_O (oj_add (ej_int (m := .I)) (ej_fdiv (m := .I) (ej_var (m := .B) (i := 6) rfl (.inl rfl)) (ej_int (m := .B))))))))) lj_nil)))))) (pj_some (ej_neg (m := .B) (ej_int (m := .B)))) pj_none))
 (bj_cons (sj_asg (i := 8) Sc.nd rfl (.inl rfl) (oj_E (ej_ix (huR hr) (ej_var (m := .I) (i := 2) rfl (.inl rfl)) (ej_mod (m := .B) (ej_ixB (huR hr) (ej_var (m := .B) (i := 7) rfl (.inl rfl)) (ej_int (m := .B))) (ej_call1 (m := .B) call_len c_len rfl T.f_len (by decide +kernel) (ej_var (m := .B) (i := 2) rfl (.inl rfl)))))))
 (bj_cons (sj_frz 8 (sj_frz 4 (sj_frz 2 (sj_app (i := 5) rfl (.inl rfl) (qj_E (ej_tup (le_cons (ej_var (m := .E) (i := 8) rfl (.inl rfl)) (le_cons (ej_O (oj_callT1 call_tuple_of c_tuple rfl T.f_tuple (by decide +kernel) (ej_I (ej_O (oj_call D__law_some hr (by decide) tk rfl (lj_cons (ej_var (m := .E) (i := 2) rfl (.inl rfl)) (lj_cons (ej_var (m := .B) (i := 7) rfl (.inl rfl)) (lj_cons (ej_var (m := .E) (i := 4) rfl (.inl rfl)) lj_nil)))))))) le_nil))))))))
 (bj_one (sj_if (wj_tj (wj_and (tj_cmp (op_eqD (huR hr).u64) cmp_eq (ej_mod (m := .B) (ej_ixB (huR hr) (ej_var (m := .B) (i := 7) rfl (.inl rfl)) (ej_int (m := .B))) (ej_int (m := .B))) (ej_int (m := .B)) (nomark _)) (wj_and1 (tj_cmp opr_gt cmp_gt (ej_var (m := .B) (i := 6) rfl (.inl rfl)) (ej_int (m := .B)) (nomark _)))))
 (bj_one (sj_put (i := 5) (huR hr) rfl (.inl rfl) (ej_ix (huR hr) (ej_var (m := .I) (i := 5) rfl (.inl rfl)) (ej_mod (m := .B) (ej_ixB (huR hr) (ej_var (m := .B) (i := 7) rfl (.inl rfl)) (ej_int (m := .B))) (ej_var (m := .B) (i := 6) rfl (.inl rfl)))) (ej_var (m := .B) (i := 6) rfl (.inl rfl))))
 bj_nil))))))
 (bj_one (sj_retV (i := 5) rfl (.inl rfl)))))

/-! ### _law_world -/
abbrev st__law_world : Stmt := top 23
def b__law_world : S :=
 (sSeq (sAsg 3 (oCall g__law_numbers (lCons (eVar .B 0) (lCons (eC (.int 0)) (lCons (eC (.int 6)) lNil)))))
 (sSeq (sAsg 4 (oCall g__law_pool (lCons (eVar .B 0) (lCons (eC (.int 1)) (lCons (eOfO (oBin gAdd (eC (.int 1)) (eBin gMod (eIx (eVar .B 3) (eC (.int 0))) (eVar .B 1)))) lNil)))))
 (sSeq (sSeq (sFrz 4) (sAsg 5 (oCall g__law_rules (lCons (eVar .B 0) (lCons (eC (.int 11)) (lCons (eVar .E 4) (lCons (eBin gMod (eIx (eVar .B 3) (eC (.int 1))) (eOfO (oBin gAdd (eVar .I 2) (eC (.int 1))))) (lCons (eOfO (oBin gAdd (eC (.int 1)) (eBin gMod (eIx (eVar .B 3) (eC (.int 2))) (eC (.int 3))))) lNil))))))))
 (sSeq (sSeq (sFrz 4) (sAsg 6 (oCall g__law_some (lCons (eVar .E 4) (lCons (eOfO (oCall g__law_numbers (lCons (eVar .B 0) (lCons (eC (.int 23)) (lCons (eC (.int 8)) lNil))))) (lCons (eIx (eOfO (oLst (lCons (eC (.int 0)) (lCons (eC (.int 1)) (lCons (eC (.int 2)) (lCons (eC (.int 3)) lNil)))))) (eBin gMod (eIx (eVar .B 3) (eC (.int 3))) (eC (.int 4)))) lNil))))))
 (sSeq (sFrz 6) (sSeq (sFrz 5) (sSeq (sFrz 4) (sRet (oOfE (eTup (lCons (eVar .E 4) (lCons (eVar .E 5) (lCons (eVar .E 6) lNil)))))))))))))
def g__law_world : Fn := runFn 7 [.B, .B, .E] b__law_world
theorem sc__law_world : FnScope ["script", "size", "most", "sizes", "names", "rules", "start"] ["script", "size", "most"] (defScope st__law_world) := ⟨rfl, rfl, rfl, by decide +kernel, rfl, by decide +kernel, by decide +kernel⟩
theorem ok__law_world {P : Program} {w : World} {K : PySem.W.Frag} {mg : Str → Option Value} {base : Heap} {f : Addr} {fd : FuncData} (T : Txt K mg) (F : FunD K "_law_world" "_law_world" (defArgs st__law_world) (defBody st__law_world) (defScope st__law_world) [] [] f fd) (hg : mg "_law_world" = some (.ref f)) (D__law_numbers : DefOk P w K mg base 1 "_law_numbers" ["script", "at", "count"] [.B, .E, .B] g__law_numbers) (D__law_pool : DefOk P w K mg base 2 "_law_pool" ["script", "at", "count"] [.B, .E, .B] g__law_pool) (D__law_rules : DefOk P w K mg base 2 "_law_rules" ["script", "at", "names", "many", "most"] [.B, .E, .E, .B, .E] g__law_rules) (D__law_some : DefOk P w K mg base 1 "_law_some" ["names", "numbers", "most"] [.E, .B, .E] g__law_some) :
    DefOk P w K mg base 3 "_law_world" ["script", "size", "most"] [.B, .B, .E] g__law_world :=
  have Sc := sc__law_world
  def_ok (k := 2) (N := ["script", "size", "most", "sizes", "names", "rules", "start"]) F Sc rfl (by decide) hg (fun _ _ _ _ _ _ us hl => match us, hl with | [_, _, _], _ => rfl) fun cdv A outer sh H E C hr tk po =>
 (bj_cons (sj_asg (i := 3) Sc.nd rfl (.inl rfl) (oj_call D__law_numbers hr (by decide) tk rfl (lj_cons (ej_var (m := .B) (i := 0) rfl (.inl rfl)) (lj_cons (ej_int (m := .E)) (lj_cons (ej_int (m := .B)) lj_nil)))))
 (bj_cons (sj_asg (i := 4) Sc.nd rfl (.inl rfl) (oj_call D__law_pool hr (by decide) tk rfl (lj_cons (ej_var (m := .B) (i := 0) rfl (.inl rfl)) (lj_cons (ej_int (m := .E)) (lj_cons (ej_B (ej_O (oj_add (ej_int (m := .I)) (ej_mod (m := .I) (ej_ixB (huR hr) (ej_var (m := .B) (i := 3) rfl (.inl rfl)) (ej_int (m := .B))) (ej_var (m := .B) (i := 1) rfl (.inl rfl)))))) lj_nil)))))
 (bj_cons (sj_frz 4 (sj_asg (i := 5) Sc.nd rfl (.inl rfl) (oj_call D__law_rules hr (by decide) tk rfl (lj_cons (ej_var (m := .B) (i := 0) rfl (.inl rfl)) (lj_cons (ej_int (m := .E)) (lj_cons (ej_var (m := .E) (i := 4) rfl (.inl rfl)) (lj_cons (ej_mod (m := .B) (ej_ixB (huR hr) (ej_var (m := .B) (i := 3) rfl (.inl rfl)) (ej_int (m := .B))) (ej_B (ej_O (oj_add (ej_var (m := .I) (i := 2) rfl (.inl rfl)) (ej_int (m := .I)))))) (lj_cons (ej_O (oj_add (ej_int (m := .I)) (ej_mod (m := .I) (ej_ixB (huR hr) (ej_var (m := .B) (i := 3) rfl (.inl rfl)) (ej_int (m := .B))) (ej_int (m := .B))))) lj_nil))))))))
 (bj_cons (sj_frz 4 (sj_asg (i := 6) Sc.nd rfl (.inl rfl) (oj_call D__law_some hr (by decide) tk rfl (lj_cons (ej_var (m := .E) (i := 4) rfl (.inl rfl)) (lj_cons (ej_B (ej_O (oj_call D__law_numbers hr (by decide) tk rfl (lj_cons (ej_var (m := .B) (i := 0) rfl (.inl rfl)) (lj_cons (ej_int (m := .E)) (lj_cons (ej_int (m := .B)) lj_nil)))))) (lj_cons (ej_ix (huR hr) (ej_I (ej_O (oj_lst (le_cons (ej_int (m := .E)) (le_cons (ej_int (m := .E)) (le_cons (ej_int (m := .E)) (le_cons (ej_int (m := .E)) le_nil))))))) (ej_mod (m := .B) (ej_ixB (huR hr) (ej_var (m := .B) (i := 3) rfl (.inl rfl)) (ej_int (m := .B))) (ej_int (m := .B)))) lj_nil))))))
 (bj_one (sj_frz 6 (sj_frz 5 (sj_frz 4 (sj_ret (oj_E (ej_tup (le_cons (ej_var (m := .E) (i := 4) rfl (.inl rfl)) (le_cons (ej_var (m := .E) (i := 5) rfl (.inl rfl)) (le_cons (ej_var (m := .E) (i := 6) rfl (.inl rfl)) le_nil))))))))))))))

/-! ### all_in -/
abbrev st_all_in : Stmt := top 10
def b_all_in : S :=
 (sRet (oOfE (eUn gAll (eOfO (oComp (lOfA (eVar .I 0)) [2] (gNm 2) tYesF (eCmp gIn (eVar .B 2) (eVar .B 1)))))))
def g_all_in : Fn := runFn 3 [.E, .B] b_all_in
theorem sc_all_in : FnScope ["names", "among", "name"] ["names", "among"] (defScope st_all_in) := ⟨rfl, rfl, rfl, by decide +kernel, rfl, by decide +kernel, by decide +kernel⟩
theorem ok_all_in {P : Program} {w : World} {K : PySem.W.Frag} {mg : Str → Option Value} {base : Heap} {f : Addr} {fd : FuncData} (T : Txt K mg) (F : FunD K "all_in" "all_in" (defArgs st_all_in) (defBody st_all_in) (defScope st_all_in) [] [] f fd) (hg : mg "all_in" = some (.ref f))  :
    DefOk P w K mg base 1 "all_in" ["names", "among"] [.E, .B] g_all_in :=
  have Sc := sc_all_in
  def_ok (k := 0) (N := ["names", "among", "name"]) F Sc rfl (by decide) hg (fun _ _ _ _ _ _ us hl => match us, hl with | [_, _], _ => rfl) fun cdv A outer sh H E C hr tk po =>
 (bj_one (sj_ret (oj_E (ej_call1 (m := .E) (cr_all rfl) c_all rfl T.f_all (by decide +kernel) (ej_B (ej_O (oj_comp rfl Sc.nd (own := [("name", 2)]) (ij_seqSA (ej_var (m := .I) (i := 0) rfl (.inl rfl))) (blkOk_by (N := ["names", "among", "name"]) (sc := defScope st_all_in) (by decide +kernel)) (fun _ _ _ _ _ _ => (gj_name (i := 2) Sc.nd rfl (.inl rfl))) (fun _ _ _ _ _ _ => tsj_nil) (fun _ _ _ _ _ _ => (ej_cmp (m := .E) (opr_in (huR hr)) cmp_in (ej_var (m := .B) (i := 2) rfl (.inl rfl)) (ej_var (m := .B) (i := 1) rfl (.inr (.inl rfl))) (by rfl))))))))))

/-! ### are_ascending -/
abbrev st_are_ascending : Stmt := top 8
def b_are_ascending : S :=
 (sRet (oOfE (eUn gAll (eOfO (oComp (lZip (eVar .I 0) (eOfO (oSl (eVar .I 0) (pAt (eC (.int 1))) pNo))) [1, 2] (gTp 2 (gsCons (gNm 1) (gsCons (gNm 2) gsNil))) tYesF (eCmp gLt (eVar .B 1) (eVar .B 2)))))))
def g_are_ascending : Fn := runFn 3 [.E] b_are_ascending
theorem sc_are_ascending : FnScope ["names", "before", "after"] ["names"] (defScope st_are_ascending) := ⟨rfl, rfl, rfl, by decide +kernel, rfl, by decide +kernel, by decide +kernel⟩
theorem ok_are_ascending {P : Program} {w : World} {K : PySem.W.Frag} {mg : Str → Option Value} {base : Heap} {f : Addr} {fd : FuncData} (T : Txt K mg) (F : FunD K "are_ascending" "are_ascending" (defArgs st_are_ascending) (defBody st_are_ascending) (defScope st_are_ascending) [] [] f fd) (hg : mg "are_ascending" = some (.ref f))  :
    DefOk P w K mg base 1 "are_ascending" ["names"] [.E] g_are_ascending :=
  have Sc := sc_are_ascending
  def_ok (k := 0) (N := ["names", "before", "after"]) F Sc rfl (by decide) hg (fun _ _ _ _ _ _ us hl => match us, hl with | [_], _ => rfl) fun cdv A outer sh H E C hr tk po =>
 (bj_one (sj_ret (oj_E (ej_call1 (m := .E) (cr_all rfl) c_all rfl T.f_all (by decide +kernel) (ej_B (ej_O (oj_comp rfl Sc.nd (own := [("before", 1), ("after", 2)]) (ij_zipS rfl T.f_zip (ej_var (m := .I) (i := 0) rfl (.inl rfl)) (ej_I (ej_O (oj_sl (ej_var (m := .I) (i := 0) rfl (.inl rfl)) (pj_some (ej_int (m := .B))) pj_none)))) (blkOk_by (N := ["names", "before", "after"]) (sc := defScope st_are_ascending) (by decide +kernel)) (fun _ _ _ _ _ _ => (gj_tup rfl (gjs_cons (gj_name (i := 1) Sc.nd rfl (.inl rfl)) (gjs_cons (gj_name (i := 2) Sc.nd rfl (.inl rfl)) gjs_nil)))) (fun _ _ _ _ _ _ => tsj_nil) (fun _ _ _ _ _ _ => (ej_cmp (m := .E) opr_lt cmp_lt (ej_var (m := .B) (i := 1) rfl (.inl rfl)) (ej_var (m := .B) (i := 2) rfl (.inl rfl)) (nomark _))))))))))

/-! ### has_name_signs -/
abbrev st_has_name_signs : Stmt := top 5
def R_has_name_signs_1 : S :=
 (sRet (oOfE (eUn gAll (eOfO (oComp (lOfA (eVar .I 0)) [1] (gNm 1) tYesF (eOr (eCmp gIn (eVar .B 1) (eC (.str (txt "abcdefghijklmnopqrstuvwxyz")))) (eCmp gIn (eVar .B 1) (eC (.str (txt "0123456789"))))))))))
def b_has_name_signs : S :=
 (sSeq (sIf (tCmp gNotIn (eIx (eVar .B 0) (eC (.int 0))) (eC (.str (txt "abcdefghijklmnopqrstuvwxyz"))))
 (sRet (oOfE (eC (.bl false))))
 sNil)
 R_has_name_signs_1)
def g_has_name_signs : Fn := runFn 2 [.E] b_has_name_signs
theorem sc_has_name_signs : FnScope ["text", "sign"] ["text"] (defScope st_has_name_signs) := ⟨rfl, rfl, rfl, by decide +kernel, rfl, by decide +kernel, by decide +kernel⟩
theorem ok_has_name_signs {P : Program} {w : World} {K : PySem.W.Frag} {mg : Str → Option Value} {base : Heap} {f : Addr} {fd : FuncData} (T : Txt K mg) (F : FunD K "has_name_signs" "has_name_signs" (defArgs st_has_name_signs) (defBody st_has_name_signs) (defScope st_has_name_signs) [] [] f fd) (hg : mg "has_name_signs" = some (.ref f))  :
    DefOk P w K mg base 1 "has_name_signs" ["text"] [.E] g_has_name_signs :=
  have Sc := sc_has_name_signs
  def_ok (k := 0) (N := ["text", "sign"]) F Sc rfl (by decide) hg (fun _ _ _ _ _ _ us hl => match us, hl with | [_], _ => rfl) fun cdv A outer sh H E C hr tk po =>
 (bj_cons (sj_if (tj_cmp (opr_notIn (huR hr)) cmp_notIn (ej_ixB (huR hr) (ej_var (m := .B) (i := 0) rfl (.inl rfl)) (ej_int (m := .B))) (ej_gstr (m := .B) rfl T.c_LETTERS) (by rfl))
 (bj_one (sj_ret (oj_E (ej_bl (m := .E)))))
 bj_nil)
 (bj_one (sj_ret (oj_E (ej_call1 (m := .E) (cr_all rfl) c_all rfl T.f_all (by decide +kernel) (ej_B (ej_O (oj_comp rfl Sc.nd (own := [("sign", 1)]) (ij_seqSA (ej_var (m := .I) (i := 0) rfl (.inl rfl))) (blkOk_by (N := ["text", "sign"]) (sc := defScope st_has_name_signs) (by decide +kernel)) (fun _ _ _ _ _ _ => (gj_name (i := 1) Sc.nd rfl (.inl rfl))) (fun _ _ _ _ _ _ => tsj_nil) (fun _ _ _ _ _ _ => (ej_or (ej_cmp (m := .B) (opr_in (huR hr)) cmp_in (ej_var (m := .B) (i := 1) rfl (.inl rfl)) (ej_gstr (m := .B) rfl T.c_LETTERS) (by rfl)) (ej_one (ej_cmp (m := .E) (opr_in (huR hr)) cmp_in (ej_var (m := .B) (i := 1) rfl (.inl rfl)) (ej_gstr (m := .B) rfl T.c_FIGURES) (by rfl)))))))))))))

/-! ### is_name -/
abbrev st_is_name : Stmt := top 6
def R_is_name_1 : S :=
 (sSeq (sFrz 0) (sRet (oCall g_has_name_signs (lCons (eVar .E 0) lNil))))
def R_is_name_2 : S :=
 (sSeq (sIf (tNotF (tChn gLe gLe (eC (.int 1)) (eUn gLen (eVar .B 0)) (eC (.int 12))))
 (sRet (oOfE (eC (.bl false))))
 sNil)
 R_is_name_1)
def b_is_name : S :=
 (sSeq (sIf (tNotF (tOfE (eUn (isT .str) (eVar .B 0))))
 (sRet (oOfE (eC (.bl false))))
 sNil)
 R_is_name_2)
def g_is_name : Fn := runFn 1 [.E] b_is_name
theorem sc_is_name : FnScope ["value"] ["value"] (defScope st_is_name) := ⟨rfl, rfl, rfl, by decide +kernel, rfl, by decide +kernel, by decide +kernel⟩
theorem ok_is_name {P : Program} {w : World} {K : PySem.W.Frag} {mg : Str → Option Value} {base : Heap} {f : Addr} {fd : FuncData} (T : Txt K mg) (F : FunD K "is_name" "is_name" (defArgs st_is_name) (defBody st_is_name) (defScope st_is_name) [] [] f fd) (hg : mg "is_name" = some (.ref f)) (D_has_name_signs : DefOk P w K mg base 1 "has_name_signs" ["text"] [.E] g_has_name_signs) :
    DefOk P w K mg base 2 "is_name" ["value"] [.E] g_is_name :=
  have Sc := sc_is_name
  def_ok (k := 1) (N := ["value"]) F Sc rfl (by decide) hg (fun _ _ _ _ _ _ us hl => match us, hl with | [_], _ => rfl) fun cdv A outer sh H E C hr tk po =>
 (bj_cons (sj_if (tj_not (tj_val (ej_isi (m := .B) .str rfl T.f_isinstance rfl T.f_str (by decide +kernel) (ej_var (m := .B) (i := 0) rfl (.inl rfl)))))
 (bj_one (sj_ret (oj_E (ej_bl (m := .E)))))
 bj_nil)
 (bj_cons (sj_if (tj_not (tj_chain opr_le cmp_le opr_le cmp_le (ej_int (m := .B)) (ej_call1 (m := .B) call_len c_len rfl T.f_len (by decide +kernel) (ej_var (m := .B) (i := 0) rfl (.inl rfl))) (ej_gint (m := .B) rfl T.c_LONGEST_NAME)))
 (bj_one (sj_ret (oj_E (ej_bl (m := .E)))))
 bj_nil)
 (bj_one (sj_frz 0 (sj_ret (oj_call D_has_name_signs hr (by decide) tk rfl (lj_cons (ej_var (m := .E) (i := 0) rfl (.inl rfl)) lj_nil)))))))

/-! ### is_start -/
abbrev st_is_start : Stmt := top 9
def R_is_start_1 : S :=
 (sSeq (sFrz 0) (sRet (oCall g_are_ascending (lCons (eVar .E 0) lNil))))
def b_is_start : S :=
 (sSeq (sIf (tOrF (tNotF (tOfE (eUn (isT .list) (eVar .B 0)))) (tNotF (tOfE (eUn gAll (eOfO (oComp (lOfA (eVar .I 0)) [1] (gNm 1) tYesF (eOfO (oCall g_is_name (lCons (eVar .E 1) lNil)))))))))
 (sRet (oOfE (eC (.bl false))))
 sNil)
 R_is_start_1)
def g_is_start : Fn := runFn 2 [.E] b_is_start
theorem sc_is_start : FnScope ["value", "name"] ["value"] (defScope st_is_start) := ⟨rfl, rfl, rfl, by decide +kernel, rfl, by decide +kernel, by decide +kernel⟩
theorem ok_is_start {P : Program} {w : World} {K : PySem.W.Frag} {mg : Str → Option Value} {base : Heap} {f : Addr} {fd : FuncData} (T : Txt K mg) (F : FunD K "is_start" "is_start" (defArgs st_is_start) (defBody st_is_start) (defScope st_is_start) [] [] f fd) (hg : mg "is_start" = some (.ref f)) (D_are_ascending : DefOk P w K mg base 1 "are_ascending" ["names"] [.E] g_are_ascending) (D_is_name : DefOk P w K mg base 2 "is_name" ["value"] [.E] g_is_name) :
    DefOk P w K mg base 3 "is_start" ["value"] [.E] g_is_start :=
  have Sc := sc_is_start
  def_ok (k := 2) (N := ["value", "name"]) F Sc rfl (by decide) hg (fun _ _ _ _ _ _ us hl => match us, hl with | [_], _ => rfl) fun cdv A outer sh H E C hr tk po =>
 (bj_cons (sj_if (wj_tj (wj_or (tj_not (tj_val (ej_isi (m := .B) .list rfl T.f_isinstance rfl T.f_list (by decide +kernel) (ej_var (m := .B) (i := 0) rfl (.inl rfl))))) (wj_or1 (tj_not (tj_val (ej_call1 (m := .B) (cr_all rfl) c_all rfl T.f_all (by decide +kernel) (ej_B (ej_O (oj_comp rfl Sc.nd (own := [("name", 1)]) (ij_seqSA (ej_var (m := .I) (i := 0) rfl (.inl rfl))) (blkOk_by (N := ["value", "name"]) (sc := defScope st_is_start) (by decide +kernel)) (fun _ _ _ _ _ _ => (gj_name (i := 1) Sc.nd rfl (.inl rfl))) (fun _ _ _ _ _ _ => tsj_nil) (fun _ _ _ _ _ _ => (ej_O (oj_call D_is_name hr (by decide) takes0 rfl (lj_cons (ej_var (m := .E) (i := 1) rfl (.inl rfl)) lj_nil)))))))))))))
 (bj_one (sj_ret (oj_E (ej_bl (m := .E)))))
 bj_nil)
 (bj_one (sj_frz 0 (sj_ret (oj_call D_are_ascending hr (by decide) tk rfl (lj_cons (ej_var (m := .E) (i := 0) rfl (.inl rfl)) lj_nil))))))

/-! ### is_closed -/
abbrev st_is_closed : Stmt := top 15
def L_is_closed_1 : S :=
 (sSeq (sFrz 5) (sIf (tAndF (tOfE (eOfO (oCall g_all_in (lCons (eVar .E 5) (lCons (eVar .B 3) lNil))))) (tCmp gNotIn (eVar .B 4) (eVar .B 3)))
 (sRet (oOfE (eC (.bl false))))
 sNil))
def R_is_closed_2 : S :=
 (sRet (oOfE (eC (.bl true))))
def R_is_closed_3 : S :=
 (sSeq (sSeq (sFrz 0) (sFor (lOfA (eVar .E 0)) (gTp 2 (gsCons (gNm 4) (gsCons (gNm 5) gsNil)))
 L_is_closed_1))
 R_is_closed_2)
def b_is_closed : S :=
 (sSeq (sSeq (sFrz 3) (sSeq (sFrz 1) (sIf (tOrF (tNotF (tOfE (eOfO (oCall g_is_start (lCons (eVar .E 3) lNil))))) (tOrF (tNotF (tOfE (eOfO (oCall g_all_in (lCons (eVar .E 1) (lCons (eVar .B 3) lNil)))))) (tCmp gIn (eVar .B 2) (eVar .B 3))))
 (sRet (oOfE (eC (.bl false))))
 sNil)))
 R_is_closed_3)
def g_is_closed : Fn := runFn 6 [.E, .E, .B, .E] b_is_closed
theorem sc_is_closed : FnScope ["rules", "start", "field", "value", "shown_field", "conditions"] ["rules", "start", "field", "value"] (defScope st_is_closed) := ⟨rfl, rfl, rfl, by decide +kernel, rfl, by decide +kernel, by decide +kernel⟩
theorem ok_is_closed {P : Program} {w : World} {K : PySem.W.Frag} {mg : Str → Option Value} {base : Heap} {f : Addr} {fd : FuncData} (T : Txt K mg) (F : FunD K "is_closed" "is_closed" (defArgs st_is_closed) (defBody st_is_closed) (defScope st_is_closed) [] [] f fd) (hg : mg "is_closed" = some (.ref f)) (D_all_in : DefOk P w K mg base 1 "all_in" ["names", "among"] [.E, .B] g_all_in) (D_is_start : DefOk P w K mg base 3 "is_start" ["value"] [.E] g_is_start) :
    DefOk P w K mg base 4 "is_closed" ["rules", "start", "field", "value"] [.E, .E, .B, .E] g_is_closed :=
  have Sc := sc_is_closed
  def_ok (k := 3) (N := ["rules", "start", "field", "value", "shown_field", "conditions"]) F Sc rfl (by decide) hg (fun _ _ _ _ _ _ us hl => match us, hl with | [_, _, _, _], _ => rfl) fun cdv A outer sh H E C hr tk po =>
 (bj_cons (sj_frz 3 (sj_frz 1 (sj_if (wj_tj (wj_or (tj_not (tj_val (ej_B (ej_O (oj_call D_is_start hr (by decide) tk rfl (lj_cons (ej_var (m := .E) (i := 3) rfl (.inl rfl)) lj_nil)))))) (wj_or (tj_not (tj_val (ej_B (ej_O (oj_call D_all_in hr (by decide) tk rfl (lj_cons (ej_var (m := .E) (i := 1) rfl (.inl rfl)) (lj_cons (ej_var (m := .B) (i := 3) rfl (.inl rfl)) lj_nil))))))) (wj_or1 (tj_cmp (opr_in (huR hr)) cmp_in (ej_var (m := .B) (i := 2) rfl (.inl rfl)) (ej_var (m := .B) (i := 3) rfl (.inl rfl)) (by rfl))))))
 (bj_one (sj_ret (oj_E (ej_bl (m := .E)))))
 bj_nil)))
 (bj_cons (sj_frz 0 (sj_for (vs := [4, 5]) po rfl (ij_seqA (ej_var (m := .E) (i := 0) rfl (.inl rfl))) (gj_tup rfl (gjs_cons (gj_name (i := 4) Sc.nd rfl (.inl rfl)) (gjs_cons (gj_name (i := 5) Sc.nd rfl (.inl rfl)) gjs_nil)))
 (bj_one (sj_frz 5 (sj_if (wj_tj (wj_and (tj_val (ej_B (ej_O (oj_call D_all_in hr (by decide) tk rfl (lj_cons (ej_var (m := .E) (i := 5) rfl (.inl rfl)) (lj_cons (ej_var (m := .B) (i := 3) rfl (.inl rfl)) lj_nil)))))) (wj_and1 (tj_cmp (opr_notIn (huR hr)) cmp_notIn (ej_var (m := .B) (i := 4) rfl (.inl rfl)) (ej_var (m := .B) (i := 3) rfl (.inl rfl)) (by rfl)))))
 (bj_one (sj_ret (oj_E (ej_bl (m := .E)))))
 bj_nil)))))
 (bj_one (sj_ret (oj_E (ej_bl (m := .E)))))))

/-! ### is_whole -/
abbrev st_is_whole : Stmt := top 4
def b_is_whole : S :=
 (sRet (oOfE (eAnd (eUn (isT .int) (eVar .B 0)) (eNot (eUn (isT .bool) (eVar .B 0))))))
def g_is_whole : Fn := runFn 1 [.B] b_is_whole
theorem sc_is_whole : FnScope ["value"] ["value"] (defScope st_is_whole) := ⟨rfl, rfl, rfl, by decide +kernel, rfl, by decide +kernel, by decide +kernel⟩
theorem ok_is_whole {P : Program} {w : World} {K : PySem.W.Frag} {mg : Str → Option Value} {base : Heap} {f : Addr} {fd : FuncData} (T : Txt K mg) (F : FunD K "is_whole" "is_whole" (defArgs st_is_whole) (defBody st_is_whole) (defScope st_is_whole) [] [] f fd) (hg : mg "is_whole" = some (.ref f))  :
    DefOk P w K mg base 1 "is_whole" ["value"] [.B] g_is_whole :=
  have Sc := sc_is_whole
  def_ok (k := 0) (N := ["value"]) F Sc rfl (by decide) hg (fun _ _ _ _ _ _ us hl => match us, hl with | [_], _ => rfl) fun cdv A outer sh H E C hr tk po =>
 (bj_one (sj_ret (oj_E (ej_and (ej_isi (m := .B) .int rfl T.f_isinstance rfl T.f_int (by decide +kernel) (ej_var (m := .B) (i := 0) rfl (.inl rfl))) (ej_one (ej_not (m := .E) (ej_isi (m := .B) .bool rfl T.f_isinstance rfl T.f_bool (by decide +kernel) (ej_var (m := .B) (i := 0) rfl (.inl rfl)))))))))

/-! ### is_entry -/
abbrev st_is_entry : Stmt := top 12
def R_is_entry_1 : S :=
 (sSeq (sSeq (sFrz 0) (sAsgT (gTp 2 (gsCons (gNm 1) (gsCons (gNm 2) gsNil))) (eVar .E 0)))
 (sSeq (sFrz 1) (sRet (oOfE (eAnd (eOfO (oCall g_is_name (lCons (eVar .E 1) lNil))) (eOr (eCmp gIsN (eVar .B 2) (eC .non)) (eOfO (oCall g_is_whole (lCons (eVar .B 2) lNil)))))))))
def b_is_entry : S :=
 (sSeq (sIf (tOrF (tNotF (tOfE (eUn (isT .tuple) (eVar .B 0)))) (tCmp gNe (eUn gLen (eVar .B 0)) (eC (.int 2))))
 (sRet (oOfE (eC (.bl false))))
 sNil)
 R_is_entry_1)
def g_is_entry : Fn := runFn 3 [.E] b_is_entry
theorem sc_is_entry : FnScope ["value", "name", "index"] ["value"] (defScope st_is_entry) := ⟨rfl, rfl, rfl, by decide +kernel, rfl, by decide +kernel, by decide +kernel⟩
theorem ok_is_entry {P : Program} {w : World} {K : PySem.W.Frag} {mg : Str → Option Value} {base : Heap} {f : Addr} {fd : FuncData} (T : Txt K mg) (F : FunD K "is_entry" "is_entry" (defArgs st_is_entry) (defBody st_is_entry) (defScope st_is_entry) [] [] f fd) (hg : mg "is_entry" = some (.ref f)) (D_is_name : DefOk P w K mg base 2 "is_name" ["value"] [.E] g_is_name) (D_is_whole : DefOk P w K mg base 1 "is_whole" ["value"] [.B] g_is_whole) :
    DefOk P w K mg base 3 "is_entry" ["value"] [.E] g_is_entry :=
  have Sc := sc_is_entry
  def_ok (k := 2) (N := ["value", "name", "index"]) F Sc rfl (by decide) hg (fun _ _ _ _ _ _ us hl => match us, hl with | [_], _ => rfl) fun cdv A outer sh H E C hr tk po =>
 (bj_cons (sj_if (wj_tj (wj_or (tj_not (tj_val (ej_isi (m := .B) .tuple rfl T.f_isinstance rfl T.f_tuple (by decide +kernel) (ej_var (m := .B) (i := 0) rfl (.inl rfl))))) (wj_or1 (tj_cmp (op_neD (huR hr).u64) cmp_ne (ej_call1 (m := .B) call_len c_len rfl T.f_len (by decide +kernel) (ej_var (m := .B) (i := 0) rfl (.inl rfl))) (ej_int (m := .B)) (nomark _)))))
 (bj_one (sj_ret (oj_E (ej_bl (m := .E)))))
 bj_nil)
 (bj_cons (sj_frz 0 (sj_asgT (vs := [1, 2]) (ej_var (m := .E) (i := 0) rfl (.inl rfl)) (gj_tup rfl (gjs_cons (gj_name (i := 1) Sc.nd rfl (.inl rfl)) (gjs_cons (gj_name (i := 2) Sc.nd rfl (.inl rfl)) gjs_nil)))))
 (bj_one (sj_frz 1 (sj_ret (oj_E (ej_and (ej_B (ej_O (oj_call D_is_name hr (by decide) tk rfl (lj_cons (ej_var (m := .E) (i := 1) rfl (.inl rfl)) lj_nil)))) (ej_one (ej_or (ej_cmp (m := .B) op_isN cmp_isN (ej_var (m := .B) (i := 2) rfl (.inl rfl)) (ej_non (m := .B)) (nomark _)) (ej_one (ej_O (oj_call D_is_whole hr (by decide) tk rfl (lj_cons (ej_var (m := .B) (i := 2) rfl (.inl rfl)) lj_nil)))))))))))))

/-! ### stands -/
abbrev st_stands : Stmt := top 13
def R_stands_1 : S :=
 (sSeq (sAsgT (gTp 2 (gsCons (gNm 5) (gsCons (gNm 6) gsNil))) (eIx (eVar .I 0) (eVar .B 3)))
 (sSeq (sFrz 6) (sRet (oOfE (eAnd (eCmp gEq (eVar .B 5) (eVar .B 2)) (eOfO (oCall g_all_in (lCons (eVar .E 6) (lCons (eVar .B 4) lNil)))))))))
def R_stands_2 : S :=
 (sSeq (sIf (tNotF (tChn gLe gLt (eC (.int 0)) (eVar .B 3) (eUn gLen (eVar .B 0))))
 (sRet (oOfE (eC (.bl false))))
 sNil)
 R_stands_1)
def b_stands : S :=
 (sSeq (sIf (tCmp gIsN (eVar .B 3) (eC .non))
 (sRet (oOfE (eCmp gIn (eVar .B 2) (eVar .B 1))))
 sNil)
 R_stands_2)
def g_stands : Fn := runFn 7 [.E, .B, .B, .B, .B] b_stands
theorem sc_stands : FnScope ["rules", "start", "name", "index", "ahead", "field", "conditions"] ["rules", "start", "name", "index", "ahead"] (defScope st_stands) := ⟨rfl, rfl, rfl, by decide +kernel, rfl, by decide +kernel, by decide +kernel⟩
theorem ok_stands {P : Program} {w : World} {K : PySem.W.Frag} {mg : Str → Option Value} {base : Heap} {f : Addr} {fd : FuncData} (T : Txt K mg) (F : FunD K "stands" "stands" (defArgs st_stands) (defBody st_stands) (defScope st_stands) [] [] f fd) (hg : mg "stands" = some (.ref f)) (D_all_in : DefOk P w K mg base 1 "all_in" ["names", "among"] [.E, .B] g_all_in) :
    DefOk P w K mg base 2 "stands" ["rules", "start", "name", "index", "ahead"] [.E, .B, .B, .B, .B] g_stands :=
  have Sc := sc_stands
  def_ok (k := 1) (N := ["rules", "start", "name", "index", "ahead", "field", "conditions"]) F Sc rfl (by decide) hg (fun _ _ _ _ _ _ us hl => match us, hl with | [_, _, _, _, _], _ => rfl) fun cdv A outer sh H E C hr tk po =>
 (bj_cons (sj_if (tj_cmp op_isN cmp_isN (ej_var (m := .B) (i := 3) rfl (.inl rfl)) (ej_non (m := .B)) (nomark _))
 (bj_one (sj_ret (oj_E (ej_cmp (m := .E) (opr_in (huR hr)) cmp_in (ej_var (m := .B) (i := 2) rfl (.inl rfl)) (ej_var (m := .B) (i := 1) rfl (.inl rfl)) (by rfl)))))
 bj_nil)
 (bj_cons (sj_if (tj_not (tj_chain opr_le cmp_le opr_lt cmp_lt (ej_int (m := .B)) (ej_var (m := .B) (i := 3) rfl (.inl rfl)) (ej_call1 (m := .B) call_len c_len rfl T.f_len (by decide +kernel) (ej_var (m := .B) (i := 0) rfl (.inl rfl)))))
 (bj_one (sj_ret (oj_E (ej_bl (m := .E)))))
 bj_nil)
 (bj_cons (sj_asgT (vs := [5, 6]) (ej_ix (huR hr) (ej_var (m := .I) (i := 0) rfl (.inl rfl)) (ej_var (m := .B) (i := 3) rfl (.inl rfl))) (gj_tup rfl (gjs_cons (gj_name (i := 5) Sc.nd rfl (.inl rfl)) (gjs_cons (gj_name (i := 6) Sc.nd rfl (.inl rfl)) gjs_nil))))
 (bj_one (sj_frz 6 (sj_ret (oj_E (ej_and (ej_cmp (m := .B) (op_eqD (huR hr).u64) cmp_eq (ej_var (m := .B) (i := 5) rfl (.inl rfl)) (ej_var (m := .B) (i := 2) rfl (.inl rfl)) (nomark _)) (ej_one (ej_O (oj_call D_all_in hr (by decide) tk rfl (lj_cons (ej_var (m := .E) (i := 6) rfl (.inl rfl)) (lj_cons (ej_var (m := .B) (i := 4) rfl (.inl rfl)) lj_nil)))))))))))))

/-! ### is_derivation -/
abbrev st_is_derivation : Stmt := top 14
def R_is_derivation_1 : S :=
 (sPut 4 (eVar .B 5) (eC (.bl true)))
def L_is_derivation_2 : S :=
 (sSeq (sSeq (sFrz 0) (sIf (tOrF (tCmp gIn (eVar .B 5) (eVar .B 4)) (tNotF (tOfE (eOfO (oCall g_stands (lCons (eVar .E 0) (lCons (eVar .B 1) (lCons (eVar .B 5) (lCons (eVar .B 6) (lCons (eVar .B 4) lNil))))))))))
 (sRet (oOfE (eC (.bl false))))
 sNil))
 R_is_derivation_1)
def R_is_derivation_3 : S :=
 (sSeq (sAsgT (gTp 2 (gsCons (gNm 7) (gsCons (gNm 8) gsNil))) (eIx (eVar .I 3) (eUn gNeg (eC (.int 1)))))
 (sRet (oOfE (eCmp gEq (eVar .B 7) (eVar .B 2)))))
def R_is_derivation_4 : S :=
 (sSeq (sAsg 4 oDic0)
 (sSeq (sSeq (sFrz 3) (sFor (lOfA (eVar .E 3)) (gTp 2 (gsCons (gNm 5) (gsCons (gNm 6) gsNil)))
 L_is_derivation_2))
 R_is_derivation_3))
def b_is_derivation : S :=
 (sSeq (sIf (tOrF (tNotF (tOfE (eUn (isT .list) (eVar .B 3)))) (tOrF (tNotF (tOfE (eVar .B 3))) (tNotF (tOfE (eUn gAll (eOfO (oComp (lOfA (eVar .I 3)) [9] (gNm 9) tYesF (eOfO (oCall g_is_entry (lCons (eVar .E 9) lNil))))))))))
 (sRet (oOfE (eC (.bl false))))
 sNil)
 R_is_derivation_4)
def g_is_derivation : Fn := runFn 10 [.E, .B, .B, .E] b_is_derivation
theorem sc_is_derivation : FnScope ["rules", "start", "field", "value", "ahead", "name", "index", "last_name", "_", "entry"] ["rules", "start", "field", "value"] (defScope st_is_derivation) := ⟨rfl, rfl, rfl, by decide +kernel, rfl, by decide +kernel, by decide +kernel⟩
theorem ok_is_derivation {P : Program} {w : World} {K : PySem.W.Frag} {mg : Str → Option Value} {base : Heap} {f : Addr} {fd : FuncData} (T : Txt K mg) (F : FunD K "is_derivation" "is_derivation" (defArgs st_is_derivation) (defBody st_is_derivation) (defScope st_is_derivation) [] [] f fd) (hg : mg "is_derivation" = some (.ref f)) (D_is_entry : DefOk P w K mg base 3 "is_entry" ["value"] [.E] g_is_entry) (D_stands : DefOk P w K mg base 2 "stands" ["rules", "start", "name", "index", "ahead"] [.E, .B, .B, .B, .B] g_stands) :
    DefOk P w K mg base 4 "is_derivation" ["rules", "start", "field", "value"] [.E, .B, .B, .E] g_is_derivation :=
  have Sc := sc_is_derivation
  def_ok (k := 3) (N := ["rules", "start", "field", "value", "ahead", "name", "index", "last_name", "_", "entry"]) F Sc rfl (by decide) hg (fun _ _ _ _ _ _ us hl => match us, hl with | [_, _, _, _], _ => rfl) fun cdv A outer sh H E C hr tk po =>
 (bj_cons (sj_if (wj_tj (wj_or (tj_not (tj_val (ej_isi (m := .B) .list rfl T.f_isinstance rfl T.f_list (by decide +kernel) (ej_var (m := .B) (i := 3) rfl (.inl rfl))))) (wj_or (tj_not (tj_val (ej_var (m := .B) (i := 3) rfl (.inl rfl)))) (wj_or1 (tj_not (tj_val (ej_call1 (m := .B) (cr_all rfl) c_all rfl T.f_all (by decide +kernel) (ej_B (ej_O (oj_comp rfl Sc.nd (own := [("entry", 9)]) (ij_seqSA (ej_var (m := .I) (i := 3) rfl (.inl rfl))) (blkOk_by (N := ["rules", "start", "field", "value", "ahead", "name", "index", "last_name", "_", "entry"]) (sc := defScope st_is_derivation) (by decide +kernel)) (fun _ _ _ _ _ _ => (gj_name (i := 9) Sc.nd rfl (.inl rfl))) (fun _ _ _ _ _ _ => tsj_nil) (fun _ _ _ _ _ _ => (ej_O (oj_call D_is_entry hr (by decide) takes0 rfl (lj_cons (ej_var (m := .E) (i := 9) rfl (.inl rfl)) lj_nil))))))))))))))
 (bj_one (sj_ret (oj_E (ej_bl (m := .E)))))
 bj_nil)
 (bj_cons (sj_asg (i := 4) Sc.nd rfl (.inl rfl) oj_dic0)
 (bj_cons (sj_frz 3 (sj_for (vs := [5, 6]) po rfl (ij_seqA (ej_var (m := .E) (i := 3) rfl (.inl rfl))) (gj_tup rfl (gjs_cons (gj_name (i := 5) Sc.nd rfl (.inl rfl)) (gjs_cons (gj_name (i := 6) Sc.nd rfl (.inl rfl)) gjs_nil)))
 (bj_cons (sj_frz 0 (sj_if (wj_tj (wj_or (tj_cmp (opr_in (huR hr)) cmp_in (ej_var (m := .B) (i := 5) rfl (.inl rfl)) (ej_var (m := .B) (i := 4) rfl (.inl rfl)) (by rfl)) (wj_or1 (tj_not (tj_val (ej_B (ej_O (oj_call D_stands hr (by decide) tk rfl (lj_cons (ej_var (m := .E) (i := 0) rfl (.inl rfl)) (lj_cons (ej_var (m := .B) (i := 1) rfl (.inl rfl)) (lj_cons (ej_var (m := .B) (i := 5) rfl (.inl rfl)) (lj_cons (ej_var (m := .B) (i := 6) rfl (.inl rfl)) (lj_cons (ej_var (m := .B) (i := 4) rfl (.inl rfl)) lj_nil)))))))))))))
 (bj_one (sj_ret (oj_E (ej_bl (m := .E)))))
 bj_nil))
 (bj_one (sj_put (i := 4) (huR hr) rfl (.inl rfl) (ej_bl (m := .E)) (ej_var (m := .B) (i := 5) rfl (.inl rfl)))))))
 (bj_cons (sj_asgT (vs := [7, 8]) (ej_ix (huR hr) (ej_var (m := .I) (i := 3) rfl (.inl rfl)) (ej_neg (m := .B) (ej_int (m := .B)))) (gj_tup rfl (gjs_cons (gj_name (i := 7) Sc.nd rfl (.inl rfl)) (gjs_cons (gj_name (i := 8) Sc.nd rfl (.inl rfl)) gjs_nil))))
 (bj_one (sj_ret (oj_E (ej_cmp (m := .E) (op_eqD (huR hr).u64) cmp_eq (ej_var (m := .B) (i := 7) rfl (.inl rfl)) (ej_var (m := .B) (i := 2) rfl (.inl rfl)) (nomark _)))))))))

/-! ### shows -/
abbrev st_shows : Stmt := top 16
def R_shows_1 : S :=
 (sSeq (sFrz 3) (sMatch (eVar .E 3)
 (kTup 1 (txt "shown") (gsCons (gNm 4) gsNil) (sSeq (sFrz 4) (sSeq (sFrz 0) (sRet (oCall g_is_derivation (lCons (eVar .E 0) (lCons (eVar .B 1) (lCons (eVar .B 2) (lCons (eVar .E 4) lNil))))))))
 (kTup 1 (txt "hidden") (gsCons (gNm 4) gsNil) (sSeq (sFrz 4) (sSeq (sFrz 1) (sSeq (sFrz 0) (sRet (oCall g_is_closed (lCons (eVar .E 0) (lCons (eVar .E 1) (lCons (eVar .B 2) (lCons (eVar .E 4) lNil)))))))))
 (kWild (sRet (oOfE (eC (.bl false)))))))))
def b_shows : S :=
 (sSeq (sIf (tNotF (tOfE (eUn (isT .tuple) (eVar .B 3))))
 (sRet (oOfE (eC (.bl false))))
 sNil)
 R_shows_1)
def g_shows : Fn := runFn 5 [.E, .E, .B, .E] b_shows
theorem sc_shows : FnScope ["rules", "start", "field", "paper", "value"] ["rules", "start", "field", "paper"] (defScope st_shows) := ⟨rfl, rfl, rfl, by decide +kernel, rfl, by decide +kernel, by decide +kernel⟩
theorem ok_shows {P : Program} {w : World} {K : PySem.W.Frag} {mg : Str → Option Value} {base : Heap} {f : Addr} {fd : FuncData} (T : Txt K mg) (F : FunD K "shows" "shows" (defArgs st_shows) (defBody st_shows) (defScope st_shows) [] [] f fd) (hg : mg "shows" = some (.ref f)) (D_is_closed : DefOk P w K mg base 4 "is_closed" ["rules", "start", "field", "value"] [.E, .E, .B, .E] g_is_closed) (D_is_derivation : DefOk P w K mg base 4 "is_derivation" ["rules", "start", "field", "value"] [.E, .B, .B, .E] g_is_derivation) :
    DefOk P w K mg base 5 "shows" ["rules", "start", "field", "paper"] [.E, .E, .B, .E] g_shows :=
  have Sc := sc_shows
  def_ok (k := 4) (N := ["rules", "start", "field", "paper", "value"]) F Sc rfl (by decide) hg (fun _ _ _ _ _ _ us hl => match us, hl with | [_, _, _, _], _ => rfl) fun cdv A outer sh H E C hr tk po =>
 (bj_cons (sj_if (tj_not (tj_val (ej_isi (m := .B) .tuple rfl T.f_isinstance rfl T.f_tuple (by decide +kernel) (ej_var (m := .B) (i := 3) rfl (.inl rfl)))))
 (bj_one (sj_ret (oj_E (ej_bl (m := .E)))))
 bj_nil)
 (bj_one (sj_frz 3 (sj_matchE (ej_var (m := .E) (i := 3) rfl (.inl rfl))
 (mjE_tup (ns := [("value", _)]) (vs := [4]) rfl (huR hr).u64 (ej_str (m := .B) (mkS_txt _).symm) (gbs_cons (i := 4) Sc.nd rfl (.inl rfl) gbs_nil) (bj_one (sj_frz 4 (sj_frz 0 (sj_ret (oj_call D_is_derivation hr (by decide) tk rfl (lj_cons (ej_var (m := .E) (i := 0) rfl (.inl rfl)) (lj_cons (ej_var (m := .B) (i := 1) rfl (.inl rfl)) (lj_cons (ej_var (m := .B) (i := 2) rfl (.inl rfl)) (lj_cons (ej_var (m := .E) (i := 4) rfl (.inl rfl)) lj_nil)))))))))
 (mjE_tup (ns := [("value", _)]) (vs := [4]) rfl (huR hr).u64 (ej_str (m := .B) (mkS_txt _).symm) (gbs_cons (i := 4) Sc.nd rfl (.inl rfl) gbs_nil) (bj_one (sj_frz 4 (sj_frz 1 (sj_frz 0 (sj_ret (oj_call D_is_closed hr (by decide) tk rfl (lj_cons (ej_var (m := .E) (i := 0) rfl (.inl rfl)) (lj_cons (ej_var (m := .E) (i := 1) rfl (.inl rfl)) (lj_cons (ej_var (m := .B) (i := 2) rfl (.inl rfl)) (lj_cons (ej_var (m := .E) (i := 4) rfl (.inl rfl)) lj_nil))))))))))
 (mjE_wild (bj_one (sj_ret (oj_E (ej_bl (m := .E)))))) (by simp)) (by simp))))))

/-! ### law -/
abbrev st_law : Stmt := top 29
def R_law_1 : S :=
 (sSeq (sFrz 11) (sSeq (sFrz 3) (sSeq (sFrz 2) (sIf (tNotF (tOfE (eOfO (oCall g__law_says (lCons (eOfO (oCall g_shows (lCons (eVar .E 2) (lCons (eVar .E 3) (lCons (eVar .B 9) (lCons (eTup (lCons (eC (.str (txt "hidden"))) (lCons (eVar .E 11) lNil))) lNil)))))) (lCons (eVar .B 10) lNil))))))
 (sRet (oOfE (eC (.bl false))))
 sNil))))
def L_law_2 : S :=
 (sSeq (sSeq (sFrz 7) (sSeq (sFrz 3) (sSeq (sFrz 2) (sAsg 10 (oCall g__law_is_closed (lCons (eVar .E 2) (lCons (eVar .E 3) (lCons (eVar .B 9) (lCons (eVar .E 7) lNil)))))))))
 (sSeq (sAsg 11 (oUn gListA (eVar .I 7)))
 (sSeq (sSeq (sFrz 11) (sIf (tOrF (tNotF (tOfE (eOfO (oCall g__law_says (lCons (eOfO (oCall g_is_closed (lCons (eOfO (oUn gListA (eVar .I 2))) (lCons (eOfO (oUn gListA (eVar .I 3))) (lCons (eVar .B 9) (lCons (eVar .E 11) lNil)))))) (lCons (eVar .B 10) lNil)))))) (tCmp gNe (eVar .B 11) (eVar .B 7)))
 (sRet (oOfE (eC (.bl false))))
 sNil))
 R_law_1)))
def R_law_3 : S :=
 (sSeq (sFrz 12) (sSeq (sFrz 3) (sSeq (sFrz 2) (sIf (tNotF (tOfE (eOfO (oCall g__law_says (lCons (eOfO (oCall g_shows (lCons (eVar .E 2) (lCons (eVar .E 3) (lCons (eVar .B 9) (lCons (eTup (lCons (eC (.str (txt "hidden"))) (lCons (eVar .E 12) lNil))) lNil)))))) (lCons (eVar .B 10) lNil))))))
 (sRet (oOfE (eC (.bl false))))
 sNil))))
def L_law_4 : S :=
 (sSeq (sSeq (sFrz 12) (sSeq (sFrz 3) (sSeq (sFrz 2) (sAsg 10 (oCall g__law_is_closed (lCons (eVar .E 2) (lCons (eVar .E 3) (lCons (eVar .B 9) (lCons (eVar .E 12) lNil)))))))))
 (sSeq (sSeq (sFrz 12) (sSeq (sFrz 3) (sSeq (sFrz 2) (sIf (tNotF (tOfE (eOfO (oCall g__law_says (lCons (eOfO (oCall g_is_closed (lCons (eVar .E 2) (lCons (eVar .E 3) (lCons (eVar .B 9) (lCons (eVar .E 12) lNil)))))) (lCons (eVar .B 10) lNil))))))
 (sRet (oOfE (eC (.bl false))))
 sNil))))
 R_law_3))
def L_law_5 : S :=
 (sSeq (sFrz 13) (sSeq (sFrz 3) (sSeq (sFrz 2) (sIf (tNotF (tOfE (eOfO (oCall g__law_says (lCons (eOfO (oCall g_shows (lCons (eVar .E 2) (lCons (eVar .E 3) (lCons (eVar .B 9) (lCons (eVar .E 13) lNil)))))) (lCons (eC (.bl false)) lNil))))))
 (sRet (oOfE (eC (.bl false))))
 sNil))))
def R_law_6 : S :=
 (sSeq (sFrz 7) (sFor (lOfA (eOfO (oCall g__law_papers (lCons (eVar .E 7) lNil)))) (gNm 13)
 L_law_5))
def R_law_7 : S :=
 (sSeq (sAsg 9 (oOfE (eIx (eVar .I 8) (eBin gMod (eIx (eVar .B 4) (eC (.int 9))) (eUn gLen (eVar .B 8))))))
 (sSeq (sSeq (sFrz 7) (sSeq (sFrz 1) (sFor (lOfA (eOfO (oCall g__law_changed (lCons (eVar .E 7) (lCons (eVar .E 1) (lCons (eOfO (oSl (eVar .I 4) (pAt (eVar .B 5)) pNo)) lNil)))))) (gNm 12)
 L_law_4)))
 R_law_6))
def L_law_8 : S :=
 (sSeq (sAsg 6 (oComp (lOfA (eVar .I 1)) [14] (gNm 14) (tAndF (tCmp gLt (eBin gMod (eIx (eVar .B 4) (eOfO (oBin gAdd (eVar .I 5) (eBin gMod (eM1 .list gIndex (eVar .B 1) (eVar .B 14)) (eC (.int 9)))))) (eC (.int 4))) (eVar .B 5)) (tCmp gNotIn (eVar .B 14) (eVar .B 3))) (eVar .E 14)))
 (sSeq (sSeq (sFrz 2) (sAsg 7 (oCall g__law_closed_from (lCons (eVar .E 2) (lCons (eOfO (oBin gAdd (eVar .I 3) (eVar .I 6))) lNil)))))
 (sSeq (sAsg 8 (oBin gAdd (eOfO (oComp (lOfA (eVar .I 1)) [14] (gNm 14) (tCmp gNotIn (eVar .B 14) (eVar .B 7)) (eVar .E 14))) (eOfO (oLst (lCons (eC (.str (txt "zzzzzzzzzzzz"))) (lCons (eC (.str (txt "a0"))) lNil))))))
 (sSeq (sFor (lOfA (eOfO (oBin gAdd (eVar .I 8) (eOfO (oSl (eVar .I 7) pNo (pAt (eC (.int 2)))))))) (gNm 9)
 L_law_2)
 R_law_7))))
def R_law_9 : S :=
 (sRet (oOfE (eC (.bl true))))
def b_law : S :=
 (sSeq (sAsgT (gTp 3 (gsCons (gNm 1) (gsCons (gNm 2) (gsCons (gNm 3) gsNil)))) (eOfO (oCall g__law_world (lCons (eVar .B 0) (lCons (eC (.int 8)) (lCons (eC (.int 12)) lNil))))))
 (sSeq (sAsg 4 (oCall g__law_numbers (lCons (eVar .B 0) (lCons (eC (.int 24)) (lCons (eC (.int 12)) lNil)))))
 (sSeq (sFor (lRange1 (eC (.int 3))) (gNm 5)
 L_law_8)
 R_law_9)))
def g_law : Fn := runFn 15 [.E] b_law
theorem sc_law : FnScope ["script", "names", "rules", "start", "numbers", "turn", "more", "value", "fields", "field", "due", "kept", "changed", "paper", "name"] ["script"] (defScope st_law) := ⟨rfl, rfl, rfl, by decide +kernel, rfl, by decide +kernel, by decide +kernel⟩
theorem ok_law {P : Program} {w : World} {K : PySem.W.Frag} {mg : Str → Option Value} {base : Heap} {f : Addr} {fd : FuncData} (T : Txt K mg) (F : FunD K "law" "law" (defArgs st_law) (defBody st_law) (defScope st_law) [] [] f fd) (D__law_changed : DefOk P w K mg base 1 "_law_changed" ["value", "names", "numbers"] [.E, .E, .B] g__law_changed) (D__law_closed_from : DefOk P w K mg base 1 "_law_closed_from" ["rules", "begin"] [.E, .E] g__law_closed_from) (D__law_is_closed : DefOk P w K mg base 2 "_law_is_closed" ["rules", "start", "field", "value"] [.E, .E, .B, .E] g__law_is_closed) (D__law_numbers : DefOk P w K mg base 1 "_law_numbers" ["script", "at", "count"] [.B, .E, .B] g__law_numbers) (D__law_papers : DefOk P w K mg base 1 "_law_papers" ["value"] [.E] g__law_papers) (D__law_says : DefOk P w K mg base 1 "_law_says" ["actual", "due"] [.B, .B] g__law_says) (D__law_world : DefOk P w K mg base 3 "_law_world" ["script", "size", "most"] [.B, .B, .E] g__law_world) (D_is_closed : DefOk P w K mg base 4 "is_closed" ["rules", "start", "field", "value"] [.E, .E, .B, .E] g_is_closed) (D_shows : DefOk P w K mg base 5 "shows" ["rules", "start", "field", "paper"] [.E, .E, .B, .E] g_shows) :
    FnOk P w K mg base (L2.CX P w) 6 f fd ["script"] (spG K [.E] g_law) :=
  have Sc := sc_law
  fn_ok (k := 5) (N := ["script", "names", "rules", "start", "numbers", "turn", "more", "value", "fields", "field", "due", "kept", "changed", "paper", "name"]) F Sc rfl (by decide) fun cdv A outer sh H E C hr tk po =>
 (bj_cons (sj_asgT (vs := [1, 2, 3]) (ej_O (oj_call D__law_world hr (by decide) tk rfl (lj_cons (ej_var (m := .B) (i := 0) rfl (.inl rfl)) (lj_cons (ej_int (m := .B)) (lj_cons (ej_int (m := .E)) lj_nil))))) (gj_tup rfl (gjs_cons (gj_name (i := 1) Sc.nd rfl (.inr rfl)) (gjs_cons (gj_name (i := 2) Sc.nd rfl (.inl rfl)) (gjs_cons (gj_name (i := 3) Sc.nd rfl (.inr rfl)) gjs_nil)))))
 (bj_cons (sj_asg (i := 4) Sc.nd rfl (.inr rfl) (oj_call D__law_numbers hr (by decide) tk rfl (lj_cons (ej_var (m := .B) (i := 0) rfl (.inl rfl)) (lj_cons (ej_int (m := .E)) (lj_cons (ej_int (m := .B)) lj_nil)))))
 (bj_cons (sj_for (vs := [5]) po rfl (ij_range1 rfl T.f_range (ej_int (m := .B))) (gj_name (i := 5) Sc.nd rfl (.inr rfl))
 (bj_cons (sj_asgLc (i := 6) rfl Sc.nd rfl rfl (sw_true rfl rfl rfl (by decide +kernel)) (own := [("name", 14)]) (ij_seqSA (ej_var (m := .I) (i := 1) rfl (.inr (.inl rfl)))) (blkOk_by (N := ["script", "names", "rules", "start", "numbers", "turn", "more", "value", "fields", "field", "due", "kept", "changed", "paper", "name"]) (sc := defScope st_law) (by decide +kernel)) (fun _ _ _ _ _ _ => (gj_name (i := 14) Sc.nd rfl (.inl rfl))) (fun _ _ _ _ _ _ => (tsj_one (wj_tj (wj_and (tj_cmp opr_lt cmp_lt (ej_mod (m := .B) (ej_ixB (huR hr) (ej_var (m := .B) (i := 4) rfl (.inr (.inl rfl))) (ej_B (ej_O (oj_add (ej_var (m := .I) (i := 5) rfl (.inr (.inl rfl))) (ej_mod (m := .I) (ej_m1 (m := .B) .list PySem.F.plainAttrs_list PySem.F.slot_list_index PySem.F.type_list_index mt_index m_index (ej_var (m := .B) (i := 1) rfl (.inr (.inl rfl))) (ej_var (m := .B) (i := 14) rfl (.inl rfl))) (ej_int (m := .B))))))) (ej_int (m := .B))) (ej_var (m := .B) (i := 5) rfl (.inr (.inl rfl))) (nomark _)) (wj_and1 (tj_cmp (opr_notIn (huR hr)) cmp_notIn (ej_var (m := .B) (i := 14) rfl (.inl rfl)) (ej_var (m := .B) (i := 3) rfl (.inr (.inl rfl))) (by rfl))))))) (fun _ _ _ _ _ _ => (ej_var (m := .E) (i := 14) rfl (.inl rfl))))
 (bj_cons (sj_frz 2 (sj_asg (i := 7) Sc.nd rfl (.inr rfl) (oj_call D__law_closed_from hr (by decide) tk rfl (lj_cons (ej_var (m := .E) (i := 2) rfl (.inl rfl)) (lj_cons (ej_O (oj_add (ej_var (m := .I) (i := 3) rfl (.inr (.inl rfl))) (ej_var (m := .I) (i := 6) rfl (.inl rfl)))) lj_nil)))))
 (bj_cons (sj_asg (i := 8) Sc.nd rfl (.inl rfl) (oj_add (ej_I (ej_O (oj_comp rfl Sc.nd (own := [("name", 14)]) (ij_seqSA (ej_var (m := .I) (i := 1) rfl (.inr (.inl rfl)))) (blkOk_by (N := ["script", "names", "rules", "start", "numbers", "turn", "more", "value", "fields", "field", "due", "kept", "changed", "paper", "name"]) (sc := defScope st_law) (by decide +kernel)) (fun _ _ _ _ _ _ => (gj_name (i := 14) Sc.nd rfl (.inl rfl))) (fun _ _ _ _ _ _ => (tsj_one (tj_cmp (opr_notIn (huR hr)) cmp_notIn (ej_var (m := .B) (i := 14) rfl (.inl rfl)) (ej_var (m := .B) (i := 7) rfl (.inr (.inl rfl))) (by rfl)))) (fun _ _ _ _ _ _ => (ej_var (m := .E) (i := 14) rfl (.inl rfl)))))) (ej_I (ej_O (oj_lst (le_cons (ej_str (m := .E) (mkS_txt _).symm) (le_cons (ej_str (m := .E) (mkS_txt _).symm) le_nil)))))))
 (bj_cons (sj_for (vs := [9]) po rfl (ij_seqA (ej_O (oj_add (ej_var (m := .I) (i := 8) rfl (.inl rfl)) (ej_I (ej_O (oj_sl (ej_var (m := .I) (i := 7) rfl (.inr (.inl rfl))) pj_none (pj_some (ej_int (m := .B))))))))) (gj_name (i := 9) Sc.nd rfl (.inl rfl))
 (bj_cons (sj_frz 7 (sj_frz 3 (sj_frz 2 (sj_asg (i := 10) Sc.nd rfl (.inl rfl) (oj_call D__law_is_closed hr (by decide) tk rfl (lj_cons (ej_var (m := .E) (i := 2) rfl (.inl rfl)) (lj_cons (ej_var (m := .E) (i := 3) rfl (.inr (.inl rfl))) (lj_cons (ej_var (m := .B) (i := 9) rfl (.inl rfl)) (lj_cons (ej_var (m := .E) (i := 7) rfl (.inr (.inl rfl))) lj_nil)))))))))
 (bj_cons (sj_asg (i := 11) Sc.nd rfl (.inl rfl) (oj_callT1 (call_listA rfl) c_listA rfl T.f_list (by decide +kernel) (ej_var (m := .I) (i := 7) rfl (.inr (.inl rfl)))))
 (bj_cons (sj_frz 11 (sj_if (wj_tj (wj_or (tj_not (tj_val (ej_B (ej_O (oj_call D__law_says hr (by decide) tk rfl (lj_cons (ej_B (ej_O (oj_call D_is_closed hr (by decide) tk rfl (lj_cons (ej_O (oj_callT1 (call_listA rfl) c_listA rfl T.f_list (by decide +kernel) (ej_var (m := .I) (i := 2) rfl (.inl rfl)))) (lj_cons (ej_O (oj_callT1 (call_listA rfl) c_listA rfl T.f_list (by decide +kernel) (ej_var (m := .I) (i := 3) rfl (.inr (.inl rfl))))) (lj_cons (ej_var (m := .B) (i := 9) rfl (.inl rfl)) (lj_cons (ej_var (m := .E) (i := 11) rfl (.inl rfl)) lj_nil))))))) (lj_cons (ej_var (m := .B) (i := 10) rfl (.inl rfl)) lj_nil))))))) (wj_or1 (tj_cmp (op_neD (huR hr).u64) cmp_ne (ej_var (m := .B) (i := 11) rfl (.inl rfl)) (ej_var (m := .B) (i := 7) rfl (.inr (.inl rfl))) (nomark _)))))
 (bj_one (sj_ret (oj_E (ej_bl (m := .E)))))
 bj_nil))
 (bj_one (sj_frz 11 (sj_frz 3 (sj_frz 2 (sj_if (tj_not (tj_val (ej_B (ej_O (oj_call D__law_says hr (by decide) tk rfl (lj_cons (ej_B (ej_O (oj_call D_shows hr (by decide) tk rfl (lj_cons (ej_var (m := .E) (i := 2) rfl (.inl rfl)) (lj_cons (ej_var (m := .E) (i := 3) rfl (.inr (.inl rfl))) (lj_cons (ej_var (m := .B) (i := 9) rfl (.inl rfl)) (lj_cons (ej_tup (le_cons (ej_str (m := .E) (mkS_txt _).symm) (le_cons (ej_var (m := .E) (i := 11) rfl (.inl rfl)) le_nil))) lj_nil))))))) (lj_cons (ej_var (m := .B) (i := 10) rfl (.inl rfl)) lj_nil)))))))
 (bj_one (sj_ret (oj_E (ej_bl (m := .E)))))
 bj_nil)))))))))
 (bj_cons (sj_asg (i := 9) Sc.nd rfl (.inl rfl) (oj_E (ej_ix (huR hr) (ej_var (m := .I) (i := 8) rfl (.inl rfl)) (ej_mod (m := .B) (ej_ixB (huR hr) (ej_var (m := .B) (i := 4) rfl (.inr (.inl rfl))) (ej_int (m := .B))) (ej_call1 (m := .B) call_len c_len rfl T.f_len (by decide +kernel) (ej_var (m := .B) (i := 8) rfl (.inl rfl)))))))
 (bj_cons (sj_frz 7 (sj_frz 1 (sj_for (vs := [12]) po rfl (ij_seqA (ej_O (oj_call D__law_changed hr (by decide) tk rfl (lj_cons (ej_var (m := .E) (i := 7) rfl (.inr (.inl rfl))) (lj_cons (ej_var (m := .E) (i := 1) rfl (.inr (.inl rfl))) (lj_cons (ej_B (ej_O (oj_sl (ej_var (m := .I) (i := 4) rfl (.inr (.inl rfl))) (pj_some (ej_var (m := .B) (i := 5) rfl (.inr (.inl rfl)))) pj_none))) lj_nil)))))) (gj_name (i := 12) Sc.nd rfl (.inl rfl))
 (bj_cons (sj_frz 12 (sj_frz 3 (sj_frz 2 (sj_asg (i := 10) Sc.nd rfl (.inl rfl) (oj_call D__law_is_closed hr (by decide) tk rfl (lj_cons (ej_var (m := .E) (i := 2) rfl (.inl rfl)) (lj_cons (ej_var (m := .E) (i := 3) rfl (.inr (.inl rfl))) (lj_cons (ej_var (m := .B) (i := 9) rfl (.inl rfl)) (lj_cons (ej_var (m := .E) (i := 12) rfl (.inl rfl)) lj_nil)))))))))
 (bj_cons (sj_frz 12 (sj_frz 3 (sj_frz 2 (sj_if (tj_not (tj_val (ej_B (ej_O (oj_call D__law_says hr (by decide) tk rfl (lj_cons (ej_B (ej_O (oj_call D_is_closed hr (by decide) tk rfl (lj_cons (ej_var (m := .E) (i := 2) rfl (.inl rfl)) (lj_cons (ej_var (m := .E) (i := 3) rfl (.inr (.inl rfl))) (lj_cons (ej_var (m := .B) (i := 9) rfl (.inl rfl)) (lj_cons (ej_var (m := .E) (i := 12) rfl (.inl rfl)) lj_nil))))))) (lj_cons (ej_var (m := .B) (i := 10) rfl (.inl rfl)) lj_nil)))))))
 (bj_one (sj_ret (oj_E (ej_bl (m := .E)))))
 bj_nil))))
 (bj_one (sj_frz 12 (sj_frz 3 (sj_frz 2 (sj_if (tj_not (tj_val (ej_B (ej_O (oj_call D__law_says hr (by decide) tk rfl (lj_cons (ej_B (ej_O (oj_call D_shows hr (by decide) tk rfl (lj_cons (ej_var (m := .E) (i := 2) rfl (.inl rfl)) (lj_cons (ej_var (m := .E) (i := 3) rfl (.inr (.inl rfl))) (lj_cons (ej_var (m := .B) (i := 9) rfl (.inl rfl)) (lj_cons (ej_tup (le_cons (ej_str (m := .E) (mkS_txt _).symm) (le_cons (ej_var (m := .E) (i := 12) rfl (.inl rfl)) le_nil))) lj_nil))))))) (lj_cons (ej_var (m := .B) (i := 10) rfl (.inl rfl)) lj_nil)))))))
 (bj_one (sj_ret (oj_E (ej_bl (m := .E)))))
 bj_nil))))))))))
 (bj_one (sj_frz 7 (sj_for (vs := [13]) po rfl (ij_seqA (ej_O (oj_call D__law_papers hr (by decide) tk rfl (lj_cons (ej_var (m := .E) (i := 7) rfl (.inr (.inl rfl))) lj_nil)))) (gj_name (i := 13) Sc.nd rfl (.inl rfl))
 (bj_one (sj_frz 13 (sj_frz 3 (sj_frz 2 (sj_if (tj_not (tj_val (ej_B (ej_O (oj_call D__law_says hr (by decide) tk rfl (lj_cons (ej_B (ej_O (oj_call D_shows hr (by decide) tk rfl (lj_cons (ej_var (m := .E) (i := 2) rfl (.inl rfl)) (lj_cons (ej_var (m := .E) (i := 3) rfl (.inr (.inl rfl))) (lj_cons (ej_var (m := .B) (i := 9) rfl (.inl rfl)) (lj_cons (ej_var (m := .E) (i := 13) rfl (.inl rfl)) lj_nil))))))) (lj_cons (ej_bl (m := .B)) lj_nil)))))))
 (bj_one (sj_ret (oj_E (ej_bl (m := .E)))))
 bj_nil)))))))))))))))
 (bj_one (sj_ret (oj_E (ej_bl (m := .E))))))))

/-! ### the head -/
def dd__law_changed : He.DefD := ⟨("_law_changed", none), "_law_changed", "_law_changed", defArgs st__law_changed, defBody st__law_changed, defScope st__law_changed, [], []⟩
def dd__law_closed_from : He.DefD := ⟨("_law_closed_from", none), "_law_closed_from", "_law_closed_from", defArgs st__law_closed_from, defBody st__law_closed_from, defScope st__law_closed_from, [], []⟩
def dd__law_is_name : He.DefD := ⟨("_law_is_name", none), "_law_is_name", "_law_is_name", defArgs st__law_is_name, defBody st__law_is_name, defScope st__law_is_name, [], []⟩
def dd__law_is_closed : He.DefD := ⟨("_law_is_closed", none), "_law_is_closed", "_law_is_closed", defArgs st__law_is_closed, defBody st__law_is_closed, defScope st__law_is_closed, [], []⟩
def dd__law_numbers : He.DefD := ⟨("_law_numbers", none), "_law_numbers", "_law_numbers", defArgs st__law_numbers, defBody st__law_numbers, defScope st__law_numbers, [], []⟩
def dd__law_papers : He.DefD := ⟨("_law_papers", none), "_law_papers", "_law_papers", defArgs st__law_papers, defBody st__law_papers, defScope st__law_papers, [], []⟩
def dd__law_says : He.DefD := ⟨("_law_says", none), "_law_says", "_law_says", defArgs st__law_says, defBody st__law_says, defScope st__law_says, [], []⟩
def dd__law_pool : He.DefD := ⟨("_law_pool", none), "_law_pool", "_law_pool", defArgs st__law_pool, defBody st__law_pool, defScope st__law_pool, [], []⟩
def dd__law_some : He.DefD := ⟨("_law_some", none), "_law_some", "_law_some", defArgs st__law_some, defBody st__law_some, defScope st__law_some, [], []⟩
def dd__law_rules : He.DefD := ⟨("_law_rules", none), "_law_rules", "_law_rules", defArgs st__law_rules, defBody st__law_rules, defScope st__law_rules, [], []⟩
def dd__law_world : He.DefD := ⟨("_law_world", none), "_law_world", "_law_world", defArgs st__law_world, defBody st__law_world, defScope st__law_world, [], []⟩
def dd_all_in : He.DefD := ⟨("all_in", none), "all_in", "all_in", defArgs st_all_in, defBody st_all_in, defScope st_all_in, [], []⟩
def dd_are_ascending : He.DefD := ⟨("are_ascending", none), "are_ascending", "are_ascending", defArgs st_are_ascending, defBody st_are_ascending, defScope st_are_ascending, [], []⟩
def dd_has_name_signs : He.DefD := ⟨("has_name_signs", none), "has_name_signs", "has_name_signs", defArgs st_has_name_signs, defBody st_has_name_signs, defScope st_has_name_signs, [], []⟩
def dd_is_name : He.DefD := ⟨("is_name", none), "is_name", "is_name", defArgs st_is_name, defBody st_is_name, defScope st_is_name, [], []⟩
def dd_is_start : He.DefD := ⟨("is_start", none), "is_start", "is_start", defArgs st_is_start, defBody st_is_start, defScope st_is_start, [], []⟩
def dd_is_closed : He.DefD := ⟨("is_closed", none), "is_closed", "is_closed", defArgs st_is_closed, defBody st_is_closed, defScope st_is_closed, [], []⟩
def dd_is_whole : He.DefD := ⟨("is_whole", none), "is_whole", "is_whole", defArgs st_is_whole, defBody st_is_whole, defScope st_is_whole, [], []⟩
def dd_is_entry : He.DefD := ⟨("is_entry", none), "is_entry", "is_entry", defArgs st_is_entry, defBody st_is_entry, defScope st_is_entry, [], []⟩
def dd_stands : He.DefD := ⟨("stands", none), "stands", "stands", defArgs st_stands, defBody st_stands, defScope st_stands, [], []⟩
def dd_is_derivation : He.DefD := ⟨("is_derivation", none), "is_derivation", "is_derivation", defArgs st_is_derivation, defBody st_is_derivation, defScope st_is_derivation, [], []⟩
def dd_shows : He.DefD := ⟨("shows", none), "shows", "shows", defArgs st_shows, defBody st_shows, defScope st_shows, [], []⟩
def dd_law : He.DefD := ⟨("law", none), "law", "law", defArgs st_law, defBody st_law, defScope st_law, [], []⟩
def fn_0 : List He.DefD := [dd__law_changed, dd__law_closed_from, dd__law_is_name, dd__law_is_closed, dd__law_numbers, dd__law_papers, dd__law_says, dd__law_pool, dd__law_some, dd__law_rules, dd__law_world, dd_all_in, dd_are_ascending, dd_has_name_signs, dd_is_name, dd_is_start, dd_is_closed, dd_is_whole, dd_is_entry, dd_stands, dd_is_derivation, dd_shows, dd_law]
def fn : List He.DefD := fn_0
def fa_0 : List FaX := [.b (.glo "_law_changed"), .b (.glo "_law_closed_from"), .b (.glo "_law_is_name"), .b (.glo "_law_is_closed"), .b (.glo "_law_numbers"), .b (.glo "_law_papers"), .b (.glo "_law_says"), .b (.glo "_law_pool"), .b (.glo "_law_some"), .b (.glo "_law_rules"), .b (.glo "_law_world"), .b (.glo "all_in"), .b (.glo "are_ascending"), .b (.glo "has_name_signs"), .b (.glo "is_name"), .b (.glo "is_start"), .b (.glo "is_closed"), .b (.glo "is_whole"), .b (.glo "is_entry"), .b (.glo "stands"), .b (.glo "is_derivation"), .b (.glo "shows"), .b (.glo "law"), .b (.free "all"), .b (.free "bool"), .b (.free "int"), .b (.free "isinstance"), .b (.free "len"), .b (.free "list"), .b (.free "range"), .b (.free "sorted"), .b (.free "str"), .b (.free "tuple"), .b (.free "zip"), .b (.str "FIGURES" (mkS (txt "0123456789"))), .b (.str "LETTERS" (mkS (txt "abcdefghijklmnopqrstuvwxyz"))), .b (.int "LONGEST_NAME" 12)]
def fa : List FaX := fa_0
def loose : List Str := (["LETTERS", "FIGURES", "LONGEST_NAME", "is_whole", "has_name_signs", "is_name", "are_ascending", "is_start", "all_in", "is_entry", "stands", "is_derivation", "is_closed", "shows", "_law_numbers", "_law_says", "_law_pool", "_law_some", "_law_rules", "_law_world", "_law_is_name", "_law_is_closed", "_law_closed_from", "_law_changed", "_law_papers"] : List Str)
abbrev R : PySem.W.OpenRow := PySem.W.OpenLaw.row PySem.Challenge.rw_formsforall_k28_judge_of_closed_lists
abbrev hk : PySem.W.Hook := hookN 3000 fa fn
def ob (s : PySem.W.SharedT) : He.AlD := obsNG 3000 fa fn (HandSHeadRun.getT s)
theorem ob_eq (s : PySem.W.SharedT) : ob s = hk.obs s.abs := obsNG_eq (HandSHeadRun.getT_eq s)
theorem run_l (w : World) : LookR R 20000 w := by
  intro os
  kernel_rfl
theorem run_s (w : World) : SeenR R (PySem.W.view R.prog [29]) 20000 loose w := by
  intro os
  kernel_rfl
theorem run_0 (w : World) : ObsR R 20000 3000 fa_0 fn_0 w := by
  intro os
  kernel_rfl
theorem run (w : World) : HandSHeadRun.RunEq R (PySem.W.view R.prog [29]) hk ob 20000 loose w := run_join (run_l w) (run_s w) (run_0 w)
theorem facts {P : Program} {w : World} {K : PySem.W.Frag} {h : Heap} {mg : Str → Option Value} {f : Addr} (X : K.In h) (G : h.Ns mainGlobals mg) (hfa : mg ("law" : Str) = some (.ref f)) (c : SaysX fa fn K) :
    ∃ fd : FuncData, (∀ (s : Shared) (v : Value), BindsTo s fd ⟨[v], []⟩ [("script", v)]) ∧ ∀ base : Heap, K.In base → base.Ns mainGlobals mg → FnOk P w K mg base (L2.CX P w) 6 f fd ["script"] (spG K [.E] g_law) := by
  obtain ⟨fd__law_changed, F__law_changed⟩ := c.def_ 0 (d := dd__law_changed) rfl
  have G__law_changed := He.glo_ok X G (c.fact 0 (f := .glo "_law_changed") rfl)
  obtain ⟨fd__law_closed_from, F__law_closed_from⟩ := c.def_ 1 (d := dd__law_closed_from) rfl
  have G__law_closed_from := He.glo_ok X G (c.fact 1 (f := .glo "_law_closed_from") rfl)
  obtain ⟨fd__law_is_name, F__law_is_name⟩ := c.def_ 2 (d := dd__law_is_name) rfl
  have G__law_is_name := He.glo_ok X G (c.fact 2 (f := .glo "_law_is_name") rfl)
  obtain ⟨fd__law_is_closed, F__law_is_closed⟩ := c.def_ 3 (d := dd__law_is_closed) rfl
  have G__law_is_closed := He.glo_ok X G (c.fact 3 (f := .glo "_law_is_closed") rfl)
  obtain ⟨fd__law_numbers, F__law_numbers⟩ := c.def_ 4 (d := dd__law_numbers) rfl
  have G__law_numbers := He.glo_ok X G (c.fact 4 (f := .glo "_law_numbers") rfl)
  obtain ⟨fd__law_papers, F__law_papers⟩ := c.def_ 5 (d := dd__law_papers) rfl
  have G__law_papers := He.glo_ok X G (c.fact 5 (f := .glo "_law_papers") rfl)
  obtain ⟨fd__law_says, F__law_says⟩ := c.def_ 6 (d := dd__law_says) rfl
  have G__law_says := He.glo_ok X G (c.fact 6 (f := .glo "_law_says") rfl)
  obtain ⟨fd__law_pool, F__law_pool⟩ := c.def_ 7 (d := dd__law_pool) rfl
  have G__law_pool := He.glo_ok X G (c.fact 7 (f := .glo "_law_pool") rfl)
  obtain ⟨fd__law_some, F__law_some⟩ := c.def_ 8 (d := dd__law_some) rfl
  have G__law_some := He.glo_ok X G (c.fact 8 (f := .glo "_law_some") rfl)
  obtain ⟨fd__law_rules, F__law_rules⟩ := c.def_ 9 (d := dd__law_rules) rfl
  have G__law_rules := He.glo_ok X G (c.fact 9 (f := .glo "_law_rules") rfl)
  obtain ⟨fd__law_world, F__law_world⟩ := c.def_ 10 (d := dd__law_world) rfl
  have G__law_world := He.glo_ok X G (c.fact 10 (f := .glo "_law_world") rfl)
  obtain ⟨fd_all_in, F_all_in⟩ := c.def_ 11 (d := dd_all_in) rfl
  have G_all_in := He.glo_ok X G (c.fact 11 (f := .glo "all_in") rfl)
  obtain ⟨fd_are_ascending, F_are_ascending⟩ := c.def_ 12 (d := dd_are_ascending) rfl
  have G_are_ascending := He.glo_ok X G (c.fact 12 (f := .glo "are_ascending") rfl)
  obtain ⟨fd_has_name_signs, F_has_name_signs⟩ := c.def_ 13 (d := dd_has_name_signs) rfl
  have G_has_name_signs := He.glo_ok X G (c.fact 13 (f := .glo "has_name_signs") rfl)
  obtain ⟨fd_is_name, F_is_name⟩ := c.def_ 14 (d := dd_is_name) rfl
  have G_is_name := He.glo_ok X G (c.fact 14 (f := .glo "is_name") rfl)
  obtain ⟨fd_is_start, F_is_start⟩ := c.def_ 15 (d := dd_is_start) rfl
  have G_is_start := He.glo_ok X G (c.fact 15 (f := .glo "is_start") rfl)
  obtain ⟨fd_is_closed, F_is_closed⟩ := c.def_ 16 (d := dd_is_closed) rfl
  have G_is_closed := He.glo_ok X G (c.fact 16 (f := .glo "is_closed") rfl)
  obtain ⟨fd_is_whole, F_is_whole⟩ := c.def_ 17 (d := dd_is_whole) rfl
  have G_is_whole := He.glo_ok X G (c.fact 17 (f := .glo "is_whole") rfl)
  obtain ⟨fd_is_entry, F_is_entry⟩ := c.def_ 18 (d := dd_is_entry) rfl
  have G_is_entry := He.glo_ok X G (c.fact 18 (f := .glo "is_entry") rfl)
  obtain ⟨fd_stands, F_stands⟩ := c.def_ 19 (d := dd_stands) rfl
  have G_stands := He.glo_ok X G (c.fact 19 (f := .glo "stands") rfl)
  obtain ⟨fd_is_derivation, F_is_derivation⟩ := c.def_ 20 (d := dd_is_derivation) rfl
  have G_is_derivation := He.glo_ok X G (c.fact 20 (f := .glo "is_derivation") rfl)
  obtain ⟨fd_shows, F_shows⟩ := c.def_ 21 (d := dd_shows) rfl
  have G_shows := He.glo_ok X G (c.fact 21 (f := .glo "shows") rfl)
  obtain ⟨fd_law, F_law⟩ := c.def_ 22 (d := dd_law) rfl
  have G_law := He.glo_ok X G (c.fact 22 (f := .glo "law") rfl)
  have T : Txt K mg := ⟨trivial,
    He.free_ok X G (c.fact 23 (f := .free "all") rfl),
    He.free_ok X G (c.fact 24 (f := .free "bool") rfl),
    He.free_ok X G (c.fact 25 (f := .free "int") rfl),
    He.free_ok X G (c.fact 26 (f := .free "isinstance") rfl),
    He.free_ok X G (c.fact 27 (f := .free "len") rfl),
    He.free_ok X G (c.fact 28 (f := .free "list") rfl),
    He.free_ok X G (c.fact 29 (f := .free "range") rfl),
    He.free_ok X G (c.fact 30 (f := .free "sorted") rfl),
    He.free_ok X G (c.fact 31 (f := .free "str") rfl),
    He.free_ok X G (c.fact 32 (f := .free "tuple") rfl),
    He.free_ok X G (c.fact 33 (f := .free "zip") rfl),
    He.str_ok X G (c.fact 34 (f := .str "FIGURES" (mkS (txt "0123456789"))) rfl),
    He.str_ok X G (c.fact 35 (f := .str "LETTERS" (mkS (txt "abcdefghijklmnopqrstuvwxyz"))) rfl),
    He.int_ok X G (c.fact 36 (f := .int "LONGEST_NAME" 12) rfl)⟩
  have e := hfa.symm.trans G_law
  cases e
  refine ⟨fd_law, fun s v => FunD.bindsA (ps := ["script"]) F_law (fun _ _ _ _ _ _ us hl => match us, hl with | [_], _ => rfl) s [v] rfl, fun base _ _ => ?_⟩
  have D__law_changed := ok__law_changed (P := P) (w := w) (base := base) T F__law_changed G__law_changed 
  have D__law_closed_from := ok__law_closed_from (P := P) (w := w) (base := base) T F__law_closed_from G__law_closed_from 
  have D__law_is_name := ok__law_is_name (P := P) (w := w) (base := base) T F__law_is_name G__law_is_name 
  have D__law_is_closed := ok__law_is_closed (P := P) (w := w) (base := base) T F__law_is_closed G__law_is_closed D__law_is_name
  have D__law_numbers := ok__law_numbers (P := P) (w := w) (base := base) T F__law_numbers G__law_numbers 
  have D__law_papers := ok__law_papers (P := P) (w := w) (base := base) T F__law_papers G__law_papers 
  have D__law_says := ok__law_says (P := P) (w := w) (base := base) T F__law_says G__law_says 
  have D__law_pool := ok__law_pool (P := P) (w := w) (base := base) T F__law_pool G__law_pool D__law_numbers
  have D__law_some := ok__law_some (P := P) (w := w) (base := base) T F__law_some G__law_some 
  have D__law_rules := ok__law_rules (P := P) (w := w) (base := base) T F__law_rules G__law_rules D__law_numbers D__law_some
  have D__law_world := ok__law_world (P := P) (w := w) (base := base) T F__law_world G__law_world D__law_numbers D__law_pool D__law_rules D__law_some
  have D_all_in := ok_all_in (P := P) (w := w) (base := base) T F_all_in G_all_in 
  have D_are_ascending := ok_are_ascending (P := P) (w := w) (base := base) T F_are_ascending G_are_ascending 
  have D_has_name_signs := ok_has_name_signs (P := P) (w := w) (base := base) T F_has_name_signs G_has_name_signs 
  have D_is_name := ok_is_name (P := P) (w := w) (base := base) T F_is_name G_is_name D_has_name_signs
  have D_is_start := ok_is_start (P := P) (w := w) (base := base) T F_is_start G_is_start D_are_ascending D_is_name
  have D_is_closed := ok_is_closed (P := P) (w := w) (base := base) T F_is_closed G_is_closed D_all_in D_is_start
  have D_is_whole := ok_is_whole (P := P) (w := w) (base := base) T F_is_whole G_is_whole 
  have D_is_entry := ok_is_entry (P := P) (w := w) (base := base) T F_is_entry G_is_entry D_is_name D_is_whole
  have D_stands := ok_stands (P := P) (w := w) (base := base) T F_stands G_stands D_all_in
  have D_is_derivation := ok_is_derivation (P := P) (w := w) (base := base) T F_is_derivation G_is_derivation D_is_entry D_stands
  have D_shows := ok_shows (P := P) (w := w) (base := base) T F_shows G_shows D_is_closed D_is_derivation
  exact ok_law (P := P) (w := w) (base := base) T F_law D__law_changed D__law_closed_from D__law_is_closed D__law_numbers D__law_papers D__law_says D__law_world D_is_closed D_shows
end Lw
end
section
open PySem PySem.W PySem.Calls PyProof.Rows
theorem Lw.ends (hl : ∀ ns : List Int, ns.length ≤ 63 → Lw.g_law [.rol (ns.map .int)] = .ok (.fz (.bl true))) : PySem.Challenge.rw_formsforall_k28_judge_of_closed_lists.Holds := by
  w_on; o_law
  refine HandSHeadRun.head_any (r := OpenLaw.row PySem.Challenge.rw_formsforall_k28_judge_of_closed_lists) (q := view (OpenLaw.row PySem.Challenge.rw_formsforall_k28_judge_of_closed_lists).prog [29]) (H := Lw.hk) (ob := Lw.ob) (M := 20000) (loose := Lw.loose) (d := HandSHeadRun.topDef (OpenLaw.row PySem.Challenge.rw_formsforall_k28_judge_of_closed_lists).prog 29) (kwd := []) Lw.ob_eq
    (by kernel_rfl) (fun s => by kernel_rfl) Lw.run (by kernel_rfl) (by kernel_rfl) (by kernel_rfl) (by rfl) (by first | assumption | decide +kernel) (by decide +kernel) ⟨rfl, rfl, rfl, rfl, rfl, by decide +kernel⟩ ?hw ?hc
  case hw => w_witness2
  case hc =>
    refine L2.walk_ofE (l := PySem.Challenge.rw_formsforall_k28_judge_of_closed_lists) (n := 63) (k := 6) (x := "script") (CX := L2.CX0) rfl (by decide) (by kernel_rfl) ⟨rfl, by decide, by decide⟩ ?F (fun _ _ _ _ z => z)
    intro w mg fa h Y G hmg0
    obtain ⟨K, KX, c⟩ := Y
    have hmg : mg ("law" : PySem.Str) = some (.ref fa) := by
      have e : (HandSHeadRun.topDef (OpenLaw.row PySem.Challenge.rw_formsforall_k28_judge_of_closed_lists).prog 29).name = ("law" : PySem.Str) := by kernel_rfl
      rw [← e]
      exact hmg0
    obtain ⟨fd, hb, hF⟩ := Lw.facts (P := (PySem.Challenge.rw_formsforall_k28_judge_of_closed_lists).prog) (w := w) KX G hmg c
    exact ⟨K, fd, (fun vs H Q _ => Fz.spG K [.E] Lw.g_law vs H Q fun _ _ _ => False), KX, hb, fun H a ns hl1 hO hS => Fz.law_sp hl hl1 hO hS, fun base k1 k2 => Fz.FnOk.calm (hF base k1 k2)⟩
end
section
namespace Lw
open Fz
open PySem (sizeLine)
open L2 (atI ixN)
def lows (n : Nat) (xs : List Int) : Prop := xs.length = n ∧ ∀ i ∈ xs, 0 ≤ i ∧ i < 1009
theorem lows_app {n : Nat} {xs : List Int} {i : Int} (h : lows n xs) (h0 : 0 ≤ i) (h1 : i < 1009) : lows (n + 1) (xs ++ [i]) := by
  refine ⟨by simp [h.1], fun p hp => ?_⟩
  rcases List.mem_append.mp hp with q | q
  · exact h.2 p q
  · have : p = i := by simpa using q
    subst this; exact ⟨h0, h1⟩
theorem snoc_map {xs : List Int} {i : Int} : xs.map PV.int ++ [.int i] = (xs ++ [i]).map PV.int := by simp
theorem low_get {n : Nat} {xs : List Int} (h : lows n xs) {i : Int} (h0 : 0 ≤ i) (h1 : i < n) : ∃ v : Int, atI (xs.map PV.int) i = some (.int v) ∧ 0 ≤ v ∧ v < 1009 := by
  rw [atI_map, atI_nn _ _ h0 (by rw [h.1]; exact h1)]
  exact ⟨_, rfl, h.2 _ (List.getElem_mem _)⟩
section
variable (ns : List Int) (at' count : Nat)
def numI (k : Nat) (ρ : Env) : Prop := ∃ (cell : Int) (x5 x6 : Fz.Slot) (xs : List Int), ρ = [.bor (.rol (ns.map .int)), .val (.int at'), .bor (.int count), .val (.int cell), .own (.l (xs.map .int)), x5, x6] ∧ lows k xs
theorem num_body (hc : count ≤ 1000000) (P : Po) (k : Nat) (hk : k < count) (ρ : Env) (h : numI ns at' count k ρ) (h1 : ∀ ρ, numI ns at' count (k + 1) ρ → P.nx ρ) : sat (stp (gNm 5) L__law_numbers_1 (.int (0 + k)) ρ) P := by
  obtain ⟨cell, x5, x6, xs, rfl, hx⟩ := h
  have hl : xs.length < sizeLine := lt_line (by rw [hx.1]; omega)
  simp [L__law_numbers_1, hl]
  refine sat_if (fun hcell => ?_) (fun hcell => ?_)
  · simp
    rw [snoc_map]
    exact h1 _ ⟨_, _, _, _, rfl, lows_app hx (Int.emod_nonneg _ (by decide)) (Int.emod_lt_of_pos _ (by decide))⟩
  · generalize hm : (cell * 48271 + ((k : Int) + 1) * 69621 + (at' : Int) * 4001) % 2147483647 = mixed
    have m0 : 0 ≤ mixed := hm ▸ Int.emod_nonneg _ (by decide)
    have m1 : mixed < 2147483647 := hm ▸ Int.emod_lt_of_pos _ (by decide)
    have mm : gMul (.int mixed) (.int mixed) = some (.fz (.int (mixed * mixed))) := gMul_l _ _ (by omega) (by omega)
    simp [mm, hl]
    rw [snoc_map]
    exact h1 _ ⟨_, _, _, _, rfl, lows_app hx (Int.emod_nonneg _ (by decide)) (Int.emod_lt_of_pos _ (by decide))⟩
theorem num_R3 (hc : count ≤ 1000000) (cell : Int) : sat (R__law_numbers_3 [.bor (.rol (ns.map .int)), .val (.int at'), .bor (.int count), .val (.int cell), .u, .u, .u]) (poR fun o => ∃ xs : List Int, o = .l (xs.map .int) ∧ lows count xs) := by
  simp [R__law_numbers_3, rng_nat (show count < 4611686018427387904 by omega)]
  refine sat_range (numI ns at' count) ⟨cell, _, _, [], rfl, rfl, fun _ h => nomatch h⟩ (fun k ρ hk hI => num_body ns at' count hc _ k hk ρ hI fun _ h => h) ?_
  rintro _ ⟨cell, x5, x6, xs, rfl, hx⟩
  simp [R__law_numbers_2]
  exact ⟨xs, rfl, hx⟩
theorem numbers_ok (hc : count ≤ 1000000) : ∃ xs : List Int, g__law_numbers [.rol (ns.map .int), .int at', .int count] = .ok (.l (xs.map .int)) ∧ lows count xs := by
  have R4 : ∀ cell : Int, sat (R__law_numbers_4 [.bor (.rol (ns.map .int)), .val (.int at'), .bor (.int count), .val (.int cell), .u, .u, .u]) (poR fun o => ∃ xs : List Int, o = .l (xs.map .int) ∧ lows count xs) := fun cell => by
    simp [R__law_numbers_4]
    refine sat_if (fun h => ?_) (fun h => ?_)
    · simp
      have := num_R3 ns at' count hc (1 - 2 * cell)
      exact this
    · simp
      exact num_R3 ns at' count hc _
  obtain ⟨o, e, xs, rfl, hx⟩ : ∃ o, g__law_numbers [.rol (ns.map .int), .int at', .int count] = .ok o ∧ ∃ xs : List Int, o = .l (xs.map .int) ∧ lows count xs := by
    refine run_ok _ rfl ?_
    simp [b__law_numbers, slotsOf, slotOf, List.replicate]
    refine sat_if (fun h => ?_) (fun h => ?_)
    · rw [atI_map, atI_nn _ _ (by omega) (by omega)]
      simp; exact R4 _
    · simp; exact R4 _
  exact ⟨xs, e, hx⟩
end
end Lw
end
section
namespace Lw
open Fz
open PySem (sizeLine)
open L2 (atI ixN)
theorem numbers_okI (ns : List Int) (a c : Int) (h0 : 0 ≤ a) (h1 : 0 ≤ c) (h2 : c ≤ 1000000) : ∃ xs : List Int, g__law_numbers [.rol (ns.map .int), .int a, .int c] = .ok (.l (xs.map .int)) ∧ lows c.toNat xs := by
  have := numbers_ok ns a.toNat c.toNat (by omega)
  rw [Int.toNat_of_nonneg h0, Int.toNat_of_nonneg h1] at this
  exact this
theorem cut_last {α : Type} (xs : List α) (k : Nat) (h : 0 < k) : cut xs (some (-(k : Int))) none = xs.drop (xs.length - k) := by
  have e : HT.sIx xs.length 0 (some (-(k : Int))) = xs.length - k := by
    show (if -(k : Int) < 0 then (-(k : Int) + (xs.length : Int)).toNat else min (-(k : Int)).toNat xs.length) = _
    rw [if_pos (by omega)]
    omega
  unfold cut
  rw [e]
  show (xs.drop (xs.length - k)).take (xs.length - (xs.length - k)) = _
  rw [List.take_of_length_le]
  rw [List.length_drop]
  omega
theorem lows_last {n : Nat} {xs : List Int} (h : lows n xs) (k : Nat) (hk : k ≤ n) : lows k (xs.drop (xs.length - k)) :=
  ⟨by rw [List.length_drop, h.1]; omega, fun i hi => h.2 i (List.mem_of_mem_drop hi)⟩
theorem txt_nil : txt "" = [] := by decide +kernel
theorem sgT_eq : txt "abcdefghijklmnopqrstuvwxyz0123456789" = lowsT ++ figsT := by decide +kernel
theorem strsOf_one {α : Type} (f : α → Fin 1114112) (xs : List α) : strsOf (xs.map fun x => PV.str [f x]) = some (xs.map fun x => [f x]) := by
  have := strsOf_map (xs.map fun x => [f x])
  rw [List.map_map] at this
  exact this
theorem flat_one {α β : Type} (f : α → β) : ∀ xs : List α, (xs.map fun x => [f x]).flatten = xs.map f
  | [] => rfl
  | x :: xs => by rw [List.map_cons, List.flatten_cons, flat_one f xs]; rfl
theorem sum_one {α β : Type} (f : α → β) : ∀ xs : List α, ((xs.map fun x => [f x]).map (·.length)).sum = xs.length
  | [] => rfl
  | x :: xs => by
    rw [List.map_cons, List.map_cons, List.sum_cons, sum_one f xs]
    show 1 + xs.length = xs.length + 1
    omega
theorem gJoin_one {α : Type} (f : α → Fin 1114112) (xs : List α) (h : xs.length ≤ 1000000) : gJoin (.str (txt "")) (.lst (xs.map fun x => .str [f x])) = some (.str (xs.map f)) := by
  show (strsOf _).bind _ = _
  rw [strsOf_one, txt_nil]
  simp only [Option.bind_some]
  rw [if_pos]
  · congr 2
    cases xs with
    | nil => rfl
    | cons x xs =>
      show [f x] ++ ((xs.map fun x => [f x]).map fun y => [] ++ y).flatten = _
      rw [show ((xs.map fun x => [f x]).map fun y => [] ++ y) = xs.map fun x => [f x] by simp, flat_one]
      rfl
  · rw [List.map_map] 
    have := sum_one f xs
    rw [List.map_map] at this
    rw [this]
    simp
    omega
/-! _law_pool -/
def poolI (ns : List Int) (a : Nat) (count : Int) (k : Nat) (ρ : Fz.Env) : Prop := ∃ (ts : List Tx) (x5 x6 x7 x8 : Fz.Slot), ρ = [.bor (.rol (ns.map .int)), .val (.int a), .bor (.int count), .val (.str (lowsT ++ figsT)), .own (.l (ts.map .str)), x5, x6, x7, x8, .u, .u] ∧
  ts.length ≤ k ∧ ts.Nodup ∧ (∀ t ∈ ts, goodN t) ∧ (0 < k → ts ≠ [])
theorem pool_step (ns : List Int) (a : Nat) (count : Int) (k : Nat) (hk : k < 60) (ρ : Fz.Env) (h : poolI ns a count k ρ) (P : Po) (hP : ∀ ρ, poolI ns a count (k + 1) ρ → P.nx ρ) : sat (stp (gNm 5) L__law_pool_1 (.int (0 + k)) ρ) P := by
  obtain ⟨ts, x5, x6, x7, x8, rfl, h1, h2, h3, h4⟩ := h
  have d0 : 0 ≤ (k : Int) / 10 := by omega
  have d1 : (k : Int) / 10 ≤ 5 := by omega
  obtain ⟨xs, ex, hx⟩ := numbers_okI ns ((a : Int) + (k : Int) % 10) (12 * (1 + (k : Int) / 10)) (by omega) (by omega) (by omega)
  have hy := lows_last hx 12 (by omega)
  obtain ⟨ys, hys⟩ : ∃ ys, xs.drop (xs.length - 12) = ys := ⟨_, rfl⟩
  rw [hys] at hy
  have es : gSl (.lst (xs.map .int)) (some (-12)) none = some (.l (ys.map .int)) := by
    rw [gSl_lst, cut_map, show (-12 : Int) = -((12 : Nat) : Int) from rfl, cut_last _ _ (by decide), hys]
  obtain ⟨v0, e0, p0, q0⟩ := low_get hy (i := 0) (by decide) (by decide)
  obtain ⟨v1, e1, p1, q1⟩ := low_get hy (i := 1) (by decide) (by decide)
  have m0 : 0 ≤ v0 * v1 % 11 := Int.emod_nonneg _ (by decide)
  have m1 : v0 * v1 % 11 < 11 := Int.emod_lt_of_pos _ (by decide)
  obtain ⟨len, hlen⟩ : ∃ len : Nat, v0 * v1 % 11 = len := ⟨_, (Int.toNat_of_nonneg m0).symm⟩
  have em : gMul (.int v0) (.int v1) = some (.fz (.int (v0 * v1))) := gMul_r _ _ (by omega) (by omega)
  obtain ⟨f, hf⟩ : ∃ f : Nat → Fin 1114112, f = fun j => sg (((ys.getD (2 + j) 0) % 36).toNat) := ⟨_, rfl⟩
  have c1 : ∀ x7 x8, oComp (lRange1 (eBin gMod (eOfO (oBin gMul (eIx (eVar .I 6) (eC (.int 0))) (eIx (eVar .I 6) (eC (.int 1))))) (eC (.int 11)))) [9] (gNm 9) tYesF (eIx (eVar .I 3) (eBin gMod (eIx (eVar .B 6) (eOfO (oBin gAdd (eC (.int 2)) (eVar .I 9)))) (eC (.int 36))))
      [.bor (.rol (ns.map .int)), .val (.int a), .bor (.int count), .val (.str (lowsT ++ figsT)), .own (.l (ts.map .str)), .val (.int k), .own (.l (ys.map .int)), x7, x8, .u, .u] = .ok (.l ((List.range len).map fun j => .str [f j])) := fun x7 x8 => by
    refine oComp_map (fun j : Nat => .int ((0 : Int) + j)) (fun j => .str [f j]) (List.range len) (by simp) (by simp [e0, e1, em, hlen, rng_nat (show len < 4611686018427387904 by omega), rangeL]) (fun j hj => ?_) (le_line (by simp; omega))
    have hj := List.mem_range.mp hj
    have ej : atI (ys.map PV.int) (2 + (j : Int)) = some (.int (ys.getD (2 + j) 0)) := by
      rw [atI_map, atI_nn _ _ (by omega) (by have := hy.1; omega), List.getD_eq_getElem?_getD, List.getElem?_eq_getElem (by have := hy.1; omega)]
      rfl
    simp [ej, gIx_sgs, hf]
  obtain ⟨rest, hrest⟩ : ∃ rest : Tx, (List.range len).map f = rest := ⟨_, rfl⟩
  have rl : rest.length ≤ 11 := by rw [← hrest]; simp; omega
  have rs : ∀ c ∈ rest, isSg c = true := fun c hc => by
    rw [← hrest] at hc
    obtain ⟨j, _, rfl⟩ := List.mem_map.mp hc
    rw [hf]
    refine sg_sg ?_
    have := Int.emod_lt_of_pos (ys.getD (2 + j) 0) (show (0 : Int) < 36 by decide)
    have := Int.emod_nonneg (ys.getD (2 + j) 0) (show (36 : Int) ≠ 0 by decide)
    omega
  have ej : gJoin (.str (txt "")) (.lst ((List.range len).map fun j => .str [f j])) = some (.str rest) := by rw [gJoin_one _ _ (by simp; omega), hrest]
  have es2 : gSl (.str (lowsT ++ figsT)) none (some 26) = some (.fz (.str lowsT)) := by
    rw [gSl_str (le_line (by rw [List.length_append, lowsT_len, figsT_len]; decide)), show (26 : Int) = ((26 : Nat) : Int) from rfl, cut_to, List.take_left' lowsT_len]
  have ea : ∀ c, gAdd (.str [c]) (.str rest) = some (.fz (.str (c :: rest))) := fun c => gAdd_str _ _ (le_line (by simp; omega))
  obtain ⟨free, hfree⟩ : ∃ free, lowsT.filter (fun c => !decide (c :: rest ∈ ts)) = free := ⟨_, rfl⟩
  have c2 : ∀ x8, oComp (lOfA (eOfO (oSl (eVar .I 3) pNo (pAt (eC (.int 26)))))) [10] (gNm 10) (Fz.tCmp gNotIn (eOfO (oBin gAdd (eVar .I 10) (eVar .I 7))) (eVar .B 4)) (eVar .E 10)
      [.bor (.rol (ns.map .int)), .val (.int a), .bor (.int count), .val (.str (lowsT ++ figsT)), .own (.l (ts.map .str)), .val (.int k), .own (.l (ys.map .int)), .val (.str rest), x8, .u, .u] = .ok (.l (free.map fun c => .str [c])) := fun x8 => by
    rw [← hfree]
    refine oComp_filter (fun c => .str [c]) (fun c => .str [c]) (fun c => !decide (c :: rest ∈ ts)) lowsT (by simp) (by simp [es2, signsOf]) (fun c hc => ?_) (le_line (by rw [lowsT_len]; decide))
    simp [ea]
    by_cases hm : c :: rest ∈ ts <;> simp [hm]
  simp [L__law_pool_1, ex, es, c1, ej, c2]
  by_cases h0 : free = []
  · subst h0
    simp
    refine hP _ ⟨ts, .val (.int k), _, _, _, rfl, by omega, h2, h3, fun _ hts => ?_⟩
    rw [hts] at hfree
    have : lowsT.filter (fun c => !decide (c :: rest ∈ ([] : List Tx))) = lowsT := List.filter_eq_self.mpr fun c _ => by simp
    rw [this] at hfree
    exact absurd hfree (by decide +kernel)
  · have fl : 0 < free.length := List.length_pos_iff.mpr h0
    have i0 : 0 ≤ v1 % (free.length : Int) := Int.emod_nonneg _ (by omega)
    have i1 : v1 % (free.length : Int) < free.length := Int.emod_lt_of_pos _ (by omega)
    obtain ⟨j, hj⟩ : ∃ j : Nat, v1 % (free.length : Int) = j := ⟨_, (Int.toNat_of_nonneg i0).symm⟩
    have jl : j < free.length := by omega
    have ei : atI (free.map fun c => PV.str [c]) (j : Int) = some (.str [free[j]]) := by
      rw [atI_map, atI_nn _ _ (by omega) (by omega)]
      rfl
    have hfm : ∀ c ∈ free, c ∈ lowsT ∧ c :: rest ∉ ts := by
      rw [← hfree]
      intro c hc
      obtain ⟨q1, q2⟩ := List.mem_filter.mp hc
      exact ⟨q1, by simpa using q2⟩
    obtain ⟨hm1, hm2⟩ := hfm _ (List.getElem_mem jl)
    have ne : (free.map fun c => PV.str [c]).isEmpty = false := by cases free with | nil => exact (h0 rfl).elim | cons => rfl
    simp [h0, e1, gMod_int _ (free.length : Int) (by omega), hj, ei, ea, show ts.length < sizeLine from lt_line (by omega)]
    refine hP _ ⟨ts ++ [free[j] :: rest], .val (.int k), _, _, _, by simp; exact ⟨rfl, rfl, rfl⟩, by simp; omega, ?_, ?_, fun _ => by simp⟩
    · exact List.nodup_append.mpr ⟨h2, by simp, fun x hx y hy e => hm2 (by rw [← List.mem_singleton.mp hy, ← e]; exact hx)⟩
    · intro t ht
      rcases List.mem_append.mp ht with q | q
      · exact h3 t q
      · rw [List.mem_singleton.mp q]
        exact ⟨by simp; omega, fun c hc => (List.mem_cons.mp hc).elim (fun e => e ▸ low_sg (lowsT_low _ hm1)) (rs c), _, _, rfl, lowsT_low _ hm1⟩
/-- drawn names -/
structure Nms (ts : List Tx) : Prop where
  few : ts.length < 60
  nd : ts.Nodup
  good : ∀ t ∈ ts, goodN t
  asc : ts.Pairwise fun a b => txLe a b = true
theorem pool_ok (ns : List Int) (a count : Nat) (h1 : 0 < count) (h2 : count < 60) : ∃ ts : List Tx, g__law_pool [.rol (ns.map .int), .int a, .int count] = .ok (.l (ts.map .str)) ∧ Nms ts ∧ ts ≠ [] ∧ ts.length ≤ count := by
  obtain ⟨o, e, t, rfl, hx⟩ : ∃ o, g__law_pool [.rol (ns.map .int), .int a, .int count] = .ok o ∧ ∃ ts : List Tx, o = .l (ts.map .str) ∧ Nms ts ∧ ts ≠ [] ∧ ts.length ≤ count := by
    refine run_ok _ rfl ?_
    simp [b__law_pool, slotsOf, slotOf, List.replicate, sgT_eq, rng_nat (show count < 4611686018427387904 by omega)]
    refine sat_range (poolI ns a count) ⟨[], _, _, _, _, rfl, Nat.le_refl _, List.nodup_nil, fun _ h => (nomatch h), fun h => absurd h (Nat.lt_irrefl _)⟩ (fun k ρ hk hI => pool_step ns a count k (by omega) ρ hI _ fun _ h => h) ?_
    rintro _ ⟨ts, x5, x6, x7, x8, rfl, p1, p2, p3, p4⟩
    simp [R__law_pool_2, gSortA_strs (show ts.length < 64 by omega)]
    have p := sortT_perm (le := txLe) ts
    exact ⟨_, rfl, ⟨by rw [p.length_eq]; omega, p.symm.nodup p2, fun t ht => p3 t (p.subset ht), sortT_sorted txLe_total txLe_trans ts⟩, fun e => p4 h1 (List.length_eq_zero_iff.mp (by rw [← p.length_eq, e]; rfl)), by rw [p.length_eq]; exact p1⟩
  exact ⟨t, e, hx⟩
/-! _law_some -/
/-- some of the names, each once, in order -/
structure Sub (names ts : List Tx) : Prop where
  few : ts.length < 60
  nd : ts.Nodup
  mem : ∀ t ∈ ts, t ∈ names
  asc : ts.Pairwise fun a b => txLe a b = true
def someI (names : List Tx) (xs : List Int) (most : Int) (many : Int) (k : Nat) (ρ : Fz.Env) : Prop := ∃ (ts : List Tx) (x5 x6 : Fz.Slot), ρ = [.val (.lst (names.map .str)), .bor (.lst (xs.map .int)), .val (.int most), .val (.int many), .own (.l (ts.map .str)), x5, x6] ∧ ts.length ≤ k ∧ ts.Nodup ∧ ∀ t ∈ ts, t ∈ names
theorem some_ok {c : Nat} (names : List Tx) (xs : List Int) (hx : lows c xs) (most : Nat) (hm : most < c) (h60 : most < 60) (h0 : names ≠ []) : ∃ ts : List Tx, g__law_some [.lst (names.map .str), .lst (xs.map .int), .int most] = .ok (.l (ts.map .str)) ∧ Sub names ts := by
  obtain ⟨o, e, t, rfl, hx⟩ : ∃ o, g__law_some [.lst (names.map .str), .lst (xs.map .int), .int most] = .ok o ∧ ∃ ts : List Tx, o = .l (ts.map .str) ∧ Sub names ts := by
    refine run_ok _ rfl ?_
    obtain ⟨v0, e0, p0, q0⟩ := low_get hx (i := 0) (by decide) (by omega)
    have m0 : 0 ≤ v0 % ((most : Int) + 1) := Int.emod_nonneg _ (by omega)
    have m1 : v0 % ((most : Int) + 1) < (most : Int) + 1 := Int.emod_lt_of_pos _ (by omega)
    obtain ⟨many, hmany⟩ : ∃ many : Nat, v0 % ((most : Int) + 1) = many := ⟨_, (Int.toNat_of_nonneg m0).symm⟩
    have nl : 0 < names.length := List.length_pos_iff.mpr h0
    simp [b__law_some, slotsOf, slotOf, List.replicate, e0, gMod_int _ ((most : Int) + 1) (by omega), hmany, rng_nat (show many < 4611686018427387904 by omega)]
    refine sat_range (someI names xs most many) ⟨[], _, _, rfl, Nat.le_refl _, List.nodup_nil, fun _ h => nomatch h⟩ ?_ ?_
    · rintro k _ hk ⟨ts, x5, x6, rfl, p1, p2, p3⟩
      obtain ⟨v, ev, pv, qv⟩ := low_get hx (i := 1 + (k : Int)) (by omega) (by omega)
      have i0 : 0 ≤ v % (names.length : Int) := Int.emod_nonneg _ (by omega)
      have i1 : v % (names.length : Int) < names.length := Int.emod_lt_of_pos _ (by omega)
      obtain ⟨j, hj⟩ : ∃ j : Nat, v % (names.length : Int) = j := ⟨_, (Int.toNat_of_nonneg i0).symm⟩
      have jl : j < names.length := by omega
      have ei : atI (names.map PV.str) (j : Int) = some (.str names[j]) := by
        rw [atI_map, atI_nn _ _ (by omega) (by omega)]
        rfl
      simp [L__law_some_1, ev, gMod_int _ (names.length : Int) (by omega), hj, ei]
      by_cases hmem : names[j] ∈ ts
      · simp [hmem]
        exact ⟨ts, .val (.int k), .val (.str names[j]), by simp, by omega, p2, p3⟩
      · simp [hmem, show ts.length < sizeLine from lt_line (by omega)]
        refine ⟨ts ++ [names[j]], .val (.int k), .val (.str names[j]), by simp, by simp; omega, ?_, fun t ht => ?_⟩
        · exact List.nodup_append.mpr ⟨p2, by simp, fun x hx y hy e => hmem (by rw [← List.mem_singleton.mp hy, ← e]; exact hx)⟩
        · rcases List.mem_append.mp ht with q | q
          · exact p3 t q
          · rw [List.mem_singleton.mp q]; exact List.getElem_mem _
    · rintro _ ⟨ts, x5, x6, rfl, p1, p2, p3⟩
      simp [R__law_some_2, gSortA_strs (show ts.length < 64 by omega)]
      have p := sortT_perm (le := txLe) ts
      exact ⟨_, rfl, ⟨by rw [p.length_eq]; omega, p.symm.nodup p2, fun t ht => p3 t (p.subset ht), sortT_sorted txLe_total txLe_trans ts⟩⟩
  exact ⟨t, e, hx⟩
/-! _law_rules -/
abbrev Rule := Tx × List Tx
def rl (r : Rule) : PV := .tup [.str r.1, .tup (r.2.map .str)]
structure RuleOk (names : List Tx) (r : Rule) : Prop where
  fld : r.1 ∈ names
  sub : Sub names r.2
def rulI (ns : List Int) (a : Nat) (names : List Tx) (many : Int) (most : Nat) (k : Nat) (ρ : Fz.Env) : Prop := ∃ (rs : List Rule) (x6 x7 x8 : Fz.Slot), ρ = [.bor (.rol (ns.map .int)), .val (.int a), .val (.lst (names.map .str)), .bor (.int many), .val (.int most), .own (.l (rs.map rl)), x6, x7, x8] ∧ rs.length = k ∧ ∀ r ∈ rs, RuleOk names r
theorem rules_step (ns : List Int) (a : Nat) (names : List Tx) (h0 : names ≠ []) (many : Int) (most : Nat) (hm : most < 8) (k : Nat) (hk : k < 60) (ρ : Fz.Env) (h : rulI ns a names many most k ρ) (P : Po) (hP : ∀ ρ, rulI ns a names many most (k + 1) ρ → P.nx ρ) : sat (stp (gNm 6) L__law_rules_1 (.int (0 + k)) ρ) P := by
  obtain ⟨rs, x6, x7, x8, rfl, h1, h2⟩ := h
  obtain ⟨xs, ex, hx⟩ := numbers_okI ns ((a : Int) + (k : Int) % 12) (8 * (1 + (k : Int) / 12)) (by omega) (by omega) (by omega)
  have hy := lows_last hx 8 (by omega)
  obtain ⟨ys, hys⟩ : ∃ ys, xs.drop (xs.length - 8) = ys := ⟨_, rfl⟩
  rw [hys] at hy
  have es : gSl (.lst (xs.map .int)) (some (-8)) none = some (.l (ys.map .int)) := by
    rw [gSl_lst, cut_map, show (-8 : Int) = -((8 : Nat) : Int) from rfl, cut_last _ _ (by decide), hys]
  obtain ⟨v6, e6, p6, q6⟩ := low_get hy (i := 6) (by decide) (by decide)
  obtain ⟨v7, e7, p7, q7⟩ := low_get hy (i := 7) (by decide) (by decide)
  obtain ⟨ts, et, ht⟩ := some_ok names ys hy most hm (by omega) h0
  have nl : 0 < names.length := List.length_pos_iff.mpr h0
  have i0 : 0 ≤ v6 % (names.length : Int) := Int.emod_nonneg _ (by omega)
  have i1 : v6 % (names.length : Int) < names.length := Int.emod_lt_of_pos _ (by omega)
  obtain ⟨j, hj⟩ : ∃ j : Nat, v6 % (names.length : Int) = j := ⟨_, (Int.toNat_of_nonneg i0).symm⟩
  have jl : j < names.length := by omega
  have ei : atI (names.map PV.str) (j : Int) = some (.str names[j]) := by
    rw [atI_map, atI_nn _ _ (by omega) (by omega)]
    rfl
  have new : ∀ r ∈ rs ++ [(names[j], ts)], RuleOk names r := fun r hr => by
    rcases List.mem_append.mp hr with q | q
    · exact h2 r q
    · rw [List.mem_singleton.mp q]; exact ⟨List.getElem_mem _, ht⟩
  have em : rs.map rl ++ [PV.tup [.str names[j], .tup (ts.map .str)]] = (rs ++ [(names[j], ts)]).map rl := by rw [List.map_append]; rfl
  simp [L__law_rules_1, ex, es, e6, e7, gMod_int _ (names.length : Int) (by omega), hj, ei, et, show rs.length < sizeLine from lt_line (by omega)]
  rw [em]
  by_cases h9 : v7 % 9 = 0
  · by_cases k0 : 0 < k
    · have c0 : 0 ≤ v6 % (k : Int) := Int.emod_nonneg _ (by omega)
      have c1 : v6 % (k : Int) < k := Int.emod_lt_of_pos _ (by omega)
      obtain ⟨l, hl⟩ : ∃ l : Nat, v6 % (k : Int) = l := ⟨_, (Int.toNat_of_nonneg c0).symm⟩
      have ll : l < (rs ++ [(names[j], ts)]).length := by simp; omega
      have ek : atI ((rs ++ [(names[j], ts)]).map rl) (l : Int) = some (rl (rs ++ [(names[j], ts)])[l]) := by
        rw [atI_map, atI_nn _ _ (by omega) (by omega)]
        rfl
      have hin : (rs ++ [(names[j], ts)])[l] ∈ rs ++ [(names[j], ts)] := List.getElem_mem _
      revert ek hin new
      have hlen : (rs ++ [(names[j], ts)]).length = k + 1 := by simp [h1]
      revert hlen
      generalize (rs ++ [(names[j], ts)])[l] = r
      generalize rs ++ [(names[j], ts)] = rs2
      intro hlen new ek hin
      have ep : ∀ (ρ : Fz.Env), putS 5 ρ (.int k) (rl r) (some (.own (.l (rs2.map rl)))) = .nx (ρ.set 5 (.own (.l ((rs2.set k r).map rl)))) := fun ρ => by
        rw [put_l _ _ _ _ _ (by omega) (by rw [List.length_map]; omega), Int.toNat_natCast, ← List.map_set]
      simp [h9, k0, gMod_int _ (k : Int) (by omega), hl, ek, ep]
      refine hP _ ⟨rs2.set k r, .val (.int k), .own (.l (ys.map .int)), .val (.str names[j]), by simp [List.map_set], by rw [List.length_set, hlen], fun x hx => ?_⟩
      rcases List.mem_or_eq_of_mem_set hx with q | q
      · exact new x q
      · exact q ▸ new r hin
    · simp [h9, k0]
      exact hP _ ⟨rs ++ [(names[j], ts)], .val (.int k), .own (.l (ys.map .int)), .val (.str names[j]), by simp, by simp [h1], new⟩
  · simp [h9]
    exact hP _ ⟨rs ++ [(names[j], ts)], .val (.int k), .own (.l (ys.map .int)), .val (.str names[j]), by simp, by simp [h1], new⟩
theorem rules_ok (ns : List Int) (a : Nat) (names : List Tx) (h0 : names ≠ []) (many most : Nat) (h1 : many < 60) (hm : most < 8) : ∃ rs : List Rule, g__law_rules [.rol (ns.map .int), .int a, .lst (names.map .str), .int many, .int most] = .ok (.l (rs.map rl)) ∧ rs.length = many ∧ ∀ r ∈ rs, RuleOk names r := by
  obtain ⟨o, e, t, rfl, hx⟩ : ∃ o, g__law_rules [.rol (ns.map .int), .int a, .lst (names.map .str), .int many, .int most] = .ok o ∧ ∃ rs : List Rule, o = .l (rs.map rl) ∧ rs.length = many ∧ ∀ r ∈ rs, RuleOk names r := by
    refine run_ok _ rfl ?_
    simp [b__law_rules, slotsOf, slotOf, List.replicate, rng_nat (show many < 4611686018427387904 by omega)]
    refine sat_range (rulI ns a names many most) ⟨[], _, _, _, rfl, rfl, fun _ h => nomatch h⟩ (fun k ρ hk hI => rules_step ns a names h0 many most hm k (by omega) ρ hI _ fun _ h => h) ?_
    rintro _ ⟨rs, x6, x7, x8, rfl, p1, p2⟩
    simp [R__law_rules_2]
    exact ⟨rs, rfl, p1, fun a b h => p2 _ h⟩
  exact ⟨t, e, hx⟩
/-! _law_world -/
theorem world_ok (ns : List Int) (size most : Nat) (h1 : 0 < size) (h2 : size < 59) (hm : most < 59) : ∃ (names : List Tx) (rs : List Rule) (start : List Tx), g__law_world [.rol (ns.map .int), .int size, .int most] = .ok (.fz (.tup [.lst (names.map .str), .lst (rs.map rl), .lst (start.map .str)])) ∧
    Nms names ∧ names ≠ [] ∧ names.length ≤ size ∧ rs.length ≤ most ∧ (∀ r ∈ rs, RuleOk names r) ∧ Sub names start := by
  obtain ⟨xs, ex, hx⟩ := numbers_ok ns 0 6 (by decide)
  obtain ⟨v0, e0, p0, q0⟩ := low_get hx (i := 0) (by decide) (by decide)
  obtain ⟨v1, e1, p1, q1⟩ := low_get hx (i := 1) (by decide) (by decide)
  obtain ⟨v2, e2, p2, q2⟩ := low_get hx (i := 2) (by decide) (by decide)
  obtain ⟨v3, e3, p3, q3⟩ := low_get hx (i := 3) (by decide) (by decide)
  obtain ⟨a, ha⟩ : ∃ a : Nat, v0 % (size : Int) = a := ⟨_, (Int.toNat_of_nonneg (Int.emod_nonneg _ (by omega))).symm⟩
  obtain ⟨b, hb⟩ : ∃ a : Nat, v1 % ((most : Int) + 1) = a := ⟨_, (Int.toNat_of_nonneg (Int.emod_nonneg _ (by omega))).symm⟩
  obtain ⟨c, hc⟩ : ∃ a : Nat, v2 % 3 = a := ⟨_, (Int.toNat_of_nonneg (Int.emod_nonneg _ (by omega))).symm⟩
  obtain ⟨d, hd⟩ : ∃ a : Nat, v3 % 4 = a := ⟨_, (Int.toNat_of_nonneg (Int.emod_nonneg _ (by omega))).symm⟩
  have al : a < size := by have := Int.emod_lt_of_pos v0 (show (0 : Int) < size by omega); omega
  have bl : b ≤ most := by have := Int.emod_lt_of_pos v1 (show (0 : Int) < (most : Int) + 1 by omega); omega
  have cl : c < 3 := by omega
  have dl : d < 4 := by omega
  obtain ⟨names, en, hn, n0, nl⟩ := pool_ok ns 1 (1 + a) (by omega) (by omega)
  obtain ⟨rs, er, rlen, hr⟩ := rules_ok ns 11 names n0 b (1 + c) (by omega) (by omega)
  obtain ⟨ys, ey, hy⟩ := numbers_ok ns 23 8 (by decide)
  obtain ⟨start, est, hst⟩ := some_ok names ys hy d (by omega) (by omega) n0
  have ed : atI [PV.int 0, PV.int 1, PV.int 2, PV.int 3] (d : Int) = some (.int d) := by
    rcases (show d = 0 ∨ d = 1 ∨ d = 2 ∨ d = 3 by omega) with rfl | rfl | rfl | rfl <;> rfl
  refine ⟨names, rs, start, ?_, hn, n0, by omega, by omega, hr, hst⟩
  refine runN _ _ _ _ rfl ?_
  simp at ex en er ey
  simp [b__law_world, slotsOf, slotOf, List.replicate, ex, e0, e1, e2, e3, gMod_int _ (size : Int) (by omega), gMod_int _ ((most : Int) + 1) (by omega), ha, hb, hc, hd, en, er, ey, ed, est]
end Lw
end
section
namespace Lw
open Fz
open PySem (sizeLine)
open L2 (atI ixN)
/-! is_name -/
theorem gIn_sign (c : Fin 1114112) (x : Tx) : gIn (.str [c]) (.str x) = some (decide (c ∈ x)) := rfl
theorem gNotIn_sign (c : Fin 1114112) (x : Tx) : gNotIn (.str [c]) (.str x) = some (!decide (c ∈ x)) := rfl
theorem low_all : (List.range 26).all (fun k => decide ((Fin.ofNat 1114112 (97 + k)) ∈ lowsT)) = true := by decide +kernel
theorem fig_all : (List.range 10).all (fun k => decide ((Fin.ofNat 1114112 (48 + k)) ∈ figsT)) = true := by decide +kernel
theorem low_mem {c : Fin 1114112} (h : isLow c = true) : c ∈ lowsT := by
  unfold isLow at h
  simp only [Bool.and_eq_true, decide_eq_true_eq] at h
  have := of_decide_eq_true (List.all_eq_true.mp low_all (c.val - 97) (List.mem_range.mpr (by omega)))
  have e : Fin.ofNat 1114112 (97 + (c.val - 97)) = c := Fin.ext (by show (97 + (c.val - 97)) % 1114112 = c.val; have := c.isLt; omega)
  rw [e] at this
  exact this
theorem sg_mem {c : Fin 1114112} (h : isSg c = true) : c ∈ lowsT ∨ c ∈ figsT := by
  unfold isSg at h
  cases e : isLow c with
  | true => exact .inl (low_mem e)
  | false =>
    rw [e] at h
    simp only [Bool.false_or, Bool.and_eq_true, decide_eq_true_eq] at h
    have := of_decide_eq_true (List.all_eq_true.mp fig_all (c.val - 48) (List.mem_range.mpr (by omega)))
    have e : Fin.ofNat 1114112 (48 + (c.val - 48)) = c := Fin.ext (by show (48 + (c.val - 48)) % 1114112 = c.val; have := c.isLt; omega)
    rw [e] at this
    exact .inr this
def isNm (t : Tx) : Bool := match t with
  | [] => false
  | c :: r => decide (r.length < 12) && decide (c ∈ lowsT) && (c :: r).all fun c => decide (c ∈ lowsT) || decide (c ∈ figsT)
theorem good_nm {t : Tx} (h : goodN t) : isNm t = true := by
  obtain ⟨h1, h2, c, r, rfl, h3⟩ := h
  unfold isNm
  simp only [Bool.and_eq_true, decide_eq_true_eq, List.all_eq_true, Bool.or_eq_true]
  exact ⟨⟨by simp at h1; omega, low_mem h3⟩, fun x hx => sg_mem (h2 x hx)⟩
theorem signs_ok (c : Fin 1114112) (r : Tx) (hl : r.length < 12) : g_has_name_signs [.str (c :: r)] = .ok (.fz (.bl (decide (c ∈ lowsT) && (c :: r).all fun c => decide (c ∈ lowsT) || decide (c ∈ figsT)))) := by
  refine runN _ _ _ _ rfl ?_
  have e0 : gIx (.str (c :: r)) (.int 0) = some (.str [c]) := by
    rw [gIx_str _ _ (le_line (by simp; omega)), atI_nn _ _ (by decide) (by simp)]
    rfl
  have c1 := oComp_map (l := lOfA (eVar .I 0)) (vs := [1]) (g := gNm 1) (t := tYesF) (el := eOr (eCmp gIn (eVar .B 1) (eC (.str (txt "abcdefghijklmnopqrstuvwxyz")))) (eCmp gIn (eVar .B 1) (eC (.str (txt "0123456789"))))) (ρ := [.val (.str (c :: r)), .u]) (fun c => .str [c]) (fun c => .bl (decide (c ∈ lowsT) || decide (c ∈ figsT))) (c :: r) (by simp) (by simp [signsOf]) (fun d _ => by
    simp [gIn_sign]
    by_cases hd : d ∈ lowsT <;> simp [hd]) (le_line (by simp; omega))
  obtain ⟨b, hb⟩ : ∃ b, ((c :: r).all fun c => decide (c ∈ lowsT) || decide (c ∈ figsT)) = b := ⟨_, rfl⟩
  rw [hb]
  simp only [lowsT_eq, figsT_eq] at c1
  by_cases hc : c ∈ lowsT
  · simp [b_has_name_signs, slotsOf, slotOf, List.replicate, e0, gNotIn_sign, hc, R_has_name_signs_1]
    rw [c1]
    simp [gAll_b hb, -List.map_cons]
  · simp [b_has_name_signs, slotsOf, slotOf, List.replicate, e0, gNotIn_sign, hc]
/-- the kinds that are met -/
def pl : PV → Bool
  | .rol _ => false | .dit _ => false | .ins _ _ => false
  | _ => true
def nmB : PV → Bool
  | .str t => isNm t
  | _ => false
theorem name_is (p : PV) (hp : pl p = true) (hl : ∀ t, p = .str t → t.length ≤ 10000) : g_is_name [p] = .ok (.fz (.bl (nmB p))) := by
  refine runN _ _ _ _ rfl ?_
  cases p with
  | str t =>
    have hl := hl t rfl
    have el := gLen_str t (le_line (by omega))
    cases t with
    | nil => simp [b_is_name, slotsOf, slotOf, List.replicate, R_is_name_2, el, nmB, isNm]
    | cons c r =>
      by_cases h12 : r.length < 12
      · have e1 : ((r.length : Int) + 1 ≤ 12) := by omega
        have e2 : ((1 : Int) ≤ (r.length : Int) + 1) := by omega
        simp [b_is_name, slotsOf, slotOf, List.replicate, R_is_name_2, R_is_name_1, el, e1, e2, signs_ok c r h12, nmB, isNm, h12]
      · have e1 : ¬ ((r.length : Int) + 1 ≤ 12) := by omega
        have e2 : ((1 : Int) ≤ (r.length : Int) + 1) := by omega
        simp [b_is_name, slotsOf, slotOf, List.replicate, R_is_name_2, el, e1, e2, nmB, isNm, h12]
  | rol _ => cases hp
  | dit _ => cases hp
  | ins _ _ => cases hp
  | _ => simp [b_is_name, slotsOf, slotOf, List.replicate, nmB]
/-! is_entry -/
@[simp] theorem gIsN_b (b : Bool) : gIsN (.bl b) .non = some false := (rfl)
@[simp] theorem gIsN_i (b : Int) : gIsN (.int b) .non = some false := (rfl)
@[simp] theorem gIsN_s (b : Tx) : gIsN (.str b) .non = some false := (rfl)
@[simp] theorem gIsN_t (b : List PV) : gIsN (.tup b) .non = some false := (rfl)
@[simp] theorem gIsN_l (b : List PV) : gIsN (.lst b) .non = some false := (rfl)
@[simp] theorem gIsN_d (b : List (K1 × PV)) : gIsN (.dic b) .non = some false := (rfl)
def whB : PV → Bool
  | .int _ => true
  | _ => false
theorem whole_is (p : PV) (hp : pl p = true) : g_is_whole [p] = .ok (.fz (.bl (whB p))) := by
  refine runN _ _ _ _ rfl ?_
  cases p with
  | rol _ => cases hp
  | dit _ => cases hp
  | ins _ _ => cases hp
  | _ => simp [b_is_whole, slotsOf, slotOf, List.replicate, whB]
def idxB : PV → Bool
  | .non => true
  | .int _ => true
  | _ => false
def entB : PV → Bool
  | .tup [x, y] => nmB x && idxB y
  | _ => false
/-- plain, and so are a tuple's items -/
def plE : PV → Prop
  | .tup ps => ∀ q ∈ ps, pl q = true ∧ ∀ t, q = .str t → t.length ≤ 10000
  | p => pl p = true
theorem plE_pl {p : PV} (h : plE p) : pl p = true := by
  cases p <;> first | exact h | rfl
theorem entry_is (p : PV) (hp : plE p) : g_is_entry [p] = .ok (.fz (.bl (entB p))) := by
  refine runN _ _ _ _ rfl ?_
  cases p with
  | rol _ => cases hp
  | dit _ => cases hp
  | ins _ _ => cases hp
  | tup ps =>
    match ps, hp with
    | [], _ => simp [b_is_entry, slotsOf, slotOf, List.replicate, entB]
    | [x], _ => simp [b_is_entry, slotsOf, slotOf, List.replicate, entB]
    | x :: y :: z :: r, _ =>
      have : ¬ ((r.length : Int) + 1 + 1 + 1 = 2) := by omega
      simp [b_is_entry, slotsOf, slotOf, List.replicate, entB, this]
    | [x, y], hp =>
      have h1 := hp x (by simp)
      have h2 := hp y (by simp)
      have n1 := name_is x h1.1 h1.2
      have w1 := whole_is y h2.1
      cases hb : nmB x with
      | false =>
        rw [hb] at n1
        simp [b_is_entry, slotsOf, slotOf, List.replicate, entB, R_is_entry_1, n1, hb]
      | true =>
        rw [hb] at n1
        have h2 := h2.1
        clear hp
        revert w1 h2
        cases y with
        | rol _ => intro _ h; cases h
        | dit _ => intro _ h; cases h
        | ins _ _ => intro _ h; cases h
        | _ =>
          intro w1 _
          simp [b_is_entry, slotsOf, slotOf, List.replicate, entB, R_is_entry_1, n1, hb, idxB, w1, whB]
  | _ => simp [b_is_entry, slotsOf, slotOf, List.replicate, entB]
/-! the judged lists -/
def parse : PV → Option (Tx × Option Int)
  | .tup [.str t, .non] => some (t, none)
  | .tup [.str t, .int i] => some (t, some i)
  | _ => none
def stB (rs : List Rule) (start ahead : List Tx) (t : Tx) : Option Int → Bool
  | none => decide (t ∈ start)
  | some i => decide (0 ≤ i) && decide (i < rs.length) && (match rs[i.toNat]? with
    | some r => decide (r.1 = t) && r.2.all fun c => decide (c ∈ ahead)
    | none => false)
def D (rs : List Rule) (start : List Tx) : List Tx → List PV → Bool
  | _, [] => true
  | ahead, p :: ps => match parse p with
    | none => false
    | some (t, o) => !decide (t ∈ ahead) && stB rs start ahead t o && D rs start (ahead ++ [t]) ps
/-! stands -/
def kv (t : Tx) : K1 × PV := (.inr t, .bl true)
theorem look_kv (ah : List Tx) (t : Tx) : (lookA (ah.map kv) (.inr t)).isSome = decide (t ∈ ah) := by
  unfold lookA
  induction ah with
  | nil => rfl
  | cons x xs ih =>
    rw [List.map_cons, List.find?_cons]
    by_cases h : x = t
    · subst h
      simp [kv]
    · have e : decide ((kv x).1 = (.inr t : K1)) = false := decide_eq_false fun z => h (by simpa [kv] using z)
      have h2 : t ≠ x := fun z => h z.symm
      rw [e]
      simpa [h2] using ih
theorem gIn_kv (ah : List Tx) (t : Tx) : gIn (.str t) (.dic (ah.map kv)) = some (decide (t ∈ ah)) := by
  have e : gIn (.str t) (.dic (ah.map kv)) = some (lookA (ah.map kv) (.inr t)).isSome := by
    rcases t with _ | ⟨c, _ | ⟨d, r⟩⟩ <;> rfl
  rw [e, look_kv]
theorem all_in_kv (cs ah : List Tx) (hl : cs.length ≤ 1000) : g_all_in [.tup (cs.map .str), .dic (ah.map kv)] = .ok (.fz (.bl (cs.all fun c => decide (c ∈ ah)))) := by
  refine runN _ _ _ _ rfl ?_
  have c1 := oComp_map (l := lOfA (eVar .I 0)) (vs := [2]) (g := gNm 2) (t := tYesF) (el := eCmp gIn (eVar .B 2) (eVar .B 1)) (ρ := [.val (.tup (cs.map .str)), .bor (.dic (ah.map kv)), .u]) PV.str (fun c => .bl (decide (c ∈ ah))) cs (by simp) (by simp) (fun c _ => by simp [gIn_kv]) (le_line (by omega))
  obtain ⟨b, hb⟩ : ∃ b, (cs.all fun c => decide (c ∈ ah)) = b := ⟨_, rfl⟩
  rw [hb]
  simp [b_all_in, slotsOf, slotOf, List.replicate, c1, gAll_b hb]
def ixP : Option Int → PV
  | none => .non
  | some i => .int i
theorem stands_ok (rs : List Rule) (start ah : List Tx) (t : Tx) (o : Option Int) (hr : ∀ r ∈ rs, r.2.length ≤ 1000) : g_stands [.lst (rs.map rl), .lst (start.map .str), .str t, ixP o, .dic (ah.map kv)] = .ok (.fz (.bl (stB rs start ah t o))) := by
  refine runN _ _ _ _ rfl ?_
  cases o with
  | none => simp [b_stands, slotsOf, slotOf, List.replicate, ixP, stB]
  | some i =>
    by_cases h0 : 0 ≤ i
    · by_cases h1 : i < rs.length
      · obtain ⟨n, rfl⟩ : ∃ n : Nat, i = n := ⟨i.toNat, by omega⟩
        have hn : n < rs.length := by omega
        have ei : atI (rs.map rl) (n : Int) = some (rl rs[n]) := by
          rw [atI_map, atI_nn _ _ (by omega) (by omega)]
          rfl
        have ha := all_in_kv rs[n].2 ah (hr _ (List.getElem_mem _))
        have eg : rs[n]? = some rs[n] := List.getElem?_eq_getElem hn
        simp [b_stands, slotsOf, slotOf, List.replicate, ixP, stB, R_stands_2, hn, R_stands_1, ei, rl, eg]
        by_cases hf : rs[n].1 = t
        · simp [hf, ha]
        · simp [hf]
      · have hn : ¬ i.toNat < rs.length := by omega
        simp [b_stands, slotsOf, slotOf, List.replicate, ixP, stB, R_stands_2, h0, h1]
    · simp [b_stands, slotsOf, slotOf, List.replicate, ixP, stB, R_stands_2, h0]
end Lw
end
section
namespace Lw
open Fz
open PySem (sizeLine Addr)
open L2 (atI ixN)
/-! closed lists: the house's judge and the law's -/
def tp (q : Tx × Tx) : PV := .tup [.str q.1, .str q.2]
def ascB (us : List Tx) : Bool := (us.zip (us.drop 1)).all fun q => txLt q.1 q.2
theorem txLt_tr {a b c : Tx} (h1 : txLt a b = true) (h2 : txLt b c = true) : txLt a c = true := by
  unfold txLt at *
  rw [decide_eq_true_eq] at *
  exact List.lt_trans h1 h2
theorem ascB_iff : ∀ {us : List Tx}, ascB us = true ↔ us.Pairwise fun a b => txLt a b = true
  | [] => by simp [ascB]
  | [x] => by simp [ascB]
  | x :: y :: r => by
    have ih := @ascB_iff (y :: r)
    have e : ascB (x :: y :: r) = (txLt x y && ascB (y :: r)) := rfl
    rw [e, Bool.and_eq_true, ih]
    constructor
    · rintro ⟨h1, h2⟩
      refine List.pairwise_cons.mpr ⟨fun z hz => ?_, h2⟩
      rcases List.mem_cons.mp hz with rfl | hz
      · exact h1
      · exact txLt_tr h1 ((List.pairwise_cons.mp h2).1 z hz)
    · intro h
      obtain ⟨h1, h2⟩ := List.pairwise_cons.mp h
      exact ⟨h1 y (by simp), h2⟩
theorem txLt_irr (a : Tx) : txLt a a = false := by
  unfold txLt
  exact decide_eq_false (List.lt_irrefl _)
theorem strict_iff {us : List Tx} : (us.Pairwise fun a b => txLt a b = true) ↔ us = sortT txLe us ∧ us.Nodup := by
  constructor
  · intro h
    constructor
    · refine (sortX_self (h.imp fun {a b} q => ?_)).symm
      unfold txLe
      cases z : txLt b a with
      | false => rfl
      | true =>
        have := txLt_tr q z
        rw [txLt_irr] at this; cases this
    · rw [List.nodup_iff_pairwise_ne]
      exact h.imp fun {a b} q e => by subst e; rw [txLt_irr] at q; cases q
  · rintro ⟨h1, h2⟩
    rw [h1]
    exact sortX_strict h2
def dupL (us : List Tx) : List Nat := (List.range us.length).filter fun k => decide (us.getD k [] ∈ us.take k)
theorem dup_iff {us : List Tx} : dupL us = [] ↔ us.Nodup := by
  unfold dupL
  rw [List.filter_eq_nil_iff, List.nodup_iff_pairwise_ne, List.pairwise_iff_getElem]
  constructor
  · intro h i j hi hj hij e
    refine h j (List.mem_range.mpr hj) (decide_eq_true ?_)
    rw [List.getD_eq_getElem?_getD, List.getElem?_eq_getElem hj]
    show us[j] ∈ us.take j
    rw [← e]
    exact List.mem_of_getElem? (i := i) (by rw [List.getElem?_take, if_pos hij, List.getElem?_eq_getElem hi])
  · intro h k hk z
    have hk := List.mem_range.mp hk
    have z := of_decide_eq_true z
    rw [List.getD_eq_getElem?_getD, List.getElem?_eq_getElem hk] at z
    obtain ⟨i, hi⟩ := List.getElem?_of_mem z
    rw [List.getElem?_take] at hi
    split at hi
    · rename_i ik
      rw [List.getElem?_eq_getElem (by omega)] at hi
      exact h i k (by omega) hk ik (Option.some.inj hi)
    · cases hi
def sO : PV → Tx
  | .str t => t
  | _ => []
theorem sO_strs (us : List Tx) : (us.map PV.str).map sO = us := by rw [List.map_map]; simp [Function.comp_def, sO]
def clR (rs : List Rule) (us : List Tx) : Bool := rs.all fun r => !((r.2.all fun c => decide (c ∈ us)) && !decide (r.1 ∈ us))
def clB (rs : List Rule) (start : List Tx) (field : Tx) (us : List Tx) : Bool := ascB us && ((start.all fun s => decide (s ∈ us)) && (!decide (field ∈ us) && clR rs us))
def clP (rs : List Rule) (start : List Tx) (field : Tx) : PV → Bool
  | .lst vs => vs.all nmB && clB rs start field (vs.map sO)
  | _ => false
theorem nm_strs : ∀ {vs : List PV}, vs.all nmB = true → ∃ us : List Tx, vs = us.map .str ∧ ∀ t ∈ us, isNm t = true
  | [], _ => ⟨[], rfl, fun _ h => nomatch h⟩
  | p :: r, h => by
    rw [List.all_cons, Bool.and_eq_true] at h
    obtain ⟨us, rfl, hu⟩ := nm_strs h.2
    cases p with
    | str t => exact ⟨t :: us, rfl, fun x hx => (List.mem_cons.mp hx).elim (fun e => by rw [e]; exact h.1) (hu x)⟩
    | _ => exact absurd h.1 (by simp [nmB])
structure Mb (p : PV) : Prop where
  pl : pl p = true
  len : ∀ t, p = .str t → t.length ≤ 10000
section
variable {rs : List Rule} {start : List Tx} {field : Tx} {v : PV}
theorem lname_ok {p : PV} (h : Mb p) : g__law_is_name [p] = .ok (.fz (.bl (nmB p))) := by
  refine runN _ _ _ _ rfl ?_
  have hp := h.pl
  cases p with
  | str t =>
    have hl := h.len t rfl
    have el := gLen_str t (le_line (by omega))
    cases t with
    | nil => simp [b__law_is_name, slotsOf, slotOf, List.replicate, el, nmB, isNm]
    | cons c r =>
      have e0 : gIx (.str (c :: r)) (.int 0) = some (.str [c]) := by
        rw [gIx_str _ _ (le_line (by omega)), atI_nn _ _ (by decide) (by simp)]
        rfl
      by_cases h12 : r.length < 12
      · have e1 : ((r.length : Int) + 1 ≤ 12) := by omega
        have e2 : ((1 : Int) ≤ (r.length : Int) + 1) := by omega
        by_cases hc : c ∈ lowsT
        · have cc := oComp_filter (l := lOfA (eVar .I 0)) (vs := [1]) (g := gNm 1) (t := tCmp gNotIn (eVar .B 1) (eC (.str (txt "abcdefghijklmnopqrstuvwxyz0123456789")))) (el := eVar .E 1) (ρ := [.val (.str (c :: r)), .u]) (fun c => PV.str [c]) (fun c => PV.str [c]) (fun d => !decide (d ∈ lowsT ++ figsT)) (c :: r) (by simp) (by simp [signsOf]) (fun d _ => by
            rw [sgT_eq]
            by_cases z : d ∈ lowsT ++ figsT
            · simp [gNotIn_sign, z]
            · simp [gNotIn_sign, z]) (le_line (by simp at hl ⊢; omega))
          have nmE : nmB (.str (c :: r)) = ((c :: r).filter fun d => !decide (d ∈ lowsT ++ figsT)).isEmpty := by
            show (decide (r.length < 12) && decide (c ∈ lowsT) && (c :: r).all fun c => decide (c ∈ lowsT) || decide (c ∈ figsT)) = _
            rw [decide_eq_true h12, decide_eq_true hc, Bool.true_and, Bool.true_and]
            cases z : (c :: r).all fun c => decide (c ∈ lowsT) || decide (c ∈ figsT) with
            | true =>
              have : ((c :: r).filter fun d => !decide (d ∈ lowsT ++ figsT)) = [] := List.filter_eq_nil_iff.mpr fun d hd y => by
                have := List.all_eq_true.mp z d hd
                simp at this y
                rcases this with q | q
                · exact y.1 q
                · exact y.2 q
              rw [this]; rfl
            | false =>
              cases y : ((c :: r).filter fun d => !decide (d ∈ lowsT ++ figsT)) with
              | cons => rfl
              | nil =>
                have : ((c :: r).all fun c => decide (c ∈ lowsT) || decide (c ∈ figsT)) = true := List.all_eq_true.mpr fun d hd => by
                  have := List.filter_eq_nil_iff.mp y d hd
                  simp at this
                  by_cases q : d ∈ lowsT
                  · simp [q]
                  · simp [q, this q]
                rw [this] at z; cases z
          rw [nmE]
          generalize ((c :: r).filter fun d => !decide (d ∈ lowsT ++ figsT)) = Z at cc ⊢
          have tz : truth (.lst (Z.map fun c => PV.str [c])) = .ok (!Z.isEmpty) := by cases Z <;> rfl
          simp [b__law_is_name, slotsOf, slotOf, List.replicate, el, e1, e2, e0, lowsT_eq, gNotIn_sign, hc, R__law_is_name_1, cc, tz]
        · have : nmB (.str (c :: r)) = false := by
            show (decide (r.length < 12) && decide (c ∈ lowsT) && _) = false
            rw [decide_eq_false hc]; simp
          rw [this]
          simp [b__law_is_name, slotsOf, slotOf, List.replicate, el, e1, e2, e0, lowsT_eq, gNotIn_sign, hc]
      · have e1 : ¬ ((r.length : Int) + 1 ≤ 12) := by omega
        have e2 : ((1 : Int) ≤ (r.length : Int) + 1) := by omega
        have : nmB (.str (c :: r)) = false := by
          show (decide (r.length < 12) && decide (c ∈ lowsT) && _) = false
          rw [decide_eq_false h12]; simp
        rw [this]
        simp [b__law_is_name, slotsOf, slotOf, List.replicate, el, e1, e2]
  | rol _ => cases hp
  | dit _ => cases hp
  | ins _ _ => cases hp
  | _ => simp [b__law_is_name, slotsOf, slotOf, List.replicate, nmB]
theorem gAll_bs {vs : List PV} (f : PV → Bool) : gAll (.lst (vs.map fun p => PV.bl (f p))) = some (.bl (vs.all f)) := by
  show (bools _).map _ = _
  rw [show vs.map (fun p => PV.bl (f p)) = (vs.map f).map .bl by simp [List.map_map, Function.comp_def], bools_map]
  simp [List.all_map, Function.comp_def]
theorem isstart_ok {vs : List PV} (hv : ∀ p ∈ vs, Mb p) (hl : vs.length ≤ 60) : g_is_start [.lst vs] = .ok (.fz (.bl (vs.all nmB && ascB (vs.map sO)))) := by
  refine runN _ _ _ _ rfl ?_
  have cc := oComp_map (l := lOfA (eVar .I 0)) (vs := [1]) (g := gNm 1) (t := tYesF) (el := eOfO (oCall g_is_name (lCons (eVar .E 1) lNil))) (ρ := [.val (.lst vs), .u]) id (fun p => .bl (nmB p)) vs (by simp) (by simp) (fun p hp => by
    have := name_is p (hv p hp).pl (hv p hp).len
    simp [this]) (le_line (by omega))
  have ga := gAll_bs (vs := vs) nmB
  cases z : vs.all nmB with
  | false =>
    rw [z] at ga
    generalize vs.map (fun p => PV.bl (nmB p)) = B at cc ga
    simp [b_is_start, slotsOf, slotOf, List.replicate, cc, ga]
  | true =>
    rw [z] at ga
    obtain ⟨us, rfl, _⟩ := nm_strs z
    rw [sO_strs]
    have s1 : gSl (.lst (us.map .str)) (some 1) none = some (.l ((us.drop 1).map .str)) := by rw [gSl_lst, cut_map, show (1 : Int) = ((1 : Nat) : Int) from rfl, cut_from]
    have asc : g_are_ascending [.lst (us.map .str)] = .ok (.fz (.bl (ascB us))) := by
      refine runN _ _ _ _ rfl ?_
      have c1 := oComp_map (l := lZip (eVar .I 0) (eOfO (oSl (eVar .I 0) (pAt (eC (.int 1))) pNo))) (vs := [1, 2]) (g := gTp 2 (gsCons (gNm 1) (gsCons (gNm 2) gsNil))) (t := tYesF) (el := eCmp gLt (eVar .B 1) (eVar .B 2)) (ρ := [.val (.lst (us.map .str)), .u, .u]) tp (fun q => .bl (txLt q.1 q.2)) (us.zip (us.drop 1)) (by simp) (by
        rw [m_lZip]
        simp [-List.map_drop, -List.drop_one, s1]
        rw [List.zip, List.map_zipWith]
        rfl) (fun q hq => by simp [tp, gOrd]) (le_line (by simp at hl ⊢; omega))
      have ga2 : gAll (.lst ((us.zip (us.drop 1)).map fun q => PV.bl (txLt q.1 q.2))) = some (.bl (ascB us)) := by
        show (bools _).map _ = _
        rw [show (us.zip (us.drop 1)).map (fun q => PV.bl (txLt q.1 q.2)) = ((us.zip (us.drop 1)).map fun q => txLt q.1 q.2).map .bl by simp [List.map_map, Function.comp_def], bools_map]
        simp [List.all_map, Function.comp_def, ascB]
      generalize (us.zip (us.drop 1)).map (fun q => PV.bl (txLt q.1 q.2)) = B at c1 ga2
      generalize us.map PV.str = US at c1 ⊢
      simp [b_are_ascending, slotsOf, slotOf, List.replicate, c1, ga2]
    generalize (us.map PV.str).map (fun p => PV.bl (nmB p)) = B at cc ga
    generalize us.map PV.str = US at asc cc ⊢
    simp [b_is_start, slotsOf, slotOf, List.replicate, cc, ga, R_is_start_1, asc]
theorem all_in_lst (cs us : List Tx) (hl : cs.length ≤ 1000) : g_all_in [.lst (cs.map .str), .lst (us.map .str)] = .ok (.fz (.bl (cs.all fun c => decide (c ∈ us)))) := by
  refine runN _ _ _ _ rfl ?_
  have c1 := oComp_map (l := lOfA (eVar .I 0)) (vs := [2]) (g := gNm 2) (t := tYesF) (el := eCmp gIn (eVar .B 2) (eVar .B 1)) (ρ := [.val (.lst (cs.map .str)), .bor (.lst (us.map .str)), .u]) PV.str (fun c => .bl (decide (c ∈ us))) cs (by simp) (by simp) (fun c _ => by simp) (le_line (by omega))
  obtain ⟨b, hb⟩ : ∃ b, (cs.all fun c => decide (c ∈ us)) = b := ⟨_, rfl⟩
  rw [hb]
  have ga := gAll_b hb
  generalize cs.map (fun c => PV.bl (decide (c ∈ us))) = B at c1 ga
  simp [b_all_in, slotsOf, slotOf, List.replicate, c1, ga]
theorem all_in_tup (cs us : List Tx) (hl : cs.length ≤ 1000) : g_all_in [.tup (cs.map .str), .lst (us.map .str)] = .ok (.fz (.bl (cs.all fun c => decide (c ∈ us)))) := by
  refine runN _ _ _ _ rfl ?_
  have c1 := oComp_map (l := lOfA (eVar .I 0)) (vs := [2]) (g := gNm 2) (t := tYesF) (el := eCmp gIn (eVar .B 2) (eVar .B 1)) (ρ := [.val (.tup (cs.map .str)), .bor (.lst (us.map .str)), .u]) PV.str (fun c => .bl (decide (c ∈ us))) cs (by simp) (by simp) (fun c _ => by simp) (le_line (by omega))
  obtain ⟨b, hb⟩ : ∃ b, (cs.all fun c => decide (c ∈ us)) = b := ⟨_, rfl⟩
  rw [hb]
  have ga := gAll_b hb
  generalize cs.map (fun c => PV.bl (decide (c ∈ us))) = B at c1 ga
  simp [b_all_in, slotsOf, slotOf, List.replicate, c1, ga]
theorem isclosed_ok (hr : ∀ r ∈ rs, r.2.length ≤ 1000) (hs : start.length ≤ 1000) {vs : List PV} (hv : ∀ p ∈ vs, Mb p) (hl : vs.length ≤ 60) : g_is_closed [.lst (rs.map rl), .lst (start.map .str), .str field, .lst vs] = .ok (.fz (.bl (clP rs start field (.lst vs)))) := by
  obtain ⟨o, e, rfl⟩ : ∃ o, g_is_closed [.lst (rs.map rl), .lst (start.map .str), .str field, .lst vs] = .ok o ∧ o = .fz (.bl (clP rs start field (.lst vs))) := by
    refine run_ok _ rfl ?_
    have is := isstart_ok hv hl
    show sat _ (poR fun o => o = .fz (.bl (vs.all nmB && clB rs start field (vs.map sO))))
    cases z : vs.all nmB with
    | false => rw [z] at is; simp [b_is_closed, slotsOf, slotOf, List.replicate, is]
    | true =>
      rw [z] at is
      obtain ⟨us, rfl, _⟩ := nm_strs z
      rw [sO_strs] at is ⊢
      have ai := all_in_lst start us hs
      have gi := gIn_strs field us
      unfold clB
      cases z1 : ascB us with
      | false =>
        rw [z1] at is
        generalize us.map PV.str = US at is ⊢
        simp [b_is_closed, slotsOf, slotOf, List.replicate, is]
      | true =>
        rw [z1] at is
        cases z2 : start.all (fun s => decide (s ∈ us)) with
        | false =>
          rw [z2] at ai
          generalize us.map PV.str = US at is ai ⊢
          generalize start.map PV.str = SS at ai ⊢
          simp [b_is_closed, slotsOf, slotOf, List.replicate, is, ai]
        | true =>
          rw [z2] at ai
          cases z3 : decide (field ∈ us) with
          | true =>
            rw [z3] at gi
            generalize us.map PV.str = US at is ai gi ⊢
            generalize start.map PV.str = SS at ai ⊢
            simp [b_is_closed, slotsOf, slotOf, List.replicate, is, ai, gi]
          | false =>
            rw [z3] at gi
            have core : sat (loop (gTp 2 (gsCons (gNm 4) (gsCons (gNm 5) gsNil))) L_is_closed_1 (rs.map rl) [.val (.lst (rs.map rl)), .val (.lst (start.map .str)), .bor (.str field), .val (.lst (us.map .str)), .u, .u]) { nx := fun ρ => sat (R_is_closed_2 ρ) (poR fun o => o = .fz (.bl (clR rs us))), ct := fun _ => False, bk := fun _ => False, rt := fun o => o = .fz (.bl (clR rs us)), ex := fun _ _ _ => False } := by
              refine sat_for (fun k ρ => ∃ x4 x5, ρ = [.val (.lst (rs.map rl)), .val (.lst (start.map .str)), .bor (.str field), .val (.lst (us.map .str)), x4, x5] ∧ clR (rs.take k) us = true) ⟨_, _, rfl, rfl⟩ ?_ ?_
              · rintro k p _ hk ⟨x4, x5, rfl, hc⟩
                obtain ⟨r, hr', rfl⟩ : ∃ r, rs[k]? = some r ∧ p = rl r := by
                  rw [List.getElem?_map] at hk
                  cases e : rs[k]? with
                  | none => rw [e] at hk; cases hk
                  | some r => rw [e] at hk; exact ⟨r, rfl, (Option.some.inj hk).symm⟩
                have rm := List.mem_of_getElem? hr'
                have kl := (List.getElem?_eq_some_iff.mp hr').1
                have tk : rs.take (k + 1) = rs.take k ++ [r] := by rw [List.take_succ, hr']; rfl
                rw [stp_of (ρ1 := [.val (.lst (rs.map rl)), .val (.lst (start.map .str)), .bor (.str field), .val (.lst (us.map .str)), .val (.str r.1), .val (.tup (r.2.map .str))]) (by simp [rl])]
                have a1 := all_in_tup r.2 us (hr r rm)
                have g1 := gNotIn_strs r.1 us
                have bad : (r.2.all fun c => decide (c ∈ us)) = true → decide (r.1 ∈ us) = false → clR rs us = false := fun q1 q2 => by
                  cases y : clR rs us with
                  | false => rfl
                  | true =>
                    have := List.all_eq_true.mp y r rm
                    rw [q1, q2] at this; cases this
                have good : ((r.2.all fun c => decide (c ∈ us)) && !decide (r.1 ∈ us)) = false → clR (rs.take (k + 1)) us = true := fun q => by
                  rw [tk]
                  unfold clR at hc ⊢
                  rw [List.all_append, hc]
                  simp only [List.all_cons, q, List.all_nil]; rfl
                generalize us.map PV.str = US at a1 g1 ⊢
                cases y1 : r.2.all (fun c => decide (c ∈ us)) with
                | false =>
                  rw [y1] at a1
                  simp [L_is_closed_1, a1]
                  exact good (by rw [y1]; rfl)
                | true =>
                  rw [y1] at a1
                  cases y2 : decide (r.1 ∈ us) with
                  | true =>
                    rw [y2] at g1
                    simp [L_is_closed_1, a1, g1]
                    exact good (by rw [y1, y2]; rfl)
                  | false =>
                    rw [y2] at g1
                    simp [L_is_closed_1, a1, g1, bad y1 y2]
              · rintro _ ⟨x4, x5, rfl, hc⟩
                rw [List.length_map, List.take_length] at hc
                simp [R_is_closed_2, hc]
            generalize us.map PV.str = US at is ai gi core ⊢
            generalize start.map PV.str = SS at ai core ⊢
            generalize rs.map rl = RS at core ⊢
            simp [b_is_closed, slotsOf, slotOf, List.replicate, is, ai, gi, R_is_closed_3]
            exact core.mono (fun _ q => q) (fun _ q => q.elim) (fun _ q => q.elim) (fun _ q => q) fun _ _ _ q => q.elim
  exact e
end
end Lw
end
section
namespace Lw
open Fz
open PySem (sizeLine Addr)
open L2 (atI ixN)
/-! the law's own test of a closed list; shows of hidden papers -/
section
variable {rs : List Rule} {start : List Tx} {field : Tx} {v : PV}
theorem gNe_strs2 (us vs : List Tx) : gNe (.lst (us.map .str)) (.lst (vs.map .str)) = some (!decide (us = vs)) := by
  rw [gNe_of ((okD_strs us).eqOk (by omega)) ((okD_strs vs).eqOk (by omega)), pvEq_strs]
theorem closed_no (hv : isT .list v = some (.bl false)) : g_is_closed [.lst (rs.map rl), .lst (start.map .str), .str field, v] = .ok (.fz (.bl false)) := by
  have is : g_is_start [v] = .ok (.fz (.bl false)) := runN _ _ _ _ rfl (by simp [b_is_start, slotsOf, slotOf, List.replicate, hv])
  refine runN _ _ _ _ rfl ?_
  generalize start.map PV.str = SS
  generalize rs.map rl = RS
  simp [b_is_closed, slotsOf, slotOf, List.replicate, is]
theorem lclosed_no (hv : isT .list v = some (.bl false)) : g__law_is_closed [.lst (rs.map rl), .lst (start.map .str), .str field, v] = .ok (.fz (.bl false)) := by
  refine runN _ _ _ _ rfl ?_
  generalize start.map PV.str = SS
  generalize rs.map rl = RS
  simp [b__law_is_closed, slotsOf, slotOf, List.replicate, hv]
def lcE (rs : List Rule) (start : List Tx) (field : Tx) (us : List Tx) (x4 x5 : Fz.Slot) : Fz.Env := [.val (.lst (rs.map rl)), .val (.lst (start.map .str)), .bor (.str field), .val (.lst (us.map .str)), x4, x5, .u, .u]
theorem lclosed_ok (hr : ∀ r ∈ rs, r.2.length ≤ 1000) (hs : start.length ≤ 1000) {vs : List PV} (hv : ∀ p ∈ vs, Mb p) (hl : vs.length ≤ 60) : g__law_is_closed [.lst (rs.map rl), .lst (start.map .str), .str field, .lst vs] = .ok (.fz (.bl (clP rs start field (.lst vs)))) := by
  obtain ⟨o, e, rfl⟩ : ∃ o, g__law_is_closed [.lst (rs.map rl), .lst (start.map .str), .str field, .lst vs] = .ok o ∧ o = .fz (.bl (clP rs start field (.lst vs))) := by
    refine run_ok _ rfl ?_
    have cc := oComp_map (l := lOfA (eVar .I 3)) (vs := [6]) (g := gNm 6) (t := tYesF) (el := eOfO (oCall g__law_is_name (lCons (eVar .E 6) lNil))) (ρ := [.val (.lst (rs.map rl)), .val (.lst (start.map .str)), .bor (.str field), .val (.lst vs), .u, .u, .u, .u]) id (fun p => .bl (nmB p)) vs (by simp) (by simp) (fun p hp => by
      have := lname_ok (hv p hp)
      simp [this]) (le_line (by omega))
    have ga := gAll_bs (vs := vs) nmB
    show sat _ (poR fun o => o = .fz (.bl (vs.all nmB && clB rs start field (vs.map sO))))
    cases z : vs.all nmB with
    | false =>
      rw [z] at ga
      generalize vs.map (fun p => PV.bl (nmB p)) = B at cc ga
      generalize start.map PV.str = SS at cc ⊢
      generalize rs.map rl = RS at cc ⊢
      simp [b__law_is_closed, slotsOf, slotOf, List.replicate, cc, ga]
    | true =>
      rw [z] at ga
      obtain ⟨us, rfl, _⟩ := nm_strs z
      rw [sO_strs]
      have ul : us.length ≤ 60 := by simpa using hl
      have so := gSortA_strs (xs := us) (by omega)
      have gn := gNe_strs2 us (sortT txLe us)
      have rr : rngR 0 (us.length : Int) = .ok (rangeL 0 us.length) := rng_ok (by omega) (by omega) (by omega) (by omega)
      have UL : ((us.map PV.str).length : Int) = (us.length : Int) := by simp
      have cd := oComp_filter (l := lRange1 (eUn gLen (eVar .B 3))) (vs := [7]) (g := gNm 7) (t := tCmp gIn (eIx (eVar .B 3) (eVar .B 7)) (eOfO (oSl (eVar .I 3) pNo (pAt (eVar .B 7))))) (el := eVar .E 7) (ρ := lcE rs start field us .u .u) (fun k : Nat => .int ((0 : Int) + k)) (fun k : Nat => .int (k : Int)) (fun k => decide (us.getD k [] ∈ us.take k)) (List.range us.length) (by simp [lcE]) (by
        simp [lcE, rr, rangeL]) (fun k hk => by
        have hk := List.mem_range.mp hk
        have a1 : atI (us.map PV.str) (k : Int) = some (.str (us.getD k [])) := by rw [atI_map, atI_nat, List.getD_eq_getElem?_getD, List.getElem?_eq_getElem hk]; rfl
        have s1 : gSl (.lst (us.map .str)) none (some (k : Int)) = some (.l ((us.take k).map .str)) := by rw [gSl_lst, cut_map, cut_to]
        have g1 := gIn_strs (us.getD k []) (us.take k)
        generalize (us.take k).map PV.str = UT at s1 g1
        simp only [lcE]
        generalize us.map PV.str = US at a1 s1 ⊢
        generalize decide (us.getD k [] ∈ us.take k) = B at g1 ⊢
        generalize us.getD k [] = d at a1 g1
        cases B <;> simp [a1, s1, g1]) (le_line (by simp; omega))
      have td : truth (.lst ((dupL us).map fun k : Nat => PV.int (k : Int))) = .ok (!decide (dupL us = [])) := by
        cases dupL us <;> simp [truth]
      have gi := gIn_strs field us
      have cs := oComp_filter (l := lOfA (eVar .I 1)) (vs := [6]) (g := gNm 6) (t := tCmp gNotIn (eVar .B 6) (eVar .B 3)) (el := eVar .E 6) (ρ := lcE rs start field us .u .u) PV.str PV.str (fun s => !decide (s ∈ us)) start (by simp [lcE]) (by simp [lcE]) (fun s _ => by
        by_cases q : s ∈ us <;> simp [lcE, q]) (le_line (by omega))
      have ts : truth (.lst ((start.filter fun s => !decide (s ∈ us)).map .str)) = .ok (!(start.all fun s => decide (s ∈ us))) := by
        cases y : start.all fun s => decide (s ∈ us) with
        | true =>
          have : (start.filter fun s => !decide (s ∈ us)) = [] := List.filter_eq_nil_iff.mpr fun s hs => by
            have := List.all_eq_true.mp y s hs
            simp at this; simp [this]
          rw [this]; rfl
        | false =>
          cases w : start.filter fun s => !decide (s ∈ us) with
          | cons => rfl
          | nil =>
            have : (start.all fun s => decide (s ∈ us)) = true := List.all_eq_true.mpr fun s hs => by
              have := List.filter_eq_nil_iff.mp w s hs
              simp at this; simp [this]
            rw [this] at y; cases y
      have edup : ((List.range us.length).filter fun k => decide (us.getD k [] ∈ us.take k)) = dupL us := rfl
      rw [edup] at cd
      have asc : ascB us = (decide (us = sortT txLe us) && decide (dupL us = [])) := by
        have i1 := ascB_iff (us := us)
        rw [strict_iff] at i1
        have i2 := dup_iff (us := us)
        cases y : ascB us with
        | true =>
          obtain ⟨q1, q2⟩ := i1.mp y
          rw [decide_eq_true q1, decide_eq_true (i2.mpr q2)]; rfl
        | false =>
          symm
          rw [Bool.and_eq_false_iff]
          by_cases q1 : us = sortT txLe us
          · right
            refine decide_eq_false fun q2 => ?_
            rw [i1.mpr ⟨q1, i2.mp q2⟩] at y; cases y
          · exact .inl (decide_eq_false q1)
      unfold clB
      rw [asc]
      have core : sat (loop (gTp 2 (gsCons (gNm 4) (gsCons (gNm 5) gsNil))) L__law_is_closed_1 (rs.map rl) (lcE rs start field us .u .u)) { nx := fun ρ => sat (R__law_is_closed_2 ρ) (poR fun o => o = .fz (.bl (clR rs us))), ct := fun _ => False, bk := fun _ => False, rt := fun o => o = .fz (.bl (clR rs us)), ex := fun _ _ _ => False } := by
        refine sat_for (fun k ρ => ∃ x4 x5, ρ = lcE rs start field us x4 x5 ∧ clR (rs.take k) us = true) ⟨_, _, rfl, rfl⟩ ?_ ?_
        · rintro k p _ hk ⟨x4, x5, rfl, hc⟩
          obtain ⟨r, hr', rfl⟩ : ∃ r, rs[k]? = some r ∧ p = rl r := by
            rw [List.getElem?_map] at hk
            cases e : rs[k]? with
            | none => rw [e] at hk; cases hk
            | some r => rw [e] at hk; exact ⟨r, rfl, (Option.some.inj hk).symm⟩
          have rm := List.mem_of_getElem? hr'
          have kl := (List.getElem?_eq_some_iff.mp hr').1
          have tk : rs.take (k + 1) = rs.take k ++ [r] := by rw [List.take_succ, hr']; rfl
          rw [stp_of (ρ1 := lcE rs start field us (.val (.str r.1)) (.val (.tup (r.2.map .str)))) (by simp [rl, lcE])]
          have a1 := oComp_filter (l := lOfA (eVar .I 5)) (vs := [6]) (g := gNm 6) (t := tCmp gNotIn (eVar .B 6) (eVar .B 3)) (el := eVar .E 6) (ρ := lcE rs start field us (.val (.str r.1)) (.val (.tup (r.2.map .str)))) PV.str PV.str (fun s => !decide (s ∈ us)) r.2 (by simp [lcE]) (by simp [lcE]) (fun s _ => by
            by_cases q : s ∈ us <;> simp [lcE, q]) (le_line (by have := hr r rm; omega))
          have t1 : truth (.lst ((r.2.filter fun s => !decide (s ∈ us)).map .str)) = .ok (!(r.2.all fun s => decide (s ∈ us))) := by
            cases y : r.2.all fun s => decide (s ∈ us) with
            | true =>
              have : (r.2.filter fun s => !decide (s ∈ us)) = [] := List.filter_eq_nil_iff.mpr fun s hs => by
                have := List.all_eq_true.mp y s hs
                simp at this; simp [this]
              rw [this]; rfl
            | false =>
              cases w : r.2.filter fun s => !decide (s ∈ us) with
              | cons => rfl
              | nil =>
                have : (r.2.all fun s => decide (s ∈ us)) = true := List.all_eq_true.mpr fun s hs => by
                  have := List.filter_eq_nil_iff.mp w s hs
                  simp at this; simp [this]
                rw [this] at y; cases y
          have g1 := gNotIn_strs r.1 us
          have bad : (r.2.all fun c => decide (c ∈ us)) = true → decide (r.1 ∈ us) = false → clR rs us = false := fun q1 q2 => by
            cases y : clR rs us with
            | false => rfl
            | true =>
              have := List.all_eq_true.mp y r rm
              rw [q1, q2] at this; cases this
          have good : ((r.2.all fun c => decide (c ∈ us)) && !decide (r.1 ∈ us)) = false → clR (rs.take (k + 1)) us = true := fun q => by
            rw [tk]
            unfold clR at hc ⊢
            rw [List.all_append, hc]
            simp only [List.all_cons, q, List.all_nil]; rfl
          have fin : clR (rs.take (k + 1)) us = true → ∃ x4 x5, lcE rs start field us (.val (.str r.1)) (.val (.tup (r.2.map .str))) = lcE rs start field us x4 x5 ∧ clR (rs.take (k + 1)) us = true := fun q => ⟨_, _, rfl, q⟩
          generalize (r.2.filter fun s => !decide (s ∈ us)).map PV.str = X at a1 t1
          simp only [lcE] at a1 fin ⊢
          generalize us.map PV.str = US at a1 g1 fin ⊢
          generalize r.2.map PV.str = RC at a1 fin ⊢
          generalize start.map PV.str = SS at a1 fin ⊢
          generalize rs.map rl = RS at a1 fin ⊢
          cases y2 : decide (r.1 ∈ us) with
          | true =>
            rw [y2] at g1
            simp [L__law_is_closed_1, g1]
            simpa using fin (good (by rw [y2]; simp))
          | false =>
            rw [y2] at g1
            cases y1 : r.2.all (fun c => decide (c ∈ us)) with
            | false =>
              rw [y1] at t1
              simp [L__law_is_closed_1, a1, g1, t1]
              simpa using fin (good (by rw [y1]; rfl))
            | true =>
              rw [y1] at t1
              simp [L__law_is_closed_1, a1, g1, t1, bad y1 y2]
        · rintro _ ⟨x4, x5, rfl, hc⟩
          rw [List.length_map, List.take_length] at hc
          simp [R__law_is_closed_2, lcE, hc]
      simp only [lcE] at cd cs core
      generalize (us.map PV.str).map (fun p => PV.bl (nmB p)) = B at cc ga
      generalize (dupL us).map (fun k : Nat => PV.int (k : Int)) = DL at cd td
      generalize (start.filter fun s => !decide (s ∈ us)).map PV.str = SF at cs ts
      generalize (sortT txLe us).map PV.str = SU at so gn
      generalize us.map PV.str = US at cc cd cs so gn gi core ⊢
      generalize start.map PV.str = SS at cc cd cs core ⊢
      generalize rs.map rl = RS at cc cd cs core ⊢
      generalize decide (us = sortT txLe us) = B1 at gn ⊢
      generalize decide (dupL us = []) = B2 at td ⊢
      generalize (start.all fun s => decide (s ∈ us)) = B4 at ts ⊢
      generalize decide (field ∈ us) = B3 at gi ⊢
      cases B1 with
      | false => simp [b__law_is_closed, slotsOf, slotOf, List.replicate, cc, ga, R__law_is_closed_5, so, gn]
      | true =>
        cases B2 with
        | false => simp [b__law_is_closed, slotsOf, slotOf, List.replicate, cc, ga, R__law_is_closed_5, so, gn, cd, td]
        | true =>
          cases B3 with
          | true =>
            cases B4 <;> simp [b__law_is_closed, slotsOf, slotOf, List.replicate, cc, ga, R__law_is_closed_5, so, gn, cd, td, gi]
          | false =>
            cases B4 with
            | false => simp [b__law_is_closed, slotsOf, slotOf, List.replicate, cc, ga, R__law_is_closed_5, so, gn, cd, td, gi, R__law_is_closed_4, cs, ts]
            | true =>
              simp [b__law_is_closed, slotsOf, slotOf, List.replicate, cc, ga, R__law_is_closed_5, so, gn, cd, td, gi, R__law_is_closed_4, cs, ts, R__law_is_closed_3]
              exact core.mono (fun _ q => q) (fun _ q => q.elim) (fun _ q => q.elim) (fun _ q => q) fun _ _ _ q => q.elim
  exact e
end
end Lw
end
section
namespace Lw
open Fz
open PySem (sizeLine Addr)
open L2 (atI ixN)
/-! dicts by a list of texts -/
theorem nodup_le {α : Type} [DecidableEq α] : ∀ {W ts : List α}, W.Nodup → (∀ w ∈ W, w ∈ ts) → W.length ≤ ts.length
  | [], _, _, _ => Nat.zero_le _
  | w :: W, ts, hn, hs => by
    obtain ⟨h1, h2⟩ := List.nodup_cons.mp hn
    have hw := hs w (by simp)
    have := nodup_le (W := W) (ts := ts.erase w) h2 fun x hx => (List.mem_erase_of_ne (show x ≠ w from fun e => h1 (e ▸ hx))).mpr (hs x (by simp [hx]))
    rw [List.length_erase_of_mem hw] at this
    have := List.length_pos_of_mem hw
    simp
    omega
theorem look_ad {β : Type} (F : Tx → β) (x : Tx) : ∀ (ts : List Tx), x ∈ ts → lookA (ts.map fun t => ((.inr t : K1), F t)) (.inr x) = some (F x)
  | t :: ts, h => by
    rw [List.map_cons]
    unfold lookA
    rw [List.find?_cons]
    by_cases e : t = x
    · simp [e]
    · have hx : x ∈ ts := (List.mem_cons.mp h).resolve_left fun z => e z.symm
      simp [e]
      have := look_ad F x ts hx
      unfold lookA at this
      simpa using this
theorem find_ad {β : Type} (F : Tx → β) (x : Tx) : ∀ (ts : List Tx), x ∈ ts → (ts.map fun t => ((.inr t : K1), F t)).findIdx? (fun q => decide (q.1 = .inr x)) = some (ts.idxOf x)
  | t :: ts, h => by
    rw [List.map_cons, List.findIdx?_cons]
    by_cases e : t = x
    · subst e; simp
    · have hx : x ∈ ts := (List.mem_cons.mp h).resolve_left fun z => e z.symm
      rw [find_ad F x ts hx]
      have eb : (t == x) = false := by simp [e]
      simp [e, List.idxOf_cons, eb]
theorem gIx_of (ts : List Tx) (F : Tx → PV) {x : Tx} (h : x ∈ ts) : gIx (.dic (ts.map fun t => ((.inr t : K1), F t))) (.str x) = some (F x) := by
  have e : gIx (.dic (ts.map fun t => ((.inr t : K1), F t))) (.str x) = (lookD (.dic (ts.map fun t => ((.inr t : K1), F t))) (.str x)).bind id := rfl
  rw [e, lookD_str, look_ad F x ts h]
  rfl
theorem setSnd_ad (F : Tx → OT) {x : Tx} (n : OT) : ∀ (ts : List Tx), ts.Nodup → x ∈ ts → setSnd (ts.map fun t => ((.inr t : K1), F t)) (ts.idxOf x) n = ts.map fun t => (.inr t, if t = x then n else F t) := fun ts hn hx => by
  have hi := List.idxOf_lt_length_iff.mpr hx
  unfold setSnd
  rw [List.getElem?_map, List.getElem?_eq_getElem hi]
  simp only [Option.map_some]
  refine List.ext_getElem? fun j => ?_
  by_cases e : ts.idxOf x = j
  · subst e
    rw [List.getElem?_set_self (by simpa using hi), List.getElem?_map, List.getElem?_eq_getElem hi]
    simp
  · rw [List.getElem?_set_ne e, List.getElem?_map, List.getElem?_map]
    cases ej : ts[j]? with
    | none => rfl
    | some z =>
      have : z ≠ x := fun q => by
        subst q
        obtain ⟨hj, rfl⟩ := List.getElem?_eq_some_iff.mp ej
        exact e (hn.idxOf_getElem j hj)
      simp [this]
/-- marks: a dict whose values are True -/
def mkK (y : Tx) : K1 × PV := (.inr y, .bl true)
theorem put_mk (ys : List Tx) (y : Tx) : putA (ys.map mkK) (.inr y) (.bl true) = (if y ∈ ys then ys else ys ++ [y]).map mkK := by
  unfold putA
  by_cases h : y ∈ ys
  · rw [if_pos h, if_pos (List.any_eq_true.mpr ⟨mkK y, List.mem_map.mpr ⟨y, h, rfl⟩, by simp [mkK]⟩), List.map_map]
    refine List.map_congr_left fun z _ => ?_
    show (if (mkK z).1 = .inr y then ((mkK z).1, PV.bl true) else mkK z) = mkK z
    by_cases e : (mkK z).1 = .inr y
    · rw [if_pos e]; rfl
    · rw [if_neg e]
  · rw [if_neg h, if_neg, List.map_append]
    · rfl
    · intro z
      obtain ⟨q, hq, e⟩ := List.any_eq_true.mp z
      obtain ⟨w, hw, rfl⟩ := List.mem_map.mp hq
      have := of_decide_eq_true e
      simp only [mkK, Sum.inr.injEq] at this
      exact h (this ▸ hw)
theorem keys_mk (ys : List Tx) : (ys.map mkK).map (fun q => keyPV q.1) = ys.map .str := by
  rw [List.map_map]; rfl
theorem look_mk (ys : List Tx) (y : Tx) : lookA (ys.map mkK) (.inr y) = if y ∈ ys then some (.bl true) else none := by
  induction ys with
  | nil => rfl
  | cons z zs ih =>
    unfold lookA at ih ⊢
    rw [List.map_cons, List.find?_cons]
    by_cases e : z = y
    · subst e; simp [mkK]
    · have e2 : ¬ y = z := fun q => e q.symm
      have : decide ((mkK z).1 = .inr y) = false := by simp [mkK, e]
      rw [this]
      simp only [List.mem_cons, e2, false_or]
      exact ih
end Lw
end
section
namespace Lw
open Fz
open PySem (sizeLine Addr)
open L2 (atI ixN)
/-! values that are changed, papers -/
section
variable {ns : List Int} {rs : List Rule} {start names us : List Tx} {field : Tx} {v p : PV}
def Jv (v : PV) : Prop := (∃ vs, v = .lst vs ∧ (∀ p ∈ vs, Mb p) ∧ vs.length ≤ 60) ∨ isT .list v = some (.bl false)
theorem both28 (hr : ∀ r ∈ rs, r.2.length ≤ 1000) (hs : start.length ≤ 1000) (h : Jv v) : ∃ b, (∀ field : Tx, True) ∧ g_is_closed [.lst (rs.map rl), .lst (start.map .str), .str field, v] = .ok (.fz (.bl b)) ∧ g__law_is_closed [.lst (rs.map rl), .lst (start.map .str), .str field, v] = .ok (.fz (.bl b)) := by
  rcases h with ⟨vs, rfl, h1, h2⟩ | h
  · exact ⟨_, fun _ => trivial, isclosed_ok hr hs h1 h2, lclosed_ok hr hs h1 h2⟩
  · exact ⟨false, fun _ => trivial, closed_no h, lclosed_no h⟩
theorem mb_str {t : Tx} (h : t.length ≤ 10000) : Mb (.str t) := ⟨rfl, fun _ e => by cases e; exact h⟩
theorem says_ok (a b : Bool) : g__law_says [.bl a, .bl b] = .ok (.fz (.bl (decide (a = b)))) := by
  refine runN _ _ _ _ rfl ?_
  have g : gEq (.bl a) (.bl b) = some (decide (a = b)) := by cases a <;> cases b <;> decide
  simp [b__law_says, slotsOf, slotOf, List.replicate, g]
@[simp] theorem w_hs : ¬ txt "hidden" = txt "shown" := by decide
theorem shid_ok {b : Bool} (h : g_is_closed [.lst (rs.map rl), .lst (start.map .str), .str field, v] = .ok (.fz (.bl b))) : g_shows [.lst (rs.map rl), .lst (start.map .str), .str field, .tup [.str (txt "hidden"), v]] = .ok (.fz (.bl b)) := by
  refine runN _ _ _ _ rfl ?_
  generalize start.map PV.str = SS at h ⊢
  generalize rs.map rl = RS at h ⊢
  simp [b_shows, slotsOf, slotOf, List.replicate, R_shows_1, h]
/-- papers that show nothing -/
def Np (rs : List Rule) (start : List Tx) (field : Tx) (p : PV) : Prop := g_shows [.lst (rs.map rl), .lst (start.map .str), .str field, p] = .ok (.fz (.bl false))
theorem np_kind (h : isT .tuple p = some (.bl false)) : Np rs start field p := by
  unfold Np
  refine runN _ _ _ _ rfl ?_
  generalize start.map PV.str = SS
  generalize rs.map rl = RS
  simp [b_shows, slotsOf, slotOf, List.replicate, h]
theorem np_len {q : PV} {qs : List PV} (h : qs.length ≠ 1) : Np rs start field (.tup (q :: qs)) := by
  unfold Np
  refine runN _ _ _ _ rfl ?_
  generalize start.map PV.str = SS
  generalize rs.map rl = RS
  simp [b_shows, slotsOf, slotOf, List.replicate, R_shows_1, h]
theorem np_nil : Np rs start field (.tup []) := by
  unfold Np
  refine runN _ _ _ _ rfl ?_
  generalize start.map PV.str = SS
  generalize rs.map rl = RS
  simp [b_shows, slotsOf, slotOf, List.replicate, R_shows_1]
theorem np_word {q x : PV} (h1 : gEq q (.str (txt "shown")) = some false) (h2 : gEq q (.str (txt "hidden")) = some false) : Np rs start field (.tup [q, x]) := by
  unfold Np
  refine runN _ _ _ _ rfl ?_
  generalize start.map PV.str = SS
  generalize rs.map rl = RS
  simp [b_shows, slotsOf, slotOf, List.replicate, R_shows_1, h1, h2]
theorem np_hid (h : isT .list v = some (.bl false)) : Np rs start field (.tup [.str (txt "hidden"), v]) := shid_ok (closed_no h)
theorem np_shown (hu : us.length ≤ 1000) : Np rs start field (.tup [.str (txt "shown"), .lst (us.map .str)]) := by
  have de : g_is_derivation [.lst (rs.map rl), .lst (start.map .str), .str field, .lst (us.map .str)] = .ok (.fz (.bl false)) := by
    refine runN _ _ _ _ rfl ?_
    generalize start.map PV.str = SS
    generalize rs.map rl = RS
    cases us with
    | nil =>
      have tr : truth (.lst (([] : List Tx).map .str)) = .ok false := rfl
      simp only [List.map_nil] at tr ⊢
      simp [b_is_derivation, slotsOf, slotOf, List.replicate, tr]
    | cons u us =>
      have tr : truth (.lst ((u :: us).map .str)) = .ok true := rfl
      have cc := oComp_map (l := lOfA (eVar .I 3)) (vs := [9]) (g := gNm 9) (t := tYesF) (el := eOfO (oCall g_is_entry (lCons (eVar .E 9) lNil))) (ρ := [.val (.lst RS), .bor (.lst SS), .bor (.str field), .val (.lst ((u :: us).map .str)), .u, .u, .u, .u, .u, .u]) PV.str (fun _ => .bl false) (u :: us) (by simp) (by simp) (fun x _ => by
        have : g_is_entry [.str x] = .ok (.fz (.bl false)) := runN _ _ _ _ rfl (by simp [b_is_entry, slotsOf, slotOf, List.replicate])
        simp [this]) (le_line (by simp at hu ⊢; omega))
      have ga : gAll (.lst ((u :: us).map fun _ => PV.bl false)) = some (.bl false) := by
        show (bools _).map _ = _
        rw [show (u :: us).map (fun _ => PV.bl false) = ((u :: us).map fun _ => false).map .bl by simp [List.map_map, Function.comp_def], bools_map]
        simp
      generalize (u :: us).map (fun _ => PV.bl false) = B at cc ga
      generalize (u :: us).map PV.str = US at cc tr ⊢
      simp [b_is_derivation, slotsOf, slotOf, List.replicate, tr, cc, ga]
  unfold Np
  refine runN _ _ _ _ rfl ?_
  generalize start.map PV.str = SS at de ⊢
  generalize rs.map rl = RS at de ⊢
  generalize us.map PV.str = US at de ⊢
  simp [b_shows, slotsOf, slotOf, List.replicate, R_shows_1, de]
theorem papers28 (hu : us.length ≤ 60) : ∃ ps, g__law_papers [.lst (us.map .str)] = .ok (.l ps) ∧ ∀ p ∈ ps, Np rs start field p := by
  let A : List PV := [.tup [.str (txt "Hidden"), .lst (us.map .str)], .tup [.str (txt "hidden")], .tup [.str (txt "hidden"), .lst (us.map .str), .lst (us.map .str)], .lst [.str (txt "hidden"), .lst (us.map .str)], .tup [.lst (us.map .str), .str (txt "hidden")], .tup [.str (txt "shown"), .lst (us.map .str)], .non]
  let B : List PV := [.tup [], .str (txt "hidden"), .lst (us.map .str), .tup [.str (txt "hidden"), .tup (us.map .str)], .tup [.str (txt ""), .lst (us.map .str)], .tup [.non, .lst (us.map .str)], .dic [], .int 0]
  refine ⟨A ++ B, runN _ _ _ _ rfl ?_, fun p hp => ?_⟩
  · have gt : gTuple (.lst (us.map .str)) = some (.fz (.tup (us.map .str))) := rfl
    have ga : gAdd (.lst A) (.lst B) = some (.l (A ++ B)) := gAdd_lst _ _ (le_line (by simp [A, B]))
    simp only [A, B] at ga ⊢
    generalize us.map PV.str = US at gt ga ⊢
    simp [b__law_papers, slotsOf, slotOf, List.replicate, gt, ga]
  · have sE : ∀ w t : Tx, w ≠ t → gEq (.str w) (.str t) = some false := fun w t h => by
      rw [gEq_of (okD.eqOk (okD_str w) (by omega)) (okD.eqOk (okD_str t) (by omega))]; simp [pvEq, h]
    have lE : ∀ t : Tx, gEq (.lst (us.map .str)) (.str t) = some false := fun t => by
      rw [gEq_of ((okD_strs us).eqOk (by omega)) (okD.eqOk (okD_str t) (by omega))]; simp [pvEq]
    simp only [A, B, List.mem_append, List.mem_cons, List.not_mem_nil, or_false] at hp
    rcases hp with (rfl | rfl | rfl | rfl | rfl | rfl | rfl) | (rfl | rfl | rfl | rfl | rfl | rfl | rfl | rfl)
    · exact np_word (sE _ _ (by decide)) (sE _ _ (by decide))
    · exact np_len (by simp)
    · exact np_len (by simp)
    · exact np_kind rfl
    · exact np_word (lE _) (lE _)
    · exact np_shown (by omega)
    · exact np_kind rfl
    · exact np_nil
    · exact np_kind rfl
    · exact np_kind rfl
    · exact np_hid rfl
    · exact np_word (sE _ _ (by decide)) (sE _ _ (by decide))
    · exact np_word (by decide) (by decide)
    · exact np_kind rfl
    · exact np_kind rfl
theorem jv_strs {vs : List PV} (h : ∀ p ∈ vs, Mb p) (hl : vs.length ≤ 60) : Jv (.lst vs) := .inl ⟨vs, rfl, h, hl⟩
theorem mb_strs (h : ∀ t ∈ us, t.length ≤ 10000) : ∀ p ∈ us.map PV.str, Mb p := fun p hp => by
  obtain ⟨t, ht, rfl⟩ := List.mem_map.mp hp
  exact mb_str (h t ht)
theorem addQ (xs ys : List PV) (h : xs.length + ys.length ≤ 100000) : gAdd (.lst xs) (.lst ys) = some (.l (xs ++ ys)) := gAdd_lst _ _ (le_line (by omega))
theorem changed28 (hu : us.length ≤ 30) (hus : ∀ t ∈ us, t.length ≤ 12) (hn : names.length ≤ 8) (n0 : names ≠ []) (hns : ∀ t ∈ names, t.length ≤ 12) (N : List PV) (v0 v1 : Int) (e0 : atI N 0 = some (.int v0)) (e1 : atI N 1 = some (.int v1)) : ∃ ps, g__law_changed [.lst (us.map .str), .lst (names.map .str), .lst N] = .ok (.l ps) ∧ ∀ p ∈ ps, Jv p := by
  obtain ⟨o, e, ps, rfl, hr⟩ : ∃ o, g__law_changed [.lst (us.map .str), .lst (names.map .str), .lst N] = .ok o ∧ ∃ ps, o = .l ps ∧ ∀ p ∈ ps, Jv p := by
    refine run_ok _ rfl ?_
    have nl : 0 < names.length := List.length_pos_iff.mpr n0
    have NL : ((names.map PV.str).length : Int) = (names.length : Int) := by simp
    have j0 := Int.emod_nonneg v0 (show (names.length : Int) ≠ 0 by omega)
    have j1 := Int.emod_lt_of_pos v0 (show (0 : Int) < names.length by omega)
    obtain ⟨j, hj⟩ : ∃ j : Nat, v0 % (names.length : Int) = j := ⟨_, (Int.toNat_of_nonneg j0).symm⟩
    have jl : j < names.length := by omega
    have gm : gMod (.int v0) (.int (names.length : Int)) = some (.int (j : Int)) := by rw [gMod_int _ _ (by omega), hj]
    have aj : atI (names.map PV.str) (j : Int) = some (.str names[j]) := by rw [atI_map, atI_nat, List.getElem?_eq_getElem jl]; rfl
    have nj := hns _ (List.getElem_mem jl)
    generalize names[j] = nm at aj nj
    have so := gSortA_strs (xs := us ++ [nm]) (by simp; omega)
    have gr : gRev (.lst (us.map .str)) (.int (-1)) = some (.l (us.map PV.str).reverse) := rfl
    have gt : gTuple (.lst (us.map .str)) = some (.fz (.tup (us.map .str))) := rfl
    have tg : gListA (.lst (names.map .str)) = some (.l (names.map .str)) := rfl
    have mU : ∀ p ∈ us.map PV.str, Mb p := mb_strs fun t ht => by have := hus t ht; omega
    have mN : ∀ p ∈ names.map PV.str, Mb p := mb_strs fun t ht => by have := hns t ht; omega
    have UL : (us.map PV.str).length = us.length := by simp
    have mk : ∀ xs ys : List PV, (∀ p ∈ xs, Mb p) → (∀ p ∈ ys, Mb p) → xs.length + ys.length ≤ 60 → Jv (.lst (xs ++ ys)) := fun xs ys h1 h2 h3 => jv_strs (fun p hp => (List.mem_append.mp hp).elim (h1 p) (h2 p)) (by simpa using h3)
    have m1 : ∀ p : PV, Mb p → ∀ q ∈ [p], Mb q := fun p h q hq => by rw [List.mem_singleton.mp hq]; exact h
    let S1 : List PV := us.map PV.str
    let A : List PV := [.lst [], .lst (names.map .str), .lst (us.map .str ++ [.str (txt "zzzzzzzzzzzz")]), .lst ((sortT txLe (us ++ [nm])).map .str), .lst (us.map PV.str).reverse, .tup (us.map .str)]
    have hA : ∀ p ∈ A, Jv p := fun p hp => by
      simp only [A, List.mem_cons, List.not_mem_nil, or_false] at hp
      rcases hp with rfl | rfl | rfl | rfl | rfl | rfl
      · exact jv_strs (fun _ h => nomatch h) (by simp)
      · exact jv_strs mN (by simp; omega)
      · exact mk _ _ mU (m1 _ (mb_str (by decide))) (by simp; omega)
      · refine jv_strs (mb_strs fun t ht => ?_) (by rw [List.length_map, len_sortT]; simp; omega)
        rcases List.mem_append.mp (mem_sortT.mp ht) with q | q
        · have := hus t q; omega
        · rw [List.mem_singleton.mp q]; omega
      · exact jv_strs (fun p hp => mU p (List.mem_reverse.mp hp)) (by simp; omega)
      · exact .inr rfl
    let B : List PV := [.non, .dic [], .str (txt ""), .int 0, .lst (us.map .str ++ [.non]), .lst (.str (txt "A") :: us.map .str), .lst (us.map .str ++ [.int 5]), .lst [.lst (us.map .str)], .lst [.str (txt "1")], .lst (.str (txt "0a") :: us.map .str), .lst (us.map .str ++ [.str (txt "zz zz")])]
    have mbN : Mb .non := ⟨rfl, fun _ e => by cases e⟩
    have mb5 : Mb (.int 5) := ⟨rfl, fun _ e => by cases e⟩
    have hB : ∀ p ∈ B, Jv p := fun p hp => by
      simp only [B, List.mem_cons, List.not_mem_nil, or_false] at hp
      rcases hp with rfl | rfl | rfl | rfl | rfl | rfl | rfl | rfl | rfl | rfl | rfl
      · exact .inr rfl
      · exact .inr rfl
      · exact .inr rfl
      · exact .inr rfl
      · exact mk _ _ mU (m1 _ mbN) (by simp; omega)
      · exact mk [_] _ (m1 _ (mb_str (by decide))) mU (by simp; omega)
      · exact mk _ _ mU (m1 _ mb5) (by simp; omega)
      · exact jv_strs (m1 _ ⟨rfl, fun _ e => by cases e⟩) (by simp)
      · exact jv_strs (m1 _ (mb_str (by decide))) (by simp)
      · exact mk [_] _ (m1 _ (mb_str (by decide))) mU (by simp; omega)
      · exact mk _ _ mU (m1 _ (mb_str (by decide))) (by simp; omega)
    have a1 := addQ (us.map .str) [.str (txt "zzzzzzzzzzzz")] (by simp; omega)
    have a2 : gAdd (.lst (us.map .str)) (.lst [.str nm]) = some (.l ((us ++ [nm]).map .str)) := by rw [addQ _ _ (by simp; omega)]; simp
    have a3 := addQ A B (by simp [A, B])
    have a4 := addQ (us.map .str) [.non] (by simp; omega)
    have a5 : gAdd (.lst [.str (txt "A")]) (.lst (us.map .str)) = some (.l (.str (txt "A") :: us.map .str)) := addQ [.str (txt "A")] (us.map .str) (by simp; omega)
    have a6 := addQ (us.map .str) [.int 5] (by simp; omega)
    have a7 : gAdd (.lst [.str (txt "0a")]) (.lst (us.map .str)) = some (.l (.str (txt "0a") :: us.map .str)) := addQ [.str (txt "0a")] (us.map .str) (by simp; omega)
    have a8 := addQ (us.map .str) [.str (txt "zz zz")] (by simp; omega)
    by_cases hz : us = []
    · have ue : us.map PV.str = [] := by rw [hz]; rfl
      have fin : ∃ ps, OT.l (A ++ B) = .l ps ∧ ∀ p ∈ ps, Jv p := ⟨_, rfl, fun p hp => (List.mem_append.mp hp).elim (hA p) (hB p)⟩
      simp only [A, B] at a3 fin
      clear hA hB mk mU UL
      clear_value A B S1
      generalize (sortT txLe (us ++ [nm])).map PV.str = SU at so a3 fin
      generalize (us ++ [nm]).map PV.str = UN at so a2
      generalize names.map PV.str = NN at tg aj NL a3 fin ⊢
      generalize us.map PV.str = US at *
      generalize US.reverse = UR at gr a3 fin
      generalize US ++ [PV.str (txt "zzzzzzzzzzzz")] = Y1 at *
      generalize US ++ [PV.non] = Y2 at *
      generalize PV.str (txt "A") :: US = Y3 at *
      generalize US ++ [PV.int 5] = Y4 at *
      generalize PV.str (txt "0a") :: US = Y5 at *
      generalize US ++ [PV.str (txt "zz zz")] = Y6 at *
      simp [b__law_changed, slotsOf, slotOf, List.replicate, tg, a1, e0, NL, gm, aj, a2, so, gr, gt, a4, a5, a6, a7, a8]
      rw [a3]
      simp [ue, R__law_changed_1]
      simpa [ue] using fin
    · have l0 : 0 < us.length := List.length_pos_iff.mpr hz
      have ne : ¬ us.map PV.str = [] := fun z => hz (List.map_eq_nil_iff.mp z)
      have k0 := Int.emod_nonneg v1 (show (us.length : Int) ≠ 0 by omega)
      have k1 := Int.emod_lt_of_pos v1 (show (0 : Int) < us.length by omega)
      obtain ⟨k, hk⟩ : ∃ k : Nat, v1 % (us.length : Int) = k := ⟨_, (Int.toNat_of_nonneg k0).symm⟩
      have kl : k < us.length := by omega
      have gk : gMod (.int v1) (.int (us.length : Int)) = some (.int (k : Int)) := by rw [gMod_int _ _ (by omega), hk]
      have ULi : ((us.map PV.str).length : Int) = (us.length : Int) := by simp
      have ak : atI (us.map PV.str) (k : Int) = some (.str us[k]) := by rw [atI_map, atI_nat, List.getElem?_eq_getElem kl]; rfl
      have uk := hus _ (List.getElem_mem kl)
      generalize us[k] = w at ak uk
      have s1 : gSl (.lst (us.map .str)) none (some (k : Int)) = some (.l ((us.map .str).take k)) := by rw [gSl_lst, cut_to]
      have s2 : gSl (.lst (us.map .str)) (some ((k : Int) + 1)) none = some (.l ((us.map .str).drop (k + 1))) := by rw [gSl_lst, show (k : Int) + 1 = ((k + 1 : Nat) : Int) by push_cast; rfl, cut_from]
      have s3 : gSl (.lst (us.map .str)) (some (k : Int)) none = some (.l ((us.map .str).drop k)) := by rw [gSl_lst, cut_from]
      have mT : ∀ p ∈ (us.map PV.str).take k, Mb p := fun p hp => mU p (List.mem_of_mem_take hp)
      have mD : ∀ i, ∀ p ∈ (us.map PV.str).drop i, Mb p := fun i p hp => mU p (List.mem_of_mem_drop hp)
      have lT : ((us.map PV.str).take k).length ≤ 30 := by rw [List.length_take]; omega
      have lD : ∀ i, ((us.map PV.str).drop i).length ≤ 30 := fun i => by rw [List.length_drop]; omega
      have l1 := lD (k + 1)
      have l2 := lD k
      have m2 := mD (k + 1)
      have m3 := mD k
      generalize (us.map PV.str).take k = T at s1 mT lT
      generalize (us.map PV.str).drop (k + 1) = D1 at s2 l1 m2
      generalize (us.map PV.str).drop k = D0 at s3 l2 m3
      have mk3 : ∀ (x : PV) (ys : List PV), Mb x → (∀ p ∈ ys, Mb p) → ys.length ≤ 29 → Jv (.lst (T ++ [x] ++ ys)) := fun x ys h1 h2 h3 => jv_strs (fun p hp => by
        rcases List.mem_append.mp hp with q | q
        · rcases List.mem_append.mp q with q | q
          · exact mT p q
          · rw [List.mem_singleton.mp q]; exact h1
        · exact h2 p q) (by simp; omega)
      have l1' : D1.length ≤ 29 ∧ T.length + D0.length ≤ 30 := by
        constructor
        · have := gSl_lst (x := us.map PV.str) (lo := some ((k : Int) + 1)) (hi := none)
          rw [s2] at this
          have e := OT.l.inj (Option.some.inj this)
          rw [e, show (k : Int) + 1 = ((k + 1 : Nat) : Int) by push_cast; rfl, cut_from, List.length_drop]; omega
        · have := gSl_lst (x := us.map PV.str) (lo := none) (hi := some (k : Int))
          rw [s1] at this
          have e := OT.l.inj (Option.some.inj this)
          have := gSl_lst (x := us.map PV.str) (lo := some (k : Int)) (hi := none)
          rw [s3] at this
          have e' := OT.l.inj (Option.some.inj this)
          rw [e, e', cut_to, cut_from, List.length_take, List.length_drop]; omega
      let C1 : List PV := [.lst (T ++ D1), .lst (T ++ [.str w] ++ D0), .lst (T ++ [.non] ++ D1)]
      let C2 : List PV := [.lst (T ++ [.tup [.str w]] ++ D1), .lst (T ++ [.str (txt "")] ++ D1)]
      have hC : ∀ p ∈ C1 ++ C2, Jv p := fun p hp => by
        simp only [C1, C2, List.cons_append, List.nil_append, List.mem_cons, List.not_mem_nil, or_false] at hp
        rcases hp with rfl | rfl | rfl | rfl | rfl
        · exact mk _ _ mT m2 (by omega)
        · refine jv_strs (fun p hp => ?_) (by simp; omega)
          rcases List.mem_append.mp hp with q | q
          · rcases List.mem_append.mp q with q | q
            · exact mT p q
            · rw [List.mem_singleton.mp q]; exact mb_str (by omega)
          · exact m3 p q
        · exact mk3 _ _ mbN m2 l1'.1
        · exact mk3 _ _ ⟨rfl, fun _ e => by cases e⟩ m2 l1'.1
        · exact mk3 _ _ (mb_str (by decide)) m2 l1'.1
      have fin : ∃ ps, OT.l (A ++ B ++ C1 ++ C2) = .l ps ∧ ∀ p ∈ ps, Jv p := ⟨_, rfl, fun p hp => by
        rw [List.append_assoc, List.mem_append] at hp
        rcases hp with q | q
        · exact (List.mem_append.mp q).elim (hA p) (hB p)
        · exact hC p q⟩
      have b1 := addQ T D1 (by omega)
      have b2 := addQ T [.str w] (by simp; omega)
      have b3 := addQ (T ++ [.str w]) D0 (by simp; omega)
      have b4 := addQ T [.non] (by simp; omega)
      have b5 := addQ (T ++ [.non]) D1 (by simp; omega)
      have b6 := addQ T [.tup [.str w]] (by simp; omega)
      have b7 := addQ (T ++ [.tup [.str w]]) D1 (by simp; omega)
      have b8 := addQ T [.str (txt "")] (by simp; omega)
      have b9 := addQ (T ++ [.str (txt "")]) D1 (by simp; omega)
      have b10 := addQ (A ++ B) C1 (by simp [A, B, C1])
      have b11 := addQ (A ++ B ++ C1) C2 (by simp [A, B, C1, C2])
      simp only [A, B, C1, C2] at a3 b10 b11 fin
      generalize T ++ [PV.str w] ++ D0 = X1 at *
      generalize T ++ [PV.str w] = X2 at *
      generalize T ++ [PV.non] ++ D1 = X3 at *
      generalize T ++ [PV.non] = X4 at *
      generalize T ++ [PV.tup [PV.str w]] ++ D1 = X5 at *
      generalize T ++ [PV.tup [PV.str w]] = X6 at *
      generalize T ++ [PV.str (txt "")] ++ D1 = X7 at *
      generalize T ++ [PV.str (txt "")] = X8 at *
      generalize T ++ D1 = X9 at *
      generalize (sortT txLe (us ++ [nm])).map PV.str = SU at so a3 b10 b11 fin
      generalize (us ++ [nm]).map PV.str = UN at so a2
      generalize names.map PV.str = NN at tg aj NL a3 b10 b11 fin ⊢
      clear hA hB hC mk3 mT mD mU mk UL l1 l1' lD lT
      clear_value A B C1 C2 S1
      generalize us.map PV.str = US at *
      generalize US.reverse = UR at gr a3 b10 b11 fin
      generalize US ++ [PV.str (txt "zzzzzzzzzzzz")] = Y1 at *
      generalize US ++ [PV.non] = Y2 at *
      generalize PV.str (txt "A") :: US = Y3 at *
      generalize US ++ [PV.int 5] = Y4 at *
      generalize PV.str (txt "0a") :: US = Y5 at *
      generalize US ++ [PV.str (txt "zz zz")] = Y6 at *
      simp [b__law_changed, slotsOf, slotOf, List.replicate, tg, a1, e0, NL, gm, aj, a2, so, gr, gt, a4, a5, a6, a7, a8]
      rw [a3]
      simp only [List.cons_append, List.nil_append] at b10 b11
      simp [ne, e1, ULi, gk, s1, s2, s3, ak, b1, b2, b3, b4, b5]
      rw [b10]
      simp [ne, e1, ULi, gk, s1, s2, s3, ak, b6, b7, b8, b9]
      rw [b11]
      simpa [R__law_changed_1] using fin
  exact ⟨ps, e, hr⟩
end
end Lw
end
section
namespace Lw
open Fz
open PySem (sizeLine Addr)
open L2 (atI ixN)
/-! the law k28 -/
section
variable {ns : List Int} {rs : List Rule} {start names us bs : List Tx} {field : Tx}
def cfE (rs : List Rule) (bs ls : List Tx) (x3 x4 x5 : Fz.Slot) : Fz.Env := [.val (.lst (rs.map rl)), .val (.lst (bs.map .str)), .own (.l (ls.map .str)), x3, x4, x5, .u]
def cfI (rs : List Rule) (bs names : List Tx) (ρ : Fz.Env) : Prop := ∃ ex x3 x4 x5, ρ = cfE rs bs (bs ++ ex) x3 x4 x5 ∧ ex.Nodup ∧ ∀ t ∈ ex, t ∈ names
theorem cfrom_ok (hr : ∀ r ∈ rs, RuleOk names r) (rl12 : rs.length ≤ 1000) (hb : ∀ t ∈ bs, t ∈ names) (hbl : bs.length ≤ 20) (hn : names.length ≤ 8) : ∃ us : List Tx, g__law_closed_from [.lst (rs.map rl), .lst (bs.map .str)] = .ok (.l (us.map .str)) ∧ (∀ t ∈ us, t ∈ names) ∧ us.length ≤ 28 := by
  obtain ⟨o, e, us, rfl, h⟩ : ∃ o, g__law_closed_from [.lst (rs.map rl), .lst (bs.map .str)] = .ok o ∧ ∃ us : List Tx, o = .l (us.map .str) ∧ (∀ t ∈ us, t ∈ names) ∧ us.length ≤ 28 := by
    refine run_ok _ rfl ?_
    have rr : rngR 0 (rs.length : Int) = .ok (rangeL 0 rs.length) := rng_ok (by omega) (by omega) (by omega) (by omega)
    have RL : ((rs.map rl).length : Int) = (rs.length : Int) := by simp
    have tg : gListA (.lst (bs.map .str)) = some (.l (bs.map .str)) := rfl
    have core : sat (loop (gNm 3) L__law_closed_from_2 (rangeL 0 rs.length) (cfE rs bs bs .u .u .u)) { nx := fun ρ => sat (R__law_closed_from_3 ρ) (poR fun o => ∃ us : List Tx, o = .l (us.map .str) ∧ (∀ t ∈ us, t ∈ names) ∧ us.length ≤ 28), ct := fun _ => False, bk := fun _ => False, rt := fun _ => False, ex := fun _ _ _ => False } := by
      refine sat_range (fun _ ρ => cfI rs bs names ρ) ⟨[], _, _, _, by rw [List.append_nil], List.nodup_nil, fun _ h => nomatch h⟩ ?_ ?_
      · rintro k _ hk ⟨ex, x3, x4, x5, rfl, nd, me⟩
        rw [stp_of (ρ1 := cfE rs bs (bs ++ ex) (.val (.int (0 + (k : Int)))) x4 x5) (by simp [cfE])]
        generalize Slot.val (.int (0 + (k : Int))) = y3
        have inner : sat (loop (gTp 2 (gsCons (gNm 4) (gsCons (gNm 5) gsNil))) L__law_closed_from_1 (rs.map rl) (cfE rs bs (bs ++ ex) y3 x4 x5)) { nx := fun ρ => cfI rs bs names ρ, ct := fun _ => False, bk := fun _ => False, rt := fun _ => False, ex := fun _ _ _ => False } := by
          refine sat_for (fun _ ρ => cfI rs bs names ρ) ⟨ex, _, _, _, rfl, nd, me⟩ ?_ fun _ h => h
          rintro i p _ hi ⟨ex, x3, x4, x5, rfl, nd, me⟩
          obtain ⟨r, hm, rfl⟩ := List.mem_map.mp (List.mem_of_getElem? hi)
          have ro := hr r hm
          rw [stp_of (ρ1 := cfE rs bs (bs ++ ex) x3 (.val (.str r.1)) (.val (.tup (r.2.map .str)))) (by simp [rl, cfE])]
          have exl := nodup_le nd me
          have a1 := oComp_filter (l := lOfA (eVar .I 5)) (vs := [6]) (g := gNm 6) (t := tCmp gNotIn (eVar .B 6) (eVar .B 2)) (el := eVar .E 6) (ρ := cfE rs bs (bs ++ ex) x3 (.val (.str r.1)) (.val (.tup (r.2.map .str)))) PV.str PV.str (fun s => !decide (s ∈ bs ++ ex)) r.2 (by simp [cfE]) (by simp [cfE]) (fun s _ => by
            have g := gNotIn_strs s (bs ++ ex)
            simp only [cfE]
            generalize (bs ++ ex).map PV.str = LS at g ⊢
            by_cases q : s ∈ bs ++ ex
            · rw [decide_eq_true q] at g ⊢; simp [g]
            · rw [decide_eq_false q] at g ⊢; simp [g]) (le_line (by have := ro.sub.few; omega))
          have g1 := gNotIn_strs r.1 (bs ++ ex)
          have stay : cfI rs bs names (cfE rs bs (bs ++ ex) x3 (.val (.str r.1)) (.val (.tup (r.2.map .str)))) := ⟨ex, _, _, _, rfl, nd, me⟩
          have more : r.1 ∉ bs ++ ex → cfI rs bs names (cfE rs bs (bs ++ ex ++ [r.1]) x3 (.val (.str r.1)) (.val (.tup (r.2.map .str)))) := fun q => ⟨ex ++ [r.1], _, _, _, by rw [List.append_assoc], by
            rw [List.nodup_append]
            exact ⟨nd, by simp, fun a ha b hb z => by rw [List.mem_singleton.mp hb] at z; subst z; exact q (List.mem_append.mpr (.inr ha))⟩, fun t ht => (List.mem_append.mp ht).elim (me t) fun q => by rw [List.mem_singleton.mp q]; exact ro.fld⟩
          have sz : ((bs ++ ex).map PV.str).length < sizeLine := lt_line (by simp; omega)
          have em : (bs ++ ex ++ [r.1]).map PV.str = (bs ++ ex).map PV.str ++ [.str r.1] := by simp
          simp only [cfE, em] at a1 stay more ⊢
          generalize hI : cfI rs bs names = I at *
          generalize (r.2.filter fun s => !decide (s ∈ bs ++ ex)).map PV.str = X at a1
          generalize (bs ++ ex).map PV.str = LS at a1 g1 stay more sz ⊢
          by_cases q : r.1 ∈ bs ++ ex
          · rw [decide_eq_true q] at g1
            simp [L__law_closed_from_1, g1]
            exact stay
          · rw [decide_eq_false q] at g1
            by_cases qx : X = []
            · simp [L__law_closed_from_1, g1, a1, qx, sz]
              exact more q
            · simp [L__law_closed_from_1, g1, a1, qx]
              exact stay
        simp only [cfE] at inner ⊢
        generalize rs.map rl = RS at inner ⊢
        generalize (bs ++ ex).map PV.str = LS at inner ⊢
        simp [L__law_closed_from_2]
        exact inner.mono (fun _ q => q) (fun _ q => q.elim) (fun _ q => q.elim) (fun _ q => q.elim) fun _ _ _ q => q.elim
      · rintro _ ⟨ex, x3, x4, x5, rfl, nd, me⟩
        have exl := nodup_le nd me
        have so := gSortA_strs (xs := bs ++ ex) (by simp; omega)
        have fin : ∃ us : List Tx, OT.l ((sortT txLe (bs ++ ex)).map .str) = .l (us.map .str) ∧ (∀ t ∈ us, t ∈ names) ∧ us.length ≤ 28 := ⟨_, rfl, fun t ht => (List.mem_append.mp (mem_sortT.mp ht)).elim (hb t) (me t), by rw [len_sortT]; simp; omega⟩
        simp only [cfE]
        generalize (sortT txLe (bs ++ ex)).map PV.str = SU at so fin
        generalize (bs ++ ex).map PV.str = LS at so ⊢
        simp [R__law_closed_from_3, so]
        simpa using fin
    simp only [cfE] at core
    generalize rs.map rl = RS at RL core ⊢
    generalize bs.map PV.str = BS at tg core ⊢
    simp [b__law_closed_from, slotsOf, slotOf, List.replicate, tg, RL, rr]
    exact core.mono (fun _ q => q) (fun _ q => q.elim) (fun _ q => q.elim) (fun _ q => q.elim) fun _ _ _ q => q.elim
  exact ⟨us, e, h⟩
def e28 (ns : List Int) (names : List Tx) (rs : List Rule) (start : List Tx) (N : List PV) (x5 x6 x7 x8 x9 x10 x11 x12 x13 : Fz.Slot) : Fz.Env := [.val (.rol (ns.map .int)), .val (.lst (names.map .str)), .val (.lst (rs.map rl)), .val (.lst (start.map .str)), .own (.l N), x5, x6, x7, x8, x9, x10, x11, x12, x13, .u]
theorem L2_28 (hr : ∀ r ∈ rs, r.2.length ≤ 1000) (hs : start.length ≤ 1000) (hu : us.length ≤ 28) (hus : ∀ t ∈ us, t.length ≤ 12) (N : List PV) (x5 x6 s7 x8 x10 x11 x12 x13 : Fz.Slot) (h7 : s7 = .own (.l (us.map .str)) ∨ s7 = .val (.lst (us.map .str))) (P : Po)
    (hP : ∀ x10 x11, P.nx (e28 ns names rs start N x5 x6 (.val (.lst (us.map .str))) x8 (.val (.str field)) x10 x11 x12 x13)) :
    sat (L_law_2 (e28 ns names rs start N x5 x6 s7 x8 (.val (.str field)) x10 x11 x12 x13)) P := by
  obtain ⟨b, _, e1, e2⟩ := both28 (field := field) hr hs (v := .lst (us.map .str)) (jv_strs (mb_strs fun t ht => by have := hus t ht; omega) (by simp; omega))
  have sh := shid_ok e1
  have sy := says_ok b b
  simp only [decide_true] at sy
  have tg : gListA (.lst (us.map .str)) = some (.l (us.map .str)) := rfl
  have tr : gListA (.lst (rs.map rl)) = some (.l (rs.map rl)) := rfl
  have ts : gListA (.lst (start.map .str)) = some (.l (start.map .str)) := rfl
  have gn := gNe_strs2 us us
  simp only [decide_true, Bool.not_true] at gn
  have fin := hP (.val (.bl b)) (.val (.lst (us.map .str)))
  simp only [e28] at fin ⊢
  generalize us.map PV.str = US at *
  generalize rs.map rl = RS at *
  generalize start.map PV.str = SS at *
  rcases h7 with rfl | rfl
  all_goals
    simp [L_law_2, e2, tg, tr, ts, e1, sy, gn, R_law_1, sh]
    exact fin
theorem L4_28 (hr : ∀ r ∈ rs, r.2.length ≤ 1000) (hs : start.length ≤ 1000) {v : PV} (hv : Jv v) (N : List PV) (x5 x6 x7 x8 x10 x11 x13 : Fz.Slot) (P : Po)
    (hP : ∀ x10, P.nx (e28 ns names rs start N x5 x6 x7 x8 (.val (.str field)) x10 x11 (.val v) x13)) :
    sat (L_law_4 (e28 ns names rs start N x5 x6 x7 x8 (.val (.str field)) x10 x11 (.val v) x13)) P := by
  obtain ⟨b, _, e1, e2⟩ := both28 (field := field) hr hs hv
  have sh := shid_ok e1
  have sy := says_ok b b
  simp only [decide_true] at sy
  have fin := hP (.val (.bl b))
  simp only [e28] at fin ⊢
  generalize rs.map rl = RS at *
  generalize start.map PV.str = SS at *
  simp [L_law_4, e2, e1, sy, R_law_3, sh]
  exact fin
theorem L5_28 {p : PV} (hp : Np rs start field p) (N : List PV) (x5 x6 x7 x8 x10 x11 x12 : Fz.Slot) (P : Po)
    (hP : P.nx (e28 ns names rs start N x5 x6 x7 x8 (.val (.str field)) x10 x11 x12 (.val p))) :
    sat (L_law_5 (e28 ns names rs start N x5 x6 x7 x8 (.val (.str field)) x10 x11 x12 (.val p))) P := by
  unfold Np at hp
  have sy := says_ok false false
  simp only [decide_true] at sy
  simp only [e28] at hP ⊢
  generalize rs.map rl = RS at *
  generalize start.map PV.str = SS at *
  simp [L_law_5, hp, sy]
  exact hP
theorem R7_28 (hr : ∀ r ∈ rs, r.2.length ≤ 1000) (hs : start.length ≤ 1000) (hu : us.length ≤ 28) (hus : ∀ t ∈ us, t.length ≤ 12) (hn : names.length ≤ 8) (n0 : names ≠ []) (hns : ∀ t ∈ names, t.length ≤ 12) (n : List Int) (nl : n.length = 12) {k : Nat} (hk : k < 3) (fs : List Tx) (f0 : fs ≠ []) (x6 s7 x9 x10 x11 x12 x13 : Fz.Slot) (h7 : s7 = .own (.l (us.map .str)) ∨ s7 = .val (.lst (us.map .str))) (P : Po)
    (hP : ∀ x7 x9 x10 x12 x13, P.nx (e28 ns names rs start (n.map .int) (.val (.int (k : Int))) x6 x7 (.own (.l (fs.map .str))) x9 x10 x11 x12 x13)) :
    sat (R_law_7 (e28 ns names rs start (n.map .int) (.val (.int (k : Int))) x6 s7 (.own (.l (fs.map .str))) x9 x10 x11 x12 x13)) P := by
  have fl : 0 < fs.length := List.length_pos_iff.mpr f0
  have FL : ((fs.map PV.str).length : Int) = (fs.length : Int) := by simp
  have e9 : atI (n.map PV.int) 9 = some (.int (n.getD 9 0)) := by rw [show (9 : Int) = ((9 : Nat) : Int) from rfl, atI_map, atI_nat, List.getD_eq_getElem?_getD, List.getElem?_eq_getElem (by omega)]; rfl
  generalize n.getD 9 0 = v9 at e9
  have k0 := Int.emod_nonneg v9 (show (fs.length : Int) ≠ 0 by omega)
  have k1 := Int.emod_lt_of_pos v9 (show (0 : Int) < fs.length by omega)
  obtain ⟨j, hj⟩ : ∃ j : Nat, v9 % (fs.length : Int) = j := ⟨_, (Int.toNat_of_nonneg k0).symm⟩
  have jl : j < fs.length := by omega
  have gm : gMod (.int v9) (.int (fs.length : Int)) = some (.int (j : Int)) := by rw [gMod_int _ _ (by omega), hj]
  have aj : atI (fs.map PV.str) (j : Int) = some (.str fs[j]) := by rw [atI_map, atI_nat, List.getElem?_eq_getElem jl]; rfl
  generalize fs[j] = field at aj
  have sl : gSl (.lst (n.map .int)) (some (k : Int)) none = some (.l ((n.drop k).map .int)) := by rw [gSl_lst, cut_map, cut_from]
  have m0 : atI ((n.drop k).map PV.int) 0 = some (.int ((n.drop k).getD 0 0)) := by rw [show (0 : Int) = ((0 : Nat) : Int) from rfl, atI_map, atI_nat, List.getD_eq_getElem?_getD, List.getElem?_eq_getElem (by rw [List.length_drop]; omega)]; rfl
  have m1 : atI ((n.drop k).map PV.int) 1 = some (.int ((n.drop k).getD 1 0)) := by rw [show (1 : Int) = ((1 : Nat) : Int) from rfl, atI_map, atI_nat, List.getD_eq_getElem?_getD, List.getElem?_eq_getElem (by rw [List.length_drop]; omega)]; rfl
  obtain ⟨cs, ec, hc⟩ := changed28 (us := us) (names := names) (by omega) hus hn n0 hns ((n.drop k).map .int) _ _ m0 m1
  obtain ⟨ps, ep, hp⟩ := papers28 (rs := rs) (start := start) (field := field) (us := us) (by omega)
  generalize hN : n.map PV.int = N at *
  generalize hND : (n.drop k).map PV.int = ND at *
  have c2 : ∀ x10 x12 x13, sat (R_law_6 (e28 ns names rs start N (.val (.int (k : Int))) x6 (.val (.lst (us.map .str))) (.own (.l (fs.map .str))) (.val (.str field)) x10 x11 x12 x13)) { nx := P.nx, ct := fun _ => False, bk := fun _ => False, rt := fun _ => False, ex := fun _ _ _ => False } := fun x10 x12 x13 => by
    have core : sat (loop (gNm 13) L_law_5 ps (e28 ns names rs start N (.val (.int (k : Int))) x6 (.val (.lst (us.map .str))) (.own (.l (fs.map .str))) (.val (.str field)) x10 x11 x12 x13)) { nx := P.nx, ct := fun _ => False, bk := fun _ => False, rt := fun _ => False, ex := fun _ _ _ => False } := by
      refine sat_for (fun _ ρ => ∃ x13, ρ = e28 ns names rs start N (.val (.int (k : Int))) x6 (.val (.lst (us.map .str))) (.own (.l (fs.map .str))) (.val (.str field)) x10 x11 x12 x13) ⟨_, rfl⟩ ?_ ?_
      · rintro i p _ hi ⟨x13, rfl⟩
        rw [stp_of (ρ1 := e28 ns names rs start N (.val (.int (k : Int))) x6 (.val (.lst (us.map .str))) (.own (.l (fs.map .str))) (.val (.str field)) x10 x11 x12 (.val p)) (by simp [e28])]
        exact L5_28 (hp p (List.mem_of_getElem? hi)) _ _ _ _ _ _ _ _ _ ⟨_, rfl⟩
      · rintro _ ⟨x13, rfl⟩
        exact hP _ _ _ _ _
    simp only [e28] at core ⊢
    generalize us.map PV.str = US at ep core ⊢
    simp [R_law_6, ep]
    exact core.mono (fun _ q => q) (fun _ q => q.elim) (fun _ q => q.elim) (fun _ q => q.elim) fun _ _ _ q => q.elim
  have c1 : sat (loop (gNm 12) L_law_4 cs (e28 ns names rs start N (.val (.int (k : Int))) x6 (.val (.lst (us.map .str))) (.own (.l (fs.map .str))) (.val (.str field)) x10 x11 x12 x13)) { nx := fun ρ => sat (R_law_6 ρ) { nx := P.nx, ct := fun _ => False, bk := fun _ => False, rt := fun _ => False, ex := fun _ _ _ => False }, ct := fun _ => False, bk := fun _ => False, rt := fun _ => False, ex := fun _ _ _ => False } := by
    refine sat_for (fun _ ρ => ∃ x10 x12, ρ = e28 ns names rs start N (.val (.int (k : Int))) x6 (.val (.lst (us.map .str))) (.own (.l (fs.map .str))) (.val (.str field)) x10 x11 x12 x13) ⟨_, _, rfl⟩ ?_ ?_
    · rintro i p _ hi ⟨x10, x12, rfl⟩
      rw [stp_of (ρ1 := e28 ns names rs start N (.val (.int (k : Int))) x6 (.val (.lst (us.map .str))) (.own (.l (fs.map .str))) (.val (.str field)) x10 x11 (.val p) x13) (by simp [e28])]
      exact L4_28 hr hs (hc p (List.mem_of_getElem? hi)) _ _ _ _ _ _ _ _ _ fun x10 => ⟨_, _, rfl⟩
    · rintro _ ⟨x10, x12, rfl⟩
      exact c2 _ _ _
  simp only [e28] at c1 ⊢
  clear c2 hP
  generalize fs.map PV.str = FS at FL aj c1 ⊢
  generalize us.map PV.str = US at ec c1 h7 ⊢
  generalize names.map PV.str = NN at ec c1 ⊢
  rcases h7 with rfl | rfl
  all_goals
    simp [R_law_7, e9, FL, gm, aj, sl, ec]
    exact c1.mono (fun _ q => q.mono (fun _ q => q) (fun _ q => q.elim) (fun _ q => q.elim) (fun _ q => q.elim) fun _ _ _ q => q.elim) (fun _ q => q.elim) (fun _ q => q.elim) (fun _ q => q.elim) fun _ _ _ q => q.elim
theorem L8_28 (hr : ∀ r ∈ rs, RuleOk names r) (hrl : rs.length ≤ 12) (hst : Sub names start) (hn : Nms names) (hn8 : names.length ≤ 8) (n0 : names ≠ []) (n : List Int) (nl : n.length = 12) {k : Nat} (hk : k < 3) (x6 x7 x8 x9 x10 x11 x12 x13 : Fz.Slot) (P : Po)
    (hP : ∀ x6 x7 x8 x9 x10 x11 x12 x13, P.nx (e28 ns names rs start (n.map .int) (.val (.int (k : Int))) x6 x7 x8 x9 x10 x11 x12 x13)) :
    sat (L_law_8 (e28 ns names rs start (n.map .int) (.val (.int (k : Int))) x6 x7 x8 x9 x10 x11 x12 x13)) P := by
  have hns : ∀ t ∈ names, t.length ≤ 12 := fun t ht => (hn.good t ht).1
  have hr1 : ∀ r ∈ rs, r.2.length ≤ 1000 := fun r hm => by have := (hr r hm).sub.few; omega
  have sl8 : start.length ≤ 8 := Nat.le_trans (nodup_le hst.nd hst.mem) hn8
  let c : Tx → Bool := fun t => decide (n.getD (k + names.idxOf t % 9) 0 % 4 < (k : Int)) && !decide (t ∈ start)
  have cc := oComp_filter (l := lOfA (eVar .I 1)) (vs := [14]) (g := gNm 14) (t := tAndF (tCmp gLt (eBin gMod (eIx (eVar .B 4) (eOfO (oBin gAdd (eVar .I 5) (eBin gMod (eM1 .list gIndex (eVar .B 1) (eVar .B 14)) (eC (.int 9)))))) (eC (.int 4))) (eVar .B 5)) (tCmp gNotIn (eVar .B 14) (eVar .B 3))) (el := eVar .E 14) (ρ := e28 ns names rs start (n.map .int) (.val (.int (k : Int))) x6 x7 x8 x9 x10 x11 x12 x13) PV.str PV.str c names (by simp [e28]) (by simp [e28]) (fun t ht => by
    have gi := gIndex_strs ht
    have il : names.idxOf t < names.length := List.idxOf_lt_length_of_mem ht
    have g9 : gMod (.int (names.idxOf t : Int)) (.int 9) = some (.int ((names.idxOf t % 9 : Nat) : Int)) := by rw [gMod_int _ _ (by omega)]; rfl
    have an : atI (n.map PV.int) ((k : Int) + ((names.idxOf t % 9 : Nat) : Int)) = some (.int (n.getD (k + names.idxOf t % 9) 0)) := by
      rw [show (k : Int) + ((names.idxOf t % 9 : Nat) : Int) = ((k + names.idxOf t % 9 : Nat) : Int) by push_cast; rfl, atI_map, atI_nat, List.getD_eq_getElem?_getD, List.getElem?_eq_getElem (by omega)]; rfl
    have g4 : gMod (.int (n.getD (k + names.idxOf t % 9) 0)) (.int 4) = some (.int (n.getD (k + names.idxOf t % 9) 0 % 4)) := gMod_int _ _ (by omega)
    have gs := gNotIn_strs t start
    have ec : c t = (decide (n.getD (k + names.idxOf t % 9) 0 % 4 < (k : Int)) && !decide (t ∈ start)) := rfl
    rw [ec]
    simp only [e28]
    generalize n.getD (k + names.idxOf t % 9) 0 = vv at an g4 ⊢
    generalize vv % 4 = v4 at g4 ⊢
    generalize ((names.idxOf t % 9 : Nat) : Int) = i9 at g9 an
    generalize (names.idxOf t : Int) = ii at gi g9
    generalize decide (t ∈ start) = B at gs ⊢
    generalize n.map PV.int = N at an ⊢
    generalize names.map PV.str = NN at gi ⊢
    generalize start.map PV.str = SS at gs ⊢
    by_cases q : v4 < (k : Int)
    · cases B <;> simp [gi, Tm.is, g9, an, g4, q, gs]
    · cases B <;> simp [gi, Tm.is, g9, an, g4, q, gs]) (le_line (by omega))
  generalize hM : names.filter c = more at cc
  have ml : more.length ≤ 8 := by rw [← hM]; exact Nat.le_trans (List.length_filter_le _ _) hn8
  have mm : ∀ t ∈ more, t ∈ names := fun t ht => by rw [← hM] at ht; exact (List.mem_filter.mp ht).1
  have ga : gAdd (.lst (start.map .str)) (.lst (more.map .str)) = some (.l ((start ++ more).map .str)) := by rw [addQ _ _ (by simp; omega)]; simp
  obtain ⟨us, ec, hu, ul⟩ := cfrom_ok (bs := start ++ more) hr (by omega) (fun t ht => (List.mem_append.mp ht).elim (hst.mem t) (mm t)) (by simp; omega) hn8
  have hus : ∀ t ∈ us, t.length ≤ 12 := fun t ht => hns t (hu t ht)
  have cf := oComp_filter (l := lOfA (eVar .I 1)) (vs := [14]) (g := gNm 14) (t := tCmp gNotIn (eVar .B 14) (eVar .B 7)) (el := eVar .E 14) (ρ := e28 ns names rs start (n.map .int) (.val (.int (k : Int))) (.own (.l (more.map .str))) (.own (.l (us.map .str))) x8 x9 x10 x11 x12 x13) PV.str PV.str (fun t => !decide (t ∈ us)) names (by simp [e28]) (by simp [e28]) (fun t ht => by
    by_cases q : t ∈ us <;> simp [e28, q]) (le_line (by omega))
  have zl : (txt "zzzzzzzzzzzz").length ≤ 12 := by decide
  have al : (txt "a0").length ≤ 12 := by decide
  let fs : List Tx := (names.filter fun t => !decide (t ∈ us)) ++ [txt "zzzzzzzzzzzz", txt "a0"]
  have ff : ((names.filter fun t => !decide (t ∈ us)).length) ≤ 8 := Nat.le_trans (List.length_filter_le _ _) hn8
  have gf : gAdd (.lst ((names.filter fun t => !decide (t ∈ us)).map .str)) (.lst [.str (txt "zzzzzzzzzzzz"), .str (txt "a0")]) = some (.l (fs.map .str)) := by rw [addQ _ _ (by simp; omega)]; simp [fs]
  have fsl : fs.length ≤ 10 := by simp [fs]; omega
  have fs0 : fs ≠ [] := by simp [fs]
  have s2 : gSl (.lst (us.map .str)) none (some 2) = some (.l ((us.take 2).map .str)) := by rw [gSl_lst, cut_map, show (2 : Int) = ((2 : Nat) : Int) from rfl, cut_to]
  have g2 : gAdd (.lst (fs.map .str)) (.lst ((us.take 2).map .str)) = some (.l ((fs ++ us.take 2).map .str)) := by rw [addQ _ _ (by simp; omega)]; simp
  have core : sat (loop (gNm 9) L_law_2 ((fs ++ us.take 2).map .str) (e28 ns names rs start (n.map .int) (.val (.int (k : Int))) (.own (.l (more.map .str))) (.own (.l (us.map .str))) (.own (.l (fs.map .str))) x9 x10 x11 x12 x13)) { nx := fun ρ => sat (R_law_7 ρ) { nx := P.nx, ct := fun _ => False, bk := fun _ => False, rt := fun _ => False, ex := fun _ _ _ => False }, ct := fun _ => False, bk := fun _ => False, rt := fun _ => False, ex := fun _ _ _ => False } := by
    refine sat_list (fun _ ρ => ∃ s7 x9 x10 x11, ρ = e28 ns names rs start (n.map .int) (.val (.int (k : Int))) (.own (.l (more.map .str))) s7 (.own (.l (fs.map .str))) x9 x10 x11 x12 x13 ∧ (s7 = .own (.l (us.map .str)) ∨ s7 = .val (.lst (us.map .str)))) ⟨_, _, _, _, rfl, .inl rfl⟩ ?_ ?_
    · rintro d f r _ hd ⟨s7, x9, x10, x11, rfl, h7⟩
      rw [stp_of (ρ1 := e28 ns names rs start (n.map .int) (.val (.int (k : Int))) (.own (.l (more.map .str))) s7 (.own (.l (fs.map .str))) (.val (.str f)) x10 x11 x12 x13) (by simp [e28])]
      exact L2_28 hr1 (by omega) ul hus _ _ _ _ _ _ _ _ _ h7 _ fun x10 x11 => ⟨_, _, _, _, rfl, .inr rfl⟩
    · rintro _ ⟨s7, x9, x10, x11, rfl, h7⟩
      exact R7_28 hr1 (by omega) ul hus hn8 n0 hns n nl hk fs fs0 _ _ _ _ _ _ _ h7 _ fun x7 x9 x10 x12 x13 => hP _ _ _ _ _ _ _ _
  simp only [e28] at cc cf core ⊢
  clear hP
  generalize (fs ++ us.take 2).map PV.str = F2 at g2 core
  generalize fs.map PV.str = FS at gf g2 core
  generalize (us.take 2).map PV.str = U2 at s2 g2
  generalize (names.filter fun t => !decide (t ∈ us)).map PV.str = NF at cf gf
  generalize us.map PV.str = US at ec cf s2 core
  generalize (start ++ more).map PV.str = SM at ga ec
  generalize more.map PV.str = MM at cc ga cf core
  generalize n.map PV.int = N at cc cf core ⊢
  generalize names.map PV.str = NN at cc cf core ⊢
  generalize rs.map rl = RS at cc ec cf core ⊢
  generalize start.map PV.str = SS at cc ga cf core ⊢
  simp [L_law_8, cc, ga, ec, cf, gf, s2, g2]
  exact core.mono (fun _ q => q.mono (fun _ q => q) (fun _ q => q.elim) (fun _ q => q.elim) (fun _ q => q.elim) fun _ _ _ q => q.elim) (fun _ q => q.elim) (fun _ q => q.elim) (fun _ q => q.elim) fun _ _ _ q => q.elim
end
theorem law_true (ns : List Int) : g_law [.rol (ns.map .int)] = .ok (.fz (.bl true)) := by
  obtain ⟨o, e, rfl⟩ : ∃ o, g_law [.rol (ns.map .int)] = .ok o ∧ o = .fz (.bl true) := by
    refine run_ok _ rfl ?_
    obtain ⟨names, rs, start, ew, hn, n0, hn8, hrl, hr, hst⟩ := world_ok ns 8 12 (by decide) (by decide) (by decide)
    obtain ⟨n, en, hl⟩ := numbers_ok ns 24 12 (by decide)
    push_cast at ew en
    have nl := hl.1
    have rr : rngR 0 3 = .ok (rangeL 0 3) := rng_ok (by omega) (by omega) (by omega) (by omega)
    have core : sat (loop (gNm 5) L_law_8 (rangeL 0 3) (e28 ns names rs start (n.map .int) .u .u .u .u .u .u .u .u .u)) { nx := fun ρ => sat (R_law_9 ρ) (poR fun o => o = .fz (.bl true)), ct := fun _ => False, bk := fun _ => False, rt := fun o => o = .fz (.bl true), ex := fun _ _ _ => False } := by
      refine sat_range (fun _ ρ => ∃ x5 x6 x7 x8 x9 x10 x11 x12 x13, ρ = e28 ns names rs start (n.map .int) x5 x6 x7 x8 x9 x10 x11 x12 x13) ⟨_, _, _, _, _, _, _, _, _, rfl⟩ ?_ ?_
      · rintro k _ hk ⟨x5, x6, x7, x8, x9, x10, x11, x12, x13, rfl⟩
        rw [stp_of (ρ1 := e28 ns names rs start (n.map .int) (.val (.int (0 + (k : Int)))) x6 x7 x8 x9 x10 x11 x12 x13) (by simp [e28])]
        rw [Int.zero_add]
        exact L8_28 hr hrl hst hn hn8 n0 n nl hk _ _ _ _ _ _ _ _ _ fun x6 x7 x8 x9 x10 x11 x12 x13 => ⟨_, _, _, _, _, _, _, _, _, rfl⟩
      · rintro _ ⟨x5, x6, x7, x8, x9, x10, x11, x12, x13, rfl⟩
        simp [R_law_9, e28]
    simp only [e28] at core
    generalize n.map PV.int = N at en core
    generalize names.map PV.str = NN at ew core
    generalize rs.map rl = RS at ew core
    generalize start.map PV.str = SS at ew core
    simp [b_law, slotsOf, slotOf, List.replicate, ew, en, rr]
    exact core
  exact e
end Lw
end
theorem PySem.Challenge.cw_formsforall_k28_judge_of_closed_lists_holds : PySem.Challenge.rw_formsforall_k28_judge_of_closed_lists.Holds := by
  exact Lw.ends fun ns _ => Lw.law_true ns
