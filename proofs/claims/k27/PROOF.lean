import PyProof.Rows.All
import Wide.All
import OpenK.AllK
import Wide.FinOn
import HandS.ForMost
import HandS.ForExc
import HandS.HeadHook1
import HandS.Deep
import HandS.IsInst
import KE.KRevSl
import HandS.Defaults
import HandS.HeadEnd
import HandS.HeadHook2
import HandS.Head2
import HandS.Small
import HandS.Iter
import HandS.RaiseMore
import PySem.Challenge.RW_formsforall_k27_judge_of_derivations
set_option Elab.async false
set_option linter.all false
set_option maxRecDepth 100000
section
/-! FwA: pure values, how the abstract heap bears them. -/
namespace Fz
open PySem PySem.Spec PyProof.Rows L2

/-- a sign: a code point -/
abbrev Ch := Fin 1114112
/-- a text: its signs -/
abbrev Tx := List Ch
def mkS (x : Tx) : Str := ⟨(x.map Fin.val).toArray⟩
theorem mkS_cps (x : Tx) : (mkS x).cps.toList = x.map Fin.val := by simp [mkS]
theorem val_inj : ∀ {x y : Tx}, x.map Fin.val = y.map Fin.val → x = y
  | [], [], _ => rfl
  | [], _ :: _, h => by simp at h
  | _ :: _, [], h => by simp at h
  | a :: x, b :: y, h => by
    simp only [List.map_cons, List.cons.injEq] at h
    rw [Fin.ext h.1, val_inj h.2]
theorem mkS_inj {x y : Tx} (h : mkS x = mkS y) : x = y := by
  have := congrArg (fun s : Str => s.cps.toList) h
  simp only [mkS_cps] at this
  exact val_inj this
theorem mkS_iff {x y : Tx} : mkS x = mkS y ↔ x = y := ⟨mkS_inj, fun h => by rw [h]⟩
theorem mkS_length (x : Tx) : (mkS x).length = x.length := by simp [mkS, Str.length]
theorem mkS_append (x y : Tx) : mkS x ++ mkS y = mkS (x ++ y) := by
  show Str.append (mkS x) (mkS y) = _
  simp [Str.append, mkS]
theorem mkS_sign (c : Ch) : (⟨#[c.val]⟩ : Str) = mkS [c] := by simp [mkS]
theorem mkS_ok (x : Tx) : PyData.strOk (mkS x) = true := by
  simp only [PyData.strOk, mkS, List.all_toArray, List.all_map, List.all_eq_true, Function.comp, decide_eq_true_eq]
  intro c _
  exact c.isLt
abbrev K1 := Int ⊕ Tx
def k1 : K1 → Key
  | .inl i => .inl i
  | .inr x => .inr (mkS x)
theorem k1_inj : ∀ {a b : K1}, k1 a = k1 b → a = b
  | .inl i, .inl j, h => by simp only [k1, Sum.inl.injEq] at h; rw [h]
  | .inr x, .inr y, h => by simp only [k1, Sum.inr.injEq] at h; rw [mkS_inj h]
  | .inl i, .inr y, h => by simp [k1] at h
  | .inr x, .inl j, h => by simp [k1] at h

inductive PV where
  | non | bl (b : Bool) | int (i : Int) | str (x : Tx)
  | tup (xs : List PV) | lst (xs : List PV)
  /-- a list that is only read: the script, a list of the top -/
  | rol (xs : List PV)
  | dic (kvs : List (K1 × PV))
  | dit (kvs : List (List K1 × PV))
  | ins (c : String) (fs : List (String × PV))
  deriving Inhabited

/-- a list of the text's top: it is never written -/
def KL (K : PySem.W.Frag) (a : Addr) (xs : List V) : Prop :=
  ∃ (o : Obj) (its : Array Value) (n : Nat), K.lookup a = some o ∧ o.cls = .type "list" ∧ o.dict = none ∧ o.data = .seq its n ∧ its.size ≤ sizeLine ∧ Vals xs its.toList
def RoAt (K : PySem.W.Frag) (H : Hp) (a : Addr) (xs : List V) : Prop := (∃ o, H a = some (.frz o (.lst xs))) ∨ KL K a xs
theorem RoAt.sq {K : PySem.W.Frag} {H : Hp} {a : Addr} {xs : List V} (h : RoAt K H a xs) : SqL K H a xs := h.elim (fun q => .inl (.inr q)) .inr
section
variable (K : PySem.W.Frag) (A : Addr → Prop) (H : Hp)
mutual
def Rep : PV → V → Prop
  | .non, v => v = .non
  | .bl b, v => v = .bl b
  | .int i, v => v = .int i
  | .str x, v => v = .str (mkS x)
  | .tup ps, v => ∃ a xs, v = .ref a ∧ H a = some (.tup xs) ∧ Reps ps xs
  | .lst ps, v => ∃ a xs, v = .ref a ∧ A a ∧ H a = some (.lst xs) ∧ Reps ps xs
  | .rol ps, v => ∃ a xs, v = .ref a ∧ RoAt K H a xs ∧ Reps ps xs
  | .dic kvs, v => ∃ a ks, v = .ref a ∧ A a ∧ Rd H a (.dK ks) ∧ RepK kvs ks
  | .dit kvs, v => ∃ a ks, v = .ref a ∧ A a ∧ Rd H a (.dT ks) ∧ RepT kvs ks
  | .ins c fs, v => ∃ a dx xs, v = .ref a ∧ A a ∧ H a = some (.ins (He.ga K (c : Str)) dx xs) ∧ RepF fs xs
def Reps : List PV → List V → Prop
  | [], xs => xs = []
  | p :: ps, xs => ∃ x r, xs = x :: r ∧ Rep p x ∧ Reps ps r
def RepK : List (K1 × PV) → List (Key × V) → Prop
  | [], ks => ks = []
  | (k, p) :: ps, ks => ∃ x r, ks = (k1 k, x) :: r ∧ Rep p x ∧ RepK ps r
def RepT : List (List K1 × PV) → List (List Key × V) → Prop
  | [], ks => ks = []
  | (k, p) :: ps, ks => ∃ x r, ks = (k.map k1, x) :: r ∧ Rep p x ∧ RepT ps r
def RepF : List (String × PV) → List (Str × V) → Prop
  | [], xs => xs = []
  | (f, p) :: ps, xs => ∃ x r, xs = ((f : Str), x) :: r ∧ Rep p x ∧ RepF ps r
end
end

/-- what carries a value over to another heap -/
structure Carry (A B : Addr → Prop) (H H' : Hp) : Prop where
  rdK : ∀ a u, A a → Rd H a (.dK u) → B a ∧ Rd H' a (.dK u)
  rdT : ∀ a u, A a → Rd H a (.dT u) → B a ∧ Rd H' a (.dT u)
  lst : ∀ a xs, A a → H a = some (.lst xs) → B a ∧ H' a = some (.lst xs)
  ins : ∀ a c d xs, A a → H a = some (.ins c d xs) → B a ∧ H' a = some (.ins c d xs)
  tup : ∀ a xs, H a = some (.tup xs) → H' a = some (.tup xs)
  scr : ∀ a o xs, H a = some (.frz o (.lst xs)) → H' a = some (.frz o (.lst xs))
theorem Carry.mk' {A B : Addr → Prop} {H H' : Hp} (sub : ∀ a o, A a → H a = some o → B a) (keep : ∀ a o, A a → H a = some o → H' a = some o) (tups : ∀ a xs, H a = some (.tup xs) → H' a = some (.tup xs))
    (frz : ∀ a o u, H a = some (.frz o u) → H' a = some (.frz o u)) : Carry A B H H' where
  rdK := fun a u ha h => h.elim (fun h => ⟨sub _ _ ha h, .inl (keep _ _ ha h)⟩) fun ⟨o, h⟩ => ⟨sub _ _ ha h, .inr ⟨o, keep _ _ ha h⟩⟩
  rdT := fun a u ha h => h.elim (fun h => ⟨sub _ _ ha h, .inl (keep _ _ ha h)⟩) fun ⟨o, h⟩ => ⟨sub _ _ ha h, .inr ⟨o, keep _ _ ha h⟩⟩
  lst := fun a xs ha h => ⟨sub _ _ ha h, keep _ _ ha h⟩
  ins := fun a c d xs ha h => ⟨sub _ _ ha h, keep _ _ ha h⟩
  tup := tups
  scr := fun a o xs h => frz _ _ _ h
theorem Carry.refl {A B : Addr → Prop} {H : Hp} (sub : ∀ a o, A a → H a = some o → B a) : Carry A B H H := Carry.mk' sub (fun _ _ _ q => q) (fun _ _ q => q) fun _ _ _ q => q
theorem Carry.ro {K : PySem.W.Frag} {A B : Addr → Prop} {H H' : Hp} (c : Carry A B H H') {a : Addr} {xs : List V} (h : RoAt K H a xs) : RoAt K H' a xs := h.elim (fun ⟨o, q⟩ => .inl ⟨o, c.scr _ _ _ q⟩) .inr
section
variable {K : PySem.W.Frag} {A B : Addr → Prop} {H H' : Hp}
mutual
theorem Rep.carry (c : Carry A B H H') : ∀ {p : PV} {v : V}, Rep K A H p v → Rep K B H' p v
  | .non, _, h => h
  | .bl _, _, h => h
  | .int _, _, h => h
  | .str _, _, h => h
  | .tup ps, _, h => by
    obtain ⟨a, xs, e, hs, r⟩ := h
    exact ⟨a, xs, e, c.tup _ _ hs, Reps.carry c r⟩
  | .lst ps, _, h => by
    obtain ⟨a, xs, e, ha, hs, r⟩ := h
    exact ⟨a, xs, e, (c.lst _ _ ha hs).1, (c.lst _ _ ha hs).2, Reps.carry c r⟩
  | .rol ps, _, h => by
    obtain ⟨a, xs, e, hs, r⟩ := h
    exact ⟨a, xs, e, c.ro hs, Reps.carry c r⟩
  | .dic kvs, _, h => by
    obtain ⟨a, xs, e, ha, hs, r⟩ := h
    exact ⟨a, xs, e, (c.rdK _ _ ha hs).1, (c.rdK _ _ ha hs).2, RepK.carry c r⟩
  | .dit kvs, _, h => by
    obtain ⟨a, xs, e, ha, hs, r⟩ := h
    exact ⟨a, xs, e, (c.rdT _ _ ha hs).1, (c.rdT _ _ ha hs).2, RepT.carry c r⟩
  | .ins cc fs, _, h => by
    obtain ⟨a, dx, xs, e, ha, hs, r⟩ := h
    exact ⟨a, dx, xs, e, (c.ins _ _ _ _ ha hs).1, (c.ins _ _ _ _ ha hs).2, RepF.carry c r⟩
theorem Reps.carry (c : Carry A B H H') : ∀ {ps : List PV} {vs : List V}, Reps K A H ps vs → Reps K B H' ps vs
  | [], _, h => h
  | p :: ps, _, h => by
    obtain ⟨x, r, e, h1, h2⟩ := h
    exact ⟨x, r, e, Rep.carry c h1, Reps.carry c h2⟩
theorem RepK.carry (c : Carry A B H H') : ∀ {ps : List (K1 × PV)} {vs : List (Key × V)}, RepK K A H ps vs → RepK K B H' ps vs
  | [], _, h => h
  | (k, p) :: ps, _, h => by
    obtain ⟨x, r, e, h1, h2⟩ := h
    exact ⟨x, r, e, Rep.carry c h1, RepK.carry c h2⟩
theorem RepT.carry (c : Carry A B H H') : ∀ {ps : List (List K1 × PV)} {vs : List (List Key × V)}, RepT K A H ps vs → RepT K B H' ps vs
  | [], _, h => h
  | (k, p) :: ps, _, h => by
    obtain ⟨x, r, e, h1, h2⟩ := h
    exact ⟨x, r, e, Rep.carry c h1, RepT.carry c h2⟩
theorem RepF.carry (c : Carry A B H H') : ∀ {ps : List (String × PV)} {vs : List (Str × V)}, RepF K A H ps vs → RepF K B H' ps vs
  | [], _, h => h
  | (k, p) :: ps, _, h => by
    obtain ⟨x, r, e, h1, h2⟩ := h
    exact ⟨x, r, e, Rep.carry c h1, RepF.carry c h2⟩
end
theorem Carry.same (s : Same H H') (sub : ∀ a, A a → B a) : Carry A B H H' := Carry.mk' (fun a _ q _ => sub a q) (fun a o _ h => s a o h) (fun a xs h => s a _ h) fun a o u h => s a _ h
theorem Rep.same {p : PV} {v : V} (s : Same H H') (h : Rep K A H p v) : Rep K A H' p v := Rep.carry (Carry.same s fun _ q => q) h
theorem Reps.same {p : List PV} {v : List V} (s : Same H H') (h : Reps K A H p v) : Reps K A H' p v := Reps.carry (Carry.same s fun _ q => q) h
theorem Rep.any {p : PV} {v : V} (h : Rep K A H p v) : Rep K (fun _ => True) H p v := Rep.carry (Carry.refl fun _ _ _ _ => trivial) h
theorem Rep.sub {p : PV} {v : V} (s : ∀ a, A a → B a) (h : Rep K A H p v) : Rep K B H p v := Rep.carry (Carry.refl fun a _ q _ => s a q) h
theorem Reps.sub {p : List PV} {v : List V} (s : ∀ a, A a → B a) (h : Reps K A H p v) : Reps K B H p v := Reps.carry (Carry.refl fun a _ q _ => s a q) h
end

/-! nothing in it can be changed -/
mutual
def immut : PV → Bool
  | .non => true | .bl _ => true | .int _ => true | .str _ => true
  | .tup ps => immuts ps
  | .rol ps => immuts ps
  | .lst _ => false | .dic _ => false | .dit _ => false | .ins _ _ => false
def immuts : List PV → Bool
  | [] => true
  | p :: ps => immut p && immuts ps
end
section
variable {K : PySem.W.Frag} {A B : Addr → Prop} {H : Hp}
mutual
theorem Rep.immut : ∀ {p : PV} {v : V}, Fz.immut p = true → Rep K A H p v → Rep K B H p v
  | .non, _, _, h => h
  | .bl _, _, _, h => h
  | .int _, _, _, h => h
  | .str _, _, _, h => h
  | .tup ps, _, i, h => by
    obtain ⟨a, xs, e, hs, r⟩ := h
    exact ⟨a, xs, e, hs, Reps.immut (by simpa [Fz.immut] using i) r⟩
  | .rol ps, _, i, h => by
    obtain ⟨a, xs, e, hs, r⟩ := h
    exact ⟨a, xs, e, hs, Reps.immut (by simpa [Fz.immut] using i) r⟩
  | .lst _, _, i, _ => by simp [Fz.immut] at i
  | .dic _, _, i, _ => by simp [Fz.immut] at i
  | .dit _, _, i, _ => by simp [Fz.immut] at i
  | .ins _ _, _, i, _ => by simp [Fz.immut] at i
theorem Reps.immut : ∀ {ps : List PV} {vs : List V}, immuts ps = true → Reps K A H ps vs → Reps K B H ps vs
  | [], _, _, h => h
  | p :: ps, _, i, h => by
    obtain ⟨x, r, e, h1, h2⟩ := h
    simp only [immuts, Bool.and_eq_true] at i
    exact ⟨x, r, e, Rep.immut i.1 h1, Reps.immut i.2 h2⟩
end
end

/-! ### lists of values -/
section
variable {K : PySem.W.Frag} {A : Addr → Prop} {H : Hp}
theorem Reps.length : ∀ {ps : List PV} {vs : List V}, Reps K A H ps vs → vs.length = ps.length
  | [], _, h => by rw [show _ = [] from h]; rfl
  | p :: ps, _, h => by
    obtain ⟨x, r, rfl, h1, h2⟩ := h
    simp [Reps.length h2]
theorem Reps.get : ∀ {ps : List PV} {vs : List V} {i : Nat} {p : PV}, Reps K A H ps vs → ps[i]? = some p → ∃ v, vs[i]? = some v ∧ Rep K A H p v
  | [], _, _, _, _, e => by simp at e
  | q :: ps, _, 0, p, h, e => by
    obtain ⟨x, r, rfl, h1, h2⟩ := h
    simp at e; subst e
    exact ⟨x, rfl, h1⟩
  | q :: ps, _, i + 1, p, h, e => by
    obtain ⟨x, r, rfl, h1, h2⟩ := h
    obtain ⟨v, e1, e2⟩ := Reps.get (i := i) h2 (by simpa using e)
    exact ⟨v, by simpa using e1, e2⟩
theorem Reps.getV : ∀ {ps : List PV} {vs : List V} {i : Nat} {v : V}, Reps K A H ps vs → vs[i]? = some v → ∃ p, ps[i]? = some p ∧ Rep K A H p v
  | [], _, _, _, h, e => by rw [show _ = [] from h] at e; simp at e
  | q :: ps, _, 0, p, h, e => by
    obtain ⟨x, r, rfl, h1, h2⟩ := h
    simp at e; subst e
    exact ⟨q, rfl, h1⟩
  | q :: ps, _, i + 1, p, h, e => by
    obtain ⟨x, r, rfl, h1, h2⟩ := h
    obtain ⟨v, e1, e2⟩ := Reps.getV (i := i) h2 (by simpa using e)
    exact ⟨v, by simpa using e1, e2⟩
theorem Reps.append : ∀ {ps qs : List PV} {vs ws : List V}, Reps K A H ps vs → Reps K A H qs ws → Reps K A H (ps ++ qs) (vs ++ ws)
  | [], _, _, _, h, h' => by rw [show _ = [] from h]; exact h'
  | p :: ps, _, _, _, h, h' => by
    obtain ⟨x, r, rfl, h1, h2⟩ := h
    exact ⟨x, _, rfl, h1, Reps.append h2 h'⟩
theorem Reps.nil : Reps K A H [] [] := rfl
theorem Reps.cons {p : PV} {v : V} {ps : List PV} {vs : List V} (h : Rep K A H p v) (t : Reps K A H ps vs) : Reps K A H (p :: ps) (v :: vs) := ⟨v, vs, rfl, h, t⟩
theorem Reps.one {p : PV} {v : V} (h : Rep K A H p v) : Reps K A H [p] [v] := ⟨v, [], rfl, h, rfl⟩
theorem Reps.take : ∀ {ps : List PV} {vs : List V} (n : Nat), Reps K A H ps vs → Reps K A H (ps.take n) (vs.take n)
  | [], _, n, h => by rw [show _ = [] from h]; simp [Reps]
  | p :: ps, _, 0, h => by simp [Reps]
  | p :: ps, _, n + 1, h => by
    obtain ⟨x, r, rfl, h1, h2⟩ := h
    exact ⟨x, _, rfl, h1, Reps.take n h2⟩
theorem Reps.drop : ∀ {ps : List PV} {vs : List V} (n : Nat), Reps K A H ps vs → Reps K A H (ps.drop n) (vs.drop n)
  | [], _, n, h => by rw [show _ = [] from h]; simp [Reps]
  | p :: ps, _, 0, h => by simpa using h
  | p :: ps, _, n + 1, h => by
    obtain ⟨x, r, rfl, h1, h2⟩ := h
    simpa using Reps.drop n h2
theorem Reps.set : ∀ {ps : List PV} {vs : List V} {p : PV} {v : V} (i : Nat), Reps K A H ps vs → Rep K A H p v → Reps K A H (ps.set i p) (vs.set i v)
  | [], _, _, _, i, h, _ => by rw [show _ = [] from h]; simp [Reps]
  | q :: ps, _, p, v, 0, h, h' => by
    obtain ⟨x, r, rfl, h1, h2⟩ := h
    exact ⟨v, _, rfl, h', h2⟩
  | q :: ps, _, p, v, i + 1, h, h' => by
    obtain ⟨x, r, rfl, h1, h2⟩ := h
    exact ⟨x, _, rfl, h1, Reps.set i h2 h'⟩
theorem Reps.reverse : ∀ {ps : List PV} {vs : List V}, Reps K A H ps vs → Reps K A H ps.reverse vs.reverse
  | [], _, h => by rw [show _ = [] from h]; simp [Reps]
  | p :: ps, _, h => by
    obtain ⟨x, r, rfl, h1, h2⟩ := h
    simp only [List.reverse_cons]
    exact Reps.append (Reps.reverse h2) (Reps.one h1)
theorem Reps.eraseIdx : ∀ {ps : List PV} {vs : List V} (i : Nat), Reps K A H ps vs → Reps K A H (ps.eraseIdx i) (vs.eraseIdx i)
  | [], _, i, h => by rw [show _ = [] from h]; simp [Reps]
  | p :: ps, _, 0, h => by
    obtain ⟨x, r, rfl, h1, h2⟩ := h
    simpa using h2
  | p :: ps, _, i + 1, h => by
    obtain ⟨x, r, rfl, h1, h2⟩ := h
    exact ⟨x, _, rfl, h1, Reps.eraseIdx i h2⟩
theorem Reps.ints : ∀ {ns : List Int} {vs : List V}, Reps K A H (ns.map .int) vs → vs = ns.map V.int
  | [], _, h => h
  | n :: ns, _, h => by
    obtain ⟨x, r, rfl, h1, h2⟩ := h
    rw [show x = V.int n from h1, Reps.ints h2]; rfl
theorem Reps.of_ints : ∀ (ns : List Int), Reps K A H (ns.map .int) (ns.map V.int)
  | [] => rfl
  | n :: ns => ⟨_, _, rfl, rfl, Reps.of_ints ns⟩
theorem Reps.strs : ∀ {ns : List Tx} {vs : List V}, Reps K A H (ns.map .str) vs → vs = ns.map fun x => V.str (mkS x)
  | [], _, h => h
  | n :: ns, _, h => by
    obtain ⟨x, r, rfl, h1, h2⟩ := h
    rw [show x = V.str (mkS n) from h1, Reps.strs h2]; rfl
theorem Reps.of_strs : ∀ (ns : List Tx), Reps K A H (ns.map .str) (ns.map fun x => V.str (mkS x))
  | [] => rfl
  | n :: ns => ⟨_, _, rfl, rfl, Reps.of_strs ns⟩
end
end Fz
end
section
/-! FwB: results, slots, the environment's representation, the judgements. -/
namespace Fz
open PySem PySem.Spec PyProof.Rows L2

/-! ### results -/
inductive Res (α : Type) where
  | ok (a : α)
  | exc (c : String) (fs : Option (List (String × PV)))
  | bad
def Res.bind {α β : Type} (r : Res α) (k : α → Res β) : Res β := match r with
  | .ok a => k a
  | .exc c fs => .exc c fs
  | .bad => .bad
instance : Monad Res where
  pure := .ok
  bind := Res.bind
@[simp] theorem bind_ok {α β : Type} (a : α) (k : α → Res β) : (Res.ok a >>= k) = k a := (rfl)
@[simp] theorem bind_exc {α β : Type} (c : String) (fs : Option (List (String × PV))) (k : α → Res β) : ((Res.exc c fs : Res α) >>= k) = .exc c fs := (rfl)
@[simp] theorem bind_bad {α β : Type} (k : α → Res β) : ((Res.bad : Res α) >>= k) = .bad := (rfl)
@[simp] theorem pure_ok {α : Type} (a : α) : (pure a : Res α) = .ok a := (rfl)
abbrev XF := String → Option (List (String × PV)) → Prop
def Out {α : Type} (r : Res α) (P : α → Prop) (E : XF) : Prop := match r with
  | .ok a => P a
  | .exc c fs => E c fs
  | .bad => False
theorem Out.bind {α β : Type} {r : Res α} {k : α → Res β} {P : β → Prop} {E : XF} (h : Out (r >>= k) P E) : Out r (fun a => Out (k a) P E) E := by
  cases r with
  | ok a => exact h
  | exc c fs => exact h
  | bad => exact h
theorem Out.mono {α : Type} {r : Res α} {P P' : α → Prop} {E E' : XF} (h : Out r P E) (hp : ∀ a, P a → P' a) (he : ∀ c fs, E c fs → E' c fs) : Out r P' E' := by
  cases r with
  | ok a => exact hp _ h
  | exc c fs => exact he _ _ h
  | bad => exact h
theorem Out.and {α : Type} {r : Res α} {P : α → Prop} {E : XF} (h : Out r P E) : Out r (fun a => r = .ok a ∧ P a) E := by
  cases r with
  | ok a => exact ⟨rfl, h⟩
  | exc c fs => exact h
  | bad => exact h

/-! ### owned things, slots -/
/-- what one name alone holds: its items are common values; or a common value -/
inductive OT where
  | fz (p : PV) | l (ps : List PV) | d (kvs : List (K1 × PV)) | dt (kvs : List (List K1 × PV))
  | dd (kvs : List (K1 × List (K1 × PV))) | ll (pss : List (List PV)) | ins (c : String) (fs : List (String × PV))
  deriving Inhabited
def OT.pv : OT → PV
  | .fz p => p
  | .l ps => .lst ps
  | .d kvs => .dic kvs
  | .dt kvs => .dit kvs
  | .dd kvs => .dic (kvs.map fun q => (q.1, .dic q.2))
  | .ll pss => .lst (pss.map .lst)
  | .ins c fs => .ins c fs
inductive Slot where
  | u | val (p : PV) | bor (p : PV) | own (t : OT)
  deriving Inhabited
abbrev Env := List Slot
abbrev Fp := Nat → List Addr
def InF (fp : Fp) (a : Addr) : Prop := ∃ i, a ∈ fp i
def put (fp : Fp) (i : Nat) (F : List Addr) : Fp := fun j => if j = i then F else fp j
theorem put_same {fp : Fp} {i : Nat} {F : List Addr} : put fp i F i = F := if_pos rfl
theorem put_ne {fp : Fp} {i j : Nat} {F : List Addr} (h : j ≠ i) : put fp i F j = fp j := if_neg h

section
variable (K : PySem.W.Frag)
/-- dicts in a dict, each its own -/
def RepDD (A : Addr → Prop) (H : Hp) : List (K1 × List (K1 × PV)) → List (Key × V) → List Addr → Prop
  | [], ks, F => ks = [] ∧ F = []
  | (k, kvs) :: r, ks, F => ∃ a xs ks' F', ks = (k1 k, .ref a) :: ks' ∧ F = a :: F' ∧ H a = some (.dK xs) ∧ RepK K A H kvs xs ∧ RepDD A H r ks' F'
def RepLL (A : Addr → Prop) (H : Hp) : List (List PV) → List V → List Addr → Prop
  | [], vs, F => vs = [] ∧ F = []
  | ps :: r, vs, F => ∃ a xs vs' F', vs = .ref a :: vs' ∧ F = a :: F' ∧ H a = some (.lst xs) ∧ Reps K A H ps xs ∧ RepLL A H r vs' F'
def OTRep (A : Addr → Prop) (H : Hp) : OT → V → List Addr → Prop
  | .fz p, v, F => F = [] ∧ Rep K A H p v
  | .l ps, v, F => ∃ a xs, v = .ref a ∧ F = [a] ∧ H a = some (.lst xs) ∧ Reps K A H ps xs
  | .d kvs, v, F => ∃ a xs, v = .ref a ∧ F = [a] ∧ H a = some (.dK xs) ∧ RepK K A H kvs xs
  | .dt kvs, v, F => ∃ a xs, v = .ref a ∧ F = [a] ∧ H a = some (.dT xs) ∧ RepT K A H kvs xs
  | .dd kvs, v, F => ∃ a xs F', v = .ref a ∧ F = a :: F' ∧ H a = some (.dK xs) ∧ RepDD K A H kvs xs F'
  | .ll pss, v, F => ∃ a xs F', v = .ref a ∧ F = a :: F' ∧ H a = some (.lst xs) ∧ RepLL K A H pss xs F'
  | .ins c fs, v, F => ∃ a dx xs, v = .ref a ∧ F = [a] ∧ H a = some (.ins (He.ga K (c : Str)) dx xs) ∧ RepF K A H fs xs
def SlotOk (A B : Addr → Prop) (H : Hp) (s : Slot) (so : Option (Option V)) (F : List Addr) : Prop := match s with
  | .u => F = []
  | .val p => F = [] ∧ ∃ v, so = some (some v) ∧ Rep K A H p v
  | .bor p => F = [] ∧ ∃ v, so = some (some v) ∧ Rep K B H p v
  | .own t => ∃ v, so = some (some v) ∧ OTRep K A H t v F
end
/-- may be written -/
def Wr : HO → Prop
  | .lst _ => True | .dK _ => True | .dT _ => True | .ins _ _ _ => True | _ => False
section
variable {K : PySem.W.Frag} {A B A' : Addr → Prop} {H H' : Hp}
theorem RepDD.live : ∀ {kvs : List (K1 × List (K1 × PV))} {ks : List (Key × V)} {F : List Addr}, RepDD K A H kvs ks F → ∀ a ∈ F, ∃ o, H a = some o ∧ Wr o
  | [], _, _, h, a, ha => by rw [h.2] at ha; cases ha
  | (k, kvs) :: r, _, _, h, a, ha => by
    obtain ⟨b, xs, ks', F', rfl, rfl, hb, _, hr⟩ := h
    rcases List.mem_cons.mp ha with rfl | ha
    · exact ⟨_, hb, trivial⟩
    · exact RepDD.live hr a ha
theorem RepLL.live : ∀ {kvs : List (List PV)} {ks : List V} {F : List Addr}, RepLL K A H kvs ks F → ∀ a ∈ F, ∃ o, H a = some o ∧ Wr o
  | [], _, _, h, a, ha => by rw [h.2] at ha; cases ha
  | kvs :: r, _, _, h, a, ha => by
    obtain ⟨b, xs, ks', F', rfl, rfl, hb, _, hr⟩ := h
    rcases List.mem_cons.mp ha with rfl | ha
    · exact ⟨_, hb, trivial⟩
    · exact RepLL.live hr a ha
theorem OTRep.live {t : OT} {v : V} {F : List Addr} (h : OTRep K A H t v F) : ∀ a ∈ F, ∃ o, H a = some o ∧ Wr o := by
  intro a ha
  cases t with
  | fz p => rw [h.1] at ha; cases ha
  | l ps => obtain ⟨b, xs, _, rfl, hb, _⟩ := h; rw [List.mem_singleton.mp ha]; exact ⟨_, hb, trivial⟩
  | d ps => obtain ⟨b, xs, _, rfl, hb, _⟩ := h; rw [List.mem_singleton.mp ha]; exact ⟨_, hb, trivial⟩
  | dt ps => obtain ⟨b, xs, _, rfl, hb, _⟩ := h; rw [List.mem_singleton.mp ha]; exact ⟨_, hb, trivial⟩
  | dd ps =>
    obtain ⟨b, xs, F', _, rfl, hb, hr⟩ := h
    rcases List.mem_cons.mp ha with rfl | ha
    · exact ⟨_, hb, trivial⟩
    · exact hr.live a ha
  | ll ps =>
    obtain ⟨b, xs, F', _, rfl, hb, hr⟩ := h
    rcases List.mem_cons.mp ha with rfl | ha
    · exact ⟨_, hb, trivial⟩
    · exact hr.live a ha
  | ins c fs => obtain ⟨b, dx, xs, _, rfl, hb, _⟩ := h; rw [List.mem_singleton.mp ha]; exact ⟨_, hb, trivial⟩
theorem RepDD.carry (c : Carry A B H H') : ∀ {kvs : List (K1 × List (K1 × PV))} {ks : List (Key × V)} {F : List Addr}, (∀ a ∈ F, ∀ o, H a = some o → H' a = some o) → RepDD K A H kvs ks F → RepDD K B H' kvs ks F
  | [], _, _, _, h => h
  | (k, kvs) :: r, _, _, s, h => by
    obtain ⟨b, xs, ks', F', rfl, rfl, hb, hk, hr⟩ := h
    exact ⟨b, xs, ks', F', rfl, rfl, s _ List.mem_cons_self _ hb, RepK.carry c hk, RepDD.carry c (fun a ha => s a (List.mem_cons_of_mem _ ha)) hr⟩
theorem RepLL.carry (c : Carry A B H H') : ∀ {kvs : List (List PV)} {ks : List V} {F : List Addr}, (∀ a ∈ F, ∀ o, H a = some o → H' a = some o) → RepLL K A H kvs ks F → RepLL K B H' kvs ks F
  | [], _, _, _, h => h
  | kvs :: r, _, _, s, h => by
    obtain ⟨b, xs, ks', F', rfl, rfl, hb, hk, hr⟩ := h
    exact ⟨b, xs, ks', F', rfl, rfl, s _ List.mem_cons_self _ hb, Reps.carry c hk, RepLL.carry c (fun a ha => s a (List.mem_cons_of_mem _ ha)) hr⟩
theorem OTRep.carry (c : Carry A B H H') {t : OT} {v : V} {F : List Addr} (s : ∀ a ∈ F, ∀ o, H a = some o → H' a = some o) (h : OTRep K A H t v F) : OTRep K B H' t v F := by
  cases t with
  | fz p => exact ⟨h.1, Rep.carry c h.2⟩
  | l ps => obtain ⟨b, xs, e, rfl, hb, hr⟩ := h; exact ⟨b, xs, e, rfl, s _ (List.mem_singleton.mpr rfl) _ hb, Reps.carry c hr⟩
  | d ps => obtain ⟨b, xs, e, rfl, hb, hr⟩ := h; exact ⟨b, xs, e, rfl, s _ (List.mem_singleton.mpr rfl) _ hb, RepK.carry c hr⟩
  | dt ps => obtain ⟨b, xs, e, rfl, hb, hr⟩ := h; exact ⟨b, xs, e, rfl, s _ (List.mem_singleton.mpr rfl) _ hb, RepT.carry c hr⟩
  | dd ps => obtain ⟨b, xs, F', e, rfl, hb, hr⟩ := h; exact ⟨b, xs, F', e, rfl, s _ List.mem_cons_self _ hb, hr.carry c fun a ha => s a (List.mem_cons_of_mem _ ha)⟩
  | ll ps => obtain ⟨b, xs, F', e, rfl, hb, hr⟩ := h; exact ⟨b, xs, F', e, rfl, s _ List.mem_cons_self _ hb, hr.carry c fun a ha => s a (List.mem_cons_of_mem _ ha)⟩
  | ins cc fs => obtain ⟨b, dx, xs, e, rfl, hb, hr⟩ := h; exact ⟨b, dx, xs, e, rfl, s _ (List.mem_singleton.mpr rfl) _ hb, RepF.carry c hr⟩
/-- let go: what was owned is common -/
theorem RepDD.free (hA : ∀ a, A a → B a) : ∀ {kvs : List (K1 × List (K1 × PV))} {ks : List (Key × V)} {F : List Addr}, (∀ a ∈ F, B a) → RepDD K A H kvs ks F → RepK K B H (kvs.map fun q => (q.1, .dic q.2)) ks
  | [], _, _, _, h => h.1
  | (k, kvs) :: r, _, _, s, h => by
    obtain ⟨b, xs, ks', F', rfl, rfl, hb, hk, hr⟩ := h
    refine ⟨_, _, rfl, ⟨b, xs, rfl, s _ List.mem_cons_self, .inl hb, RepK.carry (Carry.refl fun a _ q _ => hA a q) hk⟩, RepDD.free hA (fun a ha => s a (List.mem_cons_of_mem _ ha)) hr⟩
theorem RepLL.free (hA : ∀ a, A a → B a) : ∀ {kvs : List (List PV)} {ks : List V} {F : List Addr}, (∀ a ∈ F, B a) → RepLL K A H kvs ks F → Reps K B H (kvs.map .lst) ks
  | [], _, _, _, h => h.1
  | kvs :: r, _, _, s, h => by
    obtain ⟨b, xs, ks', F', rfl, rfl, hb, hk, hr⟩ := h
    refine ⟨_, _, rfl, ⟨b, xs, rfl, s _ List.mem_cons_self, hb, Reps.carry (Carry.refl fun a _ q _ => hA a q) hk⟩, RepLL.free hA (fun a ha => s a (List.mem_cons_of_mem _ ha)) hr⟩
theorem OTRep.free (hA : ∀ a, A a → B a) {t : OT} {v : V} {F : List Addr} (s : ∀ a ∈ F, B a) (h : OTRep K A H t v F) : Rep K B H t.pv v := by
  have c : Carry A B H H := Carry.refl fun a _ q _ => hA a q
  cases t with
  | fz p => exact Rep.carry c h.2
  | l ps => obtain ⟨b, xs, e, rfl, hb, hr⟩ := h; exact ⟨b, xs, e, s _ (List.mem_singleton.mpr rfl), hb, Reps.carry c hr⟩
  | d ps => obtain ⟨b, xs, e, rfl, hb, hr⟩ := h; exact ⟨b, xs, e, s _ (List.mem_singleton.mpr rfl), .inl hb, RepK.carry c hr⟩
  | dt ps => obtain ⟨b, xs, e, rfl, hb, hr⟩ := h; exact ⟨b, xs, e, s _ (List.mem_singleton.mpr rfl), .inl hb, RepT.carry c hr⟩
  | dd ps => obtain ⟨b, xs, F', e, rfl, hb, hr⟩ := h; exact ⟨b, xs, e, s _ List.mem_cons_self, .inl hb, hr.free hA fun a ha => s a (List.mem_cons_of_mem _ ha)⟩
  | ll ps => obtain ⟨b, xs, F', e, rfl, hb, hr⟩ := h; exact ⟨b, xs, e, s _ List.mem_cons_self, hb, hr.free hA fun a ha => s a (List.mem_cons_of_mem _ ha)⟩
  | ins cc fs => obtain ⟨b, dx, xs, e, rfl, hb, hr⟩ := h; exact ⟨b, dx, xs, e, s _ (List.mem_singleton.mpr rfl), hb, RepF.carry c hr⟩
end

/-! ### the environment -/
def Am (C : Addr → Prop) (fp : Fp) : Addr → Prop := fun a => C a ∧ ¬ InF fp a
structure EnvOk (K : PySem.W.Frag) (C : Addr → Prop) (ρ : Env) (σ : L2.St) (H : Hp) (fp : Fp) : Prop where
  len : ρ.length = σ.length
  slot : ∀ i s, ρ[i]? = some s → SlotOk K (Am C fp) (fun a => ¬ InF fp a) H s (σ[i]?) (fp i)
  out : ∀ i, ρ.length ≤ i → fp i = []
  inj : ∀ i j a, a ∈ fp i → a ∈ fp j → i = j
  nod : ∀ i, (fp i).Nodup
  cap : ∀ a, InF fp a → C a
  new : ∀ a, H a = none → C a
/-- what a step leaves as it was -/
structure Grow (H : Hp) (fp : Fp) (H' : Hp) (fp' : Fp) : Prop where
  keep : ∀ a o, H a = some o → ¬ InF fp a → H' a = some o
  tups : ∀ a xs, H a = some (.tup xs) → H' a = some (.tup xs)
  frz : ∀ a o u, H a = some (.frz o u) → H' a = some (.frz o u)
  more : ∀ a, H a ≠ none → H' a ≠ none
  new : ∀ a, InF fp' a → InF fp a ∨ H a = none
section
variable {K : PySem.W.Frag} {C : Addr → Prop} {ρ : Env} {σ : L2.St} {H H' H2 : Hp} {fp fp' fp2 : Fp}
theorem EnvOk.live (e : EnvOk K C ρ σ H fp) {a : Addr} (h : InF fp a) : ∃ o, H a = some o ∧ Wr o := by
  obtain ⟨i, hi⟩ := h
  by_cases hl : i < ρ.length
  · have := e.slot i ρ[i] (List.getElem?_eq_getElem hl)
    revert this
    cases ρ[i] with
    | u => intro s; rw [show fp i = [] from s] at hi; cases hi
    | val p => intro s; rw [s.1] at hi; cases hi
    | bor p => intro s; rw [s.1] at hi; cases hi
    | own t => rintro ⟨v, _, r⟩; exact r.live a hi
  · rw [e.out i (Nat.le_of_not_lt hl)] at hi; cases hi
theorem EnvOk.fresh (e : EnvOk K C ρ σ H fp) {a : Addr} (h : H a = none) : ¬ InF fp a := fun q => by
  obtain ⟨o, ho, _⟩ := e.live q
  rw [h] at ho; cases ho
theorem EnvOk.am_new (e : EnvOk K C ρ σ H fp) {a : Addr} (h : H a = none) : Am C fp a := ⟨e.new a h, e.fresh h⟩
theorem EnvOk.ntup (e : EnvOk K C ρ σ H fp) {a : Addr} {xs : List V} (h : H a = some (.tup xs)) : ¬ InF fp a := fun q => by
  obtain ⟨o, ho, w⟩ := e.live q
  rw [h] at ho; cases ho; exact w
theorem EnvOk.nfrz (e : EnvOk K C ρ σ H fp) {a : Addr} {o : Obj} {u : HO} (h : H a = some (.frz o u)) : ¬ InF fp a := fun q => by
  obtain ⟨o, ho, w⟩ := e.live q
  rw [h] at ho; cases ho; exact w
theorem Grow.refl : Grow H fp H fp := ⟨fun _ _ h _ => h, fun _ _ h => h, fun _ _ _ h => h, fun _ h => h, fun _ h => .inl h⟩
theorem Grow.trans (g : Grow H fp H' fp') (g2 : Grow H' fp' H2 fp2) : Grow H fp H2 fp2 where
  keep := fun a o h n => g2.keep a o (g.keep a o h n) fun q => (g.new a q).elim n fun z => by rw [h] at z; cases z
  tups := fun a xs h => g2.tups a xs (g.tups a xs h)
  frz := fun a o u h => g2.frz a o u (g.frz a o u h)
  more := fun a h => g2.more a (g.more a h)
  new := fun a h => by
    rcases g2.new a h with q | q
    · exact g.new a q
    · right
      cases z : H a with
      | none => rfl
      | some o => exact absurd q (g.more a (by rw [z]; simp))
theorem Grow.same (s : Same H H') : Grow H fp H' fp := ⟨fun a o h _ => s a o h, fun a xs h => s a _ h, fun a o xs h => s a _ h, fun a h => by
  cases z : H a with
  | none => exact absurd z h
  | some o => rw [s a o z]; simp, fun _ h => .inl h⟩
theorem EnvOk.same (e : EnvOk K C ρ σ H fp) (s : Same H H') : EnvOk K C ρ σ H' fp where
  len := e.len
  slot := fun i sl h => by
    have := e.slot i sl h
    revert this
    cases sl with
    | u => exact id
    | val p => rintro ⟨f, v, hv, r⟩; exact ⟨f, v, hv, r.same s⟩
    | bor p => rintro ⟨f, v, hv, r⟩; exact ⟨f, v, hv, r.same s⟩
    | own t => rintro ⟨v, hv, r⟩; exact ⟨v, hv, r.carry (Carry.same s fun _ q => q) fun a _ o q => s a o q⟩
  out := e.out
  inj := e.inj
  nod := e.nod
  cap := e.cap
  new := fun a h => e.new a (by
    cases z : H a with
    | none => rfl
    | some o => rw [s a o z] at h; cases h)
/-- a value carried over a step -/
theorem Grow.carry (g : Grow H fp H' fp') : Carry (Am C fp) (Am C fp') H H' :=
  Carry.mk' (fun a o q e => ⟨q.1, fun z => (g.new a z).elim q.2 fun y => (by rw [e] at y; cases y)⟩) (fun a o q e => g.keep a o e q.2) g.tups g.frz
theorem Grow.carryB (g : Grow H fp H' fp') : Carry (fun a => ¬ InF fp a) (fun a => ¬ InF fp' a) H H' :=
  Carry.mk' (fun a o q e z => (g.new a z).elim q fun y => (by rw [e] at y; cases y)) (fun a o q e => g.keep a o e q) g.tups g.frz
theorem Rep.grow {p : PV} {v : V} (g : Grow H fp H' fp') (h : Rep K (Am C fp) H p v) : Rep K (Am C fp') H' p v := Rep.carry g.carry h
end
end Fz
end
section
/-! FwC: the slots' changes, the judgements, blocks. -/
namespace Fz
open PySem PySem.Spec PyProof.Rows L2

section
variable {K : PySem.W.Frag} {C : Addr → Prop} {ρ : Env} {σ : L2.St} {H H' H2 : Hp} {fp fp' fp2 : Fp}
theorem inF_put {i : Nat} {F : List Addr} {a : Addr} (h : InF (put fp i F) a) : a ∈ F ∨ (InF fp a ∧ ∃ j, j ≠ i ∧ a ∈ fp j) := by
  obtain ⟨j, hj⟩ := h
  by_cases e : j = i
  · subst e; rw [put_same] at hj; exact .inl hj
  · rw [put_ne e] at hj; exact .inr ⟨⟨j, hj⟩, j, e, hj⟩
/-- THE STEP: slot i is given anew, its own objects may have changed -/
theorem EnvOk.step {i : Nat} {s' : Slot} {v : V} {F' : List Addr} (e : EnvOk K C ρ σ H fp) (hi : i < ρ.length)
    (keep : ∀ a o, a ∉ fp i → H a = some o → H' a = some o) (more : ∀ a, H a ≠ none → H' a ≠ none) (hF : ∀ a ∈ F', a ∈ fp i ∨ H a = none) (hn : F'.Nodup)
    (ok : (∀ a, InF (put fp i F') a → InF fp a ∨ H a = none) → Grow H fp H' (put fp i F') → SlotOk K (Am C (put fp i F')) (fun a => ¬ InF (put fp i F') a) H' s' (some (some v)) F') :
    EnvOk K C (ρ.set i s') (σ.set i (some v)) H' (put fp i F') ∧ Grow H fp H' (put fp i F') := by
  have hnew : ∀ a, InF (put fp i F') a → InF fp a ∨ H a = none := fun a q => by
    rcases inF_put q with q | q
    · rcases hF a q with z | z
      · exact .inl ⟨i, z⟩
      · exact .inr z
    · exact .inl q.1
  have g : Grow H fp H' (put fp i F') :=
    ⟨fun a o h n => keep a o (fun q => n ⟨i, q⟩) h, fun a xs h => keep a _ (fun q => e.ntup h ⟨i, q⟩) h, fun a o xs h => keep a _ (fun q => e.nfrz h ⟨i, q⟩) h, more, hnew⟩
  refine ⟨⟨by simp [e.len], fun j sl h => ?_, fun j hj => ?_, fun j k a h1 h2 => ?_, fun j => ?_, fun a q => ?_, fun a q => ?_⟩, g⟩
  · by_cases hj : j = i
    · subst hj
      rw [List.getElem?_set_self hi] at h
      cases h
      rw [put_same, List.getElem?_set_self (by rw [← e.len]; exact hi)]
      exact ok hnew g
    · rw [List.getElem?_set_ne (Ne.symm hj)] at h
      rw [put_ne hj, List.getElem?_set_ne (Ne.symm hj)]
      have := e.slot j sl h
      revert this
      cases sl with
      | u => exact id
      | val p => rintro ⟨f, v, hv, r⟩; exact ⟨f, v, hv, Rep.carry g.carry r⟩
      | bor p => rintro ⟨f, v, hv, r⟩; exact ⟨f, v, hv, Rep.carry g.carryB r⟩
      | own t => rintro ⟨v, hv, r⟩; exact ⟨v, hv, r.carry g.carry fun a ha o q => keep a o (fun z => hj (e.inj _ _ _ ha z)) q⟩
  · have hj' : ρ.length ≤ j := by simpa using hj
    rw [put_ne (by omega)]
    exact e.out j hj'
  · have other : ∀ j a, j ≠ i → a ∈ fp j → a ∉ F' := fun j a hj ha hf => by
      rcases hF a hf with z | z
      · exact hj (e.inj _ _ _ ha z)
      · exact e.fresh z ⟨j, ha⟩
    by_cases hj : j = i
    · by_cases hk : k = i
      · rw [hj, hk]
      · subst hj; rw [put_same] at h1; rw [put_ne hk] at h2; exact (other k a hk h2 h1).elim
    · by_cases hk : k = i
      · subst hk; rw [put_same] at h2; rw [put_ne hj] at h1; exact (other j a hj h1 h2).elim
      · rw [put_ne hj] at h1; rw [put_ne hk] at h2; exact e.inj _ _ _ h1 h2
  · by_cases hj : j = i
    · subst hj; rw [put_same]; exact hn
    · rw [put_ne hj]; exact e.nod j
  · rcases hnew a q with z | z
    · exact e.cap a z
    · exact e.new a z
  · exact e.new a (by
      cases z : H a with
      | none => rfl
      | some o => exact absurd q (more a (by rw [z]; simp)))
theorem EnvOk.setVal {i : Nat} {p : PV} {v : V} (e : EnvOk K C ρ σ H fp) (hi : i < ρ.length) (r : Rep K (Am C fp) H p v) : EnvOk K C (ρ.set i (.val p)) (σ.set i (some v)) H (put fp i []) ∧ Grow H fp H (put fp i []) :=
  e.step hi (fun _ _ _ h => h) (fun _ h => h) (fun _ h => nomatch h) List.nodup_nil fun _ g => ⟨rfl, v, rfl, Rep.carry g.carry r⟩
theorem EnvOk.setBor {i : Nat} {p : PV} {v : V} (e : EnvOk K C ρ σ H fp) (hi : i < ρ.length) (r : Rep K (fun a => ¬ InF fp a) H p v) : EnvOk K C (ρ.set i (.bor p)) (σ.set i (some v)) H (put fp i []) ∧ Grow H fp H (put fp i []) :=
  e.step hi (fun _ _ _ h => h) (fun _ h => h) (fun _ h => nomatch h) List.nodup_nil fun _ g => ⟨rfl, v, rfl, Rep.carry g.carryB r⟩
/-- a slot for a thing: a common value is a common value -/
def toSlot : OT → Slot
  | .fz p => .val p
  | t => .own t
/-- a thing of one's own, just made (between H and H' it came) -/
theorem EnvOk.setOwn {i : Nat} {t : OT} {v : V} {Fn : List Addr} (e : EnvOk K C ρ σ H fp) (hi : i < ρ.length) (s : Same H H') (r : OTRep K (fun a => Am C fp a ∧ a ∉ Fn) H' t v Fn) (hf : ∀ a ∈ Fn, H a = none) (hn : Fn.Nodup) :
    ∃ fp', EnvOk K C (ρ.set i (toSlot t)) (σ.set i (some v)) H' fp' ∧ Grow H fp H' fp' := by
  have key : ∀ sl, SlotOk K (fun a => Am C fp a ∧ a ∉ Fn) (fun a => ¬ InF (put fp i Fn) a) H' sl (some (some v)) Fn → (∀ p, sl ≠ .bor p) → EnvOk K C (ρ.set i sl) (σ.set i (some v)) H' (put fp i Fn) ∧ Grow H fp H' (put fp i Fn) := fun sl hs nb => by
    refine e.step hi (fun a o _ h => s a o h) (fun a h => (Grow.same s (fp := fp)).more a h) (fun a h => .inr (hf a h)) hn fun hnew g => ?_
    have sub : ∀ a, (Am C fp a ∧ a ∉ Fn) → Am C (put fp i Fn) a := fun a ⟨q1, q2⟩ => ⟨q1.1, fun z => (inF_put z).elim q2 fun y => q1.2 y.1⟩
    have c : Carry (fun a => Am C fp a ∧ a ∉ Fn) (Am C (put fp i Fn)) H' H' := Carry.refl fun a _ q _ => sub a q
    cases sl with
    | u => exact hs
    | val p => obtain ⟨f, w, hw, r⟩ := hs; exact ⟨f, w, hw, Rep.carry c r⟩
    | bor p => exact (nb p rfl).elim
    | own t => obtain ⟨w, hw, r⟩ := hs; exact ⟨w, hw, r.carry c fun _ _ _ q => q⟩
  cases t with
  | fz p => exact ⟨_, key (.val p) ⟨r.1, v, rfl, r.2⟩ (by intros; simp)⟩
  | l ps => exact ⟨_, key (.own _) ⟨v, rfl, r⟩ (by intros; simp)⟩
  | d ps => exact ⟨_, key (.own _) ⟨v, rfl, r⟩ (by intros; simp)⟩
  | dt ps => exact ⟨_, key (.own _) ⟨v, rfl, r⟩ (by intros; simp)⟩
  | dd ps => exact ⟨_, key (.own _) ⟨v, rfl, r⟩ (by intros; simp)⟩
  | ll ps => exact ⟨_, key (.own _) ⟨v, rfl, r⟩ (by intros; simp)⟩
  | ins c fs => exact ⟨_, key (.own _) ⟨v, rfl, r⟩ (by intros; simp)⟩
/-- what slot i holds is common from now on -/
theorem EnvOk.freeze {i : Nat} {t : OT} (e : EnvOk K C ρ σ H fp) (h : ρ[i]? = some (.own t)) : EnvOk K C (ρ.set i (.val t.pv)) σ H (put fp i []) ∧ Grow H fp H (put fp i []) := by
  have hi : i < ρ.length := (List.getElem?_eq_some_iff.mp h).1
  obtain ⟨v, hv, r⟩ := e.slot i _ h
  have hs : σ.set i (some v) = σ := by
    refine List.ext_getElem? fun j => ?_
    by_cases hj : j = i
    · subst hj; rw [List.getElem?_set_self (by rw [← e.len]; exact hi), hv]
    · rw [List.getElem?_set_ne (Ne.symm hj)]
  have := e.step (s' := .val t.pv) (v := v) (F' := []) hi (fun _ _ _ h => h) (fun _ h => h) (fun _ h => nomatch h) List.nodup_nil fun hnew g => ⟨rfl, v, rfl, OTRep.free (A := Am C fp) (fun a q => ⟨q.1, fun z => (inF_put z).elim (fun y => nomatch y) fun y => q.2 y.1⟩) (fun a ha => ⟨e.cap a ⟨i, ha⟩, fun z => (inF_put z).elim (fun y => nomatch y) fun ⟨_, j, hj, y⟩ => hj (e.inj _ _ _ y ha)⟩) r⟩
  rw [hs] at this
  exact this
/-- the own thing of slot i has changed in place -/
theorem EnvOk.write {i : Nat} {t t' : OT} {v : V} {F' : List Addr} (e : EnvOk K C ρ σ H fp) (h : ρ[i]? = some (.own t)) (hv : σ[i]? = some (some v)) (ht : ∀ p, t' ≠ .fz p)
    (keep : ∀ a o, a ∉ fp i → H a = some o → H' a = some o) (more : ∀ a, H a ≠ none → H' a ≠ none) (hF : ∀ a ∈ F', a ∈ fp i ∨ H a = none) (hn : F'.Nodup)
    (r : OTRep K (fun a => Am C fp a ∧ a ∉ F') H' t' v F') : EnvOk K C (ρ.set i (.own t')) σ H' (put fp i F') ∧ Grow H fp H' (put fp i F') := by
  have hi : i < ρ.length := (List.getElem?_eq_some_iff.mp h).1
  have hs : σ.set i (some v) = σ := by
    refine List.ext_getElem? fun j => ?_
    by_cases hj : j = i
    · subst hj; rw [List.getElem?_set_self (by rw [← e.len]; exact hi), hv]
    · rw [List.getElem?_set_ne (Ne.symm hj)]
  have := e.step (s' := .own t') (v := v) (F' := F') hi keep more hF hn fun hnew g => ⟨v, rfl, r.carry (Carry.refl fun a _ q _ => ⟨q.1.1, fun z => (inF_put z).elim q.2 fun y => q.1.2 y.1⟩) fun _ _ _ q => q⟩
  rw [hs] at this
  exact this
end

/-! ### the judgements -/
/-- E: a common value; I: its items are common; B: to be looked at only -/
inductive Mode where
  | E | I | B
def RepI (K : PySem.W.Frag) (A : Addr → Prop) (H : Hp) : PV → V → Prop
  | .lst ps, v => ∃ a xs, v = .ref a ∧ H a = some (.lst xs) ∧ Reps K A H ps xs
  | .dic kvs, v => ∃ a ks, v = .ref a ∧ Rd H a (.dK ks) ∧ RepK K A H kvs ks
  | .dit kvs, v => ∃ a ks, v = .ref a ∧ Rd H a (.dT ks) ∧ RepT K A H kvs ks
  | .ins c fs, v => ∃ a dx xs, v = .ref a ∧ H a = some (.ins (He.ga K (c : Str)) dx xs) ∧ RepF K A H fs xs
  | p, v => Rep K A H p v
def RepM (K : PySem.W.Frag) (C : Addr → Prop) (fp : Fp) (m : Mode) (H : Hp) (p : PV) (v : V) : Prop := match m with
  | .E => Rep K (Am C fp) H p v
  | .I => RepI K (Am C fp) H p v
  | .B => Rep K (fun _ => True) H p v
theorem Rep.toI {K : PySem.W.Frag} {A : Addr → Prop} {H : Hp} {p : PV} {v : V} (h : Rep K A H p v) : RepI K A H p v := by
  cases p with
  | lst ps => obtain ⟨a, xs, e, _, l, r⟩ := h; exact ⟨a, xs, e, l, r⟩
  | dic ps => obtain ⟨a, xs, e, _, l, r⟩ := h; exact ⟨a, xs, e, l, r⟩
  | dit ps => obtain ⟨a, xs, e, _, l, r⟩ := h; exact ⟨a, xs, e, l, r⟩
  | ins c ps => obtain ⟨a, dx, xs, e, _, l, r⟩ := h; exact ⟨a, dx, xs, e, l, r⟩
  | _ => exact h
theorem RepI.toB {K : PySem.W.Frag} {A : Addr → Prop} {H : Hp} {p : PV} {v : V} (h : RepI K A H p v) : Rep K (fun _ => True) H p v := by
  have c : Carry A (fun _ => True) H H := Carry.refl fun _ _ _ _ => trivial
  cases p with
  | lst ps => obtain ⟨a, xs, e, l, r⟩ := h; exact ⟨a, xs, e, trivial, l, Reps.carry c r⟩
  | dic ps => obtain ⟨a, xs, e, l, r⟩ := h; exact ⟨a, xs, e, trivial, l, RepK.carry c r⟩
  | dit ps => obtain ⟨a, xs, e, l, r⟩ := h; exact ⟨a, xs, e, trivial, l, RepT.carry c r⟩
  | ins cc ps => obtain ⟨a, dx, xs, e, l, r⟩ := h; exact ⟨a, dx, xs, e, trivial, l, RepF.carry c r⟩
  | tup ps => exact Rep.carry c h
  | rol ps => exact Rep.carry c h
  | non => exact h
  | bl b => exact h
  | int b => exact h
  | str b => exact h
theorem RepM.toB {K : PySem.W.Frag} {C : Addr → Prop} {fp : Fp} {m : Mode} {H : Hp} {p : PV} {v : V} (h : RepM K C fp m H p v) : Rep K (fun _ => True) H p v := by
  cases m with
  | E => exact Rep.any h
  | I => exact RepI.toB (A := Am C fp) h
  | B => exact h
theorem RepM.same {K : PySem.W.Frag} {C : Addr → Prop} {fp : Fp} {m : Mode} {H H' : Hp} {p : PV} {v : V} (s : Same H H') (h : RepM K C fp m H p v) : RepM K C fp m H' p v := by
  have c : Carry (Am C fp) (Am C fp) H H' := Carry.same s fun _ q => q
  cases m with
  | E => exact Rep.same s h
  | B => exact Rep.same (A := fun _ => True) s h
  | I =>
    revert h
    cases p with
    | lst ps =>
      rintro ⟨a, xs, e, l, r⟩
      exact ⟨a, xs, e, s _ _ l, Reps.carry c r⟩
    | dic ps =>
      rintro ⟨a, xs, e, l, r⟩
      refine ⟨a, xs, e, ?_, RepK.carry c r⟩
      rcases l with l | ⟨o, l⟩
      · exact .inl (s _ _ l)
      · exact .inr ⟨o, s _ _ l⟩
    | dit ps =>
      rintro ⟨a, xs, e, l, r⟩
      refine ⟨a, xs, e, ?_, RepT.carry c r⟩
      rcases l with l | ⟨o, l⟩
      · exact .inl (s _ _ l)
      · exact .inr ⟨o, s _ _ l⟩
    | ins cc ps => rintro ⟨a, dx, xs, e, l, r⟩; exact ⟨a, dx, xs, e, s _ _ l, RepF.carry c r⟩
    | tup ps => exact Rep.same (A := Am C fp) s
    | rol ps => exact Rep.same (A := Am C fp) s
    | non => exact id
    | bl b => exact id
    | int b => exact id
    | str b => exact id

abbrev E := Env → Res PV
abbrev T := Env → Res Bool
abbrev O := Env → Res OT
abbrev L := Env → Res (List PV)
/-- what is wanted of an exception: its class, its fields -/
def XW (K : PySem.W.Frag) (W : WX) (σ : L2.St) (H' : Hp) (c : String) (fs : Option (List (String × PV))) : Prop := match fs with
  | none => W (.ref (He.ga K (c : Str))) none σ H'
  | some fs => ∀ d H2 xs, Same H' H2 → H' d = none → H2 d = some (.xd xs) → RepF K (fun _ => True) H2 fs xs → W (.ref (He.ga K (c : Str))) (some d) σ H2
def XQ (K : PySem.W.Frag) (W : WX) (σ : L2.St) (H : Hp) : XF := fun c fs => ∀ H', Same H H' → XW K W σ H' c fs
theorem XQ.later {K : PySem.W.Frag} {W : WX} {σ : L2.St} {H H1 : Hp} (s : Same H H1) {c : String} {fs : Option (List (String × PV))} (h : XQ K W σ H c fs) : XQ K W σ H1 c fs := fun H' s' => h H' fun a o q => s' a o (s a o q)
theorem Same.trans' {H H1 H2 : Hp} (a : Same H H1) (b : Same H1 H2) : Same H H2 := fun x o q => b x o (a x o q)

section
variable (K : PySem.W.Frag) (C : Addr → Prop) (W : WX)
def tE (m : Mode) (f : E) : TE := fun σ H Q => ∃ ρ fp, EnvOk K C ρ σ H fp ∧ Out (f ρ) (fun p => ∀ v H', Same H H' → RepM K C fp m H' p v → Q v H') (XQ K W σ H)
def tT (f : T) : TT := fun σ H Q => ∃ ρ fp, EnvOk K C ρ σ H fp ∧ Out (f ρ) (fun b => ∀ H', Same H H' → Q b H') (XQ K W σ H)
def tO (f : O) : TE := fun σ H Q => ∃ ρ fp, EnvOk K C ρ σ H fp ∧ Out (f ρ) (fun t => ∀ v H' Fn, Same H H' → Fn.Nodup → (∀ a ∈ Fn, H a = none) → OTRep K (fun a => Am C fp a ∧ a ∉ Fn) H' t v Fn → Q v H') (XQ K W σ H)
/-- several: each of its own mode -/
def RepMs (fp : Fp) (H : Hp) : List Mode → List PV → List V → Prop
  | [], [], [] => True
  | m :: ms, p :: ps, v :: vs => RepM K C fp m H p v ∧ RepMs fp H ms ps vs
  | _, _, _ => False
def tL (ms : List Mode) (f : L) : TA := fun σ H Q => ∃ ρ fp, EnvOk K C ρ σ H fp ∧ Out (f ρ) (fun ps => ∀ vs H', Same H H' → RepMs K C fp H' ms ps vs → Q vs H') (XQ K W σ H)
end
def EJ (X : Cx) (C : Addr → Prop) (W : WX) (m : Mode) (e : Expr) (f : E) : Prop := PE X e (tE X.K C W m f)
def TJ (X : Cx) (C : Addr → Prop) (W : WX) (e : Expr) (f : T) : Prop := PT X e (tT X.K C W f)
def OJ (X : Cx) (C : Addr → Prop) (W : WX) (e : Expr) (f : O) : Prop := PE X e (tO X.K C W f)
def LJ (X : Cx) (C : Addr → Prop) (W : WX) (ms : List Mode) (es : List Expr) (f : L) : Prop := PA X es (tL X.K C W ms f)

theorem pe_weak {X : Cx} {e : Expr} {t t' : TE} (h : PE X e t) (w : ∀ σ H Q, t' σ H Q → t σ H Q) : PE X e t' := ⟨fun pins s σ H Q I q => h.run pins s σ H Q I (w σ H Q q)⟩
theorem pt_weak {X : Cx} {e : Expr} {t t' : TT} (h : PT X e t) (w : ∀ σ H Q, t' σ H Q → t σ H Q) : PT X e t' := ⟨fun pins s σ H Q I q => h.run pins s σ H Q I (w σ H Q q)⟩
theorem pw_weak {X : Cx} {e : Expr} {t t' : TT} (h : PW X e t) (w : ∀ σ H Q, t' σ H Q → t σ H Q) : PW X e t' := ⟨fun wh pins s σ H Q I q => h.run wh pins s σ H Q I (w σ H Q q)⟩
theorem pa_weak {X : Cx} {e : List Expr} {t t' : TA} (h : PA X e t) (w : ∀ σ H Q, t' σ H Q → t σ H Q) : PA X e t' := ⟨fun pos pins s σ H Q I q => h.run pos pins s σ H Q I (w σ H Q q)⟩
theorem ps_weak {X : Cx} {e : Stmt} {t t' : TS} (h : PS X e t) (w : ∀ D σ H, t' D σ H → t D σ H) : PS X e t' := ⟨fun pins s σ H D I q => h.run pins s σ H D I (w D σ H q)⟩
theorem pss_weak {X : Cx} {e : List Stmt} {t t' : TS} (h : PSs X e t) (w : ∀ D σ H, t' D σ H → t D σ H) : PSs X e t' := ⟨fun pins s σ H D I q => h.run pins s σ H D I (w D σ H q)⟩

/-! ### statements -/
inductive Fl where
  | nx (ρ : Env) | rt (o : OT) | bk (ρ : Env) | ct (ρ : Env) | ex (c : String) (fs : Option (List (String × PV))) (ρ : Env) | bad
abbrev S := Env → Fl
def withR {α : Type} (r : Res α) (ρ : Env) (k : α → Fl) : Fl := match r with
  | .ok a => k a
  | .exc c fs => .ex c fs ρ
  | .bad => .bad
@[simp] theorem withR_ok {α : Type} (a : α) (ρ : Env) (k : α → Fl) : withR (.ok a) ρ k = k a := (rfl)
@[simp] theorem withR_exc {α : Type} (c : String) (fs : Option (List (String × PV))) (ρ : Env) (k : α → Fl) : withR (.exc c fs) ρ k = .ex c fs ρ := (rfl)
@[simp] theorem withR_bad {α : Type} (ρ : Env) (k : α → Fl) : withR .bad ρ k = .bad := (rfl)
def Fl.andThen (f : Fl) (t : S) : Fl := match f with
  | .nx ρ => t ρ
  | f => f
@[simp] theorem then_nx (ρ : Env) (t : S) : (Fl.nx ρ).andThen t = t ρ := (rfl)
@[simp] theorem then_rt (o : OT) (t : S) : (Fl.rt o).andThen t = .rt o := (rfl)
@[simp] theorem then_bk (ρ : Env) (t : S) : (Fl.bk ρ).andThen t = .bk ρ := (rfl)
@[simp] theorem then_ct (ρ : Env) (t : S) : (Fl.ct ρ).andThen t = .ct ρ := (rfl)
@[simp] theorem then_ex (c : String) (fs : Option (List (String × PV))) (ρ : Env) (t : S) : (Fl.ex c fs ρ).andThen t = .ex c fs ρ := (rfl)
def sSeq (s t : S) : S := fun ρ => (s ρ).andThen t
def sNil : S := fun ρ => .nx ρ
section
variable (K : PySem.W.Frag) (C : Addr → Prop) (W : WX)
def FlQ (D : Ends) (H : Hp) (fp : Fp) : Fl → Prop
  | .nx ρ' => ∀ σ' H' fp', EnvOk K C ρ' σ' H' fp' → Grow H fp H' fp' → D.nx σ' H'
  | .bk ρ' => ∀ σ' H' fp', EnvOk K C ρ' σ' H' fp' → Grow H fp H' fp' → D.bk σ' H'
  | .ct ρ' => ∀ σ' H' fp', EnvOk K C ρ' σ' H' fp' → Grow H fp H' fp' → D.ct σ' H'
  | .rt o => ∀ v H' Fn, Grow H fp H' (fun _ => []) → Fn.Nodup → (∀ a ∈ Fn, InF fp a ∨ H a = none) → OTRep K (fun a => C a ∧ a ∉ Fn) H' o v Fn → D.rt v H'
  | .ex c fs ρ' => ∀ σ' H' fp', EnvOk K C ρ' σ' H' fp' → Grow H fp H' fp' → XW K W σ' H' c fs
  | .bad => False
def tS (s : S) : TS := fun D σ H => ∃ ρ fp, EnvOk K C ρ σ H fp ∧ FlQ K C W D H fp (s ρ)
end
def SJ (X : Cx) (C : Addr → Prop) (W : WX) (st : Stmt) (s : S) : Prop := PS X st (tS X.K C W s)
def BJ (X : Cx) (C : Addr → Prop) (W : WX) (sts : List Stmt) (s : S) : Prop := PSs X sts (tS X.K C W s)
section
variable {K : PySem.W.Frag} {C : Addr → Prop} {W : WX} {D : Ends} {H H1 : Hp} {fp fp1 : Fp}
theorem FlQ.later (g : Grow H fp H1 fp1) : ∀ {f : Fl}, FlQ K C W D H fp f → FlQ K C W D H1 fp1 f
  | .nx _, h => fun σ' H' fp' e g' => h σ' H' fp' e (g.trans g')
  | .bk _, h => fun σ' H' fp' e g' => h σ' H' fp' e (g.trans g')
  | .ct _, h => fun σ' H' fp' e g' => h σ' H' fp' e (g.trans g')
  | .ex _ _ _, h => fun σ' H' fp' e g' => h σ' H' fp' e (g.trans g')
  | .bad, h => h
  | .rt _, h => fun v H' Fn g' n hf r => h v H' Fn (g.trans g') n (fun a ha => by
      rcases hf a ha with q | q
      · exact g.new a q
      · right
        cases z : H a with
        | none => rfl
        | some o => exact absurd q (g.more a (by rw [z]; simp))) r
theorem FlQ.seq {s t : S} {ρ : Env} (h : FlQ K C W D H fp (sSeq s t ρ)) : FlQ K C W { D with nx := tS K C W t D } H fp (s ρ) := by
  unfold sSeq at h
  cases e : s ρ with
  | nx ρ' => rw [e] at h; exact fun σ' H' fp' e' g => ⟨ρ', fp', e', FlQ.later g h⟩
  | rt o => rw [e] at h; exact h
  | bk o => rw [e] at h; exact h
  | ct o => rw [e] at h; exact h
  | ex c fs o => rw [e] at h; exact h
  | bad => rw [e] at h; exact h
/-- what an expression's end becomes -/
theorem FlQ.ofR {α : Type} {r : Res α} {ρ : Env} {σ : L2.St} {k : α → Fl} (e : EnvOk K C ρ σ H fp) (h : FlQ K C W D H fp (withR r ρ k)) : Out r (fun a => FlQ K C W D H fp (k a)) (fun c fs => ∀ H' , Same H H' → XW K W σ H' c fs) := by
  cases r with
  | ok a => exact h
  | exc c fs => exact fun H' s => h σ H' fp (e.same s) (Grow.same s)
  | bad => exact h
end
section
variable {X : Cx} {C : Addr → Prop} {W : WX}
theorem bj_nil : BJ X C W [] sNil := pss_weak pss_nil fun D σ H ⟨ρ, fp, e, h⟩ => h σ H fp e Grow.refl
theorem bj_cons {st : Stmt} {rest : List Stmt} {s t : S} (h1 : SJ X C W st s) (h2 : BJ X C W rest t) : BJ X C W (st :: rest) (sSeq s t) :=
  pss_weak (pss_cons h1 h2) fun D σ H ⟨ρ, fp, e, h⟩ => ⟨ρ, fp, e, h.seq⟩
theorem bj_one {st : Stmt} {s : S} (h1 : SJ X C W st s) : BJ X C W [st] s := pss_weak (pss_one h1) fun D σ H h => h
end
end Fz
end
section
/-! FwD: expressions: names, constants, operators, comparisons, and, or, not. -/
namespace Fz
open PySem PySem.Spec PyProof.Rows L2
def ofO {α : Type} : Option α → Res α
  | some a => .ok a
  | none => .bad
@[simp] theorem ofO_some {α : Type} (a : α) : ofO (some a) = .ok a := (rfl)
@[simp] theorem ofO_none {α : Type} : (ofO none : Res α) = .bad := (rfl)
section
variable {X : Cx} {C : Addr → Prop} {W : WX} {e e1 e2 e3 : Expr} {pos : Pos} {m m1 m2 m3 : Mode} {f f1 f2 f3 : E}

theorem TE.out {K : PySem.W.Frag} {σ : L2.St} {H : Hp} {Q : VK} {ρ : Env} {fp : Fp} (eo : EnvOk K C ρ σ H fp) (h : Out (f ρ) (fun p => ∀ v H', Same H H' → RepM K C fp m H' p v → Q v H') (XQ K W σ H)) : tE K C W m f σ H Q := ⟨ρ, fp, eo, h⟩

/-! ### from one mode to another -/
theorem ej_I (h : EJ X C W .E e f) : EJ X C W .I e f := pe_weak h fun σ H Q ⟨ρ, fp, eo, o⟩ => ⟨ρ, fp, eo, o.mono (fun p q v H' s r => q v H' s (Rep.toI r)) fun _ _ q => q⟩
theorem ej_B (h : EJ X C W m e f) : EJ X C W .B e f := pe_weak h fun σ H Q ⟨ρ, fp, eo, o⟩ => ⟨ρ, fp, eo, o.mono (fun p q v H' s r => q v H' s (RepM.toB r)) fun _ _ q => q⟩
def eCap (f : E) : E := fun ρ => f ρ >>= fun p => if immut p then .ok p else .bad
theorem ej_cap (h : EJ X C W m e f) : EJ X C W .E e (eCap f) := pe_weak h fun σ H Q ⟨ρ, fp, eo, o⟩ => by
  refine ⟨ρ, fp, eo, (Out.bind o).mono (fun p q v H' s r => ?_) fun _ _ q => q⟩
  by_cases hi : immut p = true
  · rw [if_pos hi] at q
    exact q v H' s (Rep.immut hi (RepM.toB r))
  · rw [if_neg hi] at q
    exact q.elim
def eOfO (f : O) : E := fun ρ => f ρ >>= fun t => .ok t.pv
theorem ej_O {f : O} (h : OJ X C W e f) : EJ X C W .E e (eOfO f) := pe_weak h fun σ H Q ⟨ρ, fp, eo, o⟩ => by
  refine ⟨ρ, fp, eo, (Out.bind o).mono (fun t q v H' Fn s hn hf r => q v H' s ?_) fun _ _ q => q⟩
  exact OTRep.free (fun a q => q.1) (fun a ha => eo.am_new (hf a ha)) r
def oOfE (f : E) : O := fun ρ => f ρ >>= fun p => .ok (.fz p)
theorem oj_E (h : EJ X C W .E e f) : OJ X C W e (oOfE f) := pe_weak h fun σ H Q ⟨ρ, fp, eo, o⟩ => by
  refine ⟨ρ, fp, eo, (Out.bind o).mono (fun p q v H' s r => q v H' [] s List.nodup_nil (fun _ h => nomatch h) ⟨rfl, Rep.sub (fun a z => ⟨z, fun y => nomatch y⟩) r⟩) fun _ _ q => q⟩

/-! ### names, constants -/
/-- its items can't be changed -/
def immutI : PV → Bool
  | .lst ps => immuts ps
  | p => immut p
def eVar (m : Mode) (i : Nat) : E := fun ρ => match ρ[i]? with
  | some (.val p) => .ok p
  | some (.bor p) => (match m with
    | .B => .ok p
    | .I => if immutI p then .ok p else .bad
    | .E => if immut p then .ok p else .bad)
  | some (.own t) => (match m, t with
    | .B, t => .ok t.pv
    | .I, .l ps => .ok (.lst ps)
    | .I, .d ps => .ok (.dic ps)
    | .I, .dt ps => .ok (.dit ps)
    | .I, .ins c fs => .ok (.ins c fs)
    | _, _ => .bad)
  | _ => .bad
theorem ej_var {i : Nat} {x : Str} (hN : X.N[i]? = some x) (hv : Vis X.env.scope x) (hd : (x == ("__debug__" : Str)) = false := by decide) (hcd : (x == ("__classdict__" : Str)) = false := by decide) : EJ X C W m (.Name x pos) (eVar m i) :=
  pe_weak (pe_var hN hv hd hcd) fun σ H Q ⟨ρ, fp, eo, o⟩ => by
    have hs := eo.slot i
    unfold eVar at o
    cases h : ρ[i]? with
    | none => rw [h] at o; exact o.elim
    | some s =>
      rw [h] at o
      have hs := hs s h
      cases s with
      | u => exact o.elim
      | val p =>
        obtain ⟨_, v, hv, r⟩ := hs
        refine ⟨v, hv, o v H (fun _ _ q => q) ?_⟩
        cases m with
        | E => exact r
        | I => exact Rep.toI r
        | B => exact Rep.any r
      | bor p =>
        obtain ⟨_, v, hv, r⟩ := hs
        cases m with
        | B => exact ⟨v, hv, o v H (fun _ _ q => q) (Rep.any r)⟩
        | E =>
          by_cases hi : immut p = true
          · simp only [if_pos hi] at o
            exact ⟨v, hv, o v H (fun _ _ q => q) (Rep.immut hi r)⟩
          · simp only [if_neg hi] at o; exact o.elim
        | I =>
          by_cases hi : immutI p = true
          · simp only [if_pos hi] at o
            refine ⟨v, hv, o v H (fun _ _ q => q) ?_⟩
            cases p with
            | lst ps => obtain ⟨a, xs, e, _, ha, rr⟩ := r; exact ⟨a, xs, e, ha, Reps.immut (by simpa [immutI] using hi) rr⟩
            | non => exact r
            | bl b => exact r
            | int b => exact r
            | str b => exact r
            | tup ps => exact Rep.immut (p := .tup ps) (A := fun a => ¬InF fp a) (by simpa [immutI] using hi) r
            | rol ps => exact Rep.immut (p := .rol ps) (A := fun a => ¬InF fp a) (by simpa [immutI] using hi) r
            | dic ps => simp [immutI, immut] at hi
            | dit ps => simp [immutI, immut] at hi
            | ins c ps => simp [immutI, immut] at hi
          · simp only [if_neg hi] at o; exact o.elim
      | own t =>
        obtain ⟨v, hv, r⟩ := hs
        cases m with
        | B => exact ⟨v, hv, o v H (fun _ _ q => q) (Rep.any (A := fun _ => True) (OTRep.free (A := Am C fp) (fun _ _ => trivial) (fun _ _ => trivial) r))⟩
        | E => cases t <;> exact o.elim
        | I =>
          cases t with
          | l ps => obtain ⟨a, xs, e, _, ha, rr⟩ := r; exact ⟨v, hv, o v H (fun _ _ q => q) ⟨a, xs, e, ha, rr⟩⟩
          | d ps => obtain ⟨a, xs, e, _, ha, rr⟩ := r; exact ⟨v, hv, o v H (fun _ _ q => q) ⟨a, xs, e, .inl ha, rr⟩⟩
          | dt ps => obtain ⟨a, xs, e, _, ha, rr⟩ := r; exact ⟨v, hv, o v H (fun _ _ q => q) ⟨a, xs, e, .inl ha, rr⟩⟩
          | ins c fs => obtain ⟨a, dx, xs, e, _, ha, rr⟩ := r; exact ⟨v, hv, o v H (fun _ _ q => q) ⟨a, dx, xs, e, ha, rr⟩⟩
          | fz p => exact o.elim
          | dd p => exact o.elim
          | ll p => exact o.elim
def eC (p : PV) : E := fun _ => .ok p
/-- what is borne whatever the heap -/
def Atom (K : PySem.W.Frag) (p : PV) (v : V) : Prop := ∀ A H, Rep K A H p v
theorem atom_int {K : PySem.W.Frag} (i : Int) : Atom K (.int i) (.int i) := fun _ _ => rfl
theorem atom_bl {K : PySem.W.Frag} (i : Bool) : Atom K (.bl i) (.bl i) := fun _ _ => rfl
theorem atom_str {K : PySem.W.Frag} (x : Tx) : Atom K (.str x) (.str (mkS x)) := fun _ _ => rfl
theorem atom_non {K : PySem.W.Frag} : Atom K .non .non := fun _ _ => rfl
theorem Atom.rm {K : PySem.W.Frag} {p : PV} {v : V} (h : Atom K p v) {C : Addr → Prop} {fp : Fp} {m : Mode} {H : Hp} : RepM K C fp m H p v := by
  cases m with
  | E => exact h _ _
  | I => exact Rep.toI (h _ _)
  | B => exact h _ _
theorem ej_const {p : PV} {v : V} (h : PE X e (tC v)) (a : Atom X.K p v) : EJ X C W m e (eC p) := pe_weak h fun σ H Q ⟨ρ, fp, eo, o⟩ => o v H (fun _ _ q => q) a.rm
theorem ej_int {i : Int} {j : Nat} : EJ X C W m (.Constant (.int i) j pos) (eC (.int i)) := ej_const pe_int fun _ _ => rfl
theorem ej_bl {b : Bool} {j : Nat} : EJ X C W m (.Constant (.bool b) j pos) (eC (.bl b)) := ej_const pe_bl fun _ _ => rfl
theorem ej_non {j : Nat} : EJ X C W m (.Constant .none j pos) (eC .non) := ej_const pe_non fun _ _ => rfl
theorem ej_str {x : Tx} {z : Str} {j : Nat} (h : z = mkS x) : EJ X C W m (.Constant (.str z) j pos) (eC (.str x)) := ej_const pe_str fun _ _ => by rw [h]; rfl
/-- a whole number, a text of the top -/
theorem ej_gint {x : Str} {i : Int} (hg : Gl X x) (hm : ∃ t, X.mg x = some (.int i t)) (hd : (x == ("__debug__" : Str)) = false := by decide) : EJ X C W m (.Name x pos) (eC (.int i)) := by
  obtain ⟨t, hm⟩ := hm
  exact ej_const (pe_glob (v := .int i) hg hm ⟨t, rfl⟩ hd) fun _ _ => rfl
theorem ej_gstr {x : Str} {z : Tx} (hg : Gl X x) (hm : ∃ t, X.mg x = some (.str (mkS z) t)) (hd : (x == ("__debug__" : Str)) = false := by decide) : EJ X C W m (.Name x pos) (eC (.str z)) := by
  obtain ⟨t, hm⟩ := hm
  exact ej_const (pe_glob (v := .str (mkS z)) hg hm ⟨t, rfl⟩ hd) fun _ _ => rfl

/-! ### two in a row -/
theorem two {K : PySem.W.Frag} {σ : L2.St} {H : Hp} {fp : Fp} {ρ : Env} {α : Type} {k : PV → PV → Res α} {P : α → Prop} (eo : EnvOk K C ρ σ H fp)
    (o : Out (f1 ρ >>= fun x => f2 ρ >>= fun y => k x y) P (XQ K W σ H)) {R : V → V → Hp → Prop}
    (h : ∀ p q v u H2, Same H H2 → EnvOk K C ρ σ H2 fp → Out (k p q) P (XQ K W σ H) → RepM K C fp m1 H2 p v → RepM K C fp m2 H2 q u → R v u H2) :
    tE K C W m1 f1 σ H fun x H1 => tE K C W m2 f2 σ H1 fun y H2 => R x y H2 := by
  refine ⟨ρ, fp, eo, (Out.bind o).mono (fun p o1 v H1 s1 r1 => ?_) fun _ _ q => q⟩
  refine ⟨ρ, fp, eo.same s1, (Out.bind o1).mono (fun q o2 u H2 s2 r2 => ?_) fun _ _ q => q.later s1⟩
  exact h p q v u H2 (s1.trans s2) (eo.same (s1.trans s2)) o2 (r1.same s2) r2
theorem Out.ofO {α : Type} {o : Option α} {P : α → Prop} {E' : XF} (h : Out (Fz.ofO o) P E') : ∃ a, o = some a ∧ P a := by
  cases o with
  | none => exact h.elim
  | some a => exact ⟨a, rfl, h⟩

/-! ### a op b: whole numbers in, a whole number out -/
def gI (g : Int → Int → Option Int) : PV → PV → Option PV
  | .int i, .int j => (g i j).map .int
  | _, _ => none
def eBin (g : PV → PV → Option PV) (f1 f2 : E) : E := fun ρ => f1 ρ >>= fun x => f2 ρ >>= fun y => ofO (g x y)
theorem gI_some {g : Int → Int → Option Int} {p q z : PV} (h : gI g p q = some z) : ∃ i j k, p = .int i ∧ q = .int j ∧ g i j = some k ∧ z = .int k := by
  cases p <;> cases q <;> simp [gI] at h
  obtain ⟨k, h1, h2⟩ := h
  exact ⟨_, _, k, rfl, rfl, h1, h2.symm⟩
theorem ej_binI {op : Operator} {cnd : Int → Int → Prop} {g' : Int → Int → Int} {g : Int → Int → Option Int} (ho : OpR X (binaryOp op) (rI cnd fun i j => .int (g' i j))) (hg : ∀ i j k, g i j = some k → cnd i j ∧ k = g' i j)
    (h1 : EJ X C W m1 e1 f1) (h2 : EJ X C W m2 e2 f2) : EJ X C W m (.BinOp e1 op e2 pos) (eBin (gI g) f1 f2) :=
  pe_weak (pe_op ho h1 h2) fun σ H Q ⟨ρ, fp, eo, o⟩ => two (m1 := m1) (m2 := m2) eo o fun p q v u H2 s eo2 o2 r1 r2 => by
    obtain ⟨z, hz, hQ⟩ := Out.ofO o2
    obtain ⟨i, j, k, rfl, rfl, hk, rfl⟩ := gI_some hz
    obtain ⟨c, rfl⟩ := hg _ _ _ hk
    have e1 : v = .int i := RepM.toB r1
    have e2 : u = .int j := RepM.toB r2
    exact ⟨i, j, e1, e2, c, hQ _ H2 s (atom_int _).rm⟩
def gSub : PV → PV → Option PV := gI fun i j => some (i - j)
def gMod : PV → PV → Option PV := gI fun i j => if 0 < j then some (i % j) else none
def gDiv : PV → PV → Option PV := gI fun i j => if 0 < j ∧ j < 1073741824 then some (i / j) else none
def gPow : PV → PV → Option PV := gI fun i j => if 0 ≤ j ∧ j ≤ 1000000 ∧ i.natAbs < 2 ^ 64 then some (i ^ j.toNat) else none
theorem op_sub' : OpR X (binaryOp .Sub) (rI (fun _ _ => True) fun i j => .int (i - j)) := fun pins s σ H x y v u Q I rx ry ⟨i, j, e1, e2, _, q⟩ => op_sub pins s σ H x y v u Q I rx ry ⟨i, j, e1, e2, q⟩
theorem ej_sub (h1 : EJ X C W m1 e1 f1) (h2 : EJ X C W m2 e2 f2) : EJ X C W m (.BinOp e1 .Sub e2 pos) (eBin gSub f1 f2) :=
  ej_binI op_sub' (fun i j k h => ⟨trivial, (Option.some.inj h).symm⟩) h1 h2
theorem ej_mod (h1 : EJ X C W m1 e1 f1) (h2 : EJ X C W m2 e2 f2) : EJ X C W m (.BinOp e1 .Mod e2 pos) (eBin gMod f1 f2) :=
  ej_binI op_mod (fun i j k h => by
    by_cases c : 0 < j
    · simp only [if_pos c, Option.some.injEq] at h; exact ⟨c, h.symm⟩
    · simp [if_neg c] at h) h1 h2
theorem ej_fdiv (h1 : EJ X C W m1 e1 f1) (h2 : EJ X C W m2 e2 f2) : EJ X C W m (.BinOp e1 .FloorDiv e2 pos) (eBin gDiv f1 f2) :=
  ej_binI op_fdiv (fun i j k h => by
    by_cases c : 0 < j ∧ j < 1073741824
    · simp only [if_pos c, Option.some.injEq] at h; exact ⟨c, h.symm⟩
    · simp [if_neg c] at h) h1 h2
theorem ej_pow (h1 : EJ X C W m1 e1 f1) (h2 : EJ X C W m2 e2 f2) : EJ X C W m (.BinOp e1 .Pow e2 pos) (eBin gPow f1 f2) :=
  ej_binI op_pow (fun i j k h => by
    by_cases c : 0 ≤ j ∧ j ≤ 1000000 ∧ i.natAbs < 2 ^ 64
    · simp only [if_pos c, Option.some.injEq] at h; exact ⟨c, h.symm⟩
    · simp [if_neg c] at h) h1 h2
def eUn (g : PV → Option PV) (f : E) : E := fun ρ => f ρ >>= fun x => ofO (g x)
def gNeg : PV → Option PV
  | .int i => some (.int (-i))
  | _ => none
theorem ej_neg (h : EJ X C W m1 e f) : EJ X C W m (.UnaryOp .USub e pos) (eUn gNeg f) := pe_weak (pe_un un_neg h) fun σ H Q ⟨ρ, fp, eo, o⟩ => by
  refine ⟨ρ, fp, eo, (Out.bind o).mono (fun p o1 v H1 s1 r1 => ?_) fun _ _ q => q⟩
  obtain ⟨z, hz, hQ⟩ := Out.ofO o1
  cases p <;> simp only [gNeg, Option.some.injEq, reduceCtorEq] at hz
  subst hz
  exact ⟨_, RepM.toB r1, hQ _ H1 s1 (atom_int _).rm⟩

/-! ### comparisons -/
abbrev Cmp := PV → PV → Option Bool
/-- the rule's reading holds where g answers -/
def CmpOk (K : PySem.W.Frag) (r : R2) (g : Cmp) : Prop := ∀ p q b H v u Q, g p q = some b → Rep K (fun _ => True) H p v → Rep K (fun _ => True) H q u → Q (.bl b) H → r v u H Q
def eCmp (g : Cmp) (f1 f2 : E) : E := fun ρ => f1 ρ >>= fun x => f2 ρ >>= fun y => ofO (g x y) >>= fun b => .ok (.bl b)
def tCmp (g : Cmp) (f1 f2 : E) : T := fun ρ => f1 ρ >>= fun x => f2 ρ >>= fun y => ofO (g x y)
variable {op : CmpOp} {r : R2} {g : Cmp}
theorem ej_cmp (ho : OpR X (compareOp op) r) (hg : CmpOk X.K r g) (h1 : EJ X C W m1 e1 f1) (h2 : EJ X C W m2 e2 f2) (hm : behindInMarks op e2 = false) : EJ X C W m (.Compare e1 [op] [e2] pos) (eCmp g f1 f2) :=
  pe_weak (pe_cmpR ho h1 h2 hm) fun σ H Q ⟨ρ, fp, eo, o⟩ => two (m1 := m1) (m2 := m2) eo o fun p q v u H2 s eo2 o2 r1 r2 => by
    obtain ⟨z, hz, hQ⟩ := Out.ofO (Out.bind o2)
    exact hg p q z H2 v u Q hz (RepM.toB r1) (RepM.toB r2) (hQ _ H2 s (atom_bl _).rm)
theorem tj_cmp (ho : OpR X (compareOp op) r) (hg : CmpOk X.K r g) (h1 : EJ X C W m1 e1 f1) (h2 : EJ X C W m2 e2 f2) (hm : behindInMarks op e2 = false) : TJ X C W (.Compare e1 [op] [e2] pos) (tCmp g f1 f2) :=
  pt_weak (pt_cmpR ho h1 h2 hm) fun σ H Q ⟨ρ, fp, eo, o⟩ => two (m1 := m1) (m2 := m2) eo o fun p q v u H2 s eo2 o2 r1 r2 => by
    obtain ⟨z, hz, hQ⟩ := Out.ofO o2
    exact hg p q z H2 v u _ hz (RepM.toB r1) (RepM.toB r2) ⟨z, rfl, hQ H2 s⟩
/-- a op1 b op2 c, as a test and as a value -/
def tChn (g g' : Cmp) (f1 f2 f3 : E) : T := fun ρ => f1 ρ >>= fun x => f2 ρ >>= fun y => ofO (g x y) >>= fun b => if b = true then f3 ρ >>= fun z => ofO (g' y z) else .ok false
theorem tj_chain {op' : CmpOp} {r' : R2} {g' : Cmp} (ho : OpR X (compareOp op) r) (hg : CmpOk X.K r g) (ho' : OpR X (compareOp op') r') (hg' : CmpOk X.K r' g') (h1 : EJ X C W m1 e1 f1) (h2 : EJ X C W m2 e2 f2) (h3 : EJ X C W m3 e3 f3)
    (hm : lastMarks [op, op'] [e2, e3] = false := by with_unfolding_all rfl) : TJ X C W (.Compare e1 [op, op'] [e2, e3] pos) (tChn g g' f1 f2 f3) :=
  pt_weak (pt_chain ho ho' h1 h2 h3 hm) fun σ H Q ⟨ρ, fp, eo, o⟩ => two (m1 := m1) (m2 := m2) eo o fun p q v u H2 s eo2 o2 r1 r2 => by
    obtain ⟨z, hz, hQ⟩ := Out.ofO (Out.bind o2)
    refine hg p q z H2 v u _ hz (RepM.toB r1) (RepM.toB r2) ⟨z, rfl, ?_⟩
    cases z with
    | false => exact ⟨false, rfl, hQ H2 s⟩
    | true =>
      simp only [if_true] at hQ ⊢
      refine ⟨ρ, fp, eo2, (Out.bind hQ).mono (fun p3 o3 w H3 s3 r3 => ?_) fun _ _ q => q.later s⟩
      obtain ⟨z2, hz2, hQ2⟩ := Out.ofO o3
      exact hg' q p3 z2 H3 u w _ hz2 (RepM.toB (r2.same s3)) (RepM.toB r3) ⟨z2, rfl, hQ2 H3 (s.trans s3)⟩

/-! ### and, or, not, if -/
def WJ (X : Cx) (C : Addr → Prop) (W : WX) (e : Expr) (f : T) : Prop := PW X e (tT X.K C W f)
variable {t1 t2 : T} {rest : List Expr}
def tAndF (t1 t2 : T) : T := fun ρ => t1 ρ >>= fun b => if b = true then t2 ρ else .ok false
def tOrF (t1 t2 : T) : T := fun ρ => t1 ρ >>= fun b => if b = true then .ok true else t2 ρ
def tNotF (t1 : T) : T := fun ρ => t1 ρ >>= fun b => .ok (!b)
theorem wj_and1 (h : TJ X C W e t1) : WJ X C W (.BoolOp .And [e] pos) t1 := pw_and1 h
theorem wj_or1 (h : TJ X C W e t1) : WJ X C W (.BoolOp .Or [e] pos) t1 := pw_or1 h
theorem wj_and (h : TJ X C W e1 t1) (h2 : WJ X C W (.BoolOp .And (e2 :: rest) pos) t2) : WJ X C W (.BoolOp .And (e1 :: e2 :: rest) pos) (tAndF t1 t2) := pw_weak (pw_and h h2) fun σ H Q ⟨ρ, fp, eo, o⟩ => by
  refine ⟨ρ, fp, eo, (Out.bind o).mono (fun b o1 H1 s1 => ?_) fun _ _ q => q⟩
  cases b with
  | true => exact ⟨ρ, fp, eo.same s1, o1.mono (fun b q H2 s2 => q H2 (s1.trans s2)) fun _ _ q => q.later s1⟩
  | false => exact o1 H1 s1
theorem wj_or (h : TJ X C W e1 t1) (h2 : WJ X C W (.BoolOp .Or (e2 :: rest) pos) t2) : WJ X C W (.BoolOp .Or (e1 :: e2 :: rest) pos) (tOrF t1 t2) := pw_weak (pw_or h h2) fun σ H Q ⟨ρ, fp, eo, o⟩ => by
  refine ⟨ρ, fp, eo, (Out.bind o).mono (fun b o1 H1 s1 => ?_) fun _ _ q => q⟩
  cases b with
  | true => exact o1 H1 s1
  | false => exact ⟨ρ, fp, eo.same s1, o1.mono (fun b q H2 s2 => q H2 (s1.trans s2)) fun _ _ q => q.later s1⟩
theorem wj_tj (h : WJ X C W e t1) : TJ X C W e t1 := PW.pt h
theorem tj_not (h : TJ X C W e t1) : TJ X C W (.UnaryOp .Not e pos) (tNotF t1) := pt_weak (pt_not h) fun σ H Q ⟨ρ, fp, eo, o⟩ => ⟨ρ, fp, eo, (Out.bind o).mono (fun b q H1 s1 => q H1 s1) fun _ _ q => q⟩
/-- .. as values: all but the last are True or False -/
def bOf : PV → Res Bool
  | .bl b => .ok b
  | _ => .bad
def eAnd (f1 f2 : E) : E := fun ρ => f1 ρ >>= fun x => bOf x >>= fun b => if b = true then f2 ρ else .ok (.bl false)
def eOr (f1 f2 : E) : E := fun ρ => f1 ρ >>= fun x => bOf x >>= fun b => if b = true then .ok (.bl true) else f2 ρ
def eNot (f1 : E) : E := fun ρ => f1 ρ >>= fun x => bOf x >>= fun b => .ok (.bl (!b))
theorem ej_one {o : BoolOp} (h : EJ X C W m e f) : EJ X C W m (.BoolOp o [e] pos) f := pe_one h
theorem Out.bOf {p : PV} {α : Type} {k : Bool → Res α} {P : α → Prop} {E' : XF} (h : Out (Fz.bOf p >>= k) P E') : ∃ b, p = .bl b ∧ Out (k b) P E' := by
  cases p <;> first | exact ⟨_, rfl, h⟩ | exact h.elim
theorem ej_and (h1 : EJ X C W m1 e1 f1) (h2 : EJ X C W m (.BoolOp .And (e2 :: rest) pos) f2) : EJ X C W m (.BoolOp .And (e1 :: e2 :: rest) pos) (eAnd f1 f2) := pe_weak (pe_and h1 h2) fun σ H Q ⟨ρ, fp, eo, o⟩ => by
  refine ⟨ρ, fp, eo, (Out.bind o).mono (fun p o1 v H1 s1 r1 => ?_) fun _ _ q => q⟩
  obtain ⟨b, rfl, o2⟩ := Out.bOf o1
  refine ⟨b, RepM.toB r1, ?_⟩
  cases b with
  | true => exact ⟨ρ, fp, eo.same s1, o2.mono (fun b q v H2 s2 => q v H2 (s1.trans s2)) fun _ _ q => q.later s1⟩
  | false => exact o2 _ H1 s1 (atom_bl _).rm
theorem ej_or (h1 : EJ X C W m1 e1 f1) (h2 : EJ X C W m (.BoolOp .Or (e2 :: rest) pos) f2) : EJ X C W m (.BoolOp .Or (e1 :: e2 :: rest) pos) (eOr f1 f2) := pe_weak (pe_or h1 h2) fun σ H Q ⟨ρ, fp, eo, o⟩ => by
  refine ⟨ρ, fp, eo, (Out.bind o).mono (fun p o1 v H1 s1 r1 => ?_) fun _ _ q => q⟩
  obtain ⟨b, rfl, o2⟩ := Out.bOf o1
  refine ⟨b, RepM.toB r1, ?_⟩
  cases b with
  | true => exact o2 _ H1 s1 (atom_bl _).rm
  | false => exact ⟨ρ, fp, eo.same s1, o2.mono (fun b q v H2 s2 => q v H2 (s1.trans s2)) fun _ _ q => q.later s1⟩
theorem ej_not (h1 : EJ X C W m1 e1 f1) : EJ X C W m (.UnaryOp .Not e1 pos) (eNot f1) := pe_weak (pe_not h1) fun σ H Q ⟨ρ, fp, eo, o⟩ => by
  refine ⟨ρ, fp, eo, (Out.bind o).mono (fun p o1 v H1 s1 r1 => ?_) fun _ _ q => q⟩
  obtain ⟨b, rfl, o2⟩ := Out.bOf o1
  exact ⟨b, RepM.toB r1, o2 _ H1 s1 (atom_bl _).rm⟩
def eIf (t : T) (f1 f2 : E) : E := fun ρ => t ρ >>= fun b => if b = true then f1 ρ else f2 ρ
theorem ej_if (h : TJ X C W e t1) (h1 : EJ X C W m e1 f1) (h2 : EJ X C W m e2 f2) : EJ X C W m (.IfExp e e1 e2 pos) (eIf t1 f1 f2) := pe_weak (pe_ifExp h h1 h2) fun σ H Q ⟨ρ, fp, eo, o⟩ => by
  refine ⟨ρ, fp, eo, (Out.bind o).mono (fun b o1 H1 s1 => ?_) fun _ _ q => q⟩
  cases b with
  | true => exact ⟨ρ, fp, eo.same s1, o1.mono (fun b q v H2 s2 => q v H2 (s1.trans s2)) fun _ _ q => q.later s1⟩
  | false => exact ⟨ρ, fp, eo.same s1, o1.mono (fun b q v H2 s2 => q v H2 (s1.trans s2)) fun _ _ q => q.later s1⟩
def oIf (t : T) (f1 f2 : O) : O := fun ρ => t ρ >>= fun b => if b = true then f1 ρ else f2 ρ
theorem OJ.later {K : PySem.W.Frag} {f : O} {σ : L2.St} {H H1 : Hp} {Q : VK} {ρ : Env} {fp : Fp} (eo : EnvOk K C ρ σ H fp) (s1 : Same H H1)
    (o : Out (f ρ) (fun t => ∀ v H' Fn, Same H H' → Fn.Nodup → (∀ a ∈ Fn, H a = none) → OTRep K (fun a => Am C fp a ∧ a ∉ Fn) H' t v Fn → Q v H') (XQ K W σ H)) : tO K C W f σ H1 Q :=
  ⟨ρ, fp, eo.same s1, o.mono (fun t q v H2 Fn s2 hn hf r => q v H2 Fn (s1.trans s2) hn (fun a ha => by
    cases z : H a with
    | none => rfl
    | some o => have := hf a ha; rw [s1 a o z] at this; cases this) r) fun _ _ q => q.later s1⟩
theorem oj_if {f1 f2 : O} (h : TJ X C W e t1) (h1 : OJ X C W e1 f1) (h2 : OJ X C W e2 f2) : OJ X C W (.IfExp e e1 e2 pos) (oIf t1 f1 f2) := pe_weak (pe_ifExp h h1 h2) fun σ H Q ⟨ρ, fp, eo, o⟩ => by
  refine ⟨ρ, fp, eo, (Out.bind o).mono (fun b o1 H1 s1 => ?_) fun _ _ q => q⟩
  cases b with
  | true => exact OJ.later eo s1 o1
  | false => exact OJ.later eo s1 o1
/-- the truth of a value -/
def truth : PV → Res Bool
  | .non => .ok false
  | .bl b => .ok b
  | .int i => .ok (i != 0)
  | .str x => if x.length ≤ sizeLine then .ok (!x.isEmpty) else .bad
  | .lst ps => .ok (!ps.isEmpty)
  | .rol ps => .ok (!ps.isEmpty)
  | .tup ps => .ok (!ps.isEmpty)
  | _ => .bad
def tOfE (f : E) : T := fun ρ => f ρ >>= truth
theorem isEmpty_reps {K : PySem.W.Frag} {A : Addr → Prop} {H : Hp} {ps : List PV} {vs : List V} (r : Reps K A H ps vs) : vs.isEmpty = ps.isEmpty := by
  cases ps with
  | nil => rw [show vs = [] from r]; rfl
  | cons p ps => obtain ⟨x, t, rfl, _⟩ := r; rfl
theorem tru_of {K : PySem.W.Frag} {H : Hp} {p : PV} {v : V} {b : Bool} (h : truth p = .ok b) (r : Rep K (fun _ => True) H p v) : TruV K v H b := by
  cases p with
  | non => rw [show v = .non from r]; exact (Res.ok.inj h).symm
  | bl c => rw [show v = .bl c from r]; exact (Res.ok.inj h).symm
  | int c => rw [show v = .int c from r]; exact (Res.ok.inj h).symm
  | str x =>
    rw [show v = .str (mkS x) from r]
    simp only [truth] at h
    split at h
    · rename_i hl
      refine ⟨by rw [mkS_length]; exact hl, ?_⟩
      rw [mkS_length, ← Res.ok.inj h]
      cases x <;> simp <;> omega
    · cases h
  | lst ps => obtain ⟨a, xs, rfl, _, l, rr⟩ := r; exact .inl ⟨xs, SqL.of l, by rw [isEmpty_reps rr]; exact (Res.ok.inj h).symm⟩
  | rol ps => obtain ⟨a, xs, rfl, l, rr⟩ := r; exact .inl ⟨xs, l.sq, by rw [isEmpty_reps rr]; exact (Res.ok.inj h).symm⟩
  | tup ps => obtain ⟨a, xs, rfl, l, rr⟩ := r; exact .inr (.inl ⟨xs, SqT.of l, by rw [isEmpty_reps rr]; exact (Res.ok.inj h).symm⟩)
  | dic ps => simp [truth] at h
  | dit ps => simp [truth] at h
  | ins c ps => simp [truth] at h
theorem truth_noexc {p : PV} {c : String} {fs : Option (List (String × PV))} : truth p ≠ .exc c fs := by
  cases p <;> simp only [truth] <;> first | (intro h; cases h; done) | (split <;> intro h <;> cases h)
theorem tj_val (h : EJ X C W m e f) (he : ∀ whole, isTrue e X.env whole = (do let v ← whole; standAt e.pos; holding [v] (truthy v)) := by intro _; rfl) : TJ X C W e (tOfE f) := pt_weak (pt_truth h he) fun σ H Q ⟨ρ, fp, eo, o⟩ => by
  refine ⟨ρ, fp, eo, (Out.bind o).mono (fun p o1 v H1 s1 r1 => ?_) fun _ _ q => q⟩
  cases z : truth p with
  | ok b => rw [z] at o1; exact ⟨b, tru_of z (RepM.toB r1), o1 H1 s1⟩
  | exc c fs => exact (truth_noexc z).elim
  | bad => rw [z] at o1; exact o1.elim
end
end Fz
end
section
/-! FwE: equality, in, +, *, subscripts, displays, built-in calls. -/
namespace Fz
open PySem PySem.Spec PyProof.Rows L2

/-! ### equality of data -/
mutual
def isData : PV → Bool
  | .non => true | .bl _ => true | .int _ => true | .str _ => true
  | .tup ps => isDatas ps | .lst ps => isDatas ps | .rol ps => isDatas ps
  | .dic _ => false | .dit _ => false | .ins _ _ => false
def isDatas : List PV → Bool
  | [] => true
  | p :: ps => isData p && isDatas ps
end
mutual
def dep : PV → Nat
  | .tup ps => deps ps + 1 | .lst ps => deps ps + 1 | .rol ps => deps ps + 1
  | _ => 0
def deps : List PV → Nat
  | [] => 0
  | p :: ps => max (dep p) (deps ps)
end
mutual
def pvEq : PV → PV → Bool
  | .non, .non => true
  | .bl a, .bl b => a == b
  | .bl a, .int j => (if a then 1 else 0) == j
  | .int i, .bl b => i == (if b then 1 else 0)
  | .int i, .int j => i == j
  | .str x, .str y => x == y
  | .lst xs, .lst ys => pvEqs xs ys
  | .rol xs, .lst ys => pvEqs xs ys
  | .lst xs, .rol ys => pvEqs xs ys
  | .rol xs, .rol ys => pvEqs xs ys
  | .tup xs, .tup ys => pvEqs xs ys
  | _, _ => false
def pvEqs : List PV → List PV → Bool
  | [], [] => true
  | x :: xs, y :: ys => pvEq x y && pvEqs xs ys
  | _, _ => false
end
mutual
def toD : PV → PyData
  | .non => .none | .bl b => .bool b | .int i => .int i | .str x => .str (mkS x)
  | .tup ps => .tuple (toDs ps) | .lst ps => .list (toDs ps) | .rol ps => .list (toDs ps)
  | .dic _ => .dict [] | .dit _ => .dict [] | .ins _ _ => .dict []
def toDs : List PV → List PyData
  | [] => []
  | p :: ps => toD p :: toDs ps
end
mutual
theorem toD_lay : ∀ p : PV, (toD p).canLay0 = isData p
  | .non => rfl | .bl _ => rfl | .int _ => rfl
  | .str x => by simp only [toD, PyData.canLay0, isData]; exact mkS_ok x
  | .tup ps => by simp only [toD, PyData.canLay0, isData]; exact toDs_lay ps
  | .lst ps => by simp only [toD, PyData.canLay0, isData]; exact toDs_lay ps
  | .rol ps => by simp only [toD, PyData.canLay0, isData]; exact toDs_lay ps
  | .dic _ => rfl | .dit _ => rfl | .ins _ _ => rfl
theorem toDs_lay : ∀ ps : List PV, PyData.canLayAll0 (toDs ps) = isDatas ps
  | [] => rfl
  | p :: ps => by simp only [toDs, PyData.canLayAll0, isDatas, toD_lay p, toDs_lay ps]
end
mutual
theorem toD_dep : ∀ p : PV, isData p = true → (toD p).depth = dep p
  | .non, _ => rfl | .bl _, _ => rfl | .int _, _ => rfl | .str x, _ => rfl
  | .tup ps, h => by simp only [toD, PyData.depth, dep]; rw [toDs_dep ps (by simpa [isData] using h)]
  | .lst ps, h => by simp only [toD, PyData.depth, dep]; rw [toDs_dep ps (by simpa [isData] using h)]
  | .rol ps, h => by simp only [toD, PyData.depth, dep]; rw [toDs_dep ps (by simpa [isData] using h)]
  | .dic _, h => by simp [isData] at h
  | .dit _, h => by simp [isData] at h
  | .ins _ _, h => by simp [isData] at h
theorem toDs_dep : ∀ ps : List PV, isDatas ps = true → PyData.depthAll (toDs ps) = deps ps
  | [], _ => rfl
  | p :: ps, h => by
    simp only [isDatas, Bool.and_eq_true] at h
    simp only [toDs, PyData.depthAll, deps, toD_dep p h.1, toDs_dep ps h.2]
end
theorem str_beq (x y : Tx) : (mkS x == mkS y) = (x == y) := by
  by_cases h : x = y
  · subst h; simp
  · rw [beq_eq_false_iff_ne.mpr h]; exact beq_eq_false_iff_ne.mpr fun e => h (mkS_inj e)
mutual
theorem toD_eqv : ∀ (p q : PV), isData p = true → isData q = true → PyData.eqv (toD p) (toD q) = pvEq p q := fun p q hp hq => by
  cases p with
  | dic _ => simp [isData] at hp
  | dit _ => simp [isData] at hp
  | ins _ _ => simp [isData] at hp
  | str x =>
    cases q <;> simp only [toD, PyData.eqv, pvEq]
    exact str_beq _ _
  | tup ps =>
    cases q <;> simp only [toD, PyData.eqv, pvEq]
    exact toDs_eqv ps _ (by simpa [isData] using hp) (by simpa [isData] using hq)
  | lst ps =>
    cases q <;> simp only [toD, PyData.eqv, pvEq]
    · exact toDs_eqv ps _ (by simpa [isData] using hp) (by simpa [isData] using hq)
    · exact toDs_eqv ps _ (by simpa [isData] using hp) (by simpa [isData] using hq)
  | rol ps =>
    cases q <;> simp only [toD, PyData.eqv, pvEq]
    · exact toDs_eqv ps _ (by simpa [isData] using hp) (by simpa [isData] using hq)
    · exact toDs_eqv ps _ (by simpa [isData] using hp) (by simpa [isData] using hq)
  | non => cases q <;> simp only [toD, PyData.eqv, pvEq]
  | bl b => cases q <;> simp only [toD, PyData.eqv, pvEq]
  | int b => cases q <;> simp only [toD, PyData.eqv, pvEq]
theorem toDs_eqv : ∀ (ps qs : List PV), isDatas ps = true → isDatas qs = true → PyData.eqvAll (toDs ps) (toDs qs) = pvEqs ps qs
  | [], [], _, _ => rfl
  | [], _ :: _, _, _ => rfl
  | _ :: _, [], _, _ => rfl
  | p :: ps, q :: qs, h1, h2 => by
    simp only [isDatas, Bool.and_eq_true] at h1 h2
    simp only [toDs, PyData.eqvAll, pvEqs, toD_eqv p q h1.1 h2.1, toDs_eqv ps qs h1.2 h2.2]
end
def eqOk (p : PV) : Bool := isData p && decide (dep p ≤ 64)
theorem shaped_of {p : PV} (h : eqOk p = true) : SeqAt.shaped (toD p) = true := by
  simp only [eqOk, Bool.and_eq_true, decide_eq_true_eq] at h
  simp only [SeqAt.shaped, Bool.and_eq_true, decide_eq_true_eq, toD_lay, toD_dep p h.1]
  exact h
theorem data_of {p : PV} (h : eqOk p = true) : isData p = true := (Bool.and_eq_true_iff.mp h).1
section
variable {K : PySem.W.Frag} {A : Addr → Prop} {H : Hp}
mutual
theorem Rep.dp : ∀ {p : PV} {v : V}, isData p = true → Rep K A H p v → Dp K H v (toD p)
  | .non, _, _, h => by rw [show _ = V.non from h]; exact .non
  | .bl b, _, _, h => by rw [show _ = V.bl b from h]; exact .bl b
  | .int b, _, _, h => by rw [show _ = V.int b from h]; exact .int b
  | .str b, _, _, h => by rw [show _ = V.str (mkS b) from h]; exact .str _
  | .tup ps, _, d, h => by
    obtain ⟨a, xs, rfl, hs, r⟩ := h
    exact .tup (SqT.of hs) (Reps.dp (by simpa [isData] using d) r)
  | .lst ps, _, d, h => by
    obtain ⟨a, xs, rfl, _, hs, r⟩ := h
    exact .lst (SqL.of hs) (Reps.dp (by simpa [isData] using d) r)
  | .rol ps, _, d, h => by
    obtain ⟨a, xs, rfl, hs, r⟩ := h
    exact .lst hs.sq (Reps.dp (by simpa [isData] using d) r)
  | .dic _, _, d, _ => by simp [isData] at d
  | .dit _, _, d, _ => by simp [isData] at d
  | .ins _ _, _, d, _ => by simp [isData] at d
theorem Reps.dp : ∀ {ps : List PV} {vs : List V}, isDatas ps = true → Reps K A H ps vs → DpAll K H vs (toDs ps)
  | [], _, _, h => by rw [show _ = [] from h]; exact .nil
  | p :: ps, _, d, h => by
    obtain ⟨x, r, rfl, h1, h2⟩ := h
    simp only [isDatas, Bool.and_eq_true] at d
    exact .cons (Rep.dp d.1 h1) (Reps.dp d.2 h2)
end
end
def gEq : Cmp := fun p q => if eqOk p && eqOk q then some (pvEq p q) else none
def gNe : Cmp := fun p q => if eqOk p && eqOk q then some (!pvEq p q) else none
/-- room for what compares deeply -/
def Hu (X : Cx) : Prop := X.A.units + 150 < cLine
section
variable {X : Cx}
theorem Hu.u64 (h : Hu X) : X.A.units + 64 < cLine := by have : X.A.units + 150 < cLine := h; omega
theorem Hu.u65 (h : Hu X) : X.A.units + 65 < cLine := by have : X.A.units + 150 < cLine := h; omega
theorem Hu.u1 (h : Hu X) : X.A.units + 1 < cLine := by have : X.A.units + 150 < cLine := h; omega
theorem Hu.u0 (h : Hu X) : X.A.units < cLine := by have : X.A.units + 150 < cLine := h; omega
theorem cmp_eq : CmpOk X.K (rEqD X.K) gEq := fun p q b H v u Q hg r1 r2 hQ => by
  unfold gEq at hg
  split at hg
  · rename_i h
    simp only [Bool.and_eq_true] at h
    refine ⟨toD p, toD q, r1.dp (data_of h.1), r2.dp (data_of h.2), shaped_of h.1, shaped_of h.2, ?_⟩
    rw [toD_eqv p q (data_of h.1) (data_of h.2), Option.some.inj hg]
    exact hQ
  · cases hg
theorem cmp_ne : CmpOk X.K (rNeD X.K) gNe := fun p q b H v u Q hg r1 r2 hQ => by
  unfold gNe at hg
  split at hg
  · rename_i h
    simp only [Bool.and_eq_true] at h
    refine ⟨toD p, toD q, r1.dp (data_of h.1), r2.dp (data_of h.2), shaped_of h.1, shaped_of h.2, ?_⟩
    rw [toD_eqv p q (data_of h.1) (data_of h.2), Option.some.inj hg]
    exact hQ
  · cases hg
/-! ### is None -/
def isNonP : PV → Bool
  | .non => true
  | _ => false
def gIsN : Cmp := fun p q => match q with
  | .non => some (isNonP p)
  | _ => none
def gNotN : Cmp := fun p q => match q with
  | .non => some (!isNonP p)
  | _ => none
theorem rep_non {K : PySem.W.Frag} {A : Addr → Prop} {H : Hp} {p : PV} {v : V} (r : Rep K A H p v) : decide (v = .non) = isNonP p := by
  cases p with
  | non => rw [show v = .non from r]; rfl
  | bl b => rw [show v = .bl b from r]; rfl
  | int b => rw [show v = .int b from r]; rfl
  | str b => rw [show v = .str (mkS b) from r]; rfl
  | tup ps => obtain ⟨a, xs, rfl, _⟩ := r; rfl
  | lst ps => obtain ⟨a, xs, rfl, _⟩ := r; rfl
  | rol ps => obtain ⟨a, xs, rfl, _⟩ := r; rfl
  | dic ps => obtain ⟨a, xs, rfl, _⟩ := r; rfl
  | dit ps => obtain ⟨a, xs, rfl, _⟩ := r; rfl
  | ins c ps => obtain ⟨a, dx, xs, rfl, _⟩ := r; rfl
theorem cmp_isN : CmpOk X.K (fun x y H Q => y = .non ∧ Q (.bl (decide (x = .non))) H) gIsN := fun p q b H v u Q hg r1 r2 hQ => by
  cases q <;> simp only [gIsN, Option.some.injEq, reduceCtorEq] at hg
  exact ⟨r2, by rw [rep_non r1, hg]; exact hQ⟩
theorem cmp_notN : CmpOk X.K (fun x y H Q => y = .non ∧ Q (.bl (!decide (x = .non))) H) gNotN := fun p q b H v u Q hg r1 r2 hQ => by
  cases q <;> simp only [gNotN, Option.some.injEq, reduceCtorEq] at hg
  exact ⟨r2, by rw [rep_non r1, hg]; exact hQ⟩
/-! ### order -/
def txLt (x y : Tx) : Bool := decide (x.map Fin.val < y.map Fin.val)
def gOrd (fi : Int → Int → Bool) (fs : Tx → Tx → Bool) : Cmp := fun p q => match p, q with
  | .int i, .int j => some (fi i j)
  | .str x, .str y => some (fs x y)
  | _, _ => none
def rOrd (fi : Int → Int → Bool) (fs : List Nat → List Nat → Bool) : R2 := fun x y H Q => rI0 (fun i j => .bl (fi i j)) x y H Q ∨ ∃ i j, x = .str i ∧ y = .str j ∧ Q (.bl (fs i.cps.toList j.cps.toList)) H
theorem cmp_ord {fi : Int → Int → Bool} {fs : Tx → Tx → Bool} {fs' : List Nat → List Nat → Bool} (h : ∀ x y, fs' (x.map Fin.val) (y.map Fin.val) = fs x y) : CmpOk X.K (rOrd fi fs') (gOrd fi fs) := fun p q b H v u Q hg r1 r2 hQ => by
  cases p <;> cases q <;> simp only [gOrd, Option.some.injEq, reduceCtorEq] at hg
  · subst hg; exact .inl ⟨_, _, r1, r2, hQ⟩
  · subst hg
    refine .inr ⟨_, _, r1, r2, ?_⟩
    rw [mkS_cps, mkS_cps, h]
    exact hQ
abbrev gLt : Cmp := gOrd (fun i j => decide (i < j)) txLt
abbrev gGt : Cmp := gOrd (fun i j => decide (j < i)) fun x y => txLt y x
abbrev gLe : Cmp := gOrd (fun i j => decide (i ≤ j)) fun x y => !txLt y x
abbrev gGe : Cmp := gOrd (fun i j => decide (j ≤ i)) fun x y => !txLt x y

theorem opr_lt : OpR X (compareOp .Lt) (rOrd (fun i j => decide (i < j)) fun x y => decide (x < y)) := OpR.or op_lt op_lt_str
theorem opr_gt : OpR X (compareOp .Gt) (rOrd (fun i j => decide (j < i)) fun x y => decide (y < x)) := OpR.or op_gt op_gt_str
theorem opr_le : OpR X (compareOp .LtE) (rOrd (fun i j => decide (i ≤ j)) fun x y => !decide (y < x)) := OpR.or op_le op_le_str
theorem opr_ge : OpR X (compareOp .GtE) (rOrd (fun i j => decide (j ≤ i)) fun x y => !decide (x < y)) := OpR.or op_ge op_ge_str
theorem cmp_lt : CmpOk X.K (rOrd (fun i j => decide (i < j)) fun x y => decide (x < y)) gLt := cmp_ord fun _ _ => rfl
theorem cmp_gt : CmpOk X.K (rOrd (fun i j => decide (j < i)) fun x y => decide (y < x)) gGt := cmp_ord fun _ _ => rfl
theorem cmp_le : CmpOk X.K (rOrd (fun i j => decide (i ≤ j)) fun x y => !decide (y < x)) gLe := cmp_ord fun _ _ => rfl
theorem cmp_ge : CmpOk X.K (rOrd (fun i j => decide (j ≤ i)) fun x y => !decide (x < y)) gGe := cmp_ord fun _ _ => rfl

/-! ### in -/
def keyOf : PV → Option K1
  | .int i => some (.inl i)
  | .str x => some (.inr x)
  | _ => none
def keysOf : List PV → Option (List K1)
  | [] => some []
  | p :: ps => (keyOf p).bind fun k => (keysOf ps).map fun ks => k :: ks
def lookA {κ β : Type} [DecidableEq κ] (kvs : List (κ × β)) (k : κ) : Option β := (kvs.find? fun q => decide (q.1 = k)).map (·.2)
theorem rep_key {K : PySem.W.Frag} {A : Addr → Prop} {H : Hp} {p : PV} {v : V} {k : K1} (r : Rep K A H p v) (h : keyOf p = some k) : v = kV (k1 k) := by
  cases p <;> simp only [keyOf, Option.some.injEq, reduceCtorEq] at h
  · subst h; exact r
  · subst h; exact r
theorem reps_keys {K : PySem.W.Frag} {A : Addr → Prop} {H : Hp} : ∀ {ps : List PV} {vs : List V} {ks : List K1}, Reps K A H ps vs → keysOf ps = some ks → vs = (ks.map k1).map kV
  | [], _, _, r, h => by
    rw [show _ = [] from r]
    simp only [keysOf, Option.some.injEq] at h
    rw [← h]; rfl
  | p :: ps, _, ks, r, h => by
    obtain ⟨x, t, rfl, r1, r2⟩ := r
    simp only [keysOf] at h
    cases e : keyOf p with
    | none => rw [e] at h; cases h
    | some k =>
      rw [e] at h
      cases e2 : keysOf ps with
      | none => rw [e2] at h; cases h
      | some ks' =>
        rw [e2] at h
        cases h
        rw [rep_key r1 e, reps_keys r2 e2]; rfl
theorem key_dec (a b : K1) : decide (k1 a = k1 b) = decide (a = b) := by
  by_cases h : a = b
  · subst h; simp
  · rw [decide_eq_false h]; exact decide_eq_false fun e => h (k1_inj e)
theorem repK_val {K : PySem.W.Frag} {A : Addr → Prop} {H : Hp} (k : K1) : ∀ {kvs : List (K1 × PV)} {ks : List (Key × V)}, RepK K A H kvs ks →
    (lookA kvs k = none ∧ valV ks (k1 k) = none) ∨ ∃ p v, lookA kvs k = some p ∧ valV ks (k1 k) = some v ∧ Rep K A H p v
  | [], _, r => by rw [show _ = [] from r]; exact .inl ⟨rfl, rfl⟩
  | (j, p) :: kvs, _, r => by
    obtain ⟨x, t, rfl, r1, r2⟩ := r
    by_cases e : j = k
    · subst e
      exact .inr ⟨p, x, by simp [lookA], valV_pos rfl, r1⟩
    · have e1 : lookA ((j, p) :: kvs) k = lookA kvs k := by simp [lookA, List.find?_cons, e]
      have e2 : valV ((k1 j, x) :: t) (k1 k) = valV t (k1 k) := valV_neg fun z => e (k1_inj z)
      rw [e1, e2]
      exact repK_val k r2
theorem keys_inj {a b : List K1} (h : a.map k1 = b.map k1) : a = b := by
  induction a generalizing b with
  | nil => cases b with
    | nil => rfl
    | cons _ _ => simp at h
  | cons x a ih => cases b with
    | nil => simp at h
    | cons y b =>
      simp only [List.map_cons, List.cons.injEq] at h
      rw [k1_inj h.1, ih h.2]
theorem repT_val {K : PySem.W.Frag} {A : Addr → Prop} {H : Hp} (k : List K1) : ∀ {kvs : List (List K1 × PV)} {ks : List (List Key × V)}, RepT K A H kvs ks →
    (lookA kvs k = none ∧ valV ks (k.map k1) = none) ∨ ∃ p v, lookA kvs k = some p ∧ valV ks (k.map k1) = some v ∧ Rep K A H p v
  | [], _, r => by rw [show _ = [] from r]; exact .inl ⟨rfl, rfl⟩
  | (j, p) :: kvs, _, r => by
    obtain ⟨x, t, rfl, r1, r2⟩ := r
    by_cases e : j = k
    · subst e
      exact .inr ⟨p, x, by simp [lookA], valV_pos rfl, r1⟩
    · have e1 : lookA ((j, p) :: kvs) k = lookA kvs k := by simp [lookA, List.find?_cons, e]
      have e2 : valV ((j.map k1, x) :: t) (k.map k1) = valV t (k.map k1) := valV_neg fun z => e (keys_inj z)
      rw [e1, e2]
      exact repT_val k r2
/-- a dict's answer to a key -/
def lookD : PV → PV → Option (Option PV)
  | .dic kvs, k => (keyOf k).map fun k => lookA kvs k
  | .dit kvs, .tup ks => (keysOf ks).map fun k => lookA kvs k
  | _, _ => none
theorem dget_of {K : PySem.W.Frag} {A : Addr → Prop} {H : Hp} {d k : PV} {v u : V} {o : Option PV} (h : lookD d k = some o) (rd : RepI K A H d v) (rk : Rep K (fun _ => True) H k u) :
    ∃ a, v = .ref a ∧ IsD H a ∧ ((o = none ∧ DGet H a u none) ∨ ∃ p w, o = some p ∧ DGet H a u (some w) ∧ Rep K A H p w) := by
  cases d <;> simp only [lookD, reduceCtorEq] at h
  case dic kvs =>
    obtain ⟨a, ks, rfl, hr, r⟩ := rd
    cases e : keyOf k with
    | none => rw [e] at h; cases h
    | some k' =>
      rw [e] at h; cases h
      refine ⟨a, rfl, .inl ⟨_, hr⟩, ?_⟩
      rcases repK_val k' r with ⟨h1, h2⟩ | ⟨p, w, h1, h2, h3⟩
      · exact .inl ⟨h1, .inl ⟨ks, _, hr, rep_key rk e, h2.symm⟩⟩
      · exact .inr ⟨p, w, h1, .inl ⟨ks, _, hr, rep_key rk e, h2.symm⟩, h3⟩
  case dit kvs =>
    obtain ⟨a, ks, rfl, hr, r⟩ := rd
    cases k <;> simp only [reduceCtorEq] at h
    rename_i kk
    obtain ⟨b, xs, rfl, hb, r2⟩ := rk
    cases e : keysOf kk with
    | none => rw [e] at h; cases h
    | some k' =>
      rw [e] at h; cases h
      refine ⟨a, rfl, .inr ⟨_, hr⟩, ?_⟩
      rw [reps_keys r2 e] at hb
      rcases repT_val k' r with ⟨h1, h2⟩ | ⟨p, w, h1, h2, h3⟩
      · exact .inl ⟨h1, .inr ⟨ks, _, b, hr, rfl, hb, h2.symm⟩⟩
      · exact .inr ⟨p, w, h1, .inr ⟨ks, _, b, hr, rfl, hb, h2.symm⟩, h3⟩
def isFlat : PV → Bool
  | .non => true | .bl _ => true | .int _ => true | .str _ => true
  | _ => false
def gInB : PV → PV → Option Bool
  | p, .lst qs => if eqOk p && eqOk (.lst qs) then some (qs.any fun z => pvEq z p) else none
  | p, .rol qs => if eqOk p && eqOk (.rol qs) then some (qs.any fun z => pvEq z p) else none
  | p, .tup qs => if isFlat p && qs.all isFlat then some (qs.any fun z => pvEq z p) else none
  | .str [c], .str z => some (decide (c ∈ z))
  | p, d => (lookD d p).map (·.isSome)
def rInAll (K : PySem.W.Frag) (n : Bool) : R2 := fun x y H Q =>
  (∃ d ds, Dp K H x d ∧ Dp K H y (.list ds) ∧ SeqAt.shaped d = true ∧ SeqAt.shaped (.list ds) = true ∧ Q (.bl (n ^^ ds.any fun z => PyData.eqv z d)) H) ∨
  rIn K n x y H Q ∨ (∃ (c : Nat) (z : Str), x = .str ⟨#[c]⟩ ∧ y = .str z ∧ Q (.bl (n ^^ decide (c ∈ z.cps.toList))) H) ∨ ∃ a o, y = .ref a ∧ DGet H a x o ∧ Q (.bl (n ^^ o.isSome)) H
theorem opr_in (hu : Hu X) : OpR X (compareOp .In) (rInAll X.K false) := by
  rintro pins s σ H x y v u Q I rx ry (⟨d, ds, h1, h2, h3, h4, q⟩ | h | ⟨c, z, h1, h2, q⟩ | ⟨a, o, rfl, g, q⟩)
  · exact op_inD hu.u65 pins s σ H x y v u Q I rx ry ⟨d, ds, h1, h2, h3, h4, by simpa using q⟩
  · exact op_in_seq pins s σ H x y v u Q I rx ry h
  · exact op_in_sign pins s σ H x y v u Q I rx ry ⟨c, z, h1, h2, by simpa using q⟩
  · cases ry
    exact d_in hu.u1 I g rx fun s' I' => ⟨.bl _, H, I', rfl, by simpa using q⟩
theorem opr_notIn (hu : Hu X) : OpR X (compareOp .NotIn) (rInAll X.K true) := by
  rintro pins s σ H x y v u Q I rx ry (⟨d, ds, h1, h2, h3, h4, q⟩ | h | ⟨c, z, h1, h2, q⟩ | ⟨a, o, rfl, g, q⟩)
  · exact op_notInD hu.u65 pins s σ H x y v u Q I rx ry ⟨d, ds, h1, h2, h3, h4, by simpa using q⟩
  · exact op_notIn_seq pins s σ H x y v u Q I rx ry h
  · exact op_notIn_sign pins s σ H x y v u Q I rx ry ⟨c, z, h1, h2, by simpa using q⟩
  · cases ry
    exact d_notIn hu.u1 I g rx fun s' I' => ⟨.bl _, H, I', rfl, by simpa using q⟩
theorem any_toDs (p : PV) (hp : isData p = true) : ∀ (qs : List PV), isDatas qs = true → ((toDs qs).any fun z => PyData.eqv z (toD p)) = qs.any fun z => pvEq z p
  | [], _ => rfl
  | q :: qs, h => by
    simp only [isDatas, Bool.and_eq_true] at h
    simp only [toDs, List.any_cons, toD_eqv q p h.1 hp, any_toDs p hp qs h.2]
theorem rep_flat {K : PySem.W.Frag} {A : Addr → Prop} {H : Hp} {p : PV} {v : V} (f : isFlat p = true) (r : Rep K A H p v) : flatV v = true := by
  cases p <;> simp only [isFlat, reduceCtorEq] at f
  · rw [show v = .non from r]; rfl
  · rename_i b; rw [show v = .bl b from r]; rfl
  · rename_i b; rw [show v = .int b from r]; rfl
  · rename_i b; rw [show v = .str (mkS b) from r]; rfl
theorem eqV_pv {K : PySem.W.Frag} {A : Addr → Prop} {H : Hp} {p q : PV} {v u : V} (fp : isFlat p = true) (fq : isFlat q = true) (r : Rep K A H p v) (r2 : Rep K A H q u) : eqV v u = pvEq p q := by
  cases p <;> simp only [isFlat, reduceCtorEq] at fp <;> cases q <;> simp only [isFlat, reduceCtorEq] at fq <;> simp only [Rep] at r r2 <;> subst r r2 <;> simp only [eqV, pvEq]
  exact str_beq _ _
theorem in_flat {K : PySem.W.Frag} {A : Addr → Prop} {H : Hp} {p : PV} {v : V} (fp : isFlat p = true) (r : Rep K A H p v) : ∀ {qs : List PV} {us : List V}, qs.all isFlat = true → Reps K A H qs us → us.all flatV = true ∧ inV v us = qs.any fun z => pvEq z p
  | [], _, _, h => by rw [show _ = [] from h]; exact ⟨rfl, rfl⟩
  | q :: qs, _, f, h => by
    obtain ⟨x, t, rfl, h1, h2⟩ := h
    simp only [List.all_cons, Bool.and_eq_true] at f
    obtain ⟨e1, e2⟩ := in_flat fp r f.2 h2
    refine ⟨by simp [rep_flat f.1 h1, e1], ?_⟩
    unfold inV at e2 ⊢
    simp only [List.any_cons, eqV_pv f.1 fp h1 r, e2]
theorem cmp_inG (n : Bool) : CmpOk X.K (rInAll X.K n) (fun p q => (gInB p q).map (n ^^ ·)) := fun p q b H v u Q hg r1 r2 hQ => by
  dsimp only at hg
  cases e : gInB p q with
  | none => rw [e] at hg; cases hg
  | some b' =>
    rw [e] at hg
    cases hg
    have lst : ∀ qs ds, (eqOk p && eqOk q) = true → Dp X.K H u (.list ds) → toD q = .list ds → ds = toDs qs → isDatas qs = true → b' = (qs.any fun z => pvEq z p) → rInAll X.K n v u H Q := fun qs ds h d1 d2 d3 d4 d5 => by
      simp only [Bool.and_eq_true] at h
      refine .inl ⟨toD p, ds, r1.dp (data_of h.1), d1, shaped_of h.1, d2 ▸ shaped_of h.2, ?_⟩
      rw [d3, any_toDs p (data_of h.1) qs d4, ← d5]
      exact hQ
    have dict : (lookD q p).map (·.isSome) = some b' → rInAll X.K n v u H Q := fun h => by
      cases e2 : lookD q p with
      | none => rw [e2] at h; cases h
      | some o =>
        rw [e2] at h; cases h
        obtain ⟨a, rfl, _, h | ⟨p', w, rfl, g, _⟩⟩ := dget_of e2 (Rep.toI r2) r1
        · obtain ⟨rfl, g⟩ := h
          exact .inr (.inr (.inr ⟨a, none, rfl, g, hQ⟩))
        · exact .inr (.inr (.inr ⟨a, some w, rfl, g, hQ⟩))
    cases q with
    | lst qs =>
      simp only [gInB] at e
      split at e
      · rename_i h
        have hd : isDatas qs = true := by have := data_of (Bool.and_eq_true_iff.mp h).2; simpa [isData] using this
        exact lst qs _ h (by have := r2.dp (data_of (Bool.and_eq_true_iff.mp h).2); simpa [toD] using this) rfl rfl hd (Option.some.inj e).symm
      · cases e
    | rol qs =>
      simp only [gInB] at e
      split at e
      · rename_i h
        have hd : isDatas qs = true := by have := data_of (Bool.and_eq_true_iff.mp h).2; simpa [isData] using this
        exact lst qs _ h (by have := r2.dp (data_of (Bool.and_eq_true_iff.mp h).2); simpa [toD] using this) rfl rfl hd (Option.some.inj e).symm
      · cases e
    | tup qs =>
      simp only [gInB] at e
      split at e
      · rename_i h
        simp only [Bool.and_eq_true] at h
        obtain ⟨a, xs, rfl, ha, r⟩ := r2
        obtain ⟨f1, f2⟩ := in_flat h.1 r1 h.2 r
        refine .inr (.inl ⟨a, xs, rfl, .inr (SqT.of ha), rep_flat h.1 r1, f1, ?_⟩)
        rw [f2, Option.some.inj e]
        cases n <;> simpa using hQ
      · cases e
    | str z =>
      cases p with
      | str x =>
        match x, e, r1 with
        | [], e, _ => simp [gInB, lookD] at e
        | [c], e, r1 =>
          simp only [gInB, Option.some.injEq] at e
          refine .inr (.inr (.inl ⟨c.val, mkS z, by rw [mkS_sign]; exact r1, r2, ?_⟩))
          have : decide (c.val ∈ (mkS z).cps.toList) = decide (c ∈ z) := by
            rw [mkS_cps]
            congr 1
            simp only [List.mem_map, eq_iff_iff]
            exact ⟨fun ⟨d, h1, h2⟩ => by rw [← Fin.ext h2]; exact h1, fun h => ⟨c, h, rfl⟩⟩
          rw [this, e]
          exact hQ
        | _ :: _ :: _, e, _ => simp [gInB, lookD] at e
      | _ => simp [gInB, lookD] at e
    | dic kvs => exact dict (by cases p <;> first | exact e | (rename_i x; cases x with | nil => exact e | cons c r => cases r <;> exact e))
    | dit kvs => exact dict (by cases p <;> first | exact e | (rename_i x; cases x with | nil => exact e | cons c r => cases r <;> exact e))
    | non => simp [gInB, lookD] at e
    | bl b => simp [gInB, lookD] at e
    | int b => simp [gInB, lookD] at e
    | ins c b => simp [gInB, lookD] at e
def gIn : Cmp := gInB
def gNotIn : Cmp := fun p q => (gInB p q).map (!·)
theorem cmp_in : CmpOk X.K (rInAll X.K false) gIn := fun p q b H v u Q hg => cmp_inG false p q b H v u Q (by simp only [gIn] at hg; dsimp only; rw [hg]; simp)
theorem cmp_notIn : CmpOk X.K (rInAll X.K true) gNotIn := fun p q b H v u Q hg => cmp_inG true p q b H v u Q (by simp only [gNotIn] at hg; simpa using hg)
end
end Fz
end
section
/-! FwF: +, *, subscripts, slices, displays, built-in calls, methods that read. -/
namespace Fz
open PySem PySem.Spec PyProof.Rows L2

/-- what follows a thing just made -/
def KO (K : PySem.W.Frag) (A : Addr → Prop) (H : Hp) (t : OT) (Q : VK) : Prop :=
  ∀ w H' Fn, Same H H' → Fn.Nodup → (∀ a ∈ Fn, H a = none) → OTRep K (fun a => A a ∧ a ∉ Fn) H' t w Fn → Q w H'
section
variable {K : PySem.W.Frag} {A : Addr → Prop} {H : Hp} {Q : VK}
theorem KO.rep {p : PV} {v : V} (k : KO K A H (.fz p) Q) (r : Rep K A H p v) : Q v H := k v H [] (Same.refl H) List.nodup_nil (fun _ h => nomatch h) ⟨rfl, Rep.sub (fun a q => ⟨q, fun h => nomatch h⟩) r⟩
theorem KO.repS {p : PV} {v : V} {H' : Hp} (k : KO K A H (.fz p) Q) (s : Same H H') (r : Rep K A H' p v) : Q v H' := k v H' [] s List.nodup_nil (fun _ h => nomatch h) ⟨rfl, Rep.sub (fun a q => ⟨q, fun h => nomatch h⟩) r⟩
theorem same_upd {p : Addr} {o : HO} (h : H p = none) : Same H (upd H p o) := fun b x e => by rw [upd_ne (ne_of_none e h)]; exact e
theorem carry_new {p : Addr} {o : HO} (h : H p = none) : Carry A (fun a => A a ∧ a ∉ [p]) H (upd H p o) :=
  Carry.mk' (fun a x q e => ⟨q, fun z => by rw [List.mem_singleton.mp z, h] at e; cases e⟩) (fun a x _ e => same_upd h a x e) (fun a xs e => same_upd h a _ e) fun a x u e => same_upd h a _ e
theorem KO.l {ps : List PV} {xs : List V} (k : KO K A H (.l ps) Q) (r : Reps K A H ps xs) (p : Addr) (hp : H p = none) : Q (.ref p) (upd H p (.lst xs)) :=
  k _ _ [p] (same_upd hp) (by simp) (fun a h => by rw [List.mem_singleton.mp h]; exact hp) ⟨p, xs, rfl, rfl, upd_same, Reps.carry (carry_new hp) r⟩
theorem KO.d {ps : List (K1 × PV)} {xs : List (Key × V)} (k : KO K A H (.d ps) Q) (r : RepK K A H ps xs) (p : Addr) (hp : H p = none) : Q (.ref p) (upd H p (.dK xs)) :=
  k _ _ [p] (same_upd hp) (by simp) (fun a h => by rw [List.mem_singleton.mp h]; exact hp) ⟨p, xs, rfl, rfl, upd_same, RepK.carry (carry_new hp) r⟩
theorem KO.t {ps : List PV} {xs : List V} (k : KO K A H (.fz (.tup ps)) Q) (r : Reps K A H ps xs) (p : Addr) (hp : H p = none) : Q (.ref p) (upd H p (.tup xs)) :=
  k.repS (same_upd hp) ⟨p, xs, rfl, upd_same, Reps.carry (Carry.same (same_upd hp) fun _ q => q) r⟩
theorem KO.later {H1 : Hp} {t : OT} (k : KO K A H t Q) (s : Same H H1) : KO K A H1 t Q := fun w H' Fn s' n f r => k w H' Fn (s.trans s') n (fun a ha => by
  cases z : H a with
  | none => rfl
  | some o => have := f a ha; rw [s a o z] at this; cases this) r
end
section
variable {X : Cx} {C : Addr → Prop} {W : WX} {e e1 e2 e3 : Expr} {pos : Pos} {m m1 m2 m3 : Mode} {f f1 f2 f3 : E}

/-! ### a op b -/
def oBin (g : PV → PV → Option OT) (f1 f2 : E) : O := fun ρ => f1 ρ >>= fun x => f2 ρ >>= fun y => ofO (g x y)
def BinOk (K : PySem.W.Frag) (r : R2) (g : PV → PV → Option OT) : Prop := ∀ (A : Addr → Prop) H p q t v u Q, g p q = some t → RepI K A H p v → RepI K A H q u → KO K A H t Q → r v u H Q
theorem oj_bin {op : Operator} {r : R2} {g : PV → PV → Option OT} (ho : OpR X (binaryOp op) r) (hg : BinOk X.K r g) (h1 : EJ X C W .I e1 f1) (h2 : EJ X C W .I e2 f2) : OJ X C W (.BinOp e1 op e2 pos) (oBin g f1 f2) :=
  pe_weak (pe_op ho h1 h2) fun σ H Q ⟨ρ, fp, eo, o⟩ => two (m1 := .I) (m2 := .I) eo o fun p q v u H2 s eo2 o2 r1 r2 => by
    obtain ⟨t, ht, hQ⟩ := Out.ofO o2
    exact hg (Am C fp) H2 p q t v u Q ht r1 r2 (KO.later hQ s)
def gAdd : PV → PV → Option OT
  | .int i, .int j => some (.fz (.int (i + j)))
  | .str x, .str y => if x.length + y.length ≤ sizeLine then some (.fz (.str (x ++ y))) else none
  | .lst x, .lst y => if x.length + y.length ≤ sizeLine then some (.l (x ++ y)) else none
  | .tup x, .tup y => if x.isEmpty then none else if x.length + y.length ≤ sizeLine then some (.fz (.tup (x ++ y))) else none
  | _, _ => none
def rAddAll (K : PySem.W.Frag) : R2 := fun x y H Q => ((rI0 (fun i j => .int (i + j)) x y H Q ∨ ∃ i j, x = .str i ∧ y = .str j ∧ i.length + j.length ≤ sizeLine ∧ Q (.str (i ++ j)) H) ∨ rCat x y H Q) ∨ rCatT K x y H Q
theorem opr_add : OpR X (binaryOp .Add) (rAddAll X.K) := OpR.or (OpR.or (OpR.or op_add op_add_str) op_cat) op_catT
theorem bin_add : BinOk X.K (rAddAll X.K) gAdd := fun A H p q t v u Q hg r1 r2 k => by
  cases p <;> cases q <;> simp only [gAdd, reduceCtorEq] at hg
  · cases hg
    exact .inl (.inl (.inl ⟨_, _, r1, r2, k.rep rfl⟩))
  · split at hg
    · rename_i h
      cases hg
      refine .inl (.inl (.inr ⟨_, _, r1, r2, by rw [mkS_length, mkS_length]; exact h, ?_⟩))
      rw [mkS_append]
      exact k.rep rfl
    · cases hg
  · split at hg
    · cases hg
    · rename_i he
      split at hg
      · rename_i h
        cases hg
        obtain ⟨a, xs, rfl, ha, ra⟩ := r1
        obtain ⟨b, ys, rfl, hb, rb⟩ := r2
        rename_i ps qs
        refine .inr ⟨a, b, xs, ys, rfl, rfl, SqT.of ha, SqT.of hb, fun z => he ?_, by rw [ra.length, rb.length]; exact h, fun z => ?_, fun _ => k.t (ra.append rb)⟩
        · subst z; cases ps with
          | nil => rfl
          | cons p ps => obtain ⟨_, _, z, _⟩ := ra; cases z
        · subst z
          have : qs = [] := by
            cases qs with
            | nil => rfl
            | cons p ps => obtain ⟨_, _, z, _⟩ := rb; cases z
          subst this
          rw [List.append_nil] at k
          exact k.rep ⟨a, xs, rfl, ha, ra⟩
      · cases hg
  · split at hg
    · rename_i h
      cases hg
      obtain ⟨a, xs, rfl, ha, ra⟩ := r1
      obtain ⟨b, ys, rfl, hb, rb⟩ := r2
      exact .inl (.inr ⟨a, b, xs, ys, rfl, rfl, ha, hb, by rw [ra.length, rb.length]; exact h, k.l (ra.append rb)⟩)
    · cases hg
theorem oj_add (h1 : EJ X C W .I e1 f1) (h2 : EJ X C W .I e2 f2) : OJ X C W (.BinOp e1 .Add e2 pos) (oBin gAdd f1 f2) := oj_bin opr_add bin_add h1 h2
def gMul : PV → PV → Option OT
  | .int i, .int j => if (-(2 ^ 64) < i ∧ i < 2 ^ 64) ∨ (-(2 ^ 64) < j ∧ j < 2 ^ 64) then some (.fz (.int (i * j))) else none
  | .lst x, .int j => if -(2 ^ 63) ≤ j ∧ j < 2 ^ 63 ∧ x.length * j.toNat ≤ sizeLine then some (.l (List.replicate j.toNat x).flatten) else none
  | _, _ => none
theorem reps_rep {K : PySem.W.Frag} {A : Addr → Prop} {H : Hp} {ps : List PV} {vs : List V} (h : Reps K A H ps vs) : ∀ k : Nat, Reps K A H (List.replicate k ps).flatten (List.replicate k vs).flatten
  | 0 => rfl
  | k + 1 => by
    rw [List.replicate_succ, List.replicate_succ, List.flatten_cons, List.flatten_cons]
    exact h.append (reps_rep h k)
theorem opr_mul : OpR X (binaryOp .Mult) (fun x y H Q => rI CMul (fun i j => .int (i * j)) x y H Q ∨ rRep x y H Q) := OpR.or op_mul op_rep
theorem bin_mul : BinOk X.K (fun x y H Q => rI CMul (fun i j => .int (i * j)) x y H Q ∨ rRep x y H Q) gMul := fun A H p q t v u Q hg r1 r2 k => by
  cases p <;> cases q <;> simp only [gMul, reduceCtorEq] at hg
  · split at hg
    · rename_i h
      cases hg
      exact .inl ⟨_, _, r1, r2, h, k.rep rfl⟩
    · cases hg
  · split at hg
    · rename_i h
      cases hg
      obtain ⟨a, xs, rfl, ha, ra⟩ := r1
      exact .inr ⟨a, _, xs, rfl, r2, ha, h.1, h.2.1, by rw [ra.length]; exact h.2.2, k.l (reps_rep ra _)⟩
    · cases hg
theorem oj_mul (h1 : EJ X C W .I e1 f1) (h2 : EJ X C W .I e2 f2) : OJ X C W (.BinOp e1 .Mult e2 pos) (oBin gMul f1 f2) := oj_bin opr_mul bin_mul h1 h2

/-! ### a[b] -/
def gIx : PV → PV → Option PV
  | .lst ps, .int i => atI ps i
  | .rol ps, .int i => atI ps i
  | .tup ps, .int i => atI ps i
  | .str x, .int i => if x.length ≤ sizeLine then (atI x i).map fun c => .str [c] else none
  | d, k => (lookD d k).bind id
theorem reps_at {K : PySem.W.Frag} {A : Addr → Prop} {H : Hp} {ps : List PV} {vs : List V} {i : Int} {p : PV} (r : Reps K A H ps vs) (h : atI ps i = some p) : ∃ v, atI vs i = some v ∧ Rep K A H p v := by
  unfold atI at h ⊢
  rw [r.length]
  cases e : ixN ps.length i with
  | none => rw [e] at h; cases h
  | some j =>
    rw [e] at h
    exact r.get h
theorem str_at {x : Tx} {i : Int} {c : Ch} (h : atI x i = some c) : atI (mkS x).cps.toList i = some c.val := by
  rw [mkS_cps]
  unfold atI at h ⊢
  rw [List.length_map]
  cases e : ixN x.length i with
  | none => rw [e] at h; cases h
  | some j =>
    rw [e] at h
    simp only [Option.bind_some] at h ⊢
    rw [List.getElem?_map, h]; rfl
theorem pe_or' {t t' : TE} (h : PE X e t) (h' : PE X e t') : PE X e (fun σ H Q => t σ H Q ∨ t' σ H Q) := ⟨fun pins s σ H Q I q => q.elim (h.run pins s σ H Q I) (h'.run pins s σ H Q I)⟩
/-- the reading of a[b], whatever a is -/
theorem ix_read {A : Addr → Prop} {H : Hp} {p q z : PV} {v u : V} {Q : VK} (hz : gIx p q = some z) (r1 : RepI X.K A H p v) (r2 : Rep X.K (fun _ => True) H q u) (k : ∀ w, Rep X.K A H z w → Q w H) :
    rIx X.K v u H Q ∨ ∃ a w, v = .ref a ∧ DGet H a u (some w) ∧ Q w H := by
  have dict : (lookD p q).bind id = some z → ∃ a w, v = .ref a ∧ DGet H a u (some w) ∧ Q w H := fun h => by
    cases e : lookD p q with
    | none => rw [e] at h; cases h
    | some o =>
      rw [e] at h
      have h : o = some z := h
      obtain ⟨a, rfl, _, ⟨h', _⟩ | ⟨p', w, h', g, r⟩⟩ := dget_of e r1 r2
      · rw [h'] at h; cases h
      · rw [h'] at h; cases h
        exact ⟨a, w, rfl, g, k w r⟩
  cases p with
  | lst ps =>
    cases q <;> first | (simp [gIx, lookD] at hz; done) | skip
    obtain ⟨a, xs, rfl, ha, r⟩ := r1
    obtain ⟨w, hw, rw'⟩ := reps_at r hz
    exact .inl (.inl ⟨a, xs, _, w, rfl, r2, SqL.of ha, hw, k w rw'⟩)
  | rol ps =>
    cases q <;> first | (simp [gIx, lookD] at hz; done) | skip
    obtain ⟨a, xs, rfl, ha, r⟩ := r1
    obtain ⟨w, hw, rw'⟩ := reps_at r hz
    exact .inl (.inl ⟨a, xs, _, w, rfl, r2, ha.sq, hw, k w rw'⟩)
  | tup ps =>
    cases q <;> first | (simp [gIx, lookD] at hz; done) | skip
    obtain ⟨a, xs, rfl, ha, r⟩ := r1
    obtain ⟨w, hw, rw'⟩ := reps_at r hz
    exact .inl (.inr (.inl ⟨a, xs, _, w, rfl, r2, SqT.of ha, hw, k w rw'⟩))
  | str x =>
    cases q <;> first | (simp [gIx, lookD] at hz; done) | skip
    rename_i i
    simp only [gIx] at hz
    split at hz
    · rename_i hl
      cases e : atI x i with
      | none => rw [e] at hz; cases hz
      | some c =>
        rw [e] at hz
        cases hz
        refine .inl (.inr (.inr ⟨mkS x, i, c.val, r1, r2, by rw [mkS_length]; exact hl, str_at e, ?_⟩))
        rw [mkS_sign]
        exact k _ rfl
    · cases hz
  | dic kvs => exact .inr (dict (by cases q <;> exact hz))
  | dit kvs => exact .inr (dict (by cases q <;> exact hz))
  | non => cases q <;> simp [gIx, lookD] at hz
  | bl b => cases q <;> simp [gIx, lookD] at hz
  | int b => cases q <;> simp [gIx, lookD] at hz
  | ins c b => cases q <;> simp [gIx, lookD] at hz
def eIx (f1 f2 : E) : E := fun ρ => f1 ρ >>= fun x => f2 ρ >>= fun y => ofO (gIx x y)
theorem two_or {K : PySem.W.Frag} {σ : L2.St} {H : Hp} {fp : Fp} {ρ : Env} {α : Type} {k : PV → PV → Res α} {P : α → Prop} (eo : EnvOk K C ρ σ H fp)
    (o : Out (f1 ρ >>= fun x => f2 ρ >>= fun y => k x y) P (XQ K W σ H)) {R R' : V → V → Hp → Prop} (sel : PV → PV → Bool)
    (h : ∀ p q v u H2, Same H H2 → EnvOk K C ρ σ H2 fp → Out (k p q) P (XQ K W σ H) → RepM K C fp m1 H2 p v → RepM K C fp m2 H2 q u → (sel p q = true → R v u H2) ∧ (sel p q = false → R' v u H2)) :
    (tE K C W m1 f1 σ H fun x H1 => tE K C W m2 f2 σ H1 fun y H2 => R x y H2) ∨ tE K C W m1 f1 σ H fun x H1 => tE K C W m2 f2 σ H1 fun y H2 => R' x y H2 := by
  have main : ∀ (R2 : V → V → Hp → Prop) (b : Bool), (∀ p q, f1 ρ = .ok p → f2 ρ = .ok q → sel p q = b) → (∀ p q v u H2, Same H H2 → EnvOk K C ρ σ H2 fp → Out (k p q) P (XQ K W σ H) → RepM K C fp m1 H2 p v → RepM K C fp m2 H2 q u → sel p q = b → R2 v u H2) →
      tE K C W m1 f1 σ H fun x H1 => tE K C W m2 f2 σ H1 fun y H2 => R2 x y H2 := fun R2 b hb h2 => by
    refine ⟨ρ, fp, eo, (Out.bind o).and.mono (fun p ⟨e1, o1⟩ v H1 s1 r1 => ?_) fun _ _ q => q⟩
    refine ⟨ρ, fp, eo.same s1, (Out.bind o1).and.mono (fun q ⟨e2, o2⟩ u H2 s2 r2 => ?_) fun _ _ q => q.later s1⟩
    exact h2 p q v u H2 (s1.trans s2) (eo.same (s1.trans s2)) o2 (r1.same s2) r2 (hb p q e1 e2)
  by_cases hb : ∃ p q, f1 ρ = .ok p ∧ f2 ρ = .ok q ∧ sel p q = false
  · right
    obtain ⟨p0, q0, e1, e2, e3⟩ := hb
    refine main R' false (fun p q h1 h2 => by rw [e1] at h1; rw [e2] at h2; cases h1; cases h2; exact e3) fun p q v u H2 s eo2 o2 r1 r2 hs => (h p q v u H2 s eo2 o2 r1 r2).2 hs
  · left
    refine main R true (fun p q h1 h2 => by
      cases z : sel p q with
      | true => rfl
      | false => exact (hb ⟨p, q, h1, h2, z⟩).elim) fun p q v u H2 s eo2 o2 r1 r2 hs => (h p q v u H2 s eo2 o2 r1 r2).1 hs
def isDict : PV → Bool
  | .dic _ => true
  | .dit _ => true
  | _ => false
theorem ix_sel {A : Addr → Prop} {H : Hp} {p q z : PV} {v u : V} {Q : VK} (hz : gIx p q = some z) (r1 : RepI X.K A H p v) (r2 : Rep X.K (fun _ => True) H q u) (k : ∀ w, Rep X.K A H z w → Q w H) :
    ((!isDict p) = true → rIx X.K v u H Q) ∧ ((!isDict p) = false → ∃ a w, v = .ref a ∧ DGet H a u (some w) ∧ Q w H) := by
  have dict : ∀ q', gIx p q' = some z → isDict p = true → (lookD p q').bind id = some z := fun q' h d => by
    cases p <;> simp only [isDict, reduceCtorEq] at d <;> cases q' <;> exact h
  refine ⟨fun d => ?_, fun d => ?_⟩
  · cases p <;> simp only [isDict, Bool.not_true, Bool.not_false, reduceCtorEq] at d <;> cases q <;> first | (simp [gIx, lookD] at hz; done) | skip
    · rename_i x i
      simp only [gIx] at hz
      split at hz
      · rename_i hl
        cases e : atI x i with
        | none => rw [e] at hz; cases hz
        | some c =>
          rw [e] at hz
          cases hz
          refine .inr (.inr ⟨mkS x, i, c.val, r1, r2, by rw [mkS_length]; exact hl, str_at e, ?_⟩)
          rw [mkS_sign]
          exact k _ rfl
      · cases hz
    · obtain ⟨a, xs, rfl, ha, r⟩ := r1
      obtain ⟨w, hw, rw'⟩ := reps_at r hz
      exact .inr (.inl ⟨a, xs, _, w, rfl, r2, SqT.of ha, hw, k w rw'⟩)
    · obtain ⟨a, xs, rfl, ha, r⟩ := r1
      obtain ⟨w, hw, rw'⟩ := reps_at r hz
      exact .inl ⟨a, xs, _, w, rfl, r2, SqL.of ha, hw, k w rw'⟩
    · obtain ⟨a, xs, rfl, ha, r⟩ := r1
      obtain ⟨w, hw, rw'⟩ := reps_at r hz
      exact .inl ⟨a, xs, _, w, rfl, r2, ha.sq, hw, k w rw'⟩
  · have h := dict q hz (by cases z : isDict p <;> simp_all)
    cases e : lookD p q with
    | none => rw [e] at h; cases h
    | some o =>
      rw [e] at h
      have h : o = some z := h
      obtain ⟨a, rfl, _, ⟨h', _⟩ | ⟨p', w, h', g, r⟩⟩ := dget_of e r1 r2
      · rw [h'] at h; cases h
      · rw [h'] at h; cases h
        exact ⟨a, w, rfl, g, k w r⟩
/-- an item of what has common items -/
theorem ej_ix (hu : Hu X) (h1 : EJ X C W .I e1 f1) (h2 : EJ X C W m2 e2 f2) (hs : ∀ o i, subscripted e2 false o i = operate [o, i] (getItem o i) := by intro _ _; rfl) : EJ X C W .E (.Subscript e1 e2 pos) (eIx f1 f2) :=
  pe_weak (pe_or' (pe_ix ix_seq h1 h2 hs) (pe_dget hu.u1 h1 h2 hs)) fun σ H Q ⟨ρ, fp, eo, o⟩ =>
    two_or (m1 := .I) (m2 := m2) eo o (fun p _ => !isDict p) fun p q v u H2 s eo2 o2 r1 r2 => by
      obtain ⟨z, hz, hQ⟩ := Out.ofO o2
      exact ix_sel hz r1 (RepM.toB r2) fun w r => hQ w H2 s r
/-- .. to be looked at only -/
theorem ej_ixB (hu : Hu X) (h1 : EJ X C W .B e1 f1) (h2 : EJ X C W m2 e2 f2) (hs : ∀ o i, subscripted e2 false o i = operate [o, i] (getItem o i) := by intro _ _; rfl) : EJ X C W .B (.Subscript e1 e2 pos) (eIx f1 f2) :=
  pe_weak (pe_or' (pe_ix ix_seq h1 h2 hs) (pe_dget hu.u1 h1 h2 hs)) fun σ H Q ⟨ρ, fp, eo, o⟩ =>
    two_or (m1 := .B) (m2 := m2) eo o (fun p _ => !isDict p) fun p q v u H2 s eo2 o2 r1 r2 => by
      obtain ⟨z, hz, hQ⟩ := Out.ofO o2
      exact ix_sel (A := fun _ => True) hz (Rep.toI r1) (RepM.toB r2) fun w r => hQ w H2 s r
end
end Fz
end
section
/-! FwG: slices, displays, arguments, calls of built-ins. -/
namespace Fz
open PySem PySem.Spec PyProof.Rows L2
section
variable {X : Cx} {C : Addr → Prop} {W : WX} {e e1 e2 e3 : Expr} {pos p2 pn : Pos} {m m1 m2 m3 : Mode} {f f1 f2 f3 : E}

/-! ### slices -/
abbrev P := Env → Res (Option Int)
def tP (K : PySem.W.Frag) (C : Addr → Prop) (W : WX) (f : P) : TO := fun σ H Q => ∃ ρ fp, EnvOk K C ρ σ H fp ∧ Out (f ρ) (fun o => ∀ H', Same H H' → Q o H') (XQ K W σ H)
def PJ (X : Cx) (C : Addr → Prop) (W : WX) (e : Option Expr) (f : P) : Prop := PO X e (tP X.K C W f)
theorem po_weak {e : Option Expr} {t t' : TO} (h : PO X e t) (w : ∀ σ H Q, t' σ H Q → t σ H Q) : PO X e t' := ⟨fun pins s σ H Q I q => h.run pins s σ H Q I (w σ H Q q)⟩
def pNo : P := fun _ => .ok none
def intOf : PV → Res Int
  | .int i => .ok i
  | _ => .bad
def pAt (f : E) : P := fun ρ => f ρ >>= fun x => intOf x >>= fun i => .ok (some i)
theorem pj_none : PJ X C W none pNo := po_weak po_none fun σ H Q ⟨ρ, fp, eo, o⟩ => o H (Same.refl H)
theorem pj_some (h : EJ X C W m e f) : PJ X C W (some e) (pAt f) := po_weak (po_some h) fun σ H Q ⟨ρ, fp, eo, o⟩ => by
  refine ⟨ρ, fp, eo, (Out.bind o).mono (fun p o1 v H1 s1 r1 => ?_) fun _ _ q => q⟩
  cases p with
  | int i => exact ⟨i, RepM.toB r1, o1 H1 s1⟩
  | _ => exact o1.elim
def cut {α : Type} (xs : List α) (lo hi : Option Int) : List α := (xs.drop (HT.sIx xs.length 0 lo)).take (HT.sIx xs.length xs.length hi - HT.sIx xs.length 0 lo)
def gSl : PV → Option Int → Option Int → Option OT
  | .lst ps, lo, hi => some (.l (cut ps lo hi))
  | .rol ps, lo, hi => some (.l (cut ps lo hi))
  | .str x, lo, hi => if x.length ≤ sizeLine then some (.fz (.str (cut x lo hi))) else none
  | .tup ps, lo, hi => if HT.sIx ps.length 0 lo = 0 ∧ HT.sIx ps.length ps.length hi = ps.length then none else some (.fz (.tup (cut ps lo hi)))
  | _, _, _ => none
theorem reps_cut {K : PySem.W.Frag} {A : Addr → Prop} {H : Hp} {ps : List PV} {vs : List V} (r : Reps K A H ps vs) (lo hi : Option Int) : Reps K A H (cut ps lo hi) (cutV vs lo hi) := by
  unfold cut cutV
  rw [r.length]
  exact (r.drop _).take _
theorem cutS_mk (x : Tx) (lo hi : Option Int) : cutS (mkS x) lo hi = mkS (cut x lo hi) := by
  unfold cutS cut
  rw [mkS_length, mkS_cps, mkS, ← List.map_drop, ← List.map_take]
def oSl (f : E) (lo hi : P) : O := fun ρ => f ρ >>= fun x => lo ρ >>= fun l => hi ρ >>= fun u => ofO (gSl x l u)
theorem oj_sl {lo hi : Option Expr} {pl ph : P} (h : EJ X C W .I e f) (hl : PJ X C W lo pl) (hh : PJ X C W hi ph) : OJ X C W (.Subscript e (.Slice lo hi none p2) pos) (oSl f pl ph) :=
  pe_weak (pe_slice (SlR.or (SlR.or sl_list sl_str) sl_tup) h hl hh) fun σ H Q ⟨ρ, fp, eo, o⟩ => by
    refine ⟨ρ, fp, eo, (Out.bind o).mono (fun p o1 v H1 s1 r1 => ?_) fun _ _ q => q⟩
    refine ⟨ρ, fp, eo.same s1, (Out.bind o1).mono (fun l o2 H2 s2 => ?_) fun _ _ q => q.later s1⟩
    refine ⟨ρ, fp, eo.same (s1.trans s2), (Out.bind o2).mono (fun u o3 H3 s3 => ?_) fun _ _ q => q.later (s1.trans s2)⟩
    obtain ⟨t, ht, hQ⟩ := Out.ofO o3
    have k : KO X.K (Am C fp) H3 t Q := KO.later hQ ((s1.trans s2).trans s3)
    have r : RepI X.K (Am C fp) H3 p v := r1.same (m := .I) (s2.trans s3)
    clear hQ o1 o2 o3
    cases p <;> simp only [gSl, reduceCtorEq] at ht
    · split at ht
      · rename_i hz
        cases ht
        refine .inl (.inr ⟨_, r, by rw [mkS_length]; exact hz, ?_⟩)
        rw [cutS_mk]
        exact k.rep rfl
      · cases ht
    · split at ht
      · cases ht
      · rename_i hw
        cases ht
        obtain ⟨a, xs, rfl, ha, rr⟩ := r
        exact .inr ⟨a, xs, rfl, SqT.of ha, by rw [rr.length]; exact hw, k.t (reps_cut rr l u)⟩
    · cases ht
      obtain ⟨a, xs, rfl, ha, rr⟩ := r
      exact .inl (.inl ⟨a, xs, rfl, SqL.of ha, k.l (reps_cut rr l u)⟩)
    · cases ht
      obtain ⟨a, xs, rfl, ha, rr⟩ := r
      exact .inl (.inl ⟨a, xs, rfl, ha.sq, k.l (reps_cut rr l u)⟩)
/-- xs[::-1] -/
def tRev (K : PySem.W.Frag) (te ts : TE) : TE := fun σ H Q => te σ H fun x H1 => ts σ H1 fun y H2 => y = .int (-1) ∧ ∃ a xs, x = .ref a ∧ SqL K H2 a xs ∧ ∀ p, H2 p = none → Q (.ref p) (upd H2 p (.lst xs.reverse))
theorem pe_rev {te ts : TE} (he : PE X e te) (hs : PE X e2 ts) : PE X (.Subscript e (.Slice none none (some e2) p2) pos) (tRev X.K te ts) := by
  refine ⟨fun pins s σ H Q I h => ?_⟩
  refine Subscript_ (thn (he.run pins s σ H _ I h) fun v s1 ⟨x, H1, I1, r1, q1⟩ => ?_)
  refine wpAny_Slice ?_
  rw [evalPart_none, evalPart_some]
  refine wpAny_pure (wpAny_pure (thn (hs.run pins s1 σ H1 _ I1 q1) fun vk s3 ⟨y, H3, I3, rk, hy, a, xs, hx, hl, q3⟩ => ?_))
  subst hx hy
  cases r1
  obtain ⟨t, rfl⟩ := rk
  have I4 : Inv X pins σ H3 { s3 with heap := s3.heap.push { cls := .type "slice", data := .fields #[.none, .none, .int (-1) t] } } := I3.kept (t' := s3.toks) fun b ob q => Heap.get?_push_of_some _ q
  obtain ⟨its, r, ht, hz⟩ := I4.list hl
  have hlen := r.length
  refine tail_any (T := "list") (ops := [.ref a, .ref s3.heap.objs.size]) ht.isList.typeIs slot_list_getitem.lookup ?_ (by with_unfolding_all rfl)
  refine wpAny_getItem_list_slice ht.isList (Heap.IsSliceOf.new ..) .none .none (.int _ _) (by simp) ?_ (by rw [List.size_toArray] <;> omega)
  rw [PySem.W.krv_pick]
  refine ⟨.ref _, _, I4.laid (t' := s3.toks) (o := .lst xs.reverse) (fun b ob q => Heap.get?_push_of_some _ q) (Nat.le_refl _) ?_, rfl, q3 _ (I4.hok.fresh (Nat.le_refl _))⟩
  exact ⟨by rw [List.length_reverse]; exact hz, _, 0, r.reverse, Heap.get?_push_size _ rfl⟩
def gRev : PV → PV → Option OT
  | .lst ps, .int i => if i = -1 then some (.l ps.reverse) else none
  | .rol ps, .int i => if i = -1 then some (.l ps.reverse) else none
  | _, _ => none
theorem oj_rev (h : EJ X C W .I e f) (h2 : EJ X C W m2 e2 f2) : OJ X C W (.Subscript e (.Slice none none (some e2) p2) pos) (oBin gRev f f2) :=
  pe_weak (pe_rev h h2) fun σ H Q ⟨ρ, fp, eo, o⟩ => two (m1 := .I) (m2 := m2) eo o fun p q v u H2 s eo2 o2 r1 r2 => by
    obtain ⟨t, ht, hQ⟩ := Out.ofO o2
    have k : KO X.K (Am C fp) H2 t Q := KO.later hQ s
    have r : RepI X.K (Am C fp) H2 p v := r1
    have r2 := RepM.toB r2
    cases p <;> cases q <;> simp only [gRev, reduceCtorEq] at ht
    · split at ht
      · rename_i hi; subst hi; cases ht
        obtain ⟨a, xs, rfl, ha, rr⟩ := r
        exact ⟨r2, a, xs, rfl, SqL.of ha, k.l rr.reverse⟩
      · cases ht
    · split at ht
      · rename_i hi; subst hi; cases ht
        obtain ⟨a, xs, rfl, ha, rr⟩ := r
        exact ⟨r2, a, xs, rfl, ha.sq, k.l rr.reverse⟩
      · cases ht

/-! ### displays: all items are common -/
def tLE (K : PySem.W.Frag) (C : Addr → Prop) (W : WX) (f : L) : TA := fun σ H Q => ∃ ρ fp, EnvOk K C ρ σ H fp ∧ Out (f ρ) (fun ps => ∀ vs H', Same H H' → Reps K (Am C fp) H' ps vs → Q vs H') (XQ K W σ H)
def LE (X : Cx) (C : Addr → Prop) (W : WX) (es : List Expr) (n : Nat) (f : L) : Prop := PA X es (tLE X.K C W f) ∧ ∀ ρ ps, f ρ = .ok ps → ps.length = n
def lNil : L := fun _ => .ok []
def lCons (f : E) (g : L) : L := fun ρ => f ρ >>= fun p => g ρ >>= fun ps => .ok (p :: ps)
theorem le_nil : LE X C W [] 0 lNil := ⟨pa_weak pa_nil fun σ H Q ⟨ρ, fp, eo, o⟩ => o [] H (Same.refl H) rfl, fun ρ ps h => by cases h; rfl⟩
theorem bind_ok_inv {α β : Type} {r : Res α} {k : α → Res β} {b : β} (h : (r >>= k) = .ok b) : ∃ a, r = .ok a ∧ k a = .ok b := by
  cases r with
  | ok a => exact ⟨a, rfl, h⟩
  | exc c fs => cases h
  | bad => cases h
theorem le_cons {es : List Expr} {n : Nat} {g : L} (h : EJ X C W .E e f) (h2 : LE X C W es n g) (hs : starEach (e :: es) X.env = (false, eval e X.env) :: starEach es X.env := by rfl) : LE X C W (e :: es) (n + 1) (lCons f g) := by
  refine ⟨pa_weak (pa_cons h h2.1 hs) fun σ H Q ⟨ρ, fp, eo, o⟩ => ?_, fun ρ ps hp => ?_⟩
  · refine ⟨ρ, fp, eo, (Out.bind o).mono (fun p o1 v H1 s1 r1 => ?_) fun _ _ q => q⟩
    refine ⟨ρ, fp, eo.same s1, (Out.bind o1).mono (fun ps o2 vs H2 s2 r2 => ?_) fun _ _ q => q.later s1⟩
    exact o2 (v :: vs) H2 (s1.trans s2) (Reps.cons (Rep.same (A := Am C fp) s2 r1) r2)
  · obtain ⟨p, _, hp⟩ := bind_ok_inv hp
    obtain ⟨qs, e2, hp⟩ := bind_ok_inv hp
    cases hp
    simp [h2.2 ρ qs e2]
def oLst (g : L) : O := fun ρ => g ρ >>= fun ps => .ok (.l ps)
def eTup (g : L) : E := fun ρ => g ρ >>= fun ps => .ok (.tup ps)
theorem oj_lst {es : List Expr} {n : Nat} {g : L} (h : LE X C W es n g) (hn : n ≤ sizeLine := by decide) : OJ X C W (.List es pos) (oLst g) := pe_weak (pe_lst h.1) fun σ H Q ⟨ρ, fp, eo, o⟩ => by
  refine ⟨ρ, fp, eo, (Out.bind o).and.mono (fun ps ⟨e1, o1⟩ vs H1 s1 r1 => ?_) fun _ _ q => q⟩
  exact ⟨by rw [r1.length, h.2 ρ ps e1]; exact hn, (KO.later (K := X.K) (A := Am C fp) (t := .l ps) o1 s1).l r1⟩
theorem ej_tup {es : List Expr} {n : Nat} {g : L} {k : Nat} (h : LE X C W es n g) (hn : n ≤ sizeLine := by decide) : EJ X C W .E (.Tuple es k pos) (eTup g) := pe_weak (pe_tup h.1) fun σ H Q ⟨ρ, fp, eo, o⟩ => by
  refine ⟨ρ, fp, eo, (Out.bind o).and.mono (fun ps ⟨e1, o1⟩ vs H1 s1 r1 => ?_) fun _ _ q => q⟩
  refine ⟨by rw [r1.length, h.2 ρ ps e1]; exact hn, fun p hp => o1 (.ref p) (upd H1 p (.tup vs)) (s1.trans (same_upd hp)) ⟨p, vs, rfl, upd_same, Reps.same (same_upd hp) r1⟩⟩

/-! ### arguments, each of its own mode -/
def LJ' (X : Cx) (C : Addr → Prop) (W : WX) (ms : List Mode) (es : List Expr) (f : L) : Prop := PA X es (tL X.K C W ms f)
theorem lj_nil : LJ' X C W [] [] lNil := pa_weak pa_nil fun σ H Q ⟨ρ, fp, eo, o⟩ => o [] H (Same.refl H) trivial
theorem RepMs.same {K : PySem.W.Frag} {fp : Fp} {H H' : Hp} (s : Same H H') : ∀ {ms : List Mode} {ps : List PV} {vs : List V}, RepMs K C fp H ms ps vs → RepMs K C fp H' ms ps vs
  | [], [], [], h => h
  | m :: ms, p :: ps, v :: vs, h => ⟨h.1.same s, RepMs.same s h.2⟩
theorem lj_cons {es : List Expr} {ms : List Mode} {g : L} (h : EJ X C W m e f) (h2 : LJ' X C W ms es g) (hs : starEach (e :: es) X.env = (false, eval e X.env) :: starEach es X.env := by rfl) : LJ' X C W (m :: ms) (e :: es) (lCons f g) :=
  pa_weak (pa_cons h h2 hs) fun σ H Q ⟨ρ, fp, eo, o⟩ => by
    refine ⟨ρ, fp, eo, (Out.bind o).mono (fun p o1 v H1 s1 r1 => ?_) fun _ _ q => q⟩
    refine ⟨ρ, fp, eo.same s1, (Out.bind o1).mono (fun ps o2 vs H2 s2 r2 => ?_) fun _ _ q => q.later s1⟩
    exact o2 (v :: vs) H2 (s1.trans s2) ⟨r1.same s2, r2⟩

/-! ### calls of built-ins with one argument -/
def oUn (g : PV → Option OT) (f : E) : O := fun ρ => f ρ >>= fun x => ofO (g x)
def Call1 (K : PySem.W.Frag) (r : List V → Hp → VK → Prop) (m : Mode) (g : PV → Option OT) : Prop := ∀ (C : Addr → Prop) fp H p t v Q, g p = some t → RepM K C fp m H p v → KO K (Am C fp) H t Q → r [v] H Q
/-- .. whose answer is an atom -/
def Call1A (K : PySem.W.Frag) (r : List V → Hp → VK → Prop) (g : PV → Option PV) : Prop := ∀ H p z v Q, g p = some z → Rep K (fun _ => True) H p v → (∀ w, Atom K z w → Q w H) → r [v] H Q
theorem read1 {r : List V → Hp → VK → Prop} {m : Mode} {g : PV → Option OT} (hg : Call1 X.K r m g) {σ : L2.St} {H : Hp} {Q : VK} (h : tO X.K C W (oUn g f) σ H Q) :
    tCons (tE X.K C W m f) tNil σ H fun vs H1 => r vs H1 Q := by
  obtain ⟨ρ, fp, eo, o⟩ := h
  refine ⟨ρ, fp, eo, (Out.bind o).mono (fun p o1 v H1 s1 r1 => ?_) fun _ _ q => q⟩
  obtain ⟨t, ht, hQ⟩ := Out.ofO o1
  exact hg C fp H1 p t v Q ht r1 (KO.later hQ s1)
theorem read1A {r : List V → Hp → VK → Prop} {g : PV → Option PV} (hg : Call1A X.K r g) {σ : L2.St} {H : Hp} {Q : VK} (h : tE X.K C W m (eUn g f) σ H Q) :
    tCons (tE X.K C W m1 f) tNil σ H fun vs H1 => r vs H1 Q := by
  obtain ⟨ρ, fp, eo, o⟩ := h
  refine ⟨ρ, fp, eo, (Out.bind o).mono (fun p o1 v H1 s1 r1 => ?_) fun _ _ q => q⟩
  obtain ⟨t, ht, hQ⟩ := Out.ofO o1
  exact hg H1 p t v Q ht (RepM.toB r1) fun w a => hQ w H1 s1 a.rm
variable {nid : String} {x : Str} {r : List V → Hp → VK → Prop} {g : PV → Option OT} {gA : PV → Option PV}
theorem oj_call1 (hc : CallR X (.builtin nid) r) (hg : Call1 X.K r m g) (hl : Gl X x) (hm : X.mg x = none) (hv : bootBuiltins x = some (.builtin nid)) (h : EJ X C W m e f) (hn : x ≠ "__name__" := by decide) (hdb : (x == ("__debug__" : Str)) = false := by decide)
    (he : starEach [e] X.env = (false, eval e X.env) :: starEach [] X.env := by rfl) (hpl : (backTo pos (starEach [] X.env)).any (·.1) = false := by rfl) : OJ X C W (.Call (.Name x pn) [e] [] pos) (oUn g f) :=
  pe_weak (pe_callB hc hl hm hv (pa_cons h pa_nil he) hn hdb he hpl) fun σ H Q h => read1 hg h
theorem ej_call1 (hc : CallR X (.builtin nid) r) (hg : Call1A X.K r gA) (hl : Gl X x) (hm : X.mg x = none) (hv : bootBuiltins x = some (.builtin nid)) (h : EJ X C W m1 e f) (hn : x ≠ "__name__" := by decide) (hdb : (x == ("__debug__" : Str)) = false := by decide)
    (he : starEach [e] X.env = (false, eval e X.env) :: starEach [] X.env := by rfl) (hpl : (backTo pos (starEach [] X.env)).any (·.1) = false := by rfl) : EJ X C W m (.Call (.Name x pn) [e] [] pos) (eUn gA f) :=
  pe_weak (pe_callB hc hl hm hv (pa_cons h pa_nil he) hn hdb he hpl) fun σ H Q h => read1A hg h
theorem oj_callT1 (hc : CallR X (.type nid) r) (hg : Call1 X.K r m g) (hl : Gl X x) (hm : X.mg x = none) (hv : bootBuiltins x = some (.type nid)) (h : EJ X C W m e f) (hn : x ≠ "__name__" := by decide) (hdb : (x == ("__debug__" : Str)) = false := by decide)
    (he : starEach [e] X.env = (false, eval e X.env) :: starEach [] X.env := by rfl) (hpl : (backTo pos (starEach [] X.env)).any (·.1) = false := by rfl) : OJ X C W (.Call (.Name x pn) [e] [] pos) (oUn g f) :=
  pe_weak (pe_callTy hc hl hm hv (pa_cons h pa_nil he) hn hdb he hpl) fun σ H Q h => read1 hg h
theorem ej_callT1 (hc : CallR X (.type nid) r) (hg : Call1A X.K r gA) (hl : Gl X x) (hm : X.mg x = none) (hv : bootBuiltins x = some (.type nid)) (h : EJ X C W m1 e f) (hn : x ≠ "__name__" := by decide) (hdb : (x == ("__debug__" : Str)) = false := by decide)
    (he : starEach [e] X.env = (false, eval e X.env) :: starEach [] X.env := by rfl) (hpl : (backTo pos (starEach [] X.env)).any (·.1) = false := by rfl) : EJ X C W m (.Call (.Name x pn) [e] [] pos) (eUn gA f) :=
  pe_weak (pe_callTy hc hl hm hv (pa_cons h pa_nil he) hn hdb he hpl) fun σ H Q h => read1A hg h

/-- len -/
def gLen : PV → Option PV
  | .str x => if x.length ≤ sizeLine then some (.int x.length) else none
  | .lst ps => some (.int ps.length)
  | .rol ps => some (.int ps.length)
  | .tup ps => some (.int ps.length)
  | _ => none
theorem c_len : Call1A X.K (fun xs H Q => ∃ x n, xs = [x] ∧ LenV X.K x H n ∧ Q (.int n) H) gLen := fun H p z v Q hg r k => by
  cases p <;> simp only [gLen, Option.some.injEq, reduceCtorEq] at hg
  · split at hg
    · rename_i h
      cases hg
      exact ⟨v, _, rfl, by rw [show v = .str (mkS _) from r]; exact ⟨by rw [mkS_length]; exact h, (mkS_length _).symm⟩, k _ (atom_int _)⟩
    · cases hg
  · subst hg; obtain ⟨a, xs, rfl, ha, rr⟩ := r; exact ⟨_, _, rfl, .inr ⟨xs, SqT.of ha, rr.length.symm⟩, k _ (atom_int _)⟩
  · subst hg; obtain ⟨a, xs, rfl, _, ha, rr⟩ := r; exact ⟨_, _, rfl, .inl ⟨xs, SqL.of ha, rr.length.symm⟩, k _ (atom_int _)⟩
  · subst hg; obtain ⟨a, xs, rfl, ha, rr⟩ := r; exact ⟨_, _, rfl, .inl ⟨xs, ha.sq, rr.length.symm⟩, k _ (atom_int _)⟩
/-- list(..), tuple(..) -/
def gList : PV → Option OT
  | .lst ps => some (.l ps)
  | .rol ps => some (.l ps)
  | .tup ps => some (.l ps)
  | _ => none
theorem c_list : Call1 X.K (fun xs H Q => ∃ p ys, xs = [.ref p] ∧ (SqL X.K H p ys ∨ SqT X.K H p ys) ∧ ∀ l, H l = none → Q (.ref l) (upd H l (.lst ys))) .I gList := fun C fp H p t v Q hg r k => by
  cases p <;> simp only [gList, Option.some.injEq, reduceCtorEq] at hg
  · subst hg; obtain ⟨a, xs, rfl, ha, rr⟩ := r; exact ⟨a, xs, rfl, .inr (SqT.of ha), k.l rr⟩
  · subst hg; obtain ⟨a, xs, rfl, ha, rr⟩ := r; exact ⟨a, xs, rfl, .inl (SqL.of ha), k.l rr⟩
  · subst hg; obtain ⟨a, xs, rfl, ha, rr⟩ := r; exact ⟨a, xs, rfl, .inl ha.sq, k.l rr⟩
def gTuple : PV → Option OT
  | .lst ps => some (.fz (.tup ps))
  | .rol ps => some (.fz (.tup ps))
  | .tup ps => some (.fz (.tup ps))
  | _ => none
theorem c_tuple : Call1 X.K (fun xs H Q => ∃ p ys, xs = [.ref p] ∧ ((SqL X.K H p ys ∧ ∀ l, H l = none → Q (.ref l) (upd H l (.tup ys))) ∨ (SqT X.K H p ys ∧ Q (.ref p) H))) .I gTuple := fun C fp H p t v Q hg r k => by
  cases p <;> simp only [gTuple, Option.some.injEq, reduceCtorEq] at hg
  · subst hg; obtain ⟨a, xs, rfl, ha, rr⟩ := r; exact ⟨a, xs, rfl, .inr ⟨SqT.of ha, k.rep ⟨a, xs, rfl, ha, rr⟩⟩⟩
  · subst hg; obtain ⟨a, xs, rfl, ha, rr⟩ := r; exact ⟨a, xs, rfl, .inl ⟨SqL.of ha, k.t rr⟩⟩
  · subst hg; obtain ⟨a, xs, rfl, ha, rr⟩ := r; exact ⟨a, xs, rfl, .inl ⟨ha.sq, k.t rr⟩⟩
/-- int(..), str(..) of a whole number -/
def gInt : PV → Option PV
  | .int i => some (.int i)
  | .bl b => some (.int (if b then 1 else 0))
  | _ => none
theorem c_int : Call1A X.K (fun xs H Q => (∃ i, xs = [.int i] ∧ Q (.int i) H) ∨ ∃ k, xs = [.bl k] ∧ Q (.int (if k then 1 else 0)) H) gInt := fun H p z v Q hg r k => by
  cases p <;> simp only [gInt, Option.some.injEq, reduceCtorEq] at hg
  · subst hg; exact .inr ⟨_, by rw [show v = .bl _ from r], k _ (atom_int _)⟩
  · subst hg; exact .inl ⟨_, by rw [show v = .int _ from r], k _ (atom_int _)⟩
theorem char_lt (c : Char) : c.toNat < 1114112 := by
  have h := c.valid
  simp only [UInt32.isValidChar, Nat.isValidChar] at h
  have : c.toNat = c.val.toNat := rfl
  omega
/-- a text of Lean's -/
def txt (s : String) : Tx := s.toList.map fun c => ⟨c.toNat, char_lt c⟩
theorem mkS_txt (s : String) : mkS (txt s) = Str.ofString s := by
  rw [Str.ofString_eq_toList, mkS, txt, List.map_map]
  rfl
def gStr : PV → Option PV
  | .int i => if i.natAbs.log2 < 1920 then some (.str (txt (toString i))) else none
  | _ => none
theorem c_str : Call1A X.K (fun xs H Q => ∃ i, xs = [.int i] ∧ i.natAbs.log2 < 1920 ∧ Q (.str (toString i)) H) gStr := fun H p z v Q hg r k => by
  cases p <;> simp only [gStr, reduceCtorEq] at hg
  split at hg
  · rename_i h
    cases hg
    exact ⟨_, by rw [show v = .int _ from r], h, k _ (by rw [← mkS_txt]; exact atom_str _)⟩
  · cases hg
/-- all, any of truths -/
def bools : List PV → Option (List Bool)
  | [] => some []
  | .bl b :: ps => (bools ps).map (b :: ·)
  | _ :: _ => none
theorem reps_bools {K : PySem.W.Frag} {A : Addr → Prop} {H : Hp} : ∀ {ps : List PV} {vs : List V} {bs : List Bool}, Reps K A H ps vs → bools ps = some bs → vs = bs.map V.bl
  | [], _, _, r, h => by
    rw [show _ = [] from r]
    simp only [bools, Option.some.injEq] at h
    rw [← h]; rfl
  | p :: ps, _, bs, r, h => by
    obtain ⟨x, t, rfl, r1, r2⟩ := r
    cases p <;> simp only [bools, reduceCtorEq] at h
    cases e : bools ps with
    | none => rw [e] at h; cases h
    | some cs =>
      rw [e] at h; cases h
      rw [show x = .bl _ from r1, reps_bools r2 e]; rfl
def gAll : PV → Option PV
  | .lst ps => (bools ps).map fun bs => .bl (bs.all id)
  | _ => none
def gAny : PV → Option PV
  | .lst ps => (bools ps).map fun bs => .bl (bs.any id)
  | _ => none
theorem c_all : Call1A X.K (rAll X.K) gAll := fun H p z v Q hg r k => by
  cases p <;> simp only [gAll, reduceCtorEq] at hg
  rename_i ps
  obtain ⟨a, xs, rfl, _, ha, rr⟩ := r
  cases e : bools ps with
  | none => rw [e] at hg; cases hg
  | some bs =>
    rw [e] at hg; cases hg
    exact ⟨a, bs, rfl, by rw [← reps_bools rr e]; exact SqL.of ha, k _ (atom_bl _)⟩
theorem c_any : Call1A X.K (rAny X.K) gAny := fun H p z v Q hg r k => by
  cases p <;> simp only [gAny, reduceCtorEq] at hg
  rename_i ps
  obtain ⟨a, xs, rfl, _, ha, rr⟩ := r
  cases e : bools ps with
  | none => rw [e] at hg; cases hg
  | some bs =>
    rw [e] at hg; cases hg
    exact ⟨a, bs, rfl, by rw [← reps_bools rr e]; exact SqL.of ha, k _ (atom_bl _)⟩

/-! ### isinstance(x, T), T a built-in type -/
inductive Ty where
  | int | bool | str | list | tuple | dict
def Ty.name : Ty → String
  | .int => "int" | .bool => "bool" | .str => "str" | .list => "list" | .tuple => "tuple" | .dict => "dict"
def isT (t : Ty) : PV → Option PV
  | .non => some (.bl false)
  | .bl _ => some (.bl (match t with | .bool => true | .int => true | _ => false))
  | .int _ => some (.bl (match t with | .int => true | _ => false))
  | .str _ => some (.bl (match t with | .str => true | _ => false))
  | .tup _ => some (.bl (match t with | .tuple => true | _ => false))
  | .lst _ => some (.bl (match t with | .list => true | _ => false))
  | .dic _ => some (.bl (match t with | .dict => true | _ => false))
  | _ => none
theorem kitTab : ∀ t : Ty, kitB "NoneType" t.name = some false ∧ kitB "bool" t.name = some (match t with | .bool => true | .int => true | _ => false) ∧ kitB "int" t.name = some (match t with | .int => true | _ => false) ∧
    kitB "str" t.name = some (match t with | .str => true | _ => false) ∧ kitB "tuple" t.name = some (match t with | .tuple => true | _ => false) ∧ kitB "list" t.name = some (match t with | .list => true | _ => false) ∧
    kitB "dict" t.name = some (match t with | .dict => true | _ => false) := by
  intro t
  cases t <;> decide +kernel
theorem isT_ok {t : Ty} {K : PySem.W.Frag} {H : Hp} {p z : PV} {v : V} (hg : isT t p = some z) (r : Rep K (fun _ => True) H p v) : ∃ b n, z = .bl b ∧ TyX K H v (.type n) ∧ kitB n t.name = some b := by
  obtain ⟨k1, k2, k3, k4, k5, k6, k7⟩ := kitTab t
  cases p <;> simp only [isT, Option.some.injEq, reduceCtorEq] at hg <;> subst hg
  · rw [show v = .non from r]; exact ⟨_, _, rfl, .base .non, k1⟩
  · rw [show v = .bl _ from r]; exact ⟨_, _, rfl, .base (.bl _), k2⟩
  · rw [show v = .int _ from r]; exact ⟨_, _, rfl, .base (.int _), k3⟩
  · rw [show v = .str _ from r]; exact ⟨_, _, rfl, .base (.str _), k4⟩
  · obtain ⟨a, xs, rfl, ha, _⟩ := r; exact ⟨_, _, rfl, .base (.tup ha), k5⟩
  · obtain ⟨a, xs, rfl, _, ha, _⟩ := r; exact ⟨_, _, rfl, .base (.lst ha), k6⟩
  · obtain ⟨a, xs, rfl, _, ha | ⟨o, ha⟩, _⟩ := r
    · exact ⟨_, _, rfl, .base (.dK ha), k7⟩
    · exact ⟨_, _, rfl, .fDict ha, k7⟩
theorem ej_isi (t : Ty) {ps : Str} {px : Pos} (hg : Gl X "isinstance") (hm : X.mg "isinstance" = none) (hgT : Gl X ps) (hmT : X.mg ps = none) (hvT : bootBuiltins ps = some (.type t.name)) (h : EJ X C W m1 e f) (hn : ps ≠ "__name__" := by decide) (hd : (ps == ("__debug__" : Str)) = false := by decide)
    (he : starEach [e, .Name ps px] X.env = (false, eval e X.env) :: starEach [.Name ps px] X.env := by rfl) (he2 : starEach [.Name ps px] X.env = (false, eval (.Name ps px) X.env) :: starEach [] X.env := by rfl) (hpl : (backTo pos (starEach [.Name ps px] X.env)).any (·.1) = false := by rfl) :
    EJ X C W m (.Call (.Name "isinstance" pn) [e, .Name ps px] [] pos) (eUn (isT t) f) :=
  pe_weak (pe_callB call_isi hg hm (by decide +kernel) (pa_cons h (pa_cons (pe_bltn (v := .ty t.name) hgT hmT hvT rfl hn hd) pa_nil he2) he) (by decide) (by decide) he hpl) fun σ H Q ⟨ρ, fp, eo, o⟩ => by
    refine ⟨ρ, fp, eo, (Out.bind o).mono (fun p o1 v H1 s1 r1 => ?_) fun _ _ q => q⟩
    obtain ⟨z, hz, hQ⟩ := Out.ofO o1
    obtain ⟨b, n, rfl, ty, kb⟩ := isT_ok hz (RepM.toB r1)
    exact ⟨v, .ty t.name, .type n, .type t.name, b, rfl, .ty _, ty, kit_ty kb, hQ _ H1 s1 (atom_bl _).rm⟩
end
end Fz
end
section
/-! FwH: targets, statements, loops, comprehensions. -/
namespace Fz
open PySem PySem.Spec PyProof.Rows L2
section
variable {X : Cx} {C : Addr → Prop} {W : WX} {e e1 e2 e3 tg iter : Expr} {pos p2 pn : Pos} {m m1 m2 m3 : Mode} {f f1 f2 f3 : E} {fo : O}

/-! ### targets: common values -/
abbrev G := PV → Env → Option Env
/-- all but these slots are as they were -/
def But (vs : List Nat) (σ σ' : L2.St) : Prop := σ'.length = σ.length ∧ ∀ i, i ∉ vs → σ'[i]? = σ[i]?
theorem But.trans {vs : List Nat} {σ σ' σ2 : L2.St} (a : But vs σ σ') (b : But vs σ' σ2) : But vs σ σ2 := ⟨b.1.trans a.1, fun i h => (b.2 i h).trans (a.2 i h)⟩
theorem wipe_get (σ : L2.St) (i : Nat) : ∀ {vs : List Nat}, (wipe σ vs)[i]? = if i ∈ vs ∧ i < σ.length then some none else σ[i]?
  | [] => by simp [wipe]
  | v :: vs => by
    simp only [wipe]
    by_cases h : i = v
    · subst h
      by_cases hl : i < σ.length
      · rw [List.getElem?_set_self (by rw [wipe_length]; exact hl)]; simp [hl]
      · rw [List.getElem?_eq_none (by rw [List.length_set, wipe_length]; omega), List.getElem?_eq_none (by omega)]; simp [hl]
    · rw [List.getElem?_set_ne (Ne.symm h), wipe_get σ i]
      simp [h]
theorem But.wipe {vs : List Nat} {σ σ' : L2.St} (b : But vs σ σ') : L2.wipe σ' vs = L2.wipe σ vs := by
  refine List.ext_getElem? fun i => ?_
  rw [wipe_get, wipe_get, b.1]
  by_cases h : i ∈ vs
  · by_cases hl : i < σ.length
    · rw [if_pos ⟨h, hl⟩, if_pos ⟨h, hl⟩]
    · rw [if_neg (fun q => hl q.2), if_neg (fun q => hl q.2), List.getElem?_eq_none (by rw [b.1]; omega), List.getElem?_eq_none (by omega)]
  · rw [if_neg (fun q => h q.1), if_neg (fun q => h q.1), b.2 i h]
def tGt (vs : List Nat) (K : PySem.W.Frag) (C : Addr → Prop) (g : G) : TG := fun v σ H Q => ∃ ρ fp p ρ', EnvOk K C ρ σ H fp ∧ Rep K (Am C fp) H p v ∧ g p ρ = some ρ' ∧ ∀ σ' fp', EnvOk K C ρ' σ' H fp' → Grow H fp H fp' → But vs σ σ' → (∀ j, j ∉ vs → fp' j = fp j) → Q σ' H
def GJ (X : Cx) (C : Addr → Prop) (vs : List Nat) (e : Expr) (g : G) : Prop := PG X e (tGt vs X.K C g)
abbrev Gs := List PV → Env → Option Env
def tGts (is : List Nat) (K : PySem.W.Frag) (C : Addr → Prop) (g : Gs) : TGs := fun vs σ H Q => ∃ ρ fp ps ρ', EnvOk K C ρ σ H fp ∧ Reps K (Am C fp) H ps vs ∧ g ps ρ = some ρ' ∧ ∀ σ' fp', EnvOk K C ρ' σ' H fp' → Grow H fp H fp' → But is σ σ' → (∀ j, j ∉ is → fp' j = fp j) → Q σ' H
def GJs (X : Cx) (C : Addr → Prop) (vs : List Nat) (es : List Expr) (g : Gs) : Prop := PGs X es (tGts vs X.K C g)
theorem pg_weak {t t' : TG} (h : PG X e t) (w : ∀ v σ H Q, t' v σ H Q → t v σ H Q) : PG X e t' := ⟨fun pins s σ H v u Q I r q => h.run pins s σ H v u Q I r (w v σ H Q q)⟩
theorem pgs_weak {es : List Expr} {t t' : TGs} (h : PGs X es t) (w : ∀ v σ H Q, t' v σ H Q → t v σ H Q) : PGs X es t' := ⟨fun pins s σ H v u Q I r q => h.run pins s σ H v u Q I r (w v σ H Q q)⟩
def gNm (i : Nat) : G := fun p ρ => if i < ρ.length then some (ρ.set i (.val p)) else none
theorem gj_name {i : Nat} {x : Str} {vs : List Nat} (hN : X.N.Nodup) (hi : X.N[i]? = some x) (hx : Loc X.env.scope x) (hv : i ∈ vs := by decide) (hf : X.fn x = true ∨ X.env.scope.names.lookup x = some .local := by first | exact .inl rfl | exact .inr rfl | assumption) : GJ X C vs (.Name x pos) (gNm i) :=
  pg_weak (pg_name hN hi hx hf) fun v σ H Q ⟨ρ, fp, p, ρ', eo, r, hg, k⟩ => by
    unfold gNm at hg
    split at hg
    · rename_i hl
      cases hg
      obtain ⟨e1, g1⟩ := eo.setVal hl r
      exact k _ _ e1 g1 ⟨by simp, fun j hj => List.getElem?_set_ne fun z => hj (by rw [← z]; exact hv)⟩ fun j hj => put_ne fun z => hj (by rw [z]; exact hv)
    · cases hg
def gsNil : Gs := fun ps ρ => match ps with
  | [] => some ρ
  | _ => none
def gsCons (g : G) (h : Gs) : Gs := fun ps ρ => match ps with
  | [] => none
  | p :: ps => (g p ρ).bind fun ρ' => h ps ρ'
theorem gjs_nil {vs : List Nat} : GJs X C vs [] gsNil := pgs_weak pgs_nil fun v σ H Q ⟨ρ, fp, ps, ρ', eo, r, hg, k⟩ => by
  cases ps with
  | nil => cases hg; exact ⟨r, k σ fp eo Grow.refl ⟨rfl, fun _ _ => rfl⟩ fun _ _ => rfl⟩
  | cons p ps => cases hg
theorem gjs_cons {es : List Expr} {g : G} {h : Gs} {vs : List Nat} (h1 : GJ X C vs e g) (h2 : GJs X C vs es h) (hs : (assignEach (e :: es) X.env).map (·.2) = assign e X.env :: (assignEach es X.env).map (·.2) := by rfl) : GJs X C vs (e :: es) (gsCons g h) :=
  pgs_weak (pgs_cons h1 h2 hs) fun v σ H Q ⟨ρ, fp, ps, ρ', eo, r, hg, k⟩ => by
    cases ps with
    | nil => cases hg
    | cons p ps =>
      obtain ⟨x, t, rfl, r1, r2⟩ := r
      simp only [gsCons] at hg
      cases e1 : g p ρ with
      | none => rw [e1] at hg; cases hg
      | some ρ1 =>
        rw [e1] at hg
        refine ⟨x, t, rfl, ρ, fp, p, ρ1, eo, r1, e1, fun σ1 fp1 eo1 g1 b1 p1 => ?_⟩
        exact ⟨ρ1, fp1, ps, ρ', eo1, Reps.carry g1.carry r2, hg, fun σ2 fp2 eo2 g2 b2 p2 => k σ2 fp2 eo2 (g1.trans g2) (b1.trans b2) fun j hj => (p2 j hj).trans (p1 j hj)⟩
def gTp (n : Nat) (h : Gs) : G := fun p ρ => match p with
  | .tup ps => if ps.length = n then h ps ρ else none
  | _ => none
theorem gj_tup {es : List Expr} {k n : Nat} {h : Gs} {vs : List Nat} (hc : X.calm = true) (h1 : GJs X C vs es h) (hn : (assignEach es X.env).length = n := by rfl) (hst : (assignEach es X.env).findIdx? (·.1) = none := by rfl) : GJ X C vs (.Tuple es k pos) (gTp n h) :=
  pg_weak (pg_tup hc h1 hn hst) fun v σ H Q ⟨ρ, fp, p, ρ', eo, r, hg, k⟩ => by
    cases p <;> simp only [gTp, reduceCtorEq] at hg
    split at hg
    · rename_i hl
      obtain ⟨a, xs, rfl, ha, rr⟩ := r
      exact ⟨a, xs, rfl, SqT.of ha, by rw [rr.length]; exact hl, ρ, fp, _, ρ', eo, rr, hg, k⟩
    · cases hg

/-! ### small statements -/
def sAsg (i : Nat) (fo : O) : S := fun ρ => withR (fo ρ) ρ fun t => if i < ρ.length then .nx (ρ.set i (toSlot t)) else .bad
theorem asg_read {i : Nat} {K : PySem.W.Frag} {D : Ends} {σ : L2.St} {H : Hp} (h : tS K C W (sAsg i fo) D σ H) : tO K C W fo σ H fun x H1 => D.nx (σ.set i (some x)) H1 := by
  obtain ⟨ρ, fp, eo, h⟩ := h
  refine ⟨ρ, fp, eo, (FlQ.ofR eo h).mono (fun t q v H' Fn s hn hf r => ?_) fun _ _ q => q⟩
  split at q
  · rename_i hl
    obtain ⟨fp', e', g'⟩ := eo.setOwn hl s r hf hn
    exact q _ _ fp' e' g'
  · exact q.elim
theorem sj_asg {i : Nat} {x : Str} {pos' : Pos} (hN : X.N.Nodup) (hi : X.N[i]? = some x) (hx : Loc X.env.scope x) (he : OJ X C W e fo) (hs : swapsWith e (some (.Name x pos')) pos.line X.env = pure false := by rfl)
    (hf : X.fn x = true ∨ X.env.scope.names.lookup x = some .local := by first | exact .inl rfl | exact .inr rfl | assumption) : SJ X C W (.Assign [.Name x pos'] e pos) (sAsg i fo) :=
  ps_weak (ps_set hN hi hx he hs hf) fun D σ H h => asg_read h
def sAsgT (g : G) (f : E) : S := fun ρ => withR (f ρ) ρ fun p => match g p ρ with
  | some ρ' => .nx ρ'
  | none => .bad
theorem sj_asgT {g : G} {vs : List Nat} (he : EJ X C W .E e f) (hg : GJ X C vs tg g) (hs : swapsWithSole [tg] e pos.line X.env = pure false := by rfl) (hw : swappedStores [tg] e X.env = pure none := by rfl) (h1 : (assignEach [tg] X.env).map (·.2) = [assign tg X.env] := by rfl) : SJ X C W (.Assign [tg] e pos) (sAsgT g f) :=
  ps_weak (ps_asg he hg hs hw h1) fun D σ H ⟨ρ, fp, eo, h⟩ => by
    refine ⟨ρ, fp, eo, (FlQ.ofR eo h).mono (fun p q v H' s r => ?_) fun _ _ q => q⟩
    split at q
    · rename_i ρ' hρ
      exact ⟨ρ, fp, p, ρ', eo.same s, r, hρ, fun σ2 fp2 e2 g2 _ _ => q σ2 _ fp2 e2 ((Grow.same s).trans g2)⟩
    · exact q.elim
/-- names stored from the right, the values ahead of them taken from the left -/
def sPar (i j : Nat) (g : L) : S := fun ρ => withR (g ρ) ρ fun ps => match ps with
  | [p, q] => if i < ρ.length ∧ j < ρ.length ∧ i ≠ j then .nx ((ρ.set i (.val p)).set j (.val q)) else .bad
  | _ => .bad
theorem sj_par {i j n : Nat} {x y : Str} {a b : Expr} {g : L} {px py pt : Pos} {kt k2 : Nat} {pt2 : Pos} (hc : X.calm = true) (hN : X.N.Nodup) (hi : X.N[i]? = some x) (hj : X.N[j]? = some y) (hij : i ≠ j)
    (hx : X.env.scope.names.lookup x = some .local) (hy : X.env.scope.names.lookup y = some .local) (ha : LE X C W [a, b] n g)
    (hw : swappedStores [.Tuple [.Name x px, .Name y py] kt pt] (.Tuple [a, b] k2 pt2) X.env = pure (some [x, y])) (hs : swapsWithSole [.Tuple [.Name x px, .Name y py] kt pt] (.Tuple [a, b] k2 pt2) pos.line X.env = pure false := by rfl) :
    SJ X C W (.Assign [.Tuple [.Name x px, .Name y py] kt pt] (.Tuple [a, b] k2 pt2) pos) (sPar i j g) :=
  ps_weak (ps_par hc hN hi hj hij hx hy ha.1 hw hs) fun D σ H ⟨ρ, fp, eo, h⟩ => by
    refine ⟨ρ, fp, eo, (FlQ.ofR eo h).mono (fun ps q vs H' s r => ?_) fun _ _ q => q⟩
    match ps, q, r with
    | [p1, p2], q, r =>
      obtain ⟨v1, _, rfl, r1, v2, _, rfl, r2, rfl⟩ := r
      refine ⟨v1, v2, rfl, ?_⟩
      simp only at q
      split at q
      · rename_i hl
        obtain ⟨e1, g1⟩ := (eo.same s).setVal hl.1 r1
        obtain ⟨e2, g2⟩ := e1.setVal (i := j) (by simpa using hl.2.1) (Rep.carry g1.carry r2)
        exact q _ _ _ e2 ((Grow.same s).trans (g1.trans g2))
      · exact q.elim
/-- three names -/
def tPar3 (i j l : Nat) (ta : TA) : TS := fun D σ H => ta σ H fun vs H1 => ∃ v1 v2 v3, vs = [v1, v2, v3] ∧ D.nx (((σ.set i (some v1)).set j (some v2)).set l (some v3)) H1
theorem ps_par3 {i j l : Nat} {x y z : Str} {a b c : Expr} {ta : TA} {px py pz pt : Pos} {kt k2 : Nat} {pt2 : Pos} (hc : X.calm = true) (hN : X.N.Nodup) (hi : X.N[i]? = some x) (hj : X.N[j]? = some y) (hl : X.N[l]? = some z) (hij : i ≠ j) (hil : i ≠ l) (hjl : j ≠ l)
    (hx : X.env.scope.names.lookup x = some .local) (hy : X.env.scope.names.lookup y = some .local) (hz : X.env.scope.names.lookup z = some .local) (ha : PA X [a, b, c] ta)
    (hw : swappedStores [.Tuple [.Name x px, .Name y py, .Name z pz] kt pt] (.Tuple [a, b, c] k2 pt2) X.env = pure (some [x, y, z])) (hs : swapsWithSole [.Tuple [.Name x px, .Name y py, .Name z pz] kt pt] (.Tuple [a, b, c] k2 pt2) pos.line X.env = pure false := by rfl) :
    PS X (.Assign [.Tuple [.Name x px, .Name y py, .Name z pz] kt pt] (.Tuple [a, b, c] k2 pt2) pos) (tPar3 i j l ta) := by
  constructor; intro pins s σ H D I0 h
  rw [exec_Assign_arm]
  apply wpAny_bind; apply wpAny_standAt
  rw [hs]; apply wpAny_bind; apply wpAny_pure; rw [if_neg (by decide)]
  refine wpAny_bind (Tuple_ (thn (ha.run _ pins s σ H _ I0 h) fun us s1 hA => ?_))
  obtain ⟨vs, H1, I1, r1, v1, v2, v3, e1, q1⟩ := hA
  subst e1
  obtain ⟨u1, u2, u3, rfl, rv1, rv2, rv3⟩ : ∃ u1 u2 u3, us = [u1, u2, u3] ∧ RelV v1 u1 ∧ RelV v2 u2 ∧ RelV v3 u3 := by
    cases r1 with
    | cons a1 r1 =>
      cases r1 with
      | cons a2 r1 =>
        cases r1 with
        | cons a3 r1 => cases r1; exact ⟨_, _, _, rfl, a1, a2, a3⟩
  refine wpAny_newObj_type ?_ (by show 3 ≤ sizeLine; decide)
  have I2 : L2.Inv X pins σ H1 { s1 with heap := s1.heap.push { cls := .type "tuple", data := .seq [u1, u2, u3].toArray } } := I1.kept (t' := s1.toks) fun b o e => Heap.get?_push_of_some _ e
  rw [hw]; apply wpAny_bind; apply wpAny_pure
  show wpAny (model X.prog X.w) X.A (do rule "assign.swapped-stores"; let items ← unpackItems (.ref s1.heap.objs.size) 3 none; assignInOrder [fun v => bindName X.env z v, fun v => bindName X.env y v, fun v => bindName X.env x v] items.reverse; pure Flow.next) _ _ _
  refine wpAny_bind (wpAny_rule (wpAny_bind (unpackItems_tuple (items := #[u1, u2, u3]) (I0.ok.hd hc) (IsTup.new s1.heap _) fun h' hx' => ?_)))
  have I3 := I2.kept (h' := h') (t' := s1.toks) fun b o e => hx' b o (Nat.ne_of_lt (Heap.lt_size e)) e
  show wpAny _ _ (assignInOrder [fun v => bindName X.env z v, fun v => bindName X.env y v, fun v => bindName X.env x v] [u3, u2, u1] >>= fun _ => pure Flow.next) _ _ _
  refine wpAny_bind (assignInOrder_cons (wpAny_bindName (store_ok I3 hN hl (.inl hz) rv3 (fun s2 I4 => ?_) (.inr hz))))
  refine assignInOrder_cons (wpAny_bindName (store_ok I4 hN hj (.inl hy) rv2 (fun s3 I5 => ?_) (.inr hy)))
  refine assignInOrder_cons (wpAny_bindName (store_ok I5 hN hi (.inl hx) rv1 (fun s4 I6 => assignInOrder_nil (wpAny_pure ?_)) (.inr hx)))
  have e : ((σ.set l (some v3)).set j (some v2)).set i (some v1) = ((σ.set i (some v1)).set j (some v2)).set l (some v3) := by
    rw [List.set_comm (some v2) (some v1) (Ne.symm hij), List.set_comm (some v3) (some v1) (Ne.symm hil), List.set_comm (some v3) (some v2) (Ne.symm hjl)]
  rw [e] at I6
  exact ⟨_, H1, I6, q1⟩
def sPar3 (i j l : Nat) (g : L) : S := fun ρ => withR (g ρ) ρ fun ps => match ps with
  | [p, q, r] => if i < ρ.length ∧ j < ρ.length ∧ l < ρ.length then .nx (((ρ.set i (.val p)).set j (.val q)).set l (.val r)) else .bad
  | _ => .bad
theorem sj_par3 {i j l n : Nat} {x y z : Str} {a b c : Expr} {g : L} {px py pz pt : Pos} {kt k2 : Nat} {pt2 : Pos} (hc : X.calm = true) (hN : X.N.Nodup) (hi : X.N[i]? = some x) (hj : X.N[j]? = some y) (hl : X.N[l]? = some z) (hij : i ≠ j) (hil : i ≠ l) (hjl : j ≠ l)
    (hx : X.env.scope.names.lookup x = some .local) (hy : X.env.scope.names.lookup y = some .local) (hz : X.env.scope.names.lookup z = some .local) (ha : LE X C W [a, b, c] n g)
    (hw : swappedStores [.Tuple [.Name x px, .Name y py, .Name z pz] kt pt] (.Tuple [a, b, c] k2 pt2) X.env = pure (some [x, y, z])) (hs : swapsWithSole [.Tuple [.Name x px, .Name y py, .Name z pz] kt pt] (.Tuple [a, b, c] k2 pt2) pos.line X.env = pure false := by rfl) :
    SJ X C W (.Assign [.Tuple [.Name x px, .Name y py, .Name z pz] kt pt] (.Tuple [a, b, c] k2 pt2) pos) (sPar3 i j l g) :=
  ps_weak (ps_par3 hc hN hi hj hl hij hil hjl hx hy hz ha.1 hw hs) fun D σ H ⟨ρ, fp, eo, h⟩ => by
    refine ⟨ρ, fp, eo, (FlQ.ofR eo h).mono (fun ps q vs H' s r => ?_) fun _ _ q => q⟩
    match ps, q, r with
    | [p1, p2, p3], q, r =>
      obtain ⟨v1, _, rfl, r1, v2, _, rfl, r2, v3, _, rfl, r3, rfl⟩ := r
      refine ⟨v1, v2, v3, rfl, ?_⟩
      simp only at q
      split at q
      · rename_i hl
        obtain ⟨e1, g1⟩ := (eo.same s).setVal hl.1 r1
        obtain ⟨e2, g2⟩ := e1.setVal (i := j) (by simpa using hl.2.1) (Rep.carry g1.carry r2)
        obtain ⟨e3, g3⟩ := e2.setVal (i := l) (by simpa using hl.2.2) (Rep.carry (g1.trans g2).carry r3)
        exact q _ _ _ e3 ((Grow.same s).trans ((g1.trans g2).trans g3))
      · exact q.elim
def sFrz (i : Nat) : S := fun ρ => match ρ[i]? with
  | some (.own t) => .nx (ρ.set i (.val t.pv))
  | _ => .nx ρ
/-- ahead of a statement a name may let go -/
theorem sj_frz {st : Stmt} {s : S} (i : Nat) (h : SJ X C W st s) : SJ X C W st (sSeq (sFrz i) s) := ps_weak h fun D σ H ⟨ρ, fp, eo, h⟩ => by
  unfold sSeq sFrz at h
  split at h
  · rename_i t ht
    obtain ⟨e1, g1⟩ := eo.freeze ht
    exact ⟨_, _, e1, FlQ.later g1 h⟩
  · exact ⟨ρ, fp, eo, h⟩
/-- a name that can't be seen is no more its own -/
def sDrop (fo : O) : S := fun ρ => withR (fo ρ) ρ fun _ => .nx ρ
theorem sj_expr (he : OJ X C W e fo) (hs : swapsWith e none pos.line X.env = pure false := by rfl) : SJ X C W (.Expr e pos) (sDrop fo) := ps_weak (ps_expr he hs) fun D σ H ⟨ρ, fp, eo, h⟩ =>
  ⟨ρ, fp, eo, (FlQ.ofR eo h).mono (fun t q v H' Fn s hn hf r => q σ H' fp (eo.same s) (Grow.same s)) fun _ _ q => q⟩
theorem sj_pass : SJ X C W (.Pass pos) sNil := ps_weak ps_pass fun D σ H ⟨ρ, fp, eo, h⟩ => h σ H fp eo Grow.refl
def sBrk : S := fun ρ => .bk ρ
def sCnt : S := fun ρ => .ct ρ
theorem sj_break : SJ X C W (.Break pos) sBrk := ps_weak ps_break fun D σ H ⟨ρ, fp, eo, h⟩ => h σ H fp eo Grow.refl
theorem sj_continue : SJ X C W (.Continue pos) sCnt := ps_weak ps_continue fun D σ H ⟨ρ, fp, eo, h⟩ => h σ H fp eo Grow.refl
def sRet (fo : O) : S := fun ρ => withR (fo ρ) ρ fun t => .rt t
theorem sj_ret (he : OJ X C W e fo) : SJ X C W (.Return (some e) pos) (sRet fo) := ps_weak (ps_ret he) fun D σ H ⟨ρ, fp, eo, h⟩ =>
  ⟨ρ, fp, eo, (FlQ.ofR eo h).mono (fun t q v H' Fn s hn hf r => q v H' Fn (by
    have g := Grow.same (fp := fp) s
    exact ⟨g.keep, g.tups, g.frz, g.more, fun a h => by obtain ⟨_, h⟩ := h; cases h⟩) hn (fun a ha => .inr (hf a ha)) (r.carry (Carry.refl fun a _ q _ => ⟨q.1.1, q.2⟩) fun _ _ _ q => q)) fun _ _ q => q⟩
def sRetN : S := fun _ => .rt (.fz .non)
theorem grow_end {H H' : Hp} {fp fp' : Fp} (g : Grow H fp H' fp') : Grow H fp H' (fun _ => []) := ⟨g.keep, g.tups, g.frz, g.more, fun a h => by obtain ⟨_, h⟩ := h; cases h⟩
theorem sj_retN : SJ X C W (.Return none pos) sRetN := ps_weak ps_retN fun D σ H ⟨ρ, fp, eo, h⟩ => h .non H [] (grow_end Grow.refl) List.nodup_nil (fun _ h => nomatch h) ⟨rfl, rfl⟩
/-- return x: what x alone held is handed on -/
def sRetV (i : Nat) : S := fun ρ => match ρ[i]? with
  | some (.own t) => .rt t
  | some (.val p) => .rt (.fz p)
  | some (.bor p) => if immut p then .rt (.fz p) else .bad
  | _ => .bad
theorem sj_retV {i : Nat} {x : Str} {pos' : Pos} (hN : X.N[i]? = some x) (hv : Vis X.env.scope x) (hd : (x == ("__debug__" : Str)) = false := by decide) (hcd : (x == ("__classdict__" : Str)) = false := by decide) : SJ X C W (.Return (some (.Name x pos')) pos) (sRetV i) :=
  ps_weak (ps_ret (pe_var hN hv hd hcd)) fun D σ H ⟨ρ, fp, eo, h⟩ => by
    have hs := eo.slot i
    unfold sRetV at h
    cases e : ρ[i]? with
    | none => rw [e] at h; exact h.elim
    | some sl =>
      rw [e] at h
      have hs := hs sl e
      cases sl with
      | u => exact h.elim
      | val p =>
        obtain ⟨_, v, hv, r⟩ := hs
        exact ⟨v, hv, h v H [] (grow_end Grow.refl) List.nodup_nil (fun _ h => nomatch h) ⟨rfl, Rep.sub (fun a q => ⟨q.1, fun z => nomatch z⟩) r⟩⟩
      | bor p =>
        obtain ⟨_, v, hv, r⟩ := hs
        simp only at h
        split at h
        · rename_i hi
          exact ⟨v, hv, h v H [] (grow_end Grow.refl) List.nodup_nil (fun _ h => nomatch h) ⟨rfl, Rep.immut hi r⟩⟩
        · exact h.elim
      | own t =>
        obtain ⟨v, hv, r⟩ := hs
        exact ⟨v, hv, h v H (fp i) (grow_end Grow.refl) (eo.nod i) (fun a ha => .inl ⟨i, ha⟩) (r.carry (Carry.refl fun a _ q _ => ⟨q.1, fun z => q.2 ⟨i, z⟩⟩) fun _ _ _ q => q)⟩
def sIf (t : T) (s1 s2 : S) : S := fun ρ => withR (t ρ) ρ fun b => if b = true then s1 ρ else s2 ρ
theorem sj_if {t : T} {a b : List Stmt} {s1 s2 : S} (ht : TJ X C W e t) (h1 : BJ X C W a s1) (h2 : BJ X C W b s2) : SJ X C W (.If e a b pos) (sIf t s1 s2) := ps_weak (ps_if ht h1 h2) fun D σ H ⟨ρ, fp, eo, h⟩ => by
  refine ⟨ρ, fp, eo, (FlQ.ofR eo h).mono (fun b q H' s => ?_) fun _ _ q => q⟩
  cases b with
  | true => exact ⟨ρ, fp, eo.same s, FlQ.later (Grow.same s) q⟩
  | false => exact ⟨ρ, fp, eo.same s, FlQ.later (Grow.same s) q⟩

/-! ### what is walked -/
/-- J yields the items, as long as rel says that what is walked stands -/
def IterOk (K : PySem.W.Frag) (A : Addr → Prop) (H0 : Hp) (rel : Hp → Prop) (J : It) (items : List PV) : Prop :=
  ∀ H (B : Addr → Prop), rel H → Carry A B H0 H → ∀ i, (∀ p, items[i]? = some p → J.go i H ∧ ∀ x H', J.yld i H x H' → Same H H' ∧ Rep K B H' p x) ∧ (items.length ≤ i → J.stop i H)
/-- any step; steps that change nothing -/
def relG (H : Hp) (fp : Fp) : Hp → Prop := fun H' => (∀ a o, H a = some o → ¬ InF fp a → H' a = some o) ∧ (∀ a xs, H a = some (.tup xs) → H' a = some (.tup xs)) ∧ ∀ a o u, H a = some (.frz o u) → H' a = some (.frz o u)
def relS (H : Hp) (fp : Fp) : Hp → Prop := fun H' => Same H H'
def tI (K : PySem.W.Frag) (C : Addr → Prop) (W : WX) (rel : Hp → Fp → Hp → Prop) (f : L) : TI := fun σ H R => ∃ ρ fp, EnvOk K C ρ σ H fp ∧ Out (f ρ) (fun items => ∀ J H', Same H H' → IterOk K (Am C fp) H' (rel H' fp) J items → R J H') (XQ K W σ H)
def IJ (X : Cx) (C : Addr → Prop) (W : WX) (rel : Hp → Fp → Hp → Prop) (tg iter : Expr) (f : L) : Prop := PI X tg iter (tI X.K C W rel f)
theorem pi_weak {t t' : TI} (h : PI X tg iter t) (w : ∀ σ H R, t' σ H R → t σ H R) : PI X tg iter t' := ⟨fun pins s σ H R I q => h.run pins s σ H R I (w σ H R q)⟩
theorem pi_or {t t' : TI} (h : PI X tg iter t) (h' : PI X tg iter t') : PI X tg iter (fun σ H R => t σ H R ∨ t' σ H R) := ⟨fun pins s σ H R I q => q.elim (h.run pins s σ H R I) (h'.run pins s σ H R I)⟩
/-- the items of a list, a tuple -/
def itemsOf : PV → Res (List PV)
  | .lst ps => .ok ps
  | .rol ps => .ok ps
  | .tup ps => .ok ps
  | _ => .bad
def lOf (f : E) : L := fun ρ => f ρ >>= itemsOf
theorem iter_list {K : PySem.W.Frag} {A : Addr → Prop} {H0 : Hp} {rel : Hp → Prop} {a : Addr} {ps : List PV} {xs : List V} (r : Reps K A H0 ps xs) (h : ∀ H, rel H → SqL K H a xs) : IterOk K A H0 rel (Itl K a) ps := fun H B hr c i => by
  have h1 := h H hr
  have h2 := Reps.carry c r
  refine ⟨fun p hp => ?_, fun hi => ⟨xs, h1, by rw [h2.length]; exact hi⟩⟩
  obtain ⟨v, hv, r⟩ := h2.get hp
  refine ⟨⟨xs, v, h1, hv⟩, fun x H' ⟨e1, e2⟩ => ?_⟩
  have := e2 xs h1
  rw [hv] at this; cases this
  subst e1
  exact ⟨Same.refl _, r⟩
theorem iter_tup {K : PySem.W.Frag} {A : Addr → Prop} {H0 : Hp} {rel : Hp → Prop} {a : Addr} {ps : List PV} {xs : List V} (r : Reps K A H0 ps xs) (h : ∀ H, rel H → SqT K H a xs) : IterOk K A H0 rel (Itt K a) ps := fun H B hr c i => by
  have h1 := h H hr
  have h2 := Reps.carry c r
  refine ⟨fun p hp => ?_, fun hi => ⟨xs, h1, by rw [h2.length]; exact hi⟩⟩
  obtain ⟨v, hv, r⟩ := h2.get hp
  refine ⟨⟨xs, v, h1, hv⟩, fun x H' ⟨e1, e2⟩ => ?_⟩
  have := e2 xs h1
  rw [hv] at this; cases this
  subst e1
  exact ⟨Same.refl _, r⟩
def isTupP : PV → Bool
  | .tup _ => true
  | _ => false
/-- a sequence that stands -/
def Stands (K : PySem.W.Frag) (A : Addr → Prop) (H0 : Hp) (rel : Hp → Prop) (p : PV) (v : V) (ps : List PV) : Prop :=
  ∃ a xs, v = .ref a ∧ Reps K A H0 ps xs ∧ (isTupP p = false → ∀ H, rel H → SqL K H a xs) ∧ (isTupP p = true → ∀ H, rel H → SqT K H a xs)
theorem ro_rel {K : PySem.W.Frag} {H H' : Hp} (h : ∀ a o u, H a = some (.frz o u) → H' a = some (.frz o u)) {a : Addr} {xs : List V} (r : RoAt K H a xs) : SqL K H' a xs := r.elim (fun ⟨o, q⟩ => .inl (.inr ⟨o, h _ _ _ q⟩)) .inr
theorem seq_stands {K : PySem.W.Frag} {H0 : Hp} {fp0 : Fp} {p : PV} {v : V} {ps : List PV} (r : Rep K (Am C fp0) H0 p v) (h : itemsOf p = .ok ps) : Stands K (Am C fp0) H0 (relG H0 fp0) p v ps := by
  cases p <;> simp only [itemsOf, Res.ok.injEq, reduceCtorEq] at h <;> subst h
  · obtain ⟨a, xs, rfl, ha, rr⟩ := r
    exact ⟨a, xs, rfl, rr, fun z => (by cases z), fun _ H g => SqT.of (g.2.1 _ _ ha)⟩
  · obtain ⟨a, xs, rfl, hA, ha, rr⟩ := r
    exact ⟨a, xs, rfl, rr, fun _ H g => SqL.of (g.1 _ _ ha hA.2), fun z => by cases z⟩
  · obtain ⟨a, xs, rfl, ha, rr⟩ := r
    exact ⟨a, xs, rfl, rr, fun _ H g => ro_rel g.2.2 ha, fun z => by cases z⟩
theorem seq_standsS {K : PySem.W.Frag} {H0 : Hp} {fp0 : Fp} {p : PV} {v : V} {ps : List PV} (r : RepI K (Am C fp0) H0 p v) (h : itemsOf p = .ok ps) : Stands K (Am C fp0) H0 (relS H0 fp0) p v ps := by
  cases p <;> simp only [itemsOf, Res.ok.injEq, reduceCtorEq] at h <;> subst h
  · obtain ⟨a, xs, rfl, ha, rr⟩ := r
    exact ⟨a, xs, rfl, rr, fun z => (by cases z), fun _ H s => SqT.of (s _ _ ha)⟩
  · obtain ⟨a, xs, rfl, ha, rr⟩ := r
    exact ⟨a, xs, rfl, rr, fun _ H s => SqL.of (s _ _ ha), fun z => by cases z⟩
  · obtain ⟨a, xs, rfl, ha, rr⟩ := r
    exact ⟨a, xs, rfl, rr, fun _ H s => ro_rel (fun a o u h => s a _ h) ha, fun z => by cases z⟩
theorem itemsOf_out {p : PV} {P : List PV → Prop} {E' : XF} (h : Out (itemsOf p) P E') : ∃ ps, itemsOf p = .ok ps ∧ P ps := by
  cases p <;> first | exact ⟨_, rfl, h⟩ | exact h.elim
theorem seq_read {σ : L2.St} {H : Hp} {R : It → Hp → Prop} {rel : Hp → Fp → Hp → Prop} (hst : ∀ (fp : Fp) H' p v ps, RepM X.K C fp m H' p v → itemsOf p = .ok ps → Stands X.K (Am C fp) H' (rel H' fp) p v ps) (hrf : ∀ H fp, rel H fp H)
    (h : tI X.K C W rel (lOf f) σ H R) : iList X.K (tE X.K C W m f) σ H R ∨ iTup X.K (tE X.K C W m f) σ H R := by
  obtain ⟨ρ, fp, eo, o⟩ := h
  by_cases ht : ∃ p, f ρ = .ok p ∧ isTupP p = true
  · obtain ⟨p0, e0, t0⟩ := ht
    right
    refine ⟨ρ, fp, eo, (Out.bind o).and.mono (fun p ⟨e1, o1⟩ v H1 s1 r1 => ?_) fun _ _ q => q⟩
    rw [e0] at e1; cases e1
    obtain ⟨ps, hp, o2⟩ := itemsOf_out o1
    obtain ⟨a, xs, rfl, rr, _, h2⟩ := hst fp H1 p0 v ps r1 hp
    exact ⟨a, rfl, ⟨xs, h2 t0 H1 (hrf _ _)⟩, o2 _ H1 s1 (iter_tup rr (h2 t0))⟩
  · left
    refine ⟨ρ, fp, eo, (Out.bind o).and.mono (fun p ⟨e1, o1⟩ v H1 s1 r1 => ?_) fun _ _ q => q⟩
    have t0 : isTupP p = false := by
      cases z : isTupP p with
      | false => rfl
      | true => exact (ht ⟨p, e1, z⟩).elim
    obtain ⟨ps, hp, o2⟩ := itemsOf_out o1
    obtain ⟨a, xs, rfl, rr, h2, _⟩ := hst fp H1 p v ps r1 hp
    exact ⟨a, rfl, ⟨xs, h2 t0 H1 (hrf _ _)⟩, o2 _ H1 s1 (iter_list rr (h2 t0))⟩
theorem relG.refl {H : Hp} {fp : Fp} : relG H fp H := ⟨fun _ _ h _ => h, fun _ _ h => h, fun _ _ _ h => h⟩
theorem ij_seq (h : EJ X C W .E iter f) : IJ X C W relG tg iter (lOf f) :=
  pi_weak (pi_or (pi_list h) (pi_tup h)) fun σ H R q => seq_read (m := .E) (fun fp H' p v ps r hp => seq_stands r hp) (fun _ _ => relG.refl) q
theorem ij_seqS (h : EJ X C W .I iter f) : IJ X C W relS tg iter (lOf f) :=
  pi_weak (pi_or (pi_list h) (pi_tup h)) fun σ H R q => seq_read (m := .I) (fun fp H' p v ps r hp => seq_standsS r hp) (fun H fp => Same.refl H) q
/-- a range -/
def rangeL (lo : Int) (n : Nat) : List PV := (List.range n).map fun (k : Nat) => .int (lo + (k : Int))
theorem iter_range {K : PySem.W.Frag} {A : Addr → Prop} {H0 : Hp} {rel : Hp → Prop} {lo : Int} {n : Nat} : IterOk K A H0 rel (Itr lo n) (rangeL lo n) := fun H B hr _ i => by
  refine ⟨fun p hp => ?_, fun hi => (by simpa [rangeL] using hi : n ≤ i)⟩
  rw [rangeL, List.getElem?_map] at hp
  by_cases hi : i < n
  · rw [List.getElem?_eq_getElem (by simpa using hi)] at hp
    simp only [List.getElem_range, Option.map_some, Option.some.injEq] at hp
    refine ⟨hi, fun x H' ⟨e1, e2⟩ => ?_⟩
    subst e1 e2 hp
    exact ⟨Same.refl _, rfl⟩
  · rw [List.getElem?_eq_none (by simpa using Nat.le_of_not_lt hi)] at hp
    cases hp
def bnd (i : Int) : Bool := decide (-(2 ^ 62) ≤ i ∧ i < 2 ^ 62)
def lRange1 (f : E) : L := fun ρ => f ρ >>= intOf >>= fun j => if bnd j = true then .ok (rangeL 0 j.toNat) else .bad
theorem ij_range1 {rel : Hp → Fp → Hp → Prop} (hg : Gl X "range") (hm : X.mg "range" = none) (h : EJ X C W m e f) (hs : starEach [e] X.env = [(false, eval e X.env)] := by rfl) : IJ X C W rel tg (.Call (.Name "range" p2) [e] [] pos) (lRange1 f) :=
  pi_weak (pi_range1 hg hm (pa_cons h pa_nil hs) hs) fun σ H R ⟨ρ, fp, eo, o⟩ => by
    refine ⟨ρ, fp, eo, (Out.bind (Out.bind o)).mono (fun p o1 v H1 s1 r1 => ?_) fun _ _ q => q⟩
    cases p with
    | int j =>
      have o1 : Out (if bnd j = true then Res.ok (rangeL 0 j.toNat) else .bad) _ _ := o1
      split at o1
      · rename_i hb
        have hb : -(2 ^ 62) ≤ j ∧ j < 2 ^ 62 := by simpa [bnd] using hb
        exact ⟨j, by rw [show v = .int j from RepM.toB r1], hb.1, hb.2, o1 _ H1 s1 iter_range⟩
      · exact o1.elim
    | _ => exact o1.elim
def lRange2 (f g : E) : L := fun ρ => f ρ >>= fun x => g ρ >>= fun y => intOf x >>= fun i => intOf y >>= fun j => if bnd i = true ∧ bnd j = true then .ok (rangeL i (j - i).toNat) else .bad
theorem ij_range2 {rel : Hp → Fp → Hp → Prop} (hg : Gl X "range") (hm : X.mg "range" = none) (h1 : EJ X C W m1 e1 f1) (h2 : EJ X C W m2 e2 f2) (hs : starEach [e1, e2] X.env = [(false, eval e1 X.env), (false, eval e2 X.env)] := by rfl) (hs2 : starEach [e2] X.env = [(false, eval e2 X.env)] := by rfl) :
    IJ X C W rel tg (.Call (.Name "range" p2) [e1, e2] [] pos) (lRange2 f1 f2) :=
  pi_weak (pi_range2 hg hm (pa_cons h1 (pa_cons h2 pa_nil hs2) (by rw [hs, hs2])) hs hs2) fun σ H R ⟨ρ, fp, eo, o⟩ => two (m1 := m1) (m2 := m2) eo o fun p q v u H2 s eo2 o2 r1 r2 => by
    cases p with
    | int i =>
      cases q with
      | int j =>
        have o2 : Out (if bnd i = true ∧ bnd j = true then Res.ok (rangeL i (j - i).toNat) else .bad) _ _ := o2
        split at o2
        · rename_i hb
          have hb : (-(2 ^ 62) ≤ i ∧ i < 2 ^ 62) ∧ -(2 ^ 62) ≤ j ∧ j < 2 ^ 62 := by simpa [bnd] using hb
          exact ⟨i, j, by rw [show v = .int i from RepM.toB r1, show u = .int j from RepM.toB r2], ⟨hb.1.1, hb.1.2, hb.2⟩, o2 _ H2 s iter_range⟩
        · exact o2.elim
      | _ => exact o2.elim
    | _ => exact o2.elim

/-! ### for -/
def loop (g : G) (body : S) : List PV → Env → Fl
  | [], ρ => .nx ρ
  | p :: ps, ρ => match g p ρ with
    | none => .bad
    | some ρ1 => match body ρ1 with
      | .nx ρ2 => loop g body ps ρ2
      | .ct ρ2 => loop g body ps ρ2
      | .bk ρ2 => .nx ρ2
      | r => r
def sFor (l : L) (g : G) (body : S) : S := fun ρ => withR (l ρ) ρ fun ps => loop g body ps ρ
theorem sj_for {l : L} {g : G} {body : S} {sts : List Stmt} {vs : List Nat} (hp : PassesOwn (model X.prog X.w) X.A X.env X.xe) (hc : X.calm = true) (hi : IJ X C W relG tg iter l) (hg : GJ X C vs tg g) (hb : BJ X C W sts body) (hs : ∀ x, foldedSetIterable iter X.env x = pure x := by intro _; rfl) :
    SJ X C W (.For tg iter sts [] pos) (sFor l g body) :=
  ps_weak (ps_for hp hc hi hg hb hs) fun D σ H ⟨ρ, fp, eo, h⟩ => by
    refine ⟨ρ, fp, eo, (FlQ.ofR eo h).mono (fun items q J H0 s0 it => ?_) fun _ _ q => q⟩
    refine ⟨fun i m σ H => m = items.length - i ∧ ∃ ρ fp', EnvOk X.K C ρ σ H fp' ∧ Grow H0 fp H fp' ∧ FlQ X.K C W D H fp' (loop g body (items.drop i) ρ), ⟨_, rfl, ρ, fp, eo.same s0, Grow.refl, FlQ.later (Grow.same s0) q⟩, ?_⟩
    rintro i m' σ1 H1 ⟨rfl, ρ1, fp1, eo1, g1, q1⟩
    obtain ⟨it1, it2⟩ := it H1 (Am C fp1) ⟨g1.keep, g1.tups, g1.frz⟩ g1.carry i
    by_cases hi : i < items.length
    · have hx : items[i]? = some items[i] := List.getElem?_eq_getElem hi
      obtain ⟨go, yl⟩ := it1 _ hx
      rw [List.drop_eq_getElem_cons hi] at q1
      refine .inr ⟨go, fun σ' H' => ∃ ρ' fp', EnvOk X.K C ρ' σ' H' fp' ∧ Grow H0 fp H' fp' ∧ FlQ X.K C W D H' fp' (loop g body (items.drop (i + 1)) ρ'), fun σ' H' ⟨ρ', fp', a, b, c⟩ => ⟨items.length - (i + 1), by omega, rfl, ρ', fp', a, b, c⟩, fun x H' hy => ?_⟩
      obtain ⟨s2, r⟩ := yl x H' hy
      have q2 := FlQ.later (Grow.same (fp := fp1) s2) q1
      unfold loop at q2
      split at q2
      · exact q2.elim
      · rename_i ρ2 hρ
        refine ⟨ρ1, fp1, items[i], ρ2, eo1.same s2, r, hρ, fun σ3 fp3 eo3 g3 _ _ => ⟨ρ2, fp3, eo3, ?_⟩⟩
        have q3 := FlQ.later g3 q2
        have gg : Grow H0 fp H' fp3 := g1.trans ((Grow.same s2).trans g3)
        cases z : body ρ2 with
        | nx a => rw [z] at q3; exact fun σ4 H4 fp4 eo4 g4 => ⟨_, fp4, eo4, gg.trans g4, FlQ.later g4 q3⟩
        | ct a => rw [z] at q3; exact fun σ4 H4 fp4 eo4 g4 => ⟨_, fp4, eo4, gg.trans g4, FlQ.later g4 q3⟩
        | bk a => rw [z] at q3; exact q3
        | rt a => rw [z] at q3; exact q3
        | ex a b c => rw [z] at q3; exact q3
        | bad => rw [z] at q3; exact q3.elim
    · rw [List.drop_eq_nil_of_le (Nat.le_of_not_lt hi)] at q1
      exact .inl ⟨it2 (Nat.le_of_not_lt hi), q1 σ1 H1 fp1 eo1 Grow.refl⟩
end
end Fz
end
section
/-! FwI: comprehensions. -/
namespace Fz
open PySem PySem.Spec PyProof.Rows L2
def wipeE (ρ : Env) : List Nat → Env
  | [] => ρ
  | v :: vs => (wipeE ρ vs).set v .u
/-- the names of a comprehension hide nothing that is alone its own -/
def shadowOk (ρ : Env) (vs : List Nat) : Bool := vs.all fun i => match ρ[i]? with
  | some (.own _) => false
  | _ => true
theorem wipeE_len (ρ : Env) : ∀ vs, (wipeE ρ vs).length = ρ.length
  | [] => rfl
  | v :: vs => by simp [wipeE, wipeE_len ρ vs]
theorem wipeE_get (ρ : Env) (σ : L2.St) {i : Nat} {s : Slot} : ∀ {vs : List Nat}, (wipeE ρ vs)[i]? = some s → (s = .u ∧ i ∈ vs) ∨ (i ∉ vs ∧ ρ[i]? = some s ∧ (wipe σ vs)[i]? = σ[i]?)
  | [], h => .inr ⟨by simp, h, rfl⟩
  | v :: vs, h => by
    simp only [wipeE] at h
    by_cases hv : i = v
    · subst hv
      have hl : i < (wipeE ρ vs).length := by
        have := (List.getElem?_eq_some_iff.mp h).1
        simpa using this
      rw [List.getElem?_set_self hl] at h
      cases h
      exact .inl ⟨rfl, List.mem_cons_self⟩
    · rw [List.getElem?_set_ne (Ne.symm hv)] at h
      rcases wipeE_get ρ σ h with ⟨a, b⟩ | ⟨a, b, c⟩
      · exact .inl ⟨a, List.mem_cons_of_mem _ b⟩
      · refine .inr ⟨by simp [hv, a], b, ?_⟩
        simp only [wipe]
        rw [List.getElem?_set_ne (Ne.symm hv)]
        exact c
/-- one turn: none where the tests say no; exceptions out of a block are not served -/
def compTurn (g : G) (t : T) (el : E) (ρ : Env) (p : PV) : Option (Option PV) := match g p ρ with
  | none => none
  | some ρ1 => match t ρ1 with
    | .ok true => (match el ρ1 with
      | .ok y => some (some y)
      | _ => none)
    | .ok false => some none
    | _ => none
def compLoop (g : G) (t : T) (el : E) (ρ : Env) : List PV → Option (List PV)
  | [] => some []
  | p :: ps => (compTurn g t el ρ p).bind fun o => (compLoop g t el ρ ps).map fun ys => match o with
    | some y => y :: ys
    | none => ys
def tYesF : T := fun _ => .ok true
/-- so much fits a list -/
def fits (ps : List PV) : Res OT := if ps.length ≤ sizeLine then .ok (.l ps) else .bad
def oComp (l : L) (vs : List Nat) (g : G) (t : T) (el : E) : O := fun ρ => if shadowOk ρ vs = true then l ρ >>= fun ps => ofO (compLoop g t el (wipeE ρ vs) ps) >>= fits else .bad
def W0 : WX := fun _ _ _ _ => False
section
variable {X : Cx} {C : Addr → Prop} {W : WX} {e e1 e2 e3 tg iter : Expr} {pos p2 pn : Pos} {m m1 m2 m3 : Mode} {f f1 f2 f3 : E} {fo : O}
theorem EnvOk.block {K : PySem.W.Frag} {ρ : Env} {σ : L2.St} {H H' : Hp} {fp : Fp} {vs : List Nat} {D : Addr} (eo : EnvOk K C ρ σ H fp) (hs : shadowOk ρ vs = true) (hD : H D = none) (keep : ∀ a o, H a = some o → H' a = some o) (hD' : H' D ≠ none) :
    EnvOk K (fun a => C a ∧ a ≠ D) (wipeE ρ vs) (wipe σ vs) H' fp where
  len := by rw [wipeE_len, wipe_length]; exact eo.len
  slot := fun i s h => by
    rcases wipeE_get ρ σ h with ⟨rfl, hi⟩ | ⟨hi, h2, h3⟩
    · have := (List.all_eq_true.mp hs) i hi
      have hi2 : i < ρ.length := by
        have := (List.getElem?_eq_some_iff.mp h).1
        rwa [wipeE_len] at this
      have e : ρ[i]? = some ρ[i] := List.getElem?_eq_getElem hi2
      have sl := eo.slot i _ e
      rw [e] at this
      revert sl this
      cases ρ[i] with
      | u => intro _ h; exact h
      | val p => intro _ h; exact h.1
      | bor p => intro _ h; exact h.1
      | own t => intro h _; cases h
    · have sl := eo.slot i _ h2
      rw [h3]
      have c : Carry (Am C fp) (Am (fun a => C a ∧ a ≠ D) fp) H H' := Carry.mk' (fun a o q e => ⟨⟨q.1, fun z => by rw [z, hD] at e; cases e⟩, q.2⟩) (fun a o _ e => keep a o e) (fun a xs e => keep a _ e) fun a o u e => keep a _ e
      have cB : Carry (fun a => ¬ InF fp a) (fun a => ¬ InF fp a) H H' := Carry.mk' (fun a o q e => q) (fun a o _ e => keep a o e) (fun a xs e => keep a _ e) fun a o u e => keep a _ e
      revert sl
      cases s with
      | u => exact id
      | val p => rintro ⟨f, v, hv, r⟩; exact ⟨f, v, hv, Rep.carry c r⟩
      | bor p => rintro ⟨f, v, hv, r⟩; exact ⟨f, v, hv, Rep.carry cB r⟩
      | own t => rintro ⟨v, hv, r⟩; exact ⟨v, hv, r.carry c fun a _ o q => keep a o q⟩
  out := fun i hi => eo.out i (by rwa [wipeE_len] at hi)
  inj := eo.inj
  nod := eo.nod
  cap := fun a h => ⟨eo.cap a h, fun z => by obtain ⟨o, ho, _⟩ := eo.live h; rw [z, hD] at ho; cases ho⟩
  new := fun a h => ⟨eo.new a (by
    cases z : H a with
    | none => rfl
    | some o => rw [keep a o z] at h; cases h), fun z => hD' (z ▸ h)⟩
theorem wipe_wipe (σ : L2.St) (vs : List Nat) : wipe (wipe σ vs) vs = wipe σ vs := by
  refine List.ext_getElem? fun i => ?_
  rw [wipe_get, wipe_get, wipe_length]
  by_cases h : i ∈ vs ∧ i < σ.length
  · rw [if_pos h, if_pos h]
  · rw [if_neg h, if_neg h]
/-- the tests of a clause -/
def TsJ (X : Cx) (C : Addr → Prop) (W : WX) (ifs : List Expr) (t : T) : Prop := PTs X ifs (tT X.K C W t)
theorem pts_weak {X : Cx} {ifs : List Expr} {t t' : TT} (h : PTs X ifs t) (w : ∀ σ H Q, t' σ H Q → t σ H Q) : PTs X ifs t' := ⟨fun pins s σ H Q I q => h.run pins s σ H Q I (w σ H Q q)⟩
theorem tsj_nil : TsJ X C W [] tYesF := pts_weak pts_nil fun σ H Q ⟨ρ, fp, eo, o⟩ => o H (Same.refl H)
theorem tsj_one {t : T} (h : TJ X C W e t) : TsJ X C W [e] t := pts_one h
end
section
variable {X : Cx} {C : Addr → Prop} {W : WX} {e e1 e2 e3 tg iter : Expr} {pos p2 pn : Pos} {m m1 m2 m3 : Mode} {f f1 f2 f3 : E} {fo : O}
/-- readings for any frame of common things -/
def uG (vs : List Nat) (K : PySem.W.Frag) (g : G) : TG := fun v σ H Q => ∃ D, tGt vs K D g v σ H Q
def uT (K : PySem.W.Frag) (t : T) : TT := fun σ H Q => ∃ D, tT K D W0 t σ H Q
def uE (K : PySem.W.Frag) (f : E) : TE := fun σ H Q => ∃ D, tE K D W0 .E f σ H Q
theorem uG_ok {vs : List Nat} {g : G} (h : ∀ D, GJ X D vs tg g) : PG X tg (uG vs X.K g) := ⟨fun pins s σ H v u Q I r ⟨D, q⟩ => (h D).run pins s σ H v u Q I r q⟩
theorem uT_ok {ifs : List Expr} {t : T} (h : ∀ D, TsJ X D W0 ifs t) : PTs X ifs (uT X.K t) := ⟨fun pins s σ H Q I ⟨D, q⟩ => (h D).run pins s σ H Q I q⟩
theorem uE_ok (h : ∀ D, EJ X D W0 .E e f) : PE X e (uE X.K f) := ⟨fun pins s σ H Q I ⟨D, q⟩ => (h D).run pins s σ H Q I q⟩
theorem fits_out {ps : List PV} {P : OT → Prop} {E' : XF} (h : Out (fits ps) P E') : ps.length ≤ sizeLine ∧ P (.l ps) := by
  unfold fits at h
  split at h
  · rename_i hl; exact ⟨hl, h⟩
  · exact h.elim
theorem Out.noexc {α : Type} {r : Res α} {P : α → Prop} {E' : XF} (h : Out r P E') (n : ∀ c fs, r ≠ .exc c fs) : ∃ a, r = .ok a ∧ P a := by
  cases r with
  | ok a => exact ⟨a, rfl, h⟩
  | exc c fs => exact (n c fs rfl).elim
  | bad => exact h.elim
theorem comp_loop_le {g : G} {t : T} {el : E} {ρ : Env} : ∀ {ps ys : List PV}, compLoop g t el ρ ps = some ys → ys.length ≤ ps.length
  | [], ys, h => by cases h; exact Nat.le_refl _
  | p :: ps, ys, h => by
    simp only [compLoop] at h
    cases e : compTurn g t el ρ p with
    | none => rw [e] at h; cases h
    | some o =>
      rw [e] at h
      cases e2 : compLoop g t el ρ ps with
      | none => rw [e2] at h; cases h
      | some zs =>
        rw [e2] at h
        have := comp_loop_le e2
        cases o with
        | none => cases h; simp only [List.length_cons]; omega
        | some y => cases h; simp only [List.length_cons]; omega
/-- the reading of a comprehension -/
theorem comp_read {K : PySem.W.Frag} {l : L} {vs : List Nat} {g : G} {t : T} {el : E} {σ : L2.St} {H : Hp} {Q : VK} (h : tO K C W (oComp l vs g t el) σ H Q) : tLc (tI K C W relS l) (uG vs K g) (uT K t) (uE K el) vs σ H Q := by
  obtain ⟨ρ, fp, eo, o⟩ := h
  unfold oComp at o
  split at o
  case isFalse => exact o.elim
  rename_i hs
  refine ⟨ρ, fp, eo, (Out.bind o).mono (fun items o1 J H1 s1 it => ?_) fun _ _ q => q⟩
  intro D hD
  obtain ⟨res, hres, o2⟩ := Out.ofO (Out.bind o1)
  obtain ⟨hfit, k⟩ := fits_out o2
  have k : KO K (Am C fp) H1 (.l res) Q := KO.later k s1
  refine ⟨fun i m H => m = items.length - i ∧ ∃ acc accV rest, (∀ a o, a ≠ D → H1 a = some o → H a = some o) ∧ H D = some (.lst accV) ∧ Reps K (fun a => Am C fp a ∧ a ≠ D) H acc accV ∧ compLoop g t el (wipeE ρ vs) (items.drop i) = some rest ∧ res = acc ++ rest,
    ⟨_, rfl, [], [], res, fun a o ha e => by rw [upd_ne ha]; exact e, upd_same, rfl, hres, rfl⟩, ?_⟩
  rintro i m H2 ⟨rfl, acc, accV, rest, keep, hDD, ra, hr, he⟩
  have sm : Same H1 H2 := fun a o e => keep a o (fun z => by rw [z, hD] at e; cases e) e
  have cB : Carry (Am C fp) (Am (fun a => C a ∧ a ≠ D) fp) H1 H2 := Carry.mk' (fun a o q e => ⟨⟨q.1, fun z => by rw [z, hD] at e; cases e⟩, q.2⟩) (fun a o _ e => sm a o e) (fun a xs e => sm a _ e) fun a o u e => sm a _ e
  obtain ⟨it1, it2⟩ := it H2 _ sm cB i
  by_cases hi : i < items.length
  · have hx : items[i]? = some items[i] := List.getElem?_eq_getElem hi
    obtain ⟨go, yl⟩ := it1 _ hx
    rw [List.drop_eq_getElem_cons hi] at hr
    simp only [compLoop] at hr
    cases eT : compTurn g t el (wipeE ρ vs) items[i] with
    | none => rw [eT] at hr; cases hr
    | some ot =>
      rw [eT] at hr
      cases eL : compLoop g t el (wipeE ρ vs) (items.drop (i + 1)) with
      | none => rw [eL] at hr; cases hr
      | some rest' =>
        rw [eL] at hr
        refine .inr ⟨go, fun H' => ∃ acc accV rest, (∀ a o, a ≠ D → H1 a = some o → H' a = some o) ∧ H' D = some (.lst accV) ∧ Reps K (fun a => Am C fp a ∧ a ≠ D) H' acc accV ∧ compLoop g t el (wipeE ρ vs) (items.drop (i + 1)) = some rest ∧ res = acc ++ rest,
          fun H' ⟨a, b, c, d⟩ => ⟨items.length - (i + 1), by omega, rfl, a, b, c, d⟩, fun x H' hy => ?_⟩
        obtain ⟨s2, r⟩ := yl x H' hy
        unfold compTurn at eT
        cases eg : g items[i] (wipeE ρ vs) with
        | none => rw [eg] at eT; cases eT
        | some ρ1 =>
          rw [eg] at eT
          simp only at eT
          have sm' : Same H1 H' := sm.trans s2
          have hD' : H' D = some (.lst accV) := s2 _ _ hDD
          have eb : EnvOk K (fun a => C a ∧ a ≠ D) (wipeE ρ vs) (wipe σ vs) H' fp := (eo.same s1).block hs hD sm' (by rw [hD']; simp)
          refine ⟨fun a => C a ∧ a ≠ D, wipeE ρ vs, fp, items[i], ρ1, eb, r, eg, fun σ3 fp3 eo3 g3 b3 p3 => ⟨(b3.wipe).trans (wipe_wipe σ vs), ?_⟩⟩
          have stay : ∀ H4, Same H' H4 → (∀ a o, a ≠ D → H1 a = some o → H4 a = some o) ∧ H4 D = some (.lst accV) ∧ Reps K (fun a => Am C fp a ∧ a ≠ D) H4 acc accV := fun H4 s4 =>
            ⟨fun a o _ e => s4 a o (sm' a o e), s4 _ _ hD', Reps.same (s2.trans s4) ra⟩
          have inF : ∀ a, InF fp a → InF fp3 a := fun a ⟨j, hj⟩ => by
            by_cases hv : j ∈ vs
            · have : fp j = [] := by
                by_cases hl : j < (wipeE ρ vs).length
                · have e := List.getElem?_eq_getElem hl
                  rcases wipeE_get ρ σ e with ⟨z, _⟩ | ⟨z, _⟩
                  · have := eb.slot j _ e; rw [z] at this; exact this
                  · exact (z hv).elim
                · exact eb.out j (Nat.le_of_not_lt hl)
              rw [this] at hj; cases hj
            · exact ⟨j, by rw [p3 j hv]; exact hj⟩
          cases et : t ρ1 with
          | exc c fs => rw [et] at eT; cases eT
          | bad => rw [et] at eT; cases eT
          | ok b =>
            rw [et] at eT
            refine ⟨fun a => C a ∧ a ≠ D, ρ1, fp3, eo3, ?_⟩
            rw [et]
            intro H4 s4
            obtain ⟨k1, k2, k3⟩ := stay H4 s4
            cases b with
            | false =>
              cases eT
              rw [if_neg (by simp)]
              refine ⟨acc, accV, rest', k1, k2, k3, eL, ?_⟩
              simp only [Option.map_some, Option.bind_some, Option.some.injEq] at hr
              rw [he, ← hr]
            | true =>
              rw [if_pos rfl]
              simp only at eT
              cases ee : el ρ1 with
              | exc c fs => rw [ee] at eT; cases eT
              | bad => rw [ee] at eT; cases eT
              | ok y =>
                rw [ee] at eT
                cases eT
                simp only [Option.map_some, Option.bind_some, Option.some.injEq] at hr
                refine ⟨fun a => C a ∧ a ≠ D, ρ1, fp3, eo3.same s4, ?_⟩
                rw [ee]
                intro v H5 s5 rv
                obtain ⟨k1, k2, k3⟩ := stay H5 (s4.trans s5)
                refine ⟨accV, k2, ?_, acc ++ [y], accV ++ [v], rest', fun a o ha e => by rw [upd_ne ha]; exact k1 a o ha e, upd_same, ?_, eL, ?_⟩
                · rw [k3.length]
                  rw [he, ← hr] at hfit
                  simp only [List.length_append, List.length_cons] at hfit
                  omega
                · have rv : Rep K (fun a => Am C fp a ∧ a ≠ D) H5 y v := Rep.sub (fun a q => ⟨⟨q.1.1, fun z => q.2 (inF a z)⟩, q.1.2⟩) (rv : Rep K (Am (fun a => C a ∧ a ≠ D) fp3) H5 y v)
                  have nt : ∀ a, a ≠ D → (upd H5 D (.lst (accV ++ [v]))) a = H5 a := fun a h => upd_ne h
                  have c : Carry (fun a => Am C fp a ∧ a ≠ D) (fun a => Am C fp a ∧ a ≠ D) H5 (upd H5 D (.lst (accV ++ [v]))) :=
                    Carry.mk' (fun a o q _ => q) (fun a o q e => by rw [nt a q.2]; exact e) (fun a xs e => by rw [nt a (fun z => by rw [z, k2] at e; cases e)]; exact e) fun a o u e => by rw [nt a (fun z => by rw [z, k2] at e; cases e)]; exact e
                  exact (Reps.carry c k3).append (Reps.one (Rep.carry c rv))
                · rw [he, ← hr]; simp
  · rw [List.drop_eq_nil_of_le (Nat.le_of_not_lt hi)] at hr
    cases hr
    rw [List.append_nil] at he
    subst he
    refine .inl ⟨it2 (Nat.le_of_not_lt hi), k _ _ [D] ?_ (by simp) (fun a h => by rw [List.mem_singleton.mp h]; exact hD) ⟨D, accV, rfl, rfl, hDD, Reps.sub (fun a q => ⟨q.1, fun z => q.2 (List.mem_singleton.mp z)⟩) ra⟩⟩
    exact sm
/-- [el for tg in iter if ..] -/
theorem oj_comp {elt : Expr} {ifs : List Expr} {scope : Scope} {own : List (Str × Nat)} {l : L} {g : G} {t : T} {el : E} (hc : X.calm = true) (hN : X.N.Nodup) (hi : IJ X C W relS tg iter l) (ok : BlkOk X.N X.env.scope scope own)
    (hg : ∀ (D : Addr → Prop) (s : Shared) (H : Hp) (c : Addr) (cl : List (Str × Addr)) (fp : List Addr), GJ (X.blk s H scope (compEnvC scope cl c X.env) fp) D (own.map (·.2)) tg g)
    (ht : ∀ (D : Addr → Prop) (s : Shared) (H : Hp) (c : Addr) (cl : List (Str × Addr)) (fp : List Addr), TsJ (X.blk s H scope (compEnvC scope cl c X.env) fp) D W0 ifs t)
    (he : ∀ (D : Addr → Prop) (s : Shared) (H : Hp) (c : Addr) (cl : List (Str × Addr)) (fp : List Addr), EJ (X.blk s H scope (compEnvC scope cl c X.env) fp) D W0 .E elt el) (hs : ∀ x, foldedSetIterable iter X.env x = pure x := by intro _; rfl) :
    OJ X C W (.ListComp elt [⟨tg, iter, ifs, 0⟩] scope pos) (oComp l (own.map (·.2)) g t el) :=
  pe_weak (pe_lc hc hN hi ok (fun s H c cl fp => uG_ok fun D => hg D s H c cl fp) (fun s H c cl fp => uT_ok fun D => ht D s H c cl fp) (fun s H c cl fp => uE_ok fun D => he D s H c cl fp) hs) fun σ H Q h => comp_read h
/-- y = [..], on one line, y a local -/
theorem sj_asgLc {i : Nat} {y : Str} {py spos : Pos} {elt : Expr} {ifs : List Expr} {scope : Scope} {own : List (Str × Nat)} {l : L} {g : G} {t : T} {el : E} (hc : X.calm = true) (hN : X.N.Nodup) (hy : X.N[i]? = some y) (hyl : X.env.scope.names.lookup y = some .local)
    (hsw : swapsWith (.ListComp elt [⟨tg, iter, ifs, 0⟩] scope pos) (some (.Name y py)) spos.line X.env = pure true) (hi : IJ X C W relS tg iter l) (ok : BlkOk X.N X.env.scope scope own)
    (hg : ∀ (D : Addr → Prop) (s : Shared) (H : Hp) (c : Addr) (cl : List (Str × Addr)) (fp : List Addr), GJ (X.blk s H scope (compEnvC scope cl c X.env) fp) D (own.map (·.2)) tg g)
    (ht : ∀ (D : Addr → Prop) (s : Shared) (H : Hp) (c : Addr) (cl : List (Str × Addr)) (fp : List Addr), TsJ (X.blk s H scope (compEnvC scope cl c X.env) fp) D W0 ifs t)
    (he : ∀ (D : Addr → Prop) (s : Shared) (H : Hp) (c : Addr) (cl : List (Str × Addr)) (fp : List Addr), EJ (X.blk s H scope (compEnvC scope cl c X.env) fp) D W0 .E elt el) (hs : ∀ x, foldedSetIterable iter X.env x = pure x := by intro _; rfl) :
    SJ X C W (.Assign [.Name y py] (.ListComp elt [⟨tg, iter, ifs, 0⟩] scope pos) spos) (sAsg i (oComp l (own.map (·.2)) g t el)) :=
  ps_weak (ps_setLc hc hN hy hyl hsw hi ok (fun s H c cl fp => uG_ok fun D => hg D s H c cl fp) (fun s H c cl fp => uT_ok fun D => ht D s H c cl fp) (fun s H c cl fp => uE_ok fun D => he D s H c cl fp) hs) fun D σ H h => comp_read (asg_read h)
end
end Fz
end
section
/-! FwJ: changes of what is one's own; while. -/
namespace Fz
open PySem PySem.Spec PyProof.Rows L2
section
variable {X : Cx} {C : Addr → Prop} {W : WX} {e e1 e2 e3 tg iter : Expr} {pos p2 pn pa : Pos} {m m1 m2 m3 : Mode} {f f1 f2 f3 : E} {fo : O}

/-- a list of slot i is rewritten -/
theorem EnvOk.writeL {K : PySem.W.Frag} {ρ : Env} {σ : L2.St} {H : Hp} {fp : Fp} {i : Nat} {ps qs : List PV} {a : Addr} {xs ys : List V} (e : EnvOk K C ρ σ H fp) (h : ρ[i]? = some (.own (.l ps))) (hv : σ[i]? = some (some (.ref a))) (hF : fp i = [a]) (ha : H a = some (.lst xs)) (r : Reps K (Am C fp) H qs ys) :
    EnvOk K C (ρ.set i (.own (.l qs))) σ (upd H a (.lst ys)) (put fp i [a]) ∧ Grow H fp (upd H a (.lst ys)) (put fp i [a]) := by
  have ne : ∀ b, b ≠ a → (upd H a (.lst ys)) b = H b := fun b hb => upd_ne hb
  refine e.write h hv (by intros; simp) (fun b o hb q => ?_) (fun b hb => ?_) (fun b hb => .inl (by rw [hF]; exact hb)) (by simp) ⟨a, ys, rfl, rfl, upd_same, ?_⟩
  · rw [hF] at hb
    rw [ne b (by simpa using hb)]; exact q
  · by_cases z : b = a
    · subst z; rw [upd_same]; simp
    · rw [ne b z]; exact hb
  · have nA : ∀ b, Am C fp b → b ≠ a := fun b q z => q.2 ⟨i, by rw [hF, z]; simp⟩
    exact Reps.carry (Carry.mk' (fun b o q _ => ⟨q, fun z => nA b q (by simpa using z)⟩) (fun b o q z => by rw [ne b (nA b q)]; exact z) (fun b xs' z => by rw [ne b (fun q => by rw [q, ha] at z; cases z)]; exact z) fun b o u z => by rw [ne b (fun q => by rw [q, ha] at z; cases z)]; exact z) r
theorem EnvOk.writeD {K : PySem.W.Frag} {ρ : Env} {σ : L2.St} {H : Hp} {fp : Fp} {i : Nat} {ps qs : List (K1 × PV)} {a : Addr} {xs ys : List (Key × V)} (e : EnvOk K C ρ σ H fp) (h : ρ[i]? = some (.own (.d ps))) (hv : σ[i]? = some (some (.ref a))) (hF : fp i = [a]) (ha : H a = some (.dK xs)) (r : RepK K (Am C fp) H qs ys) :
    EnvOk K C (ρ.set i (.own (.d qs))) σ (upd H a (.dK ys)) (put fp i [a]) ∧ Grow H fp (upd H a (.dK ys)) (put fp i [a]) := by
  have ne : ∀ b, b ≠ a → (upd H a (.dK ys)) b = H b := fun b hb => upd_ne hb
  refine e.write h hv (by intros; simp) (fun b o hb q => ?_) (fun b hb => ?_) (fun b hb => .inl (by rw [hF]; exact hb)) (by simp) ⟨a, ys, rfl, rfl, upd_same, ?_⟩
  · rw [hF] at hb
    rw [ne b (by simpa using hb)]; exact q
  · by_cases z : b = a
    · subst z; rw [upd_same]; simp
    · rw [ne b z]; exact hb
  · have nA : ∀ b, Am C fp b → b ≠ a := fun b q z => q.2 ⟨i, by rw [hF, z]; simp⟩
    exact RepK.carry (Carry.mk' (fun b o q _ => ⟨q, fun z => nA b q (by simpa using z)⟩) (fun b o q z => by rw [ne b (nA b q)]; exact z) (fun b xs' z => by rw [ne b (fun q => by rw [q, ha] at z; cases z)]; exact z) fun b o u z => by rw [ne b (fun q => by rw [q, ha] at z; cases z)]; exact z) r
theorem EnvOk.ownL {K : PySem.W.Frag} {ρ : Env} {σ : L2.St} {H : Hp} {fp : Fp} {i : Nat} {ps : List PV} (e : EnvOk K C ρ σ H fp) (h : ρ[i]? = some (.own (.l ps))) : ∃ a xs, σ[i]? = some (some (.ref a)) ∧ fp i = [a] ∧ H a = some (.lst xs) ∧ Reps K (Am C fp) H ps xs := by
  obtain ⟨v, hv, a, xs, rfl, hF, ha, r⟩ := e.slot i _ h
  exact ⟨a, xs, hv, hF, ha, r⟩
theorem EnvOk.ownD {K : PySem.W.Frag} {ρ : Env} {σ : L2.St} {H : Hp} {fp : Fp} {i : Nat} {ps : List (K1 × PV)} (e : EnvOk K C ρ σ H fp) (h : ρ[i]? = some (.own (.d ps))) : ∃ a xs, σ[i]? = some (some (.ref a)) ∧ fp i = [a] ∧ H a = some (.dK xs) ∧ RepK K (Am C fp) H ps xs := by
  obtain ⟨v, hv, a, xs, rfl, hF, ha, r⟩ := e.slot i _ h
  exact ⟨a, xs, hv, hF, ha, r⟩

/-! ### expressions that change a name's own thing -/
abbrev Qx := Env → Res (PV × Env)
def tQ (K : PySem.W.Frag) (C : Addr → Prop) (W : WX) (q : Qx) : TE := fun σ H Q => ∃ ρ fp, EnvOk K C ρ σ H fp ∧ Out (q ρ) (fun r => ∀ v H' fp', EnvOk K C r.2 σ H' fp' → Grow H fp H' fp' → Rep K (Am C fp') H' r.1 v → Q v H') (XQ K W σ H)
def QJ (X : Cx) (C : Addr → Prop) (W : WX) (e : Expr) (q : Qx) : Prop := PE X e (tQ X.K C W q)
def qE (f : E) : Qx := fun ρ => f ρ >>= fun p => .ok (p, ρ)
theorem qj_E (h : EJ X C W .E e f) : QJ X C W e (qE f) := pe_weak h fun σ H Q ⟨ρ, fp, eo, o⟩ => ⟨ρ, fp, eo, (Out.bind o).mono (fun p q v H' s r => q v H' fp (eo.same s) (Grow.same s) r) fun _ _ q => q⟩
/-- x.pop(e) -/
def qPopAt (i : Nat) (f : E) : Qx := fun ρ => match ρ[i]? with
  | some (.own (.l ps)) => f ρ >>= fun x => intOf x >>= fun k => if bnd k = true then (match ixN ps.length k with
    | some j => (match ps[j]? with
      | some p => .ok (p, ρ.set i (.own (.l (ps.eraseIdx j))))
      | none => .bad)
    | none => .bad) else .bad
  | _ => .bad
theorem bnd_spec {k : Int} (h : bnd k = true) : -(2 ^ 62) ≤ k ∧ k < 2 ^ 62 := by simpa [bnd] using h
theorem reps_getV {K : PySem.W.Frag} {A : Addr → Prop} {H : Hp} {ps : List PV} {vs : List V} {i : Nat} {p : PV} (r : Reps K A H ps vs) (h : ps[i]? = some p) : ∃ v, vs[i]? = some v ∧ Rep K A H p v := r.get h
theorem qj_popAt {i : Nat} {x : Str} {apos px : Pos} (hN : X.N[i]? = some x) (hv : Vis X.env.scope x) (h : EJ X C W m e f) (hd : (x == ("__debug__" : Str)) = false := by decide) (hcd : (x == ("__classdict__" : Str)) = false := by decide)
    (hbase : attributeBase (.Name x px) "pop" X.env (eval (.Name x px) X.env) = eval (.Name x px) X.env := by rfl)
    (hfew : ((backTo pos (starEach [e] X.env)).all (fun x => !x.1) && (backToKw pos (keywordEach [] X.env)).all (fun x => x.1.isSome) && decide ([e].length + ([] : List Keyword).length + (if ([] : List Keyword).isEmpty then 0 else 1) < 30)) = true := by rfl)
    (hline : (apos.endLine == pos.line) = true := by rfl) (hs : starEach [e] X.env = (false, eval e X.env) :: starEach [] X.env := by rfl) (hplain : (backTo pos (starEach [] X.env)).any (·.1) = false := by rfl) : QJ X C W (.Call (.Attribute (.Name x px) "pop" apos) [e] [] pos) (qPopAt i f) :=
  pe_weak (pe_bm PySem.F.plainAttrs_list PySem.F.slot_list_pop PySem.F.type_list_pop mt_popAt (pe_var hN hv hd hcd) (pa_cons h pa_nil hs) hbase hfew hline hs hplain) fun σ H Q ⟨ρ, fp, eo, o⟩ => by
    unfold qPopAt at o
    split at o
    · rename_i ps hi
      obtain ⟨a, xs, hσ, hF, ha, rr⟩ := eo.ownL hi
      refine ⟨.ref a, hσ, .inl ⟨rfl, xs, SqL.of ha⟩, ρ, fp, eo, (Out.bind o).mono (fun p o1 v H1 s1 r1 => ?_) fun _ _ q => q⟩
      cases p with
      | int k =>
        have o1 : Out (if bnd k = true then (match ixN ps.length k with
          | some j => (match ps[j]? with
            | some p => Res.ok (p, ρ.set i (.own (.l (ps.eraseIdx j))))
            | none => .bad)
          | none => .bad) else .bad) _ _ := o1
        split at o1
        · rename_i hb
          obtain ⟨b1, b2⟩ := bnd_spec hb
          split at o1
          · rename_i j hj
            split at o1
            · rename_i p hp
              obtain ⟨w, hw, rw'⟩ := rr.get hp
              have ha1 : H1 a = some (.lst xs) := s1 _ _ ha
              have eo1 := eo.same s1
              obtain ⟨e2, g2⟩ := eo1.writeL hi hσ hF ha1 ((rr.same s1).eraseIdx j)
              refine ⟨a, xs, k, j, w, rfl, by rw [show v = .int k from RepM.toB r1], ha1, by omega, by omega, (ixN_seq (by rw [rr.length]; exact hj)).1, hw, ?_⟩
              exact o1 w _ _ e2 ((Grow.same s1).trans g2) (Rep.carry g2.carry (rw'.same s1))
            · exact o1.elim
          · exact o1.elim
        · exact o1.elim
      | _ => exact o1.elim
    · exact o.elim
/-- x.pop() -/
def qPop (i : Nat) : Qx := fun ρ => match ρ[i]? with
  | some (.own (.l ps)) => (match ps[ps.length - 1]? with
    | some p => .ok (p, ρ.set i (.own (.l ps.dropLast)))
    | none => .bad)
  | _ => .bad
theorem Reps.dropLast {K : PySem.W.Frag} {A : Addr → Prop} {H : Hp} {ps : List PV} {vs : List V} (r : Reps K A H ps vs) : Reps K A H ps.dropLast vs.dropLast := by
  rw [List.dropLast_eq_take, List.dropLast_eq_take, r.length]
  exact r.take _
theorem qj_pop {i : Nat} {x : Str} {apos px : Pos} (hN : X.N[i]? = some x) (hv : Vis X.env.scope x) (hd : (x == ("__debug__" : Str)) = false := by decide) (hcd : (x == ("__classdict__" : Str)) = false := by decide)
    (hbase : attributeBase (.Name x px) "pop" X.env (eval (.Name x px) X.env) = eval (.Name x px) X.env := by rfl) (hline : (apos.endLine == pos.line) = true := by rfl) : QJ X C W (.Call (.Attribute (.Name x px) "pop" apos) [] [] pos) (qPop i) :=
  pe_weak (pe_bm0 PySem.F.plainAttrs_list PySem.F.slot_list_pop PySem.F.type_list_pop mt_pop (pe_var hN hv hd hcd) hbase hline) fun σ H Q ⟨ρ, fp, eo, o⟩ => by
    unfold qPop at o
    split at o
    · rename_i ps hi
      obtain ⟨a, xs, hσ, hF, ha, rr⟩ := eo.ownL hi
      split at o
      · rename_i p hp
        obtain ⟨w, hw, rw'⟩ := rr.get hp
        obtain ⟨e2, g2⟩ := eo.writeL hi hσ hF ha rr.dropLast
        refine ⟨.ref a, hσ, .inl ⟨rfl, xs, SqL.of ha⟩, a, xs, w, rfl, rfl, ha, by rw [rr.length]; exact hw, ?_⟩
        exact o w _ _ e2 g2 (Rep.carry g2.carry rw')
      · exact o.elim
    · exact o.elim
def sAsgQ (i : Nat) (q : Qx) : S := fun ρ => withR (q ρ) ρ fun r => if i < r.2.length then .nx (r.2.set i (.val r.1)) else .bad
theorem sj_asgQ {i : Nat} {x : Str} {q : Qx} {pos' : Pos} (hN : X.N.Nodup) (hi : X.N[i]? = some x) (hx : Loc X.env.scope x) (he : QJ X C W e q) (hs : swapsWith e (some (.Name x pos')) pos.line X.env = pure false := by rfl)
    (hf : X.fn x = true ∨ X.env.scope.names.lookup x = some .local := by first | exact .inl rfl | exact .inr rfl | assumption) : SJ X C W (.Assign [.Name x pos'] e pos) (sAsgQ i q) :=
  ps_weak (ps_set hN hi hx he hs hf) fun D σ H ⟨ρ, fp, eo, h⟩ => by
    refine ⟨ρ, fp, eo, (FlQ.ofR eo h).mono (fun r q v H' fp' e' g' rr => ?_) fun _ _ q => q⟩
    split at q
    · rename_i hl
      obtain ⟨e2, g2⟩ := e'.setVal hl rr
      exact q _ _ _ e2 (g'.trans g2)
    · exact q.elim
def sAsgTQ (g : G) (q : Qx) : S := fun ρ => withR (q ρ) ρ fun r => match g r.1 r.2 with
  | some ρ' => .nx ρ'
  | none => .bad
theorem sj_asgTQ {g : G} {q : Qx} {vs : List Nat} (he : QJ X C W e q) (hg : GJ X C vs tg g) (hs : swapsWithSole [tg] e pos.line X.env = pure false := by rfl) (hw : swappedStores [tg] e X.env = pure none := by rfl) (h1 : (assignEach [tg] X.env).map (·.2) = [assign tg X.env] := by rfl) : SJ X C W (.Assign [tg] e pos) (sAsgTQ g q) :=
  ps_weak (ps_asg he hg hs hw h1) fun D σ H ⟨ρ, fp, eo, h⟩ => by
    refine ⟨ρ, fp, eo, (FlQ.ofR eo h).mono (fun r q v H' fp' e' g' rr => ?_) fun _ _ q => q⟩
    split at q
    · rename_i ρ' hρ
      exact ⟨_, fp', _, ρ', e', rr, hρ, fun σ2 fp2 e2 g2 _ _ => q σ2 _ fp2 e2 (g'.trans g2)⟩
    · exact q.elim
def sRetQ (q : Qx) : S := fun ρ => withR (q ρ) ρ fun r => .rt (.fz r.1)
theorem sj_retQ {q : Qx} (he : QJ X C W e q) : SJ X C W (.Return (some e) pos) (sRetQ q) := ps_weak (ps_ret he) fun D σ H ⟨ρ, fp, eo, h⟩ =>
  ⟨ρ, fp, eo, (FlQ.ofR eo h).mono (fun r q v H' fp' e' g' rr => q v H' [] (grow_end g') List.nodup_nil (fun _ h => nomatch h) ⟨rfl, Rep.sub (fun a z => ⟨z.1, fun y => nomatch y⟩) rr⟩) fun _ _ q => q⟩
def sDropQ (q : Qx) : S := fun ρ => withR (q ρ) ρ fun r => .nx r.2
theorem sj_exprQ {q : Qx} (he : QJ X C W e q) (hs : swapsWith e none pos.line X.env = pure false := by rfl) : SJ X C W (.Expr e pos) (sDropQ q) := ps_weak (ps_expr he hs) fun D σ H ⟨ρ, fp, eo, h⟩ =>
  ⟨ρ, fp, eo, (FlQ.ofR eo h).mono (fun r q v H' fp' e' g' rr => q σ H' fp' e' g') fun _ _ q => q⟩

/-! ### x.append(e), x.extend(e), x.reverse() -/
def sApp (i : Nat) (q : Qx) : S := fun ρ => match ρ[i]? with
  | some (.own (.l _)) => withR (q ρ) ρ fun r => (match r.2[i]? with
    | some (.own (.l ps)) => if ps.length < sizeLine then .nx (r.2.set i (.own (.l (ps ++ [r.1])))) else .bad
    | _ => .bad)
  | _ => .bad
theorem sj_app {i : Nat} {x : Str} {q : Qx} {apos px cpos : Pos} (hN : X.N[i]? = some x) (hv : Vis X.env.scope x) (h : QJ X C W e q) (hd : (x == ("__debug__" : Str)) = false := by decide) (hcd : (x == ("__classdict__" : Str)) = false := by decide)
    (hsw : swapsWith (.Call (.Attribute (.Name x px) "append" apos) [e] [] cpos) none pos.line X.env = pure false := by rfl)
    (hbase : attributeBase (.Name x px) "append" X.env (eval (.Name x px) X.env) = eval (.Name x px) X.env := by rfl)
    (hfew : ((backTo cpos (starEach [e] X.env)).all (fun x => !x.1) && (backToKw cpos (keywordEach [] X.env)).all (fun x => x.1.isSome) && decide ([e].length + ([] : List Keyword).length + (if ([] : List Keyword).isEmpty then 0 else 1) < 30)) = true := by rfl)
    (hline : (apos.endLine == cpos.line) = true := by rfl) (hs : starEach [e] X.env = (false, eval e X.env) :: starEach [] X.env := by rfl) (hplain : (backTo cpos (starEach [] X.env)).any (·.1) = false := by rfl) :
    SJ X C W (.Expr (.Call (.Attribute (.Name x px) "append" apos) [e] [] cpos) pos) (sApp i q) :=
  ps_weak (ps_expr (pe_bm PySem.F.plainAttrs_list PySem.F.slot_list_append PySem.F.type_list_append mt_append (pe_var hN hv hd hcd) (pa_cons h pa_nil hs) hbase hfew hline hs hplain) hsw) fun D σ H ⟨ρ, fp, eo, o⟩ => by
    unfold sApp at o
    split at o
    · rename_i ps0 hi
      obtain ⟨a, xs0, hσ, _, ha, _⟩ := eo.ownL hi
      refine ⟨.ref a, hσ, .inl ⟨rfl, xs0, SqL.of ha⟩, ρ, fp, eo, (FlQ.ofR eo o).mono (fun r q v H1 fp1 e1 g1 r1 => ?_) fun _ _ q => q⟩
      split at q
      · rename_i ps hi1
        split at q
        · rename_i hl
          obtain ⟨b, xs, hσ1, hF, hb, rr⟩ := e1.ownL hi1
          rw [hσ] at hσ1; cases hσ1
          obtain ⟨e2, g2⟩ := e1.writeL hi1 hσ hF hb (rr.append (Reps.one r1))
          exact ⟨a, xs, v, rfl, rfl, hb, by rw [rr.length]; exact hl, q σ _ _ e2 (g1.trans g2)⟩
        · exact q.elim
      · exact q.elim
    · exact o.elim
def sExt (i : Nat) (f : E) : S := fun ρ => match ρ[i]? with
  | some (.own (.l ps)) => withR (f ρ) ρ fun y => (match y with
    | .lst qs => if ps.length + qs.length ≤ sizeLine then .nx (ρ.set i (.own (.l (ps ++ qs)))) else .bad
    | _ => .bad)
  | _ => .bad
theorem sj_ext {i : Nat} {x : Str} {apos px cpos : Pos} (hN : X.N[i]? = some x) (hv : Vis X.env.scope x) (h : EJ X C W .I e f) (hd : (x == ("__debug__" : Str)) = false := by decide) (hcd : (x == ("__classdict__" : Str)) = false := by decide)
    (hsw : swapsWith (.Call (.Attribute (.Name x px) "extend" apos) [e] [] cpos) none pos.line X.env = pure false := by rfl)
    (hbase : attributeBase (.Name x px) "extend" X.env (eval (.Name x px) X.env) = eval (.Name x px) X.env := by rfl)
    (hfew : ((backTo cpos (starEach [e] X.env)).all (fun x => !x.1) && (backToKw cpos (keywordEach [] X.env)).all (fun x => x.1.isSome) && decide ([e].length + ([] : List Keyword).length + (if ([] : List Keyword).isEmpty then 0 else 1) < 30)) = true := by rfl)
    (hline : (apos.endLine == cpos.line) = true := by rfl) (hs : starEach [e] X.env = (false, eval e X.env) :: starEach [] X.env := by rfl) (hplain : (backTo cpos (starEach [] X.env)).any (·.1) = false := by rfl) :
    SJ X C W (.Expr (.Call (.Attribute (.Name x px) "extend" apos) [e] [] cpos) pos) (sExt i f) :=
  ps_weak (ps_expr (pe_bm PySem.F.plainAttrs_list PySem.F.slot_list_extend PySem.F.type_list_extend mt_extend (pe_var hN hv hd hcd) (pa_cons h pa_nil hs) hbase hfew hline hs hplain) hsw) fun D σ H ⟨ρ, fp, eo, o⟩ => by
    unfold sExt at o
    split at o
    · rename_i ps hi
      obtain ⟨a, xs, hσ, hF, ha, rr⟩ := eo.ownL hi
      refine ⟨.ref a, hσ, .inl ⟨rfl, xs, SqL.of ha⟩, ρ, fp, eo, (FlQ.ofR eo o).mono (fun y q v H1 s1 r1 => ?_) fun _ _ q => q⟩
      cases y with
      | lst qs =>
        obtain ⟨b, ys, rfl, hb, r2⟩ := r1
        simp only at q
        split at q
        · rename_i hl
          obtain ⟨e2, g2⟩ := (eo.same s1).writeL hi hσ hF (s1 _ _ ha) ((rr.same s1).append r2)
          exact ⟨a, b, xs, ys, rfl, rfl, s1 _ _ ha, hb, by rw [rr.length, r2.length]; exact hl, q σ _ _ e2 ((Grow.same s1).trans g2)⟩
        · exact q.elim
      | _ => exact q.elim
    · exact o.elim
def sRev (i : Nat) : S := fun ρ => match ρ[i]? with
  | some (.own (.l ps)) => .nx (ρ.set i (.own (.l ps.reverse)))
  | _ => .bad
theorem sj_rev {i : Nat} {x : Str} {apos px cpos : Pos} (hN : X.N[i]? = some x) (hv : Vis X.env.scope x) (hd : (x == ("__debug__" : Str)) = false := by decide) (hcd : (x == ("__classdict__" : Str)) = false := by decide)
    (hsw : swapsWith (.Call (.Attribute (.Name x px) "reverse" apos) [] [] cpos) none pos.line X.env = pure false := by rfl)
    (hbase : attributeBase (.Name x px) "reverse" X.env (eval (.Name x px) X.env) = eval (.Name x px) X.env := by rfl) (hline : (apos.endLine == cpos.line) = true := by rfl) :
    SJ X C W (.Expr (.Call (.Attribute (.Name x px) "reverse" apos) [] [] cpos) pos) (sRev i) :=
  ps_weak (ps_expr (pe_bm0 PySem.F.plainAttrs_list PySem.F.slot_list_reverse PySem.F.type_list_reverse mt_reverse (pe_var hN hv hd hcd) hbase hline) hsw) fun D σ H ⟨ρ, fp, eo, o⟩ => by
    unfold sRev at o
    split at o
    · rename_i ps hi
      obtain ⟨a, xs, hσ, hF, ha, rr⟩ := eo.ownL hi
      obtain ⟨e2, g2⟩ := eo.writeL hi hσ hF ha rr.reverse
      exact ⟨.ref a, hσ, .inl ⟨rfl, xs, SqL.of ha⟩, a, xs, rfl, rfl, ha, o σ _ _ e2 g2⟩
    · exact o.elim

/-! ### while -/
def whileN (t : T) (body : S) : Nat → Env → Option Fl
  | 0, _ => none
  | n + 1, ρ => match t ρ with
    | .ok false => some (.nx ρ)
    | .ok true => (match body ρ with
      | .nx ρ2 => whileN t body n ρ2
      | .ct ρ2 => whileN t body n ρ2
      | .bk ρ2 => some (.nx ρ2)
      | r => some r)
    | .exc c fs => some (.ex c fs ρ)
    | .bad => some .bad
open Classical in
/-- its end, if it comes to one -/
noncomputable def sWhile (t : T) (body : S) : S := fun ρ => if h : ∃ r n, whileN t body n ρ = some r then h.choose else .bad
theorem whileN_mono {t : T} {body : S} : ∀ {n k : Nat} {ρ : Env} {r : Fl}, whileN t body n ρ = some r → n ≤ k → whileN t body k ρ = some r
  | 0, _, _, _, h, _ => by cases h
  | n + 1, 0, _, _, _, hk => by omega
  | n + 1, k + 1, ρ, r, h, hk => by
    unfold whileN at h ⊢
    cases e : t ρ with
    | exc c fs => rw [e] at h; exact h
    | bad => rw [e] at h; exact h
    | ok b =>
      rw [e] at h
      cases b with
      | false => exact h
      | true =>
        simp only at h ⊢
        cases e2 : body ρ with
        | nx ρ2 => rw [e2] at h; exact whileN_mono h (by omega)
        | ct ρ2 => rw [e2] at h; exact whileN_mono h (by omega)
        | bk ρ2 => rw [e2] at h; exact h
        | rt o => rw [e2] at h; exact h
        | ex c fs ρ2 => rw [e2] at h; exact h
        | bad => rw [e2] at h; exact h
theorem sWhile_of {t : T} {body : S} {ρ : Env} {r : Fl} {n : Nat} (h : whileN t body n ρ = some r) : sWhile t body ρ = r := by
  unfold sWhile
  rw [dif_pos ⟨r, n, h⟩]
  have hx : ∃ r n, whileN t body n ρ = some r := ⟨r, n, h⟩
  obtain ⟨k, hk⟩ := hx.choose_spec
  have e1 := whileN_mono h (Nat.le_max_left n k)
  have e2 := whileN_mono hk (Nat.le_max_right n k)
  rw [e1] at e2
  exact (Option.some.inj e2).symm
theorem sj_while {t : T} {body : S} {sts : List Stmt} (hp : PassesOwn (model X.prog X.w) X.A X.env X.xe) (ht : TJ X C W e t) (hb : BJ X C W sts body) : SJ X C W (.While e sts [] pos) (sWhile t body) :=
  ps_weak (ps_while hp ht hb) fun D σ H ⟨ρ, fp, eo, h⟩ => by
    have hx : ∃ r n, whileN t body n ρ = some r := by
      by_cases hx : ∃ r n, whileN t body n ρ = some r
      · exact hx
      · unfold sWhile at h
        rw [dif_neg hx] at h
        exact h.elim
    obtain ⟨r, n, hr⟩ := hx
    rw [sWhile_of hr] at h
    refine ⟨fun n σ' H' => ∃ ρ' fp', EnvOk X.K C ρ' σ' H' fp' ∧ whileN t body n ρ' = some r ∧ FlQ X.K C W D H' fp' r, ⟨n, ρ, fp, eo, hr, h⟩, ?_⟩
    rintro n σ1 H1 ⟨ρ1, fp1, eo1, hr1, q1⟩
    cases n with
    | zero => cases hr1
    | succ n =>
      unfold whileN at hr1
      refine ⟨ρ1, fp1, eo1, ?_⟩
      cases e : t ρ1 with
      | bad => rw [e] at hr1; cases hr1; exact q1.elim
      | exc c fs => rw [e] at hr1; cases hr1; exact fun H' s => q1 σ1 H' fp1 (eo1.same s) (Grow.same s)
      | ok b =>
        rw [e] at hr1
        intro H2 s2
        have q2 := FlQ.later (Grow.same (fp := fp1) s2) q1
        have eo2 := eo1.same s2
        cases b with
        | false =>
          cases hr1
          rw [if_neg (by simp)]
          exact q2 σ1 H2 fp1 eo2 Grow.refl
        | true =>
          rw [if_pos rfl]
          simp only at hr1
          refine ⟨fun σ' H' => ∃ ρ' fp', EnvOk X.K C ρ' σ' H' fp' ∧ whileN t body n ρ' = some r ∧ FlQ X.K C W D H' fp' r, fun σ' H' z => ⟨n, by omega, z⟩, ρ1, fp1, eo2, ?_⟩
          cases e2 : body ρ1 with
          | nx ρ2 => rw [e2] at hr1; exact fun σ3 H3 fp3 e3 g3 => ⟨ρ2, fp3, e3, hr1, FlQ.later g3 q2⟩
          | ct ρ2 => rw [e2] at hr1; exact fun σ3 H3 fp3 e3 g3 => ⟨ρ2, fp3, e3, hr1, FlQ.later g3 q2⟩
          | bk ρ2 => rw [e2] at hr1; cases hr1; exact q2
          | rt o => rw [e2] at hr1; cases hr1; exact q2
          | ex c fs ρ2 => rw [e2] at hr1; cases hr1; exact q2
          | bad => rw [e2] at hr1; cases hr1; exact q2.elim
end
end Fz
end
section
/-! FwK: what a def promises, calls, the end. -/
namespace Fz
open PySem PySem.Spec PyProof.Rows L2
abbrev Fn := List PV → Res OT
def slotOf : Mode → PV → Slot
  | .B, p => .bor p
  | _, p => .val p
def slotsOf : List Mode → List PV → Env
  | m :: ms, p :: ps => slotOf m p :: slotsOf ms ps
  | _, _ => []
/-- a def by its body: n names, the parameters' modes -/
def runFn (n : Nat) (ms : List Mode) (s : S) : Fn := fun ps => if ps.length = ms.length then (match s (slotsOf ms ps ++ List.replicate (n - ps.length) .u) with
  | .rt o => .ok o
  | .nx _ => .ok (.fz .non)
  | .ex c fs _ => .exc c fs
  | _ => .bad) else .bad
def RepArgs (K : PySem.W.Frag) (C : Addr → Prop) (H : Hp) : List Mode → List PV → List V → Prop
  | [], [], [] => True
  | m :: ms, p :: ps, v :: vs => Rep K (match m with | .B => (fun _ => True) | _ => C) H p v ∧ RepArgs K C H ms ps vs
  | _, _, _ => False
def spG (K : PySem.W.Frag) (ms : List Mode) (g : Fn) : Sp := fun vs H Q E => ∃ (C : Addr → Prop) (ps : List PV), RepArgs K C H ms ps vs ∧ Out (g ps) (fun t => KO K (fun a => C a ∨ H a = none) H t Q) (XQ K (fun c d _ H => E c d H) [] H)
theorem RepArgs.len {K : PySem.W.Frag} {C : Addr → Prop} {H : Hp} : ∀ {ms : List Mode} {ps : List PV} {vs : List V}, RepArgs K C H ms ps vs → ps.length = ms.length ∧ vs.length = ms.length
  | [], [], [], _ => ⟨rfl, rfl⟩
  | _ :: _, _ :: _, _ :: _, h => ⟨by simp [(RepArgs.len h.2).1], by simp [(RepArgs.len h.2).2]⟩
theorem slotsOf_len : ∀ {ms : List Mode} {ps : List PV}, ps.length = ms.length → (slotsOf ms ps).length = ps.length
  | [], [], _ => rfl
  | m :: ms, p :: ps, h => by simp [slotsOf, slotsOf_len (ms := ms) (ps := ps) (by simpa using h)]
  | [], _ :: _, h => by simp at h
  | _ :: _, [], h => by simp at h
theorem noF (a : Addr) : ¬ InF (fun _ => []) a := fun ⟨_, h⟩ => nomatch h
theorem slots_get {K : PySem.W.Frag} {C : Addr → Prop} {H : Hp} : ∀ {ms : List Mode} {ps : List PV} {vs : List V} {i : Nat} {s : Slot}, RepArgs K C H ms ps vs → (slotsOf ms ps)[i]? = some s →
    SlotOk K (fun a => C a ∨ H a = none) (fun _ => True) H s ((vs.map some)[i]?) []
  | [], [], [], _, _, _, h => by simp [slotsOf] at h
  | m :: ms, p :: ps, v :: vs, 0, s, r, h => by
    simp only [slotsOf, List.getElem?_cons_zero, Option.some.injEq] at h
    subst h
    cases m with
    | B => exact ⟨rfl, v, rfl, r.1⟩
    | E => exact ⟨rfl, v, rfl, Rep.sub (fun a q => .inl q) r.1⟩
    | I => exact ⟨rfl, v, rfl, Rep.sub (fun a q => .inl q) r.1⟩
  | m :: ms, p :: ps, v :: vs, i + 1, s, r, h => by
    simp only [slotsOf, List.getElem?_cons_succ] at h
    simpa using slots_get r.2 h
theorem entry {K : PySem.W.Frag} {C : Addr → Prop} {H : Hp} {ms : List Mode} {ps : List PV} {vs : List V} {N : List Str} (r : RepArgs K C H ms ps vs) (hn : ms.length ≤ N.length) :
    EnvOk K (fun a => C a ∨ H a = none) (slotsOf ms ps ++ List.replicate (N.length - ps.length) .u) (L2.start N vs) H (fun _ => []) := by
  obtain ⟨l1, l2⟩ := r.len
  have l3 := slotsOf_len l1
  have e1 : Am (fun a => C a ∨ H a = none) (fun _ => []) = fun a => C a ∨ H a = none := by
    funext a
    exact propext ⟨fun h => h.1, fun h => ⟨h, noF a⟩⟩
  refine ⟨by simp [L2.start, l1, l2, l3], fun i s h => ?_, fun _ _ => rfl, fun _ _ _ h => (nomatch h), fun _ => List.nodup_nil, fun a h => (noF a h).elim, fun a h => .inr h⟩
  rw [e1]
  by_cases hi : i < (slotsOf ms ps).length
  · rw [List.getElem?_append_left hi] at h
    unfold L2.start
    rw [List.getElem?_append_left (by simp; omega)]
    have := slots_get r h
    revert this
    cases s with
    | u => exact id
    | val p => exact id
    | bor p => rintro ⟨f, v, hv, r⟩; exact ⟨f, v, hv, Rep.sub (fun a _ => noF a) r⟩
    | own t => exact id
  · rw [List.getElem?_append_right (Nat.le_of_not_lt hi), List.getElem?_replicate] at h
    split at h
    · cases h; rfl
    · cases h
/-- a def of the text: its function, its name, how it binds -/
structure DefOk (P : Program) (w : World) (K : PySem.W.Frag) (mg : Str → Option Value) (base : Heap) (k : Nat) (x : Str) (ps : List Str) (ms : List Mode) (g : Fn) : Prop where
  ex : ∃ f fd, FnOk P w K mg base (L2.CX P w) k f fd ps (spG K ms g) ∧ mg x = some (.ref f) ∧ PySem.W.keepIn K (.ref f) = true ∧ Binds K fd ps []
section
variable {P : Program} {w : World} {K : PySem.W.Frag} {mg : Str → Option Value} {base : Heap}
/-- the context of a def's body -/
abbrev XD (P : Program) (w : World) (K : PySem.W.Frag) (mg : Str → Option Value) (base : Heap) (N : List Str) (qual : Str) (scope : Scope) (f : Addr) (cdv : Value) (A : Around) (outer : List PySem.Env) (s : Shared) (H : Hp) (E : XK) : Cx := cxOf (L2.CX P w) P w K mg base N qual scope f cdv A outer s H E

theorem grow_same {H H' : Hp} {fp' : Fp} (g : Grow H (fun _ => []) H' fp') : Same H H' := fun a o h => g.keep a o h (noF a)
/-- THE RULE: a def keeps its promise, by its body -/
theorem fn_ok {x qual : Str} {params : Arguments} {body : List Stmt} {scope : Scope} {f : Addr} {fd : FuncData} {N ps : List Str} {k : Nat} {ms : List Mode} {s : S} (F : FunD K x qual params body scope [] [] f fd) (Sc : FnScope N ps scope) (hm : ms.length = ps.length) (hN : ms.length ≤ N.length)
    (hb : ∀ (cdv : Value) (A : Around) (outer : List PySem.Env) (sh : Shared) (H : Hp) (E : XK) (C : Addr → Prop), Room k (XD P w K mg base N qual scope f cdv A outer sh H E).A → Takes (XD P w K mg base N qual scope f cdv A outer sh H E) (fun c d _ H => E c d H) →
      PassesOwn (model P w) (XD P w K mg base N qual scope f cdv A outer sh H E).A (XD P w K mg base N qual scope f cdv A outer sh H E).env (XD P w K mg base N qual scope f cdv A outer sh H E).xe → BJ (XD P w K mg base N qual scope f cdv A outer sh H E) C (fun c d _ H => E c d H) body s) :
    FnOk P w K mg base (L2.CX P w) (k + 1) f fd ps (spG K ms (runFn N.length ms s)) := by
  refine F.ok Sc (fun vs H Q E h => ?_) (fun cdv A outer sh H vs Q E hr h => ?_)
  · obtain ⟨C, qs, r, _⟩ := h
    rw [r.len.2, hm]
  · obtain ⟨C, qs, r, o⟩ := h
    refine ⟨_, hb cdv A outer sh H E (fun a => C a ∨ H a = none) hr (takes_of rfl rfl rfl rfl) (passes_of rfl), _, _, entry r hN, ?_⟩
    unfold runFn at o
    rw [if_pos r.len.1] at o
    revert o
    cases s (slotsOf ms qs ++ List.replicate (N.length - qs.length) .u) with
    | nx ρ =>
      intro o σ' H' fp' e g
      have k : KO K (fun a => C a ∨ H a = none) H (.fz .non) Q := o
      exact k.repS (grow_same g) rfl
    | rt t => intro o v H' Fn g n hf rr; exact o v H' Fn (grow_same g) n (fun a ha => (hf a ha).elim (fun z => (noF a z).elim) id) rr
    | bk ρ => exact False.elim
    | ct ρ => exact False.elim
    | ex c fs ρ => intro o σ' H' fp' e g; exact o H' (grow_same g)
    | bad => exact False.elim
theorem def_ok {x qual : Str} {params : Arguments} {body : List Stmt} {scope : Scope} {f : Addr} {fd : FuncData} {N ps : List Str} {k : Nat} {ms : List Mode} {s : S} (F : FunD K x qual params body scope [] [] f fd) (Sc : FnScope N ps scope) (hm : ms.length = ps.length) (hN : ms.length ≤ N.length) (hg : mg x = some (.ref f))
    (hbd : ∀ (kV doc pm : Value) (an : Option Addr) (cdv ct : Value) (us : List Value), us.length = ps.length → bindArgs (PySem.W.fnOf x qual params body scope .none kV doc pm an cdv ct) ⟨us, []⟩ = pure (ps.zip us))
    (hb : ∀ (cdv : Value) (A : Around) (outer : List PySem.Env) (sh : Shared) (H : Hp) (E : XK) (C : Addr → Prop), Room k (XD P w K mg base N qual scope f cdv A outer sh H E).A → Takes (XD P w K mg base N qual scope f cdv A outer sh H E) (fun c d _ H => E c d H) →
      PassesOwn (model P w) (XD P w K mg base N qual scope f cdv A outer sh H E).A (XD P w K mg base N qual scope f cdv A outer sh H E).env (XD P w K mg base N qual scope f cdv A outer sh H E).xe → BJ (XD P w K mg base N qual scope f cdv A outer sh H E) C (fun c d _ H => E c d H) body s) :
    DefOk P w K mg base (k + 1) x ps ms (runFn N.length ms s) := ⟨f, fd, fn_ok F Sc hm hN hb, hg, F.kp, F.bindsN hbd⟩
end
theorem RepMs.args {K : PySem.W.Frag} {C : Addr → Prop} {fp : Fp} {H : Hp} : ∀ {ms : List Mode} {ps : List PV} {vs : List V}, (∀ m ∈ ms, m ≠ .I) → RepMs K C fp H ms ps vs → RepArgs K (Am C fp) H ms ps vs
  | [], [], [], _, h => h
  | m :: ms, p :: ps, v :: vs, hm, h => by
    refine ⟨?_, RepMs.args (fun m h => hm m (List.mem_cons_of_mem _ h)) h.2⟩
    cases m with
    | E => exact h.1
    | B => exact h.1
    | I => exact (hm .I List.mem_cons_self rfl).elim
def noI : List Mode → Bool
  | [] => true
  | .I :: _ => false
  | _ :: ms => noI ms
theorem noI_ok : ∀ {ms : List Mode}, noI ms = true → ∀ m ∈ ms, m ≠ .I
  | [], _, _, h => nomatch h
  | .E :: ms, h, m, hm => by
    rcases List.mem_cons.mp hm with rfl | hm
    · intro z; cases z
    · exact noI_ok (ms := ms) h m hm
  | .B :: ms, h, m, hm => by
    rcases List.mem_cons.mp hm with rfl | hm
    · intro z; cases z
    · exact noI_ok (ms := ms) h m hm
section
variable {X : Cx} {C : Addr → Prop} {W : WX} {e : Expr} {pos p2 : Pos}
def oCall (g : Fn) (l : L) : O := fun ρ => l ρ >>= g
theorem call_read {ms : List Mode} {g : Fn} {l : L} {σ : L2.St} {H : Hp} {Q : VK} (hI : noI ms = true) (h : tO X.K C W (oCall g l) σ H Q) : tL X.K C W ms l σ H fun vs H1 => spG X.K ms g vs H1 Q (WE W σ) := by
  obtain ⟨ρ, fp, eo, o⟩ := h
  refine ⟨ρ, fp, eo, (Out.bind o).mono (fun ps o1 vs H1 s1 r1 => ?_) fun _ _ q => q⟩
  refine ⟨Am C fp, ps, RepMs.args (noI_ok hI) r1, o1.mono (fun t q v H' Fn s n hf r => ?_) fun c fs q H' s => ?_⟩
  · have k : KO X.K (Am C fp) H1 t Q := KO.later q s1
    exact k v H' Fn s n hf (r.carry (Carry.refl fun a _ z _ => ⟨z.1.elim id fun y => (eo.same s1).am_new y, z.2⟩) fun _ _ _ z => z)
  · have := q H' (s1.trans s)
    cases fs with
    | none => exact this
    | some fs => exact this
theorem oj_call {k j : Nat} {x : Str} {ps : List Str} {ms : List Mode} {g : Fn} {es : List Expr} {l : L} (D : DefOk X.prog X.w X.K X.mg X.base k x ps ms g) (hr : Room j X.A) (hk : k ≤ j) (tk : Takes X W) (hg : Gl X x) (ha : LJ' X C W ms (e :: es) l) (hI : noI ms = true := by rfl) (hdb : (x == ("__debug__" : Str)) = false := by decide)
    (he : starEach (e :: es) X.env = (false, eval e X.env) :: starEach es X.env := by rfl) (hpl : (backTo pos (starEach es X.env)).any (·.1) = false := by rfl) : OJ X C W (.Call (.Name x p2) (e :: es) [] pos) (oCall g l) := by
  obtain ⟨f, fd, F, hm, kp, b⟩ := D.ex
  exact pe_weak (pe_callS F (hr.mono hk) hg hm kp b (fun σ => passAt tk σ) ha hdb he hpl) fun σ H Q h => call_read hI h
theorem huR {j : Nat} (hr : Room j X.A) : Hu X := by
  have := hr.un
  show X.A.units + 150 < cLine
  omega
end
/-! ### the end -/
theorem FnOk.calm {P : Program} {w : World} {K : PySem.W.Frag} {mg : Str → Option Value} {base : Heap} {k : Nat} {f : Addr} {fd : FuncData} {ps : List Str} {sp : Sp} (F : FnOk P w K mg base (L2.CX P w) k f fd ps sp) : FnOk P w K mg base L2.CX0 k f fd ps (fun vs H Q _ => sp vs H Q fun _ _ _ => False) where
  len := fun vs H Q _ h => F.len vs H Q _ h
  run := fun A outer s H args us vs Q E hr e b r h => codeAny_mono (F.run A outer s H args us vs Q _ hr e b r h) fun q s' hq => by
    cases q with
    | error e =>
      obtain ⟨_, _, _, _, _, _, _, _, _, _, _, _, z⟩ := hq
      exact z.elim
    | ok fl => cases fl <;> exact hq
theorem script_rep {K : PySem.W.Frag} {H : Hp} {a : Addr} {ns : List Int} (h : Only H) (hS : SqL K H a (ns.map V.int)) : Rep K (fun _ => False) H (.rol (ns.map .int)) (.ref a) := by
  refine ⟨a, ns.map V.int, rfl, ?_, Reps.of_ints ns⟩
  rcases hS with (hS | hS) | hS
  · rcases h a with z | ⟨o, xs, z⟩
    · rw [hS] at z; cases z
    · rw [hS] at z; cases z
  · exact .inl hS
  · exact .inr hS
/-- the law: its run gives True -/
theorem law_sp {K : PySem.W.Frag} {g : Fn} {n : Nat} (hl : ∀ ns : List Int, ns.length ≤ n → g [.rol (ns.map .int)] = .ok (.fz (.bl true))) {H : Hp} {a : Addr} {ns : List Int} (h1 : ns.length ≤ n) (h2 : Only H) (hS : SqL K H a (ns.map V.int)) :
    spG K [.E] g [.ref a] H (fun v _ => v = .bl true) fun _ _ _ => False := by
  refine ⟨fun _ => False, [.rol (ns.map .int)], ⟨script_rep h2 hS, trivial⟩, ?_⟩
  rw [hl ns h1]
  intro v H' Fn s n hf r
  exact r.2
end Fz
end
section
/-! FwL: zip, enumerate, signs, index, sorted texts. -/
namespace Fz
open PySem PySem.Spec PyProof.Rows L2
section
variable {X : Cx} {C : Addr → Prop} {W : WX} {e e1 e2 e3 tg iter : Expr} {pos p2 pn tpos : Pos} {m m1 m2 m3 : Mode} {f f1 f2 f3 : E} {elts : List Expr} {kk : Nat}
/-! ### zip, enumerate of lists -/
def listOf' : PV → Res (List PV)
  | .lst ps => .ok ps
  | .rol ps => .ok ps
  | _ => .bad
theorem listOf_out {p : PV} {P : List PV → Prop} {E' : XF} (h : Out (listOf' p) P E') : ∃ ps, listOf' p = .ok ps ∧ P ps := by
  cases p <;> first | exact ⟨_, rfl, h⟩ | exact h.elim
theorem listOf_items {p : PV} {ps : List PV} (h : listOf' p = .ok ps) : itemsOf p = .ok ps ∧ isTupP p = false := by
  cases p <;> simp only [listOf', Res.ok.injEq, reduceCtorEq] at h <;> subst h <;> exact ⟨rfl, rfl⟩
theorem iter_zip {K : PySem.W.Frag} {A : Addr → Prop} {H0 : Hp} {rel : Hp → Prop} {a b : Addr} {ps qs : List PV} {xs ys : List V} (r : Reps K A H0 ps xs) (r2 : Reps K A H0 qs ys) (h : ∀ H, rel H → SqL K H a xs) (h2 : ∀ H, rel H → SqL K H b ys) :
    IterOk K A H0 rel (Itz K a b) (List.zipWith (fun p q => PV.tup [p, q]) ps qs) := fun H B hr c i => by
  have s1 := h H hr
  have s2 := h2 H hr
  have c1 := Reps.carry c r
  have c2 := Reps.carry c r2
  refine ⟨fun p hp => ?_, fun hi => ⟨xs, ys, s1, s2, ?_⟩⟩
  · rw [List.getElem?_zipWith] at hp
    cases e1 : ps[i]? with
    | none => rw [e1] at hp; simp at hp
    | some p1 =>
      cases e2 : qs[i]? with
      | none => rw [e1, e2] at hp; simp at hp
      | some q1 =>
        rw [e1, e2] at hp
        simp only [Option.some.injEq] at hp
        subst hp
        obtain ⟨v, hv, rv⟩ := c1.get e1
        obtain ⟨u, hu, ru⟩ := c2.get e2
        refine ⟨⟨xs, ys, v, u, s1, s2, hv, hu⟩, fun x H' ⟨T, x1, y1, ex, hT, eH, f1, f2⟩ => ?_⟩
        have := f1 xs s1
        rw [hv] at this; cases this
        have := f2 ys s2
        rw [hu] at this; cases this
        subst ex eH
        exact ⟨same_upd hT, T, [v, u], rfl, upd_same, Rep.same (same_upd hT) rv |> fun a => Reps.cons a (Reps.one (Rep.same (same_upd hT) ru))⟩
  · rw [List.length_zipWith] at hi
    rw [c1.length, c2.length]
    omega
def lZip (f1 f2 : E) : L := fun ρ => f1 ρ >>= fun x => f2 ρ >>= fun y => listOf' x >>= fun ps => listOf' y >>= fun qs => .ok (List.zipWith (fun p q => PV.tup [p, q]) ps qs)
theorem zip_read {rel : Hp → Fp → Hp → Prop} {σ : L2.St} {H : Hp} {R : It → Hp → Prop} (hst : ∀ (fp : Fp) H' p v ps, RepM X.K C fp m H' p v → itemsOf p = .ok ps → Stands X.K (Am C fp) H' (rel H' fp) p v ps) (hrf : ∀ H fp, rel H fp H)
    (h : tI X.K C W rel (lZip f1 f2) σ H R) : iZip X.K (tCons (tE X.K C W m f1) (tCons (tE X.K C W m f2) tNil)) σ H R := by
  obtain ⟨ρ, fp, eo, o⟩ := h
  refine two (m1 := m) (m2 := m) eo o fun p q v u H2 s eo2 o2 r1 r2 => ?_
  obtain ⟨ps, hp, o3⟩ := listOf_out (Out.bind o2)
  obtain ⟨qs, hq, o4⟩ := listOf_out (Out.bind o3)
  obtain ⟨i1, t1⟩ := listOf_items hp
  obtain ⟨i2, t2⟩ := listOf_items hq
  obtain ⟨a, xs, rfl, ra, ha, _⟩ := hst fp H2 p v ps r1 i1
  obtain ⟨b, ys, rfl, rb, hb, _⟩ := hst fp H2 q u qs r2 i2
  exact ⟨a, b, xs, ys, rfl, ha t1 H2 (hrf _ _), hb t2 H2 (hrf _ _), o4 _ H2 s (iter_zip ra rb (ha t1) (hb t2))⟩
theorem ij_zip (hg : Gl X "zip") (hm : X.mg "zip" = none) (h1 : EJ X C W .E e1 f1) (h2 : EJ X C W .E e2 f2) (hs : starEach [e1, e2] X.env = (false, eval e1 X.env) :: starEach [e2] X.env := by rfl) (hs2 : starEach [e2] X.env = (false, eval e2 X.env) :: starEach [] X.env := by rfl) (hpl : (backTo pos (starEach [e2] X.env)).any (·.1) = false := by rfl) :
    IJ X C W relG (.Tuple elts kk tpos) (.Call (.Name "zip" pn) [e1, e2] [] pos) (lZip f1 f2) :=
  pi_weak (pi_zip hg hm (pa_cons h1 (pa_cons h2 pa_nil hs2) hs) (hs := hs) (hpl := hpl)) fun σ H R q => zip_read (m := .E) (fun fp H' p v ps r hp => seq_stands r hp) (fun _ _ => relG.refl) q
theorem ij_zipS (hg : Gl X "zip") (hm : X.mg "zip" = none) (h1 : EJ X C W .I e1 f1) (h2 : EJ X C W .I e2 f2) (hs : starEach [e1, e2] X.env = (false, eval e1 X.env) :: starEach [e2] X.env := by rfl) (hs2 : starEach [e2] X.env = (false, eval e2 X.env) :: starEach [] X.env := by rfl) (hpl : (backTo pos (starEach [e2] X.env)).any (·.1) = false := by rfl) :
    IJ X C W relS (.Tuple elts kk tpos) (.Call (.Name "zip" pn) [e1, e2] [] pos) (lZip f1 f2) :=
  pi_weak (pi_zip hg hm (pa_cons h1 (pa_cons h2 pa_nil hs2) hs) (hs := hs) (hpl := hpl)) fun σ H R q => zip_read (m := .I) (fun fp H' p v ps r hp => seq_standsS r hp) (fun H fp => Same.refl H) q
def enumL (ps : List PV) : List PV := ps.zipIdx.map fun q => PV.tup [.int (q.2 : Nat), q.1]
theorem iter_enum {K : PySem.W.Frag} {A : Addr → Prop} {H0 : Hp} {rel : Hp → Prop} {a : Addr} {ps : List PV} {xs : List V} (r : Reps K A H0 ps xs) (h : ∀ H, rel H → SqL K H a xs) : IterOk K A H0 rel (Ite K a) (enumL ps) := fun H B hr c i => by
  have s1 := h H hr
  have c1 := Reps.carry c r
  refine ⟨fun p hp => ?_, fun hi => ⟨xs, s1, by rw [c1.length]; simpa [enumL] using hi⟩⟩
  rw [enumL, List.getElem?_map, List.getElem?_zipIdx] at hp
  cases e1 : ps[i]? with
  | none => rw [e1] at hp; simp at hp
  | some p1 =>
    rw [e1] at hp
    simp only [Option.map_some, Option.some.injEq, Nat.zero_add] at hp
    subst hp
    obtain ⟨v, hv, rv⟩ := c1.get e1
    refine ⟨⟨xs, v, s1, hv⟩, fun x H' ⟨T, x1, ex, hT, eH, f1⟩ => ?_⟩
    have := f1 xs s1
    rw [hv] at this; cases this
    subst ex eH
    exact ⟨same_upd hT, T, [.int (i : Nat), v], rfl, upd_same, Reps.cons (p := .int (i : Nat)) rfl (Reps.one (Rep.same (same_upd hT) rv))⟩
def lEnum (f : E) : L := fun ρ => f ρ >>= fun x => listOf' x >>= fun ps => .ok (enumL ps)
theorem enum_read {rel : Hp → Fp → Hp → Prop} {σ : L2.St} {H : Hp} {R : It → Hp → Prop} (hst : ∀ (fp : Fp) H' p v ps, RepM X.K C fp m H' p v → itemsOf p = .ok ps → Stands X.K (Am C fp) H' (rel H' fp) p v ps) (hrf : ∀ H fp, rel H fp H)
    (h : tI X.K C W rel (lEnum f) σ H R) : iEnum X.K (tCons (tE X.K C W m f) tNil) σ H R := by
  obtain ⟨ρ, fp, eo, o⟩ := h
  refine ⟨ρ, fp, eo, (Out.bind o).mono (fun p o2 v H2 s r1 => ?_) fun _ _ q => q⟩
  obtain ⟨ps, hp, o3⟩ := listOf_out (Out.bind o2)
  obtain ⟨i1, t1⟩ := listOf_items hp
  obtain ⟨a, xs, rfl, ra, ha, _⟩ := hst fp H2 p v ps r1 i1
  exact ⟨a, xs, rfl, ha t1 H2 (hrf _ _), o3 _ H2 s (iter_enum ra (ha t1))⟩
theorem ij_enum (hg : Gl X "enumerate") (hm : X.mg "enumerate" = none) (h1 : EJ X C W .E e f) (hs : starEach [e] X.env = (false, eval e X.env) :: starEach [] X.env := by rfl) : IJ X C W relG (.Tuple elts kk tpos) (.Call (.Name "enumerate" pn) [e] [] pos) (lEnum f) :=
  pi_weak (pi_enum hg hm (pa_cons h1 pa_nil hs) (hs := hs)) fun σ H R q => enum_read (m := .E) (fun fp H' p v ps r hp => seq_stands r hp) (fun _ _ => relG.refl) q
theorem ij_enumS (hg : Gl X "enumerate") (hm : X.mg "enumerate" = none) (h1 : EJ X C W .I e f) (hs : starEach [e] X.env = (false, eval e X.env) :: starEach [] X.env := by rfl) : IJ X C W relS (.Tuple elts kk tpos) (.Call (.Name "enumerate" pn) [e] [] pos) (lEnum f) :=
  pi_weak (pi_enum hg hm (pa_cons h1 pa_nil hs) (hs := hs)) fun σ H R q => enum_read (m := .I) (fun fp H' p v ps r hp => seq_standsS r hp) (fun H fp => Same.refl H) q

/-! ### a method with one argument whose answer is an atom -/
inductive Tm where
  | list | str
def Tm.name : Tm → String
  | .list => "list"
  | .str => "str"
def Tm.is : Tm → PV → Bool
  | .list, .lst _ => true
  | .list, .rol _ => true
  | .str, .str _ => true
  | _, _ => false
theorem tm_ok {t : Tm} {K : PySem.W.Frag} {H : Hp} {p : PV} {v : V} (h : t.is p = true) (r : Rep K (fun _ => True) H p v) : tyV K t.name v H := by
  cases t <;> cases p <;> simp only [Tm.is, reduceCtorEq] at h
  · obtain ⟨a, xs, rfl, _, ha, _⟩ := r; exact .inl ⟨rfl, xs, SqL.of ha⟩
  · obtain ⟨a, xs, rfl, ha, _⟩ := r; exact .inl ⟨rfl, xs, ha.sq⟩
  · rw [show v = .str _ from r]; rfl
def eM1 (t : Tm) (g : PV → PV → Option PV) (f1 f2 : E) : E := fun ρ => f1 ρ >>= fun x => if t.is x = true then f2 ρ >>= fun y => ofO (g x y) else .bad
def Mt1A (K : PySem.W.Frag) (r : V → List V → Hp → VK → Prop) (g : PV → PV → Option PV) : Prop := ∀ H p q z v u Q, g p q = some z → Rep K (fun _ => True) H p v → Rep K (fun _ => True) H q u → (∀ w, Atom K z w → Q w H) → r v [u] H Q
theorem ej_m1 (t : Tm) {nid : String} {name : Str} {r : V → List V → Hp → VK → Prop} {g : PV → PV → Option PV} {apos cpos : Pos} (pa : PlainAttrs t.name) (slot : PySem.Slot t.name name nid) (hty : typeOf (.builtin nid) = pure (.type "method_descriptor")) (hm : MtR X nid r) (hg : Mt1A X.K r g)
    (h1 : EJ X C W m1 e1 f1) (h2 : EJ X C W m2 e2 f2) (hbase : attributeBase e1 name X.env (eval e1 X.env) = eval e1 X.env := by rfl)
    (hfew : ((backTo cpos (starEach [e2] X.env)).all (fun x => !x.1) && (backToKw cpos (keywordEach [] X.env)).all (fun x => x.1.isSome) && decide ([e2].length + ([] : List Keyword).length + (if ([] : List Keyword).isEmpty then 0 else 1) < 30)) = true := by rfl)
    (hline : (apos.endLine == cpos.line) = true := by rfl) (hs : starEach [e2] X.env = (false, eval e2 X.env) :: starEach [] X.env := by rfl) (hplain : (backTo cpos (starEach [] X.env)).any (·.1) = false := by rfl) :
    EJ X C W m (.Call (.Attribute e1 name apos) [e2] [] cpos) (eM1 t g f1 f2) :=
  pe_weak (pe_bm pa slot hty hm h1 (pa_cons h2 pa_nil hs) hbase hfew hline hs hplain) fun σ H Q ⟨ρ, fp, eo, o⟩ => by
    refine ⟨ρ, fp, eo, (Out.bind o).mono (fun p o1 v H1 s1 r1 => ?_) fun _ _ q => q⟩
    split at o1
    · rename_i ht
      refine ⟨tm_ok ht (RepM.toB r1), ρ, fp, eo.same s1, (Out.bind o1).mono (fun q o2 u H2 s2 r2 => ?_) fun _ _ q => q.later s1⟩
      obtain ⟨z, hz, hQ⟩ := Out.ofO o2
      exact hg H2 p q z v u Q hz (Rep.same s2 (RepM.toB r1)) (RepM.toB r2) fun w a => hQ w H2 (s1.trans s2) a.rm
    · exact o1.elim
/-- xs.index(y), flat items -/
def gIndex : PV → PV → Option PV
  | .lst ps, y => if isFlat y && ps.all isFlat then (ps.findIdx? fun z => pvEq z y).map fun j => .int (j : Nat) else none
  | .rol ps, y => if isFlat y && ps.all isFlat then (ps.findIdx? fun z => pvEq z y).map fun j => .int (j : Nat) else none
  | _, _ => none
theorem flat_get {K : PySem.W.Frag} {A : Addr → Prop} {H : Hp} : ∀ {ps : List PV} {vs : List V}, ps.all isFlat = true → Reps K A H ps vs → vs.all flatV = true
  | [], _, _, r => by rw [show _ = [] from r]; rfl
  | p :: ps, _, f, r => by
    obtain ⟨x, t, rfl, r1, r2⟩ := r
    simp only [List.all_cons, Bool.and_eq_true] at f
    simp [rep_flat f.1 r1, flat_get f.2 r2]
theorem index_read {K : PySem.W.Frag} {H : Hp} {a : Addr} {ps : List PV} {xs : List V} {y z : PV} {u : V} {Q : VK} (hS : SqL K H a xs) (rr : Reps K (fun _ => True) H ps xs) (h : (if isFlat y && ps.all isFlat then (ps.findIdx? fun z => pvEq z y).map fun j => PV.int (j : Nat) else none) = some z)
    (r2 : Rep K (fun _ => True) H y u) (k : ∀ w, Atom K z w → Q w H) : rIndex K (.ref a) [u] H Q := by
  split at h
  · rename_i hf
    simp only [Bool.and_eq_true] at hf
    cases e : ps.findIdx? (fun z => pvEq z y) with
    | none => rw [e] at h; cases h
    | some j =>
      rw [e] at h; cases h
      obtain ⟨hj, h1, h2⟩ := List.findIdx?_eq_some_iff_getElem.mp e
      obtain ⟨w, hw, rw'⟩ := rr.get (List.getElem?_eq_getElem hj)
      have fl : ∀ (i : Nat) (hi : i < ps.length), isFlat ps[i] = true := fun i hi => List.all_eq_true.mp hf.2 _ (List.getElem_mem hi)
      refine ⟨a, xs, u, j, w, rfl, rfl, hS, rep_flat hf.1 r2, flat_get hf.2 rr, hw, by rw [eqV_pv (fl j hj) hf.1 rw' r2]; exact h1, fun i z' hi hz => ?_, k _ (atom_int _)⟩
      obtain ⟨p, hp, rp⟩ := rr.getV hz
      have hil : i < ps.length := by omega
      rw [List.getElem?_eq_getElem hil] at hp
      cases hp
      rw [eqV_pv (fl i hil) hf.1 rp r2]
      simpa using h2 i hi
  · cases h
theorem m_index : Mt1A X.K (rIndex X.K) gIndex := fun H p q z v u Q hg r1 r2 k => by
  cases p <;> simp only [gIndex, reduceCtorEq] at hg
  · obtain ⟨a, xs, rfl, _, ha, rr⟩ := r1; exact index_read (SqL.of ha) rr hg r2 k
  · obtain ⟨a, xs, rfl, ha, rr⟩ := r1; exact index_read ha.sq rr hg r2 k
/-- x.startswith(y) -/
def preB : Tx → Tx → Bool
  | [], _ => true
  | _ :: _, [] => false
  | c :: x, d :: y => c == d && preB x y
end

/-! ### sorted texts, whole numbers -/
def insT {α : Type} (le : α → α → Bool) (x : α) : List α → List α
  | [] => [x]
  | y :: r => if le x y then x :: y :: r else y :: insT le x r
def sortT {α : Type} (le : α → α → Bool) : List α → List α
  | [] => []
  | x :: r => insT le x (sortT le r)
section
variable {α : Type} {le : α → α → Bool}
theorem insT_perm (x : α) : ∀ l, (insT le x l).Perm (x :: l)
  | [] => .refl _
  | y :: r => by
    simp only [insT]
    split
    · exact .refl _
    · exact ((insT_perm x r).cons y).trans (.swap x y r)
theorem sortT_perm : ∀ l, (sortT le l).Perm l
  | [] => .refl _
  | x :: r => (insT_perm x _).trans ((sortT_perm r).cons x)
theorem insT_sorted (tot : ∀ a b, le a b = true ∨ le b a = true) (tr : ∀ a b c, le a b = true → le b c = true → le a c = true) (x : α) : ∀ l, l.Pairwise (fun a b => le a b = true) → (insT le x l).Pairwise fun a b => le a b = true
  | [], _ => by simp [insT]
  | y :: r, h => by
    simp only [insT]
    obtain ⟨h1, h2⟩ := List.pairwise_cons.mp h
    split
    · rename_i hxy
      exact List.pairwise_cons.mpr ⟨fun z hz => (List.mem_cons.mp hz).elim (fun e => e ▸ hxy) fun hz => tr _ _ _ hxy (h1 z hz), h⟩
    · rename_i hxy
      refine List.pairwise_cons.mpr ⟨fun z hz => ?_, insT_sorted tot tr x r h2⟩
      rcases List.mem_cons.mp ((insT_perm x r).mem_iff.mp hz) with rfl | hz
      · exact (tot z y).resolve_left hxy
      · exact h1 z hz
theorem sortT_sorted (tot : ∀ a b, le a b = true ∨ le b a = true) (tr : ∀ a b c, le a b = true → le b c = true → le a c = true) : ∀ l, (sortT le l).Pairwise fun a b => le a b = true
  | [] => .nil
  | x :: r => insT_sorted tot tr x _ (sortT_sorted tot tr r)
end
def txLe (x y : Tx) : Bool := !txLt y x
theorem txLt_iff {x y : Tx} : txLt x y = true ↔ x.map Fin.val < y.map Fin.val := by simp [txLt]
theorem txLe_iff {x y : Tx} : txLe x y = true ↔ ¬ y.map Fin.val < x.map Fin.val := by simp [txLe, txLt]
theorem nlt_trans {a b c : List Nat} (h1 : ¬ b < a) (h2 : ¬ c < b) : ¬ c < a := by
  have h1 : a ≤ b := List.not_lt.mp h1
  have h2 : b ≤ c := List.not_lt.mp h2
  exact List.not_lt.mpr (List.le_trans h1 h2)
theorem txLe_trans (x y z : Tx) (h1 : txLe x y = true) (h2 : txLe y z = true) : txLe x z = true := txLe_iff.mpr (nlt_trans (txLe_iff.mp h1) (txLe_iff.mp h2))
theorem txLe_total (x y : Tx) : txLe x y = true ∨ txLe y x = true := by
  rw [txLe_iff, txLe_iff]
  have := List.le_total (x.map Fin.val) (y.map Fin.val)
  rcases this with h | h
  · exact .inl (List.not_lt.mpr h)
  · exact .inr (List.not_lt.mpr h)
theorem txLe_antisymm {x y : Tx} (h1 : txLe x y = true) (h2 : txLe y x = true) : x = y :=
  val_inj (List.le_antisymm (List.not_lt.mp (txLe_iff.mp h1)) (List.not_lt.mp (txLe_iff.mp h2)))
theorem sorted_le {ys : List Str} (h : sortedS ys = true) : ys.Pairwise fun a b => ¬ b.cps.toList < a.cps.toList := by
  have tr : ∀ {a b c : Str}, ¬ b.cps.toList < a.cps.toList → ¬ c.cps.toList < b.cps.toList → ¬ c.cps.toList < a.cps.toList := fun h1 h2 => nlt_trans h1 h2
  have main : ∀ (r : List Str) (p : Str), risingS p r = true → (p :: r).Pairwise fun a b => ¬ b.cps.toList < a.cps.toList := by
    intro r
    induction r with
    | nil => intro p _; simp
    | cons x r ih =>
      intro p h
      simp only [risingS, Bool.and_eq_true, Bool.not_eq_true'] at h
      have h1 : ¬ x.cps.toList < p.cps.toList := by
        have := h.1
        rw [ltCps_eq] at this
        simpa using this
      have h2 := ih x h.2
      refine List.pairwise_cons.mpr ⟨fun z hz => ?_, h2⟩
      rcases List.mem_cons.mp hz with rfl | hz
      · exact h1
      · exact tr h1 ((List.pairwise_cons.mp h2).1 z hz)
  cases ys with
  | nil => exact .nil
  | cons p r => exact main r p h
theorem sorted_eq {xs : List Tx} {ys : List Str} (hp : ys.Perm (xs.map mkS)) (hs : sortedS ys = true) : ys = (sortT txLe xs).map mkS := by
  have p2 : ((sortT txLe xs).map mkS).Perm (xs.map mkS) := (sortT_perm xs).map mkS
  have s2 : ((sortT txLe xs).map mkS).Pairwise fun a b => ¬ b.cps.toList < a.cps.toList := by
    rw [List.pairwise_map]
    exact (sortT_sorted txLe_total txLe_trans xs).imp fun h => by rw [mkS_cps, mkS_cps]; exact txLe_iff.mp h
  refine (hp.trans p2.symm).eq_of_pairwise (fun a b _ _ h1 h2 => ?_) (sorted_le hs) s2
  have := List.le_antisymm (List.not_lt.mp h1) (List.not_lt.mp h2)
  cases a; cases b
  simp only [Str.mk.injEq]
  exact Array.toList_inj.mp this
def strsOf : List PV → Option (List Tx)
  | [] => some []
  | .str x :: ps => (strsOf ps).map (x :: ·)
  | _ :: _ => none
theorem strsOf_eq : ∀ {ps : List PV} {xs : List Tx}, strsOf ps = some xs → ps = xs.map .str
  | [], xs, h => by cases h; rfl
  | p :: ps, xs, h => by
    cases p <;> simp only [strsOf, reduceCtorEq] at h
    cases e : strsOf ps with
    | none => rw [e] at h; cases h
    | some ys => rw [e] at h; cases h; rw [strsOf_eq e]; rfl
theorem strsOf_map (xs : List Tx) : strsOf (xs.map .str) = some xs := by
  induction xs with
  | nil => rfl
  | cons x xs ih => simp [strsOf, ih]
def gSortS : PV → Option OT
  | .lst ps => (strsOf ps).bind fun xs => if xs.length < 64 then some (.l ((sortT txLe xs).map .str)) else none
  | _ => none
section
variable {X : Cx}
theorem c_sortS : Call1 X.K (rSortedS X.K) .I gSortS := fun C fp H p t v Q hg r k => by
  cases p <;> simp only [gSortS, reduceCtorEq] at hg
  rename_i ps
  obtain ⟨a, vs, rfl, ha, rr⟩ := r
  cases e : strsOf ps with
  | none => rw [e] at hg; cases hg
  | some xs =>
    rw [e] at hg
    simp only [Option.bind_some] at hg
    split at hg
    · rename_i hl
      cases hg
      rw [strsOf_eq e] at rr
      have ev := rr.strs
      refine ⟨a, xs.map mkS, rfl, by rw [List.map_map]; rw [ev] at ha; exact SqL.of ha, by simpa using hl, fun ys p hp hs hn => ?_⟩
      rw [sorted_eq hp hs, List.map_map]
      exact k.l (Reps.of_strs _) p hn
    · cases hg
end
end Fz
end
section
/-! FwM: to reckon with the pure bodies. -/
namespace Fz
open PySem PySem.Spec PyProof.Rows L2

/-! ### each construct at an environment -/
section
variable (ρ : Env) (m : Mode) (i j k : Nat) (f f1 f2 f3 : E) (t t1 t2 : T) (fo fo1 fo2 : O) (s s1 s2 : S) (l l1 l2 : L) (gg : G)
@[simp] theorem m_eC (p : PV) : eC p ρ = .ok p := (rfl)
@[simp] theorem m_eOfO : eOfO fo ρ = fo ρ >>= fun t => .ok t.pv := (rfl)
@[simp] theorem m_oOfE : oOfE f ρ = f ρ >>= fun p => .ok (.fz p) := (rfl)
@[simp] theorem m_eBin (g : PV → PV → Option PV) : eBin g f1 f2 ρ = f1 ρ >>= fun x => f2 ρ >>= fun y => ofO (g x y) := (rfl)
@[simp] theorem m_eUn (g : PV → Option PV) : eUn g f ρ = f ρ >>= fun x => ofO (g x) := (rfl)
@[simp] theorem m_oUn (g : PV → Option OT) : oUn g f ρ = f ρ >>= fun x => ofO (g x) := (rfl)
@[simp] theorem m_oBin (g : PV → PV → Option OT) : oBin g f1 f2 ρ = f1 ρ >>= fun x => f2 ρ >>= fun y => ofO (g x y) := (rfl)
@[simp] theorem m_eCmp (g : Cmp) : eCmp g f1 f2 ρ = f1 ρ >>= fun x => f2 ρ >>= fun y => ofO (g x y) >>= fun b => .ok (.bl b) := (rfl)
@[simp] theorem m_tCmp (g : Cmp) : tCmp g f1 f2 ρ = f1 ρ >>= fun x => f2 ρ >>= fun y => ofO (g x y) := (rfl)
@[simp] theorem m_tChn (g g' : Cmp) : tChn g g' f1 f2 f3 ρ = f1 ρ >>= fun x => f2 ρ >>= fun y => ofO (g x y) >>= fun b => if b = true then f3 ρ >>= fun z => ofO (g' y z) else .ok false := (rfl)
@[simp] theorem m_tAndF : tAndF t1 t2 ρ = t1 ρ >>= fun b => if b = true then t2 ρ else .ok false := (rfl)
@[simp] theorem m_tOrF : tOrF t1 t2 ρ = t1 ρ >>= fun b => if b = true then .ok true else t2 ρ := (rfl)
@[simp] theorem m_tNotF : tNotF t ρ = t ρ >>= fun b => .ok (!b) := (rfl)
@[simp] theorem m_eAnd : eAnd f1 f2 ρ = f1 ρ >>= fun x => bOf x >>= fun b => if b = true then f2 ρ else .ok (.bl false) := (rfl)
@[simp] theorem m_eOr : eOr f1 f2 ρ = f1 ρ >>= fun x => bOf x >>= fun b => if b = true then .ok (.bl true) else f2 ρ := (rfl)
@[simp] theorem m_eNot : eNot f1 ρ = f1 ρ >>= fun x => bOf x >>= fun b => .ok (.bl (!b)) := (rfl)
@[simp] theorem m_eIf : eIf t f1 f2 ρ = t ρ >>= fun b => if b = true then f1 ρ else f2 ρ := (rfl)
@[simp] theorem m_oIf : oIf t fo1 fo2 ρ = t ρ >>= fun b => if b = true then fo1 ρ else fo2 ρ := (rfl)
@[simp] theorem m_tOfE : tOfE f ρ = f ρ >>= truth := (rfl)
@[simp] theorem m_eIx : eIx f1 f2 ρ = f1 ρ >>= fun x => f2 ρ >>= fun y => ofO (gIx x y) := (rfl)
@[simp] theorem m_eM1 (tm : Tm) (g : PV → PV → Option PV) : eM1 tm g f1 f2 ρ = f1 ρ >>= fun x => if tm.is x = true then f2 ρ >>= fun y => ofO (g x y) else .bad := (rfl)
@[simp] theorem m_pNo : pNo ρ = .ok none := (rfl)
@[simp] theorem m_pAt : pAt f ρ = f ρ >>= fun x => intOf x >>= fun i => .ok (some i) := (rfl)
@[simp] theorem m_oSl (lo hi : P) : oSl f lo hi ρ = f ρ >>= fun x => lo ρ >>= fun l => hi ρ >>= fun u => ofO (gSl x l u) := (rfl)
@[simp] theorem m_lNil : lNil ρ = .ok [] := (rfl)
@[simp] theorem m_lCons : lCons f l ρ = f ρ >>= fun p => l ρ >>= fun ps => .ok (p :: ps) := (rfl)
@[simp] theorem m_oLst : oLst l ρ = l ρ >>= fun ps => .ok (.l ps) := (rfl)
@[simp] theorem m_eTup : eTup l ρ = l ρ >>= fun ps => .ok (.tup ps) := (rfl)
@[simp] theorem m_oCall (g : Fn) : oCall g l ρ = l ρ >>= g := (rfl)
@[simp] theorem m_lOf : lOf f ρ = f ρ >>= itemsOf := (rfl)
@[simp] theorem m_lZip : lZip f1 f2 ρ = f1 ρ >>= fun x => f2 ρ >>= fun y => listOf' x >>= fun ps => listOf' y >>= fun qs => .ok (List.zipWith (fun p q => PV.tup [p, q]) ps qs) := (rfl)
@[simp] theorem m_lEnum : lEnum f ρ = f ρ >>= fun x => listOf' x >>= fun ps => .ok (enumL ps) := (rfl)
@[simp] theorem m_sSeq : sSeq s1 s2 ρ = (s1 ρ).andThen s2 := (rfl)
@[simp] theorem m_sNil : sNil ρ = .nx ρ := (rfl)
@[simp] theorem m_sBrk : sBrk ρ = .bk ρ := (rfl)
@[simp] theorem m_sCnt : sCnt ρ = .ct ρ := (rfl)
@[simp] theorem m_sAsg : sAsg i fo ρ = withR (fo ρ) ρ fun t => if i < ρ.length then .nx (ρ.set i (toSlot t)) else .bad := (rfl)
@[simp] theorem m_sDrop : sDrop fo ρ = withR (fo ρ) ρ fun _ => .nx ρ := (rfl)
@[simp] theorem m_sRet : sRet fo ρ = withR (fo ρ) ρ fun t => .rt t := (rfl)
@[simp] theorem m_sRetN : sRetN ρ = .rt (.fz .non) := (rfl)
@[simp] theorem m_sIf : sIf t s1 s2 ρ = withR (t ρ) ρ fun b => if b = true then s1 ρ else s2 ρ := (rfl)
@[simp] theorem m_sFor : sFor l gg s ρ = withR (l ρ) ρ fun ps => loop gg s ps ρ := (rfl)
@[simp] theorem m_sDropQ (q : Qx) : sDropQ q ρ = withR (q ρ) ρ fun r => .nx r.2 := (rfl)
@[simp] theorem m_sRetQ (q : Qx) : sRetQ q ρ = withR (q ρ) ρ fun r => .rt (.fz r.1) := (rfl)
@[simp] theorem m_sAsgQ (q : Qx) : sAsgQ i q ρ = withR (q ρ) ρ fun r => if i < r.2.length then .nx (r.2.set i (.val r.1)) else .bad := (rfl)
@[simp] theorem m_qE : qE f ρ = f ρ >>= fun p => .ok (p, ρ) := (rfl)
@[simp] theorem m_gNm (p : PV) : gNm i p ρ = if i < ρ.length then some (ρ.set i (.val p)) else none := (rfl)
@[simp] theorem m_gsNil : gsNil [] ρ = some ρ := (rfl)
@[simp] theorem m_gTp (n : Nat) (h : Gs) (ps : List PV) : gTp n h (.tup ps) ρ = if ps.length = n then h ps ρ else none := (rfl)
end
@[simp] theorem pv_fz (p : PV) : (OT.fz p).pv = p := (rfl)
@[simp] theorem pv_l (p : List PV) : (OT.l p).pv = .lst p := (rfl)
@[simp] theorem ts_fz (p : PV) : toSlot (.fz p) = .val p := (rfl)
@[simp] theorem ts_l (p : List PV) : toSlot (.l p) = .own (.l p) := (rfl)
@[simp] theorem bOf_bl (b : Bool) : bOf (.bl b) = .ok b := (rfl)
@[simp] theorem intOf_int (i : Int) : intOf (.int i) = .ok i := (rfl)
/-! what a slot gives -/
def rdS (m : Mode) : Option Slot → Res PV
  | some (.val p) => .ok p
  | some (.bor p) => (match m with
    | .B => .ok p
    | .I => if immutI p then .ok p else .bad
    | .E => if immut p then .ok p else .bad)
  | some (.own t) => (match m, t with
    | .B, t => .ok t.pv
    | .I, .l ps => .ok (.lst ps)
    | .I, .d ps => .ok (.dic ps)
    | .I, .dt ps => .ok (.dit ps)
    | .I, .ins c fs => .ok (.ins c fs)
    | _, _ => .bad)
  | _ => .bad
@[simp] theorem m_eVar (m : Mode) (i : Nat) (ρ : Env) : eVar m i ρ = rdS m ρ[i]? := (rfl)
@[simp] theorem rd_val (m : Mode) (p : PV) : rdS m (some (.val p)) = .ok p := (rfl)
@[simp] theorem rd_bor (p : PV) : rdS .B (some (.bor p)) = .ok p := (rfl)
@[simp] theorem rd_borI (p : PV) : rdS .I (some (.bor p)) = if immutI p then .ok p else .bad := (rfl)
@[simp] theorem rd_borE (p : PV) : rdS .E (some (.bor p)) = if immut p then .ok p else .bad := (rfl)
@[simp] theorem rd_own (t : OT) : rdS .B (some (.own t)) = .ok t.pv := (rfl)
@[simp] theorem rd_ownI (ps : List PV) : rdS .I (some (.own (.l ps))) = .ok (.lst ps) := (rfl)
@[simp] theorem rd_ownD (ps : List (K1 × PV)) : rdS .I (some (.own (.d ps))) = .ok (.dic ps) := (rfl)
def rtS : Option Slot → Fl
  | some (.own t) => .rt t
  | some (.val p) => .rt (.fz p)
  | some (.bor p) => if immut p then .rt (.fz p) else .bad
  | _ => .bad
@[simp] theorem m_sRetV (i : Nat) (ρ : Env) : sRetV i ρ = rtS ρ[i]? := (rfl)
@[simp] theorem rt_own (t : OT) : rtS (some (.own t)) = .rt t := (rfl)
@[simp] theorem rt_val (p : PV) : rtS (some (.val p)) = .rt (.fz p) := (rfl)
@[simp] theorem rt_bor (p : PV) : rtS (some (.bor p)) = if immut p then .rt (.fz p) else .bad := (rfl)
def frzS (i : Nat) (ρ : Env) : Option Slot → Fl
  | some (.own t) => .nx (ρ.set i (.val t.pv))
  | _ => .nx ρ
@[simp] theorem m_sFrz (i : Nat) (ρ : Env) : sFrz i ρ = frzS i ρ ρ[i]? := (rfl)
@[simp] theorem frz_own (i : Nat) (ρ : Env) (t : OT) : frzS i ρ (some (.own t)) = .nx (ρ.set i (.val t.pv)) := (rfl)
@[simp] theorem frz_val (i : Nat) (ρ : Env) (p : PV) : frzS i ρ (some (.val p)) = .nx ρ := (rfl)
@[simp] theorem frz_bor (i : Nat) (ρ : Env) (p : PV) : frzS i ρ (some (.bor p)) = .nx ρ := (rfl)
@[simp] theorem frz_u (i : Nat) (ρ : Env) : frzS i ρ (some .u) = .nx ρ := (rfl)
def appS (i : Nat) (ρ : Env) (f : E) : Option Slot → Fl
  | some (.own (.l ps)) => withR (f ρ) ρ fun p => if ps.length < sizeLine then .nx (ρ.set i (.own (.l (ps ++ [p])))) else .bad
  | _ => .bad
@[simp] theorem m_sApp (i : Nat) (f : E) (ρ : Env) : sApp i (qE f) ρ = appS i ρ f ρ[i]? := by
  unfold sApp appS
  split
  · rename_i ps h
    simp only [m_qE]
    cases f ρ <;> simp [h]
  · rename_i h
    first
      | rfl
      | (split
         · rename_i ps h2; exact (h _ h2).elim
         · rfl)
@[simp] theorem app_l (i : Nat) (ρ : Env) (f : E) (ps : List PV) : appS i ρ f (some (.own (.l ps))) = withR (f ρ) ρ fun p => if ps.length < sizeLine then .nx (ρ.set i (.own (.l (ps ++ [p])))) else .bad := (rfl)
def extS (i : Nat) (ρ : Env) (f : E) : Option Slot → Fl
  | some (.own (.l ps)) => withR (f ρ) ρ fun y => (match y with
    | .lst qs => if ps.length + qs.length ≤ sizeLine then .nx (ρ.set i (.own (.l (ps ++ qs)))) else .bad
    | _ => .bad)
  | _ => .bad
@[simp] theorem m_sExt (i : Nat) (f : E) (ρ : Env) : sExt i f ρ = extS i ρ f ρ[i]? := (rfl)
@[simp] theorem ext_l (i : Nat) (ρ : Env) (f : E) (ps : List PV) : extS i ρ f (some (.own (.l ps))) = withR (f ρ) ρ fun y => (match y with
    | .lst qs => if ps.length + qs.length ≤ sizeLine then .nx (ρ.set i (.own (.l (ps ++ qs)))) else .bad
    | _ => .bad) := (rfl)
def popS (i : Nat) (ρ : Env) (f : E) : Option Slot → Res (PV × Env)
  | some (.own (.l ps)) => f ρ >>= fun x => intOf x >>= fun k => if bnd k = true then (match ixN ps.length k with
    | some j => (match ps[j]? with
      | some p => .ok (p, ρ.set i (.own (.l (ps.eraseIdx j))))
      | none => .bad)
    | none => .bad) else .bad
  | _ => .bad
@[simp] theorem m_qPopAt (i : Nat) (f : E) (ρ : Env) : qPopAt i f ρ = popS i ρ f ρ[i]? := (rfl)
theorem bnd_small {k : Int} (h1 : -4611686018427387904 ≤ k) (h2 : k < 4611686018427387904) : bnd k = true := by
  have e : (2 : Int) ^ 62 = 4611686018427387904 := by decide +kernel
  unfold bnd
  rw [e, decide_eq_true_iff]
  exact ⟨h1, h2⟩
theorem pop_l (i : Nat) (ρ : Env) (f : E) (ps : List PV) (k : Nat) (p : PV) (hk : f ρ = .ok (.int k)) (hp : ps[k]? = some p) (hb : ps.length ≤ 16777216) : popS i ρ f (some (.own (.l ps))) = .ok (p, ρ.set i (.own (.l (ps.eraseIdx k)))) := by
  have hl : k < ps.length := (List.getElem?_eq_some_iff.mp hp).1
  have h1 : bnd (k : Int) = true := bnd_small (by omega) (by omega)
  have h2 : ixN ps.length (k : Int) = some k := by
    unfold ixN
    rw [if_pos (by omega), if_pos (by omega)]
    simp
  have key : popS i ρ f (some (.own (.l ps))) = (f ρ >>= fun x => intOf x >>= fun k => if bnd k = true then (match ixN ps.length k with
    | some j => (match ps[j]? with
      | some p => .ok (p, ρ.set i (.own (.l (ps.eraseIdx j))))
      | none => .bad)
    | none => .bad) else .bad) := rfl
  rw [key, hk, bind_ok, intOf_int, bind_ok, if_pos h1, h2]
  dsimp only
  rw [hp]
@[simp] theorem m_sPar (i j : Nat) (g : L) (ρ : Env) : sPar i j g ρ = withR (g ρ) ρ fun ps => match ps with
  | [p, q] => if i < ρ.length ∧ j < ρ.length ∧ i ≠ j then .nx ((ρ.set i (.val p)).set j (.val q)) else .bad
  | _ => .bad := (rfl)
@[simp] theorem m_sPar3 (i j l : Nat) (g : L) (ρ : Env) : sPar3 i j l g ρ = withR (g ρ) ρ fun ps => match ps with
  | [p, q, r] => if i < ρ.length ∧ j < ρ.length ∧ l < ρ.length then .nx (((ρ.set i (.val p)).set j (.val q)).set l (.val r)) else .bad
  | _ => .bad := (rfl)
theorem run1 (n : Nat) (m1 : Mode) (s : S) (p : PV) : runFn n [m1] s [p] = (match s (slotOf m1 p :: List.replicate (n - 1) .u) with
  | .rt o => .ok o
  | .nx _ => .ok (.fz .non)
  | .ex c fs _ => .exc c fs
  | _ => .bad) := rfl
theorem runN (n : Nat) (ms : List Mode) (s : S) (ps : List PV) (h : ps.length = ms.length) {o : OT} (e : s (slotsOf ms ps ++ List.replicate (n - ps.length) .u) = .rt o) : runFn n ms s ps = .ok o := by
  unfold runFn
  rw [if_pos h, e]
/-! ### what a flow must do -/
structure Po where
  nx : Env → Prop
  bk : Env → Prop
  ct : Env → Prop
  rt : OT → Prop
  ex : String → Option (List (String × PV)) → Env → Prop
@[irreducible] def sat (f : Fl) (P : Po) : Prop := match f with
  | .nx ρ => P.nx ρ
  | .ct ρ => P.ct ρ
  | .bk ρ => P.bk ρ
  | .rt o => P.rt o
  | .ex c fs ρ => P.ex c fs ρ
  | .bad => False
@[simp] theorem sat_nx (ρ : Env) (P : Po) : sat (.nx ρ) P = P.nx ρ := by unfold sat; rfl
@[simp] theorem sat_bk (ρ : Env) (P : Po) : sat (.bk ρ) P = P.bk ρ := by unfold sat; rfl
@[simp] theorem sat_ct (ρ : Env) (P : Po) : sat (.ct ρ) P = P.ct ρ := by unfold sat; rfl
@[simp] theorem sat_rt (o : OT) (P : Po) : sat (.rt o) P = P.rt o := by unfold sat; rfl
@[simp] theorem sat_ex (c : String) (fs : Option (List (String × PV))) (ρ : Env) (P : Po) : sat (.ex c fs ρ) P = P.ex c fs ρ := by unfold sat; rfl
@[simp] theorem sat_then (f : Fl) (s : S) (P : Po) : sat (f.andThen s) P = sat f { P with nx := fun ρ => sat (s ρ) P } := by cases f <;> simp <;> unfold sat <;> rfl
theorem sat.mono {f : Fl} {P P' : Po} (h : sat f P) (h1 : ∀ ρ, P.nx ρ → P'.nx ρ) (h2 : ∀ ρ, P.bk ρ → P'.bk ρ) (h3 : ∀ ρ, P.ct ρ → P'.ct ρ) (h4 : ∀ o, P.rt o → P'.rt o) (h5 : ∀ c fs ρ, P.ex c fs ρ → P'.ex c fs ρ) : sat f P' := by
  unfold sat at h ⊢
  cases f with
  | nx ρ => exact h1 _ h
  | bk ρ => exact h2 _ h
  | ct ρ => exact h3 _ h
  | rt o => exact h4 _ h
  | ex c fs ρ => exact h5 _ _ _ h
  | bad => exact h
theorem sat_if {c : Prop} [Decidable c] {f1 f2 : Fl} {P : Po} (h1 : c → sat f1 P) (h2 : ¬ c → sat f2 P) : sat (if c then f1 else f2) P := by
  split
  · exact h1 ‹_›
  · exact h2 ‹_›
/-- a def's whole -/
def poR (R : OT → Prop) : Po := ⟨fun _ => R (.fz .non), fun _ => False, fun _ => False, R, fun _ _ _ => False⟩
@[simp] theorem poR_nx (R : OT → Prop) (ρ : Env) : (poR R).nx ρ = R (.fz .non) := (rfl)
@[simp] theorem poR_rt (R : OT → Prop) : (poR R).rt = R := (rfl)
theorem run_ok {n : Nat} {ms : List Mode} {s : S} {ps : List PV} (R : OT → Prop) (h : ps.length = ms.length) (hs : sat (s (slotsOf ms ps ++ List.replicate (n - ps.length) .u)) (poR R)) : ∃ o, runFn n ms s ps = .ok o ∧ R o := by
  unfold runFn
  rw [if_pos h]
  unfold sat at hs
  revert hs
  cases s (slotsOf ms ps ++ List.replicate (n - ps.length) .u) with
  | nx ρ => exact fun h => ⟨_, rfl, h⟩
  | rt o => exact fun h => ⟨_, rfl, h⟩
  | _ => exact fun h => h.elim
/-- one turn -/
def stp (g : G) (body : S) (p : PV) (ρ : Env) : Fl := match g p ρ with
  | none => .bad
  | some ρ1 => body ρ1
@[simp] theorem stp_nm (i : Nat) (body : S) (p : PV) (ρ : Env) : stp (gNm i) body p ρ = if i < ρ.length then body (ρ.set i (.val p)) else .bad := by
  unfold stp gNm
  split
  · rename_i h; split at h
    · cases h
    · rw [if_neg ‹_›]
  · rename_i h; split at h
    · cases h; rw [if_pos ‹_›]
    · cases h
theorem sat_loop {g : G} {body : S} {P : Po} (I : Nat → Env → Prop) : ∀ (ps : List PV) (c : Nat) (ρ : Env), I c ρ →
    (∀ k p ρ, ps[k]? = some p → I (c + k) ρ → sat (stp g body p ρ) { P with nx := I (c + k + 1), ct := I (c + k + 1), bk := P.nx }) → (∀ ρ, I (c + ps.length) ρ → P.nx ρ) → sat (loop g body ps ρ) P
  | [], c, ρ, h0, _, he => by unfold loop; rw [sat_nx]; exact he ρ h0
  | p :: ps, c, ρ, h0, st, he => by
    have t1 := st 0 p ρ rfl h0
    have nxt : ∀ ρ2, I (c + 1) ρ2 → sat (loop g body ps ρ2) P := fun ρ2 h2 => by
      refine sat_loop I ps (c + 1) ρ2 h2 (fun k q ρ hq hI => ?_) fun ρ h => he ρ (by rw [show c + (p :: ps).length = c + 1 + ps.length by simp; omega]; exact h)
      have := st (k + 1) q ρ (by simpa using hq) (by rw [show c + (k + 1) = c + 1 + k by omega]; exact hI)
      rw [show c + (k + 1) + 1 = c + 1 + k + 1 by omega] at this
      exact this
    unfold stp at t1
    unfold loop
    unfold sat at t1 nxt ⊢
    revert t1 nxt
    cases g p ρ with
    | none => exact fun h _ => h.elim
    | some ρ1 =>
      dsimp only
      cases body ρ1 with
      | nx ρ2 => exact fun t1 nxt => nxt ρ2 t1
      | ct ρ2 => exact fun t1 nxt => nxt ρ2 t1
      | bk ρ2 => exact fun t1 _ => t1
      | rt o => exact fun t1 _ => t1
      | ex c fs ρ => exact fun t1 _ => t1
      | bad => exact fun t1 _ => t1.elim
theorem range_get {lo : Int} {n k : Nat} {p : PV} (h : (rangeL lo n)[k]? = some p) : p = .int (lo + k) ∧ k < n := by
  unfold rangeL at h
  rw [List.getElem?_map] at h
  by_cases hk : k < n
  · rw [List.getElem?_range hk] at h
    exact ⟨(Option.some.inj h).symm, hk⟩
  · rw [List.getElem?_eq_none (by simpa using hk)] at h
    cases h
@[simp] theorem rangeL_len (lo : Int) (n : Nat) : (rangeL lo n).length = n := by simp [rangeL]
/-- a loop over the items -/
theorem sat_for {g : G} {body : S} {P : Po} {ps : List PV} {ρ : Env} (I : Nat → Env → Prop) (h0 : I 0 ρ)
    (st : ∀ k p ρ, ps[k]? = some p → I k ρ → sat (stp g body p ρ) { P with nx := I (k + 1), ct := I (k + 1), bk := P.nx }) (he : ∀ ρ, I ps.length ρ → P.nx ρ) : sat (loop g body ps ρ) P :=
  sat_loop I ps 0 ρ h0 (by simpa using st) (by simpa using he)
theorem sat_range {g : G} {body : S} {P : Po} {lo : Int} {n : Nat} {ρ : Env} (I : Nat → Env → Prop) (h0 : I 0 ρ)
    (st : ∀ k ρ, k < n → I k ρ → sat (stp g body (.int (lo + k)) ρ) { P with nx := I (k + 1), ct := I (k + 1), bk := P.nx }) (he : ∀ ρ, I n ρ → P.nx ρ) : sat (loop g body (rangeL lo n) ρ) P :=
  sat_for I h0 (fun k p ρ hp hI => by obtain ⟨rfl, hk⟩ := range_get hp; exact st k ρ hk hI) (by simpa using he)
/-- range's bound -/
def rngR (lo hi : Int) : Res (List PV) := if bnd lo = true ∧ bnd hi = true then .ok (rangeL lo (hi - lo).toNat) else .bad
theorem rng_ok {lo hi : Int} (h1 : -4611686018427387904 ≤ lo) (h2 : lo < 4611686018427387904) (h3 : -4611686018427387904 ≤ hi) (h4 : hi < 4611686018427387904) : rngR lo hi = .ok (rangeL lo (hi - lo).toNat) := if_pos ⟨bnd_small h1 h2, bnd_small h3 h4⟩
theorem rng_nat {n : Nat} (h : n < 4611686018427387904) : rngR 0 (n : Int) = .ok (rangeL 0 n) := by
  rw [rng_ok (by omega) (by omega) (by omega) (by omega)]
  simp
@[simp] theorem m_lRange1 (f : E) (ρ : Env) : lRange1 f ρ = f ρ >>= intOf >>= rngR 0 := by
  unfold lRange1 rngR
  congr 1
  funext j
  rw [Int.sub_zero]
  by_cases h : bnd j = true
  · rw [if_pos h, if_pos ⟨bnd_small (by omega) (by omega), h⟩]
  · rw [if_neg h, if_neg fun q => h q.2]
@[simp] theorem m_lRange2 (f1 f2 : E) (ρ : Env) : lRange2 f1 f2 ρ = f1 ρ >>= fun x => f2 ρ >>= fun y => intOf x >>= fun i => intOf y >>= fun j => rngR i j := (rfl)
end Fz
end
section
/-! FwN: the operators at known kinds. -/
namespace Fz
open PySem PySem.Spec PyProof.Rows L2
theorem le_line {n : Nat} (h : n ≤ 16000000) : n ≤ sizeLine := Nat.le_trans h (by decide +kernel)
theorem lt_line {n : Nat} (h : n < 16000000) : n < sizeLine := Nat.lt_of_lt_of_le h (by decide +kernel)
section
variable (i j : Int) (x y : Tx) (ps qs : List PV) (b b' : Bool)
@[simp] theorem gAdd_int : gAdd (.int i) (.int j) = some (.fz (.int (i + j))) := (rfl)
theorem gAdd_str (h : x.length + y.length ≤ sizeLine) : gAdd (.str x) (.str y) = some (.fz (.str (x ++ y))) := if_pos h
theorem gAdd_lst (h : ps.length + qs.length ≤ sizeLine) : gAdd (.lst ps) (.lst qs) = some (.l (ps ++ qs)) := if_pos h
theorem two64 : (2 : Int) ^ 64 = 18446744073709551616 := by decide +kernel
@[simp] theorem gMul_r (h1 : -18446744073709551616 < j) (h2 : j < 18446744073709551616) : gMul (.int i) (.int j) = some (.fz (.int (i * j))) := if_pos (.inr (by rw [two64]; exact ⟨h1, h2⟩))
@[simp] theorem gMul_l (h1 : -18446744073709551616 < i) (h2 : i < 18446744073709551616) : gMul (.int i) (.int j) = some (.fz (.int (i * j))) := if_pos (.inl (by rw [two64]; exact ⟨h1, h2⟩))
@[simp] theorem gSub_int : gSub (.int i) (.int j) = some (.int (i - j)) := (rfl)
@[simp] theorem gNeg_int : gNeg (.int i) = some (.int (-i)) := (rfl)
@[simp] theorem gMod_int (h : 0 < j) : gMod (.int i) (.int j) = some (.int (i % j)) := by
  show ((if 0 < j then some (i % j) else none).map PV.int) = _
  rw [if_pos h]; rfl
@[simp] theorem gDiv_int (h : 0 < j) (h2 : j < 1073741824) : gDiv (.int i) (.int j) = some (.int (i / j)) := by
  show ((if 0 < j ∧ j < 1073741824 then some (i / j) else none).map PV.int) = _
  rw [if_pos ⟨h, h2⟩]; rfl
theorem gPow_int (n : Nat) (h : n ≤ 1000000) (h2 : i.natAbs < 1000000000000000000) : gPow (.int i) (.int n) = some (.int (i ^ n)) := by
  show ((if 0 ≤ (n : Int) ∧ (n : Int) ≤ 1000000 ∧ i.natAbs < 2 ^ 64 then some (i ^ (n : Int).toNat) else none).map PV.int) = _
  rw [if_pos ⟨by omega, by omega, Nat.lt_trans h2 (by decide +kernel)⟩]
  rfl
@[simp] theorem gPow_18 : gPow (.int 10) (.int 18) = some (.int 1000000000000000000) := by
  rw [show (18 : Int) = ((18 : Nat) : Int) from rfl, gPow_int _ _ (by decide) (by decide)]
  rfl
@[simp] theorem gOrd_int (fi : Int → Int → Bool) (fs : Tx → Tx → Bool) : gOrd fi fs (.int i) (.int j) = some (fi i j) := (rfl)
@[simp] theorem gOrd_str (fi : Int → Int → Bool) (fs : Tx → Tx → Bool) : gOrd fi fs (.str x) (.str y) = some (fs x y) := (rfl)
theorem gEq_of {p q : PV} (hp : eqOk p = true) (hq : eqOk q = true) : gEq p q = some (pvEq p q) := if_pos (by rw [hp, hq]; rfl)
theorem gNe_of {p q : PV} (hp : eqOk p = true) (hq : eqOk q = true) : gNe p q = some (!pvEq p q) := if_pos (by rw [hp, hq]; rfl)
@[simp] theorem ok_int : eqOk (.int i) = true := (rfl)
@[simp] theorem ok_str : eqOk (.str x) = true := (rfl)
@[simp] theorem ok_bl : eqOk (.bl b) = true := (rfl)
@[simp] theorem ok_non : eqOk .non = true := (rfl)
@[simp] theorem gEq_int : gEq (.int i) (.int j) = some (i == j) := (rfl)
@[simp] theorem gNe_int : gNe (.int i) (.int j) = some (!(i == j)) := (rfl)
@[simp] theorem gEq_str : gEq (.str x) (.str y) = some (x == y) := (rfl)
@[simp] theorem gNe_str : gNe (.str x) (.str y) = some (!(x == y)) := (rfl)
@[simp] theorem gEq_bl : gEq (.bl b) (.bl b') = some (b == b') := (rfl)
@[simp] theorem gNe_bl : gNe (.bl b) (.bl b') = some (!(b == b')) := (rfl)
theorem gLen_str (h : x.length ≤ sizeLine) : gLen (.str x) = some (.int x.length) := if_pos h
@[simp] theorem gLen_lst : gLen (.lst ps) = some (.int ps.length) := (rfl)
@[simp] theorem gLen_rol : gLen (.rol ps) = some (.int ps.length) := (rfl)
@[simp] theorem gLen_tup : gLen (.tup ps) = some (.int ps.length) := (rfl)
@[simp] theorem gList_lst : gList (.lst ps) = some (.l ps) := (rfl)
@[simp] theorem gList_rol : gList (.rol ps) = some (.l ps) := (rfl)
@[simp] theorem gList_tup : gList (.tup ps) = some (.l ps) := (rfl)
@[simp] theorem gTuple_lst : gTuple (.lst ps) = some (.fz (.tup ps)) := (rfl)
@[simp] theorem gTuple_rol : gTuple (.rol ps) = some (.fz (.tup ps)) := (rfl)
@[simp] theorem gTuple_tup : gTuple (.tup ps) = some (.fz (.tup ps)) := (rfl)
@[simp] theorem gInt_int : gInt (.int i) = some (.int i) := (rfl)
@[simp] theorem items_lst : itemsOf (.lst ps) = .ok ps := (rfl)
@[simp] theorem items_rol : itemsOf (.rol ps) = .ok ps := (rfl)
@[simp] theorem items_tup : itemsOf (.tup ps) = .ok ps := (rfl)
@[simp] theorem lof_lst : listOf' (.lst ps) = .ok ps := (rfl)
@[simp] theorem lof_rol : listOf' (.rol ps) = .ok ps := (rfl)
@[simp] theorem isT_non (t : Ty) : isT t .non = some (.bl false) := (rfl)
@[simp] theorem gIsN_non : gIsN .non .non = some true := (rfl)
@[simp] theorem truth_bl : truth (.bl b) = .ok b := (rfl)
@[simp] theorem truth_int : truth (.int i) = .ok (i != 0) := (rfl)
@[simp] theorem truth_lst : truth (.lst ps) = .ok (!ps.isEmpty) := (rfl)
theorem ixN_nn {n : Nat} (h0 : 0 ≤ i) (h1 : i < n) : ixN n i = some i.toNat := by
  unfold ixN
  rw [if_pos h0, if_pos h1]
theorem ixN_neg {n : Nat} (h0 : i < 0) (h1 : -(n : Int) ≤ i) : ixN n i = some (i + n).toNat := by
  unfold ixN
  rw [if_neg (by omega), if_pos h1]
theorem atI_nn {α : Type} (xs : List α) (h0 : 0 ≤ i) (h1 : i < xs.length) : atI xs i = some (xs[i.toNat]'(by omega)) := by
  unfold atI
  rw [ixN_nn i h0 h1]
  exact List.getElem?_eq_getElem _
theorem atI_m1 {α : Type} (xs : List α) (h1 : 0 < xs.length) : atI xs (-1) = some (xs[xs.length - 1]'(by omega)) := by
  unfold atI
  rw [ixN_neg _ (by omega) (by omega), show (-1 + (xs.length : Int)).toNat = xs.length - 1 by omega]
  exact List.getElem?_eq_getElem _
@[simp] theorem gIx_lst : gIx (.lst ps) (.int i) = atI ps i := (rfl)
@[simp] theorem gIx_rol : gIx (.rol ps) (.int i) = atI ps i := (rfl)
@[simp] theorem gIx_tup : gIx (.tup ps) (.int i) = atI ps i := (rfl)
theorem gIx_str (h : x.length ≤ sizeLine) : gIx (.str x) (.int i) = (atI x i).map fun c => .str [c] := if_pos h
theorem atI_map {α β : Type} (f : α → β) (xs : List α) : atI (xs.map f) i = (atI xs i).map f := by
  unfold atI
  rw [List.length_map]
  cases ixN xs.length i with
  | none => rfl
  | some k => exact List.getElem?_map
theorem gStr_int (h : i.natAbs < 1000000000) : gStr (.int i) = some (.str (txt (toString i))) := if_pos (by
  rcases Nat.eq_zero_or_pos i.natAbs with q | q
  · rw [q]; decide
  · exact Nat.lt_trans ((Nat.log2_lt (by omega)).mpr (Nat.lt_trans h (by decide : 1000000000 < 2 ^ 30))) (by decide))
end
end Fz
end
section
/-! FwO: texts, lists of texts. -/
namespace Fz
open PySem (sizeLine)
def isLow (c : Fin 1114112) : Bool := decide (97 ≤ c.val) && decide (c.val ≤ 122)
def isSg (c : Fin 1114112) : Bool := isLow c || decide (48 ≤ c.val) && decide (c.val ≤ 57)
def lowsT : Tx := txt "abcdefghijklmnopqrstuvwxyz"
def figsT : Tx := txt "0123456789"
@[simp] theorem lowsT_eq : txt "abcdefghijklmnopqrstuvwxyz" = lowsT := (rfl)
@[simp] theorem figsT_eq : txt "0123456789" = figsT := (rfl)
theorem lowsT_len : lowsT.length = 26 := by decide +kernel
theorem lowsT_nodup : lowsT.Nodup := by decide +kernel
theorem lowsT_all : lowsT.all isLow = true := by decide +kernel
theorem lowsT_low : ∀ c ∈ lowsT, isLow c = true := List.all_eq_true.mp lowsT_all
theorem figsT_len : figsT.length = 10 := by decide +kernel
theorem figsT_all : figsT.all isSg = true := by decide +kernel
theorem figsT_sg : ∀ c ∈ figsT, isSg c = true := List.all_eq_true.mp figsT_all
def lt (k : Nat) : Fin 1114112 := lowsT.getD k 0
def sg (k : Nat) : Fin 1114112 := (lowsT ++ figsT).getD k 0
theorem lt_low {k : Nat} (h : k < 26) : isLow (lt k) = true := by
  unfold lt
  rw [List.getD_eq_getElem?_getD, List.getElem?_eq_getElem (by rw [lowsT_len]; exact h)]
  exact lowsT_low _ (List.getElem_mem _)
theorem lt_inj {j k : Nat} (hj : j < 26) (hk : k < 26) (h : lt j = lt k) : j = k := by
  unfold lt at h
  rw [List.getD_eq_getElem?_getD, List.getD_eq_getElem?_getD, List.getElem?_eq_getElem (by rw [lowsT_len]; exact hj), List.getElem?_eq_getElem (by rw [lowsT_len]; exact hk)] at h
  exact (List.getElem_inj lowsT_nodup).mp h
theorem low_sg {c : Fin 1114112} (h : isLow c = true) : isSg c = true := by unfold isSg; rw [h]; rfl
theorem sg_sg {k : Nat} (h : k < 36) : isSg (sg k) = true := by
  unfold sg
  rw [List.getD_eq_getElem?_getD, List.getElem?_eq_getElem (by rw [List.length_append, lowsT_len, figsT_len]; exact h)]
  rcases List.mem_append.mp (List.getElem_mem (l := lowsT ++ figsT) (n := k) (by rw [List.length_append, lowsT_len, figsT_len]; exact h)) with q | q
  · exact low_sg (lowsT_low _ q)
  · exact figsT_sg _ q
theorem gIx_lows (i : Int) : gIx (.str lowsT) (.int (i % 26)) = some (.str [lt (i % 26).toNat]) := by
  have h0 : 0 ≤ i % 26 := Int.emod_nonneg _ (by decide)
  have h1 : i % 26 < 26 := Int.emod_lt_of_pos _ (by decide)
  rw [gIx_str _ _ (le_line (by rw [lowsT_len]; decide)), atI_nn _ _ h0 (by rw [lowsT_len]; exact h1)]
  unfold lt
  rw [List.getD_eq_getElem?_getD, List.getElem?_eq_getElem (by rw [lowsT_len]; omega)]
  rfl
theorem gIx_sgs (i : Int) : gIx (.str (lowsT ++ figsT)) (.int (i % 36)) = some (.str [sg (i % 36).toNat]) := by
  have h0 : 0 ≤ i % 36 := Int.emod_nonneg _ (by decide)
  have h1 : i % 36 < 36 := Int.emod_lt_of_pos _ (by decide)
  have hl : (lowsT ++ figsT).length = 36 := by rw [List.length_append, lowsT_len, figsT_len]
  rw [gIx_str _ _ (le_line (by rw [hl]; decide)), atI_nn _ _ h0 (by rw [hl]; exact h1)]
  unfold sg
  rw [List.getD_eq_getElem?_getD, List.getElem?_eq_getElem (by rw [hl]; omega)]
  rfl
/-- a name: a small letter, then up to eleven small letters or figures -/
def goodN (t : Tx) : Prop := t.length ≤ 12 ∧ (∀ c ∈ t, isSg c = true) ∧ ∃ c r, t = c :: r ∧ isLow c = true
/-! lists of texts, looked at -/
theorem eqOk_lst {ps : List PV} (h : ∀ p ∈ ps, isData p = true ∧ dep p < 64) : eqOk (.lst ps) = true := by
  have key : isDatas ps = true ∧ deps ps < 64 := by
    induction ps with
    | nil => exact ⟨rfl, by decide⟩
    | cons p ps ih =>
      obtain ⟨h1, h2⟩ := h p (List.mem_cons_self)
      obtain ⟨i1, i2⟩ := ih fun q hq => h q (List.mem_cons_of_mem _ hq)
      refine ⟨?_, ?_⟩
      · show (isData p && isDatas ps) = true
        rw [h1, i1]; rfl
      · show max (dep p) (deps ps) < 64
        exact Nat.max_lt.mpr ⟨h2, i2⟩
  unfold eqOk
  rw [show isData (.lst ps) = true from key.1]
  simp only [Bool.true_and, decide_eq_true_eq]
  show deps ps + 1 ≤ 64
  omega
theorem eqOk_strs (ts : List Tx) : eqOk (.lst (ts.map .str)) = true := eqOk_lst fun p hp => by
  obtain ⟨t, _, rfl⟩ := List.mem_map.mp hp
  exact ⟨rfl, by show 0 < 64; decide⟩
theorem any_strs (t : Tx) (ts : List Tx) : ((ts.map PV.str).any fun z => pvEq z (.str t)) = decide (t ∈ ts) := by
  induction ts with
  | nil => rfl
  | cons x xs ih =>
    rw [List.map_cons, List.any_cons, ih]
    show ((x == t) || decide (t ∈ xs)) = _
    by_cases h : x = t
    · subst h; simp
    · have : t ≠ x := fun z => h z.symm
      simp [h, this]
@[simp] theorem gIn_strs (t : Tx) (ts : List Tx) : gIn (.str t) (.lst (ts.map .str)) = some (decide (t ∈ ts)) := by
  show (if eqOk (.str t) && eqOk (.lst (ts.map .str)) then some ((ts.map PV.str).any fun z => pvEq z (.str t)) else none) = _
  rw [eqOk_strs, any_strs]
  rfl
@[simp] theorem gNotIn_strs (t : Tx) (ts : List Tx) : gNotIn (.str t) (.lst (ts.map .str)) = some (!decide (t ∈ ts)) := by
  show (gIn _ _).map _ = _
  rw [gIn_strs]
  rfl
/-! distinct things among few -/
theorem nodup_few {α : Type} [DecidableEq α] : ∀ {l1 l2 : List α}, l1.Nodup → (∀ x ∈ l1, x ∈ l2) → l1.length ≤ l2.length
  | [], _, _, _ => Nat.zero_le _
  | x :: l1, l2, hn, hs => by
    have hx := hs x List.mem_cons_self
    have hn' := List.nodup_cons.mp hn
    have := nodup_few (l1 := l1) (l2 := l2.erase x) hn'.2 fun y hy => by
      have hy2 := hs y (List.mem_cons_of_mem _ hy)
      have hne : y ≠ x := fun z => hn'.1 (z ▸ hy)
      exact (List.mem_erase_of_ne hne).mpr hy2
    rw [List.length_erase_of_mem hx] at this
    have hp : 0 < l2.length := List.length_pos_of_mem hx
    simp only [List.length_cons]
    omega
theorem nodup_map_range {α : Type} {n : Nat} {f : Nat → α} (h : ∀ i j, i < n → j < n → f i = f j → i = j) : ((List.range n).map f).Nodup := by
  unfold List.Nodup
  rw [List.pairwise_map]
  exact List.Pairwise.imp_of_mem (R := fun a b => a ≠ b) (fun ha hb hne e => hne (h _ _ (List.mem_range.mp ha) (List.mem_range.mp hb) e)) List.nodup_range
/-- so many differ, so few are told: one is not among them -/
theorem one_free {α : Type} [DecidableEq α] {n : Nat} {f : Nat → α} {l : List α} (h : ∀ i j, i < n → j < n → f i = f j → i = j) (hl : l.length < n) : ∃ i, i < n ∧ f i ∉ l := by
  refine Classical.byContradiction fun q => ?_
  have := nodup_few (l1 := (List.range n).map f) (l2 := l) (nodup_map_range h) fun x hx => by
    obtain ⟨i, hi, rfl⟩ := List.mem_map.mp hx
    exact Classical.byContradiction fun z => q ⟨i, List.mem_range.mp hi, z⟩
  rw [List.length_map, List.length_range] at this
  omega
/-! cuts -/
theorem cut_from {α : Type} (xs : List α) (k : Nat) : cut xs (some (k : Int)) none = xs.drop k := by
  unfold cut
  show (xs.drop (HT.sIx xs.length 0 (some (k : Int)))).take (xs.length - HT.sIx xs.length 0 (some (k : Int))) = _
  rw [HT.sIx_nat]
  rcases Nat.le_total k xs.length with h | h
  · rw [Nat.min_eq_left h, List.take_of_length_le (by simp)]
  · rw [Nat.min_eq_right h, List.drop_of_length_le h, List.drop_of_length_le (Nat.le_refl _), List.take_nil]
theorem cut_to {α : Type} (xs : List α) (k : Nat) : cut xs none (some (k : Int)) = xs.take k := by
  unfold cut
  show (xs.drop 0).take (HT.sIx xs.length xs.length (some (k : Int)) - 0) = _
  rw [HT.sIx_nat, List.drop_zero, Nat.sub_zero]
  rcases Nat.le_total k xs.length with h | h
  · rw [Nat.min_eq_left h]
  · rw [Nat.min_eq_right h, List.take_of_length_le h, List.take_of_length_le (Nat.le_refl _)]
theorem gSl_str {x : Tx} {lo hi : Option Int} (h : x.length ≤ sizeLine) : gSl (.str x) lo hi = some (.fz (.str (cut x lo hi))) := if_pos h
theorem gSl_lst {x : List PV} {lo hi : Option Int} : gSl (.lst x) lo hi = some (.l (cut x lo hi)) := (rfl)
end Fz
end
section
/-! FwP: numbers as texts; sorting texts. -/
namespace Fz
open PySem (sizeLine)
theorem char_inj {a b : Char} (h : a.toNat = b.toNat) : a = b := Char.ext (UInt32.toNat_inj.mp h)
theorem txt_inj {s t : String} (h : txt s = txt t) : s = t := by
  unfold txt at h
  have : s.toList = t.toList := by
    revert h
    generalize s.toList = xs
    generalize t.toList = ys
    intro h
    induction xs generalizing ys with
    | nil => cases ys with
      | nil => rfl
      | cons y ys => cases h
    | cons x xs ih => cases ys with
      | nil => cases h
      | cons y ys =>
        simp only [List.map_cons, List.cons.injEq, Fin.mk.injEq] at h
        rw [char_inj h.1, ih _ h.2]
  exact String.toList_inj.mp this
theorem tstr_inj {i j : Int} (h : txt (toString i) = txt (toString j)) : i = j := Int.repr_injective (txt_inj h)
theorem two_all : (List.range 40).all (fun k => decide (txt (toString ((10 : Int) + k)) = [sg (26 + (10 + k) / 10), sg (26 + (10 + k) % 10)])) = true := by decide +kernel
theorem two_fig {k : Nat} (h : k < 40) : txt (toString ((10 : Int) + k)) = [sg (26 + (10 + k) / 10), sg (26 + (10 + k) % 10)] := by
  have := List.all_eq_true.mp two_all k (List.mem_range.mpr h)
  exact of_decide_eq_true this
theorem gSortS_strs {ts : List Tx} (h : ts.length < 64) : gSortS (.lst (ts.map .str)) = some (.l ((sortT txLe ts).map .str)) := by
  show (strsOf (ts.map .str)).bind _ = _
  rw [strsOf_map]
  exact if_pos h
end Fz
end
section
/-! FwQ: comprehensions, pops, index. -/
namespace Fz
open PySem (sizeLine)
open L2 (atI ixN)
def appT (i : Nat) (p : PV) (ρ : Env) : Option Slot → Fl
  | some (.own (.l ps)) => if ps.length < sizeLine then .nx (ρ.set i (.own (.l (ps ++ [p])))) else .bad
  | _ => .bad
def appR (i : Nat) (ρ : Env) (r : Res (PV × Env)) : Option Slot → Fl
  | some (.own (.l _)) => withR r ρ fun r => appT i r.1 r.2 r.2[i]?
  | _ => .bad
@[simp] theorem m_sAppPop (i j : Nat) (f : E) (ρ : Env) : sApp i (qPopAt j f) ρ = appR i ρ (popS j ρ f ρ[j]?) ρ[i]? := (rfl)
@[simp] theorem appR_l (i : Nat) (ρ : Env) (r : Res (PV × Env)) (ps : List PV) : appR i ρ r (some (.own (.l ps))) = withR r ρ fun r => appT i r.1 r.2 r.2[i]? := (rfl)
@[simp] theorem appT_l (i : Nat) (p : PV) (ρ : Env) (ps : List PV) : appT i p ρ (some (.own (.l ps))) = if ps.length < sizeLine then .nx (ρ.set i (.own (.l (ps ++ [p])))) else .bad := (rfl)
@[simp] theorem m_gsCons (g : G) (h : Gs) (p : PV) (ps : List PV) (ρ : Env) : gsCons g h (p :: ps) ρ = (g p ρ).bind (h ps) := (rfl)
@[simp] theorem tm_list (ps : List PV) : Tm.is .list (.lst ps) = true := (rfl)
/-! comprehensions -/
@[simp] theorem tYes (ρ : Env) : tYesF ρ = .ok true := (rfl)
@[simp] theorem wipe_nil (ρ : Env) : wipeE ρ [] = ρ := (rfl)
@[simp] theorem wipe_cons (ρ : Env) (v : Nat) (vs : List Nat) : wipeE ρ (v :: vs) = (wipeE ρ vs).set v .u := (rfl)
def shd1 : Option Slot → Bool
  | some (.own _) => false
  | _ => true
@[simp] theorem shd_nil (ρ : Env) : shadowOk ρ [] = true := (rfl)
@[simp] theorem shd_cons (ρ : Env) (v : Nat) (vs : List Nat) : shadowOk ρ (v :: vs) = (shd1 ρ[v]? && shadowOk ρ vs) := (rfl)
@[simp] theorem shd1_u : shd1 (some .u) = true := (rfl)
@[simp] theorem shd1_val (p : PV) : shd1 (some (.val p)) = true := (rfl)
@[simp] theorem shd1_bor (p : PV) : shd1 (some (.bor p)) = true := (rfl)
def elR : Res PV → Option (Option PV)
  | .ok y => some (some y)
  | _ => none
@[simp] theorem elR_ok (y : PV) : elR (.ok y) = some (some y) := (rfl)
def tnR (el : E) (ρ : Env) : Res Bool → Option (Option PV)
  | .ok true => elR (el ρ)
  | .ok false => some none
  | _ => none
@[simp] theorem tnR_true (el : E) (ρ : Env) : tnR el ρ (.ok true) = elR (el ρ) := (rfl)
@[simp] theorem tnR_false (el : E) (ρ : Env) : tnR el ρ (.ok false) = some none := (rfl)
def gR (t : T) (el : E) : Option Env → Option (Option PV)
  | none => none
  | some ρ1 => tnR el ρ1 (t ρ1)
@[simp] theorem gR_some (t : T) (el : E) (ρ : Env) : gR t el (some ρ) = tnR el ρ (t ρ) := (rfl)
@[simp] theorem m_compTurn (g : G) (t : T) (el : E) (ρ : Env) (p : PV) : compTurn g t el ρ p = gR t el (g p ρ) := by
  unfold compTurn gR
  cases g p ρ with
  | none => rfl
  | some ρ1 =>
    dsimp only
    unfold tnR elR
    cases t ρ1 with
    | ok b => cases b <;> rfl
    | _ => rfl
theorem comp_map {α : Type} {g : G} {t : T} {el : E} {ρ : Env} {inj F : α → PV} : ∀ {xs : List α}, (∀ x ∈ xs, compTurn g t el ρ (inj x) = some (some (F x))) → compLoop g t el ρ (xs.map inj) = some (xs.map F)
  | [], _ => rfl
  | x :: xs, h => by
    rw [List.map_cons]
    unfold compLoop
    rw [h x List.mem_cons_self, comp_map fun y hy => h y (List.mem_cons_of_mem _ hy)]
    rfl
theorem comp_filter {α : Type} {g : G} {t : T} {el : E} {ρ : Env} {inj F : α → PV} {c : α → Bool} : ∀ {xs : List α}, (∀ x ∈ xs, compTurn g t el ρ (inj x) = some (if c x = true then some (F x) else none)) → compLoop g t el ρ (xs.map inj) = some ((xs.filter c).map F)
  | [], _ => rfl
  | x :: xs, h => by
    rw [List.map_cons]
    unfold compLoop
    rw [h x List.mem_cons_self, comp_filter fun y hy => h y (List.mem_cons_of_mem _ hy), List.filter_cons]
    cases c x <;> rfl
theorem oComp_map {α : Type} {l : L} {vs : List Nat} {g : G} {t : T} {el : E} {ρ : Env} (inj F : α → PV) (xs : List α) (h1 : shadowOk ρ vs = true) (h2 : l ρ = .ok (xs.map inj)) (h3 : ∀ x ∈ xs, compTurn g t el (wipeE ρ vs) (inj x) = some (some (F x))) (h4 : xs.length ≤ sizeLine) :
    oComp l vs g t el ρ = .ok (.l (xs.map F)) := by
  unfold oComp
  rw [if_pos h1, h2, bind_ok, comp_map h3, ofO_some, bind_ok]
  exact if_pos (by rw [List.length_map]; exact h4)
theorem oComp_filter {α : Type} {l : L} {vs : List Nat} {g : G} {t : T} {el : E} {ρ : Env} (inj F : α → PV) (c : α → Bool) (xs : List α) (h1 : shadowOk ρ vs = true) (h2 : l ρ = .ok (xs.map inj)) (h3 : ∀ x ∈ xs, compTurn g t el (wipeE ρ vs) (inj x) = some (if c x = true then some (F x) else none)) (h4 : xs.length ≤ sizeLine) :
    oComp l vs g t el ρ = .ok (.l ((xs.filter c).map F)) := by
  unfold oComp
  rw [if_pos h1, h2, bind_ok, comp_filter h3, ofO_some, bind_ok]
  exact if_pos (by rw [List.length_map]; exact Nat.le_trans (List.length_filter_le _ _) h4)
theorem bools_map {α : Type} (b : α → Bool) (xs : List α) : bools (xs.map fun x => .bl (b x)) = some (xs.map b) := by
  induction xs with
  | nil => rfl
  | cons x xs ih => show (bools (xs.map fun x => .bl (b x))).map (b x :: ·) = _; rw [ih]; rfl
theorem gAll_map {α : Type} (b : α → Bool) (xs : List α) : gAll (.lst (xs.map fun x => .bl (b x))) = some (.bl (xs.all b)) := by
  show (bools _).map _ = _
  rw [bools_map]
  simp
theorem gAny_map {α : Type} (b : α → Bool) (xs : List α) : gAny (.lst (xs.map fun x => .bl (b x))) = some (.bl (xs.any b)) := by
  show (bools _).map _ = _
  rw [bools_map]
  simp
theorem gAll_b {α : Type} {b : α → Bool} {xs : List α} {r : Bool} (h : xs.all b = r) : gAll (.lst (xs.map fun x => .bl (b x))) = some (.bl r) := by rw [gAll_map, h]
theorem gAny_b {α : Type} {b : α → Bool} {xs : List α} {r : Bool} (h : xs.any b = r) : gAny (.lst (xs.map fun x => .bl (b x))) = some (.bl r) := by rw [gAny_map, h]
/-! index -/
theorem flat_strs (ts : List Tx) : (ts.map PV.str).all isFlat = true := by simp [isFlat]
theorem gIndex_strs {t : Tx} {ts : List Tx} (h : t ∈ ts) : gIndex (.lst (ts.map .str)) (.str t) = some (.int (ts.idxOf t : Nat)) := by
  show (if isFlat (.str t) && (ts.map PV.str).all isFlat then ((ts.map PV.str).findIdx? fun z => pvEq z (.str t)).map fun j => PV.int (j : Nat) else none) = _
  rw [flat_strs, show (isFlat (.str t) && true) = true from rfl, if_pos rfl]
  have : (ts.map PV.str).findIdx? (fun z => pvEq z (.str t)) = some (ts.idxOf t) := by
    rw [List.findIdx?_map]
    show ts.findIdx? (fun x => x == t) = _
    induction ts with
    | nil => cases h
    | cons x ts ih =>
      rw [List.findIdx?_cons, List.idxOf_cons]
      by_cases e : x = t
      · subst e; simp
      · have e' : (x == t) = false := by simp [e]
        rw [e', ih (by rcases List.mem_cons.mp h with q | q; exact (e q.symm).elim; exact q)]
        simp
  rw [this]
  rfl
/-! cuts -/
theorem cut_map {α β : Type} (f : α → β) (xs : List α) (lo hi : Option Int) : cut (xs.map f) lo hi = (cut xs lo hi).map f := by
  unfold cut
  rw [List.length_map, List.map_take, List.map_drop]
theorem sIx_m1 (n d : Nat) : HT.sIx n d (some (-1)) = n - 1 := by
  show (if (-1 : Int) < 0 then ((-1 : Int) + (n : Int)).toNat else min (-1 : Int).toNat n) = _
  rw [if_pos (by decide)]
  omega
theorem cut_init {α : Type} (xs : List α) : cut xs none (some (-1)) = xs.dropLast := by
  unfold cut
  rw [sIx_m1, List.dropLast_eq_take]
  rfl
end Fz
namespace Fz
theorem erase_map {α β : Type} (f : α → β) : ∀ (xs : List α) (i : Nat), (xs.map f).eraseIdx i = (xs.eraseIdx i).map f
  | [], _ => rfl
  | _ :: _, 0 => rfl
  | x :: xs, i + 1 => by simp only [List.map_cons, List.eraseIdx_cons_succ, erase_map f xs i]
theorem erase_perm {α : Type} : ∀ {xs : List α} {i : Nat} (h : i < xs.length), (xs[i] :: xs.eraseIdx i).Perm xs
  | [], _, h => absurd h (Nat.not_lt_zero _)
  | x :: xs, 0, _ => .refl _
  | x :: xs, i + 1, h => by
    simp only [List.getElem_cons_succ, List.eraseIdx_cons_succ]
    exact (List.Perm.swap _ _ _).trans ((erase_perm (by simpa using h)).cons x)
end Fz
end
section
/-! FwR: stores into a list, a dict; empty dicts. -/
namespace Fz
open PySem PySem.Spec PyProof.Rows L2
section
variable {K : PySem.W.Frag} {A : Addr → Prop} {H : Hp}
def putA {κ β : Type} [DecidableEq κ] (kvs : List (κ × β)) (k : κ) (p : β) : List (κ × β) :=
  if (kvs.any fun q => decide (q.1 = k)) = true then kvs.map (fun q => if q.1 = k then (q.1, p) else q) else kvs ++ [(k, p)]
theorem repK_any : ∀ {kvs : List (K1 × PV)} {ks : List (Key × V)} (k : K1), RepK K A H kvs ks → (ks.any fun q => decide (q.1 = k1 k)) = kvs.any fun q => decide (q.1 = k)
  | [], ks, k, h => by rw [show ks = [] from h]; rfl
  | (j, p) :: kvs, ks, k, h => by
    obtain ⟨x, r, rfl, h1, h2⟩ := h
    rw [List.any_cons, List.any_cons, repK_any k h2]
    show (decide (k1 j = k1 k) || _) = _
    rw [key_dec]
theorem repK_map {p : PV} {v : V} (rv : Rep K A H p v) (k : K1) : ∀ {kvs : List (K1 × PV)} {ks : List (Key × V)}, RepK K A H kvs ks →
    RepK K A H (kvs.map fun q => if q.1 = k then (q.1, p) else q) (ks.map fun q => if q.1 = k1 k then (q.1, v) else q)
  | [], ks, h => by rw [show ks = [] from h]; rfl
  | (j, q) :: kvs, ks, h => by
    obtain ⟨x, r, rfl, h1, h2⟩ := h
    rw [List.map_cons, List.map_cons]
    by_cases e : j = k
    · rw [if_pos e, if_pos (show k1 j = k1 k by rw [e])]
      exact ⟨v, _, rfl, rv, repK_map rv k h2⟩
    · rw [if_neg e, if_neg (show ¬ k1 j = k1 k from fun z => e (k1_inj z))]
      exact ⟨x, _, rfl, h1, repK_map rv k h2⟩
theorem repK_snoc {p : PV} {v : V} (rv : Rep K A H p v) (k : K1) : ∀ {kvs : List (K1 × PV)} {ks : List (Key × V)}, RepK K A H kvs ks → RepK K A H (kvs ++ [(k, p)]) (ks ++ [(k1 k, v)])
  | [], ks, h => by rw [show ks = [] from h]; exact ⟨v, [], rfl, rv, rfl⟩
  | (j, q) :: kvs, ks, h => by
    obtain ⟨x, r, rfl, h1, h2⟩ := h
    exact ⟨x, _, rfl, h1, repK_snoc rv k h2⟩
theorem RepK.put {p : PV} {v : V} {kvs : List (K1 × PV)} {ks : List (Key × V)} (h : RepK K A H kvs ks) (rv : Rep K A H p v) (k : K1) : RepK K A H (putA kvs k p) (putK ks (k1 k) v) := by
  unfold putA putK
  rw [repK_any k h]
  split
  · exact repK_map rv k h
  · exact repK_snoc rv k h
theorem RepK.len : ∀ {kvs : List (K1 × PV)} {ks : List (Key × V)}, RepK K A H kvs ks → ks.length = kvs.length
  | [], ks, h => by rw [show ks = [] from h]; rfl
  | (j, q) :: kvs, ks, h => by
    obtain ⟨x, r, rfl, h1, h2⟩ := h
    simp [RepK.len h2]
end
theorem PSet.or {X : Cx} {t u : TSet} (h : PSet X t) (h' : PSet X u) : PSet X (fun o i v H Q => t o i v H Q ∨ u o i v H Q) :=
  fun pins s σ H o i v ov iv w Q I ro ri rv q => q.elim (h pins s σ H o i v ov iv w Q I ro ri rv) (h' pins s σ H o i v ov iv w Q I ro ri rv)
/-- what a store makes of a slot -/
def putS (i : Nat) (ρ : Env) (k v : PV) : Option Slot → Fl
  | some (.own (.l ps)) => (match k with
    | .int z => (match ixN ps.length z with
      | some j => .nx (ρ.set i (.own (.l (ps.set j v))))
      | none => .bad)
    | _ => .bad)
  | some (.own (.d kvs)) => (match keyOf k with
    | some k => if kvs.length < sizeLine then .nx (ρ.set i (.own (.d (putA kvs k v)))) else .bad
    | none => .bad)
  | _ => .bad
/-- x[k] = v -/
def isOwn : Option Slot → Bool
  | some (.own _) => true
  | _ => false
def sPut (i : Nat) (fi fv : E) : S := fun ρ => if isOwn ρ[i]? = true then withR (fv ρ) ρ fun v => withR (fi ρ) ρ fun k => putS i ρ k v ρ[i]? else .bad
section
variable {X : Cx} {C : Addr → Prop} {W : WX} {e e1 e2 : Expr} {pos p2 tpos : Pos} {m m1 m2 : Mode} {f f1 f2 : E}
theorem put_read {i : Nat} {ρ : Env} {σ : L2.St} {H : Hp} {fp : Fp} {D : Ends} {k v : PV} {u w o : V} (eo : EnvOk X.K C ρ σ H fp) (rk : Rep X.K (fun _ => True) H k u) (rv : Rep X.K (Am C fp) H v w) (ho : σ[i]? = some (some o))
    (q : FlQ X.K C W D H fp (putS i ρ k v ρ[i]?)) : rSetL o u w H (fun H' => D.nx σ H') ∨ rSetD o u w H (fun H' => D.nx σ H') := by
  cases hs : ρ[i]? with
  | none => rw [hs] at q; exact q.elim
  | some s =>
    rw [hs] at q
    cases s with
    | own t =>
      cases t with
      | l ps =>
        cases k with
        | int z =>
          simp only [putS] at q
          cases hj : ixN ps.length z with
          | none => rw [hj] at q; exact q.elim
          | some j =>
            rw [hj] at q
            obtain ⟨a, xs, hσ, hF, ha, rr⟩ := eo.ownL hs
            rw [ho] at hσ; cases hσ
            obtain ⟨e2, g2⟩ := eo.writeL hs ho hF ha (Reps.set j rr rv)
            exact .inl ⟨a, xs, z, j, rfl, rk, ha, by rw [rr.length]; exact hj, q _ _ _ e2 g2⟩
        | _ => exact q.elim
      | d kvs =>
        simp only [putS] at q
        cases hk : keyOf k with
        | none => rw [hk] at q; exact q.elim
        | some k' =>
          rw [hk] at q
          simp only at q
          split at q
          · rename_i hl
            obtain ⟨a, xs, hσ, hF, ha, rr⟩ := eo.ownD hs
            rw [ho] at hσ; cases hσ
            obtain ⟨e2, g2⟩ := eo.writeD hs ho hF ha (RepK.put rr rv k')
            exact .inr ⟨a, _, rfl, by rw [rep_key rk hk]; exact DPut.k ha (by rw [rr.len]; exact hl), q _ _ _ e2 g2⟩
          · exact q.elim
      | _ => exact q.elim
    | _ => exact q.elim
theorem sj_put {i : Nat} {x : Str} {px : Pos} {fi fv : E} (hu : Hu X) (hN : X.N[i]? = some x) (hv : Vis X.env.scope x) (he : EJ X C W .E e fv) (hi : EJ X C W .B e1 fi) (hd : (x == ("__debug__" : Str)) = false := by decide) (hcd : (x == ("__classdict__" : Str)) = false := by decide)
    (ha : ∀ v, assign (.Subscript (.Name x px) e1 tpos) X.env v = (do
      let ov ← holding [v] (eval (.Name x px) X.env)
      let iv ← holding [v, ov] (eval e1 X.env)
      standAt tpos
      holding [v, ov, iv] (setItem ov iv v)
      release [v, ov, iv] []) := by intro _; rfl)
    (hs : swapsWithSole [.Subscript (.Name x px) e1 tpos] e pos.line X.env = pure false := by rfl) (hw : swappedStores [.Subscript (.Name x px) e1 tpos] e X.env = pure none := by rfl) (h1 : (assignEach [.Subscript (.Name x px) e1 tpos] X.env).map (·.2) = [assign (.Subscript (.Name x px) e1 tpos) X.env] := by rfl) :
    SJ X C W (.Assign [.Subscript (.Name x px) e1 tpos] e pos) (sPut i fi fv) :=
  ps_weak (ps_asg he (pg_sub (pe_var hN hv hd hcd) hi (PSet.or set_list (set_dict hu.u1)) ha) hs hw h1) fun D σ H ⟨ρ, fp, eo, h⟩ => by
    unfold sPut at h
    split at h
    · rename_i hown
      refine ⟨ρ, fp, eo, (FlQ.ofR eo h).mono (fun v q w H1 s1 r1 => ?_) fun _ _ q => q⟩
      have eo1 := eo.same s1
      have hx : ∃ o, σ[i]? = some (some o) := by
        cases hs : ρ[i]? with
        | none => rw [hs] at hown; cases hown
        | some s =>
          rw [hs] at hown
          cases s with
          | own t => obtain ⟨o, ho, _⟩ := eo.slot i _ hs; exact ⟨o, ho⟩
          | _ => cases hown
      obtain ⟨o, ho⟩ := hx
      refine ⟨o, ho, ρ, fp, eo1, (FlQ.ofR eo1 (FlQ.later (Grow.same s1) q)).mono (fun k q2 u H2 s2 r2 => ?_) fun _ _ q => q⟩
      have eo2 := eo1.same s2
      exact put_read eo2 r2 (RepM.same (m := .E) s2 r1) ho (FlQ.later (Grow.same s2) q2)
    · exact h.elim
end
end Fz
end
section
/-! FwS: {}, startswith, join. -/
namespace Fz
open PySem PySem.Spec PyProof.Rows L2
section
variable {X : Cx} {C : Addr → Prop} {W : WX} {e e1 e2 : Expr} {pos p2 tpos : Pos} {m m1 m2 : Mode} {f f1 f2 : E}
def oDic0 : O := fun _ => .ok (.d [])
theorem oj_dic0 : OJ X C W (.Dict [] [] pos) oDic0 := pe_weak pe_dnewK fun σ H Q ⟨ρ, fp, eo, o⟩ p hp => by
  refine o (.ref p) (upd H p (.dK [])) [p] (fun a o q => ?_) (by simp) (fun a ha => by rw [List.mem_singleton.mp ha]; exact hp) ⟨p, [], rfl, rfl, upd_same, rfl⟩
  rw [upd_ne (fun z => by rw [z, hp] at q; cases q)]
  exact q
end
/-! startswith -/
def gStarts : PV → PV → Option PV
  | .str x, .str y => some (.bl (x.take y.length == y))
  | _, _ => none
theorem starts_eq (x y : Tx) : Txt.startswith (mkS x) (mkS y) = (x.take y.length == y) := by
  have e1 : (mkS y).length = y.length := by simp [mkS, Str.length]
  have e2 : (mkS x).length = x.length := by simp [mkS, Str.length]
  unfold Txt.startswith Builtin.Str.subAt
  rw [e1, e2]
  have e3 : ((mkS x).cps.extract 0 (0 + y.length) == (mkS y).cps) = (x.take y.length == y) := by
    rw [Bool.eq_iff_iff, beq_iff_eq, beq_iff_eq]
    constructor
    · intro h
      have := congrArg Array.toList h
      rw [Array.toList_extract, mkS_cps, mkS_cps] at this
      simp only [List.extract_eq_take_drop, List.drop_zero, Nat.zero_add, Nat.sub_zero, ← List.map_take] at this
      exact val_inj this
    · intro h
      apply Array.toList_inj.mp
      rw [Array.toList_extract, mkS_cps, mkS_cps]
      simp only [List.extract_eq_take_drop, List.drop_zero, Nat.zero_add, Nat.sub_zero, ← List.map_take]
      rw [h]
  rw [e3]
  cases h : x.take y.length == y with
  | false => rw [Bool.and_false]
  | true =>
    have := congrArg List.length (beq_iff_eq.mp h)
    rw [List.length_take] at this
    rw [Bool.and_true, decide_eq_true_eq]
    omega
theorem m_starts {X : Cx} : Mt1A X.K (fun x xs H Q => ∃ a b, x = .str a ∧ xs = [.str b] ∧ Q (.bl (Txt.startswith a b)) H) gStarts := fun H p q z v u Q hg r1 r2 k => by
  cases p <;> simp only [gStarts, reduceCtorEq] at hg <;> cases q <;> simp only [reduceCtorEq] at hg
  rename_i x y
  cases hg
  refine ⟨mkS x, mkS y, r1, by rw [show u = .str (mkS y) from r2], ?_⟩
  rw [starts_eq]
  exact k _ (fun A H => rfl)
/-! join -/
def joinT (sep : Tx) : List Tx → Tx
  | [] => []
  | x :: xs => x ++ (xs.map fun y => sep ++ y).flatten
theorem glued_from (sep : Tx) : ∀ (xs : List Tx) (acc : Array Nat), ((xs.map mkS).foldl (fun acc p => acc ++ (mkS sep).cps ++ p.cps) acc).toList = acc.toList ++ ((xs.map fun y => sep ++ y).flatten).map Fin.val
  | [], acc => by simp
  | x :: xs, acc => by
    rw [List.map_cons, List.foldl_cons, glued_from sep xs]
    simp [mkS, List.append_assoc]
theorem join_eq (sep : Tx) (xs : List Tx) : Txt.join (mkS sep) (xs.map mkS) = mkS (joinT sep xs) := by
  have key : (Txt.join (mkS sep) (xs.map mkS)).cps.toList = (joinT sep xs).map Fin.val := by
    cases xs with
    | nil => rfl
    | cons x xs =>
      show ((xs.map mkS).foldl (fun acc p => acc ++ (mkS sep).cps ++ p.cps) (mkS x).cps).toList = _
      rw [glued_from]
      simp [joinT, mkS]
  have : (Txt.join (mkS sep) (xs.map mkS)).cps = (mkS (joinT sep xs)).cps := Array.toList_inj.mp (by rw [key, mkS_cps])
  revert this
  generalize Txt.join (mkS sep) (xs.map mkS) = s
  cases s
  intro h
  simp only at h
  rw [h]
def gJoin : PV → PV → Option PV
  | .str sep, .lst ps => (strsOf ps).bind fun xs => if (xs.map (·.length)).sum + xs.length * sep.length ≤ 16777216 then some (.str (joinT sep xs)) else none
  | _, _ => none
theorem m_join {X : Cx} : Mt1A X.K (fun x xs H Q => ∃ a p, ∃ ys : List Str, x = .str a ∧ xs = [.ref p] ∧ (SqL X.K H p (ys.map V.str) ∨ SqT X.K H p (ys.map V.str)) ∧
    (ys.map (·.length)).sum + ys.length * a.length ≤ 16777216 ∧ Q (.str (Txt.join a ys)) H) gJoin := fun H p q z v u Q hg r1 r2 k => by
  cases p <;> simp only [gJoin, reduceCtorEq] at hg <;> cases q <;> simp only [reduceCtorEq] at hg
  rename_i sep ps
  cases e : strsOf ps with
  | none => rw [e] at hg; cases hg
  | some xs =>
    rw [e] at hg
    simp only [Option.bind_some] at hg
    split at hg
    · rename_i hl
      cases hg
      obtain ⟨a, vs, rfl, _, ha, rr⟩ := r2
      rw [strsOf_eq e] at rr
      have ev := rr.strs
      refine ⟨mkS sep, a, xs.map mkS, r1, rfl, .inl (by rw [List.map_map]; rw [ev] at ha; exact SqL.of ha), ?_, ?_⟩
      · rw [List.map_map, List.length_map, mkS_length]
        rw [show ((fun x : Str => x.length) ∘ mkS) = fun x : Tx => x.length from funext fun x => mkS_length x]
        exact hl
      · rw [join_eq]
        exact k _ (fun A H => rfl)
    · cases hg
end Fz
end
section
/-! FwT: x += e of ints; two stores at once. -/
namespace Fz
open PySem PySem.Spec PyProof.Rows L2
def slotInt : Option Slot → Option Int
  | some (.val (.int a)) => some a
  | some (.bor (.int a)) => some a
  | _ => none
def augI (i : Nat) (ρ : Env) (g : Int → Int → Int) (a : Int) : PV → Fl
  | .int b => .nx (ρ.set i (.val (.int (g a b))))
  | _ => .bad
def augS (i : Nat) (ρ : Env) (g : Int → Int → Int) (f : E) : Option Int → Fl
  | some a => withR (f ρ) ρ fun y => augI i ρ g a y
  | none => .bad
def sAug (i : Nat) (g : Int → Int → Int) (f : E) : S := fun ρ => augS i ρ g f (slotInt ρ[i]?)
section
variable {X : Cx} {C : Addr → Prop} {W : WX} {e e1 e2 : Expr} {pos p2 tpos : Pos} {m m1 m2 : Mode} {f f1 f2 : E}
theorem sj_aug {i : Nat} {x : Str} {op : Operator} {pos' : Pos} {g : Int → Int → Int} (hN : X.N.Nodup) (hi : X.N[i]? = some x) (hx : Loc X.env.scope x) (ho : PIp X op (ipI g)) (he : EJ X C W .B e f)
    (hf : X.fn x = true ∨ X.env.scope.names.lookup x = some .local := by first | exact .inl rfl | exact .inr rfl | assumption) : SJ X C W (.AugAssign (.Name x pos') op e pos) (sAug i g f) :=
  ps_weak (ps_aug hN hi hx he ho hf) fun D σ H ⟨ρ, fp, eo, h⟩ => by
    unfold sAug at h
    cases hs : slotInt ρ[i]? with
    | none => rw [hs] at h; exact h.elim
    | some a =>
      rw [hs] at h
      have hv : σ[i]? = some (some (.int a)) ∧ i < ρ.length := by
        cases hq : ρ[i]? with
        | none => rw [hq] at hs; cases hs
        | some s =>
          have hl := (List.getElem?_eq_some_iff.mp hq).1
          rw [hq] at hs
          cases s with
          | val p =>
            cases p <;> simp only [slotInt, reduceCtorEq, Option.some.injEq] at hs
            obtain ⟨_, v, hv, r⟩ := eo.slot i _ hq
            rw [show v = .int _ from r, hs] at hv
            exact ⟨hv, hl⟩
          | bor p =>
            cases p <;> simp only [slotInt, reduceCtorEq, Option.some.injEq] at hs
            obtain ⟨_, v, hv, r⟩ := eo.slot i _ hq
            rw [show v = .int _ from r, hs] at hv
            exact ⟨hv, hl⟩
          | _ => simp only [slotInt, reduceCtorEq] at hs
      refine ⟨.int a, hv.1, ρ, fp, eo, (FlQ.ofR eo h).mono (fun y q w H1 s1 r1 => ?_) fun _ _ q => q⟩
      cases y <;> simp only [augI] at q
      case int b =>
        obtain ⟨e1, g1⟩ := (eo.same s1).setVal (p := .int (g a b)) (v := .int (g a b)) hv.2 rfl
        exact ⟨a, b, rfl, by rw [show w = .int b from r1], q _ _ _ e1 ((Grow.same s1).trans g1)⟩
      all_goals exact q.elim
/-- x[k], y[l] = a, b -/
def put2 (i1 i2 : Nat) (f1 f2 : E) (ρ : Env) : PV → Fl
  | .tup [v1, v2] => withR (f1 ρ) ρ fun k => (putS i1 ρ k v1 ρ[i1]?).andThen fun ρ2 => if isOwn ρ2[i2]? = true then withR (f2 ρ2) ρ2 fun k2 => putS i2 ρ2 k2 v2 ρ2[i2]? else .bad
  | _ => .bad
def sPut2 (i1 i2 : Nat) (f1 f2 fv : E) : S := fun ρ => if isOwn ρ[i1]? = true then withR (fv ρ) ρ (put2 i1 i2 f1 f2 ρ) else .bad
theorem own_val {K : PySem.W.Frag} {i : Nat} {ρ : Env} {σ : L2.St} {H : Hp} {fp : Fp} (eo : EnvOk K C ρ σ H fp) (hown : isOwn ρ[i]? = true) : ∃ o, σ[i]? = some (some o) := by
  cases hs : ρ[i]? with
  | none => rw [hs] at hown; cases hown
  | some s =>
    rw [hs] at hown
    cases s with
    | own t => obtain ⟨o, ho, _⟩ := eo.slot i _ hs; exact ⟨o, ho⟩
    | _ => cases hown
theorem FlQ.seq2 {K : PySem.W.Frag} {D : Ends} {H : Hp} {fp : Fp} {fl : Fl} {t : S} (h : FlQ K C W D H fp (fl.andThen t)) : FlQ K C W { D with nx := fun σ' H' => ∃ ρ2 fp2, EnvOk K C ρ2 σ' H' fp2 ∧ Grow H fp H' fp2 ∧ FlQ K C W D H' fp2 (t ρ2) } H fp fl := by
  cases fl with
  | nx ρ' => exact fun σ' H' fp' e' g => ⟨ρ', fp', e', g, FlQ.later g h⟩
  | rt o => exact h
  | bk o => exact h
  | ct o => exact h
  | ex c fs o => exact h
  | bad => exact h
theorem sj_put2 {i1 i2 : Nat} {x y : Str} {px py tp1 tp2 : Pos} {kk : Nat} {fv : E} (hc : X.calm = true) (hu : Hu X) (hN : X.N[i1]? = some x) (hv : Vis X.env.scope x) (hN2 : X.N[i2]? = some y) (hv2 : Vis X.env.scope y) (he : EJ X C W .E e fv) (h1 : EJ X C W .B e1 f1) (h2 : EJ X C W .B e2 f2)
    (hd : (x == ("__debug__" : Str)) = false := by decide) (hcd : (x == ("__classdict__" : Str)) = false := by decide) (hd2 : (y == ("__debug__" : Str)) = false := by decide) (hcd2 : (y == ("__classdict__" : Str)) = false := by decide)
    (ha : ∀ v, assign (.Subscript (.Name x px) e1 tp1) X.env v = (do
      let ov ← holding [v] (eval (.Name x px) X.env)
      let iv ← holding [v, ov] (eval e1 X.env)
      standAt tp1
      holding [v, ov, iv] (setItem ov iv v)
      release [v, ov, iv] []) := by intro _; rfl)
    (ha2 : ∀ v, assign (.Subscript (.Name y py) e2 tp2) X.env v = (do
      let ov ← holding [v] (eval (.Name y py) X.env)
      let iv ← holding [v, ov] (eval e2 X.env)
      standAt tp2
      holding [v, ov, iv] (setItem ov iv v)
      release [v, ov, iv] []) := by intro _; rfl)
    (hn : (assignEach [.Subscript (.Name x px) e1 tp1, .Subscript (.Name y py) e2 tp2] X.env).length = 2 := by rfl) (hst : (assignEach [.Subscript (.Name x px) e1 tp1, .Subscript (.Name y py) e2 tp2] X.env).findIdx? (·.1) = none := by rfl)
    (hq1 : (assignEach [.Subscript (.Name x px) e1 tp1, .Subscript (.Name y py) e2 tp2] X.env).map (·.2) = assign (.Subscript (.Name x px) e1 tp1) X.env :: (assignEach [.Subscript (.Name y py) e2 tp2] X.env).map (·.2) := by rfl)
    (hq2 : (assignEach [.Subscript (.Name y py) e2 tp2] X.env).map (·.2) = assign (.Subscript (.Name y py) e2 tp2) X.env :: (assignEach [] X.env).map (·.2) := by rfl)
    (hs : swapsWithSole [.Tuple [.Subscript (.Name x px) e1 tp1, .Subscript (.Name y py) e2 tp2] kk tpos] e pos.line X.env = pure false := by rfl) (hw : swappedStores [.Tuple [.Subscript (.Name x px) e1 tp1, .Subscript (.Name y py) e2 tp2] kk tpos] e X.env = pure none := by rfl)
    (hq : (assignEach [.Tuple [.Subscript (.Name x px) e1 tp1, .Subscript (.Name y py) e2 tp2] kk tpos] X.env).map (·.2) = [assign (.Tuple [.Subscript (.Name x px) e1 tp1, .Subscript (.Name y py) e2 tp2] kk tpos) X.env] := by rfl) :
    SJ X C W (.Assign [.Tuple [.Subscript (.Name x px) e1 tp1, .Subscript (.Name y py) e2 tp2] kk tpos] e pos) (sPut2 i1 i2 f1 f2 fv) :=
  ps_weak (ps_asg he (pg_tup hc (pgs_cons (pg_sub (pe_var hN hv hd hcd) h1 (PSet.or set_list (set_dict hu.u1)) ha) (pgs_cons (pg_sub (pe_var hN2 hv2 hd2 hcd2) h2 (PSet.or set_list (set_dict hu.u1)) ha2) pgs_nil hq2) hq1) hn hst) hs hw hq) fun D σ H ⟨ρ, fp, eo, h⟩ => by
    unfold sPut2 at h
    split at h
    · rename_i hown
      refine ⟨ρ, fp, eo, (FlQ.ofR eo h).mono (fun v q w H1 s1 r1 => ?_) fun _ _ q => q⟩
      have eo1 := eo.same s1
      match v, q, r1 with
      | .tup [v1, v2], q, r1 =>
        obtain ⟨a, xs, rfl, ha', rr⟩ := r1
        obtain ⟨w1, _, rfl, rv1, w2, _, rfl, rv2, rfl⟩ := rr
        refine ⟨a, [w1, w2], rfl, SqT.of ha', rfl, w1, [w2], rfl, ?_⟩
        obtain ⟨o, ho⟩ := own_val eo hown
        refine ⟨o, ho, ρ, fp, eo1, (FlQ.ofR eo1 (FlQ.later (Grow.same s1) q)).mono (fun k q2 u H2 s2 r2 => ?_) fun _ _ q => q⟩
        have eo2 := eo1.same s2
        have q3 := FlQ.seq2 (FlQ.later (Grow.same s2) q2)
        have fin : ∀ H', (∃ ρ2 fp2, EnvOk X.K C ρ2 σ H' fp2 ∧ Grow H2 fp H' fp2 ∧ FlQ X.K C W D H' fp2 ((fun ρ2 => if isOwn ρ2[i2]? = true then withR (f2 ρ2) ρ2 fun k2 => putS i2 ρ2 k2 v2 ρ2[i2]? else .bad) ρ2)) →
            gCons (L2.gSub (tVar i2) (tE X.K C W .B f2) (fun o i v H Q => rSetL o i v H Q ∨ rSetD o i v H Q)) gNil [w2] σ H' D.nx := by
          rintro H' ⟨ρ2, fp2, eo3, g3, q5⟩
          dsimp only at q5
          split at q5
          · rename_i hown2
            obtain ⟨o2, ho2⟩ := own_val eo3 hown2
            refine ⟨w2, [], rfl, o2, ho2, ρ2, fp2, eo3, (FlQ.ofR eo3 q5).mono (fun k2 q6 u2 H3 s3 r3 => ?_) fun _ _ q => q⟩
            have rv2' : Rep X.K (Am C fp2) H' v2 w2 := Rep.carry g3.carry (RepM.same (m := .E) s2 rv2)
            have := put_read (eo3.same s3) r3 (RepM.same (m := .E) s3 rv2') ho2 (FlQ.later (Grow.same s3) q6)
            refine this.imp ?_ ?_
            · rintro ⟨a, xs, k', j, h1, h2, h3, h4, h6⟩
              exact ⟨a, xs, k', j, h1, h2, h3, h4, rfl, h6⟩
            · rintro ⟨a, H4, h1, h2, h6⟩
              exact ⟨a, H4, h1, h2, rfl, h6⟩
          · exact q5.elim
        refine (put_read eo2 r2 (RepM.same (m := .E) s2 rv1) ho q3).imp ?_ ?_
        · rintro ⟨a, xs, k', j, h1, h2, h3, h4, h6⟩
          exact ⟨a, xs, k', j, h1, h2, h3, h4, fin _ h6⟩
        · rintro ⟨a, H4, h1, h2, h6⟩
          exact ⟨a, H4, h1, h2, fin _ h6⟩
      | .non, q, _ => exact q.elim
      | .bl _, q, _ => exact q.elim
      | .int _, q, _ => exact q.elim
      | .str _, q, _ => exact q.elim
      | .lst _, q, _ => exact q.elim
      | .rol _, q, _ => exact q.elim
      | .dic _, q, _ => exact q.elim
      | .dit _, q, _ => exact q.elim
      | .ins _ _, q, _ => exact q.elim
      | .tup [], q, _ => exact q.elim
      | .tup [_], q, _ => exact q.elim
      | .tup (_ :: _ :: _ :: _), q, _ => exact q.elim
    · exact h.elim
end
end Fz
end
section
/-! FwU: iteration over a text, too. -/
namespace Fz
open PySem PySem.Spec PyProof.Rows L2
def signsOf (x : Tx) : List PV := x.map fun c => .str [c]
def itemsA : PV → Res (List PV)
  | .str x => .ok (signsOf x)
  | p => itemsOf p
def lOfA (f : E) : L := fun ρ => f ρ >>= itemsA
theorem iter_str {K : PySem.W.Frag} {A : Addr → Prop} {H0 : Hp} {rel : Hp → Prop} (x : Tx) : IterOk K A H0 rel (Its (mkS x)) (signsOf x) := fun H B hr hcar i => by
  have hs : (mkS x).cps.size = x.length := by simp [mkS]
  refine ⟨fun p hp => ?_, fun hi => ?_⟩
  · unfold signsOf at hp
    rw [List.getElem?_map] at hp
    obtain ⟨c, hc, rfl⟩ := Option.map_eq_some_iff.mp hp
    have hl := (List.getElem?_eq_some_iff.mp hc).1
    refine ⟨by show i < (mkS x).cps.size; rw [hs]; exact hl, fun y H' h => ?_⟩
    obtain ⟨rfl, d, hd, rfl⟩ := h
    refine ⟨Same.refl _, ?_⟩
    have : d = c.val := by
      have e : (mkS x).cps[i]? = some c.val := by simp [mkS, hc]
      rw [e] at hd
      exact (Option.some.inj hd).symm
    rw [this]
    rfl
  · show (mkS x).cps.size ≤ i
    rw [hs]
    simpa [signsOf] using hi
section
variable {X : Cx} {C : Addr → Prop} {W : WX} {e e1 e2 e3 tg iter : Expr} {pos p2 pn tpos : Pos} {m m1 m2 m3 : Mode} {f f1 f2 f3 : E}
theorem seqA_read {σ : L2.St} {H : Hp} {R : It → Hp → Prop} {rel : Hp → Fp → Hp → Prop} (hst : ∀ (fp : Fp) H' p v ps, RepM X.K C fp m H' p v → itemsOf p = .ok ps → Stands X.K (Am C fp) H' (rel H' fp) p v ps) (hrf : ∀ H fp, rel H fp H)
    (h : tI X.K C W rel (lOfA f) σ H R) : (iList X.K (tE X.K C W m f) σ H R ∨ iTup X.K (tE X.K C W m f) σ H R) ∨ iStr (tE X.K C W m f) σ H R := by
  obtain ⟨ρ, fp, eo, o⟩ := h
  by_cases ht : ∃ x, f ρ = .ok (.str x)
  · obtain ⟨x, e0⟩ := ht
    right
    refine ⟨ρ, fp, eo, (Out.bind o).and.mono (fun p ⟨e1, o1⟩ v H1 s1 r1 => ?_) fun _ _ q => q⟩
    rw [e0] at e1; cases e1
    have rv : v = .str (mkS x) := RepM.toB r1
    exact ⟨mkS x, rv, (show Out (Res.ok (signsOf x)) _ _ from o1) _ H1 s1 (iter_str x)⟩
  · left
    refine seq_read hst hrf ⟨ρ, fp, eo, ?_⟩
    have e : lOf f ρ = lOfA f ρ := by
      unfold lOf lOfA
      cases z : f ρ with
      | ok p => cases p <;> first | rfl | exact (ht ⟨_, z⟩).elim
      | exc c fs => rfl
      | bad => rfl
    rw [e]
    exact o
theorem ij_seqA (h : EJ X C W .E iter f) : IJ X C W relG tg iter (lOfA f) :=
  pi_weak (pi_or (pi_or (pi_list h) (pi_tup h)) (pi_str h)) fun σ H R q => seqA_read (m := .E) (fun fp H' p v ps r hp => seq_stands r hp) (fun _ _ => relG.refl) q
theorem ij_seqSA (h : EJ X C W .I iter f) : IJ X C W relS tg iter (lOfA f) :=
  pi_weak (pi_or (pi_or (pi_list h) (pi_tup h)) (pi_str h)) fun σ H R q => seqA_read (m := .I) (fun fp H' p v ps r hp => seq_standsS r hp) (fun H fp => Same.refl H) q
end
@[simp] theorem m_lOfA (f : E) (ρ : Env) : lOfA f ρ = f ρ >>= itemsA := (rfl)
@[simp] theorem itA_lst (ps : List PV) : itemsA (.lst ps) = .ok ps := (rfl)
@[simp] theorem itA_rol (ps : List PV) : itemsA (.rol ps) = .ok ps := (rfl)
@[simp] theorem itA_tup (ps : List PV) : itemsA (.tup ps) = .ok ps := (rfl)
@[simp] theorem itA_str (x : Tx) : itemsA (.str x) = .ok (signsOf x) := (rfl)
end Fz
end
section
/-! FwV: str of None, of a text. -/
namespace Fz
open PySem PySem.Spec PyProof.Rows L2
def rStrA : List V → Hp → VK → Prop := fun xs H Q => (∃ i, xs = [.int i] ∧ i.natAbs.log2 < 1920 ∧ Q (.str (toString i)) H) ∨ (xs = [.non] ∧ Q (.str "None") H) ∨ ∃ a, xs = [.str a] ∧ Q (.str a) H
theorem call_strA {X : Cx} : CallR X (.type "str") rStrA := by
  rintro pins s σ H xs us Q I r (h | ⟨rfl, q⟩ | h)
  · exact call_str_int pins s σ H xs us Q I r h
  · obtain ⟨u, rfl, r1⟩ := vals1 r
    cases r1
    exact PySem.P.str_of_none ⟨.str "None", H, I.tok _, ⟨_, rfl⟩, q⟩
  · exact SkE.call_str_str pins s σ H xs us Q I r h
def gStrA : PV → Option PV
  | .int i => gStr (.int i)
  | .non => some (.str (txt "None"))
  | .str x => some (.str x)
  | _ => none
theorem c_strA {X : Cx} : Call1A X.K rStrA gStrA := fun H p z v Q hg r k => by
  cases p <;> simp only [gStrA, reduceCtorEq] at hg
  · cases hg
    exact .inr (.inl ⟨by rw [show v = .non from r], k _ (by rw [← mkS_txt]; exact atom_str _)⟩)
  · exact .inl (c_str (X := X) H _ z v Q hg r k)
  · cases hg
    exact .inr (.inr ⟨_, by rw [show v = .str _ from r], k _ (atom_str _)⟩)
@[simp] theorem tm_str (x : Tx) : Tm.is .str (.str x) = true := (rfl)
@[simp] theorem gStrA_int (i : Int) : gStrA (.int i) = gStr (.int i) := (rfl)
@[simp] theorem gStrA_non : gStrA .non = some (.str (txt "None")) := (rfl)
@[simp] theorem gStrA_str (x : Tx) : gStrA (.str x) = some (.str x) := (rfl)
/-! stores -/
@[simp] theorem m_sPut (i : Nat) (fi fv : E) (ρ : Env) : sPut i fi fv ρ = if isOwn ρ[i]? = true then withR (fv ρ) ρ fun v => withR (fi ρ) ρ fun k => putS i ρ k v ρ[i]? else .bad := (rfl)
@[simp] theorem isOwn_own (t : OT) : isOwn (some (.own t)) = true := (rfl)
theorem put_l (i : Nat) (ρ : Env) (z : Int) (v : PV) (ps : List PV) (h0 : 0 ≤ z) (h1 : z < ps.length) : putS i ρ (.int z) v (some (.own (.l ps))) = .nx (ρ.set i (.own (.l (ps.set z.toNat v)))) := by
  unfold putS
  simp only [ixN_nn z h0 h1]
@[simp] theorem put_d (i : Nat) (ρ : Env) (x : Tx) (v : PV) (kvs : List (K1 × PV)) : putS i ρ (.str x) v (some (.own (.d kvs))) = if kvs.length < sizeLine then .nx (ρ.set i (.own (.d (putA kvs (.inr x) v)))) else .bad := (rfl)
@[simp] theorem m_oDic0 (ρ : Env) : oDic0 ρ = .ok (.d []) := (rfl)
@[simp] theorem ts_d (p : List (K1 × PV)) : toSlot (.d p) = .own (.d p) := (rfl)
@[simp] theorem pv_d (p : List (K1 × PV)) : (OT.d p).pv = .dic p := (rfl)
/-! kinds -/
section
variable (t : Ty) (b : Bool) (i : Int) (x : Tx) (ps : List PV) (kvs : List (K1 × PV))
@[simp] theorem isT_b : isT t (.bl b) = some (.bl (match t with | .bool => true | .int => true | _ => false)) := (rfl)
@[simp] theorem isT_i : isT t (.int i) = some (.bl (match t with | .int => true | _ => false)) := (rfl)
@[simp] theorem isT_s : isT t (.str x) = some (.bl (match t with | .str => true | _ => false)) := (rfl)
@[simp] theorem isT_t : isT t (.tup ps) = some (.bl (match t with | .tuple => true | _ => false)) := (rfl)
@[simp] theorem isT_l : isT t (.lst ps) = some (.bl (match t with | .list => true | _ => false)) := (rfl)
@[simp] theorem isT_d : isT t (.dic kvs) = some (.bl (match t with | .dict => true | _ => false)) := (rfl)
end
/-! targets -/
def asgT : Option Env → Fl
  | some ρ' => .nx ρ'
  | none => .bad
@[simp] theorem asgT_some (ρ : Env) : asgT (some ρ) = .nx ρ := (rfl)
@[simp] theorem m_sAsgT (g : G) (f : E) (ρ : Env) : sAsgT g f ρ = withR (f ρ) ρ fun p => asgT (g p ρ) := by
  unfold sAsgT
  first
    | rfl
    | (congr 1
       done)
    | (congr 1
       funext p
       cases g p ρ <;> rfl)
@[simp] theorem m_sPut2 (i1 i2 : Nat) (f1 f2 fv : E) (ρ : Env) : sPut2 i1 i2 f1 f2 fv ρ = if isOwn ρ[i1]? = true then withR (fv ρ) ρ (put2 i1 i2 f1 f2 ρ) else .bad := (rfl)
@[simp] theorem m_put2 (i1 i2 : Nat) (f1 f2 : E) (ρ : Env) (v1 v2 : PV) : put2 i1 i2 f1 f2 ρ (.tup [v1, v2]) = withR (f1 ρ) ρ fun k => (putS i1 ρ k v1 ρ[i1]?).andThen fun ρ2 => if isOwn ρ2[i2]? = true then withR (f2 ρ2) ρ2 fun k2 => putS i2 ρ2 k2 v2 ρ2[i2]? else .bad := (rfl)
@[simp] theorem m_sAug (i : Nat) (g : Int → Int → Int) (f : E) (ρ : Env) : sAug i g f ρ = augS i ρ g f (slotInt ρ[i]?) := (rfl)
@[simp] theorem slotInt_val (a : Int) : slotInt (some (.val (.int a))) = some a := (rfl)
@[simp] theorem slotInt_bor (a : Int) : slotInt (some (.bor (.int a))) = some a := (rfl)
@[simp] theorem m_augS (i : Nat) (ρ : Env) (g : Int → Int → Int) (f : E) (a : Int) : augS i ρ g f (some a) = withR (f ρ) ρ fun y => augI i ρ g a y := (rfl)
@[simp] theorem m_augI (i : Nat) (ρ : Env) (g : Int → Int → Int) (a b : Int) : augI i ρ g a (.int b) = .nx (ρ.set i (.val (.int (g a b)))) := (rfl)
/-! a loop, item by item -/
theorem sat_nil {g : G} {body : S} {ρ : Env} {P : Po} : sat (loop g body [] ρ) P = P.nx ρ := by
  unfold loop
  rw [sat_nx]
theorem sat_cons {g : G} {body : S} {p : PV} {ps : List PV} {ρ : Env} {P : Po} : sat (loop g body (p :: ps) ρ) P = sat (stp g body p ρ) { P with nx := fun ρ' => sat (loop g body ps ρ') P, ct := fun ρ' => sat (loop g body ps ρ') P, bk := P.nx } := by
  rw [loop]
  unfold stp sat
  cases g p ρ with
  | none => rfl
  | some ρ1 =>
    dsimp only
    cases body ρ1 <;> rfl
theorem stp_of {g : G} {body : S} {p : PV} {ρ ρ1 : Env} (h : g p ρ = some ρ1) : stp g body p ρ = body ρ1 := by
  unfold stp
  rw [h]
end Fz
end
noncomputable section
namespace Lw
open PySem PySem.Spec PyProof.Rows L2 Fz
def top (i : Nat) : Stmt := PySem.Challenge.pw_formsforall_k27_judge_of_derivations.main.body.getD i (.Pass ⟨0, 0, 0, 0⟩)
/-- what the top has -/
structure Txt (mg : Str → Option Value) : Prop where
  nil : True
  f_all : mg "all" = none
  f_bool : mg "bool" = none
  f_int : mg "int" = none
  f_isinstance : mg "isinstance" = none
  f_len : mg "len" = none
  f_list : mg "list" = none
  f_range : mg "range" = none
  f_sorted : mg "sorted" = none
  f_str : mg "str" = none
  f_tuple : mg "tuple" = none
  c_FIGURES : ∃ t, mg "FIGURES" = some (.str (mkS (txt "0123456789")) t)
  c_LETTERS : ∃ t, mg "LETTERS" = some (.str (mkS (txt "abcdefghijklmnopqrstuvwxyz")) t)
  c_LONGEST_NAME : ∃ t, mg "LONGEST_NAME" = some (.int 12 t)

/-! ### _law_numbers -/
abbrev st__law_numbers : Stmt := top 14
def L__law_numbers_1 : S :=
 (sIf (tCmp gGe (eVar .B 3) (eBin gPow (eC (.int 10)) (eC (.int 18))))
 (sSeq (sApp 4 (qE (eBin gMod (eVar .B 3) (eC (.int 1009)))))
 (sAsg 3 (oOfE (eBin gDiv (eVar .B 3) (eC (.int 1009))))))
 (sSeq (sAsg 6 (oOfE (eBin gMod (eOfO (oBin gAdd (eOfO (oBin gAdd (eOfO (oBin gMul (eVar .I 3) (eC (.int 48271)))) (eOfO (oBin gMul (eOfO (oBin gAdd (eVar .I 5) (eC (.int 1)))) (eC (.int 69621)))))) (eOfO (oBin gMul (eVar .I 1) (eC (.int 4001)))))) (eC (.int 2147483647)))))
 (sSeq (sAsg 6 (oOfE (eBin gMod (eOfO (oBin gAdd (eOfO (oBin gMul (eVar .I 6) (eVar .I 6))) (eOfO (oBin gMul (eC (.int 16807)) (eOfO (oBin gAdd (eVar .I 5) (eC (.int 3)))))))) (eC (.int 2147483629)))))
 (sApp 4 (qE (eBin gMod (eBin gDiv (eVar .B 6) (eC (.int 7))) (eC (.int 1009))))))))
def R__law_numbers_2 : S :=
 (sRetV 4)
def R__law_numbers_3 : S :=
 (sSeq (sAsg 4 (oLst lNil))
 (sSeq (sFor (lRange1 (eVar .B 2)) (gNm 5)
 L__law_numbers_1)
 R__law_numbers_2))
def R__law_numbers_4 : S :=
 (sSeq (sIf (tCmp gLt (eVar .B 3) (eC (.int 0)))
 (sAsg 3 (oOfE (eBin gSub (eC (.int 1)) (eOfO (oBin gMul (eC (.int 2)) (eVar .I 3))))))
 sNil)
 R__law_numbers_3)
def b__law_numbers : S :=
 (sSeq (sAsg 3 (oBin gMul (eC (.int 1000003)) (eOfO (oBin gAdd (eVar .I 1) (eC (.int 1))))))
 (sSeq (sIf (tCmp gLt (eVar .B 1) (eUn gLen (eVar .B 0)))
 (sAsg 3 (oOfE (eUn gInt (eIx (eVar .B 0) (eVar .B 1)))))
 sNil)
 R__law_numbers_4))
def g__law_numbers : Fn := runFn 7 [.B, .E, .B] b__law_numbers
theorem sc__law_numbers : FnScope ["script", "at", "count", "cell", "numbers", "k", "mixed"] ["script", "at", "count"] (defScope st__law_numbers) := ⟨rfl, rfl, rfl, by decide +kernel, rfl, by decide +kernel, by decide +kernel⟩
theorem ok__law_numbers {P : Program} {w : World} {K : PySem.W.Frag} {mg : Str → Option Value} {base : Heap} {f : Addr} {fd : FuncData} (T : Txt mg) (F : FunD K "_law_numbers" "_law_numbers" (defArgs st__law_numbers) (defBody st__law_numbers) (defScope st__law_numbers) [] [] f fd) (hg : mg "_law_numbers" = some (.ref f))  :
    DefOk P w K mg base 1 "_law_numbers" ["script", "at", "count"] [.B, .E, .B] g__law_numbers :=
  have Sc := sc__law_numbers
  def_ok (k := 0) (N := ["script", "at", "count", "cell", "numbers", "k", "mixed"]) F Sc rfl (by decide) hg (fun _ _ _ _ _ _ us hl => match us, hl with | [_, _, _], _ => rfl) fun cdv A outer sh H E C hr tk po =>
 (bj_cons (sj_asg (i := 3) Sc.nd rfl (.inl rfl) (oj_mul (ej_int (m := .I)) (ej_I (ej_O (oj_add (ej_var (m := .I) (i := 1) rfl (.inl rfl)) (ej_int (m := .I)))))))
 (bj_cons (sj_if (tj_cmp opr_lt cmp_lt (ej_var (m := .B) (i := 1) rfl (.inl rfl)) (ej_call1 (m := .B) call_len c_len rfl T.f_len (by decide +kernel) (ej_var (m := .B) (i := 0) rfl (.inl rfl))) (nomark _))
 (bj_one (sj_asg (i := 3) Sc.nd rfl (.inl rfl) (oj_E (ej_callT1 (m := .E) call_int1 c_int rfl T.f_int (by decide +kernel) (ej_ixB (huR hr) (ej_var (m := .B) (i := 0) rfl (.inl rfl)) (ej_var (m := .B) (i := 1) rfl (.inl rfl)))))))
 bj_nil)
 (bj_cons (sj_if (tj_cmp opr_lt cmp_lt (ej_var (m := .B) (i := 3) rfl (.inl rfl)) (ej_int (m := .B)) (nomark _))
 (bj_one (sj_asg (i := 3) Sc.nd rfl (.inl rfl) (oj_E (ej_sub (m := .E) (ej_int (m := .B)) (ej_B (ej_O (oj_mul (ej_int (m := .I)) (ej_var (m := .I) (i := 3) rfl (.inl rfl)))))))))
 bj_nil)
 (bj_cons (sj_asg (i := 4) Sc.nd rfl (.inl rfl) (oj_lst le_nil))
 (bj_cons (sj_for (vs := [5]) po rfl (ij_range1 rfl T.f_range (ej_var (m := .B) (i := 2) rfl (.inl rfl))) (gj_name (i := 5) Sc.nd rfl (.inl rfl))
 (bj_one (sj_if (tj_cmp opr_ge cmp_ge (ej_var (m := .B) (i := 3) rfl (.inl rfl)) (ej_pow (m := .B) (ej_int (m := .B)) (ej_int (m := .B))) (nomark _))
 (bj_cons (sj_app (i := 4) rfl (.inl rfl) (qj_E (ej_mod (m := .E) (ej_var (m := .B) (i := 3) rfl (.inl rfl)) (ej_int (m := .B)))))
 (bj_one (sj_asg (i := 3) Sc.nd rfl (.inl rfl) (oj_E (ej_fdiv (m := .E) (ej_var (m := .B) (i := 3) rfl (.inl rfl)) (ej_int (m := .B)))))))
 (bj_cons (sj_asg (i := 6) Sc.nd rfl (.inl rfl) (oj_E (ej_mod (m := .E) (ej_B (ej_O (oj_add (ej_I (ej_O (oj_add (ej_I (ej_O (oj_mul (ej_var (m := .I) (i := 3) rfl (.inl rfl)) (ej_int (m := .I))))) (ej_I (ej_O (oj_mul (ej_I (ej_O (oj_add (ej_var (m := .I) (i := 5) rfl (.inl rfl)) (ej_int (m := .I))))) (ej_int (m := .I)))))))) (ej_I (ej_O (oj_mul (ej_var (m := .I) (i := 1) rfl (.inl rfl)) (ej_int (m := .I)))))))) (ej_int (m := .B)))))
 (bj_cons (sj_asg (i := 6) Sc.nd rfl (.inl rfl) (oj_E (ej_mod (m := .E) (ej_B (ej_O (oj_add (ej_I (ej_O (oj_mul (ej_var (m := .I) (i := 6) rfl (.inl rfl)) (ej_var (m := .I) (i := 6) rfl (.inl rfl))))) (ej_I (ej_O (oj_mul (ej_int (m := .I)) (ej_I (ej_O (oj_add (ej_var (m := .I) (i := 5) rfl (.inl rfl)) (ej_int (m := .I))))))))))) (ej_int (m := .B)))))
 (bj_one (sj_app (i := 4) rfl (.inl rfl) (qj_E (ej_mod (m := .E) (ej_fdiv (m := .B) (ej_var (m := .B) (i := 6) rfl (.inl rfl)) (ej_int (m := .B))) (ej_int (m := .B)))))))))))
 (bj_one (sj_retV (i := 4) rfl (.inl rfl))))))))

/-! ### _law_pool -/
abbrev st__law_pool : Stmt := top 17
def L__law_pool_1 : S :=
 (sSeq (sAsg 6 (oSl (eOfO (oCall g__law_numbers (lCons (eVar .B 0) (lCons (eOfO (oBin gAdd (eVar .I 1) (eBin gMod (eVar .B 5) (eC (.int 10))))) (lCons (eOfO (oBin gMul (eC (.int 12)) (eOfO (oBin gAdd (eC (.int 1)) (eBin gDiv (eVar .B 5) (eC (.int 10))))))) lNil))))) (pAt (eUn gNeg (eC (.int 12)))) pNo))
 (sSeq (sAsg 7 (oOfE (eM1 .str gJoin (eC (.str (txt ""))) (eOfO (oComp (lRange1 (eBin gMod (eOfO (oBin gMul (eIx (eVar .I 6) (eC (.int 0))) (eIx (eVar .I 6) (eC (.int 1))))) (eC (.int 11)))) [9] (gNm 9) tYesF (eIx (eVar .I 3) (eBin gMod (eIx (eVar .B 6) (eOfO (oBin gAdd (eC (.int 2)) (eVar .I 9)))) (eC (.int 36)))))))))
 (sSeq (sAsg 8 (oComp (lOfA (eOfO (oSl (eVar .I 3) pNo (pAt (eC (.int 26)))))) [10] (gNm 10) (tCmp gNotIn (eOfO (oBin gAdd (eVar .I 10) (eVar .I 7))) (eVar .B 4)) (eVar .E 10)))
 (sIf (tOfE (eVar .B 8))
 (sApp 4 (qE (eOfO (oBin gAdd (eIx (eVar .I 8) (eBin gMod (eIx (eVar .B 6) (eC (.int 1))) (eUn gLen (eVar .B 8)))) (eVar .I 7)))))
 sNil))))
def R__law_pool_2 : S :=
 (sRet (oUn gSortS (eVar .I 4)))
def b__law_pool : S :=
 (sSeq (sAsg 3 (oOfE (eC (.str (txt "abcdefghijklmnopqrstuvwxyz0123456789")))))
 (sSeq (sAsg 4 (oLst lNil))
 (sSeq (sFor (lRange1 (eVar .B 2)) (gNm 5)
 L__law_pool_1)
 R__law_pool_2)))
def g__law_pool : Fn := runFn 11 [.B, .E, .B] b__law_pool
theorem sc__law_pool : FnScope ["script", "at", "count", "signs", "names", "k", "numbers", "rest", "free", "j", "sign"] ["script", "at", "count"] (defScope st__law_pool) := ⟨rfl, rfl, rfl, by decide +kernel, rfl, by decide +kernel, by decide +kernel⟩
theorem ok__law_pool {P : Program} {w : World} {K : PySem.W.Frag} {mg : Str → Option Value} {base : Heap} {f : Addr} {fd : FuncData} (T : Txt mg) (F : FunD K "_law_pool" "_law_pool" (defArgs st__law_pool) (defBody st__law_pool) (defScope st__law_pool) [] [] f fd) (hg : mg "_law_pool" = some (.ref f)) (D__law_numbers : DefOk P w K mg base 1 "_law_numbers" ["script", "at", "count"] [.B, .E, .B] g__law_numbers) :
    DefOk P w K mg base 2 "_law_pool" ["script", "at", "count"] [.B, .E, .B] g__law_pool :=
  have Sc := sc__law_pool
  def_ok (k := 1) (N := ["script", "at", "count", "signs", "names", "k", "numbers", "rest", "free", "j", "sign"]) F Sc rfl (by decide) hg (fun _ _ _ _ _ _ us hl => match us, hl with | [_, _, _], _ => rfl) fun cdv A outer sh H E C hr tk po =>
 (bj_cons (sj_asg (i := 3) Sc.nd rfl (.inr rfl) (oj_E (ej_str (m := .E) (mkS_txt _).symm)))
 (bj_cons (sj_asg (i := 4) Sc.nd rfl (.inr rfl) (oj_lst le_nil))
 (bj_cons (sj_for (vs := [5]) po rfl (ij_range1 rfl T.f_range (ej_var (m := .B) (i := 2) rfl (.inl rfl))) (gj_name (i := 5) Sc.nd rfl (.inl rfl))
 (bj_cons (sj_asg (i := 6) Sc.nd rfl (.inr rfl) (oj_sl (ej_I (ej_O (oj_call D__law_numbers hr (by decide) tk rfl (lj_cons (ej_var (m := .B) (i := 0) rfl (.inl rfl)) (lj_cons (ej_O (oj_add (ej_var (m := .I) (i := 1) rfl (.inl rfl)) (ej_mod (m := .I) (ej_var (m := .B) (i := 5) rfl (.inl rfl)) (ej_int (m := .B))))) (lj_cons (ej_B (ej_O (oj_mul (ej_int (m := .I)) (ej_I (ej_O (oj_add (ej_int (m := .I)) (ej_fdiv (m := .I) (ej_var (m := .B) (i := 5) rfl (.inl rfl)) (ej_int (m := .B))))))))) lj_nil)))))) (pj_some (ej_neg (m := .B) (ej_int (m := .B)))) pj_none))
 (bj_cons (sj_asg (i := 7) Sc.nd rfl (.inr rfl) (oj_E (ej_m1 (m := .E) .str PySem.F.plainAttrs_str PySem.F.slot_str_join PySem.F.type_str_join mt_join m_join (ej_str (m := .B) (mkS_txt _).symm) (ej_B (ej_O (oj_comp rfl Sc.nd (own := [("j", 9)]) (ij_range1 rfl T.f_range (ej_mod (m := .B) (ej_B (ej_O (oj_mul (ej_I (ej_ix (huR hr) (ej_var (m := .I) (i := 6) rfl (.inr (.inl rfl))) (ej_int (m := .B)))) (ej_I (ej_ix (huR hr) (ej_var (m := .I) (i := 6) rfl (.inr (.inl rfl))) (ej_int (m := .B))))))) (ej_int (m := .B)))) (blkOk_by (N := ["script", "at", "count", "signs", "names", "k", "numbers", "rest", "free", "j", "sign"]) (sc := defScope st__law_pool) (by decide +kernel)) (fun _ _ _ _ _ _ => (gj_name (i := 9) Sc.nd rfl (.inl rfl))) (fun _ _ _ _ _ _ => tsj_nil) (fun _ _ _ _ _ _ => (ej_ix (huR hr) (ej_var (m := .I) (i := 3) rfl (.inr (.inl rfl))) (ej_mod (m := .B) (ej_ixB (huR hr) (ej_var (m := .B) (i := 6) rfl (.inr (.inl rfl))) (ej_B (ej_O (oj_add (ej_int (m := .I)) (ej_var (m := .I) (i := 9) rfl (.inl rfl)))))) (ej_int (m := .B)))))))))))
 (bj_cons (sj_asgLc (i := 8) rfl Sc.nd rfl rfl (sw_true rfl rfl rfl (by decide +kernel)) (own := [("sign", 10)]) (ij_seqSA (ej_I (ej_O (oj_sl (ej_var (m := .I) (i := 3) rfl (.inr (.inl rfl))) pj_none (pj_some (ej_int (m := .B))))))) (blkOk_by (N := ["script", "at", "count", "signs", "names", "k", "numbers", "rest", "free", "j", "sign"]) (sc := defScope st__law_pool) (by decide +kernel)) (fun _ _ _ _ _ _ => (gj_name (i := 10) Sc.nd rfl (.inl rfl))) (fun _ _ _ _ _ _ => (tsj_one (tj_cmp (opr_notIn (huR hr)) cmp_notIn (ej_B (ej_O (oj_add (ej_var (m := .I) (i := 10) rfl (.inl rfl)) (ej_var (m := .I) (i := 7) rfl (.inr (.inl rfl)))))) (ej_var (m := .B) (i := 4) rfl (.inr (.inl rfl))) (by rfl)))) (fun _ _ _ _ _ _ => (ej_var (m := .E) (i := 10) rfl (.inl rfl))))
 (bj_one (sj_if (tj_val (ej_var (m := .B) (i := 8) rfl (.inl rfl)))
 (bj_one (sj_app (i := 4) rfl (.inr (.inl rfl)) (qj_E (ej_O (oj_add (ej_I (ej_ix (huR hr) (ej_var (m := .I) (i := 8) rfl (.inl rfl)) (ej_mod (m := .B) (ej_ixB (huR hr) (ej_var (m := .B) (i := 6) rfl (.inr (.inl rfl))) (ej_int (m := .B))) (ej_call1 (m := .B) call_len c_len rfl T.f_len (by decide +kernel) (ej_var (m := .B) (i := 8) rfl (.inl rfl)))))) (ej_var (m := .I) (i := 7) rfl (.inr (.inl rfl))))))))
 bj_nil))))))
 (bj_one (sj_ret (oj_call1 cr_sortedS c_sortS rfl T.f_sorted (by decide +kernel) (ej_var (m := .I) (i := 4) rfl (.inr (.inl rfl)))))))))

/-! ### _law_some -/
abbrev st__law_some : Stmt := top 18
def L__law_some_1 : S :=
 (sSeq (sAsg 6 (oOfE (eIx (eVar .I 0) (eBin gMod (eIx (eVar .B 1) (eOfO (oBin gAdd (eC (.int 1)) (eVar .I 5)))) (eUn gLen (eVar .B 0))))))
 (sIf (tCmp gNotIn (eVar .B 6) (eVar .B 4))
 (sSeq (sFrz 6) (sApp 4 (qE (eVar .E 6))))
 sNil))
def R__law_some_2 : S :=
 (sRet (oUn gSortS (eVar .I 4)))
def b__law_some : S :=
 (sSeq (sAsg 3 (oOfE (eBin gMod (eIx (eVar .B 1) (eC (.int 0))) (eOfO (oBin gAdd (eVar .I 2) (eC (.int 1)))))))
 (sSeq (sAsg 4 (oLst lNil))
 (sSeq (sFor (lRange1 (eVar .B 3)) (gNm 5)
 L__law_some_1)
 R__law_some_2)))
def g__law_some : Fn := runFn 7 [.E, .B, .E] b__law_some
theorem sc__law_some : FnScope ["names", "numbers", "most", "many", "found", "k", "name"] ["names", "numbers", "most"] (defScope st__law_some) := ⟨rfl, rfl, rfl, by decide +kernel, rfl, by decide +kernel, by decide +kernel⟩
theorem ok__law_some {P : Program} {w : World} {K : PySem.W.Frag} {mg : Str → Option Value} {base : Heap} {f : Addr} {fd : FuncData} (T : Txt mg) (F : FunD K "_law_some" "_law_some" (defArgs st__law_some) (defBody st__law_some) (defScope st__law_some) [] [] f fd) (hg : mg "_law_some" = some (.ref f))  :
    DefOk P w K mg base 1 "_law_some" ["names", "numbers", "most"] [.E, .B, .E] g__law_some :=
  have Sc := sc__law_some
  def_ok (k := 0) (N := ["names", "numbers", "most", "many", "found", "k", "name"]) F Sc rfl (by decide) hg (fun _ _ _ _ _ _ us hl => match us, hl with | [_, _, _], _ => rfl) fun cdv A outer sh H E C hr tk po =>
 (bj_cons (sj_asg (i := 3) Sc.nd rfl (.inl rfl) (oj_E (ej_mod (m := .E) (ej_ixB (huR hr) (ej_var (m := .B) (i := 1) rfl (.inl rfl)) (ej_int (m := .B))) (ej_B (ej_O (oj_add (ej_var (m := .I) (i := 2) rfl (.inl rfl)) (ej_int (m := .I))))))))
 (bj_cons (sj_asg (i := 4) Sc.nd rfl (.inl rfl) (oj_lst le_nil))
 (bj_cons (sj_for (vs := [5]) po rfl (ij_range1 rfl T.f_range (ej_var (m := .B) (i := 3) rfl (.inl rfl))) (gj_name (i := 5) Sc.nd rfl (.inl rfl))
 (bj_cons (sj_asg (i := 6) Sc.nd rfl (.inl rfl) (oj_E (ej_ix (huR hr) (ej_var (m := .I) (i := 0) rfl (.inl rfl)) (ej_mod (m := .B) (ej_ixB (huR hr) (ej_var (m := .B) (i := 1) rfl (.inl rfl)) (ej_B (ej_O (oj_add (ej_int (m := .I)) (ej_var (m := .I) (i := 5) rfl (.inl rfl)))))) (ej_call1 (m := .B) call_len c_len rfl T.f_len (by decide +kernel) (ej_var (m := .B) (i := 0) rfl (.inl rfl)))))))
 (bj_one (sj_if (tj_cmp (opr_notIn (huR hr)) cmp_notIn (ej_var (m := .B) (i := 6) rfl (.inl rfl)) (ej_var (m := .B) (i := 4) rfl (.inl rfl)) (by rfl))
 (bj_one (sj_frz 6 (sj_app (i := 4) rfl (.inl rfl) (qj_E (ej_var (m := .E) (i := 6) rfl (.inl rfl))))))
 bj_nil))))
 (bj_one (sj_ret (oj_call1 cr_sortedS c_sortS rfl T.f_sorted (by decide +kernel) (ej_var (m := .I) (i := 4) rfl (.inl rfl))))))))

/-! ### _law_rules -/
abbrev st__law_rules : Stmt := top 19
def L__law_rules_1 : S :=
 (sSeq (sAsg 7 (oSl (eOfO (oCall g__law_numbers (lCons (eVar .B 0) (lCons (eOfO (oBin gAdd (eVar .I 1) (eBin gMod (eVar .B 6) (eC (.int 12))))) (lCons (eOfO (oBin gMul (eC (.int 8)) (eOfO (oBin gAdd (eC (.int 1)) (eBin gDiv (eVar .B 6) (eC (.int 12))))))) lNil))))) (pAt (eUn gNeg (eC (.int 8)))) pNo))
 (sSeq (sAsg 8 (oOfE (eIx (eVar .I 2) (eBin gMod (eIx (eVar .B 7) (eC (.int 6))) (eUn gLen (eVar .B 2))))))
 (sSeq (sSeq (sFrz 8) (sSeq (sFrz 4) (sSeq (sFrz 2) (sApp 5 (qE (eTup (lCons (eVar .E 8) (lCons (eOfO (oUn gTuple (eOfO (oCall g__law_some (lCons (eVar .E 2) (lCons (eVar .B 7) (lCons (eVar .E 4) lNil))))))) lNil))))))))
 (sIf (tAndF (tCmp gEq (eBin gMod (eIx (eVar .B 7) (eC (.int 7))) (eC (.int 9))) (eC (.int 0))) (tCmp gGt (eVar .B 6) (eC (.int 0))))
 (sPut 5 (eVar .B 6) (eIx (eVar .I 5) (eBin gMod (eIx (eVar .B 7) (eC (.int 6))) (eVar .B 6))))
 sNil))))
def R__law_rules_2 : S :=
 (sRetV 5)
def b__law_rules : S :=
 (sSeq (sAsg 5 (oLst lNil))
 (sSeq (sFor (lRange1 (eVar .B 3)) (gNm 6)
 L__law_rules_1)
 R__law_rules_2))
def g__law_rules : Fn := runFn 9 [.B, .E, .E, .B, .E] b__law_rules
theorem sc__law_rules : FnScope ["script", "at", "names", "many", "most", "rules", "k", "numbers", "field"] ["script", "at", "names", "many", "most"] (defScope st__law_rules) := ⟨rfl, rfl, rfl, by decide +kernel, rfl, by decide +kernel, by decide +kernel⟩
theorem ok__law_rules {P : Program} {w : World} {K : PySem.W.Frag} {mg : Str → Option Value} {base : Heap} {f : Addr} {fd : FuncData} (T : Txt mg) (F : FunD K "_law_rules" "_law_rules" (defArgs st__law_rules) (defBody st__law_rules) (defScope st__law_rules) [] [] f fd) (hg : mg "_law_rules" = some (.ref f)) (D__law_numbers : DefOk P w K mg base 1 "_law_numbers" ["script", "at", "count"] [.B, .E, .B] g__law_numbers) (D__law_some : DefOk P w K mg base 1 "_law_some" ["names", "numbers", "most"] [.E, .B, .E] g__law_some) :
    DefOk P w K mg base 2 "_law_rules" ["script", "at", "names", "many", "most"] [.B, .E, .E, .B, .E] g__law_rules :=
  have Sc := sc__law_rules
  def_ok (k := 1) (N := ["script", "at", "names", "many", "most", "rules", "k", "numbers", "field"]) F Sc rfl (by decide) hg (fun _ _ _ _ _ _ us hl => match us, hl with | [_, _, _, _, _], _ => rfl) fun cdv A outer sh H E C hr tk po =>
 (bj_cons (sj_asg (i := 5) Sc.nd rfl (.inl rfl) (oj_lst le_nil))
 (bj_cons (sj_for (vs := [6]) po rfl (ij_range1 rfl T.f_range (ej_var (m := .B) (i := 3) rfl (.inl rfl))) (gj_name (i := 6) Sc.nd rfl (.inl rfl))
 (bj_cons (sj_asg (i := 7) Sc.nd rfl (.inl rfl) (oj_sl (ej_I (ej_O (oj_call D__law_numbers hr (by decide) tk rfl (lj_cons (ej_var (m := .B) (i := 0) rfl (.inl rfl)) (lj_cons (ej_O (oj_add (ej_var (m := .I) (i := 1) rfl (.inl rfl)) (ej_mod (m := .I) (ej_var (m := .B) (i := 6) rfl (.inl rfl)) (ej_int (m := .B))))) (lj_cons (ej_B (ej_O (oj_mul (ej_int (m := .I)) (ej_I (ej_O (oj_add (ej_int (m := .I)) (ej_fdiv (m := .I) (ej_var (m := .B) (i := 6) rfl (.inl rfl)) (ej_int (m := .B))))))))) lj_nil)))))) (pj_some (ej_neg (m := .B) (ej_int (m := .B)))) pj_none))
 (bj_cons (sj_asg (i := 8) Sc.nd rfl (.inl rfl) (oj_E (ej_ix (huR hr) (ej_var (m := .I) (i := 2) rfl (.inl rfl)) (ej_mod (m := .B) (ej_ixB (huR hr) (ej_var (m := .B) (i := 7) rfl (.inl rfl)) (ej_int (m := .B))) (ej_call1 (m := .B) call_len c_len rfl T.f_len (by decide +kernel) (ej_var (m := .B) (i := 2) rfl (.inl rfl)))))))
 (bj_cons (sj_frz 8 (sj_frz 4 (sj_frz 2 (sj_app (i := 5) rfl (.inl rfl) (qj_E (ej_tup (le_cons (ej_var (m := .E) (i := 8) rfl (.inl rfl)) (le_cons (ej_O (oj_callT1 call_tuple_of c_tuple rfl T.f_tuple (by decide +kernel) (ej_I (ej_O (oj_call D__law_some hr (by decide) tk rfl (lj_cons (ej_var (m := .E) (i := 2) rfl (.inl rfl)) (lj_cons (ej_var (m := .B) (i := 7) rfl (.inl rfl)) (lj_cons (ej_var (m := .E) (i := 4) rfl (.inl rfl)) lj_nil)))))))) le_nil))))))))
 (bj_one (sj_if (wj_tj (wj_and (tj_cmp (op_eqD (huR hr).u64) cmp_eq (ej_mod (m := .B) (ej_ixB (huR hr) (ej_var (m := .B) (i := 7) rfl (.inl rfl)) (ej_int (m := .B))) (ej_int (m := .B))) (ej_int (m := .B)) (nomark _)) (wj_and1 (tj_cmp opr_gt cmp_gt (ej_var (m := .B) (i := 6) rfl (.inl rfl)) (ej_int (m := .B)) (nomark _)))))
 (bj_one (sj_put (i := 5) (huR hr) rfl (.inl rfl) (ej_ix (huR hr) (ej_var (m := .I) (i := 5) rfl (.inl rfl)) (ej_mod (m := .B) (ej_ixB (huR hr) (ej_var (m := .B) (i := 7) rfl (.inl rfl)) (ej_int (m := .B))) (ej_var (m := .B) (i := 6) rfl (.inl rfl)))) (ej_var (m := .B) (i := 6) rfl (.inl rfl))))
 bj_nil))))))
 (bj_one (sj_retV (i := 5) rfl (.inl rfl)))))

/-! ### _law_world -/
abbrev st__law_world : Stmt := top 20
def b__law_world : S :=
 (sSeq (sAsg 3 (oCall g__law_numbers (lCons (eVar .B 0) (lCons (eC (.int 0)) (lCons (eC (.int 6)) lNil)))))
 (sSeq (sAsg 4 (oCall g__law_pool (lCons (eVar .B 0) (lCons (eC (.int 1)) (lCons (eOfO (oBin gAdd (eC (.int 1)) (eBin gMod (eIx (eVar .B 3) (eC (.int 0))) (eVar .B 1)))) lNil)))))
 (sSeq (sSeq (sFrz 4) (sAsg 5 (oCall g__law_rules (lCons (eVar .B 0) (lCons (eC (.int 11)) (lCons (eVar .E 4) (lCons (eBin gMod (eIx (eVar .B 3) (eC (.int 1))) (eOfO (oBin gAdd (eVar .I 2) (eC (.int 1))))) (lCons (eOfO (oBin gAdd (eC (.int 1)) (eBin gMod (eIx (eVar .B 3) (eC (.int 2))) (eC (.int 3))))) lNil))))))))
 (sSeq (sSeq (sFrz 4) (sAsg 6 (oCall g__law_some (lCons (eVar .E 4) (lCons (eOfO (oCall g__law_numbers (lCons (eVar .B 0) (lCons (eC (.int 23)) (lCons (eC (.int 8)) lNil))))) (lCons (eIx (eOfO (oLst (lCons (eC (.int 0)) (lCons (eC (.int 1)) (lCons (eC (.int 2)) (lCons (eC (.int 3)) lNil)))))) (eBin gMod (eIx (eVar .B 3) (eC (.int 3))) (eC (.int 4)))) lNil))))))
 (sSeq (sFrz 6) (sSeq (sFrz 5) (sSeq (sFrz 4) (sRet (oOfE (eTup (lCons (eVar .E 4) (lCons (eVar .E 5) (lCons (eVar .E 6) lNil)))))))))))))
def g__law_world : Fn := runFn 7 [.B, .B, .E] b__law_world
theorem sc__law_world : FnScope ["script", "size", "most", "sizes", "names", "rules", "start"] ["script", "size", "most"] (defScope st__law_world) := ⟨rfl, rfl, rfl, by decide +kernel, rfl, by decide +kernel, by decide +kernel⟩
theorem ok__law_world {P : Program} {w : World} {K : PySem.W.Frag} {mg : Str → Option Value} {base : Heap} {f : Addr} {fd : FuncData} (T : Txt mg) (F : FunD K "_law_world" "_law_world" (defArgs st__law_world) (defBody st__law_world) (defScope st__law_world) [] [] f fd) (hg : mg "_law_world" = some (.ref f)) (D__law_numbers : DefOk P w K mg base 1 "_law_numbers" ["script", "at", "count"] [.B, .E, .B] g__law_numbers) (D__law_pool : DefOk P w K mg base 2 "_law_pool" ["script", "at", "count"] [.B, .E, .B] g__law_pool) (D__law_rules : DefOk P w K mg base 2 "_law_rules" ["script", "at", "names", "many", "most"] [.B, .E, .E, .B, .E] g__law_rules) (D__law_some : DefOk P w K mg base 1 "_law_some" ["names", "numbers", "most"] [.E, .B, .E] g__law_some) :
    DefOk P w K mg base 3 "_law_world" ["script", "size", "most"] [.B, .B, .E] g__law_world :=
  have Sc := sc__law_world
  def_ok (k := 2) (N := ["script", "size", "most", "sizes", "names", "rules", "start"]) F Sc rfl (by decide) hg (fun _ _ _ _ _ _ us hl => match us, hl with | [_, _, _], _ => rfl) fun cdv A outer sh H E C hr tk po =>
 (bj_cons (sj_asg (i := 3) Sc.nd rfl (.inl rfl) (oj_call D__law_numbers hr (by decide) tk rfl (lj_cons (ej_var (m := .B) (i := 0) rfl (.inl rfl)) (lj_cons (ej_int (m := .E)) (lj_cons (ej_int (m := .B)) lj_nil)))))
 (bj_cons (sj_asg (i := 4) Sc.nd rfl (.inl rfl) (oj_call D__law_pool hr (by decide) tk rfl (lj_cons (ej_var (m := .B) (i := 0) rfl (.inl rfl)) (lj_cons (ej_int (m := .E)) (lj_cons (ej_B (ej_O (oj_add (ej_int (m := .I)) (ej_mod (m := .I) (ej_ixB (huR hr) (ej_var (m := .B) (i := 3) rfl (.inl rfl)) (ej_int (m := .B))) (ej_var (m := .B) (i := 1) rfl (.inl rfl)))))) lj_nil)))))
 (bj_cons (sj_frz 4 (sj_asg (i := 5) Sc.nd rfl (.inl rfl) (oj_call D__law_rules hr (by decide) tk rfl (lj_cons (ej_var (m := .B) (i := 0) rfl (.inl rfl)) (lj_cons (ej_int (m := .E)) (lj_cons (ej_var (m := .E) (i := 4) rfl (.inl rfl)) (lj_cons (ej_mod (m := .B) (ej_ixB (huR hr) (ej_var (m := .B) (i := 3) rfl (.inl rfl)) (ej_int (m := .B))) (ej_B (ej_O (oj_add (ej_var (m := .I) (i := 2) rfl (.inl rfl)) (ej_int (m := .I)))))) (lj_cons (ej_O (oj_add (ej_int (m := .I)) (ej_mod (m := .I) (ej_ixB (huR hr) (ej_var (m := .B) (i := 3) rfl (.inl rfl)) (ej_int (m := .B))) (ej_int (m := .B))))) lj_nil))))))))
 (bj_cons (sj_frz 4 (sj_asg (i := 6) Sc.nd rfl (.inl rfl) (oj_call D__law_some hr (by decide) tk rfl (lj_cons (ej_var (m := .E) (i := 4) rfl (.inl rfl)) (lj_cons (ej_B (ej_O (oj_call D__law_numbers hr (by decide) tk rfl (lj_cons (ej_var (m := .B) (i := 0) rfl (.inl rfl)) (lj_cons (ej_int (m := .E)) (lj_cons (ej_int (m := .B)) lj_nil)))))) (lj_cons (ej_ix (huR hr) (ej_I (ej_O (oj_lst (le_cons (ej_int (m := .E)) (le_cons (ej_int (m := .E)) (le_cons (ej_int (m := .E)) (le_cons (ej_int (m := .E)) le_nil))))))) (ej_mod (m := .B) (ej_ixB (huR hr) (ej_var (m := .B) (i := 3) rfl (.inl rfl)) (ej_int (m := .B))) (ej_int (m := .B)))) lj_nil))))))
 (bj_one (sj_frz 6 (sj_frz 5 (sj_frz 4 (sj_ret (oj_E (ej_tup (le_cons (ej_var (m := .E) (i := 4) rfl (.inl rfl)) (le_cons (ej_var (m := .E) (i := 5) rfl (.inl rfl)) (le_cons (ej_var (m := .E) (i := 6) rfl (.inl rfl)) le_nil))))))))))))))

/-! ### _law_long -/
abbrev st__law_long : Stmt := top 22
def L__law_long_1 : S :=
 (sSeq (sAsgT (gTp 2 (gsCons (gNm 8) (gsCons (gNm 9) gsNil))) (eIx (eVar .I 0) (eVar .B 7)))
 (sIf (tAndF (tCmp gNotIn (eVar .B 8) (eVar .B 5)) (tNotF (tOfE (eOfO (oComp (lOfA (eVar .I 9)) [10] (gNm 10) (tCmp gNotIn (eVar .B 10) (eVar .B 5)) (eVar .E 10))))))
 (sSeq (sFrz 8) (sSeq (sFrz 7) (sApp 6 (qE (eTup (lCons (eVar .E 8) (lCons (eVar .E 7) lNil)))))))
 sNil))
def R__law_long_2 : S :=
 (sIf (tOfE (eVar .B 6))
 (sApp 3 (qE (eIx (eVar .I 6) (eBin gMod (eIx (eVar .B 2) (eBin gMod (eVar .B 4) (eUn gLen (eVar .B 2)))) (eUn gLen (eVar .B 6))))))
 sNil)
def L__law_long_3 : S :=
 (sSeq (sAsg 5 (oComp (lOfA (eVar .I 3)) [11] (gNm 11) tYesF (eIx (eVar .I 11) (eC (.int 0)))))
 (sSeq (sAsg 6 (oLst lNil))
 (sSeq (sFor (lRange1 (eUn gLen (eVar .B 0))) (gNm 7)
 L__law_long_1)
 R__law_long_2)))
def R__law_long_4 : S :=
 (sRetV 3)
def R__law_long_5 : S :=
 (sSeq (sFor (lRange1 (eOfO (oBin gAdd (eUn gLen (eVar .B 0)) (eC (.int 1))))) (gNm 4)
 L__law_long_3)
 R__law_long_4)
def b__law_long : S :=
 (sSeq (sAsg 3 (oComp (lOfA (eVar .I 1)) [10] (gNm 10) tYesF (eTup (lCons (eVar .E 10) (lCons (eC .non) lNil)))))
 (sSeq (sIf (tCmp gEq (eBin gMod (eIx (eVar .B 2) (eC (.int 0))) (eC (.int 2))) (eC (.int 0)))
 (sAsg 3 (oBin gRev (eVar .I 3) (eUn gNeg (eC (.int 1)))))
 sNil)
 R__law_long_5))
def g__law_long : Fn := runFn 12 [.E, .E, .B] b__law_long
theorem sc__law_long : FnScope ["rules", "start", "numbers", "found", "turn", "ahead", "ready", "index", "field", "conditions", "name", "entry"] ["rules", "start", "numbers"] (defScope st__law_long) := ⟨rfl, rfl, rfl, by decide +kernel, rfl, by decide +kernel, by decide +kernel⟩
theorem ok__law_long {P : Program} {w : World} {K : PySem.W.Frag} {mg : Str → Option Value} {base : Heap} {f : Addr} {fd : FuncData} (T : Txt mg) (F : FunD K "_law_long" "_law_long" (defArgs st__law_long) (defBody st__law_long) (defScope st__law_long) [] [] f fd) (hg : mg "_law_long" = some (.ref f))  :
    DefOk P w K mg base 1 "_law_long" ["rules", "start", "numbers"] [.E, .E, .B] g__law_long :=
  have Sc := sc__law_long
  def_ok (k := 0) (N := ["rules", "start", "numbers", "found", "turn", "ahead", "ready", "index", "field", "conditions", "name", "entry"]) F Sc rfl (by decide) hg (fun _ _ _ _ _ _ us hl => match us, hl with | [_, _, _], _ => rfl) fun cdv A outer sh H E C hr tk po =>
 (bj_cons (sj_asgLc (i := 3) rfl Sc.nd rfl rfl (sw_true rfl rfl rfl (by decide +kernel)) (own := [("name", 10)]) (ij_seqSA (ej_var (m := .I) (i := 1) rfl (.inl rfl))) (blkOk_by (N := ["rules", "start", "numbers", "found", "turn", "ahead", "ready", "index", "field", "conditions", "name", "entry"]) (sc := defScope st__law_long) (by decide +kernel)) (fun _ _ _ _ _ _ => (gj_name (i := 10) Sc.nd rfl (.inl rfl))) (fun _ _ _ _ _ _ => tsj_nil) (fun _ _ _ _ _ _ => (ej_tup (le_cons (ej_var (m := .E) (i := 10) rfl (.inl rfl)) (le_cons (ej_non (m := .E)) le_nil)))))
 (bj_cons (sj_if (tj_cmp (op_eqD (huR hr).u64) cmp_eq (ej_mod (m := .B) (ej_ixB (huR hr) (ej_var (m := .B) (i := 2) rfl (.inl rfl)) (ej_int (m := .B))) (ej_int (m := .B))) (ej_int (m := .B)) (nomark _))
 (bj_one (sj_asg (i := 3) Sc.nd rfl (.inl rfl) (oj_rev (ej_var (m := .I) (i := 3) rfl (.inl rfl)) (ej_neg (m := .B) (ej_int (m := .B))))))
 bj_nil)
 (bj_cons (sj_for (vs := [4]) po rfl (ij_range1 rfl T.f_range (ej_B (ej_O (oj_add (ej_call1 (m := .I) call_len c_len rfl T.f_len (by decide +kernel) (ej_var (m := .B) (i := 0) rfl (.inl rfl))) (ej_int (m := .I)))))) (gj_name (i := 4) Sc.nd rfl (.inl rfl))
 (bj_cons (sj_asg (i := 5) Sc.nd rfl (.inr rfl) (oj_comp rfl Sc.nd (own := [("entry", 11)]) (ij_seqSA (ej_var (m := .I) (i := 3) rfl (.inl rfl))) (blkOk_by (N := ["rules", "start", "numbers", "found", "turn", "ahead", "ready", "index", "field", "conditions", "name", "entry"]) (sc := defScope st__law_long) (by decide +kernel)) (fun _ _ _ _ _ _ => (gj_name (i := 11) Sc.nd rfl (.inl rfl))) (fun _ _ _ _ _ _ => tsj_nil) (fun _ _ _ _ _ _ => (ej_ix (huR hr) (ej_var (m := .I) (i := 11) rfl (.inl rfl)) (ej_int (m := .B))))))
 (bj_cons (sj_asg (i := 6) Sc.nd rfl (.inl rfl) (oj_lst le_nil))
 (bj_cons (sj_for (vs := [7]) po rfl (ij_range1 rfl T.f_range (ej_call1 (m := .B) call_len c_len rfl T.f_len (by decide +kernel) (ej_var (m := .B) (i := 0) rfl (.inl rfl)))) (gj_name (i := 7) Sc.nd rfl (.inl rfl))
 (bj_cons (sj_asgT (vs := [8, 9]) (ej_ix (huR hr) (ej_var (m := .I) (i := 0) rfl (.inl rfl)) (ej_var (m := .B) (i := 7) rfl (.inl rfl))) (gj_tup rfl (gjs_cons (gj_name (i := 8) Sc.nd rfl (.inl rfl)) (gjs_cons (gj_name (i := 9) Sc.nd rfl (.inl rfl)) gjs_nil))))
 (bj_one (sj_if (wj_tj (wj_and (tj_cmp (opr_notIn (huR hr)) cmp_notIn (ej_var (m := .B) (i := 8) rfl (.inl rfl)) (ej_var (m := .B) (i := 5) rfl (.inr (.inl rfl))) (by rfl)) (wj_and1 (tj_not (tj_val (ej_B (ej_O (oj_comp rfl Sc.nd (own := [("name", 10)]) (ij_seqSA (ej_var (m := .I) (i := 9) rfl (.inl rfl))) (blkOk_by (N := ["rules", "start", "numbers", "found", "turn", "ahead", "ready", "index", "field", "conditions", "name", "entry"]) (sc := defScope st__law_long) (by decide +kernel)) (fun _ _ _ _ _ _ => (gj_name (i := 10) Sc.nd rfl (.inl rfl))) (fun _ _ _ _ _ _ => (tsj_one (tj_cmp (opr_notIn (huR hr)) cmp_notIn (ej_var (m := .B) (i := 10) rfl (.inl rfl)) (ej_var (m := .B) (i := 5) rfl (.inr (.inl rfl))) (by rfl)))) (fun _ _ _ _ _ _ => (ej_var (m := .E) (i := 10) rfl (.inl rfl)))))))))))
 (bj_one (sj_frz 8 (sj_frz 7 (sj_app (i := 6) rfl (.inl rfl) (qj_E (ej_tup (le_cons (ej_var (m := .E) (i := 8) rfl (.inl rfl)) (le_cons (ej_var (m := .E) (i := 7) rfl (.inl rfl)) le_nil))))))))
 bj_nil))))
 (bj_one (sj_if (tj_val (ej_var (m := .B) (i := 6) rfl (.inl rfl)))
 (bj_one (sj_app (i := 3) rfl (.inl rfl) (qj_E (ej_ix (huR hr) (ej_var (m := .I) (i := 6) rfl (.inl rfl)) (ej_mod (m := .B) (ej_ixB (huR hr) (ej_var (m := .B) (i := 2) rfl (.inl rfl)) (ej_mod (m := .B) (ej_var (m := .B) (i := 4) rfl (.inl rfl)) (ej_call1 (m := .B) call_len c_len rfl T.f_len (by decide +kernel) (ej_var (m := .B) (i := 2) rfl (.inl rfl))))) (ej_call1 (m := .B) call_len c_len rfl T.f_len (by decide +kernel) (ej_var (m := .B) (i := 6) rfl (.inl rfl))))))))
 bj_nil))))))
 (bj_one (sj_retV (i := 3) rfl (.inl rfl))))))

/-! ### _law_changed -/
abbrev st__law_changed : Stmt := top 24
def L__law_changed_1 : S :=
 (sSeq (sFrz 8) (sApp 7 (qE (eOfO (oBin gAdd (eOfO (oBin gAdd (eOfO (oSl (eVar .I 1) pNo (pAt (eVar .B 3)))) (eOfO (oLst (lCons (eVar .E 8) lNil))))) (eOfO (oSl (eVar .I 1) (pAt (eOfO (oBin gAdd (eVar .I 3) (eC (.int 1))))) pNo)))))))
def L__law_changed_2 : S :=
 (sSeq (sFrz 8) (sApp 7 (qE (eOfO (oBin gAdd (eOfO (oBin gAdd (eOfO (oSl (eVar .I 1) pNo (pAt (eVar .B 3)))) (eOfO (oLst (lCons (eVar .E 8) lNil))))) (eOfO (oSl (eVar .I 1) (pAt (eOfO (oBin gAdd (eVar .I 3) (eC (.int 1))))) pNo)))))))
def R__law_changed_3 : S :=
 (sSeq (sAsg 9 (oUn gList (eVar .I 1)))
 (sSeq (sPut2 9 9 (eVar .B 3) (eVar .B 4) (eTup (lCons (eIx (eVar .I 1) (eVar .B 4)) (lCons (eIx (eVar .I 1) (eVar .B 3)) lNil))))
 (sSeq (sFrz 9) (sSeq (sFrz 1) (sRet (oBin gAdd (eVar .I 7) (eOfO (oLst (lCons (eVar .E 9) (lCons (eOfO (oUn gTuple (eVar .I 1))) (lCons (eC .non) (lCons (eOfO oDic0) (lCons (eC (.str (txt ""))) (lCons (eOfO (oLst lNil)) (lCons (eC (.int 0)) (lCons (eOfO (oLst (lCons (eC .non) lNil))) (lCons (eOfO (oLst (lCons (eTup lNil) lNil))) (lCons (eOfO (oLst (lCons (eVar .E 1) lNil))) lNil))))))))))))))))))
def R__law_changed_4 : S :=
 (sSeq (sSeq (sFrz 6) (sSeq (sFrz 5) (sFor (lOfA (eOfO (oLst (lCons (eTup (lCons (eVar .E 5) (lCons (eUn gStrA (eVar .B 6)) lNil))) (lCons (eTup (lCons (eVar .E 5) (lCons (eVar .E 6) (lCons (eVar .E 6) lNil)))) (lCons (eOfO (oLst (lCons (eVar .E 5) (lCons (eVar .E 6) lNil)))) (lCons (eC .non) (lCons (eVar .E 5) (lCons (eTup (lCons (eC .non) (lCons (eVar .E 6) lNil))) (lCons (eTup (lCons (eVar .E 6) (lCons (eVar .E 5) lNil))) (lCons (eTup (lCons (eOfO (oBin gAdd (eVar .I 5) (eC (.str (txt "x"))))) (lCons (eVar .E 6) lNil))) lNil))))))))))) (gNm 8)
 L__law_changed_2)))
 R__law_changed_3)
def b__law_changed : S :=
 (sSeq (sAsg 3 (oOfE (eBin gMod (eIx (eVar .B 2) (eC (.int 0))) (eUn gLen (eVar .B 1)))))
 (sSeq (sAsg 4 (oOfE (eBin gMod (eIx (eVar .B 2) (eC (.int 1))) (eUn gLen (eVar .B 1)))))
 (sSeq (sAsgT (gTp 2 (gsCons (gNm 5) (gsCons (gNm 6) gsNil))) (eIx (eVar .I 1) (eVar .B 3)))
 (sSeq (sAsg 7 (oLst (lCons (eOfO (oBin gAdd (eOfO (oSl (eVar .I 1) pNo (pAt (eVar .B 3)))) (eOfO (oSl (eVar .I 1) (pAt (eOfO (oBin gAdd (eVar .I 3) (eC (.int 1))))) pNo)))) (lCons (eOfO (oBin gAdd (eVar .I 1) (eOfO (oLst (lCons (eIx (eVar .I 1) (eVar .B 3)) lNil))))) (lCons (eOfO (oBin gAdd (eOfO (oLst (lCons (eIx (eVar .I 1) (eVar .B 4)) lNil))) (eVar .I 1))) (lCons (eOfO (oBin gRev (eVar .I 1) (eUn gNeg (eC (.int 1))))) (lCons (eOfO (oSl (eVar .I 1) pNo (pAt (eOfO (oBin gAdd (eVar .I 3) (eC (.int 1))))))) lNil)))))))
 (sSeq (sSeq (sFrz 5) (sFor (lOfA (eOfO (oLst (lCons (eTup (lCons (eVar .E 5) (lCons (eC .non) lNil))) (lCons (eTup (lCons (eVar .E 5) (lCons (eC (.int 0)) lNil))) (lCons (eTup (lCons (eVar .E 5) (lCons (eUn gLen (eVar .B 0)) lNil))) (lCons (eTup (lCons (eVar .E 5) (lCons (eUn gNeg (eC (.int 1))) lNil))) (lCons (eTup (lCons (eVar .E 5) (lCons (eBin gMod (eIx (eVar .B 2) (eC (.int 2))) (eUn gLen (eVar .B 0))) lNil))) (lCons (eTup (lCons (eVar .E 5) (lCons (eC (.bl true)) lNil))) (lCons (eTup (lCons (eVar .E 5) lNil)) lNil)))))))))) (gNm 8)
 L__law_changed_1))
 R__law_changed_4)))))
def g__law_changed : Fn := runFn 10 [.B, .E, .B] b__law_changed
theorem sc__law_changed : FnScope ["rules", "value", "numbers", "at", "other", "name", "index", "found", "entry", "swapped"] ["rules", "value", "numbers"] (defScope st__law_changed) := ⟨rfl, rfl, rfl, by decide +kernel, rfl, by decide +kernel, by decide +kernel⟩
theorem ok__law_changed {P : Program} {w : World} {K : PySem.W.Frag} {mg : Str → Option Value} {base : Heap} {f : Addr} {fd : FuncData} (T : Txt mg) (F : FunD K "_law_changed" "_law_changed" (defArgs st__law_changed) (defBody st__law_changed) (defScope st__law_changed) [] [] f fd) (hg : mg "_law_changed" = some (.ref f))  :
    DefOk P w K mg base 1 "_law_changed" ["rules", "value", "numbers"] [.B, .E, .B] g__law_changed :=
  have Sc := sc__law_changed
  def_ok (k := 0) (N := ["rules", "value", "numbers", "at", "other", "name", "index", "found", "entry", "swapped"]) F Sc rfl (by decide) hg (fun _ _ _ _ _ _ us hl => match us, hl with | [_, _, _], _ => rfl) fun cdv A outer sh H E C hr tk po =>
 (bj_cons (sj_asg (i := 3) Sc.nd rfl (.inl rfl) (oj_E (ej_mod (m := .E) (ej_ixB (huR hr) (ej_var (m := .B) (i := 2) rfl (.inl rfl)) (ej_int (m := .B))) (ej_call1 (m := .B) call_len c_len rfl T.f_len (by decide +kernel) (ej_var (m := .B) (i := 1) rfl (.inl rfl))))))
 (bj_cons (sj_asg (i := 4) Sc.nd rfl (.inl rfl) (oj_E (ej_mod (m := .E) (ej_ixB (huR hr) (ej_var (m := .B) (i := 2) rfl (.inl rfl)) (ej_int (m := .B))) (ej_call1 (m := .B) call_len c_len rfl T.f_len (by decide +kernel) (ej_var (m := .B) (i := 1) rfl (.inl rfl))))))
 (bj_cons (sj_asgT (vs := [5, 6]) (ej_ix (huR hr) (ej_var (m := .I) (i := 1) rfl (.inl rfl)) (ej_var (m := .B) (i := 3) rfl (.inl rfl))) (gj_tup rfl (gjs_cons (gj_name (i := 5) Sc.nd rfl (.inl rfl)) (gjs_cons (gj_name (i := 6) Sc.nd rfl (.inl rfl)) gjs_nil))))
 (bj_cons (sj_asg (i := 7) Sc.nd rfl (.inl rfl) (oj_lst (le_cons (ej_O (oj_add (ej_I (ej_O (oj_sl (ej_var (m := .I) (i := 1) rfl (.inl rfl)) pj_none (pj_some (ej_var (m := .B) (i := 3) rfl (.inl rfl)))))) (ej_I (ej_O (oj_sl (ej_var (m := .I) (i := 1) rfl (.inl rfl)) (pj_some (ej_B (ej_O (oj_add (ej_var (m := .I) (i := 3) rfl (.inl rfl)) (ej_int (m := .I)))))) pj_none))))) (le_cons (ej_O (oj_add (ej_var (m := .I) (i := 1) rfl (.inl rfl)) (ej_I (ej_O (oj_lst (le_cons (ej_ix (huR hr) (ej_var (m := .I) (i := 1) rfl (.inl rfl)) (ej_var (m := .B) (i := 3) rfl (.inl rfl))) le_nil)))))) (le_cons (ej_O (oj_add (ej_I (ej_O (oj_lst (le_cons (ej_ix (huR hr) (ej_var (m := .I) (i := 1) rfl (.inl rfl)) (ej_var (m := .B) (i := 4) rfl (.inl rfl))) le_nil)))) (ej_var (m := .I) (i := 1) rfl (.inl rfl)))) (le_cons (ej_O (oj_rev (ej_var (m := .I) (i := 1) rfl (.inl rfl)) (ej_neg (m := .B) (ej_int (m := .B))))) (le_cons (ej_O (oj_sl (ej_var (m := .I) (i := 1) rfl (.inl rfl)) pj_none (pj_some (ej_B (ej_O (oj_add (ej_var (m := .I) (i := 3) rfl (.inl rfl)) (ej_int (m := .I)))))))) le_nil)))))))
 (bj_cons (sj_frz 5 (sj_for (vs := [8]) po rfl (ij_seqA (ej_O (oj_lst (le_cons (ej_tup (le_cons (ej_var (m := .E) (i := 5) rfl (.inl rfl)) (le_cons (ej_non (m := .E)) le_nil))) (le_cons (ej_tup (le_cons (ej_var (m := .E) (i := 5) rfl (.inl rfl)) (le_cons (ej_int (m := .E)) le_nil))) (le_cons (ej_tup (le_cons (ej_var (m := .E) (i := 5) rfl (.inl rfl)) (le_cons (ej_call1 (m := .E) call_len c_len rfl T.f_len (by decide +kernel) (ej_var (m := .B) (i := 0) rfl (.inl rfl))) le_nil))) (le_cons (ej_tup (le_cons (ej_var (m := .E) (i := 5) rfl (.inl rfl)) (le_cons (ej_neg (m := .E) (ej_int (m := .B))) le_nil))) (le_cons (ej_tup (le_cons (ej_var (m := .E) (i := 5) rfl (.inl rfl)) (le_cons (ej_mod (m := .E) (ej_ixB (huR hr) (ej_var (m := .B) (i := 2) rfl (.inl rfl)) (ej_int (m := .B))) (ej_call1 (m := .B) call_len c_len rfl T.f_len (by decide +kernel) (ej_var (m := .B) (i := 0) rfl (.inl rfl)))) le_nil))) (le_cons (ej_tup (le_cons (ej_var (m := .E) (i := 5) rfl (.inl rfl)) (le_cons (ej_bl (m := .E)) le_nil))) (le_cons (ej_tup (le_cons (ej_var (m := .E) (i := 5) rfl (.inl rfl)) le_nil)) le_nil)))))))))) (gj_name (i := 8) Sc.nd rfl (.inl rfl))
 (bj_one (sj_frz 8 (sj_app (i := 7) rfl (.inl rfl) (qj_E (ej_O (oj_add (ej_I (ej_O (oj_add (ej_I (ej_O (oj_sl (ej_var (m := .I) (i := 1) rfl (.inl rfl)) pj_none (pj_some (ej_var (m := .B) (i := 3) rfl (.inl rfl)))))) (ej_I (ej_O (oj_lst (le_cons (ej_var (m := .E) (i := 8) rfl (.inl rfl)) le_nil))))))) (ej_I (ej_O (oj_sl (ej_var (m := .I) (i := 1) rfl (.inl rfl)) (pj_some (ej_B (ej_O (oj_add (ej_var (m := .I) (i := 3) rfl (.inl rfl)) (ej_int (m := .I)))))) pj_none)))))))))))
 (bj_cons (sj_frz 6 (sj_frz 5 (sj_for (vs := [8]) po rfl (ij_seqA (ej_O (oj_lst (le_cons (ej_tup (le_cons (ej_var (m := .E) (i := 5) rfl (.inl rfl)) (le_cons (ej_callT1 (m := .E) call_strA c_strA rfl T.f_str (by decide +kernel) (ej_var (m := .B) (i := 6) rfl (.inl rfl))) le_nil))) (le_cons (ej_tup (le_cons (ej_var (m := .E) (i := 5) rfl (.inl rfl)) (le_cons (ej_var (m := .E) (i := 6) rfl (.inl rfl)) (le_cons (ej_var (m := .E) (i := 6) rfl (.inl rfl)) le_nil)))) (le_cons (ej_O (oj_lst (le_cons (ej_var (m := .E) (i := 5) rfl (.inl rfl)) (le_cons (ej_var (m := .E) (i := 6) rfl (.inl rfl)) le_nil)))) (le_cons (ej_non (m := .E)) (le_cons (ej_var (m := .E) (i := 5) rfl (.inl rfl)) (le_cons (ej_tup (le_cons (ej_non (m := .E)) (le_cons (ej_var (m := .E) (i := 6) rfl (.inl rfl)) le_nil))) (le_cons (ej_tup (le_cons (ej_var (m := .E) (i := 6) rfl (.inl rfl)) (le_cons (ej_var (m := .E) (i := 5) rfl (.inl rfl)) le_nil))) (le_cons (ej_tup (le_cons (ej_O (oj_add (ej_var (m := .I) (i := 5) rfl (.inl rfl)) (ej_str (m := .I) (mkS_txt _).symm))) (le_cons (ej_var (m := .E) (i := 6) rfl (.inl rfl)) le_nil))) le_nil))))))))))) (gj_name (i := 8) Sc.nd rfl (.inl rfl))
 (bj_one (sj_frz 8 (sj_app (i := 7) rfl (.inl rfl) (qj_E (ej_O (oj_add (ej_I (ej_O (oj_add (ej_I (ej_O (oj_sl (ej_var (m := .I) (i := 1) rfl (.inl rfl)) pj_none (pj_some (ej_var (m := .B) (i := 3) rfl (.inl rfl)))))) (ej_I (ej_O (oj_lst (le_cons (ej_var (m := .E) (i := 8) rfl (.inl rfl)) le_nil))))))) (ej_I (ej_O (oj_sl (ej_var (m := .I) (i := 1) rfl (.inl rfl)) (pj_some (ej_B (ej_O (oj_add (ej_var (m := .I) (i := 3) rfl (.inl rfl)) (ej_int (m := .I)))))) pj_none))))))))))))
 (bj_cons (sj_asg (i := 9) Sc.nd rfl (.inl rfl) (oj_callT1 call_list_of c_list rfl T.f_list (by decide +kernel) (ej_var (m := .I) (i := 1) rfl (.inl rfl))))
 (bj_cons (sj_put2 (i1 := 9) (i2 := 9) rfl (huR hr) rfl (.inl rfl) rfl (.inl rfl) (ej_tup (le_cons (ej_ix (huR hr) (ej_var (m := .I) (i := 1) rfl (.inl rfl)) (ej_var (m := .B) (i := 4) rfl (.inl rfl))) (le_cons (ej_ix (huR hr) (ej_var (m := .I) (i := 1) rfl (.inl rfl)) (ej_var (m := .B) (i := 3) rfl (.inl rfl))) le_nil))) (ej_var (m := .B) (i := 3) rfl (.inl rfl)) (ej_var (m := .B) (i := 4) rfl (.inl rfl)))
 (bj_one (sj_frz 9 (sj_frz 1 (sj_ret (oj_add (ej_var (m := .I) (i := 7) rfl (.inl rfl)) (ej_I (ej_O (oj_lst (le_cons (ej_var (m := .E) (i := 9) rfl (.inl rfl)) (le_cons (ej_O (oj_callT1 call_tuple_of c_tuple rfl T.f_tuple (by decide +kernel) (ej_var (m := .I) (i := 1) rfl (.inl rfl)))) (le_cons (ej_non (m := .E)) (le_cons (ej_O oj_dic0) (le_cons (ej_str (m := .E) (mkS_txt _).symm) (le_cons (ej_O (oj_lst le_nil)) (le_cons (ej_int (m := .E)) (le_cons (ej_O (oj_lst (le_cons (ej_non (m := .E)) le_nil))) (le_cons (ej_O (oj_lst (le_cons (ej_tup le_nil) le_nil))) (le_cons (ej_O (oj_lst (le_cons (ej_var (m := .E) (i := 1) rfl (.inl rfl)) le_nil))) le_nil))))))))))))))))))))))))))

/-! ### _law_needed -/
abbrev st__law_needed : Stmt := top 23
def L__law_needed_1 : S :=
 (sIf (tCmp gIn (eIx (eVar .B 4) (eC (.int 0))) (eVar .B 3))
 (sSeq (sSeq (sFrz 4) (sAsg 2 (oBin gAdd (eOfO (oLst (lCons (eVar .E 4) lNil))) (eVar .I 2))))
 (sIf (tCmp gNotN (eIx (eVar .B 4) (eC (.int 1))) (eC .non))
 (sAsg 3 (oBin gAdd (eVar .I 3) (eOfO (oUn gList (eIx (eIx (eVar .I 0) (eIx (eVar .B 4) (eC (.int 1)))) (eC (.int 1)))))))
 sNil))
 sNil)
def R__law_needed_2 : S :=
 (sRetV 2)
def b__law_needed : S :=
 (sSeq (sAsg 2 (oLst lNil))
 (sSeq (sAsg 3 (oLst (lCons (eIx (eIx (eVar .I 1) (eUn gNeg (eC (.int 1)))) (eC (.int 0))) lNil)))
 (sSeq (sFor (lOfA (eOfO (oBin gRev (eVar .I 1) (eUn gNeg (eC (.int 1)))))) (gNm 4)
 L__law_needed_1)
 R__law_needed_2)))
def g__law_needed : Fn := runFn 5 [.E, .E] b__law_needed
theorem sc__law_needed : FnScope ["rules", "value", "kept", "wanted", "entry"] ["rules", "value"] (defScope st__law_needed) := ⟨rfl, rfl, rfl, by decide +kernel, rfl, by decide +kernel, by decide +kernel⟩
theorem ok__law_needed {P : Program} {w : World} {K : PySem.W.Frag} {mg : Str → Option Value} {base : Heap} {f : Addr} {fd : FuncData} (T : Txt mg) (F : FunD K "_law_needed" "_law_needed" (defArgs st__law_needed) (defBody st__law_needed) (defScope st__law_needed) [] [] f fd) (hg : mg "_law_needed" = some (.ref f))  :
    DefOk P w K mg base 1 "_law_needed" ["rules", "value"] [.E, .E] g__law_needed :=
  have Sc := sc__law_needed
  def_ok (k := 0) (N := ["rules", "value", "kept", "wanted", "entry"]) F Sc rfl (by decide) hg (fun _ _ _ _ _ _ us hl => match us, hl with | [_, _], _ => rfl) fun cdv A outer sh H E C hr tk po =>
 (bj_cons (sj_asg (i := 2) Sc.nd rfl (.inl rfl) (oj_lst le_nil))
 (bj_cons (sj_asg (i := 3) Sc.nd rfl (.inl rfl) (oj_lst (le_cons (ej_ix (huR hr) (ej_I (ej_ix (huR hr) (ej_var (m := .I) (i := 1) rfl (.inl rfl)) (ej_neg (m := .B) (ej_int (m := .B))))) (ej_int (m := .B))) le_nil)))
 (bj_cons (sj_for (vs := [4]) po rfl (ij_seqA (ej_O (oj_rev (ej_var (m := .I) (i := 1) rfl (.inl rfl)) (ej_neg (m := .B) (ej_int (m := .B)))))) (gj_name (i := 4) Sc.nd rfl (.inl rfl))
 (bj_one (sj_if (tj_cmp (opr_in (huR hr)) cmp_in (ej_ixB (huR hr) (ej_var (m := .B) (i := 4) rfl (.inl rfl)) (ej_int (m := .B))) (ej_var (m := .B) (i := 3) rfl (.inl rfl)) (by rfl))
 (bj_cons (sj_frz 4 (sj_asg (i := 2) Sc.nd rfl (.inl rfl) (oj_add (ej_I (ej_O (oj_lst (le_cons (ej_var (m := .E) (i := 4) rfl (.inl rfl)) le_nil)))) (ej_var (m := .I) (i := 2) rfl (.inl rfl)))))
 (bj_one (sj_if (tj_cmp op_notN cmp_notN (ej_ixB (huR hr) (ej_var (m := .B) (i := 4) rfl (.inl rfl)) (ej_int (m := .B))) (ej_non (m := .B)) (nomark _))
 (bj_one (sj_asg (i := 3) Sc.nd rfl (.inl rfl) (oj_add (ej_var (m := .I) (i := 3) rfl (.inl rfl)) (ej_I (ej_O (oj_callT1 call_list_of c_list rfl T.f_list (by decide +kernel) (ej_I (ej_ix (huR hr) (ej_I (ej_ix (huR hr) (ej_var (m := .I) (i := 0) rfl (.inl rfl)) (ej_ixB (huR hr) (ej_var (m := .B) (i := 4) rfl (.inl rfl)) (ej_int (m := .B))))) (ej_int (m := .B))))))))))
 bj_nil)))
 bj_nil)))
 (bj_one (sj_retV (i := 2) rfl (.inl rfl))))))

/-! ### _law_says -/
abbrev st__law_says : Stmt := top 16
def b__law_says : S :=
 (sRet (oOfE (eAnd (eUn (isT .bool) (eVar .B 0)) (eCmp gEq (eVar .B 0) (eVar .B 1)))))
def g__law_says : Fn := runFn 2 [.B, .B] b__law_says
theorem sc__law_says : FnScope ["actual", "due"] ["actual", "due"] (defScope st__law_says) := ⟨rfl, rfl, rfl, by decide +kernel, rfl, by decide +kernel, by decide +kernel⟩
theorem ok__law_says {P : Program} {w : World} {K : PySem.W.Frag} {mg : Str → Option Value} {base : Heap} {f : Addr} {fd : FuncData} (T : Txt mg) (F : FunD K "_law_says" "_law_says" (defArgs st__law_says) (defBody st__law_says) (defScope st__law_says) [] [] f fd) (hg : mg "_law_says" = some (.ref f))  :
    DefOk P w K mg base 1 "_law_says" ["actual", "due"] [.B, .B] g__law_says :=
  have Sc := sc__law_says
  def_ok (k := 0) (N := ["actual", "due"]) F Sc rfl (by decide) hg (fun _ _ _ _ _ _ us hl => match us, hl with | [_, _], _ => rfl) fun cdv A outer sh H E C hr tk po =>
 (bj_one (sj_ret (oj_E (ej_and (ej_isi (m := .B) .bool rfl T.f_isinstance rfl T.f_bool (by decide +kernel) (ej_var (m := .B) (i := 0) rfl (.inl rfl))) (ej_one (ej_cmp (m := .E) (op_eqD (huR hr).u64) cmp_eq (ej_var (m := .B) (i := 0) rfl (.inl rfl)) (ej_var (m := .B) (i := 1) rfl (.inl rfl)) (nomark _)))))))

/-! ### all_in -/
abbrev st_all_in : Stmt := top 8
def b_all_in : S :=
 (sRet (oOfE (eUn gAll (eOfO (oComp (lOfA (eVar .I 0)) [2] (gNm 2) tYesF (eCmp gIn (eVar .B 2) (eVar .B 1)))))))
def g_all_in : Fn := runFn 3 [.E, .B] b_all_in
theorem sc_all_in : FnScope ["names", "among", "name"] ["names", "among"] (defScope st_all_in) := ⟨rfl, rfl, rfl, by decide +kernel, rfl, by decide +kernel, by decide +kernel⟩
theorem ok_all_in {P : Program} {w : World} {K : PySem.W.Frag} {mg : Str → Option Value} {base : Heap} {f : Addr} {fd : FuncData} (T : Txt mg) (F : FunD K "all_in" "all_in" (defArgs st_all_in) (defBody st_all_in) (defScope st_all_in) [] [] f fd) (hg : mg "all_in" = some (.ref f))  :
    DefOk P w K mg base 1 "all_in" ["names", "among"] [.E, .B] g_all_in :=
  have Sc := sc_all_in
  def_ok (k := 0) (N := ["names", "among", "name"]) F Sc rfl (by decide) hg (fun _ _ _ _ _ _ us hl => match us, hl with | [_, _], _ => rfl) fun cdv A outer sh H E C hr tk po =>
 (bj_one (sj_ret (oj_E (ej_call1 (m := .E) (cr_all rfl) c_all rfl T.f_all (by decide +kernel) (ej_B (ej_O (oj_comp rfl Sc.nd (own := [("name", 2)]) (ij_seqSA (ej_var (m := .I) (i := 0) rfl (.inl rfl))) (blkOk_by (N := ["names", "among", "name"]) (sc := defScope st_all_in) (by decide +kernel)) (fun _ _ _ _ _ _ => (gj_name (i := 2) Sc.nd rfl (.inl rfl))) (fun _ _ _ _ _ _ => tsj_nil) (fun _ _ _ _ _ _ => (ej_cmp (m := .E) (opr_in (huR hr)) cmp_in (ej_var (m := .B) (i := 2) rfl (.inl rfl)) (ej_var (m := .B) (i := 1) rfl (.inr (.inl rfl))) (by rfl))))))))))

/-! ### stands -/
abbrev st_stands : Stmt := top 11
def R_stands_1 : S :=
 (sSeq (sAsgT (gTp 2 (gsCons (gNm 5) (gsCons (gNm 6) gsNil))) (eIx (eVar .I 0) (eVar .B 3)))
 (sSeq (sFrz 6) (sRet (oOfE (eAnd (eCmp gEq (eVar .B 5) (eVar .B 2)) (eOfO (oCall g_all_in (lCons (eVar .E 6) (lCons (eVar .B 4) lNil)))))))))
def R_stands_2 : S :=
 (sSeq (sIf (tNotF (tChn gLe gLt (eC (.int 0)) (eVar .B 3) (eUn gLen (eVar .B 0))))
 (sRet (oOfE (eC (.bl false))))
 sNil)
 R_stands_1)
def b_stands : S :=
 (sSeq (sIf (tCmp gIsN (eVar .B 3) (eC .non))
 (sRet (oOfE (eCmp gIn (eVar .B 2) (eVar .B 1))))
 sNil)
 R_stands_2)
def g_stands : Fn := runFn 7 [.E, .B, .B, .B, .B] b_stands
theorem sc_stands : FnScope ["rules", "start", "name", "index", "ahead", "field", "conditions"] ["rules", "start", "name", "index", "ahead"] (defScope st_stands) := ⟨rfl, rfl, rfl, by decide +kernel, rfl, by decide +kernel, by decide +kernel⟩
theorem ok_stands {P : Program} {w : World} {K : PySem.W.Frag} {mg : Str → Option Value} {base : Heap} {f : Addr} {fd : FuncData} (T : Txt mg) (F : FunD K "stands" "stands" (defArgs st_stands) (defBody st_stands) (defScope st_stands) [] [] f fd) (hg : mg "stands" = some (.ref f)) (D_all_in : DefOk P w K mg base 1 "all_in" ["names", "among"] [.E, .B] g_all_in) :
    DefOk P w K mg base 2 "stands" ["rules", "start", "name", "index", "ahead"] [.E, .B, .B, .B, .B] g_stands :=
  have Sc := sc_stands
  def_ok (k := 1) (N := ["rules", "start", "name", "index", "ahead", "field", "conditions"]) F Sc rfl (by decide) hg (fun _ _ _ _ _ _ us hl => match us, hl with | [_, _, _, _, _], _ => rfl) fun cdv A outer sh H E C hr tk po =>
 (bj_cons (sj_if (tj_cmp op_isN cmp_isN (ej_var (m := .B) (i := 3) rfl (.inl rfl)) (ej_non (m := .B)) (nomark _))
 (bj_one (sj_ret (oj_E (ej_cmp (m := .E) (opr_in (huR hr)) cmp_in (ej_var (m := .B) (i := 2) rfl (.inl rfl)) (ej_var (m := .B) (i := 1) rfl (.inl rfl)) (by rfl)))))
 bj_nil)
 (bj_cons (sj_if (tj_not (tj_chain opr_le cmp_le opr_lt cmp_lt (ej_int (m := .B)) (ej_var (m := .B) (i := 3) rfl (.inl rfl)) (ej_call1 (m := .B) call_len c_len rfl T.f_len (by decide +kernel) (ej_var (m := .B) (i := 0) rfl (.inl rfl)))))
 (bj_one (sj_ret (oj_E (ej_bl (m := .E)))))
 bj_nil)
 (bj_cons (sj_asgT (vs := [5, 6]) (ej_ix (huR hr) (ej_var (m := .I) (i := 0) rfl (.inl rfl)) (ej_var (m := .B) (i := 3) rfl (.inl rfl))) (gj_tup rfl (gjs_cons (gj_name (i := 5) Sc.nd rfl (.inl rfl)) (gjs_cons (gj_name (i := 6) Sc.nd rfl (.inl rfl)) gjs_nil))))
 (bj_one (sj_frz 6 (sj_ret (oj_E (ej_and (ej_cmp (m := .B) (op_eqD (huR hr).u64) cmp_eq (ej_var (m := .B) (i := 5) rfl (.inl rfl)) (ej_var (m := .B) (i := 2) rfl (.inl rfl)) (nomark _)) (ej_one (ej_O (oj_call D_all_in hr (by decide) tk rfl (lj_cons (ej_var (m := .E) (i := 6) rfl (.inl rfl)) (lj_cons (ej_var (m := .B) (i := 4) rfl (.inl rfl)) lj_nil)))))))))))))

/-! ### has_name_signs -/
abbrev st_has_name_signs : Stmt := top 5
def R_has_name_signs_1 : S :=
 (sRet (oOfE (eUn gAll (eOfO (oComp (lOfA (eVar .I 0)) [1] (gNm 1) tYesF (eOr (eCmp gIn (eVar .B 1) (eC (.str (txt "abcdefghijklmnopqrstuvwxyz")))) (eCmp gIn (eVar .B 1) (eC (.str (txt "0123456789"))))))))))
def b_has_name_signs : S :=
 (sSeq (sIf (tCmp gNotIn (eIx (eVar .B 0) (eC (.int 0))) (eC (.str (txt "abcdefghijklmnopqrstuvwxyz"))))
 (sRet (oOfE (eC (.bl false))))
 sNil)
 R_has_name_signs_1)
def g_has_name_signs : Fn := runFn 2 [.E] b_has_name_signs
theorem sc_has_name_signs : FnScope ["text", "sign"] ["text"] (defScope st_has_name_signs) := ⟨rfl, rfl, rfl, by decide +kernel, rfl, by decide +kernel, by decide +kernel⟩
theorem ok_has_name_signs {P : Program} {w : World} {K : PySem.W.Frag} {mg : Str → Option Value} {base : Heap} {f : Addr} {fd : FuncData} (T : Txt mg) (F : FunD K "has_name_signs" "has_name_signs" (defArgs st_has_name_signs) (defBody st_has_name_signs) (defScope st_has_name_signs) [] [] f fd) (hg : mg "has_name_signs" = some (.ref f))  :
    DefOk P w K mg base 1 "has_name_signs" ["text"] [.E] g_has_name_signs :=
  have Sc := sc_has_name_signs
  def_ok (k := 0) (N := ["text", "sign"]) F Sc rfl (by decide) hg (fun _ _ _ _ _ _ us hl => match us, hl with | [_], _ => rfl) fun cdv A outer sh H E C hr tk po =>
 (bj_cons (sj_if (tj_cmp (opr_notIn (huR hr)) cmp_notIn (ej_ixB (huR hr) (ej_var (m := .B) (i := 0) rfl (.inl rfl)) (ej_int (m := .B))) (ej_gstr (m := .B) rfl T.c_LETTERS) (by rfl))
 (bj_one (sj_ret (oj_E (ej_bl (m := .E)))))
 bj_nil)
 (bj_one (sj_ret (oj_E (ej_call1 (m := .E) (cr_all rfl) c_all rfl T.f_all (by decide +kernel) (ej_B (ej_O (oj_comp rfl Sc.nd (own := [("sign", 1)]) (ij_seqSA (ej_var (m := .I) (i := 0) rfl (.inl rfl))) (blkOk_by (N := ["text", "sign"]) (sc := defScope st_has_name_signs) (by decide +kernel)) (fun _ _ _ _ _ _ => (gj_name (i := 1) Sc.nd rfl (.inl rfl))) (fun _ _ _ _ _ _ => tsj_nil) (fun _ _ _ _ _ _ => (ej_or (ej_cmp (m := .B) (opr_in (huR hr)) cmp_in (ej_var (m := .B) (i := 1) rfl (.inl rfl)) (ej_gstr (m := .B) rfl T.c_LETTERS) (by rfl)) (ej_one (ej_cmp (m := .E) (opr_in (huR hr)) cmp_in (ej_var (m := .B) (i := 1) rfl (.inl rfl)) (ej_gstr (m := .B) rfl T.c_FIGURES) (by rfl)))))))))))))

/-! ### is_name -/
abbrev st_is_name : Stmt := top 6
def R_is_name_1 : S :=
 (sSeq (sFrz 0) (sRet (oCall g_has_name_signs (lCons (eVar .E 0) lNil))))
def R_is_name_2 : S :=
 (sSeq (sIf (tNotF (tChn gLe gLe (eC (.int 1)) (eUn gLen (eVar .B 0)) (eC (.int 12))))
 (sRet (oOfE (eC (.bl false))))
 sNil)
 R_is_name_1)
def b_is_name : S :=
 (sSeq (sIf (tNotF (tOfE (eUn (isT .str) (eVar .B 0))))
 (sRet (oOfE (eC (.bl false))))
 sNil)
 R_is_name_2)
def g_is_name : Fn := runFn 1 [.E] b_is_name
theorem sc_is_name : FnScope ["value"] ["value"] (defScope st_is_name) := ⟨rfl, rfl, rfl, by decide +kernel, rfl, by decide +kernel, by decide +kernel⟩
theorem ok_is_name {P : Program} {w : World} {K : PySem.W.Frag} {mg : Str → Option Value} {base : Heap} {f : Addr} {fd : FuncData} (T : Txt mg) (F : FunD K "is_name" "is_name" (defArgs st_is_name) (defBody st_is_name) (defScope st_is_name) [] [] f fd) (hg : mg "is_name" = some (.ref f)) (D_has_name_signs : DefOk P w K mg base 1 "has_name_signs" ["text"] [.E] g_has_name_signs) :
    DefOk P w K mg base 2 "is_name" ["value"] [.E] g_is_name :=
  have Sc := sc_is_name
  def_ok (k := 1) (N := ["value"]) F Sc rfl (by decide) hg (fun _ _ _ _ _ _ us hl => match us, hl with | [_], _ => rfl) fun cdv A outer sh H E C hr tk po =>
 (bj_cons (sj_if (tj_not (tj_val (ej_isi (m := .B) .str rfl T.f_isinstance rfl T.f_str (by decide +kernel) (ej_var (m := .B) (i := 0) rfl (.inl rfl)))))
 (bj_one (sj_ret (oj_E (ej_bl (m := .E)))))
 bj_nil)
 (bj_cons (sj_if (tj_not (tj_chain opr_le cmp_le opr_le cmp_le (ej_int (m := .B)) (ej_call1 (m := .B) call_len c_len rfl T.f_len (by decide +kernel) (ej_var (m := .B) (i := 0) rfl (.inl rfl))) (ej_gint (m := .B) rfl T.c_LONGEST_NAME)))
 (bj_one (sj_ret (oj_E (ej_bl (m := .E)))))
 bj_nil)
 (bj_one (sj_frz 0 (sj_ret (oj_call D_has_name_signs hr (by decide) tk rfl (lj_cons (ej_var (m := .E) (i := 0) rfl (.inl rfl)) lj_nil)))))))

/-! ### is_whole -/
abbrev st_is_whole : Stmt := top 4
def b_is_whole : S :=
 (sRet (oOfE (eAnd (eUn (isT .int) (eVar .B 0)) (eNot (eUn (isT .bool) (eVar .B 0))))))
def g_is_whole : Fn := runFn 1 [.B] b_is_whole
theorem sc_is_whole : FnScope ["value"] ["value"] (defScope st_is_whole) := ⟨rfl, rfl, rfl, by decide +kernel, rfl, by decide +kernel, by decide +kernel⟩
theorem ok_is_whole {P : Program} {w : World} {K : PySem.W.Frag} {mg : Str → Option Value} {base : Heap} {f : Addr} {fd : FuncData} (T : Txt mg) (F : FunD K "is_whole" "is_whole" (defArgs st_is_whole) (defBody st_is_whole) (defScope st_is_whole) [] [] f fd) (hg : mg "is_whole" = some (.ref f))  :
    DefOk P w K mg base 1 "is_whole" ["value"] [.B] g_is_whole :=
  have Sc := sc_is_whole
  def_ok (k := 0) (N := ["value"]) F Sc rfl (by decide) hg (fun _ _ _ _ _ _ us hl => match us, hl with | [_], _ => rfl) fun cdv A outer sh H E C hr tk po =>
 (bj_one (sj_ret (oj_E (ej_and (ej_isi (m := .B) .int rfl T.f_isinstance rfl T.f_int (by decide +kernel) (ej_var (m := .B) (i := 0) rfl (.inl rfl))) (ej_one (ej_not (m := .E) (ej_isi (m := .B) .bool rfl T.f_isinstance rfl T.f_bool (by decide +kernel) (ej_var (m := .B) (i := 0) rfl (.inl rfl)))))))))

/-! ### is_entry -/
abbrev st_is_entry : Stmt := top 10
def R_is_entry_1 : S :=
 (sSeq (sSeq (sFrz 0) (sAsgT (gTp 2 (gsCons (gNm 1) (gsCons (gNm 2) gsNil))) (eVar .E 0)))
 (sSeq (sFrz 1) (sRet (oOfE (eAnd (eOfO (oCall g_is_name (lCons (eVar .E 1) lNil))) (eOr (eCmp gIsN (eVar .B 2) (eC .non)) (eOfO (oCall g_is_whole (lCons (eVar .B 2) lNil)))))))))
def b_is_entry : S :=
 (sSeq (sIf (tOrF (tNotF (tOfE (eUn (isT .tuple) (eVar .B 0)))) (tCmp gNe (eUn gLen (eVar .B 0)) (eC (.int 2))))
 (sRet (oOfE (eC (.bl false))))
 sNil)
 R_is_entry_1)
def g_is_entry : Fn := runFn 3 [.E] b_is_entry
theorem sc_is_entry : FnScope ["value", "name", "index"] ["value"] (defScope st_is_entry) := ⟨rfl, rfl, rfl, by decide +kernel, rfl, by decide +kernel, by decide +kernel⟩
theorem ok_is_entry {P : Program} {w : World} {K : PySem.W.Frag} {mg : Str → Option Value} {base : Heap} {f : Addr} {fd : FuncData} (T : Txt mg) (F : FunD K "is_entry" "is_entry" (defArgs st_is_entry) (defBody st_is_entry) (defScope st_is_entry) [] [] f fd) (hg : mg "is_entry" = some (.ref f)) (D_is_name : DefOk P w K mg base 2 "is_name" ["value"] [.E] g_is_name) (D_is_whole : DefOk P w K mg base 1 "is_whole" ["value"] [.B] g_is_whole) :
    DefOk P w K mg base 3 "is_entry" ["value"] [.E] g_is_entry :=
  have Sc := sc_is_entry
  def_ok (k := 2) (N := ["value", "name", "index"]) F Sc rfl (by decide) hg (fun _ _ _ _ _ _ us hl => match us, hl with | [_], _ => rfl) fun cdv A outer sh H E C hr tk po =>
 (bj_cons (sj_if (wj_tj (wj_or (tj_not (tj_val (ej_isi (m := .B) .tuple rfl T.f_isinstance rfl T.f_tuple (by decide +kernel) (ej_var (m := .B) (i := 0) rfl (.inl rfl))))) (wj_or1 (tj_cmp (op_neD (huR hr).u64) cmp_ne (ej_call1 (m := .B) call_len c_len rfl T.f_len (by decide +kernel) (ej_var (m := .B) (i := 0) rfl (.inl rfl))) (ej_int (m := .B)) (nomark _)))))
 (bj_one (sj_ret (oj_E (ej_bl (m := .E)))))
 bj_nil)
 (bj_cons (sj_frz 0 (sj_asgT (vs := [1, 2]) (ej_var (m := .E) (i := 0) rfl (.inl rfl)) (gj_tup rfl (gjs_cons (gj_name (i := 1) Sc.nd rfl (.inl rfl)) (gjs_cons (gj_name (i := 2) Sc.nd rfl (.inl rfl)) gjs_nil)))))
 (bj_one (sj_frz 1 (sj_ret (oj_E (ej_and (ej_B (ej_O (oj_call D_is_name hr (by decide) tk rfl (lj_cons (ej_var (m := .E) (i := 1) rfl (.inl rfl)) lj_nil)))) (ej_one (ej_or (ej_cmp (m := .B) op_isN cmp_isN (ej_var (m := .B) (i := 2) rfl (.inl rfl)) (ej_non (m := .B)) (nomark _)) (ej_one (ej_O (oj_call D_is_whole hr (by decide) tk rfl (lj_cons (ej_var (m := .B) (i := 2) rfl (.inl rfl)) lj_nil)))))))))))))

/-! ### is_derivation -/
abbrev st_is_derivation : Stmt := top 12
def R_is_derivation_1 : S :=
 (sPut 4 (eVar .B 5) (eC (.bl true)))
def L_is_derivation_2 : S :=
 (sSeq (sSeq (sFrz 0) (sIf (tOrF (tCmp gIn (eVar .B 5) (eVar .B 4)) (tNotF (tOfE (eOfO (oCall g_stands (lCons (eVar .E 0) (lCons (eVar .B 1) (lCons (eVar .B 5) (lCons (eVar .B 6) (lCons (eVar .B 4) lNil))))))))))
 (sRet (oOfE (eC (.bl false))))
 sNil))
 R_is_derivation_1)
def R_is_derivation_3 : S :=
 (sSeq (sAsgT (gTp 2 (gsCons (gNm 7) (gsCons (gNm 8) gsNil))) (eIx (eVar .I 3) (eUn gNeg (eC (.int 1)))))
 (sRet (oOfE (eCmp gEq (eVar .B 7) (eVar .B 2)))))
def R_is_derivation_4 : S :=
 (sSeq (sAsg 4 oDic0)
 (sSeq (sSeq (sFrz 3) (sFor (lOfA (eVar .E 3)) (gTp 2 (gsCons (gNm 5) (gsCons (gNm 6) gsNil)))
 L_is_derivation_2))
 R_is_derivation_3))
def b_is_derivation : S :=
 (sSeq (sIf (tOrF (tNotF (tOfE (eUn (isT .list) (eVar .B 3)))) (tOrF (tNotF (tOfE (eVar .B 3))) (tNotF (tOfE (eUn gAll (eOfO (oComp (lOfA (eVar .I 3)) [9] (gNm 9) tYesF (eOfO (oCall g_is_entry (lCons (eVar .E 9) lNil))))))))))
 (sRet (oOfE (eC (.bl false))))
 sNil)
 R_is_derivation_4)
def g_is_derivation : Fn := runFn 10 [.E, .B, .B, .E] b_is_derivation
theorem sc_is_derivation : FnScope ["rules", "start", "field", "value", "ahead", "name", "index", "last_name", "_", "entry"] ["rules", "start", "field", "value"] (defScope st_is_derivation) := ⟨rfl, rfl, rfl, by decide +kernel, rfl, by decide +kernel, by decide +kernel⟩
theorem ok_is_derivation {P : Program} {w : World} {K : PySem.W.Frag} {mg : Str → Option Value} {base : Heap} {f : Addr} {fd : FuncData} (T : Txt mg) (F : FunD K "is_derivation" "is_derivation" (defArgs st_is_derivation) (defBody st_is_derivation) (defScope st_is_derivation) [] [] f fd) (hg : mg "is_derivation" = some (.ref f)) (D_is_entry : DefOk P w K mg base 3 "is_entry" ["value"] [.E] g_is_entry) (D_stands : DefOk P w K mg base 2 "stands" ["rules", "start", "name", "index", "ahead"] [.E, .B, .B, .B, .B] g_stands) :
    DefOk P w K mg base 4 "is_derivation" ["rules", "start", "field", "value"] [.E, .B, .B, .E] g_is_derivation :=
  have Sc := sc_is_derivation
  def_ok (k := 3) (N := ["rules", "start", "field", "value", "ahead", "name", "index", "last_name", "_", "entry"]) F Sc rfl (by decide) hg (fun _ _ _ _ _ _ us hl => match us, hl with | [_, _, _, _], _ => rfl) fun cdv A outer sh H E C hr tk po =>
 (bj_cons (sj_if (wj_tj (wj_or (tj_not (tj_val (ej_isi (m := .B) .list rfl T.f_isinstance rfl T.f_list (by decide +kernel) (ej_var (m := .B) (i := 3) rfl (.inl rfl))))) (wj_or (tj_not (tj_val (ej_var (m := .B) (i := 3) rfl (.inl rfl)))) (wj_or1 (tj_not (tj_val (ej_call1 (m := .B) (cr_all rfl) c_all rfl T.f_all (by decide +kernel) (ej_B (ej_O (oj_comp rfl Sc.nd (own := [("entry", 9)]) (ij_seqSA (ej_var (m := .I) (i := 3) rfl (.inl rfl))) (blkOk_by (N := ["rules", "start", "field", "value", "ahead", "name", "index", "last_name", "_", "entry"]) (sc := defScope st_is_derivation) (by decide +kernel)) (fun _ _ _ _ _ _ => (gj_name (i := 9) Sc.nd rfl (.inl rfl))) (fun _ _ _ _ _ _ => tsj_nil) (fun _ _ _ _ _ _ => (ej_O (oj_call D_is_entry hr (by decide) takes0 rfl (lj_cons (ej_var (m := .E) (i := 9) rfl (.inl rfl)) lj_nil))))))))))))))
 (bj_one (sj_ret (oj_E (ej_bl (m := .E)))))
 bj_nil)
 (bj_cons (sj_asg (i := 4) Sc.nd rfl (.inl rfl) oj_dic0)
 (bj_cons (sj_frz 3 (sj_for (vs := [5, 6]) po rfl (ij_seqA (ej_var (m := .E) (i := 3) rfl (.inl rfl))) (gj_tup rfl (gjs_cons (gj_name (i := 5) Sc.nd rfl (.inl rfl)) (gjs_cons (gj_name (i := 6) Sc.nd rfl (.inl rfl)) gjs_nil)))
 (bj_cons (sj_frz 0 (sj_if (wj_tj (wj_or (tj_cmp (opr_in (huR hr)) cmp_in (ej_var (m := .B) (i := 5) rfl (.inl rfl)) (ej_var (m := .B) (i := 4) rfl (.inl rfl)) (by rfl)) (wj_or1 (tj_not (tj_val (ej_B (ej_O (oj_call D_stands hr (by decide) tk rfl (lj_cons (ej_var (m := .E) (i := 0) rfl (.inl rfl)) (lj_cons (ej_var (m := .B) (i := 1) rfl (.inl rfl)) (lj_cons (ej_var (m := .B) (i := 5) rfl (.inl rfl)) (lj_cons (ej_var (m := .B) (i := 6) rfl (.inl rfl)) (lj_cons (ej_var (m := .B) (i := 4) rfl (.inl rfl)) lj_nil)))))))))))))
 (bj_one (sj_ret (oj_E (ej_bl (m := .E)))))
 bj_nil))
 (bj_one (sj_put (i := 4) (huR hr) rfl (.inl rfl) (ej_bl (m := .E)) (ej_var (m := .B) (i := 5) rfl (.inl rfl)))))))
 (bj_cons (sj_asgT (vs := [7, 8]) (ej_ix (huR hr) (ej_var (m := .I) (i := 3) rfl (.inl rfl)) (ej_neg (m := .B) (ej_int (m := .B)))) (gj_tup rfl (gjs_cons (gj_name (i := 7) Sc.nd rfl (.inl rfl)) (gjs_cons (gj_name (i := 8) Sc.nd rfl (.inl rfl)) gjs_nil))))
 (bj_one (sj_ret (oj_E (ej_cmp (m := .E) (op_eqD (huR hr).u64) cmp_eq (ej_var (m := .B) (i := 7) rfl (.inl rfl)) (ej_var (m := .B) (i := 2) rfl (.inl rfl)) (nomark _)))))))))

/-! ### _law_is_integer -/
abbrev st__law_is_integer : Stmt := top 15
def b__law_is_integer : S :=
 (sRet (oOfE (eAnd (eUn (isT .int) (eVar .B 0)) (eNot (eUn (isT .bool) (eVar .B 0))))))
def g__law_is_integer : Fn := runFn 1 [.B] b__law_is_integer
theorem sc__law_is_integer : FnScope ["value"] ["value"] (defScope st__law_is_integer) := ⟨rfl, rfl, rfl, by decide +kernel, rfl, by decide +kernel, by decide +kernel⟩
theorem ok__law_is_integer {P : Program} {w : World} {K : PySem.W.Frag} {mg : Str → Option Value} {base : Heap} {f : Addr} {fd : FuncData} (T : Txt mg) (F : FunD K "_law_is_integer" "_law_is_integer" (defArgs st__law_is_integer) (defBody st__law_is_integer) (defScope st__law_is_integer) [] [] f fd) (hg : mg "_law_is_integer" = some (.ref f))  :
    DefOk P w K mg base 1 "_law_is_integer" ["value"] [.B] g__law_is_integer :=
  have Sc := sc__law_is_integer
  def_ok (k := 0) (N := ["value"]) F Sc rfl (by decide) hg (fun _ _ _ _ _ _ us hl => match us, hl with | [_], _ => rfl) fun cdv A outer sh H E C hr tk po =>
 (bj_one (sj_ret (oj_E (ej_and (ej_isi (m := .B) .int rfl T.f_isinstance rfl T.f_int (by decide +kernel) (ej_var (m := .B) (i := 0) rfl (.inl rfl))) (ej_one (ej_not (m := .E) (ej_isi (m := .B) .bool rfl T.f_isinstance rfl T.f_bool (by decide +kernel) (ej_var (m := .B) (i := 0) rfl (.inl rfl)))))))))

/-! ### _law_is_derivation -/
abbrev st__law_is_derivation : Stmt := top 21
def R__law_is_derivation_1 : S :=
 (sSeq (sAsgT (gTp 2 (gsCons (gNm 6) (gsCons (gNm 7) gsNil))) (eIx (eVar .I 0) (eIx (eVar .B 5) (eC (.int 1)))))
 (sIf (tOrF (tCmp gNe (eVar .B 6) (eIx (eVar .B 5) (eC (.int 0)))) (tOfE (eOfO (oComp (lOfA (eVar .I 7)) [8] (gNm 8) (tCmp gNotIn (eVar .B 8) (eVar .B 4)) (eVar .E 8)))))
 (sRet (oOfE (eC (.bl false))))
 sNil))
def R__law_is_derivation_2 : S :=
 (sApp 4 (qE (eIx (eVar .I 5) (eC (.int 0)))))
def R__law_is_derivation_3 : S :=
 (sSeq (sIf (tCmp gIsN (eIx (eVar .B 5) (eC (.int 1))) (eC .non))
 (sIf (tCmp gNotIn (eIx (eVar .B 5) (eC (.int 0))) (eVar .B 1))
 (sRet (oOfE (eC (.bl false))))
 sNil)
 (sSeq (sIf (tOrF (tNotF (tOfE (eOfO (oCall g__law_is_integer (lCons (eIx (eVar .B 5) (eC (.int 1))) lNil))))) (tNotF (tChn gLe gLt (eC (.int 0)) (eIx (eVar .B 5) (eC (.int 1))) (eUn gLen (eVar .B 0)))))
 (sRet (oOfE (eC (.bl false))))
 sNil)
 R__law_is_derivation_1))
 R__law_is_derivation_2)
def L__law_is_derivation_4 : S :=
 (sSeq (sIf (tOrF (tNotF (tOfE (eUn (isT .tuple) (eVar .B 5)))) (tOrF (tCmp gNe (eUn gLen (eVar .B 5)) (eC (.int 2))) (tOrF (tNotF (tOfE (eUn (isT .str) (eIx (eVar .B 5) (eC (.int 0)))))) (tCmp gIn (eIx (eVar .B 5) (eC (.int 0))) (eVar .B 4)))))
 (sRet (oOfE (eC (.bl false))))
 sNil)
 R__law_is_derivation_3)
def R__law_is_derivation_5 : S :=
 (sRet (oOfE (eCmp gEq (eIx (eVar .B 4) (eUn gNeg (eC (.int 1)))) (eVar .B 2))))
def R__law_is_derivation_6 : S :=
 (sSeq (sAsg 4 (oLst lNil))
 (sSeq (sSeq (sFrz 3) (sFor (lOfA (eVar .E 3)) (gNm 5)
 L__law_is_derivation_4))
 R__law_is_derivation_5))
def b__law_is_derivation : S :=
 (sSeq (sIf (tOrF (tNotF (tOfE (eUn (isT .list) (eVar .B 3)))) (tCmp gEq (eVar .B 3) (eOfO (oLst lNil))))
 (sRet (oOfE (eC (.bl false))))
 sNil)
 R__law_is_derivation_6)
def g__law_is_derivation : Fn := runFn 9 [.E, .B, .B, .E] b__law_is_derivation
theorem sc__law_is_derivation : FnScope ["rules", "start", "field", "value", "ahead", "entry", "shown_field", "conditions", "name"] ["rules", "start", "field", "value"] (defScope st__law_is_derivation) := ⟨rfl, rfl, rfl, by decide +kernel, rfl, by decide +kernel, by decide +kernel⟩
theorem ok__law_is_derivation {P : Program} {w : World} {K : PySem.W.Frag} {mg : Str → Option Value} {base : Heap} {f : Addr} {fd : FuncData} (T : Txt mg) (F : FunD K "_law_is_derivation" "_law_is_derivation" (defArgs st__law_is_derivation) (defBody st__law_is_derivation) (defScope st__law_is_derivation) [] [] f fd) (hg : mg "_law_is_derivation" = some (.ref f)) (D__law_is_integer : DefOk P w K mg base 1 "_law_is_integer" ["value"] [.B] g__law_is_integer) :
    DefOk P w K mg base 2 "_law_is_derivation" ["rules", "start", "field", "value"] [.E, .B, .B, .E] g__law_is_derivation :=
  have Sc := sc__law_is_derivation
  def_ok (k := 1) (N := ["rules", "start", "field", "value", "ahead", "entry", "shown_field", "conditions", "name"]) F Sc rfl (by decide) hg (fun _ _ _ _ _ _ us hl => match us, hl with | [_, _, _, _], _ => rfl) fun cdv A outer sh H E C hr tk po =>
 (bj_cons (sj_if (wj_tj (wj_or (tj_not (tj_val (ej_isi (m := .B) .list rfl T.f_isinstance rfl T.f_list (by decide +kernel) (ej_var (m := .B) (i := 3) rfl (.inl rfl))))) (wj_or1 (tj_cmp (op_eqD (huR hr).u64) cmp_eq (ej_var (m := .B) (i := 3) rfl (.inl rfl)) (ej_B (ej_O (oj_lst le_nil))) (nomark _)))))
 (bj_one (sj_ret (oj_E (ej_bl (m := .E)))))
 bj_nil)
 (bj_cons (sj_asg (i := 4) Sc.nd rfl (.inr rfl) (oj_lst le_nil))
 (bj_cons (sj_frz 3 (sj_for (vs := [5]) po rfl (ij_seqA (ej_var (m := .E) (i := 3) rfl (.inl rfl))) (gj_name (i := 5) Sc.nd rfl (.inl rfl))
 (bj_cons (sj_if (wj_tj (wj_or (tj_not (tj_val (ej_isi (m := .B) .tuple rfl T.f_isinstance rfl T.f_tuple (by decide +kernel) (ej_var (m := .B) (i := 5) rfl (.inl rfl))))) (wj_or (tj_cmp (op_neD (huR hr).u64) cmp_ne (ej_call1 (m := .B) call_len c_len rfl T.f_len (by decide +kernel) (ej_var (m := .B) (i := 5) rfl (.inl rfl))) (ej_int (m := .B)) (nomark _)) (wj_or (tj_not (tj_val (ej_isi (m := .B) .str rfl T.f_isinstance rfl T.f_str (by decide +kernel) (ej_ixB (huR hr) (ej_var (m := .B) (i := 5) rfl (.inl rfl)) (ej_int (m := .B)))))) (wj_or1 (tj_cmp (opr_in (huR hr)) cmp_in (ej_ixB (huR hr) (ej_var (m := .B) (i := 5) rfl (.inl rfl)) (ej_int (m := .B))) (ej_var (m := .B) (i := 4) rfl (.inr (.inl rfl))) (by rfl)))))))
 (bj_one (sj_ret (oj_E (ej_bl (m := .E)))))
 bj_nil)
 (bj_cons (sj_if (tj_cmp op_isN cmp_isN (ej_ixB (huR hr) (ej_var (m := .B) (i := 5) rfl (.inl rfl)) (ej_int (m := .B))) (ej_non (m := .B)) (nomark _))
 (bj_one (sj_if (tj_cmp (opr_notIn (huR hr)) cmp_notIn (ej_ixB (huR hr) (ej_var (m := .B) (i := 5) rfl (.inl rfl)) (ej_int (m := .B))) (ej_var (m := .B) (i := 1) rfl (.inl rfl)) (by rfl))
 (bj_one (sj_ret (oj_E (ej_bl (m := .E)))))
 bj_nil))
 (bj_cons (sj_if (wj_tj (wj_or (tj_not (tj_val (ej_B (ej_O (oj_call D__law_is_integer hr (by decide) tk rfl (lj_cons (ej_ixB (huR hr) (ej_var (m := .B) (i := 5) rfl (.inl rfl)) (ej_int (m := .B))) lj_nil)))))) (wj_or1 (tj_not (tj_chain opr_le cmp_le opr_lt cmp_lt (ej_int (m := .B)) (ej_ixB (huR hr) (ej_var (m := .B) (i := 5) rfl (.inl rfl)) (ej_int (m := .B))) (ej_call1 (m := .B) call_len c_len rfl T.f_len (by decide +kernel) (ej_var (m := .B) (i := 0) rfl (.inl rfl))))))))
 (bj_one (sj_ret (oj_E (ej_bl (m := .E)))))
 bj_nil)
 (bj_cons (sj_asgT (vs := [6, 7]) (ej_ix (huR hr) (ej_var (m := .I) (i := 0) rfl (.inl rfl)) (ej_ixB (huR hr) (ej_var (m := .B) (i := 5) rfl (.inl rfl)) (ej_int (m := .B)))) (gj_tup rfl (gjs_cons (gj_name (i := 6) Sc.nd rfl (.inl rfl)) (gjs_cons (gj_name (i := 7) Sc.nd rfl (.inl rfl)) gjs_nil))))
 (bj_one (sj_if (wj_tj (wj_or (tj_cmp (op_neD (huR hr).u64) cmp_ne (ej_var (m := .B) (i := 6) rfl (.inl rfl)) (ej_ixB (huR hr) (ej_var (m := .B) (i := 5) rfl (.inl rfl)) (ej_int (m := .B))) (nomark _)) (wj_or1 (tj_val (ej_B (ej_O (oj_comp rfl Sc.nd (own := [("name", 8)]) (ij_seqSA (ej_var (m := .I) (i := 7) rfl (.inl rfl))) (blkOk_by (N := ["rules", "start", "field", "value", "ahead", "entry", "shown_field", "conditions", "name"]) (sc := defScope st__law_is_derivation) (by decide +kernel)) (fun _ _ _ _ _ _ => (gj_name (i := 8) Sc.nd rfl (.inl rfl))) (fun _ _ _ _ _ _ => (tsj_one (tj_cmp (opr_notIn (huR hr)) cmp_notIn (ej_var (m := .B) (i := 8) rfl (.inl rfl)) (ej_var (m := .B) (i := 4) rfl (.inr (.inl rfl))) (by rfl)))) (fun _ _ _ _ _ _ => (ej_var (m := .E) (i := 8) rfl (.inl rfl))))))))))
 (bj_one (sj_ret (oj_E (ej_bl (m := .E)))))
 bj_nil)))))
 (bj_one (sj_app (i := 4) rfl (.inr (.inl rfl)) (qj_E (ej_ix (huR hr) (ej_var (m := .I) (i := 5) rfl (.inl rfl)) (ej_int (m := .B))))))))))
 (bj_one (sj_ret (oj_E (ej_cmp (m := .E) (op_eqD (huR hr).u64) cmp_eq (ej_ixB (huR hr) (ej_var (m := .B) (i := 4) rfl (.inr (.inl rfl))) (ej_neg (m := .B) (ej_int (m := .B)))) (ej_var (m := .B) (i := 2) rfl (.inl rfl)) (nomark _))))))))

/-! ### law -/
abbrev st_law : Stmt := top 25
def L_law_1 : S :=
 (sSeq (sFrz 10) (sSeq (sFrz 2) (sIf (tNotF (tOfE (eOfO (oCall g__law_says (lCons (eOfO (oCall g_is_derivation (lCons (eVar .E 2) (lCons (eVar .B 3) (lCons (eVar .B 8) (lCons (eVar .E 10) lNil)))))) (lCons (eOfO (oCall g__law_is_derivation (lCons (eVar .E 2) (lCons (eVar .B 3) (lCons (eVar .B 8) (lCons (eVar .E 10) lNil)))))) lNil))))))
 (sRet (oOfE (eC (.bl false))))
 sNil)))
def L_law_2 : S :=
 (sSeq (sFrz 7) (sSeq (sFrz 2) (sIf (tNotF (tOfE (eOfO (oCall g__law_says (lCons (eOfO (oCall g_is_derivation (lCons (eVar .E 2) (lCons (eVar .B 3) (lCons (eVar .B 11) (lCons (eVar .E 7) lNil)))))) (lCons (eCmp gEq (eVar .B 11) (eVar .B 8)) lNil))))))
 (sRet (oOfE (eC (.bl false))))
 sNil)))
def R_law_3 : S :=
 (sFor (lOfA (eOfO (oBin gAdd (eVar .I 1) (eOfO (oLst (lCons (eC (.str (txt "zzzzzzzzzzzz"))) lNil)))))) (gNm 11)
 L_law_2)
def R_law_4 : S :=
 (sSeq (sSeq (sFrz 7) (sFor (lOfA (eOfO (oCall g__law_changed (lCons (eVar .B 2) (lCons (eVar .E 7) (lCons (eOfO (oSl (eVar .I 4) (pAt (eVar .B 6)) pNo)) lNil)))))) (gNm 10)
 L_law_1))
 R_law_3)
def R_law_5 : S :=
 (sSeq (sAsg 8 (oOfE (eIx (eIx (eVar .I 7) (eUn gNeg (eC (.int 1)))) (eC (.int 0)))))
 (sSeq (sAsg 9 (oUn gList (eVar .I 2)))
 (sSeq (sSeq (sFrz 9) (sIf (tOrF (tNotF (tOfE (eOfO (oCall g__law_says (lCons (eOfO (oCall g_is_derivation (lCons (eVar .E 9) (lCons (eOfO (oUn gList (eVar .I 3))) (lCons (eVar .B 8) (lCons (eOfO (oUn gList (eVar .I 7))) lNil)))))) (lCons (eC (.bl true)) lNil)))))) (tCmp gNe (eVar .B 9) (eVar .B 2)))
 (sRet (oOfE (eC (.bl false))))
 sNil))
 R_law_4)))
def L_law_6 : S :=
 (sSeq (sAsg 7 (oSl (eVar .I 5) pNo (pAt (eOfO (oBin gAdd (eC (.int 1)) (eBin gMod (eIx (eVar .B 4) (eOfO (oBin gAdd (eC (.int 9)) (eVar .I 6)))) (eUn gLen (eVar .B 5))))))))
 (sSeq (sIf (tCmp gGt (eVar .B 6) (eC (.int 0)))
 (sSeq (sFrz 7) (sSeq (sFrz 2) (sAsg 7 (oCall g__law_needed (lCons (eVar .E 2) (lCons (eVar .E 7) lNil))))))
 sNil)
 R_law_5))
def R_law_7 : S :=
 (sRet (oOfE (eC (.bl true))))
def b_law : S :=
 (sSeq (sAsgT (gTp 3 (gsCons (gNm 1) (gsCons (gNm 2) (gsCons (gNm 3) gsNil)))) (eOfO (oCall g__law_world (lCons (eVar .B 0) (lCons (eC (.int 8)) (lCons (eC (.int 11)) lNil))))))
 (sSeq (sAsg 4 (oCall g__law_numbers (lCons (eVar .B 0) (lCons (eC (.int 24)) (lCons (eC (.int 16)) lNil)))))
 (sSeq (sAsg 2 (oBin gAdd (eVar .I 2) (eOfO (oLst (lCons (eTup (lCons (eIx (eVar .I 1) (eBin gMod (eIx (eVar .B 4) (eC (.int 8))) (eUn gLen (eVar .B 1)))) (lCons (eTup lNil) lNil))) lNil)))))
 (sSeq (sSeq (sFrz 3) (sSeq (sFrz 2) (sAsg 5 (oCall g__law_long (lCons (eVar .E 2) (lCons (eVar .E 3) (lCons (eVar .B 4) lNil)))))))
 (sSeq (sFor (lRange1 (eC (.int 3))) (gNm 6)
 L_law_6)
 R_law_7)))))
def g_law : Fn := runFn 12 [.E] b_law
theorem sc_law : FnScope ["script", "names", "rules", "start", "numbers", "whole", "turn", "value", "field", "given_rules", "changed", "other"] ["script"] (defScope st_law) := ⟨rfl, rfl, rfl, by decide +kernel, rfl, by decide +kernel, by decide +kernel⟩
theorem ok_law {P : Program} {w : World} {K : PySem.W.Frag} {mg : Str → Option Value} {base : Heap} {f : Addr} {fd : FuncData} (T : Txt mg) (F : FunD K "law" "law" (defArgs st_law) (defBody st_law) (defScope st_law) [] [] f fd) (D__law_changed : DefOk P w K mg base 1 "_law_changed" ["rules", "value", "numbers"] [.B, .E, .B] g__law_changed) (D__law_is_derivation : DefOk P w K mg base 2 "_law_is_derivation" ["rules", "start", "field", "value"] [.E, .B, .B, .E] g__law_is_derivation) (D__law_long : DefOk P w K mg base 1 "_law_long" ["rules", "start", "numbers"] [.E, .E, .B] g__law_long) (D__law_needed : DefOk P w K mg base 1 "_law_needed" ["rules", "value"] [.E, .E] g__law_needed) (D__law_numbers : DefOk P w K mg base 1 "_law_numbers" ["script", "at", "count"] [.B, .E, .B] g__law_numbers) (D__law_says : DefOk P w K mg base 1 "_law_says" ["actual", "due"] [.B, .B] g__law_says) (D__law_world : DefOk P w K mg base 3 "_law_world" ["script", "size", "most"] [.B, .B, .E] g__law_world) (D_is_derivation : DefOk P w K mg base 4 "is_derivation" ["rules", "start", "field", "value"] [.E, .B, .B, .E] g_is_derivation) :
    FnOk P w K mg base (L2.CX P w) 5 f fd ["script"] (spG K [.E] g_law) :=
  have Sc := sc_law
  fn_ok (k := 4) (N := ["script", "names", "rules", "start", "numbers", "whole", "turn", "value", "field", "given_rules", "changed", "other"]) F Sc rfl (by decide) fun cdv A outer sh H E C hr tk po =>
 (bj_cons (sj_asgT (vs := [1, 2, 3]) (ej_O (oj_call D__law_world hr (by decide) tk rfl (lj_cons (ej_var (m := .B) (i := 0) rfl (.inl rfl)) (lj_cons (ej_int (m := .B)) (lj_cons (ej_int (m := .E)) lj_nil))))) (gj_tup rfl (gjs_cons (gj_name (i := 1) Sc.nd rfl (.inl rfl)) (gjs_cons (gj_name (i := 2) Sc.nd rfl (.inl rfl)) (gjs_cons (gj_name (i := 3) Sc.nd rfl (.inl rfl)) gjs_nil)))))
 (bj_cons (sj_asg (i := 4) Sc.nd rfl (.inl rfl) (oj_call D__law_numbers hr (by decide) tk rfl (lj_cons (ej_var (m := .B) (i := 0) rfl (.inl rfl)) (lj_cons (ej_int (m := .E)) (lj_cons (ej_int (m := .B)) lj_nil)))))
 (bj_cons (sj_asg (i := 2) Sc.nd rfl (.inl rfl) (oj_add (ej_var (m := .I) (i := 2) rfl (.inl rfl)) (ej_I (ej_O (oj_lst (le_cons (ej_tup (le_cons (ej_ix (huR hr) (ej_var (m := .I) (i := 1) rfl (.inl rfl)) (ej_mod (m := .B) (ej_ixB (huR hr) (ej_var (m := .B) (i := 4) rfl (.inl rfl)) (ej_int (m := .B))) (ej_call1 (m := .B) call_len c_len rfl T.f_len (by decide +kernel) (ej_var (m := .B) (i := 1) rfl (.inl rfl))))) (le_cons (ej_tup le_nil) le_nil))) le_nil))))))
 (bj_cons (sj_frz 3 (sj_frz 2 (sj_asg (i := 5) Sc.nd rfl (.inl rfl) (oj_call D__law_long hr (by decide) tk rfl (lj_cons (ej_var (m := .E) (i := 2) rfl (.inl rfl)) (lj_cons (ej_var (m := .E) (i := 3) rfl (.inl rfl)) (lj_cons (ej_var (m := .B) (i := 4) rfl (.inl rfl)) lj_nil)))))))
 (bj_cons (sj_for (vs := [6]) po rfl (ij_range1 rfl T.f_range (ej_int (m := .B))) (gj_name (i := 6) Sc.nd rfl (.inl rfl))
 (bj_cons (sj_asg (i := 7) Sc.nd rfl (.inl rfl) (oj_sl (ej_var (m := .I) (i := 5) rfl (.inl rfl)) pj_none (pj_some (ej_B (ej_O (oj_add (ej_int (m := .I)) (ej_mod (m := .I) (ej_ixB (huR hr) (ej_var (m := .B) (i := 4) rfl (.inl rfl)) (ej_B (ej_O (oj_add (ej_int (m := .I)) (ej_var (m := .I) (i := 6) rfl (.inl rfl)))))) (ej_call1 (m := .B) call_len c_len rfl T.f_len (by decide +kernel) (ej_var (m := .B) (i := 5) rfl (.inl rfl))))))))))
 (bj_cons (sj_if (tj_cmp opr_gt cmp_gt (ej_var (m := .B) (i := 6) rfl (.inl rfl)) (ej_int (m := .B)) (nomark _))
 (bj_one (sj_frz 7 (sj_frz 2 (sj_asg (i := 7) Sc.nd rfl (.inl rfl) (oj_call D__law_needed hr (by decide) tk rfl (lj_cons (ej_var (m := .E) (i := 2) rfl (.inl rfl)) (lj_cons (ej_var (m := .E) (i := 7) rfl (.inl rfl)) lj_nil)))))))
 bj_nil)
 (bj_cons (sj_asg (i := 8) Sc.nd rfl (.inl rfl) (oj_E (ej_ix (huR hr) (ej_I (ej_ix (huR hr) (ej_var (m := .I) (i := 7) rfl (.inl rfl)) (ej_neg (m := .B) (ej_int (m := .B))))) (ej_int (m := .B)))))
 (bj_cons (sj_asg (i := 9) Sc.nd rfl (.inl rfl) (oj_callT1 call_list_of c_list rfl T.f_list (by decide +kernel) (ej_var (m := .I) (i := 2) rfl (.inl rfl))))
 (bj_cons (sj_frz 9 (sj_if (wj_tj (wj_or (tj_not (tj_val (ej_B (ej_O (oj_call D__law_says hr (by decide) tk rfl (lj_cons (ej_B (ej_O (oj_call D_is_derivation hr (by decide) tk rfl (lj_cons (ej_var (m := .E) (i := 9) rfl (.inl rfl)) (lj_cons (ej_B (ej_O (oj_callT1 call_list_of c_list rfl T.f_list (by decide +kernel) (ej_var (m := .I) (i := 3) rfl (.inl rfl))))) (lj_cons (ej_var (m := .B) (i := 8) rfl (.inl rfl)) (lj_cons (ej_O (oj_callT1 call_list_of c_list rfl T.f_list (by decide +kernel) (ej_var (m := .I) (i := 7) rfl (.inl rfl)))) lj_nil))))))) (lj_cons (ej_bl (m := .B)) lj_nil))))))) (wj_or1 (tj_cmp (op_neD (huR hr).u64) cmp_ne (ej_var (m := .B) (i := 9) rfl (.inl rfl)) (ej_var (m := .B) (i := 2) rfl (.inl rfl)) (nomark _)))))
 (bj_one (sj_ret (oj_E (ej_bl (m := .E)))))
 bj_nil))
 (bj_cons (sj_frz 7 (sj_for (vs := [10]) po rfl (ij_seqA (ej_O (oj_call D__law_changed hr (by decide) tk rfl (lj_cons (ej_var (m := .B) (i := 2) rfl (.inl rfl)) (lj_cons (ej_var (m := .E) (i := 7) rfl (.inl rfl)) (lj_cons (ej_B (ej_O (oj_sl (ej_var (m := .I) (i := 4) rfl (.inl rfl)) (pj_some (ej_var (m := .B) (i := 6) rfl (.inl rfl))) pj_none))) lj_nil)))))) (gj_name (i := 10) Sc.nd rfl (.inl rfl))
 (bj_one (sj_frz 10 (sj_frz 2 (sj_if (tj_not (tj_val (ej_B (ej_O (oj_call D__law_says hr (by decide) tk rfl (lj_cons (ej_B (ej_O (oj_call D_is_derivation hr (by decide) tk rfl (lj_cons (ej_var (m := .E) (i := 2) rfl (.inl rfl)) (lj_cons (ej_var (m := .B) (i := 3) rfl (.inl rfl)) (lj_cons (ej_var (m := .B) (i := 8) rfl (.inl rfl)) (lj_cons (ej_var (m := .E) (i := 10) rfl (.inl rfl)) lj_nil))))))) (lj_cons (ej_B (ej_O (oj_call D__law_is_derivation hr (by decide) tk rfl (lj_cons (ej_var (m := .E) (i := 2) rfl (.inl rfl)) (lj_cons (ej_var (m := .B) (i := 3) rfl (.inl rfl)) (lj_cons (ej_var (m := .B) (i := 8) rfl (.inl rfl)) (lj_cons (ej_var (m := .E) (i := 10) rfl (.inl rfl)) lj_nil))))))) lj_nil)))))))
 (bj_one (sj_ret (oj_E (ej_bl (m := .E)))))
 bj_nil))))))
 (bj_one (sj_for (vs := [11]) po rfl (ij_seqA (ej_O (oj_add (ej_var (m := .I) (i := 1) rfl (.inl rfl)) (ej_I (ej_O (oj_lst (le_cons (ej_str (m := .E) (mkS_txt _).symm) le_nil))))))) (gj_name (i := 11) Sc.nd rfl (.inl rfl))
 (bj_one (sj_frz 7 (sj_frz 2 (sj_if (tj_not (tj_val (ej_B (ej_O (oj_call D__law_says hr (by decide) tk rfl (lj_cons (ej_B (ej_O (oj_call D_is_derivation hr (by decide) tk rfl (lj_cons (ej_var (m := .E) (i := 2) rfl (.inl rfl)) (lj_cons (ej_var (m := .B) (i := 3) rfl (.inl rfl)) (lj_cons (ej_var (m := .B) (i := 11) rfl (.inl rfl)) (lj_cons (ej_var (m := .E) (i := 7) rfl (.inl rfl)) lj_nil))))))) (lj_cons (ej_cmp (m := .B) (op_eqD (huR hr).u64) cmp_eq (ej_var (m := .B) (i := 11) rfl (.inl rfl)) (ej_var (m := .B) (i := 8) rfl (.inl rfl)) (nomark _)) lj_nil)))))))
 (bj_one (sj_ret (oj_E (ej_bl (m := .E)))))
 bj_nil)))))))))))))
 (bj_one (sj_ret (oj_E (ej_bl (m := .E))))))))))

/-! ### the head -/
def dd__law_numbers : He.DefD := ⟨("_law_numbers", none), "_law_numbers", "_law_numbers", defArgs st__law_numbers, defBody st__law_numbers, defScope st__law_numbers, [], []⟩
def dd__law_pool : He.DefD := ⟨("_law_pool", none), "_law_pool", "_law_pool", defArgs st__law_pool, defBody st__law_pool, defScope st__law_pool, [], []⟩
def dd__law_some : He.DefD := ⟨("_law_some", none), "_law_some", "_law_some", defArgs st__law_some, defBody st__law_some, defScope st__law_some, [], []⟩
def dd__law_rules : He.DefD := ⟨("_law_rules", none), "_law_rules", "_law_rules", defArgs st__law_rules, defBody st__law_rules, defScope st__law_rules, [], []⟩
def dd__law_world : He.DefD := ⟨("_law_world", none), "_law_world", "_law_world", defArgs st__law_world, defBody st__law_world, defScope st__law_world, [], []⟩
def dd__law_long : He.DefD := ⟨("_law_long", none), "_law_long", "_law_long", defArgs st__law_long, defBody st__law_long, defScope st__law_long, [], []⟩
def dd__law_changed : He.DefD := ⟨("_law_changed", none), "_law_changed", "_law_changed", defArgs st__law_changed, defBody st__law_changed, defScope st__law_changed, [], []⟩
def dd__law_needed : He.DefD := ⟨("_law_needed", none), "_law_needed", "_law_needed", defArgs st__law_needed, defBody st__law_needed, defScope st__law_needed, [], []⟩
def dd__law_says : He.DefD := ⟨("_law_says", none), "_law_says", "_law_says", defArgs st__law_says, defBody st__law_says, defScope st__law_says, [], []⟩
def dd_all_in : He.DefD := ⟨("all_in", none), "all_in", "all_in", defArgs st_all_in, defBody st_all_in, defScope st_all_in, [], []⟩
def dd_stands : He.DefD := ⟨("stands", none), "stands", "stands", defArgs st_stands, defBody st_stands, defScope st_stands, [], []⟩
def dd_has_name_signs : He.DefD := ⟨("has_name_signs", none), "has_name_signs", "has_name_signs", defArgs st_has_name_signs, defBody st_has_name_signs, defScope st_has_name_signs, [], []⟩
def dd_is_name : He.DefD := ⟨("is_name", none), "is_name", "is_name", defArgs st_is_name, defBody st_is_name, defScope st_is_name, [], []⟩
def dd_is_whole : He.DefD := ⟨("is_whole", none), "is_whole", "is_whole", defArgs st_is_whole, defBody st_is_whole, defScope st_is_whole, [], []⟩
def dd_is_entry : He.DefD := ⟨("is_entry", none), "is_entry", "is_entry", defArgs st_is_entry, defBody st_is_entry, defScope st_is_entry, [], []⟩
def dd_is_derivation : He.DefD := ⟨("is_derivation", none), "is_derivation", "is_derivation", defArgs st_is_derivation, defBody st_is_derivation, defScope st_is_derivation, [], []⟩
def dd__law_is_integer : He.DefD := ⟨("_law_is_integer", none), "_law_is_integer", "_law_is_integer", defArgs st__law_is_integer, defBody st__law_is_integer, defScope st__law_is_integer, [], []⟩
def dd__law_is_derivation : He.DefD := ⟨("_law_is_derivation", none), "_law_is_derivation", "_law_is_derivation", defArgs st__law_is_derivation, defBody st__law_is_derivation, defScope st__law_is_derivation, [], []⟩
def dd_law : He.DefD := ⟨("law", none), "law", "law", defArgs st_law, defBody st_law, defScope st_law, [], []⟩
def fn : List He.DefD := ([dd__law_numbers, dd__law_pool, dd__law_some, dd__law_rules, dd__law_world, dd__law_long, dd__law_changed, dd__law_needed, dd__law_says, dd_all_in, dd_stands, dd_has_name_signs, dd_is_name, dd_is_whole, dd_is_entry, dd_is_derivation, dd__law_is_integer, dd__law_is_derivation, dd_law] : List He.DefD)
def fa : List He.Fa := ([.glo "_law_numbers", .glo "_law_pool", .glo "_law_some", .glo "_law_rules", .glo "_law_world", .glo "_law_long", .glo "_law_changed", .glo "_law_needed", .glo "_law_says", .glo "all_in", .glo "stands", .glo "has_name_signs", .glo "is_name", .glo "is_whole", .glo "is_entry", .glo "is_derivation", .glo "_law_is_integer", .glo "_law_is_derivation", .glo "law", .free "all", .free "bool", .free "int", .free "isinstance", .free "len", .free "list"] : List He.Fa) ++ ([.free "range", .free "sorted", .free "str", .free "tuple", .str "FIGURES" (mkS (txt "0123456789")), .str "LETTERS" (mkS (txt "abcdefghijklmnopqrstuvwxyz")), .int "LONGEST_NAME" 12] : List He.Fa)
def loose : List Str := (["LETTERS", "FIGURES", "LONGEST_NAME", "is_whole", "has_name_signs", "is_name", "all_in", "is_entry", "stands", "is_derivation", "_law_numbers", "_law_is_integer", "_law_says", "_law_pool", "_law_some", "_law_rules", "_law_world", "_law_is_derivation", "_law_long", "_law_needed", "_law_changed"] : List Str)
abbrev R : PySem.W.OpenRow := PySem.W.OpenLaw.row PySem.Challenge.rw_formsforall_k27_judge_of_derivations
abbrev hk : PySem.W.Hook := He.hookD 4 fa fn
def ob (s : PySem.W.SharedT) : He.AlD := He.obsDG 4 fa fn (HandSHeadRun.getT s)
theorem ob_eq (s : PySem.W.SharedT) : ob s = hk.obs s.abs := He.obsDG_eq (HandSHeadRun.getT_eq s)
theorem run (w : World) : HandSHeadRun.RunEq R (PySem.W.view R.prog [25]) hk ob 20000 loose w := by
  intro os
  kernel_rfl
theorem facts {P : Program} {w : World} {K : PySem.W.Frag} {h : Heap} {mg : Str → Option Value} {f : Addr} (X : K.In h) (G : h.Ns mainGlobals mg) (hfa : mg ("law" : Str) = some (.ref f)) (c : He.SaysD fa fn K) :
    ∃ fd : FuncData, (∀ (s : Shared) (v : Value), BindsTo s fd ⟨[v], []⟩ [("script", v)]) ∧ ∀ base : Heap, K.In base → base.Ns mainGlobals mg → FnOk P w K mg base (L2.CX P w) 5 f fd ["script"] (spG K [.E] g_law) := by
  obtain ⟨fd__law_numbers, F__law_numbers⟩ := c.def_ 0 (d := dd__law_numbers) rfl
  have G__law_numbers := He.glo_ok X G (c.fact 0 (f := .glo "_law_numbers") rfl)
  obtain ⟨fd__law_pool, F__law_pool⟩ := c.def_ 1 (d := dd__law_pool) rfl
  have G__law_pool := He.glo_ok X G (c.fact 1 (f := .glo "_law_pool") rfl)
  obtain ⟨fd__law_some, F__law_some⟩ := c.def_ 2 (d := dd__law_some) rfl
  have G__law_some := He.glo_ok X G (c.fact 2 (f := .glo "_law_some") rfl)
  obtain ⟨fd__law_rules, F__law_rules⟩ := c.def_ 3 (d := dd__law_rules) rfl
  have G__law_rules := He.glo_ok X G (c.fact 3 (f := .glo "_law_rules") rfl)
  obtain ⟨fd__law_world, F__law_world⟩ := c.def_ 4 (d := dd__law_world) rfl
  have G__law_world := He.glo_ok X G (c.fact 4 (f := .glo "_law_world") rfl)
  obtain ⟨fd__law_long, F__law_long⟩ := c.def_ 5 (d := dd__law_long) rfl
  have G__law_long := He.glo_ok X G (c.fact 5 (f := .glo "_law_long") rfl)
  obtain ⟨fd__law_changed, F__law_changed⟩ := c.def_ 6 (d := dd__law_changed) rfl
  have G__law_changed := He.glo_ok X G (c.fact 6 (f := .glo "_law_changed") rfl)
  obtain ⟨fd__law_needed, F__law_needed⟩ := c.def_ 7 (d := dd__law_needed) rfl
  have G__law_needed := He.glo_ok X G (c.fact 7 (f := .glo "_law_needed") rfl)
  obtain ⟨fd__law_says, F__law_says⟩ := c.def_ 8 (d := dd__law_says) rfl
  have G__law_says := He.glo_ok X G (c.fact 8 (f := .glo "_law_says") rfl)
  obtain ⟨fd_all_in, F_all_in⟩ := c.def_ 9 (d := dd_all_in) rfl
  have G_all_in := He.glo_ok X G (c.fact 9 (f := .glo "all_in") rfl)
  obtain ⟨fd_stands, F_stands⟩ := c.def_ 10 (d := dd_stands) rfl
  have G_stands := He.glo_ok X G (c.fact 10 (f := .glo "stands") rfl)
  obtain ⟨fd_has_name_signs, F_has_name_signs⟩ := c.def_ 11 (d := dd_has_name_signs) rfl
  have G_has_name_signs := He.glo_ok X G (c.fact 11 (f := .glo "has_name_signs") rfl)
  obtain ⟨fd_is_name, F_is_name⟩ := c.def_ 12 (d := dd_is_name) rfl
  have G_is_name := He.glo_ok X G (c.fact 12 (f := .glo "is_name") rfl)
  obtain ⟨fd_is_whole, F_is_whole⟩ := c.def_ 13 (d := dd_is_whole) rfl
  have G_is_whole := He.glo_ok X G (c.fact 13 (f := .glo "is_whole") rfl)
  obtain ⟨fd_is_entry, F_is_entry⟩ := c.def_ 14 (d := dd_is_entry) rfl
  have G_is_entry := He.glo_ok X G (c.fact 14 (f := .glo "is_entry") rfl)
  obtain ⟨fd_is_derivation, F_is_derivation⟩ := c.def_ 15 (d := dd_is_derivation) rfl
  have G_is_derivation := He.glo_ok X G (c.fact 15 (f := .glo "is_derivation") rfl)
  obtain ⟨fd__law_is_integer, F__law_is_integer⟩ := c.def_ 16 (d := dd__law_is_integer) rfl
  have G__law_is_integer := He.glo_ok X G (c.fact 16 (f := .glo "_law_is_integer") rfl)
  obtain ⟨fd__law_is_derivation, F__law_is_derivation⟩ := c.def_ 17 (d := dd__law_is_derivation) rfl
  have G__law_is_derivation := He.glo_ok X G (c.fact 17 (f := .glo "_law_is_derivation") rfl)
  obtain ⟨fd_law, F_law⟩ := c.def_ 18 (d := dd_law) rfl
  have G_law := He.glo_ok X G (c.fact 18 (f := .glo "law") rfl)
  have T : Txt mg := ⟨trivial,
    He.free_ok X G (c.fact 19 (f := .free "all") rfl),
    He.free_ok X G (c.fact 20 (f := .free "bool") rfl),
    He.free_ok X G (c.fact 21 (f := .free "int") rfl),
    He.free_ok X G (c.fact 22 (f := .free "isinstance") rfl),
    He.free_ok X G (c.fact 23 (f := .free "len") rfl),
    He.free_ok X G (c.fact 24 (f := .free "list") rfl),
    He.free_ok X G (c.fact 25 (f := .free "range") rfl),
    He.free_ok X G (c.fact 26 (f := .free "sorted") rfl),
    He.free_ok X G (c.fact 27 (f := .free "str") rfl),
    He.free_ok X G (c.fact 28 (f := .free "tuple") rfl),
    He.str_ok X G (c.fact 29 (f := .str "FIGURES" (mkS (txt "0123456789"))) rfl),
    He.str_ok X G (c.fact 30 (f := .str "LETTERS" (mkS (txt "abcdefghijklmnopqrstuvwxyz"))) rfl),
    He.int_ok X G (c.fact 31 (f := .int "LONGEST_NAME" 12) rfl)⟩
  have e := hfa.symm.trans G_law
  cases e
  refine ⟨fd_law, fun s v => FunD.bindsA (ps := ["script"]) F_law (fun _ _ _ _ _ _ us hl => match us, hl with | [_], _ => rfl) s [v] rfl, fun base _ _ => ?_⟩
  have D__law_numbers := ok__law_numbers (P := P) (w := w) (base := base) T F__law_numbers G__law_numbers 
  have D__law_pool := ok__law_pool (P := P) (w := w) (base := base) T F__law_pool G__law_pool D__law_numbers
  have D__law_some := ok__law_some (P := P) (w := w) (base := base) T F__law_some G__law_some 
  have D__law_rules := ok__law_rules (P := P) (w := w) (base := base) T F__law_rules G__law_rules D__law_numbers D__law_some
  have D__law_world := ok__law_world (P := P) (w := w) (base := base) T F__law_world G__law_world D__law_numbers D__law_pool D__law_rules D__law_some
  have D__law_long := ok__law_long (P := P) (w := w) (base := base) T F__law_long G__law_long 
  have D__law_changed := ok__law_changed (P := P) (w := w) (base := base) T F__law_changed G__law_changed 
  have D__law_needed := ok__law_needed (P := P) (w := w) (base := base) T F__law_needed G__law_needed 
  have D__law_says := ok__law_says (P := P) (w := w) (base := base) T F__law_says G__law_says 
  have D_all_in := ok_all_in (P := P) (w := w) (base := base) T F_all_in G_all_in 
  have D_stands := ok_stands (P := P) (w := w) (base := base) T F_stands G_stands D_all_in
  have D_has_name_signs := ok_has_name_signs (P := P) (w := w) (base := base) T F_has_name_signs G_has_name_signs 
  have D_is_name := ok_is_name (P := P) (w := w) (base := base) T F_is_name G_is_name D_has_name_signs
  have D_is_whole := ok_is_whole (P := P) (w := w) (base := base) T F_is_whole G_is_whole 
  have D_is_entry := ok_is_entry (P := P) (w := w) (base := base) T F_is_entry G_is_entry D_is_name D_is_whole
  have D_is_derivation := ok_is_derivation (P := P) (w := w) (base := base) T F_is_derivation G_is_derivation D_is_entry D_stands
  have D__law_is_integer := ok__law_is_integer (P := P) (w := w) (base := base) T F__law_is_integer G__law_is_integer 
  have D__law_is_derivation := ok__law_is_derivation (P := P) (w := w) (base := base) T F__law_is_derivation G__law_is_derivation D__law_is_integer
  exact ok_law (P := P) (w := w) (base := base) T F_law D__law_changed D__law_is_derivation D__law_long D__law_needed D__law_numbers D__law_says D__law_world D_is_derivation
end Lw
end
section
open PySem PySem.W PySem.Calls PyProof.Rows
theorem Lw.ends (hl : ∀ ns : List Int, ns.length ≤ 63 → Lw.g_law [.rol (ns.map .int)] = .ok (.fz (.bl true))) : PySem.Challenge.rw_formsforall_k27_judge_of_derivations.Holds := by
  w_on; o_law
  refine HandSHeadRun.head_any (r := OpenLaw.row PySem.Challenge.rw_formsforall_k27_judge_of_derivations) (q := view (OpenLaw.row PySem.Challenge.rw_formsforall_k27_judge_of_derivations).prog [25]) (H := Lw.hk) (ob := Lw.ob) (M := 20000) (loose := Lw.loose) (d := HandSHeadRun.topDef (OpenLaw.row PySem.Challenge.rw_formsforall_k27_judge_of_derivations).prog 25) (kwd := []) Lw.ob_eq
    (by kernel_rfl) (fun s => by kernel_rfl) Lw.run (by kernel_rfl) (by kernel_rfl) (by kernel_rfl) (by rfl) (by first | assumption | decide +kernel) (by decide +kernel) ⟨rfl, rfl, rfl, rfl, rfl, by decide +kernel⟩ ?hw ?hc
  case hw => w_witness2
  case hc =>
    refine L2.walk_ofE (l := PySem.Challenge.rw_formsforall_k27_judge_of_derivations) (n := 63) (k := 5) (x := "script") (CX := L2.CX0) rfl (by decide) (by kernel_rfl) ⟨rfl, by decide, by decide⟩ ?F (fun _ _ _ _ z => z)
    intro w mg fa h Y G hmg0
    obtain ⟨K, KX, c⟩ := Y
    have hmg : mg ("law" : PySem.Str) = some (.ref fa) := by
      have e : (HandSHeadRun.topDef (OpenLaw.row PySem.Challenge.rw_formsforall_k27_judge_of_derivations).prog 25).name = ("law" : PySem.Str) := by kernel_rfl
      rw [← e]
      exact hmg0
    obtain ⟨fd, hb, hF⟩ := Lw.facts (P := (PySem.Challenge.rw_formsforall_k27_judge_of_derivations).prog) (w := w) KX G hmg c
    exact ⟨K, fd, (fun vs H Q _ => Fz.spG K [.E] Lw.g_law vs H Q fun _ _ _ => False), KX, hb, fun H a ns hl1 hO hS => Fz.law_sp hl hl1 hO hS, fun base k1 k2 => Fz.FnOk.calm (hF base k1 k2)⟩
end
section
namespace Lw
open Fz
open PySem (sizeLine)
def lows (n : Nat) (xs : List Int) : Prop := xs.length = n ∧ ∀ i ∈ xs, 0 ≤ i ∧ i < 1009
theorem lows_app {n : Nat} {xs : List Int} {i : Int} (h : lows n xs) (h0 : 0 ≤ i) (h1 : i < 1009) : lows (n + 1) (xs ++ [i]) := by
  refine ⟨by simp [h.1], fun p hp => ?_⟩
  rcases List.mem_append.mp hp with q | q
  · exact h.2 p q
  · have : p = i := by simpa using q
    subst this; exact ⟨h0, h1⟩
theorem snoc_map {xs : List Int} {i : Int} : xs.map PV.int ++ [.int i] = (xs ++ [i]).map PV.int := by simp
section
variable (ns : List Int) (at' count : Nat)
def numI (k : Nat) (ρ : Env) : Prop := ∃ (cell : Int) (x5 x6 : Fz.Slot) (xs : List Int), ρ = [.bor (.rol (ns.map .int)), .val (.int at'), .bor (.int count), .val (.int cell), .own (.l (xs.map .int)), x5, x6] ∧ lows k xs
theorem num_body (hc : count ≤ 1000000) (P : Po) (k : Nat) (hk : k < count) (ρ : Env) (h : numI ns at' count k ρ) (h1 : ∀ ρ, numI ns at' count (k + 1) ρ → P.nx ρ) : sat (stp (gNm 5) L__law_numbers_1 (.int (0 + k)) ρ) P := by
  obtain ⟨cell, x5, x6, xs, rfl, hx⟩ := h
  have hl : xs.length < sizeLine := lt_line (by rw [hx.1]; omega)
  simp [L__law_numbers_1, hl]
  refine sat_if (fun hcell => ?_) (fun hcell => ?_)
  · simp
    rw [snoc_map]
    exact h1 _ ⟨_, _, _, _, rfl, lows_app hx (Int.emod_nonneg _ (by decide)) (Int.emod_lt_of_pos _ (by decide))⟩
  · generalize hm : (cell * 48271 + ((k : Int) + 1) * 69621 + (at' : Int) * 4001) % 2147483647 = mixed
    have m0 : 0 ≤ mixed := hm ▸ Int.emod_nonneg _ (by decide)
    have m1 : mixed < 2147483647 := hm ▸ Int.emod_lt_of_pos _ (by decide)
    have mm : gMul (.int mixed) (.int mixed) = some (.fz (.int (mixed * mixed))) := gMul_l _ _ (by omega) (by omega)
    simp [mm, hl]
    rw [snoc_map]
    exact h1 _ ⟨_, _, _, _, rfl, lows_app hx (Int.emod_nonneg _ (by decide)) (Int.emod_lt_of_pos _ (by decide))⟩
theorem num_R3 (hc : count ≤ 1000000) (cell : Int) : sat (R__law_numbers_3 [.bor (.rol (ns.map .int)), .val (.int at'), .bor (.int count), .val (.int cell), .u, .u, .u]) (poR fun o => ∃ xs : List Int, o = .l (xs.map .int) ∧ lows count xs) := by
  simp [R__law_numbers_3, rng_nat (show count < 4611686018427387904 by omega)]
  refine sat_range (numI ns at' count) ⟨cell, _, _, [], rfl, rfl, fun _ h => nomatch h⟩ (fun k ρ hk hI => num_body ns at' count hc _ k hk ρ hI fun _ h => h) ?_
  rintro _ ⟨cell, x5, x6, xs, rfl, hx⟩
  simp [R__law_numbers_2]
  exact ⟨xs, rfl, hx⟩
theorem numbers_ok (hc : count ≤ 1000000) : ∃ xs : List Int, g__law_numbers [.rol (ns.map .int), .int at', .int count] = .ok (.l (xs.map .int)) ∧ lows count xs := by
  have R4 : ∀ cell : Int, sat (R__law_numbers_4 [.bor (.rol (ns.map .int)), .val (.int at'), .bor (.int count), .val (.int cell), .u, .u, .u]) (poR fun o => ∃ xs : List Int, o = .l (xs.map .int) ∧ lows count xs) := fun cell => by
    simp [R__law_numbers_4]
    refine sat_if (fun h => ?_) (fun h => ?_)
    · simp
      have := num_R3 ns at' count hc (1 - 2 * cell)
      exact this
    · simp
      exact num_R3 ns at' count hc _
  obtain ⟨o, e, xs, rfl, hx⟩ : ∃ o, g__law_numbers [.rol (ns.map .int), .int at', .int count] = .ok o ∧ ∃ xs : List Int, o = .l (xs.map .int) ∧ lows count xs := by
    refine run_ok _ rfl ?_
    simp [b__law_numbers, slotsOf, slotOf, List.replicate]
    refine sat_if (fun h => ?_) (fun h => ?_)
    · rw [atI_map, atI_nn _ _ (by omega) (by omega)]
      simp; exact R4 _
    · simp; exact R4 _
  exact ⟨xs, e, hx⟩
end
end Lw
end
section
namespace Lw
open Fz
open PySem (sizeLine)
open L2 (atI ixN)
theorem numbers_okI (ns : List Int) (a c : Int) (h0 : 0 ≤ a) (h1 : 0 ≤ c) (h2 : c ≤ 1000000) : ∃ xs : List Int, g__law_numbers [.rol (ns.map .int), .int a, .int c] = .ok (.l (xs.map .int)) ∧ lows c.toNat xs := by
  have := numbers_ok ns a.toNat c.toNat (by omega)
  rw [Int.toNat_of_nonneg h0, Int.toNat_of_nonneg h1] at this
  exact this
theorem low_get {n : Nat} {xs : List Int} (h : lows n xs) {i : Int} (h0 : 0 ≤ i) (h1 : i < n) : ∃ v : Int, atI (xs.map PV.int) i = some (.int v) ∧ 0 ≤ v ∧ v < 1009 := by
  rw [atI_map, atI_nn _ _ h0 (by rw [h.1]; exact h1)]
  exact ⟨_, rfl, h.2 _ (List.getElem_mem _)⟩
theorem cut_last {α : Type} (xs : List α) (k : Nat) (h : 0 < k) : cut xs (some (-(k : Int))) none = xs.drop (xs.length - k) := by
  have e : HT.sIx xs.length 0 (some (-(k : Int))) = xs.length - k := by
    show (if -(k : Int) < 0 then (-(k : Int) + (xs.length : Int)).toNat else min (-(k : Int)).toNat xs.length) = _
    rw [if_pos (by omega)]
    omega
  unfold cut
  rw [e]
  show (xs.drop (xs.length - k)).take (xs.length - (xs.length - k)) = _
  rw [List.take_of_length_le]
  rw [List.length_drop]
  omega
theorem lows_last {n : Nat} {xs : List Int} (h : lows n xs) (k : Nat) (hk : k ≤ n) : lows k (xs.drop (xs.length - k)) :=
  ⟨by rw [List.length_drop, h.1]; omega, fun i hi => h.2 i (List.mem_of_mem_drop hi)⟩
theorem txt_nil : txt "" = [] := by decide +kernel
theorem sgT_eq : txt "abcdefghijklmnopqrstuvwxyz0123456789" = lowsT ++ figsT := by decide +kernel
theorem strsOf_one {α : Type} (f : α → Fin 1114112) (xs : List α) : strsOf (xs.map fun x => PV.str [f x]) = some (xs.map fun x => [f x]) := by
  have := strsOf_map (xs.map fun x => [f x])
  rw [List.map_map] at this
  exact this
theorem flat_one {α β : Type} (f : α → β) : ∀ xs : List α, (xs.map fun x => [f x]).flatten = xs.map f
  | [] => rfl
  | x :: xs => by rw [List.map_cons, List.flatten_cons, flat_one f xs]; rfl
theorem sum_one {α β : Type} (f : α → β) : ∀ xs : List α, ((xs.map fun x => [f x]).map (·.length)).sum = xs.length
  | [] => rfl
  | x :: xs => by
    rw [List.map_cons, List.map_cons, List.sum_cons, sum_one f xs]
    show 1 + xs.length = xs.length + 1
    omega
theorem gJoin_one {α : Type} (f : α → Fin 1114112) (xs : List α) (h : xs.length ≤ 1000000) : gJoin (.str (txt "")) (.lst (xs.map fun x => .str [f x])) = some (.str (xs.map f)) := by
  show (strsOf _).bind _ = _
  rw [strsOf_one, txt_nil]
  simp only [Option.bind_some]
  rw [if_pos]
  · congr 2
    cases xs with
    | nil => rfl
    | cons x xs =>
      show [f x] ++ ((xs.map fun x => [f x]).map fun y => [] ++ y).flatten = _
      rw [show ((xs.map fun x => [f x]).map fun y => [] ++ y) = xs.map fun x => [f x] by simp, flat_one]
      rfl
  · rw [List.map_map] 
    have := sum_one f xs
    rw [List.map_map] at this
    rw [this]
    simp
    omega
/-! _law_pool -/
def poolI (ns : List Int) (a : Nat) (count : Int) (k : Nat) (ρ : Fz.Env) : Prop := ∃ (ts : List Tx) (x5 x6 x7 x8 : Fz.Slot), ρ = [.bor (.rol (ns.map .int)), .val (.int a), .bor (.int count), .val (.str (lowsT ++ figsT)), .own (.l (ts.map .str)), x5, x6, x7, x8, .u, .u] ∧
  ts.length ≤ k ∧ ts.Nodup ∧ (∀ t ∈ ts, goodN t) ∧ (0 < k → ts ≠ [])
theorem pool_step (ns : List Int) (a : Nat) (count : Int) (k : Nat) (hk : k < 60) (ρ : Fz.Env) (h : poolI ns a count k ρ) (P : Po) (hP : ∀ ρ, poolI ns a count (k + 1) ρ → P.nx ρ) : sat (stp (gNm 5) L__law_pool_1 (.int (0 + k)) ρ) P := by
  obtain ⟨ts, x5, x6, x7, x8, rfl, h1, h2, h3, h4⟩ := h
  have d0 : 0 ≤ (k : Int) / 10 := by omega
  have d1 : (k : Int) / 10 ≤ 5 := by omega
  obtain ⟨xs, ex, hx⟩ := numbers_okI ns ((a : Int) + (k : Int) % 10) (12 * (1 + (k : Int) / 10)) (by omega) (by omega) (by omega)
  have hy := lows_last hx 12 (by omega)
  obtain ⟨ys, hys⟩ : ∃ ys, xs.drop (xs.length - 12) = ys := ⟨_, rfl⟩
  rw [hys] at hy
  have es : gSl (.lst (xs.map .int)) (some (-12)) none = some (.l (ys.map .int)) := by
    rw [gSl_lst, cut_map, show (-12 : Int) = -((12 : Nat) : Int) from rfl, cut_last _ _ (by decide), hys]
  obtain ⟨v0, e0, p0, q0⟩ := low_get hy (i := 0) (by decide) (by decide)
  obtain ⟨v1, e1, p1, q1⟩ := low_get hy (i := 1) (by decide) (by decide)
  have m0 : 0 ≤ v0 * v1 % 11 := Int.emod_nonneg _ (by decide)
  have m1 : v0 * v1 % 11 < 11 := Int.emod_lt_of_pos _ (by decide)
  obtain ⟨len, hlen⟩ : ∃ len : Nat, v0 * v1 % 11 = len := ⟨_, (Int.toNat_of_nonneg m0).symm⟩
  have em : gMul (.int v0) (.int v1) = some (.fz (.int (v0 * v1))) := gMul_r _ _ (by omega) (by omega)
  obtain ⟨f, hf⟩ : ∃ f : Nat → Fin 1114112, f = fun j => sg (((ys.getD (2 + j) 0) % 36).toNat) := ⟨_, rfl⟩
  have c1 : ∀ x7 x8, oComp (lRange1 (eBin gMod (eOfO (oBin gMul (eIx (eVar .I 6) (eC (.int 0))) (eIx (eVar .I 6) (eC (.int 1))))) (eC (.int 11)))) [9] (gNm 9) tYesF (eIx (eVar .I 3) (eBin gMod (eIx (eVar .B 6) (eOfO (oBin gAdd (eC (.int 2)) (eVar .I 9)))) (eC (.int 36))))
      [.bor (.rol (ns.map .int)), .val (.int a), .bor (.int count), .val (.str (lowsT ++ figsT)), .own (.l (ts.map .str)), .val (.int k), .own (.l (ys.map .int)), x7, x8, .u, .u] = .ok (.l ((List.range len).map fun j => .str [f j])) := fun x7 x8 => by
    refine oComp_map (fun j : Nat => .int ((0 : Int) + j)) (fun j => .str [f j]) (List.range len) (by simp) (by simp [e0, e1, em, hlen, rng_nat (show len < 4611686018427387904 by omega), rangeL]) (fun j hj => ?_) (le_line (by simp; omega))
    have hj := List.mem_range.mp hj
    have ej : atI (ys.map PV.int) (2 + (j : Int)) = some (.int (ys.getD (2 + j) 0)) := by
      rw [atI_map, atI_nn _ _ (by omega) (by have := hy.1; omega), List.getD_eq_getElem?_getD, List.getElem?_eq_getElem (by have := hy.1; omega)]
      rfl
    simp [ej, gIx_sgs, hf]
  obtain ⟨rest, hrest⟩ : ∃ rest : Tx, (List.range len).map f = rest := ⟨_, rfl⟩
  have rl : rest.length ≤ 11 := by rw [← hrest]; simp; omega
  have rs : ∀ c ∈ rest, isSg c = true := fun c hc => by
    rw [← hrest] at hc
    obtain ⟨j, _, rfl⟩ := List.mem_map.mp hc
    rw [hf]
    refine sg_sg ?_
    have := Int.emod_lt_of_pos (ys.getD (2 + j) 0) (show (0 : Int) < 36 by decide)
    have := Int.emod_nonneg (ys.getD (2 + j) 0) (show (36 : Int) ≠ 0 by decide)
    omega
  have ej : gJoin (.str (txt "")) (.lst ((List.range len).map fun j => .str [f j])) = some (.str rest) := by rw [gJoin_one _ _ (by simp; omega), hrest]
  have es2 : gSl (.str (lowsT ++ figsT)) none (some 26) = some (.fz (.str lowsT)) := by
    rw [gSl_str (le_line (by rw [List.length_append, lowsT_len, figsT_len]; decide)), show (26 : Int) = ((26 : Nat) : Int) from rfl, cut_to, List.take_left' lowsT_len]
  have ea : ∀ c, gAdd (.str [c]) (.str rest) = some (.fz (.str (c :: rest))) := fun c => gAdd_str _ _ (le_line (by simp; omega))
  obtain ⟨free, hfree⟩ : ∃ free, lowsT.filter (fun c => !decide (c :: rest ∈ ts)) = free := ⟨_, rfl⟩
  have c2 : ∀ x8, oComp (lOfA (eOfO (oSl (eVar .I 3) pNo (pAt (eC (.int 26)))))) [10] (gNm 10) (Fz.tCmp gNotIn (eOfO (oBin gAdd (eVar .I 10) (eVar .I 7))) (eVar .B 4)) (eVar .E 10)
      [.bor (.rol (ns.map .int)), .val (.int a), .bor (.int count), .val (.str (lowsT ++ figsT)), .own (.l (ts.map .str)), .val (.int k), .own (.l (ys.map .int)), .val (.str rest), x8, .u, .u] = .ok (.l (free.map fun c => .str [c])) := fun x8 => by
    rw [← hfree]
    refine oComp_filter (fun c => .str [c]) (fun c => .str [c]) (fun c => !decide (c :: rest ∈ ts)) lowsT (by simp) (by simp [es2, signsOf]) (fun c hc => ?_) (le_line (by rw [lowsT_len]; decide))
    simp [ea]
    by_cases hm : c :: rest ∈ ts <;> simp [hm]
  simp [L__law_pool_1, ex, es, c1, ej, c2]
  by_cases h0 : free = []
  · subst h0
    simp
    refine hP _ ⟨ts, .val (.int k), _, _, _, rfl, by omega, h2, h3, fun _ hts => ?_⟩
    rw [hts] at hfree
    have : lowsT.filter (fun c => !decide (c :: rest ∈ ([] : List Tx))) = lowsT := List.filter_eq_self.mpr fun c _ => by simp
    rw [this] at hfree
    exact absurd hfree (by decide +kernel)
  · have fl : 0 < free.length := List.length_pos_iff.mpr h0
    have i0 : 0 ≤ v1 % (free.length : Int) := Int.emod_nonneg _ (by omega)
    have i1 : v1 % (free.length : Int) < free.length := Int.emod_lt_of_pos _ (by omega)
    obtain ⟨j, hj⟩ : ∃ j : Nat, v1 % (free.length : Int) = j := ⟨_, (Int.toNat_of_nonneg i0).symm⟩
    have jl : j < free.length := by omega
    have ei : atI (free.map fun c => PV.str [c]) (j : Int) = some (.str [free[j]]) := by
      rw [atI_map, atI_nn _ _ (by omega) (by omega)]
      rfl
    have hfm : ∀ c ∈ free, c ∈ lowsT ∧ c :: rest ∉ ts := by
      rw [← hfree]
      intro c hc
      obtain ⟨q1, q2⟩ := List.mem_filter.mp hc
      exact ⟨q1, by simpa using q2⟩
    obtain ⟨hm1, hm2⟩ := hfm _ (List.getElem_mem jl)
    have ne : (free.map fun c => PV.str [c]).isEmpty = false := by cases free with | nil => exact (h0 rfl).elim | cons => rfl
    simp [h0, e1, gMod_int _ (free.length : Int) (by omega), hj, ei, ea, show ts.length < sizeLine from lt_line (by omega)]
    refine hP _ ⟨ts ++ [free[j] :: rest], .val (.int k), _, _, _, by simp; exact ⟨rfl, rfl, rfl⟩, by simp; omega, ?_, ?_, fun _ => by simp⟩
    · exact List.nodup_append.mpr ⟨h2, by simp, fun x hx y hy e => hm2 (by rw [← List.mem_singleton.mp hy, ← e]; exact hx)⟩
    · intro t ht
      rcases List.mem_append.mp ht with q | q
      · exact h3 t q
      · rw [List.mem_singleton.mp q]
        exact ⟨by simp; omega, fun c hc => (List.mem_cons.mp hc).elim (fun e => e ▸ low_sg (lowsT_low _ hm1)) (rs c), _, _, rfl, lowsT_low _ hm1⟩
/-- drawn names -/
structure Nms (ts : List Tx) : Prop where
  few : ts.length < 60
  nd : ts.Nodup
  good : ∀ t ∈ ts, goodN t
  asc : ts.Pairwise fun a b => txLe a b = true
theorem pool_ok (ns : List Int) (a count : Nat) (h1 : 0 < count) (h2 : count < 60) : ∃ ts : List Tx, g__law_pool [.rol (ns.map .int), .int a, .int count] = .ok (.l (ts.map .str)) ∧ Nms ts ∧ ts ≠ [] := by
  obtain ⟨o, e, t, rfl, hx⟩ : ∃ o, g__law_pool [.rol (ns.map .int), .int a, .int count] = .ok o ∧ ∃ ts : List Tx, o = .l (ts.map .str) ∧ Nms ts ∧ ts ≠ [] := by
    refine run_ok _ rfl ?_
    simp [b__law_pool, slotsOf, slotOf, List.replicate, sgT_eq, rng_nat (show count < 4611686018427387904 by omega)]
    refine sat_range (poolI ns a count) ⟨[], _, _, _, _, rfl, Nat.le_refl _, List.nodup_nil, fun _ h => (nomatch h), fun h => absurd h (Nat.lt_irrefl _)⟩ (fun k ρ hk hI => pool_step ns a count k (by omega) ρ hI _ fun _ h => h) ?_
    rintro _ ⟨ts, x5, x6, x7, x8, rfl, p1, p2, p3, p4⟩
    simp [R__law_pool_2, gSortS_strs (show ts.length < 64 by omega)]
    have p := sortT_perm (le := txLe) ts
    exact ⟨_, rfl, ⟨by rw [p.length_eq]; omega, p.symm.nodup p2, fun t ht => p3 t (p.subset ht), sortT_sorted txLe_total txLe_trans ts⟩, fun e => p4 h1 (List.length_eq_zero_iff.mp (by rw [← p.length_eq, e]; rfl))⟩
  exact ⟨t, e, hx⟩
/-! _law_some -/
/-- some of the names, each once, in order -/
structure Sub (names ts : List Tx) : Prop where
  few : ts.length < 60
  nd : ts.Nodup
  mem : ∀ t ∈ ts, t ∈ names
  asc : ts.Pairwise fun a b => txLe a b = true
def someI (names : List Tx) (xs : List Int) (most : Int) (many : Int) (k : Nat) (ρ : Fz.Env) : Prop := ∃ (ts : List Tx) (x5 x6 : Fz.Slot), ρ = [.val (.lst (names.map .str)), .bor (.lst (xs.map .int)), .val (.int most), .val (.int many), .own (.l (ts.map .str)), x5, x6] ∧ ts.length ≤ k ∧ ts.Nodup ∧ ∀ t ∈ ts, t ∈ names
theorem some_ok {c : Nat} (names : List Tx) (xs : List Int) (hx : lows c xs) (most : Nat) (hm : most < c) (h60 : most < 60) (h0 : names ≠ []) : ∃ ts : List Tx, g__law_some [.lst (names.map .str), .lst (xs.map .int), .int most] = .ok (.l (ts.map .str)) ∧ Sub names ts := by
  obtain ⟨o, e, t, rfl, hx⟩ : ∃ o, g__law_some [.lst (names.map .str), .lst (xs.map .int), .int most] = .ok o ∧ ∃ ts : List Tx, o = .l (ts.map .str) ∧ Sub names ts := by
    refine run_ok _ rfl ?_
    obtain ⟨v0, e0, p0, q0⟩ := low_get hx (i := 0) (by decide) (by omega)
    have m0 : 0 ≤ v0 % ((most : Int) + 1) := Int.emod_nonneg _ (by omega)
    have m1 : v0 % ((most : Int) + 1) < (most : Int) + 1 := Int.emod_lt_of_pos _ (by omega)
    obtain ⟨many, hmany⟩ : ∃ many : Nat, v0 % ((most : Int) + 1) = many := ⟨_, (Int.toNat_of_nonneg m0).symm⟩
    have nl : 0 < names.length := List.length_pos_iff.mpr h0
    simp [b__law_some, slotsOf, slotOf, List.replicate, e0, gMod_int _ ((most : Int) + 1) (by omega), hmany, rng_nat (show many < 4611686018427387904 by omega)]
    refine sat_range (someI names xs most many) ⟨[], _, _, rfl, Nat.le_refl _, List.nodup_nil, fun _ h => nomatch h⟩ ?_ ?_
    · rintro k _ hk ⟨ts, x5, x6, rfl, p1, p2, p3⟩
      obtain ⟨v, ev, pv, qv⟩ := low_get hx (i := 1 + (k : Int)) (by omega) (by omega)
      have i0 : 0 ≤ v % (names.length : Int) := Int.emod_nonneg _ (by omega)
      have i1 : v % (names.length : Int) < names.length := Int.emod_lt_of_pos _ (by omega)
      obtain ⟨j, hj⟩ : ∃ j : Nat, v % (names.length : Int) = j := ⟨_, (Int.toNat_of_nonneg i0).symm⟩
      have jl : j < names.length := by omega
      have ei : atI (names.map PV.str) (j : Int) = some (.str names[j]) := by
        rw [atI_map, atI_nn _ _ (by omega) (by omega)]
        rfl
      simp [L__law_some_1, ev, gMod_int _ (names.length : Int) (by omega), hj, ei]
      by_cases hmem : names[j] ∈ ts
      · simp [hmem]
        exact ⟨ts, .val (.int k), .val (.str names[j]), by simp, by omega, p2, p3⟩
      · simp [hmem, show ts.length < sizeLine from lt_line (by omega)]
        refine ⟨ts ++ [names[j]], .val (.int k), .val (.str names[j]), by simp, by simp; omega, ?_, fun t ht => ?_⟩
        · exact List.nodup_append.mpr ⟨p2, by simp, fun x hx y hy e => hmem (by rw [← List.mem_singleton.mp hy, ← e]; exact hx)⟩
        · rcases List.mem_append.mp ht with q | q
          · exact p3 t q
          · rw [List.mem_singleton.mp q]; exact List.getElem_mem _
    · rintro _ ⟨ts, x5, x6, rfl, p1, p2, p3⟩
      simp [R__law_some_2, gSortS_strs (show ts.length < 64 by omega)]
      have p := sortT_perm (le := txLe) ts
      exact ⟨_, rfl, ⟨by rw [p.length_eq]; omega, p.symm.nodup p2, fun t ht => p3 t (p.subset ht), sortT_sorted txLe_total txLe_trans ts⟩⟩
  exact ⟨t, e, hx⟩
/-! _law_rules -/
abbrev Rule := Tx × List Tx
def rl (r : Rule) : PV := .tup [.str r.1, .tup (r.2.map .str)]
structure RuleOk (names : List Tx) (r : Rule) : Prop where
  fld : r.1 ∈ names
  sub : Sub names r.2
def rulI (ns : List Int) (a : Nat) (names : List Tx) (many : Int) (most : Nat) (k : Nat) (ρ : Fz.Env) : Prop := ∃ (rs : List Rule) (x6 x7 x8 : Fz.Slot), ρ = [.bor (.rol (ns.map .int)), .val (.int a), .val (.lst (names.map .str)), .bor (.int many), .val (.int most), .own (.l (rs.map rl)), x6, x7, x8] ∧ rs.length = k ∧ ∀ r ∈ rs, RuleOk names r
theorem rules_step (ns : List Int) (a : Nat) (names : List Tx) (h0 : names ≠ []) (many : Int) (most : Nat) (hm : most < 8) (k : Nat) (hk : k < 60) (ρ : Fz.Env) (h : rulI ns a names many most k ρ) (P : Po) (hP : ∀ ρ, rulI ns a names many most (k + 1) ρ → P.nx ρ) : sat (stp (gNm 6) L__law_rules_1 (.int (0 + k)) ρ) P := by
  obtain ⟨rs, x6, x7, x8, rfl, h1, h2⟩ := h
  obtain ⟨xs, ex, hx⟩ := numbers_okI ns ((a : Int) + (k : Int) % 12) (8 * (1 + (k : Int) / 12)) (by omega) (by omega) (by omega)
  have hy := lows_last hx 8 (by omega)
  obtain ⟨ys, hys⟩ : ∃ ys, xs.drop (xs.length - 8) = ys := ⟨_, rfl⟩
  rw [hys] at hy
  have es : gSl (.lst (xs.map .int)) (some (-8)) none = some (.l (ys.map .int)) := by
    rw [gSl_lst, cut_map, show (-8 : Int) = -((8 : Nat) : Int) from rfl, cut_last _ _ (by decide), hys]
  obtain ⟨v6, e6, p6, q6⟩ := low_get hy (i := 6) (by decide) (by decide)
  obtain ⟨v7, e7, p7, q7⟩ := low_get hy (i := 7) (by decide) (by decide)
  obtain ⟨ts, et, ht⟩ := some_ok names ys hy most hm (by omega) h0
  have nl : 0 < names.length := List.length_pos_iff.mpr h0
  have i0 : 0 ≤ v6 % (names.length : Int) := Int.emod_nonneg _ (by omega)
  have i1 : v6 % (names.length : Int) < names.length := Int.emod_lt_of_pos _ (by omega)
  obtain ⟨j, hj⟩ : ∃ j : Nat, v6 % (names.length : Int) = j := ⟨_, (Int.toNat_of_nonneg i0).symm⟩
  have jl : j < names.length := by omega
  have ei : atI (names.map PV.str) (j : Int) = some (.str names[j]) := by
    rw [atI_map, atI_nn _ _ (by omega) (by omega)]
    rfl
  have new : ∀ r ∈ rs ++ [(names[j], ts)], RuleOk names r := fun r hr => by
    rcases List.mem_append.mp hr with q | q
    · exact h2 r q
    · rw [List.mem_singleton.mp q]; exact ⟨List.getElem_mem _, ht⟩
  have em : rs.map rl ++ [PV.tup [.str names[j], .tup (ts.map .str)]] = (rs ++ [(names[j], ts)]).map rl := by rw [List.map_append]; rfl
  simp [L__law_rules_1, ex, es, e6, e7, gMod_int _ (names.length : Int) (by omega), hj, ei, et, show rs.length < sizeLine from lt_line (by omega)]
  rw [em]
  by_cases h9 : v7 % 9 = 0
  · by_cases k0 : 0 < k
    · have c0 : 0 ≤ v6 % (k : Int) := Int.emod_nonneg _ (by omega)
      have c1 : v6 % (k : Int) < k := Int.emod_lt_of_pos _ (by omega)
      obtain ⟨l, hl⟩ : ∃ l : Nat, v6 % (k : Int) = l := ⟨_, (Int.toNat_of_nonneg c0).symm⟩
      have ll : l < (rs ++ [(names[j], ts)]).length := by simp; omega
      have ek : atI ((rs ++ [(names[j], ts)]).map rl) (l : Int) = some (rl (rs ++ [(names[j], ts)])[l]) := by
        rw [atI_map, atI_nn _ _ (by omega) (by omega)]
        rfl
      have hin : (rs ++ [(names[j], ts)])[l] ∈ rs ++ [(names[j], ts)] := List.getElem_mem _
      revert ek hin new
      have hlen : (rs ++ [(names[j], ts)]).length = k + 1 := by simp [h1]
      revert hlen
      generalize (rs ++ [(names[j], ts)])[l] = r
      generalize rs ++ [(names[j], ts)] = rs2
      intro hlen new ek hin
      have ep : ∀ (ρ : Fz.Env), putS 5 ρ (.int k) (rl r) (some (.own (.l (rs2.map rl)))) = .nx (ρ.set 5 (.own (.l ((rs2.set k r).map rl)))) := fun ρ => by
        rw [put_l _ _ _ _ _ (by omega) (by rw [List.length_map]; omega), Int.toNat_natCast, ← List.map_set]
      simp [h9, k0, gMod_int _ (k : Int) (by omega), hl, ek, ep]
      refine hP _ ⟨rs2.set k r, .val (.int k), .own (.l (ys.map .int)), .val (.str names[j]), by simp [List.map_set], by rw [List.length_set, hlen], fun x hx => ?_⟩
      rcases List.mem_or_eq_of_mem_set hx with q | q
      · exact new x q
      · exact q ▸ new r hin
    · simp [h9, k0]
      exact hP _ ⟨rs ++ [(names[j], ts)], .val (.int k), .own (.l (ys.map .int)), .val (.str names[j]), by simp, by simp [h1], new⟩
  · simp [h9]
    exact hP _ ⟨rs ++ [(names[j], ts)], .val (.int k), .own (.l (ys.map .int)), .val (.str names[j]), by simp, by simp [h1], new⟩
theorem rules_ok (ns : List Int) (a : Nat) (names : List Tx) (h0 : names ≠ []) (many most : Nat) (h1 : many < 60) (hm : most < 8) : ∃ rs : List Rule, g__law_rules [.rol (ns.map .int), .int a, .lst (names.map .str), .int many, .int most] = .ok (.l (rs.map rl)) ∧ rs.length = many ∧ ∀ r ∈ rs, RuleOk names r := by
  obtain ⟨o, e, t, rfl, hx⟩ : ∃ o, g__law_rules [.rol (ns.map .int), .int a, .lst (names.map .str), .int many, .int most] = .ok o ∧ ∃ rs : List Rule, o = .l (rs.map rl) ∧ rs.length = many ∧ ∀ r ∈ rs, RuleOk names r := by
    refine run_ok _ rfl ?_
    simp [b__law_rules, slotsOf, slotOf, List.replicate, rng_nat (show many < 4611686018427387904 by omega)]
    refine sat_range (rulI ns a names many most) ⟨[], _, _, _, rfl, rfl, fun _ h => nomatch h⟩ (fun k ρ hk hI => rules_step ns a names h0 many most hm k (by omega) ρ hI _ fun _ h => h) ?_
    rintro _ ⟨rs, x6, x7, x8, rfl, p1, p2⟩
    simp [R__law_rules_2]
    exact ⟨rs, rfl, p1, fun a b h => p2 _ h⟩
  exact ⟨t, e, hx⟩
/-! _law_world -/
theorem world_ok (ns : List Int) (size most : Nat) (h1 : 0 < size) (h2 : size < 59) (hm : most < 59) : ∃ (names : List Tx) (rs : List Rule) (start : List Tx), g__law_world [.rol (ns.map .int), .int size, .int most] = .ok (.fz (.tup [.lst (names.map .str), .lst (rs.map rl), .lst (start.map .str)])) ∧
    Nms names ∧ names ≠ [] ∧ names.length < 60 ∧ rs.length ≤ most ∧ (∀ r ∈ rs, RuleOk names r) ∧ Sub names start := by
  obtain ⟨xs, ex, hx⟩ := numbers_ok ns 0 6 (by decide)
  obtain ⟨v0, e0, p0, q0⟩ := low_get hx (i := 0) (by decide) (by decide)
  obtain ⟨v1, e1, p1, q1⟩ := low_get hx (i := 1) (by decide) (by decide)
  obtain ⟨v2, e2, p2, q2⟩ := low_get hx (i := 2) (by decide) (by decide)
  obtain ⟨v3, e3, p3, q3⟩ := low_get hx (i := 3) (by decide) (by decide)
  obtain ⟨a, ha⟩ : ∃ a : Nat, v0 % (size : Int) = a := ⟨_, (Int.toNat_of_nonneg (Int.emod_nonneg _ (by omega))).symm⟩
  obtain ⟨b, hb⟩ : ∃ a : Nat, v1 % ((most : Int) + 1) = a := ⟨_, (Int.toNat_of_nonneg (Int.emod_nonneg _ (by omega))).symm⟩
  obtain ⟨c, hc⟩ : ∃ a : Nat, v2 % 3 = a := ⟨_, (Int.toNat_of_nonneg (Int.emod_nonneg _ (by omega))).symm⟩
  obtain ⟨d, hd⟩ : ∃ a : Nat, v3 % 4 = a := ⟨_, (Int.toNat_of_nonneg (Int.emod_nonneg _ (by omega))).symm⟩
  have al : a < size := by have := Int.emod_lt_of_pos v0 (show (0 : Int) < size by omega); omega
  have bl : b ≤ most := by have := Int.emod_lt_of_pos v1 (show (0 : Int) < (most : Int) + 1 by omega); omega
  have cl : c < 3 := by omega
  have dl : d < 4 := by omega
  obtain ⟨names, en, hn, n0⟩ := pool_ok ns 1 (1 + a) (by omega) (by omega)
  obtain ⟨rs, er, rlen, hr⟩ := rules_ok ns 11 names n0 b (1 + c) (by omega) (by omega)
  obtain ⟨ys, ey, hy⟩ := numbers_ok ns 23 8 (by decide)
  obtain ⟨start, est, hst⟩ := some_ok names ys hy d (by omega) (by omega) n0
  have ed : atI [PV.int 0, PV.int 1, PV.int 2, PV.int 3] (d : Int) = some (.int d) := by
    rcases (show d = 0 ∨ d = 1 ∨ d = 2 ∨ d = 3 by omega) with rfl | rfl | rfl | rfl <;> rfl
  refine ⟨names, rs, start, ?_, hn, n0, hn.few, by omega, hr, hst⟩
  refine runN _ _ _ _ rfl ?_
  simp at ex en er ey
  simp [b__law_world, slotsOf, slotOf, List.replicate, ex, e0, e1, e2, e3, gMod_int _ (size : Int) (by omega), gMod_int _ ((most : Int) + 1) (by omega), ha, hb, hc, hd, en, er, ey, ed, est]
end Lw
end
section
namespace Lw
open Fz
open PySem (sizeLine)
open L2 (atI ixN)
/-! is_name -/
theorem gIn_sign (c : Fin 1114112) (x : Tx) : gIn (.str [c]) (.str x) = some (decide (c ∈ x)) := rfl
theorem gNotIn_sign (c : Fin 1114112) (x : Tx) : gNotIn (.str [c]) (.str x) = some (!decide (c ∈ x)) := rfl
theorem low_all : (List.range 26).all (fun k => decide ((Fin.ofNat 1114112 (97 + k)) ∈ lowsT)) = true := by decide +kernel
theorem fig_all : (List.range 10).all (fun k => decide ((Fin.ofNat 1114112 (48 + k)) ∈ figsT)) = true := by decide +kernel
theorem low_mem {c : Fin 1114112} (h : isLow c = true) : c ∈ lowsT := by
  unfold isLow at h
  simp only [Bool.and_eq_true, decide_eq_true_eq] at h
  have := of_decide_eq_true (List.all_eq_true.mp low_all (c.val - 97) (List.mem_range.mpr (by omega)))
  have e : Fin.ofNat 1114112 (97 + (c.val - 97)) = c := Fin.ext (by show (97 + (c.val - 97)) % 1114112 = c.val; have := c.isLt; omega)
  rw [e] at this
  exact this
theorem sg_mem {c : Fin 1114112} (h : isSg c = true) : c ∈ lowsT ∨ c ∈ figsT := by
  unfold isSg at h
  cases e : isLow c with
  | true => exact .inl (low_mem e)
  | false =>
    rw [e] at h
    simp only [Bool.false_or, Bool.and_eq_true, decide_eq_true_eq] at h
    have := of_decide_eq_true (List.all_eq_true.mp fig_all (c.val - 48) (List.mem_range.mpr (by omega)))
    have e : Fin.ofNat 1114112 (48 + (c.val - 48)) = c := Fin.ext (by show (48 + (c.val - 48)) % 1114112 = c.val; have := c.isLt; omega)
    rw [e] at this
    exact .inr this
def isNm (t : Tx) : Bool := match t with
  | [] => false
  | c :: r => decide (r.length < 12) && decide (c ∈ lowsT) && (c :: r).all fun c => decide (c ∈ lowsT) || decide (c ∈ figsT)
theorem good_nm {t : Tx} (h : goodN t) : isNm t = true := by
  obtain ⟨h1, h2, c, r, rfl, h3⟩ := h
  unfold isNm
  simp only [Bool.and_eq_true, decide_eq_true_eq, List.all_eq_true, Bool.or_eq_true]
  exact ⟨⟨by simp at h1; omega, low_mem h3⟩, fun x hx => sg_mem (h2 x hx)⟩
theorem signs_ok (c : Fin 1114112) (r : Tx) (hl : r.length < 12) : g_has_name_signs [.str (c :: r)] = .ok (.fz (.bl (decide (c ∈ lowsT) && (c :: r).all fun c => decide (c ∈ lowsT) || decide (c ∈ figsT)))) := by
  refine runN _ _ _ _ rfl ?_
  have e0 : gIx (.str (c :: r)) (.int 0) = some (.str [c]) := by
    rw [gIx_str _ _ (le_line (by simp; omega)), atI_nn _ _ (by decide) (by simp)]
    rfl
  have c1 := oComp_map (l := lOfA (eVar .I 0)) (vs := [1]) (g := gNm 1) (t := tYesF) (el := eOr (eCmp gIn (eVar .B 1) (eC (.str (txt "abcdefghijklmnopqrstuvwxyz")))) (eCmp gIn (eVar .B 1) (eC (.str (txt "0123456789"))))) (ρ := [.val (.str (c :: r)), .u]) (fun c => .str [c]) (fun c => .bl (decide (c ∈ lowsT) || decide (c ∈ figsT))) (c :: r) (by simp) (by simp [signsOf]) (fun d _ => by
    simp [gIn_sign]
    by_cases hd : d ∈ lowsT <;> simp [hd]) (le_line (by simp; omega))
  obtain ⟨b, hb⟩ : ∃ b, ((c :: r).all fun c => decide (c ∈ lowsT) || decide (c ∈ figsT)) = b := ⟨_, rfl⟩
  rw [hb]
  simp only [lowsT_eq, figsT_eq] at c1
  by_cases hc : c ∈ lowsT
  · simp [b_has_name_signs, slotsOf, slotOf, List.replicate, e0, gNotIn_sign, hc, R_has_name_signs_1]
    rw [c1]
    simp [gAll_b hb, -List.map_cons]
  · simp [b_has_name_signs, slotsOf, slotOf, List.replicate, e0, gNotIn_sign, hc]
/-- the kinds that are met -/
def pl : PV → Bool
  | .rol _ => false | .dit _ => false | .ins _ _ => false
  | _ => true
def nmB : PV → Bool
  | .str t => isNm t
  | _ => false
theorem name_is (p : PV) (hp : pl p = true) (hl : ∀ t, p = .str t → t.length ≤ 10000) : g_is_name [p] = .ok (.fz (.bl (nmB p))) := by
  refine runN _ _ _ _ rfl ?_
  cases p with
  | str t =>
    have hl := hl t rfl
    have el := gLen_str t (le_line (by omega))
    cases t with
    | nil => simp [b_is_name, slotsOf, slotOf, List.replicate, R_is_name_2, el, nmB, isNm]
    | cons c r =>
      by_cases h12 : r.length < 12
      · have e1 : ((r.length : Int) + 1 ≤ 12) := by omega
        have e2 : ((1 : Int) ≤ (r.length : Int) + 1) := by omega
        simp [b_is_name, slotsOf, slotOf, List.replicate, R_is_name_2, R_is_name_1, el, e1, e2, signs_ok c r h12, nmB, isNm, h12]
      · have e1 : ¬ ((r.length : Int) + 1 ≤ 12) := by omega
        have e2 : ((1 : Int) ≤ (r.length : Int) + 1) := by omega
        simp [b_is_name, slotsOf, slotOf, List.replicate, R_is_name_2, el, e1, e2, nmB, isNm, h12]
  | rol _ => cases hp
  | dit _ => cases hp
  | ins _ _ => cases hp
  | _ => simp [b_is_name, slotsOf, slotOf, List.replicate, nmB]
/-! is_entry -/
@[simp] theorem gIsN_b (b : Bool) : gIsN (.bl b) .non = some false := (rfl)
@[simp] theorem gIsN_i (b : Int) : gIsN (.int b) .non = some false := (rfl)
@[simp] theorem gIsN_s (b : Tx) : gIsN (.str b) .non = some false := (rfl)
@[simp] theorem gIsN_t (b : List PV) : gIsN (.tup b) .non = some false := (rfl)
@[simp] theorem gIsN_l (b : List PV) : gIsN (.lst b) .non = some false := (rfl)
@[simp] theorem gIsN_d (b : List (K1 × PV)) : gIsN (.dic b) .non = some false := (rfl)
def whB : PV → Bool
  | .int _ => true
  | _ => false
theorem whole_is (p : PV) (hp : pl p = true) : g_is_whole [p] = .ok (.fz (.bl (whB p))) := by
  refine runN _ _ _ _ rfl ?_
  cases p with
  | rol _ => cases hp
  | dit _ => cases hp
  | ins _ _ => cases hp
  | _ => simp [b_is_whole, slotsOf, slotOf, List.replicate, whB]
theorem integer_is (p : PV) (hp : pl p = true) : g__law_is_integer [p] = .ok (.fz (.bl (whB p))) := by
  refine runN _ _ _ _ rfl ?_
  cases p with
  | rol _ => cases hp
  | dit _ => cases hp
  | ins _ _ => cases hp
  | _ => simp [b__law_is_integer, slotsOf, slotOf, List.replicate, whB]
def idxB : PV → Bool
  | .non => true
  | .int _ => true
  | _ => false
def entB : PV → Bool
  | .tup [x, y] => nmB x && idxB y
  | _ => false
/-- plain, and so are a tuple's items -/
def plE : PV → Prop
  | .tup ps => ∀ q ∈ ps, pl q = true ∧ ∀ t, q = .str t → t.length ≤ 10000
  | p => pl p = true
theorem plE_pl {p : PV} (h : plE p) : pl p = true := by
  cases p <;> first | exact h | rfl
theorem entry_is (p : PV) (hp : plE p) : g_is_entry [p] = .ok (.fz (.bl (entB p))) := by
  refine runN _ _ _ _ rfl ?_
  cases p with
  | rol _ => cases hp
  | dit _ => cases hp
  | ins _ _ => cases hp
  | tup ps =>
    match ps, hp with
    | [], _ => simp [b_is_entry, slotsOf, slotOf, List.replicate, entB]
    | [x], _ => simp [b_is_entry, slotsOf, slotOf, List.replicate, entB]
    | x :: y :: z :: r, _ =>
      have : ¬ ((r.length : Int) + 1 + 1 + 1 = 2) := by omega
      simp [b_is_entry, slotsOf, slotOf, List.replicate, entB, this]
    | [x, y], hp =>
      have h1 := hp x (by simp)
      have h2 := hp y (by simp)
      have n1 := name_is x h1.1 h1.2
      have w1 := whole_is y h2.1
      cases hb : nmB x with
      | false =>
        rw [hb] at n1
        simp [b_is_entry, slotsOf, slotOf, List.replicate, entB, R_is_entry_1, n1, hb]
      | true =>
        rw [hb] at n1
        have h2 := h2.1
        clear hp
        revert w1 h2
        cases y with
        | rol _ => intro _ h; cases h
        | dit _ => intro _ h; cases h
        | ins _ _ => intro _ h; cases h
        | _ =>
          intro w1 _
          simp [b_is_entry, slotsOf, slotOf, List.replicate, entB, R_is_entry_1, n1, hb, idxB, w1, whB]
  | _ => simp [b_is_entry, slotsOf, slotOf, List.replicate, entB]
/-! the judged lists -/
def parse : PV → Option (Tx × Option Int)
  | .tup [.str t, .non] => some (t, none)
  | .tup [.str t, .int i] => some (t, some i)
  | _ => none
def stB (rs : List Rule) (start ahead : List Tx) (t : Tx) : Option Int → Bool
  | none => decide (t ∈ start)
  | some i => decide (0 ≤ i) && decide (i < rs.length) && (match rs[i.toNat]? with
    | some r => decide (r.1 = t) && r.2.all fun c => decide (c ∈ ahead)
    | none => false)
def D (rs : List Rule) (start : List Tx) : List Tx → List PV → Bool
  | _, [] => true
  | ahead, p :: ps => match parse p with
    | none => false
    | some (t, o) => !decide (t ∈ ahead) && stB rs start ahead t o && D rs start (ahead ++ [t]) ps
/-! stands -/
def kv (t : Tx) : K1 × PV := (.inr t, .bl true)
theorem look_kv (ah : List Tx) (t : Tx) : (lookA (ah.map kv) (.inr t)).isSome = decide (t ∈ ah) := by
  unfold lookA
  induction ah with
  | nil => rfl
  | cons x xs ih =>
    rw [List.map_cons, List.find?_cons]
    by_cases h : x = t
    · subst h
      simp [kv]
    · have e : decide ((kv x).1 = (.inr t : K1)) = false := decide_eq_false fun z => h (by simpa [kv] using z)
      have h2 : t ≠ x := fun z => h z.symm
      rw [e]
      simpa [h2] using ih
theorem gIn_kv (ah : List Tx) (t : Tx) : gIn (.str t) (.dic (ah.map kv)) = some (decide (t ∈ ah)) := by
  have e : gIn (.str t) (.dic (ah.map kv)) = some (lookA (ah.map kv) (.inr t)).isSome := by
    rcases t with _ | ⟨c, _ | ⟨d, r⟩⟩ <;> rfl
  rw [e, look_kv]
theorem all_in_kv (cs ah : List Tx) (hl : cs.length ≤ 1000) : g_all_in [.tup (cs.map .str), .dic (ah.map kv)] = .ok (.fz (.bl (cs.all fun c => decide (c ∈ ah)))) := by
  refine runN _ _ _ _ rfl ?_
  have c1 := oComp_map (l := lOfA (eVar .I 0)) (vs := [2]) (g := gNm 2) (t := tYesF) (el := eCmp gIn (eVar .B 2) (eVar .B 1)) (ρ := [.val (.tup (cs.map .str)), .bor (.dic (ah.map kv)), .u]) PV.str (fun c => .bl (decide (c ∈ ah))) cs (by simp) (by simp) (fun c _ => by simp [gIn_kv]) (le_line (by omega))
  obtain ⟨b, hb⟩ : ∃ b, (cs.all fun c => decide (c ∈ ah)) = b := ⟨_, rfl⟩
  rw [hb]
  simp [b_all_in, slotsOf, slotOf, List.replicate, c1, gAll_b hb]
def ixP : Option Int → PV
  | none => .non
  | some i => .int i
theorem stands_ok (rs : List Rule) (start ah : List Tx) (t : Tx) (o : Option Int) (hr : ∀ r ∈ rs, r.2.length ≤ 1000) : g_stands [.lst (rs.map rl), .lst (start.map .str), .str t, ixP o, .dic (ah.map kv)] = .ok (.fz (.bl (stB rs start ah t o))) := by
  refine runN _ _ _ _ rfl ?_
  cases o with
  | none => simp [b_stands, slotsOf, slotOf, List.replicate, ixP, stB]
  | some i =>
    by_cases h0 : 0 ≤ i
    · by_cases h1 : i < rs.length
      · obtain ⟨n, rfl⟩ : ∃ n : Nat, i = n := ⟨i.toNat, by omega⟩
        have hn : n < rs.length := by omega
        have ei : atI (rs.map rl) (n : Int) = some (rl rs[n]) := by
          rw [atI_map, atI_nn _ _ (by omega) (by omega)]
          rfl
        have ha := all_in_kv rs[n].2 ah (hr _ (List.getElem_mem _))
        have eg : rs[n]? = some rs[n] := List.getElem?_eq_getElem hn
        simp [b_stands, slotsOf, slotOf, List.replicate, ixP, stB, R_stands_2, hn, R_stands_1, ei, rl, eg]
        by_cases hf : rs[n].1 = t
        · simp [hf, ha]
        · simp [hf]
      · have hn : ¬ i.toNat < rs.length := by omega
        simp [b_stands, slotsOf, slotOf, List.replicate, ixP, stB, R_stands_2, h0, h1]
    · simp [b_stands, slotsOf, slotOf, List.replicate, ixP, stB, R_stands_2, h0]
end Lw
end
section
namespace Lw
open Fz
open PySem (sizeLine)
open L2 (atI ixN)
/-! is_derivation -/
def nms (vs : List PV) : List Tx := vs.filterMap fun p => (parse p).map (·.1)
def lastB (field : Tx) (vs : List PV) : Bool := match vs.getLast? with
  | some p => (match parse p with | some q => decide (q.1 = field) | none => false)
  | none => false
def judge (rs : List Rule) (start : List Tx) (field : Tx) : PV → Bool
  | .lst vs => !vs.isEmpty && D rs start [] vs && lastB field vs
  | _ => false
theorem ent_parse {p : PV} (h : entB p = true) : ∃ t o, p = .tup [.str t, ixP o] ∧ parse p = some (t, o) ∧ isNm t = true := by
  cases p with
  | tup ps =>
    match ps, h with
    | [], h => cases h
    | [_], h => cases h
    | _ :: _ :: _ :: _, h => cases h
    | [x, y], h =>
      have h : (nmB x && idxB y) = true := h
      simp only [Bool.and_eq_true] at h
      obtain ⟨h1, h2⟩ := h
      cases x with
      | str t =>
        cases y with
        | non => exact ⟨t, none, rfl, rfl, h1⟩
        | int i => exact ⟨t, some i, rfl, rfl, h1⟩
        | _ => cases h2
      | _ => cases h1
  | _ => cases h
theorem parse_ent {p : PV} {t : Tx} {o : Option Int} (h : parse p = some (t, o)) : p = .tup [.str t, ixP o] := by
  unfold parse at h
  split at h
  · cases h; rfl
  · cases h; rfl
  · cases h
theorem put_kv (ah : List Tx) (t : Tx) (h : t ∉ ah) : putA (ah.map kv) (.inr t) (.bl true) = (ah ++ [t]).map kv := by
  unfold putA
  have : ((ah.map kv).any fun q => decide (q.1 = (.inr t : K1))) = false := by
    rw [List.any_eq_false]
    intro q hq
    obtain ⟨x, hx, rfl⟩ := List.mem_map.mp hq
    simp [kv]
    exact fun e => h (e ▸ hx)
  rw [this, List.map_append]
  rfl
def dE (rs : List Rule) (start : List Tx) (field : Tx) (vs : List PV) (ah : List Tx) (x5 x6 : Fz.Slot) : Fz.Env := [.val (.lst (rs.map rl)), .bor (.lst (start.map .str)), .bor (.str field), .val (.lst vs), .own (.d (ah.map kv)), x5, x6, .u, .u, .u]
theorem deriv_loop (rs : List Rule) (start : List Tx) (field : Tx) (all : List PV) (hr : ∀ r ∈ rs, r.2.length ≤ 1000) (P : Po) : ∀ (vs : List PV) (ah : List Tx) (x5 x6 : Fz.Slot), (∀ p ∈ vs, entB p = true) → ah.length + vs.length ≤ 1000 →
    (D rs start ah vs = true → ∀ ah x5 x6, P.nx (dE rs start field all ah x5 x6)) → (D rs start ah vs = false → P.rt (.fz (.bl false))) →
    sat (loop (gTp 2 (gsCons (gNm 5) (gsCons (gNm 6) gsNil))) L_is_derivation_2 vs (dE rs start field all ah x5 x6)) P
  | [], ah, x5, x6, _, _, hn, _ => by rw [sat_nil]; exact hn rfl _ _ _
  | p :: vs, ah, x5, x6, he, hl, hn, hf => by
    obtain ⟨t, o, rfl, hp, _⟩ := ent_parse (he p List.mem_cons_self)
    have eD : D rs start ah (.tup [.str t, ixP o] :: vs) = (!decide (t ∈ ah) && stB rs start ah t o && D rs start (ah ++ [t]) vs) := by
      show (match parse (.tup [.str t, ixP o]) with | none => false | some (t, o) => _) = _
      rw [hp]
    rw [eD] at hn hf
    have hs := stands_ok rs start ah t o hr
    rw [sat_cons, stp_of (ρ1 := dE rs start field all ah (.val (.str t)) (.val (ixP o))) (by simp [dE])]
    simp only [List.length_cons] at hl
    by_cases ht : t ∈ ah
    · simp [L_is_derivation_2, dE, gIn_kv, ht]
      exact hf (by simp [ht])
    · cases hb : stB rs start ah t o with
      | false =>
        rw [hb] at hs
        simp [L_is_derivation_2, dE, gIn_kv, ht, hs]
        exact hf (by simp [hb])
      | true =>
        rw [hb] at hs
        simp [L_is_derivation_2, dE, gIn_kv, ht, hs, R_is_derivation_1, show ah.length < sizeLine from lt_line (by omega), put_kv ah t ht, -List.map_append]
        have := deriv_loop rs start field all hr P vs (ah ++ [t]) (.val (.str t)) (.val (ixP o)) (fun q hq => he q (List.mem_cons_of_mem _ hq)) (by simp; omega) (fun h => hn (by simp [ht, hb, h])) (fun h => hf (by simp [h]))
        exact this
theorem D_ent {rs : List Rule} {start : List Tx} (h1 : ∀ r ∈ rs, isNm r.1 = true) (h2 : ∀ t ∈ start, isNm t = true) : ∀ {vs : List PV} {ah : List Tx}, D rs start ah vs = true → ∀ p ∈ vs, entB p = true
  | [], _, _, p, hp => by cases hp
  | v :: vs, ah, h, p, hp => by
    have h : (match parse v with | none => false | some (t, o) => !decide (t ∈ ah) && stB rs start ah t o && D rs start (ah ++ [t]) vs) = true := h
    cases e : parse v with
    | none => rw [e] at h; cases h
    | some q =>
      obtain ⟨t, o⟩ := q
      rw [e] at h
      simp only [Bool.and_eq_true] at h
      obtain ⟨⟨_, hs⟩, hd⟩ := h
      rcases List.mem_cons.mp hp with rfl | hp
      · have nm : isNm t = true := by
          cases o with
          | none => exact h2 t (of_decide_eq_true hs)
          | some i =>
            unfold stB at hs
            simp only [Bool.and_eq_true] at hs
            have hs := hs.2
            cases er : rs[i.toNat]? with
            | none => rw [er] at hs; cases hs
            | some r =>
              rw [er] at hs
              simp only [Bool.and_eq_true, decide_eq_true_eq] at hs
              rw [← hs.1]
              exact h1 r (List.mem_of_getElem? er)
        rw [parse_ent e]
        cases o <;> simp [entB, nmB, idxB, ixP, nm]
      · exact D_ent h1 h2 hd p hp
theorem last_at {vs : List PV} (h : vs ≠ []) : ∃ p, vs.getLast? = some p ∧ p ∈ vs ∧ atI vs (-1) = some p := by
  have hl : 0 < vs.length := List.length_pos_iff.mpr h
  refine ⟨vs[vs.length - 1], ?_, List.getElem_mem _, atI_m1 vs hl⟩
  rw [List.getLast?_eq_getElem?, List.getElem?_eq_getElem]
theorem deriv_ok (rs : List Rule) (start : List Tx) (field : Tx) (p : PV) (hr : ∀ r ∈ rs, r.2.length ≤ 1000) (h1 : ∀ r ∈ rs, isNm r.1 = true) (h2 : ∀ t ∈ start, isNm t = true) (hp : pl p = true) (hv : ∀ vs, p = .lst vs → vs.length ≤ 1000 ∧ ∀ q ∈ vs, plE q) :
    g_is_derivation [.lst (rs.map rl), .lst (start.map .str), .str field, p] = .ok (.fz (.bl (judge rs start field p))) := by
  cases p with
  | rol _ => cases hp
  | dit _ => cases hp
  | ins _ _ => cases hp
  | lst vs =>
    obtain ⟨hl, hv⟩ := hv vs rfl
    by_cases h0 : vs = []
    · subst h0
      refine runN _ _ _ _ rfl ?_
      simp [b_is_derivation, slotsOf, slotOf, List.replicate, judge]
    · have ne : vs.isEmpty = false := by cases vs with | nil => exact (h0 rfl).elim | cons => rfl
      have c1 := oComp_map (l := lOfA (eVar .I 3)) (vs := [9]) (g := gNm 9) (t := tYesF) (el := eOfO (oCall g_is_entry (lCons (eVar .E 9) lNil))) (ρ := [.val (.lst (rs.map rl)), .bor (.lst (start.map .str)), .bor (.str field), .val (.lst vs), .u, .u, .u, .u, .u, .u]) id (fun q => .bl (entB q)) vs (by simp) (by simp) (fun q hq => by simp [entry_is q (hv q hq)]) (le_line (by omega))
      cases ha : vs.all entB with
      | false =>
        have dn : D rs start [] vs = false := by
          cases e : D rs start [] vs with
          | false => rfl
          | true =>
            have := D_ent h1 h2 e
            rw [List.all_eq_true.mpr this] at ha
            cases ha
        refine runN _ _ _ _ rfl ?_
        simp [b_is_derivation, slotsOf, slotOf, List.replicate, ne, c1, gAll_b ha, judge, dn, -List.isEmpty_eq_false_iff]
      | true =>
        obtain ⟨o, e, rfl⟩ : ∃ o, g_is_derivation [.lst (rs.map rl), .lst (start.map .str), .str field, .lst vs] = .ok o ∧ o = .fz (.bl (judge rs start field (.lst vs))) := by
          refine run_ok _ rfl ?_
          simp [b_is_derivation, slotsOf, slotOf, List.replicate, ne, c1, gAll_b ha, -List.isEmpty_eq_false_iff, R_is_derivation_4]
          refine deriv_loop rs start field vs hr _ vs [] .u .u (List.all_eq_true.mp ha) (by simpa using hl) (fun hd ah x5 x6 => ?_) (fun hd => ?_)
          · obtain ⟨q, e1, e2, e3⟩ := last_at h0
            obtain ⟨t, o, rfl, e4, _⟩ := ent_parse (List.all_eq_true.mp ha q e2)
            simp [dE, R_is_derivation_3, e3, judge, ne, hd, lastB, e1, e4, -List.isEmpty_eq_false_iff]
            rw [Bool.eq_iff_iff]
            simp
          · simp [judge, hd]
        exact e
  | _ =>
    refine runN _ _ _ _ rfl ?_
    simp [b_is_derivation, slotsOf, slotOf, List.replicate, judge]
/-! _law_is_derivation -/
def lE (rs : List Rule) (start : List Tx) (field : Tx) (vs : List PV) (ah : List Tx) (x5 x6 x7 : Fz.Slot) : Fz.Env := [.val (.lst (rs.map rl)), .bor (.lst (start.map .str)), .bor (.str field), .val (.lst vs), .own (.l (ah.map .str)), x5, x6, x7, .u]
theorem law_deriv_loop (rs : List Rule) (start : List Tx) (field : Tx) (all : List PV) (hr : ∀ r ∈ rs, r.2.length ≤ 1000) (P : Po) : ∀ (vs : List PV) (ah : List Tx) (x5 x6 x7 : Fz.Slot), (∀ p ∈ vs, plE p) → ah.length + vs.length ≤ 1000 →
    (D rs start ah vs = true → ∀ x5 x6 x7, P.nx (lE rs start field all (ah ++ nms vs) x5 x6 x7)) → (D rs start ah vs = false → P.rt (.fz (.bl false))) →
    sat (loop (gNm 5) L__law_is_derivation_4 vs (lE rs start field all ah x5 x6 x7)) P
  | [], ah, x5, x6, x7, _, _, hn, _ => by rw [sat_nil]; have := hn rfl x5 x6 x7; simpa [nms] using this
  | p :: vs, ah, x5, x6, x7, he, hl, hn, hf => by
    have hpl := he p List.mem_cons_self
    simp only [List.length_cons] at hl
    rw [sat_cons]
    have bad : parse p = none → P.rt (.fz (.bl false)) := fun e => hf (by
      show (match parse p with | none => false | some (t, o) => _) = false
      rw [e])
    cases p with
    | rol _ => cases hpl
    | dit _ => cases hpl
    | ins _ _ => cases hpl
    | tup ps =>
      match ps, hpl, he, hn, hf, bad with
      | [], _, _, _, _, bad => simp [L__law_is_derivation_4, lE]; exact bad rfl
      | [x], _, _, _, _, bad => simp [L__law_is_derivation_4, lE]; exact bad (by simp [parse])
      | x :: y :: z :: r, _, _, _, _, bad =>
        have : ¬ ((r.length : Int) + 1 + 1 + 1 = 2) := by omega
        simp [L__law_is_derivation_4, lE, this]
        exact bad (by simp [parse])
      | [x, y], hpl, he, hn, hf, bad =>
        have hx := (hpl x (by simp)).1
        have hy := (hpl y (by simp)).1
        have i0 : atI [x, y] 0 = some x := rfl
        have i1 : atI [x, y] 1 = some y := rfl
        by_cases hstr : ∃ t, x = .str t
        · obtain ⟨t, rfl⟩ := hstr
          have nxt : ∀ o, parse (.tup [.str t, y]) = some (t, o) → t ∉ ah → stB rs start ah t o = true → ∀ x6 x7, sat (R__law_is_derivation_2 (lE rs start field all ah (.val (.tup [.str t, y])) x6 x7)) { P with nx := fun ρ' => sat (loop (gNm 5) L__law_is_derivation_4 vs ρ') P, ct := fun ρ' => sat (loop (gNm 5) L__law_is_derivation_4 vs ρ') P, bk := P.nx } := fun o hpar ht hb x6 x7 => by
            have eD : D rs start ah (.tup [.str t, y] :: vs) = D rs start (ah ++ [t]) vs := by
              show (match parse (.tup [.str t, y]) with | none => false | some (t, o) => _) = _
              rw [hpar]
              simp [ht, hb]
            rw [eD] at hn hf
            have en : nms (.tup [.str t, y] :: vs) = t :: nms vs := by simp [nms, hpar]
            rw [en] at hn
            simp [R__law_is_derivation_2, lE, i0, show ah.length < sizeLine from lt_line (by omega)]
            have := law_deriv_loop rs start field all hr P vs (ah ++ [t]) (.val (.tup [.str t, y])) x6 x7 (fun q hq => he q (List.mem_cons_of_mem _ hq)) (by simp; omega) (fun h x5 x6 x7 => by have := hn h x5 x6 x7; simpa using this) hf
            simpa [lE] using this
          have no : ∀ o, parse (.tup [.str t, y]) = some (t, o) → (t ∈ ah ∨ stB rs start ah t o = false) → P.rt (.fz (.bl false)) := fun o hpar h => hf (by
            show (match parse (.tup [.str t, y]) with | none => false | some (t, o) => _) = false
            rw [hpar]
            rcases h with h | h <;> simp [h])
          by_cases ht : t ∈ ah
          · cases y with
            | rol _ => cases hy
            | dit _ => cases hy
            | ins _ _ => cases hy
            | non => simp [L__law_is_derivation_4, lE, i0, ht]; exact no none rfl (.inl ht)
            | int i => simp [L__law_is_derivation_4, lE, i0, ht]; exact no (some i) rfl (.inl ht)
            | _ => simp [L__law_is_derivation_4, lE, i0, ht]; exact bad rfl
          · cases y with
            | rol _ => cases hy
            | dit _ => cases hy
            | ins _ _ => cases hy
            | non =>
              by_cases hs : t ∈ start
              · simp [L__law_is_derivation_4, lE, i0, i1, ht, R__law_is_derivation_3, hs]
                exact nxt none rfl ht (decide_eq_true hs) _ _
              · simp [L__law_is_derivation_4, lE, i0, i1, ht, R__law_is_derivation_3, hs]
                exact no none rfl (.inr (decide_eq_false hs))
            | int i =>
              have wi := integer_is (.int i) rfl
              have wi : g__law_is_integer [.int i] = .ok (.fz (.bl true)) := wi
              by_cases h0 : 0 ≤ i
              · by_cases h1 : i < rs.length
                · obtain ⟨n, rfl⟩ : ∃ n : Nat, i = n := ⟨i.toNat, by omega⟩
                  have hn' : n < rs.length := by omega
                  have ei : atI (rs.map rl) (n : Int) = some (rl rs[n]) := by
                    rw [atI_map, atI_nn _ _ (by omega) (by omega)]
                    rfl
                  have eg : rs[n]? = some rs[n] := List.getElem?_eq_getElem hn'
                  have es : stB rs start ah t (some (n : Int)) = (decide (rs[n].1 = t) && rs[n].2.all fun c => decide (c ∈ ah)) := by
                    simp [stB, hn', eg]
                  have c1 : ∀ x5, oComp (lOfA (eVar .I 7)) [8] (gNm 8) (Fz.tCmp gNotIn (eVar .B 8) (eVar .B 4)) (eVar .E 8) [.val (.lst (rs.map rl)), .bor (.lst (start.map .str)), .bor (.str field), .val (.lst all), .own (.l (ah.map .str)), x5, .val (.str rs[n].1), .val (.tup (rs[n].2.map .str)), .u] = .ok (.l ((rs[n].2.filter fun c => !decide (c ∈ ah)).map .str)) := fun x5 =>
                    oComp_filter PV.str PV.str (fun c => !decide (c ∈ ah)) rs[n].2 (by simp) (by simp) (fun c _ => by
                      by_cases hc : c ∈ ah <;> simp [hc]) (le_line (by have := hr _ (List.getElem_mem hn'); omega))
                  simp [L__law_is_derivation_4, lE, i0, i1, ht, R__law_is_derivation_3, wi, hn', R__law_is_derivation_1, ei, rl]
                  by_cases hf2 : rs[n].1 = t
                  · cases hall : rs[n].2.all (fun c => decide (c ∈ ah)) with
                    | true =>
                      have e0 : (rs[n].2.filter fun c => !decide (c ∈ ah)) = [] := by
                        rw [List.filter_eq_nil_iff]
                        intro c hc
                        simpa using of_decide_eq_true (List.all_eq_true.mp hall c hc)
                      have c2 : ∀ x5, oComp _ _ _ _ _ _ = .ok (.l []) := fun x5 => by
                        have := c1 x5
                        rw [e0, hf2] at this
                        exact this
                      simp [hf2, c2]
                      exact nxt (some (n : Int)) rfl ht (by rw [es, hall]; simp [hf2]) _ _
                    | false =>
                      have e0 : (rs[n].2.filter fun c => !decide (c ∈ ah)) ≠ [] := fun z => by
                        have : rs[n].2.all (fun c => decide (c ∈ ah)) = true := by
                          rw [List.all_eq_true]
                          intro c hc
                          have := List.filter_eq_nil_iff.mp z c hc
                          simpa using this
                        rw [hall] at this
                        cases this
                      obtain ⟨ds, hds⟩ : ∃ ds, (rs[n].2.filter fun c => !decide (c ∈ ah)) = ds := ⟨_, rfl⟩
                      rw [hds] at e0
                      have c2 : ∀ x5, oComp _ _ _ _ _ _ = .ok (.l (ds.map .str)) := fun x5 => by
                        have := c1 x5
                        rw [hds, hf2] at this
                        exact this
                      simp [hf2, c2, e0]
                      exact no (some (n : Int)) rfl (.inr (by rw [es, hall, Bool.and_false]))
                  · simp [hf2]
                    exact no (some (n : Int)) rfl (.inr (by rw [es]; simp [hf2]))
                · have hn' : ¬ i.toNat < rs.length := by omega
                  simp [L__law_is_derivation_4, lE, i0, i1, ht, R__law_is_derivation_3, wi, h0, h1]
                  exact no (some i) rfl (.inr (by simp [stB, h1]))
              · simp [L__law_is_derivation_4, lE, i0, i1, ht, R__law_is_derivation_3, wi, h0]
                exact no (some i) rfl (.inr (by simp [stB, h0]))
            | bl b =>
              have wi : g__law_is_integer [.bl b] = .ok (.fz (.bl false)) := integer_is (.bl b) rfl
              simp [L__law_is_derivation_4, lE, i0, i1, ht, R__law_is_derivation_3, wi]
              exact bad rfl
            | str b =>
              have wi : g__law_is_integer [.str b] = .ok (.fz (.bl false)) := integer_is (.str b) rfl
              simp [L__law_is_derivation_4, lE, i0, i1, ht, R__law_is_derivation_3, wi]
              exact bad rfl
            | tup b =>
              have wi : g__law_is_integer [.tup b] = .ok (.fz (.bl false)) := integer_is (.tup b) rfl
              simp [L__law_is_derivation_4, lE, i0, i1, ht, R__law_is_derivation_3, wi]
              exact bad rfl
            | lst b =>
              have wi : g__law_is_integer [.lst b] = .ok (.fz (.bl false)) := integer_is (.lst b) rfl
              simp [L__law_is_derivation_4, lE, i0, i1, ht, R__law_is_derivation_3, wi]
              exact bad rfl
            | dic b =>
              have wi : g__law_is_integer [.dic b] = .ok (.fz (.bl false)) := integer_is (.dic b) rfl
              simp [L__law_is_derivation_4, lE, i0, i1, ht, R__law_is_derivation_3, wi]
              exact bad rfl
        · cases x with
          | str t => exact (hstr ⟨t, rfl⟩).elim
          | rol _ => cases hx
          | dit _ => cases hx
          | ins _ _ => cases hx
          | _ =>
            simp [L__law_is_derivation_4, lE, i0]
            exact bad rfl
    | _ =>
      simp [L__law_is_derivation_4, lE]
      exact bad rfl
theorem D_parse {rs : List Rule} {start : List Tx} : ∀ {vs : List PV} {ah : List Tx}, D rs start ah vs = true → ∀ p ∈ vs, ∃ q, parse p = some q
  | [], _, _, p, hp => by cases hp
  | v :: vs, ah, h, p, hp => by
    have h : (match parse v with | none => false | some (t, o) => !decide (t ∈ ah) && stB rs start ah t o && D rs start (ah ++ [t]) vs) = true := h
    cases e : parse v with
    | none => rw [e] at h; cases h
    | some q =>
      obtain ⟨t, o⟩ := q
      rw [e] at h
      simp only [Bool.and_eq_true] at h
      rcases List.mem_cons.mp hp with rfl | hp
      · exact ⟨_, e⟩
      · exact D_parse h.2 p hp
theorem last_nm {rs : List Rule} {start : List Tx} {vs : List PV} (h0 : vs ≠ []) (h : D rs start [] vs = true) : ∃ t, atI ((nms vs).map PV.str) (-1) = some (.str t) ∧ ∀ field, lastB field vs = decide (t = field) := by
  obtain ⟨p, e1, e2, _⟩ := last_at h0
  obtain ⟨q, hq⟩ := D_parse h p e2
  have ep : p = vs.getLast h0 := by
    have := List.getLast?_eq_some_getLast h0
    rw [e1] at this
    exact Option.some.inj this
  have ev : vs = vs.dropLast ++ [p] := by rw [ep]; exact (List.dropLast_concat_getLast h0).symm
  have en : nms vs = nms vs.dropLast ++ [q.1] := by
    conv => lhs; rw [ev]
    unfold nms
    rw [List.filterMap_append]
    simp [hq]
  refine ⟨q.1, ?_, fun field => ?_⟩
  · rw [en, List.map_append, atI_m1 _ (by simp)]
    simp
  · unfold lastB
    rw [e1]
    dsimp only
    rw [hq]
theorem law_deriv_ok (rs : List Rule) (start : List Tx) (field : Tx) (p : PV) (hr : ∀ r ∈ rs, r.2.length ≤ 1000) (hp : pl p = true) (hv : ∀ vs, p = .lst vs → eqOk p = true ∧ vs.length ≤ 1000 ∧ ∀ q ∈ vs, plE q) :
    g__law_is_derivation [.lst (rs.map rl), .lst (start.map .str), .str field, p] = .ok (.fz (.bl (judge rs start field p))) := by
  cases p with
  | rol _ => cases hp
  | dit _ => cases hp
  | ins _ _ => cases hp
  | lst vs =>
    obtain ⟨hk, hl, hv⟩ := hv vs rfl
    have eq0 : gEq (.lst vs) (.lst []) = some vs.isEmpty := by
      rw [gEq_of hk rfl]
      cases vs <;> rfl
    by_cases h0 : vs = []
    · subst h0
      refine runN _ _ _ _ rfl ?_
      simp [b__law_is_derivation, slotsOf, slotOf, List.replicate, judge, eq0]
    · have ne : vs.isEmpty = false := by cases vs with | nil => exact (h0 rfl).elim | cons => rfl
      rw [ne] at eq0
      obtain ⟨o, e, rfl⟩ : ∃ o, g__law_is_derivation [.lst (rs.map rl), .lst (start.map .str), .str field, .lst vs] = .ok o ∧ o = .fz (.bl (judge rs start field (.lst vs))) := by
        refine run_ok _ rfl ?_
        simp [b__law_is_derivation, slotsOf, slotOf, List.replicate, eq0, R__law_is_derivation_6]
        refine law_deriv_loop rs start field vs hr _ vs [] .u .u .u hv (by simpa using hl) (fun hd x5 x6 x7 => ?_) (fun hd => ?_)
        · obtain ⟨t, e1, e2⟩ := last_nm h0 hd
          simp [lE, R__law_is_derivation_5, e1, judge, ne, hd, e2, -List.isEmpty_eq_false_iff]
          rw [Bool.eq_iff_iff]
          simp
        · simp [judge, hd]
      exact e
  | _ =>
    refine runN _ _ _ _ rfl ?_
    simp [b__law_is_derivation, slotsOf, slotOf, List.replicate, judge]
end Lw
end
section
namespace Lw
open Fz
open PySem (sizeLine)
open L2 (atI ixN)
abbrev Ent := Tx × Option Int
def ev (e : Ent) : PV := .tup [.str e.1, ixP e.2]
def nm1 (e : Ent) : Tx := e.1
def DT (rs : List Rule) (start : List Tx) : List Tx → List Ent → Bool
  | _, [] => true
  | ah, e :: es => !decide (e.1 ∈ ah) && stB rs start ah e.1 e.2 && DT rs start (ah ++ [e.1]) es
theorem parse_ev (e : Ent) : parse (ev e) = some e := by
  obtain ⟨t, o⟩ := e
  cases o <;> rfl
section
variable {rs : List Rule} {start : List Tx}
theorem D_ev : ∀ (es : List Ent) (ah : List Tx), D rs start ah (es.map ev) = DT rs start ah es
  | [], _ => rfl
  | e :: es, ah => by
    show (match parse (ev e) with | none => false | some (t, o) => !decide (t ∈ ah) && stB rs start ah t o && D rs start (ah ++ [t]) (es.map ev)) = _
    rw [parse_ev]
    obtain ⟨t, o⟩ := e
    show (!decide (t ∈ ah) && stB rs start ah t o && D rs start (ah ++ [t]) (es.map ev)) = _
    rw [D_ev es]
    rfl
theorem DT_app : ∀ (es : List Ent) (ah : List Tx) (fs : List Ent), DT rs start ah (es ++ fs) = (DT rs start ah es && DT rs start (ah ++ es.map nm1) fs)
  | [], ah, fs => by simp [DT]
  | e :: es, ah, fs => by
    show (!decide (e.1 ∈ ah) && stB rs start ah e.1 e.2 && DT rs start (ah ++ [e.1]) (es ++ fs)) = _
    rw [DT_app es]
    show _ = (!decide (e.1 ∈ ah) && stB rs start ah e.1 e.2 && DT rs start (ah ++ [e.1]) es && _)
    rw [List.map_cons, List.append_assoc ah [e.1], Bool.and_assoc, Bool.and_assoc, Bool.and_assoc]
    rfl
theorem DT_take {es : List Ent} (h : DT rs start [] es = true) (k : Nat) : DT rs start [] (es.take k) = true := by
  have := DT_app (rs := rs) (start := start) (es.take k) [] (es.drop k)
  rw [List.take_append_drop, h] at this
  simp only [Bool.true_eq, Bool.and_eq_true] at this
  exact this.1
theorem DT_one {ah : List Tx} {e : Ent} : DT rs start ah [e] = (!decide (e.1 ∈ ah) && stB rs start ah e.1 e.2) := by
  show (_ && true) = _
  rw [Bool.and_true]
/-- the start, each once -/
theorem DT_start : ∀ (ts ah : List Tx), (ah ++ ts).Nodup → (∀ t ∈ ts, t ∈ start) → DT rs start ah (ts.map fun t => (t, none)) = true
  | [], _, _, _ => rfl
  | t :: ts, ah, hn, hs => by
    show (!decide (t ∈ ah) && decide (t ∈ start) && DT rs start (ah ++ [t]) (ts.map fun t => (t, none))) = true
    have ht : t ∉ ah := fun z => (List.nodup_append.mp hn).2.2 t z t List.mem_cons_self rfl
    rw [DT_start ts (ah ++ [t]) (by rw [List.append_assoc]; exact hn) fun x hx => hs x (List.mem_cons_of_mem _ hx)]
    simp [ht, hs t List.mem_cons_self]
theorem nms_ev (es : List Ent) : (es.map ev).map (fun p => p) = es.map ev := by simp
end
/-! _law_long -/
def loE (rs : List Rule) (start : List Tx) (xs : List Int) (es : List Ent) (x4 x5 x6 x7 x8 x9 : Fz.Slot) : Fz.Env := [.val (.lst (rs.map rl)), .val (.lst (start.map .str)), .bor (.lst (xs.map .int)), .own (.l (es.map ev)), x4, x5, x6, x7, x8, x9, .u, .u]
/-- rule j may be applied -/
def rdy (rs : List Rule) (ah : List Tx) (j : Nat) : Bool := match rs[j]? with
  | some r => !decide (r.1 ∈ ah) && r.2.all fun c => decide (c ∈ ah)
  | none => false
def rdE (rs : List Rule) (j : Nat) : Ent := ((match rs[j]? with | some r => r.1 | none => []), some (j : Int))
def rdI (rs : List Rule) (start : List Tx) (xs : List Int) (es : List Ent) (x4 : Fz.Slot) (ah : List Tx) (k : Nat) (ρ : Fz.Env) : Prop :=
  ∃ x7 x8 x9 : Fz.Slot, ρ = loE rs start xs es x4 (.own (.l (ah.map .str))) (.own (.l ((((List.range k).filter (rdy rs ah)).map (rdE rs)).map ev))) x7 x8 x9
theorem long_step (rs : List Rule) (hr : ∀ r ∈ rs, r.2.length ≤ 1000) (hrl : rs.length ≤ 1000) (start : List Tx) (xs : List Int) (es : List Ent) (x4 : Fz.Slot) (ah : List Tx) (k : Nat) (hk : k < rs.length) (ρ : Fz.Env) (h : rdI rs start xs es x4 ah k ρ) (P : Po) (hP : ∀ ρ, rdI rs start xs es x4 ah (k + 1) ρ → P.nx ρ) :
    sat (stp (gNm 7) L__law_long_1 (.int (0 + k)) ρ) P := by
  obtain ⟨x7, x8, x9, rfl⟩ := h
  have ei : atI (rs.map rl) (k : Int) = some (rl rs[k]) := by
    rw [atI_map, atI_nn _ _ (by omega) (by omega)]
    rfl
  have eg : rs[k]? = some rs[k] := List.getElem?_eq_getElem hk
  have er : (List.range (k + 1)).filter (rdy rs ah) = (List.range k).filter (rdy rs ah) ++ (if rdy rs ah k = true then [k] else []) := by
    rw [List.range_succ, List.filter_append, List.filter_cons]
    split <;> rfl
  have hlen : ((List.range k).filter (rdy rs ah)).length ≤ k := Nat.le_trans (List.length_filter_le _ _) (by simp)
  have c1 : ∀ x6, oComp (lOfA (eVar .I 9)) [10] (gNm 10) (Fz.tCmp gNotIn (eVar .B 10) (eVar .B 5)) (eVar .E 10) [.val (.lst (rs.map rl)), .val (.lst (start.map .str)), .bor (.lst (xs.map .int)), .own (.l (es.map ev)), x4, .own (.l (ah.map .str)), x6, .val (.int k), .val (.str rs[k].1), .val (.tup (rs[k].2.map .str)), .u, .u] = .ok (.l ((rs[k].2.filter fun c => !decide (c ∈ ah)).map .str)) := fun x6 =>
    oComp_filter PV.str PV.str (fun c => !decide (c ∈ ah)) rs[k].2 (by simp) (by simp) (fun c _ => by
      by_cases hc : c ∈ ah <;> simp [hc]) (le_line (by have := hr _ (List.getElem_mem hk); omega))
  obtain ⟨ds, hds⟩ : ∃ ds, (rs[k].2.filter fun c => !decide (c ∈ ah)) = ds := ⟨_, rfl⟩
  rw [hds] at c1
  have hall : ds = [] ↔ (rs[k].2.all fun c => decide (c ∈ ah)) = true := by
    rw [← hds, List.filter_eq_nil_iff, List.all_eq_true]
    refine ⟨fun z c hc => by simpa using z c hc, fun z c hc => by simpa using z c hc⟩
  simp [L__law_long_1, loE, ei, rl]
  by_cases hf : rs[k].1 ∈ ah
  · simp [hf]
    refine hP _ ⟨.val (.int k), .val (.str rs[k].1), .val (.tup (rs[k].2.map .str)), ?_⟩
    have : rdy rs ah k = false := by simp [rdy, eg, hf]
    rw [er, this]
    simp [loE]
  · by_cases hd : ds = []
    · have ht : rdy rs ah k = true := by simp only [rdy, eg]; rw [hall.mp hd]; simp [hf]
      simp [hf, c1, hd, show ((List.range k).filter (rdy rs ah)).length < sizeLine from lt_line (by omega)]
      refine hP _ ⟨.val (.int k), .val (.str rs[k].1), .val (.tup (rs[k].2.map .str)), ?_⟩
      rw [er, ht]
      simp [loE, rdE, eg, ev, ixP]
    · have ht : rdy rs ah k = false := by
        cases e : rdy rs ah k with
        | false => rfl
        | true =>
          simp only [rdy, eg, Bool.and_eq_true] at e
          exact (hd (hall.mpr e.2)).elim
      simp [hf, c1, hd]
      refine hP _ ⟨.val (.int k), .val (.str rs[k].1), .val (.tup (rs[k].2.map .str)), ?_⟩
      rw [er, ht]
      simp [loE]
def loI (rs : List Rule) (start : List Tx) (xs : List Int) (k : Nat) (ρ : Fz.Env) : Prop := ∃ (es : List Ent) (x4 x5 x6 x7 x8 x9 : Fz.Slot), ρ = loE rs start xs es x4 x5 x6 x7 x8 x9 ∧ DT rs start [] es = true ∧ es.length ≤ start.length + k ∧
  (0 < k → (∃ r ∈ rs, r.2 = []) → es ≠ [])
theorem long_turn {c : Nat} (rs : List Rule) (hr : ∀ r ∈ rs, r.2.length ≤ 1000) (hrl : rs.length ≤ 1000) (start : List Tx) (hst : start.length ≤ 1000) (xs : List Int) (hx : lows c xs) (hc : 0 < c) (k : Nat) (hk : k ≤ 2000) (ρ : Fz.Env) (h : loI rs start xs k ρ) (P : Po) (hP : ∀ ρ, loI rs start xs (k + 1) ρ → P.nx ρ) :
    sat (stp (gNm 4) L__law_long_3 (.int (0 + k)) ρ) P := by
  obtain ⟨es, x4, x5, x6, x7, x8, x9, rfl, h1, h2, h3⟩ := h
  obtain ⟨ah, hah⟩ : ∃ ah, es.map nm1 = ah := ⟨_, rfl⟩
  have c0 : ∀ x5, oComp (lOfA (eVar .I 3)) [11] (gNm 11) tYesF (eIx (eVar .I 11) (eC (.int 0))) (loE rs start xs es (.val (.int k)) x5 x6 x7 x8 x9) = .ok (.l (ah.map .str)) := fun x5 => by
    rw [oComp_map ev (fun e => .str e.1) es (by simp [loE]) (by simp [loE]) (fun e _ => by
      have : atI [PV.str e.1, ixP e.2] 0 = some (.str e.1) := rfl
      simp [loE, ev, this]) (le_line (by omega)), ← hah, List.map_map]
    rfl
  simp only [loE] at c0
  simp [L__law_long_3, loE, c0, rng_nat (show rs.length < 4611686018427387904 by omega)]
  refine sat_range (rdI rs start xs es (.val (.int k)) ah) ⟨x7, x8, x9, rfl⟩ (fun j ρ hj hI => long_step rs hr hrl start xs es _ ah j hj ρ hI _ fun _ h => h) ?_
  rintro _ ⟨x7, x8, x9, rfl⟩
  obtain ⟨ready, hrd⟩ : ∃ ready, (List.range rs.length).filter (rdy rs ah) = ready := ⟨_, rfl⟩
  rw [hrd]
  have rmem : ∀ j ∈ ready, j < rs.length ∧ rdy rs ah j = true := fun j hj => by
    rw [← hrd] at hj
    exact ⟨List.mem_range.mp (List.mem_filter.mp hj).1, (List.mem_filter.mp hj).2⟩
  have rlen : ready.length ≤ 1000 := by rw [← hrd]; exact Nat.le_trans (List.length_filter_le _ _) (by simpa using hrl)
  by_cases h0 : ready = []
  · subst h0
    simp [loE, R__law_long_2]
    refine hP _ ⟨es, _, _, _, _, _, _, rfl, h1, by omega, fun _ hex hes => ?_⟩
    obtain ⟨r, hrm, hr0⟩ := hex
    obtain ⟨j, hj, he⟩ := List.getElem_of_mem hrm
    have : rdy rs ah j = true := by
      simp only [rdy, List.getElem?_eq_getElem hj, he, hr0]
      rw [← hah, hes]
      simp
    have : j ∈ (List.range rs.length).filter (rdy rs ah) := List.mem_filter.mpr ⟨List.mem_range.mpr hj, this⟩
    rw [hrd] at this
    cases this
  · have rl0 : 0 < ready.length := List.length_pos_iff.mpr h0
    have xl := hx.1
    have m0 : 0 ≤ (k : Int) % (xs.length : Int) := Int.emod_nonneg _ (by omega)
    have m1 : (k : Int) % (xs.length : Int) < xs.length := Int.emod_lt_of_pos _ (by omega)
    obtain ⟨v, e1, v0, _⟩ := low_get hx m0 (by omega)
    have i0 : 0 ≤ v % (ready.length : Int) := Int.emod_nonneg _ (by omega)
    have i1 : v % (ready.length : Int) < ready.length := Int.emod_lt_of_pos _ (by omega)
    obtain ⟨j, hj⟩ : ∃ j : Nat, v % (ready.length : Int) = j := ⟨_, (Int.toNat_of_nonneg i0).symm⟩
    have jl : j < ready.length := by omega
    have ei : atI ((ready.map (rdE rs)).map ev) (j : Int) = some (ev (rdE rs ready[j])) := by
      rw [List.map_map, atI_map, atI_nn _ _ (by omega) (by omega)]
      rfl
    obtain ⟨q1, q2⟩ := rmem _ (List.getElem_mem jl)
    have ed : DT rs start [] (es ++ [rdE rs ready[j]]) = true := by
      rw [DT_app, h1, DT_one, List.nil_append, hah]
      have eg := List.getElem?_eq_getElem q1
      simp only [rdy, eg, Bool.and_eq_true] at q2
      simp only [rdE, eg, stB, Int.toNat_natCast]
      simp [q2.1, q2.2, q1]
    have ne : ready.map (rdE rs) ≠ [] := by simpa using h0
    simp [loE, R__law_long_2, h0, e1, gMod_int _ (xs.length : Int) (by omega), gMod_int _ (ready.length : Int) (by omega), hj, -List.map_map, ei, show es.length < sizeLine from lt_line (by omega)]
    refine hP _ ⟨es ++ [rdE rs ready[j]], _, _, _, _, _, _, by simp [loE]; exact ⟨rfl, rfl, rfl, rfl, rfl, rfl⟩, ed, by simp; omega, fun _ _ => by simp⟩
def LongOk (rs : List Rule) (start : List Tx) (o : OT) : Prop := ∃ es : List Ent, o = .l (es.map ev) ∧ DT rs start [] es = true ∧ es.length ≤ start.length + (rs.length + 1) ∧ ((∃ r ∈ rs, r.2 = []) → es ≠ [])
theorem long_ok {c : Nat} (rs : List Rule) (hr : ∀ r ∈ rs, r.2.length ≤ 1000) (hrl : rs.length ≤ 1000) (start : List Tx) (hst : start.length ≤ 1000) (sn : start.Nodup) (xs : List Int) (hx : lows c xs) (hc : 0 < c) :
    ∃ es : List Ent, g__law_long [.lst (rs.map rl), .lst (start.map .str), .lst (xs.map .int)] = .ok (.l (es.map ev)) ∧ DT rs start [] es = true ∧ es.length ≤ start.length + (rs.length + 1) ∧ ((∃ r ∈ rs, r.2 = []) → es ≠ []) := by
  obtain ⟨o, e, t, rfl, hx⟩ : ∃ o, g__law_long [.lst (rs.map rl), .lst (start.map .str), .lst (xs.map .int)] = .ok o ∧ LongOk rs start o := by
    refine run_ok _ rfl ?_
    obtain ⟨v, e1, v0, _⟩ := low_get hx (i := 0) (by decide) (by omega)
    have c0 : oComp (lOfA (eVar .I 1)) [10] (gNm 10) tYesF (eTup (lCons (eVar .E 10) (lCons (eC .non) lNil))) [.val (.lst (rs.map rl)), .val (.lst (start.map .str)), .bor (.lst (xs.map .int)), .u, .u, .u, .u, .u, .u, .u, .u, .u] = .ok (.l ((start.map fun t => ((t, none) : Ent)).map ev)) := by
      rw [oComp_map PV.str (fun t => ev (t, none)) start (by simp) (by simp) (fun t _ => by simp [ev, ixP]) (le_line (by omega)), List.map_map]
      rfl
    have R5 : ∀ es : List Ent, DT rs start [] es = true → es.length ≤ start.length → sat (R__law_long_5 [.val (.lst (rs.map rl)), .val (.lst (start.map .str)), .bor (.lst (xs.map .int)), .own (.l (es.map ev)), .u, .u, .u, .u, .u, .u, .u, .u]) (poR (LongOk rs start)) := fun es hd hl => by
      simp [R__law_long_5, show rngR 0 ((rs.length : Int) + 1) = .ok (rangeL 0 (rs.length + 1)) from rng_nat (n := rs.length + 1) (by omega), -List.map_map]
      refine sat_range (loI rs start xs) ⟨es, _, _, _, _, _, _, rfl, hd, by omega, fun h => absurd h (Nat.lt_irrefl _)⟩ (fun k ρ hk hI => long_turn rs hr hrl start hst xs hx hc k (by omega) ρ hI _ fun _ h => h) ?_
      rintro _ ⟨es, x4, x5, x6, x7, x8, x9, rfl, p1, p2, p3⟩
      simp [R__law_long_4, loE, -List.map_map]
      exact ⟨es, rfl, p1, by omega, fun h => p3 (by omega) h⟩
    have d1 := DT_start (rs := rs) (start := start) start [] (by simpa using sn) fun _ h => h
    have d2 := DT_start (rs := rs) (start := start) start.reverse [] (by rw [List.nil_append]; exact (List.reverse_perm start).symm.nodup sn) fun t h => by simpa using h
    simp [b__law_long, slotsOf, slotOf, List.replicate, c0, e1, -List.map_map]
    refine sat_if (fun h => ?_) (fun h => ?_)
    · have er : gRev (.lst ((start.map fun t => ((t, none) : Ent)).map ev)) (.int (-1)) = some (.l (((start.reverse.map fun t => ((t, none) : Ent))).map ev)) := by
        show (if (-1 : Int) = -1 then some (OT.l ((start.map fun t => ((t, none) : Ent)).map ev).reverse) else none) = _
        rw [if_pos rfl, ← List.map_reverse, ← List.map_reverse]
      simp [er, -List.map_map, -List.map_reverse]
      exact R5 _ d2 (by simp)
    · simp [-List.map_map]
      exact R5 _ d1 (by simp)
  exact ⟨t, e, hx⟩
end Lw
end
section
namespace Lw
open Fz
open PySem (sizeLine)
open L2 (atI ixN)
/-! _law_needed -/
def names1 (es : List Ent) : List Tx := es.map nm1
def conds (rs : List Rule) (e : Ent) : List Tx := match e.2 with
  | none => []
  | some i => (match rs[i.toNat]? with | some r => r.2 | none => [])
section
variable {rs : List Rule} {start : List Tx}
theorem DT_fresh : ∀ {es : List Ent} {ah : List Tx}, DT rs start ah es = true → (∀ e ∈ es, e.1 ∉ ah) ∧ (names1 es).Nodup
  | [], _, _ => ⟨fun _ h => (nomatch h), List.nodup_nil⟩
  | e :: es, ah, h => by
    have h : (!decide (e.1 ∈ ah) && stB rs start ah e.1 e.2 && DT rs start (ah ++ [e.1]) es) = true := h
    simp only [Bool.and_eq_true] at h
    obtain ⟨⟨h1, _⟩, h3⟩ := h
    have h1 : e.1 ∉ ah := by simpa using h1
    obtain ⟨i1, i2⟩ := DT_fresh h3
    refine ⟨fun x hx => ?_, ?_⟩
    · rcases List.mem_cons.mp hx with rfl | hx
      · exact h1
      · exact fun z => i1 x hx (List.mem_append_left _ z)
    · refine List.nodup_cons.mpr ⟨fun z => ?_, i2⟩
      obtain ⟨x, hx, e2⟩ := List.mem_map.mp z
      exact i1 x hx (by rw [show x.1 = e.1 from e2]; simp)
/-- what an entry stands on may be told anew -/
theorem stB_less {ah ah' : List Tx} {e : Ent} (h : stB rs start ah e.1 e.2 = true) (hs : ∀ c ∈ conds rs e, c ∈ ah → c ∈ ah') : stB rs start ah' e.1 e.2 = true := by
  obtain ⟨t, o⟩ := e
  cases o with
  | none => exact h
  | some i =>
    unfold stB at h ⊢
    simp only [Bool.and_eq_true] at h ⊢
    refine ⟨h.1, ?_⟩
    have h2 := h.2
    unfold conds at hs
    dsimp only at hs h2
    cases er : rs[i.toNat]? with
    | none => rw [er] at h2; cases h2
    | some r =>
      rw [er] at h2 hs
      simp only [Bool.and_eq_true, List.all_eq_true, decide_eq_true_eq] at h2 ⊢
      exact ⟨h2.1, fun c hc => hs c hc (h2.2 c hc)⟩
/-- what is kept, whatever of the front is told that is wanted -/
def Kept (rs : List Rule) (start : List Tx) (pre kept : List Ent) (wanted : List Tx) : Prop :=
  (∀ e ∈ kept, e.1 ∉ names1 pre) ∧ ∀ ah : List Tx, (∀ c ∈ wanted, c ∈ names1 pre → c ∈ ah) → (∀ c ∈ ah, c ∈ names1 pre) → DT rs start ah kept = true
theorem kept_skip {pre : List Ent} {e : Ent} {kept : List Ent} {wanted : List Tx} (h : Kept rs start (pre ++ [e]) kept wanted) (hw : e.1 ∉ wanted) : Kept rs start pre kept wanted := by
  have sub : ∀ c, c ∈ names1 pre → c ∈ names1 (pre ++ [e]) := fun c hc => by unfold names1 at hc ⊢; rw [List.map_append]; exact List.mem_append_left _ hc
  refine ⟨fun x hx z => h.1 x hx (sub _ z), fun ah h1 h2 => h.2 ah (fun c hc hp => ?_) fun c hc => sub _ (h2 c hc)⟩
  unfold names1 at hp
  rw [List.map_append] at hp
  rcases List.mem_append.mp hp with q | q
  · exact h1 c hc q
  · rw [List.mem_singleton.mp q] at hc
    exact (hw hc).elim
theorem kept_take {pre : List Ent} {e : Ent} {kept : List Ent} {wanted : List Tx} (hd : DT rs start [] (pre ++ [e]) = true) (h : Kept rs start (pre ++ [e]) kept wanted) : Kept rs start pre (e :: kept) (wanted ++ conds rs e) := by
  have nd := (DT_fresh hd).2
  unfold names1 at nd
  rw [List.map_append] at nd
  have hne : e.1 ∉ names1 pre := fun z => (List.nodup_append.mp nd).2.2 _ z e.1 (by simp [nm1]) rfl
  rw [DT_app, Bool.and_eq_true, DT_one, Bool.and_eq_true, List.nil_append] at hd
  have sub : ∀ c, c ∈ names1 pre → c ∈ names1 (pre ++ [e]) := fun c hc => by unfold names1 at hc ⊢; rw [List.map_append]; exact List.mem_append_left _ hc
  have last : e.1 ∈ names1 (pre ++ [e]) := by unfold names1; rw [List.map_append]; exact List.mem_append_right _ (by simp [nm1])
  refine ⟨fun x hx => ?_, fun ah h1 h2 => ?_⟩
  · rcases List.mem_cons.mp hx with rfl | hx
    · exact hne
    · exact fun z => h.1 x hx (sub _ z)
  · show (!decide (e.1 ∈ ah) && stB rs start ah e.1 e.2 && DT rs start (ah ++ [e.1]) kept) = true
    have a1 : e.1 ∉ ah := fun z => hne (h2 _ z)
    have a2 : stB rs start ah e.1 e.2 = true := stB_less hd.2.2 fun c hc hp => h1 c (List.mem_append_right _ hc) hp
    have a3 : DT rs start (ah ++ [e.1]) kept = true := h.2 (ah ++ [e.1]) (fun c hc hp => by
      unfold names1 at hp
      rw [List.map_append] at hp
      rcases List.mem_append.mp hp with q | q
      · exact List.mem_append_left _ (h1 c (List.mem_append_left _ hc) q)
      · exact List.mem_append_right _ q) fun c hc => by
        rcases List.mem_append.mp hc with q | q
        · exact sub _ (h2 c q)
        · rw [List.mem_singleton.mp q]; exact last
    rw [a2, a3]
    simp [a1]
end
@[simp] theorem gNotN_non : gNotN .non .non = some false := (rfl)
@[simp] theorem gNotN_int (i : Int) : gNotN (.int i) .non = some true := (rfl)
def neE (rs : List Rule) (vs : List PV) (kept : List Ent) (wanted : List Tx) (x4 : Fz.Slot) : Fz.Env := [.val (.lst (rs.map rl)), .val (.lst vs), .own (.l (kept.map ev)), .own (.l (wanted.map .str)), x4]
def LastOk (pre kept : List Ent) (wanted : List Tx) (all : List PV) : Prop := (kept = [] ∧ ∃ pre' e, pre = pre' ++ [e] ∧ e.1 ∈ wanted ∧ ∀ f, lastB f [ev e] = lastB f all) ∨ (kept ≠ [] ∧ ∀ f, lastB f (kept.map ev) = lastB f all)
theorem need_loop (B : Nat) (hB : B ≤ 4000) (rs : List Rule) (hr : ∀ r ∈ rs, r.2.length ≤ 60) (start : List Tx) (all : List PV) (P : Po) (hP : ∀ kept wanted x4, kept.length ≤ B → DT rs start [] kept = true → (kept = [] → False) → (∀ f, lastB f (kept.map ev) = lastB f all) → P.nx (neE rs all kept wanted x4)) :
    ∀ (n : Nat) (pre kept : List Ent) (wanted : List Tx) (x4 : Fz.Slot), pre.length = n → DT rs start [] pre = true → Kept rs start pre kept wanted → n + kept.length ≤ B → wanted.length + 60 * n ≤ 1000000 → LastOk pre kept wanted all →
    sat (loop (gNm 4) L__law_needed_1 (pre.map ev).reverse (neE rs all kept wanted x4)) P
  | 0, pre, kept, wanted, x4, hn, hd, hk, hl, hw, hlo => by
    have : pre = [] := List.length_eq_zero_iff.mp hn
    subst this
    obtain ⟨hne, hla⟩ : kept ≠ [] ∧ ∀ f, lastB f (kept.map ev) = lastB f all := by
      rcases hlo with ⟨_, p', e', hpe, _⟩ | h
      · simp at hpe
      · exact h
    rw [List.map_nil, List.reverse_nil, sat_nil]
    exact hP _ _ _ (by omega) (hk.2 [] (fun c _ hp => nomatch hp) (fun c hc => nomatch hc)) hne hla
  | n + 1, pre, kept, wanted, x4, hn, hd, hk, hl, hw, hlo => by
    have hp0 : pre ≠ [] := fun z => by rw [z] at hn; cases hn
    obtain ⟨pre', e, rfl⟩ : ∃ pre' e, pre = pre' ++ [e] := ⟨pre.dropLast, pre.getLast hp0, (List.dropLast_concat_getLast hp0).symm⟩
    have hn' : pre'.length = n := by simpa using hn
    have hd' : DT rs start [] pre' = true := by rw [DT_app, Bool.and_eq_true] at hd; exact hd.1
    rw [List.map_append, List.reverse_append]
    show sat (loop (gNm 4) L__law_needed_1 (ev e :: (pre'.map ev).reverse) _) P
    rw [sat_cons]
    have i0 : atI [PV.str e.1, ixP e.2] 0 = some (.str e.1) := rfl
    have i1 : atI [PV.str e.1, ixP e.2] 1 = some (ixP e.2) := rfl
    by_cases hm : e.1 ∈ wanted
    · have a1 : gAdd (.lst [ev e]) (.lst (kept.map ev)) = some (.l ((e :: kept).map ev)) := by
        rw [gAdd_lst _ _ (le_line (by simp; omega))]
        rfl
      have la : ∀ f, lastB f ((e :: kept).map ev) = lastB f all := fun f => by
        rcases hlo with ⟨rfl, p', e', hpe, _, h⟩ | ⟨hne, hla⟩
        · have := (List.append_inj' hpe rfl).2
          cases this
          exact h f
        · rw [← hla f]
          unfold lastB
          rw [List.map_cons, List.getLast?_cons_of_ne_nil (by simpa using hne)]
      obtain ⟨t, o⟩ := e
      cases o with
      | none =>
        have kt := kept_take hd hk
        have hc : conds rs ((t, none) : Ent) = [] := rfl
        rw [hc, List.append_nil] at kt
        have := need_loop B hB rs hr start all P hP n pre' ((t, none) :: kept) wanted (.val (ev (t, none))) hn' hd' kt (by simp; omega) (by omega) (.inr ⟨by simp, la⟩)
        simp [ev, ixP] at i0 i1 a1
        simp [L__law_needed_1, neE, ev, ixP, i0, i1, hm, a1]
        simpa [neE, ev, ixP, L__law_needed_1] using this
      | some i =>
        have kt := kept_take hd hk
        have hs : stB rs start (names1 pre') t (some i) = true := by
          rw [DT_app, Bool.and_eq_true, DT_one, Bool.and_eq_true] at hd
          exact hd.2.2
        unfold stB at hs
        simp only [Bool.and_eq_true, decide_eq_true_eq] at hs
        obtain ⟨⟨h0, h1⟩, h2⟩ := hs
        obtain ⟨j, rfl⟩ : ∃ j : Nat, i = j := ⟨i.toNat, by omega⟩
        have hj : j < rs.length := by omega
        have hc : conds rs ((t, some (j : Int)) : Ent) = rs[j].2 := by
          unfold conds
          simp only [Int.toNat_natCast, List.getElem?_eq_getElem hj]
        have ei : atI (rs.map rl) (j : Int) = some (rl rs[j]) := by
          rw [atI_map, atI_nn _ _ (by omega) (by omega)]
          rfl
        have ei1 : atI [PV.str rs[j].1, PV.tup (rs[j].2.map .str)] 1 = some (.tup (rs[j].2.map .str)) := rfl
        have hr2 := hr _ (List.getElem_mem hj)
        rw [hc] at kt
        have a2 : gAdd (.lst (wanted.map .str)) (.lst (rs[j].2.map .str)) = some (.l ((wanted ++ rs[j].2).map .str)) := by
          rw [gAdd_lst _ _ (le_line (by simp; omega)), List.map_append]
        have := need_loop B hB rs hr start all P hP n pre' ((t, some (j : Int)) :: kept) (wanted ++ rs[j].2) (.val (ev (t, some (j : Int)))) hn' hd' kt (by simp; omega) (by simp; omega) (.inr ⟨by simp, la⟩)
        simp [ev, ixP] at i0 i1 a1
        simp [L__law_needed_1, neE, ev, ixP, i0, i1, hm, a1, ei, rl, ei1, a2, -List.map_append]
        simpa [neE, ev, ixP, L__law_needed_1] using this
    · have := need_loop B hB rs hr start all P hP n pre' kept wanted (.val (ev e)) hn' hd' (kept_skip hk hm) (by omega) (by omega) (by
        rcases hlo with ⟨_, p', e', hpe, hw', _⟩ | h
        · have := (List.append_inj' hpe rfl).2
          cases this
          exact (hm hw').elim
        · exact .inr h)
      simp [L__law_needed_1, neE, ev, i0, i1, hm]
      simpa [neE, ev, L__law_needed_1] using this
theorem last_ev {es : List Ent} (h : es ≠ []) (field : Tx) : lastB field (es.map ev) = decide ((es.getLast h).1 = field) := by
  unfold lastB
  rw [List.getLast?_eq_some_getLast (by simpa using h), List.getLast_map]
  dsimp only
  rw [parse_ev]
def NeedOk (B : Nat) (rs : List Rule) (start : List Tx) (vs : List PV) (o : OT) : Prop := ∃ es : List Ent, o = .l (es.map ev) ∧ DT rs start [] es = true ∧ es.length ≤ B ∧ es ≠ [] ∧ ∀ f, lastB f (es.map ev) = lastB f vs
theorem needed_ok (rs : List Rule) (hr : ∀ r ∈ rs, r.2.length ≤ 60) (start : List Tx) (es : List Ent) (h0 : es ≠ []) (hl : es.length ≤ 3000) (hd : DT rs start [] es = true) : ∃ o, g__law_needed [.lst (rs.map rl), .lst (es.map ev)] = .ok o ∧ NeedOk es.length rs start (es.map ev) o := by
  refine run_ok _ rfl ?_
  obtain ⟨pre, e, rfl⟩ : ∃ pre e, es = pre ++ [e] := ⟨es.dropLast, es.getLast h0, (List.dropLast_concat_getLast h0).symm⟩
  have hd' : DT rs start [] pre = true := by rw [DT_app, Bool.and_eq_true] at hd; exact hd.1
  have i0 : atI [PV.str e.1, ixP e.2] 0 = some (.str e.1) := rfl
  have il : atI ((pre ++ [e]).map ev) (-1) = some (ev e) := by
    rw [atI_m1 _ (by simp)]
    simp
  have er : gRev (.lst ((pre ++ [e]).map ev)) (.int (-1)) = some (.l ((pre ++ [e]).map ev).reverse) := rfl
  have lk : ∀ f, lastB f [ev e] = lastB f ((pre ++ [e]).map ev) := fun f => by
    rw [last_ev h0]
    simp [lastB, parse_ev]
  have lp := need_loop (pre ++ [e]).length (by omega) rs hr start ((pre ++ [e]).map ev) (P := { poR (NeedOk (pre ++ [e]).length rs start ((pre ++ [e]).map ev)) with nx := fun ρ => sat (R__law_needed_2 ρ) (poR (NeedOk (pre ++ [e]).length rs start ((pre ++ [e]).map ev))) }) (fun kept wanted x4 q1 q2 q3 q4 => by
    simp [R__law_needed_2, neE, -List.map_append]
    exact ⟨kept, rfl, q2, by simpa using q1, fun z => q3 z, q4⟩) (pre.length + 1) (pre ++ [e]) [] [e.1] .u (by simp) hd ⟨fun _ h => (nomatch h), fun _ _ _ => rfl⟩ (by simp) (by simp at hl ⊢; omega) (.inl ⟨rfl, pre, e, rfl, by simp, lk⟩)
  simp only [neE] at lp
  simp [b__law_needed, slotsOf, slotOf, List.replicate, il, ev, i0, er, -List.map_append, -List.reverse_append]
  simpa [ev, -List.map_append, -List.reverse_append] using lp
end Lw
end
section
namespace Lw
open Fz
open PySem (sizeLine)
open L2 (atI ixN)
/-! _law_changed -/
def Itm (q : PV) : Prop := plE q ∧ isData q = true ∧ dep q ≤ 3
def Chk (p : PV) : Prop := pl p = true ∧ ∀ vs, p = .lst vs → eqOk p = true ∧ vs.length ≤ 1000 ∧ ∀ q ∈ vs, plE q
theorem chk_lst {vs : List PV} (hl : vs.length ≤ 1000) (h : ∀ q ∈ vs, Itm q) : Chk (.lst vs) := by
  refine ⟨rfl, fun ws e => ?_⟩
  cases e
  exact ⟨eqOk_lst fun q hq => ⟨(h q hq).2.1, by have := (h q hq).2.2; omega⟩, hl, fun q hq => (h q hq).1⟩
theorem chk_other {p : PV} (h : pl p = true) (hn : ∀ vs, p ≠ .lst vs) : Chk p := ⟨h, fun vs e => (hn vs e).elim⟩
structure EntOk (e : Ent) : Prop where
  nm : e.1.length ≤ 100
  ix : ∀ i, e.2 = some i → 0 ≤ i ∧ i < 1000
theorem itm_tup2 {x y : PV} (hx : pl x = true ∧ isData x = true ∧ dep x ≤ 0) (hy : pl y = true ∧ isData y = true ∧ dep y ≤ 0) (lx : ∀ t, x = .str t → t.length ≤ 10000) (ly : ∀ t, y = .str t → t.length ≤ 10000) : Itm (.tup [x, y]) := by
  refine ⟨fun q hq => ?_, ?_, ?_⟩
  · rcases List.mem_cons.mp hq with rfl | hq
    · exact ⟨hx.1, lx⟩
    · rw [List.mem_singleton.mp hq]; exact ⟨hy.1, ly⟩
  · show (isData x && (isData y && true)) = true
    rw [hx.2.1, hy.2.1]; rfl
  · show max (dep x) (max (dep y) 0) + 1 ≤ 3
    omega
theorem itm_ev {e : Ent} (h : EntOk e) : Itm (ev e) := by
  obtain ⟨t, o⟩ := e
  refine itm_tup2 ⟨rfl, rfl, Nat.le_refl _⟩ ?_ (fun s hs => by cases hs; have := h.nm; exact Nat.le_trans this (by decide)) (fun s hs => ?_)
  · cases o <;> exact ⟨rfl, rfl, Nat.le_refl _⟩
  · cases o <;> cases hs
theorem itm_evs {es : List Ent} (h : ∀ e ∈ es, EntOk e) : ∀ q ∈ es.map ev, Itm q := fun q hq => by
  obtain ⟨e, he, rfl⟩ := List.mem_map.mp hq
  exact itm_ev (h e he)
def chE (rs : List Rule) (es : List Ent) (xs : List Int) (a b : Int) (t : Tx) (o : Option Int) (found : List PV) (x8 : Fz.Slot) : Fz.Env := [.bor (.lst (rs.map rl)), .val (.lst (es.map ev)), .bor (.lst (xs.map .int)), .val (.int a), .val (.int b), .val (.str t), .val (ixP o), .own (.l found), x8, .u]
def chI (rs : List Rule) (es : List Ent) (xs : List Int) (a b : Int) (t : Tx) (o : Option Int) (base : Nat) (k : Nat) (ρ : Fz.Env) : Prop := ∃ (found : List PV) (x8 : Fz.Slot), ρ = chE rs es xs a b t o found x8 ∧ found.length = base + k ∧ ∀ p ∈ found, Chk p
theorem sl_toP (vs : List PV) (a : Nat) : gSl (.lst vs) none (some (a : Int)) = some (.l (vs.take a)) := by rw [gSl_lst, cut_to]
theorem sl_fromP (vs : List PV) (i : Int) (a : Nat) (h : i = a) : gSl (.lst vs) (some i) none = some (.l (vs.drop a)) := by rw [h, gSl_lst, cut_from]
theorem add_P {x y : List PV} (h : x.length + y.length ≤ 100000) : gAdd (.lst x) (.lst y) = some (.l (x ++ y)) := gAdd_lst _ _ (le_line (by omega))
theorem put_chk {es : List Ent} (hl : es.length ≤ 900) (he : ∀ e ∈ es, EntOk e) (a : Nat) (q : PV) (hq : Itm q) : Chk (.lst ((es.map ev).take a ++ q :: (es.map ev).drop (a + 1))) := by
  refine chk_lst (by simp; omega) fun x hx => ?_
  rcases List.mem_append.mp hx with z | z
  · exact itm_evs he x (List.mem_of_mem_take z)
  · rcases List.mem_cons.mp z with rfl | z
    · exact hq
    · exact itm_evs he x (List.mem_of_mem_drop z)
theorem chg_step1 (rs : List Rule) (es : List Ent) (hl : es.length ≤ 900) (he : ∀ e ∈ es, EntOk e) (xs : List Int) (a : Nat) (b : Int) (t : Tx) (o : Option Int) (base k : Nat) (hb : base + k ≤ 1000) (q : PV) (hq : Itm q) (ρ : Fz.Env) (h : chI rs es xs a b t o base k ρ) (P : Po) (hP : ∀ ρ, chI rs es xs a b t o base (k + 1) ρ → P.nx ρ) :
    sat (stp (gNm 8) L__law_changed_1 q ρ) P ∧ sat (stp (gNm 8) L__law_changed_2 q ρ) P := by
  obtain ⟨found, x8, rfl, h1, h2⟩ := h
  have fin : P.nx (chE rs es xs a b t o (found ++ [.lst ((es.map ev).take a ++ q :: (es.map ev).drop (a + 1))]) (.val q)) := hP _ ⟨_, _, rfl, by simp; omega, fun p hp => by
    rcases List.mem_append.mp hp with z | z
    · exact h2 p z
    · rw [List.mem_singleton.mp z]; exact put_chk hl he a q hq⟩
  have a1 : gAdd (.lst ((es.map ev).take a)) (.lst [q]) = some (.l ((es.map ev).take a ++ [q])) := add_P (by simp; omega)
  have a2 : gAdd (.lst ((es.map ev).take a ++ [q])) (.lst ((es.map ev).drop (a + 1))) = some (.l ((es.map ev).take a ++ [q] ++ (es.map ev).drop (a + 1))) := add_P (by simp; omega)
  have hf : found.length < sizeLine := lt_line (by omega)
  constructor
  · simp [L__law_changed_1, chE, sl_toP, sl_fromP _ ((a : Int) + 1) (a + 1) rfl, a1, a2, hf, -List.map_take, -List.map_drop, -List.append_assoc]
    simpa [chE] using fin
  · simp [L__law_changed_2, chE, sl_toP, sl_fromP _ ((a : Int) + 1) (a + 1) rfl, a1, a2, hf, -List.map_take, -List.map_drop, -List.append_assoc]
    simpa [chE] using fin
theorem small_txt : (List.range 1000).all (fun i => decide ((txt (toString ((i : Nat) : Int))).length ≤ 10000)) = true := by decide +kernel
theorem ix_txt {e : Ent} (h : EntOk e) : ∃ u, gStrA (ixP e.2) = some (.str u) ∧ u.length ≤ 10000 := by
  obtain ⟨t, o⟩ := e
  cases o with
  | none => exact ⟨_, rfl, by decide +kernel⟩
  | some i =>
    obtain ⟨h0, h1⟩ := h.ix i rfl
    refine ⟨txt (toString i), (gStrA_int i).trans (gStr_int _ (by omega)), ?_⟩
    have := of_decide_eq_true (List.all_eq_true.mp small_txt i.toNat (List.mem_range.mpr (by omega)))
    rwa [Int.toNat_of_nonneg h0] at this
theorem xlen : (txt "x").length = 1 := by decide +kernel
def ChgOk (o : OT) : Prop := ∃ found : List PV, o = .l found ∧ ∀ p ∈ found, Chk p
theorem chk_part {vs : List PV} {es : List Ent} (he : ∀ e ∈ es, EntOk e) (hl : vs.length ≤ 1000) (h : ∀ q ∈ vs, q ∈ es.map ev) : Chk (.lst vs) := chk_lst hl fun q hq => itm_evs he q (h q hq)
theorem dat_es {es : List Ent} (he : ∀ e ∈ es, EntOk e) : isData (.lst (es.map ev)) = true ∧ dep (.lst (es.map ev)) ≤ 3 := by
  have key : ∀ es : List Ent, isDatas (es.map ev) = true ∧ deps (es.map ev) ≤ 1 := fun es => by
    induction es with
    | nil => exact ⟨rfl, Nat.zero_le _⟩
    | cons e es ih =>
      obtain ⟨t, o⟩ := e
      refine ⟨?_, ?_⟩
      · show (isData (ev (t, o)) && isDatas (es.map ev)) = true
        rw [ih.1]
        cases o <;> rfl
      · show max (dep (ev (t, o))) (deps (es.map ev)) ≤ 1
        have := ih.2
        have : dep (ev (t, o)) = 1 := by cases o <;> rfl
        omega
  refine ⟨(key es).1, ?_⟩
  show deps (es.map ev) + 1 ≤ 3
  have := (key es).2
  omega
theorem changed_ok {c : Nat} (rs : List Rule) (hr0 : 0 < rs.length) (hr1 : rs.length ≤ 900) (es : List Ent) (h0 : es ≠ []) (hl : es.length ≤ 900) (he : ∀ e ∈ es, EntOk e) (xs : List Int) (hx : lows c xs) (hc : 3 ≤ c) :
    ∃ o, g__law_changed [.lst (rs.map rl), .lst (es.map ev), .lst (xs.map .int)] = .ok o ∧ ChgOk o := by
  refine run_ok _ rfl ?_
  have el : 0 < es.length := List.length_pos_iff.mpr h0
  obtain ⟨v0, e0, p0, q0⟩ := low_get hx (i := 0) (by decide) (by omega)
  obtain ⟨v1, e1, p1, q1⟩ := low_get hx (i := 1) (by decide) (by omega)
  obtain ⟨v2, e2, p2, q2⟩ := low_get hx (i := 2) (by decide) (by omega)
  obtain ⟨a, ha⟩ : ∃ a : Nat, v0 % (es.length : Int) = a := ⟨_, (Int.toNat_of_nonneg (Int.emod_nonneg _ (by omega))).symm⟩
  obtain ⟨b, hb⟩ : ∃ a : Nat, v1 % (es.length : Int) = a := ⟨_, (Int.toNat_of_nonneg (Int.emod_nonneg _ (by omega))).symm⟩
  obtain ⟨r, hr⟩ : ∃ a : Nat, v2 % (rs.length : Int) = a := ⟨_, (Int.toNat_of_nonneg (Int.emod_nonneg _ (by omega))).symm⟩
  have al : a < es.length := by have := Int.emod_lt_of_pos v0 (show (0 : Int) < es.length by omega); omega
  have bl : b < es.length := by have := Int.emod_lt_of_pos v1 (show (0 : Int) < es.length by omega); omega
  have ia : atI (es.map ev) (a : Int) = some (ev es[a]) := by
    rw [atI_map, atI_nn _ _ (by omega) (by omega)]
    rfl
  have ib : atI (es.map ev) (b : Int) = some (ev es[b]) := by
    rw [atI_map, atI_nn _ _ (by omega) (by omega)]
    rfl
  have hea := he _ (List.getElem_mem al)
  have heb := he _ (List.getElem_mem bl)
  obtain ⟨t, o, hto⟩ : ∃ t o, es[a] = (t, o) := ⟨_, _, rfl⟩
  have m1 : ∀ q ∈ [ev es[a]], q ∈ es.map ev := fun q hq => by rw [List.mem_singleton.mp hq]; exact List.mem_map_of_mem (List.getElem_mem al)
  have m2 : ∀ q ∈ [ev es[b]], q ∈ es.map ev := fun q hq => by rw [List.mem_singleton.mp hq]; exact List.mem_map_of_mem (List.getElem_mem bl)
  have A : ∀ {x y : List PV}, x.length + y.length ≤ 100000 → gAdd (.lst x) (.lst y) = some (.l (x ++ y)) := add_P
  have er : gRev (.lst (es.map ev)) (.int (-1)) = some (.l (es.map ev).reverse) := rfl
  have eva : ev es[a] = .tup [.str t, ixP o] := by rw [hto]; rfl
  rw [eva] at ia m1
  have hea : EntOk (t, o) := hto ▸ hea
  have s1 := sl_toP (es.map ev) a
  have s2 := sl_fromP (es.map ev) ((a : Int) + 1) (a + 1) rfl
  have s3 : gSl (.lst (es.map ev)) none (some ((a : Int) + 1)) = some (.l ((es.map ev).take (a + 1))) := by
    rw [show (a : Int) + 1 = ((a + 1 : Nat) : Int) from rfl, gSl_lst, cut_to]
  have a1 : gAdd (.lst ((es.map ev).take a)) (.lst ((es.map ev).drop (a + 1))) = some (.l ((es.map ev).take a ++ (es.map ev).drop (a + 1))) := A (by simp; omega)
  have a2 : gAdd (.lst (es.map ev)) (.lst [.tup [.str t, ixP o]]) = some (.l (es.map ev ++ [.tup [.str t, ixP o]])) := A (by simp; omega)
  have a3 : gAdd (.lst [ev es[b]]) (.lst (es.map ev)) = some (.l ([ev es[b]] ++ es.map ev)) := A (by simp; omega)
  simp [b__law_changed, slotsOf, slotOf, List.replicate, e0, e1, gMod_int _ (es.length : Int) (by omega), ha, hb, ia, ib, s1, s2, s3, a1, a2, a3, er, e2, gMod_int _ (rs.length : Int) (by omega), hr, -List.map_take, -List.map_drop]
  have itA : ∀ y : PV, pl y = true ∧ isData y = true ∧ dep y ≤ 0 → (∀ u, y = .str u → u.length ≤ 10000) → Itm (.tup [.str t, y]) := fun y h1 h2 => itm_tup2 ⟨rfl, rfl, Nat.le_refl _⟩ h1 (fun u hu => by cases hu; have := hea.nm; exact Nat.le_trans this (by decide)) h2
  refine sat_for (chI rs es xs a b t o 5) ⟨_, _, rfl, rfl, fun p hp => ?_⟩ (fun k p ρ hk hI => ?_) ?_
  · simp only [List.mem_cons, List.not_mem_nil, or_false] at hp
    rcases hp with rfl | rfl | rfl | rfl | rfl
    · exact chk_part he (by simp; omega) fun q hq => (List.mem_append.mp hq).elim List.mem_of_mem_take List.mem_of_mem_drop
    · exact chk_part he (by simp; omega) fun q hq => (List.mem_append.mp hq).elim id (m1 q)
    · exact chk_part he (by simp; omega) fun q hq => (List.mem_cons.mp hq).elim (fun h => m2 q (by rw [h]; simp)) id
    · exact chk_part he (by simp; omega) fun q hq => List.mem_reverse.mp hq
    · exact chk_part he (by simp; omega) fun q hq => List.mem_of_mem_take hq
  · have hmem := List.mem_of_getElem? hk
    have hk7 : k < 7 := (List.getElem?_eq_some_iff.mp hk).1
    refine (chg_step1 rs es hl he xs a b t o 5 k (by omega) p ?_ ρ hI _ fun _ h => h).1
    simp only [List.mem_cons, List.not_mem_nil, or_false] at hmem
    rcases hmem with rfl | rfl | rfl | rfl | rfl | rfl | rfl
    · exact itA _ ⟨rfl, rfl, Nat.le_refl _⟩ (fun u h => nomatch h)
    · exact itA _ ⟨rfl, rfl, Nat.le_refl _⟩ (fun u h => nomatch h)
    · exact itA _ ⟨rfl, rfl, Nat.le_refl _⟩ (fun u h => nomatch h)
    · exact itA _ ⟨rfl, rfl, Nat.le_refl _⟩ (fun u h => nomatch h)
    · exact itA _ ⟨rfl, rfl, Nat.le_refl _⟩ (fun u h => nomatch h)
    · exact itA _ ⟨rfl, rfl, Nat.le_refl _⟩ (fun u h => nomatch h)
    · exact ⟨fun q hq => by rw [List.mem_singleton.mp hq]; exact ⟨rfl, fun u hu => by cases hu; have := hea.nm; exact Nat.le_trans this (by decide)⟩, rfl, by show 1 ≤ 3; decide⟩
  · rintro _ ⟨found, x8, rfl, f1, f2⟩
    obtain ⟨u, eu, ul⟩ := ix_txt hea
    have ex : gAdd (.str t) (.str (txt "x")) = some (.fz (.str (t ++ txt "x"))) := gAdd_str _ _ (le_line (by have := hea.nm; rw [xlen]; dsimp only at this; omega))
    dsimp only at eu
    have R3 : ∀ ρ, chI rs es xs a b t o 12 8 ρ → sat (R__law_changed_3 ρ) (poR ChgOk) := by
      rintro _ ⟨found, x8, rfl, f1, f2⟩
      obtain ⟨sw, hsw⟩ : ∃ sw, ((es.map ev).set a (ev es[b])).set b (.tup [.str t, ixP o]) = sw := ⟨_, rfl⟩
      have p1 : ∀ ρ : Fz.Env, putS 9 ρ (.int a) (ev es[b]) (some (.own (.l (es.map ev)))) = .nx (ρ.set 9 (.own (.l ((es.map ev).set a (ev es[b]))))) := fun ρ => put_l _ _ _ _ _ (by omega) (by rw [List.length_map]; omega)
      have p2 : ∀ ρ : Fz.Env, putS 9 ρ (.int b) (.tup [.str t, ixP o]) (some (.own (.l ((es.map ev).set a (ev es[b]))))) = .nx (ρ.set 9 (.own (.l sw))) := fun ρ => by
        rw [put_l _ _ _ _ _ (by omega) (by rw [List.length_set, List.length_map]; omega), Int.toNat_natCast, hsw]
      have sc : Chk (.lst sw) := by
        rw [← hsw]
        refine chk_lst (by simp; omega) fun q hq => ?_
        rcases List.mem_or_eq_of_mem_set hq with q1 | q1
        · rcases List.mem_or_eq_of_mem_set q1 with q2 | q2
          · exact itm_evs he q q2
          · rw [q2]; exact itm_ev heb
        · rw [q1]; exact itm_ev (e := (t, o)) hea
      have af : gAdd (.lst found) (.lst [.lst sw, .tup (es.map ev), .non, .dic [], .str (txt ""), .lst [], .int 0, .lst [.non], .lst [.tup []], .lst [.lst (es.map ev)]]) = some (.l (found ++ [.lst sw, .tup (es.map ev), .non, .dic [], .str (txt ""), .lst [], .int 0, .lst [.non], .lst [.tup []], .lst [.lst (es.map ev)]])) := A (by simp; omega)
      simp [R__law_changed_3, chE, ia, ib, p1, p2, af]
      refine ⟨_, rfl, fun p hp => ?_⟩
      rcases List.mem_append.mp hp with z | z
      · exact f2 p z
      · have dl := dat_es he
        simp only [List.mem_cons, List.not_mem_nil, or_false] at z
        rcases z with rfl | rfl | rfl | rfl | rfl | rfl | rfl | rfl | rfl | rfl
        · exact sc
        · exact chk_other rfl fun _ h => nomatch h
        · exact chk_other rfl fun _ h => nomatch h
        · exact chk_other rfl fun _ h => nomatch h
        · exact chk_other rfl fun _ h => nomatch h
        · exact chk_lst (by simp) fun q hq => nomatch hq
        · exact chk_other rfl fun _ h => nomatch h
        · exact chk_lst (by simp) fun q hq => by rw [List.mem_singleton.mp hq]; exact ⟨rfl, rfl, by decide⟩
        · exact chk_lst (by simp) fun q hq => by rw [List.mem_singleton.mp hq]; exact ⟨fun _ h => (nomatch h), rfl, by decide⟩
        · exact chk_lst (by simp) fun q hq => by rw [List.mem_singleton.mp hq]; exact ⟨rfl, dl⟩
    simp [R__law_changed_4, chE, eu, ex]
    refine sat_for (chI rs es xs a b t o 12) ⟨found, x8, rfl, by simpa using f1, f2⟩ (fun k p ρ hk hI => ?_) R3
    have hmem := List.mem_of_getElem? hk
    have hk8 : k < 8 := (List.getElem?_eq_some_iff.mp hk).1
    refine (chg_step1 rs es hl he xs a b t o 12 k (by omega) p ?_ ρ hI _ fun _ h => h).2
    have io : pl (ixP o) = true ∧ isData (ixP o) = true ∧ dep (ixP o) ≤ 0 := by cases o <;> exact ⟨rfl, rfl, Nat.le_refl _⟩
    have ino : ∀ w, ixP o = .str w → w.length ≤ 10000 := fun w hw => by cases o <;> cases hw
    have tl : ∀ w, PV.str t = .str w → w.length ≤ 10000 := fun w hw => by cases hw; exact Nat.le_trans hea.nm (by decide)
    have d0 : dep (ixP o) = 0 := by have := io.2.2; omega
    simp only [List.mem_cons, List.not_mem_nil, or_false] at hmem
    rcases hmem with rfl | rfl | rfl | rfl | rfl | rfl | rfl | rfl
    · exact itA _ ⟨rfl, rfl, Nat.le_refl _⟩ (fun w hw => by cases hw; exact ul)
    · refine ⟨fun q hq => ?_, ?_, ?_⟩
      · simp only [List.mem_cons, List.not_mem_nil, or_false] at hq
        rcases hq with rfl | rfl | rfl
        · exact ⟨rfl, tl⟩
        · exact ⟨io.1, ino⟩
        · exact ⟨io.1, ino⟩
      · show (true && (isData (ixP o) && (isData (ixP o) && true))) = true
        rw [io.2.1]; rfl
      · show max 0 (max (dep (ixP o)) (max (dep (ixP o)) 0)) + 1 ≤ 3
        rw [d0]; decide
    · refine ⟨rfl, ?_, ?_⟩
      · show (true && (isData (ixP o) && true)) = true
        rw [io.2.1]; rfl
      · show max 0 (max (dep (ixP o)) 0) + 1 ≤ 3
        rw [d0]; decide
    · exact ⟨rfl, rfl, by decide⟩
    · exact ⟨rfl, rfl, by show 0 ≤ 3; decide⟩
    · exact itm_tup2 ⟨rfl, rfl, Nat.le_refl _⟩ io (fun w hw => nomatch hw) ino
    · exact itm_tup2 io ⟨rfl, rfl, Nat.le_refl _⟩ ino tl
    · exact itm_tup2 ⟨rfl, rfl, Nat.le_refl _⟩ io (fun w hw => by cases hw; rw [List.length_append, xlen]; have := hea.nm; dsimp only at this; omega) ino
end Lw
end
section
namespace Lw
open Fz
open PySem (sizeLine)
open L2 (atI ixN)
theorem says_ok (a b : Bool) : g__law_says [.bl a, .bl b] = .ok (.fz (.bl (a == b))) := by
  refine runN _ _ _ _ rfl ?_
  simp [b__law_says, slotsOf, slotOf, List.replicate]
structure World (names : List Tx) (rs : List Rule) (start : List Tx) : Prop where
  nms : Nms names
  sub : Sub names start
  rul : ∀ r ∈ rs, r.1 ∈ names ∧ r.2.length < 60
  few : rs.length ≤ 60
theorem World.rn {names : List Tx} {rs : List Rule} {start : List Tx} (w : World names rs start) : ∀ r ∈ rs, isNm r.1 = true := fun r hr => good_nm (w.nms.good _ (w.rul r hr).1)
theorem World.sn {names : List Tx} {rs : List Rule} {start : List Tx} (w : World names rs start) : ∀ t ∈ start, isNm t = true := fun t ht => good_nm (w.nms.good _ (w.sub.mem t ht))
theorem World.r1000 {names : List Tx} {rs : List Rule} {start : List Tx} (w : World names rs start) : ∀ r ∈ rs, r.2.length ≤ 1000 := fun r hr => by have := (w.rul r hr).2; omega
/-- what may stand in a good list -/
theorem ent_ok {names : List Tx} {rs : List Rule} {start : List Tx} (w : World names rs start) : ∀ {es : List Ent} {ah : List Tx}, DT rs start ah es = true → ∀ e ∈ es, EntOk e
  | [], _, _, e, he => nomatch he
  | x :: es, ah, h, e, he => by
    have h : (!decide (x.1 ∈ ah) && stB rs start ah x.1 x.2 && DT rs start (ah ++ [x.1]) es) = true := h
    simp only [Bool.and_eq_true] at h
    rcases List.mem_cons.mp he with rfl | he
    · obtain ⟨t, o⟩ := e
      have hs := h.1.2
      cases o with
      | none =>
        have : t ∈ start := of_decide_eq_true hs
        exact ⟨by have := (w.nms.good _ (w.sub.mem t this)).1; exact Nat.le_trans this (by decide), fun i hi => nomatch hi⟩
      | some i =>
        unfold stB at hs
        simp only [Bool.and_eq_true, decide_eq_true_eq] at hs
        obtain ⟨⟨h0, h1⟩, h2⟩ := hs
        cases er : rs[i.toNat]? with
        | none => rw [er] at h2; cases h2
        | some r =>
          rw [er] at h2
          simp only [Bool.and_eq_true, decide_eq_true_eq] at h2
          refine ⟨?_, fun j hj => by cases hj; have := w.few; omega⟩
          have := (w.nms.good _ (w.rul r (List.mem_of_getElem? er)).1).1
          rw [h2.1] at this
          exact Nat.le_trans this (by decide)
    · exact ent_ok w h.2 e he
def lwE (ns : List Int) (names : List Tx) (rs : List Rule) (start : List Tx) (xs : List Int) (whole : List Ent) (x6 x7 x8 x9 x10 x11 : Fz.Slot) : Fz.Env := [.val (.rol (ns.map .int)), .val (.lst (names.map .str)), .val (.lst (rs.map rl)), .val (.lst (start.map .str)), .own (.l (xs.map .int)), .own (.l (whole.map ev)), x6, x7, x8, x9, x10, x11]
section
variable {names : List Tx} {rs : List Rule} {start : List Tx} (w : World names rs start)
include w
theorem both_ok (field : Tx) (p : PV) (h : Chk p) : g_is_derivation [.lst (rs.map rl), .lst (start.map .str), .str field, p] = .ok (.fz (.bl (judge rs start field p))) ∧ g__law_is_derivation [.lst (rs.map rl), .lst (start.map .str), .str field, p] = .ok (.fz (.bl (judge rs start field p))) :=
  ⟨deriv_ok rs start field p w.r1000 w.rn w.sn h.1 fun vs e => (h.2 vs e).2, law_deriv_ok rs start field p w.r1000 h.1 h.2⟩
theorem good_chk {es : List Ent} (hd : DT rs start [] es = true) (hl : es.length ≤ 900) : Chk (.lst (es.map ev)) := chk_lst (by simp; omega) (itm_evs (ent_ok w hd))
theorem good_judge {es : List Ent} (hd : DT rs start [] es = true) (h0 : es ≠ []) (field : Tx) : judge rs start field (.lst (es.map ev)) = decide ((es.getLast h0).1 = field) := by
  show (!(es.map ev).isEmpty && D rs start [] (es.map ev) && lastB field (es.map ev)) = _
  rw [D_ev, hd, last_ev h0]
  have : (es.map ev).isEmpty = false := by cases es with | nil => exact (h0 rfl).elim | cons => rfl
  rw [this]
  simp
end
def vI (ns : List Int) (names : List Tx) (rs : List Rule) (start : List Tx) (xs : List Int) (whole : List Ent) (x6 : Fz.Slot) (es : List Ent) (f : Tx) (k : Nat) (ρ : Fz.Env) : Prop := ∃ x9 x10 x11 : Fz.Slot, ρ = lwE ns names rs start xs whole x6 (.val (.lst (es.map ev))) (.val (.str f)) x9 x10 x11
theorem R3_ok {names : List Tx} {rs : List Rule} {start : List Tx} (w : World names rs start) (ns xs : List Int) (whole : List Ent) (x6 : Fz.Slot) (es : List Ent) (hd : DT rs start [] es = true) (h0 : es ≠ []) (hl : es.length ≤ 900) (ρ : Fz.Env) (h : vI ns names rs start xs whole x6 es (es.getLast h0).1 0 ρ) (P : Po) (hP : ∀ ρ, vI ns names rs start xs whole x6 es (es.getLast h0).1 0 ρ → P.nx ρ) : sat (R_law_3 ρ) P := by
  obtain ⟨x9, x10, x11, rfl⟩ := h
  have an : gAdd (.lst (names.map .str)) (.lst [.str (txt "zzzzzzzzzzzz")]) = some (.l ((names ++ [txt "zzzzzzzzzzzz"]).map .str)) := by
    rw [add_P (by have := w.nms.few; simp; omega), List.map_append]
    rfl
  simp [R_law_3, lwE, an, -List.map_append]
  refine sat_for (vI ns names rs start xs whole x6 es (es.getLast h0).1) ⟨_, _, _, rfl⟩ (fun k p ρ hk hI => ?_) (fun ρ h => hP ρ h)
  obtain ⟨x9, x10, x11, rfl⟩ := hI
  rw [List.getElem?_map] at hk
  obtain ⟨t, ht, rfl⟩ := Option.map_eq_some_iff.mp hk
  have b1 := (both_ok w t _ (good_chk w hd hl)).1
  rw [good_judge w hd h0] at b1
  have e : ((decide ((es.getLast h0).1 = t)) == (t == (es.getLast h0).1)) = true := by
    rw [beq_iff_eq, Bool.eq_iff_iff]
    simp
    exact ⟨fun h => h.symm, fun h => h.symm⟩
  simp [L_law_2, lwE, b1, says_ok, e]
  exact ⟨_, _, _, rfl⟩
theorem R4_ok {names : List Tx} {rs : List Rule} {start : List Tx} (w : World names rs start) (hrs : 0 < rs.length) (ns xs : List Int) (hx : lows 16 xs) (whole : List Ent) (turn : Nat) (ht : turn < 3) (es : List Ent) (hd : DT rs start [] es = true) (h0 : es ≠ []) (hl : es.length ≤ 900) (x7 x9 x10 x11 : Fz.Slot) (h7 : x7 = .own (.l (es.map ev)) ∨ x7 = .val (.lst (es.map ev))) (P : Po) (hP : ∀ ρ, vI ns names rs start xs whole (.val (.int turn)) es (es.getLast h0).1 0 ρ → P.nx ρ) :
    sat (R_law_4 (lwE ns names rs start xs whole (.val (.int turn)) x7 (.val (.str (es.getLast h0).1)) x9 x10 x11)) P := by
  have sx : gSl (.lst (xs.map .int)) (some (turn : Int)) none = some (.l ((xs.drop turn).map .int)) := by rw [gSl_lst, cut_map, cut_from]
  have hx2 : lows (16 - turn) (xs.drop turn) := ⟨by rw [List.length_drop, hx.1], fun i hi => hx.2 i (List.mem_of_mem_drop hi)⟩
  obtain ⟨o, eo, found, rfl, hf⟩ := changed_ok rs hrs (by have := w.few; omega) es h0 hl (ent_ok w hd) (xs.drop turn) hx2 (by omega)
  have main : sat (loop (gNm 10) L_law_1 found (lwE ns names rs start xs whole (.val (.int turn)) (.val (.lst (es.map ev))) (.val (.str (es.getLast h0).1)) x9 x10 x11)) { P with nx := fun ρ => sat (R_law_3 ρ) P } := by
    refine sat_for (vI ns names rs start xs whole (.val (.int turn)) es (es.getLast h0).1) ⟨_, _, _, rfl⟩ (fun k p ρ hk hI => ?_) (fun ρ h => R3_ok w ns xs whole _ es hd h0 hl ρ h P hP)
    obtain ⟨x9, x10, x11, rfl⟩ := hI
    obtain ⟨b1, b2⟩ := both_ok w (es.getLast h0).1 p (hf p (List.mem_of_getElem? hk))
    simp [L_law_1, lwE, b1, b2, says_ok]
    exact ⟨_, _, _, rfl⟩
  simp only [lwE] at main
  rcases h7 with rfl | rfl
  · simp [R_law_4, lwE, sx, eo, -List.map_drop]
    exact main
  · simp [R_law_4, lwE, sx, eo, -List.map_drop]
    exact main
theorem rules_eq (rs : List Rule) : gNe (.lst (rs.map rl)) (.lst (rs.map rl)) = some false := by
  have d : isData (.lst (rs.map rl)) = true ∧ dep (.lst (rs.map rl)) ≤ 5 := by
    have key : ∀ ts : List Tx, isDatas (ts.map PV.str) = true ∧ deps (ts.map PV.str) = 0 := fun ts => by
      induction ts with
      | nil => exact ⟨rfl, rfl⟩
      | cons t ts ih => exact ⟨by show (true && isDatas (ts.map PV.str)) = true; rw [ih.1]; rfl, by show max 0 (deps (ts.map PV.str)) = 0; rw [ih.2]; rfl⟩
    have k2 : ∀ rs : List Rule, isDatas (rs.map rl) = true ∧ deps (rs.map rl) ≤ 4 := fun rs => by
      induction rs with
      | nil => exact ⟨rfl, Nat.zero_le _⟩
      | cons r rs ih =>
        obtain ⟨a, b⟩ := key r.2
        refine ⟨?_, ?_⟩
        · show ((true && (isDatas (r.2.map PV.str) && true)) && isDatas (rs.map rl)) = true
          rw [a, ih.1]; rfl
        · show max (max 0 (max (deps (r.2.map PV.str) + 1) 0) + 1) (deps (rs.map rl)) ≤ 4
          have := ih.2
          omega
    exact ⟨(k2 rs).1, Nat.succ_le_succ (k2 rs).2⟩
  have refl : ∀ rs : List Rule, pvEqs (rs.map rl) (rs.map rl) = true := fun rs => by
    have key : ∀ ts : List Tx, pvEqs (ts.map PV.str) (ts.map PV.str) = true := fun ts => by
      induction ts with
      | nil => simp [pvEqs]
      | cons t ts ih => simp [pvEqs, pvEq, ih]
    induction rs with
    | nil => simp [pvEqs]
    | cons r rs ih => simp [pvEqs, rl, pvEq, key, ih]
  have ok : eqOk (.lst (rs.map rl)) = true := by
    unfold eqOk
    rw [d.1, Bool.true_and, decide_eq_true_eq]
    omega
  rw [gNe_of ok ok]
  simp [pvEq, refl]
theorem R5_ok {names : List Tx} {rs : List Rule} {start : List Tx} (w : World names rs start) (hrs : 0 < rs.length) (ns xs : List Int) (hx : lows 16 xs) (whole : List Ent) (turn : Nat) (ht : turn < 3) (es : List Ent) (hd : DT rs start [] es = true) (h0 : es ≠ []) (hl : es.length ≤ 900) (x7 x8 x9 x10 x11 : Fz.Slot) (h7 : x7 = .own (.l (es.map ev)) ∨ x7 = .val (.lst (es.map ev))) (P : Po) (hP : ∀ ρ, vI ns names rs start xs whole (.val (.int turn)) es (es.getLast h0).1 0 ρ → P.nx ρ) :
    sat (R_law_5 (lwE ns names rs start xs whole (.val (.int turn)) x7 x8 x9 x10 x11)) P := by
  have el : 0 < es.length := List.length_pos_iff.mpr h0
  have il : atI (es.map ev) (-1) = some (ev (es.getLast h0)) := by
    rw [atI_m1 _ (by simpa using el)]
    simp [List.getLast_eq_getElem]
  have i0 : ∀ e : Ent, atI [PV.str e.1, ixP e.2] 0 = some (.str e.1) := fun _ => rfl
  have b1 := (both_ok w (es.getLast h0).1 _ (good_chk w hd hl)).1
  rw [good_judge w hd h0] at b1
  simp only [decide_true] at b1
  have r4 := fun x9 => R4_ok w hrs ns xs hx whole turn ht es hd h0 hl x7 x9 x10 x11 h7 P hP
  simp only [lwE] at r4
  rcases h7 with rfl | rfl
  · simp [R_law_5, lwE, il, ev, i0]
    simp [b1, says_ok, rules_eq]
    exact r4 _
  · simp [R_law_5, lwE, il, ev, i0]
    simp [b1, says_ok, rules_eq]
    exact r4 _
def lawI27 (ns : List Int) (names : List Tx) (rs : List Rule) (start : List Tx) (xs : List Int) (whole : List Ent) (k : Nat) (ρ : Fz.Env) : Prop := ∃ x6 x7 x8 x9 x10 x11 : Fz.Slot, ρ = lwE ns names rs start xs whole x6 x7 x8 x9 x10 x11
theorem turn_ok {names : List Tx} {rs : List Rule} {start : List Tx} (w : World names rs start) (hrs : 0 < rs.length) (ns xs : List Int) (hx : lows 16 xs) (whole : List Ent) (hd : DT rs start [] whole = true) (h0 : whole ≠ []) (hl : whole.length ≤ 900) (turn : Nat) (ht : turn < 3) (ρ : Fz.Env) (h : lawI27 ns names rs start xs whole turn ρ) (P : Po) (hP : ∀ ρ, lawI27 ns names rs start xs whole (turn + 1) ρ → P.nx ρ) : sat (stp (gNm 6) L_law_6 (.int (0 + turn)) ρ) P := by
  obtain ⟨x6, x7, x8, x9, x10, x11, rfl⟩ := h
  have wl : 0 < whole.length := List.length_pos_iff.mpr h0
  obtain ⟨v, e1, v0, _⟩ := low_get hx (i := 9 + (turn : Int)) (by omega) (by omega)
  obtain ⟨a, ha⟩ : ∃ a : Nat, v % (whole.length : Int) = a := ⟨_, (Int.toNat_of_nonneg (Int.emod_nonneg _ (by omega))).symm⟩
  have sv : gSl (.lst (whole.map ev)) none (some (1 + (a : Int))) = some (.l ((whole.take (1 + a)).map ev)) := by
    rw [show 1 + (a : Int) = ((1 + a : Nat) : Int) by omega, gSl_lst, cut_map, cut_to]
  have vd := DT_take hd (1 + a)
  have v1 : whole.take (1 + a) ≠ [] := by simp [h0]
  have vl : (whole.take (1 + a)).length ≤ 900 := by simp; omega
  have fin : ∀ ρ es f, vI ns names rs start xs whole (.val (.int turn)) es f 0 ρ → P.nx ρ := fun ρ es f ⟨x9, x10, x11, h⟩ => hP ρ ⟨_, _, _, _, _, _, h⟩
  have r5 := R5_ok w hrs ns xs hx whole turn ht (whole.take (1 + a)) vd v1 vl (.own (.l ((whole.take (1 + a)).map ev))) x8 x9 x10 x11 (.inl rfl) P (fun ρ h => fin ρ _ _ h)
  simp only [lwE] at r5
  by_cases t0 : 0 < turn
  · obtain ⟨o, eo, es, rfl, q1, q2, q3, q4⟩ := needed_ok rs (fun r hr => by have := (w.rul r hr).2; omega) start _ v1 (by omega) vd
    have r6 := R5_ok w hrs ns xs hx whole turn ht es q1 q3 (by omega) (.own (.l (es.map ev))) x8 x9 x10 x11 (.inl rfl) P (fun ρ h => fin ρ _ _ h)
    simp only [lwE] at r6
    simp [L_law_6, lwE, e1, gMod_int _ (whole.length : Int) (by omega), ha, sv, t0, eo, -List.map_take]
    exact r6
  · simp [L_law_6, lwE, e1, gMod_int _ (whole.length : Int) (by omega), ha, sv, t0, -List.map_take]
    exact r5
theorem law_true (ns : List Int) : g_law [.rol (ns.map .int)] = .ok (.fz (.bl true)) := by
  obtain ⟨o, e, rfl⟩ : ∃ o, g_law [.rol (ns.map .int)] = .ok o ∧ o = .fz (.bl true) := by
    refine run_ok _ rfl ?_
    obtain ⟨names, rs, start, ew, wn, wn0, _, wr, wrr, ws⟩ := world_ok ns 8 11 (by decide) (by decide) (by decide)
    obtain ⟨xs, ex, hx⟩ := numbers_ok ns 24 16 (by decide)
    obtain ⟨v, e8, _⟩ := low_get hx (i := 8) (by decide) (by decide)
    have nl : 0 < names.length := List.length_pos_iff.mpr wn0
    obtain ⟨a, ha⟩ : ∃ a : Nat, v % (names.length : Int) = a := ⟨_, (Int.toNat_of_nonneg (Int.emod_nonneg _ (by omega))).symm⟩
    have al : a < names.length := by have := Int.emod_lt_of_pos v (show (0 : Int) < names.length by omega); omega
    have ia : atI (names.map PV.str) (a : Int) = some (.str names[a]) := by
      rw [atI_map, atI_nn _ _ (by omega) (by omega)]
      rfl
    have ar : gAdd (.lst (rs.map rl)) (.lst [.tup [.str names[a], .tup []]]) = some (.l ((rs ++ [(names[a], [])]).map rl)) := by
      rw [add_P (by simp; omega), List.map_append]
      rfl
    have w : World names (rs ++ [(names[a], [])]) start := ⟨wn, ws, fun r hr => by
      rcases List.mem_append.mp hr with q | q
      · exact ⟨(wrr r q).fld, (wrr r q).sub.few⟩
      · rw [List.mem_singleton.mp q]; exact ⟨List.getElem_mem _, by show 0 < 60; decide⟩, by simp; omega⟩
    obtain ⟨whole, el, hd, hl, hne⟩ := long_ok _ w.r1000 (by have := w.few; omega) start (by have := ws.few; omega) ws.nd xs hx (by decide)
    have h0 := hne ⟨(names[a], []), by simp, rfl⟩
    simp at ew ex
    simp [b_law, slotsOf, slotOf, List.replicate, ew, ex, e8, gMod_int _ (names.length : Int) (by omega), ha, ia, ar, el, show rngR 0 3 = .ok (rangeL 0 3) from rng_nat (n := 3) (by decide), -List.map_append]
    refine sat_range (lawI27 ns names (rs ++ [(names[a], [])]) start xs whole) ⟨_, _, _, _, _, _, rfl⟩ (fun k ρ hk hI => turn_ok w (by simp) ns xs hx whole hd h0 (by have := w.few; have := ws.few; omega) k hk ρ hI _ fun _ h => h) ?_
    rintro _ ⟨x6, x7, x8, x9, x10, x11, rfl⟩
    simp [R_law_7]
  exact e
end Lw
end
theorem PySem.Challenge.cw_formsforall_k27_judge_of_derivations_holds : PySem.Challenge.rw_formsforall_k27_judge_of_derivations.Holds := by
  exact Lw.ends fun ns _ => Lw.law_true ns
