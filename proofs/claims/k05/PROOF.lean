import PyProof.Rows.All
import Wide.All
import OpenK.AllK
import Wide.FinOn
import HandS.ForMost
import HandS.IsInst
import HandS.TupAny
import HandS.TupMul
import HandS.Wide
import HandS.Style
import HandS.Flow
import HandS.Codes
import HandS.Walk
import PySem.Challenge.RW_keptviews_k05_worths_judged
set_option Elab.async false
set_option maxRecDepth 100000
set_option maxHeartbeats 4000000
namespace G
open PySem L2

/-! ### heaps that go on -/
/-- what of an object stays when it changes: its kind -/
def norm : HO → HO
  | .lst _ => .lst []
  | .dK _ => .dK []
  | .dT _ => .dT []
  | .set _ _ => .set (fun _ => false) 0
  | .ins C d _ => .ins C d []
  | a => a
def Kin (a b : HO) : Prop := norm a = norm b
theorem Kin.refl (a : HO) : Kin a a := rfl
theorem Kin.trans {a b c : HO} (h : Kin a b) (k : Kin b c) : Kin a c := Eq.trans h k
/-- a is none of these -/
def Nin (a : Addr) : List Addr → Prop
  | [] => True
  | m :: r => a ≠ m ∧ Nin a r
theorem nin_of {a : Addr} : ∀ {M : List Addr}, a ∉ M → Nin a M
  | [], _ => True.intro
  | m :: r, h => ⟨fun e => h (by rw [e]; exact List.mem_cons_self), nin_of fun e => h (List.mem_cons_of_mem _ e)⟩
theorem nin_mem {a : Addr} : ∀ {M : List Addr}, Nin a M → a ∉ M
  | [], _ => by simp
  | m :: r, h => fun e => (List.mem_cons.mp e).elim h.1 (nin_mem h.2)
/-- all stays but what the objects at M hold -/
def Ex (M : List Addr) (H H' : Hp) : Prop := ∀ a o, H a = some o → (Nin a M → H' a = some o) ∧ ∃ o', H' a = some o' ∧ Kin o o'
theorem Ex.refl (M : List Addr) (H : Hp) : Ex M H H := fun _ o h => ⟨fun _ => h, o, h, Kin.refl o⟩
theorem Ex.get {M : List Addr} {H H' : Hp} {a : Addr} {o : HO} (e : Ex M H H') (h : H a = some o) (n : Nin a M) : H' a = some o := (e a o h).1 n
theorem Ex.get0 {H H' : Hp} {a : Addr} {o : HO} (e : Ex [] H H') (h : H a = some o) : H' a = some o := (e a o h).1 True.intro
theorem Ex.tup {M : List Addr} {H H' : Hp} {a : Addr} {xs : List V} (e : Ex M H H') (h : H a = some (.tup xs)) : H' a = some (.tup xs) := by
  obtain ⟨o', h1, k⟩ := (e a _ h).2
  cases o' <;> simp_all [Kin, norm]
theorem Ex.frz {M : List Addr} {H H' : Hp} {a : Addr} {o : Obj} {u : HO} (e : Ex M H H') (h : H a = some (.frz o u)) : H' a = some (.frz o u) := by
  obtain ⟨o', h1, k⟩ := (e a _ h).2
  cases o' <;> simp_all [Kin, norm]
theorem Ex.trans {M : List Addr} {H H1 H2 : Hp} (a : Ex M H H1) (b : Ex M H1 H2) : Ex M H H2 := fun c o h => by
  obtain ⟨h1, o1, h2, k1⟩ := a c o h
  obtain ⟨_, o2, h4, k2⟩ := b c o1 h2
  exact ⟨fun n => (b c o (h1 n)).1 n, o2, h4, k1.trans k2⟩
theorem Ex.mono {M N : List Addr} {H H' : Hp} (a : Ex M H H') (h : ∀ x ∈ M, x ∈ N) : Ex N H H' := fun c o e =>
  ⟨fun n => (a c o e).1 (nin_of fun m => nin_mem n (h c m)), (a c o e).2⟩
theorem Ex.of0 {M : List Addr} {H H' : Hp} (a : Ex [] H H') : Ex M H H' := a.mono (fun _ h => nomatch h)
theorem Ex.new {M : List Addr} {H : Hp} {p : Addr} {o : HO} (h : H p = none) : Ex M H (upd H p o) := fun a u e =>
  have q : upd H p o a = some u := by rw [upd_ne (ne_of_none e h)]; exact e
  ⟨fun _ => q, u, q, Kin.refl u⟩
theorem Ex.put {M : List Addr} {H : Hp} {p : Addr} {o o' : HO} (h : H p = some o) (k : Kin o o') (m : p ∈ M) : Ex M H (upd H p o') := fun a u e => by
  by_cases z : a = p
  · subst z
    rw [h] at e
    cases e
    exact ⟨fun n => absurd m (nin_mem n), o', upd_same, k⟩
  · exact ⟨fun _ => by rw [upd_ne z]; exact e, u, by rw [upd_ne z]; exact e, Kin.refl u⟩
/-- an object that was not there ahead may change -/
theorem Ex.put_new {M : List Addr} {H H' : Hp} {p : Addr} {o' : HO} (e : Ex M H H') (h : H p = none) : Ex M H (upd H' p o') := fun a u q => by
  have z : a ≠ p := ne_of_none q h
  obtain ⟨h1, o1, h2, k⟩ := e a u q
  exact ⟨fun n => by rw [upd_ne z]; exact h1 n, o1, by rw [upd_ne z]; exact h2, k⟩
/-- what is new behind is new ahead -/
theorem Ex.none {M : List Addr} {H H' : Hp} {p : Addr} (e : Ex M H H') (h : H' p = none) : H p = none := by
  cases q : H p with
  | none => rfl
  | some o =>
    obtain ⟨_, o', h1, _⟩ := e p o q
    rw [h] at h1
    cases h1
theorem upd_none {H : Hp} {p q : Addr} {o : HO} (h : upd H q o p = none) : p ≠ q ∧ H p = none := by
  by_cases z : p = q
  · subst z; rw [upd_same] at h; cases h
  · exact ⟨z, by rw [upd_ne z] at h; exact h⟩
theorem upd_new {H : Hp} {p a : Addr} {o u : HO} (h : H p = none) (e : H a = some u) : upd H p o a = some u := by rw [upd_ne (ne_of_none e h)]; exact e
theorem upd_oth {H : Hp} {p a : Addr} {o : HO} {u : Option HO} (h : a ≠ p) (e : H a = u) : upd H p o a = u := by rw [upd_ne h]; exact e
theorem upd_oth2 {H : Hp} {p a : Addr} {o u : HO} (e : H a = some u) (h : a ≠ p) : upd H p o a = some u := by rw [upd_ne h]; exact e
theorem ne_new {H : Hp} {p a : Addr} {u : HO} (h : H p = none) (e : H a = some u) : a ≠ p := ne_of_none e h
theorem rd_rd {M : List Addr} {H H' : Hp} {a : Addr} {xs : List V} (e : Ex M H H') (h : Rd H a (.tup xs)) : Rd H' a (.tup xs) := by
  rcases h with h | ⟨o, h⟩
  · exact .inl (e.tup h)
  · exact .inr ⟨o, e.frz h⟩
theorem Ex.sqT {K : PySem.W.Frag} {M : List Addr} {H H' : Hp} {a : Addr} {xs : List V} (e : Ex M H H') (h : SqT K H a xs) : SqT K H' a xs := by
  rcases h with h | h
  · exact .inl (rd_rd e h)
  · exact .inr h

/-! ### data -/
inductive Dt where
  | non | bl (b : Bool) | int (i : Int) | str (s : Str) | tup (l : List Dt) | oth
/-- a list or a dict -/
def Oth (H : Hp) (a : Addr) : Prop := (∃ xs, H a = some (.lst xs)) ∨ ∃ kvs, H a = some (.dK kvs)
mutual
inductive Rep (K : PySem.W.Frag) (H : Hp) : V → Dt → Prop
  | non : Rep K H .non .non
  | bl (b : Bool) : Rep K H (.bl b) (.bl b)
  | int (i : Int) : Rep K H (.int i) (.int i)
  | str (x : Str) (h : x.length ≤ 1000000) : Rep K H (.str x) (.str x)
  | tup {a : Addr} {xs : List V} {l : List Dt} : SqT K H a xs → RepL K H xs l → Rep K H (.ref a) (.tup l)
  | oth {a : Addr} : Oth H a → Rep K H (.ref a) .oth
inductive RepL (K : PySem.W.Frag) (H : Hp) : List V → List Dt → Prop
  | nil : RepL K H [] []
  | cons {v : V} {d : Dt} {vs : List V} {l : List Dt} : Rep K H v d → RepL K H vs l → RepL K H (v :: vs) (d :: l)
end
theorem Ex.oth {M : List Addr} {H H' : Hp} {a : Addr} (e : Ex M H H') (h : Oth H a) : Oth H' a := by
  rcases h with ⟨xs, h⟩ | ⟨kvs, h⟩
  · obtain ⟨_, o', h1, k⟩ := e a _ h
    cases o' <;> first | exact .inl ⟨_, h1⟩ | exact absurd k (by simp [Kin, norm])
  · obtain ⟨_, o', h1, k⟩ := e a _ h
    cases o' <;> first | exact .inr ⟨_, h1⟩ | exact absurd k (by simp [Kin, norm])
mutual
theorem Ex.rep {K : PySem.W.Frag} {M : List Addr} {H H' : Hp} (e : Ex M H H') : ∀ {v : V} {d : Dt}, Rep K H v d → Rep K H' v d
  | _, _, .non => .non
  | _, _, .bl b => .bl b
  | _, _, .int i => .int i
  | _, _, .str x h => .str x h
  | _, _, .tup h hl => .tup (e.sqT h) (e.repL hl)
  | _, _, .oth h => .oth (e.oth h)
theorem Ex.repL {K : PySem.W.Frag} {M : List Addr} {H H' : Hp} (e : Ex M H H') : ∀ {vs : List V} {l : List Dt}, RepL K H vs l → RepL K H' vs l
  | _, _, .nil => .nil
  | _, _, .cons h hl => .cons (e.rep h) (e.repL hl)
end
theorem RepL.length {K : PySem.W.Frag} {H : Hp} : ∀ {vs : List V} {l : List Dt}, RepL K H vs l → vs.length = l.length
  | _, _, .nil => rfl
  | _, _, .cons _ t => by rw [List.length_cons, List.length_cons, t.length]
theorem RepL.get {K : PySem.W.Frag} {H : Hp} : ∀ {vs : List V} {l : List Dt} {i : Nat} {v : V}, RepL K H vs l → vs[i]? = some v → ∃ d, l[i]? = some d ∧ Rep K H v d
  | _, _, _, _, .nil, e => by simp at e
  | _, _, 0, _, .cons (d := d) h _, e => by simp at e; subst e; exact ⟨d, by simp, h⟩
  | _, _, i + 1, _, .cons _ t, e => by
    obtain ⟨d, h1, h2⟩ := t.get (i := i) (by simpa using e)
    exact ⟨d, by simpa using h1, h2⟩
theorem RepL.snoc {K : PySem.W.Frag} {H : Hp} {d : Dt} : ∀ {l : List Dt} {vs : List V}, RepL K H vs (l ++ [d]) → ∃ ws y, vs = ws ++ [y] ∧ RepL K H ws l ∧ Rep K H y d
  | [], _, .cons h .nil => ⟨[], _, rfl, .nil, h⟩
  | _ :: l, _, .cons h t => by
    obtain ⟨ws, y, e, a, b⟩ := RepL.snoc t
    exact ⟨_ :: ws, y, by rw [e]; rfl, .cons h a, b⟩
theorem RepL.mem {K : PySem.W.Frag} {H : Hp} {x : V} : ∀ {l : List Dt} {vs : List V}, RepL K H vs l → x ∈ vs → ∃ d, d ∈ l ∧ Rep K H x d
  | _, _, .cons (d := d) h t, e => by
    rcases List.mem_cons.mp e with e | e
    · subst e; exact ⟨d, List.mem_cons_self, h⟩
    · obtain ⟨d', h1, h2⟩ := RepL.mem t e
      exact ⟨d', List.mem_cons_of_mem _ h1, h2⟩
theorem RepL.memOf {K : PySem.W.Frag} {H : Hp} {x : V} {vs : List V} {l : List Dt} (hx : x ∈ vs) (h : RepL K H vs l) : ∃ d, d ∈ l ∧ Rep K H x d := h.mem hx
theorem RepL.append {K : PySem.W.Frag} {H : Hp} : ∀ {vs ws : List V} {l m : List Dt}, RepL K H vs l → RepL K H ws m → RepL K H (vs ++ ws) (l ++ m)
  | _, _, _, _, .nil, h => h
  | _, _, _, _, .cons a t, h => .cons a (t.append h)
end G
namespace G
open PySem L2
section
variable {K : PySem.W.Frag} {H : Hp} {p : Addr} {o o' : HO}
theorem SqT.of {a : Addr} {xs : List V} (h : H a = some (.tup xs)) : SqT K H a xs := .inl (.inl h)
theorem Rep.oth_l {a : Addr} {xs : List V} (h : H a = some (.lst xs)) : Rep K H (.ref a) .oth := .oth (.inl ⟨xs, h⟩)
theorem Rep.oth_d {a : Addr} {kvs : List (Key × V)} (h : H a = some (.dK kvs)) : Rep K H (.ref a) .oth := .oth (.inr ⟨kvs, h⟩)
theorem sqt_new {a : Addr} {xs : List V} (h : H p = none) (r : SqT K H a xs) : SqT K (upd H p o) a xs := (Ex.new (M := []) h).sqT r
theorem sqt_put {a : Addr} {xs : List V} (h : H p = some o) (k : norm o = norm o') (r : SqT K H a xs) : SqT K (upd H p o') a xs := (Ex.put (M := [p]) h k List.mem_cons_self).sqT r
theorem rep_new {v : V} {d : Dt} (h : H p = none) (r : Rep K H v d) : Rep K (upd H p o) v d := (Ex.new (M := []) h).rep r
theorem rep_put {v : V} {d : Dt} (h : H p = some o) (k : norm o = norm o') (r : Rep K H v d) : Rep K (upd H p o') v d := (Ex.put (M := [p]) h k List.mem_cons_self).rep r
theorem repl_new {v : List V} {d : List Dt} (h : H p = none) (r : RepL K H v d) : RepL K (upd H p o) v d := (Ex.new (M := []) h).repL r
theorem repl_put {v : List V} {d : List Dt} (h : H p = some o) (k : norm o = norm o') (r : RepL K H v d) : RepL K (upd H p o') v d := (Ex.put (M := [p]) h k List.mem_cons_self).repL r
end
/-- what is new behind is new ahead -/
def Dom (H H' : Hp) : Prop := ∀ p, H' p = none → H p = none
theorem Dom.refl (H : Hp) : Dom H H := fun _ h => h
theorem Dom.step {M : List Addr} {H H1 H2 : Hp} (e : Ex M H1 H2) (d : Dom H H1) : Dom H H2 := fun p h => d p (e.none h)
theorem Dom.none {H H' : Hp} {p : Addr} (h : H' p = none) (d : Dom H H') : H p = none := d p h
theorem side0 {M : List Addr} {H : Hp} : ∀ x ∈ ([] : List Addr), x ∈ M ∨ H x = none := fun _ h => nomatch h
theorem side1 {M : List Addr} {H : Hp} {q : Addr} (h : q ∈ M ∨ H q = none) : ∀ x ∈ [q], x ∈ M ∨ H x = none := fun x e => by
  rw [List.mem_singleton] at e
  subst e
  exact h
theorem Ex.step {M N : List Addr} {H H1 H2 : Hp} (b : Ex N H1 H2) (s : ∀ x ∈ N, x ∈ M ∨ H x = Option.none) (a : Ex M H H1) : Ex M H H2 := fun c o h => by
  obtain ⟨h1, o1, h2, k1⟩ := a c o h
  obtain ⟨h3, o2, h4, k2⟩ := b c o1 h2
  refine ⟨fun n => (b c o (h1 n)).1 (nin_of fun m => ?_), o2, h4, k1.trans k2⟩
  rcases s c m with z | z
  · exact nin_mem n z
  · rw [h] at z
    cases z
theorem Ex.stepNew {M : List Addr} {H H1 : Hp} {p : Addr} {o : HO} (h : H1 p = Option.none) (a : Ex M H H1) : Ex M H (upd H1 p o) := a.trans (Ex.new h)
end G

namespace G
open PySem L2

/-! ### weaker readings -/
section
variable {X : Cx}
theorem opImp {f : Value → Value → Sem Value} {r r' : R2} (h : OpR X f r) (i : ∀ x y H Q, r' x y H Q → r x y H Q) : OpR X f r' := fun pins s σ H x y v u Q I rx ry q => h pins s σ H x y v u Q I rx ry (i _ _ _ _ q)
theorem opOr {f : Value → Value → Sem Value} {r1 r2 : R2} {r' : R2} (h1 : OpR X f r1) (h2 : OpR X f r2) (i : ∀ x y H Q, r' x y H Q → r1 x y H Q ∨ r2 x y H Q) : OpR X f r' := fun pins s σ H x y v u Q I rx ry q =>
  (i _ _ _ _ q).elim (h1 pins s σ H x y v u Q I rx ry) (h2 pins s σ H x y v u Q I rx ry)
theorem callImp {f : Value} {r r' : List V → Hp → VK → Prop} (h : CallR X f r) (i : ∀ xs H Q, r' xs H Q → r xs H Q) : CallR X f r' := fun pins s σ H xs us Q I rv q => h pins s σ H xs us Q I rv (i _ _ _ q)
theorem peImp {e : Expr} {t t' : TE} (h : PE X e t) (i : ∀ σ H Q, t' σ H Q → t σ H Q) : PE X e t' := ⟨fun pins s σ H Q I q => h.run pins s σ H Q I (i _ _ _ q)⟩
end

/-! ### defs by their names -/
structure Cl (P : Program) (w : World) (K : PySem.W.Frag) (mg : Str → Option Value) (base : Heap) (k : Nat) (x : Str) (sp : Sp) : Prop where
  ex : ∃ (f : Addr) (fd : FuncData) (ps : List Str), FnOk P w K mg base CX0 k f fd ps sp ∧ mg x = some (.ref f) ∧ PySem.W.keepIn K (.ref f) = true ∧ Binds K fd ps []
def tCl (sp : Sp) (E : XK) (t : TA) : TE := fun σ H Q => t σ H fun vs H1 => sp vs H1 Q E
section
variable {X : Cx}
theorem pe_cl {k j : Nat} {x : Str} {sp : Sp} {p pos : Pos} {e : Expr} {es : List Expr} {t : TA} (c : Cl X.prog X.w X.K X.mg X.base k x sp) (hr : Room j X.A) (hk : k ≤ j) (hg : Gl X x) (ha : PA X (e :: es) t)
    (hdb : (x == ("__debug__" : Str)) = false := by decide) (he : starEach (e :: es) X.env = (false, eval e X.env) :: starEach es X.env := by rfl) (hpl : (backTo pos (starEach es X.env)).any (·.1) = false := by rfl) :
    PE X (.Call (.Name x p) (e :: es) [] pos) (tCl sp E0 t) := by
  obtain ⟨f, fd, ps, F, m, kp, b⟩ := c.ex
  refine peImp (pe_call F (hr.mono hk) hg m kp b .nil pass0 ha hdb he hpl) fun σ H Q q => ?_
  show t σ H fun vs H1 => sp (vs ++ []) H1 Q E0
  simp only [List.append_nil]
  exact q
theorem pe_cl0 {k j : Nat} {x : Str} {sp : Sp} {p pos : Pos} (c : Cl X.prog X.w X.K X.mg X.base k x sp) (hr : Room j X.A) (hk : k ≤ j) (hg : Gl X x) (hdb : (x == ("__debug__" : Str)) = false := by decide) :
    PE X (.Call (.Name x p) [] [] pos) (tCl sp E0 tNil) := by
  obtain ⟨f, fd, ps, F, m, kp, b⟩ := c.ex
  exact pe_call0 F (hr.mono hk) hg m kp b .nil pass0 hdb
end

/-! ### the classes of data -/
def isTy : String → Dt → Option Bool
  | "int", .int _ => some true
  | "int", .bl _ => some true
  | "int", _ => some false
  | "bool", .bl _ => some true
  | "bool", _ => some false
  | "str", .str _ => some true
  | "str", _ => some false
  | "tuple", .tup _ => some true
  | "tuple", _ => some false
  | _, _ => none
theorem SqT.ty {K : PySem.W.Frag} {H : Hp} {a : Addr} {xs : List V} (h : SqT K H a xs) : TyX K H (.ref a) (.type "tuple") := by
  rcases h with (h | ⟨o, h⟩) | ⟨o, its, n, h, c, _⟩
  · exact .base (.tup h)
  · exact .fTuple h
  · exact .kTuple h c
def rIs (K : PySem.W.Frag) : List V → Hp → VK → Prop := fun xs H Q => ∃ (x : V) (T : String) (d : Dt) (b : Bool), (xs = [x, .ty T] ∧ Rep K H x d ∧ isTy T d = some b) ∧ Q (.bl b) H
theorem isTy_kit {K : PySem.W.Frag} {H : Hp} {x : V} {d : Dt} {T : String} {b : Bool} (r : Rep K H x d) (h : isTy T d = some b) : ∃ t, TyX K H x t ∧ PySem.W.kitOne K t (.type T) = some b := by
  have cs : T = "int" ∨ T = "bool" ∨ T = "str" ∨ T = "tuple" := by
    unfold isTy at h
    split at h <;> simp_all
  rcases cs with rfl | rfl | rfl | rfl <;> cases r <;> simp [isTy] at h <;> subst h
  all_goals first
    | exact ⟨_, .base .non, kit_ty (by decide +kernel)⟩
    | exact ⟨_, .base (.bl _), kit_ty (by decide +kernel)⟩
    | exact ⟨_, .base (.int _), kit_ty (by decide +kernel)⟩
    | exact ⟨_, .base (.str _), kit_ty (by decide +kernel)⟩
    | (rename_i hs _; exact ⟨_, SqT.ty hs, kit_ty (by decide +kernel)⟩)
    | (rename_i hs; rcases hs with ⟨_, hs⟩ | ⟨_, hs⟩
       · exact ⟨_, .base (.lst hs), kit_ty (by decide +kernel)⟩
       · exact ⟨_, .base (.dK hs), kit_ty (by decide +kernel)⟩)
theorem call_Is {X : Cx} : CallR X (.builtin "isinstance") (rIs X.K) := callImp call_isi fun xs H Q ⟨x, T, d, b, ⟨e, r, h⟩, q⟩ => by
  obtain ⟨t, ty, k⟩ := isTy_kit r h
  exact ⟨x, .ty T, t, .type T, b, e, .ty T, ty, k, q⟩

/-! ### lengths -/
inductive LenX (K : PySem.W.Frag) (H : Hp) : V → Nat → Prop
  | str (z : Str) (h : z.length ≤ sizeLine) : LenX K H (.str z) z.length
  | lst {p : Addr} {xs : List V} (h : SqL K H p xs) : LenX K H (.ref p) xs.length
  | tup {p : Addr} {xs : List V} (h : SqT K H p xs) : LenX K H (.ref p) xs.length
def rLn (K : PySem.W.Frag) : List V → Hp → VK → Prop := fun xs H Q => ∃ x n, (xs = [x] ∧ LenX K H x n) ∧ Q (.int n) H
theorem call_Len {X : Cx} : CallR X (.builtin "len") (rLn X.K) := callImp call_len fun xs H Q ⟨x, n, ⟨e, l⟩, q⟩ => ⟨x, n, e, by
  cases l with
  | str z h => exact ⟨h, rfl⟩
  | lst h => exact .inl ⟨_, h, rfl⟩
  | tup h => exact .inr ⟨_, h, rfl⟩, q⟩

/-! ### operators of several kinds -/
def rAddG (K : PySem.W.Frag) : R2 := fun x y H Q =>
  (∃ i j, (x = .int i ∧ y = .int j) ∧ Q (.int (i + j)) H) ∨ (∃ i j, (x = .str i ∧ y = .str j ∧ i.length + j.length ≤ sizeLine) ∧ Q (.str (i ++ j)) H) ∨
  (∃ l b xs zs, (x = .ref l ∧ y = .ref b ∧ H l = some (.lst xs) ∧ H b = some (.lst zs) ∧ xs.length + zs.length ≤ sizeLine) ∧ ∀ p H', H p = none → H' p = some (.lst (xs ++ zs)) → Ex [] H H' → Q (.ref p) H') ∨
  (∃ l b xs zs, (x = .ref l ∧ y = .ref b ∧ SqT K H l xs ∧ SqT K H b zs ∧ xs.length + zs.length ≤ sizeLine) ∧ ∀ p H', SqT K H' p (xs ++ zs) → Ex [] H H' → Q (.ref p) H')
theorem SqT.of_new {K : PySem.W.Frag} {H : Hp} {a : Addr} {xs : List V} : SqT K (upd H a (.tup xs)) a xs := .inl (.inl upd_same)
theorem op_AddG {X : Cx} : OpR X (binaryOp .Add) (rAddG X.K) := fun pins s σ H x y v u Q I rx ry q => by
  rcases q with ⟨i, j, ⟨rfl, rfl⟩, q⟩ | ⟨i, j, ⟨rfl, rfl, hl⟩, q⟩ | ⟨l, b, xs, zs, ⟨rfl, rfl, h1, h2, hl⟩, q⟩ | ⟨l, b, xs, zs, ⟨rfl, rfl, h1, h2, hl⟩, q⟩
  · exact op_add pins s σ H _ _ v u Q I rx ry ⟨i, j, rfl, rfl, q⟩
  · exact op_add_str pins s σ H _ _ v u Q I rx ry ⟨i, j, rfl, rfl, hl, q⟩
  · exact op_cat pins s σ H _ _ v u Q I rx ry ⟨l, b, xs, zs, rfl, rfl, h1, h2, hl, fun p hp => q p _ hp upd_same (Ex.new hp)⟩
  · refine op_catA pins s σ H _ _ v u Q I rx ry ⟨l, b, xs, zs, rfl, rfl, h1, h2, hl, fun e => ?_, fun _ e => ?_, fun _ _ p hp => ?_⟩
    · exact q b H (by rw [e]; exact h2) (Ex.refl _ _)
    · exact q l H (by rw [e, List.append_nil]; exact h1) (Ex.refl _ _)
    · exact q p _ SqT.of_new (Ex.new hp)
def rEqS (a b : V) (k : Bool) : Prop := scal a b = true ∧ k = decide (a = b)
/-- an item by its place -/
def rIxG (K : PySem.W.Frag) : R2 := fun x y H Q =>
  (∃ p xs i v, (x = .ref p ∧ y = .int i ∧ SqL K H p xs ∧ atI xs i = some v) ∧ Q v H) ∨ (∃ p xs i v, (x = .ref p ∧ y = .int i ∧ SqT K H p xs ∧ atI xs i = some v) ∧ Q v H) ∨
  (∃ z i c, (x = .str z ∧ y = .int i ∧ z.length ≤ sizeLine ∧ atI z.cps.toList i = some c) ∧ Q (.str ⟨#[c]⟩) H)
theorem ix_G {X : Cx} : IxR X (rIxG X.K) := fun value slice pins s σ H x y v u Q I rx ry q hs => by
  rcases q with ⟨p, xs, i, z, ⟨a, b, c, d⟩, q⟩ | ⟨p, xs, i, z, ⟨a, b, c, d⟩, q⟩ | ⟨z, i, c, ⟨a, b, e, d⟩, q⟩
  · exact ix_list value slice pins s σ H x y v u Q I rx ry ⟨p, xs, i, z, a, b, c, d, q⟩ hs
  · exact ix_tup value slice pins s σ H x y v u Q I rx ry ⟨p, xs, i, z, a, b, c, d, q⟩ hs
  · exact ix_str value slice pins s σ H x y v u Q I rx ry ⟨z, i, c, a, b, e, d, q⟩ hs

/-! ### loops -/
theorem while_w {c : TT} {tb : TS} {D : Ends} {σ : St} {H : Hp} (W : Nat → St → Hp → Prop) (m₀ : Nat) (h0 : W m₀ σ H)
    (hs : ∀ m σ H, W m σ H → c σ H fun b H1 => if b = true then ∃ N : St → Hp → Prop, (∀ σ' H', N σ' H' → ∃ m', m' < m ∧ W m' σ' H') ∧ tb { D with nx := N, ct := N, bk := D.nx } σ H1 else D.nx σ H1) : tWhile c tb D σ H := ⟨W, ⟨m₀, h0⟩, hs⟩
/-- what holds while a list is made of others -/
structure LcP (D : Addr) (M : List Addr) (P : Hp → Prop) (R : Nat → V → Hp → Prop) (H1 : Hp) (i : Nat) (H : Hp) : Prop where
  ex : Ex M H1 H
  p : P H
  l : ∃ acc, H D = some (.lst acc) ∧ acc.length = i ∧ ∀ j y, acc[j]? = some y → R j y H
theorem LcP.start {D : Addr} {M : List Addr} {P : Hp → Prop} {R : Nat → V → Hp → Prop} {H1 : Hp} (hD : H1 D = none) (p : P H1) (pl : ∀ H o, P H → P (upd H D o)) : LcP D M P R H1 0 (upd H1 D (.lst [])) :=
  ⟨Ex.new hD, pl _ _ p, [], upd_same, rfl, fun j y e => by simp at e⟩
/-- R does not hang on what changes -/
def Stab (R : Nat → V → Hp → Prop) : Prop := ∀ i y M H H', Ex M H H' → R i y H → R i y H'
theorem LcP.step {D : Addr} {M : List Addr} {P : Hp → Prop} {R : Nat → V → Hp → Prop} {H1 H H4 : Hp} {i n : Nat} {y : V} (h : LcP D M P R H1 i H) (hD : H1 D = none) (st : Stab R) (pl : ∀ H o, P H → P (upd H D o))
    (e : Ex M H H4) (nD : Nin D M) (p : P H4) (r : R i y H4) (hi : i < n) (hn : n ≤ 1000000) : ∃ acc, H4 D = some (.lst acc) ∧ acc.length < sizeLine ∧ LcP D M P R H1 (i + 1) (upd H4 D (.lst (acc ++ [y]))) := by
  obtain ⟨e0, _, acc, h1, h2, h3⟩ := h
  have h4 : H4 D = some (.lst acc) := e.get h1 nD
  have e5 : Ex [D] H4 (upd H4 D (.lst (acc ++ [y]))) := Ex.put h4 rfl (by simp)
  have hz : (1000000 : Nat) < sizeLine := by decide
  refine ⟨acc, h4, by omega, (e0.trans e).put_new hD, pl _ _ p, acc ++ [y], upd_same, by simp [h2], fun j z hj => ?_⟩
  by_cases hlt : j < acc.length
  · rw [List.getElem?_append_left hlt] at hj
    exact st _ _ _ _ _ e5 (st _ _ _ _ _ e (h3 j z hj))
  · rw [List.getElem?_append_right (by omega)] at hj
    have hj0 : j - acc.length = 0 := by
      have := (List.getElem?_eq_some_iff.mp hj).1
      simp at this
      omega
    rw [hj0] at hj
    simp at hj
    subst hj
    have : j = i := by omega
    subst this
    exact st _ _ _ _ _ e5 r
end G

namespace G
open PySem PySem.Spec PyProof.Rows L2
theorem flat_len {α : Type} (its : List α) (m : Nat) : (List.replicate m its).flatten.length = m * its.length := PyProof.Rows.lm_len_rep_flat _ _
/-- t * 1, () * k: the very tuple -/
theorem tmul_same (l : Addr) (items : Array Value) (n : Nat) (dd : Option Addr) (sl : Array (Option Value)) (x : Int) (u : Tok)
    (c0 : (decide (x < -(2 ^ 63)) || decide (x ≥ 2 ^ 63)) = false) (c1 : (items.isEmpty || x == 1) = true) :
    Meets (Builtin.«tuple.__mul__» ⟨[.ref l, .int x u], []⟩)
      (fun _ R s => s.heap.get? l = some { cls := .type "tuple", dict := dd, data := .seq items n, slots := sl } ∧ R (.ok (.ret (Value.ref l))) s) :=
  .of_wp fun prog w A R s h => by
    obtain ⟨hp, g, d, tk, os⟩ := s
    obtain ⟨hl, h⟩ := h
    have f1 := AutoSeq1.idx_int
    wp_walk using wpAny_loadPart' hl
    repeat (first
      | (refine wpAny_ite_false (decide_eq_false (by rw [c0]; exact Bool.false_ne_true)) ?_; wp_walk using wpAny_loadPart' hl)
      | (refine wpAny_ite_true (decide_eq_true c1) ?_; wp_walk using wpAny_loadPart' hl))
    exact ⟨_, rfl, h⟩
/-- t * k, k ≤ 0: an empty one -/
theorem tmul_none (l : Addr) (items : Array Value) (n : Nat) (dd : Option Addr) (sl : Array (Option Value)) (x : Int) (u : Tok)
    (c0 : (decide (x < -(2 ^ 63)) || decide (x ≥ 2 ^ 63)) = false) (c1 : (items.isEmpty || x == 1) = false) (c2 : (decide (x ≤ 0) || items.isEmpty) = true) :
    Meets (Builtin.«tuple.__mul__» ⟨[.ref l, .int x u], []⟩)
      (fun _ R s => s.heap.get? l = some { cls := .type "tuple", dict := dd, data := .seq items n, slots := sl } ∧
        R (.ok (.ret (Value.ref s.heap.objs.size))) { s with heap := s.heap.push { cls := Value.type "tuple", data := Data.seq #[] } }) :=
  .of_wp fun prog w A R s h => by
    obtain ⟨hp, g, d, tk, os⟩ := s
    obtain ⟨hl, h⟩ := h
    have f1 := AutoSeq1.idx_int
    wp_walk using wpAny_loadPart' hl
    repeat (first
      | (refine wpAny_ite_false (decide_eq_false (by rw [c0]; exact Bool.false_ne_true)) ?_; wp_walk using wpAny_loadPart' hl)
      | (refine wpAny_ite_false (decide_eq_false (by rw [c1]; exact Bool.false_ne_true)) ?_; wp_walk using wpAny_loadPart' hl)
      | (refine wpAny_ite_true (decide_eq_true c2) ?_; wp_walk using wpAny_loadPart' hl))
    exact ⟨_, rfl, h⟩
def repS (z : Str) (k : Int) : Str := ⟨((List.replicate k.toNat z.cps.toList).flatten).toArray⟩
def rMulG (K : PySem.W.Frag) : R2 := fun x y H Q =>
  (∃ i j, (x = .int i ∧ y = .int j ∧ CMul i j) ∧ Q (.int (i * j)) H) ∨
  (∃ z k, (x = .str z ∧ y = .int k ∧ 0 ≤ k ∧ k ≤ 1000000 ∧ z.length * k.toNat ≤ 1000000) ∧ Q (.str (repS z k)) H) ∨
  (∃ l k xs, (x = .ref l ∧ y = .int k ∧ H l = some (.lst xs) ∧ 0 ≤ k ∧ k ≤ 1000000 ∧ xs.length * k.toNat ≤ 1000000) ∧ ∀ p H', H p = none → H' p = some (.lst (List.replicate k.toNat xs).flatten) → Ex [] H H' → Q (.ref p) H') ∨
  (∃ l k xs, (x = .ref l ∧ y = .int k ∧ SqT K H l xs ∧ 0 ≤ k ∧ k ≤ 1000000 ∧ xs.length * k.toNat ≤ 1000000) ∧ ∀ p H', SqT K H' p (List.replicate k.toNat xs).flatten → Ex [] H H' → Q (.ref p) H')
theorem flat_nil {α : Type} : ∀ n : Nat, (List.replicate n ([] : List α)).flatten = []
  | 0 => rfl
  | n + 1 => by rw [List.replicate_succ, List.flatten_cons, flat_nil n]; rfl
theorem vals_rep {xs : List V} {us : List Value} (r : Vals xs us) : ∀ n : Nat, Vals (List.replicate n xs).flatten (List.replicate n us).flatten
  | 0 => .nil
  | n + 1 => by
    rw [List.replicate_succ, List.flatten_cons, List.replicate_succ, List.flatten_cons]
    exact r.append (vals_rep r n)
theorem op_mulT {X : Cx} {pins : List (Addr × Obj)} {s : Shared} {σ : L2.St} {H : Hp} {l : Addr} {k : Int} {xs : List V} {v u : Value} {Q : VK} (I : L2.Inv X pins σ H s) (rx : RelV (.ref l) v) (ry : RelV (.int k) u)
    (hT : SqT X.K H l xs) (h0 : 0 ≤ k) (h1 : k ≤ 1000000) (hz : xs.length * k.toNat ≤ 1000000) (q : ∀ p H', SqT X.K H' p (List.replicate k.toNat xs).flatten → Ex [] H H' → Q (.ref p) H') :
    wpAny (model X.prog X.w) X.A (binaryOp .Mult v u) (EP X pins σ Q) X.xe s := by
  cases rx
  obtain ⟨t, rfl⟩ := ry
  obtain ⟨its, r, ⟨⟨cls, dd, data, sl⟩, ho, hc, n, hd⟩, hs⟩ := I.tuple hT
  simp only at hc hd
  subst hc hd
  have hle : its.length = xs.length := r.length.symm
  have c0 : (decide (k < -(2 ^ 63)) || decide (k ≥ 2 ^ 63)) = false := by
    rw [decide_eq_false (by omega), decide_eq_false (by omega)]
    rfl
  have run : ∀ (R : Value → Shared → Prop), (∀ (P : Prop), wpAny (model X.prog X.w) X.A (call (.builtin "tuple.__mul__") [.ref l, .int k t]) R X.xe s → P → P) → wpAny (model X.prog X.w) X.A (call (.builtin "tuple.__mul__") [.ref l, .int k t]) R X.xe s →
      wpAny (model X.prog X.w) X.A (binaryOp .Mult (.ref l) (.int k t)) R X.xe s := fun R _ h =>
    wpAny_binaryOp_repeat_ref (T := "tuple") (U := "int") (by decide) ⟨_, ho, rfl⟩ (fun s' => typeIs_int s' k t) noFill_tuple_mul F.fills_int_mul F.slot_int_rmul repeat_tuple F.slot_int_index.lookup
      (call_meets F.slot_int_rmul (typeIs_int s k t) F.entry_int_rmul (F.args_int_rmul_2 _ _) (int_rmul_tuple k t l its.toArray n dd sl) ⟨ho, rfl, ⟨_, ho, rfl⟩, h⟩)
  refine run _ (fun _ _ p => p) ?_
  cases c1 : (its.toArray.isEmpty || k == 1) with
  | true =>
    refine call_meets F.slot_tuple_mul ⟨_, ho, rfl⟩ F.entry_tuple_mul (F.args_tuple_mul_2 _ _) (tmul_same l its.toArray n dd sl k t c0 c1) ⟨ho, ?_⟩
    have e : (List.replicate k.toNat xs).flatten = xs := by
      rcases Bool.or_eq_true _ _ |>.mp c1 with z | z
      · have : its = [] := by simpa using z
        subst this
        have : xs = [] := List.eq_nil_of_length_eq_zero hle.symm
        subst this
        exact flat_nil _
      · have : k = 1 := by simpa using z
        subst this
        simp
    exact ⟨.ref l, H, I.tok _, rfl, q l H (by rw [e]; exact hT) (Ex.refl _ _)⟩
  | false =>
    have c1' := c1
    rw [Bool.or_eq_false_iff] at c1
    obtain ⟨hi, hk1⟩ := c1
    cases c2 : (decide (k ≤ 0) || its.toArray.isEmpty) with
    | true =>
      refine call_meets F.slot_tuple_mul ⟨_, ho, rfl⟩ F.entry_tuple_mul (F.args_tuple_mul_2 _ _) (tmul_none l its.toArray n dd sl k t c0 c1' c2) ⟨ho, ?_⟩
      have hk0 : k = 0 := by
        rw [hi, Bool.or_false] at c2
        have := of_decide_eq_true c2
        omega
      subst hk0
      refine ⟨.ref s.heap.objs.size, _, I.laid (t' := s.toks) (o := .tup []) (fun b ob z => Heap.get?_push_of_some _ z) (Nat.le_refl _) ?_, rfl, q _ _ (by simpa using SqT.of_new) (Ex.new (I.hok.fresh (Nat.le_refl _)))⟩
      exact ⟨Nat.zero_le _, [], .nil, IsTup.new _ _⟩
    | false =>
      have hpos : ¬ k ≤ 0 := by
        intro z
        rw [decide_eq_true z] at c2
        cases c2
      have hm : ((its.toArray.size : Nat) : Int) * k ≤ 1000000 := by
        have e1 : k = ((k.toNat : Nat) : Int) := by omega
        have a1 : ((xs.length * k.toNat : Nat) : Int) ≤ 1000000 := by omega
        rw [List.size_toArray, hle, e1]
        rw [Int.natCast_mul] at a1
        exact a1
      have c4 : Builtin.Tuple.tupleTooMany (((its.toArray.size : Nat) : Int) * k) = false := by
        unfold Builtin.Tuple.tupleTooMany
        rw [sizeLine_eq]
        exact decide_eq_false (by omega)
      have flen : (List.replicate k.toNat its).flatten.length ≤ sizeLine := by
        rw [flat_len, hle, sizeLine_eq, Nat.mul_comm]
        omega
      refine call_meets F.slot_tuple_mul ⟨_, ho, rfl⟩ F.entry_tuple_mul (F.args_tuple_mul_2 _ _) (tuple_mulW l its.toArray n dd sl k t c0 c1' c2 (by omega) c4 (by rw [size_rep, List.size_toArray]; exact flen)) ⟨ho, ?_⟩
      rw [size_rep]
      have ok : xs.length * k.toNat ≤ sizeLine := by rw [sizeLine_eq]; omega
      refine ⟨.ref s.heap.objs.size, _, I.laid (t' := s.toks) (o := .tup (List.replicate k.toNat xs).flatten) (fun b ob z => Heap.get?_push_of_some _ z) (Nat.le_refl _) ?_, rfl, q _ _ SqT.of_new (Ex.new (I.hok.fresh (Nat.le_refl _)))⟩
      exact ⟨by rw [flat_len, Nat.mul_comm]; exact ok, _, vals_rep r _, IsTup.new _ _⟩
theorem fold_app {α : Type} : ∀ (l : List (List α)) (acc : Array α), ((l.map List.toArray).foldl (· ++ ·) acc) = acc ++ l.flatten.toArray
  | [], acc => by simp
  | x :: r, acc => by
    rw [List.map_cons, List.foldl_cons, fold_app r]
    simp
theorem op_mulS {X : Cx} {pins : List (Addr × Obj)} {s : Shared} {σ : L2.St} {H : Hp} {k : Int} {z : Str} {v u : Value} {Q : VK} (I : L2.Inv X pins σ H s) (rx : RelV (.str z) v) (ry : RelV (.int k) u)
    (h0 : 0 ≤ k) (h1 : k ≤ 1000000) (hz : z.length * k.toNat ≤ 1000000) (q : Q (.str (repS z k)) H) :
    wpAny (model X.prog X.w) X.A (binaryOp .Mult v u) (EP X pins σ Q) X.xe s := by
  obtain ⟨t, rfl⟩ := rx
  obtain ⟨t', rfl⟩ := ry
  have c0 : (decide (k < -(2 ^ 63)) || decide (k ≥ 2 ^ 63)) = false := by
    rw [decide_eq_false (by omega), decide_eq_false (by omega)]
    rfl
  have hzl : z.length = z.cps.size := rfl
  refine P.mul_str c0 (fun a b => ?_) (fun a b => ?_) ?_
  · intro c
    have a2 : (z.length : Int) ≤ 1000000 := by
      have : z.length * 1 ≤ z.length * k.toNat := Nat.mul_le_mul_left _ (by omega)
      omega
    have a3 : (1000000 : Int) ≤ (2 ^ 63 - 1) / k := (Int.le_ediv_iff_mul_le (by omega)).mpr (by omega)
    omega
  · unfold PySem.Builtin.Str.tooLong
    rw [sizeLine_eq]
    exact decide_eq_false (by omega)
  · by_cases hk : k < 1
    · rw [if_pos hk]
      have : k = 0 := by omega
      subst this
      refine ⟨by decide, .str Str.empty, H, I.tok _, ⟨_, rfl⟩, ?_⟩
      exact q
    · rw [if_neg hk]
      by_cases c : (k == 1 || z.length == 0) = true
      · rw [if_pos c]
        have e : repS z k = z := by
          rcases Bool.or_eq_true _ _ |>.mp c with y | y
          · have : k = 1 := by simpa using y
            subst this
            simp [repS]
          · have y' : z.cps.size = 0 := by simpa [hzl] using y
            have : z.cps = #[] := Array.eq_empty_of_size_eq_zero y'
            obtain ⟨a⟩ := z
            simp at this
            subst this
            simp [repS]
        refine ⟨.str z, H, I.tok _, ⟨_, rfl⟩, ?_⟩
        rw [e] at q
        exact q
      · rw [if_neg c]
        have e : (⟨(List.replicate k.toNat z.cps).foldl (· ++ ·) #[]⟩ : Str) = repS z k := by
          unfold repS
          congr 1
          have := fold_app (List.replicate k.toNat z.cps.toList) (#[] : Array Nat)
          simpa using this
        rw [e]
        refine ⟨?_, .str (repS z k), H, I.tok _, ⟨_, rfl⟩, q⟩
        show (repS z k).cps.size ≤ sizeLine
        rw [sizeLine_eq]
        simp only [repS, List.size_toArray, flat_len, Array.length_toList]
        rw [Nat.mul_comm, ← hzl]
        omega
theorem op_MulG {X : Cx} : OpR X (binaryOp .Mult) (rMulG X.K) := fun pins s σ H x y v u Q I rx ry q => by
  rcases q with ⟨i, j, ⟨rfl, rfl, c⟩, q⟩ | ⟨z, k, ⟨rfl, rfl, h0, h1, hz⟩, q⟩ | ⟨l, k, xs, ⟨rfl, rfl, hl, h0, h1, hz⟩, q⟩ | ⟨l, k, xs, ⟨rfl, rfl, hT, h0, h1, hz⟩, q⟩
  · exact op_mul pins s σ H _ _ v u Q I rx ry ⟨i, j, rfl, rfl, c, q⟩
  · exact op_mulS I rx ry h0 h1 hz q
  · exact op_rep pins s σ H _ _ v u Q I rx ry ⟨l, k, xs, rfl, rfl, hl, by omega, by omega, by rw [sizeLine_eq]; omega, fun p hp => q p _ hp upd_same (Ex.new hp)⟩
  · exact op_mulT I rx ry hT h0 h1 hz q
end G

namespace G
open PySem L2
section
variable {CX : CXT} {P : Program} {w : World} {K : PySem.W.Frag} {mg : Str → Option Value} {base : Heap} {N : List Str} {qual : Str} {scope : Scope} {f : Addr} {cd : Value} {A : Around} {outer : List Env} {s : Shared} {H : Hp} {E : XK}
theorem cx_K : (cxOf CX P w K mg base N qual scope f cd A outer s H E).K = K := rfl
theorem cx_nK : (cxOf CX P w K mg base N qual scope f cd A outer s H E).nox.K = K := rfl
end
theorem cmul_r {i j : Int} (h1 : -(2 ^ 64) < j) (h2 : j < 2 ^ 64) : CMul i j := .inr ⟨h1, h2⟩
theorem cmul_l {i j : Int} (h1 : -(2 ^ 64) < i) (h2 : i < 2 ^ 64) : CMul i j := .inl ⟨h1, h2⟩
theorem cdivw {i j : Int} (h1 : 0 < j) (h2 : j < 2 ^ 64) : CDivW i j := wide_div (b := 64) h1 (by omega) (by decide) (by decide)
theorem tyL {K : PySem.W.Frag} {H : Hp} {p : Addr} {xs : List V} (h : SqL K H p xs) : tyV K "list" (.ref p) H := Or.inl ⟨rfl, xs, h⟩
theorem pop_last (ws : List V) (y : V) : (ws ++ [y])[(ws ++ [y]).length - 1]? = some y := by simp
/-! ### lists of data that a comprehension makes -/
def RepAt (K : PySem.W.Frag) (ds : List Dt) (i : Nat) (y : V) (H : Hp) : Prop := ∃ d, ds[i]? = some d ∧ Rep K H y d
theorem RepAt.stab {K : PySem.W.Frag} {ds : List Dt} : Stab (RepAt K ds) := fun _ _ _ _ _ e ⟨d, h, r⟩ => ⟨d, h, e.rep r⟩
theorem repL_of {K : PySem.W.Frag} {H : Hp} : ∀ {ys : List V} {ds : List Dt}, ys.length = ds.length → (∀ j y, ys[j]? = some y → RepAt K ds j y H) → RepL K H ys ds
  | [], [], _, _ => .nil
  | y :: ys, d :: ds, hl, h => by
    obtain ⟨d', e, r⟩ := h 0 y (by simp)
    have e' : d = d' := by simpa using e
    subst e'
    refine .cons r (repL_of (by simpa using hl) fun j z hz => ?_)
    obtain ⟨d2, e2, r2⟩ := h (j + 1) z (by simpa using hz)
    exact ⟨d2, by simpa using e2, r2⟩
theorem LcP.done {K : PySem.W.Frag} {D : Addr} {M : List Addr} {P : Hp → Prop} {ds : List Dt} {H1 H : Hp} {n : Nat} (h : LcP D M P (RepAt K ds) H1 n H) (hn : ds.length = n) : ∃ ys, H D = some (.lst ys) ∧ RepL K H ys ds := by
  obtain ⟨_, _, acc, h1, h2, h3⟩ := h
  exact ⟨acc, h1, repL_of (by omega) h3⟩
theorem RepL.bls {K : PySem.W.Frag} {H : Hp} : ∀ {ys : List V} {bs : List Bool}, RepL K H ys (bs.map Dt.bl) → ys = bs.map V.bl
  | _, [], h => by cases h; rfl
  | _, b :: bs, h => by
    rw [List.map_cons] at h
    cases h with
    | cons a t =>
      cases a
      rw [t.bls, List.map_cons]
theorem RepL.ints {K : PySem.W.Frag} {H : Hp} : ∀ {ys : List V} {bs : List Int}, RepL K H ys (bs.map Dt.int) → ys = bs.map V.int
  | _, [], h => by cases h; rfl
  | _, b :: bs, h => by
    rw [List.map_cons] at h
    cases h with
    | cons a t =>
      cases a
      rw [t.ints, List.map_cons]
theorem RepL.strs {K : PySem.W.Frag} {H : Hp} : ∀ {ys : List V} {bs : List Str}, RepL K H ys (bs.map Dt.str) → ys = bs.map V.str
  | _, [], h => by cases h; rfl
  | _, b :: bs, h => by
    rw [List.map_cons] at h
    cases h with
    | cons a t =>
      cases a
      rw [t.strs, List.map_cons]
theorem SqL.bls {K : PySem.W.Frag} {H : Hp} {D : Addr} {ys : List V} {bs : List Bool} (h : H D = some (.lst ys)) (r : RepL K H ys (bs.map Dt.bl)) : SqL K H D (bs.map V.bl) := by
  rw [← r.bls]
  exact SqL.of h
theorem true_loc : ∀ (D : Addr) (H : Hp) (o : HO), (fun _ : Hp => True) H → (fun _ : Hp => True) (upd H D o) := fun _ _ _ h => h

/-! ### signs -/
def signOk (c : Nat) : Bool := decide (32 ≤ c) && decide (c ≤ 126)
theorem lt1 (a b : Nat) : decide (([a] : List Nat) < [b]) = decide (a < b) := by
  by_cases h : a < b
  · rw [decide_eq_true h, decide_eq_true]
    exact List.Lex.rel h
  · rw [decide_eq_false h, decide_eq_false]
    intro z
    cases z with
    | rel z => exact h z
    | cons z => cases z
theorem le1 (a b : Nat) : (!decide (([a] : List Nat) < [b])) = decide (b ≤ a) := by
  rw [lt1]
  by_cases h : a < b
  · rw [decide_eq_true h, decide_eq_false (by omega)]
    rfl
  · rw [decide_eq_false h, decide_eq_true (by omega)]
    rfl
theorem wipe_set1 (σ : L2.St) (j : Nat) (x : Option V) : wipe (σ.set j x) [j] = wipe σ [j] := by
  show (σ.set j x).set j none = σ.set j none
  rw [List.set_set]
theorem wipe_set1' (σ : L2.St) (j : Nat) (x : Option V) : wipe ((wipe σ [j]).set j x) [j] = wipe σ [j] := by
  show ((σ.set j none).set j x).set j none = σ.set j none
  rw [List.set_set, List.set_set]
theorem get_set1 (σ : L2.St) {j : Nat} (x : Option V) (h : j < σ.length) : ((wipe σ [j]).set j x)[j]? = some x := by
  show ((σ.set j none).set j x)[j]? = some x
  rw [List.getElem?_set_self (by rw [List.length_set]; exact h)]
/-! ### slices -/
def rSlG (K : PySem.W.Frag) : V → Option Int → Option Int → Hp → VK → Prop := fun x lo hi H Q =>
  (∃ z, (x = .str z ∧ z.length ≤ sizeLine) ∧ Q (.str (cutS z lo hi)) H) ∨
  (∃ a xs, (x = .ref a ∧ SqL K H a xs) ∧ ∀ p H', H p = none → H' p = some (.lst (cutV xs lo hi)) → Ex [] H H' → Q (.ref p) H') ∨
  (∃ a xs, (x = .ref a ∧ SqT K H a xs) ∧ ∀ p H', SqT K H' p (cutV xs lo hi) → Ex [] H H' → Q (.ref p) H')
theorem cutV_whole {xs : List V} {lo hi : Option Int} (h : HT.sIx xs.length 0 lo = 0 ∧ HT.sIx xs.length xs.length hi = xs.length) : cutV xs lo hi = xs := by
  unfold cutV
  rw [h.1, h.2]
  simp
theorem sl_G {X : Cx} : SlR X (rSlG X.K) := fun pins s σ H x v vl vu lo hi sl Q I rx hs pl pu q => by
  rcases q with ⟨z, ⟨rfl, hz⟩, q⟩ | ⟨a, xs, ⟨rfl, hx⟩, q⟩ | ⟨a, xs, ⟨rfl, hx⟩, q⟩
  · exact sl_str pins s σ H _ v vl vu lo hi sl Q I rx hs pl pu ⟨z, rfl, hz, q⟩
  · exact sl_list pins s σ H _ v vl vu lo hi sl Q I rx hs pl pu ⟨a, xs, rfl, hx, fun p hp => q p _ hp upd_same (Ex.new hp)⟩
  · refine sl_tupA pins s σ H _ v vl vu lo hi sl Q I rx hs pl pu ⟨a, xs, rfl, hx, fun e => ?_, fun _ p hp => ?_⟩
    · exact q a H (by rw [cutV_whole e]; exact hx) (Ex.refl _ _)
    · exact q p _ SqT.of_new (Ex.new hp)
/-! ### the same with the written part named -/
section
variable {X : Cx} {K : PySem.W.Frag}
theorem oAdd (h : X.K = K) : OpR X (binaryOp .Add) (rAddG K) := by subst h; exact op_AddG
theorem oMul (h : X.K = K) : OpR X (binaryOp .Mult) (rMulG K) := by subst h; exact op_MulG
theorem ixG (h : X.K = K) : IxR X (rIxG K) := by subst h; exact ix_G
theorem slG (h : X.K = K) : SlR X (rSlG K) := by subst h; exact sl_G
theorem cIs (h : X.K = K) : CallR X (.builtin "isinstance") (rIs K) := by subst h; exact call_Is
theorem cLen (h : X.K = K) : CallR X (.builtin "len") (rLn K) := by subst h; exact call_Len
theorem cAll (h : X.K = K) (hc : X.calm = true) : CallR X (.builtin "all") (rAll K) := by subst h; exact cr_all hc
theorem cAny (h : X.K = K) (hc : X.calm = true) : CallR X (.builtin "any") (rAny K) := by subst h; exact cr_any hc
end
end G

/-! ### rules in one form: facts, then what follows, over any heap that goes on -/
namespace G
open PySem PySem.Spec PyProof.Rows L2
section
variable {X : Cx} {K : PySem.W.Frag}
def tTupA (t : TA) : TE := fun σ H Q => t σ H fun xs H1 => xs.length ≤ sizeLine ∧ ∀ p H2, H1 p = none → H2 p = some (.tup xs) → Ex [] H1 H2 → Q (.ref p) H2
def tLstA (t : TA) : TE := fun σ H Q => t σ H fun xs H1 => xs.length ≤ sizeLine ∧ ∀ p H2, H1 p = none → H2 p = some (.lst xs) → Ex [] H1 H2 → Q (.ref p) H2
theorem peTup {es : List Expr} {t : TA} {pos : Pos} {x1} (h : PA X es t) : PE X (.Tuple es x1 pos) (tTupA t) := by
  constructor
  intro pins s σ H Q I hq
  apply wpAny_Tuple_spliced
  refine thn (h.run pos pins s σ H _ I hq) ?_
  rintro us s1 ⟨xs, H1, I1, r, z, q⟩
  have new := I1.hok.fresh (Nat.le_refl s1.heap.objs.size)
  refine ⟨r.length ▸ z, .ref s1.heap.objs.size, _, I1.laid (t' := s1.toks) (o := .tup xs) (fun _ _ e => Heap.get?_push_of_some _ e) (Nat.le_refl _) ?_, rfl, q _ _ new upd_same (Ex.new new)⟩
  exact ⟨z, us, r, IsTup.new _ _⟩
theorem peLst {es : List Expr} {t : TA} {pos : Pos} (h : PA X es t) : PE X (.List es pos) (tLstA t) := by
  constructor
  intro pins s σ H Q I hq
  apply wpAny_List_spliced
  refine thn (h.run pos pins s σ H _ I hq) ?_
  rintro us s1 ⟨xs, H1, I1, r, z, q⟩
  have new := I1.hok.fresh (Nat.le_refl s1.heap.objs.size)
  refine ⟨r.length ▸ z, .ref s1.heap.objs.size, _, I1.laid (t' := s1.toks) (o := .lst xs) (fun _ _ e => Heap.get?_push_of_some _ e) (Nat.le_refl _) ?_, rfl, q _ _ new upd_same (Ex.new new)⟩
  exact ⟨z, us, 0, r, Heap.get?_push_size _ rfl⟩
def rSub : R2 := fun x y H Q => ∃ i j, (x = .int i ∧ y = .int j) ∧ Q (.int (i - j)) H
theorem oSub : OpR X (binaryOp .Sub) rSub := opImp op_sub fun _ _ _ _ ⟨i, j, ⟨a, b⟩, q⟩ => ⟨i, j, a, b, q⟩
def rMod : R2 := fun x y H Q => ∃ i j, (x = .int i ∧ y = .int j ∧ 0 < j) ∧ Q (.int (i % j)) H
theorem oMod : OpR X (binaryOp .Mod) rMod := opImp op_mod fun _ _ _ _ ⟨i, j, ⟨a, b, c⟩, q⟩ => ⟨i, j, a, b, c, q⟩
def rFdv : R2 := fun x y H Q => ∃ i j, (x = .int i ∧ y = .int j ∧ CDivW i j) ∧ Q (.int (i / j)) H
theorem oFdv : OpR X (binaryOp .FloorDiv) rFdv := opImp op_fdivW fun _ _ _ _ ⟨i, j, ⟨a, b, c⟩, q⟩ => ⟨i, j, a, b, c, q⟩
def rPow : R2 := fun x y H Q => ∃ i j, (x = .int i ∧ y = .int j ∧ CPow i j) ∧ Q (.int (i ^ j.toNat)) H
theorem oPow : OpR X (binaryOp .Pow) rPow := opImp op_pow fun _ _ _ _ ⟨i, j, ⟨a, b, c⟩, q⟩ => ⟨i, j, a, b, c, q⟩
def rNeg : V → Hp → VK → Prop := fun x H Q => ∃ i, x = .int i ∧ Q (.int (-i)) H
theorem oNeg : UnR X (unaryOp .USub) rNeg := fun pins s σ H x v Q I rx ⟨i, a, q⟩ => un_neg pins s σ H x v Q I rx ⟨i, a, q⟩
/-- two ints, two texts compared -/
def rLt : R2 := fun x y H Q => (∃ i j, (x = .int i ∧ y = .int j) ∧ Q (.bl (decide (i < j))) H) ∨ ∃ i j, (x = .str i ∧ y = .str j) ∧ Q (.bl (decide (i.cps.toList < j.cps.toList))) H
def rLe : R2 := fun x y H Q => (∃ i j, (x = .int i ∧ y = .int j) ∧ Q (.bl (decide (i ≤ j))) H) ∨ ∃ i j, (x = .str i ∧ y = .str j) ∧ Q (.bl (!decide (j.cps.toList < i.cps.toList))) H
def rGt : R2 := fun x y H Q => (∃ i j, (x = .int i ∧ y = .int j) ∧ Q (.bl (decide (j < i))) H) ∨ ∃ i j, (x = .str i ∧ y = .str j) ∧ Q (.bl (decide (j.cps.toList < i.cps.toList))) H
def rGe : R2 := fun x y H Q => (∃ i j, (x = .int i ∧ y = .int j) ∧ Q (.bl (decide (j ≤ i))) H) ∨ ∃ i j, (x = .str i ∧ y = .str j) ∧ Q (.bl (!decide (i.cps.toList < j.cps.toList))) H
theorem oLt : OpR X (compareOp .Lt) rLt := fun pins s σ H x y v u Q I rx ry q => by
  rcases q with ⟨i, j, ⟨rfl, rfl⟩, q⟩ | ⟨i, j, ⟨rfl, rfl⟩, q⟩
  · exact op_lt pins s σ H _ _ v u Q I rx ry ⟨i, j, rfl, rfl, q⟩
  · exact op_lt_str pins s σ H _ _ v u Q I rx ry ⟨i, j, rfl, rfl, q⟩
theorem oLe : OpR X (compareOp .LtE) rLe := fun pins s σ H x y v u Q I rx ry q => by
  rcases q with ⟨i, j, ⟨rfl, rfl⟩, q⟩ | ⟨i, j, ⟨rfl, rfl⟩, q⟩
  · exact op_le pins s σ H _ _ v u Q I rx ry ⟨i, j, rfl, rfl, q⟩
  · exact op_le_str pins s σ H _ _ v u Q I rx ry ⟨i, j, rfl, rfl, q⟩
theorem oGt : OpR X (compareOp .Gt) rGt := fun pins s σ H x y v u Q I rx ry q => by
  rcases q with ⟨i, j, ⟨rfl, rfl⟩, q⟩ | ⟨i, j, ⟨rfl, rfl⟩, q⟩
  · exact op_gt pins s σ H _ _ v u Q I rx ry ⟨i, j, rfl, rfl, q⟩
  · exact op_gt_str pins s σ H _ _ v u Q I rx ry ⟨i, j, rfl, rfl, q⟩
theorem oGe : OpR X (compareOp .GtE) rGe := fun pins s σ H x y v u Q I rx ry q => by
  rcases q with ⟨i, j, ⟨rfl, rfl⟩, q⟩ | ⟨i, j, ⟨rfl, rfl⟩, q⟩
  · exact op_ge pins s σ H _ _ v u Q I rx ry ⟨i, j, rfl, rfl, q⟩
  · exact op_ge_str pins s σ H _ _ v u Q I rx ry ⟨i, j, rfl, rfl, q⟩
/-- changes of lists -/
def rAppA : V → List V → Hp → VK → Prop := fun x vs H Q => ∃ l xs y, (x = .ref l ∧ vs = [y] ∧ H l = some (.lst xs) ∧ xs.length < sizeLine) ∧ ∀ H', H' l = some (.lst (xs ++ [y])) → Ex [l] H H' → Q .non H'
theorem mAppend : MtR X "list.append" rAppA := fun pins s σ H x vs v us Q I rx rv ⟨l, xs, y, ⟨a, b, c, d⟩, q⟩ => mt_append pins s σ H x vs v us Q I rx rv ⟨l, xs, y, a, b, c, d, q _ upd_same (Ex.put c rfl (by simp))⟩
def rExtA : V → List V → Hp → VK → Prop := fun x vs H Q => ∃ l b xs zs, (x = .ref l ∧ vs = [.ref b] ∧ H l = some (.lst xs) ∧ H b = some (.lst zs) ∧ xs.length + zs.length ≤ sizeLine) ∧ ∀ H', H' l = some (.lst (xs ++ zs)) → Ex [l] H H' → Q .non H'
theorem mExtend : MtR X "list.extend" rExtA := fun pins s σ H x vs v us Q I rx rv ⟨l, b, xs, zs, ⟨a, b', c, d, e⟩, q⟩ => mt_extend pins s σ H x vs v us Q I rx rv ⟨l, b, xs, zs, a, b', c, d, e, q _ upd_same (Ex.put c rfl (by simp))⟩
def rPopA : V → List V → Hp → VK → Prop := fun x vs H Q => ∃ l ws y, (x = .ref l ∧ vs = [] ∧ H l = some (.lst (ws ++ [y]))) ∧ ∀ H', H' l = some (.lst ws) → Ex [l] H H' → Q y H'
theorem mPop : MtR X "list.pop" rPopA := fun pins s σ H x vs v us Q I rx rv ⟨l, ws, y, ⟨a, b, c⟩, q⟩ => mt_pop pins s σ H x vs v us Q I rx rv ⟨l, ws ++ [y], y, a, b, c, by simp, q _ (by rw [upd_same, List.dropLast_concat]) (Ex.put c rfl (by simp))⟩
def rSetA : TSet := fun o i v H Q => ∃ p xs k j, (o = .ref p ∧ i = .int k ∧ H p = some (.lst xs) ∧ ixN xs.length k = some j) ∧ ∀ H', H' p = some (.lst (xs.set j v)) → Ex [p] H H' → Q H'
theorem setL : PSet X rSetA := fun pins s σ H o i v ov iv u Q I ro ri rv ⟨p, xs, k, j, ⟨a, b, c, d⟩, q⟩ => set_list pins s σ H o i v ov iv u Q I ro ri rv ⟨p, xs, k, j, a, b, c, d, q _ upd_same (Ex.put c rfl (by simp))⟩
def rAugAdd : TIp := fun x y H Q => ∃ i j, (x = .int i ∧ y = .int j) ∧ Q (.int (i + j)) H
def rAugSub : TIp := fun x y H Q => ∃ i j, (x = .int i ∧ y = .int j) ∧ Q (.int (i - j)) H
theorem pAdd : PIp X .Add rAugAdd := fun pins s σ H x y v u Q I rx ry ⟨i, j, ⟨a, b⟩, q⟩ => ip_add pins s σ H x y v u Q I rx ry ⟨i, j, a, b, q⟩
theorem pSub : PIp X .Sub rAugSub := fun pins s σ H x y v u Q I rx ry ⟨i, j, ⟨a, b⟩, q⟩ => ip_sub pins s σ H x y v u Q I rx ry ⟨i, j, a, b, q⟩
def rAbs : List V → Hp → VK → Prop := fun xs H Q => ∃ i, xs = [.int i] ∧ Q (.int (if i < 0 then -i else i)) H
theorem cAbs : CallR X (.builtin "abs") rAbs := call_abs
end
/-- all([lo <= sign <= hi for sign in z]) -/
theorem all_signs {K : PySem.W.Frag} {σ : L2.St} {H : Hp} {Q : VK} {i j : Nat} {z lo hi : Str} {a b : Nat} (hi' : σ[i]? = some (some (.str z))) (hj : j < σ.length) (hlo : lo.cps.toList = [a]) (hhi : hi.cps.toList = [b]) (hz : z.length ≤ 1000000)
    (k : ∀ H', Ex [] H H' → Q (.bl (z.cps.toList.all fun c => decide (a ≤ c) && decide (c ≤ b))) H') :
    tCB (rAll K) (tCons (tLc (iStr (tVar i)) (gName j) tYes (tChain rLe rLe (tC (.str lo)) (tVar j) (tC (.str hi))) [j]) tNil) σ H Q := by
  refine ⟨_, hi', z, rfl, fun D hD => ?_⟩
  refine lc_it walk_str (LcP D [] (fun _ => True) (RepAt K ((z.cps.toList.map fun c => decide (a ≤ c) && decide (c ≤ b)).map Dt.bl)) H) (LcP.start hD trivial (true_loc D)) (fun _ _ _ _ => trivial) ?_ ?_
  · rintro n x H1 H2 hn p ⟨rfl, c, hc, rfl⟩
    have fin : ∀ v, v = (decide (a ≤ c) && decide (c ≤ b)) → ∃ acc, H2 D = some (.lst acc) ∧ acc.length < sizeLine ∧ LcP D [] (fun _ => True) (RepAt K ((z.cps.toList.map fun c => decide (a ≤ c) && decide (c ≤ b)).map Dt.bl)) H (n + 1) (upd H2 D (.lst (acc ++ [V.bl v]))) := fun v hv =>
      p.step hD RepAt.stab (true_loc D) (Ex.refl _ _) trivial trivial ⟨.bl v, by rw [List.getElem?_map, List.getElem?_map, Array.getElem?_toList, hc, hv]; rfl, .bl v⟩ hn (by
        have e : z.length = z.cps.size := rfl
        omega)
    refine ⟨wipe_set1' _ _ _, ?_⟩
    show tChain rLe rLe (tC (.str lo)) (tVar j) (tC (.str hi)) _ _ _
    refine ⟨_, get_set1 _ _ hj, .inr ⟨lo, ⟨#[c]⟩, ⟨rfl, rfl⟩, _, rfl, ?_⟩⟩
    have e1 : (!decide ((⟨#[c]⟩ : Str).cps.toList < lo.cps.toList)) = decide (a ≤ c) := by
      rw [hlo, show (⟨#[c]⟩ : Str).cps.toList = [c] from rfl, le1]
    rw [e1]
    refine ite2 (fun h => ?_) (fun h => ?_)
    · refine .inr ⟨⟨#[c]⟩, hi, ⟨rfl, rfl⟩, fin _ ?_⟩
      rw [h, Bool.true_and, hhi, show (⟨#[c]⟩ : Str).cps.toList = [c] from rfl, le1]
    · refine fin _ ?_
      rw [Bool.eq_false_iff.mpr h, Bool.false_and]
  · intro H1 p
    obtain ⟨ys, h1, h2⟩ := p.done (by rw [List.length_map, List.length_map, Array.length_toList])
    refine ⟨D, _, rfl, SqL.bls h1 h2, ?_⟩
    rw [List.all_map]
    exact k _ p.ex
/-! ### tuple(..), list(..) -/
def rTupOf (K : PySem.W.Frag) : List V → Hp → VK → Prop := fun xs H Q => (∃ p ys, (xs = [.ref p] ∧ SqL K H p ys) ∧ ∀ l H', H l = none → H' l = some (.tup ys) → Ex [] H H' → Q (.ref l) H') ∨ ∃ p ys, (xs = [.ref p] ∧ SqT K H p ys) ∧ Q (.ref p) H
theorem cTuple {X : Cx} {K : PySem.W.Frag} (h : X.K = K) : CallR X (.type "tuple") (rTupOf K) := by
  subst h
  refine callImp call_tuple_of fun xs H Q q => ?_
  rcases q with ⟨p, ys, ⟨a, b⟩, q⟩ | ⟨p, ys, ⟨a, b⟩, q⟩
  · exact ⟨p, ys, a, .inl ⟨b, fun l hl => q l _ hl upd_same (Ex.new hl)⟩⟩
  · exact ⟨p, ys, a, .inr ⟨b, q⟩⟩
def rLstOf (K : PySem.W.Frag) : List V → Hp → VK → Prop := fun xs H Q => (∃ p ys, (xs = [.ref p] ∧ SqL K H p ys) ∧ ∀ l H', H l = none → H' l = some (.lst ys) → Ex [] H H' → Q (.ref l) H') ∨ ∃ p ys, (xs = [.ref p] ∧ SqT K H p ys) ∧ ∀ l H', H l = none → H' l = some (.lst ys) → Ex [] H H' → Q (.ref l) H'
theorem cList {X : Cx} {K : PySem.W.Frag} (h : X.K = K) : CallR X (.type "list") (rLstOf K) := by
  subst h
  refine callImp call_list_of fun xs H Q q => ?_
  rcases q with ⟨p, ys, ⟨a, b⟩, q⟩ | ⟨p, ys, ⟨a, b⟩, q⟩
  · exact ⟨p, ys, a, .inl b, fun l hl => q l _ hl upd_same (Ex.new hl)⟩
  · exact ⟨p, ys, a, .inr b, fun l hl => q l _ hl upd_same (Ex.new hl)⟩
theorem cutV_to (xs : List V) (n : Nat) : cutV xs none (some (n : Int)) = xs.take n := by
  unfold cutV
  rw [HT.sIx_none, HT.sIx_nat, List.drop_zero, Nat.sub_zero]
  by_cases h : n ≤ xs.length
  · rw [Nat.min_eq_left h]
  · rw [Nat.min_eq_right (by omega), List.take_length, List.take_of_length_le (by omega)]
theorem cutV_from (xs : List V) (n : Nat) : cutV xs (some (n : Int)) none = xs.drop n := by
  unfold cutV
  rw [HT.sIx_none, HT.sIx_nat]
  by_cases h : n ≤ xs.length
  · rw [Nat.min_eq_left h, List.take_of_length_le (by rw [List.length_drop]; omega)]
  · rw [Nat.min_eq_right (by omega), List.drop_of_length_le (by omega), List.drop_of_length_le (by omega)]
    simp
theorem RepL.take {K : PySem.W.Frag} {H : Hp} : ∀ {vs : List V} {l : List Dt} (n : Nat), RepL K H vs l → RepL K H (vs.take n) (l.take n)
  | _, _, 0, _ => by rw [List.take_zero, List.take_zero]; exact .nil
  | _, _, n + 1, .nil => .nil
  | _, _, n + 1, .cons h t => .cons h (RepL.take n t)
theorem RepL.drop {K : PySem.W.Frag} {H : Hp} : ∀ {vs : List V} {l : List Dt} (n : Nat), RepL K H vs l → RepL K H (vs.drop n) (l.drop n)
  | _, _, 0, h => h
  | _, _, n + 1, .nil => .nil
  | _, _, n + 1, .cons _ t => RepL.drop n t
theorem repS_len (z : Str) (k : Int) : (repS z k).length = z.length * k.toNat := by
  show (repS z k).cps.size = z.cps.size * k.toNat
  simp only [repS, List.size_toArray, flat_len, Array.length_toList]
  rw [Nat.mul_comm]
theorem RepL.rep {K : PySem.W.Frag} {H : Hp} {vs : List V} {l : List Dt} (h : RepL K H vs l) : ∀ n : Nat, RepL K H (List.replicate n vs).flatten (List.replicate n l).flatten
  | 0 => .nil
  | n + 1 => by
    rw [List.replicate_succ, List.flatten_cons, List.replicate_succ, List.flatten_cons]
    exact h.append (RepL.rep h n)
def rDictOf (K : PySem.W.Frag) : List V → Hp → VK → Prop := fun xs H Q => ∃ (a : Addr) (ps : List Addr) (kvs : List (Key × V)), (xs = [.ref a] ∧ SqL K H a (ps.map V.ref) ∧ Paired (fun p kv => SqT K H p [kV kv.1, kv.2]) ps kvs) ∧
  ∀ p H', H p = none → H' p = some (.dK (mergeK [] kvs)) → Ex [] H H' → Q (.ref p) H'
theorem cDict {X : Cx} {K : PySem.W.Frag} (h : X.K = K) (hc : X.calm = true) : CallR X (.type "dict") (rDictOf K) := by
  subst h
  exact callImp (call_dictP hc) fun xs H Q ⟨a, ps, kvs, ⟨h1, h2, h3⟩, q⟩ => ⟨a, ps, kvs, h1, h2, h3, fun p hp => q p _ hp upd_same (Ex.new hp)⟩
/-- a list of pairs (an int, a thing), as dict(..) takes it -/
theorem pairs_of {K : PySem.W.Frag} {H : Hp} : ∀ {ys : List V} {ds : List Dt}, RepL K H ys ds → (∀ d ∈ ds, ∃ (i : Int) (e : Dt), d = .tup [.int i, e]) → ∃ (ps : List Addr) (kvs : List (Key × V)), ys = ps.map V.ref ∧ Paired (fun p kv => SqT K H p [kV kv.1, kv.2]) ps kvs
  | _, _, .nil, _ => ⟨[], [], rfl, .nil⟩
  | _, _, .cons (v := v) h t, hd => by
    obtain ⟨ps, kvs, e, q⟩ := pairs_of t fun d m => hd d (List.mem_cons_of_mem _ m)
    obtain ⟨i, e1, rfl⟩ := hd _ List.mem_cons_self
    cases h with
    | tup hs hl =>
      rename_i a xs
      cases hl with
      | cons h1 t1 =>
        cases t1 with
        | cons h2 t2 =>
          cases t2
          cases h1
          rename_i v2
          exact ⟨a :: ps, (Sum.inl i, v2) :: kvs, by rw [e]; rfl, .cons hs q⟩
theorem Ex.stepPut {M : List Addr} {H H1 : Hp} {p : Addr} {o o' : HO} (h : H1 p = some o) (k : norm o = norm o') (s : p ∈ M ∨ H p = Option.none) (a : Ex M H H1) : Ex M H (upd H1 p o') :=
  Ex.step (Ex.put (M := [p]) h k List.mem_cons_self) (side1 s) a
theorem Dom.upd {H H1 : Hp} {p : Addr} {o : HO} (a : Dom H H1) : Dom H (upd H1 p o) := fun _ h => a _ (upd_none h).2
theorem kvs_nil : ([] : List (V × V)) = List.map (fun kv => (kV kv.1, kv.2)) ([] : List (Key × V)) := rfl
theorem kvs_ci {i : Int} {v : V} {ps : List (V × V)} {kvs : List (Key × V)} (h : ps = List.map (fun kv => (kV kv.1, kv.2)) kvs) : (V.int i, v) :: ps = List.map (fun kv => (kV kv.1, kv.2)) ((Sum.inl i, v) :: kvs) := by rw [h]; rfl
theorem kvs_cs {z : Str} {v : V} {ps : List (V × V)} {kvs : List (Key × V)} (h : ps = List.map (fun kv => (kV kv.1, kv.2)) kvs) : (V.str z, v) :: ps = List.map (fun kv => (kV kv.1, kv.2)) ((Sum.inr z, v) :: kvs) := by rw [h]; rfl
section
variable {X : Cx}
def tDNewA : TE := fun _ H Q => ∀ p H', H p = none → H' p = some (.dK []) → Ex [] H H' → Q (.ref p) H'
theorem peDict0 {pos : Pos} : PE X (.Dict [] [] pos) tDNewA := peImp pe_dnewK fun _ _ _ q => fun p hp => q p _ hp upd_same (Ex.new hp)
end
theorem strapp_len (x y : Str) : (x ++ y).length = x.length + y.length := by
  show (x.cps ++ y.cps).size = _
  rw [Array.size_append]
  rfl
end G
namespace G
open PySem L2
def top (i : Nat) : Stmt := PySem.Challenge.pw_keptviews_k05_worths_judged.main.body.getD i (.Pass ⟨0, 0, 0, 0⟩)
abbrev s_is_integer : Stmt := top 1
abbrev n_is_integer : List Str := ["thing"]
theorem sc_is_integer : FnScope n_is_integer ["thing"] (defScope s_is_integer) := ⟨rfl, rfl, rfl, by decide +kernel, rfl, by decide +kernel, by decide +kernel⟩
abbrev s_is_plain_worth : Stmt := top 8
abbrev n_is_plain_worth : List Str := ["thing", "sign"]
theorem sc_is_plain_worth : FnScope n_is_plain_worth ["thing"] (defScope s_is_plain_worth) := ⟨rfl, rfl, rfl, by decide +kernel, rfl, by decide +kernel, by decide +kernel⟩
abbrev s_is_worth : Stmt := top 9
abbrev n_is_worth : List Str := ["thing", "row", "many", "one", "deep", "item"]
theorem sc_is_worth : FnScope n_is_worth ["thing"] (defScope s_is_worth) := ⟨rfl, rfl, rfl, by decide +kernel, rfl, by decide +kernel, by decide +kernel⟩
abbrev s_law_pot : Stmt := top 11
abbrev n_law_pot : List Str := ["script", "cells", "cell"]
theorem sc_law_pot : FnScope n_law_pot ["script"] (defScope s_law_pot) := ⟨rfl, rfl, rfl, by decide +kernel, rfl, by decide +kernel, by decide +kernel⟩
abbrev s_law_draw : Stmt := top 12
abbrev n_law_draw : List Str := ["pot", "many", "cell", "digit", "number"]
theorem sc_law_draw : FnScope n_law_draw ["pot", "many"] (defScope s_law_draw) := ⟨rfl, rfl, rfl, by decide +kernel, rfl, by decide +kernel, by decide +kernel⟩
abbrev s_law_any : Stmt := top 13
abbrev n_law_any : List Str := ["pot", "things"]
theorem sc_law_any : FnScope n_law_any ["pot", "things"] (defScope s_law_any) := ⟨rfl, rfl, rfl, by decide +kernel, rfl, by decide +kernel, by decide +kernel⟩
abbrev s_law_worth : Stmt := top 14
abbrev n_law_worth : List Str := ["pot", "some"]
theorem sc_law_worth : FnScope n_law_worth ["pot"] (defScope s_law_worth) := ⟨rfl, rfl, rfl, by decide +kernel, rfl, by decide +kernel, by decide +kernel⟩
abbrev s_law_deep_worth : Stmt := top 15
abbrev n_law_deep_worth : List Str := ["pot", "deep", "found", "turn", "more", "at", "anew"]
theorem sc_law_deep_worth : FnScope n_law_deep_worth ["pot", "deep"] (defScope s_law_deep_worth) := ⟨rfl, rfl, rfl, by decide +kernel, rfl, by decide +kernel, by decide +kernel⟩
abbrev s_law_is_int : Stmt := top 16
abbrev n_law_is_int : List Str := ["thing"]
theorem sc_law_is_int : FnScope n_law_is_int ["thing"] (defScope s_law_is_int) := ⟨rfl, rfl, rfl, by decide +kernel, rfl, by decide +kernel, by decide +kernel⟩
abbrev s_law_is_worth : Stmt := top 17
abbrev n_law_is_worth : List Str := ["thing", "waiting", "many", "one", "deep", "item", "sign"]
theorem sc_law_is_worth : FnScope n_law_is_worth ["thing"] (defScope s_law_is_worth) := ⟨rfl, rfl, rfl, by decide +kernel, rfl, by decide +kernel, by decide +kernel⟩
abbrev s_law_odd : Stmt := top 20
abbrev n_law_odd : List Str := ["pot", "deep", "turn", "odd", "wide", "key"]
theorem sc_law_odd : FnScope n_law_odd ["pot"] (defScope s_law_odd) := ⟨rfl, rfl, rfl, by decide +kernel, rfl, by decide +kernel, by decide +kernel⟩
abbrev s_law_of_many : Stmt := top 21
abbrev n_law_of_many : List Str := ["many"]
theorem sc_law_of_many : FnScope n_law_of_many ["many"] (defScope s_law_of_many) := ⟨rfl, rfl, rfl, by decide +kernel, rfl, by decide +kernel, by decide +kernel⟩
abbrev s_law_edge : Stmt := top 22
abbrev n_law_edge : List Str := ["pot", "way", "far", "found", "turn"]
theorem sc_law_edge : FnScope n_law_edge ["pot"] (defScope s_law_edge) := ⟨rfl, rfl, rfl, by decide +kernel, rfl, by decide +kernel, by decide +kernel⟩
abbrev s_law_thing : Stmt := top 23
abbrev n_law_thing : List Str := ["pot", "way"]
theorem sc_law_thing : FnScope n_law_thing ["pot"] (defScope s_law_thing) := ⟨rfl, rfl, rfl, by decide +kernel, rfl, by decide +kernel, by decide +kernel⟩
abbrev s_law : Stmt := top 24
abbrev n_law : List Str := ["script", "pot", "turn", "thing", "told"]
theorem sc_law : FnScope n_law ["script"] (defScope s_law) := ⟨rfl, rfl, rfl, by decide +kernel, rfl, by decide +kernel, by decide +kernel⟩
/-- what the top has left -/
structure Txt (K : PySem.W.Frag) (mg : Str → Option Value) : Prop where
  b_abs : mg "abs" = none
  b_all : mg "all" = none
  b_bool : mg "bool" = none
  b_dict : mg "dict" = none
  b_int : mg "int" = none
  b_isinstance : mg "isinstance" = none
  b_len : mg "len" = none
  b_range : mg "range" = none
  b_str : mg "str" = none
  b_tuple : mg "tuple" = none
  c_MOST : ∃ u, mg "MOST" = some u ∧ RelV (.int 1000000000000000000000000000000) u
  c_MOST_DEEP : ∃ u, mg "MOST_DEEP" = some u ∧ RelV (.int 8) u
  c_MOST_ITEMS : ∃ u, mg "MOST_ITEMS" = some u ∧ RelV (.int 50) u
  c_MOST_SIGNS : ∃ u, mg "MOST_SIGNS" = some u ∧ RelV (.int 40) u
  c_MOST_WORTHS : ∃ u, mg "MOST_WORTHS" = some u ∧ RelV (.int 200) u
theorem bt_isinstance : bootBuiltins "isinstance" = some (.builtin "isinstance") := by decide +kernel
theorem bt_int : bootBuiltins "int" = some (.type "int") := by decide +kernel
theorem bt_bool : bootBuiltins "bool" = some (.type "bool") := by decide +kernel
theorem bt_str : bootBuiltins "str" = some (.type "str") := by decide +kernel
theorem bt_tuple : bootBuiltins "tuple" = some (.type "tuple") := by decide +kernel
theorem bt_len : bootBuiltins "len" = some (.builtin "len") := by decide +kernel
theorem bt_all : bootBuiltins "all" = some (.builtin "all") := by decide +kernel
theorem bt_abs : bootBuiltins "abs" = some (.builtin "abs") := by decide +kernel
local macro_rules | `(tactic| walk_at "ne") => `(tactic| first
  | assumption
  | (apply Ne.symm; assumption)
  | (with_reducible apply ne_new; (focus with_reducible assumption); walk_at "hp")
  | (apply Ne.symm; with_reducible apply ne_new; (focus with_reducible assumption); walk_at "hp")
  | walk_at "ne2")
local macro_rules | `(tactic| walk_at "nin") => `(tactic| with_unfolding_all first | exact True.intro | (apply And.intro; (focus walk_at "ne"); walk_at "nin"))
local macro_rules | `(tactic| walk_at "hp") => `(tactic| with_reducible first
  | assumption
  | exact upd_same
  | (apply Ex.get; (focus with_reducible assumption); (focus walk_at "hp"); walk_at "nin")
  | (apply upd_oth2; (focus walk_at "hp"); walk_at "ne"))
local macro_rules | `(tactic| walk_at "sqt") => `(tactic| with_reducible first
  | assumption
  | (apply SqT.of; assumption)
  | (apply Ex.sqT; (focus with_reducible assumption); walk_at "sqt")
  | exact SqT.of_new
  | (apply sqt_new; (focus with_reducible assumption); walk_at "sqt")
  | (apply sqt_put; (focus walk_at "hp"); (focus with_unfolding_all exact rfl); walk_at "sqt"))
local macro_rules | `(tactic| walk_at "sql") => `(tactic| with_reducible first
  | assumption
  | (apply SqL.of; walk_at "hp"))
local macro_rules | `(tactic| walk_at "rep") => `(tactic| with_reducible first
  | assumption
  | exact Rep.non
  | exact Rep.bl _
  | exact Rep.int _
  | (apply Rep.str; walk_at "sz")
  | (apply Rep.tup; (focus walk_at "sqt"); walk_at "repl")
  | (apply Ex.rep; (focus with_reducible assumption); walk_at "rep")
  | (apply rep_new; (focus with_reducible assumption); walk_at "rep")
  | (apply rep_put; (focus walk_at "hp"); (focus with_unfolding_all exact rfl); walk_at "rep")
  | (apply Rep.oth_l; walk_at "hp")
  | (apply Rep.oth_d; walk_at "hp"))
local macro_rules | `(tactic| walk_at "repl") => `(tactic| with_reducible first
  | assumption
  | exact RepL.nil
  | (apply RepL.cons; (focus walk_at "rep"); walk_at "repl")
  | (apply RepL.rep; walk_at "repl")
  | (apply RepL.append; (focus walk_at "repl"); walk_at "repl")
  | (apply Ex.repL; (focus with_reducible assumption); walk_at "repl")
  | (apply repl_new; (focus with_reducible assumption); walk_at "repl")
  | (apply repl_put; (focus walk_at "hp"); (focus with_unfolding_all exact rfl); walk_at "repl"))
/-- what is new is new ahead -/
local macro_rules | `(tactic| walk_at "dom") => `(tactic| with_reducible first
  | exact Dom.refl _
  | (apply Dom.step; (focus with_reducible assumption); walk_at "dom")
  | (apply Dom.upd; walk_at "dom"))
local macro_rules | `(tactic| walk_at "nn") => `(tactic| with_reducible first
  | assumption
  | (apply Dom.none; (focus with_reducible assumption); walk_at "dom"))
local macro_rules | `(tactic| walk_at "side") => `(tactic| first
  | exact side0
  | (apply side1; first | (apply Or.inl; simp; done) | (apply Or.inr; walk_at "nn")))
/-- one heap behind another -/
local macro_rules | `(tactic| walk_at "ex") => `(tactic| first
  | (with_reducible exact Ex.refl _ _)
  | assumption
  | (with_reducible apply Ex.step; (focus with_reducible assumption); (focus walk_at "side"); walk_at "ex")
  | (with_reducible apply Ex.stepNew; (focus with_reducible assumption); walk_at "ex")
  | (with_reducible apply Ex.stepPut; (focus walk_at "hp"); (focus with_unfolding_all exact rfl); (focus first | (apply Or.inl; simp; done) | (apply Or.inr; walk_at "nn")); walk_at "ex"))
local macro_rules | `(tactic| walk_at "lenx") => `(tactic| first
  | (apply LenX.lst; walk_at "sql")
  | (apply LenX.tup; walk_at "sqt")
  | (apply LenX.str; walk_at "sz"))
local macro_rules | `(tactic| walk_at "sz") => `(tactic| first
  | exact Nat.le_of_ble_eq_true rfl
  | assumption
  | omega
  | (show _ ≤ 16777216; omega)
  | (show _ < 16777216; omega)
  | (show _ ≤ 16777216; simp only [List.length_append, List.length_cons, List.length_nil, List.length_map, flat_len, repS_len, strapp_len]; omega)
  | (show _ ≤ 16777216; decide)
  | (simp only [repS_len, strapp_len]; first | exact Nat.le_of_ble_eq_true rfl | omega | (simp (config := { decide := true }) only []; omega)))
local macro_rules | `(tactic| walk_at "kvs") => `(tactic| with_reducible first
  | exact kvs_nil
  | (apply kvs_ci; walk_at "kvs")
  | (apply kvs_cs; walk_at "kvs"))
/-- one of the facts that a reading asks -/
local macro_rules | `(tactic| walk_at "fact") => `(tactic| first
  | rfl
  | with_reducible assumption
  | walk_at "hp"
  | walk_at "sqt"
  | walk_at "sql"
  | walk_at "rep"
  | walk_at "repl"
  | walk_at "lenx"
  | walk_at "kvs"
  | (apply tyL; walk_at "sql")
  | (apply Exists.intro; walk_at "sqt")
  | (apply Exists.intro; walk_at "sql")
  | (apply cmul_r; (focus decide); decide)
  | (apply cmul_l; (focus omega); omega)
  | (apply cdivw; (focus first | decide | omega); first | decide | omega)
  | decide
  | omega
  | (show (0 : Int) < _; omega)
  | walk_at "sz"
  | walk_at "fact2")
local macro_rules | `(tactic| walk_at "facts") => `(tactic| first
  | (apply And.intro; (focus walk_at "fact"); walk_at "facts")
  | walk_at "fact")
local macro_rules | `(tactic| walk_at "exs") => `(tactic| repeat (apply Exists.intro))
/-- one part of a reading -/
local macro_rules | `(tactic| walk_at "rd1") => `(tactic| first
  | (apply Exists.intro; walk_at "exs"; (apply And.intro; focus walk_at "facts"))
  | (apply And.intro; focus walk_at "facts")
  | (apply Or.inl; walk_at "exs"; (apply And.intro; focus walk_at "facts"))
  | (apply Or.inr; walk_at "rd1"))
local macro_rules | `(tactic| walk_at "rd") => `(tactic| repeat (walk_at "rd1"))
local macro_rules | `(tactic| walk_at "rdi") => `(tactic| repeat (first | walk_at "rd1" | intro _))
/-- the written part by its name -/
local macro_rules | `(tactic| walk_at "nm") => `(tactic| try dsimp only [cx_nK, cx_K, List.map_cons, List.map_nil])
/-! ### what the worths' judges say -/
def isInt : Dt → Bool
  | .int _ => true
  | _ => false
def spIsInt (K : PySem.W.Frag) : Sp := fun vs H Q _ => ∃ v d, (vs = [v] ∧ Rep K H v d) ∧ Q (.bl (isInt d)) H
-- @SP is_integer (spIsInt K)
-- @SP is_plain_worth (spPlain K)
def plainW : Dt → Bool
  | .non => true
  | .int i => decide (-(10 ^ 30) ≤ i) && decide (i ≤ 10 ^ 30)
  | .str s => decide (s.length ≤ 40) && s.cps.toList.all signOk
  | _ => false
def spPlain (K : PySem.W.Frag) : Sp := fun vs H Q _ => ∃ v d, (vs = [v] ∧ Rep K H v d) ∧ ∀ H', Ex [] H H' → Q (.bl (plainW d)) H'
section
variable {P : Program} {w : World} {K : PySem.W.Frag} {mg : Str → Option Value} {base : Heap}
theorem ok_is_integer {f : Addr} {fd : FuncData} (F : Fun K "is_integer" "is_integer" s_is_integer f fd) (T : Txt K mg)  : FnOk P w K mg base CX0 1 f fd ["thing"] (spIsInt K) := by
  refine F.ok sc_is_integer (fun vs H Q E h => ?_) (fun cdv A outer s H vs Q E hr h => ?_)
  · obtain ⟨v, d, ⟨rfl, _⟩, _⟩ := h
    rfl
  · obtain ⟨v, d, ⟨rfl, r⟩, k⟩ := h
    refine ⟨_, (pss_one (ps_ret (pe_and (pe_callB (cIs (K := K) rfl) (by rfl) T.b_isinstance bt_isinstance (pa_cons (pv 0) (pa_cons (pe_bltn (v := .ty "int") (by rfl) T.b_int bt_int rfl) pa_nil))) (pe_one (pe_not (pe_callB (cIs (K := K) rfl) (by rfl) T.b_isinstance bt_isinstance (pa_cons (pv 0) (pa_cons (pe_bltn (v := .ty "bool") (by rfl) T.b_bool bt_bool rfl) pa_nil)))))))), ?_⟩
    walk_at "nm"
    have r0 := r
    cases r <;> walk_at "rd"
    all_goals exact k
theorem ok_is_plain_worth {f : Addr} {fd : FuncData} (F : Fun K "is_plain_worth" "is_plain_worth" s_is_plain_worth f fd) (T : Txt K mg) (C_is_integer : Cl P w K mg base 1 "is_integer" (spIsInt K)) : FnOk P w K mg base CX0 2 f fd ["thing"] (spPlain K) := by
  refine F.ok sc_is_plain_worth (fun vs H Q E h => ?_) (fun cdv A outer s H vs Q E hr h => ?_)
  · obtain ⟨v, d, ⟨rfl, _⟩, _⟩ := h
    rfl
  · obtain ⟨v, d, ⟨rfl, r⟩, k⟩ := h
    refine ⟨_, (pss_cons (ps_if (pt_cmpR op_isN (pv 0) pe_non (nomark _)) (pss_one (ps_ret pe_bl)) pss_nil) (pss_cons (ps_if (pt_val (pe_cl C_is_integer hr (by decide) (by rfl) (pa_cons (pv 0) pa_nil))) (pss_one (ps_ret (pe_chain oLe oLe (pe_un oNeg (C8.pe_gc (by rfl) T.c_MOST)) (pv 0) (C8.pe_gc (by rfl) T.c_MOST)))) pss_nil) (pss_one (ps_ret (pe_and (pe_callB (cIs (K := K) rfl) (by rfl) T.b_isinstance bt_isinstance (pa_cons (pv 0) (pa_cons (pe_bltn (v := .ty "str") (by rfl) T.b_str bt_str rfl) pa_nil))) (pe_and (pe_cmpR oLe (pe_callB (cLen (K := K) rfl) (by rfl) T.b_len bt_len (pa_cons (pv 0) pa_nil)) (C8.pe_gc (by rfl) T.c_MOST_SIGNS) (nomark _)) (pe_one (pe_callB (cAll (K := K) rfl rfl) (by rfl) T.b_all bt_all (pa_cons (pe_lc (own := [("sign", 1)]) (g := gName 1) (tt := tYes) rfl sc_is_plain_worth.nd (pi_str (pv 0)) (blkOk_by (N := n_is_plain_worth) (sc := defScope s_is_plain_worth) (by decide +kernel)) (fun _ _ _ _ _ => (pg_name (i := 1) sc_is_plain_worth.nd rfl (Or.inl rfl))) (fun _ _ _ _ _ => pts_nil) (fun _ _ _ _ _ => (pe_chain oLe oLe pe_str (pv 1) pe_str))) pa_nil))))))))), ?_⟩
    walk_at "nm"
    have r0 := r
    cases r with
    | non => walk_at "rd"; exact k _ (Ex.refl _ _)
    | bl b => walk_at "rd"; exact k _ (Ex.refl _ _)
    | tup h1 h2 => walk_at "rd"; exact k _ (Ex.refl _ _)
    | oth h1 => walk_at "rd"; exact k _ (Ex.refl _ _)
    | int i =>
      walk_at "rd"
      refine ite2 (fun h1 => ?_) (fun h1 => ?_)
      · walk_at "rd"
        have e : plainW (.int i) = decide (i ≤ 10 ^ 30) := by
          simp only [plainW]
          rw [show decide (-(10 ^ 30 : Int) ≤ i) = true from h1, Bool.true_and]
        rw [e] at k
        exact k _ (Ex.refl _ _)
      · have e : plainW (.int i) = false := by
          simp only [plainW]
          rw [show decide (-(10 ^ 30 : Int) ≤ i) = false from Bool.eq_false_iff.mpr h1, Bool.false_and]
        rw [e] at k
        exact k _ (Ex.refl _ _)
    | str z hz =>
      walk_at "rd"
      refine ite2 (fun h1 => ?_) (fun h1 => ?_)
      · have h2 : z.length ≤ 40 := by
          have := of_decide_eq_true h1
          omega
        refine all_signs (z := z) (a := 32) (b := 126) rfl (by show 1 < 2; decide) (by decide +kernel) (by decide +kernel) (by omega) fun H' e => ?_
        have e2 : plainW (.str z) = z.cps.toList.all fun c => decide (32 ≤ c) && decide (c ≤ 126) := by
          show (decide (z.length ≤ 40) && _) = _
          rw [decide_eq_true h2, Bool.true_and]
          rfl
        rw [e2] at k
        exact k _ e
      · have e2 : plainW (.str z) = false := by
          have h2 : ¬ z.length ≤ 40 := fun q => h1 (decide_eq_true (by omega))
          show (decide (z.length ≤ 40) && _) = _
          rw [decide_eq_false h2, Bool.false_and]
        rw [e2] at k
        exact k _ (Ex.refl _ _)
end
-- @SP is_integer (spIsInt K)
-- @SP is_plain_worth (spPlain K)
-- @SP is_worth (spWorth K)
def wl : Nat → List (Dt × Int) → Bool
  | _, [] => true
  | 0, _ :: _ => false
  | f + 1, (d, k) :: s => if 8 < k then false else match d with
    | .tup l => if 50 < l.length then false else wl f ((l.map fun x => (x, k + 1)).reverse ++ s)
    | d => if plainW d then wl f s else false
def isWorth (d : Dt) : Bool := wl 200 [(d, 1)]
def enc (p : Dt × Int) : Dt := .tup [p.1, .int p.2]
def spWorth (K : PySem.W.Frag) : Sp := fun vs H Q _ => ∃ v d, (vs = [v] ∧ Rep K H v d) ∧ ∀ H', Ex [] H H' → Q (.bl (isWorth d)) H'
theorem rep_tup2 {K : PySem.W.Frag} {H : Hp} {y : V} {d : Dt} {k : Int} (r : Rep K H y (enc (d, k))) : ∃ a x, y = .ref a ∧ SqT K H a [x, .int k] ∧ Rep K H x d := by
  cases r with
  | tup h hl =>
    cases hl with
    | cons h1 t =>
      cases t with
      | cons h2 t =>
        cases t
        cases h2
        exact ⟨_, _, rfl, h, h1⟩
theorem wl_tup {m : Nat} {l : List Dt} {k : Int} {s : List (Dt × Int)} (h : ¬ 8 < k) : wl (m + 1) ((.tup l, k) :: s) = if 50 < l.length then false else wl m ((l.map fun x => (x, k + 1)).reverse ++ s) := by
  rw [wl, if_neg h]
theorem wl_flat {m : Nat} {d : Dt} {k : Int} {s : List (Dt × Int)} (h : ¬ 8 < k) (hd : ∀ l, d ≠ .tup l) : wl (m + 1) ((d, k) :: s) = if plainW d then wl m s else false := by
  cases d with
  | tup l => exact absurd rfl (hd l)
  | _ =>
    rw [wl, if_neg h]
    exact fun l q => hd l q
/-- what holds at the loop of a judge: v is asked, it is d; the stack lies at ro -/
def wInv (K : PySem.W.Frag) (v : V) (d : Dt) (ro : Addr) (H0 : Hp) (n : Nat) (m : Nat) (σ : L2.St) (H' : Hp) : Prop :=
  ∃ (st : List (Dt × Int)) (many : Int) (vs : List V) (tl : List (Option V)), σ = some v :: some (.ref ro) :: some (.int many) :: tl ∧ tl.length = n ∧ Ex [] H0 H' ∧ H' ro = some (.lst vs) ∧
    RepL K H' vs (st.map enc).reverse ∧ 0 ≤ many ∧ many ≤ 200 ∧ m = (200 - many).toNat ∧ wl m st = isWorth d ∧ (st.length : Int) ≤ 1 + 50 * many
theorem wInv.start {K : PySem.W.Frag} {v : V} {d : Dt} {q ro : Addr} {H Ha Hb : Hp} (r : Rep K H v d) (h1 : Ha q = some (.tup [v, .int 1])) (e1 : Ex [] H Ha) (h2 : Hb ro = some (.lst [.ref q])) (e2 : Ex [] Ha Hb) {tl : List (Option V)} :
    wInv K v d ro H tl.length 200 (some v :: some (.ref ro) :: some (.int 0) :: tl) Hb := by
  refine ⟨[(d, 1)], 0, [.ref q], tl, rfl, rfl, by walk_at "ex", h2, ?_, by decide, by decide, rfl, rfl, by simp⟩
  have rp : Rep K Ha (.ref q) (enc (d, 1)) := by
    unfold enc
    walk_at "rep"
  exact .cons (e2.rep rp) .nil
theorem wInv.step {K : PySem.W.Frag} {v : V} {d : Dt} {ro : Addr} {H H3 : Hp} {m1 : Nat} {many : Int} {tl : List (Option V)} {ds : List V} {st : List (Dt × Int)} (e : Ex [] H H3) (hl : H3 ro = some (.lst ds)) (hr : RepL K H3 ds (st.map enc).reverse)
    (h0 : 0 ≤ many) (h1 : ¬ 200 < many + 1) (hm : m1 + 1 = (200 - many).toNat) (hw : wl m1 st = isWorth d) (hz : (st.length : Int) ≤ 50 * many + 50) :
    ∃ m', m' < m1 + 1 ∧ wInv K v d ro H tl.length m' (some v :: some (.ref ro) :: some (.int (many + 1)) :: tl) H3 :=
  ⟨m1, by omega, st, many + 1, ds, tl, rfl, rfl, e, hl, hr, by omega, by omega, by omega, hw, by omega⟩
section
variable {P : Program} {w : World} {K : PySem.W.Frag} {mg : Str → Option Value} {base : Heap}
theorem ok_is_worth {f : Addr} {fd : FuncData} (F : Fun K "is_worth" "is_worth" s_is_worth f fd) (T : Txt K mg) (C_is_plain_worth : Cl P w K mg base 2 "is_plain_worth" (spPlain K)) : FnOk P w K mg base CX0 3 f fd ["thing"] (spWorth K) := by
  refine F.ok sc_is_worth (fun vs H Q E h => ?_) (fun cdv A outer s H vs Q E hr h => ?_)
  · obtain ⟨v, d, ⟨rfl, _⟩, _⟩ := h
    rfl
  · obtain ⟨v, d, ⟨rfl, r⟩, k⟩ := h
    refine ⟨_, (pss_cons (ps_par (i := 1) (j := 2) rfl sc_is_worth.nd rfl rfl (by decide) rfl rfl (pa_cons (peLst (pa_cons (peTup (pa_cons (pv 0) (pa_cons pe_int pa_nil))) pa_nil)) (pa_cons pe_int pa_nil)) (by rfl)) (pss_cons (ps_while PassesOwn.never (pt_cmpR oGt (pe_callB (cLen (K := K) rfl) (by rfl) T.b_len bt_len (pa_cons (pv 1) pa_nil)) pe_int (nomark _)) (pss_cons (ps_asg (pe_bm0 PySem.F.plainAttrs_list PySem.F.slot_list_pop PySem.F.type_list_pop mPop (pv 1)) (pg_tup (by rfl) (pgs_cons (pg_name (i := 3) sc_is_worth.nd rfl (Or.inl rfl)) (pgs_cons (pg_name (i := 4) sc_is_worth.nd rfl (Or.inr rfl)) pgs_nil)))) (pss_cons (ps_aug (i := 2) sc_is_worth.nd rfl (Or.inl rfl) pe_int pAdd) (pss_cons (ps_if (PW.pt (pw_or (pt_cmpR oGt (pv 2) (C8.pe_gc (by rfl) T.c_MOST_WORTHS) (nomark _)) (pw_or1 (pt_cmpR oGt (pv 4) (C8.pe_gc (by rfl) T.c_MOST_DEEP) (nomark _))))) (pss_one (ps_ret pe_bl)) pss_nil) (pss_one (ps_if (pt_val (pe_callB (cIs (K := K) rfl) (by rfl) T.b_isinstance bt_isinstance (pa_cons (pv 3) (pa_cons (pe_bltn (v := .ty "tuple") (by rfl) T.b_tuple bt_tuple rfl) pa_nil)))) (pss_cons (ps_if (pt_cmpR oGt (pe_callB (cLen (K := K) rfl) (by rfl) T.b_len bt_len (pa_cons (pv 3) pa_nil)) (C8.pe_gc (by rfl) T.c_MOST_ITEMS) (nomark _)) (pss_one (ps_ret pe_bl)) pss_nil) (pss_one (ps_expr (pe_bm PySem.F.plainAttrs_list PySem.F.slot_list_extend PySem.F.type_list_extend mExtend (pv 1) (pa_cons (pe_lc (own := [("item", 5)]) (g := gName 5) (tt := tYes) rfl sc_is_worth.nd (pi_tup (pv 3)) (blkOk_by (N := n_is_worth) (sc := defScope s_is_worth) (by decide +kernel)) (fun _ _ _ _ _ => (pg_name (i := 5) sc_is_worth.nd rfl (Or.inl rfl))) (fun _ _ _ _ _ => pts_nil) (fun _ _ _ _ _ => (peTup (pa_cons (pv 5) (pa_cons (pe_op (oAdd (K := K) rfl) (pv 4) pe_int) pa_nil))))) pa_nil))))) (pss_one (ps_if (pt_not (pt_val (pe_cl C_is_plain_worth hr (by decide) (by rfl) (pa_cons (pv 3) pa_nil)))) (pss_one (ps_ret pe_bl)) pss_nil)))))))) (pss_one (ps_ret pe_bl)))), ?_⟩
    walk_at "nm"
    walk_at "rd"
    intro q Ha hq hqa ea
    walk_at "rd"
    intro ro Hb hro hrob eb
    walk_at "rd"
    have hroH : H ro = none := by walk_at "nn"
    have kf : isWorth d = false → ∀ H', Ex [] H H' → Q (.bl false) H' := fun z H' e => by rw [← z]; exact k H' e
    refine while_w (wInv K v d ro H 3) 200 (wInv.start r hqa ea hrob eb (tl := [none, none, none])) ?_
    rintro m σ H1 ⟨st, many, vs, tl, rfl, htl, e1, hl, hs, hm0, hm2, hm, hw, hz⟩
    match tl, htl with
    | [o1, o2, o3], _ =>
    have hlen : vs.length = st.length := by rw [hs.length, List.length_reverse, List.length_map]
    walk_at "rd"
    refine @ite2 _ _ _ _ (fun h1 => ?_) (fun h1 => ?_)
    · refine ⟨_, fun _ _ z => z, ?_⟩
      cases st with
      | nil =>
        rw [hlen] at h1
        simp at h1
      | cons p st =>
        obtain ⟨d1, k1⟩ := p
        rw [List.map_cons, List.reverse_cons] at hs
        obtain ⟨ws, y, rfl, hs1, hy⟩ := hs.snoc
        obtain ⟨a, x, rfl, ha, hx⟩ := rep_tup2 hy
        walk_at "rd"
        intro H2 hl2 e12
        walk_at "rd"
        refine @ite2 _ _ _ _ (fun c1 => ?_) (fun c1 => ?_)
        · refine kf ?_ _ (by walk_at "ex")
          replace c1 : 200 < many + 1 := of_decide_eq_true c1
          have m0 : m = 0 := by omega
          rw [← hw, m0]
          rfl
        · replace c1 : ¬ 200 < many + 1 := fun z => c1 (decide_eq_true z)
          obtain ⟨m1, rfl⟩ : ∃ m1, m = m1 + 1 := ⟨m - 1, by omega⟩
          walk_at "rd"
          refine @ite2 _ _ _ _ (fun c2 => ?_) (fun c2 => ?_)
          · refine kf ?_ _ (by walk_at "ex")
            rw [← hw]
            replace c2 : 8 < k1 := of_decide_eq_true c2
            simp [wl, c2]
          · replace c2 : ¬ 8 < k1 := fun z => c2 (decide_eq_true z)
            have hz' : (st.length : Int) ≤ 50 * many := by
              rw [List.length_cons] at hz
              omega
            have hs2 : RepL K H2 ws (st.map enc).reverse := e12.repL hs1
            have hx2 : Rep K H2 x d1 := e12.rep hx
            have flat : (∀ l, d1 ≠ .tup l) → plainW d1 = true → ∀ H3, Ex [] H2 H3 → ∀ o1 o2 o3, ∃ m', m' < m1 + 1 ∧ wInv K v d ro H 3 m' [some v, some (.ref ro), some (.int (many + 1)), o1, o2, o3] H3 := fun h1 h2 H3 e3 o1 o2 o3 =>
              wInv.step (tl := [o1, o2, o3]) (by walk_at "ex") (e3.get0 hl2) (e3.repL hs2) hm0 c1 hm (by rw [← hw, wl_flat c2 h1, h2]; rfl) (by omega)
            have bad : (∀ l, d1 ≠ .tup l) → ¬ plainW d1 = true → isWorth d = false := fun h1 h2 => by rw [← hw, wl_flat c2 h1, if_neg h2]
            have hx3 := hx2
            cases hx2 with
            | tup h3 h4 =>
              walk_at "rd"
              refine @ite2 _ _ _ _ (fun c3 => ?_) (fun c3 => ?_)
              · refine kf ?_ _ (by walk_at "ex")
                have c4 := h4.length
                replace c3 : 50 < ((_ : Nat) : Int) := of_decide_eq_true c3
                rw [← hw, wl_tup c2, if_pos (by omega)]
              · rename_i a2 xs2 l2
                have c4 := h4.length
                replace c3 : ¬ 50 < ((xs2.length : Nat) : Int) := fun z => c3 (decide_eq_true z)
                walk_at "rd"
                intro D hD
                refine lc_it (walk_tup (xs := xs2)) (LcP D [] (fun _ => True) (RepAt K (l2.map fun x => enc (x, k1 + 1))) H2) (LcP.start hD trivial (true_loc D)) (fun i H h p => p.ex.sqT h3) ?_ ?_
                · rintro i x H3 H4 hi p ⟨rfl, hx4⟩
                  obtain ⟨dx, hdx, rx⟩ := h4.get hx4
                  have rx' := p.ex.rep rx
                  walk_at "rd"
                  intro t H5 ht ht5 e5
                  have rt : Rep K H5 (.ref t) (enc (dx, k1 + 1)) := by
                    unfold enc
                    walk_at "rep"
                  exact p.step hD RepAt.stab (true_loc D) e5 trivial trivial ⟨_, by rw [List.getElem?_map, hdx]; rfl, rt⟩ hi (by omega)
                · intro H3 p
                  obtain ⟨ys, h5, h6⟩ := p.done (by rw [List.length_map, c4])
                  have e3 : Ex [] H2 H3 := p.ex
                  have h7 := h6.length
                  rw [List.length_map] at h7
                  have h8 := hs2.length
                  rw [List.length_reverse, List.length_map] at h8
                  skip
                  walk_at "rd"
                  intro H4 h9 e4
                  refine wInv.step (tl := [some (.ref a2), some (.int k1), o3]) (st := (l2.map fun x => (x, k1 + 1)).reverse ++ st) (by walk_at "ex") h9 ?_ hm0 c1 hm ?_ ?_
                  · rw [List.map_append, List.reverse_append, List.map_reverse, List.reverse_reverse, List.map_map]
                    exact e4.repL ((e3.repL hs2).append h6)
                  · rw [← hw, wl_tup c2, if_neg (by omega)]
                  · rw [List.length_append, List.length_reverse, List.length_map]
                    omega
            | non =>
              walk_at "rd"
              intro H3 e3
              walk_at "rd"
              refine @ite2 _ _ _ _ (fun c3 => ?_) (fun c3 => ?_)
              · exact kf (bad (fun _ z => nomatch z) (by simpa using c3)) _ (by walk_at "ex")
              · exact flat (fun _ z => nomatch z) (by simpa using c3) _ e3 _ _ _
            | bl b =>
              walk_at "rd"
              intro H3 e3
              walk_at "rd"
              refine @ite2 _ _ _ _ (fun c3 => ?_) (fun c3 => ?_)
              · exact kf (bad (fun _ z => nomatch z) (by simpa using c3)) _ (by walk_at "ex")
              · exact flat (fun _ z => nomatch z) (by simpa using c3) _ e3 _ _ _
            | int i =>
              walk_at "rd"
              intro H3 e3
              walk_at "rd"
              refine @ite2 _ _ _ _ (fun c3 => ?_) (fun c3 => ?_)
              · exact kf (bad (fun _ z => nomatch z) (by simpa using c3)) _ (by walk_at "ex")
              · exact flat (fun _ z => nomatch z) (by simpa using c3) _ e3 _ _ _
            | str z hz =>
              walk_at "rd"
              intro H3 e3
              walk_at "rd"
              refine @ite2 _ _ _ _ (fun c3 => ?_) (fun c3 => ?_)
              · exact kf (bad (fun _ z => nomatch z) (by simpa using c3)) _ (by walk_at "ex")
              · exact flat (fun _ z => nomatch z) (by simpa using c3) _ e3 _ _ _
            | oth h =>
              walk_at "rd"
              intro H3 e3
              walk_at "rd"
              refine @ite2 _ _ _ _ (fun c3 => ?_) (fun c3 => ?_)
              · exact kf (bad (fun _ z => nomatch z) (by simpa using c3)) _ (by walk_at "ex")
              · exact flat (fun _ z => nomatch z) (by simpa using c3) _ e3 _ _ _
    · cases st with
      | nil =>
        have hv : isWorth d = true := by
          rw [← hw]
          cases m <;> rfl
        rw [hv] at k
        exact k _ e1
      | cons p st =>
        exact absurd (decide_eq_true (by rw [hlen, List.length_cons]; omega)) h1
end
-- @SP _law_is_int (spIsInt K)
-- @SP _law_is_worth (spWorth K)
section
variable {P : Program} {w : World} {K : PySem.W.Frag} {mg : Str → Option Value} {base : Heap}
theorem ok_law_is_int {f : Addr} {fd : FuncData} (F : Fun K "_law_is_int" "_law_is_int" s_law_is_int f fd) (T : Txt K mg)  : FnOk P w K mg base CX0 1 f fd ["thing"] (spIsInt K) := by
  refine F.ok sc_law_is_int (fun vs H Q E h => ?_) (fun cdv A outer s H vs Q E hr h => ?_)
  · obtain ⟨v, d, ⟨rfl, _⟩, _⟩ := h
    rfl
  · obtain ⟨v, d, ⟨rfl, r⟩, k⟩ := h
    refine ⟨_, (pss_one (ps_ret (pe_and (pe_callB (cIs (K := K) rfl) (by rfl) T.b_isinstance bt_isinstance (pa_cons (pv 0) (pa_cons (pe_bltn (v := .ty "int") (by rfl) T.b_int bt_int rfl) pa_nil))) (pe_one (pe_not (pe_callB (cIs (K := K) rfl) (by rfl) T.b_isinstance bt_isinstance (pa_cons (pv 0) (pa_cons (pe_bltn (v := .ty "bool") (by rfl) T.b_bool bt_bool rfl) pa_nil)))))))), ?_⟩
    walk_at "nm"
    have r0 := r
    cases r <;> walk_at "rd"
    all_goals exact k
theorem ok_law_is_worth {f : Addr} {fd : FuncData} (F : Fun K "_law_is_worth" "_law_is_worth" s_law_is_worth f fd) (T : Txt K mg) (C_law_is_int : Cl P w K mg base 1 "_law_is_int" (spIsInt K)) : FnOk P w K mg base CX0 2 f fd ["thing"] (spWorth K) := by
  refine F.ok sc_law_is_worth (fun vs H Q E h => ?_) (fun cdv A outer s H vs Q E hr h => ?_)
  · obtain ⟨v, d, ⟨rfl, _⟩, _⟩ := h
    rfl
  · obtain ⟨v, d, ⟨rfl, r⟩, k⟩ := h
    refine ⟨_, (pss_cons (ps_par (i := 1) (j := 2) rfl sc_law_is_worth.nd rfl rfl (by decide) rfl rfl (pa_cons (peLst (pa_cons (peTup (pa_cons (pv 0) (pa_cons pe_int pa_nil))) pa_nil)) (pa_cons pe_int pa_nil)) (by rfl)) (pss_cons (ps_while PassesOwn.never (pt_cmpR oGt (pe_callB (cLen (K := K) rfl) (by rfl) T.b_len bt_len (pa_cons (pv 1) pa_nil)) pe_int (nomark _)) (pss_cons (ps_asg (pe_bm0 PySem.F.plainAttrs_list PySem.F.slot_list_pop PySem.F.type_list_pop mPop (pv 1)) (pg_tup (by rfl) (pgs_cons (pg_name (i := 3) sc_law_is_worth.nd rfl (Or.inl rfl)) (pgs_cons (pg_name (i := 4) sc_law_is_worth.nd rfl (Or.inr rfl)) pgs_nil)))) (pss_cons (ps_set (i := 2) sc_law_is_worth.nd rfl (Or.inl rfl) (pe_op (oAdd (K := K) rfl) (pv 2) pe_int)) (pss_cons (ps_if (PW.pt (pw_or (pt_cmpR oGt (pv 2) pe_int (nomark _)) (pw_or1 (pt_cmpR oGt (pv 4) pe_int (nomark _))))) (pss_one (ps_ret pe_bl)) pss_nil) (pss_one (ps_if (pt_val (pe_callB (cIs (K := K) rfl) (by rfl) T.b_isinstance bt_isinstance (pa_cons (pv 3) (pa_cons (pe_bltn (v := .ty "tuple") (by rfl) T.b_tuple bt_tuple rfl) pa_nil)))) (pss_cons (ps_if (pt_cmpR oGt (pe_callB (cLen (K := K) rfl) (by rfl) T.b_len bt_len (pa_cons (pv 3) pa_nil)) pe_int (nomark _)) (pss_one (ps_ret pe_bl)) pss_nil) (pss_one (ps_expr (pe_bm PySem.F.plainAttrs_list PySem.F.slot_list_extend PySem.F.type_list_extend mExtend (pv 1) (pa_cons (pe_lc (own := [("item", 5)]) (g := gName 5) (tt := tYes) rfl sc_law_is_worth.nd (pi_tup (pv 3)) (blkOk_by (N := n_law_is_worth) (sc := defScope s_law_is_worth) (by decide +kernel)) (fun _ _ _ _ _ => (pg_name (i := 5) sc_law_is_worth.nd rfl (Or.inl rfl))) (fun _ _ _ _ _ => pts_nil) (fun _ _ _ _ _ => (peTup (pa_cons (pv 5) (pa_cons (pe_op (oAdd (K := K) rfl) (pv 4) pe_int) pa_nil))))) pa_nil))))) (pss_one (ps_if (pt_val (pe_callB (cIs (K := K) rfl) (by rfl) T.b_isinstance bt_isinstance (pa_cons (pv 3) (pa_cons (pe_bltn (v := .ty "str") (by rfl) T.b_str bt_str rfl) pa_nil)))) (pss_one (ps_if (PW.pt (pw_or (pt_cmpR oGt (pe_callB (cLen (K := K) rfl) (by rfl) T.b_len bt_len (pa_cons (pv 3) pa_nil)) pe_int (nomark _)) (pw_or1 (pt_not (pt_val (pe_callB (cAll (K := K) rfl rfl) (by rfl) T.b_all bt_all (pa_cons (pe_lc (own := [("sign", 6)]) (g := gName 6) (tt := tYes) rfl sc_law_is_worth.nd (pi_str (pv 3)) (blkOk_by (N := n_law_is_worth) (sc := defScope s_law_is_worth) (by decide +kernel)) (fun _ _ _ _ _ => (pg_name (i := 6) sc_law_is_worth.nd rfl (Or.inl rfl))) (fun _ _ _ _ _ => pts_nil) (fun _ _ _ _ _ => (pe_chain oLe oLe pe_str (pv 6) pe_str))) pa_nil))))))) (pss_one (ps_ret pe_bl)) pss_nil)) (pss_one (ps_if (PW.pt (pw_and (pt_cmpR op_notN (pv 3) pe_non (nomark _)) (pw_and1 (pt_not (PW.pt (pw_and (pt_val (pe_cl C_law_is_int hr (by decide) (by rfl) (pa_cons (pv 3) pa_nil))) (pw_and1 (pt_cmpR oLe (pe_callB cAbs (by rfl) T.b_abs bt_abs (pa_cons (pv 3) pa_nil)) (pe_op oPow pe_int pe_int) (nomark _))))))))) (pss_one (ps_ret pe_bl)) pss_nil)))))))))) (pss_one (ps_ret pe_bl)))), ?_⟩
    walk_at "nm"
    walk_at "rd"
    intro q Ha hq hqa ea
    walk_at "rd"
    intro ro Hb hro hrob eb
    walk_at "rd"
    have hroH : H ro = none := by walk_at "nn"
    have kf : isWorth d = false → ∀ H', Ex [] H H' → Q (.bl false) H' := fun z H' e => by rw [← z]; exact k H' e
    refine while_w (wInv K v d ro H 4) 200 (wInv.start r hqa ea hrob eb (tl := [none, none, none, none])) ?_
    rintro m σ H1 ⟨st, many, vs, tl, rfl, htl, e1, hl, hs, hm0, hm2, hm, hw, hz⟩
    match tl, htl with
    | [o1, o2, o3, o4], _ =>
    have hlen : vs.length = st.length := by rw [hs.length, List.length_reverse, List.length_map]
    walk_at "rd"
    refine @ite2 _ _ _ _ (fun h1 => ?_) (fun h1 => ?_)
    · refine ⟨_, fun _ _ z => z, ?_⟩
      cases st with
      | nil =>
        rw [hlen] at h1
        simp at h1
      | cons p st =>
        obtain ⟨d1, k1⟩ := p
        rw [List.map_cons, List.reverse_cons] at hs
        obtain ⟨ws, y, rfl, hs1, hy⟩ := hs.snoc
        obtain ⟨a, x, rfl, ha, hx⟩ := rep_tup2 hy
        walk_at "rd"
        intro H2 hl2 e12
        walk_at "rd"
        refine @ite2 _ _ _ _ (fun c1 => ?_) (fun c1 => ?_)
        · refine kf ?_ _ (by walk_at "ex")
          replace c1 : 200 < many + 1 := of_decide_eq_true c1
          have m0 : m = 0 := by omega
          rw [← hw, m0]
          rfl
        · replace c1 : ¬ 200 < many + 1 := fun z => c1 (decide_eq_true z)
          obtain ⟨m1, rfl⟩ : ∃ m1, m = m1 + 1 := ⟨m - 1, by omega⟩
          walk_at "rd"
          refine @ite2 _ _ _ _ (fun c2 => ?_) (fun c2 => ?_)
          · refine kf ?_ _ (by walk_at "ex")
            rw [← hw]
            replace c2 : 8 < k1 := of_decide_eq_true c2
            simp [wl, c2]
          · replace c2 : ¬ 8 < k1 := fun z => c2 (decide_eq_true z)
            have hz' : (st.length : Int) ≤ 50 * many := by
              rw [List.length_cons] at hz
              omega
            have hs2 : RepL K H2 ws (st.map enc).reverse := e12.repL hs1
            have hx2 : Rep K H2 x d1 := e12.rep hx
            have flat : (∀ l, d1 ≠ .tup l) → plainW d1 = true → ∀ H3, Ex [] H2 H3 → ∀ o1 o2 o3 o4, ∃ m', m' < m1 + 1 ∧ wInv K v d ro H 4 m' [some v, some (.ref ro), some (.int (many + 1)), o1, o2, o3, o4] H3 := fun h1 h2 H3 e3 o1 o2 o3 o4 =>
              wInv.step (tl := [o1, o2, o3, o4]) (by walk_at "ex") (e3.get0 hl2) (e3.repL hs2) hm0 c1 hm (by rw [← hw, wl_flat c2 h1, h2]; rfl) (by omega)
            have bad : (∀ l, d1 ≠ .tup l) → ¬ plainW d1 = true → isWorth d = false := fun h1 h2 => by rw [← hw, wl_flat c2 h1, if_neg h2]
            have hx3 := hx2
            cases hx2 with
            | tup h3 h4 =>
              walk_at "rd"
              refine @ite2 _ _ _ _ (fun c3 => ?_) (fun c3 => ?_)
              · refine kf ?_ _ (by walk_at "ex")
                have c4 := h4.length
                replace c3 : 50 < ((_ : Nat) : Int) := of_decide_eq_true c3
                rw [← hw, wl_tup c2, if_pos (by omega)]
              · rename_i a2 xs2 l2
                have c4 := h4.length
                replace c3 : ¬ 50 < ((xs2.length : Nat) : Int) := fun z => c3 (decide_eq_true z)
                walk_at "rd"
                intro D hD
                refine lc_it (walk_tup (xs := xs2)) (LcP D [] (fun _ => True) (RepAt K (l2.map fun x => enc (x, k1 + 1))) H2) (LcP.start hD trivial (true_loc D)) (fun i H h p => p.ex.sqT h3) ?_ ?_
                · rintro i x H3 H4 hi p ⟨rfl, hx4⟩
                  obtain ⟨dx, hdx, rx⟩ := h4.get hx4
                  have rx' := p.ex.rep rx
                  walk_at "rd"
                  intro t H5 ht ht5 e5
                  have rt : Rep K H5 (.ref t) (enc (dx, k1 + 1)) := by
                    unfold enc
                    walk_at "rep"
                  exact p.step hD RepAt.stab (true_loc D) e5 trivial trivial ⟨_, by rw [List.getElem?_map, hdx]; rfl, rt⟩ hi (by omega)
                · intro H3 p
                  obtain ⟨ys, h5, h6⟩ := p.done (by rw [List.length_map, c4])
                  have e3 : Ex [] H2 H3 := p.ex
                  have h7 := h6.length
                  rw [List.length_map] at h7
                  have h8 := hs2.length
                  rw [List.length_reverse, List.length_map] at h8
                  skip
                  walk_at "rd"
                  intro H4 h9 e4
                  refine wInv.step (tl := [some (.ref a2), some (.int k1), o3, o4]) (st := (l2.map fun x => (x, k1 + 1)).reverse ++ st) (by walk_at "ex") h9 ?_ hm0 c1 hm ?_ ?_
                  · rw [List.map_append, List.reverse_append, List.map_reverse, List.reverse_reverse, List.map_map]
                    exact e4.repL ((e3.repL hs2).append h6)
                  · rw [← hw, wl_tup c2, if_neg (by omega)]
                  · rw [List.length_append, List.length_reverse, List.length_map]
                    omega
            | non =>
              walk_at "rd"
              exact flat (fun _ z => nomatch z) rfl _ (Ex.refl _ _) _ _ _ _
            | bl b =>
              walk_at "rd"
              exact kf (bad (fun _ z => nomatch z) (fun z => nomatch z)) _ (by walk_at "ex")
            | oth h =>
              walk_at "rd"
              exact kf (bad (fun _ z => nomatch z) (fun z => nomatch z)) _ (by walk_at "ex")
            | int i =>
              have hab : (decide ((if i < 0 then -i else i) ≤ 10 ^ Int.toNat 30)) = plainW (.int i) := by
                show _ = (decide (-(10 ^ 30) ≤ i) && decide (i ≤ 10 ^ 30))
                rw [← Bool.decide_and]
                refine decide_eq_decide.mpr ?_
                show (if i < 0 then -i else i) ≤ (10 : Int) ^ 30 ↔ _
                split <;> omega
              walk_at "rd"
              rw [hab]
              refine @ite2 _ _ _ _ (fun c3 => ?_) (fun c3 => ?_)
              · exact kf (bad (fun _ z => nomatch z) (by simpa using c3)) _ (by walk_at "ex")
              · exact flat (fun _ z => nomatch z) (by simpa using c3) _ (Ex.refl _ _) _ _ _ _
            | str z hz =>
              walk_at "rd"
              refine @ite2 _ _ _ _ (fun c3 => ?_) (fun c3 => ?_)
              · replace c3 : (40 : Int) < (z.length : Nat) := of_decide_eq_true c3
                refine kf (bad (fun _ z => nomatch z) fun e => ?_) _ (by walk_at "ex")
                have e2 : decide (z.length ≤ 40) = true := (Bool.and_eq_true _ _ |>.mp e).1
                have := of_decide_eq_true e2
                omega
              · replace c3 : ¬ (40 : Int) < (z.length : Nat) := fun z => c3 (decide_eq_true z)
                refine all_signs (z := z) (a := 32) (b := 126) rfl (by show 6 < 7; decide) (by decide +kernel) (by decide +kernel) (by omega) fun H3 e3 => ?_
                have e2 : plainW (.str z) = z.cps.toList.all fun c => decide (32 ≤ c) && decide (c ≤ 126) := by
                  show (decide (z.length ≤ 40) && _) = _
                  rw [decide_eq_true (show z.length ≤ 40 by omega), Bool.true_and]
                  rfl
                rw [← e2]
                walk_at "rd"
                refine @ite2 _ _ _ _ (fun c3 => ?_) (fun c3 => ?_)
                · exact kf (bad (fun _ z => nomatch z) (by simpa using c3)) _ (by walk_at "ex")
                · exact flat (fun _ z => nomatch z) (by simpa using c3) _ e3 _ _ _ _
    · cases st with
      | nil =>
        have hv : isWorth d = true := by
          rw [← hw]
          cases m <;> rfl
        rw [hv] at k
        exact k _ e1
      | cons p st =>
        exact absurd (decide_eq_true (by rw [hlen, List.length_cons]; omega)) h1
end
/-! ### the pot that is drawn from -/
/-- a pot lies at p: its cells at c -/
def PotAt (H : Hp) (p c : Addr) : Prop := ∃ (cells : List Int) (i r s n : Int), H p = some (.lst [.ref c, .int i, .int r, .int s, .int n]) ∧ H c = some (.lst (cells.map V.int)) ∧ c ≠ p ∧
  0 ≤ i ∧ 0 ≤ r ∧ cells.length ≤ 63
theorem PotAt.new {H : Hp} {p c q : Addr} {o : HO} (h : H q = none) (t : PotAt H p c) : PotAt (upd H q o) p c := by
  obtain ⟨cells, i, r, s, n, h1, h2, h3⟩ := t
  exact ⟨cells, i, r, s, n, upd_new h h1, upd_new h h2, h3⟩
theorem PotAt.oth {H : Hp} {p c q : Addr} {o : HO} (h : q ≠ p) (h' : q ≠ c) (t : PotAt H p c) : PotAt (upd H q o) p c := by
  obtain ⟨cells, i, r, s, n, h1, h2, h3⟩ := t
  exact ⟨cells, i, r, s, n, upd_oth h.symm h1, upd_oth h'.symm h2, h3⟩
theorem PotAt.oth' {H : Hp} {p c q : Addr} {o : HO} (t : PotAt H p c) (h : q ≠ p) (h' : q ≠ c) : PotAt (upd H q o) p c := t.oth h h'
theorem PotAt.ex {M : List Addr} {H H' : Hp} {p c : Addr} (e : Ex M H H') (hp : Nin p M) (hc : Nin c M) (t : PotAt H p c) : PotAt H' p c := by
  obtain ⟨cells, i, r, s, n, h1, h2, h3⟩ := t
  exact ⟨cells, i, r, s, n, e.get h1 hp, e.get h2 hc, h3⟩
theorem PotAt.ex0 {H H' : Hp} {p c : Addr} (e : Ex [] H H') (t : PotAt H p c) : PotAt H' p c := t.ex e trivial trivial
theorem PotAt.ne {H : Hp} {p c q : Addr} (t : PotAt H p c) (h : H q = none) : q ≠ p := by
  obtain ⟨_, _, _, _, _, h1, _⟩ := t
  exact (ne_of_none h1 h).symm
theorem PotAt.nec {H : Hp} {p c q : Addr} (t : PotAt H p c) (h : H q = none) : q ≠ c := by
  obtain ⟨_, _, _, _, _, _, h1, _⟩ := t
  exact (ne_of_none h1 h).symm
theorem PotAt.ne' {H : Hp} {p c q : Addr} (h : H q = none) (t : PotAt H p c) : q ≠ p := t.ne h
theorem PotAt.nec' {H : Hp} {p c q : Addr} (h : H q = none) (t : PotAt H p c) : q ≠ c := t.nec h
local macro_rules | `(tactic| walk_at "pot") => `(tactic| with_reducible first
  | assumption
  | (apply PotAt.new; (focus with_reducible assumption); walk_at "pot")
  | (apply PotAt.ex0; (focus with_reducible assumption); walk_at "pot")
  | (apply PotAt.oth'; (focus walk_at "pot"); (focus walk_at "fact2"); walk_at "fact2"))
local macro_rules | `(tactic| walk_at "ne2") => `(tactic| first
  | (with_reducible apply PotAt.ne'; (focus with_reducible assumption); walk_at "pot")
  | (with_reducible apply PotAt.nec'; (focus with_reducible assumption); walk_at "pot"))
local macro_rules | `(tactic| walk_at "fact2") => `(tactic| first
  | walk_at "pot"
  | (with_reducible apply PotAt.ne'; (focus with_reducible assumption); walk_at "pot")
  | (with_reducible apply PotAt.nec'; (focus with_reducible assumption); walk_at "pot"))
def spDraw : Sp := fun vs H Q _ => ∃ p c many, (vs = [.ref p, .int many] ∧ PotAt H p c ∧ 0 < many ∧ many < 1000000) ∧ ∀ r H', 0 ≤ r → r < many → PotAt H' p c → Ex [p] H H' → Q (.int r) H'
-- @SP _law_draw spDraw
section
variable {P : Program} {w : World} {K : PySem.W.Frag} {mg : Str → Option Value} {base : Heap}
theorem ok_law_draw {f : Addr} {fd : FuncData} (F : Fun K "_law_draw" "_law_draw" s_law_draw f fd) (T : Txt K mg)  : FnOk P w K mg base CX0 1 f fd ["pot", "many"] spDraw := by
  refine F.ok sc_law_draw (fun vs H Q E h => ?_) (fun cdv A outer s H vs Q E hr h => ?_)
  · obtain ⟨p, c, many, ⟨rfl, _⟩, _⟩ := h
    rfl
  · obtain ⟨p, c, many, ⟨rfl, ⟨cells, i, r, sd, n, hp, hc, ncp, hi0, hr0, hcl⟩, hm0, hm1⟩, k⟩ := h
    refine ⟨_, (C8.pss_cut (ps_if (PW.pt (pw_and (pt_cmpR op_eq (pe_ix (ixG (K := K) rfl) (pv 0) pe_int (fun _ _ => rfl)) pe_int (nomark _)) (pw_and1 (pt_cmpR oLt (pe_ix (ixG (K := K) rfl) (pv 0) pe_int (fun _ _ => rfl)) (pe_callB (cLen (K := K) rfl) (by rfl) T.b_len bt_len (pa_cons (pe_ix (ixG (K := K) rfl) (pv 0) pe_int (fun _ _ => rfl)) pa_nil)) (nomark _))))) (pss_cons (ps_set (i := 2) sc_law_draw.nd rfl (Or.inl rfl) (pe_ix (ixG (K := K) rfl) (pe_ix (ixG (K := K) rfl) (pv 0) pe_int (fun _ _ => rfl)) (pe_ix (ixG (K := K) rfl) (pv 0) pe_int (fun _ _ => rfl)) (fun _ _ => rfl))) (pss_cons (ps_asg (pe_op (oAdd (K := K) rfl) (pe_ix (ixG (K := K) rfl) (pv 0) pe_int (fun _ _ => rfl)) pe_int) (pg_sub (pv 0) pe_int setL)) (pss_cons (ps_asg (pe_op oMod (pe_callTy call_int1 (by rfl) T.b_int bt_int (pa_cons (pe_op (oAdd (K := K) rfl) (pe_op (oAdd (K := K) rfl) (pe_op (oMul (K := K) rfl) (pe_ix (ixG (K := K) rfl) (pv 0) pe_int (fun _ _ => rfl)) pe_int) (pv 2)) pe_int) pa_nil)) pe_int) (pg_sub (pv 0) pe_int setL)) (pss_one (ps_if (pt_cmpR oGe (pv 2) (pe_op oPow pe_int pe_int) (nomark _)) (pss_one (ps_asg (pv 2) (pg_sub (pv 0) pe_int setL))) pss_nil))))) pss_nil) (pss_cons (ps_if (pt_cmpR oGt (pe_ix (ixG (K := K) rfl) (pv 0) pe_int (fun _ _ => rfl)) pe_int (nomark _)) (pss_cons (ps_set (i := 3) sc_law_draw.nd rfl (Or.inl rfl) (pe_op oMod (pe_callTy call_int1 (by rfl) T.b_int bt_int (pa_cons (pe_ix (ixG (K := K) rfl) (pv 0) pe_int (fun _ _ => rfl)) pa_nil)) (pv 1))) (pss_cons (ps_asg (pe_op oFdv (pe_ix (ixG (K := K) rfl) (pv 0) pe_int (fun _ _ => rfl)) (pv 1)) (pg_sub (pv 0) pe_int setL)) (pss_one (ps_ret (pv 3))))) pss_nil) (pss_cons (ps_asg (pe_op (oAdd (K := K) rfl) (pe_ix (ixG (K := K) rfl) (pv 0) pe_int (fun _ _ => rfl)) pe_int) (pg_sub (pv 0) pe_int setL)) (pss_cons (ps_set (i := 4) sc_law_draw.nd rfl (Or.inl rfl) (pe_op oMod (pe_callTy call_int1 (by rfl) T.b_int bt_int (pa_cons (pe_op (oMul (K := K) rfl) (pe_callTy call_int1 (by rfl) T.b_int bt_int (pa_cons (pe_op (oAdd (K := K) rfl) (pe_ix (ixG (K := K) rfl) (pv 0) pe_int (fun _ _ => rfl)) (pe_op (oMul (K := K) rfl) pe_int (pe_ix (ixG (K := K) rfl) (pv 0) pe_int (fun _ _ => rfl)))) pa_nil)) pe_int) pa_nil)) pe_int)) (pss_cons (ps_set (i := 4) sc_law_draw.nd rfl (Or.inl rfl) (pe_op oMod (pe_callTy call_int1 (by rfl) T.b_int bt_int (pa_cons (pe_op (oMul (K := K) rfl) (pv 4) (pe_op (oAdd (K := K) rfl) (pe_op oFdv (pv 4) pe_int) pe_int)) pa_nil)) pe_int)) (pss_cons (ps_set (i := 4) sc_law_draw.nd rfl (Or.inl rfl) (pe_op oMod (pe_callTy call_int1 (by rfl) T.b_int bt_int (pa_cons (pe_op (oMul (K := K) rfl) (pv 4) (pe_op (oAdd (K := K) rfl) (pe_op oFdv (pv 4) pe_int) pe_int)) pa_nil)) pe_int)) (pss_one (ps_ret (pe_op oMod (pe_callTy call_int1 (by rfl) T.b_int bt_int (pa_cons (pe_op oFdv (pv 4) pe_int) pa_nil)) (pv 1)))))))))), ?_⟩
    walk_at "nm"
    refine ⟨fun σ H' => ∃ o1 o2 o3, σ = [some (.ref p), some (.int many), o1, o2, o3] ∧ PotAt H' p c ∧ Ex [p] H H', ?_, ?_⟩
    · have stay : ∀ o1 o2 o3, ∃ p1 p2 p3 : Option V, [some (V.ref p), some (V.int many), o1, o2, o3] = [some (.ref p), some (.int many), p1, p2, p3] ∧ PotAt H p c ∧ Ex [p] H H := fun o1 o2 o3 => ⟨o1, o2, o3, rfl, ⟨cells, i, r, sd, n, hp, hc, ncp, hi0, hr0, hcl⟩, Ex.refl _ _⟩
      walk_at "rd"
      refine @ite2 _ _ _ _ (fun c1 => ?_) (fun c1 => ?_)
      · walk_at "rd"
        refine @ite2 _ _ _ _ (fun c2 => ?_) (fun c2 => ?_)
        · replace c2 : i < ((cells.map V.int).length : Nat) := of_decide_eq_true c2
          rw [List.length_map] at c2
          obtain ⟨j, rfl⟩ : ∃ j : Nat, i = (j : Int) := ⟨i.toNat, by omega⟩
          have hj : j < cells.length := by omega
          have hat : atI (cells.map V.int) (j : Int) = some (.int cells[j]) := atI_nat (by rw [List.getElem?_map, List.getElem?_eq_getElem hj]; rfl)
          generalize cells[j] = cell at hat
          walk_at "rdi"
          refine @ite2 _ _ _ _ (fun c3 => ?_) (fun c3 => ?_)
          · replace c3 : (10 : Int) ^ 18 ≤ cell := of_decide_eq_true c3
            walk_at "rdi"
            exact ⟨⟨cells, _, _, _, _, by assumption, by walk_at "hp", ncp, by omega, by omega, hcl⟩, by walk_at "ex"⟩
          · walk_at "rdi"
            exact ⟨⟨cells, _, _, _, _, by assumption, by walk_at "hp", ncp, by omega, by omega, hcl⟩, by walk_at "ex"⟩
        · exact stay _ _ _
      · exact stay _ _ _
    · rintro σ H1 ⟨o1, o2, o3, rfl, ⟨cells, i, r, sd, n, hp, hc, ncp, hi0, hr0, hcl⟩, e⟩
      walk_at "rdi"
      refine @ite2 _ _ _ _ (fun c1 => ?_) (fun c1 => ?_)
      · walk_at "rdi"
        exact k _ _ (Int.emod_nonneg _ (by omega)) (Int.emod_lt_of_pos _ hm0) ⟨cells, _, _, _, _, by assumption, by walk_at "hp", ncp, by omega, Int.ediv_nonneg hr0 (by omega), hcl⟩ (by walk_at "ex")
      · walk_at "rdi"
        exact k _ _ (Int.emod_nonneg _ (by omega)) (Int.emod_lt_of_pos _ hm0) ⟨cells, _, _, _, _, by assumption, by walk_at "hp", ncp, by omega, by omega, hcl⟩ (by walk_at "ex")
def spPot (K : PySem.W.Frag) : Sp := fun vs H Q _ => ∃ (a : Addr) (ns : List Int), (vs = [.ref a] ∧ SqL K H a (ns.map V.int) ∧ ns.length ≤ 63) ∧ ∀ p c H', PotAt H' p c → Ex [] H H' → Q (.ref p) H'
def spAny : Sp := fun vs H Q _ => ∃ (p c a : Addr) (xs : List V), (vs = [.ref p, .ref a] ∧ PotAt H p c ∧ H a = some (.lst xs) ∧ a ≠ p ∧ 0 < xs.length ∧ xs.length < 1000000) ∧ ∀ x H', x ∈ xs → PotAt H' p c → Ex [p] H H' → Q x H'
-- @SP _law_pot (spPot K)
-- @SP _law_any spAny
theorem ok_law_any {f : Addr} {fd : FuncData} (F : Fun K "_law_any" "_law_any" s_law_any f fd) (T : Txt K mg) (C_law_draw : Cl P w K mg base 1 "_law_draw" spDraw) : FnOk P w K mg base CX0 2 f fd ["pot", "things"] spAny := by
  refine F.ok sc_law_any (fun vs H Q E h => ?_) (fun cdv A outer s H vs Q E hr h => ?_)
  · obtain ⟨p, c, a, xs, ⟨rfl, _⟩, _⟩ := h
    rfl
  · obtain ⟨p, c, a, xs, ⟨rfl, hp, ha, nap, h0, h1⟩, k⟩ := h
    refine ⟨_, (pss_one (ps_ret (pe_ix (ixG (K := K) rfl) (pv 1) (pe_cl C_law_draw hr (by decide) (by rfl) (pa_cons (pv 0) (pa_cons (pe_callB (cLen (K := K) rfl) (by rfl) T.b_len bt_len (pa_cons (pv 1) pa_nil)) pa_nil))) (fun _ _ => rfl)))), ?_⟩
    walk_at "nm"
    walk_at "rd"
    intro r H1 hr0 hr1 hp1 e1
    obtain ⟨j, rfl⟩ : ∃ j : Nat, r = (j : Int) := ⟨r.toNat, by omega⟩
    have hj : j < xs.length := by omega
    have hat : atI xs (j : Int) = some xs[j] := atI_nat (List.getElem?_eq_getElem hj)
    walk_at "rd"
    exact k _ _ (List.getElem_mem hj) hp1 e1
theorem ok_law_pot {f : Addr} {fd : FuncData} (F : Fun K "_law_pot" "_law_pot" s_law_pot f fd) (T : Txt K mg)  : FnOk P w K mg base CX0 1 f fd ["script"] (spPot K) := by
  refine F.ok sc_law_pot (fun vs H Q E h => ?_) (fun cdv A outer s H vs Q E hr h => ?_)
  · obtain ⟨a, ns, ⟨rfl, _⟩, _⟩ := h
    rfl
  · obtain ⟨a, ns, ⟨rfl, ha, hn⟩, k⟩ := h
    refine ⟨_, (pss_cons (ps_setLc (i := 1) (own := [("cell", 2)]) (g := gName 2) (tt := tYes) rfl sc_law_pot.nd rfl rfl (sw_true rfl rfl rfl (by decide +kernel)) (pi_list (pe_slice (slG (K := K) rfl) (pv 0) po_none (po_some pe_int))) (blkOk_by (N := n_law_pot) (sc := defScope s_law_pot) (by decide +kernel)) (fun _ _ _ _ _ => (pg_name (i := 2) sc_law_pot.nd rfl (Or.inl rfl))) (fun _ _ _ _ _ => pts_nil) (fun _ _ _ _ _ => (pe_callB cAbs (by rfl) T.b_abs bt_abs (pa_cons (pe_callTy call_int1 (by rfl) T.b_int bt_int (pa_cons (pv 2) pa_nil)) pa_nil)))) (pss_one (ps_ret (peLst (pa_cons (pv 1) (pa_cons pe_int (pa_cons pe_int (pa_cons (pe_op (oAdd (K := K) rfl) pe_int (pe_callB (cLen (K := K) rfl) (by rfl) T.b_len bt_len (pa_cons (pv 1) pa_nil))) (pa_cons pe_int pa_nil))))))))), ?_⟩
    walk_at "nm"
    walk_at "rd"
    intro l H1 hl hL e1
    have hcut : cutV (ns.map V.int) none (some 63) = ns.map V.int := by
      refine cutV_whole ⟨rfl, ?_⟩
      show min (Int.toNat 63) (ns.map V.int).length = (ns.map V.int).length
      rw [List.length_map]
      exact Nat.min_eq_right hn
    rw [hcut] at hL
    walk_at "rd"
    intro D hD
    refine lc_it (walk_list (xs := ns.map V.int)) (LcP D [] (fun _ => True) (RepAt K ((ns.map fun i => if i < 0 then -i else i).map Dt.int)) H1) (LcP.start hD trivial (true_loc D)) (fun i H h p => SqL.of (p.ex.get0 hL)) ?_ ?_
    · rintro i x H3 H4 hi p ⟨rfl, hx⟩
      rw [List.getElem?_map] at hx
      obtain ⟨z, hz, rfl⟩ := Option.map_eq_some_iff.mp hx
      walk_at "rd"
      exact p.step hD RepAt.stab (true_loc D) (Ex.refl _ _) trivial trivial ⟨_, by rw [List.getElem?_map, List.getElem?_map, hz]; rfl, .int _⟩ hi (by rw [List.length_map]; omega)
    · intro H3 p
      obtain ⟨ys, h5, h6⟩ := p.done (by simp)
      have h6 := h6.ints
      subst h6
      have e3 : Ex [] H1 H3 := p.ex
      walk_at "rd"
      intro q H4 hq hQ e4
      refine k q D _ ⟨_, 0, 0, _, 0, hQ, e4.get0 h5, ne_of_none h5 hq, by decide, by decide, by simpa using hn⟩ (by walk_at "ex")
end
-- @SP _law_draw spDraw
-- @SP _law_any spAny
/-! ### worths that are drawn -/
def worthMenu : List Dt := [.int 0, .int 0, .int 1, .int 1, .int 2, .int 3, .int (-1), .int 7, .non, .str "", .str "a", .str "ab", .str "z", .tup [], .tup [.int 1], .tup [.int 1, .int 2], .tup [.int 0, .str "a", .non],
  .tup [.tup [.int 2, .int 1], .str "b"], .tup [.str "f", .tup []]]
def spWorthD (K : PySem.W.Frag) : Sp := fun vs H Q _ => ∃ (p c : Addr), (vs = [.ref p] ∧ PotAt H p c) ∧ ∀ x d H', d ∈ worthMenu → Rep K H' x d → PotAt H' p c → Ex [p] H H' → Q x H'
-- @SP _law_worth (spWorthD K)
section
variable {P : Program} {w : World} {K : PySem.W.Frag} {mg : Str → Option Value} {base : Heap}
theorem ok_law_worth {f : Addr} {fd : FuncData} (F : Fun K "_law_worth" "_law_worth" s_law_worth f fd) (T : Txt K mg) (C_law_any : Cl P w K mg base 2 "_law_any" spAny) : FnOk P w K mg base CX0 3 f fd ["pot"] (spWorthD K) := by
  refine F.ok sc_law_worth (fun vs H Q E h => ?_) (fun cdv A outer s H vs Q E hr h => ?_)
  · obtain ⟨p, c, ⟨rfl, _⟩, _⟩ := h
    rfl
  · obtain ⟨p, c, ⟨rfl, hp⟩, k⟩ := h
    refine ⟨_, (pss_cons (ps_set (i := 1) sc_law_worth.nd rfl (Or.inl rfl) (peLst (pa_cons pe_int (pa_cons pe_int (pa_cons pe_int (pa_cons pe_int (pa_cons pe_int (pa_cons pe_int (pa_cons (pe_un oNeg pe_int) (pa_cons pe_int (pa_cons pe_non (pa_cons pe_str (pa_cons pe_str (pa_cons pe_str (pa_cons pe_str (pa_cons (peTup pa_nil) (pa_cons (peTup (pa_cons pe_int pa_nil)) (pa_cons (peTup (pa_cons pe_int (pa_cons pe_int pa_nil))) (pa_cons (peTup (pa_cons pe_int (pa_cons pe_str (pa_cons pe_non pa_nil)))) pa_nil))))))))))))))))))) (pss_one (ps_ret (pe_cl C_law_any hr (by decide) (by rfl) (pa_cons (pv 0) (pa_cons (pe_op (oAdd (K := K) rfl) (pv 1) (peLst (pa_cons (peTup (pa_cons (peTup (pa_cons pe_int (pa_cons pe_int pa_nil))) (pa_cons pe_str pa_nil))) (pa_cons (peTup (pa_cons pe_str (pa_cons (peTup pa_nil) pa_nil))) pa_nil)))) pa_nil)))))), ?_⟩
    walk_at "nm"
    walk_at "rdi"
    rename_i x Hn hx hpn en
    simp only [List.cons_append, List.nil_append] at hx
    obtain ⟨d, hd, r⟩ := RepL.memOf (K := K) (H := Hn) (l := worthMenu) hx (by unfold worthMenu; walk_at "repl")
    exact k x d Hn hd r hpn (by walk_at "ex")
inductive DeepW : Nat → Dt → Prop
  | base {d : Dt} : d ∈ worthMenu → DeepW 0 d
  | step {n : Nat} {d : Dt} {l m : List Dt} : DeepW n d → (∀ x ∈ l ++ m, x ∈ worthMenu) → (l ++ m).length ≤ 2 → DeepW (n + 1) (.tup (l ++ [d] ++ m))
def spDeep (K : PySem.W.Frag) : Sp := fun vs H Q _ => ∃ (p c : Addr) (n : Nat), (vs = [.ref p, .int n] ∧ PotAt H p c ∧ n ≤ 1000) ∧ ∀ x d H', DeepW n d → Rep K H' x d → PotAt H' p c → Ex [p] H H' → Q x H'
-- @SP _law_deep_worth (spDeep K)
def MenuAt (K : PySem.W.Frag) (_ : Nat) (y : V) (H : Hp) : Prop := ∃ d, d ∈ worthMenu ∧ Rep K H y d
theorem MenuAt.stab {K : PySem.W.Frag} : Stab (MenuAt K) := fun _ _ _ _ _ e ⟨d, h, r⟩ => ⟨d, h, e.rep r⟩
theorem menu_list {K : PySem.W.Frag} {H : Hp} : ∀ {ys : List V}, (∀ j y, ys[j]? = some y → MenuAt K j y H) → ∃ ds, RepL K H ys ds ∧ ∀ d ∈ ds, d ∈ worthMenu
  | [], _ => ⟨[], .nil, fun _ h => nomatch h⟩
  | y :: ys, h => by
    obtain ⟨d, hd, r⟩ := h 0 y (by simp)
    obtain ⟨ds, rs, hs⟩ := menu_list (ys := ys) fun j z hz => h (j + 1) z (by simpa using hz)
    exact ⟨d :: ds, .cons r rs, fun e he => (List.mem_cons.mp he).elim (fun q => q ▸ hd) (hs e)⟩
theorem ok_law_deep_worth {f : Addr} {fd : FuncData} (F : Fun K "_law_deep_worth" "_law_deep_worth" s_law_deep_worth f fd) (T : Txt K mg) (C_law_draw : Cl P w K mg base 1 "_law_draw" spDraw) (C_law_worth : Cl P w K mg base 3 "_law_worth" (spWorthD K)) : FnOk P w K mg base CX0 4 f fd ["pot", "deep"] (spDeep K) := by
  refine F.ok sc_law_deep_worth (fun vs H Q E h => ?_) (fun cdv A outer s H vs Q E hr h => ?_)
  · obtain ⟨p, c, n, ⟨rfl, _⟩, _⟩ := h
    rfl
  · obtain ⟨p, c, n, ⟨rfl, hp, hn⟩, k⟩ := h
    refine ⟨_, (pss_cons (ps_set (i := 2) sc_law_deep_worth.nd rfl (Or.inl rfl) (pe_cl C_law_worth hr (by decide) (by rfl) (pa_cons (pv 0) pa_nil))) (pss_cons (ps_for PassesOwn.never rfl (pi_range1 (by rfl) T.b_range (pa_cons (pv 1) pa_nil)) (pg_name (i := 3) sc_law_deep_worth.nd rfl (Or.inl rfl)) (pss_cons (ps_setLc (i := 4) (own := [("anew", 6)]) (g := gName 6) (tt := tYes) rfl sc_law_deep_worth.nd rfl rfl (sw_true rfl rfl rfl (by decide +kernel)) (pi_range1 (by rfl) T.b_range (pa_cons (pe_cl C_law_draw hr (by decide) (by rfl) (pa_cons (pv 0) (pa_cons pe_int pa_nil))) pa_nil)) (blkOk_by (N := n_law_deep_worth) (sc := defScope s_law_deep_worth) (by decide +kernel)) (fun _ _ _ _ _ => (pg_name (i := 6) sc_law_deep_worth.nd rfl (Or.inl rfl))) (fun _ _ _ _ _ => pts_nil) (fun _ _ _ _ _ => (pe_cl C_law_worth hr (by decide) (by rfl) (pa_cons (pv 0) pa_nil)))) (pss_cons (ps_set (i := 5) sc_law_deep_worth.nd rfl (Or.inl rfl) (pe_cl C_law_draw hr (by decide) (by rfl) (pa_cons (pv 0) (pa_cons (pe_op (oAdd (K := K) rfl) (pe_callB (cLen (K := K) rfl) (by rfl) T.b_len bt_len (pa_cons (pv 4) pa_nil)) pe_int) pa_nil)))) (pss_one (ps_set (i := 2) sc_law_deep_worth.nd rfl (Or.inl rfl) (pe_callTy (cTuple (K := K) rfl) (by rfl) T.b_tuple bt_tuple (pa_cons (pe_op (oAdd (K := K) rfl) (pe_op (oAdd (K := K) rfl) (pe_slice (slG (K := K) rfl) (pv 4) po_none (po_some (pv 5))) (peLst (pa_cons (pv 2) pa_nil))) (pe_slice (slG (K := K) rfl) (pv 4) (po_some (pv 5)) po_none)) pa_nil))))))) (pss_one (ps_ret (pv 2))))), ?_⟩
    walk_at "nm"
    walk_at "rd"
    intro x d H1 hd hx hp1 e1
    walk_at "rd"
    refine for_it (walk_range (lo := 0) (n := ((n : Nat) : Int).toNat)) (fun i σ H' => ∃ x d o3 o4 o5, σ = [some (.ref p), some (.int n), some x, o3, o4, o5, none] ∧ DeepW i d ∧ Rep K H' x d ∧ PotAt H' p c ∧ Ex [p] H H')
      ⟨x, d, none, none, none, rfl, .base hd, hx, hp1, e1⟩ (fun _ _ _ _ _ => trivial) ?_ ?_
    · clear hd hx hp1 e1 H1 x d
      rintro i y σ H1 H1' hi ⟨x, d, o3, o4, o5, rfl, hd, hx, hp1, e1⟩ ⟨rfl, rfl⟩
      walk_at "rd"
      intro r H2 hr0 hr1 hp2 e2
      walk_at "rd"
      intro D hD
      refine lc_it (walk_range (lo := 0) (n := r.toNat)) (LcP D [p] (fun H => PotAt H p c) (MenuAt K) H2) (LcP.start hD hp2 fun H o h => h.oth (hp2.ne hD) (hp2.nec hD)) (fun _ _ _ _ => trivial) ?_ ?_
      · rintro j y H3 H3' hj q ⟨rfl, rfl⟩
        have hp3 := q.p
        walk_at "rd"
        intro x1 d1 H4 hd1 hx1 hp4 e4
        exact q.step hD MenuAt.stab (fun H o h => h.oth (hp2.ne hD) (hp2.nec hD)) e4 ⟨hp2.ne hD, trivial⟩ hp4 ⟨d1, hd1, hx1⟩ hj (by omega)
      · intro H3 q
        obtain ⟨e3, hp3, ys, h5, h6, h7⟩ := q
        obtain ⟨ds, h8, h9⟩ := menu_list h7
        have h10 := h8.length
        have hDp := hp2.ne hD
        walk_at "rd"
        intro r2 H4 hr2 hr3 hp4 e4
        obtain ⟨m, rfl⟩ : ∃ m : Nat, r2 = (m : Int) := ⟨r2.toNat, by omega⟩
        have hz : ∀ lo hi, (cutV ys lo hi).length ≤ 1000 := fun lo hi => by
          have := cutV_length ys lo hi
          omega
        have z1 := hz none (some (m : Int))
        have z2 := hz (some (m : Int)) none
        walk_at "rdi"
        refine ⟨DeepW.step (l := ds.take m) (m := ds.drop m) hd ?_ ?_, ?_, by walk_at "pot", by walk_at "ex"⟩
        · rw [List.take_append_drop]
          exact h9
        · rw [List.take_append_drop]
          omega
        · refine .tup (by walk_at "sqt") ?_
          rw [cutV_to, cutV_from]
          have hys : RepL K H4 ys ds := by walk_at "repl"
          have h1 := hys.take m
          have h2 := hys.drop m
          refine RepL.append (RepL.append ?_ (.cons ?_ .nil)) ?_
          · walk_at "repl"
          · walk_at "rep"
          · walk_at "repl"
    · rintro σ H1 ⟨x, d, o3, o4, o5, rfl, hd, hx, hp1, e1⟩
      walk_at "rd"
      exact k x d H1 hd hx hp1 e1
end
-- @SP _law_draw spDraw
-- @SP _law_any spAny
theorem bt_dict : bootBuiltins "dict" = some (.type "dict") := by decide +kernel
/-! ### odd things -/
def spOdd (K : PySem.W.Frag) : Sp := fun vs H Q _ => ∃ (p c : Addr), (vs = [.ref p] ∧ PotAt H p c) ∧ ∀ x d H', Rep K H' x d → PotAt H' p c → Ex [p] H H' → Q x H'
-- @SP _law_odd (spOdd K)
section
variable {P : Program} {w : World} {K : PySem.W.Frag} {mg : Str → Option Value} {base : Heap}
theorem ok_law_odd {f : Addr} {fd : FuncData} (F : Fun K "_law_odd" "_law_odd" s_law_odd f fd) (T : Txt K mg) (C_law_draw : Cl P w K mg base 1 "_law_draw" spDraw) (C_law_any : Cl P w K mg base 2 "_law_any" spAny) : FnOk P w K mg base CX0 3 f fd ["pot"] (spOdd K) := by
  refine F.ok sc_law_odd (fun vs H Q E h => ?_) (fun cdv A outer s H vs Q E hr h => ?_)
  · obtain ⟨p, c, ⟨rfl, _⟩, _⟩ := h
    rfl
  · obtain ⟨p, c, ⟨rfl, hp⟩, k⟩ := h
    refine ⟨_, (pss_cons (ps_set (i := 1) sc_law_odd.nd rfl (Or.inl rfl) (pe_cl C_law_any hr (by decide) (by rfl) (pa_cons (pv 0) (pa_cons (peLst (pa_cons pe_non (pa_cons pe_int (pa_cons (peTup pa_nil) (pa_cons pe_str pa_nil))))) pa_nil)))) (pss_cons (ps_for PassesOwn.never rfl (pi_range1 (by rfl) T.b_range (pa_cons (pe_cl C_law_any hr (by decide) (by rfl) (pa_cons (pv 0) (pa_cons (peLst (pa_cons (pe_op (oAdd (K := K) rfl) pe_int (pe_cl C_law_draw hr (by decide) (by rfl) (pa_cons (pv 0) (pa_cons pe_int pa_nil)))) (pa_cons (pe_op (oAdd (K := K) rfl) pe_int (pe_cl C_law_draw hr (by decide) (by rfl) (pa_cons (pv 0) (pa_cons pe_int pa_nil)))) pa_nil))) pa_nil))) pa_nil)) (pg_name (i := 2) sc_law_odd.nd rfl (Or.inl rfl)) (pss_one (ps_set (i := 1) sc_law_odd.nd rfl (Or.inl rfl) (pe_ix (ixG (K := K) rfl) (peLst (pa_cons (peTup (pa_cons (pv 1) pa_nil)) (pa_cons (peLst (pa_cons (pv 1) pa_nil)) (pa_cons (peTup (pa_cons pe_int (pa_cons (pv 1) pa_nil))) pa_nil)))) (pe_cl C_law_draw hr (by decide) (by rfl) (pa_cons (pv 0) (pa_cons pe_int pa_nil))) (fun _ _ => rfl))))) (pss_cons (ps_set (i := 3) sc_law_odd.nd rfl (Or.inl rfl) (peLst (pa_cons pe_bl (pa_cons pe_bl (pa_cons (peLst pa_nil) (pa_cons peDict0 (pa_cons (peLst (pa_cons pe_int pa_nil)) (pa_cons (pe_disp (pps_cons pe_int pe_int pps_nil) (by rfl) (by rfl) (fun z => by cases z) (by decide)) (pa_cons (pe_disp (pps_cons pe_str (peTup (pa_cons pe_int pa_nil)) pps_nil) (by rfl) (by rfl) (fun z => by cases z) (by decide)) (pa_cons (peTup (pa_cons pe_bl pa_nil)) (pa_cons (peTup (pa_cons (peLst pa_nil) pa_nil)) (pa_cons (pe_op (oAdd (K := K) rfl) (pe_op oPow pe_int pe_int) pe_int) (pa_cons (pe_op oSub pe_int (pe_op oPow pe_int pe_int)) pa_nil))))))))))))) (pss_cons (ps_set (i := 3) sc_law_odd.nd rfl (Or.inl rfl) (pe_op (oAdd (K := K) rfl) (pv 3) (peLst (pa_cons (pe_op (oMul (K := K) rfl) pe_str pe_int) (pa_cons pe_str (pa_cons (pv 1) (pa_cons (pv 1) pa_nil))))))) (pss_cons (ps_set (i := 4) sc_law_odd.nd rfl (Or.inl rfl) (peLst (pa_cons (pe_op (oMul (K := K) rfl) (peTup (pa_cons pe_int pa_nil)) pe_int) (pa_cons (pe_op (oMul (K := K) rfl) (peLst (pa_cons pe_int pa_nil)) pe_int) (pa_cons (pe_op (oMul (K := K) rfl) (peTup (pa_cons (peTup (pa_cons pe_int (pa_cons pe_str pa_nil))) pa_nil)) pe_int) (pa_cons (pe_op (oMul (K := K) rfl) (peTup (pa_cons (pe_op (oMul (K := K) rfl) (peTup (pa_cons pe_int pa_nil)) pe_int) pa_nil)) pe_int) (pa_cons (pe_callTy (cDict (K := K) rfl rfl) (by rfl) T.b_dict bt_dict (pa_cons (pe_lc (own := [("key", 5)]) (g := gName 5) (tt := tYes) rfl sc_law_odd.nd (pi_range1 (by rfl) T.b_range (pa_cons pe_int pa_nil)) (blkOk_by (N := n_law_odd) (sc := defScope s_law_odd) (by decide +kernel)) (fun _ _ _ _ _ => (pg_name (i := 5) sc_law_odd.nd rfl (Or.inl rfl))) (fun _ _ _ _ _ => pts_nil) (fun _ _ _ _ _ => (peTup (pa_cons (pv 5) (pa_cons (peTup pa_nil) pa_nil))))) pa_nil)) pa_nil))))))) (pss_one (ps_ret (pe_cl C_law_any hr (by decide) (by rfl) (pa_cons (pv 0) (pa_cons (pe_op (oAdd (K := K) rfl) (pv 3) (peLst (pa_cons (pv 1) (pa_cons (pe_cl C_law_any hr (by decide) (by rfl) (pa_cons (pv 0) (pa_cons (pv 4) pa_nil))) pa_nil)))) pa_nil)))))))))), ?_⟩
    walk_at "nm"
    walk_at "rdi"
    rename_i q1 A1 h1 h2 h3 q2 A2 h4 h5 h6 x1 A3 h7 h8 h9 r1 A4 h10 h11 h12 h13 r2 A5 h14 h15 h16 h17 q3 A6 h18 h19 h20 x2 A7 h21 h22 h23
    obtain ⟨d1, hd1, hr1⟩ := RepL.memOf (K := K) (H := A3) (l := [.non, .int 0, .tup [], .str "a"]) h7 (by walk_at "repl")
    obtain ⟨n, rfl, hn⟩ : ∃ n : Nat, x2 = .int n ∧ n ≤ 1000 := by
      rcases List.mem_cons.mp h21 with e | e
      · exact ⟨(20 + r1).toNat, by rw [e]; congr 1; omega, by omega⟩
      · have e := List.mem_singleton.mp e
        exact ⟨(54 + r2).toNat, by rw [e]; congr 1; omega, by omega⟩
    have hr7 : Rep K A7 x1 d1 := by walk_at "rep"
    have e7 : Ex [p] H A7 := by walk_at "ex"
    clear hd1 hr1 h1 h2 h3 h4 h5 h6 h7 h8 h9 h10 h11 h12 h13 h14 h15 h16 h17 h18 h19 h20 h21 h23
    clear A1 A2 A3 A4 A5 A6 q1 q2 q3 r1 r2
    walk_at "rd"
    refine for_it (walk_range (lo := 0) (n := ((n : Nat) : Int).toNat)) (fun i σ H' => ∃ x d o2, σ = [some (.ref p), some x, o2, none, none, none] ∧ Rep K H' x d ∧ PotAt H' p c ∧ Ex [p] H H')
      ⟨x1, d1, none, rfl, hr7, h22, e7⟩ (fun _ _ _ _ _ => trivial) ?_ ?_
    · clear hr7 h22 e7 A7 x1 d1
      rintro i y σ H1 H1' hi ⟨x, d, o2, rfl, hx, hp1, e1⟩ ⟨rfl, rfl⟩
      walk_at "rdi"
      rename_i q1 B1 h1 h2 h3 q2 B2 h4 h5 h6 q3 B3 h7 h8 h9 q4 B4 h10 h11 h12 r B5 h13 h14 h15 h16
      have hr : r = 0 ∨ r = 1 ∨ r = 2 := by omega
      rcases hr with rfl | rfl | rfl
      all_goals walk_at "rd"
      all_goals walk_at "ex"
    · rintro σ H1 ⟨x, d, o2, rfl, hx, hp1, e1⟩
      walk_at "rdi"
      rename_i Hc hsc ec D hD
      refine lc_it (walk_range (lo := 0) (n := 1000)) (LcP D [] (fun _ => True) (RepAt K ((List.range 1000).map fun i => Dt.tup [.int (0 + (i : Nat)), .tup []])) Hc) (LcP.start hD trivial (true_loc D)) (fun _ _ _ _ => trivial) ?_ ?_
      · clear hx hp1 e1 hsc ec
        rintro j y H3 H3' hj q ⟨rfl, rfl⟩
        walk_at "rd"
        intro t1 H4 ht1 hs1 e4
        walk_at "rd"
        intro t2 H5 ht2 hs2 e5
        exact q.step hD RepAt.stab (true_loc D) (by walk_at "ex") trivial trivial ⟨_, by rw [List.getElem?_map, List.getElem?_range hj]; rfl, by walk_at "rep"⟩ hj (by decide)
      · intro H3 q
        obtain ⟨ys, h5, h6⟩ := q.done (by rw [List.length_map, List.length_range])
        obtain ⟨ps, kvs, rfl, hps⟩ := pairs_of h6 fun d hd => by
          obtain ⟨i, _, e⟩ := List.mem_map.mp hd
          exact ⟨_, _, e.symm⟩
        have e3 := q.ex
        clear q h6
        walk_at "rdi"
        rename_i xw Hw hxw hpw ew q8 H8 g1 g2 g3 q7 H7 g4 g5 g6 x9 H9 hx9 hp9 e9
        obtain ⟨dw, _, rw⟩ := RepL.memOf (K := K) (H := Hw) (l := [.tup (List.replicate (Int.toNat 3000) [.int 0]).flatten, .oth, .tup (List.replicate (Int.toNat 1500) [.tup [.int 1, .str "a"]]).flatten,
          .tup (List.replicate (Int.toNat 50) [.tup (List.replicate (Int.toNat 50) [.int 0]).flatten]).flatten, .oth]) hxw (by walk_at "repl")
        simp only [List.cons_append, List.nil_append] at hx9
        obtain ⟨d9, _, r9⟩ := RepL.memOf (K := K) (H := H9) (l := [.bl true, .bl false, .oth, .oth, .oth, .oth, .oth, .tup [.bl true], .tup [.oth], .int _, .int _, .str _, .str _, d, d, d, dw]) hx9 (by walk_at "repl")
        exact k x9 d9 H9 r9 hp9 (by walk_at "ex")
end
-- @SP _law_draw spDraw
-- @SP _law_any spAny
-- @SP _law_worth (spWorthD K)
-- @SP _law_deep_worth (spDeep K)
-- @SP _law_odd (spOdd K)
/-! ### things at the edge -/
def spOfMany (K : PySem.W.Frag) : Sp := fun vs H Q _ => ∃ n : Int, (vs = [.int n] ∧ 160 ≤ n ∧ n ≤ 300) ∧ ∀ x d H', Rep K H' x d → Ex [] H H' → Q x H'
def spEdge (K : PySem.W.Frag) : Sp := fun vs H Q _ => ∃ (p c : Addr), (vs = [.ref p] ∧ PotAt H p c) ∧ ∀ x d H', Rep K H' x d → PotAt H' p c → Ex [p] H H' → Q x H'
-- @SP _law_of_many (spOfMany K)
-- @SP _law_edge (spEdge K)
-- @SP _law_thing (spEdge K)
section
variable {P : Program} {w : World} {K : PySem.W.Frag} {mg : Str → Option Value} {base : Heap}
theorem ok_law_of_many {f : Addr} {fd : FuncData} (F : Fun K "_law_of_many" "_law_of_many" s_law_of_many f fd) (T : Txt K mg)  : FnOk P w K mg base CX0 1 f fd ["many"] (spOfMany K) := by
  refine F.ok sc_law_of_many (fun vs H Q E h => ?_) (fun cdv A outer s H vs Q E hr h => ?_)
  · obtain ⟨n, ⟨rfl, _⟩, _⟩ := h
    rfl
  · obtain ⟨n, ⟨rfl, h0, h1⟩, k⟩ := h
    refine ⟨_, (pss_one (ps_ret (pe_op (oAdd (K := K) rfl) (pe_op (oMul (K := K) rfl) (peTup (pa_cons (pe_op (oMul (K := K) rfl) (peTup (pa_cons pe_int pa_nil)) pe_int) pa_nil)) pe_int) (pe_op (oMul (K := K) rfl) (peTup (pa_cons pe_str pa_nil)) (pe_op oSub (pv 0) pe_int))))), ?_⟩
    walk_at "nm"
    have f2 : 1 * (n - 154).toNat ≤ 1000000 := by omega
    walk_at "rdi"
    exact k _ _ _ (by walk_at "rep") (by walk_at "ex")
theorem ok_law_edge {f : Addr} {fd : FuncData} (F : Fun K "_law_edge" "_law_edge" s_law_edge f fd) (T : Txt K mg) (C_law_draw : Cl P w K mg base 1 "_law_draw" spDraw) (C_law_any : Cl P w K mg base 2 "_law_any" spAny) (C_law_worth : Cl P w K mg base 3 "_law_worth" (spWorthD K)) (C_law_of_many : Cl P w K mg base 1 "_law_of_many" (spOfMany K)) : FnOk P w K mg base CX0 4 f fd ["pot"] (spEdge K) := by
  refine F.ok sc_law_edge (fun vs H Q E h => ?_) (fun cdv A outer s H vs Q E hr h => ?_)
  · obtain ⟨p, c, ⟨rfl, _⟩, _⟩ := h
    rfl
  · obtain ⟨p, c, ⟨rfl, hp⟩, k⟩ := h
    refine ⟨_, (pss_cons (ps_par (i := 1) (j := 2) rfl sc_law_edge.nd rfl rfl (by decide) rfl rfl (pa_cons (pe_cl C_law_draw hr (by decide) (by rfl) (pa_cons (pv 0) (pa_cons pe_int pa_nil))) (pa_cons (pe_op oSub (pe_cl C_law_draw hr (by decide) (by rfl) (pa_cons (pv 0) (pa_cons pe_int pa_nil))) pe_int) pa_nil)) (by rfl)) (pss_cons (ps_if (pt_cmpR op_eq (pv 1) pe_int (nomark _)) (pss_one (ps_ret (pe_op (oMul (K := K) rfl) (pe_cl C_law_any hr (by decide) (by rfl) (pa_cons (pv 0) (pa_cons (peLst (pa_cons pe_int (pa_cons (pe_un oNeg pe_int) pa_nil))) pa_nil))) (pe_op (oAdd (K := K) rfl) (pe_op oPow pe_int pe_int) (pv 2))))) pss_nil) (pss_cons (ps_if (pt_cmpR op_eq (pv 1) pe_int (nomark _)) (pss_one (ps_ret (pe_op (oAdd (K := K) rfl) (pe_op (oMul (K := K) rfl) pe_str pe_int) (pe_op (oMul (K := K) rfl) pe_str (pe_op (oAdd (K := K) rfl) pe_int (pv 2)))))) pss_nil) (pss_cons (ps_if (pt_cmpR op_eq (pv 1) pe_int (nomark _)) (pss_one (ps_ret (pe_ifExp (pt_cmpR op_eq (pe_cl C_law_draw hr (by decide) (by rfl) (pa_cons (pv 0) (pa_cons pe_int pa_nil))) pe_int (nomark _)) (pe_op (oMul (K := K) rfl) (peTup (pa_cons (pe_cl C_law_worth hr (by decide) (by rfl) (pa_cons (pv 0) pa_nil)) pa_nil)) (pe_op (oAdd (K := K) rfl) pe_int (pv 2))) (pe_op (oMul (K := K) rfl) (peTup (pa_cons pe_int pa_nil)) (pe_op (oAdd (K := K) rfl) pe_int (pv 2)))))) pss_nil) (pss_cons (ps_if (pt_cmpR op_eq (pv 1) pe_int (nomark _)) (pss_one (ps_ret (pe_cl C_law_of_many hr (by decide) (by rfl) (pa_cons (pe_op (oAdd (K := K) rfl) pe_int (pv 2)) pa_nil)))) pss_nil) (pss_cons (ps_set (i := 3) sc_law_edge.nd rfl (Or.inl rfl) (pe_cl C_law_any hr (by decide) (by rfl) (pa_cons (pv 0) (pa_cons (peLst (pa_cons pe_int (pa_cons pe_str (pa_cons pe_non (pa_cons (peTup pa_nil) pa_nil))))) pa_nil)))) (pss_cons (ps_for PassesOwn.never rfl (pi_range1 (by rfl) T.b_range (pa_cons (pe_op (oAdd (K := K) rfl) pe_int (pv 2)) pa_nil)) (pg_name (i := 4) sc_law_edge.nd rfl (Or.inl rfl)) (pss_one (ps_set (i := 3) sc_law_edge.nd rfl (Or.inl rfl) (pe_ifExp (pt_cmpR op_eq (pe_cl C_law_draw hr (by decide) (by rfl) (pa_cons (pv 0) (pa_cons pe_int pa_nil))) pe_int (nomark _)) (peTup (pa_cons (pv 3) pa_nil)) (peTup (pa_cons pe_int (pa_cons (pv 3) pa_nil))))))) (pss_one (ps_ret (pv 3)))))))))), ?_⟩
    walk_at "nm"
    walk_at "rdi"
    rename_i r1 H1 a1 a2 a3 a4 r2 H2 b1 b2 b3 b4
    have s1 : ("ab~ " : Str).length = 4 := by decide +kernel
    have s2 : ("z" : Str).length = 1 := by decide +kernel
    refine @ite2 _ _ _ _ (fun c1 => ?_) (fun c1 => ?_)
    · walk_at "rdi"
      rename_i q1 H3 d1 d2 d3 x H4 hx f2 f3
      have hx2 : x = .int 1 ∨ x = .int (-1) := by simpa using hx
      rcases hx2 with rfl | rfl
      all_goals walk_at "rd"
      all_goals exact k _ _ _ (by walk_at "rep") (by walk_at "pot") (by walk_at "ex")
    · walk_at "rd"
      refine @ite2 _ _ _ _ (fun c2 => ?_) (fun c2 => ?_)
      · have z1 : ("ab~ " : Str).length * Int.toNat 9 ≤ 1000000 := by rw [s1]; decide
        have z2 : ("z" : Str).length * (4 + (r2 - 1)).toNat ≤ 1000000 := by rw [s2]; omega
        have z3 : (repS "ab~ " 9).length + (repS "z" (4 + (r2 - 1))).length ≤ 1000 := by rw [repS_len, repS_len, s1, s2]; omega
        have z4 : (repS "ab~ " 9 ++ repS "z" (4 + (r2 - 1))).length ≤ 1000000 := by rw [strapp_len]; omega
        walk_at "rdi"
        exact k _ _ _ (by walk_at "rep") (by walk_at "pot") (by walk_at "ex")
      · walk_at "rd"
        have z5 : 1 * (50 + (r2 - 1)).toNat ≤ 1000000 := by omega
        refine @ite2 _ _ _ _ (fun c3 => ?_) (fun c3 => ?_)
        · walk_at "rdi"
          refine @ite2 _ _ _ _ (fun c4 => ?_) (fun c4 => ?_)
          all_goals walk_at "rdi"
          all_goals exact k _ _ _ (by walk_at "rep") (by walk_at "pot") (by walk_at "ex")
        · walk_at "rd"
          refine @ite2 _ _ _ _ (fun c4 => ?_) (fun c4 => ?_)
          · walk_at "rdi"
            exact k _ _ _ (by walk_at "rep") (by walk_at "pot") (by walk_at "ex")
          · walk_at "rdi"
            rename_i q1 H3 h1 h2 h3 q2 H4 h4 h5 h6 x0 H5 h7 h8 h9
            obtain ⟨d0, _, g0⟩ := RepL.memOf (K := K) (H := H5) (l := [.int 0, .str "a", .non, .tup []]) h7 (by walk_at "repl")
            have e5 : Ex [p] H H5 := by walk_at "ex"
            clear h1 h2 h3 h4 h5 h6 h7 h9 a4 b4 b3 a3
            refine for_it (walk_range (lo := 0) (n := (7 + (r2 - 1)).toNat)) (fun i σ H' => ∃ x d o4, σ = [some (.ref p), some (.int r1), some (.int (r2 - 1)), some x, o4] ∧ Rep K H' x d ∧ PotAt H' p c ∧ Ex [p] H H')
              ⟨x0, d0, none, rfl, g0, h8, e5⟩ (fun _ _ _ _ _ => trivial) ?_ ?_
            · clear g0 h8 e5
              rintro i y σ H6 H6' hi ⟨x, d, o4, rfl, hx, hp6, e6⟩ ⟨rfl, rfl⟩
              walk_at "rdi"
              refine @ite2 _ _ _ _ (fun c5 => ?_) (fun c5 => ?_)
              all_goals
                walk_at "rd"
                intro q7 H7 n7 h7 e7
                walk_at "rd"
                walk_at "ex"
            · rintro σ H6 ⟨x, d, o4, rfl, hx, hp6, e6⟩
              walk_at "rd"
              exact k x d H6 hx hp6 e6
theorem ok_law_thing {f : Addr} {fd : FuncData} (F : Fun K "_law_thing" "_law_thing" s_law_thing f fd) (T : Txt K mg) (C_law_draw : Cl P w K mg base 1 "_law_draw" spDraw) (C_law_deep_worth : Cl P w K mg base 4 "_law_deep_worth" (spDeep K)) (C_law_odd : Cl P w K mg base 3 "_law_odd" (spOdd K)) (C_law_edge : Cl P w K mg base 4 "_law_edge" (spEdge K)) : FnOk P w K mg base CX0 5 f fd ["pot"] (spEdge K) := by
  refine F.ok sc_law_thing (fun vs H Q E h => ?_) (fun cdv A outer s H vs Q E hr h => ?_)
  · obtain ⟨p, c, ⟨rfl, _⟩, _⟩ := h
    rfl
  · obtain ⟨p, c, ⟨rfl, hp⟩, k⟩ := h
    refine ⟨_, (pss_cons (ps_set (i := 1) sc_law_thing.nd rfl (Or.inl rfl) (pe_cl C_law_draw hr (by decide) (by rfl) (pa_cons (pv 0) (pa_cons pe_int pa_nil)))) (pss_cons (ps_if (pt_cmpR op_eq (pv 1) pe_int (nomark _)) (pss_one (ps_ret (pe_cl C_law_deep_worth hr (by decide) (by rfl) (pa_cons (pv 0) (pa_cons (pe_cl C_law_draw hr (by decide) (by rfl) (pa_cons (pv 0) (pa_cons pe_int pa_nil))) pa_nil))))) pss_nil) (pss_one (ps_ret (pe_ifExp (pt_cmpR oLt (pv 1) pe_int (nomark _)) (pe_cl C_law_edge hr (by decide) (by rfl) (pa_cons (pv 0) pa_nil)) (pe_cl C_law_odd hr (by decide) (by rfl) (pa_cons (pv 0) pa_nil))))))), ?_⟩
    walk_at "nm"
    walk_at "rdi"
    rename_i r H1 a1 a2 a3 a4
    refine @ite2 _ _ _ _ (fun c1 => ?_) (fun c1 => ?_)
    · walk_at "rd"
      intro r2 H2 b1 b2 b3 b4
      obtain ⟨m, rfl⟩ : ∃ m : Nat, r2 = (m : Int) := ⟨r2.toNat, by omega⟩
      walk_at "rdi"
      exact k _ _ _ (by walk_at "rep") (by walk_at "pot") (by walk_at "ex")
    · walk_at "rd"
      refine @ite2 _ _ _ _ (fun c2 => ?_) (fun c2 => ?_)
      all_goals walk_at "rdi"
      all_goals exact k _ _ _ (by walk_at "rep") (by walk_at "pot") (by walk_at "ex")
end
-- @SP _law_draw spDraw
-- @SP _law_any spAny
-- @SP _law_worth (spWorthD K)
-- @SP _law_pot (spPot K)
-- @SP _law_is_worth (spWorth K)
-- @SP is_worth (spWorth K)
-- @SP _law_thing (spEdge K)
-- @SP law (spLaw K)
/-! ### the law -/
def spLaw (K : PySem.W.Frag) : Sp := fun vs H Q _ => ∃ (a : Addr) (ns : List Int), (vs = [.ref a] ∧ SqL K H a (ns.map V.int) ∧ ns.length ≤ 63) ∧ ∀ H', Q (.bl true) H'
theorem menu_worth : ∀ d ∈ worthMenu, isWorth d = true := by decide +kernel
section
variable {P : Program} {w : World} {K : PySem.W.Frag} {mg : Str → Option Value} {base : Heap}
theorem ok_law {f : Addr} {fd : FuncData} (F : Fun K "law" "law" s_law f fd) (T : Txt K mg) (C_is_worth : Cl P w K mg base 3 "is_worth" (spWorth K)) (C_law_pot : Cl P w K mg base 1 "_law_pot" (spPot K)) (C_law_draw : Cl P w K mg base 1 "_law_draw" spDraw) (C_law_any : Cl P w K mg base 2 "_law_any" spAny) (C_law_worth : Cl P w K mg base 3 "_law_worth" (spWorthD K)) (C_law_is_worth : Cl P w K mg base 2 "_law_is_worth" (spWorth K)) (C_law_thing : Cl P w K mg base 5 "_law_thing" (spEdge K)) : FnOk P w K mg base CX0 6 f fd ["script"] (spLaw K) := by
  refine F.ok sc_law (fun vs H Q E h => ?_) (fun cdv A outer s H vs Q E hr h => ?_)
  · obtain ⟨a, ns, ⟨rfl, _⟩, _⟩ := h
    rfl
  · obtain ⟨a, ns, ⟨rfl, ha, hn⟩, k⟩ := h
    refine ⟨_, (pss_cons (ps_set (i := 1) sc_law.nd rfl (Or.inl rfl) (pe_cl C_law_pot hr (by decide) (by rfl) (pa_cons (pv 0) pa_nil))) (pss_cons (ps_for PassesOwn.never rfl (pi_range1 (by rfl) T.b_range (pa_cons pe_int pa_nil)) (pg_name (i := 2) sc_law.nd rfl (Or.inl rfl)) (pss_cons (ps_set (i := 3) sc_law.nd rfl (Or.inl rfl) (pe_cl C_law_thing hr (by decide) (by rfl) (pa_cons (pv 1) pa_nil))) (pss_cons (ps_if (pt_cmpR op_eq (pe_cl C_law_draw hr (by decide) (by rfl) (pa_cons (pv 1) (pa_cons pe_int pa_nil))) pe_int (nomark _)) (pss_one (ps_set (i := 3) sc_law.nd rfl (Or.inl rfl) (pe_cl C_law_any hr (by decide) (by rfl) (pa_cons (pv 1) (pa_cons (peLst (pa_cons (peTup (pa_cons (pv 3) pa_nil)) (pa_cons (peTup (pa_cons pe_int (pa_cons (pv 3) pa_nil))) (pa_cons (peTup (pa_cons (pv 3) (pa_cons (pe_cl C_law_thing hr (by decide) (by rfl) (pa_cons (pv 1) pa_nil)) pa_nil))) (pa_cons (peLst (pa_cons (pv 3) pa_nil)) pa_nil))))) pa_nil))))) pss_nil) (pss_cons (ps_set (i := 4) sc_law.nd rfl (Or.inl rfl) (pe_cl C_is_worth hr (by decide) (by rfl) (pa_cons (pv 3) pa_nil))) (pss_one (ps_if (PW.pt (pw_or (pt_not (pt_val (pe_callB (cIs (K := K) rfl) (by rfl) T.b_isinstance bt_isinstance (pa_cons (pv 4) (pa_cons (pe_bltn (v := .ty "bool") (by rfl) T.b_bool bt_bool rfl) pa_nil))))) (pw_or1 (pt_cmpR op_ne (pv 4) (pe_cl C_law_is_worth hr (by decide) (by rfl) (pa_cons (pv 3) pa_nil)) (nomark _))))) (pss_one (ps_ret pe_bl)) pss_nil)))))) (pss_one (ps_ret (pe_cmpR op_isBl (pe_cl C_is_worth hr (by decide) (by rfl) (pa_cons (pe_cl C_law_worth hr (by decide) (by rfl) (pa_cons (pv 1) pa_nil)) pa_nil)) pe_bl (nomark _)))))), ?_⟩
    walk_at "nm"
    walk_at "rd"
    intro p c H1 hp e1
    walk_at "rd"
    refine for_it (walk_range (lo := 0) (n := Int.toNat 12)) (fun i σ H' => ∃ o2 o3 o4, σ = [some (.ref a), some (.ref p), o2, o3, o4] ∧ PotAt H' p c)
      ⟨none, none, none, rfl, hp⟩ (fun _ _ _ _ _ => trivial) ?_ ?_
    · clear hp
      rintro i y σ H6 H6' hi ⟨o2, o3, o4, rfl, hp⟩ ⟨rfl, rfl⟩
      walk_at "rd"
      intro x d H2 hx hp2 e2
      walk_at "rd"
      intro r H3 r0 r1 hp3 e3
      walk_at "rd"
      refine @ite2 _ _ _ _ (fun c1 => ?_) (fun c1 => ?_)
      · walk_at "rdi"
        rename_i qa Ha a1 a2 a3 qb Hb a4 a5 a6 x2 d2 Hc a7 a8 a9 q1 H7 b1 b2 b3 q2 H8 b4 b5 b6 q3 H9 b7 b8 b9 q4 H10 b10 b11 b12
        obtain ⟨d', hd', r'⟩ := RepL.memOf (K := K) (H := H10) (l := [.tup [d], .tup [.int 0, d], .tup [d, d2], .oth]) b10 (by walk_at "repl")
        walk_at "rdi"
        refine @ite2 _ _ _ _ (fun c2 => ?_) (fun c2 => ?_)
        · exact absurd c2 (by simp)
        · exact ⟨_, _, _, rfl, by walk_at "pot"⟩
      · walk_at "rdi"
        refine @ite2 _ _ _ _ (fun c2 => ?_) (fun c2 => ?_)
        · exact absurd c2 (by simp)
        · exact ⟨_, _, _, rfl, by walk_at "pot"⟩
    · rintro σ H6 ⟨o2, o3, o4, rfl, hp⟩
      walk_at "rd"
      intro x d H2 hd hx hp2 e2
      walk_at "rd"
      intro H3 e3
      rw [menu_worth d hd]
      walk_at "rd"
      exact k H3
end
theorem all_mk {l : PySem.W.OpenLaw} {w : World} {K : PySem.W.Frag} {h : Heap} {mg : Str → Option Value} {fa : Addr} (X : K.In h) (G : h.Ns mainGlobals mg) (hfa : mg "law" = some (.ref fa))
    {od0 an0 od1 an1 od2 an2 od3 an3 od4 an4 od5 an5 od6 an6 od7 an7 od8 an8 od9 an9 od10 an10 od11 an11 od12 an12 od13 an13 od14 an14 : Option Addr}
    {sl0 sl1 sl2 sl3 sl4 sl5 sl6 sl7 sl8 sl9 sl10 sl11 sl12 sl13 sl14 : Array (Option Value)}
    {oc0 kV0 dc0 pm0 cd0 ct0 oc1 kV1 dc1 pm1 cd1 ct1 oc2 kV2 dc2 pm2 cd2 ct2 oc3 kV3 dc3 pm3 cd3 ct3 oc4 kV4 dc4 pm4 cd4 ct4 oc5 kV5 dc5 pm5 cd5 ct5 oc6 kV6 dc6 pm6 cd6 ct6 oc7 kV7 dc7 pm7 cd7 ct7 oc8 kV8 dc8 pm8 cd8 ct8 oc9 kV9 dc9 pm9 cd9 ct9 oc10 kV10 dc10 pm10 cd10 ct10 oc11 kV11 dc11 pm11 cd11 ct11 oc12 kV12 dc12 pm12 cd12 ct12 oc13 kV13 dc13 pm13 cd13 ct13 oc14 kV14 dc14 pm14 cd14 ct14 : Value}
    {f0 f1 f2 f3 f4 f5 f6 f7 f8 f9 f10 f11 f12 f13 f14 : Addr}
    {tk_MOST tk_MOST_DEEP tk_MOST_ITEMS tk_MOST_SIGNS tk_MOST_WORTHS : Tok}
    (a0 : PySem.W.nsIn K mainGlobals "is_integer" = some (some (.ref f0)))
    (l0 : K.lookup f0 = some ⟨oc0, od0, .func (PySem.W.fnOf "is_integer" "is_integer" (defArgs s_is_integer) (defBody s_is_integer) (defScope s_is_integer) .none kV0 dc0 pm0 an0 cd0 ct0), sl0⟩)
    (c0 : PySem.W.codeIn K cd0 "is_integer" = true) (k0 : PySem.W.keepIn K (.ref f0) = true)
    (a1 : PySem.W.nsIn K mainGlobals "is_plain_worth" = some (some (.ref f1)))
    (l1 : K.lookup f1 = some ⟨oc1, od1, .func (PySem.W.fnOf "is_plain_worth" "is_plain_worth" (defArgs s_is_plain_worth) (defBody s_is_plain_worth) (defScope s_is_plain_worth) .none kV1 dc1 pm1 an1 cd1 ct1), sl1⟩)
    (c1 : PySem.W.codeIn K cd1 "is_plain_worth" = true) (k1 : PySem.W.keepIn K (.ref f1) = true)
    (a2 : PySem.W.nsIn K mainGlobals "is_worth" = some (some (.ref f2)))
    (l2 : K.lookup f2 = some ⟨oc2, od2, .func (PySem.W.fnOf "is_worth" "is_worth" (defArgs s_is_worth) (defBody s_is_worth) (defScope s_is_worth) .none kV2 dc2 pm2 an2 cd2 ct2), sl2⟩)
    (c2 : PySem.W.codeIn K cd2 "is_worth" = true) (k2 : PySem.W.keepIn K (.ref f2) = true)
    (a3 : PySem.W.nsIn K mainGlobals "_law_pot" = some (some (.ref f3)))
    (l3 : K.lookup f3 = some ⟨oc3, od3, .func (PySem.W.fnOf "_law_pot" "_law_pot" (defArgs s_law_pot) (defBody s_law_pot) (defScope s_law_pot) .none kV3 dc3 pm3 an3 cd3 ct3), sl3⟩)
    (c3 : PySem.W.codeIn K cd3 "_law_pot" = true) (k3 : PySem.W.keepIn K (.ref f3) = true)
    (a4 : PySem.W.nsIn K mainGlobals "_law_draw" = some (some (.ref f4)))
    (l4 : K.lookup f4 = some ⟨oc4, od4, .func (PySem.W.fnOf "_law_draw" "_law_draw" (defArgs s_law_draw) (defBody s_law_draw) (defScope s_law_draw) .none kV4 dc4 pm4 an4 cd4 ct4), sl4⟩)
    (c4 : PySem.W.codeIn K cd4 "_law_draw" = true) (k4 : PySem.W.keepIn K (.ref f4) = true)
    (a5 : PySem.W.nsIn K mainGlobals "_law_any" = some (some (.ref f5)))
    (l5 : K.lookup f5 = some ⟨oc5, od5, .func (PySem.W.fnOf "_law_any" "_law_any" (defArgs s_law_any) (defBody s_law_any) (defScope s_law_any) .none kV5 dc5 pm5 an5 cd5 ct5), sl5⟩)
    (c5 : PySem.W.codeIn K cd5 "_law_any" = true) (k5 : PySem.W.keepIn K (.ref f5) = true)
    (a6 : PySem.W.nsIn K mainGlobals "_law_worth" = some (some (.ref f6)))
    (l6 : K.lookup f6 = some ⟨oc6, od6, .func (PySem.W.fnOf "_law_worth" "_law_worth" (defArgs s_law_worth) (defBody s_law_worth) (defScope s_law_worth) .none kV6 dc6 pm6 an6 cd6 ct6), sl6⟩)
    (c6 : PySem.W.codeIn K cd6 "_law_worth" = true) (k6 : PySem.W.keepIn K (.ref f6) = true)
    (a7 : PySem.W.nsIn K mainGlobals "_law_deep_worth" = some (some (.ref f7)))
    (l7 : K.lookup f7 = some ⟨oc7, od7, .func (PySem.W.fnOf "_law_deep_worth" "_law_deep_worth" (defArgs s_law_deep_worth) (defBody s_law_deep_worth) (defScope s_law_deep_worth) .none kV7 dc7 pm7 an7 cd7 ct7), sl7⟩)
    (c7 : PySem.W.codeIn K cd7 "_law_deep_worth" = true) (k7 : PySem.W.keepIn K (.ref f7) = true)
    (a8 : PySem.W.nsIn K mainGlobals "_law_is_int" = some (some (.ref f8)))
    (l8 : K.lookup f8 = some ⟨oc8, od8, .func (PySem.W.fnOf "_law_is_int" "_law_is_int" (defArgs s_law_is_int) (defBody s_law_is_int) (defScope s_law_is_int) .none kV8 dc8 pm8 an8 cd8 ct8), sl8⟩)
    (c8 : PySem.W.codeIn K cd8 "_law_is_int" = true) (k8 : PySem.W.keepIn K (.ref f8) = true)
    (a9 : PySem.W.nsIn K mainGlobals "_law_is_worth" = some (some (.ref f9)))
    (l9 : K.lookup f9 = some ⟨oc9, od9, .func (PySem.W.fnOf "_law_is_worth" "_law_is_worth" (defArgs s_law_is_worth) (defBody s_law_is_worth) (defScope s_law_is_worth) .none kV9 dc9 pm9 an9 cd9 ct9), sl9⟩)
    (c9 : PySem.W.codeIn K cd9 "_law_is_worth" = true) (k9 : PySem.W.keepIn K (.ref f9) = true)
    (a10 : PySem.W.nsIn K mainGlobals "_law_odd" = some (some (.ref f10)))
    (l10 : K.lookup f10 = some ⟨oc10, od10, .func (PySem.W.fnOf "_law_odd" "_law_odd" (defArgs s_law_odd) (defBody s_law_odd) (defScope s_law_odd) .none kV10 dc10 pm10 an10 cd10 ct10), sl10⟩)
    (c10 : PySem.W.codeIn K cd10 "_law_odd" = true) (k10 : PySem.W.keepIn K (.ref f10) = true)
    (a11 : PySem.W.nsIn K mainGlobals "_law_of_many" = some (some (.ref f11)))
    (l11 : K.lookup f11 = some ⟨oc11, od11, .func (PySem.W.fnOf "_law_of_many" "_law_of_many" (defArgs s_law_of_many) (defBody s_law_of_many) (defScope s_law_of_many) .none kV11 dc11 pm11 an11 cd11 ct11), sl11⟩)
    (c11 : PySem.W.codeIn K cd11 "_law_of_many" = true) (k11 : PySem.W.keepIn K (.ref f11) = true)
    (a12 : PySem.W.nsIn K mainGlobals "_law_edge" = some (some (.ref f12)))
    (l12 : K.lookup f12 = some ⟨oc12, od12, .func (PySem.W.fnOf "_law_edge" "_law_edge" (defArgs s_law_edge) (defBody s_law_edge) (defScope s_law_edge) .none kV12 dc12 pm12 an12 cd12 ct12), sl12⟩)
    (c12 : PySem.W.codeIn K cd12 "_law_edge" = true) (k12 : PySem.W.keepIn K (.ref f12) = true)
    (a13 : PySem.W.nsIn K mainGlobals "_law_thing" = some (some (.ref f13)))
    (l13 : K.lookup f13 = some ⟨oc13, od13, .func (PySem.W.fnOf "_law_thing" "_law_thing" (defArgs s_law_thing) (defBody s_law_thing) (defScope s_law_thing) .none kV13 dc13 pm13 an13 cd13 ct13), sl13⟩)
    (c13 : PySem.W.codeIn K cd13 "_law_thing" = true) (k13 : PySem.W.keepIn K (.ref f13) = true)
    (a14 : PySem.W.nsIn K mainGlobals "law" = some (some (.ref f14)))
    (l14 : K.lookup f14 = some ⟨oc14, od14, .func (PySem.W.fnOf "law" "law" (defArgs s_law) (defBody s_law) (defScope s_law) .none kV14 dc14 pm14 an14 cd14 ct14), sl14⟩)
    (c14 : PySem.W.codeIn K cd14 "law" = true) (k14 : PySem.W.keepIn K (.ref f14) = true)
    (zb_abs : PySem.W.nsIn K mainGlobals "abs" = some none)
    (zb_all : PySem.W.nsIn K mainGlobals "all" = some none)
    (zb_bool : PySem.W.nsIn K mainGlobals "bool" = some none)
    (zb_dict : PySem.W.nsIn K mainGlobals "dict" = some none)
    (zb_int : PySem.W.nsIn K mainGlobals "int" = some none)
    (zb_isinstance : PySem.W.nsIn K mainGlobals "isinstance" = some none)
    (zb_len : PySem.W.nsIn K mainGlobals "len" = some none)
    (zb_range : PySem.W.nsIn K mainGlobals "range" = some none)
    (zb_str : PySem.W.nsIn K mainGlobals "str" = some none)
    (zb_tuple : PySem.W.nsIn K mainGlobals "tuple" = some none)
    (zc_MOST : PySem.W.nsIn K mainGlobals "MOST" = some (some (.int 1000000000000000000000000000000 tk_MOST)))
    (zc_MOST_DEEP : PySem.W.nsIn K mainGlobals "MOST_DEEP" = some (some (.int 8 tk_MOST_DEEP)))
    (zc_MOST_ITEMS : PySem.W.nsIn K mainGlobals "MOST_ITEMS" = some (some (.int 50 tk_MOST_ITEMS)))
    (zc_MOST_SIGNS : PySem.W.nsIn K mainGlobals "MOST_SIGNS" = some (some (.int 40 tk_MOST_SIGNS)))
    (zc_MOST_WORTHS : PySem.W.nsIn K mainGlobals "MOST_WORTHS" = some (some (.int 200 tk_MOST_WORTHS)))
    : ∃ fd : FuncData, (∀ (s : Shared) (v : Value), BindsTo s fd ⟨[v], []⟩ [("script", v)]) ∧ ∀ base : Heap, K.In base → base.Ns mainGlobals mg → FnOk l.prog w K mg base CX0 6 fa fd ["script"] (spLaw K) := by
  have e := hfa.symm.trans (PySem.W.mg_of X G a14)
  cases e
  have T : Txt K mg := ⟨PySem.W.mg_none_of X G zb_abs, PySem.W.mg_none_of X G zb_all, PySem.W.mg_none_of X G zb_bool, PySem.W.mg_none_of X G zb_dict, PySem.W.mg_none_of X G zb_int, PySem.W.mg_none_of X G zb_isinstance, PySem.W.mg_none_of X G zb_len, PySem.W.mg_none_of X G zb_range, PySem.W.mg_none_of X G zb_str, PySem.W.mg_none_of X G zb_tuple, ⟨_, PySem.W.mg_of X G zc_MOST, _, rfl⟩, ⟨_, PySem.W.mg_of X G zc_MOST_DEEP, _, rfl⟩, ⟨_, PySem.W.mg_of X G zc_MOST_ITEMS, _, rfl⟩, ⟨_, PySem.W.mg_of X G zc_MOST_SIGNS, _, rfl⟩, ⟨_, PySem.W.mg_of X G zc_MOST_WORTHS, _, rfl⟩⟩
  refine ⟨PySem.W.fnOf "law" "law" (defArgs s_law) (defBody s_law) (defScope s_law) .none kV14 dc14 pm14 an14 cd14 ct14, fun s v => .of_eq rfl, fun base _ _ => ?_⟩
  have F0 := fun_mk (st := s_is_integer) l0 c0 k0
  have b0 := F0.binds (ps := ["thing"]) fun _ _ _ _ _ _ us hl => match us, hl with | [_], _ => rfl
  have C_is_integer : Cl l.prog w K mg base 1 "is_integer" _ := ⟨_, _, _, ok_is_integer F0 T, PySem.W.mg_of X G a0, k0, b0⟩
  have F1 := fun_mk (st := s_is_plain_worth) l1 c1 k1
  have b1 := F1.binds (ps := ["thing"]) fun _ _ _ _ _ _ us hl => match us, hl with | [_], _ => rfl
  have C_is_plain_worth : Cl l.prog w K mg base 2 "is_plain_worth" _ := ⟨_, _, _, ok_is_plain_worth F1 T C_is_integer, PySem.W.mg_of X G a1, k1, b1⟩
  have F2 := fun_mk (st := s_is_worth) l2 c2 k2
  have b2 := F2.binds (ps := ["thing"]) fun _ _ _ _ _ _ us hl => match us, hl with | [_], _ => rfl
  have C_is_worth : Cl l.prog w K mg base 3 "is_worth" _ := ⟨_, _, _, ok_is_worth F2 T C_is_plain_worth, PySem.W.mg_of X G a2, k2, b2⟩
  have F3 := fun_mk (st := s_law_pot) l3 c3 k3
  have b3 := F3.binds (ps := ["script"]) fun _ _ _ _ _ _ us hl => match us, hl with | [_], _ => rfl
  have C_law_pot : Cl l.prog w K mg base 1 "_law_pot" _ := ⟨_, _, _, ok_law_pot F3 T, PySem.W.mg_of X G a3, k3, b3⟩
  have F4 := fun_mk (st := s_law_draw) l4 c4 k4
  have b4 := F4.binds (ps := ["pot", "many"]) fun _ _ _ _ _ _ us hl => match us, hl with | [_, _], _ => rfl
  have C_law_draw : Cl l.prog w K mg base 1 "_law_draw" _ := ⟨_, _, _, ok_law_draw F4 T, PySem.W.mg_of X G a4, k4, b4⟩
  have F5 := fun_mk (st := s_law_any) l5 c5 k5
  have b5 := F5.binds (ps := ["pot", "things"]) fun _ _ _ _ _ _ us hl => match us, hl with | [_, _], _ => rfl
  have C_law_any : Cl l.prog w K mg base 2 "_law_any" _ := ⟨_, _, _, ok_law_any F5 T C_law_draw, PySem.W.mg_of X G a5, k5, b5⟩
  have F6 := fun_mk (st := s_law_worth) l6 c6 k6
  have b6 := F6.binds (ps := ["pot"]) fun _ _ _ _ _ _ us hl => match us, hl with | [_], _ => rfl
  have C_law_worth : Cl l.prog w K mg base 3 "_law_worth" _ := ⟨_, _, _, ok_law_worth F6 T C_law_any, PySem.W.mg_of X G a6, k6, b6⟩
  have F7 := fun_mk (st := s_law_deep_worth) l7 c7 k7
  have b7 := F7.binds (ps := ["pot", "deep"]) fun _ _ _ _ _ _ us hl => match us, hl with | [_, _], _ => rfl
  have C_law_deep_worth : Cl l.prog w K mg base 4 "_law_deep_worth" _ := ⟨_, _, _, ok_law_deep_worth F7 T C_law_draw C_law_worth, PySem.W.mg_of X G a7, k7, b7⟩
  have F8 := fun_mk (st := s_law_is_int) l8 c8 k8
  have b8 := F8.binds (ps := ["thing"]) fun _ _ _ _ _ _ us hl => match us, hl with | [_], _ => rfl
  have C_law_is_int : Cl l.prog w K mg base 1 "_law_is_int" _ := ⟨_, _, _, ok_law_is_int F8 T, PySem.W.mg_of X G a8, k8, b8⟩
  have F9 := fun_mk (st := s_law_is_worth) l9 c9 k9
  have b9 := F9.binds (ps := ["thing"]) fun _ _ _ _ _ _ us hl => match us, hl with | [_], _ => rfl
  have C_law_is_worth : Cl l.prog w K mg base 2 "_law_is_worth" _ := ⟨_, _, _, ok_law_is_worth F9 T C_law_is_int, PySem.W.mg_of X G a9, k9, b9⟩
  have F10 := fun_mk (st := s_law_odd) l10 c10 k10
  have b10 := F10.binds (ps := ["pot"]) fun _ _ _ _ _ _ us hl => match us, hl with | [_], _ => rfl
  have C_law_odd : Cl l.prog w K mg base 3 "_law_odd" _ := ⟨_, _, _, ok_law_odd F10 T C_law_draw C_law_any, PySem.W.mg_of X G a10, k10, b10⟩
  have F11 := fun_mk (st := s_law_of_many) l11 c11 k11
  have b11 := F11.binds (ps := ["many"]) fun _ _ _ _ _ _ us hl => match us, hl with | [_], _ => rfl
  have C_law_of_many : Cl l.prog w K mg base 1 "_law_of_many" _ := ⟨_, _, _, ok_law_of_many F11 T, PySem.W.mg_of X G a11, k11, b11⟩
  have F12 := fun_mk (st := s_law_edge) l12 c12 k12
  have b12 := F12.binds (ps := ["pot"]) fun _ _ _ _ _ _ us hl => match us, hl with | [_], _ => rfl
  have C_law_edge : Cl l.prog w K mg base 4 "_law_edge" _ := ⟨_, _, _, ok_law_edge F12 T C_law_draw C_law_any C_law_worth C_law_of_many, PySem.W.mg_of X G a12, k12, b12⟩
  have F13 := fun_mk (st := s_law_thing) l13 c13 k13
  have b13 := F13.binds (ps := ["pot"]) fun _ _ _ _ _ _ us hl => match us, hl with | [_], _ => rfl
  have C_law_thing : Cl l.prog w K mg base 5 "_law_thing" _ := ⟨_, _, _, ok_law_thing F13 T C_law_draw C_law_deep_worth C_law_odd C_law_edge, PySem.W.mg_of X G a13, k13, b13⟩
  exact ok_law (fun_mk (st := s_law) l14 c14 k14) T C_is_worth C_law_pot C_law_draw C_law_any C_law_worth C_law_is_worth C_law_thing
theorem walk {l : PySem.W.OpenLaw} {q : Program} {loose : List Str} {XP : (Str → Option Value) → Heap → Prop} {YP : World → Heap → Prop} {d : DefRec} {K : Params → PySem.W.Frag} (hn : l.most = some 63) (hdf : d.params.defaults = [])
    (hY : ∀ (w : World) (h : Heap), YP w h → (K w.params).In h)
    (F : ∀ (w : World) (mg : Str → Option Value) (fa : Addr) (h : Heap), (K w.params).In h → h.Ns mainGlobals mg → mg d.name = some (.ref fa) →
      ∃ fd : FuncData, (∀ (s : Shared) (u : Value), BindsTo s fd ⟨[u], []⟩ [("script", u)]) ∧ ∀ base : Heap, (K w.params).In base → base.Ns mainGlobals mg → FnOk l.prog w (K w.params) mg base CX0 6 fa fd ["script"] (spLaw (K w.params))) :
    PySem.W.WalkO q loose XP YP l.row.toRowW d [] (fun f vs => PySem.call f vs) :=
  L2.walk_of (n := 63) (k := 6) (x := "script") (CX := fun _ => CX0) (sp := fun w => spLaw (K w.params)) hn (by decide) hdf ⟨rfl, by decide, by decide⟩ hY F (fun _ _ a ns hl _ hS => ⟨a, ns, ⟨rfl, hS, hl⟩, fun _ => rfl⟩) fun _ _ _ _ _ z => z
end G
open PySem PySem.W PyProof.Rows in
set_option maxRecDepth 100000 in
set_option maxHeartbeats 0 in
theorem PySem.Challenge.cw_keptviews_k05_worths_judged_holds : PySem.Challenge.rw_keptviews_k05_worths_judged.Holds := by
  w_on; o_law; k_head; (case hw => w_witness2)
  k_fill
  refine G.walk (l := PySem.Challenge.rw_keptviews_k05_worths_judged) rfl rfl (fun w h Y => PySem.W.kIn_of Y) ?F
  case F =>
    intro w mg fa h KX GG hmg
    refine' G.all_mk KX GG hmg ?a0 ?l0 ?c0 ?k0 ?a1 ?l1 ?c1 ?k1 ?a2 ?l2 ?c2 ?k2 ?a3 ?l3 ?c3 ?k3 ?a4 ?l4 ?c4 ?k4 ?a5 ?l5 ?c5 ?k5 ?a6 ?l6 ?c6 ?k6 ?a7 ?l7 ?c7 ?k7 ?a8 ?l8 ?c8 ?k8 ?a9 ?l9 ?c9 ?k9 ?a10 ?l10 ?c10 ?k10 ?a11 ?l11 ?c11 ?k11 ?a12 ?l12 ?c12 ?k12 ?a13 ?l13 ?c13 ?k13 ?a14 ?l14 ?c14 ?k14 ?zb_abs ?zb_all ?zb_bool ?zb_dict ?zb_int ?zb_isinstance ?zb_len ?zb_range ?zb_str ?zb_tuple ?zc_MOST ?zc_MOST_DEEP ?zc_MOST_ITEMS ?zc_MOST_SIGNS ?zc_MOST_WORTHS
    (case a0 => k_is)
    (case l0 => k_is)
    (case c0 => k_is)
    (case k0 => k_is)
    (case a1 => k_is)
    (case l1 => k_is)
    (case c1 => k_is)
    (case k1 => k_is)
    (case a2 => k_is)
    (case l2 => k_is)
    (case c2 => k_is)
    (case k2 => k_is)
    (case a3 => k_is)
    (case l3 => k_is)
    (case c3 => k_is)
    (case k3 => k_is)
    (case a4 => k_is)
    (case l4 => k_is)
    (case c4 => k_is)
    (case k4 => k_is)
    (case a5 => k_is)
    (case l5 => k_is)
    (case c5 => k_is)
    (case k5 => k_is)
    (case a6 => k_is)
    (case l6 => k_is)
    (case c6 => k_is)
    (case k6 => k_is)
    (case a7 => k_is)
    (case l7 => k_is)
    (case c7 => k_is)
    (case k7 => k_is)
    (case a8 => k_is)
    (case l8 => k_is)
    (case c8 => k_is)
    (case k8 => k_is)
    (case a9 => k_is)
    (case l9 => k_is)
    (case c9 => k_is)
    (case k9 => k_is)
    (case a10 => k_is)
    (case l10 => k_is)
    (case c10 => k_is)
    (case k10 => k_is)
    (case a11 => k_is)
    (case l11 => k_is)
    (case c11 => k_is)
    (case k11 => k_is)
    (case a12 => k_is)
    (case l12 => k_is)
    (case c12 => k_is)
    (case k12 => k_is)
    (case a13 => k_is)
    (case l13 => k_is)
    (case c13 => k_is)
    (case k13 => k_is)
    (case a14 => k_is)
    (case l14 => k_is)
    (case c14 => k_is)
    (case k14 => k_is)
    (case zb_abs => k_is)
    (case zb_all => k_is)
    (case zb_bool => k_is)
    (case zb_dict => k_is)
    (case zb_int => k_is)
    (case zb_isinstance => k_is)
    (case zb_len => k_is)
    (case zb_range => k_is)
    (case zb_str => k_is)
    (case zb_tuple => k_is)
    (case zc_MOST => k_is)
    (case zc_MOST_DEEP => k_is)
    (case zc_MOST_ITEMS => k_is)
    (case zc_MOST_SIGNS => k_is)
    (case zc_MOST_WORTHS => k_is)
